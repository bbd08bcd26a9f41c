import PyProof.Rows.All
import Wide.All
import OpenK.AllK
import Wide.FinOn
import HandS.ForMost
import HandS.Evl
import HandS.TupAny
import HandS.TupMul
import HandS.Zip
import HandS.IsInst
import HandS.Deep
import HandS.Style
import KE.SortData
import KE.KExcSuper
import HandS.Exc
import HandS.WordsExc
import HandS.Conv
import HandS.More
import KE.KDictDisplayH
import HandS.Iter
import HandS.ExcIs
import HandS.Lambda
import KE.KStateDown
import HandS.Head0
import HandS.Head1
import HandS.Head2
import HandS.HeadHook1
import HandS.HeadHook2
import HandS.HeadHook3
import HandS.HeadHook4
import HandS.HeadWalk
import PySem.Challenge.RW_everydeed_k13_refusals_of_siphons_and_tr
set_option linter.all false
/-! KM: the mirror, in plain Lean. Lots are ascending lists of places. -/
namespace K13
structure NetD where
  places : Nat
  deeds : List (List Nat × List Nat)
def touches (lot places : List Nat) : Bool := places.any fun p => lot.contains p
def keepsTrap (ds : List (List Nat × List Nat)) (lot : List Nat) : Bool := ds.all fun d => touches lot d.2 || !touches lot d.1
def keepsSiphon (ds : List (List Nat × List Nat)) (lot : List Nat) : Bool := ds.all fun d => touches lot d.1 || !touches lot d.2
def badIns (ds : List (List Nat × List Nat)) (lot : List Nat) : List (List Nat) := (ds.filter fun d => touches lot d.1 && !touches lot d.2).map (·.1)
def stepTrap (ds : List (List Nat × List Nat)) (lot : List Nat) : List Nat := lot.filter fun p => !((badIns ds lot).headD []).contains p
def trapFuel (ds : List (List Nat × List Nat)) : Nat → List Nat → List Nat
  | 0, lot => lot
  | n + 1, lot => if keepsTrap ds lot = true then lot else trapFuel ds n (stepTrap ds lot)
/-- the greatest trap within a lot -/
def trapIn (ds : List (List Nat × List Nat)) (lot : List Nat) : List Nat := trapFuel ds lot.length lot
def isMarked (lot st : List Nat) : Bool := lot.any fun p => decide (0 < st.getD p 0)
/-- all lots, as both programs make them, the empty one first -/
def lotsP : Nat → List (List Nat)
  | 0 => [[]]
  | n + 1 => lotsP n ++ (lotsP n).map fun l => l ++ [n]
def leLot (a b : List Nat) : Bool := decide (a ≤ b)
def leLen (a b : List Nat) : Bool := decide (a.length < b.length) || (decide (a.length = b.length) && leLot a b)
def allLots (p : Nat) : List (List Nat) := ((lotsP p).mergeSort leLen).drop 1
def within (a b : List Nat) : Bool := a.all fun p => b.contains p
def leastStep (found : List (List Nat)) (lot : List Nat) : List (List Nat) := if (found.any fun less => within less lot) = true then found else found ++ [lot]
def leastOf (lots : List (List Nat)) : List (List Nat) := (lots.foldl leastStep []).mergeSort leLot
def siphonsOf (n : NetD) : List (List Nat) := leastOf ((allLots n.places).filter fun l => keepsSiphon n.deeds l)
/-- the nets that the law draws -/
structure NetOk (n : NetD) : Prop where
  places : n.places ≤ 10
  deeds : n.deeds.length ≤ 10
  ins : ∀ d, d ∈ n.deeds → d.1.length ≤ 10 ∧ d.1 ≠ [] ∧ ∀ p, p ∈ d.1 → p < n.places
  outs : ∀ d, d ∈ n.deeds → d.2.length ≤ 10 ∧ ∀ p, p ∈ d.2 → p < n.places
theorem bad_some {ds : List (List Nat × List Nat)} {lot : List Nat} (h : keepsTrap ds lot = false) : ∃ d, d ∈ ds ∧ (badIns ds lot)[0]? = some d.1 ∧ touches lot d.1 = true ∧ touches lot d.2 = false := by
  unfold keepsTrap at h
  unfold badIns
  induction ds with
  | nil => cases h
  | cons d r ih =>
    rw [List.filter_cons]
    cases h1 : touches lot d.1 <;> cases h2 : touches lot d.2
    · rw [List.all_cons, h1, h2] at h
      obtain ⟨e, he, h3⟩ := ih h
      exact ⟨e, List.mem_cons_of_mem _ he, h3⟩
    · rw [List.all_cons, h1, h2] at h
      obtain ⟨e, he, h3⟩ := ih h
      exact ⟨e, List.mem_cons_of_mem _ he, h3⟩
    · exact ⟨d, List.mem_cons_self, rfl, h1, h2⟩
    · rw [List.all_cons, h1, h2] at h
      obtain ⟨e, he, h3⟩ := ih h
      exact ⟨e, List.mem_cons_of_mem _ he, h3⟩
theorem step_less {ds : List (List Nat × List Nat)} {lot : List Nat} (h : keepsTrap ds lot = false) : (stepTrap ds lot).length < lot.length := by
  obtain ⟨d, hd, h1, h2, h3⟩ := bad_some h
  have e : (badIns ds lot).headD [] = d.1 := by
    cases q : badIns ds lot with
    | nil =>
      rw [q] at h1
      cases h1
    | cons a r =>
      rw [q] at h1
      exact Option.some.inj h1
  unfold stepTrap
  rw [e]
  obtain ⟨p, hp, hl⟩ := List.any_eq_true.mp h2
  have hm : p ∈ lot := by simpa using hl
  have hc : (!d.1.contains p) = false := by
    have : d.1.contains p = true := by simpa using hp
    rw [this]
    rfl
  have key : ∀ l : List Nat, p ∈ l → (l.filter fun p => !d.1.contains p).length < l.length := by
    intro l
    induction l with
    | nil =>
      intro z
      cases z
    | cons a r ih =>
      intro z
      rw [List.filter_cons]
      by_cases hap : a = p
      · subst hap
        rw [hc]
        have := List.length_filter_le (fun p => !d.1.contains p) r
        simp only [Bool.false_eq_true, if_false, List.length_cons]
        omega
      · have hr : p ∈ r := by
          rcases List.mem_cons.mp z with z | z
          · exact absurd z.symm hap
          · exact z
        have := ih hr
        split
        · simp only [List.length_cons]
          omega
        · simp only [List.length_cons]
          omega
  exact key lot hm
theorem trapFuel_eq {ds : List (List Nat × List Nat)} : ∀ (n m : Nat) (lot : List Nat), lot.length ≤ n → lot.length ≤ m → trapFuel ds n lot = trapFuel ds m lot
  | 0, 0, _, _, _ => rfl
  | 0, m + 1, lot, h, _ => by
    have e : lot = [] := List.eq_nil_of_length_eq_zero (by omega)
    subst e
    show [] = if keepsTrap ds [] = true then [] else trapFuel ds m (stepTrap ds [])
    cases hk : keepsTrap ds [] with
    | true => rfl
    | false => exact absurd (step_less hk) (Nat.not_lt_zero _)
  | n + 1, 0, lot, _, h => by
    have e : lot = [] := List.eq_nil_of_length_eq_zero (by omega)
    subst e
    show (if keepsTrap ds [] = true then [] else trapFuel ds n (stepTrap ds [])) = []
    cases hk : keepsTrap ds [] with
    | true => rfl
    | false => exact absurd (step_less hk) (Nat.not_lt_zero _)
  | n + 1, m + 1, lot, h1, h2 => by
    show (if keepsTrap ds lot = true then lot else trapFuel ds n (stepTrap ds lot)) = if keepsTrap ds lot = true then lot else trapFuel ds m (stepTrap ds lot)
    cases hk : keepsTrap ds lot with
    | true => rfl
    | false =>
      have := step_less hk
      exact trapFuel_eq n m _ (by omega) (by omega)
theorem trapIn_stop {ds : List (List Nat × List Nat)} {lot : List Nat} (h : keepsTrap ds lot = true) : trapIn ds lot = lot := by
  unfold trapIn
  cases e : lot.length with
  | zero => rfl
  | succ n =>
    show (if keepsTrap ds lot = true then lot else _) = lot
    rw [if_pos h]
theorem trapIn_step {ds : List (List Nat × List Nat)} {lot : List Nat} (h : keepsTrap ds lot = false) : trapIn ds lot = trapIn ds (stepTrap ds lot) := by
  unfold trapIn
  have hl := step_less h
  cases e : lot.length with
  | zero => omega
  | succ n =>
    show (if keepsTrap ds lot = true then lot else trapFuel ds n (stepTrap ds lot)) = _
    rw [if_neg (by rw [h]; exact Bool.false_ne_true)]
    exact trapFuel_eq _ _ _ (by omega) (Nat.le_refl _)
/-! ### the law's own -/
def lawAllLots (p : Nat) : List (List Nat) := ((lotsP p).drop 1).mergeSort leLot
def isSiphonOf (ds : List (List Nat × List Nat)) (lot : List Nat) : Bool := ds.all fun d => !(touches lot d.2 && !touches lot d.1)
def isTrapOf (ds : List (List Nat × List Nat)) (lot : List Nat) : Bool := ds.all fun d => !(touches lot d.1 && !touches lot d.2)
def lawLeast (lots : List (List Nat)) : List (List Nat) := lots.filter fun lot => !(lots.any fun other => !decide (other = lot) && within other lot)
def lawSiphons (n : NetD) : List (List Nat) := lawLeast ((lawAllLots n.places).filter fun l => isSiphonOf n.deeds l)
def joinStep (found lot : List Nat) : List Nat := found ++ lot.filter fun p => !found.contains p
def lawJoin (lots : List (List Nat)) : Option (List Nat) := if lots.foldl joinStep [] = [] then none else some ((lots.foldl joinStep []).mergeSort fun a b => decide (a ≤ b))
def lawTrapIn (n : NetD) (lot : List Nat) : Option (List Nat) := lawJoin ((lawAllLots n.places).filter fun one => within one lot && isTrapOf n.deeds one)
def bareB (n : NetD) (st lot : List Nat) : Bool := match lawTrapIn n lot with
  | none => true
  | some t => !isMarked t st
end K13

set_option linter.all false
/-! KM2: laws of the mirror: lots, least lots, traps. -/
namespace K13
def Asc (l : List Nat) : Prop := l.Pairwise (· < ·)
theorem leLot_trans (a b c : List Nat) : leLot a b = true → leLot b c = true → leLot a c = true := by
  unfold leLot
  simp only [decide_eq_true_eq]
  exact List.le_trans
theorem leLot_total (a b : List Nat) : (leLot a b || leLot b a) = true := by
  unfold leLot
  simp only [Bool.or_eq_true, decide_eq_true_eq]
  exact List.le_total a b
theorem leLot_anti {a b : List Nat} (h1 : leLot a b = true) (h2 : leLot b a = true) : a = b := by
  unfold leLot at h1 h2
  simp only [decide_eq_true_eq] at h1 h2
  exact List.le_antisymm h1 h2
theorem leLen_trans (a b c : List Nat) : leLen a b = true → leLen b c = true → leLen a c = true := by
  unfold leLen
  simp only [Bool.or_eq_true, Bool.and_eq_true, decide_eq_true_eq]
  rintro (h1 | ⟨h1, h2⟩) (h3 | ⟨h3, h4⟩)
  · exact .inl (by omega)
  · exact .inl (by omega)
  · exact .inl (by omega)
  · exact .inr ⟨by omega, leLot_trans a b c h2 h4⟩
theorem leLen_total (a b : List Nat) : (leLen a b || leLen b a) = true := by
  unfold leLen
  simp only [Bool.or_eq_true, Bool.and_eq_true, decide_eq_true_eq]
  have h := leLot_total a b
  simp only [Bool.or_eq_true] at h
  by_cases h1 : a.length < b.length
  · exact .inl (.inl h1)
  · by_cases h2 : b.length < a.length
    · exact .inr (.inl h2)
    · rcases h with h | h
      · exact .inl (.inr ⟨by omega, h⟩)
      · exact .inr (.inr ⟨by omega, h⟩)
theorem leLen_len {a b : List Nat} (h : leLen a b = true) : a.length ≤ b.length := by
  unfold leLen at h
  simp only [Bool.or_eq_true, Bool.and_eq_true, decide_eq_true_eq] at h
  omega
/-! ### all lots -/
theorem lotsP_length : ∀ p, (lotsP p).length = 2 ^ p
  | 0 => rfl
  | p + 1 => by
    show (lotsP p ++ (lotsP p).map fun l => l ++ [p]).length = _
    rw [List.length_append, List.length_map, lotsP_length p]
    omega
theorem mem_lotsP : ∀ (p : Nat) (l : List Nat), l ∈ lotsP p ↔ Asc l ∧ ∀ x, x ∈ l → x < p
  | 0, l => by
    show l ∈ [[]] ↔ _
    rw [List.mem_singleton]
    constructor
    · rintro rfl
      exact ⟨.nil, fun x hx => absurd hx (by simp)⟩
    · rintro ⟨h1, h2⟩
      cases l with
      | nil => rfl
      | cons a r => exact absurd (h2 a List.mem_cons_self) (Nat.not_lt_zero _)
  | p + 1, l => by
    show l ∈ lotsP p ++ (lotsP p).map (fun l => l ++ [p]) ↔ _
    rw [List.mem_append, List.mem_map, mem_lotsP p l]
    constructor
    · rintro (⟨h1, h2⟩ | ⟨m, hm, rfl⟩)
      · exact ⟨h1, fun x hx => Nat.lt_succ_of_lt (h2 x hx)⟩
      · obtain ⟨h1, h2⟩ := (mem_lotsP p m).mp hm
        refine ⟨List.pairwise_append.mpr ⟨h1, List.pairwise_singleton _ _, fun a ha b hb => ?_⟩, fun x hx => ?_⟩
        · rw [List.mem_singleton] at hb
          subst hb
          exact h2 a ha
        · rcases List.mem_append.mp hx with z | z
          · exact Nat.lt_succ_of_lt (h2 x z)
          · rw [List.mem_singleton] at z
            omega
    · rintro ⟨h1, h2⟩
      by_cases hp : p ∈ l
      · refine .inr ⟨l.dropLast, ?_, ?_⟩
        · have hne : l ≠ [] := List.ne_nil_of_mem hp
          have hd : l.dropLast ++ [l.getLast hne] = l := List.dropLast_concat_getLast hne
          have h3 : Asc (l.dropLast ++ [l.getLast hne]) := by rw [hd]; exact h1
          obtain ⟨a1, a2, a3⟩ := List.pairwise_append.mp h3
          rw [mem_lotsP p]
          refine ⟨a1, fun x hx => ?_⟩
          have q1 := a3 x hx _ (List.mem_singleton_self _)
          have q2 := h2 _ (List.getLast_mem hne)
          omega
        · have hne : l ≠ [] := List.ne_nil_of_mem hp
          have hd : l.dropLast ++ [l.getLast hne] = l := List.dropLast_concat_getLast hne
          have h3 : Asc (l.dropLast ++ [l.getLast hne]) := by rw [hd]; exact h1
          obtain ⟨a1, a2, a3⟩ := List.pairwise_append.mp h3
          have q : l.getLast hne = p := by
            have q2 := h2 _ (List.getLast_mem hne)
            have hp2 : p ∈ l.dropLast ++ [l.getLast hne] := by rw [hd]; exact hp
            rcases List.mem_append.mp hp2 with z | z
            · have := a3 p z _ (List.mem_singleton_self _)
              omega
            · exact (List.mem_singleton.mp z).symm
          rw [q] at hd
          exact hd
      · refine .inl ⟨h1, fun x hx => ?_⟩
        have := h2 x hx
        have ne : x ≠ p := fun z => hp (by rw [← z]; exact hx)
        omega
theorem lotsP_nodup : ∀ p, (lotsP p).Nodup
  | 0 => List.nodup_cons.mpr ⟨by simp, .nil⟩
  | p + 1 => by
    show (lotsP p ++ (lotsP p).map fun l => l ++ [p]).Nodup
    refine List.nodup_append.mpr ⟨lotsP_nodup p, ?_, fun a ha b hb => ?_⟩
    · refine List.Pairwise.map _ (fun a b h z => h ?_) (lotsP_nodup p)
      exact List.append_cancel_right z
    · rintro rfl
      obtain ⟨m, hm, e⟩ := List.mem_map.mp hb
      have := ((mem_lotsP p a).mp ha).2 p (by rw [← e]; exact List.mem_append_right _ (List.mem_singleton_self _))
      omega
theorem lotsP_head : ∀ p, lotsP p = [] :: (lotsP p).drop 1
  | 0 => rfl
  | p + 1 => by
    show lotsP p ++ (lotsP p).map (fun l => l ++ [p]) = _ :: (lotsP p ++ (lotsP p).map (fun l => l ++ [p])).drop 1
    have h := lotsP_head p
    generalize (lotsP p).map (fun l => l ++ [p]) = r at *
    rw [h]
    rfl
/-- a lot of p places -/
def LotP (p : Nat) (l : List Nat) : Prop := (Asc l ∧ ∀ x, x ∈ l → x < p) ∧ l ≠ []
theorem mem_drop (p : Nat) (l : List Nat) : l ∈ (lotsP p).drop 1 ↔ LotP p l := by
  unfold LotP
  rw [← mem_lotsP p l]
  have h := lotsP_head p
  have hn := lotsP_nodup p
  generalize (lotsP p).drop 1 = r at *
  rw [h] at hn ⊢
  rw [List.nodup_cons] at hn
  constructor
  · intro hl
    exact ⟨List.mem_cons_of_mem _ hl, fun z => hn.1 (by rw [← z]; exact hl)⟩
  · rintro ⟨h1, h2⟩
    rcases List.mem_cons.mp h1 with z | z
    · exact absurd z h2
    · exact z
theorem drop_nodup (p : Nat) : ((lotsP p).drop 1).Nodup := (lotsP_nodup p).sublist (List.drop_sublist _ _)
theorem allLots_perm (p : Nat) : (allLots p).Perm ((lotsP p).drop 1) ∧ (allLots p).Pairwise fun a b => leLen a b = true := by
  unfold allLots
  have h1 : ((lotsP p).mergeSort leLen).Perm (lotsP p) := List.mergeSort_perm _ _
  have h2 := List.pairwise_mergeSort leLen_trans leLen_total (lotsP p)
  have h3 := lotsP_head p
  generalize (lotsP p).mergeSort leLen = s at *
  cases s with
  | nil =>
    rw [h3] at h1
    exact absurd h1.length_eq (by simp)
  | cons a r =>
    have ha : a = [] := by
      have hm : ([] : List Nat) ∈ a :: r := h1.mem_iff.mpr (by rw [h3]; exact List.mem_cons_self)
      rcases List.mem_cons.mp hm with z | z
      · exact z.symm
      · have q := leLen_len ((List.pairwise_cons.mp h2).1 _ z)
        exact List.eq_nil_of_length_eq_zero (by simpa using q)
    subst ha
    rw [h3] at h1
    exact ⟨(List.perm_cons _).mp h1, (List.pairwise_cons.mp h2).2⟩
theorem mem_allLots (p : Nat) (l : List Nat) : l ∈ allLots p ↔ LotP p l := by rw [(allLots_perm p).1.mem_iff, mem_drop]
theorem lawAll_perm (p : Nat) : (lawAllLots p).Perm ((lotsP p).drop 1) := List.mergeSort_perm _ _
theorem mem_lawAll (p : Nat) (l : List Nat) : l ∈ lawAllLots p ↔ LotP p l := by rw [(lawAll_perm p).mem_iff, mem_drop]
theorem lawAll_sorted (p : Nat) : (lawAllLots p).Pairwise fun a b => leLot a b = true := List.pairwise_mergeSort leLot_trans leLot_total _
theorem lawAll_nodup (p : Nat) : (lawAllLots p).Nodup := (lawAll_perm p).nodup_iff.mpr (drop_nodup p)
theorem allLots_nodup (p : Nat) : (allLots p).Nodup := (allLots_perm p).1.nodup_iff.mpr (drop_nodup p)
theorem lawAll_length (p : Nat) : (lawAllLots p).length = 2 ^ p - 1 := by rw [(lawAll_perm p).length_eq, List.length_drop, lotsP_length]
theorem allLots_length (p : Nat) : (allLots p).length = 2 ^ p - 1 := by rw [(allLots_perm p).1.length_eq, List.length_drop, lotsP_length]
theorem asc_nodup {l : List Nat} (h : Asc l) : l.Nodup := h.imp fun h => Nat.ne_of_lt h
theorem within_iff {a b : List Nat} : within a b = true ↔ ∀ x, x ∈ a → x ∈ b := by
  unfold within
  rw [List.all_eq_true]
  simp
theorem asc_sublist : ∀ {b a : List Nat}, Asc a → Asc b → (∀ x, x ∈ a → x ∈ b) → a.Sublist b
  | [], [], _, _, _ => .slnil
  | [], x :: as, _, _, h => absurd (h x List.mem_cons_self) (by simp)
  | y :: bs, [], _, _, _ => List.nil_sublist _
  | y :: bs, x :: as, ha, hb, h => by
    obtain ⟨a1, a2⟩ := List.pairwise_cons.mp ha
    obtain ⟨b1, b2⟩ := List.pairwise_cons.mp hb
    by_cases e : x = y
    · subst e
      refine (asc_sublist a2 b2 fun z hz => ?_).cons_cons x
      have q := a1 z hz
      rcases List.mem_cons.mp (h z (List.mem_cons_of_mem _ hz)) with w | w
      · omega
      · exact w
    · refine (asc_sublist ha b2 fun z hz => ?_).cons y
      have hx : x ∈ bs := (List.mem_cons.mp (h x List.mem_cons_self)).resolve_left e
      have q := b1 x hx
      rcases List.mem_cons.mp (h z hz) with w | w
      · rcases List.mem_cons.mp hz with v | v
        · omega
        · have := a1 z v
          omega
      · exact w
theorem within_len {a b : List Nat} (ha : Asc a) (hb : Asc b) (h : within a b = true) : a.length ≤ b.length := (asc_sublist ha hb (within_iff.mp h)).length_le
/-- ascending lists with the same members -/
theorem asc_ext {a b : List Nat} (ha : Asc a) (hb : Asc b) (h : ∀ x, x ∈ a ↔ x ∈ b) : a = b :=
  List.Perm.eq_of_pairwise (le := (· < ·)) (fun x y _ _ h1 h2 => absurd h1 (Nat.lt_asymm h2)) ha hb ((List.perm_ext_iff_of_nodup (asc_nodup ha) (asc_nodup hb)).mpr h)
theorem within_strict {a b : List Nat} (ha : Asc a) (hb : Asc b) (h : within a b = true) (ne : a ≠ b) : a.length < b.length := by
  have hs := asc_sublist ha hb (within_iff.mp h)
  have h1 := hs.length_le
  by_cases e : a.length = b.length
  · exact absurd (hs.eq_of_length e) ne
  · omega
theorem lotP_len {p : Nat} {l : List Nat} (h : LotP p l) : l.length ≤ p := by
  have : within l (List.range p) = true := within_iff.mpr fun x hx => List.mem_range.mpr (h.1.2 x hx)
  have q := within_len h.1.1 List.pairwise_lt_range this
  rwa [List.length_range] at q
/-! ### least lots -/
theorem keeps_eq (ds : List (List Nat × List Nat)) (lot : List Nat) : isSiphonOf ds lot = keepsSiphon ds lot := by
  unfold isSiphonOf keepsSiphon
  refine congrArg (fun f => ds.all f) (funext fun d => ?_)
  cases touches lot d.1 <;> cases touches lot d.2 <;> rfl
theorem keepsT_eq (ds : List (List Nat × List Nat)) (lot : List Nat) : isTrapOf ds lot = keepsTrap ds lot := by
  unfold isTrapOf keepsTrap
  refine congrArg (fun f => ds.all f) (funext fun d => ?_)
  cases touches lot d.1 <;> cases touches lot d.2 <;> rfl
def minB (L : List (List Nat)) (lot : List Nat) : Bool := !(L.any fun other => !decide (other = lot) && within other lot)
theorem minB_false {L : List (List Nat)} {lot : List Nat} : minB L lot = false ↔ ∃ m, m ∈ L ∧ m ≠ lot ∧ within m lot = true := by
  unfold minB
  rw [Bool.not_eq_false', List.any_eq_true]
  simp
theorem min_below {L : List (List Nat)} (hL : ∀ l, l ∈ L → Asc l) : ∀ (n : Nat) (l : List Nat), l.length ≤ n → Asc l → minB L l = false → ∃ m, m ∈ L ∧ m ≠ l ∧ within m l = true ∧ minB L m = true
  | 0, l, hn, hl, h => by
    obtain ⟨m, hm, ne, hw⟩ := minB_false.mp h
    have := within_strict (hL m hm) hl hw ne
    omega
  | n + 1, l, hn, hl, h => by
    obtain ⟨m, hm, ne, hw⟩ := minB_false.mp h
    have hlt := within_strict (hL m hm) hl hw ne
    cases q : minB L m with
    | true => exact ⟨m, hm, ne, hw, q⟩
    | false =>
      obtain ⟨k, hk, ne2, hw2, hq⟩ := min_below hL n m (by omega) (hL m hm) q
      have hlt2 := within_strict (hL k hk) (hL m hm) hw2 ne2
      exact ⟨k, hk, fun z => by rw [z] at hlt2; omega, within_iff.mpr fun x hx => within_iff.mp hw x (within_iff.mp hw2 x hx), hq⟩
theorem fold_least {L : List (List Nat)} (hL : ∀ l, l ∈ L → Asc l) (hs : L.Pairwise fun a b => leLen a b = true) (hn : L.Nodup) : ∀ (P R : List (List Nat)), L = P ++ R → R.foldl leastStep (P.filter (minB L)) = L.filter (minB L)
  | P, [], e => by
    rw [List.append_nil] at e
    show P.filter (minB L) = _
    rw [e]
  | P, l :: R, e => by
    have hl : l ∈ L := by rw [e]; exact List.mem_append_right _ List.mem_cons_self
    have key : ((P.filter (minB L)).any fun less => within less l) = !minB L l := by
      rw [Bool.eq_iff_iff, List.any_eq_true, Bool.not_eq_true']
      constructor
      · rintro ⟨m, hm, hw⟩
        obtain ⟨hmP, _⟩ := List.mem_filter.mp hm
        refine minB_false.mpr ⟨m, by rw [e]; exact List.mem_append_left _ hmP, fun z => ?_, hw⟩
        rw [e] at hn
        exact (List.nodup_append.mp hn).2.2 m hmP l List.mem_cons_self z
      · intro h
        obtain ⟨m, hm, ne, hw, hq⟩ := min_below hL _ l (Nat.le_refl _) (hL l hl) h
        refine ⟨m, List.mem_filter.mpr ⟨?_, hq⟩, hw⟩
        have hlt := within_strict (hL m hm) (hL l hl) hw ne
        rw [e] at hm
        rcases List.mem_append.mp hm with z | z
        · exact z
        · rcases List.mem_cons.mp z with z | z
          · exact absurd z ne
          · rw [e] at hs
            have q := leLen_len ((List.pairwise_cons.mp (List.pairwise_append.mp hs).2.1).1 m z)
            omega
    have step : leastStep (P.filter (minB L)) l = (P ++ [l]).filter (minB L) := by
      unfold leastStep
      rw [key, List.filter_append, List.filter_cons]
      cases minB L l <;> simp
    show R.foldl leastStep (leastStep (P.filter (minB L)) l) = _
    rw [step]
    exact fold_least hL hs hn (P ++ [l]) R (by rw [e, List.append_assoc]; rfl)
theorem minB_perm {L M : List (List Nat)} (h : L.Perm M) : minB L = minB M := by
  funext l
  unfold minB
  rw [h.any_eq]
theorem siphons_eq (n : NetD) : lawSiphons n = siphonsOf n := by
  unfold lawSiphons siphonsOf leastOf
  have e1 : ((lawAllLots n.places).filter fun l => isSiphonOf n.deeds l) = (lawAllLots n.places).filter fun l => keepsSiphon n.deeds l := congrArg (fun f => List.filter f (lawAllLots n.places)) (funext fun l => keeps_eq _ _)
  rw [e1]
  have hp : ((allLots n.places).filter fun l => keepsSiphon n.deeds l).Perm ((lawAllLots n.places).filter fun l => keepsSiphon n.deeds l) := ((allLots_perm n.places).1.trans (lawAll_perm n.places).symm).filter _
  have hA : ∀ l, l ∈ (allLots n.places).filter (fun l => keepsSiphon n.deeds l) → Asc l := fun l hl => ((mem_allLots _ _).mp (List.mem_filter.mp hl).1).1.1
  have hS : ((allLots n.places).filter fun l => keepsSiphon n.deeds l).Pairwise fun a b => leLen a b = true := (allLots_perm _).2.filter _
  have hN : ((allLots n.places).filter fun l => keepsSiphon n.deeds l).Nodup := (allLots_nodup _).filter _
  have hB : ((lawAllLots n.places).filter fun l => keepsSiphon n.deeds l).Pairwise fun a b => leLot a b = true := (lawAll_sorted _).filter _
  generalize (allLots n.places).filter (fun l => keepsSiphon n.deeds l) = A at *
  generalize (lawAllLots n.places).filter (fun l => keepsSiphon n.deeds l) = B at *
  have f := fold_least hA hS hN [] A rfl
  have f2 : A.foldl leastStep [] = A.filter (minB A) := f
  rw [f2, minB_perm hp]
  show B.filter (minB B) = _
  refine List.Perm.eq_of_pairwise (le := fun a b => leLot a b = true) (fun a b _ _ h1 h2 => leLot_anti h1 h2) (hB.filter _) (List.pairwise_mergeSort leLot_trans leLot_total _) ?_
  exact ((hp.filter _).symm).trans (List.mergeSort_perm _ _).symm
theorem mem_siphons {n : NetD} {l : List Nat} (h : l ∈ siphonsOf n) : LotP n.places l ∧ keepsSiphon n.deeds l = true := by
  rw [← siphons_eq] at h
  unfold lawSiphons lawLeast at h
  obtain ⟨h1, h2⟩ := List.mem_filter.mp (List.mem_filter.mp h).1
  rw [keeps_eq] at h2
  exact ⟨(mem_lawAll _ _).mp h1, h2⟩
/-! ### traps -/
theorem touches_iff {lot ps : List Nat} : touches lot ps = true ↔ ∃ x, x ∈ ps ∧ x ∈ lot := by
  unfold touches
  rw [List.any_eq_true]
  simp
theorem trapIn_ind {ds : List (List Nat × List Nat)} {C : List Nat → Prop} (hs : ∀ l, keepsTrap ds l = false → C l → C (stepTrap ds l)) : ∀ (k : Nat) (l : List Nat), l.length ≤ k → C l → C (trapIn ds l) ∧ keepsTrap ds (trapIn ds l) = true
  | k, l, hk, hl => by
    cases h : keepsTrap ds l with
    | true =>
      rw [trapIn_stop h]
      exact ⟨hl, h⟩
    | false =>
      rw [trapIn_step h]
      have hless := step_less h
      cases k with
      | zero => omega
      | succ k => exact trapIn_ind hs k _ (by omega) (hs l h hl)
theorem bad_head {ds : List (List Nat × List Nat)} {lot : List Nat} (h : keepsTrap ds lot = false) : ∃ d, d ∈ ds ∧ (badIns ds lot).headD [] = d.1 ∧ touches lot d.1 = true ∧ touches lot d.2 = false := by
  obtain ⟨d, hd, h1, h2, h3⟩ := bad_some h
  refine ⟨d, hd, ?_, h2, h3⟩
  cases q : badIns ds lot with
  | nil =>
    rw [q] at h1
    cases h1
  | cons a r =>
    rw [q] at h1
    exact Option.some.inj h1
theorem trapIn_sub (ds : List (List Nat × List Nat)) (l : List Nat) : (trapIn ds l).Sublist l := by
  refine (trapIn_ind (C := fun m => m.Sublist l) (fun m hm hs => ?_) _ l (Nat.le_refl _) (List.Sublist.refl _)).1
  unfold stepTrap
  exact List.filter_sublist.trans hs
theorem trapIn_keeps (ds : List (List Nat × List Nat)) (l : List Nat) : keepsTrap ds (trapIn ds l) = true := (trapIn_ind (C := fun _ => True) (fun _ _ _ => True.intro) _ l (Nat.le_refl _) True.intro).2
theorem trapIn_max {ds : List (List Nat × List Nat)} {l t : List Nat} (ht : keepsTrap ds t = true) (hw : within t l = true) : within t (trapIn ds l) = true := by
  refine (trapIn_ind (C := fun m => within t m = true) (fun m hm hs => ?_) _ l (Nat.le_refl _) hw).1
  obtain ⟨d, hd, e, h1, h2⟩ := bad_head hm
  refine within_iff.mpr fun x hx => ?_
  have hxm := within_iff.mp hs x hx
  unfold stepTrap
  rw [e]
  refine List.mem_filter.mpr ⟨hxm, ?_⟩
  cases q : d.1.contains x with
  | false => rfl
  | true =>
    exfalso
    have q2 : x ∈ d.1 := by simpa using q
    have hk : (touches t d.2 || !touches t d.1) = true := List.all_eq_true.mp ht d hd
    have t1 : touches t d.1 = true := touches_iff.mpr ⟨x, q2, hx⟩
    rw [t1] at hk
    have t2 : touches t d.2 = true := by simpa using hk
    obtain ⟨y, hy1, hy2⟩ := touches_iff.mp t2
    have : touches m d.2 = true := touches_iff.mpr ⟨y, hy1, within_iff.mp hs y hy2⟩
    rw [h2] at this
    cases this
theorem mem_joinStep {found lot : List Nat} {x : Nat} : x ∈ joinStep found lot ↔ x ∈ found ∨ x ∈ lot := by
  unfold joinStep
  rw [List.mem_append, List.mem_filter]
  constructor
  · rintro (h | h)
    · exact .inl h
    · exact .inr h.1
  · rintro (h | h)
    · exact .inl h
    · by_cases q : x ∈ found
      · exact .inl q
      · exact .inr ⟨h, by simpa using q⟩
theorem mem_joinFold {x : Nat} : ∀ {lots : List (List Nat)} {found : List Nat}, x ∈ lots.foldl joinStep found ↔ x ∈ found ∨ ∃ l, l ∈ lots ∧ x ∈ l
  | [], found => by simp
  | l :: r, found => by
    rw [List.foldl_cons, mem_joinFold, mem_joinStep]
    constructor
    · rintro ((h | h) | ⟨m, hm, hx⟩)
      · exact .inl h
      · exact .inr ⟨l, List.mem_cons_self, h⟩
      · exact .inr ⟨m, List.mem_cons_of_mem _ hm, hx⟩
    · rintro (h | ⟨m, hm, hx⟩)
      · exact .inl (.inl h)
      · rcases List.mem_cons.mp hm with z | z
        · rw [z] at hx
          exact .inl (.inr hx)
        · exact .inr ⟨m, z, hx⟩
theorem nodup_joinStep {found lot : List Nat} (h1 : found.Nodup) (h2 : lot.Nodup) : (joinStep found lot).Nodup := by
  unfold joinStep
  refine List.nodup_append.mpr ⟨h1, h2.filter _, fun a ha b hb => ?_⟩
  rintro rfl
  have := (List.mem_filter.mp hb).2
  simp [ha] at this
theorem nodup_joinFold : ∀ {lots : List (List Nat)} {found : List Nat}, (∀ l, l ∈ lots → l.Nodup) → found.Nodup → (lots.foldl joinStep found).Nodup
  | [], _, _, h => h
  | l :: r, found, hl, h => nodup_joinFold (lots := r) (found := joinStep found l) (fun m hm => hl m (List.mem_cons_of_mem _ hm)) (nodup_joinStep h (hl l List.mem_cons_self))
theorem sortNat_asc {l : List Nat} (h : l.Nodup) : Asc (l.mergeSort fun a b => decide (a ≤ b)) := by
  have h1 := List.pairwise_mergeSort (le := fun a b : Nat => decide (a ≤ b)) (fun a b c h1 h2 => by simp only [decide_eq_true_eq] at *; omega) (fun a b => by simp only [Bool.or_eq_true, decide_eq_true_eq]; omega) l
  have h2 : (l.mergeSort fun a b => decide (a ≤ b)).Nodup := (List.mergeSort_perm _ _).nodup_iff.mpr h
  refine (List.pairwise_and_iff.mpr ⟨h1, h2⟩).imp fun ⟨a, b⟩ => ?_
  simp only [decide_eq_true_eq] at a
  omega
theorem lawTrapIn_eq {n : NetD} {l : List Nat} (hl : LotP n.places l) : lawTrapIn n l = if trapIn n.deeds l = [] then none else some (trapIn n.deeds l) := by
  have hsub := trapIn_sub n.deeds l
  have hasc : Asc (trapIn n.deeds l) := hl.1.1.sublist hsub
  have hmem : ∀ x, x ∈ (((lawAllLots n.places).filter fun one => within one l && isTrapOf n.deeds one).foldl joinStep []) ↔ x ∈ trapIn n.deeds l := fun x => by
    rw [mem_joinFold]
    constructor
    · rintro (h | ⟨m, hm, hx⟩)
      · cases h
      · have h2 := (List.mem_filter.mp hm).2
        rw [Bool.and_eq_true, keepsT_eq] at h2
        exact within_iff.mp (trapIn_max h2.2 h2.1) x hx
    · intro hx
      refine .inr ⟨_, List.mem_filter.mpr ⟨(mem_lawAll _ _).mpr ⟨⟨hasc, fun y hy => hl.1.2 y (hsub.subset hy)⟩, List.ne_nil_of_mem hx⟩, ?_⟩, hx⟩
      rw [Bool.and_eq_true, keepsT_eq]
      exact ⟨within_iff.mpr fun y hy => hsub.subset hy, trapIn_keeps _ _⟩
  have hnd : (((lawAllLots n.places).filter fun one => within one l && isTrapOf n.deeds one).foldl joinStep []).Nodup := nodup_joinFold (fun m hm => asc_nodup ((mem_lawAll _ _).mp (List.mem_filter.mp hm).1).1.1) .nil
  unfold lawTrapIn lawJoin
  generalize ((lawAllLots n.places).filter fun one => within one l && isTrapOf n.deeds one).foldl joinStep [] = f at *
  by_cases hf : f = []
  · rw [if_pos hf, if_pos]
    subst hf
    cases q : trapIn n.deeds l with
    | nil => rfl
    | cons a r =>
      have := (hmem a).mpr (by rw [q]; exact List.mem_cons_self)
      cases this
  · rw [if_neg hf, if_neg]
    · refine congrArg some (asc_ext (sortNat_asc hnd) hasc fun x => ?_)
      rw [(List.mergeSort_perm _ _).mem_iff]
      exact hmem x
    · intro q
      cases f with
      | nil => exact hf rfl
      | cons a r =>
        have := (hmem a).mp List.mem_cons_self
        rw [q] at this
        cases this
theorem bareB_eq {n : NetD} {st l : List Nat} (hl : LotP n.places l) : bareB n st l = !isMarked (trapIn n.deeds l) st := by
  unfold bareB
  rw [lawTrapIn_eq hl]
  by_cases h : trapIn n.deeds l = []
  · rw [if_pos h, h]
    rfl
  · rw [if_neg h]
end K13

set_option Elab.async false
set_option linter.all false
set_option maxRecDepth 100000
set_option maxHeartbeats 4000000
/-! KA: data, what stands for them, and a calculus of what an expression evaluates to. -/
namespace K13
open PySem PySem.Spec PyProof.Rows L2
open Evl (Ex)

inductive Da where
  | non | bl (b : Bool) | int (i : Int) | str (s : Str) | tup (xs : List Da) | lst (xs : List Da) | dic
inductive Sv where
  | d (x : Da) | net (n : NetD) | ty (s : String) | loc (a : Addr)

mutual
inductive Rp (H : Hp) : V → Da → Prop where
  | non : Rp H .non .non
  | bl (b : Bool) : Rp H (.bl b) (.bl b)
  | int (i : Int) : Rp H (.int i) (.int i)
  | str (s : Str) : Rp H (.str s) (.str s)
  | tup {a : Addr} {xs : List V} {ds : List Da} : H a = some (.tup xs) → RpL H xs ds → Rp H (.ref a) (.tup ds)
  | lst {a : Addr} {xs : List V} {ds : List Da} : H a = some (.lst xs) → RpL H xs ds → Rp H (.ref a) (.lst ds)
  | dic {a : Addr} {kvs : List (Key × V)} : H a = some (.dK kvs) → Rp H (.ref a) .dic
inductive RpL (H : Hp) : List V → List Da → Prop where
  | nil : RpL H [] []
  | cons {v : V} {vs : List V} {d : Da} {ds : List Da} : Rp H v d → RpL H vs ds → RpL H (v :: vs) (d :: ds)
end

mutual
theorem Rp.mono {H H' : Hp} (e : Ex H H') : ∀ {v : V} {d : Da}, Rp H v d → Rp H' v d
  | _, _, .non => .non
  | _, _, .bl b => .bl b
  | _, _, .int i => .int i
  | _, _, .str s => .str s
  | _, _, .tup h r => .tup (e _ _ h) (RpL.mono e r)
  | _, _, .lst h r => .lst (e _ _ h) (RpL.mono e r)
  | _, _, .dic h => .dic (e _ _ h)
theorem RpL.mono {H H' : Hp} (e : Ex H H') : ∀ {vs : List V} {ds : List Da}, RpL H vs ds → RpL H' vs ds
  | _, _, .nil => .nil
  | _, _, .cons h r => .cons (Rp.mono e h) (RpL.mono e r)
end

theorem RpL.length {H : Hp} : ∀ {vs : List V} {ds : List Da}, RpL H vs ds → vs.length = ds.length
  | _, _, .nil => rfl
  | _, _, .cons _ r => by rw [List.length_cons, List.length_cons, RpL.length r]
theorem RpL.get {H : Hp} : ∀ {vs : List V} {ds : List Da} {i : Nat} {d : Da}, RpL H vs ds → ds[i]? = some d → ∃ v, vs[i]? = some v ∧ Rp H v d
  | _, _, _, _, .nil, e => by simp at e
  | _, _, 0, _, .cons h _, e => by
    have z := Option.some.inj e
    subst z
    exact ⟨_, rfl, h⟩
  | _, _, i + 1, d, .cons _ r, e => by
    have z : (_ : List Da)[i]? = some d := e
    obtain ⟨v, h1, h2⟩ := RpL.get r z
    exact ⟨v, h1, h2⟩
theorem RpL.getV {H : Hp} : ∀ {vs : List V} {ds : List Da} {i : Nat} {v : V}, RpL H vs ds → vs[i]? = some v → ∃ d, ds[i]? = some d ∧ Rp H v d
  | _, _, _, _, .nil, e => by simp at e
  | _, _, 0, _, .cons h _, e => by
    have z := Option.some.inj e
    subst z
    exact ⟨_, rfl, h⟩
  | _, _, i + 1, v, .cons _ r, e => by
    have z : (_ : List V)[i]? = some v := e
    obtain ⟨d, h1, h2⟩ := RpL.getV r z
    exact ⟨d, h1, h2⟩
theorem RpL.append {H : Hp} : ∀ {vs ws : List V} {ds es : List Da}, RpL H vs ds → RpL H ws es → RpL H (vs ++ ws) (ds ++ es)
  | _, _, _, _, .nil, s => s
  | _, _, _, _, .cons h r, s => .cons h (RpL.append r s)
theorem RpL.take {H : Hp} : ∀ {vs : List V} {ds : List Da} (n : Nat), RpL H vs ds → RpL H (vs.take n) (ds.take n)
  | _, _, 0, _ => .nil
  | _, _, _ + 1, .nil => .nil
  | _, _, n + 1, .cons h r => .cons h (RpL.take n r)
theorem RpL.drop {H : Hp} : ∀ {vs : List V} {ds : List Da} (n : Nat), RpL H vs ds → RpL H (vs.drop n) (ds.drop n)
  | _, _, 0, r => r
  | _, _, _ + 1, .nil => .nil
  | _, _, n + 1, .cons _ r => RpL.drop n r
theorem RpL.reverse {H : Hp} : ∀ {vs : List V} {ds : List Da}, RpL H vs ds → RpL H vs.reverse ds.reverse
  | _, _, .nil => .nil
  | _, _, .cons h r => by
    rw [List.reverse_cons, List.reverse_cons]
    exact RpL.append (RpL.reverse r) (.cons h .nil)
theorem RpL.one {H : Hp} {v : V} {d : Da} (h : Rp H v d) : RpL H [v] [d] := .cons h .nil
theorem RpL.ints {H : Hp} : ∀ ns : List Int, RpL H (ns.map V.int) (ns.map Da.int)
  | [] => .nil
  | n :: r => .cons (.int n) (RpL.ints r)
theorem RpL.ints_of {H : Hp} : ∀ {vs : List V} {ns : List Int}, RpL H vs (ns.map Da.int) → vs = ns.map V.int
  | _, [], .nil => rfl
  | _, n :: r, .cons h t => by
    cases h
    rw [List.map_cons, RpL.ints_of t]
theorem RpL.bls_of {H : Hp} : ∀ {vs : List V} {bs : List Bool}, RpL H vs (bs.map Da.bl) → vs = bs.map V.bl
  | _, [], .nil => rfl
  | _, n :: r, .cons h t => by
    cases h
    rw [List.map_cons, RpL.bls_of t]

/-! ### what a slot may hold -/
def netF (p : Nat) (t l : Addr) : List (Str × V) := [("places", .int p), ("deeds", .ref t), ("looked", .ref l)]
def lotD (l : List Nat) : Da := .tup (l.map fun (n : Nat) => Da.int (n : Int))
def deedD (d : List Nat × List Nat) : Da := .tup [lotD d.1, lotD d.2]
def deedsD (ds : List (List Nat × List Nat)) : Da := .tup (ds.map deedD)
/-- the class of nets; the net at hand: where its book lies, what it says -/
structure CW where
  c : Addr
  look : Addr
  n : NetD
inductive RpS (C : CW) (H : Hp) : V → Sv → Prop where
  | d {v : V} {x : Da} : Rp H v x → RpS C H v (.d x)
  | net {a dx t : Addr} {n : NetD} : n = C.n → H a = some (.ins C.c dx (netF n.places t C.look)) → Rp H (.ref t) (deedsD n.deeds) → RpS C H (.ref a) (.net n)
  | ty (n : String) : RpS C H (.ty n) (.ty n)
  | loc (a : Addr) : RpS C H (.ref a) (.loc a)
theorem RpS.mono {C : CW} {H H' : Hp} (e : Ex H H') {v : V} {s : Sv} (h : RpS C H v s) : RpS C H' v s := by
  cases h with
  | d r => exact .d (r.mono e)
  | net q h r => exact .net q (e _ _ h) (r.mono e)
  | ty n => exact .ty n
  | loc a => exact .loc a
inductive RpA (C : CW) (H : Hp) : List V → List Sv → Prop where
  | nil : RpA C H [] []
  | cons {v : V} {vs : List V} {d : Sv} {ds : List Sv} : RpS C H v d → RpA C H vs ds → RpA C H (v :: vs) (d :: ds)
theorem RpA.mono {C : CW} {H H' : Hp} (e : Ex H H') : ∀ {vs : List V} {ds : List Sv}, RpA C H vs ds → RpA C H' vs ds
  | _, _, .nil => .nil
  | _, _, .cons h r => .cons (h.mono e) (RpA.mono e r)
theorem RpA.length {C : CW} {H : Hp} : ∀ {vs : List V} {ds : List Sv}, RpA C H vs ds → vs.length = ds.length
  | _, _, .nil => rfl
  | _, _, .cons _ r => by rw [List.length_cons, List.length_cons, RpA.length r]
theorem RpA.get {C : CW} {H : Hp} : ∀ {vs : List V} {ds : List Sv} {i : Nat} {d : Sv}, RpA C H vs ds → ds[i]? = some d → ∃ v, vs[i]? = some v ∧ RpS C H v d
  | _, _, _, _, .nil, e => by simp at e
  | _, _, 0, _, .cons h _, e => by
    have z := Option.some.inj e
    subst z
    exact ⟨_, rfl, h⟩
  | _, _, i + 1, d, .cons _ r, e => by
    have z : (_ : List Sv)[i]? = some d := e
    obtain ⟨v, h1, h2⟩ := RpA.get r z
    exact ⟨v, h1, h2⟩

/-! ### the frame -/
/-- Hd' has what Hd has, and beside that only what is new to H -/
def Nw (Hd H Hd' : Hp) : Prop := Ex Hd Hd' ∧ ∀ b, Hd b = none → H b ≠ none → Hd' b = none
theorem Nw.refl (Hd H : Hp) : Nw Hd H Hd := ⟨Ex.refl Hd, fun _ h _ => h⟩
theorem Nw.trans {Hd H Hd1 H1 Hd2 : Hp} (a : Nw Hd H Hd1) (e : Ex H H1) (b : Nw Hd1 H1 Hd2) : Nw Hd H Hd2 := ⟨a.1.trans b.1, fun x h h' => b.2 x (a.2 x h h') fun z => h' (by
  cases q : H x with
  | none => rfl
  | some o =>
    rw [e x o q] at z
    cases z)⟩
theorem Nw.new {Hd H : Hp} {p : Addr} {o : HO} (e : Ex Hd H) (h : H p = none) : Nw Hd H (upd Hd p o) := by
  have hd : Hd p = none := Evl.fresh_back e h
  exact ⟨Ex.new hd, fun b hb hb' => by
    have ne : b ≠ p := fun z => by
      rw [z] at hb'
      exact hb' h
    rw [upd_ne ne]
    exact hb⟩
theorem ex_upd {Hd H : Hp} {p : Addr} {o : HO} (e : Ex Hd H) : Ex (upd Hd p o) (upd H p o) := fun a u h => by
  by_cases z : a = p
  · subst z
    rw [upd_same] at h ⊢
    exact h
  · rw [upd_ne z] at h ⊢
    exact e a u h
/-- what an untracked (for Hd) address becomes is of no matter -/
theorem ex_mut {Hd H : Hp} {p : Addr} {o : HO} (e : Ex Hd H) (h : Hd p = none) : Ex Hd (upd H p o) := e.mut h

abbrev En := List (Option Sv)
structure SO (C : CW) (Hd : Hp) (σ : L2.St) (env : En) : Prop where
  len : σ.length = env.length
  get : ∀ (i : Nat) (d : Sv), env[i]? = some (some d) → ∃ v, σ[i]? = some (some v) ∧ RpS C Hd v d
theorem SO.mono {C : CW} {Hd Hd' : Hp} {σ : L2.St} {env : En} (e : Ex Hd Hd') (s : SO C Hd σ env) : SO C Hd' σ env := ⟨s.len, fun i d h => by
  obtain ⟨v, h1, h2⟩ := s.get i d h
  exact ⟨v, h1, h2.mono e⟩⟩
theorem SO.set {C : CW} {Hd : Hp} {σ : L2.St} {env : En} {i : Nat} {v : V} {d : Sv} (s : SO C Hd σ env) (h : RpS C Hd v d) : SO C Hd (σ.set i (some v)) (env.set i (some d)) := by
  refine ⟨by rw [List.length_set, List.length_set, s.len], fun j e hj => ?_⟩
  by_cases z : i = j
  · subst z
    by_cases hl : i < env.length
    · rw [List.getElem?_set_self hl] at hj
      cases hj
      exact ⟨v, by rw [List.getElem?_set_self (by rw [s.len]; exact hl)], h⟩
    · rw [List.getElem?_eq_none (by rw [List.length_set]; omega)] at hj
      cases hj
  · rw [List.getElem?_set_ne z] at hj
    obtain ⟨u, h1, h2⟩ := s.get j e hj
    exact ⟨u, by rw [List.getElem?_set_ne z]; exact h1, h2⟩
/-- a slot of which no more is known -/
theorem SO.forget {C : CW} {Hd : Hp} {σ : L2.St} {env : En} {i : Nat} {x : Option V} (s : SO C Hd σ env) : SO C Hd (σ.set i x) (env.set i none) := by
  refine ⟨by rw [List.length_set, List.length_set, s.len], fun j e hj => ?_⟩
  by_cases z : i = j
  · subst z
    by_cases hl : i < env.length
    · rw [List.getElem?_set_self hl] at hj
      cases hj
    · rw [List.getElem?_eq_none (by rw [List.length_set]; omega)] at hj
      cases hj
  · rw [List.getElem?_set_ne z] at hj
    obtain ⟨u, h1, h2⟩ := s.get j e hj
    exact ⟨u, by rw [List.getElem?_set_ne z]; exact h1, h2⟩
/-- less is known -/
theorem SO.weak {C : CW} {Hd : Hp} {σ : L2.St} {env env' : En} (s : SO C Hd σ env) (hl : env'.length = env.length) (h : ∀ (i : Nat) (d : Sv), env'[i]? = some (some d) → env[i]? = some (some d)) : SO C Hd σ env' :=
  ⟨s.len.trans hl.symm, fun i d q => s.get i d (h i d q)⟩
def startE (N : List Str) (ds : List Sv) : En := ds.map some ++ List.replicate (N.length - ds.length) none
theorem SO.start {C : CW} {Hd : Hp} {N : List Str} {vs : List V} {ds : List Sv} (r : RpA C Hd vs ds) : SO C Hd (L2.start N vs) (startE N ds) := by
  have hl := r.length
  refine ⟨by unfold L2.start startE; simp [hl], fun i d h => ?_⟩
  unfold startE at h
  by_cases hi : i < ds.length
  · rw [List.getElem?_append_left (by rw [List.length_map]; exact hi), List.getElem?_map] at h
    cases q : ds[i]? with
    | none =>
      rw [q] at h
      cases h
    | some e =>
      rw [q] at h
      have z : e = d := Option.some.inj (Option.some.inj h)
      subst z
      obtain ⟨v, h1, h2⟩ := r.get q
      refine ⟨v, ?_, h2⟩
      unfold L2.start
      rw [List.getElem?_append_left (by rw [List.length_map, hl]; exact hi), List.getElem?_map, h1]
      rfl
  · rw [List.getElem?_append_right (by rw [List.length_map]; omega), List.getElem?_replicate] at h
    split at h
    · cases h
    · cases h
def wipeE (env : En) : List Nat → En
  | [] => env
  | v :: vs => (wipeE env vs).set v none
theorem SO.wipe {C : CW} {Hd : Hp} {σ : L2.St} {env : En} (s : SO C Hd σ env) : ∀ vs : List Nat, SO C Hd (L2.wipe σ vs) (wipeE env vs)
  | [] => s
  | v :: vs => (SO.wipe s vs).forget
theorem wipe_get {σ : L2.St} {i : Nat} : ∀ {vs : List Nat}, (L2.wipe σ vs)[i]? = if i ∈ vs then (if i < σ.length then some none else none) else σ[i]?
  | [] => by simp [L2.wipe]
  | v :: vs => by
    unfold L2.wipe
    by_cases h : v = i
    · subst h
      rw [if_pos List.mem_cons_self]
      by_cases hl : v < σ.length
      · rw [if_pos hl, List.getElem?_set_self (by rw [wipe_length]; exact hl)]
      · rw [if_neg hl, List.getElem?_eq_none (by rw [List.length_set, wipe_length]; omega)]
    · rw [List.getElem?_set_ne h, wipe_get (vs := vs)]
      by_cases hm : i ∈ vs
      · rw [if_pos hm, if_pos (List.mem_cons_of_mem _ hm)]
      · rw [if_neg hm, if_neg (by simp only [List.mem_cons, not_or]; exact ⟨fun e => h e.symm, hm⟩)]
theorem wipe_set {σ : L2.St} {j : Nat} {x : Option V} {vs : List Nat} (h : j ∈ vs) : L2.wipe (σ.set j x) vs = L2.wipe σ vs := by
  apply List.ext_getElem?
  intro i
  rw [wipe_get, wipe_get, List.length_set]
  by_cases hi : i ∈ vs
  · rw [if_pos hi, if_pos hi]
  · rw [if_neg hi, if_neg hi, List.getElem?_set_ne (fun e => hi (by rw [← e]; exact h))]
theorem wipe_wipe {σ : L2.St} {vs : List Nat} : L2.wipe (L2.wipe σ vs) vs = L2.wipe σ vs := by
  apply List.ext_getElem?
  intro i
  rw [wipe_get, wipe_get, wipe_length]
  by_cases hi : i ∈ vs
  · rw [if_pos hi, if_pos hi]
  · rw [if_neg hi, if_neg hi]

/-! ### what an expression evaluates to -/
section
variable (C : CW)
def OK1 (Hd H : Hp) (d : Sv) (Q : VK) : Prop := ∀ (v : V) (Hd' H' : Hp), Ex H H' → Ex Hd' H' → Nw Hd H Hd' → RpS C Hd' v d → Q v H'
def ED (te : TE) (env : En) (d : Sv) : Prop := ∀ (σ : L2.St) (H Hd : Hp), SO C Hd σ env → Ex Hd H → ∀ Q : VK, OK1 C Hd H d Q → te σ H Q
def ET (tt : TT) (env : En) (b : Bool) : Prop := ∀ (σ : L2.St) (H Hd : Hp), SO C Hd σ env → Ex Hd H → ∀ Q : Bool → Hp → Prop, (∀ H', Ex H H' → Q b H') → tt σ H Q
def EA (ta : TA) (env : En) (ds : List Sv) : Prop := ∀ (σ : L2.St) (H Hd : Hp), SO C Hd σ env → Ex Hd H → ∀ Q : List V → Hp → Prop,
  (∀ (vs : List V) (Hd' H' : Hp), Ex H H' → Ex Hd' H' → Nw Hd H Hd' → RpA C Hd' vs ds → Q vs H') → ta σ H Q
/-- an operation on values; a call of a builtin on values -/
def RV2 (r : R2) (x y d : Sv) : Prop := ∀ (Hd H : Hp) (u v : V) (Q : VK), Ex Hd H → RpS C Hd u x → RpS C Hd v y → OK1 C Hd H d Q → r u v H Q
def RC (r : List V → Hp → VK → Prop) (ds : List Sv) (d : Sv) : Prop := ∀ (Hd H : Hp) (vs : List V) (Q : VK), Ex Hd H → RpA C Hd vs ds → OK1 C Hd H d Q → r vs H Q
end
section
variable {C : CW} {K : PySem.W.Frag} {env : En} {ta tb tc te : TE} {tt tu : TT} {x y z d : Sv} {r r' : R2} {b c : Bool}
theorem OK1.here {Hd H : Hp} {d : Sv} {Q : VK} (k : OK1 C Hd H d Q) (e : Ex Hd H) {v : V} (h : RpS C Hd v d) : Q v H := k v Hd H (Ex.refl H) e (Nw.refl Hd H) h
theorem OK1.on {Hd H Hd1 H1 : Hp} {d : Sv} {Q : VK} (k : OK1 C Hd H d Q) (e : Ex H H1) (n : Nw Hd H Hd1) : OK1 C Hd1 H1 d Q := fun v Hd' H' e1 e2 n1 h => k v Hd' H' (e.trans e1) e2 (n.trans e n1) h
/-- a new tuple; a new list -/
theorem OK1.tup {Hd H : Hp} {xs : List V} {ds : List Da} {Q : VK} (k : OK1 C Hd H (.d (.tup ds)) Q) (e : Ex Hd H) (h : RpL Hd xs ds) {p : Addr} (hp : H p = none) : Q (.ref p) (upd H p (.tup xs)) :=
  k _ (upd Hd p (.tup xs)) _ (Ex.new hp) (ex_upd e) (Nw.new e hp) (.d (.tup upd_same (h.mono (Ex.new (Evl.fresh_back e hp)))))
theorem OK1.lst {Hd H : Hp} {xs : List V} {ds : List Da} {Q : VK} (k : OK1 C Hd H (.d (.lst ds)) Q) (e : Ex Hd H) (h : RpL Hd xs ds) {p : Addr} (hp : H p = none) : Q (.ref p) (upd H p (.lst xs)) :=
  k _ (upd Hd p (.lst xs)) _ (Ex.new hp) (ex_upd e) (Nw.new e hp) (.d (.lst upd_same (h.mono (Ex.new (Evl.fresh_back e hp)))))
theorem OK1.dic {Hd H : Hp} {kvs : List (Key × V)} {Q : VK} (k : OK1 C Hd H (.d .dic) Q) (e : Ex Hd H) {p : Addr} (hp : H p = none) : Q (.ref p) (upd H p (.dK kvs)) :=
  k _ (upd Hd p (.dK kvs)) _ (Ex.new hp) (ex_upd e) (Nw.new e hp) (.d (.dic upd_same))

theorem ed_var {i : Nat} (h : env[i]? = some (some d)) : ED C (tVar i) env d := fun σ H Hd s e Q k => by
  obtain ⟨v, h1, h2⟩ := s.get i d h
  exact ⟨v, h1, k.here e h2⟩
theorem ed_int {i : Int} : ED C (tC (.int i)) env (.d (.int i)) := fun σ H Hd s e Q k => k.here e (.d (.int i))
theorem ed_bl : ED C (tC (.bl b)) env (.d (.bl b)) := fun σ H Hd s e Q k => k.here e (.d (.bl b))
theorem ed_str {z : Str} : ED C (tC (.str z)) env (.d (.str z)) := fun σ H Hd s e Q k => k.here e (.d (.str z))
theorem ed_non : ED C (tC .non) env (.d .non) := fun σ H Hd s e Q k => k.here e (.d .non)
theorem ed_ty {n : String} : ED C (tC (.ty n)) env (.ty n) := fun σ H Hd s e Q k => k.here e (.ty n)
theorem ed_op (ha : ED C ta env x) (hb : ED C tb env y) (hr : RV2 C r x y d) : ED C (tOp r ta tb) env d := fun σ H Hd s e Q k =>
  ha σ H Hd s e _ fun u Hd1 H1 e1 e2 n1 r1 => hb σ H1 Hd1 (s.mono n1.1) e2 _ fun v Hd2 H2 e3 e4 n2 r2 => hr Hd2 H2 u v Q e4 (r1.mono n2.1) r2 ((k.on e1 n1).on e3 n2)
theorem ea_nil : EA C tNil env [] := fun σ H Hd s e Q k => k [] Hd H (Ex.refl H) e (Nw.refl Hd H) .nil
theorem ea_cons {tr : TA} {ds : List Sv} (ha : ED C ta env x) (hr : EA C tr env ds) : EA C (tCons ta tr) env (x :: ds) := fun σ H Hd s e Q k =>
  ha σ H Hd s e _ fun u Hd1 H1 e1 e2 n1 r1 => hr σ H1 Hd1 (s.mono n1.1) e2 _ fun vs Hd2 H2 e3 e4 n2 r2 => k (u :: vs) Hd2 H2 (e1.trans e3) e4 (n1.trans e1 n2) (.cons (r1.mono n2.1) r2)
theorem ed_cb {rr : List V → Hp → VK → Prop} {t : TA} {ds : List Sv} (h : EA C t env ds) (hr : RC C rr ds d) : ED C (tCB rr t) env d := fun σ H Hd s e Q k =>
  h σ H Hd s e _ fun vs Hd1 H1 e1 e2 n1 r1 => hr Hd1 H1 vs Q e2 r1 (k.on e1 n1)
theorem et_test (h : ED C te env (.d (.bl b))) : ET C (tTest te) env b := fun σ H Hd s e Q k => h σ H Hd s e _ fun v Hd1 H1 e1 e2 n1 r1 => by
  cases r1 with
  | d r1 =>
    cases r1
    exact ⟨b, rfl, k H1 e1⟩
theorem et_B (h : ED C te env (.d (.bl b))) : ET C (tB te) env b := fun σ H Hd s e Q k => h σ H Hd s e _ fun v Hd1 H1 e1 e2 n1 r1 => by
  cases r1 with
  | d r1 =>
    cases r1
    exact ⟨b, rfl, k H1 e1⟩
theorem et_and (h1 : ET C tt env b) (h2 : b = true → ET C tu env c) : ET C (tAnd tt tu) env (b && c) := fun σ H Hd s e Q k => h1 σ H Hd s e _ fun H1 e1 => by
  cases b with
  | true => exact h2 rfl σ H1 Hd s (e.trans e1) Q fun H2 e2 => k H2 (e1.trans e2)
  | false => exact k H1 e1
theorem et_or (h1 : ET C tt env b) (h2 : b = false → ET C tu env c) : ET C (tOr tt tu) env (b || c) := fun σ H Hd s e Q k => h1 σ H Hd s e _ fun H1 e1 => by
  cases b with
  | false => exact h2 rfl σ H1 Hd s (e.trans e1) Q fun H2 e2 => k H2 (e1.trans e2)
  | true => exact k H1 e1
theorem et_not (h1 : ET C tt env b) : ET C (tNot tt) env (!b) := fun σ H Hd s e Q k => h1 σ H Hd s e _ fun H1 e1 => k H1 e1
theorem et_is (h : ET C tt env b) (e : b = c) : ET C tt env c := by
  rw [← e]
  exact h
theorem ed_is (h : ED C te env x) (e : x = y) : ED C te env y := by
  rw [← e]
  exact h
theorem ed_andV (h1 : ED C ta env (.d (.bl b))) (h2 : b = true → ED C tb env (.d (.bl c))) : ED C (tAndV ta tb) env (.d (.bl (b && c))) := fun σ H Hd s e Q k => h1 σ H Hd s e _ fun v Hd1 H1 e1 e2 n1 r1 => by
  cases r1 with
  | d r1 =>
    cases r1
    refine ⟨b, rfl, ?_⟩
    cases b with
    | true => exact h2 rfl σ H1 Hd1 (s.mono n1.1) e2 Q (k.on e1 n1)
    | false => exact (k.on e1 n1).here e2 (.d (.bl false))
theorem ed_orV (h1 : ED C ta env (.d (.bl b))) (h2 : b = false → ED C tb env (.d (.bl c))) : ED C (tOrV ta tb) env (.d (.bl (b || c))) := fun σ H Hd s e Q k => h1 σ H Hd s e _ fun v Hd1 H1 e1 e2 n1 r1 => by
  cases r1 with
  | d r1 =>
    cases r1
    refine ⟨b, rfl, ?_⟩
    cases b with
    | false => exact h2 rfl σ H1 Hd1 (s.mono n1.1) e2 Q (k.on e1 n1)
    | true => exact (k.on e1 n1).here e2 (.d (.bl true))
theorem ed_notV (h1 : ED C ta env (.d (.bl b))) : ED C (tNotV ta) env (.d (.bl (!b))) := fun σ H Hd s e Q k => h1 σ H Hd s e _ fun v Hd1 H1 e1 e2 n1 r1 => by
  cases r1 with
  | d r1 =>
    cases r1
    exact ⟨b, rfl, (k.on e1 n1).here e2 (.d (.bl (!b)))⟩
theorem ed_if (h : ET C tt env b) (h1 : b = true → ED C ta env d) (h2 : b = false → ED C tb env d) : ED C (tIf tt ta tb) env d := fun σ H Hd s e Q k => h σ H Hd s e _ fun H1 e1 => by
  have k1 : OK1 C Hd H1 d Q := k.on e1 (Nw.refl Hd H)
  cases b with
  | true => exact h1 rfl σ H1 Hd s (e.trans e1) Q k1
  | false => exact h2 rfl σ H1 Hd s (e.trans e1) Q k1
/-- a < b < c: the middle once -/
theorem ed_chain (ha : ED C ta env x) (hb : ED C tb env y) (hr : RV2 C r x y (.d (.bl b))) (hc : b = true → ED C tc env z) (hr2 : b = true → RV2 C r' y z (.d (.bl c))) : ED C (tChain r r' ta tb tc) env (.d (.bl (b && c))) := fun σ H Hd s e Q k =>
  ha σ H Hd s e _ fun u Hd1 H1 e1 e2 n1 r1 => hb σ H1 Hd1 (s.mono n1.1) e2 _ fun v Hd2 H2 e3 e4 n2 r2 => by
    have k2 := (k.on e1 n1).on e3 n2
    refine hr Hd2 H2 u v _ e4 (r1.mono n2.1) r2 fun w Hd3 H3 e5 e6 n3 r3 => ?_
    cases r3 with
    | d r3 =>
      cases r3
      refine ⟨b, rfl, ?_⟩
      cases b with
      | true =>
        exact hc rfl σ H3 Hd3 (((s.mono n1.1).mono n2.1).mono n3.1) e6 _ fun t Hd4 H4 e7 e8 n4 r4 => hr2 rfl Hd4 H4 v t Q e8 ((r2.mono n3.1).mono n4.1) r4 ((k2.on e5 n3).on e7 n4)
      | false => exact (k2.on e5 n3).here e6 (.d (.bl false))
/-- displays -/
theorem RpA.pure {H : Hp} : ∀ {vs : List V} {ds : List Da}, RpA C H vs (ds.map Sv.d) → RpL H vs ds
  | _, [], .nil => .nil
  | _, d :: ds, .cons (.d h) r => .cons h (RpA.pure r)
theorem RpA.ofL {H : Hp} : ∀ {vs : List V} {ds : List Da}, RpL H vs ds → RpA C H vs (ds.map Sv.d)
  | _, _, .nil => .nil
  | _, _, .cons h r => .cons (.d h) (RpA.ofL r)
theorem ed_tup {t : TA} {ds : List Da} (h : EA C t env (ds.map Sv.d)) (hl : ds.length ≤ 100000) : ED C (tTup t) env (.d (.tup ds)) := fun σ H Hd s e Q k =>
  h σ H Hd s e _ fun vs Hd1 H1 e1 e2 n1 r1 => ⟨Evl.sz_of (by rw [r1.length, List.length_map]; exact hl), fun p hp => (k.on e1 n1).tup e2 r1.pure hp⟩
theorem ed_lst {t : TA} {ds : List Da} (h : EA C t env (ds.map Sv.d)) (hl : ds.length ≤ 100000) : ED C (tLst t) env (.d (.lst ds)) := fun σ H Hd s e Q k =>
  h σ H Hd s e _ fun vs Hd1 H1 e1 e2 n1 r1 => ⟨Evl.sz_of (by rw [r1.length, List.length_map]; exact hl), fun p hp => (k.on e1 n1).lst e2 r1.pure hp⟩
/-! ### a call of a def -/
/-- a promise: from these data that -/
def spD (C : CW) (pre : List Sv → Sv → Prop) : Sp := fun vs H Q _ => ∃ (Hd : Hp) (ds : List Sv) (r : Sv), Ex Hd H ∧ RpA C Hd vs ds ∧ pre ds r ∧ OK1 C Hd H r Q
theorem ed_call {pre : List Sv → Sv → Prop} {t : TA} {E : XK} {ds : List Sv} (h : EA C t env ds) (hp : pre ds d) : ED C (tCall (spD C pre) [] E t) env d := fun σ H Hd s e Q k =>
  h σ H Hd s e _ fun vs Hd1 H1 e1 e2 n1 r1 => ⟨Hd1, ds, d, e2, by rw [List.append_nil]; exact r1, hp, k.on e1 n1⟩
end
end K13

set_option Elab.async false
set_option linter.all false
set_option maxRecDepth 100000
set_option maxHeartbeats 4000000
/-! KB: the operators and builtins of the calculus. -/
namespace K13
open PySem PySem.Spec PyProof.Rows L2
open Evl (Ex ex_l ex_t sq_of st_of sz_of fresh_back)
section
variable {C : CW} {K : PySem.W.Frag} {env : En} {ta tb tc te : TE} {tt tu : TT} {x y z d : Sv} {r r' : R2} {b c : Bool}
theorem rv_I0 {g : Int → Int → Int} {i j : Int} : RV2 C (rI0 fun i j => .int (g i j)) (.d (.int i)) (.d (.int j)) (.d (.int (g i j))) := fun Hd H u v Q e r1 r2 k => by
  cases r1 with
  | d r1 =>
    cases r2 with
    | d r2 =>
      cases r1
      cases r2
      exact ⟨i, j, rfl, rfl, k.here e (.d (.int _))⟩
theorem rv_B0 {g : Int → Int → Bool} {i j : Int} : RV2 C (rI0 fun i j => .bl (g i j)) (.d (.int i)) (.d (.int j)) (.d (.bl (g i j))) := fun Hd H u v Q e r1 r2 k => by
  cases r1 with
  | d r1 =>
    cases r2 with
    | d r2 =>
      cases r1
      cases r2
      exact ⟨i, j, rfl, rfl, k.here e (.d (.bl _))⟩
theorem rv_I {c : Int → Int → Prop} {g : Int → Int → Int} {i j : Int} (hc : c i j) : RV2 C (rI c fun i j => .int (g i j)) (.d (.int i)) (.d (.int j)) (.d (.int (g i j))) := fun Hd H u v Q e r1 r2 k => by
  cases r1 with
  | d r1 =>
    cases r2 with
    | d r2 =>
      cases r1
      cases r2
      exact ⟨i, j, rfl, rfl, hc, k.here e (.d (.int _))⟩
theorem rv_eqS {s t : Str} : RV2 C rEq (.d (.str s)) (.d (.str t)) (.d (.bl (decide (s = t)))) := fun Hd H u v Q e r1 r2 k => by
  cases r1 with
  | d r1 =>
    cases r2 with
    | d r2 =>
      cases r1
      cases r2
      exact ⟨rfl, by rw [show decide (V.str s = V.str t) = decide (s = t) from by rw [Bool.eq_iff_iff]; simp]; exact k.here e (.d (.bl _))⟩
theorem rv_neS {s t : Str} : RV2 C rNe (.d (.str s)) (.d (.str t)) (.d (.bl (!decide (s = t)))) := fun Hd H u v Q e r1 r2 k => by
  cases r1 with
  | d r1 =>
    cases r2 with
    | d r2 =>
      cases r1
      cases r2
      exact ⟨rfl, by rw [show decide (V.str s = V.str t) = decide (s = t) from by rw [Bool.eq_iff_iff]; simp]; exact k.here e (.d (.bl _))⟩
theorem rv_eqI {s t : Int} : RV2 C rEq (.d (.int s)) (.d (.int t)) (.d (.bl (decide (s = t)))) := fun Hd H u v Q e r1 r2 k => by
  cases r1 with
  | d r1 =>
    cases r2 with
    | d r2 =>
      cases r1
      cases r2
      exact ⟨rfl, by rw [show decide (V.int s = V.int t) = decide (s = t) from by rw [Bool.eq_iff_iff]; simp]; exact k.here e (.d (.bl _))⟩
theorem rv_neI {s t : Int} : RV2 C rNe (.d (.int s)) (.d (.int t)) (.d (.bl (!decide (s = t)))) := fun Hd H u v Q e r1 r2 k => by
  cases r1 with
  | d r1 =>
    cases r2 with
    | d r2 =>
      cases r1
      cases r2
      exact ⟨rfl, by rw [show decide (V.int s = V.int t) = decide (s = t) from by rw [Bool.eq_iff_iff]; simp]; exact k.here e (.d (.bl _))⟩
theorem rv_neB {s t : Bool} : RV2 C rNe (.d (.bl s)) (.d (.bl t)) (.d (.bl (!decide (s = t)))) := fun Hd H u v Q e r1 r2 k => by
  cases r1 with
  | d r1 =>
    cases r2 with
    | d r2 =>
      cases r1
      cases r2
      exact ⟨rfl, by rw [show decide (V.bl s = V.bl t) = decide (s = t) from by rw [Bool.eq_iff_iff]; simp]; exact k.here e (.d (.bl _))⟩
def isNon : Da → Bool
  | .non => true
  | _ => false
theorem rp_non {H : Hp} {v : V} {d : Da} (r : Rp H v d) : decide (v = V.non) = isNon d := by
  cases r <;> rfl
theorem rv_isN {d : Da} : RV2 C (fun x y H Q => y = .non ∧ Q (.bl (decide (x = .non))) H) (.d d) (.d .non) (.d (.bl (isNon d))) := fun Hd H u v Q e r1 r2 k => by
  cases r1 with
  | d r1 =>
    cases r2 with
    | d r2 =>
      cases r2
      exact ⟨rfl, by rw [rp_non r1]; exact k.here e (.d (.bl _))⟩
theorem rv_notN {d : Da} : RV2 C (fun x y H Q => y = .non ∧ Q (.bl (!decide (x = .non))) H) (.d d) (.d .non) (.d (.bl (!isNon d))) := fun Hd H u v Q e r1 r2 k => by
  cases r1 with
  | d r1 =>
    cases r2 with
    | d r2 =>
      cases r2
      exact ⟨rfl, by rw [rp_non r1]; exact k.here e (.d (.bl _))⟩
theorem rv_ixT {ds : List Da} {j : Nat} {i : Int} {d : Da} (hj : ds[j]? = some d) (hi : i = (j : Int)) : RV2 C (rIxT K) (.d (.tup ds)) (.d (.int i)) (.d d) := fun Hd H u v Q e r1 r2 k => by
  cases r1 with
  | d r1 =>
    cases r2 with
    | d r2 =>
      cases r2
      cases r1 with
      | tup h r =>
        obtain ⟨w, h1, h2⟩ := r.get hj
        exact ⟨_, _, i, w, rfl, rfl, st_of (e _ _ h), by rw [hi]; exact atI_nat h1, k.here e (.d h2)⟩
theorem rv_ixL {ds : List Da} {j : Nat} {i : Int} {d : Da} (hj : ds[j]? = some d) (hi : i = (j : Int)) : RV2 C (rIxL K) (.d (.lst ds)) (.d (.int i)) (.d d) := fun Hd H u v Q e r1 r2 k => by
  cases r1 with
  | d r1 =>
    cases r2 with
    | d r2 =>
      cases r2
      cases r1 with
      | lst h r =>
        obtain ⟨w, h1, h2⟩ := r.get hj
        exact ⟨_, _, i, w, rfl, rfl, sq_of (e _ _ h), by rw [hi]; exact atI_nat h1, k.here e (.d h2)⟩
theorem lot_vals {H : Hp} {xs : List V} {l : List Nat} (r : RpL H xs (l.map fun (n : Nat) => Da.int (n : Int))) : xs = l.map fun (n : Nat) => V.int (n : Int) := by
  have e : (l.map fun (n : Nat) => Da.int (n : Int)) = (l.map fun (n : Nat) => (n : Int)).map Da.int := by rw [List.map_map]; rfl
  rw [e] at r
  rw [RpL.ints_of r, List.map_map]
  rfl
theorem inV_lot (n : Nat) : ∀ l : List Nat, inV (V.int (n : Int)) (l.map fun (n : Nat) => V.int (n : Int)) = l.contains n
  | [] => rfl
  | a :: l => by
    show (eqV (V.int (a : Int)) (V.int (n : Int)) || inV (V.int (n : Int)) (l.map fun (n : Nat) => V.int (n : Int))) = (a :: l).contains n
    rw [inV_lot n l, List.contains_cons]
    congr 1
    show decide ((a : Int) = (n : Int)) = (n == a)
    rw [Bool.eq_iff_iff]
    simp
    omega
theorem flat_lot : ∀ l : List Nat, (l.map fun (n : Nat) => V.int (n : Int)).all flatV = true
  | [] => rfl
  | a :: l => by
    show (true && (l.map fun (n : Nat) => V.int (n : Int)).all flatV) = true
    rw [flat_lot l]
    rfl
theorem rv_inT {n : Nat} {l : List Nat} : RV2 C (rIn K false) (.d (.int (n : Int))) (.d (lotD l)) (.d (.bl (l.contains n))) := fun Hd H u v Q e r1 r2 k => by
  cases r1 with
  | d r1 =>
    cases r2 with
    | d r2 =>
      cases r1
      cases r2 with
      | tup h r =>
        have ex := lot_vals r
        subst ex
        refine ⟨_, _, rfl, .inr (st_of (e _ _ h)), rfl, flat_lot l, ?_⟩
        show Q (.bl (inV (V.int (n : Int)) (l.map fun (n : Nat) => V.int (n : Int)))) H
        rw [inV_lot]
        exact k.here e (.d (.bl _))
theorem rv_niT {n : Nat} {l : List Nat} : RV2 C (rIn K true) (.d (.int (n : Int))) (.d (lotD l)) (.d (.bl (!l.contains n))) := fun Hd H u v Q e r1 r2 k => by
  cases r1 with
  | d r1 =>
    cases r2 with
    | d r2 =>
      cases r1
      cases r2 with
      | tup h r =>
        have ex := lot_vals r
        subst ex
        refine ⟨_, _, rfl, .inr (st_of (e _ _ h)), rfl, flat_lot l, ?_⟩
        show Q (.bl (!inV (V.int (n : Int)) (l.map fun (n : Nat) => V.int (n : Int)))) H
        rw [inV_lot]
        exact k.here e (.d (.bl _))
/-- .. of a list of ints -/
theorem rv_niL {n : Nat} {l : List Nat} : RV2 C (rIn K true) (.d (.int (n : Int))) (.d (.lst (l.map fun (n : Nat) => Da.int (n : Int)))) (.d (.bl (!l.contains n))) := fun Hd H u v Q e r1 r2 k => by
  cases r1 with
  | d r1 =>
    cases r2 with
    | d r2 =>
      cases r1
      cases r2 with
      | lst h r =>
        have ex := lot_vals r
        subst ex
        refine ⟨_, _, rfl, .inl (sq_of (e _ _ h)), rfl, flat_lot l, ?_⟩
        show Q (.bl (!inV (V.int (n : Int)) (l.map fun (n : Nat) => V.int (n : Int)))) H
        rw [inV_lot]
        exact k.here e (.d (.bl _))
theorem rv_catA {xs ys : List Da} (hz : xs.length + ys.length ≤ 100000) : RV2 C (rCatA K) (.d (.tup xs)) (.d (.tup ys)) (.d (.tup (xs ++ ys))) := fun Hd H u v Q e r1 r2 k => by
  cases r1 with
  | d r1 =>
    cases r2 with
    | d r2 =>
      cases r1 with
      | @tup a us _ h1 l1 =>
        cases r2 with
        | @tup b ws _ h2 l2 =>
          refine ⟨a, b, us, ws, rfl, rfl, st_of (e _ _ h1), st_of (e _ _ h2), sz_of (by rw [l1.length, l2.length]; exact hz), fun hx => ?_, fun hx hy => ?_, fun hx hy p hp => ?_⟩
          · subst hx
            cases l1
            exact k.here e (.d (.tup h2 l2))
          · subst hy
            cases l2
            rw [List.append_nil] at k
            exact k.here e (.d (.tup h1 l1))
          · exact k.tup e (l1.append l2) hp
theorem rv_catL {xs ys : List Da} (hz : xs.length + ys.length ≤ 100000) : RV2 C rCat (.d (.lst xs)) (.d (.lst ys)) (.d (.lst (xs ++ ys))) := fun Hd H u v Q e r1 r2 k => by
  cases r1 with
  | d r1 =>
    cases r2 with
    | d r2 =>
      cases r1 with
      | @lst a us _ h1 l1 =>
        cases r2 with
        | @lst b ws _ h2 l2 => exact ⟨a, b, us, ws, rfl, rfl, e _ _ h1, e _ _ h2, sz_of (by rw [l1.length, l2.length]; exact hz), fun p hp => k.lst e (l1.append l2) hp⟩
/-! ### slices -/
def EO (C : CW) (to : TO) (env : En) (o : Option Int) : Prop := ∀ (σ : L2.St) (H Hd : Hp), SO C Hd σ env → Ex Hd H → ∀ Q : Option Int → Hp → Prop, (∀ H', Ex H H' → Q o H') → to σ H Q
theorem eo_none : EO C tNoPart env none := fun σ H Hd s e Q k => k H (Ex.refl H)
theorem eo_some {i : Int} (h : ED C te env (.d (.int i))) : EO C (tPart te) env (some i) := fun σ H Hd s e Q k => h σ H Hd s e _ fun v Hd1 H1 e1 e2 n1 r1 => by
  cases r1 with
  | d r1 =>
    cases r1
    exact ⟨i, rfl, k H1 e1⟩
def cutD (xs : List Da) (lo hi : Option Int) : List Da := (xs.drop (HT.sIx xs.length 0 lo)).take (HT.sIx xs.length xs.length hi - HT.sIx xs.length 0 lo)
theorem cut_rp {H : Hp} {xs : List V} {ds : List Da} (r : RpL H xs ds) (lo hi : Option Int) : RpL H (cutV xs lo hi) (cutD ds lo hi) := by
  unfold cutV cutD
  rw [r.length]
  exact (r.drop _).take _
theorem cut_whole (ds : List Da) (lo hi : Option Int) (h : HT.sIx ds.length 0 lo = 0 ∧ HT.sIx ds.length ds.length hi = ds.length) : cutD ds lo hi = ds := by
  unfold cutD
  rw [h.1, h.2, List.drop_zero, Nat.sub_zero, List.take_length]
theorem ed_slT {xs : List Da} {tl th : TO} {lo hi : Option Int} (ha : ED C te env (.d (.tup xs))) (h1 : EO C tl env lo) (h2 : EO C th env hi) : ED C (tSl (rSlA K) te tl th) env (.d (.tup (cutD xs lo hi))) := fun σ H Hd s e Q k =>
  ha σ H Hd s e _ fun u Hd1 H1 e1 e2 n1 r1 => h1 σ H1 Hd1 (s.mono n1.1) e2 _ fun H2 e3 => h2 σ H2 Hd1 (s.mono n1.1) (e2.trans e3) _ fun H3 e4 => by
    have k3 : OK1 C Hd1 H3 (.d (.tup (cutD xs lo hi))) Q := ((k.on e1 n1).on e3 (Nw.refl _ _)).on e4 (Nw.refl _ _)
    have e5 : Ex Hd1 H3 := (e2.trans e3).trans e4
    cases r1 with
    | d r1 =>
      cases r1 with
      | @tup a us _ g1 l1 =>
        refine ⟨a, us, rfl, st_of (e5 _ _ g1), fun hw => ?_, fun hw p hp => ?_⟩
        · rw [l1.length] at hw
          rw [cut_whole xs lo hi hw] at k3
          exact k3.here e5 (.d (.tup g1 l1))
        · exact k3.tup e5 (cut_rp l1 lo hi) hp
theorem ed_slL {xs : List Da} {tl th : TO} {lo hi : Option Int} (ha : ED C te env (.d (.lst xs))) (h1 : EO C tl env lo) (h2 : EO C th env hi) : ED C (tSl (rSlL K) te tl th) env (.d (.lst (cutD xs lo hi))) := fun σ H Hd s e Q k =>
  ha σ H Hd s e _ fun u Hd1 H1 e1 e2 n1 r1 => h1 σ H1 Hd1 (s.mono n1.1) e2 _ fun H2 e3 => h2 σ H2 Hd1 (s.mono n1.1) (e2.trans e3) _ fun H3 e4 => by
    have k3 : OK1 C Hd1 H3 (.d (.lst (cutD xs lo hi))) Q := ((k.on e1 n1).on e3 (Nw.refl _ _)).on e4 (Nw.refl _ _)
    have e5 : Ex Hd1 H3 := (e2.trans e3).trans e4
    cases r1 with
    | d r1 =>
      cases r1 with
      | @lst a us _ g1 l1 => exact ⟨a, us, rfl, sq_of (e5 _ _ g1), fun p hp => k3.lst e5 (cut_rp l1 lo hi) hp⟩
theorem cut_one (xs : List Da) : cutD xs (some 1) none = xs.drop 1 := by
  unfold cutD
  have e1 : HT.sIx xs.length 0 (some 1) = min 1 xs.length := HT.sIx_nat xs.length 0 1
  rw [e1, HT.sIx_none]
  cases xs with
  | nil => rfl
  | cons a r =>
    have e2 : min 1 (a :: r).length = 1 := by rw [List.length_cons]; omega
    rw [e2, List.take_of_length_le (by rw [List.length_drop]; exact Nat.le_refl _)]
theorem cut_to (xs : List Da) (j : Nat) : cutD xs none (some (j : Int)) = xs.take j := by
  unfold cutD
  rw [HT.sIx_nat, HT.sIx_none, List.drop_zero, Nat.sub_zero]
  by_cases h : j ≤ xs.length
  · rw [Nat.min_eq_left h]
  · rw [Nat.min_eq_right (by omega), List.take_length, List.take_of_length_le (by omega)]
theorem cut_from (xs : List Da) (j : Nat) : cutD xs (some (j : Int)) none = xs.drop j := by
  unfold cutD
  rw [HT.sIx_nat, HT.sIx_none]
  by_cases h : j ≤ xs.length
  · rw [Nat.min_eq_left h, List.take_of_length_le (by rw [List.length_drop]; exact Nat.le_refl _)]
  · rw [Nat.min_eq_right (by omega), List.drop_length, List.drop_eq_nil_of_le (by omega), List.take_nil]
/-! ### builtins -/
theorem rc_len {ds : List Da} : RC C (fun xs H Q => ∃ p ys, xs = [.ref p] ∧ (SqL K H p ys ∨ SqT K H p ys) ∧ Q (.int ys.length) H) [.d (.tup ds)] (.d (.int (ds.length : Int))) := fun Hd H vs Q e r k => by
  cases r with
  | cons h t =>
    cases t
    cases h with
    | d h =>
      cases h with
      | @tup a us _ g l => exact ⟨a, us, rfl, .inr (st_of (e _ _ g)), by rw [l.length]; exact k.here e (.d (.int _))⟩
theorem rc_lenL {ds : List Da} : RC C (fun xs H Q => ∃ p ys, xs = [.ref p] ∧ (SqL K H p ys ∨ SqT K H p ys) ∧ Q (.int ys.length) H) [.d (.lst ds)] (.d (.int (ds.length : Int))) := fun Hd H vs Q e r k => by
  cases r with
  | cons h t =>
    cases t
    cases h with
    | d h =>
      cases h with
      | @lst a us _ g l => exact ⟨a, us, rfl, .inl (sq_of (e _ _ g)), by rw [l.length]; exact k.here e (.d (.int _))⟩
theorem rc_listT {ds : List Da} : RC C (fun xs H Q => ∃ p ys, xs = [.ref p] ∧ (SqL K H p ys ∨ SqT K H p ys) ∧ ∀ l, H l = none → Q (.ref l) (upd H l (.lst ys))) [.d (.tup ds)] (.d (.lst ds)) := fun Hd H vs Q e r k => by
  cases r with
  | cons h t =>
    cases t
    cases h with
    | d h =>
      cases h with
      | @tup a us _ g l => exact ⟨a, us, rfl, .inr (st_of (e _ _ g)), fun p hp => k.lst e l hp⟩
theorem rc_listL {ds : List Da} : RC C (fun xs H Q => ∃ p ys, xs = [.ref p] ∧ (SqL K H p ys ∨ SqT K H p ys) ∧ ∀ l, H l = none → Q (.ref l) (upd H l (.lst ys))) [.d (.lst ds)] (.d (.lst ds)) := fun Hd H vs Q e r k => by
  cases r with
  | cons h t =>
    cases t
    cases h with
    | d h =>
      cases h with
      | @lst a us _ g l => exact ⟨a, us, rfl, .inl (sq_of (e _ _ g)), fun p hp => k.lst e l hp⟩
theorem rc_tupL {ds : List Da} : RC C (fun xs H Q => ∃ p ys, xs = [.ref p] ∧ ((SqL K H p ys ∧ ∀ l, H l = none → Q (.ref l) (upd H l (.tup ys))) ∨ (SqT K H p ys ∧ Q (.ref p) H))) [.d (.lst ds)] (.d (.tup ds)) := fun Hd H vs Q e r k => by
  cases r with
  | cons h t =>
    cases t
    cases h with
    | d h =>
      cases h with
      | @lst a us _ g l => exact ⟨a, us, rfl, .inl ⟨sq_of (e _ _ g), fun p hp => k.tup e l hp⟩⟩
theorem rc_all {bs : List Bool} : RC C (rAll K) [.d (.lst (bs.map .bl))] (.d (.bl (bs.all id))) := fun Hd H vs Q e r k => by
  cases r with
  | cons h t =>
    cases t
    cases h with
    | d h =>
      cases h with
      | @lst a us _ g l =>
        have z := RpL.bls_of l
        subst z
        exact ⟨a, bs, rfl, sq_of (e _ _ g), k.here e (.d (.bl _))⟩
theorem rc_any {bs : List Bool} : RC C (rAny K) [.d (.lst (bs.map .bl))] (.d (.bl (bs.any id))) := fun Hd H vs Q e r k => by
  cases r with
  | cons h t =>
    cases t
    cases h with
    | d h =>
      cases h with
      | @lst a us _ g l =>
        have z := RpL.bls_of l
        subst z
        exact ⟨a, bs, rfl, sq_of (e _ _ g), k.here e (.d (.bl _))⟩
/-! ### isinstance -/
def tyN : Da → String
  | .non => "NoneType" | .bl _ => "bool" | .int _ => "int" | .str _ => "str" | .tup _ => "tuple" | .lst _ => "list" | .dic => "dict"
theorem rp_ty {H Hd : Hp} (e : Ex Hd H) {v : V} {d : Da} (r : Rp Hd v d) : TyX K H v (.type (tyN d)) := by
  cases r with
  | non => exact .base .non
  | bl b => exact .base (.bl b)
  | int i => exact .base (.int i)
  | str s => exact .base (.str s)
  | tup h l => exact .base (.tup (e _ _ h))
  | lst h l => exact .base (.lst (e _ _ h))
  | dic h => exact .base (.dK (e _ _ h))
def isTy (n : String) (d : Da) : Bool := (kitB (tyN d) n).getD false
theorem rc_isi {n : String} {d : Da} (h : (kitB (tyN d) n).isSome = true) : RC C (rIsi K) [.d d, .ty n] (.d (.bl (isTy n d))) := fun Hd H vs Q e r k => by
  cases r with
  | cons h1 t =>
    cases t with
    | cons h2 t =>
      cases t
      cases h1 with
      | d h1 =>
        cases h2
        refine ⟨_, _, _, _, _, rfl, .ty n, rp_ty e h1, kit_ty ?_, k.here e (.d (.bl (isTy n d)))⟩
        unfold isTy
        obtain ⟨b, hb⟩ := Option.isSome_iff_exists.mp h
        rw [hb]
        rfl
def isI : Da → Bool | .int _ => true | .bl _ => true | _ => false
def isB : Da → Bool | .bl _ => true | _ => false
def isT : Da → Bool | .tup _ => true | _ => false
def isS : Da → Bool | .str _ => true | _ => false
theorem kit_int : ∀ d : Da, kitB (tyN d) "int" = some (isI d)
  | .non => by
    show kitB "NoneType" "int" = some false
    decide +kernel
  | .bl _ => by
    show kitB "bool" "int" = some true
    decide +kernel
  | .int _ => by
    show kitB "int" "int" = some true
    decide +kernel
  | .str _ => by
    show kitB "str" "int" = some false
    decide +kernel
  | .tup _ => by
    show kitB "tuple" "int" = some false
    decide +kernel
  | .lst _ => by
    show kitB "list" "int" = some false
    decide +kernel
  | .dic => by
    show kitB "dict" "int" = some false
    decide +kernel
theorem kit_bool : ∀ d : Da, kitB (tyN d) "bool" = some (isB d)
  | .non => by
    show kitB "NoneType" "bool" = some false
    decide +kernel
  | .bl _ => by
    show kitB "bool" "bool" = some true
    decide +kernel
  | .int _ => by
    show kitB "int" "bool" = some false
    decide +kernel
  | .str _ => by
    show kitB "str" "bool" = some false
    decide +kernel
  | .tup _ => by
    show kitB "tuple" "bool" = some false
    decide +kernel
  | .lst _ => by
    show kitB "list" "bool" = some false
    decide +kernel
  | .dic => by
    show kitB "dict" "bool" = some false
    decide +kernel
theorem kit_tuple : ∀ d : Da, kitB (tyN d) "tuple" = some (isT d)
  | .non => by
    show kitB "NoneType" "tuple" = some false
    decide +kernel
  | .bl _ => by
    show kitB "bool" "tuple" = some false
    decide +kernel
  | .int _ => by
    show kitB "int" "tuple" = some false
    decide +kernel
  | .str _ => by
    show kitB "str" "tuple" = some false
    decide +kernel
  | .tup _ => by
    show kitB "tuple" "tuple" = some true
    decide +kernel
  | .lst _ => by
    show kitB "list" "tuple" = some false
    decide +kernel
  | .dic => by
    show kitB "dict" "tuple" = some false
    decide +kernel
theorem kit_str : ∀ d : Da, kitB (tyN d) "str" = some (isS d)
  | .non => by
    show kitB "NoneType" "str" = some false
    decide +kernel
  | .bl _ => by
    show kitB "bool" "str" = some false
    decide +kernel
  | .int _ => by
    show kitB "int" "str" = some false
    decide +kernel
  | .str _ => by
    show kitB "str" "str" = some true
    decide +kernel
  | .tup _ => by
    show kitB "tuple" "str" = some false
    decide +kernel
  | .lst _ => by
    show kitB "list" "str" = some false
    decide +kernel
  | .dic => by
    show kitB "dict" "str" = some false
    decide +kernel
theorem rc_isI {d : Da} : RC C (rIsi K) [.d d, .ty "int"] (.d (.bl (isI d))) := by
  have h := rc_isi (C := C) (K := K) (n := "int") (d := d) (by rw [kit_int]; rfl)
  have e : isTy "int" d = isI d := by unfold isTy; rw [kit_int]; rfl
  rw [e] at h
  exact h
theorem rc_isB {d : Da} : RC C (rIsi K) [.d d, .ty "bool"] (.d (.bl (isB d))) := by
  have h := rc_isi (C := C) (K := K) (n := "bool") (d := d) (by rw [kit_bool]; rfl)
  have e : isTy "bool" d = isB d := by unfold isTy; rw [kit_bool]; rfl
  rw [e] at h
  exact h
theorem rc_isT {d : Da} : RC C (rIsi K) [.d d, .ty "tuple"] (.d (.bl (isT d))) := by
  have h := rc_isi (C := C) (K := K) (n := "tuple") (d := d) (by rw [kit_tuple]; rfl)
  have e : isTy "tuple" d = isT d := by unfold isTy; rw [kit_tuple]; rfl
  rw [e] at h
  exact h
theorem rc_isS {d : Da} : RC C (rIsi K) [.d d, .ty "str"] (.d (.bl (isS d))) := by
  have h := rc_isi (C := C) (K := K) (n := "str") (d := d) (by rw [kit_str]; rfl)
  have e : isTy "str" d = isS d := by unfold isTy; rw [kit_str]; rfl
  rw [e] at h
  exact h
/-! ### the net's attributes -/
theorem ed_places {n : NetD} (hc : Cls K C.c) (hn : NoAttr K C.c "places") (h : ED C te env (.net n)) : ED C (tFld K te "places") env (.d (.int (n.places : Int))) := fun σ H Hd s e Q k =>
  h σ H Hd s e _ fun v Hd1 H1 e1 e2 n1 r1 => by
    cases r1 with
    | net q g r => exact ⟨_, C.c, _, _, _, rfl, e2 _ _ g, hc, hn, rfl, (k.on e1 n1).here e2 (.d (.int _))⟩
theorem ed_deeds {n : NetD} (hc : Cls K C.c) (hn : NoAttr K C.c "deeds") (h : ED C te env (.net n)) : ED C (tFld K te "deeds") env (.d (deedsD n.deeds)) := fun σ H Hd s e Q k =>
  h σ H Hd s e _ fun v Hd1 H1 e1 e2 n1 r1 => by
    cases r1 with
    | net q g r => exact ⟨_, C.c, _, _, _, rfl, e2 _ _ g, hc, hn, rfl, (k.on e1 n1).here e2 (.d r)⟩
end
end K13

set_option Elab.async false
set_option linter.all false
set_option maxRecDepth 100000
set_option maxHeartbeats 4000000
/-! KC: what is walked, comprehensions, statements, loops. -/
namespace K13
open PySem PySem.Spec PyProof.Rows L2
open Evl (Ex ex_l ex_t sq_of st_of sz_of sz_lt fresh_back)
section
variable (C : CW)
/-- a target given x: the slots js are stored -/
def GD (g : TG) (x : Da) (env : En) (js : List Nat) (env2 : En) : Prop := ∀ (v : V) (σ : L2.St) (H Hd : Hp), SO C Hd σ env → Ex Hd H → Rp Hd v x → ∀ Q : L2.St → Hp → Prop,
  (∀ σ2, SO C Hd σ2 env2 → (∀ vs : List Nat, (∀ j, j ∈ js → j ∈ vs) → L2.wipe σ2 vs = L2.wipe σ vs) → Q σ2 H) → g v σ H Q
/-- the iterator J gives the items xs -/
def JS (J : It) (Hd : Hp) (xs : List Da) : Prop := ∀ (Hd1 H1 : Hp), Ex Hd Hd1 → Ex Hd1 H1 → ∀ i : Nat,
  (∀ x, xs[i]? = some x → J.go i H1 ∧ ∀ v H2, J.yld i H1 v H2 → ∃ Hd2, Ex H1 H2 ∧ Ex Hd2 H2 ∧ Nw Hd1 H1 Hd2 ∧ Rp Hd2 v x) ∧ (xs.length ≤ i → J.stop i H1)
def Src (wi : TI) (env : En) (xs : List Da) : Prop := ∀ (σ : L2.St) (H Hd : Hp), SO C Hd σ env → Ex Hd H → ∀ R : It → Hp → Prop,
  (∀ J Hd' H', Ex H H' → Ex Hd' H' → Nw Hd H Hd' → JS J Hd' xs → R J H') → wi σ H R
/-- a statement that returns d; one that goes on -/
def SRet (t : TS) (env : En) (d : Sv) : Prop := ∀ (σ : L2.St) (H Hd : Hp), SO C Hd σ env → Ex Hd H → ∀ D : Ends, OK1 C Hd H d D.rt → t D σ H
def SNx (t : TS) (env env2 : En) : Prop := ∀ (σ : L2.St) (H Hd : Hp), SO C Hd σ env → Ex Hd H → ∀ D : Ends,
  (∀ σ' Hd' H', Ex H H' → Ex Hd' H' → Nw Hd H Hd' → SO C Hd' σ' env2 → D.nx σ' H') → t D σ H
end
section
variable {C : CW} {K : PySem.W.Frag} {env env1 env2 : En} {ta tb tc te tl : TE} {tt tu : TT} {x y z d : Sv} {b c : Bool} {g g1 g2 : TG} {js js1 js2 vs : List Nat} {xs ys : List Da} {t u w tb' : TS} {wi : TI}
theorem gd_name {i : Nat} {x : Da} : GD C (gName i) x env [i] (env.set i (some (.d x))) := fun v σ H Hd s e r Q k =>
  k _ (s.set (.d r)) fun vs h => wipe_set (h i List.mem_cons_self)
theorem gd_tup2 {x y : Da} (h1 : GD C g1 x env js1 env1) (h2 : GD C g2 y env1 js2 env2) : GD C (gTup K 2 (gCons g1 (gCons g2 gNil))) (.tup [x, y]) env (js1 ++ js2) env2 := fun v σ H Hd s e r Q k => by
  cases r with
  | @tup a us _ g l =>
    refine ⟨a, us, rfl, st_of (e _ _ g), l.length, ?_⟩
    cases l with
    | cons r1 l =>
      cases l with
      | cons r2 l =>
        cases l
        refine ⟨_, _, rfl, h1 _ σ H Hd s e r1 _ fun σ1 s1 w1 => ⟨_, _, rfl, h2 _ σ1 H Hd s1 e r2 _ fun σ2 s2 w2 => ⟨rfl, k σ2 s2 fun vs h => ?_⟩⟩⟩
        rw [w2 vs fun j hj => h j (List.mem_append_right _ hj), w1 vs fun j hj => h j (List.mem_append_left _ hj)]
/-! ### sources -/
theorem src_tup (h : ED C tl env (.d (.tup xs))) : Src C (iTup K tl) env xs := fun σ H Hd s e R k => h σ H Hd s e _ fun v Hd1 H1 e1 e2 n1 r1 => by
  cases r1 with
  | d r1 =>
    cases r1 with
    | @tup a us _ g l =>
      refine ⟨a, rfl, ⟨us, st_of (e2 _ _ g)⟩, k _ Hd1 H1 e1 e2 n1 fun Hd2 H2 e3 e4 i => ⟨fun x hx => ?_, fun hi => ⟨us, st_of (e4 _ _ (e3 _ _ g)), by rw [l.length]; exact hi⟩⟩⟩
      obtain ⟨w, hw, rw'⟩ := l.get hx
      refine ⟨⟨us, w, st_of (e4 _ _ (e3 _ _ g)), hw⟩, fun v H3 hy => ?_⟩
      obtain ⟨rfl, hy⟩ := hy
      have z := hy us (st_of (e4 _ _ (e3 _ _ g)))
      rw [hw] at z
      cases z
      exact ⟨Hd2, Ex.refl _, e4, Nw.refl _ _, rw'.mono e3⟩
theorem src_lst (h : ED C tl env (.d (.lst xs))) : Src C (iList K tl) env xs := fun σ H Hd s e R k => h σ H Hd s e _ fun v Hd1 H1 e1 e2 n1 r1 => by
  cases r1 with
  | d r1 =>
    cases r1 with
    | @lst a us _ g l =>
      refine ⟨a, rfl, ⟨us, sq_of (e2 _ _ g)⟩, k _ Hd1 H1 e1 e2 n1 fun Hd2 H2 e3 e4 i => ⟨fun x hx => ?_, fun hi => ⟨us, sq_of (e4 _ _ (e3 _ _ g)), by rw [l.length]; exact hi⟩⟩⟩
      obtain ⟨w, hw, rw'⟩ := l.get hx
      refine ⟨⟨us, w, sq_of (e4 _ _ (e3 _ _ g)), hw⟩, fun v H3 hy => ?_⟩
      obtain ⟨rfl, hy⟩ := hy
      have z := hy us (sq_of (e4 _ _ (e3 _ _ g)))
      rw [hw] at z
      cases z
      exact ⟨Hd2, Ex.refl _, e4, Nw.refl _ _, rw'.mono e3⟩
theorem src_tupD (h : ED C tl env (.d (.tup xs))) : Src C (iTup K tl) env (xs.map fun x => x) := by
  rw [List.map_id']
  exact src_tup h
theorem src_lstD (h : ED C tl env (.d (.lst xs))) : Src C (iList K tl) env (xs.map fun x => x) := by
  rw [List.map_id']
  exact src_lst h
def rngD (n : Nat) : List Da := (List.range n).map fun (i : Nat) => Da.int (i : Int)
theorem rngD_get {n i : Nat} {x : Da} (h : (rngD n)[i]? = some x) : i < n ∧ x = .int (i : Int) := by
  unfold rngD at h
  rw [List.getElem?_map] at h
  by_cases hi : i < n
  · rw [List.getElem?_range hi] at h
    exact ⟨hi, (Option.some.inj h).symm⟩
  · rw [List.getElem?_eq_none (by rw [List.length_range]; omega)] at h
    cases h
theorem src_rng {t : TA} {n : Nat} (h : EA C t env [.d (.int (n : Int))]) (hn : n ≤ 1000000) : Src C (iRng1 t) env (rngD n) := fun σ H Hd s e R k => h σ H Hd s e _ fun vs Hd1 H1 e1 e2 n1 r1 => by
  cases r1 with
  | cons r1 l =>
    cases l
    cases r1 with
    | d r1 =>
      cases r1
      refine ⟨(n : Int), rfl, by omega, by omega, ?_⟩
      have e0 : ((n : Int)).toNat = n := by omega
      rw [e0]
      refine k _ Hd1 H1 e1 e2 n1 fun Hd2 H2 e3 e4 i => ⟨fun x hx => ?_, fun hi => ?_⟩
      · obtain ⟨hi, ex⟩ := rngD_get hx
        refine ⟨hi, fun v H3 hy => ?_⟩
        obtain ⟨rfl, hv⟩ := hy
        rw [Int.zero_add] at hv
        rw [hv, ex]
        exact ⟨Hd2, Ex.refl _, e4, Nw.refl _ _, .int _⟩
      · have q : (rngD n).length ≤ i := hi
        unfold rngD at q
        rw [List.length_map, List.length_range] at q
        exact q
theorem src_zip {t : TA} (h : EA C t env [.d (.tup xs), .d (.tup ys)]) : Src C (RZ.iZipA K t) env ((xs.zip ys).map fun p => .tup [p.1, p.2]) := fun σ H Hd s e R k => h σ H Hd s e _ fun vs Hd1 H1 e1 e2 n1 r1 => by
  cases r1 with
  | cons r1 l =>
    cases l with
    | cons r2 l =>
      cases l
      cases r1 with
      | d r1 =>
        cases r2 with
        | d r2 =>
          cases r1 with
          | @tup a us _ ga la =>
            cases r2 with
            | @tup b ws _ gb lb =>
              refine ⟨a, b, us, ws, rfl, .inr ⟨st_of (e2 _ _ ga), st_of (e2 _ _ gb), k _ Hd1 H1 e1 e2 n1 fun Hd2 H2 e3 e4 i => ⟨fun x hx => ?_, fun hi => ?_⟩⟩⟩
              · rw [List.getElem?_map] at hx
                cases hz : (xs.zip ys)[i]? with
                | none =>
                  rw [hz] at hx
                  cases hx
                | some p =>
                  rw [hz] at hx
                  have ep := Option.some.inj hx
                  subst ep
                  rw [List.getElem?_zip_eq_some] at hz
                  obtain ⟨u, hu, ru⟩ := la.get hz.1
                  obtain ⟨w, hw, rw'⟩ := lb.get hz.2
                  have sa : SqT K H2 a us := st_of (e4 _ _ (e3 _ _ ga))
                  have sb : SqT K H2 b ws := st_of (e4 _ _ (e3 _ _ gb))
                  refine ⟨⟨us, ws, u, w, sa, sb, hu, hw⟩, fun v H3 hy => ?_⟩
                  obtain ⟨T, x', y', rfl, hT, rfl, q1, q2⟩ := hy
                  have z1 := q1 us sa
                  have z2 := q2 ws sb
                  rw [hu] at z1
                  rw [hw] at z2
                  cases z1
                  cases z2
                  have fr : Hd2 T = none := fresh_back e4 hT
                  exact ⟨upd Hd2 T (.tup [u, w]), Ex.new hT, ex_upd e4, Nw.new e4 hT, .tup upd_same (.cons ((ru.mono e3).mono (Ex.new fr)) (.cons ((rw'.mono e3).mono (Ex.new fr)) .nil))⟩
              · refine ⟨us, ws, st_of (e4 _ _ (e3 _ _ ga)), st_of (e4 _ _ (e3 _ _ gb)), ?_⟩
                rw [List.length_map, List.length_zip] at hi
                rw [la.length, lb.length]
                omega
/-! ### comprehensions -/
theorem ed_lc {α : Type} {as : List α} {enc : α → Da} (f : α → Da) (p : α → Bool) (vs : List Nat) (hs : Src C wi env (as.map enc)) (hz : as.length ≤ 40000) (hj : ∀ j, j ∈ js → j ∈ vs) (e2 : α → En) (hg : ∀ x, x ∈ as → GD C g (enc x) (wipeE env vs) js (e2 x))
    (ht : ∀ x, x ∈ as → ET C tt (e2 x) (p x)) (he : ∀ x, x ∈ as → p x = true → ED C te (e2 x) (.d (f x))) : ED C (tLc wi g tt te vs) env (.d (.lst ((as.filter p).map f))) := fun σ H0 Hd0 s e Q k =>
  hs σ H0 Hd0 s e _ fun J Hd1 H1 e1 ex1 n1 js1 D hD => by
    have k1 : OK1 C Hd1 H1 (.d (.lst ((as.filter p).map f))) Q := k.on e1 n1
    have hdD : Hd1 D = none := fresh_back ex1 hD
    have so1 := (s.mono n1.1).wipe vs
    let Pv : Nat → Hp → Prop := fun i H => ∃ (Hd : Hp) (acc : List V), Ex H1 H ∧ Ex Hd H ∧ Nw Hd1 H1 Hd ∧ Hd D = none ∧ H D = some (.lst acc) ∧ RpL Hd acc (((as.take i).filter p).map f)
    refine ⟨fun i m H => m = as.length - i ∧ i ≤ as.length ∧ Pv i H, ⟨as.length, by simp, Nat.zero_le _, Hd1, [], Ex.new hD, Ex.trans ex1 (Ex.new hD), Nw.refl _ _, hdD, upd_same, by rw [List.take_zero]; exact .nil⟩, ?_⟩
    rintro i m H ⟨rfl, hi, Hd, acc, a1, a2, a3, a4, a5, a6⟩
    obtain ⟨q1, q2⟩ := js1 Hd H a3.1 a2 i
    by_cases hlt : i < as.length
    · have hx : as[i]? = some as[i] := List.getElem?_eq_getElem hlt
      have hm : as[i] ∈ as := List.getElem_mem hlt
      obtain ⟨go, yl⟩ := q1 (enc as[i]) (by rw [List.getElem?_map, hx]; rfl)
      refine .inr ⟨go, Pv (i + 1), fun H' p' => ⟨as.length - (i + 1), by omega, rfl, hlt, p'⟩, fun v H2 hy => ?_⟩
      obtain ⟨Hd2, b1, b2, b3, b4⟩ := yl v H2 hy
      have b5 : Hd2 D = none := b3.2 D a4 (by rw [a5]; intro z; cases z)
      refine hg _ hm v (L2.wipe σ vs) H2 Hd2 ((so1.mono a3.1).mono b3.1) b2 b4 _ fun σ2 so2 w2 => ⟨by rw [w2 vs hj, wipe_wipe], ?_⟩
      refine ht _ hm σ2 H2 Hd2 so2 b2 _ fun H3 c1 => ?_
      have tk : as.take (i + 1) = as.take i ++ [as[i]] := by rw [List.take_add_one, hx]; rfl
      have nw2 : Nw Hd1 H1 Hd2 := a3.trans a1 b3
      have D3 : H3 D = some (.lst acc) := c1 _ _ (b1 _ _ a5)
      cases hp : p as[i] with
      | true =>
        show te σ2 H3 _
        refine he _ hm hp σ2 H3 Hd2 so2 (b2.trans c1) _ fun v' Hd3 H4 d1 d2 d3 d4 => ?_
        have d5 : Hd3 D = none := d3.2 D b5 (by rw [D3]; intro z; cases z)
        refine ⟨acc, d1 _ _ D3, sz_lt (by rw [a6.length, List.length_map]; have := List.length_filter_le p (as.take i); have := List.length_take_le i as; omega), Hd3, acc ++ [v'], ?_, ex_mut d2 d5, nw2.trans ((a1.trans b1).trans c1) d3, d5, upd_same, ?_⟩
        · exact ex_mut (((a1.trans b1).trans c1).trans d1) hD
        · rw [tk, List.filter_append, List.map_append, List.filter_cons, if_pos hp]
          cases d4 with
          | d d4 => exact ((a6.mono b3.1).mono d3.1).append (.one d4)
      | false =>
        refine ⟨Hd2, acc, (a1.trans b1).trans c1, b2.trans c1, nw2, b5, D3, ?_⟩
        rw [tk, List.filter_append, List.map_append, List.filter_cons, if_neg (by rw [hp]; exact Bool.false_ne_true)]
        show RpL Hd2 acc (_ ++ [])
        rw [List.append_nil]
        exact a6.mono b3.1
    · have ei : i = as.length := by omega
      subst ei
      refine .inl ⟨q2 (by rw [List.length_map]; exact Nat.le_refl _), ?_⟩
      rw [List.take_length] at a6
      have h0 : Ex (upd Hd D (.lst acc)) H := fun b o hb => by
        by_cases z : b = D
        · rw [z, upd_same] at hb
          rw [z, a5]
          exact hb
        · rw [upd_ne z] at hb
          exact a2 b o hb
      exact k1 _ (upd Hd D (.lst acc)) H a1 h0 ⟨a3.1.trans (Ex.new a4), fun b hb hb' => by
        have z : b ≠ D := fun z => by
          rw [z] at hb'
          exact hb' hD
        rw [upd_ne z]
        exact a3.2 b hb hb'⟩ (.d (.lst upd_same (a6.mono (Ex.new a4))))
/-- without a test -/
theorem ed_lc0 {α : Type} {as : List α} {enc : α → Da} (f : α → Da) (vs : List Nat) (hs : Src C wi env (as.map enc)) (hz : as.length ≤ 40000) (hj : ∀ j, j ∈ js → j ∈ vs) (e2 : α → En) (hg : ∀ x, x ∈ as → GD C g (enc x) (wipeE env vs) js (e2 x))
    (he : ∀ x, x ∈ as → ED C te (e2 x) (.d (f x))) : ED C (tLc wi g tYes te vs) env (.d (.lst (as.map f))) := by
  have h := ed_lc (te := te) (tt := tYes) f (fun _ => true) vs hs hz hj e2 hg (fun x hx σ H Hd s e Q k => k H (Ex.refl H)) (fun x hx _ => he x hx)
  rw [List.filter_eq_self.mpr (fun _ _ => rfl)] at h
  exact h
/-- all([..]), any([..]) -/
theorem ed_all {α : Type} {as : List α} {g : α → Bool} (h : ED C te env (.d (.lst (as.map fun x => .bl (g x))))) : ED C (tCB (rAll K) (tCons te tNil)) env (.d (.bl (as.all g))) := by
  have e1 : as.map (fun x => Da.bl (g x)) = (as.map g).map Da.bl := by rw [List.map_map]; rfl
  rw [e1] at h
  have h2 := ed_cb (ea_cons h ea_nil) (rc_all (C := C) (K := K) (bs := as.map g))
  rw [List.all_map] at h2
  exact h2
theorem ed_any {α : Type} {as : List α} {g : α → Bool} (h : ED C te env (.d (.lst (as.map fun x => .bl (g x))))) : ED C (tCB (rAny K) (tCons te tNil)) env (.d (.bl (as.any g))) := by
  have e1 : as.map (fun x => Da.bl (g x)) = (as.map g).map Da.bl := by rw [List.map_map]; rfl
  rw [e1] at h
  have h2 := ed_cb (ea_cons h ea_nil) (rc_any (C := C) (K := K) (bs := as.map g))
  rw [List.any_map] at h2
  exact h2
/-! ### statements -/
theorem sr_ret (h : ED C te env d) : SRet C (tRet te) env d := fun σ H Hd s e D k => h σ H Hd s e _ k
theorem sr_seqR (h : SRet C t env d) : SRet C (tSeq t u) env d := fun σ H Hd s e D k => h σ H Hd s e { D with nx := u D } k
theorem sr_seq (h : SNx C t env env1) (h2 : SRet C u env1 d) : SRet C (tSeq t u) env d := fun σ H Hd s e D k =>
  h σ H Hd s e { D with nx := u D } fun σ' Hd' H' e1 e2 n1 s1 => h2 σ' H' Hd' s1 e2 D (k.on e1 n1)
theorem sr_if (h : ET C tt env b) (h1 : b = true → SRet C t env d) (h2 : b = false → SRet C u env d) : SRet C (tIfS tt t u) env d := fun σ H Hd s e D k => h σ H Hd s e _ fun H1 e1 => by
  cases b with
  | true => exact h1 rfl σ H1 Hd s (e.trans e1) D (k.on e1 (Nw.refl _ _))
  | false => exact h2 rfl σ H1 Hd s (e.trans e1) D (k.on e1 (Nw.refl _ _))
/-- if c: (returns); rest -/
theorem sr_when (h : ET C tt env b) (h1 : b = true → SRet C t env d) (h2 : b = false → SRet C u env d) : SRet C (tSeq (tIfS tt t tNext) u) env d := fun σ H Hd s e D k => h σ H Hd s e _ fun H1 e1 => by
  cases b with
  | true => exact h1 rfl σ H1 Hd s (e.trans e1) { D with nx := u D } (k.on e1 (Nw.refl _ _))
  | false => exact h2 rfl σ H1 Hd s (e.trans e1) D (k.on e1 (Nw.refl _ _))
theorem sn_next : SNx C tNext env env := fun σ H Hd s e D k => k σ Hd H (Ex.refl H) e (Nw.refl _ _) s
theorem sn_asg {i : Nat} (h : ED C te env d) : SNx C (tAsg te (gName i)) env (env.set i (some d)) := fun σ H Hd s e D k => h σ H Hd s e _ fun v Hd1 H1 e1 e2 n1 r1 => k _ Hd1 H1 e1 e2 n1 ((s.mono n1.1).set r1)
theorem sn_seq (h : SNx C t env env1) (h2 : SNx C u env1 env2) : SNx C (tSeq t u) env env2 := fun σ H Hd s e D k =>
  h σ H Hd s e { D with nx := u D } fun σ' Hd' H' e1 e2 n1 s1 => h2 σ' H' Hd' s1 e2 D fun σ'' Hd'' H'' e3 e4 n2 s2 => k σ'' Hd'' H'' (e1.trans e3) e4 (n1.trans e1 n2) s2
theorem sn_if (h : ET C tt env b) (h1 : b = true → SNx C t env env2) (h2 : b = false → SNx C u env env2) : SNx C (tIfS tt t u) env env2 := fun σ H Hd s e D k => h σ H Hd s e _ fun H1 e1 => by
  have k1 : ∀ σ' Hd' H', Ex H1 H' → Ex Hd' H' → Nw Hd H1 Hd' → SO C Hd' σ' env2 → D.nx σ' H' := fun σ' Hd' H' a1 a2 a3 a4 => k σ' Hd' H' (e1.trans a1) a2 ((Nw.refl Hd H).trans e1 a3) a4
  cases b with
  | true => exact h1 rfl σ H1 Hd s (e.trans e1) D k1
  | false => exact h2 rfl σ H1 Hd s (e.trans e1) D k1
theorem sn_weak (h : SNx C t env env1) (hl : env2.length = env1.length) (hw : ∀ (i : Nat) (d : Sv), env2[i]? = some (some d) → env1[i]? = some (some d)) : SNx C t env env2 := fun σ H Hd s e D k =>
  h σ H Hd s e D fun σ' Hd' H' e1 e2 n1 s1 => k σ' Hd' H' e1 e2 n1 (s1.weak hl hw)
theorem sn_weak' (h : SNx C t env env1) (hl : env.length = env2.length) (hw : ∀ (i : Nat) (d : Sv), env[i]? = some (some d) → env2[i]? = some (some d)) : SNx C t env2 env1 := fun σ H Hd s e D k =>
  h σ H Hd (s.weak hl hw) e D k
/-! ### loops -/
theorem sr_for {α : Type} {as : List α} {enc : α → Da} {g : TG} (e : Nat → En) (o : Nat → Bool) (E2 : Nat → α → En) (h0 : ∀ (i : Nat) (d : Sv), (e 0)[i]? = some (some d) → env[i]? = some (some d)) (hl : (e 0).length = env.length) (hs : Src C wi env (as.map enc))
    (hg : ∀ (i : Nat) (x : α), as[i]? = some x → GD C g (enc x) (e i) js (E2 i x))
    (hr : ∀ (i : Nat) (x : α), as[i]? = some x → (∀ j, j < i → o j = false) → o i = true → SRet C tb' (E2 i x) d)
    (hn : ∀ (i : Nat) (x : α), as[i]? = some x → (∀ j, j < i → o j = false) → o i = false → SNx C tb' (E2 i x) (e (i + 1)))
    (hd : (∀ j, j < as.length → o j = false) → SRet C u (e as.length) d) : SRet C (tSeq (tFor wi g tb') u) env d := fun σ H0 Hd0 s ex0 D k =>
  hs σ H0 Hd0 s ex0 _ fun J Hd1 H1 e1 ex1 n1 js1 => by
    have k1 : OK1 C Hd1 H1 d D.rt := k.on e1 n1
    refine ⟨fun i m σ H => m = as.length - i ∧ i ≤ as.length ∧ (∀ j, j < i → o j = false) ∧ ∃ Hd, Ex H1 H ∧ Ex Hd H ∧ Nw Hd1 H1 Hd ∧ SO C Hd σ (e i),
      ⟨as.length, by simp, Nat.zero_le _, fun j hj => absurd hj (Nat.not_lt_zero _), Hd1, Ex.refl _, ex1, Nw.refl _ _, (s.mono n1.1).weak hl h0⟩, ?_⟩
    rintro i m σ' H ⟨rfl, hi, ho, Hd, a1, a2, a3, a4⟩
    obtain ⟨q1, q2⟩ := js1 Hd H a3.1 a2 i
    by_cases hlt : i < as.length
    · have hx : as[i]? = some as[i] := List.getElem?_eq_getElem hlt
      obtain ⟨go, yl⟩ := q1 (enc as[i]) (by rw [List.getElem?_map, hx]; rfl)
      cases hoi : o i with
      | true =>
        refine .inr ⟨go, fun _ _ => False, fun _ _ z => z.elim, fun v H2 hy => ?_⟩
        obtain ⟨Hd2, b1, b2, b3, b4⟩ := yl v H2 hy
        refine hg i _ hx v σ' H2 Hd2 (a4.mono b3.1) b2 b4 _ fun σ2 so2 w2 => ?_
        exact hr i _ hx ho hoi σ2 H2 Hd2 so2 b2 _ ((k1.on a1 a3).on b1 b3)
      | false =>
        refine .inr ⟨go, fun σ2 H2 => ∃ Hd, Ex H1 H2 ∧ Ex Hd H2 ∧ Nw Hd1 H1 Hd ∧ SO C Hd σ2 (e (i + 1)), fun σ2 H2 p2 => ⟨as.length - (i + 1), by omega, rfl, hlt, fun j hj => ?_, p2⟩, fun v H2 hy => ?_⟩
        · by_cases z : j = i
          · rw [z]
            exact hoi
          · exact ho j (by omega)
        · obtain ⟨Hd2, b1, b2, b3, b4⟩ := yl v H2 hy
          refine hg i _ hx v σ' H2 Hd2 (a4.mono b3.1) b2 b4 _ fun σ2 so2 w2 => ?_
          exact hn i _ hx ho hoi σ2 H2 Hd2 so2 b2 _ fun σ3 Hd3 H3 c1 c2 c3 c4 => ⟨Hd3, (a1.trans b1).trans c1, c2, (a3.trans a1 b3).trans (a1.trans b1) c3, c4⟩
    · have ei : i = as.length := by omega
      subst ei
      exact .inl ⟨q2 (by rw [List.length_map]; exact Nat.le_refl _), hd ho σ' H Hd a4 a2 D (k1.on a1 a3)⟩
theorem sr_while {α : Type} (e : α → En) (I : α → Prop) (m : α → Nat) (bb : α → Bool) (nx : α → α) (a0 : α) (h0 : env = e a0) (i0 : I a0) (hc : ∀ a, I a → ET C tt (e a) (bb a))
    (hb : ∀ a, I a → bb a = true → SNx C t (e a) (e (nx a)) ∧ I (nx a) ∧ m (nx a) < m a) (hd : ∀ a, I a → bb a = false → SRet C u (e a) d) : SRet C (tSeq (tWhile tt t) u) env d := fun σ H0 Hd0 s ex0 D k => by
  subst h0
  refine ⟨fun n σ H => ∃ a, n = m a ∧ I a ∧ ∃ Hd, Ex H0 H ∧ Ex Hd H ∧ Nw Hd0 H0 Hd ∧ SO C Hd σ (e a), ⟨m a0, a0, rfl, i0, Hd0, Ex.refl _, ex0, Nw.refl _ _, s⟩, ?_⟩
  rintro n σ' H ⟨a, rfl, ia, Hd, a1, a2, a3, a4⟩
  refine hc a ia σ' H Hd a4 a2 _ fun H1 c1 => ?_
  cases hba : bb a with
  | true =>
    rw [if_pos rfl]
    obtain ⟨g1, g2, g3⟩ := hb a ia hba
    refine ⟨fun σ2 H2 => ∃ Hd, Ex H0 H2 ∧ Ex Hd H2 ∧ Nw Hd0 H0 Hd ∧ SO C Hd σ2 (e (nx a)), fun σ2 H2 p2 => ⟨m (nx a), g3, nx a, rfl, g2, p2⟩, ?_⟩
    exact g1 σ' H1 Hd a4 (a2.trans c1) _ fun σ3 Hd3 H3 d1 d2 d3 d4 => ⟨Hd3, (a1.trans c1).trans d1, d2, a3.trans (a1.trans c1) d3, d4⟩
  | false =>
    rw [if_neg Bool.false_ne_true]
    exact hd a ia hba σ' H1 Hd a4 (a2.trans c1) D (k.on (a1.trans c1) a3)
end
end K13

set_option Elab.async false
set_option linter.all false
set_option maxRecDepth 100000
set_option maxHeartbeats 4000000
/-! KD: the text by places, calls of defs. -/
namespace K13
open PySem PySem.Spec PyProof.Rows L2
open Evl (Ex ex_l ex_t sq_of st_of sz_of fresh_back)
def topS (i : Nat) : Stmt := PySem.Challenge.pw_everydeed_k13_refusals_of_siphons_and_tr.main.body.getD i (.Pass ⟨0, 0, 0, 0⟩)
/-- the builtins that stand as they did -/
structure Bt (mg : Str → Option Value) : Prop where
  len_ : mg "len" = none
  all_ : mg "all" = none
  any_ : mg "any" = none
  isinstance_ : mg "isinstance" = none
  abs_ : mg "abs" = none
  sorted_ : mg "sorted" = none
  min_ : mg "min" = none
  int_ : mg "int" = none
  bool_ : mg "bool" = none
  str_ : mg "str" = none
  tuple_ : mg "tuple" = none
  list_ : mg "list" = none
  range_ : mg "range" = none
  zip_ : mg "zip" = none
  enumerate_ : mg "enumerate" = none
  ValueError_ : mg "ValueError" = none
theorem b_len : bootBuiltins "len" = some (.builtin "len") := by decide +kernel
theorem b_all : bootBuiltins "all" = some (.builtin "all") := by decide +kernel
theorem b_any : bootBuiltins "any" = some (.builtin "any") := by decide +kernel
theorem b_isinstance : bootBuiltins "isinstance" = some (.builtin "isinstance") := by decide +kernel
theorem b_abs : bootBuiltins "abs" = some (.builtin "abs") := by decide +kernel
theorem b_sorted : bootBuiltins "sorted" = some (.builtin "sorted") := by decide +kernel
theorem b_min : bootBuiltins "min" = some (.builtin "min") := by decide +kernel
theorem b_int : bootBuiltins "int" = some (.type "int") := by decide +kernel
theorem b_bool : bootBuiltins "bool" = some (.type "bool") := by decide +kernel
theorem b_str : bootBuiltins "str" = some (.type "str") := by decide +kernel
theorem b_tuple : bootBuiltins "tuple" = some (.type "tuple") := by decide +kernel
theorem b_list : bootBuiltins "list" = some (.type "list") := by decide +kernel
theorem b_ValueError : bootBuiltins "ValueError" = some (.type "ValueError") := by decide +kernel
/-! ### rules with the written part named -/
section
variable (K : PySem.W.Frag) {X : Cx} {e a b : Expr} {te ta tb : TE} {pos : Pos}
theorem op_inK (h : X.K = K := by rfl) : OpR X (compareOp .In) (rIn K false) := by subst h; exact op_in_seq
theorem op_niK (h : X.K = K := by rfl) : OpR X (compareOp .NotIn) (rIn K true) := by subst h; exact op_notIn_seq
theorem ix_tupK (h : X.K = K := by rfl) : IxR X (rIxT K) := by subst h; exact ix_tup
theorem ix_listK (h : X.K = K := by rfl) : IxR X (rIxL K) := by subst h; exact ix_list
theorem sl_tupK (h : X.K = K := by rfl) : SlR X (rSlA K) := by subst h; exact sl_tupA
theorem sl_listK (h : X.K = K := by rfl) : SlR X (rSlL K) := by subst h; exact sl_list
theorem op_catK (h : X.K = K := by rfl) : OpR X (binaryOp .Add) (rCatA K) := by subst h; exact op_catA
def rLenK (K : PySem.W.Frag) : List V → Hp → VK → Prop := fun xs H Q => ∃ p ys, xs = [.ref p] ∧ (SqL K H p ys ∨ SqT K H p ys) ∧ Q (.int ys.length) H
theorem call_lenK (h : X.K = K := by rfl) : CallR X (.builtin "len") (rLenK K) := by subst h; exact call_len_seq
def rListK (K : PySem.W.Frag) : List V → Hp → VK → Prop := fun xs H Q => ∃ p ys, xs = [.ref p] ∧ (SqL K H p ys ∨ SqT K H p ys) ∧ ∀ l, H l = none → Q (.ref l) (upd H l (.lst ys))
theorem call_listK (h : X.K = K := by rfl) : CallR X (.type "list") (rListK K) := by subst h; exact call_list_of
def rTupK (K : PySem.W.Frag) : List V → Hp → VK → Prop := fun xs H Q => ∃ p ys, xs = [.ref p] ∧ ((SqL K H p ys ∧ ∀ l, H l = none → Q (.ref l) (upd H l (.tup ys))) ∨ (SqT K H p ys ∧ Q (.ref p) H))
theorem call_tupK (h : X.K = K := by rfl) : CallR X (.type "tuple") (rTupK K) := by subst h; exact call_tuple_of
theorem cr_allK (hc : X.calm = true) (h : X.K = K := by rfl) : CallR X (.builtin "all") (rAll K) := by subst h; exact cr_all hc
theorem cr_anyK (hc : X.calm = true) (h : X.K = K := by rfl) : CallR X (.builtin "any") (rAny K) := by subst h; exact cr_any hc
theorem call_isiK' (h : X.K = K := by rfl) : CallR X (.builtin "isinstance") (rIsi K) := by subst h; exact call_isi
theorem op_eqK (hu : X.A.units + 64 < cLine) (h : X.K = K := by rfl) : OpR X (compareOp .Eq) (rEqD K) := by subst h; exact op_eqD hu
theorem op_neK (hu : X.A.units + 64 < cLine) (h : X.K = K := by rfl) : OpR X (compareOp .NotEq) (rNeD K) := by subst h; exact op_neD hu
theorem pe_fldK {f : Str} (he : PE X e ta) (hb : attributeBase e f X.env (eval e X.env) = eval e X.env) (h : X.K = K := by rfl) : PE X (.Attribute e f pos) (tFld K ta f) := by subst h; exact pe_fld he hb
theorem pi_tupK {tg l : Expr} {tl : TE} (hl : PE X l tl) (h : X.K = K := by rfl) : PI X tg l (iTup K tl) := by subst h; exact pi_tup hl
theorem pi_listK {tg l : Expr} {tl : TE} (hl : PE X l tl) (h : X.K = K := by rfl) : PI X tg l (iList K tl) := by subst h; exact pi_list hl
theorem pi_zipK {e2 : Expr} {t : TA} {p tpos : Pos} {elts : List Expr} {kk : Nat} (hg : Gl X "zip") (hm : X.mg "zip" = none) (ha : PA X [e, e2] t)
    (hs : starEach [e, e2] X.env = (false, eval e X.env) :: starEach [e2] X.env := by rfl) (hpl : (backTo pos (starEach [e2] X.env)).any (·.1) = false := by rfl) (h : X.K = K := by rfl) :
    PI X (.Tuple elts kk tpos) (.Call (.Name "zip" p) [e, e2] [] pos) (RZ.iZipA K t) := by subst h; exact RZ.pi_zipA hg hm ha hs hpl
theorem pg_tupK {es : List Expr} {k : Nat} {t : TGs} {n : Nat} (hc : X.calm = true) (hh : PGs X es t)
    (hn : (assignEach es X.env).length = n := by rfl) (hst : (assignEach es X.env).findIdx? (·.1) = none := by rfl) (h : X.K = K := by rfl) : PG X (.Tuple es k pos) (gTup K n t) := by subst h; exact pg_tup hc hh hn hst
end
/-- a def that may be called by its name -/
structure Cal (P : Program) (w : World) (K : PySem.W.Frag) (mg : Str → Option Value) (base : Heap) (cx : CXT) (k : Nat) (x : Str) (sp : Sp) : Prop where
  ex : ∃ (f : Addr) (fd : FuncData) (ps : List Str), FnOk P w K mg base cx k f fd ps sp ∧ mg x = some (.ref f) ∧ PySem.W.keepIn K (.ref f) = true ∧ Binds K fd ps []
/-- a def of the text as the top has left it -/
structure DefAt (K : PySem.W.Frag) (mg : Str → Option Value) (x : Str) (st : Stmt) : Prop where
  ex : ∃ (f : Addr) (fd : FuncData), Fun K x x st f fd ∧ mg x = some (.ref f)
section
variable {P : Program} {w : World} {K : PySem.W.Frag} {mg : Str → Option Value} {base : Heap}
theorem pe_cal {X : Cx} {cx : CXT} {k j : Nat} {x : Str} {sp : Sp} {E : XK} {p pos : Pos} {e : Expr} {es : List Expr} {t : TA} (c : Cal X.prog X.w X.K X.mg X.base cx k x sp) (hr : Room j X.A) (hk : k ≤ j) (hg : Gl X x) (hx : Passes cx X E) (ha : PA X (e :: es) t)
    (hdb : (x == ("__debug__" : Str)) = false := by decide) (he : starEach (e :: es) X.env = (false, eval e X.env) :: starEach es X.env := by rfl) (hpl : (backTo pos (starEach es X.env)).any (·.1) = false := by rfl) :
    PE X (.Call (.Name x p) (e :: es) [] pos) (tCall sp [] E t) := by
  obtain ⟨f, fd, ps, F, hm, kp, b⟩ := c.ex
  exact pe_call F (hr.mono hk) hg hm kp b .nil hx ha hdb he hpl
/-- how a def's arguments bind -/
def BindOk (x : Str) (st : Stmt) (ps : List Str) : Prop := ∀ (kV doc pm : Value) (an : Option Addr) (cdv ct : Value) (us : List Value), us.length = ps.length →
  bindArgs (PySem.W.fnOf x x (defArgs st) (defBody st) (defScope st) .none kV doc pm an cdv ct) ⟨us, []⟩ = pure (ps.zip us)
theorem cal_of {x : Str} {st : Stmt} {N ps : List Str} {k : Nat} {sp : Sp} (F : DefAt K mg x st) (S : FnScope N ps (defScope st)) (hb : BindOk x st ps) (len : ∀ vs H Q E, sp vs H Q E → vs.length = ps.length)
    (body : ∀ (f : Addr) (cdv : Value) (A : Around) (outer : List Env) (s : Shared) (H : Hp) (vs : List V) (Q : VK) (E : XK), Room k (A.deeper (envOfC x (defScope st) s.heap.objs.size f cdv)) → sp vs H Q E →
      ∃ t, PSs (cxOf CX0 P w K mg base N x (defScope st) f cdv A outer s H E).nox (defBody st) t ∧ t { nx := fun _ H' => Q .non H', rt := Q } (L2.start N vs) H) : Cal P w K mg base CX0 (k + 1) x sp := by
  obtain ⟨f, fd, F, hm⟩ := F.ex
  exact ⟨f, fd, ps, F.ok S len fun cdv A outer s H vs Q E hr h => body f cdv A outer s H vs Q E hr h, hm, F.kp, F.binds hb⟩
/-- a def that only returns what is told of its data -/
theorem cal_pure {C : CW} {x : Str} {st : Stmt} {N ps : List Str} {k : Nat} {pre : List Sv → Sv → Prop} (F : DefAt K mg x st) (S : FnScope N ps (defScope st)) (hb : BindOk x st ps) (len : ∀ ds r, pre ds r → ds.length = ps.length)
    (body : ∀ (f : Addr) (cdv : Value) (A : Around) (outer : List Env) (s : Shared) (H : Hp) (E : XK), Room k (A.deeper (envOfC x (defScope st) s.heap.objs.size f cdv)) →
      ∃ t, PSs (cxOf CX0 P w K mg base N x (defScope st) f cdv A outer s H E).nox (defBody st) t ∧ ∀ ds r, pre ds r → SRet C t (startE N ds) r) : Cal P w K mg base CX0 (k + 1) x (spD C pre) := by
  refine cal_of F S hb (fun vs H Q E h => ?_) fun f cdv A outer s H vs Q E hr h => ?_
  · obtain ⟨Hd, ds, r, e, ra, hp, k⟩ := h
    rw [ra.length]
    exact len ds r hp
  · obtain ⟨Hd, ds, r, e, ra, hp, kk⟩ := h
    obtain ⟨t, ht, hq⟩ := body f cdv A outer s H E hr
    exact ⟨t, ht, hq ds r hp _ H Hd (SO.start ra) e _ kk⟩
end
end K13

set_option Elab.async false
set_option linter.all false
set_option maxRecDepth 100000
set_option maxHeartbeats 4000000
namespace K13
open PySem PySem.Spec PyProof.Rows L2
open Evl (Ex)
/-! ### the small judges -/
def isInteger : Da → Bool | .int _ => true | _ => false
def isWithin (d : Da) (lo hi : Int) : Bool := match d with | .int i => decide (lo ≤ i) && decide (i ≤ hi) | _ => false
def isNumber : Da → Bool | .int i => decide (0 ≤ i) | _ => false
def isTuple (d : Da) (lo hi : Int) : Bool := match d with | .tup xs => decide (lo ≤ (xs.length : Int)) && decide ((xs.length : Int) ≤ hi) | _ => false
inductive pInteger : List Sv → Sv → Prop | mk (d : Da) : pInteger [.d d] (.d (.bl (isInteger d)))
inductive pWithin : List Sv → Sv → Prop | mk (d : Da) (lo hi : Int) : pWithin [.d d, .d (.int lo), .d (.int hi)] (.d (.bl (isWithin d lo hi)))
inductive pNumber : List Sv → Sv → Prop | mk (d : Da) : pNumber [.d d] (.d (.bl (isNumber d)))
inductive pTuple : List Sv → Sv → Prop | mk (d : Da) (lo hi : Int) : pTuple [.d d, .d (.int lo), .d (.int hi)] (.d (.bl (isTuple d lo hi)))

abbrev s_is_integer : Stmt := topS 1
theorem sc_is_integer : FnScope ["thing"] ["thing"] (defScope s_is_integer) := ⟨rfl, rfl, rfl, by decide +kernel, rfl, by decide +kernel, by decide +kernel⟩
abbrev s_is_within : Stmt := topS 2
theorem sc_is_within : FnScope ["thing", "low", "high"] ["thing", "low", "high"] (defScope s_is_within) := ⟨rfl, rfl, rfl, by decide +kernel, rfl, by decide +kernel, by decide +kernel⟩
abbrev s_is_number : Stmt := topS 3
theorem sc_is_number : FnScope ["thing"] ["thing"] (defScope s_is_number) := ⟨rfl, rfl, rfl, by decide +kernel, rfl, by decide +kernel, by decide +kernel⟩
abbrev s_is_tuple : Stmt := topS 4
theorem sc_is_tuple : FnScope ["thing", "least", "most"] ["thing", "least", "most"] (defScope s_is_tuple) := ⟨rfl, rfl, rfl, by decide +kernel, rfl, by decide +kernel, by decide +kernel⟩
section
variable {P : Program} {w : World} {K : PySem.W.Frag} {mg : Str → Option Value} {base : Heap} {C : CW}
theorem ok_is_integer (B : Bt mg) (F : DefAt K mg "is_integer" s_is_integer) : Cal P w K mg base CX0 1 "is_integer" (spD C pInteger) := by
  refine cal_pure F sc_is_integer (fun _ _ _ _ _ _ us hl => match us, hl with | [_], _ => rfl) (fun ds r h => by cases h; rfl) fun f cdv A outer s H E hr => ⟨_,
    (pss_one (ps_ret (pe_and (pe_callB (call_isiK' K) (by rfl) B.isinstance_ b_isinstance (pa_cons (pv 0) (pa_cons (pe_bltn (v := .ty "int") (by rfl) B.int_ b_int rfl) pa_nil))) (pe_one (pe_not (pe_callB (call_isiK' K) (by rfl) B.isinstance_ b_isinstance (pa_cons (pv 0) (pa_cons (pe_bltn (v := .ty "bool") (by rfl) B.bool_ b_bool rfl) pa_nil)))))))), fun ds r h => ?_⟩
  cases h with
  | mk d =>
    refine sr_ret (ed_is (ed_andV (ed_cb (ea_cons (ed_var rfl) (ea_cons ed_ty ea_nil)) rc_isI) fun _ => ed_notV (ed_cb (ea_cons (ed_var rfl) (ea_cons ed_ty ea_nil)) rc_isB)) ?_)
    cases d <;> rfl
theorem ok_is_within (c_is_integer : Cal P w K mg base CX0 1 "is_integer" (spD C pInteger)) (F : DefAt K mg "is_within" s_is_within) : Cal P w K mg base CX0 2 "is_within" (spD C pWithin) := by
  refine cal_pure F sc_is_within (fun _ _ _ _ _ _ us hl => match us, hl with | [_, _, _], _ => rfl) (fun ds r h => by cases h; rfl) fun f cdv A outer s H E hr => ⟨_,
    (pss_one (ps_ret (pe_and (pe_cal c_is_integer hr (by decide) rfl pass0 (pa_cons (pv 0) pa_nil)) (pe_one (pe_chain op_le op_le (pv 1) (pv 0) (pv 2)))))), fun ds r h => ?_⟩
  cases h with
  | mk d lo hi =>
    cases d with
    | int i => exact sr_ret (ed_is (ed_andV (ed_call (ea_cons (ed_var rfl) ea_nil) (.mk _)) fun _ => ed_chain (ed_var rfl) (ed_var rfl) rv_B0 (fun _ => ed_var rfl) (fun _ => rv_B0)) rfl)
    | _ => exact sr_ret (ed_is (ed_andV (c := false) (ed_call (ea_cons (ed_var rfl) ea_nil) (.mk _)) fun z => nomatch z) rfl)
theorem ok_is_number (c_is_integer : Cal P w K mg base CX0 1 "is_integer" (spD C pInteger)) (F : DefAt K mg "is_number" s_is_number) : Cal P w K mg base CX0 2 "is_number" (spD C pNumber) := by
  refine cal_pure F sc_is_number (fun _ _ _ _ _ _ us hl => match us, hl with | [_], _ => rfl) (fun ds r h => by cases h; rfl) fun f cdv A outer s H E hr => ⟨_,
    (pss_one (ps_ret (pe_and (pe_cal c_is_integer hr (by decide) rfl pass0 (pa_cons (pv 0) pa_nil)) (pe_one (pe_cmpR op_ge (pv 0) pe_int (nomark _)))))), fun ds r h => ?_⟩
  cases h with
  | mk d =>
    cases d with
    | int i => exact sr_ret (ed_is (ed_andV (ed_call (ea_cons (ed_var rfl) ea_nil) (.mk _)) fun _ => ed_op (ed_var rfl) ed_int rv_B0) rfl)
    | _ => exact sr_ret (ed_is (ed_andV (c := false) (ed_call (ea_cons (ed_var rfl) ea_nil) (.mk _)) fun z => nomatch z) rfl)
theorem ok_is_tuple (B : Bt mg) (F : DefAt K mg "is_tuple" s_is_tuple) : Cal P w K mg base CX0 1 "is_tuple" (spD C pTuple) := by
  refine cal_pure F sc_is_tuple (fun _ _ _ _ _ _ us hl => match us, hl with | [_, _, _], _ => rfl) (fun ds r h => by cases h; rfl) fun f cdv A outer s H E hr => ⟨_,
    (pss_one (ps_ret (pe_and (pe_callB (call_isiK' K) (by rfl) B.isinstance_ b_isinstance (pa_cons (pv 0) (pa_cons (pe_bltn (v := .ty "tuple") (by rfl) B.tuple_ b_tuple rfl) pa_nil))) (pe_one (pe_chain op_le op_le (pv 1) (pe_callB (call_lenK K) (by rfl) B.len_ b_len (pa_cons (pv 0) pa_nil)) (pv 2)))))), fun ds r h => ?_⟩
  cases h with
  | mk d lo hi =>
    cases d with
    | tup xs => exact sr_ret (ed_is (ed_andV (ed_cb (ea_cons (ed_var rfl) (ea_cons ed_ty ea_nil)) rc_isT) fun _ => ed_chain (ed_var rfl) (ed_cb (ea_cons (ed_var rfl) ea_nil) rc_len) rv_B0 (fun _ => ed_var rfl) (fun _ => rv_B0)) rfl)
    | _ => exact sr_ret (ed_is (ed_andV (c := false) (ed_cb (ea_cons (ed_var rfl) (ea_cons ed_ty ea_nil)) rc_isT) fun z => nomatch z) rfl)
end
end K13

set_option Elab.async false
set_option linter.all false
set_option maxRecDepth 100000
set_option maxHeartbeats 4000000
namespace K13
open PySem PySem.Spec PyProof.Rows L2
open Evl (Ex)
/-! ### lots -/
def ltD : Da → Da → Bool
  | .int a, .int b => decide (a < b)
  | _, _ => false
def isLot (d : Da) (many : Int) : Bool := match d with
  | .tup xs => xs.all (fun x => isWithin x 0 (many - 1)) && (xs.zip (xs.drop 1)).all fun p => ltD p.1 p.2
  | _ => false
/-- few items at the top -/
def szT : Da → Prop
  | .tup xs => xs.length ≤ 1000
  | _ => True
inductive pLot : List Sv → Sv → Prop | mk (d : Da) (many : Int) (h : szT d) : pLot [.d d, .d (.int many)] (.d (.bl (isLot d many)))
inductive pTouches : List Sv → Sv → Prop | mk (l ps : List Nat) (h : ps.length ≤ 1000) : pTouches [.d (lotD l), .d (lotD ps)] (.d (.bl (touches l ps)))
inductive pKeepsT : List Sv → Sv → Prop | mk (n : NetD) (l : List Nat) (h : NetOk n) : pKeepsT [.net n, .d (lotD l)] (.d (.bl (keepsTrap n.deeds l)))
inductive pKeepsS : List Sv → Sv → Prop | mk (n : NetD) (l : List Nat) (h : NetOk n) : pKeepsS [.net n, .d (lotD l)] (.d (.bl (keepsSiphon n.deeds l)))
inductive pTrapIn : List Sv → Sv → Prop | mk (n : NetD) (l : List Nat) (h : NetOk n) (hl : l.length ≤ 1000) : pTrapIn [.net n, .d (lotD l)] (.d (lotD (trapIn n.deeds l)))
abbrev s_is_lot : Stmt := topS 5
theorem sc_is_lot : FnScope ["thing", "many", "one", "other"] ["thing", "many"] (defScope s_is_lot) := ⟨rfl, rfl, rfl, by decide +kernel, rfl, by decide +kernel, by decide +kernel⟩
abbrev s_touches : Stmt := topS 32
theorem sc_touches : FnScope ["lot", "places", "place"] ["lot", "places"] (defScope s_touches) := ⟨rfl, rfl, rfl, by decide +kernel, rfl, by decide +kernel, by decide +kernel⟩
abbrev s_keeps_siphon : Stmt := topS 33
theorem sc_keeps_siphon : FnScope ["net", "lot", "ins", "outs"] ["net", "lot"] (defScope s_keeps_siphon) := ⟨rfl, rfl, rfl, by decide +kernel, rfl, by decide +kernel, by decide +kernel⟩
abbrev s_keeps_trap : Stmt := topS 34
theorem sc_keeps_trap : FnScope ["net", "lot", "ins", "outs"] ["net", "lot"] (defScope s_keeps_trap) := ⟨rfl, rfl, rfl, by decide +kernel, rfl, by decide +kernel, by decide +kernel⟩
abbrev s_trap_in : Stmt := topS 37
theorem sc_trap_in : FnScope ["net", "lot", "bad", "ins", "outs", "place"] ["net", "lot"] (defScope s_trap_in) := ⟨rfl, rfl, rfl, by decide +kernel, rfl, by decide +kernel, by decide +kernel⟩
theorem within_int {d : Da} {lo hi : Int} (h : isWithin d lo hi = true) : ∃ i, d = .int i ∧ lo ≤ i ∧ i ≤ hi := by
  cases d with
  | int i =>
    have h2 : (decide (lo ≤ i) && decide (i ≤ hi)) = true := h
    simp only [Bool.and_eq_true, decide_eq_true_eq] at h2
    exact ⟨i, rfl, h2⟩
  | _ => cases h
section
variable {P : Program} {w : World} {K : PySem.W.Frag} {mg : Str → Option Value} {base : Heap} {C : CW}
theorem ok_is_lot (B : Bt mg) (c_is_within : Cal P w K mg base CX0 2 "is_within" (spD C pWithin)) (F : DefAt K mg "is_lot" s_is_lot) : Cal P w K mg base CX0 3 "is_lot" (spD C pLot) := by
  refine cal_pure F sc_is_lot (fun _ _ _ _ _ _ us hl => match us, hl with | [_, _], _ => rfl) (fun ds r h => by cases h; rfl) fun f cdv A outer s H E hr => ⟨_,
    (pss_cons (ps_if (PW.pt (pw_or (pt_not (pt_val (pe_callB (call_isiK' K) (by rfl) B.isinstance_ b_isinstance (pa_cons (pv 0) (pa_cons (pe_bltn (v := .ty "tuple") (by rfl) B.tuple_ b_tuple rfl) pa_nil))))) (pw_or1 (pt_not (pt_val (pe_callB (cr_allK K rfl) (by rfl) B.all_ b_all (pa_cons (pe_lc (own := [("one", 2)]) rfl sc_is_lot.nd (pi_tupK K (pv 0)) (blkOk_by (by kernel_rfl)) (fun _ _ _ _ _ => pg_name (i := 2) sc_is_lot.nd rfl (Or.inl rfl)) (fun _ _ _ _ _ => pts_nil) (fun _ _ _ _ _ => (pe_cal c_is_within hr (by decide) rfl pass0 (pa_cons (pv 2) (pa_cons pe_int (pa_cons (pe_op op_sub (pv 1) pe_int) pa_nil)))))) pa_nil))))))) (pss_one (ps_ret pe_bl)) pss_nil)
      (pss_one (ps_ret (pe_callB (cr_allK K rfl) (by rfl) B.all_ b_all (pa_cons (pe_lc (own := [("one", 2), ("other", 3)]) rfl sc_is_lot.nd (pi_zipK K (by rfl) B.zip_ (pa_cons (pv 0) (pa_cons (pe_slice (sl_tupK K) (pv 0) (po_some pe_int) po_none) pa_nil))) (blkOk_by (by kernel_rfl)) (fun _ _ _ _ _ => pg_tupK K (n := 2) rfl (pgs_cons (pg_name (i := 2) sc_is_lot.nd rfl (Or.inl rfl)) (pgs_cons (pg_name (i := 3) sc_is_lot.nd rfl (Or.inl rfl)) pgs_nil))) (fun _ _ _ _ _ => pts_nil) (fun _ _ _ _ _ => (pe_cmpR op_lt (pv 2) (pv 3) (nomark _)))) pa_nil))))), fun ds r h => ?_⟩
  cases h with
  | mk d many hsz =>
    cases d with
    | tup xs =>
      refine sr_when (et_or (et_not (et_B (ed_cb (ea_cons (ed_var rfl) (ea_cons ed_ty ea_nil)) rc_isT))) fun _ => et_not (et_B (ed_all (g := fun x => isWithin x 0 (many - 1))
        (ed_lc0 (as := xs) (enc := fun x => x) _ _ (src_tupD (ed_var rfl)) (Nat.le_trans hsz (by decide)) (fun j h => h) _ (fun x _ => gd_name) (fun x _ => ed_call (ea_cons (ed_var rfl) (ea_cons ed_int (ea_cons (ed_op (ed_var rfl) ed_int rv_I0) ea_nil))) (.mk _ _ _)))))) (fun hb => ?_) (fun hb => ?_)
      · have hb2 : (!xs.all fun x => isWithin x 0 (many - 1)) = true := by
          have hb3 : (!true || !xs.all fun x => isWithin x 0 (many - 1)) = true := hb
          simpa using hb3
        refine sr_ret (ed_is ed_bl ?_)
        show Sv.d (.bl false) = .d (.bl ((xs.all fun x => isWithin x 0 (many - 1)) && (xs.zip (xs.drop 1)).all fun p => ltD p.1 p.2))
        rw [Bool.not_eq_true'] at hb2
        rw [hb2]
        rfl
      · have hb2 : (xs.all fun x => isWithin x 0 (many - 1)) = true := by
          have hb3 : (!true || !xs.all fun x => isWithin x 0 (many - 1)) = false := hb
          simpa using hb3
        have key : ∀ x, x ∈ xs → ∃ i, x = .int i := fun x hx => by
          obtain ⟨i, e, _⟩ := within_int (List.all_eq_true.mp hb2 x hx)
          exact ⟨i, e⟩
        refine sr_ret (ed_is (ed_all (g := fun p : Da × Da => ltD p.1 p.2) (ed_lc0 (as := xs.zip (xs.drop 1)) (enc := fun p => .tup [p.1, p.2]) _ _ (src_zip (ea_cons (ed_var rfl) (ea_cons (ed_is (ed_slT (ed_var rfl) (eo_some ed_int) eo_none) (by rw [cut_one])) ea_nil)))
          (by rw [List.length_zip]; have : xs.length ≤ 1000 := hsz; omega) (fun j h => h) _ (fun x _ => gd_tup2 gd_name gd_name) (fun p hp => ?_))) ?_)
        · obtain ⟨a, b⟩ := p
          obtain ⟨h1, h2⟩ := List.of_mem_zip hp
          obtain ⟨i, rfl⟩ := key a h1
          obtain ⟨j, rfl⟩ := key b (List.mem_of_mem_drop h2)
          exact ed_op (ed_var rfl) (ed_var rfl) rv_B0
        · show Sv.d (.bl _) = .d (.bl ((xs.all fun x => isWithin x 0 (many - 1)) && (xs.zip (xs.drop 1)).all fun p => ltD p.1 p.2))
          rw [hb2]
          rfl
    | _ => exact sr_when (et_or (c := false) (et_not (et_B (ed_cb (ea_cons (ed_var rfl) (ea_cons ed_ty ea_nil)) rc_isT))) fun z => nomatch z) (fun _ => sr_ret ed_bl) (fun z => nomatch z)
theorem ok_touches (B : Bt mg) (F : DefAt K mg "touches" s_touches) : Cal P w K mg base CX0 1 "touches" (spD C pTouches) := by
  refine cal_pure F sc_touches (fun _ _ _ _ _ _ us hl => match us, hl with | [_, _], _ => rfl) (fun ds r h => by cases h; rfl) fun f cdv A outer s H E hr => ⟨_,
    (pss_one (ps_ret (pe_callB (cr_anyK K rfl) (by rfl) B.any_ b_any (pa_cons (pe_lc (own := [("place", 2)]) rfl sc_touches.nd (pi_tupK K (pv 1)) (blkOk_by (by kernel_rfl)) (fun _ _ _ _ _ => pg_name (i := 2) sc_touches.nd rfl (Or.inl rfl)) (fun _ _ _ _ _ => pts_nil) (fun _ _ _ _ _ => (pe_cmpR (op_inK K) (pv 2) (pv 0) rfl))) pa_nil)))), fun ds r h => ?_⟩
  cases h with
  | mk l ps hz => exact sr_ret (ed_any (g := fun p => l.contains p) (ed_lc0 _ _ (src_tup (ed_var rfl)) (Nat.le_trans hz (by decide)) (fun j h => h) _ (fun x _ => gd_name) (fun x _ => ed_op (ed_var rfl) (ed_var rfl) rv_inT)))
theorem ok_keeps_trap (B : Bt mg) (Z : Cls K C.c) (nD : NoAttr K C.c "deeds") (c_touches : Cal P w K mg base CX0 1 "touches" (spD C pTouches)) (F : DefAt K mg "keeps_trap" s_keeps_trap) : Cal P w K mg base CX0 2 "keeps_trap" (spD C pKeepsT) := by
  refine cal_pure F sc_keeps_trap (fun _ _ _ _ _ _ us hl => match us, hl with | [_, _], _ => rfl) (fun ds r h => by cases h; rfl) fun f cdv A outer s H E hr => ⟨_,
    (pss_one (ps_ret (pe_callB (cr_allK K rfl) (by rfl) B.all_ b_all (pa_cons (pe_lc (own := [("ins", 2), ("outs", 3)]) rfl sc_keeps_trap.nd (pi_tupK K (pe_fldK K (pv 0) rfl)) (blkOk_by (by kernel_rfl)) (fun _ _ _ _ _ => pg_tupK K (n := 2) rfl (pgs_cons (pg_name (i := 2) sc_keeps_trap.nd rfl (Or.inl rfl)) (pgs_cons (pg_name (i := 3) sc_keeps_trap.nd rfl (Or.inl rfl)) pgs_nil))) (fun _ _ _ _ _ => pts_nil) (fun _ _ _ _ _ => (pe_or (pe_cal c_touches hr (by decide) rfl pass0 (pa_cons (pv 1) (pa_cons (pv 3) pa_nil))) (pe_one (pe_not (pe_cal c_touches hr (by decide) rfl pass0 (pa_cons (pv 1) (pa_cons (pv 2) pa_nil)))))))) pa_nil)))), fun ds r h => ?_⟩
  cases h with
  | mk n l ok => exact sr_ret (ed_all (g := fun d => touches l d.2 || !touches l d.1) (ed_lc0 (as := n.deeds) (enc := deedD) _ _ (src_tup (ed_deeds Z nD (ed_var rfl))) (Nat.le_trans ok.deeds (by decide)) (fun j h => h) _ (fun x _ => gd_tup2 gd_name gd_name)
      (fun d hd => ed_orV (ed_call (ea_cons (ed_var rfl) (ea_cons (ed_var rfl) ea_nil)) (.mk _ _ (Nat.le_trans (ok.outs d hd).1 (by decide)))) fun _ => ed_notV (ed_call (ea_cons (ed_var rfl) (ea_cons (ed_var rfl) ea_nil)) (.mk _ _ (Nat.le_trans (ok.ins d hd).1 (by decide)))))))
theorem ok_keeps_siphon (B : Bt mg) (Z : Cls K C.c) (nD : NoAttr K C.c "deeds") (c_touches : Cal P w K mg base CX0 1 "touches" (spD C pTouches)) (F : DefAt K mg "keeps_siphon" s_keeps_siphon) : Cal P w K mg base CX0 2 "keeps_siphon" (spD C pKeepsS) := by
  refine cal_pure F sc_keeps_siphon (fun _ _ _ _ _ _ us hl => match us, hl with | [_, _], _ => rfl) (fun ds r h => by cases h; rfl) fun f cdv A outer s H E hr => ⟨_,
    (pss_one (ps_ret (pe_callB (cr_allK K rfl) (by rfl) B.all_ b_all (pa_cons (pe_lc (own := [("ins", 2), ("outs", 3)]) rfl sc_keeps_siphon.nd (pi_tupK K (pe_fldK K (pv 0) rfl)) (blkOk_by (by kernel_rfl)) (fun _ _ _ _ _ => pg_tupK K (n := 2) rfl (pgs_cons (pg_name (i := 2) sc_keeps_siphon.nd rfl (Or.inl rfl)) (pgs_cons (pg_name (i := 3) sc_keeps_siphon.nd rfl (Or.inl rfl)) pgs_nil))) (fun _ _ _ _ _ => pts_nil) (fun _ _ _ _ _ => (pe_or (pe_cal c_touches hr (by decide) rfl pass0 (pa_cons (pv 1) (pa_cons (pv 2) pa_nil))) (pe_one (pe_not (pe_cal c_touches hr (by decide) rfl pass0 (pa_cons (pv 1) (pa_cons (pv 3) pa_nil)))))))) pa_nil)))), fun ds r h => ?_⟩
  cases h with
  | mk n l ok => exact sr_ret (ed_all (g := fun d => touches l d.1 || !touches l d.2) (ed_lc0 (as := n.deeds) (enc := deedD) _ _ (src_tup (ed_deeds Z nD (ed_var rfl))) (Nat.le_trans ok.deeds (by decide)) (fun j h => h) _ (fun x _ => gd_tup2 gd_name gd_name)
      (fun d hd => ed_orV (ed_call (ea_cons (ed_var rfl) (ea_cons (ed_var rfl) ea_nil)) (.mk _ _ (Nat.le_trans (ok.ins d hd).1 (by decide)))) fun _ => ed_notV (ed_call (ea_cons (ed_var rfl) (ea_cons (ed_var rfl) ea_nil)) (.mk _ _ (Nat.le_trans (ok.outs d hd).1 (by decide)))))))
theorem ok_trap_in (B : Bt mg) (Z : Cls K C.c) (nD : NoAttr K C.c "deeds") (c_touches : Cal P w K mg base CX0 1 "touches" (spD C pTouches)) (c_keeps_trap : Cal P w K mg base CX0 2 "keeps_trap" (spD C pKeepsT)) (F : DefAt K mg "trap_in" s_trap_in) : Cal P w K mg base CX0 3 "trap_in" (spD C pTrapIn) := by
  refine cal_pure F sc_trap_in (fun _ _ _ _ _ _ us hl => match us, hl with | [_, _], _ => rfl) (fun ds r h => by cases h; rfl) fun f cdv A outer s H E hr => ⟨_,
    (pss_cons (ps_while PassesOwn.never (pt_not (pt_val (pe_cal c_keeps_trap hr (by decide) rfl pass0 (pa_cons (pv 0) (pa_cons (pv 1) pa_nil))))) (pss_cons (ps_set (i := 2) sc_trap_in.nd rfl (Or.inr rfl) (pe_lc (own := [("ins", 3), ("outs", 4)]) rfl sc_trap_in.nd (pi_tupK K (pe_fldK K (pv 0) rfl)) (blkOk_by (by kernel_rfl)) (fun _ _ _ _ _ => pg_tupK K (n := 2) rfl (pgs_cons (pg_name (i := 3) sc_trap_in.nd rfl (Or.inl rfl)) (pgs_cons (pg_name (i := 4) sc_trap_in.nd rfl (Or.inl rfl)) pgs_nil))) (fun _ _ _ _ _ => pts_one (PW.pt (pw_and (pt_val (pe_cal c_touches hr (by decide) rfl pass0 (pa_cons (pv 1) (pa_cons (pv 3) pa_nil)))) (pw_and1 (pt_not (pt_val (pe_cal c_touches hr (by decide) rfl pass0 (pa_cons (pv 1) (pa_cons (pv 4) pa_nil))))))))) (fun _ _ _ _ _ => (pv 3))))
      (pss_one (ps_set (i := 1) sc_trap_in.nd rfl (Or.inr rfl) (pe_callTy (call_tupK K) (by rfl) B.tuple_ b_tuple (pa_cons (pe_lc (own := [("place", 5)]) rfl sc_trap_in.nd (pi_tupK K (pv 1)) (blkOk_by (by kernel_rfl)) (fun _ _ _ _ _ => pg_name (i := 5) sc_trap_in.nd rfl (Or.inl rfl)) (fun _ _ _ _ _ => pts_one (pt_cmpR (op_niK K) (pv 5) (pe_ix (ix_listK K) (pv 2) pe_int (fun _ _ => rfl)) rfl)) (fun _ _ _ _ _ => (pv 5))) pa_nil))))))
      (pss_one (ps_ret (pv 1)))), fun ds r h => ?_⟩
  cases h with
  | mk n l ok hz =>
    refine sr_while (fun a : List Nat => [some (.net n), some (.d (lotD a)), none, none, none, none]) (fun a => a.length ≤ 1000 ∧ trapIn n.deeds a = trapIn n.deeds l) List.length (fun a => !keepsTrap n.deeds a) (fun a => stepTrap n.deeds a) l rfl ⟨hz, rfl⟩ (fun a ha => ?_) (fun a ha hb => ?_) (fun a ha hb => ?_)
    · exact et_not (et_B (ed_call (ea_cons (ed_var rfl) (ea_cons (ed_var rfl) ea_nil)) (.mk _ _ ok)))
    · have hk : keepsTrap n.deeds a = false := by simpa using hb
      have hless := step_less hk
      refine ⟨?_, ⟨by have := ha.1; omega, by rw [← trapIn_step hk]; exact ha.2⟩, hless⟩
      obtain ⟨d, hd, h0, h1, h2⟩ := bad_some hk
      have e0 : (badIns n.deeds a).headD [] = d.1 := by
        cases q : badIns n.deeds a with
        | nil =>
          rw [q] at h0
          cases h0
        | cons a r =>
          rw [q] at h0
          exact Option.some.inj h0
      have hbad : ((n.deeds.filter fun d => touches a d.1 && !touches a d.2).map fun d => lotD d.1)[0]? = some (lotD d.1) := by
        have e1 : ((n.deeds.filter fun d => touches a d.1 && !touches a d.2).map fun d => lotD d.1) = (badIns n.deeds a).map lotD := by
          unfold badIns
          rw [List.map_map]
          rfl
        rw [e1, List.getElem?_map, h0]
        rfl
      refine sn_weak (sn_seq (sn_asg (ed_lc (as := n.deeds) (enc := deedD) (fun d => lotD d.1) (fun d => touches a d.1 && !touches a d.2) _ (src_tup (ed_deeds Z nD (ed_var rfl))) (Nat.le_trans ok.deeds (by decide)) (fun j h => h) _ (fun x _ => gd_tup2 gd_name gd_name)
          (fun d hd => et_and (et_B (ed_call (ea_cons (ed_var rfl) (ea_cons (ed_var rfl) ea_nil)) (.mk _ _ (Nat.le_trans (ok.ins d hd).1 (by decide))))) fun _ => et_not (et_B (ed_call (ea_cons (ed_var rfl) (ea_cons (ed_var rfl) ea_nil)) (.mk _ _ (Nat.le_trans (ok.outs d hd).1 (by decide))))))
          (fun d _ _ => ed_var rfl)))
        (sn_asg (ed_cb (ea_cons (ed_lc (as := a) (enc := fun (p : Nat) => Da.int (p : Int)) (fun p => Da.int (p : Int)) (fun p => !d.1.contains p) _ (src_tup (ed_var rfl)) (Nat.le_trans ha.1 (by decide)) (fun j h => h) _ (fun x _ => gd_name)
          (fun p _ => et_test (ed_op (ed_var rfl) (ed_op (ed_var rfl) ed_int (rv_ixL (j := 0) hbad rfl)) rv_niT)) (fun p _ _ => ed_var rfl)) ea_nil) rc_tupL))) rfl ?_
      intro i d' hi
      match i, hi with
      | 0, hi => exact hi
      | 1, hi =>
        have z := Option.some.inj (Option.some.inj hi)
        subst z
        show some (some (Sv.d (.tup _))) = some (some (Sv.d (lotD (stepTrap n.deeds a))))
        unfold stepTrap lotD
        rw [e0]
      | 2, hi => exact nomatch (Option.some.inj hi)
      | 3, hi => exact nomatch (Option.some.inj hi)
      | 4, hi => exact nomatch (Option.some.inj hi)
      | 5, hi => exact nomatch (Option.some.inj hi)
      | k + 6, hi => exact nomatch hi
    · have hk : keepsTrap n.deeds a = true := by simpa using hb
      refine sr_ret (ed_is (ed_var rfl) ?_)
      rw [← ha.2, trapIn_stop hk]
end
end K13

set_option Elab.async false
set_option linter.all false
set_option maxRecDepth 100000
set_option maxHeartbeats 4000000
/-! KS: sorted, == and != of lots. -/
namespace K13
open PySem PySem.Spec PyProof.Rows L2
open Evl (Ex ex_l ex_t sq_of st_of sz_of fresh_back)
open PySem.W (EachIs AllAlike Sortable dataLe alike alikeAll dataLt)
def encL (l : List Nat) : PyData := .tuple (l.map fun (n : Nat) => .int (n : Int))
def encP (l : List Nat) : PyData := .tuple [.int (l.length : Int), encL l]
def pairD (l : List Nat) : Da := .tup [.int (l.length : Int), lotD l]
theorem encL_ints (l : List Nat) : encL l = .tuple ((l.map fun (n : Nat) => (n : Int)).map .int) := by
  unfold encL
  rw [List.map_map]
  rfl
/-! ### order -/
theorem lt_cast : ∀ a b : List Nat, ((a.map fun (n : Nat) => (n : Int)) < b.map fun (n : Nat) => (n : Int)) ↔ a < b
  | [], [] => by simp
  | [], b :: bs => by simp
  | a :: as, [] => by simp
  | a :: as, b :: bs => by
    rw [List.map_cons, List.map_cons, List.cons_lt_cons_iff, List.cons_lt_cons_iff, lt_cast as bs]
    constructor
    · rintro (h | ⟨h1, h2⟩)
      · exact .inl (by omega)
      · exact .inr ⟨by omega, h2⟩
    · rintro (h | ⟨h1, h2⟩)
      · exact .inl (by omega)
      · exact .inr ⟨by omega, h2⟩
theorem dataLt_lot (a b : List Nat) : dataLt (encL a) (encL b) = decide (a < b) := by
  rw [encL_ints, encL_ints, PySem.W.dataLt_tuple]
  have h := PySem.W.dataLt_ints (a.map fun (n : Nat) => (n : Int)) (b.map fun (n : Nat) => (n : Int))
  unfold PySem.W.rowLt at h
  rw [h]
  exact decide_eq_decide.mpr (lt_cast a b)
theorem le_lot : dataLe false encL = leLot := by
  funext a b
  show (!dataLt (encL b) (encL a)) = leLot a b
  rw [dataLt_lot]
  unfold leLot
  rw [Bool.eq_iff_iff]
  simp [List.not_lt]
theorem eqvAll_lot : ∀ a b : List Nat, PyData.eqvAll (a.map fun (n : Nat) => .int (n : Int)) (b.map fun (n : Nat) => .int (n : Int)) = decide (a = b)
  | [], [] => by simp [PyData.eqvAll]
  | [], b :: bs => by simp [PyData.eqvAll]
  | a :: as, [] => by simp [PyData.eqvAll]
  | a :: as, b :: bs => by
    rw [List.map_cons, List.map_cons, PyData.eqvAll, eqvAll_lot as bs, PyData.eqv, Bool.eq_iff_iff]
    simp
    omega
theorem eqv_lot (a b : List Nat) : PyData.eqv (encL a) (encL b) = decide (a = b) := by
  unfold encL
  rw [PyData.eqv]
  exact eqvAll_lot a b
theorem alike_lot (a b : List Nat) : alike (encL a) (encL b) = true := by
  rw [encL_ints, encL_ints, alike]
  exact PySem.W.alike_ints _ _
theorem alike_pair (a b : List Nat) : alike (encP a) (encP b) = true := by
  unfold encP
  simp only [alike, alikeAll, alike_lot, Bool.and_self]
theorem le_pair : dataLe false encP = leLen := by
  funext a b
  show (!dataLt (encP b) (encP a)) = leLen a b
  unfold encP
  rw [PySem.W.dataLt_pair (by simp [alike]) (alike_lot b a), eqv_lot, dataLt_lot, PySem.W.dataLt_int]
  simp only [PyData.eqv, beq_iff_eq]
  unfold leLen leLot
  by_cases h1 : a.length < b.length
  · have e1 : ¬ ((b.length : Int) = (a.length : Int)) := by omega
    have e2 : ¬ ((b.length : Int) < (a.length : Int)) := by omega
    simp [h1, e1, e2]
  · by_cases h2 : a.length = b.length
    · have e1 : ((b.length : Int) = (a.length : Int)) := by omega
      rw [if_pos e1]
      by_cases h3 : b = a
      · subst h3
        simp
      · rw [if_neg (by simpa using h3)]
        rw [Bool.eq_iff_iff]
        simp [h2, List.not_lt]
    · have e1 : ¬ ((b.length : Int) = (a.length : Int)) := by omega
      have e2 : ((b.length : Int) < (a.length : Int)) := by omega
      simp [h1, h2, e1, e2]
theorem depth_lot (l : List Nat) : (encL l).depth = 1 := by
  rw [encL_ints, PyData.depth, PySem.W.depth_ints]
theorem depth_pair (l : List Nat) : (encP l).depth = 2 := by
  unfold encP
  simp only [PyData.depth, PyData.depthAll, depth_lot]
  rfl
theorem lay_lot : ∀ l : List Nat, PyData.canLayAll0 (l.map fun (n : Nat) => .int (n : Int)) = true
  | [] => by simp [PyData.canLayAll0]
  | a :: l => by
    rw [List.map_cons, PyData.canLayAll0, lay_lot l]
    simp [PyData.canLay0]
theorem shaped_lot (l : List Nat) : SeqAt.shaped (encL l) = true := by
  show ((encL l).canLay0 && decide ((encL l).depth ≤ 64)) = true
  rw [depth_lot]
  unfold encL
  rw [PyData.canLay0, lay_lot]
  rfl
/-! ### as data of the layer -/
theorem dp_ints {K : PySem.W.Frag} {H : Hp} : ∀ {vs : List V} {l : List Nat}, RpL H vs (l.map fun (n : Nat) => Da.int (n : Int)) → DpAll K H vs (l.map fun (n : Nat) => .int (n : Int))
  | _, [], .nil => .nil
  | _, n :: l, .cons h r => by
    cases h
    exact .cons (.int _) (dp_ints r)
theorem dp_lot {K : PySem.W.Frag} {Hd H : Hp} (e : Ex Hd H) {v : V} {l : List Nat} (r : Rp Hd v (lotD l)) : Dp K H v (encL l) := by
  cases r with
  | tup h t => exact .tup (st_of (e _ _ h)) (dp_ints (t.mono e))
theorem dp_pair {K : PySem.W.Frag} {Hd H : Hp} (e : Ex Hd H) {v : V} {l : List Nat} (r : Rp Hd v (pairD l)) : Dp K H v (encP l) := by
  cases r with
  | tup h t =>
    cases t with
    | cons h1 t =>
      cases t with
      | cons h2 t =>
        cases t
        cases h1
        exact .tup (st_of (e _ _ h)) (.cons (.int _) (.cons (dp_lot e h2) .nil))
section
variable {C : CW} {K : PySem.W.Frag}
theorem rv_neLot {a b : List Nat} : RV2 C (rNeD K) (.d (lotD a)) (.d (lotD b)) (.d (.bl (!decide (a = b)))) := fun Hd H u v Q e r1 r2 k => by
  cases r1 with
  | d r1 =>
    cases r2 with
    | d r2 => exact ⟨encL a, encL b, dp_lot e r1, dp_lot e r2, shaped_lot a, shaped_lot b, by rw [eqv_lot]; exact k.here e (.d (.bl _))⟩
theorem rv_eqLot {a b : List Nat} : RV2 C (rEqD K) (.d (lotD a)) (.d (lotD b)) (.d (.bl (decide (a = b)))) := fun Hd H u v Q e r1 r2 k => by
  cases r1 with
  | d r1 =>
    cases r2 with
    | d r2 => exact ⟨encL a, encL b, dp_lot e r1, dp_lot e r2, shaped_lot a, shaped_lot b, by rw [eqv_lot]; exact k.here e (.d (.bl _))⟩
/-- lists of numbers -/
theorem rv_neNats {a b : List Nat} : RV2 C (rNeD K) (.d (.lst (a.map fun (n : Nat) => .int (n : Int)))) (.d (.lst (b.map fun (n : Nat) => .int (n : Int)))) (.d (.bl (!decide (a = b)))) := fun Hd H u v Q e r1 r2 k => by
  have sh : ∀ l : List Nat, SeqAt.shaped (.list (l.map fun (n : Nat) => .int (n : Int))) = true := fun l => by
    show ((PyData.list (l.map fun (n : Nat) => .int (n : Int))).canLay0 && decide ((PyData.list (l.map fun (n : Nat) => .int (n : Int))).depth ≤ 64)) = true
    have e : (l.map fun (n : Nat) => PyData.int (n : Int)) = (l.map fun (n : Nat) => (n : Int)).map .int := by rw [List.map_map]; rfl
    rw [PyData.canLay0, lay_lot, PyData.depth, e, PySem.W.depth_ints]
    rfl
  cases r1 with
  | d r1 =>
    cases r2 with
    | d r2 =>
      cases r1 with
      | lst h1 t1 =>
        cases r2 with
        | lst h2 t2 => exact ⟨.list (a.map fun (n : Nat) => .int (n : Int)), .list (b.map fun (n : Nat) => .int (n : Int)), .lst (sq_of (e _ _ h1)) (dp_ints (t1.mono e)), .lst (sq_of (e _ _ h2)) (dp_ints (t2.mono e)), sh a, sh b, by
            rw [PyData.eqv, eqvAll_lot]
            exact k.here e (.d (.bl _))⟩
/-- a lot in, not in, a list of lots -/
theorem dp_lots {Hd H : Hp} (e : Ex Hd H) : ∀ {vs : List V} {ls : List (List Nat)}, RpL Hd vs (ls.map lotD) → DpAll K H vs (ls.map encL)
  | _, [], .nil => .nil
  | _, l :: ls, .cons h r => .cons (dp_lot e h) (dp_lots e r)
theorem lay_lots : ∀ ls : List (List Nat), PyData.canLayAll0 (ls.map encL) = true
  | [] => by simp [PyData.canLayAll0]
  | a :: ls => by
    rw [List.map_cons, PyData.canLayAll0, lay_lots ls, encL, PyData.canLay0, lay_lot]
    rfl
theorem depth_lots : ∀ ls : List (List Nat), PyData.depthAll (ls.map encL) ≤ 1
  | [] => by simp [PyData.depthAll]
  | a :: ls => by
    rw [List.map_cons, PyData.depthAll, depth_lot]
    have := depth_lots ls
    omega
theorem shaped_lots (ls : List (List Nat)) : SeqAt.shaped (.list (ls.map encL)) = true := by
  show ((PyData.list (ls.map encL)).canLay0 && decide ((PyData.list (ls.map encL)).depth ≤ 64)) = true
  rw [PyData.canLay0, lay_lots, PyData.depth]
  have := depth_lots ls
  rw [decide_eq_true (by omega)]
  rfl
theorem any_lots (a : List Nat) : ∀ ls : List (List Nat), ((ls.map encL).any fun z => PyData.eqv z (encL a)) = ls.contains a
  | [] => rfl
  | l :: ls => by
    rw [List.map_cons, List.any_cons, any_lots a ls, eqv_lot, List.contains_cons]
    congr 1
    rw [Bool.eq_iff_iff]
    simp
    exact eq_comm
theorem rv_niLots {a : List Nat} {ls : List (List Nat)} : RV2 C (rNotInD K) (.d (lotD a)) (.d (.lst (ls.map lotD))) (.d (.bl (!ls.contains a))) := fun Hd H u v Q e r1 r2 k => by
  cases r1 with
  | d r1 =>
    cases r2 with
    | d r2 =>
      cases r2 with
      | lst h t => exact ⟨encL a, ls.map encL, dp_lot e r1, .lst (sq_of (e _ _ h)) (dp_lots e t), shaped_lot a, shaped_lots ls, by rw [any_lots]; exact k.here e (.d (.bl _))⟩
end
theorem op_niLK (K : PySem.W.Frag) {X : Cx} (hu : X.A.units + 65 < cLine) (h : X.K = K := by rfl) : OpR X (compareOp .NotIn) (rNotInD K) := by subst h; exact op_notInD hu
/-! ### sorted -/
def rSortB (K : PySem.W.Frag) {β : Type} (enc : β → PyData) : List V → Hp → VK → Prop := fun vs H Q => ∃ (a : Addr) (xs : List V) (bs : List β) (T : V → β → Prop), vs = [.ref a] ∧ SqL K H a xs ∧ EachIs T xs bs ∧ (∀ y b, T y b → Dp K H y (enc b)) ∧
  AllAlike (bs.map enc) ∧ Sortable (bs.map enc) ∧ (∀ b, b ∈ bs → (enc b).depth ≤ 60) ∧ bs.length ≤ 100000 ∧ ∀ ys p, EachIs T ys (bs.mergeSort (dataLe false enc)) → H p = none → Q (.ref p) (upd H p (.lst ys))
theorem each_vals {β : Type} {T : V → β → Prop} : ∀ {xs : List V} {its : List Value} {bs : List β}, Vals xs its → EachIs T xs bs → EachIs (fun v b => ∃ y, RelV y v ∧ T y b) its bs
  | _, _, _, .nil, .nil => .nil
  | _, _, _, .cons r t, .cons h s => .cons ⟨_, r, h⟩ (each_vals t s)
theorem each_back {β : Type} {T : V → β → Prop} : ∀ {out : List Value} {bs : List β}, EachIs (fun v b => ∃ y, RelV y v ∧ T y b) out bs → ∃ ys, Vals ys out ∧ EachIs T ys bs
  | _, _, .nil => ⟨[], .nil, .nil⟩
  | _, _, .cons ⟨y, r, h⟩ t => by
    obtain ⟨ys, h1, h2⟩ := each_back t
    exact ⟨y :: ys, .cons r h1, .cons h h2⟩
theorem cr_sortB (K : PySem.W.Frag) {X : Cx} {β : Type} (enc : β → PyData) (hu : X.A.units + 64 < cLine) (hK : X.K = K := by rfl) : CallR X (.builtin "sorted") (rSortB K enc) := by
  subst hK
  intro pins s σ H vs us Q I r h
  obtain ⟨a, xs, bs, T, rfl, hs, hE, hT, hal, hk, hdp, hlen, q⟩ := h
  obtain ⟨its, rv, hl, hz⟩ := I.list hs
  rw [Vals.ref1 r]
  have e1 := each_vals rv hE
  refine PySem.W.sorted_data (enc := enc) hl.isList e1 (e1.mono fun v b ⟨y, ry, ty⟩ => Dp.reads I _ _ _ (hT y b ty) ry) hal hk (Evl.sz_of hlen) (fun b hb => by have := hdp b hb; omega) fun out ho hE2 => ?_
  obtain ⟨ys, h1, h2⟩ := each_back hE2
  obtain ⟨ep, he'⟩ := PyProof.Rows.sortedAll_at s.heap its out.toArray
  have hlen2 : ys.length ≤ sizeLine := by
    rw [h1.length, ho]
    exact Evl.sz_of hlen
  exact ⟨.ref _, upd H (s.heap.objs.size + 1) (.lst ys), I.laid (t' := s.toks) (fun _ _ => PyProof.Rows.sortedAll_old) (Nat.le_succ _) ⟨hlen2, out, ep, h1, by simpa using he'⟩, rfl, q ys _ h2 (I.hok.fresh (Nat.le_succ _))⟩
section
variable {C : CW} {K : PySem.W.Frag}
theorem each_rp {β : Type} {enc : β → Da} {H : Hp} : ∀ {xs : List V} {bs : List β}, RpL H xs (bs.map enc) → EachIs (fun y b => Rp H y (enc b)) xs bs
  | _, [], .nil => .nil
  | _, b :: bs, .cons h r => .cons h (each_rp r)
theorem rp_each {β : Type} {enc : β → Da} {H : Hp} : ∀ {xs : List V} {bs : List β}, EachIs (fun y b => Rp H y (enc b)) xs bs → RpL H xs (bs.map enc)
  | _, _, .nil => .nil
  | _, _, .cons h r => .cons h (rp_each r)
theorem rc_sortLots {ls : List (List Nat)} (hn : ∀ l, l ∈ ls → l ≠ []) (hz : ls.length ≤ 100000) : RC C (rSortB K encL) [.d (.lst (ls.map lotD))] (.d (.lst ((ls.mergeSort leLot).map lotD))) := fun Hd H vs Q e r k => by
  cases r with
  | cons h t =>
    cases t
    cases h with
    | d h =>
      cases h with
      | @lst a us _ g l =>
        refine ⟨a, us, ls, _, rfl, sq_of (e _ _ g), each_rp l, fun y b hy => dp_lot e hy, fun d hd d' hd' => ?_, .inl fun d hd => ?_, fun b _ => by rw [depth_lot]; decide, hz, fun ys p hy hp => ?_⟩
        · obtain ⟨b, _, rfl⟩ := List.mem_map.mp hd
          obtain ⟨b', _, rfl⟩ := List.mem_map.mp hd'
          exact alike_lot b b'
        · obtain ⟨b, hb, rfl⟩ := List.mem_map.mp hd
          cases b with
          | nil => exact absurd rfl (hn _ hb)
          | cons x r => exact ⟨_, _, rfl⟩
        · rw [le_lot] at hy
          exact k.lst e (rp_each hy) hp
theorem rc_sortPairs {ls : List (List Nat)} (hz : ls.length ≤ 100000) : RC C (rSortB K encP) [.d (.lst (ls.map pairD))] (.d (.lst ((ls.mergeSort leLen).map pairD))) := fun Hd H vs Q e r k => by
  cases r with
  | cons h t =>
    cases t
    cases h with
    | d h =>
      cases h with
      | @lst a us _ g l =>
        refine ⟨a, us, ls, _, rfl, sq_of (e _ _ g), each_rp l, fun y b hy => dp_pair e hy, fun d hd d' hd' => ?_, .inl fun d hd => ?_, fun b _ => by rw [depth_pair]; decide, hz, fun ys p hy hp => ?_⟩
        · obtain ⟨b, _, rfl⟩ := List.mem_map.mp hd
          obtain ⟨b', _, rfl⟩ := List.mem_map.mp hd'
          exact alike_pair b b'
        · obtain ⟨b, hb, rfl⟩ := List.mem_map.mp hd
          exact ⟨_, _, rfl⟩
        · rw [le_pair] at hy
          exact k.lst e (rp_each hy) hp
/-- whole numbers -/
def encI (n : Nat) : PyData := .int (n : Int)
theorem le_nat : dataLe false encI = fun a b => decide (a ≤ b) := by
  have h := PySem.W.dataLe_int (fun (n : Nat) => (n : Int))
  show dataLe false (fun (n : Nat) => PyData.int (n : Int)) = _
  rw [h]
  funext a b
  exact decide_eq_decide.mpr (by omega)
theorem rc_sortNats {l : List Nat} (hz : l.length ≤ 100000) : RC C (rSortB K encI) [.d (.lst (l.map fun (n : Nat) => .int (n : Int)))] (.d (.lst ((l.mergeSort fun a b => decide (a ≤ b)).map fun (n : Nat) => .int (n : Int)))) := fun Hd H vs Q e r k => by
  cases r with
  | cons h t =>
    cases t
    cases h with
    | d h =>
      cases h with
      | @lst a us _ g l =>
        refine ⟨a, us, _, _, rfl, sq_of (e _ _ g), each_rp l, fun y b hy => by cases hy; exact .int _, fun d hd d' hd' => ?_, .inr fun d hd => ?_, fun b _ => Nat.zero_le _, hz, fun ys p hy hp => ?_⟩
        · obtain ⟨b, _, rfl⟩ := List.mem_map.mp hd
          obtain ⟨b', _, rfl⟩ := List.mem_map.mp hd'
          unfold encI
          simp [alike]
        · obtain ⟨b, hb, rfl⟩ := List.mem_map.mp hd
          exact ⟨fun z => (nomatch z), fun xs z => (nomatch z)⟩
        · rw [le_nat] at hy
          exact k.lst e (rp_each hy) hp
end
end K13

set_option Elab.async false
set_option linter.all false
set_option maxRecDepth 100000
set_option maxHeartbeats 4000000
/-! KF: statements beside a list of one's own that grows. -/
namespace K13
open PySem PySem.Spec PyProof.Rows L2
open Evl (Ex ex_l ex_t sq_of st_of sz_of sz_lt fresh_back)
/-- all but l stays -/
def ExB (l : Addr) (H H' : Hp) : Prop := ∀ b o, b ≠ l → H b = some o → H' b = some o
theorem ExB.refl (l : Addr) (H : Hp) : ExB l H H := fun _ _ _ h => h
theorem ExB.of {l : Addr} {H H' : Hp} (e : Ex H H') : ExB l H H' := fun b o _ h => e b o h
theorem ExB.trans {l : Addr} {H H1 H2 : Hp} (a : ExB l H H1) (b : ExB l H1 H2) : ExB l H H2 := fun c o n h => b c o n (a c o n h)
theorem ExB.upd {l : Addr} {H : Hp} {o : HO} : ExB l H (upd H l o) := fun b u n h => by rw [upd_ne n]; exact h
theorem ExB.ex {l : Addr} {H0 H H' : Hp} (e : Ex H0 H) (n : H0 l = none) (b : ExB l H H') : Ex H0 H' := fun c o h => b c o (ne_of_none h n) (e c o h)
/-- as Nw, l apart -/
def NwB (l : Addr) (Hd H Hd' : Hp) : Prop := Ex Hd Hd' ∧ ∀ b, b ≠ l → Hd b = none → H b ≠ none → Hd' b = none
theorem NwB.of {l : Addr} {Hd H Hd' : Hp} (n : Nw Hd H Hd') : NwB l Hd H Hd' := ⟨n.1, fun b _ h h' => n.2 b h h'⟩
theorem NwB.refl (l : Addr) (Hd H : Hp) : NwB l Hd H Hd := ⟨Ex.refl Hd, fun _ _ h _ => h⟩
theorem NwB.trans {l : Addr} {Hd H Hd1 H1 Hd2 : Hp} (a : NwB l Hd H Hd1) (e : ExB l H H1) (b : NwB l Hd1 H1 Hd2) : NwB l Hd H Hd2 := ⟨a.1.trans b.1, fun x hx h h' => b.2 x hx (a.2 x hx h h') fun z => h' (by
  cases q : H x with
  | none => rfl
  | some o =>
    rw [e x o hx q] at z
    cases z)⟩
/-- the list l, in slot j, beside the slots' data: its items stand for ds -/
structure Own (C : CW) (j : Nat) (l : Addr) (ds : List Da) (Hd H : Hp) (σ : L2.St) (env : En) : Prop where
  so : SO C Hd σ env
  ex : Ex Hd H
  sl : σ[j]? = some (some (.ref l))
  no : Hd l = none
  at_ : ∃ xs, H l = some (.lst xs) ∧ RpL Hd xs ds
/-- seen as data -/
theorem Own.see {C : CW} {j : Nat} {l : Addr} {ds : List Da} {Hd H : Hp} {σ : L2.St} {env : En} (o : Own C j l ds Hd H σ env) :
    ∃ xs, H l = some (.lst xs) ∧ SO C (upd Hd l (.lst xs)) σ (env.set j (some (.d (.lst ds)))) ∧ Ex (upd Hd l (.lst xs)) H := by
  obtain ⟨xs, h1, h2⟩ := o.at_
  have up : Ex Hd (upd Hd l (.lst xs)) := Ex.new o.no
  refine ⟨xs, h1, ?_, fun b u hb => ?_⟩
  · have s := (o.so.mono up).set (i := j) (v := .ref l) (d := .d (.lst ds)) (.d (.lst upd_same (h2.mono up)))
    have e : σ.set j (some (.ref l)) = σ := by
      apply List.ext_getElem?
      intro i
      by_cases hi : j = i
      · subst hi
        rw [List.getElem?_set_self (List.getElem?_eq_some_iff.mp o.sl).1, o.sl]
      · rw [List.getElem?_set_ne hi]
    rw [e] at s
    exact s
  · by_cases hbl : b = l
    · subst hbl
      rw [upd_same] at hb
      rw [← hb]
      exact h1
    · rw [upd_ne hbl] at hb
      exact o.ex b u hb
section
variable (C : CW) (j : Nat)
def OKL (l : Addr) (Hd H : Hp) (d : Sv) (Q : VK) : Prop := ∀ v Hd' H', ExB l H H' → Ex Hd' H' → NwB l Hd H Hd' → RpS C Hd' v d → Q v H'
def SRetA (t : TS) (env : En) (ds : List Da) (d : Sv) : Prop := ∀ (σ : L2.St) (H Hd : Hp) (l : Addr), Own C j l ds Hd H σ env → ∀ D : Ends, OKL C l Hd H d D.rt → t D σ H
def SAcc (t : TS) (env : En) (ds : List Da) (env2 : En) (ds2 : List Da) : Prop := ∀ (σ : L2.St) (H Hd : Hp) (l : Addr), Own C j l ds Hd H σ env → ∀ D : Ends,
  (∀ σ' Hd' H', ExB l H H' → NwB l Hd H Hd' → Own C j l ds2 Hd' H' σ' env2 → D.nx σ' H') → t D σ H
end
section
variable {C : CW} {K : PySem.W.Frag} {j : Nat} {env env1 env2 : En} {ds ds1 ds2 : List Da} {d : Sv} {t u w : TS} {te : TE} {tt : TT} {b : Bool} {wi : TI} {g : TG} {js : List Nat}
theorem OKL.on {l : Addr} {Hd H Hd1 H1 : Hp} {Q : VK} (k : OKL C l Hd H d Q) (e : ExB l H H1) (n : NwB l Hd H Hd1) : OKL C l Hd1 H1 d Q := fun v Hd' H' e1 e2 n1 r => k v Hd' H' (e.trans e1) e2 (n.trans e n1) r
theorem sr_new (h : SRetA C j u (env.set j none) [] d) (hj : j < env.length) : SRet C (tSeq (tAsg (tLst tNil) (gName j)) u) env d := fun σ H Hd s e D k => by
  refine ⟨Nat.zero_le _, fun l hl => ?_⟩
  have hd : Hd l = none := fresh_back e hl
  refine h (σ.set j (some (.ref l))) (upd H l (.lst [])) Hd l ⟨s.forget, ex_mut e hd, List.getElem?_set_self (by rw [s.len]; exact hj), hd, [], upd_same, .nil⟩ D fun v Hd' H' e1 e2 n1 r => ?_
  refine k v Hd' H' (ExB.ex (Ex.new hl) hl e1) e2 ⟨n1.1, fun b hb hb' => n1.2 b (fun z => hb' (by rw [z]; exact hl)) hb ?_⟩ r
  have ne : b ≠ l := fun z => hb' (by rw [z]; exact hl)
  rw [upd_ne ne]
  exact hb'
theorem sa_ret (h : ED C te (env.set j (some (.d (.lst ds)))) d) : SRetA C j (tRet te) env ds d := fun σ H Hd l o D k => by
  obtain ⟨xs, h1, h2, h3⟩ := o.see
  refine h σ H _ h2 h3 _ fun v Hd' H' e1 e2 n1 r => k v Hd' H' (.of e1) e2 ⟨(Ex.new o.no).trans n1.1, fun b hb h4 h5 => n1.2 b (by rw [upd_ne hb]; exact h4) h5⟩ r
theorem sa_retE (h : ED C te env d) : SRetA C j (tRet te) env ds d := fun σ H Hd l o D k => h σ H Hd o.so o.ex _ fun v Hd' H' e1 e2 n1 r => k v Hd' H' (.of e1) e2 (.of n1) r
theorem sa_seqR (h : SRetA C j t env ds d) : SRetA C j (tSeq t u) env ds d := fun σ H Hd l o D k => h σ H Hd l o { D with nx := u D } k
theorem sa_one (h : SAcc C j t env ds env1 ds1) (h2 : SRetA C j u env1 ds1 d) : SRetA C j (tSeq t u) env ds d := fun σ H Hd l o D k =>
  h σ H Hd l o { D with nx := u D } fun σ' Hd' H' e1 n1 o1 => h2 σ' H' Hd' l o1 D (k.on e1 n1)
theorem sa_seq (h : SAcc C j t env ds env1 ds1) (h2 : SAcc C j u env1 ds1 env2 ds2) : SAcc C j (tSeq t u) env ds env2 ds2 := fun σ H Hd l o D k =>
  h σ H Hd l o { D with nx := u D } fun σ' Hd' H' e1 n1 o1 => h2 σ' H' Hd' l o1 D fun σ2 Hd2 H2 e2 n2 o2 => k σ2 Hd2 H2 (e1.trans e2) (n1.trans e1 n2) o2
theorem sa_next : SAcc C j tNext env ds env ds := fun σ H Hd l o D k => k σ Hd H (ExB.refl _ _) (NwB.refl _ _ _) o
theorem Own.on {l : Addr} {Hd H Hd1 H1 : Hp} {σ σ1 : L2.St} (o : Own C j l ds Hd H σ env) (e : Ex H H1) (e1 : Ex Hd1 H1) (n : Nw Hd H Hd1) (s : SO C Hd1 σ1 env1) (hs : σ1[j]? = σ[j]?) : Own C j l ds Hd1 H1 σ1 env1 := by
  obtain ⟨xs, h1, h2⟩ := o.at_
  exact ⟨s, e1, hs.trans o.sl, n.2 l o.no (by rw [h1]; intro z; cases z), xs, e _ _ h1, h2.mono n.1⟩
theorem sa_asg {i : Nat} (hi : i ≠ j) (h : ED C te env d) : SAcc C j (tAsg te (gName i)) env ds (env.set i (some d)) ds := fun σ H Hd l o D k =>
  h σ H Hd o.so o.ex _ fun v Hd1 H1 e1 e2 n1 r => k _ Hd1 H1 (.of e1) (.of n1) (o.on e1 e2 n1 ((o.so.mono n1.1).set r) (List.getElem?_set_ne hi))
theorem sa_app {x : Da} (h : ED C te env (.d x)) (hz : ds.length < 100000) : SAcc C j (tDrop (tBM K "list" rAppend (tVar j) (tCons te tNil))) env ds env (ds ++ [x]) := fun σ H Hd l o D k => by
  obtain ⟨xs, h1, h2⟩ := o.at_
  refine ⟨_, o.sl, .inl ⟨rfl, xs, sq_of h1⟩, h σ H Hd o.so o.ex _ fun v Hd1 H1 e1 e2 n1 r => ⟨l, xs, v, rfl, rfl, e1 _ _ h1, sz_lt (by rw [h2.length]; exact hz), ?_⟩⟩
  have hn : Hd1 l = none := n1.2 l o.no (by rw [h1]; intro z; cases z)
  cases r with
  | d r => exact k σ Hd1 _ (ExB.trans (.of e1) ExB.upd) (.of n1) ⟨o.so.mono n1.1, ex_mut e2 hn, o.sl, hn, xs ++ [v], upd_same, (h2.mono n1.1).append (.one r)⟩
theorem sa_if (h : ET C tt (env.set j (some (.d (.lst ds)))) b) (h1 : b = true → SAcc C j t env ds env2 ds2) (h2 : b = false → SAcc C j u env ds env2 ds2) : SAcc C j (tIfS tt t u) env ds env2 ds2 := fun σ H Hd l o D k => by
  obtain ⟨xs, g1, g2, g3⟩ := o.see
  refine h σ H _ g2 g3 _ fun H1 e1 => ?_
  have o1 : Own C j l ds Hd H1 σ env := o.on e1 (o.ex.trans e1) (Nw.refl _ _) o.so rfl
  have k1 : ∀ σ' Hd' H', ExB l H1 H' → NwB l Hd H1 Hd' → Own C j l ds2 Hd' H' σ' env2 → D.nx σ' H' := fun σ' Hd' H' a1 a2 a3 => k σ' Hd' H' (ExB.trans (.of e1) a1) ((NwB.refl l Hd H).trans (.of e1) a2) a3
  cases b with
  | true => exact h1 rfl σ H1 Hd l o1 D k1
  | false => exact h2 rfl σ H1 Hd l o1 D k1
/-- if c: (returns); rest -/
theorem sa_when (h : ET C tt (env.set j (some (.d (.lst ds)))) b) (h1 : b = true → SRetA C j t env ds d) (h2 : b = false → SRetA C j u env ds d) : SRetA C j (tSeq (tIfS tt t tNext) u) env ds d := fun σ H Hd l o D k => by
  obtain ⟨xs, g1, g2, g3⟩ := o.see
  refine h σ H _ g2 g3 _ fun H1 e1 => ?_
  have o1 : Own C j l ds Hd H1 σ env := o.on e1 (o.ex.trans e1) (Nw.refl _ _) o.so rfl
  cases b with
  | true => exact h1 rfl σ H1 Hd l o1 { D with nx := u D } (k.on (.of e1) (NwB.refl _ _ _))
  | false => exact h2 rfl σ H1 Hd l o1 D (k.on (.of e1) (NwB.refl _ _ _))
theorem sn_whenA (h : ET C tt (env.set j (some (.d (.lst ds)))) b) (h1 : b = false) (h2 : SAcc C j u env ds env2 ds2) : SAcc C j (tSeq (tIfS tt t tNext) u) env ds env2 ds2 := fun σ H Hd l o D k => by
  obtain ⟨xs, g1, g2, g3⟩ := o.see
  refine h σ H _ g2 g3 _ fun H1 e1 => ?_
  have o1 : Own C j l ds Hd H1 σ env := o.on e1 (o.ex.trans e1) (Nw.refl _ _) o.so rfl
  subst h1
  exact h2 σ H1 Hd l o1 D fun σ' Hd' H' a1 a2 a3 => k σ' Hd' H' (ExB.trans (.of e1) a1) ((NwB.refl l Hd H).trans (.of e1) a2) a3
theorem sa_weak (h : SAcc C j t env ds env1 ds1) (hl : env2.length = env1.length) (hw : ∀ (i : Nat) (d : Sv), env2[i]? = some (some d) → env1[i]? = some (some d)) : SAcc C j t env ds env2 ds1 := fun σ H Hd l o D k =>
  h σ H Hd l o D fun σ' Hd' H' e1 n1 o1 => k σ' Hd' H' e1 n1 ⟨o1.so.weak hl hw, o1.ex, o1.sl, o1.no, o1.at_⟩
/-- a loop beside the list: from an iterator that has come -/
theorem for_core {α : Type} {as : List α} {enc : α → Da} {J : It} {Hd1 H1 : Hp} {l : Addr} {σ : L2.St} {D : Ends} (e : Nat → En) (f : Nat → List Da) (o : Nat → Bool) (E2 : Nat → α → En) (hJ : JS J Hd1 (as.map enc)) (hO : Own C j l (f 0) Hd1 H1 σ (e 0)) (hjs : j ∉ js)
    (hgs : ∀ (v : V) (σ : L2.St) (H : Hp) (Q : L2.St → Hp → Prop), g v σ H (fun σ2 H2 => Q σ2 H2) → True)
    (hg : ∀ (i : Nat) (x : α), as[i]? = some x → GD C g (enc x) (e i) js (E2 i x))
    (hr : ∀ (i : Nat) (x : α), as[i]? = some x → (∀ q, q < i → o q = false) → o i = true → SRetA C j t (E2 i x) (f i) d)
    (hn : ∀ (i : Nat) (x : α), as[i]? = some x → (∀ q, q < i → o q = false) → o i = false → SAcc C j t (E2 i x) (f i) (e (i + 1)) (f (i + 1)))
    (k : OKL C l Hd1 H1 d D.rt) (hd : (∀ q, q < as.length → o q = false) → ∀ σ' Hd' H', ExB l H1 H' → NwB l Hd1 H1 Hd' → Own C j l (f as.length) Hd' H' σ' (e as.length) → D.nx σ' H') :
    ∃ W : Nat → Nat → L2.St → Hp → Prop, (∃ m, W 0 m σ H1) ∧ ∀ i m σ H, W i m σ H →
      (J.stop i H ∧ D.nx σ H) ∨ (J.go i H ∧ ∃ N : L2.St → Hp → Prop, (∀ σ' H', N σ' H' → ∃ m', m' < m ∧ W (i + 1) m' σ' H') ∧ ∀ x H', J.yld i H x H' → g x σ H' fun σ2 H2 => t { D with nx := N, ct := N, bk := D.nx } σ2 H2) := by
  refine ⟨fun i m σ H => m = as.length - i ∧ i ≤ as.length ∧ (∀ q, q < i → o q = false) ∧ ∃ Hd, ExB l H1 H ∧ NwB l Hd1 H1 Hd ∧ Own C j l (f i) Hd H σ (e i), ⟨as.length, by simp, Nat.zero_le _, fun q hq => absurd hq (Nat.not_lt_zero _), Hd1, ExB.refl _ _, NwB.refl _ _ _, hO⟩, ?_⟩
  rintro i m σ' H ⟨rfl, hi, ho, Hd, a1, a3, a4⟩
  obtain ⟨q1, q2⟩ := hJ Hd H a3.1 a4.ex i
  by_cases hlt : i < as.length
  · have hx : as[i]? = some as[i] := List.getElem?_eq_getElem hlt
    obtain ⟨go, yl⟩ := q1 (enc as[i]) (by rw [List.getElem?_map, hx]; rfl)
    have step : ∀ {v H2}, J.yld i H v H2 → ∀ Q : L2.St → Hp → Prop, (∀ σ2 Hd2, ExB l H H2 → NwB l Hd H Hd2 → Own C j l (f i) Hd2 H2 σ2 (E2 i as[i]) → Q σ2 H2) → g v σ' H2 Q := fun {v H2} hy Q hQ => by
      obtain ⟨Hd2, b1, b2, b3, b4⟩ := yl v H2 hy
      refine hg i _ hx v σ' H2 Hd2 (a4.so.mono b3.1) b2 b4 _ fun σ2 so2 w2 => hQ σ2 Hd2 (.of b1) (.of b3) (a4.on b1 b2 b3 so2 ?_)
      have z := congrArg (fun s : L2.St => s[j]?) (w2 js fun q hq => hq)
      simp only [wipe_get, if_neg hjs] at z
      exact z
    cases hoi : o i with
    | true =>
      refine .inr ⟨go, fun _ _ => False, fun _ _ z => z.elim, fun v H2 hy => step hy _ fun σ2 Hd2 b1 b3 o2 => ?_⟩
      exact hr i _ hx ho hoi σ2 H2 Hd2 l o2 _ ((k.on a1 a3).on b1 b3)
    | false =>
      refine .inr ⟨go, fun σ2 H2 => ∃ Hd, ExB l H1 H2 ∧ NwB l Hd1 H1 Hd ∧ Own C j l (f (i + 1)) Hd H2 σ2 (e (i + 1)), fun σ2 H2 p2 => ⟨as.length - (i + 1), by omega, rfl, hlt, fun q hq => ?_, p2⟩, fun v H2 hy => step hy _ fun σ2 Hd2 b1 b3 o2 => ?_⟩
      · by_cases z : q = i
        · rw [z]
          exact hoi
        · exact ho q (by omega)
      · exact hn i _ hx ho hoi σ2 H2 Hd2 l o2 _ fun σ3 Hd3 H3 c1 c3 c4 => ⟨Hd3, (a1.trans b1).trans c1, (a3.trans a1 b3).trans (a1.trans b1) c3, c4⟩
  · have ei : i = as.length := by omega
    subst ei
    exact .inl ⟨q2 (by rw [List.length_map]; exact Nat.le_refl _), hd ho σ' Hd H a1 a3 a4⟩
/-- for x in source: .., beside the list; then the rest -/
theorem sa_for {α : Type} {as : List α} {enc : α → Da} (e : Nat → En) (f : Nat → List Da) (o : Nat → Bool) (E2 : Nat → α → En) (h0 : ∀ (i : Nat) (d : Sv), (e 0)[i]? = some (some d) → env[i]? = some (some d)) (hl : (e 0).length = env.length) (hf : f 0 = ds) (hs : Src C wi env (as.map enc)) (hjs : j ∉ js)
    (hg : ∀ (i : Nat) (x : α), as[i]? = some x → GD C g (enc x) (e i) js (E2 i x))
    (hr : ∀ (i : Nat) (x : α), as[i]? = some x → (∀ q, q < i → o q = false) → o i = true → SRetA C j t (E2 i x) (f i) d)
    (hn : ∀ (i : Nat) (x : α), as[i]? = some x → (∀ q, q < i → o q = false) → o i = false → SAcc C j t (E2 i x) (f i) (e (i + 1)) (f (i + 1)))
    (hd : (∀ q, q < as.length → o q = false) → SRetA C j u (e as.length) (f as.length) d) : SRetA C j (tSeq (tFor wi g t) u) env ds d := fun σ H Hd l ow D k => by
  subst hf
  refine hs σ H Hd ow.so ow.ex _ fun J Hd1 H1 e1 ex1 n1 js1 => ?_
  refine for_core e f o E2 js1 (D := { D with nx := u D }) (ow.on e1 ex1 n1 ((ow.so.mono n1.1).weak hl h0) rfl) hjs (fun _ _ _ _ _ => True.intro) hg hr hn (k.on (.of e1) (.of n1)) fun ho σ' Hd' H' a1 a2 a3 => ?_
  exact hd ho σ' H' Hd' l a3 D ((k.on (.of e1) (.of n1)).on a1 a2)
end
end K13

set_option Elab.async false
set_option linter.all false
set_option maxRecDepth 100000
set_option maxHeartbeats 4000000
namespace K13
open PySem PySem.Spec PyProof.Rows L2
open Evl (Ex)
/-! ### lots of numbers -/
structure LotOk (p : Nat) (l : List Nat) : Prop where
  lt : ∀ x, x ∈ l → x < p
  asc : l.Pairwise (· < ·)
theorem within_of {i lo hi : Int} (h1 : lo ≤ i) (h2 : i ≤ hi) : isWithin (.int i) lo hi = true := by
  show (decide (lo ≤ i) && decide (i ≤ hi)) = true
  rw [decide_eq_true h1, decide_eq_true h2]
  rfl
theorem isLot_of {p : Nat} {l : List Nat} (h : LotOk p l) : isLot (lotD l) (p : Int) = true := by
  show ((l.map fun (n : Nat) => Da.int (n : Int)).all (fun x => isWithin x 0 ((p : Int) - 1)) && ((l.map fun (n : Nat) => Da.int (n : Int)).zip ((l.map fun (n : Nat) => Da.int (n : Int)).drop 1)).all fun q => ltD q.1 q.2) = true
  have h1 : (l.map fun (n : Nat) => Da.int (n : Int)).all (fun x => isWithin x 0 ((p : Int) - 1)) = true := by
    rw [List.all_map, List.all_eq_true]
    intro x hx
    have := h.lt x hx
    show isWithin (.int (x : Int)) 0 ((p : Int) - 1) = true
    exact within_of (i := (x : Int)) (lo := 0) (hi := (p : Int) - 1) (by omega) (by omega)
  rw [h1, Bool.true_and]
  have key : ∀ l : List Nat, l.Pairwise (· < ·) → (((l.map fun (n : Nat) => Da.int (n : Int)).zip ((l.map fun (n : Nat) => Da.int (n : Int)).drop 1)).all fun q => ltD q.1 q.2) = true := by
    intro l
    induction l with
    | nil => intro _; rfl
    | cons a r ih =>
      intro hp
      cases r with
      | nil => rfl
      | cons b r =>
        obtain ⟨h2, h3⟩ := List.pairwise_cons.mp hp
        have h4 := ih h3
        have h5 : a < b := h2 b List.mem_cons_self
        show (decide ((a : Int) < (b : Int)) && (((b :: r).map fun (n : Nat) => Da.int (n : Int)).zip (((b :: r).map fun (n : Nat) => Da.int (n : Int)).drop 1)).all fun q => ltD q.1 q.2) = true
        rw [h4, decide_eq_true (by omega)]
        rfl
  exact key l h.asc
/-- the numbers of a lot -/
def natOf : Da → Nat | .int i => i.toNat | _ => 0
def lotOf : Da → List Nat | .tup xs => xs.map natOf | _ => []
theorem lotOf_lotD (l : List Nat) : lotOf (lotD l) = l := by
  show (l.map fun (n : Nat) => Da.int (n : Int)).map natOf = l
  rw [List.map_map]
  have e : (natOf ∘ fun (n : Nat) => Da.int (n : Int)) = fun n => n := by
    funext n
    show ((n : Int)).toNat = n
    omega
  rw [e, List.map_id']
theorem isLot_iff {p : Nat} {d : Da} (h : isLot d (p : Int) = true) : d = lotD (lotOf d) ∧ LotOk p (lotOf d) := by
  cases d with
  | tup xs =>
    have h0 : (xs.all (fun x => isWithin x 0 ((p : Int) - 1)) && (xs.zip (xs.drop 1)).all fun q => ltD q.1 q.2) = true := h
    rw [Bool.and_eq_true] at h0
    obtain ⟨h1, h2⟩ := h0
    have key : ∀ xs : List Da, xs.all (fun x => isWithin x 0 ((p : Int) - 1)) = true → ((xs.zip (xs.drop 1)).all fun q => ltD q.1 q.2) = true → xs = (xs.map natOf).map (fun (n : Nat) => Da.int (n : Int)) ∧ (∀ x, x ∈ xs.map natOf → x < p) ∧ (xs.map natOf).Pairwise (· < ·) := by
      intro xs
      induction xs with
      | nil => intro _ _; exact ⟨rfl, fun x hx => absurd hx (by simp), .nil⟩
      | cons a r ih =>
        intro h1 h2
        rw [List.all_cons, Bool.and_eq_true] at h1
        obtain ⟨i, ea, hi0, hi1⟩ := within_int h1.1
        subst ea
        have hn : ((natOf (.int i) : Nat) : Int) = i := by
          show ((i.toNat : Nat) : Int) = i
          omega
        have hlt : natOf (.int i) < p := by omega
        cases r with
        | nil =>
          refine ⟨by simp [hn], fun x hx => ?_, by simp⟩
          simp at hx
          rw [hx]
          exact hlt
        | cons b r =>
          have h3 : (ltD (.int i) b && ((b :: r).zip ((b :: r).drop 1)).all fun q => ltD q.1 q.2) = true := h2
          rw [Bool.and_eq_true] at h3
          obtain ⟨e1, e2, e3⟩ := ih h1.2 h3.2
          rw [List.all_cons, Bool.and_eq_true] at h1
          obtain ⟨k, eb, hk0, hk1⟩ := within_int h1.2.1
          subst eb
          have hik : decide (i < k) = true := h3.1
          have hik2 := of_decide_eq_true hik
          have hk : ((natOf (.int k) : Nat) : Int) = k := by
            show ((k.toNat : Nat) : Int) = k
            omega
          refine ⟨?_, fun x hx => ?_, ?_⟩
          · rw [List.map_cons, List.map_cons, hn]
            exact congrArg _ e1
          · rw [List.map_cons] at hx
            rcases List.mem_cons.mp hx with z | z
            · rw [z]
              exact hlt
            · exact e2 x z
          · rw [List.map_cons]
            refine List.pairwise_cons.mpr ⟨fun x hx => ?_, e3⟩
            rw [List.map_cons] at hx e3
            rcases List.mem_cons.mp hx with z | z
            · rw [z]
              omega
            · have := (List.pairwise_cons.mp e3).1 x z
              omega
    obtain ⟨e1, e2, e3⟩ := key xs h1 h2
    exact ⟨congrArg Da.tup e1, e2, e3⟩
  | _ => cases h
/-! ### what makes a net -/
structure DeedOk (p : Nat) (d : List Nat × List Nat) : Prop where
  i : LotOk p d.1
  o : LotOk p d.2
  ni : d.1 ≠ []
  no : d.2 ≠ []
  li : d.1.length ≤ 10
  lo : d.2.length ≤ 10
structure NetV (n : NetD) : Prop where
  p1 : 1 ≤ n.places
  p2 : n.places ≤ 10
  d1 : 1 ≤ n.deeds.length
  d2 : n.deeds.length ≤ 10
  deeds : ∀ d, d ∈ n.deeds → DeedOk n.places d
  used : ∀ p, p < n.places → ∃ d, d ∈ n.deeds ∧ p ∈ d.1
  free : ∀ d e, d ∈ n.deeds → e ∈ n.deeds → d.1 ≠ e.1 → ∀ p, p ∈ d.1 → p ∉ e.1
theorem NetV.ok {n : NetD} (h : NetV n) : NetOk n := ⟨h.p2, h.d2, fun d hd => ⟨(h.deeds d hd).li, (h.deeds d hd).ni, (h.deeds d hd).i.lt⟩, fun d hd => ⟨(h.deeds d hd).lo, (h.deeds d hd).o.lt⟩⟩
inductive pDeedOf : List Sv → Sv → Prop | mk (p : Nat) (d : List Nat × List Nat) (h : DeedOk p d) : pDeedOf [.d (.int (p : Int)), .d (deedD d)] (.d (.bl true))
inductive pDeeds : List Sv → Sv → Prop | mk (n : NetD) (h : NetV n) : pDeeds [.d (.int (n.places : Int)), .d (deedsD n.deeds), .d (.int 10)] (.d (.bl true))
inductive pUsed : List Sv → Sv → Prop | mk (n : NetD) (h : NetV n) : pUsed [.d (.int (n.places : Int)), .d (deedsD n.deeds), .d (.tup [])] (.d (.bl true))
inductive pFree : List Sv → Sv → Prop | mk (n : NetD) (h : NetV n) : pFree [.d (deedsD n.deeds)] (.d (.bl true))
/-! ### standings -/
def isStand (n : NetD) (d : Da) : Bool := match d with
  | .tup xs => decide (xs.length = n.places) && xs.all isNumber
  | _ => false
inductive pStanding : List Sv → Sv → Prop | mk (n : NetD) (d : Da) (h : NetOk n) : pStanding [.net n, .d d] (.d (.bl (isStand n d)))
inductive pMarked : List Sv → Sv → Prop | mk (l st : List Nat) (h : ∀ p, p ∈ l → p < st.length) (hz : l.length ≤ 1000) : pMarked [.d (lotD l), .d (lotD st)] (.d (.bl (isMarked l st)))
def canDo (n : NetD) (st : List Nat) (i : Nat) : Bool := ((n.deeds.getD i ([], [])).1).all fun p => decide (0 < st.getD p 0)
inductive pCanDo : List Sv → Sv → Prop | mk (n : NetD) (st : List Nat) (i : Nat) (h : NetOk n) (hs : st.length = n.places) (hi : i < n.deeds.length) : pCanDo [.net n, .d (lotD st), .d (.int (i : Int))] (.d (.bl (canDo n st i)))
inductive pReady : List Sv → Sv → Prop | mk (n : NetD) (st : List Nat) (h : NetOk n) (hs : st.length = n.places) : pReady [.net n, .d (lotD st)] (.d (lotD ((List.range n.deeds.length).filter (canDo n st))))
/-! ### lots of a net -/
def lenD : Da → Nat | .tup xs => xs.length | _ => 0
def lotIn (n : NetD) (d : Da) : Bool := isLot d (n.places : Int) && decide (0 < lenD d)
inductive pLotIn : List Sv → Sv → Prop | mk (n : NetD) (d : Da) (hz : szT d) : pLotIn [.net n, .d d] (.d (.bl (lotIn n d)))
inductive pSiphon : List Sv → Sv → Prop | mk (n : NetD) (d : Da) (h : NetOk n) (hz : szT d) : pSiphon [.net n, .d d] (.d (.bl (lotIn n d && keepsSiphon n.deeds (lotOf d))))
inductive pTrap : List Sv → Sv → Prop | mk (n : NetD) (d : Da) (h : NetOk n) (hz : szT d) : pTrap [.net n, .d d] (.d (.bl (lotIn n d && keepsTrap n.deeds (lotOf d))))
abbrev s_is_deed_of : Stmt := topS 15
theorem sc_is_deed_of : FnScope ["places", "thing", "lot"] ["places", "thing"] (defScope s_is_deed_of) := ⟨rfl, rfl, rfl, by decide +kernel, rfl, by decide +kernel, by decide +kernel⟩
abbrev s_are_deeds : Stmt := topS 16
theorem sc_are_deeds : FnScope ["places", "thing", "most", "deed"] ["places", "thing", "most"] (defScope s_are_deeds) := ⟨rfl, rfl, rfl, by decide +kernel, rfl, by decide +kernel, by decide +kernel⟩
abbrev s_are_used : Stmt := topS 17
theorem sc_are_used : FnScope ["places", "deeds", "spare", "place", "ins", "outs"] ["places", "deeds", "spare"] (defScope s_are_used) := ⟨rfl, rfl, rfl, by decide +kernel, rfl, by decide +kernel, by decide +kernel⟩
abbrev s_are_free : Stmt := topS 18
theorem sc_are_free : FnScope ["deeds", "one", "outs", "other", "more", "place"] ["deeds"] (defScope s_are_free) := ⟨rfl, rfl, rfl, by decide +kernel, rfl, by decide +kernel, by decide +kernel⟩
abbrev s_is_standing : Stmt := topS 20
theorem sc_is_standing : FnScope ["net", "thing", "marks"] ["net", "thing"] (defScope s_is_standing) := ⟨rfl, rfl, rfl, by decide +kernel, rfl, by decide +kernel, by decide +kernel⟩
abbrev s_is_marked : Stmt := topS 44
theorem sc_is_marked : FnScope ["lot", "standing", "place"] ["lot", "standing"] (defScope s_is_marked) := ⟨rfl, rfl, rfl, by decide +kernel, rfl, by decide +kernel, by decide +kernel⟩
abbrev s_can_do : Stmt := topS 22
theorem sc_can_do : FnScope ["net", "standing", "deed", "place"] ["net", "standing", "deed"] (defScope s_can_do) := ⟨rfl, rfl, rfl, by decide +kernel, rfl, by decide +kernel, by decide +kernel⟩
abbrev s_ready_in : Stmt := topS 24
theorem sc_ready_in : FnScope ["net", "standing", "deed"] ["net", "standing"] (defScope s_ready_in) := ⟨rfl, rfl, rfl, by decide +kernel, rfl, by decide +kernel, by decide +kernel⟩
abbrev s_lot_in : Stmt := topS 30
theorem sc_lot_in : FnScope ["net", "thing"] ["net", "thing"] (defScope s_lot_in) := ⟨rfl, rfl, rfl, by decide +kernel, rfl, by decide +kernel, by decide +kernel⟩
abbrev s_is_siphon : Stmt := topS 35
theorem sc_is_siphon : FnScope ["net", "thing"] ["net", "thing"] (defScope s_is_siphon) := ⟨rfl, rfl, rfl, by decide +kernel, rfl, by decide +kernel, by decide +kernel⟩
abbrev s_is_trap : Stmt := topS 36
theorem sc_is_trap : FnScope ["net", "thing"] ["net", "thing"] (defScope s_is_trap) := ⟨rfl, rfl, rfl, by decide +kernel, rfl, by decide +kernel, by decide +kernel⟩
theorem get_lot {l : List Nat} {p : Nat} (h : p < l.length) : (l.map fun (n : Nat) => Da.int (n : Int))[p]? = some (.int ((l.getD p 0 : Nat) : Int)) := by
  rw [List.getElem?_map, List.getElem?_eq_getElem h, List.getD_eq_getElem?_getD, List.getElem?_eq_getElem h]
  rfl
section
variable {P : Program} {w : World} {K : PySem.W.Frag} {mg : Str → Option Value} {base : Heap} {C : CW}
theorem ok_is_deed_of (B : Bt mg) (c_is_tuple : Cal P w K mg base CX0 1 "is_tuple" (spD C pTuple)) (c_is_lot : Cal P w K mg base CX0 3 "is_lot" (spD C pLot)) (F : DefAt K mg "is_deed_of" s_is_deed_of) : Cal P w K mg base CX0 4 "is_deed_of" (spD C pDeedOf) := by
  refine cal_pure F sc_is_deed_of (fun _ _ _ _ _ _ us hl => match us, hl with | [_, _], _ => rfl) (fun ds r h => by cases h; rfl) fun f cdv A outer s H E hr => ⟨_,
    (pss_cons (ps_if (pt_not (pt_val (pe_cal c_is_tuple hr (by decide) rfl pass0 (pa_cons (pv 1) (pa_cons pe_int (pa_cons pe_int pa_nil)))))) (pss_one (ps_ret pe_bl)) pss_nil)
      (pss_one (ps_ret (pe_callB (cr_allK K rfl) (by rfl) B.all_ b_all (pa_cons (pe_lc (own := [("lot", 2)]) rfl sc_is_deed_of.nd (pi_tupK K (pv 1)) (blkOk_by (by kernel_rfl)) (fun _ _ _ _ _ => pg_name (i := 2) sc_is_deed_of.nd rfl (Or.inl rfl)) (fun _ _ _ _ _ => pts_nil) (fun _ _ _ _ _ => (pe_and (pe_cal c_is_lot hr (by decide) rfl pass0 (pa_cons (pv 2) (pa_cons (pv 0) pa_nil))) (pe_one (pe_cmpR op_gt (pe_callB (call_lenK K) (by rfl) B.len_ b_len (pa_cons (pv 2) pa_nil)) pe_int (nomark _)))))) pa_nil))))), fun ds r h => ?_⟩
  cases h with
  | mk p d h =>
    refine sr_when (et_not (et_B (ed_call (ea_cons (ed_var rfl) (ea_cons ed_int (ea_cons ed_int ea_nil))) (.mk _ _ _)))) (fun z => nomatch z) fun _ => sr_ret (ed_is (ed_all (g := fun _ : List Nat => true) (ed_lc0 (as := [d.1, d.2]) (enc := lotD) _ _ (src_tup (ed_var rfl)) (by show 2 ≤ 40000; decide) (fun j h => h) _ (fun x _ => gd_name) (fun l hl => ?_))) rfl)
    have hl2 : LotOk p l ∧ l ≠ [] ∧ l.length ≤ 10 := by
      simp only [List.mem_cons, List.not_mem_nil, or_false] at hl
      rcases hl with rfl | rfl
      · exact ⟨h.i, h.ni, h.li⟩
      · exact ⟨h.o, h.no, h.lo⟩
    have hpos : 0 < l.length := List.length_pos_iff.mpr hl2.2.1
    refine ed_is (ed_andV (ed_call (ea_cons (ed_var rfl) (ea_cons (ed_var rfl) ea_nil)) (.mk _ _ (by show (l.map _).length ≤ 1000; rw [List.length_map]; exact Nat.le_trans hl2.2.2 (by decide)))) fun _ => ed_op (ed_cb (ea_cons (ed_var rfl) ea_nil) rc_len) ed_int rv_B0) ?_
    rw [isLot_of hl2.1, List.length_map]
    show Sv.d (.bl (true && decide ((0 : Int) < (l.length : Int)))) = _
    rw [decide_eq_true (by omega)]
    rfl
theorem ok_are_deeds (B : Bt mg) (c_is_tuple : Cal P w K mg base CX0 1 "is_tuple" (spD C pTuple)) (c_is_deed_of : Cal P w K mg base CX0 4 "is_deed_of" (spD C pDeedOf)) (F : DefAt K mg "are_deeds" s_are_deeds) : Cal P w K mg base CX0 5 "are_deeds" (spD C pDeeds) := by
  refine cal_pure F sc_are_deeds (fun _ _ _ _ _ _ us hl => match us, hl with | [_, _, _], _ => rfl) (fun ds r h => by cases h; rfl) fun f cdv A outer s H E hr => ⟨_,
    (pss_one (ps_ret (pe_and (pe_cal c_is_tuple hr (by decide) rfl pass0 (pa_cons (pv 1) (pa_cons pe_int (pa_cons (pv 2) pa_nil)))) (pe_one (pe_callB (cr_allK K rfl) (by rfl) B.all_ b_all (pa_cons (pe_lc (own := [("deed", 3)]) rfl sc_are_deeds.nd (pi_tupK K (pv 1)) (blkOk_by (by kernel_rfl)) (fun _ _ _ _ _ => pg_name (i := 3) sc_are_deeds.nd rfl (Or.inl rfl)) (fun _ _ _ _ _ => pts_nil) (fun _ _ _ _ _ => (pe_cal c_is_deed_of hr (by decide) rfl pass0 (pa_cons (pv 0) (pa_cons (pv 3) pa_nil))))) pa_nil)))))), fun ds r h => ?_⟩
  cases h with
  | mk n h =>
    refine sr_ret (ed_is (ed_andV (ed_call (ea_cons (ed_var rfl) (ea_cons ed_int (ea_cons (ed_var rfl) ea_nil))) (.mk _ _ _)) fun _ => ed_all (g := fun _ => true) (ed_lc0 (as := n.deeds) (enc := deedD) _ _ (src_tup (ed_var rfl)) (Nat.le_trans h.d2 (by decide)) (fun j h => h) _ (fun x _ => gd_name)
      (fun d hd => ed_call (ea_cons (ed_var rfl) (ea_cons (ed_var rfl) ea_nil)) (.mk _ _ (h.deeds d hd))))) ?_)
    have e : isTuple (deedsD n.deeds) 1 10 = true := by
      show (decide ((1 : Int) ≤ ((n.deeds.map deedD).length : Int)) && decide (((n.deeds.map deedD).length : Int) ≤ 10)) = true
      have h1 := h.d1
      have h2 := h.d2
      rw [List.length_map, decide_eq_true (by omega), decide_eq_true (by omega)]
      rfl
    rw [e]
    show Sv.d (.bl (n.deeds.all fun _ => true)) = _
    rw [List.all_eq_true.mpr fun _ _ => rfl]
theorem ok_are_used (B : Bt mg) (F : DefAt K mg "are_used" s_are_used) : Cal P w K mg base CX0 1 "are_used" (spD C pUsed) := by
  refine cal_pure F sc_are_used (fun _ _ _ _ _ _ us hl => match us, hl with | [_, _, _], _ => rfl) (fun ds r h => by cases h; rfl) fun f cdv A outer s H E hr => ⟨_,
    (pss_one (ps_ret (pe_callB (cr_allK K rfl) (by rfl) B.all_ b_all (pa_cons (pe_lc (own := [("place", 3)]) rfl sc_are_used.nd (pi_range1 rfl B.range_ (pa_cons (pv 0) pa_nil)) (blkOk_by (by kernel_rfl)) (fun _ _ _ _ _ => pg_name (i := 3) sc_are_used.nd rfl (Or.inr rfl)) (fun _ _ _ _ _ => pts_nil) (fun _ _ _ _ _ => (pe_or (pe_cmpR (op_inK K) (pv 3) (pv 2) rfl) (pe_one (pe_callB (cr_anyK K rfl) (by rfl) B.any_ b_any (pa_cons (pe_lc (own := [("ins", 4), ("outs", 5)]) rfl sc_are_used.nd (pi_tupK K (pv 1)) (blkOk_by (by kernel_rfl)) (fun _ _ _ _ _ => pg_tupK K (n := 2) rfl (pgs_cons (pg_name (i := 4) sc_are_used.nd rfl (Or.inl rfl)) (pgs_cons (pg_name (i := 5) sc_are_used.nd rfl (Or.inl rfl)) pgs_nil))) (fun _ _ _ _ _ => pts_nil) (fun _ _ _ _ _ => (pe_cmpR (op_inK K) (pv 3) (pv 4) rfl))) pa_nil)))))) pa_nil)))), fun ds r h => ?_⟩
  cases h with
  | mk n h =>
    refine sr_ret (ed_is (ed_all (g := fun _ => true) (ed_lc0 (as := List.range n.places) (enc := fun (i : Nat) => Da.int (i : Int)) _ _ (src_rng (ea_cons (ed_var rfl) ea_nil) (Nat.le_trans h.p2 (by decide))) (by rw [List.length_range]; exact Nat.le_trans h.p2 (by decide)) (fun j h => h) _ (fun x _ => gd_name) (fun p hp => ?_))) ?_)
    · obtain ⟨d, hd, hpd⟩ := h.used p (List.mem_range.mp hp)
      refine ed_is (ed_orV (ed_op (ed_var rfl) (ed_var rfl) (rv_inT (l := []))) fun _ => ed_any (g := fun d : List Nat × List Nat => d.1.contains p) (ed_lc0 (as := n.deeds) (enc := deedD) _ _ (src_tup (ed_var rfl)) (Nat.le_trans h.d2 (by decide)) (fun j h => h) _ (fun x _ => gd_tup2 gd_name gd_name) (fun d hd => ed_op (ed_var rfl) (ed_var rfl) rv_inT))) ?_
      have e : (n.deeds.any fun d => d.1.contains p) = true := List.any_eq_true.mpr ⟨d, hd, by simpa using hpd⟩
      rw [e]
      rfl
    · rw [List.all_eq_true.mpr fun _ _ => rfl]
theorem ok_are_free (B : Bt mg) (F : DefAt K mg "are_free" s_are_free) : Cal P w K mg base CX0 1 "are_free" (spD C pFree) := by
  refine cal_pure F sc_are_free (fun _ _ _ _ _ _ us hl => match us, hl with | [_], _ => rfl) (fun ds r h => by cases h; rfl) fun f cdv A outer s H E hr => ⟨_,
    (pss_cons (ps_for PassesOwn.never rfl (pi_tupK K (pv 0)) (pg_tupK K (n := 2) rfl (pgs_cons (pg_name (i := 1) sc_are_free.nd rfl (Or.inr rfl)) (pgs_cons (pg_name (i := 2) sc_are_free.nd rfl (Or.inl rfl)) pgs_nil))) (pss_one (ps_if (pt_val (pe_callB (cr_anyK K rfl) (by rfl) B.any_ b_any (pa_cons (pe_lc (own := [("other", 3), ("more", 4)]) rfl sc_are_free.nd (pi_tupK K (pv 0)) (blkOk_by (by kernel_rfl)) (fun _ _ _ _ _ => pg_tupK K (n := 2) rfl (pgs_cons (pg_name (i := 3) sc_are_free.nd rfl (Or.inr rfl)) (pgs_cons (pg_name (i := 4) sc_are_free.nd rfl (Or.inl rfl)) pgs_nil))) (fun _ _ _ _ _ => pts_nil) (fun _ _ _ _ _ => (pe_and (pe_cmpR (op_neK K hr.units) (pv 1) (pv 3) (nomark _)) (pe_one (pe_callB (cr_anyK K rfl) (by rfl) B.any_ b_any (pa_cons (pe_lc (own := [("place", 5)]) rfl sc_are_free.nd (pi_tupK K (pv 1)) (blkOk_by (by kernel_rfl)) (fun _ _ _ _ _ => pg_name (i := 5) sc_are_free.nd rfl (Or.inl rfl)) (fun _ _ _ _ _ => pts_nil) (fun _ _ _ _ _ => (pe_cmpR (op_inK K) (pv 5) (pv 3) rfl))) pa_nil)))))) pa_nil))) (pss_one (ps_ret pe_bl)) pss_nil)))
      (pss_one (ps_ret pe_bl))), fun ds r h => ?_⟩
  cases h with
  | mk n h =>
    refine sr_for (as := n.deeds) (enc := deedD) (fun _ => [some (.d (deedsD n.deeds)), none, none, none, none, none]) (fun _ => false) _ (fun i d hi => hi) rfl (src_tup (ed_var rfl)) (fun i d hi => gd_tup2 gd_name gd_name) (fun i d hi ho z => nomatch z) (fun i d hi ho _ => ?_) (fun _ => sr_ret ed_bl)
    have hd : d ∈ n.deeds := List.mem_of_getElem? hi
    refine sn_weak (sn_if (b := false) (et_B (ed_is (ed_any (g := fun _ => false) (ed_lc0 (as := n.deeds) (enc := deedD) _ _ (src_tup (ed_var rfl)) (Nat.le_trans h.d2 (by decide)) (fun j h => h) _ (fun x _ => gd_tup2 gd_name gd_name) (fun e he => ?_))) ?_)) (fun z => nomatch z) (fun _ => sn_next)) rfl ?_
    · refine ed_is (ed_andV (ed_op (ed_var rfl) (ed_var rfl) rv_neLot) fun _ => ed_any (g := fun p => e.1.contains p) (ed_lc0 (as := d.1) (enc := fun (p : Nat) => Da.int (p : Int)) _ _ (src_tup (ed_var rfl)) (Nat.le_trans (h.deeds d hd).li (by decide)) (fun j h => h) _ (fun x _ => gd_name) (fun p hp => ed_op (ed_var rfl) (ed_var rfl) rv_inT))) ?_
      by_cases hne : d.1 = e.1
      · rw [decide_eq_true hne]
        rfl
      · have q : (d.1.any fun p => e.1.contains p) = false := by
          rw [List.any_eq_false]
          intro p hp
          have := h.free d e hd he hne p hp
          simpa using this
        rw [q, Bool.and_false]
    · have q : (n.deeds.any fun _ => false) = false := by
        rw [List.any_eq_false]
        intro p hp
        exact Bool.false_ne_true
      rw [q]
    · intro q e hq
      match q, hq with
      | 0, hq => exact hq
      | 1, hq => exact nomatch (Option.some.inj hq)
      | 2, hq => exact nomatch (Option.some.inj hq)
      | 3, hq => exact nomatch (Option.some.inj hq)
      | 4, hq => exact nomatch (Option.some.inj hq)
      | 5, hq => exact nomatch (Option.some.inj hq)
      | k + 6, hq => exact nomatch hq
theorem ok_is_standing (B : Bt mg) (Z : Cls K C.c) (nP : NoAttr K C.c "places") (c_is_tuple : Cal P w K mg base CX0 1 "is_tuple" (spD C pTuple)) (c_is_number : Cal P w K mg base CX0 2 "is_number" (spD C pNumber)) (F : DefAt K mg "is_standing" s_is_standing) : Cal P w K mg base CX0 3 "is_standing" (spD C pStanding) := by
  refine cal_pure F sc_is_standing (fun _ _ _ _ _ _ us hl => match us, hl with | [_, _], _ => rfl) (fun ds r h => by cases h; rfl) fun f cdv A outer s H E hr => ⟨_,
    (pss_one (ps_ret (pe_and (pe_cal c_is_tuple hr (by decide) rfl pass0 (pa_cons (pv 1) (pa_cons (pe_fldK K (pv 0) rfl) (pa_cons (pe_fldK K (pv 0) rfl) pa_nil)))) (pe_one (pe_callB (cr_allK K rfl) (by rfl) B.all_ b_all (pa_cons (pe_lc (own := [("marks", 2)]) rfl sc_is_standing.nd (pi_tupK K (pv 1)) (blkOk_by (by kernel_rfl)) (fun _ _ _ _ _ => pg_name (i := 2) sc_is_standing.nd rfl (Or.inl rfl)) (fun _ _ _ _ _ => pts_nil) (fun _ _ _ _ _ => (pe_cal c_is_number hr (by decide) rfl pass0 (pa_cons (pv 2) pa_nil)))) pa_nil)))))), fun ds r h => ?_⟩
  cases h with
  | mk n d ok =>
    cases d with
    | tup xs =>
      have e : isTuple (.tup xs) (n.places : Int) (n.places : Int) = decide (xs.length = n.places) := by
        show (decide ((n.places : Int) ≤ (xs.length : Int)) && decide ((xs.length : Int) ≤ (n.places : Int))) = _
        rw [Bool.eq_iff_iff]
        simp
        omega
      refine sr_ret (ed_is (ed_andV (c := xs.all isNumber) (ed_call (ea_cons (ed_var rfl) (ea_cons (ed_places Z nP (ed_var rfl)) (ea_cons (ed_places Z nP (ed_var rfl)) ea_nil))) (.mk _ _ _)) fun hb => ?_) ?_)
      · rw [e] at hb
        have hl := of_decide_eq_true hb
        exact ed_all (g := isNumber) (ed_lc0 (as := xs) (enc := fun x => x) _ _ (src_tupD (ed_var rfl)) (by rw [hl]; exact Nat.le_trans ok.places (by decide)) (fun j h => h) _ (fun x _ => gd_name) (fun x _ => ed_call (ea_cons (ed_var rfl) ea_nil) (.mk _)))
      · rw [e]
        rfl
    | _ => exact sr_ret (ed_is (ed_andV (c := false) (ed_call (ea_cons (ed_var rfl) (ea_cons (ed_places Z nP (ed_var rfl)) (ea_cons (ed_places Z nP (ed_var rfl)) ea_nil))) (.mk _ _ _)) fun z => nomatch z) rfl)
theorem ok_is_marked (B : Bt mg) (F : DefAt K mg "is_marked" s_is_marked) : Cal P w K mg base CX0 1 "is_marked" (spD C pMarked) := by
  refine cal_pure F sc_is_marked (fun _ _ _ _ _ _ us hl => match us, hl with | [_, _], _ => rfl) (fun ds r h => by cases h; rfl) fun f cdv A outer s H E hr => ⟨_,
    (pss_one (ps_ret (pe_callB (cr_anyK K rfl) (by rfl) B.any_ b_any (pa_cons (pe_lc (own := [("place", 2)]) rfl sc_is_marked.nd (pi_tupK K (pv 0)) (blkOk_by (by kernel_rfl)) (fun _ _ _ _ _ => pg_name (i := 2) sc_is_marked.nd rfl (Or.inl rfl)) (fun _ _ _ _ _ => pts_nil) (fun _ _ _ _ _ => (pe_cmpR op_gt (pe_ix (ix_tupK K) (pv 1) (pv 2) (fun _ _ => rfl)) pe_int (nomark _)))) pa_nil)))), fun ds r h => ?_⟩
  cases h with
  | mk l st h hz =>
    refine sr_ret (ed_is (ed_any (g := fun p => decide ((0 : Int) < ((st.getD p 0 : Nat) : Int))) (ed_lc0 (as := l) (enc := fun (p : Nat) => Da.int (p : Int)) _ _ (src_tup (ed_var rfl)) (Nat.le_trans hz (by decide)) (fun j h => h) _ (fun x _ => gd_name)
      (fun p hp => ed_op (ed_op (ed_var rfl) (ed_var rfl) (rv_ixT (j := p) (get_lot (h p hp)) rfl)) ed_int rv_B0))) ?_)
    unfold isMarked
    refine congrArg (fun f => Sv.d (.bl (l.any f))) (funext fun p => decide_eq_decide.mpr (by omega))
theorem ok_can_do (B : Bt mg) (Z : Cls K C.c) (nD : NoAttr K C.c "deeds") (F : DefAt K mg "can_do" s_can_do) : Cal P w K mg base CX0 1 "can_do" (spD C pCanDo) := by
  refine cal_pure F sc_can_do (fun _ _ _ _ _ _ us hl => match us, hl with | [_, _, _], _ => rfl) (fun ds r h => by cases h; rfl) fun f cdv A outer s H E hr => ⟨_,
    (pss_one (ps_ret (pe_callB (cr_allK K rfl) (by rfl) B.all_ b_all (pa_cons (pe_lc (own := [("place", 3)]) rfl sc_can_do.nd (pi_tupK K (pe_ix (ix_tupK K) (pe_ix (ix_tupK K) (pe_fldK K (pv 0) rfl) (pv 2) (fun _ _ => rfl)) pe_int (fun _ _ => rfl))) (blkOk_by (by kernel_rfl)) (fun _ _ _ _ _ => pg_name (i := 3) sc_can_do.nd rfl (Or.inl rfl)) (fun _ _ _ _ _ => pts_nil) (fun _ _ _ _ _ => (pe_cmpR op_gt (pe_ix (ix_tupK K) (pv 1) (pv 3) (fun _ _ => rfl)) pe_int (nomark _)))) pa_nil)))), fun ds r h => ?_⟩
  cases h with
  | mk n st i ok hs hi =>
    have hd : n.deeds[i] ∈ n.deeds := List.getElem_mem hi
    have hg : (n.deeds.map deedD)[i]? = some (deedD n.deeds[i]) := by
      rw [List.getElem?_map, List.getElem?_eq_getElem hi]
      rfl
    have ec : canDo n st i = n.deeds[i].1.all fun p => decide (0 < st.getD p 0) := by
      unfold canDo
      rw [List.getD_eq_getElem?_getD, List.getElem?_eq_getElem hi]
      rfl
    refine sr_ret (ed_is (ed_all (g := fun p => decide ((0 : Int) < ((st.getD p 0 : Nat) : Int))) (ed_lc0 (as := n.deeds[i].1) (enc := fun (p : Nat) => Da.int (p : Int)) _ _ (src_tup (ed_op (ed_op (ed_deeds Z nD (ed_var rfl)) (ed_var rfl) (rv_ixT (j := i) hg rfl)) ed_int (rv_ixT (j := 0) rfl rfl))) (Nat.le_trans (ok.ins _ hd).1 (by decide)) (fun j h => h) _ (fun x _ => gd_name)
      (fun p hp => ed_op (ed_op (ed_var rfl) (ed_var rfl) (rv_ixT (j := p) (get_lot (by rw [hs]; exact (ok.ins _ hd).2.2 p hp)) rfl)) ed_int rv_B0))) ?_)
    rw [ec]
    refine congrArg (fun f => Sv.d (.bl (n.deeds[i].1.all f))) (funext fun p => decide_eq_decide.mpr (by omega))
theorem ok_ready_in (B : Bt mg) (Z : Cls K C.c) (nD : NoAttr K C.c "deeds") (c_can_do : Cal P w K mg base CX0 1 "can_do" (spD C pCanDo)) (F : DefAt K mg "ready_in" s_ready_in) : Cal P w K mg base CX0 2 "ready_in" (spD C pReady) := by
  refine cal_pure F sc_ready_in (fun _ _ _ _ _ _ us hl => match us, hl with | [_, _], _ => rfl) (fun ds r h => by cases h; rfl) fun f cdv A outer s H E hr => ⟨_,
    (pss_one (ps_ret (pe_callTy (call_tupK K) (by rfl) B.tuple_ b_tuple (pa_cons (pe_lc (own := [("deed", 2)]) rfl sc_ready_in.nd (pi_range1 rfl B.range_ (pa_cons (pe_callB (call_lenK K) (by rfl) B.len_ b_len (pa_cons (pe_fldK K (pv 0) rfl) pa_nil)) pa_nil)) (blkOk_by (by kernel_rfl)) (fun _ _ _ _ _ => pg_name (i := 2) sc_ready_in.nd rfl (Or.inl rfl)) (fun _ _ _ _ _ => pts_one (pt_val (pe_cal c_can_do hr (by decide) rfl pass0 (pa_cons (pv 0) (pa_cons (pv 1) (pa_cons (pv 2) pa_nil)))))) (fun _ _ _ _ _ => (pv 2))) pa_nil)))), fun ds r h => ?_⟩
  cases h with
  | mk n st ok hs =>
    refine sr_ret (ed_cb (ea_cons (ed_lc (as := List.range n.deeds.length) (enc := fun (i : Nat) => Da.int (i : Int)) (fun (i : Nat) => Da.int (i : Int)) (canDo n st) _ (src_rng (ea_cons (ed_is (ed_cb (ea_cons (ed_deeds Z nD (ed_var rfl)) ea_nil) rc_len) (by rw [List.length_map])) ea_nil) (Nat.le_trans ok.deeds (by decide)))
      (by rw [List.length_range]; exact Nat.le_trans ok.deeds (by decide)) (fun j h => h) _ (fun x _ => gd_name) (fun i hi => et_B (ed_call (ea_cons (ed_var rfl) (ea_cons (ed_var rfl) (ea_cons (ed_var rfl) ea_nil))) (.mk _ _ _ ok hs (List.mem_range.mp hi)))) (fun i _ _ => ed_var rfl)) ea_nil) rc_tupL)
theorem ok_lot_in (B : Bt mg) (Z : Cls K C.c) (nP : NoAttr K C.c "places") (c_is_lot : Cal P w K mg base CX0 3 "is_lot" (spD C pLot)) (F : DefAt K mg "lot_in" s_lot_in) : Cal P w K mg base CX0 4 "lot_in" (spD C pLotIn) := by
  refine cal_pure F sc_lot_in (fun _ _ _ _ _ _ us hl => match us, hl with | [_, _], _ => rfl) (fun ds r h => by cases h; rfl) fun f cdv A outer s H E hr => ⟨_,
    (pss_one (ps_ret (pe_and (pe_cal c_is_lot hr (by decide) rfl pass0 (pa_cons (pv 1) (pa_cons (pe_fldK K (pv 0) rfl) pa_nil))) (pe_one (pe_cmpR op_gt (pe_callB (call_lenK K) (by rfl) B.len_ b_len (pa_cons (pv 1) pa_nil)) pe_int (nomark _)))))), fun ds r h => ?_⟩
  cases h with
  | mk n d hz =>
    cases d with
    | tup xs =>
      refine sr_ret (ed_is (ed_andV (ed_call (ea_cons (ed_var rfl) (ea_cons (ed_places Z nP (ed_var rfl)) ea_nil)) (.mk _ _ hz)) fun _ => ed_op (ed_cb (ea_cons (ed_var rfl) ea_nil) rc_len) ed_int rv_B0) ?_)
      unfold lotIn
      refine congrArg (fun b => Sv.d (.bl (_ && b))) (decide_eq_decide.mpr ?_)
      show (0 : Int) < (xs.length : Int) ↔ 0 < xs.length
      omega
    | _ => exact sr_ret (ed_is (ed_andV (c := false) (ed_call (ea_cons (ed_var rfl) (ea_cons (ed_places Z nP (ed_var rfl)) ea_nil)) (.mk _ _ hz)) fun z => nomatch z) rfl)
theorem ok_is_siphon (B : Bt mg) (c_lot_in : Cal P w K mg base CX0 4 "lot_in" (spD C pLotIn)) (c_keeps_siphon : Cal P w K mg base CX0 2 "keeps_siphon" (spD C pKeepsS)) (F : DefAt K mg "is_siphon" s_is_siphon) : Cal P w K mg base CX0 5 "is_siphon" (spD C pSiphon) := by
  refine cal_pure F sc_is_siphon (fun _ _ _ _ _ _ us hl => match us, hl with | [_, _], _ => rfl) (fun ds r h => by cases h; rfl) fun f cdv A outer s H E hr => ⟨_,
    (pss_one (ps_ret (pe_and (pe_cal c_lot_in hr (by decide) rfl pass0 (pa_cons (pv 0) (pa_cons (pv 1) pa_nil))) (pe_one (pe_cal c_keeps_siphon hr (by decide) rfl pass0 (pa_cons (pv 0) (pa_cons (pv 1) pa_nil))))))), fun ds r h => ?_⟩
  cases h with
  | mk n d ok hz =>
    refine sr_ret (ed_andV (ed_call (ea_cons (ed_var rfl) (ea_cons (ed_var rfl) ea_nil)) (.mk _ _ hz)) fun hb => ?_)
    have hl : isLot d (n.places : Int) = true := (Bool.and_eq_true_iff.mp hb).1
    have e := (isLot_iff hl).1
    refine ed_call (ea_cons (ed_var rfl) (ea_cons (ed_var rfl) ea_nil)) ?_
    have h := pKeepsS.mk n (lotOf d) ok
    rw [← e] at h
    exact h
theorem ok_is_trap (B : Bt mg) (c_lot_in : Cal P w K mg base CX0 4 "lot_in" (spD C pLotIn)) (c_keeps_trap : Cal P w K mg base CX0 2 "keeps_trap" (spD C pKeepsT)) (F : DefAt K mg "is_trap" s_is_trap) : Cal P w K mg base CX0 5 "is_trap" (spD C pTrap) := by
  refine cal_pure F sc_is_trap (fun _ _ _ _ _ _ us hl => match us, hl with | [_, _], _ => rfl) (fun ds r h => by cases h; rfl) fun f cdv A outer s H E hr => ⟨_,
    (pss_one (ps_ret (pe_and (pe_cal c_lot_in hr (by decide) rfl pass0 (pa_cons (pv 0) (pa_cons (pv 1) pa_nil))) (pe_one (pe_cal c_keeps_trap hr (by decide) rfl pass0 (pa_cons (pv 0) (pa_cons (pv 1) pa_nil))))))), fun ds r h => ?_⟩
  cases h with
  | mk n d ok hz =>
    refine sr_ret (ed_andV (ed_call (ea_cons (ed_var rfl) (ea_cons (ed_var rfl) ea_nil)) (.mk _ _ hz)) fun hb => ?_)
    have hl : isLot d (n.places : Int) = true := (Bool.and_eq_true_iff.mp hb).1
    have e := (isLot_iff hl).1
    refine ed_call (ea_cons (ed_var rfl) (ea_cons (ed_var rfl) ea_nil)) ?_
    have h := pKeepsT.mk n (lotOf d) ok
    rw [← e] at h
    exact h
end
end K13

set_option Elab.async false
set_option linter.all false
set_option maxRecDepth 100000
set_option maxHeartbeats 4000000
/-! KE4: lots, least lots. -/
namespace K13
open PySem PySem.Spec PyProof.Rows L2
open Evl (Ex)
def lotsD (ls : List (List Nat)) : Da := .lst (ls.map lotD)
def lotsT (ls : List (List Nat)) : Da := .tup (ls.map lotD)
/-- the net as the law has drawn it -/
def netD (n : NetD) : Da := .tup [.int (n.places : Int), deedsD n.deeds]
inductive pAllLots : List Sv → Sv → Prop | mk (n : NetD) (h : NetOk n) : pAllLots [.net n] (.d (lotsD (allLots n.places)))
inductive pLeastOf : List Sv → Sv → Prop | mk (ls : List (List Nat)) (hz : ls.length ≤ 2000) (hl : ∀ l, l ∈ ls → l.length ≤ 10 ∧ l ≠ []) : pLeastOf [.d (lotsD ls)] (.d (lotsT (leastOf ls)))
inductive pLawAll : List Sv → Sv → Prop | mk (p : Nat) (h : p ≤ 10) : pLawAll [.d (.int (p : Int))] (.d (lotsD (lawAllLots p)))
inductive pLawSiph : List Sv → Sv → Prop | mk (n : NetD) (l : List Nat) (h : NetOk n) : pLawSiph [.d (netD n), .d (lotD l)] (.d (.bl (isSiphonOf n.deeds l)))
inductive pLawTrap : List Sv → Sv → Prop | mk (n : NetD) (l : List Nat) (h : NetOk n) : pLawTrap [.d (netD n), .d (lotD l)] (.d (.bl (isTrapOf n.deeds l)))
def optD : Option (List Nat) → Da | none => .non | some l => lotD l
inductive pLawJoin : List Sv → Sv → Prop | mk (ls : List (List Nat)) (hz : ls.length ≤ 2000) (hl : ∀ l, l ∈ ls → l.length ≤ 10) : pLawJoin [.d (lotsD ls)] (.d (optD (lawJoin ls)))
inductive pLawWithin : List Sv → Sv → Prop | mk (a b : List Nat) (hz : a.length ≤ 1000) : pLawWithin [.d (lotD a), .d (lotD b)] (.d (.bl (within a b)))
inductive pLawLeast : List Sv → Sv → Prop | mk (ls : List (List Nat)) (hz : ls.length ≤ 2000) (hl : ∀ l, l ∈ ls → l.length ≤ 10) : pLawLeast [.d (lotsD ls)] (.d (lotsT (lawLeast ls)))
inductive pLawTrapIn : List Sv → Sv → Prop | mk (n : NetD) (l : List Nat) (h : NetOk n) : pLawTrapIn [.d (netD n), .d (lotD l)] (.d (optD (lawTrapIn n l)))
inductive pLawBare : List Sv → Sv → Prop | mk (n : NetD) (st : List Nat) (h : NetOk n) (hs : st.length = n.places) : pLawBare [.d (netD n), .d (lotD st)] (.d (.tup [lotsT (lawSiphons n), lotsD ((lawSiphons n).filter (bareB n st))]))
def isPlain : Da → Bool
  | .tup xs => xs.all fun x => isI x && !isB x
  | _ => false
inductive pLawPlain : List Sv → Sv → Prop | mk (d : Da) (hz : szT d) : pLawPlain [.d d] (.d (.bl (isPlain d)))
theorem lz1 : 1 ≤ 100000 := by decide
theorem lz2 : 2 ≤ 100000 := by decide
theorem leastStep_mem {f : List (List Nat)} {x l : List Nat} (h : l ∈ leastStep f x) : l ∈ f ∨ l = x := by
  unfold leastStep at h
  split at h
  · exact .inl h
  · rcases List.mem_append.mp h with z | z
    · exact .inl z
    · exact .inr (List.mem_singleton.mp z)
theorem leastStep_len {f : List (List Nat)} {x : List Nat} : (leastStep f x).length ≤ f.length + 1 := by
  unfold leastStep
  split
  · exact Nat.le_succ _
  · rw [List.length_append]
    exact Nat.le_refl _
theorem leastStep_new {f : List (List Nat)} {x : List Nat} (h : (!f.any fun less => within less x) = true) : leastStep f x = f ++ [x] := by
  unfold leastStep
  rw [if_neg]
  intro z
  rw [z] at h
  cases h
theorem leastStep_old {f : List (List Nat)} {x : List Nat} (h : (!f.any fun less => within less x) = false) : leastStep f x = f := by
  unfold leastStep
  rw [if_pos]
  simpa using h
theorem joinStep_len {f x : List Nat} : (joinStep f x).length ≤ f.length + x.length := by
  unfold joinStep
  rw [List.length_append]
  have := List.length_filter_le (fun p => !f.contains p) x
  omega
theorem lots_len {p : Nat} (hp : p ≤ 10) : (lotsP p).length ≤ 1024 := by
  rw [lotsP_length]
  exact Nat.pow_le_pow_right (by decide) hp
theorem lawAll_le {p : Nat} (hp : p ≤ 10) : (lawAllLots p).length ≤ 1024 := by
  have := lots_len hp
  rw [lotsP_length] at this
  rw [lawAll_length]
  omega
theorem allLots_le {p : Nat} (hp : p ≤ 10) : (allLots p).length ≤ 1024 := by
  have := lots_len hp
  rw [lotsP_length] at this
  rw [allLots_length]
  omega
theorem mem_lots_len {p : Nat} {l : List Nat} (h : l ∈ lotsP p) : l.length ≤ p := by
  obtain ⟨h1, h2⟩ := (mem_lotsP p l).mp h
  have := within_len h1 List.pairwise_lt_range (b := List.range p) (within_iff.mpr fun x hx => List.mem_range.mpr (h2 x hx))
  rwa [List.length_range] at this
theorem get_range {p i : Nat} {x : Nat} (h : (List.range p)[i]? = some x) : x = i ∧ i < p := by
  by_cases hi : i < p
  · rw [List.getElem?_range hi] at h
    exact ⟨(Option.some.inj h).symm, hi⟩
  · rw [List.getElem?_eq_none (by rw [List.length_range]; omega)] at h
    cases h
theorem lotD_app (l : List Nat) (i : Nat) : Da.tup ((l.map fun (n : Nat) => Da.int (n : Int)) ++ [.int (i : Int)]) = lotD (l ++ [i]) := by
  show _ = Da.tup ((l ++ [i]).map fun (n : Nat) => Da.int (n : Int))
  rw [List.map_append]
  rfl
theorem lotsD_app (ls : List (List Nat)) (i : Nat) : Da.lst (ls.map lotD ++ ls.map fun l => lotD (l ++ [i])) = lotsD (ls ++ ls.map fun l => l ++ [i]) := by
  show _ = Da.lst ((ls ++ ls.map fun l => l ++ [i]).map lotD)
  rw [List.map_append, List.map_map]
  rfl
theorem lotsP_le {p i : Nat} (hp : p ≤ 10) (hi : i ≤ p) : (lotsP i).length ≤ 1024 := lots_len (Nat.le_trans hi hp)
abbrev s_all_lots : Stmt := topS 41
theorem sc_all_lots : FnScope ["net", "found", "place", "lot", "size"] ["net"] (defScope s_all_lots) := ⟨rfl, rfl, rfl, by decide +kernel, rfl, by decide +kernel, by decide +kernel⟩
abbrev s_least_of : Stmt := topS 42
theorem sc_least_of : FnScope ["lots", "found", "lot", "less", "place"] ["lots"] (defScope s_least_of) := ⟨rfl, rfl, rfl, by decide +kernel, rfl, by decide +kernel, by decide +kernel⟩
abbrev s_law_all_lots : Stmt := topS 68
theorem sc_law_all_lots : FnScope ["places", "found", "place", "lot"] ["places"] (defScope s_law_all_lots) := ⟨rfl, rfl, rfl, by decide +kernel, rfl, by decide +kernel, by decide +kernel⟩
abbrev s_law_is_siphon_of : Stmt := topS 69
theorem sc_law_is_siphon_of : FnScope ["net", "lot", "ins", "outs", "place"] ["net", "lot"] (defScope s_law_is_siphon_of) := ⟨rfl, rfl, rfl, by decide +kernel, rfl, by decide +kernel, by decide +kernel⟩
abbrev s_law_is_trap_of : Stmt := topS 70
theorem sc_law_is_trap_of : FnScope ["net", "lot", "ins", "outs", "place"] ["net", "lot"] (defScope s_law_is_trap_of) := ⟨rfl, rfl, rfl, by decide +kernel, rfl, by decide +kernel, by decide +kernel⟩
abbrev s_law_join : Stmt := topS 71
theorem sc_law_join : FnScope ["lots", "found", "lot", "place"] ["lots"] (defScope s_law_join) := ⟨rfl, rfl, rfl, by decide +kernel, rfl, by decide +kernel, by decide +kernel⟩
abbrev s_law_is_within : Stmt := topS 72
theorem sc_law_is_within : FnScope ["one", "other", "place"] ["one", "other"] (defScope s_law_is_within) := ⟨rfl, rfl, rfl, by decide +kernel, rfl, by decide +kernel, by decide +kernel⟩
abbrev s_law_least : Stmt := topS 73
theorem sc_law_least : FnScope ["lots", "lot", "other"] ["lots"] (defScope s_law_least) := ⟨rfl, rfl, rfl, by decide +kernel, rfl, by decide +kernel, by decide +kernel⟩
abbrev s_law_is_marked : Stmt := topS 74
theorem sc_law_is_marked : FnScope ["lot", "standing", "place"] ["lot", "standing"] (defScope s_law_is_marked) := ⟨rfl, rfl, rfl, by decide +kernel, rfl, by decide +kernel, by decide +kernel⟩
abbrev s_law_trap_in : Stmt := topS 75
theorem sc_law_trap_in : FnScope ["net", "lot", "some", "one"] ["net", "lot"] (defScope s_law_trap_in) := ⟨rfl, rfl, rfl, by decide +kernel, rfl, by decide +kernel, by decide +kernel⟩
abbrev s_law_bare : Stmt := topS 76
theorem sc_law_bare : FnScope ["net", "standing", "lot", "siphons", "found", "trap"] ["net", "standing"] (defScope s_law_bare) := ⟨rfl, rfl, rfl, by decide +kernel, rfl, by decide +kernel, by decide +kernel⟩
abbrev s_law_is_plain : Stmt := topS 80
theorem sc_law_is_plain : FnScope ["thing", "one"] ["thing"] (defScope s_law_is_plain) := ⟨rfl, rfl, rfl, by decide +kernel, rfl, by decide +kernel, by decide +kernel⟩
section
variable {P : Program} {w : World} {K : PySem.W.Frag} {mg : Str → Option Value} {base : Heap} {C : CW}
theorem ok_all_lots (B : Bt mg) (Z : Cls K C.c) (nP : NoAttr K C.c "places") (F : DefAt K mg "all_lots" s_all_lots) : Cal P w K mg base CX0 1 "all_lots" (spD C pAllLots) := by
  refine cal_pure F sc_all_lots (fun _ _ _ _ _ _ us hl => match us, hl with | [_], _ => rfl) (fun ds r h => by cases h; rfl) fun f cdv A outer s H E hr => ⟨_,
    (pss_cons (ps_set (i := 1) sc_all_lots.nd rfl (Or.inl rfl) (pe_lst (pa_cons (pe_tup pa_nil) pa_nil)))
      (pss_cons (ps_for PassesOwn.never rfl (pi_range1 rfl B.range_ (pa_cons (pe_fldK K (pv 0) rfl) pa_nil)) (pg_name (i := 2) sc_all_lots.nd rfl (Or.inr rfl)) (pss_one (ps_set (i := 1) sc_all_lots.nd rfl (Or.inl rfl) (pe_op op_cat (pv 1) (pe_lc (own := [("lot", 3)]) rfl sc_all_lots.nd (pi_listK K (pv 1)) (blkOk_by (by kernel_rfl)) (fun _ _ _ _ _ => pg_name (i := 3) sc_all_lots.nd rfl (Or.inl rfl)) (fun _ _ _ _ _ => pts_nil) (fun _ _ _ _ _ => (pe_op (op_catK K) (pv 3) (pe_tup (pa_cons (pv 2) pa_nil)))))))))
      (pss_one (ps_ret (pe_slice (sl_listK K) (pe_lc (own := [("size", 4), ("lot", 3)]) rfl sc_all_lots.nd (pi_listK K (pe_callB (cr_sortB K encP hr.units) (by rfl) B.sorted_ b_sorted (pa_cons (pe_lc (own := [("lot", 3)]) rfl sc_all_lots.nd (pi_listK K (pv 1)) (blkOk_by (by kernel_rfl)) (fun _ _ _ _ _ => pg_name (i := 3) sc_all_lots.nd rfl (Or.inl rfl)) (fun _ _ _ _ _ => pts_nil) (fun _ _ _ _ _ => (pe_tup (pa_cons (pe_callB (call_lenK K) (by rfl) B.len_ b_len (pa_cons (pv 3) pa_nil)) (pa_cons (pv 3) pa_nil))))) pa_nil))) (blkOk_by (by kernel_rfl)) (fun _ _ _ _ _ => pg_tupK K (n := 2) rfl (pgs_cons (pg_name (i := 4) sc_all_lots.nd rfl (Or.inl rfl)) (pgs_cons (pg_name (i := 3) sc_all_lots.nd rfl (Or.inl rfl)) pgs_nil))) (fun _ _ _ _ _ => pts_nil) (fun _ _ _ _ _ => (pv 3))) (po_some pe_int) po_none))))), fun ds r h => ?_⟩
  cases h with
  | mk n ok =>
    refine sr_seq (sn_asg (ed_lst (ds := [.tup []]) (ea_cons (ed_tup (ds := []) ea_nil (by decide)) ea_nil) (by decide))) ?_
    refine sr_for (as := List.range n.places) (enc := fun (i : Nat) => Da.int (i : Int)) (fun i => [some (.net n), some (.d (lotsD (lotsP i))), none, none, none]) (fun _ => false) _ (fun i d hi => ?_) rfl (src_rng (ea_cons (ed_places Z nP (ed_var rfl)) ea_nil) (Nat.le_trans ok.places (by decide))) (fun i d hi => gd_name) (fun i d hi ho z => nomatch z) (fun i x hi ho _ => ?_) (fun _ => ?_)
    · match i, hi with
      | 0, hi => exact hi
      | 1, hi => exact hi
      | 2, hi => exact nomatch (Option.some.inj hi)
      | 3, hi => exact nomatch (Option.some.inj hi)
      | 4, hi => exact nomatch (Option.some.inj hi)
      | k + 5, hi => exact nomatch hi
    · obtain ⟨rfl, hlt⟩ := get_range hi
      have hl := lotsP_le ok.places (Nat.le_of_lt hlt)
      refine sn_weak (sn_asg (ed_op (ed_var rfl) (ed_lc0 (as := lotsP x) (enc := lotD) (fun l => lotD (l ++ [x])) _ (src_lst (ed_var rfl)) (Nat.le_trans hl (by decide)) (fun j h => h) _ (fun x _ => gd_name)
        (fun l hl => ed_is (ed_op (ed_var rfl) (ed_tup (ds := [.int (x : Int)]) (ea_cons (ed_var rfl) ea_nil) lz1) (rv_catA (by
          have q := mem_lots_len hl
          have q2 := ok.places
          rw [List.length_map]
          show l.length + 1 ≤ 100000
          omega))) (congrArg Sv.d (lotD_app l x))))
        (rv_catL (by rw [List.length_map, List.length_map]; omega)))) rfl ?_
      intro q e hq
      match q, hq with
      | 0, hq => exact hq
      | 1, hq =>
        rw [← Option.some.inj (Option.some.inj hq)]
        show some (some (Sv.d _)) = _
        rw [lotsD_app]
        rfl
      | 2, hq => exact nomatch (Option.some.inj hq)
      | 3, hq => exact nomatch (Option.some.inj hq)
      | 4, hq => exact nomatch (Option.some.inj hq)
      | k + 5, hq => exact nomatch hq
    · rw [List.length_range]
      have hl := lotsP_le ok.places (Nat.le_refl _)
      have hl2 : ((lotsP n.places).mergeSort leLen).length ≤ 1024 := by
        rw [List.length_mergeSort]
        exact hl
      refine sr_ret (ed_is (ed_slL (ed_lc0 (as := (lotsP n.places).mergeSort leLen) (enc := pairD) lotD _ (src_lst (ed_cb (ea_cons (ed_lc0 (as := lotsP n.places) (enc := lotD) pairD _ (src_lst (ed_var rfl)) (Nat.le_trans hl (by decide)) (fun j h => h) _ (fun x _ => gd_name)
        (fun l _ => ed_tup (ds := [.int (l.length : Int), lotD l]) (ea_cons (ed_is (ed_cb (ea_cons (ed_var rfl) ea_nil) rc_len) (by rw [List.length_map])) (ea_cons (ed_var rfl) ea_nil)) lz2)) ea_nil) (rc_sortPairs (Nat.le_trans hl (by decide)))))
        (Nat.le_trans hl2 (by decide)) (fun j h => h) _ (fun x _ => gd_tup2 gd_name gd_name) (fun l _ => ed_var rfl)) (eo_some ed_int) eo_none) ?_)
      rw [cut_one, ← List.map_drop]
      rfl
theorem ok_least_of (B : Bt mg) (F : DefAt K mg "least_of" s_least_of) : Cal P w K mg base CX0 1 "least_of" (spD C pLeastOf) := by
  refine cal_pure F sc_least_of (fun _ _ _ _ _ _ us hl => match us, hl with | [_], _ => rfl) (fun ds r h => by cases h; rfl) fun f cdv A outer s H E hr => ⟨_,
    (pss_cons (ps_set (i := 1) sc_least_of.nd rfl (Or.inl rfl) (pe_lst pa_nil))
      (pss_cons (ps_for PassesOwn.never rfl (pi_listK K (pv 0)) (pg_name (i := 2) sc_least_of.nd rfl (Or.inr rfl)) (pss_one (ps_if (pt_not (pt_val (pe_callB (cr_anyK K rfl) (by rfl) B.any_ b_any (pa_cons (pe_lc (own := [("less", 3)]) rfl sc_least_of.nd (pi_listK K (pv 1)) (blkOk_by (by kernel_rfl)) (fun _ _ _ _ _ => pg_name (i := 3) sc_least_of.nd rfl (Or.inl rfl)) (fun _ _ _ _ _ => pts_nil) (fun _ _ _ _ _ => (pe_callB (cr_allK K rfl) (by rfl) B.all_ b_all (pa_cons (pe_lc (own := [("place", 4)]) rfl sc_least_of.nd (pi_tupK K (pv 3)) (blkOk_by (by kernel_rfl)) (fun _ _ _ _ _ => pg_name (i := 4) sc_least_of.nd rfl (Or.inl rfl)) (fun _ _ _ _ _ => pts_nil) (fun _ _ _ _ _ => (pe_cmpR (op_inK K) (pv 4) (pv 2) rfl))) pa_nil)))) pa_nil)))) (pss_one (ps_expr (pe_bm PySem.F.plainAttrs_list PySem.F.slot_list_append PySem.F.type_list_append mt_append (pv 1) (pa_cons (pv 2) pa_nil)))) pss_nil)))
      (pss_one (ps_ret (pe_callTy (call_tupK K) (by rfl) B.tuple_ b_tuple (pa_cons (pe_callB (cr_sortB K encL hr.units) (by rfl) B.sorted_ b_sorted (pa_cons (pv 1) pa_nil)) pa_nil)))))), fun ds r h => ?_⟩
  cases h with
  | mk ls hz hl =>
    have hsub : ∀ (i : Nat), (∀ l, l ∈ (ls.take i).foldl leastStep [] → l ∈ ls) ∧ ((ls.take i).foldl leastStep []).length ≤ i := by
      intro i
      induction i with
      | zero => exact ⟨fun l hl => by simp at hl, Nat.le_refl _⟩
      | succ i ih =>
        rw [List.take_add_one]
        cases q : ls[i]? with
        | none => exact ⟨by simpa using ih.1, by simpa using Nat.le_succ_of_le ih.2⟩
        | some x =>
          rw [List.foldl_append]
          refine ⟨fun l hl => ?_, Nat.le_trans leastStep_len (by have := ih.2; omega)⟩
          rcases leastStep_mem hl with z | z
          · exact ih.1 l z
          · rw [z]
            exact List.mem_of_getElem? q
    refine sr_new (j := 1) (sa_for (as := ls) (enc := lotD) (fun _ => [some (.d (lotsD ls)), none, none, none, none]) (fun i => ((ls.take i).foldl leastStep []).map lotD) (fun _ => false) _ (fun i d hi => hi) rfl rfl (src_lst (ed_var rfl)) (by decide) (fun i x _ => gd_name) (fun i x _ _ z => nomatch z) (fun i x hi ho _ => ?_) (fun _ => ?_)) (by show 1 < 5; decide)
    · have hxm : x ∈ ls := List.mem_of_getElem? hi
      have hlen := (hsub i).2
      have hil : i < ls.length := (List.getElem?_eq_some_iff.mp hi).1
      have tk : ls.take (i + 1) = ls.take i ++ [x] := by rw [List.take_add_one, hi]; rfl
      have hst : (ls.take (i + 1)).foldl leastStep [] = leastStep ((ls.take i).foldl leastStep []) x := by rw [tk, List.foldl_append]; rfl
      refine sa_weak (sa_if (env2 := [some (.d (lotsD ls)), none, some (.d (lotD x)), none, none]) (b := !((ls.take i).foldl leastStep []).any fun less => within less x) (et_not (et_B (ed_any (g := fun less => within less x) (ed_lc0 (as := (ls.take i).foldl leastStep []) (enc := lotD) _ _ (src_lst (ed_var rfl)) (by omega) (fun j h => h) _ (fun x _ => gd_name)
        (fun less hless => ed_all (g := fun p => x.contains p) (ed_lc0 (as := less) (enc := fun (p : Nat) => Da.int (p : Int)) _ _ (src_tup (ed_var rfl)) (Nat.le_trans (hl _ ((hsub i).1 _ hless)).1 (by decide)) (fun j h => h) _ (fun x _ => gd_name) (fun p _ => ed_op (ed_var rfl) (ed_var rfl) rv_inT))))))) (fun hb => ?_) (fun hb => ?_)) rfl (fun q e hq => ?_)
      · have e1 : ((ls.take (i + 1)).foldl leastStep []).map lotD = ((ls.take i).foldl leastStep []).map lotD ++ [lotD x] := by
          rw [hst, leastStep_new hb, List.map_append]
          rfl
        show SAcc C 1 _ _ _ _ (((ls.take (i + 1)).foldl leastStep []).map lotD)
        rw [e1]
        exact sa_app (ed_var rfl) (by rw [List.length_map]; have := (hsub i).2; omega)
      · have e1 : ((ls.take (i + 1)).foldl leastStep []).map lotD = ((ls.take i).foldl leastStep []).map lotD := by
          rw [hst, leastStep_old hb]
        show SAcc C 1 _ _ _ _ (((ls.take (i + 1)).foldl leastStep []).map lotD)
        rw [e1]
        exact sa_next
      · match q, hq with
        | 0, hq => exact hq
        | 1, hq => exact nomatch (Option.some.inj hq)
        | 2, hq => exact nomatch (Option.some.inj hq)
        | 3, hq => exact nomatch (Option.some.inj hq)
        | 4, hq => exact nomatch (Option.some.inj hq)
        | k + 5, hq => exact nomatch hq
    · have hs := hsub ls.length
      rw [List.take_length] at hs
      rw [List.take_length]
      exact sa_ret (ed_cb (ea_cons (ed_cb (ea_cons (ed_var rfl) ea_nil) (rc_sortLots (fun l h => (hl l (hs.1 l h)).2) (by omega))) ea_nil) rc_tupL)
theorem ok_law_all_lots (B : Bt mg) (F : DefAt K mg "_law_all_lots" s_law_all_lots) : Cal P w K mg base CX0 1 "_law_all_lots" (spD C pLawAll) := by
  refine cal_pure F sc_law_all_lots (fun _ _ _ _ _ _ us hl => match us, hl with | [_], _ => rfl) (fun ds r h => by cases h; rfl) fun f cdv A outer s H E hr => ⟨_,
    (pss_cons (ps_set (i := 1) sc_law_all_lots.nd rfl (Or.inl rfl) (pe_lst (pa_cons (pe_tup pa_nil) pa_nil)))
      (pss_cons (ps_for PassesOwn.never rfl (pi_range1 rfl B.range_ (pa_cons (pv 0) pa_nil)) (pg_name (i := 2) sc_law_all_lots.nd rfl (Or.inr rfl)) (pss_one (ps_set (i := 1) sc_law_all_lots.nd rfl (Or.inl rfl) (pe_op op_cat (pv 1) (pe_lc (own := [("lot", 3)]) rfl sc_law_all_lots.nd (pi_listK K (pv 1)) (blkOk_by (by kernel_rfl)) (fun _ _ _ _ _ => pg_name (i := 3) sc_law_all_lots.nd rfl (Or.inl rfl)) (fun _ _ _ _ _ => pts_nil) (fun _ _ _ _ _ => (pe_op (op_catK K) (pv 3) (pe_tup (pa_cons (pv 2) pa_nil)))))))))
      (pss_one (ps_ret (pe_callB (cr_sortB K encL hr.units) (by rfl) B.sorted_ b_sorted (pa_cons (pe_slice (sl_listK K) (pv 1) (po_some pe_int) po_none) pa_nil)))))), fun ds r h => ?_⟩
  cases h with
  | mk p hp =>
    refine sr_seq (sn_asg (ed_lst (ds := [.tup []]) (ea_cons (ed_tup (ds := []) ea_nil (by decide)) ea_nil) (by decide))) ?_
    refine sr_for (as := List.range p) (enc := fun (i : Nat) => Da.int (i : Int)) (fun i => [some (.d (.int (p : Int))), some (.d (lotsD (lotsP i))), none, none]) (fun _ => false) _ (fun i d hi => ?_) rfl (src_rng (ea_cons (ed_var rfl) ea_nil) (Nat.le_trans hp (by decide))) (fun i d hi => gd_name) (fun i d hi ho z => nomatch z) (fun i x hi ho _ => ?_) (fun _ => ?_)
    · match i, hi with
      | 0, hi => exact hi
      | 1, hi => exact hi
      | 2, hi => exact nomatch (Option.some.inj hi)
      | 3, hi => exact nomatch (Option.some.inj hi)
      | k + 4, hi => exact nomatch hi
    · obtain ⟨rfl, hlt⟩ := get_range hi
      have hl := lotsP_le hp (Nat.le_of_lt hlt)
      refine sn_weak (sn_asg (ed_op (ed_var rfl) (ed_lc0 (as := lotsP x) (enc := lotD) (fun l => lotD (l ++ [x])) _ (src_lst (ed_var rfl)) (Nat.le_trans hl (by decide)) (fun j h => h) _ (fun x _ => gd_name)
        (fun l hl => ed_is (ed_op (ed_var rfl) (ed_tup (ds := [.int (x : Int)]) (ea_cons (ed_var rfl) ea_nil) lz1) (rv_catA (by
          have q := mem_lots_len hl
          rw [List.length_map]
          show l.length + 1 ≤ 100000
          omega))) (congrArg Sv.d (lotD_app l x))))
        (rv_catL (by rw [List.length_map, List.length_map]; omega)))) rfl ?_
      intro q e hq
      match q, hq with
      | 0, hq => exact hq
      | 1, hq =>
        rw [← Option.some.inj (Option.some.inj hq)]
        show some (some (Sv.d _)) = _
        rw [lotsD_app]
        rfl
      | 2, hq => exact nomatch (Option.some.inj hq)
      | 3, hq => exact nomatch (Option.some.inj hq)
      | k + 4, hq => exact nomatch hq
    · rw [List.length_range]
      have hl := lotsP_le hp (Nat.le_refl _)
      refine sr_ret (ed_cb (ea_cons (ed_is (ed_slL (ed_var rfl) (eo_some ed_int) eo_none) (by rw [cut_one, ← List.map_drop])) ea_nil) (rc_sortLots (fun l h => ((mem_drop p l).mp h).2) (by rw [List.length_drop]; omega)))
theorem ok_law_is_siphon_of (B : Bt mg) (F : DefAt K mg "_law_is_siphon_of" s_law_is_siphon_of) : Cal P w K mg base CX0 1 "_law_is_siphon_of" (spD C pLawSiph) := by
  refine cal_pure F sc_law_is_siphon_of (fun _ _ _ _ _ _ us hl => match us, hl with | [_, _], _ => rfl) (fun ds r h => by cases h; rfl) fun f cdv A outer s H E hr => ⟨_,
    (pss_cons (ps_for PassesOwn.never rfl (pi_tupK K (pe_ix (ix_tupK K) (pv 0) pe_int (fun _ _ => rfl))) (pg_tupK K (n := 2) rfl (pgs_cons (pg_name (i := 2) sc_law_is_siphon_of.nd rfl (Or.inl rfl)) (pgs_cons (pg_name (i := 3) sc_law_is_siphon_of.nd rfl (Or.inl rfl)) pgs_nil))) (pss_one (ps_if (PW.pt (pw_and (pt_val (pe_callB (cr_anyK K rfl) (by rfl) B.any_ b_any (pa_cons (pe_lc (own := [("place", 4)]) rfl sc_law_is_siphon_of.nd (pi_tupK K (pv 3)) (blkOk_by (by kernel_rfl)) (fun _ _ _ _ _ => pg_name (i := 4) sc_law_is_siphon_of.nd rfl (Or.inl rfl)) (fun _ _ _ _ _ => pts_nil) (fun _ _ _ _ _ => (pe_cmpR (op_inK K) (pv 4) (pv 1) rfl))) pa_nil))) (pw_and1 (pt_not (pt_val (pe_callB (cr_anyK K rfl) (by rfl) B.any_ b_any (pa_cons (pe_lc (own := [("place", 4)]) rfl sc_law_is_siphon_of.nd (pi_tupK K (pv 2)) (blkOk_by (by kernel_rfl)) (fun _ _ _ _ _ => pg_name (i := 4) sc_law_is_siphon_of.nd rfl (Or.inl rfl)) (fun _ _ _ _ _ => pts_nil) (fun _ _ _ _ _ => (pe_cmpR (op_inK K) (pv 4) (pv 1) rfl))) pa_nil))))))) (pss_one (ps_ret pe_bl)) pss_nil)))
      (pss_one (ps_ret pe_bl))), fun ds r h => ?_⟩
  cases h with
  | mk n l ok =>
    generalize hb : isSiphonOf n.deeds l = b
    refine sr_for (as := n.deeds) (enc := deedD) (fun _ => [some (.d (netD n)), some (.d (lotD l)), none, none, none]) (fun i => touches l (n.deeds.getD i ([], [])).2 && !touches l (n.deeds.getD i ([], [])).1) _ (fun i d hi => hi) rfl (src_tup (ed_op (ed_var rfl) ed_int (rv_ixT (j := 1) rfl rfl))) (fun i d hi => gd_tup2 gd_name gd_name) (fun i d hi ho z => ?_) (fun i d hi ho z => ?_) (fun ho => ?_)
    · rw [List.getD_eq_getElem?_getD, hi] at z
      have hd : d ∈ n.deeds := List.mem_of_getElem? hi
      refine sr_if (b := true) (et_is (et_and (et_B (ed_any (g := fun p => l.contains p) (ed_lc0 (as := d.2) (enc := fun (p : Nat) => Da.int (p : Int)) _ _ (src_tup (ed_var rfl)) (Nat.le_trans (ok.outs d hd).1 (by decide)) (fun j h => h) _ (fun x _ => gd_name) (fun p _ => ed_op (ed_var rfl) (ed_var rfl) rv_inT)))) fun _ =>
        et_not (et_B (ed_any (g := fun p => l.contains p) (ed_lc0 (as := d.1) (enc := fun (p : Nat) => Da.int (p : Int)) _ _ (src_tup (ed_var rfl)) (Nat.le_trans (ok.ins d hd).1 (by decide)) (fun j h => h) _ (fun x _ => gd_name) (fun p _ => ed_op (ed_var rfl) (ed_var rfl) rv_inT))))) z) (fun _ => sr_ret (ed_is ed_bl ?_)) (fun z => nomatch z)
      rw [← hb]
      show Sv.d (.bl false) = .d (.bl (n.deeds.all _))
      rw [List.all_eq_false.mpr ⟨d, hd, by
        show ¬ (!(touches l d.2 && !touches l d.1)) = true
        rw [show (touches l d.2 && !touches l d.1) = true from z]
        exact Bool.false_ne_true⟩]
    · rw [List.getD_eq_getElem?_getD, hi] at z
      have hd : d ∈ n.deeds := List.mem_of_getElem? hi
      refine sn_weak (sn_if (b := false) (et_is (et_and (et_B (ed_any (g := fun p => l.contains p) (ed_lc0 (as := d.2) (enc := fun (p : Nat) => Da.int (p : Int)) _ _ (src_tup (ed_var rfl)) (Nat.le_trans (ok.outs d hd).1 (by decide)) (fun j h => h) _ (fun x _ => gd_name) (fun p _ => ed_op (ed_var rfl) (ed_var rfl) rv_inT)))) fun _ =>
        et_not (et_B (ed_any (g := fun p => l.contains p) (ed_lc0 (as := d.1) (enc := fun (p : Nat) => Da.int (p : Int)) _ _ (src_tup (ed_var rfl)) (Nat.le_trans (ok.ins d hd).1 (by decide)) (fun j h => h) _ (fun x _ => gd_name) (fun p _ => ed_op (ed_var rfl) (ed_var rfl) rv_inT))))) z) (fun z => nomatch z) (fun _ => sn_next)) rfl (fun q e hq => ?_)
      match q, hq with
      | 0, hq => exact hq
      | 1, hq => exact hq
      | 2, hq => exact nomatch (Option.some.inj hq)
      | 3, hq => exact nomatch (Option.some.inj hq)
      | 4, hq => exact nomatch (Option.some.inj hq)
      | k + 5, hq => exact nomatch hq
    · refine sr_ret (ed_is ed_bl ?_)
      rw [← hb]
      show Sv.d (.bl true) = .d (.bl (n.deeds.all _))
      rw [List.all_eq_true.mpr fun d hd => ?_]
      obtain ⟨i, hi, hg⟩ := List.getElem_of_mem hd
      have z := ho i hi
      rw [List.getD_eq_getElem?_getD, List.getElem?_eq_getElem hi, hg] at z
      show (!(touches l d.2 && !touches l d.1)) = true
      rw [show (touches l d.2 && !touches l d.1) = false from z]
      rfl
theorem ok_law_is_trap_of (B : Bt mg) (F : DefAt K mg "_law_is_trap_of" s_law_is_trap_of) : Cal P w K mg base CX0 1 "_law_is_trap_of" (spD C pLawTrap) := by
  refine cal_pure F sc_law_is_trap_of (fun _ _ _ _ _ _ us hl => match us, hl with | [_, _], _ => rfl) (fun ds r h => by cases h; rfl) fun f cdv A outer s H E hr => ⟨_,
    (pss_cons (ps_for PassesOwn.never rfl (pi_tupK K (pe_ix (ix_tupK K) (pv 0) pe_int (fun _ _ => rfl))) (pg_tupK K (n := 2) rfl (pgs_cons (pg_name (i := 2) sc_law_is_trap_of.nd rfl (Or.inl rfl)) (pgs_cons (pg_name (i := 3) sc_law_is_trap_of.nd rfl (Or.inl rfl)) pgs_nil))) (pss_one (ps_if (PW.pt (pw_and (pt_val (pe_callB (cr_anyK K rfl) (by rfl) B.any_ b_any (pa_cons (pe_lc (own := [("place", 4)]) rfl sc_law_is_trap_of.nd (pi_tupK K (pv 2)) (blkOk_by (by kernel_rfl)) (fun _ _ _ _ _ => pg_name (i := 4) sc_law_is_trap_of.nd rfl (Or.inl rfl)) (fun _ _ _ _ _ => pts_nil) (fun _ _ _ _ _ => (pe_cmpR (op_inK K) (pv 4) (pv 1) rfl))) pa_nil))) (pw_and1 (pt_not (pt_val (pe_callB (cr_anyK K rfl) (by rfl) B.any_ b_any (pa_cons (pe_lc (own := [("place", 4)]) rfl sc_law_is_trap_of.nd (pi_tupK K (pv 3)) (blkOk_by (by kernel_rfl)) (fun _ _ _ _ _ => pg_name (i := 4) sc_law_is_trap_of.nd rfl (Or.inl rfl)) (fun _ _ _ _ _ => pts_nil) (fun _ _ _ _ _ => (pe_cmpR (op_inK K) (pv 4) (pv 1) rfl))) pa_nil))))))) (pss_one (ps_ret pe_bl)) pss_nil)))
      (pss_one (ps_ret pe_bl))), fun ds r h => ?_⟩
  cases h with
  | mk n l ok =>
    generalize hb : isTrapOf n.deeds l = b
    refine sr_for (as := n.deeds) (enc := deedD) (fun _ => [some (.d (netD n)), some (.d (lotD l)), none, none, none]) (fun i => touches l (n.deeds.getD i ([], [])).1 && !touches l (n.deeds.getD i ([], [])).2) _ (fun i d hi => hi) rfl (src_tup (ed_op (ed_var rfl) ed_int (rv_ixT (j := 1) rfl rfl))) (fun i d hi => gd_tup2 gd_name gd_name) (fun i d hi ho z => ?_) (fun i d hi ho z => ?_) (fun ho => ?_)
    · rw [List.getD_eq_getElem?_getD, hi] at z
      have hd : d ∈ n.deeds := List.mem_of_getElem? hi
      refine sr_if (b := true) (et_is (et_and (et_B (ed_any (g := fun p => l.contains p) (ed_lc0 (as := d.1) (enc := fun (p : Nat) => Da.int (p : Int)) _ _ (src_tup (ed_var rfl)) (Nat.le_trans (ok.ins d hd).1 (by decide)) (fun j h => h) _ (fun x _ => gd_name) (fun p _ => ed_op (ed_var rfl) (ed_var rfl) rv_inT)))) fun _ =>
        et_not (et_B (ed_any (g := fun p => l.contains p) (ed_lc0 (as := d.2) (enc := fun (p : Nat) => Da.int (p : Int)) _ _ (src_tup (ed_var rfl)) (Nat.le_trans (ok.outs d hd).1 (by decide)) (fun j h => h) _ (fun x _ => gd_name) (fun p _ => ed_op (ed_var rfl) (ed_var rfl) rv_inT))))) z) (fun _ => sr_ret (ed_is ed_bl ?_)) (fun z => nomatch z)
      rw [← hb]
      show Sv.d (.bl false) = .d (.bl (n.deeds.all _))
      rw [List.all_eq_false.mpr ⟨d, hd, by
        show ¬ (!(touches l d.1 && !touches l d.2)) = true
        rw [show (touches l d.1 && !touches l d.2) = true from z]
        exact Bool.false_ne_true⟩]
    · rw [List.getD_eq_getElem?_getD, hi] at z
      have hd : d ∈ n.deeds := List.mem_of_getElem? hi
      refine sn_weak (sn_if (b := false) (et_is (et_and (et_B (ed_any (g := fun p => l.contains p) (ed_lc0 (as := d.1) (enc := fun (p : Nat) => Da.int (p : Int)) _ _ (src_tup (ed_var rfl)) (Nat.le_trans (ok.ins d hd).1 (by decide)) (fun j h => h) _ (fun x _ => gd_name) (fun p _ => ed_op (ed_var rfl) (ed_var rfl) rv_inT)))) fun _ =>
        et_not (et_B (ed_any (g := fun p => l.contains p) (ed_lc0 (as := d.2) (enc := fun (p : Nat) => Da.int (p : Int)) _ _ (src_tup (ed_var rfl)) (Nat.le_trans (ok.outs d hd).1 (by decide)) (fun j h => h) _ (fun x _ => gd_name) (fun p _ => ed_op (ed_var rfl) (ed_var rfl) rv_inT))))) z) (fun z => nomatch z) (fun _ => sn_next)) rfl (fun q e hq => ?_)
      match q, hq with
      | 0, hq => exact hq
      | 1, hq => exact hq
      | 2, hq => exact nomatch (Option.some.inj hq)
      | 3, hq => exact nomatch (Option.some.inj hq)
      | 4, hq => exact nomatch (Option.some.inj hq)
      | k + 5, hq => exact nomatch hq
    · refine sr_ret (ed_is ed_bl ?_)
      rw [← hb]
      show Sv.d (.bl true) = .d (.bl (n.deeds.all _))
      rw [List.all_eq_true.mpr fun d hd => ?_]
      obtain ⟨i, hi, hg⟩ := List.getElem_of_mem hd
      have z := ho i hi
      rw [List.getD_eq_getElem?_getD, List.getElem?_eq_getElem hi, hg] at z
      show (!(touches l d.1 && !touches l d.2)) = true
      rw [show (touches l d.1 && !touches l d.2) = false from z]
      rfl
theorem ok_law_is_within (B : Bt mg) (F : DefAt K mg "_law_is_within" s_law_is_within) : Cal P w K mg base CX0 1 "_law_is_within" (spD C pLawWithin) := by
  refine cal_pure F sc_law_is_within (fun _ _ _ _ _ _ us hl => match us, hl with | [_, _], _ => rfl) (fun ds r h => by cases h; rfl) fun f cdv A outer s H E hr => ⟨_,
    (pss_one (ps_ret (pe_callB (cr_allK K rfl) (by rfl) B.all_ b_all (pa_cons (pe_lc (own := [("place", 2)]) rfl sc_law_is_within.nd (pi_tupK K (pv 0)) (blkOk_by (by kernel_rfl)) (fun _ _ _ _ _ => pg_name (i := 2) sc_law_is_within.nd rfl (Or.inl rfl)) (fun _ _ _ _ _ => pts_nil) (fun _ _ _ _ _ => (pe_cmpR (op_inK K) (pv 2) (pv 1) rfl))) pa_nil)))), fun ds r h => ?_⟩
  cases h with
  | mk a b hz => exact sr_ret (ed_all (g := fun p => b.contains p) (ed_lc0 _ _ (src_tup (ed_var rfl)) (Nat.le_trans hz (by decide)) (fun j h => h) _ (fun x _ => gd_name) (fun x _ => ed_op (ed_var rfl) (ed_var rfl) rv_inT)))
theorem ok_law_is_marked (B : Bt mg) (F : DefAt K mg "_law_is_marked" s_law_is_marked) : Cal P w K mg base CX0 1 "_law_is_marked" (spD C pMarked) := by
  refine cal_pure F sc_law_is_marked (fun _ _ _ _ _ _ us hl => match us, hl with | [_, _], _ => rfl) (fun ds r h => by cases h; rfl) fun f cdv A outer s H E hr => ⟨_,
    (pss_one (ps_ret (pe_callB (cr_anyK K rfl) (by rfl) B.any_ b_any (pa_cons (pe_lc (own := [("place", 2)]) rfl sc_law_is_marked.nd (pi_tupK K (pv 0)) (blkOk_by (by kernel_rfl)) (fun _ _ _ _ _ => pg_name (i := 2) sc_law_is_marked.nd rfl (Or.inl rfl)) (fun _ _ _ _ _ => pts_nil) (fun _ _ _ _ _ => (pe_cmpR op_gt (pe_ix (ix_tupK K) (pv 1) (pv 2) (fun _ _ => rfl)) pe_int (nomark _)))) pa_nil)))), fun ds r h => ?_⟩
  cases h with
  | mk l st h hz =>
    refine sr_ret (ed_is (ed_any (g := fun p => decide ((0 : Int) < ((st.getD p 0 : Nat) : Int))) (ed_lc0 (as := l) (enc := fun (p : Nat) => Da.int (p : Int)) _ _ (src_tup (ed_var rfl)) (Nat.le_trans hz (by decide)) (fun j h => h) _ (fun x _ => gd_name)
      (fun p hp => ed_op (ed_op (ed_var rfl) (ed_var rfl) (rv_ixT (j := p) (get_lot (h p hp)) rfl)) ed_int rv_B0))) ?_)
    refine congrArg (fun f => Sv.d (.bl (l.any f))) (funext fun p => decide_eq_decide.mpr (by omega))
theorem ok_law_least (B : Bt mg) (c_law_is_within : Cal P w K mg base CX0 1 "_law_is_within" (spD C pLawWithin)) (F : DefAt K mg "_law_least" s_law_least) : Cal P w K mg base CX0 2 "_law_least" (spD C pLawLeast) := by
  refine cal_pure F sc_law_least (fun _ _ _ _ _ _ us hl => match us, hl with | [_], _ => rfl) (fun ds r h => by cases h; rfl) fun f cdv A outer s H E hr => ⟨_,
    (pss_one (ps_ret (pe_callTy (call_tupK K) (by rfl) B.tuple_ b_tuple (pa_cons (pe_lc (own := [("lot", 1)]) rfl sc_law_least.nd (pi_listK K (pv 0)) (blkOk_by (by kernel_rfl)) (fun _ _ _ _ _ => pg_name (i := 1) sc_law_least.nd rfl (Or.inr rfl)) (fun _ _ _ _ _ => pts_one (pt_not (pt_val (pe_callB (cr_anyK K rfl) (by rfl) B.any_ b_any (pa_cons (pe_lc (own := [("other", 2)]) rfl sc_law_least.nd (pi_listK K (pv 0)) (blkOk_by (by kernel_rfl)) (fun _ _ _ _ _ => pg_name (i := 2) sc_law_least.nd rfl (Or.inl rfl)) (fun _ _ _ _ _ => pts_nil) (fun _ _ _ _ _ => (pe_and (pe_cmpR (op_neK K hr.units) (pv 2) (pv 1) (nomark _)) (pe_one (pe_cal c_law_is_within hr (by decide) rfl pass0 (pa_cons (pv 2) (pa_cons (pv 1) pa_nil))))))) pa_nil))))) (fun _ _ _ _ _ => (pv 1))) pa_nil)))), fun ds r h => ?_⟩
  cases h with
  | mk ls hz hl =>
    exact sr_ret (ed_cb (ea_cons (ed_lc (as := ls) (enc := lotD) lotD (fun lot => !(ls.any fun other => !decide (other = lot) && within other lot)) _ (src_lst (ed_var rfl)) (Nat.le_trans hz (by decide)) (fun j h => h) _ (fun x _ => gd_name)
      (fun lot hlot => et_not (et_B (ed_any (g := fun other => !decide (other = lot) && within other lot) (ed_lc0 (as := ls) (enc := lotD) _ _ (src_lst (ed_var rfl)) (Nat.le_trans hz (by decide)) (fun j h => h) _ (fun x _ => gd_name)
        (fun other ho => ed_andV (ed_op (ed_var rfl) (ed_var rfl) rv_neLot) fun _ => ed_call (ea_cons (ed_var rfl) (ea_cons (ed_var rfl) ea_nil)) (.mk _ _ (Nat.le_trans (hl _ ho) (by decide))))))))
      (fun _ _ _ => ed_var rfl)) ea_nil) rc_tupL)
theorem ok_law_join (B : Bt mg) (F : DefAt K mg "_law_join" s_law_join) : Cal P w K mg base CX0 1 "_law_join" (spD C pLawJoin) := by
  refine cal_pure F sc_law_join (fun _ _ _ _ _ _ us hl => match us, hl with | [_], _ => rfl) (fun ds r h => by cases h; rfl) fun f cdv A outer s H E hr => ⟨_,
    (pss_cons (ps_set (i := 1) sc_law_join.nd rfl (Or.inr rfl) (pe_lst pa_nil))
      (pss_cons (ps_for PassesOwn.never rfl (pi_listK K (pv 0)) (pg_name (i := 2) sc_law_join.nd rfl (Or.inl rfl)) (pss_one (ps_set (i := 1) sc_law_join.nd rfl (Or.inr rfl) (pe_op op_cat (pv 1) (pe_lc (own := [("place", 3)]) rfl sc_law_join.nd (pi_tupK K (pv 2)) (blkOk_by (by kernel_rfl)) (fun _ _ _ _ _ => pg_name (i := 3) sc_law_join.nd rfl (Or.inl rfl)) (fun _ _ _ _ _ => pts_one (pt_cmpR (op_niK K) (pv 3) (pv 1) rfl)) (fun _ _ _ _ _ => (pv 3)))))))
      (pss_one (ps_ret (pe_ifExp (pt_cmpR (op_neK K hr.units) (pv 1) (pe_lst pa_nil) (nomark _)) (pe_callTy (call_tupK K) (by rfl) B.tuple_ b_tuple (pa_cons (pe_callB (cr_sortB K encI hr.units) (by rfl) B.sorted_ b_sorted (pa_cons (pv 1) pa_nil)) pa_nil)) pe_non))))), fun ds r h => ?_⟩
  cases h with
  | mk ls hz hl =>
    have hlen : ∀ i, ((ls.take i).foldl joinStep []).length ≤ 10 * i := by
      intro i
      induction i with
      | zero => exact Nat.le_refl _
      | succ i ih =>
        rw [List.take_add_one]
        cases q : ls[i]? with
        | none =>
          have : ((ls.take i ++ none.toList).foldl joinStep []).length ≤ 10 * i := by simpa using ih
          omega
        | some x =>
          rw [List.foldl_append]
          have h1 := joinStep_len (f := (ls.take i).foldl joinStep []) (x := x)
          have h2 := hl x (List.mem_of_getElem? q)
          show (joinStep ((ls.take i).foldl joinStep []) x).length ≤ 10 * (i + 1)
          omega
    refine sr_seq (sn_asg (ed_lst (ds := []) ea_nil (by decide))) ?_
    refine sr_for (as := ls) (enc := lotD) (fun i => [some (.d (lotsD ls)), some (.d (.lst (((ls.take i).foldl joinStep []).map fun (n : Nat) => .int (n : Int)))), none, none]) (fun _ => false) _ (fun i d hi => hi) rfl (src_lst (ed_var rfl)) (fun i d hi => gd_name) (fun i d hi ho z => nomatch z) (fun i x hi ho _ => ?_) (fun _ => ?_)
    · have hxm : x ∈ ls := List.mem_of_getElem? hi
      have hil : i < ls.length := (List.getElem?_eq_some_iff.mp hi).1
      have hle := hlen i
      have hx := hl x hxm
      have hst : (ls.take (i + 1)).foldl joinStep [] = joinStep ((ls.take i).foldl joinStep []) x := by rw [List.take_add_one, hi, List.foldl_append]; rfl
      refine sn_weak (sn_asg (ed_op (ed_var rfl) (ed_lc (as := x) (enc := fun (n : Nat) => Da.int (n : Int)) (fun n => .int (n : Int)) (fun p => !((ls.take i).foldl joinStep []).contains p) _ (src_tup (ed_var rfl)) (Nat.le_trans hx (by decide)) (fun j h => h) _ (fun x _ => gd_name)
        (fun p _ => et_test (ed_op (ed_var rfl) (ed_var rfl) rv_niL)) (fun p _ _ => ed_var rfl)) (rv_catL (by
          rw [List.length_map, List.length_map]
          have h1 := List.length_filter_le (fun p => !((ls.take i).foldl joinStep []).contains p) x
          omega)))) rfl (fun q e hq => ?_)
      match q, hq with
      | 0, hq => exact hq
      | 1, hq =>
        rw [← Option.some.inj (Option.some.inj hq)]
        show some (some (Sv.d _)) = some (some (Sv.d _))
        rw [hst]
        unfold joinStep
        rw [List.map_append]
      | 2, hq => exact nomatch (Option.some.inj hq)
      | 3, hq => exact nomatch (Option.some.inj hq)
      | k + 4, hq => exact nomatch hq
    · rw [List.take_length]
      have hle := hlen ls.length
      rw [List.take_length] at hle
      unfold lawJoin
      refine sr_ret (ed_if (b := !decide (ls.foldl joinStep [] = [])) (et_test (ed_is (ed_op (ed_var rfl) (ed_lst (ds := []) ea_nil (by decide)) (rv_neNats (a := ls.foldl joinStep []) (b := []))) rfl)) (fun hb => ?_) (fun hb => ?_))
      · have hb2 : ¬ ls.foldl joinStep [] = [] := by simpa using hb
        rw [if_neg hb2]
        exact ed_cb (ea_cons (ed_cb (ea_cons (ed_var rfl) ea_nil) (rc_sortNats (by omega))) ea_nil) rc_tupL
      · have hb2 : ls.foldl joinStep [] = [] := by simpa using hb
        rw [if_pos hb2]
        exact ed_non
theorem lawAll_mem_len {p : Nat} (hp : p ≤ 10) {l : List Nat} (h : l ∈ lawAllLots p) : l.length ≤ 10 := Nat.le_trans (lotP_len ((mem_lawAll p l).mp h)) hp
theorem ok_law_trap_in (B : Bt mg) (c_law_all_lots : Cal P w K mg base CX0 1 "_law_all_lots" (spD C pLawAll)) (c_law_is_within : Cal P w K mg base CX0 1 "_law_is_within" (spD C pLawWithin)) (c_law_is_trap_of : Cal P w K mg base CX0 1 "_law_is_trap_of" (spD C pLawTrap)) (c_law_join : Cal P w K mg base CX0 1 "_law_join" (spD C pLawJoin)) (F : DefAt K mg "_law_trap_in" s_law_trap_in) : Cal P w K mg base CX0 2 "_law_trap_in" (spD C pLawTrapIn) := by
  refine cal_pure F sc_law_trap_in (fun _ _ _ _ _ _ us hl => match us, hl with | [_, _], _ => rfl) (fun ds r h => by cases h; rfl) fun f cdv A outer s H E hr => ⟨_,
    (pss_cons (ps_setLc (i := 2) (own := [("one", 3)]) rfl sc_law_trap_in.nd rfl rfl (sw_true rfl rfl rfl (by decide +kernel)) (pi_listK K (pe_cal c_law_all_lots hr (by decide) rfl pass0 (pa_cons (pe_ix (ix_tupK K) (pv 0) pe_int (fun _ _ => rfl)) pa_nil))) (blkOk_by (by kernel_rfl)) (fun _ _ _ _ _ => pg_name (i := 3) sc_law_trap_in.nd rfl (Or.inl rfl)) (fun _ _ _ _ _ => pts_one (PW.pt (pw_and (pt_val (pe_cal c_law_is_within hr (by decide) rfl pass0 (pa_cons (pv 3) (pa_cons (pv 1) pa_nil)))) (pw_and1 (pt_val (pe_cal c_law_is_trap_of hr (by decide) rfl pass0 (pa_cons (pv 0) (pa_cons (pv 3) pa_nil)))))))) (fun _ _ _ _ _ => (pv 3)))
      (pss_one (ps_ret (pe_cal c_law_join hr (by decide) rfl pass0 (pa_cons (pv 2) pa_nil))))), fun ds r h => ?_⟩
  cases h with
  | mk n l ok =>
    refine sr_seq (sn_asg (ed_lc (as := lawAllLots n.places) (enc := lotD) lotD (fun one => within one l && isTrapOf n.deeds one) _ (src_lst (ed_call (ea_cons (ed_op (ed_var rfl) ed_int (rv_ixT (j := 0) rfl rfl)) ea_nil) (.mk _ ok.places))) (Nat.le_trans (lawAll_le ok.places) (by decide)) (fun j h => h) _ (fun x _ => gd_name)
      (fun one ho => et_and (et_B (ed_call (ea_cons (ed_var rfl) (ea_cons (ed_var rfl) ea_nil)) (.mk _ _ (Nat.le_trans (lawAll_mem_len ok.places ho) (by decide))))) fun _ => et_B (ed_call (ea_cons (ed_var rfl) (ea_cons (ed_var rfl) ea_nil)) (.mk _ _ ok)))
      (fun _ _ _ => ed_var rfl))) ?_
    exact sr_ret (ed_call (ea_cons (ed_var rfl) ea_nil) (.mk ((lawAllLots n.places).filter fun one => within one l && isTrapOf n.deeds one) (Nat.le_trans (List.length_filter_le _ _) (Nat.le_trans (lawAll_le ok.places) (by decide))) fun m hm => lawAll_mem_len ok.places (List.mem_filter.mp hm).1))
theorem ok_law_is_plain (B : Bt mg) (F : DefAt K mg "_law_is_plain" s_law_is_plain) : Cal P w K mg base CX0 1 "_law_is_plain" (spD C pLawPlain) := by
  refine cal_pure F sc_law_is_plain (fun _ _ _ _ _ _ us hl => match us, hl with | [_], _ => rfl) (fun ds r h => by cases h; rfl) fun f cdv A outer s H E hr => ⟨_,
    (pss_cons (ps_if (pt_not (pt_val (pe_callB (call_isiK' K) (by rfl) B.isinstance_ b_isinstance (pa_cons (pv 0) (pa_cons (pe_bltn (v := .ty "tuple") (by rfl) B.tuple_ b_tuple rfl) pa_nil))))) (pss_one (ps_ret pe_bl)) pss_nil)
      (pss_one (ps_ret (pe_callB (cr_allK K rfl) (by rfl) B.all_ b_all (pa_cons (pe_lc (own := [("one", 1)]) rfl sc_law_is_plain.nd (pi_tupK K (pv 0)) (blkOk_by (by kernel_rfl)) (fun _ _ _ _ _ => pg_name (i := 1) sc_law_is_plain.nd rfl (Or.inl rfl)) (fun _ _ _ _ _ => pts_nil) (fun _ _ _ _ _ => (pe_and (pe_callB (call_isiK' K) (by rfl) B.isinstance_ b_isinstance (pa_cons (pv 1) (pa_cons (pe_bltn (v := .ty "int") (by rfl) B.int_ b_int rfl) pa_nil))) (pe_one (pe_not (pe_callB (call_isiK' K) (by rfl) B.isinstance_ b_isinstance (pa_cons (pv 1) (pa_cons (pe_bltn (v := .ty "bool") (by rfl) B.bool_ b_bool rfl) pa_nil)))))))) pa_nil))))), fun ds r h => ?_⟩
  cases h with
  | mk d hz =>
    cases d with
    | tup xs =>
      refine sr_when (b := false) (et_is (et_not (et_B (ed_cb (ea_cons (ed_var rfl) (ea_cons ed_ty ea_nil)) rc_isT))) rfl) (fun z => nomatch z) (fun _ => sr_ret (ed_all (g := fun x => isI x && !isB x) (ed_lc0 (as := xs) (enc := fun x => x) _ _ (src_tupD (ed_var rfl)) (Nat.le_trans hz (by decide)) (fun j h => h) _ (fun x _ => gd_name)
        (fun x _ => ed_andV (ed_cb (ea_cons (ed_var rfl) (ea_cons ed_ty ea_nil)) rc_isI) fun _ => ed_notV (ed_cb (ea_cons (ed_var rfl) (ea_cons ed_ty ea_nil)) rc_isB)))))
    | _ => exact sr_when (b := true) (et_is (et_not (et_B (ed_cb (ea_cons (ed_var rfl) (ea_cons ed_ty ea_nil)) rc_isT))) rfl) (fun _ => sr_ret ed_bl) (fun z => nomatch z)
end
end K13

set_option Elab.async false
set_option linter.all false
set_option maxRecDepth 100000
set_option maxHeartbeats 4000000
/-! KG: more of the calculus: statements that return or go on; plain tuples. -/
namespace K13
open PySem PySem.Spec PyProof.Rows L2
open Evl (Ex ex_l ex_t sq_of st_of sz_of sz_lt fresh_back)
theorem room65 {k : Nat} {A : Around} (r : Room k A) : A.units + 65 < cLine := by
  have := r.un
  omega
section
variable {C : CW} {K : PySem.W.Frag} {env env1 env2 : En} {ta tb tc te tl : TE} {tt tu : TT} {x y z d : Sv} {b c : Bool} {g g1 g2 : TG} {js js1 js2 vs : List Nat} {xs ys : List Da} {t u w tb' : TS} {wi : TI}
/-- returns d, or goes on -/
def SB (C : CW) (t : TS) (env : En) (o : Bool) (d : Sv) (env2 : En) : Prop := if o = true then SRet C t env d else SNx C t env env2
theorem sb_when (h : ET C tt env b) (h1 : b = true → SRet C t env d) (h2 : b = false → SB C u env c d env2) : SB C (tSeq (tIfS tt t tNext) u) env (b || c) d env2 := by
  cases b with
  | true => exact sr_when h h1 (fun z => nomatch z)
  | false =>
    have h3 := h2 rfl
    cases c with
    | true => exact sr_when h (fun z => nomatch z) fun _ => h3
    | false => exact fun σ H Hd s e D k => h σ H Hd s e _ fun H1 e1 => h3 σ H1 Hd s (e.trans e1) D fun σ' Hd' H' a1 a2 a3 a4 => k σ' Hd' H' (e1.trans a1) a2 ((Nw.refl Hd H).trans e1 a3) a4
theorem sb_last (h : ET C tt env b) (h1 : b = true → SRet C t env d) (hl : env2.length = env.length) (hw : ∀ (i : Nat) (d : Sv), env2[i]? = some (some d) → env[i]? = some (some d)) : SB C (tIfS tt t tNext) env b d env2 := by
  cases b with
  | true => exact sr_if h h1 (fun z => nomatch z)
  | false => exact sn_weak (sn_if h (fun z => nomatch z) fun _ => sn_next) hl hw
theorem sb_ret {o : Bool} (h : SB C t env o d env2) (ho : o = true) : SRet C t env d := by
  unfold SB at h
  rw [if_pos ho] at h
  exact h
theorem sb_nx {o : Bool} (h : SB C t env o d env2) (ho : o = false) : SNx C t env env2 := by
  unfold SB at h
  rw [if_neg (by rw [ho]; exact Bool.false_ne_true)] at h
  exact h
theorem sb_is {o o' : Bool} (h : SB C t env o d env2) (e : o = o') : SB C t env o' d env2 := by
  rw [← e]
  exact h
theorem sr_forB {α : Type} {as : List α} {enc : α → Da} {g : TG} (e : Nat → En) (o : Nat → Bool) (E2 : Nat → α → En) (h0 : ∀ (i : Nat) (d : Sv), (e 0)[i]? = some (some d) → env[i]? = some (some d)) (hl : (e 0).length = env.length) (hs : Src C wi env (as.map enc))
    (hg : ∀ (i : Nat) (x : α), as[i]? = some x → GD C g (enc x) (e i) js (E2 i x))
    (hb : ∀ (i : Nat) (x : α), as[i]? = some x → (∀ j, j < i → o j = false) → SB C tb' (E2 i x) (o i) d (e (i + 1)))
    (hd : (∀ j, j < as.length → o j = false) → SRet C u (e as.length) d) : SRet C (tSeq (tFor wi g tb') u) env d :=
  sr_for e o E2 h0 hl hs hg (fun i x hi ho z => sb_ret (hb i x hi ho) z) (fun i x hi ho z => sb_nx (hb i x hi ho) z) hd
/-- tgt = value: any target -/
theorem sn_asgG {xd : Da} (h : ED C te env (.d xd)) (hg : GD C g xd env js env2) : SNx C (tAsg te g) env env2 := fun σ H Hd s e D k => h σ H Hd s e _ fun v Hd1 H1 e1 e2 n1 r1 => by
  cases r1 with
  | d r1 => exact hg v σ H1 Hd1 (s.mono n1.1) e2 r1 _ fun σ2 s2 _ => k σ2 Hd1 H1 e1 e2 n1 s2
/-- a, b = value, [] -/
theorem sr_parNew {i j : Nat} {xd : Da} (ha : ED C te env (.d xd)) (h : SRetA C j u ((env.set i (some (.d xd))).set j none) [] d) (hj : j < env.length) : SRet C (tSeq (tPar i j (tCons te (tCons (tLst tNil) tNil))) u) env d := fun σ H0 Hd0 s0 e0 D k0 =>
  ha σ H0 Hd0 s0 e0 _ fun v Hd H q1 q2 q3 r => by
    have s := s0.mono q3.1
    have e := q2
    have k := k0.on q1 q3
    refine ⟨Nat.zero_le _, fun l hl => ⟨v, .ref l, rfl, ?_⟩⟩
    have hd : Hd l = none := fresh_back e hl
    refine h ((σ.set i (some v)).set j (some (.ref l))) (upd H l (.lst [])) Hd l ⟨(s.set r).forget, ex_mut e hd, List.getElem?_set_self (by rw [List.length_set, s.len]; exact hj), hd, [], upd_same, .nil⟩ D fun v Hd' H' e1 e2 n1 r => ?_
    refine k v Hd' H' (ExB.ex (Ex.new hl) hl e1) e2 ⟨n1.1, fun b hb hb' => n1.2 b (fun z => hb' (by rw [z]; exact hl)) hb ?_⟩ r
    have ne : b ≠ l := fun z => hb' (by rw [z]; exact hl)
    rw [upd_ne ne]
    exact hb'
end
/-! ### plain tuples -/
def planD (is : List Int) : Da := .tup (is.map .int)
def encZ (is : List Int) : PyData := .tuple (is.map .int)
theorem eqvAll_int : ∀ a b : List Int, PyData.eqvAll (a.map .int) (b.map .int) = decide (a = b)
  | [], [] => by simp [PyData.eqvAll]
  | [], b :: bs => by simp [PyData.eqvAll]
  | a :: as, [] => by simp [PyData.eqvAll]
  | a :: as, b :: bs => by
    rw [List.map_cons, List.map_cons, PyData.eqvAll, eqvAll_int as bs, PyData.eqv, Bool.eq_iff_iff]
    simp
theorem eqv_int (a b : List Int) : PyData.eqv (encZ a) (encZ b) = decide (a = b) := by
  unfold encZ
  rw [PyData.eqv]
  exact eqvAll_int a b
def castL (l : List Nat) : List Int := l.map fun (n : Nat) => (n : Int)
theorem encL_cast (l : List Nat) : encL l = encZ (castL l) := encL_ints l
theorem dp_int {K : PySem.W.Frag} {H : Hp} : ∀ {vs : List V} {l : List Int}, RpL H vs (l.map .int) → DpAll K H vs (l.map .int)
  | _, [], .nil => .nil
  | _, n :: l, .cons h r => by
    cases h
    exact .cons (.int _) (dp_int r)
theorem dp_plan {K : PySem.W.Frag} {Hd H : Hp} (e : Ex Hd H) {v : V} {l : List Int} (r : Rp Hd v (planD l)) : Dp K H v (encZ l) := by
  cases r with
  | tup h t => exact .tup (st_of (e _ _ h)) (dp_int (t.mono e))
theorem lay_int : ∀ l : List Int, PyData.canLayAll0 (l.map .int) = true
  | [] => by simp [PyData.canLayAll0]
  | a :: l => by
    rw [List.map_cons, PyData.canLayAll0, lay_int l]
    simp [PyData.canLay0]
theorem shaped_int (l : List Int) : SeqAt.shaped (encZ l) = true := by
  show ((encZ l).canLay0 && decide ((encZ l).depth ≤ 64)) = true
  unfold encZ
  rw [PyData.canLay0, lay_int, PyData.depth, PySem.W.depth_ints]
  rfl
theorem any_plan (a : List Int) : ∀ ls : List (List Nat), ((ls.map encL).any fun z => PyData.eqv z (encZ a)) = ls.any fun l => decide (castL l = a)
  | [] => rfl
  | l :: ls => by
    rw [List.map_cons, List.any_cons, List.any_cons, any_plan a ls, encL_cast, eqv_int]
section
variable {C : CW} {K : PySem.W.Frag}
theorem rv_nePlan {a : List Int} {b : List Nat} : RV2 C (rNeD K) (.d (planD a)) (.d (lotD b)) (.d (.bl (!decide (a = castL b)))) := fun Hd H u v Q e r1 r2 k => by
  cases r1 with
  | d r1 =>
    cases r2 with
    | d r2 => exact ⟨encZ a, encL b, dp_plan e r1, dp_lot e r2, shaped_int a, shaped_lot b, by rw [encL_cast, eqv_int]; exact k.here e (.d (.bl _))⟩
theorem rv_niPlan {a : List Int} {ls : List (List Nat)} : RV2 C (rNotInD K) (.d (planD a)) (.d (.lst (ls.map lotD))) (.d (.bl (!ls.any fun l => decide (castL l = a)))) := fun Hd H u v Q e r1 r2 k => by
  cases r1 with
  | d r1 =>
    cases r2 with
    | d r2 =>
      cases r2 with
      | lst h t => exact ⟨encZ a, ls.map encL, dp_plan e r1, .lst (sq_of (e _ _ h)) (dp_lots e t), shaped_int a, shaped_lots ls, by rw [any_plan]; exact k.here e (.d (.bl _))⟩
end
theorem planD_cast (l : List Nat) : planD (castL l) = lotD l := by
  unfold planD castL lotD
  rw [List.map_map]
  rfl
theorem lotP_of {p : Nat} {l : List Nat} (h : LotOk p l) (hn : l ≠ []) : LotP p l := ⟨⟨h.asc, h.lt⟩, hn⟩
theorem lotP_ok {p : Nat} {l : List Nat} (h : LotP p l) : LotOk p l := ⟨h.1.2, h.1.1⟩
theorem lotIn_iff {n : NetD} {d : Da} (h : lotIn n d = true) : d = lotD (lotOf d) ∧ LotP n.places (lotOf d) := by
  unfold lotIn at h
  rw [Bool.and_eq_true] at h
  obtain ⟨h1, h2⟩ := isLot_iff h.1
  refine ⟨h1, lotP_of h2 fun z => ?_⟩
  have h3 := of_decide_eq_true h.2
  rw [h1, z] at h3
  exact absurd h3 (Nat.lt_irrefl 0)
theorem lotIn_of {n : NetD} {l : List Nat} (h : LotP n.places l) : lotIn n (lotD l) = true := by
  unfold lotIn
  rw [isLot_of (lotP_ok h)]
  show (true && decide (0 < (l.map fun (n : Nat) => Da.int (n : Int)).length)) = true
  rw [List.length_map, decide_eq_true (List.length_pos_iff.mpr h.2)]
  rfl
theorem castL_inj {a b : List Nat} (h : castL a = castL b) : a = b := by
  have := congrArg lotOf (show lotD a = lotD b by rw [← planD_cast, ← planD_cast, h])
  rwa [lotOf_lotD, lotOf_lotD] at this
theorem planD_inj {a b : List Int} (h : planD a = planD b) : a = b := by
  unfold planD at h
  have h := Da.tup.inj h
  have key : ∀ {a b : List Int}, a.map Da.int = b.map Da.int → a = b := fun {a} => by
    induction a with
    | nil =>
      intro b h
      cases b with
      | nil => rfl
      | cons x r => cases h
    | cons x r ih =>
      intro b h
      cases b with
      | nil => cases h
      | cons y s =>
        rw [List.map_cons, List.map_cons] at h
        injection h with h1 h2
        injection h1 with h1
        rw [h1, ih h2]
  exact key h
theorem inEvery (n : NetD) (is : List Int) : ((lawAllLots n.places).any fun l => decide (castL l = is)) = lotIn n (planD is) := by
  rw [Bool.eq_iff_iff, List.any_eq_true]
  constructor
  · rintro ⟨l, hl, e⟩
    have e := of_decide_eq_true e
    rw [← e, planD_cast]
    exact lotIn_of ((mem_lawAll _ _).mp hl)
  · intro h
    obtain ⟨h1, h2⟩ := lotIn_iff h
    refine ⟨_, (mem_lawAll _ _).mpr h2, decide_eq_true ?_⟩
    rw [← planD_cast] at h1
    exact (planD_inj h1).symm
end K13

set_option Elab.async false
set_option linter.all false
set_option maxRecDepth 100000
set_option maxHeartbeats 4000000
/-! KE5: what the law itself holds for lively. -/
namespace K13
open PySem PySem.Spec PyProof.Rows L2
open Evl (Ex)
/-- tuples of no more than 1000, k deep -/
def sm : Nat → Da → Prop
  | 0, _ => True
  | k + 1, .tup xs => xs.length ≤ 1000 ∧ ∀ x, x ∈ xs → sm k x
  | _ + 1, _ => True
theorem sm_sz {k : Nat} {d : Da} (h : sm (k + 1) d) : szT d := by
  cases d with
  | tup xs => exact h.1
  | _ => trivial
def pairB (n : NetD) (st s : List Nat) : Da → Bool
  | .tup [l, t] => (lotIn n l && decide (lotOf l = s)) && ((lotIn n t && within (lotOf t) s) && (keepsTrap n.deeds (lotOf t) && isMarked (lotOf t) st))
  | _ => false
def heldB (n : NetD) (st : List Nat) : Da → Bool
  | .tup ps => decide (ps.length = (siphonsOf n).length) && ((siphonsOf n).zip ps).all fun q => pairB n st q.1 q.2
  | _ => false
def doomedB (n : NetD) (st : List Nat) (x : Da) : Bool := (lotIn n x && keepsSiphon n.deeds (lotOf x)) && !isMarked (trapIn n.deeds (lotOf x)) st
def livelyB (n : NetD) (st : List Nat) : Da → Bool
  | .tup [.str w, x] => if w = ("live" : Str) then heldB n st x else decide (w = ("dies" : Str)) && doomedB n st x
  | _ => false
inductive pLawLively : List Sv → Sv → Prop | mk (n : NetD) (st : List Nat) (d : Da) (h : NetOk n) (hs : st.length = n.places) (hz : sm 4 d) : pLawLively [.d (netD n), .d (lotD st), .d d] (.d (.bl (livelyB n st d)))
theorem plain_iff {d : Da} (h : isPlain d = true) : ∃ is, d = planD is := by
  cases d with
  | tup xs =>
    have key : ∀ xs : List Da, (xs.all fun x => isI x && !isB x) = true → ∃ is : List Int, xs = is.map .int := by
      intro xs
      induction xs with
      | nil => exact fun _ => ⟨[], rfl⟩
      | cons a r ih =>
        intro h
        rw [List.all_cons, Bool.and_eq_true] at h
        obtain ⟨is, e⟩ := ih h.2
        cases a with
        | int i => exact ⟨i :: is, by rw [e]; rfl⟩
        | _ => exact absurd h.1 (by simp [isI, isB])
    obtain ⟨is, e⟩ := key xs h
    exact ⟨is, by rw [e]; rfl⟩
  | _ => cases h
theorem plain_plan (is : List Int) : isPlain (planD is) = true := by
  show ((is.map Da.int).all fun x => isI x && !isB x) = true
  rw [List.all_map, List.all_eq_true]
  intro x _
  rfl
theorem plain_lot {n : NetD} {d : Da} (h : lotIn n d = true) : isPlain d = true := by
  obtain ⟨h1, h2⟩ := lotIn_iff h
  rw [h1, ← planD_cast]
  exact plain_plan _
theorem zip_enc (S : List (List Nat)) (ps : List Da) : (((S.map lotD).zip ps).map fun p => Da.tup [p.1, p.2]) = (S.zip ps).map fun q => Da.tup [lotD q.1, q.2] := by
  rw [List.zip_map_left, List.map_map]
  rfl
abbrev s_law_is_lively : Stmt := topS 79
theorem sc_law_is_lively : FnScope ["net", "standing", "thing", "every", "siphons", "bare", "trap", "lot", "pair", "one"] ["net", "standing", "thing"] (defScope s_law_is_lively) := ⟨rfl, rfl, rfl, by decide +kernel, rfl, by decide +kernel, by decide +kernel⟩
section
variable {P : Program} {w : World} {K : PySem.W.Frag} {mg : Str → Option Value} {base : Heap} {C : CW}
theorem ok_law_bare (B : Bt mg) (c_law_all_lots : Cal P w K mg base CX0 1 "_law_all_lots" (spD C pLawAll)) (c_law_least : Cal P w K mg base CX0 2 "_law_least" (spD C pLawLeast)) (c_law_is_siphon_of : Cal P w K mg base CX0 1 "_law_is_siphon_of" (spD C pLawSiph)) (c_law_is_marked : Cal P w K mg base CX0 1 "_law_is_marked" (spD C pMarked)) (c_law_trap_in : Cal P w K mg base CX0 2 "_law_trap_in" (spD C pLawTrapIn)) (F : DefAt K mg "_law_bare" s_law_bare) : Cal P w K mg base CX0 3 "_law_bare" (spD C pLawBare) := by
  refine cal_pure F sc_law_bare (fun _ _ _ _ _ _ us hl => match us, hl with | [_, _], _ => rfl) (fun ds r h => by cases h; rfl) fun f cdv A outer s H E hr => ⟨_,
    (pss_cons (ps_par (i := 3) (j := 4) rfl sc_law_bare.nd rfl rfl (by decide) rfl rfl (pa_cons (pe_cal c_law_least hr (by decide) rfl pass0 (pa_cons (pe_lc (own := [("lot", 2)]) rfl sc_law_bare.nd (pi_listK K (pe_cal c_law_all_lots hr (by decide) rfl pass0 (pa_cons (pe_ix (ix_tupK K) (pv 0) pe_int (fun _ _ => rfl)) pa_nil))) (blkOk_by (by kernel_rfl)) (fun _ _ _ _ _ => pg_name (i := 2) sc_law_bare.nd rfl (Or.inl rfl)) (fun _ _ _ _ _ => pts_one (pt_val (pe_cal c_law_is_siphon_of hr (by decide) rfl pass0 (pa_cons (pv 0) (pa_cons (pv 2) pa_nil))))) (fun _ _ _ _ _ => (pv 2))) pa_nil)) (pa_cons (pe_lst pa_nil) pa_nil)) rfl)
      (pss_cons (ps_for PassesOwn.never rfl (pi_tupK K (pv 3)) (pg_name (i := 2) sc_law_bare.nd rfl (Or.inl rfl)) (pss_cons (ps_set (i := 5) sc_law_bare.nd rfl (Or.inl rfl) (pe_cal c_law_trap_in hr (by decide) rfl pass0 (pa_cons (pv 0) (pa_cons (pv 2) pa_nil))))
      (pss_one (ps_if (PW.pt (pw_or (pt_cmpR op_isN (pv 5) pe_non (nomark _)) (pw_or1 (pt_not (pt_val (pe_cal c_law_is_marked hr (by decide) rfl pass0 (pa_cons (pv 5) (pa_cons (pv 1) pa_nil)))))))) (pss_one (ps_expr (pe_bm PySem.F.plainAttrs_list PySem.F.slot_list_append PySem.F.type_list_append mt_append (pv 4) (pa_cons (pv 2) pa_nil)))) pss_nil))))
      (pss_one (ps_ret (pe_tup (pa_cons (pv 3) (pa_cons (pv 4) pa_nil))))))), fun ds r h => ?_⟩
  cases h with
  | mk n st ok hs =>
    have hS : ∀ l, l ∈ lawSiphons n → LotP n.places l := fun l hl => (mem_siphons (by rw [← siphons_eq]; exact hl)).1
    have hSl : (lawSiphons n).length ≤ 1024 := by
      unfold lawSiphons lawLeast
      exact Nat.le_trans (List.length_filter_le _ _) (Nat.le_trans (List.length_filter_le _ _) (lawAll_le ok.places))
    refine sr_parNew (xd := lotsT (lawSiphons n)) (ed_call (ea_cons (ed_lc (as := lawAllLots n.places) (enc := lotD) lotD (fun l => isSiphonOf n.deeds l) _ (src_lst (ed_call (ea_cons (ed_op (ed_var rfl) ed_int (rv_ixT (j := 0) rfl rfl)) ea_nil) (.mk _ ok.places))) (Nat.le_trans (lawAll_le ok.places) (by decide)) (fun j h => h) _ (fun x _ => gd_name)
      (fun l _ => et_B (ed_call (ea_cons (ed_var rfl) (ea_cons (ed_var rfl) ea_nil)) (.mk _ _ ok))) (fun _ _ _ => ed_var rfl)) ea_nil) (.mk ((lawAllLots n.places).filter fun l => isSiphonOf n.deeds l) (Nat.le_trans (List.length_filter_le _ _) (Nat.le_trans (lawAll_le ok.places) (by decide))) fun m hm => lawAll_mem_len ok.places (List.mem_filter.mp hm).1)) ?_ (by show 4 < 6; decide)
    refine sa_for (as := lawSiphons n) (enc := lotD) (fun _ => [some (.d (netD n)), some (.d (lotD st)), none, some (.d (lotsT (lawSiphons n))), none, none]) (fun i => (((lawSiphons n).take i).filter (bareB n st)).map lotD) (fun _ => false) _ (fun i d hi => hi) rfl rfl (src_tup (ed_var rfl)) (by decide) (fun i x _ => gd_name) (fun i x _ _ z => nomatch z) (fun i x hi ho _ => ?_) (fun _ => ?_)
    · have hx : x ∈ lawSiphons n := List.mem_of_getElem? hi
      have tk : (lawSiphons n).take (i + 1) = (lawSiphons n).take i ++ [x] := by rw [List.take_add_one, hi]; rfl
      have hlen := List.length_take_le i (lawSiphons n)
      have hfl := List.length_filter_le (bareB n st) ((lawSiphons n).take i)
      have hile : i < (lawSiphons n).length := (List.getElem?_eq_some_iff.mp hi).1
      refine sa_weak (sa_seq (sa_asg (by decide) (ed_call (ea_cons (ed_var rfl) (ea_cons (ed_var rfl) ea_nil)) (.mk _ _ ok))) (sa_if (env2 := [some (.d (netD n)), some (.d (lotD st)), some (.d (lotD x)), some (.d (lotsT (lawSiphons n))), none, some (.d (optD (lawTrapIn n x)))]) (b := bareB n st x) ?_ (fun hb => ?_) (fun hb => ?_))) rfl (fun q e hq => ?_)
      · unfold bareB
        rw [lawTrapIn_eq (hS x hx)]
        by_cases he : trapIn n.deeds x = []
        · rw [if_pos he]
          exact et_is (et_or (c := false) (et_test (ed_op (ed_var rfl) ed_non rv_isN)) fun z => nomatch z) rfl
        · rw [if_neg he]
          have hsub := trapIn_sub n.deeds x
          exact et_is (et_or (et_test (ed_op (ed_var rfl) ed_non rv_isN)) fun _ => et_not (et_B (ed_call (ea_cons (ed_var rfl) (ea_cons (ed_var rfl) ea_nil)) (.mk (trapIn n.deeds x) st (fun p hp => by rw [hs]; exact (hS x hx).1.2 p (hsub.subset hp)) (by have := hsub.length_le; have := lotP_len (hS x hx); have := ok.places; omega))))) rfl
      · have e1 : (((lawSiphons n).take (i + 1)).filter (bareB n st)).map lotD = (((lawSiphons n).take i).filter (bareB n st)).map lotD ++ [lotD x] := by
          rw [tk, List.filter_append, List.filter_cons, if_pos hb, List.map_append]
          rfl
        show SAcc C 4 _ _ _ _ ((((lawSiphons n).take (i + 1)).filter (bareB n st)).map lotD)
        rw [e1]
        exact sa_app (ed_var rfl) (by rw [List.length_map]; omega)
      · have e1 : (((lawSiphons n).take (i + 1)).filter (bareB n st)).map lotD = (((lawSiphons n).take i).filter (bareB n st)).map lotD := by
          rw [tk, List.filter_append, List.filter_cons, if_neg (by rw [hb]; exact Bool.false_ne_true)]
          show ((_ ++ []).map lotD) = _
          rw [List.append_nil]
        show SAcc C 4 _ _ _ _ ((((lawSiphons n).take (i + 1)).filter (bareB n st)).map lotD)
        rw [e1]
        exact sa_next
      · match q, hq with
        | 0, hq => exact hq
        | 1, hq => exact hq
        | 2, hq => exact nomatch (Option.some.inj hq)
        | 3, hq => exact hq
        | 4, hq => exact nomatch (Option.some.inj hq)
        | 5, hq => exact nomatch (Option.some.inj hq)
        | k + 6, hq => exact nomatch hq
    · rw [List.take_length]
      exact sa_ret (ed_tup (ds := [lotsT (lawSiphons n), lotsD ((lawSiphons n).filter (bareB n st))]) (ea_cons (ed_var rfl) (ea_cons (ed_var rfl) ea_nil)) lz2)
theorem ok_law_is_lively (B : Bt mg) (c_law_all_lots : Cal P w K mg base CX0 1 "_law_all_lots" (spD C pLawAll)) (c_law_bare : Cal P w K mg base CX0 3 "_law_bare" (spD C pLawBare)) (c_law_is_plain : Cal P w K mg base CX0 1 "_law_is_plain" (spD C pLawPlain)) (c_law_is_siphon_of : Cal P w K mg base CX0 1 "_law_is_siphon_of" (spD C pLawSiph)) (c_law_is_trap_of : Cal P w K mg base CX0 1 "_law_is_trap_of" (spD C pLawTrap)) (c_law_is_within : Cal P w K mg base CX0 1 "_law_is_within" (spD C pLawWithin))
    (c_law_is_marked : Cal P w K mg base CX0 1 "_law_is_marked" (spD C pMarked)) (c_law_trap_in : Cal P w K mg base CX0 2 "_law_trap_in" (spD C pLawTrapIn)) (F : DefAt K mg "_law_is_lively" s_law_is_lively) : Cal P w K mg base CX0 4 "_law_is_lively" (spD C pLawLively) := by
  refine cal_pure F sc_law_is_lively (fun _ _ _ _ _ _ us hl => match us, hl with | [_, _, _], _ => rfl) (fun ds r h => by cases h; rfl) fun f cdv A outer s H E hr => ⟨_,
    (pss_cons (ps_if (PW.pt (pw_or (pt_not (pt_val (pe_callB (call_isiK' K) (by rfl) B.isinstance_ b_isinstance (pa_cons (pv 2) (pa_cons (pe_bltn (v := .ty "tuple") (by rfl) B.tuple_ b_tuple rfl) pa_nil))))) (pw_or (pt_cmpR op_ne (pe_callB (call_lenK K) (by rfl) B.len_ b_len (pa_cons (pv 2) pa_nil)) pe_int (nomark _)) (pw_or1 (pt_not (pt_val (pe_callB (call_isiK' K) (by rfl) B.isinstance_ b_isinstance (pa_cons (pe_ix (ix_tupK K) (pv 2) pe_int (fun _ _ => rfl)) (pa_cons (pe_bltn (v := .ty "str") (by rfl) B.str_ b_str rfl) pa_nil))))))))) (pss_one (ps_ret pe_bl)) pss_nil)
      (pss_cons (ps_asg (pe_tup (pa_cons (pe_cal c_law_all_lots hr (by decide) rfl pass0 (pa_cons (pe_ix (ix_tupK K) (pv 0) pe_int (fun _ _ => rfl)) pa_nil)) (pa_cons (pe_cal c_law_bare hr (by decide) rfl pass0 (pa_cons (pv 0) (pa_cons (pv 1) pa_nil))) pa_nil))) (pg_tupK K (n := 2) rfl (pgs_cons (pg_name (i := 3) sc_law_is_lively.nd rfl (Or.inl rfl)) (pgs_cons (pg_tupK K (n := 2) rfl (pgs_cons (pg_name (i := 4) sc_law_is_lively.nd rfl (Or.inl rfl)) (pgs_cons (pg_name (i := 5) sc_law_is_lively.nd rfl (Or.inl rfl)) pgs_nil))) pgs_nil))))
      (pss_cons (ps_if (pt_cmpR op_eq (pe_ix (ix_tupK K) (pv 2) pe_int (fun _ _ => rfl)) pe_str (nomark _)) (pss_cons (ps_if (PW.pt (pw_or (pt_not (pt_val (pe_cal c_law_is_plain hr (by decide) rfl pass0 (pa_cons (pe_ix (ix_tupK K) (pv 2) pe_int (fun _ _ => rfl)) pa_nil)))) (pw_or (pt_cmpR (op_niLK K (room65 hr)) (pe_ix (ix_tupK K) (pv 2) pe_int (fun _ _ => rfl)) (pv 3) rfl) (pw_or1 (pt_not (pt_val (pe_cal c_law_is_siphon_of hr (by decide) rfl pass0 (pa_cons (pv 0) (pa_cons (pe_ix (ix_tupK K) (pv 2) pe_int (fun _ _ => rfl)) pa_nil))))))))) (pss_one (ps_ret pe_bl)) pss_nil)
      (pss_cons (ps_set (i := 6) sc_law_is_lively.nd rfl (Or.inl rfl) (pe_cal c_law_trap_in hr (by decide) rfl pass0 (pa_cons (pv 0) (pa_cons (pe_ix (ix_tupK K) (pv 2) pe_int (fun _ _ => rfl)) pa_nil))))
      (pss_one (ps_ret (pe_or (pe_cmpR op_isN (pv 6) pe_non (nomark _)) (pe_one (pe_not (pe_cal c_law_is_marked hr (by decide) rfl pass0 (pa_cons (pv 6) (pa_cons (pv 1) pa_nil)))))))))) pss_nil)
      (pss_cons (ps_if (PW.pt (pw_or (pt_cmpR op_ne (pe_ix (ix_tupK K) (pv 2) pe_int (fun _ _ => rfl)) pe_str (nomark _)) (pw_or (pt_not (pt_val (pe_callB (call_isiK' K) (by rfl) B.isinstance_ b_isinstance (pa_cons (pe_ix (ix_tupK K) (pv 2) pe_int (fun _ _ => rfl)) (pa_cons (pe_bltn (v := .ty "tuple") (by rfl) B.tuple_ b_tuple rfl) pa_nil))))) (pw_or1 (pt_cmpR op_ne (pe_callB (call_lenK K) (by rfl) B.len_ b_len (pa_cons (pe_ix (ix_tupK K) (pv 2) pe_int (fun _ _ => rfl)) pa_nil)) (pe_callB (call_lenK K) (by rfl) B.len_ b_len (pa_cons (pv 4) pa_nil)) (nomark _)))))) (pss_one (ps_ret pe_bl)) pss_nil)
      (pss_cons (ps_for PassesOwn.never rfl (pi_zipK K (by rfl) B.zip_ (pa_cons (pv 4) (pa_cons (pe_ix (ix_tupK K) (pv 2) pe_int (fun _ _ => rfl)) pa_nil))) (pg_tupK K (n := 2) rfl (pgs_cons (pg_name (i := 7) sc_law_is_lively.nd rfl (Or.inl rfl)) (pgs_cons (pg_name (i := 8) sc_law_is_lively.nd rfl (Or.inl rfl)) pgs_nil))) (pss_cons (ps_if (PW.pt (pw_or (pt_not (pt_val (pe_callB (call_isiK' K) (by rfl) B.isinstance_ b_isinstance (pa_cons (pv 8) (pa_cons (pe_bltn (v := .ty "tuple") (by rfl) B.tuple_ b_tuple rfl) pa_nil))))) (pw_or (pt_cmpR op_ne (pe_callB (call_lenK K) (by rfl) B.len_ b_len (pa_cons (pv 8) pa_nil)) pe_int (nomark _)) (pw_or1 (pt_not (pt_val (pe_callB (cr_allK K rfl) (by rfl) B.all_ b_all (pa_cons (pe_lc (own := [("one", 9)]) rfl sc_law_is_lively.nd (pi_tupK K (pv 8)) (blkOk_by (by kernel_rfl)) (fun _ _ _ _ _ => pg_name (i := 9) sc_law_is_lively.nd rfl (Or.inl rfl)) (fun _ _ _ _ _ => pts_nil) (fun _ _ _ _ _ => (pe_cal c_law_is_plain hr (by decide) rfl pass0 (pa_cons (pv 9) pa_nil)))) pa_nil)))))))) (pss_one (ps_ret pe_bl)) pss_nil)
      (pss_cons (ps_if (PW.pt (pw_or (pt_cmpR (op_neK K hr.units) (pe_ix (ix_tupK K) (pv 8) pe_int (fun _ _ => rfl)) (pv 7) (nomark _)) (pw_or (pt_cmpR (op_niLK K (room65 hr)) (pe_ix (ix_tupK K) (pv 8) pe_int (fun _ _ => rfl)) (pv 3) rfl) (pw_or1 (pt_not (pt_val (pe_cal c_law_is_within hr (by decide) rfl pass0 (pa_cons (pe_ix (ix_tupK K) (pv 8) pe_int (fun _ _ => rfl)) (pa_cons (pv 7) pa_nil))))))))) (pss_one (ps_ret pe_bl)) pss_nil)
      (pss_one (ps_if (PW.pt (pw_or (pt_not (pt_val (pe_cal c_law_is_trap_of hr (by decide) rfl pass0 (pa_cons (pv 0) (pa_cons (pe_ix (ix_tupK K) (pv 8) pe_int (fun _ _ => rfl)) pa_nil))))) (pw_or1 (pt_not (pt_val (pe_cal c_law_is_marked hr (by decide) rfl pass0 (pa_cons (pe_ix (ix_tupK K) (pv 8) pe_int (fun _ _ => rfl)) (pa_cons (pv 1) pa_nil)))))))) (pss_one (ps_ret pe_bl)) pss_nil)))))
      (pss_one (ps_ret pe_bl))))))), fun ds r h => ?_⟩
  cases h with
  | mk n st d ok hs hz =>
    have hS : ∀ l, l ∈ siphonsOf n → LotP n.places l ∧ keepsSiphon n.deeds l = true := fun l hl => mem_siphons hl
    have hmk : ∀ l, LotP n.places l → pMarked [.d (lotD l), .d (lotD st)] (.d (.bl (isMarked l st))) := fun l hl => .mk l st (fun p hp => by rw [hs]; exact hl.1.2 p hp) (Nat.le_trans (lotP_len hl) (Nat.le_trans ok.places (by decide)))
    cases d with
    | tup xs =>
      by_cases hx2 : xs.length = 2
      · obtain ⟨a, x, rfl⟩ : ∃ a x, xs = [a, x] := by
          match xs, hx2 with
          | [a, x], _ => exact ⟨a, x, rfl⟩
        have smx : sm 3 x := hz.2 x (by simp)
        cases a with
        | str w =>
          refine sr_when (b := false) (et_is (et_or (et_not (et_B (ed_cb (ea_cons (ed_var rfl) (ea_cons ed_ty ea_nil)) rc_isT))) fun _ => et_or (et_test (ed_op (ed_cb (ea_cons (ed_var rfl) ea_nil) rc_len) ed_int rv_neI)) fun _ => et_not (et_B (ed_cb (ea_cons (ed_op (ed_var rfl) ed_int (rv_ixT (j := 0) rfl rfl)) (ea_cons ed_ty ea_nil)) rc_isS))) rfl) (fun z => nomatch z) fun _ => ?_
          refine sr_seq (sn_asgG (xd := .tup [lotsD (lawAllLots n.places), .tup [lotsT (lawSiphons n), lotsD ((lawSiphons n).filter (bareB n st))]]) (ed_tup (ds := [lotsD (lawAllLots n.places), .tup [lotsT (lawSiphons n), lotsD ((lawSiphons n).filter (bareB n st))]]) (ea_cons (ed_call (ea_cons (ed_op (ed_var rfl) ed_int (rv_ixT (j := 0) rfl rfl)) ea_nil) (.mk _ ok.places)) (ea_cons (ed_call (ea_cons (ed_var rfl) (ea_cons (ed_var rfl) ea_nil)) (.mk _ _ ok hs)) ea_nil)) lz2)
            (gd_tup2 gd_name (gd_tup2 gd_name gd_name))) ?_
          rw [siphons_eq]
          refine sr_when (b := decide (w = ("dies" : Str))) (et_test (ed_op (ed_op (ed_var rfl) ed_int (rv_ixT (j := 0) rfl rfl)) ed_str rv_eqS)) (fun hb => ?_) (fun hb => ?_)
          · have hw := of_decide_eq_true hb
            have eL : livelyB n st (.tup [.str w, x]) = doomedB n st x := by
              show (if w = ("live" : Str) then heldB n st x else decide (w = ("dies" : Str)) && doomedB n st x) = _
              rw [if_neg (by rw [hw]; decide), hb, Bool.true_and]
            rw [eL]
            cases hp : isPlain x with
            | false =>
              have hl : lotIn n x = false := by
                cases q : lotIn n x with
                | false => rfl
                | true =>
                  rw [plain_lot q] at hp
                  cases hp
              refine sr_when (b := true) (et_is (et_or (c := false) (et_not (et_B (ed_call (ea_cons (ed_op (ed_var rfl) ed_int (rv_ixT (j := 1) rfl rfl)) ea_nil) (.mk _ (sm_sz smx))))) fun z => by rw [hp] at z; cases z) (by rw [hp]; rfl)) (fun _ => sr_ret (ed_is ed_bl ?_)) (fun z => nomatch z)
              unfold doomedB
              rw [hl]
              rfl
            | true =>
              obtain ⟨is, rfl⟩ := plain_iff hp
              cases hl : lotIn n (planD is) with
              | false =>
                refine sr_when (b := true) (et_is (et_or (et_not (et_B (ed_call (ea_cons (ed_op (ed_var rfl) ed_int (rv_ixT (j := 1) rfl rfl)) ea_nil) (.mk _ (sm_sz smx))))) fun _ => et_or (c := false) (et_test (ed_op (ed_op (ed_var rfl) ed_int (rv_ixT (j := 1) rfl rfl)) (ed_var rfl) rv_niPlan)) fun z => by rw [inEvery, hl] at z; cases z) (by rw [inEvery, hl, hp]; rfl)) (fun _ => sr_ret (ed_is ed_bl ?_)) (fun z => nomatch z)
                unfold doomedB
                rw [hl]
                rfl
              | true =>
                obtain ⟨el, hlp⟩ := lotIn_iff hl
                generalize lotOf (planD is) = l at *
                have ec : castL l = is := planD_inj (by rw [planD_cast]; exact el.symm)
                subst ec
                rw [planD_cast] at *
                have ed : doomedB n st (lotD l) = (isSiphonOf n.deeds l && bareB n st l) := by
                  unfold doomedB
                  rw [hl, lotOf_lotD, keeps_eq, bareB_eq hlp, Bool.true_and]
                rw [ed]
                refine sr_when (b := !isSiphonOf n.deeds l) (et_is (et_or (et_not (et_B (ed_call (ea_cons (ed_op (ed_var rfl) ed_int (rv_ixT (j := 1) rfl rfl)) ea_nil) (.mk _ (sm_sz smx))))) fun _ => et_or (et_test (ed_op (ed_op (ed_var rfl) ed_int (rv_ixT (j := 1) (d := planD (castL l)) (by rw [planD_cast]; rfl) rfl)) (ed_var rfl) rv_niPlan)) fun _ =>
                  et_not (et_B (ed_call (ea_cons (ed_var rfl) (ea_cons (ed_op (ed_var rfl) ed_int (rv_ixT (j := 1) rfl rfl)) ea_nil)) (.mk _ _ ok)))) (by rw [inEvery, planD_cast, hl, hp]; rfl)) (fun hb => sr_ret (ed_is ed_bl ?_)) (fun hb => ?_)
                · have hb2 : isSiphonOf n.deeds l = false := by simpa using hb
                  rw [hb2]
                  rfl
                · have hb2 : isSiphonOf n.deeds l = true := by simpa using hb
                  rw [hb2, Bool.true_and]
                  refine sr_seq (sn_asg (ed_call (ea_cons (ed_var rfl) (ea_cons (ed_op (ed_var rfl) ed_int (rv_ixT (j := 1) rfl rfl)) ea_nil)) (.mk _ _ ok))) ?_
                  unfold bareB
                  cases q : lawTrapIn n l with
                  | none => exact sr_ret (ed_is (ed_orV (c := false) (ed_op (ed_var rfl) ed_non rv_isN) fun z => nomatch z) rfl)
                  | some t =>
                    have ht : t = trapIn n.deeds l := by
                      rw [lawTrapIn_eq hlp] at q
                      split at q
                      · cases q
                      · exact (Option.some.inj q).symm
                    have hsub := trapIn_sub n.deeds l
                    rw [← ht] at hsub
                    exact sr_ret (ed_is (ed_orV (ed_op (ed_var rfl) ed_non rv_isN) fun _ => ed_notV (ed_call (ea_cons (ed_var rfl) (ea_cons (ed_var rfl) ea_nil)) (.mk t st (fun p hp => by rw [hs]; exact hlp.1.2 p (hsub.subset hp)) (by have := hsub.length_le; have := lotP_len hlp; have := ok.places; omega)))) rfl)
          · have eL : livelyB n st (.tup [.str w, x]) = (decide (w = ("live" : Str)) && heldB n st x) := by
              show (if w = ("live" : Str) then heldB n st x else decide (w = ("dies" : Str)) && doomedB n st x) = _
              by_cases hw : w = ("live" : Str)
              · rw [if_pos hw, decide_eq_true hw, Bool.true_and]
              · rw [if_neg hw, decide_eq_false hw, hb]
                rfl
            rw [eL]
            by_cases hw : w = ("live" : Str)
            · rw [decide_eq_true hw, Bool.true_and]
              cases x with
              | tup ps =>
                by_cases hl : ps.length = (siphonsOf n).length
                · refine sr_when (b := false) (et_is (et_or (et_test (ed_op (ed_op (ed_var rfl) ed_int (rv_ixT (j := 0) rfl rfl)) ed_str rv_neS)) fun _ => et_or (et_not (et_B (ed_cb (ea_cons (ed_op (ed_var rfl) ed_int (rv_ixT (j := 1) rfl rfl)) (ea_cons ed_ty ea_nil)) rc_isT))) fun _ => et_test (ed_op (ed_cb (ea_cons (ed_op (ed_var rfl) ed_int (rv_ixT (j := 1) rfl rfl)) ea_nil) rc_len) (ed_cb (ea_cons (ed_var rfl) ea_nil) rc_len) rv_neI))
                    (by rw [decide_eq_true hw, List.length_map, decide_eq_true (show (ps.length : Int) = ((siphonsOf n).length : Int) by omega)]; rfl)) (fun z => nomatch z) fun _ => ?_
                  have eH : heldB n st (.tup ps) = ((siphonsOf n).zip ps).all fun q => pairB n st q.1 q.2 := by
                    show (decide (ps.length = (siphonsOf n).length) && ((siphonsOf n).zip ps).all fun q => pairB n st q.1 q.2) = _
                    rw [decide_eq_true hl, Bool.true_and]
                  rw [eH]
                  generalize hres : (((siphonsOf n).zip ps).all fun q => pairB n st q.1 q.2) = res
                  refine sr_forB (as := (siphonsOf n).zip ps) (enc := fun q => Da.tup [lotD q.1, q.2]) (fun _ => [some (.d (netD n)), some (.d (lotD st)), some (.d (.tup [.str w, .tup ps])), some (.d (lotsD (lawAllLots n.places))), some (.d (lotsT (siphonsOf n))), none, none, none, none, none]) (fun i => !pairB n st (((siphonsOf n).zip ps).getD i ([], .non)).1 (((siphonsOf n).zip ps).getD i ([], .non)).2) _ (fun i d hi => ?_) rfl
                    (by rw [← zip_enc]; exact src_zip (ea_cons (ed_var rfl) (ea_cons (ed_op (ed_var rfl) ed_int (rv_ixT (j := 1) rfl rfl)) ea_nil))) (fun i q hi => gd_tup2 gd_name gd_name) (fun i q hi ho => ?_) (fun ho => ?_)
                  · match i, hi with
                    | 0, hi => exact hi
                    | 1, hi => exact hi
                    | 2, hi => exact hi
                    | 3, hi => exact hi
                    | 4, hi => exact hi
                    | 5, hi => exact nomatch (Option.some.inj hi)
                    | 6, hi => exact nomatch (Option.some.inj hi)
                    | 7, hi => exact nomatch (Option.some.inj hi)
                    | 8, hi => exact nomatch (Option.some.inj hi)
                    | 9, hi => exact nomatch (Option.some.inj hi)
                    | k + 10, hi => exact nomatch hi
                  · obtain ⟨s, p⟩ := q
                    have hmem := List.mem_of_getElem? hi
                    obtain ⟨hsS, hpp⟩ := List.of_mem_zip hmem
                    have hsp := (hS s hsS).1
                    have smp : sm 2 p := smx.2 p hpp
                    rw [List.getD_eq_getElem?_getD, hi]
                    show SB C _ _ (!pairB n st s p) _ _
                    have hret : pairB n st s p = false → SRet C (tRet (tC (.bl false))) [some (Sv.d (netD n)), some (Sv.d (lotD st)), some (Sv.d (Da.tup [.str w, .tup ps])), some (Sv.d (lotsD (lawAllLots n.places))), some (Sv.d (lotsT (siphonsOf n))), none, none, some (.d (lotD s)), some (.d p), none] (.d (.bl res)) := fun hf => by
                      refine sr_ret (ed_is ed_bl ?_)
                      rw [← hres, List.all_eq_false.mpr ⟨(s, p), hmem, by show ¬ pairB n st s p = true; rw [hf]; exact Bool.false_ne_true⟩]
                    have hweak : ∀ (i : Nat) (d : Sv), [some (Sv.d (netD n)), some (Sv.d (lotD st)), some (Sv.d (Da.tup [.str w, .tup ps])), some (Sv.d (lotsD (lawAllLots n.places))), some (Sv.d (lotsT (siphonsOf n))), none, none, none, none, none][i]? = some (some d) →
                        [some (Sv.d (netD n)), some (Sv.d (lotD st)), some (Sv.d (Da.tup [.str w, .tup ps])), some (Sv.d (lotsD (lawAllLots n.places))), some (Sv.d (lotsT (siphonsOf n))), none, none, some (.d (lotD s)), some (.d p), none][i]? = some (some d) := fun i d hi => by
                      match i, hi with
                      | 0, hi => exact hi
                      | 1, hi => exact hi
                      | 2, hi => exact hi
                      | 3, hi => exact hi
                      | 4, hi => exact hi
                      | 5, hi => exact nomatch (Option.some.inj hi)
                      | 6, hi => exact nomatch (Option.some.inj hi)
                      | 7, hi => exact nomatch (Option.some.inj hi)
                      | 8, hi => exact nomatch (Option.some.inj hi)
                      | 9, hi => exact nomatch (Option.some.inj hi)
                      | k + 10, hi => exact nomatch hi
                    cases p with
                    | tup zs =>
                      by_cases hz2 : zs.length = 2
                      · obtain ⟨l, t, rfl⟩ : ∃ l t, zs = [l, t] := by
                          match zs, hz2 with
                          | [l, t], _ => exact ⟨l, t, rfl⟩
                        have sml : szT l := sm_sz (smp.2 l (by simp))
                        have smt : szT t := sm_sz (smp.2 t (by simp))
                        have e0 : pairB n st s (.tup [l, t]) = ((lotIn n l && decide (lotOf l = s)) && ((lotIn n t && within (lotOf t) s) && (keepsTrap n.deeds (lotOf t) && isMarked (lotOf t) st))) := rfl
                        have hf0 : ([l, t].all isPlain) = false → pairB n st s (.tup [l, t]) = false := fun hpl => by
                          rw [e0]
                          cases q1 : lotIn n l with
                          | false => rfl
                          | true =>
                            cases q2 : lotIn n t with
                            | false => simp
                            | true =>
                              rw [List.all_cons, List.all_cons, plain_lot q1, plain_lot q2] at hpl
                              cases hpl
                        refine sb_is (sb_when (b := !([l, t].all isPlain)) (c := !pairB n st s (.tup [l, t])) (et_is (et_or (et_not (et_B (ed_cb (ea_cons (ed_var rfl) (ea_cons ed_ty ea_nil)) rc_isT))) fun _ => et_or (et_test (ed_op (ed_cb (ea_cons (ed_var rfl) ea_nil) rc_len) ed_int rv_neI)) fun _ =>
                          et_not (et_B (ed_all (g := isPlain) (ed_lc0 (as := [l, t]) (enc := fun x => x) _ _ (src_tupD (ed_var rfl)) (by show 2 ≤ 40000; decide) (fun j h => h) _ (fun x _ => gd_name) (fun x hx => ed_call (ea_cons (ed_var rfl) ea_nil) (.mk x (by
                            simp only [List.mem_cons, List.not_mem_nil, or_false] at hx
                            rcases hx with rfl | rfl
                            · exact sml
                            · exact smt)))))) ) rfl) (fun hb => hret (hf0 ((Bool.not_eq_true' _).mp hb))) (fun hb => ?_)) (by
                              cases hpl : ([l, t].all isPlain) with
                              | false =>
                                rw [hf0 hpl]
                                rfl
                              | true => rfl)
                        have hpl : ([l, t].all isPlain) = true := (Bool.not_eq_false' _).mp hb
                        rw [List.all_cons, List.all_cons, Bool.and_eq_true, Bool.and_eq_true] at hpl
                        obtain ⟨a, rfl⟩ := plain_iff hpl.1
                        obtain ⟨c, rfl⟩ := plain_iff hpl.2.1
                        have e1 : pairB n st s (.tup [planD a, planD c]) = ((lotIn n (planD a) && decide (lotOf (planD a) = s)) && ((lotIn n (planD c) && within (lotOf (planD c)) s) && (keepsTrap n.deeds (lotOf (planD c)) && isMarked (lotOf (planD c)) st))) := rfl
                        by_cases ha : a = castL s
                        · cases hc : lotIn n (planD c) with
                          | false =>
                            have hf : pairB n st s (.tup [planD a, planD c]) = false := by
                              rw [e1, hc]
                              simp
                            exact sb_is (sb_when (c := false) (et_or (et_test (ed_op (ed_op (ed_var rfl) ed_int (rv_ixT (j := 0) rfl rfl)) (ed_var rfl) rv_nePlan)) fun _ => et_or (c := false) (et_test (ed_op (ed_op (ed_var rfl) ed_int (rv_ixT (j := 1) rfl rfl)) (ed_var rfl) rv_niPlan)) fun z => by rw [inEvery, hc] at z; cases z) (fun _ => hret hf) (fun z => by rw [inEvery, hc] at z; simp at z)) (by rw [inEvery, hc, hf]; simp)
                          | true =>
                            obtain ⟨em, hmp⟩ := lotIn_iff hc
                            generalize lotOf (planD c) = m at *
                            have ecm : castL m = c := planD_inj (by rw [planD_cast]; exact em.symm)
                            subst ecm
                            subst ha
                            have e2 : pairB n st s (.tup [planD (castL s), planD (castL m)]) = (within m s && (isTrapOf n.deeds m && isMarked m st)) := by
                              rw [e1, planD_cast, lotIn_of hsp, lotOf_lotD, decide_eq_true rfl, hc, keepsT_eq, Bool.true_and, Bool.true_and, Bool.true_and]
                            refine sb_is (sb_when (b := !within m s) (c := (!isTrapOf n.deeds m || !isMarked m st)) (et_is (et_or (et_test (ed_op (ed_op (ed_var rfl) ed_int (rv_ixT (j := 0) rfl rfl)) (ed_var rfl) rv_nePlan)) fun _ => et_or (et_test (ed_op (ed_op (ed_var rfl) ed_int (rv_ixT (j := 1) rfl rfl)) (ed_var rfl) rv_niPlan)) fun _ =>
                                et_not (et_B (ed_call (ea_cons (ed_op (ed_var rfl) ed_int (rv_ixT (j := 1) (d := lotD m) (by rw [planD_cast m]; rfl) rfl)) (ea_cons (ed_var rfl) ea_nil)) (.mk _ _ (Nat.le_trans (lotP_len hmp) (Nat.le_trans ok.places (by decide))))))) (by rw [inEvery, hc, decide_eq_true rfl]; rfl))
                              (fun hb => hret (by rw [e2, show within m s = false by simpa using hb]; rfl)) (fun hb => sb_last (et_or (et_not (et_B (ed_call (ea_cons (ed_var rfl) (ea_cons (ed_op (ed_var rfl) ed_int (rv_ixT (j := 1) (d := lotD m) (by rw [planD_cast m]; rfl) rfl)) ea_nil)) (.mk _ _ ok)))) fun _ => et_not (et_B (ed_call (ea_cons (ed_op (ed_var rfl) ed_int (rv_ixT (j := 1) (d := lotD m) (by rw [planD_cast m]; rfl) rfl)) (ea_cons (ed_var rfl) ea_nil)) (hmk m hmp))))
                                (fun hb2 => hret (by
                                  rw [e2, show (isTrapOf n.deeds m && isMarked m st) = false by
                                    cases q1 : isTrapOf n.deeds m <;> cases q2 : isMarked m st <;> simp [q1, q2] at hb2 ⊢, Bool.and_false])) rfl hweak)) ?_
                            rw [e2]
                            cases within m s <;> cases isTrapOf n.deeds m <;> cases isMarked m st <;> rfl
                        · have hf : pairB n st s (.tup [planD a, planD c]) = false := by
                            rw [e1]
                            cases q : lotIn n (planD a) with
                            | false => rfl
                            | true =>
                              obtain ⟨q1, q2⟩ := lotIn_iff q
                              rw [decide_eq_false (fun z => ha (planD_inj (by rw [planD_cast, ← z]; exact q1)))]
                              rfl
                          exact sb_is (sb_when (c := false) (et_or (c := false) (et_test (ed_op (ed_op (ed_var rfl) ed_int (rv_ixT (j := 0) rfl rfl)) (ed_var rfl) rv_nePlan)) fun z => by rw [decide_eq_false ha] at z; cases z) (fun _ => hret hf) (fun z => by rw [decide_eq_false ha] at z; cases z)) (by rw [decide_eq_false ha, hf]; rfl)
                      · have hf : pairB n st s (.tup zs) = false := by
                          match zs, hz2 with
                          | [], _ => rfl
                          | [_], _ => rfl
                          | _ :: _ :: _ :: _, _ => rfl
                        have hd2 : decide ((zs.length : Int) = 2) = false := decide_eq_false (by omega)
                        exact sb_is (sb_when (c := false) (et_or (et_not (et_B (ed_cb (ea_cons (ed_var rfl) (ea_cons ed_ty ea_nil)) rc_isT))) fun _ => et_or (c := false) (et_test (ed_op (ed_cb (ea_cons (ed_var rfl) ea_nil) rc_len) ed_int rv_neI)) fun z => by rw [hd2] at z; cases z) (fun _ => hret hf) (fun z => by rw [hd2] at z; cases z)) (by rw [hd2, hf]; rfl)
                    | _ => exact sb_is (sb_when (c := false) (et_or (c := false) (et_not (et_B (ed_cb (ea_cons (ed_var rfl) (ea_cons ed_ty ea_nil)) rc_isT))) fun z => nomatch z) (fun _ => hret rfl) (fun z => nomatch z)) rfl
                  · refine sr_ret (ed_is ed_bl ?_)
                    rw [← hres, List.all_eq_true.mpr fun q hq => ?_]
                    obtain ⟨i, hi, hg⟩ := List.getElem_of_mem hq
                    have z := ho i hi
                    rw [List.getD_eq_getElem?_getD, List.getElem?_eq_getElem hi, hg] at z
                    simpa using z
                · refine sr_when (b := true) (et_is (et_or (et_test (ed_op (ed_op (ed_var rfl) ed_int (rv_ixT (j := 0) rfl rfl)) ed_str rv_neS)) fun _ => et_or (et_not (et_B (ed_cb (ea_cons (ed_op (ed_var rfl) ed_int (rv_ixT (j := 1) rfl rfl)) (ea_cons ed_ty ea_nil)) rc_isT))) fun _ => et_test (ed_op (ed_cb (ea_cons (ed_op (ed_var rfl) ed_int (rv_ixT (j := 1) rfl rfl)) ea_nil) rc_len) (ed_cb (ea_cons (ed_var rfl) ea_nil) rc_len) rv_neI))
                    (by rw [List.length_map, decide_eq_false (show ¬ (ps.length : Int) = ((siphonsOf n).length : Int) by omega)]; simp)) (fun _ => sr_ret (ed_is ed_bl ?_)) fun z => nomatch z
                  show Sv.d (.bl false) = .d (.bl (decide (ps.length = (siphonsOf n).length) && _))
                  rw [decide_eq_false hl]
                  rfl
              | _ => exact sr_when (b := true) (et_is (et_or (et_test (ed_op (ed_op (ed_var rfl) ed_int (rv_ixT (j := 0) rfl rfl)) ed_str rv_neS)) fun _ => et_or (c := false) (et_not (et_B (ed_cb (ea_cons (ed_op (ed_var rfl) ed_int (rv_ixT (j := 1) rfl rfl)) (ea_cons ed_ty ea_nil)) rc_isT))) fun z => nomatch z) (by simp [isT])) (fun _ => sr_ret ed_bl) fun z => nomatch z
            · rw [decide_eq_false hw]
              exact sr_when (b := true) (et_is (et_or (c := false) (et_test (ed_op (ed_op (ed_var rfl) ed_int (rv_ixT (j := 0) rfl rfl)) ed_str rv_neS)) fun z => by rw [decide_eq_false hw] at z; cases z) (by rw [decide_eq_false hw]; rfl)) (fun _ => sr_ret ed_bl) fun z => nomatch z
        | _ => exact sr_when (b := true) (et_is (et_or (et_not (et_B (ed_cb (ea_cons (ed_var rfl) (ea_cons ed_ty ea_nil)) rc_isT))) fun _ => et_or (et_test (ed_op (ed_cb (ea_cons (ed_var rfl) ea_nil) rc_len) ed_int rv_neI)) fun _ => et_not (et_B (ed_cb (ea_cons (ed_op (ed_var rfl) ed_int (rv_ixT (j := 0) rfl rfl)) (ea_cons ed_ty ea_nil)) rc_isS))) rfl) (fun _ => sr_ret ed_bl) (fun z => nomatch z)
      · have hf : livelyB n st (.tup xs) = false := by
          match xs, hx2 with
          | [], _ => rfl
          | [.str _], _ => rfl
          | [.non], _ => rfl
          | [.bl _], _ => rfl
          | [.int _], _ => rfl
          | [.tup _], _ => rfl
          | [.lst _], _ => rfl
          | [.dic], _ => rfl
          | .str _ :: _ :: _ :: _, _ => rfl
          | .non :: _ :: _ :: _, _ => rfl
          | .bl _ :: _ :: _ :: _, _ => rfl
          | .int _ :: _ :: _ :: _, _ => rfl
          | .tup _ :: _ :: _ :: _, _ => rfl
          | .lst _ :: _ :: _ :: _, _ => rfl
          | .dic :: _ :: _ :: _, _ => rfl
        rw [hf]
        have hd2 : decide ((xs.length : Int) = 2) = false := decide_eq_false (by omega)
        exact sr_when (b := true) (et_is (et_or (et_not (et_B (ed_cb (ea_cons (ed_var rfl) (ea_cons ed_ty ea_nil)) rc_isT))) fun _ => et_or (c := false) (et_test (ed_op (ed_cb (ea_cons (ed_var rfl) ea_nil) rc_len) ed_int rv_neI)) fun z => by rw [hd2] at z; cases z) (by rw [hd2]; rfl)) (fun _ => sr_ret ed_bl) (fun z => nomatch z)
    | _ => exact sr_when (b := true) (et_is (et_or (c := false) (et_not (et_B (ed_cb (ea_cons (ed_var rfl) (ea_cons ed_ty ea_nil)) rc_isT))) fun z => nomatch z) rfl) (fun _ => sr_ret ed_bl) (fun z => nomatch z)
end
end K13

set_option Elab.async false
set_option linter.all false
set_option maxRecDepth 100000
set_option maxHeartbeats 4000000
/-! KW: expressions and statements beside what changes: a world says which places change, and what stands there. -/
namespace K13
open PySem PySem.Spec PyProof.Rows L2
open Evl (Ex ex_l ex_t sq_of st_of sz_of sz_lt fresh_back)
/-- all but M stays; what is there stays there -/
def ExM (M : Addr → Prop) (H H' : Hp) : Prop := (∀ b o, ¬ M b → H b = some o → H' b = some o) ∧ ∀ b, H b ≠ none → H' b ≠ none
theorem ExM.refl (M : Addr → Prop) (H : Hp) : ExM M H H := ⟨fun _ _ _ h => h, fun _ h => h⟩
theorem ExM.of {M : Addr → Prop} {H H' : Hp} (e : Ex H H') : ExM M H H' := ⟨fun b o _ h => e b o h, fun b h => by
  cases q : H b with
  | none => exact absurd q h
  | some o =>
    rw [e b o q]
    exact fun z => nomatch z⟩
theorem ExM.trans {M : Addr → Prop} {H H1 H2 : Hp} (a : ExM M H H1) (b : ExM M H1 H2) : ExM M H H2 := ⟨fun c o n h => b.1 c o n (a.1 c o n h), fun c h => b.2 c (a.2 c h)⟩
theorem ExM.upd {M : Addr → Prop} {H : Hp} {p : Addr} {o : HO} (hp : M p) : ExM M H (upd H p o) := ⟨fun b u n h => by rw [upd_ne (fun z => n (by rw [z]; exact hp))]; exact h, fun b h => by
  by_cases z : b = p
  · rw [z, upd_same]
    exact fun z => nomatch z
  · rw [upd_ne z]
    exact h⟩
theorem ExM.weak {M M' : Addr → Prop} {H H' : Hp} (e : ExM M H H') (h : ∀ a, M a → M' a) : ExM M' H H' := ⟨fun b o n hb => e.1 b o (fun z => n (h b z)) hb, e.2⟩
/-- places that are new need no leave -/
theorem ExM.drop {M M' : Addr → Prop} {H H' : Hp} (e : ExM M' H H') (h : ∀ a, M' a → M a ∨ H a = none) : ExM M H H' := ⟨fun b o n hb => e.1 b o (fun z => (h b z).elim n fun w => by rw [w] at hb; cases hb) hb, e.2⟩
def NwM (M : Addr → Prop) (Hd H Hd' : Hp) : Prop := Ex Hd Hd' ∧ ∀ b, ¬ M b → Hd b = none → H b ≠ none → Hd' b = none
theorem NwM.of {M : Addr → Prop} {Hd H Hd' : Hp} (n : Nw Hd H Hd') : NwM M Hd H Hd' := ⟨n.1, fun b _ h h' => n.2 b h h'⟩
theorem NwM.refl (M : Addr → Prop) (Hd H : Hp) : NwM M Hd H Hd := ⟨Ex.refl Hd, fun _ _ h _ => h⟩
theorem NwM.trans {M : Addr → Prop} {Hd H Hd1 H1 Hd2 : Hp} (a : NwM M Hd H Hd1) (e : ExM M H H1) (b : NwM M Hd1 H1 Hd2) : NwM M Hd H Hd2 := ⟨a.1.trans b.1, fun x hx h h' => b.2 x hx (a.2 x hx h h') (e.2 x h')⟩
theorem NwM.weak {M M' : Addr → Prop} {Hd H Hd' : Hp} (e : NwM M Hd H Hd') (h : ∀ a, M a → M' a) : NwM M' Hd H Hd' := ⟨e.1, fun b n h1 h2 => e.2 b (fun z => n (h b z)) h1 h2⟩
theorem NwM.drop {M M' : Addr → Prop} {Hd H Hd' : Hp} (e : NwM M' Hd H Hd') (h : ∀ a, M' a → M a ∨ H a = none) : NwM M Hd H Hd' := ⟨e.1, fun b n h1 h2 => e.2 b (fun z => (h b z).elim n h2) h1 h2⟩
structure Wl where
  M : Addr → Prop
  I : Hp → Hp → Prop
  al : ∀ {Hd H : Hp} {a : Addr}, I Hd H → M a → H a ≠ none ∧ Hd a = none
  st : ∀ {Hd H Hd' H' : Hp}, I Hd H → Ex H H' → Ex Hd' H' → Nw Hd H Hd' → I Hd' H'
  fr : ∀ {Hd H H' : Hp}, I Hd H → (∀ a, M a → H' a = H a) → Ex Hd H' → I Hd H'
  gr : ∀ {Hd Hd' H : Hp}, I Hd H → (∀ a, M a → Hd' a = none) → Ex Hd Hd' → Ex Hd' H → I Hd' H
/-- nothing changes -/
def W0 : Wl := ⟨fun _ => False, fun _ _ => True, fun _ z => z.elim, fun _ _ _ _ => True.intro, fun _ _ _ => True.intro, fun _ _ _ _ => True.intro⟩
/-- what W does leaves W' as it says -/
structure Up (W W' : Wl) : Prop where
  m : ∀ a, W.M a → W'.M a
  i : ∀ {Hd H : Hp}, W'.I Hd H → W.I Hd H
  b : ∀ {Hd H Hd' H' : Hp}, W'.I Hd H → ExM W.M H H' → Ex Hd' H' → NwM W.M Hd H Hd' → W.I Hd' H' → W'.I Hd' H'
theorem Up.refl (W : Wl) : Up W W := ⟨fun _ h => h, fun h => h, fun _ _ _ _ h => h⟩
theorem ex0 {H H' : Hp} (e : ExM (fun _ => False) H H') : Ex H H' := fun b o h => e.1 b o id h
theorem Up.w0 (W : Wl) : Up W0 W := ⟨fun _ z => z.elim, fun _ => True.intro, fun i e e2 n _ => W.st i (ex0 e) e2 ⟨n.1, fun b h h' => n.2 b id h h'⟩⟩
section
variable (C : CW) (W : Wl)
def OKM (Hd H : Hp) (P : Sv → Prop) (Q : VK) : Prop := ∀ (v : V) (Hd' H' : Hp) (d : Sv), ExM W.M H H' → Ex Hd' H' → NwM W.M Hd H Hd' → W.I Hd' H' → P d → RpS C Hd' v d → Q v H'
def EM (te : TE) (env : En) (P : Sv → Prop) : Prop := ∀ (σ : L2.St) (H Hd : Hp), SO C Hd σ env → Ex Hd H → W.I Hd H → ∀ Q : VK, OKM C W Hd H P Q → te σ H Q
def EAM (ta : TA) (env : En) (P : List Sv → Prop) : Prop := ∀ (σ : L2.St) (H Hd : Hp), SO C Hd σ env → Ex Hd H → W.I Hd H → ∀ Q : List V → Hp → Prop,
  (∀ (vs : List V) (Hd' H' : Hp) (ds : List Sv), ExM W.M H H' → Ex Hd' H' → NwM W.M Hd H Hd' → W.I Hd' H' → P ds → RpA C Hd' vs ds → Q vs H') → ta σ H Q
def ETM (tt : TT) (env : En) (P : Bool → Prop) : Prop := ∀ (σ : L2.St) (H Hd : Hp), SO C Hd σ env → Ex Hd H → W.I Hd H → ∀ Q : Bool → Hp → Prop,
  (∀ (b : Bool) (Hd' H' : Hp), ExM W.M H H' → Ex Hd' H' → NwM W.M Hd H Hd' → W.I Hd' H' → P b → Q b H') → tt σ H Q
def SRM (t : TS) (env : En) (P : Sv → Prop) : Prop := ∀ (σ : L2.St) (H Hd : Hp), SO C Hd σ env → Ex Hd H → W.I Hd H → ∀ D : Ends, OKM C W Hd H P D.rt → t D σ H
/-- goes on, in a world with the same places -/
def SNM (t : TS) (env : En) (P : Wl → En → Prop) : Prop := ∀ (σ : L2.St) (H Hd : Hp), SO C Hd σ env → Ex Hd H → W.I Hd H → ∀ D : Ends,
  (∀ (W' : Wl) (env' : En) (σ' : L2.St) (Hd' H' : Hp), P W' env' → ExM W.M H H' → Ex Hd' H' → NwM W.M Hd H Hd' → W'.I Hd' H' → SO C Hd' σ' env' → D.nx σ' H') → t D σ H
/-- a promise: from these data one of those -/
def spM (pre : List Sv → (Sv → Prop) → Prop) : Sp := fun vs H Q _ => ∃ (Hd : Hp) (ds : List Sv) (P : Sv → Prop), Ex Hd H ∧ W.I Hd H ∧ RpA C Hd vs ds ∧ pre ds P ∧ OKM C W Hd H P Q
/-- .. or an exception of the class c -/
inductive Out where
  | ok (P : Sv → Prop)
  | er (c : Addr)
def OKX (Hd H : Hp) (o : Out) (Q : VK) (E : XK) : Prop := match o with
  | .ok P => OKM C W Hd H P Q
  | .er c => ∀ Hd' H', ExM W.M H H' → Ex Hd' H' → NwM W.M Hd H Hd' → W.I Hd' H' → E (.ref c) none H'
def spX (pre : List Sv → Out → Prop) : Sp := fun vs H Q E => ∃ (Hd : Hp) (ds : List Sv) (o : Out), Ex Hd H ∧ W.I Hd H ∧ RpA C Hd vs ds ∧ pre ds o ∧ OKX C W Hd H o Q E
/-- returns or raises -/
def SRX (t : TS) (env : En) (E : XK) (o : Out) : Prop := ∀ (σ : L2.St) (H Hd : Hp), SO C Hd σ env → Ex Hd H → W.I Hd H → ∀ D : Ends, OKX C W Hd H o D.rt E → t D σ H
end
section
variable {C : CW} {K : PySem.W.Frag} {W W' : Wl} {env env1 env2 : En} {ta tb tc te tl : TE} {tt tu : TT} {x y z d : Sv} {b c : Bool} {t u w : TS} {r r' : R2} {P P1 P2 R : Sv → Prop}
theorem OKM.on {Hd H Hd1 H1 : Hp} {Q : VK} (k : OKM C W Hd H P Q) (e : ExM W.M H H1) (n : NwM W.M Hd H Hd1) : OKM C W Hd1 H1 P Q := fun v Hd' H' d e1 e2 n1 i p r => k v Hd' H' d (e.trans e1) e2 (n.trans e n1) i p r
theorem OKM.toOK {Hd H : Hp} {Q : VK} (k : OKM C W Hd H P Q) (i : W.I Hd H) (hp : P d) : OK1 C Hd H d Q := fun v Hd' H' e1 e2 n r => k v Hd' H' d (.of e1) e2 (.of n) (W.st i e1 e2 n) hp r
theorem OKX.on {Hd H Hd1 H1 : Hp} {Q : VK} {E : XK} {o : Out} (k : OKX C W Hd H o Q E) (e : ExM W.M H H1) (n : NwM W.M Hd H Hd1) : OKX C W Hd1 H1 o Q E := by
  cases o with
  | ok P => exact OKM.on k e n
  | er c => exact fun Hd' H' e1 e2 n1 i => k Hd' H' (e.trans e1) e2 (n.trans e n1) i
theorem em_of (h : ED C te env d) (hp : P d) : EM C W te env P := fun σ H Hd s e i Q k => h σ H Hd s e Q (k.toOK i hp)
theorem em_imp (h : EM C W te env P) (hp : ∀ d, P d → R d) : EM C W te env R := fun σ H Hd s e i Q k => h σ H Hd s e i Q fun v Hd' H' d e1 e2 n i2 p r => k v Hd' H' d e1 e2 n i2 (hp d p) r
theorem eam_of {ta : TA} {ds : List Sv} {P : List Sv → Prop} (h : EA C ta env ds) (hp : P ds) : EAM C W ta env P := fun σ H Hd s e i Q k => h σ H Hd s e _ fun vs Hd' H' e1 e2 n r => k vs Hd' H' ds (.of e1) e2 (.of n) (W.st i e1 e2 n) hp r
theorem eam_nil : EAM C W tNil env (fun ds => ds = []) := eam_of ea_nil rfl
theorem eam_cons {tr : TA} {P : Sv → Prop} {P2 : Sv → List Sv → Prop} (ha : EM C W ta env P) (hr : ∀ d, P d → EAM C W tr env (P2 d)) : EAM C W (tCons ta tr) env (fun ds => ∃ d es, P d ∧ P2 d es ∧ ds = d :: es) := fun σ H Hd s e i Q k =>
  ha σ H Hd s e i _ fun u Hd1 H1 d e1 e2 n1 i1 p1 r1 => hr d p1 σ H1 Hd1 (s.mono n1.1) e2 i1 _ fun vs Hd2 H2 es e3 e4 n2 i2 p2 r2 => k (u :: vs) Hd2 H2 (d :: es) (e1.trans e3) e4 (n1.trans e1 n2) i2 ⟨d, es, p1, p2, rfl⟩ (.cons (r1.mono n2.1) r2)
theorem eam_imp {ta : TA} {P R : List Sv → Prop} (h : EAM C W ta env P) (hp : ∀ ds, P ds → R ds) : EAM C W ta env R := fun σ H Hd s e i Q k => h σ H Hd s e i Q fun vs Hd' H' ds e1 e2 n i2 p r => k vs Hd' H' ds e1 e2 n i2 (hp ds p) r
theorem em_op (ha : EM C W ta env P1) (hb : ∀ x, P1 x → EM C W tb env P2) (hr : ∀ x y, P1 x → P2 y → ∃ d, RV2 C r x y d ∧ P d) : EM C W (tOp r ta tb) env P := fun σ H Hd s e i Q k =>
  ha σ H Hd s e i _ fun u Hd1 H1 x e1 e2 n1 i1 p1 r1 => hb x p1 σ H1 Hd1 (s.mono n1.1) e2 i1 _ fun v Hd2 H2 y e3 e4 n2 i2 p2 r2 => by
    obtain ⟨d, q1, q2⟩ := hr x y p1 p2
    exact q1 Hd2 H2 u v Q e4 (r1.mono n2.1) r2 (((k.on e1 n1).on e3 n2).toOK i2 q2)
theorem em_cb {rr : List V → Hp → VK → Prop} {t : TA} {P1 : List Sv → Prop} (h : EAM C W t env P1) (hr : ∀ ds, P1 ds → ∃ d, RC C rr ds d ∧ P d) : EM C W (tCB rr t) env P := fun σ H Hd s e i Q k =>
  h σ H Hd s e i _ fun vs Hd1 H1 ds e1 e2 n1 i1 p1 r1 => by
    obtain ⟨d, q1, q2⟩ := hr ds p1
    exact q1 Hd1 H1 vs Q e2 r1 ((k.on e1 n1).toOK i1 q2)
theorem em_call {pre : List Sv → (Sv → Prop) → Prop} {t : TA} {E : XK} {P1 : List Sv → Prop} (h : EAM C W' t env P1) (up : Up W W') (hp : ∀ ds, P1 ds → ∃ R, pre ds R ∧ ∀ d, R d → P d) : EM C W' (tCall (spM C W pre) [] E t) env P := fun σ H Hd s e i Q k =>
  h σ H Hd s e i _ fun vs Hd1 H1 ds e1 e2 n1 i1 p1 r1 => by
    obtain ⟨R, q1, q2⟩ := hp ds p1
    refine ⟨Hd1, ds, R, e2, up.i i1, by rw [List.append_nil]; exact r1, q1, fun v Hd2 H2 d e3 e4 n2 i2 p2 r2 => ?_⟩
    exact k v Hd2 H2 d (e1.trans (e3.weak up.m)) e4 (n1.trans e1 (n2.weak up.m)) (up.b i1 e3 e4 n2 i2) (q2 d p2) r2
theorem em_callD {pre : List Sv → Sv → Prop} {t : TA} {E : XK} {P1 : List Sv → Prop} (h : EAM C W t env P1) (hp : ∀ ds, P1 ds → ∃ d, pre ds d ∧ P d) : EM C W (tCall (spD C pre) [] E t) env P := fun σ H Hd s e i Q k =>
  h σ H Hd s e i _ fun vs Hd1 H1 ds e1 e2 n1 i1 p1 r1 => by
    obtain ⟨d, q1, q2⟩ := hp ds p1
    exact ⟨Hd1, ds, d, e2, by rw [List.append_nil]; exact r1, q1, (k.on e1 n1).toOK i1 q2⟩
theorem em_tup {t : TA} {P1 : List Sv → Prop} (h : EAM C W t env P1) (hd : ∀ ds, P1 ds → ∃ xs : List Da, ds = xs.map Sv.d ∧ xs.length ≤ 100000 ∧ P (.d (.tup xs))) : EM C W (tTup t) env P := fun σ H Hd s e i Q k =>
  h σ H Hd s e i _ fun vs Hd1 H1 ds e1 e2 n1 i1 p1 r1 => by
    obtain ⟨xs, rfl, hl, q⟩ := hd ds p1
    exact ⟨sz_of (by rw [r1.length, List.length_map]; exact hl), fun p hp => ((k.on e1 n1).toOK i1 q).tup e2 r1.pure hp⟩
theorem em_lst {t : TA} {P1 : List Sv → Prop} (h : EAM C W t env P1) (hd : ∀ ds, P1 ds → ∃ xs : List Da, ds = xs.map Sv.d ∧ xs.length ≤ 100000 ∧ P (.d (.lst xs))) : EM C W (tLst t) env P := fun σ H Hd s e i Q k =>
  h σ H Hd s e i _ fun vs Hd1 H1 ds e1 e2 n1 i1 p1 r1 => by
    obtain ⟨xs, rfl, hl, q⟩ := hd ds p1
    exact ⟨sz_of (by rw [r1.length, List.length_map]; exact hl), fun p hp => ((k.on e1 n1).toOK i1 q).lst e2 r1.pure hp⟩
theorem etm_of (h : ET C tt env b) : ETM C W tt env (fun c => c = b) := fun σ H Hd s e i Q k => h σ H Hd s e _ fun H1 e1 => k b Hd H1 (.of e1) (e.trans e1) (NwM.refl _ _ _) (W.st i e1 (e.trans e1) (Nw.refl _ _)) rfl
theorem etm_test {Pb : Bool → Prop} (h : EM C W te env fun d => ∃ b, d = .d (.bl b) ∧ Pb b) : ETM C W (tTest te) env Pb := fun σ H Hd s e i Q k => h σ H Hd s e i _ fun v Hd1 H1 d e1 e2 n1 i1 p1 r1 => by
  obtain ⟨b, rfl, p1⟩ := p1
  cases r1 with
  | d r1 =>
    cases r1
    exact ⟨b, rfl, k b Hd1 H1 e1 e2 n1 i1 p1⟩
theorem etm_B {Pb : Bool → Prop} (h : EM C W te env fun d => ∃ b, d = .d (.bl b) ∧ Pb b) : ETM C W (tB te) env Pb := fun σ H Hd s e i Q k => h σ H Hd s e i _ fun v Hd1 H1 d e1 e2 n1 i1 p1 r1 => by
  obtain ⟨b, rfl, p1⟩ := p1
  cases r1 with
  | d r1 =>
    cases r1
    exact ⟨b, rfl, k b Hd1 H1 e1 e2 n1 i1 p1⟩
theorem em_if {Pb : Bool → Prop} (h : ETM C W tt env Pb) (h1 : Pb true → EM C W ta env P) (h2 : Pb false → EM C W tb env P) : EM C W (tIf tt ta tb) env P := fun σ H Hd s e i Q k => h σ H Hd s e i _ fun b Hd1 H1 e1 e2 n1 i1 p => by
  have k1 := k.on e1 n1
  cases b with
  | true => exact h1 p σ H1 Hd1 (s.mono n1.1) e2 i1 Q k1
  | false => exact h2 p σ H1 Hd1 (s.mono n1.1) e2 i1 Q k1
/-! ### statements -/
theorem srm_ret (h : EM C W te env P) : SRM C W (tRet te) env P := fun σ H Hd s e i D k => h σ H Hd s e i _ k
theorem srm_of (h : SRet C t env d) (hp : P d) : SRM C W t env P := fun σ H Hd s e i D k => h σ H Hd s e D (k.toOK i hp)
theorem srm_asg {i : Nat} (h : EM C W te env P) (h2 : ∀ d, P d → SRM C W u (env.set i (some d)) R) : SRM C W (tSeq (tAsg te (gName i)) u) env R := fun σ H Hd s e ii D k =>
  h σ H Hd s e ii _ fun v Hd1 H1 d e1 e2 n1 i1 p1 r1 => h2 d p1 _ H1 Hd1 ((s.mono n1.1).set r1) e2 i1 D (k.on e1 n1)
theorem srm_seqR (h : SRM C W t env P) : SRM C W (tSeq t u) env P := fun σ H Hd s e i D k => h σ H Hd s e i { D with nx := u D } k
theorem srm_nx (h : SNx C t env env1) (h2 : SRM C W u env1 R) : SRM C W (tSeq t u) env R := fun σ H Hd s e i D k =>
  h σ H Hd s e { D with nx := u D } fun σ' Hd' H' e1 e2 n1 s1 => h2 σ' H' Hd' s1 e2 (W.st i e1 e2 n1) D (k.on (.of e1) (.of n1))
theorem srm_seq {Pn : Wl → En → Prop} (h : SNM C W t env Pn) (h2 : ∀ W' e', Pn W' e' → (∀ a, W'.M a ↔ W.M a) ∧ (∀ Hd H, W'.I Hd H → W.I Hd H) ∧ SRM C W' u e' R) (hb : ∀ W' e', Pn W' e' → ∀ Hd H, W'.I Hd H → W.I Hd H) : SRM C W (tSeq t u) env R := fun σ H Hd s e i D k =>
  h σ H Hd s e i { D with nx := u D } fun W' env' σ' Hd' H' p e1 e2 n1 i1 s1 => by
    obtain ⟨m, ib, h3⟩ := h2 W' env' p
    refine h3 σ' H' Hd' s1 e2 i1 D fun v Hd2 H2 d e3 e4 n2 i2 p2 r2 => ?_
    exact k v Hd2 H2 d (e1.trans (e3.weak fun a z => (m a).mp z)) e4 (n1.trans e1 (n2.weak fun a z => (m a).mp z)) (hb W' env' p _ _ i2) p2 r2
theorem srm_when (h : ET C tt env b) (h1 : b = true → SRM C W t env P) (h2 : b = false → SRM C W u env P) : SRM C W (tSeq (tIfS tt t tNext) u) env P := fun σ H Hd s e i D k => h σ H Hd s e _ fun H1 e1 => by
  have i1 := W.st i e1 (e.trans e1) (Nw.refl Hd H)
  have k1 := k.on (.of e1) (NwM.refl _ _ _)
  cases b with
  | true => exact h1 rfl σ H1 Hd s (e.trans e1) i1 { D with nx := u D } k1
  | false => exact h2 rfl σ H1 Hd s (e.trans e1) i1 D k1
theorem srm_if (h : ET C tt env b) (h1 : b = true → SRM C W t env P) (h2 : b = false → SRM C W u env P) : SRM C W (tIfS tt t u) env P := fun σ H Hd s e i D k => h σ H Hd s e _ fun H1 e1 => by
  have i1 := W.st i e1 (e.trans e1) (Nw.refl Hd H)
  have k1 := k.on (.of e1) (NwM.refl _ _ _)
  cases b with
  | true => exact h1 rfl σ H1 Hd s (e.trans e1) i1 D k1
  | false => exact h2 rfl σ H1 Hd s (e.trans e1) i1 D k1
theorem srm_weak (h : SRM C W t env P) (hl : env.length = env2.length) (hw : ∀ (i : Nat) (d : Sv), env[i]? = some (some d) → env2[i]? = some (some d)) : SRM C W t env2 P := fun σ H Hd s e i D k => h σ H Hd (s.weak hl hw) e i D k
/-! ### what may raise -/
theorem srx_of {E : XK} (h : SRM C W t env P) : SRX C W t env E (.ok P) := fun σ H Hd s e i D k => h σ H Hd s e i D k
/-- f(..) as a statement, that gives; that raises -/
theorem srx_ok {E : XK} {pre : List Sv → Out → Prop} {ta : TA} {ds : List Sv} {o : Out} (h : EA C ta env ds) (up : Up W W') (hp : pre ds (.ok P)) (h2 : SRX C W' u env E o) : SRX C W' (tSeq (tDrop (tCall (spX C W pre) [] E ta)) u) env E o := fun σ H Hd s e i D k =>
  h σ H Hd s e _ fun vs Hd1 H1 e1 e2 n1 r1 => by
    have i1 := W'.st i e1 e2 n1
    refine ⟨Hd1, ds, .ok P, e2, up.i i1, by rw [List.append_nil]; exact r1, hp, fun v Hd2 H2 d e3 e4 n2 i2 p2 r2 => ?_⟩
    exact h2 σ H2 Hd2 ((s.mono n1.1).mono n2.1) e4 (up.b i1 e3 e4 n2 i2) D ((k.on (.of e1) (.of n1)).on (e3.weak up.m) (n2.weak up.m))
theorem srx_er {E : XK} {pre : List Sv → Out → Prop} {ta : TA} {ds : List Sv} {c : Addr} (h : EA C ta env ds) (up : Up W W') (hp : pre ds (.er c)) : SRX C W' (tSeq (tDrop (tCall (spX C W pre) [] E ta)) u) env E (.er c) := fun σ H Hd s e i D k =>
  h σ H Hd s e _ fun vs Hd1 H1 e1 e2 n1 r1 => by
    have i1 := W'.st i e1 e2 n1
    exact ⟨Hd1, ds, .er c, e2, up.i i1, by rw [List.append_nil]; exact r1, hp, fun Hd2 H2 e3 e4 n2 i2 => k Hd2 H2 ((ExM.of e1).trans (e3.weak up.m)) e4 ((NwM.of n1).trans (.of e1) (n2.weak up.m)) (up.b i1 e3 e4 n2 i2)⟩
end
end K13

set_option Elab.async false
set_option linter.all false
set_option maxRecDepth 100000
set_option maxHeartbeats 4000000
/-! KX: an own exception over another own one over ValueError, whose __init__(self) says super().__init__(). -/
namespace K13
open PySem PySem.Spec PyProof.Rows L2 PySem.W PySem.Calls PySem.HandSPX
def xA (p1 : Pos) : Arguments := { posonlyargs := [], args := [{ arg := "self", annotation := none, pos := p1 }], vararg := none, kwonlyargs := [], kw_defaults := [], kwarg := none, defaults := [] }
def xB (q1 q2 q3 q4 q5 : Pos) : List Stmt := [.Expr (.Call (.Attribute (.Call (.Name "super" q1) [] [] q2) "__init__" q3) [] [] q4) q5]
def xS : Scope := { kind := .function, names := [(PySem.Str.ofString "self", .local), (PySem.Str.ofString "__class__", .free), (PySem.Str.ofString "super", .globalImplicit)], isGenerator := false, isCoroutine := false, more := [] }
/-- on one line: the call is a method's -/
def MEq (q1 q2 q3 q4 : Pos) : Prop := ∀ (q : Str) (L fI cda cc : Addr), ∃ pl : Sem Bool, eval (.Call (.Attribute (.Call (.Name "super" q1) [] [] q2) "__init__" q3) [] [] q4) (ksEnv q xS L fI (.ref cda) cc) = (do
  let ov ← attributeBase (.Call (.Name "super" q1) [] [] q2) "__init__" (ksEnv q xS L fI (.ref cda) cc) (eval (.Call (.Name "super" q1) [] [] q2) (ksEnv q xS L fI (.ref cda) cc))
  standAt q3.atName
  let (f, first) ← holding [ov] (getMethod ov "__init__" pl)
  callWith q4 f first (backTo q4 (starEach [] (ksEnv q xS L fI (.ref cda) cc))) [])
theorem meq_test : MEq ⟨34, 8, 34, 13⟩ ⟨34, 8, 34, 15⟩ ⟨34, 8, 34, 24⟩ ⟨34, 8, 34, 26⟩ := fun _ _ _ _ _ => ⟨_, rfl⟩
/-- what the written part says of such a class, at C -/
structure ExTxt (P : Program) (K : PySem.W.Frag) (mg : Str → Option Value) (nm : Str) (C : Addr) : Prop where
  gC : mg nm = some (.ref C)
  cls : ∃ nm q N bs bm sn sub ab col dd k0 k1 k2 k3 k5, K.lookup C = some (excClassObj nm q C N bs bm true sn sub ab col dd k0 k1 k2 k3 k5 "ValueError.__new__") ∧ refsVE bm = true ∧ alongIn K "__init__" bm = some (some (.builtin "ValueError.__init__"))
  kC : keepIn K (.ref C) = true
  exC : subIn K (.ref C) (.type "BaseException") = some true
  veC : subIn K (.ref C) (.type "ValueError") = some true
  tyC : typeIn K (.ref C) = some (.type "type")
  ini : ∃ (fI cc cda : Addr) (q : Str) (oc : Value) (od : Option Addr) (doc pm : Value) (an : Option Addr) (ct : Value) (osl : Array (Option Value)) (p1 q1 q2 q3 q4 q5 : Pos) (ccl : Value) (cdd : Option Addr) (vs : Array Value) (ccs : Array (Option Value)) (file : Str) (tf : Tok) (cl : Value) (cld : Option Addr) (csl : Array (Option Value)) (kV : Value),
    findIn K (.ref C) "__init__" = some (some (.ref fI)) ∧ typeIn K (.ref fI) = some (.type "function") ∧
    K.lookup fI = some ⟨oc, od, .func (ksFn "__init__" q (xA p1) (xB q1 q2 q3 q4 q5) xS .none kV doc pm an (.ref cda) ct cc), osl⟩ ∧ codeIn K (.ref cda) q = true ∧
    K.lookup cda = some ⟨ccl, cdd, .fields vs, ccs⟩ ∧ vs[2]? = some (.str file tf) ∧ ((P.main.file : Str) == file) = true ∧ K.lookup cc = some ⟨cl, cld, .cell (some (.ref C)), csl⟩ ∧ MEq q1 q2 q3 q4
  po : nsIn K cStatics "thirdparty.any" = some none
  sup : mg "super" = none
  top : (P.main.scope.names.lookup ("super" : Str)).isSome = false
theorem b_super : bootBuiltins "super" = some (.type "super") := by decide +kernel
section
variable {prog : Program} {w : World} {A : Around} {E : Value → Shared → Prop} {h : Heap} {g : Array GenState} {d : Drawn} {t : Nat} {os : OsState}
variable {nm q : Str} {C N : Addr} {bs bm : List Value} {hdct : Bool} {sn : List Str} {sub : List Value} {ab : Bool} {col : Option Bool} {dd : Option Addr} {k0 k1 k2 k3 k5 : Option Value}
/-- the bound __init__, called without more -/
theorem mw_call {u e t0 : Addr} {rest : List Value} {Q : Value → Shared → Prop} (hC : h.get? C = some (excClassObj nm q C N bs bm hdct sn sub ab col dd k0 k1 k2 k3 k5 "ValueError.__new__"))
    (he : h.get? e = some (excO C t0)) (hu : h.get? u = some (kxs_mw "ValueError.__init__" e)) (hl : rest.length ≤ sizeLine)
    (fin : ∀ h' t1, (∀ b o, b ≠ e → h.get? b = some o → h'.get? b = some o) → h'.get? e = some (excO C t1) → Q .none ⟨h', g, d, t, os⟩) : wpAny (model prog w) A (call (.ref u) rest) Q E ⟨h, g, d, t, os⟩ := by
  refine wpAny_call (codeAny_of_tree ?_)
  show wpAny _ A.in1 (callAny (.ref u) ⟨rest, []⟩) _ _ _
  simp only [callAny]
  refine wpAny_bind (wpAny_load hu ?_)
  have one : (Value.type "method-wrapper" == Value.type "method" || Value.type "method-wrapper" == Value.type "builtin_function_or_method" || Value.type "method-wrapper" == Value.type "method-wrapper") = true := by decide
  simp only [kxs_mw, one, if_true]
  refine KFB.if_so (by decide) ?_
  have FB := F.excBase_ValueError
  refine wpAny_bind (check_bound_init FB.toExcCallFacts hC he rfl ?_)
  refine wpAny_bind (wpAny_pure (wpAny_pure ?_))
  refine ⟨plainId_quiet FB.init.plain _, codeAny_builtin FB.initEntry ?_⟩
  exact exc_init_tree (cls := .ref C) (t0 := t0) (dv := none) (c2 := .none) (c3 := .none) (b4 := .bool false) he hl fun h' k e' _ => fin h' _ k e'
end
section
variable {prog : Program} {w : World} {A : Around} {E : Value → Shared → Prop} {R : Result → Shared → Prop} {s : Shared} {K : Frag} {mg : Str → Option Value} {nm : Str} {C : Addr} {base : Heap}
theorem kx_init (T : ExTxt prog K mg nm C) (M : L2.Mod K mg base) {fI : Addr} (hfI : findIn K (.ref C) "__init__" = some (some (.ref fI))) (hk : ∀ b o, base.get? b = some o → s.heap.get? b = some o) {x t0 : Addr} (hx : s.heap.get? x = some (excO C t0)) (hroom : A.depth < recursionLimit)
    (fin : ∀ h' tk t1, (∀ b o, b ≠ x → s.heap.get? b = some o → h'.get? b = some o) → h'.get? x = some (excO C t1) → R (.ok (.ret .none)) { s with heap := h', toks := tk }) :
    codeAny (model prog w) A (.call (.ref fI) ⟨[.ref x], []⟩) R s := by
  obtain ⟨fI', cc, cda, q, oc, od, doc, pm, an, ct, osl, p1, q1, q2, q3, q4, q5, ccl, cdd, vs, ccs, file, tf, cl, cld, csl, kV, i1, i2, i3, i4, i5, i6, i7, i8, i9⟩ := T.ini
  rw [hfI] at i1
  have ef := Option.some.inj (Option.some.inj i1)
  injection ef with ef
  subst ef
  obtain ⟨nm', q', N, bs, bm, sn, sub, ab, col, dd, k0, k1, k2, k3, k5, hC, hbm, hal⟩ := T.cls
  have hcl : clsIn K C = some { name := nm', bases := bs, mro := .ref C :: bm, ns := N, qualname := q', hasDict := true, slotNames := sn, subclasses := sub, abstract := ab, collection := col, hasDel := false } := by
    unfold clsIn
    rw [hC] <;> rfl
  have X0 : K.In s.heap := M.kin.keeps hk
  have hmr : mroIn K C (.ref C) = some true := by
    unfold mroIn
    rw [hcl, Option.bind_some, if_neg (show ¬ (List.isEmpty (Value.ref C :: bm) = true) from Bool.false_ne_true)]
    rw [show (Value.ref C :: bm).contains (.ref C) = true by rw [List.contains_cons]; simp]
  refine ks_codeAny_call_defAt (fd := ksFn "__init__" q (xA p1) (xB q1 q2 q3 q4 q5) xS .none kV doc pm an (.ref cda) ct cc) (body := xB q1 q2 q3 q4 q5) (binds := [("self", .ref x)]) hroom (X0 _ _ i3) rfl (M.nolimit.keeps hk) (codeRec_of X0 i4) rfl (BindsTo.of_eq (by first | rfl | with_unfolding_all rfl)) (show ∀ x ∈ xS.names, x.2 ≠ .cell by decide) (by intro y hy; rw [List.mem_singleton] at hy; subst hy; rfl) (fun h1 hns kk => ?_)
  have X1 : K.In h1 := X0.keeps kk
  have hb1 : ∀ b o, base.get? b = some o → h1.get? b = some o := fun b o z => kk b o (hk b o z)
  have hx1 := kk _ _ hx
  obtain ⟨mb, hmb, hmb2⟩ := M.blt
  obtain ⟨hp, gg, dr, tk, oss⟩ := s
  obtain ⟨pl, hpl⟩ := i9 q hp.objs.size fI cda cc
  refine ks_wpAt_execs_cons (ks_wpAt_Expr_any (ks_wpAt_MethodCall (pl := pl) ?_ hpl))
  refine ks_wpAt_super_base (env := ksEnv q xS hp.objs.size fI (.ref cda) cc) rfl rfl (by decide) rfl (X1 _ _ i3) rfl rfl rfl (X1 _ _ i5) rfl i6 i7 T.top ?_
  refine ks_loadName_global rfl rfl (loadGlobal_builtin (env := ksEnv q xS hp.objs.size fI (.ref cda) cc) (M.glob.keeps hb1) T.sup (hmb.keeps hb1) ((hmb2 "super" (by decide)).trans b_super) ⟨rfl, ?_⟩)
  refine wpAny_loadName_free rfl rfl rfl ⟨_, X1 _ _ i8, rfl⟩ ?_
  refine wpAny_loadName_local rfl rfl hns (by first | rfl | with_unfolding_all rfl | kernel_rfl) ?_
  refine ks_wpAny_isType_cls (X1 _ _ hC) rfl ⟨rfl, ?_⟩
  refine ks_wpAny_call_super (X1 _ _ hC) rfl hx1 rfl (fun c z => nomatch z) (looks_mroIn X1 hmr) (fun h2 e2 k2 => ?_)
  have X2 : K.In h2 := X1.keeps k2
  have hx2 := k2 _ _ hx1
  have hI2 : InstAt h2 x (excO C t0) C none := ⟨hx2, rfl, rfl, trivial⟩
  refine kxs_getMethod kxs_ValueError e2 (looks_opaque X2 T.po) (l₀ := .ref C :: bm) (l := bm) ((looks_clsIn X2 hcl).andThen .now) (by simp [List.dropWhile_cons]) X2 hal (hI2.type.andThen (looks_subIn X2 T.veC)) (fun z => ?_) (by decide) ?_
  · subst z
    have := X2 _ _ hC
    rw [hx2] at this
    cases this
  · refine kxs_callWith (i := "ValueError.__init__") (x := x) rfl (evalArgs_empty ?_)
    have up : ∀ b o, h2.get? b = some o → (h2.push (kxs_mw "ValueError.__init__" x)).get? b = some o := fun b o z => Heap.get?_push_of_some _ z
    have hu : (h2.push (kxs_mw "ValueError.__init__" x)).get? h2.objs.size = some (kxs_mw "ValueError.__init__" x) := Heap.get?_push_at rfl rfl
    refine ⟨hu, ?_⟩
    refine mw_call (up _ _ (X2 _ _ hC)) (up _ _ hx2) hu (Nat.zero_le _) fun h3 t1 k3 e3 => ?_
    show _root_.PySem.wpAt _ _ _ (execs [] _) _ _ _
    refine wpAt_of_wpAny (wpAny_execs_nil (fin h3 _ t1 (fun b o hb z => k3 b o hb (up b o (k2 b o (kk b o z)))) e3))
theorem kx_made (T : ExTxt prog K mg nm C) (M : L2.Mod K mg base) (hk : ∀ b o, base.get? b = some o → s.heap.get? b = some o) (hroom : A.depth + 1 < recursionLimit)
    (fin : ∀ h' tk e t1, (∀ b o, s.heap.get? b = some o → h'.get? b = some o) → s.heap.objs.size ≤ e → h'.get? e = some (excO C t1) → R (.ok (.ret (.ref e))) { s with heap := h', toks := tk }) :
    codeAny (model prog w) A (.call (.ref C) ⟨[], []⟩) R s := by
  obtain ⟨fI, cc, cda, q, oc, od, doc, pm, an, ct, osl, p1, q1, q2, q3, q4, q5, ccl, cdd, vs, ccs, file, tf, cl, cld, csl, kV, i1, i2, i3, i4, i5, i6, i7, i8, i9⟩ := T.ini
  obtain ⟨nm', q', N, bs, bm, sn, sub, ab, col, dd, k0, k1, k2, k3, k5, hC, hbm, hal⟩ := T.cls
  have X0 : K.In s.heap := M.kin.keeps hk
  obtain ⟨hp, gg, dr, tk, oss⟩ := s
  have k : ∀ b o, hp.get? b = some o → ((hp.push (kdv_tup [])).push (excO C hp.objs.size)).get? b = some o := fun b o z => Heap.get?_push_of_some _ (Heap.get?_push_of_some _ z)
  have hget : ((hp.push (kdv_tup [])).push (excO C hp.objs.size)).get? (hp.objs.size + 1) = some (excO C hp.objs.size) := by heap_get
  refine call_own F.excBase_ValueError (fun X => refsVE_contains X bm hbm) (X0 _ _ hC) (looks_findIn X0 i1) (fun self => bind_fn X0 self i2) (Nat.zero_le _) ?_
  refine kx_init (s := ⟨(hp.push (kdv_tup [])).push (excO C hp.objs.size), gg, dr, tk, oss⟩) T M i1 (fun b o z => k b o (hk b o z)) hget ?_ fun h' tk' t1 k' hx => ?_
  · show A.depth + 1 < recursionLimit
    exact hroom
  · exact ⟨rfl, fin h' tk' (hp.objs.size + 1) t1 (fun b o z => k' b o (Nat.ne_of_lt (Nat.lt_succ_of_lt (Heap.lt_size z))) (k b o z)) (Nat.le_succ _) hx⟩
end
section
variable {X : Cx} {C : Addr} {nm : Str}
/-- C(), told by its class alone -/
def tMkE (C : Addr) : L2.St → Hp → XK → Prop := fun _ H Q => Q (.ref C) none H
theorem pmk_ex {p pos : Pos} {k : Nat} (T : ExTxt X.prog X.K X.mg nm C) (hr : Room k X.A) (hg : Gl X nm) (hd : (nm == ("__debug__" : Str)) = false) : PMk X (.Call (.Name nm p) [] [] pos) (tMkE C) := by
  intro pins s σ H Q I h
  refine wpAny_Call_Name_kw (ld_glob I hg T.gC ?_ hd)
  refine callWith_K0 (first := []) I.kIn T.kC ?_
  have hk : ∀ b o, X.base.get? b = some o → s.heap.get? b = some o := I.bk
  have hm := I.mod
  obtain ⟨hp, gg, dr, tk, oss⟩ := s
  refine wpAny_call (kx_made T hm hk (by have := hr.dp; omega) fun h' tk' e t1 old big hx => ?_)
  show MkP X pins σ Q (.ref e) ⟨h', gg, dr, tk', oss⟩
  obtain ⟨G, g1, g2⟩ := restrict h' fun b => decide (b ≠ e)
  have gk : ∀ b, b ≠ e → G.get? b = h'.get? b := fun b hb => g1 b (decide_eq_true hb)
  have ge : G.get? e = none := g2 e (by simp)
  have oldG : ∀ b o, hp.get? b = some o → G.get? b = some o := fun b o z => (gk b (Nat.ne_of_lt (Nat.lt_of_lt_of_le (Heap.lt_size z) big))).trans (old b o z)
  have J : Inv X pins σ H ⟨G, gg, dr, tk', oss⟩ := I.kept (t' := tk') oldG
  refine ⟨e, excO C t1, _, ⟨G, gg, dr, tk', oss⟩, H, .ref C, none, rfl, J, fun b o z => ?_, ge, hx, ⟨rfl, rfl⟩, rfl, rfl, I.hok.fresh big, rfl, I.bare, raises_own T.exC T.tyC, h⟩
  by_cases hb : b = e
  · have z' : G.get? b = some o := z
    rw [hb, ge] at z'
    cases z'
  · exact (gk b hb).symm.trans z
end
end K13

set_option Elab.async false
set_option linter.all false
set_option maxRecDepth 100000
set_option maxHeartbeats 4000000
/-! KY: defs that may raise; the book of a net. -/
namespace K13
open PySem PySem.Spec PyProof.Rows L2
open Evl (Ex ex_l ex_t sq_of st_of sz_of sz_lt fresh_back)
section
variable {P : Program} {w : World} {K : PySem.W.Frag} {mg : Str → Option Value} {base : Heap}
/-- the body of a def, its end None -/
def FRX (C : CW) (W : Wl) (t : TS) (env : En) (E : XK) (o : Out) : Prop := ∀ (σ : L2.St) (H Hd : Hp), SO C Hd σ env → Ex Hd H → W.I Hd H → ∀ Q : VK, OKX C W Hd H o Q E → t { nx := fun _ H' => Q .non H', rt := Q } σ H
theorem frx_of {C : CW} {W : Wl} {t : TS} {env : En} {E : XK} {o : Out} (h : SRX C W t env E o) : FRX C W t env E o := fun σ H Hd s e i Q k => h σ H Hd s e i _ k
theorem frx_ok {C : CW} {W : Wl} {t : TS} {env : En} {E : XK} {R : Sv → Prop} (h : SRM C W t env R) : FRX C W t env E (.ok R) := fun σ H Hd s e i Q k => h σ H Hd s e i _ k
theorem calX {C : CW} {W : Wl} {x : Str} {st : Stmt} {N ps : List Str} {k : Nat} {pre : List Sv → Out → Prop} (F : DefAt K mg x st) (S : FnScope N ps (defScope st)) (hb : BindOk x st ps) (len : ∀ ds r, pre ds r → ds.length = ps.length)
    (body : ∀ (f : Addr) (cdv : Value) (A : Around) (outer : List Env) (s : Shared) (H : Hp) (E : XK), Room k (A.deeper (envOfC x (defScope st) s.heap.objs.size f cdv)) →
      ∃ t, PSs (cxOf (L2.CX P w) P w K mg base N x (defScope st) f cdv A outer s H E) (defBody st) t ∧ ∀ ds o, pre ds o → FRX C W t (startE N ds) E o) : Cal P w K mg base (L2.CX P w) (k + 1) x (spX C W pre) := by
  obtain ⟨f, fd, F, hm⟩ := F.ex
  refine ⟨f, fd, ps, F.okX S (fun vs H Q E h => ?_) fun cdv A outer s H vs Q E hr h => ?_, hm, F.kp, F.binds hb⟩
  · obtain ⟨Hd, ds, o, e, i, ra, hp, k⟩ := h
    rw [ra.length]
    exact len ds o hp
  · obtain ⟨Hd, ds, o, e, i, ra, hp, kk⟩ := h
    obtain ⟨t, ht, hq⟩ := body f cdv A outer s H E hr
    exact ⟨t, ht, hq ds o hp _ H Hd (SO.start ra) e i Q kk⟩
/-- in a world, raising nothing -/
theorem calM {C : CW} {W : Wl} {x : Str} {st : Stmt} {N ps : List Str} {k : Nat} {pre : List Sv → (Sv → Prop) → Prop} (F : DefAt K mg x st) (S : FnScope N ps (defScope st)) (hb : BindOk x st ps) (len : ∀ ds r, pre ds r → ds.length = ps.length)
    (body : ∀ (f : Addr) (cdv : Value) (A : Around) (outer : List Env) (s : Shared) (H : Hp) (E : XK), Room k (A.deeper (envOfC x (defScope st) s.heap.objs.size f cdv)) →
      ∃ t, PSs (cxOf CX0 P w K mg base N x (defScope st) f cdv A outer s H E).nox (defBody st) t ∧ ∀ ds R, pre ds R → SRM C W t (startE N ds) R) : Cal P w K mg base CX0 (k + 1) x (spM C W pre) := by
  refine cal_of F S hb (fun vs H Q E h => ?_) fun f cdv A outer s H vs Q E hr h => ?_
  · obtain ⟨Hd, ds, r, e, i, ra, hp, k⟩ := h
    rw [ra.length]
    exact len ds r hp
  · obtain ⟨Hd, ds, r, e, i, ra, hp, kk⟩ := h
    obtain ⟨t, ht, hq⟩ := body f cdv A outer s H E hr
    exact ⟨t, ht, hq ds r hp _ H Hd (SO.start ra) e i _ kk⟩
end
theorem ifs_of {C : CW} {tt : TT} {t u : TS} {env : En} {b : Bool} {σ : L2.St} {H Hd : Hp} {D : Ends} (h : ET C tt env b) (s : SO C Hd σ env) (e : Ex Hd H) (k : ∀ H2, Ex H H2 → if b = true then t D σ H2 else u D σ H2) : tIfS tt t u D σ H := h σ H Hd s e _ k
/-! ### checks -/
inductive pChkS (c : Addr) : List Sv → Out → Prop
  | ok (n : NetD) (d : Da) (h : NetOk n) (hs : isStand n d = true) : pChkS c [.net n, .d d] (.ok fun r => r = .d .non)
  | er (n : NetD) (d : Da) (h : NetOk n) (hs : isStand n d = false) : pChkS c [.net n, .d d] (.er c)
inductive pChkL (c : Addr) : List Sv → Out → Prop
  | ok (n : NetD) (d : Da) (hz : szT d) (hl : lotIn n d = true) : pChkL c [.net n, .d d] (.ok fun r => r = .d .non)
  | er (n : NetD) (d : Da) (hz : szT d) (hl : lotIn n d = false) : pChkL c [.net n, .d d] (.er c)
inductive pGrT (c : Addr) : List Sv → Out → Prop
  | ok (n : NetD) (l : List Nat) (h : NetOk n) (hl : LotP n.places l) : pGrT c [.net n, .d (lotD l)] (.ok fun _ => True)
  | er (n : NetD) (d : Da) (hz : szT d) (hl : lotIn n d = false) : pGrT c [.net n, .d d] (.er c)
inductive pGrS (c : Addr) : List Sv → Out → Prop
  | er (n : NetD) (d : Da) (hz : szT d) (hl : lotIn n d = false) : pGrS c [.net n, .d d] (.er c)
inductive pMrk (cl cs : Addr) : List Sv → Out → Prop
  | ok (n : NetD) (l st : List Nat) (h : NetOk n) (hl : LotP n.places l) (hs : st.length = n.places) : pMrk cl cs [.net n, .d (lotD l), .d (lotD st)] (.ok fun _ => True)
  | el (n : NetD) (d e : Da) (hz : szT d) (hl : lotIn n d = false) : pMrk cl cs [.net n, .d d, .d e] (.er cl)
  | es (n : NetD) (d e : Da) (h : NetOk n) (hz : szT d) (hl : lotIn n d = true) (hs : isStand n e = false) : pMrk cl cs [.net n, .d d, .d e] (.er cs)
theorem isStand_of {n : NetD} {st : List Nat} (h : st.length = n.places) : isStand n (lotD st) = true := by
  show (decide ((st.map fun (n : Nat) => Da.int (n : Int)).length = n.places) && (st.map fun (n : Nat) => Da.int (n : Int)).all isNumber) = true
  rw [List.length_map, decide_eq_true h, Bool.true_and, List.all_map, List.all_eq_true]
  intro x _
  show decide ((0 : Int) ≤ (x : Int)) = true
  exact decide_eq_true (by omega)
theorem szT_lot {p : Nat} {l : List Nat} (hp : p ≤ 10) (h : LotP p l) : szT (lotD l) := by
  show (l.map _).length ≤ 1000
  rw [List.length_map]
  have := lotP_len h
  omega
abbrev s_check_standing : Stmt := topS 21
theorem sc_check_standing : FnScope ["net", "standing"] ["net", "standing"] (defScope s_check_standing) := ⟨rfl, rfl, rfl, by decide +kernel, rfl, by decide +kernel, by decide +kernel⟩
abbrev s_check_lot : Stmt := topS 31
theorem sc_check_lot : FnScope ["net", "lot"] ["net", "lot"] (defScope s_check_lot) := ⟨rfl, rfl, rfl, by decide +kernel, rfl, by decide +kernel, by decide +kernel⟩
abbrev s_greatest_trap : Stmt := topS 39
theorem sc_greatest_trap : FnScope ["net", "lot", "found"] ["net", "lot"] (defScope s_greatest_trap) := ⟨rfl, rfl, rfl, by decide +kernel, rfl, by decide +kernel, by decide +kernel⟩
abbrev s_greatest_siphon : Stmt := topS 40
theorem sc_greatest_siphon : FnScope ["net", "lot", "found"] ["net", "lot"] (defScope s_greatest_siphon) := ⟨rfl, rfl, rfl, by decide +kernel, rfl, by decide +kernel, by decide +kernel⟩
abbrev s_marked : Stmt := topS 45
theorem sc_marked : FnScope ["net", "lot", "standing"] ["net", "lot", "standing"] (defScope s_marked) := ⟨rfl, rfl, rfl, by decide +kernel, rfl, by decide +kernel, by decide +kernel⟩
abbrev s_siphons_of : Stmt := topS 43
theorem sc_siphons_of : FnScope ["net", "lot"] ["net"] (defScope s_siphons_of) := ⟨rfl, rfl, rfl, by decide +kernel, rfl, by decide +kernel, by decide +kernel⟩
section
variable {P : Program} {w : World} {K : PySem.W.Frag} {mg : Str → Option Value} {base : Heap} {C : CW} {cl cs : Addr}
theorem ok_check_standing (B : Bt mg) (T : ExTxt P K mg "NoStanding" cs) (c_is_standing : Cal P w K mg base CX0 3 "is_standing" (spD C pStanding)) (F : DefAt K mg "check_standing" s_check_standing) : Cal P w K mg base (L2.CX P w) 4 "check_standing" (spX C W0 (pChkS cs)) := by
  refine calX F sc_check_standing (fun _ _ _ _ _ _ us hl => match us, hl with | [_, _], _ => rfl) (fun ds r h => by cases h <;> rfl) fun f cdv A outer s H E hr => ⟨_,
    pss_one (ps_if (pt_not (pt_val (pe_cal c_is_standing hr (by decide) rfl pass0 (pa_cons (pv 0) (pa_cons (pv 1) pa_nil))))) (pss_one (ps_raise rfl (takes_of rfl rfl rfl rfl) (pmk_ex T hr rfl (by decide)))) pss_nil), fun ds r h => ?_⟩
  intro σ H1 Hd so e i Q k
  cases h with
  | ok n d h hs =>
    refine ifs_of (et_not (et_B (ed_call (ea_cons (ed_var rfl) (ea_cons (ed_var rfl) ea_nil)) (.mk n d h)))) so e fun H2 e2 => ?_
    rw [hs]
    exact k .non Hd H2 (.d .non) (.of e2) (e.trans e2) (NwM.refl _ _ _) True.intro rfl (.d .non)
  | er n d h hs =>
    refine ifs_of (et_not (et_B (ed_call (ea_cons (ed_var rfl) (ea_cons (ed_var rfl) ea_nil)) (.mk n d h)))) so e fun H2 e2 => ?_
    rw [hs]
    exact k Hd H2 (.of e2) (e.trans e2) (NwM.refl _ _ _) True.intro
theorem ok_check_lot (B : Bt mg) (T : ExTxt P K mg "NoLot" cl) (c_lot_in : Cal P w K mg base CX0 4 "lot_in" (spD C pLotIn)) (F : DefAt K mg "check_lot" s_check_lot) : Cal P w K mg base (L2.CX P w) 5 "check_lot" (spX C W0 (pChkL cl)) := by
  refine calX F sc_check_lot (fun _ _ _ _ _ _ us hl => match us, hl with | [_, _], _ => rfl) (fun ds r h => by cases h <;> rfl) fun f cdv A outer s H E hr => ⟨_,
    pss_one (ps_if (pt_not (pt_val (pe_cal c_lot_in hr (by decide) rfl pass0 (pa_cons (pv 0) (pa_cons (pv 1) pa_nil))))) (pss_one (ps_raise rfl (takes_of rfl rfl rfl rfl) (pmk_ex T hr rfl (by decide)))) pss_nil), fun ds r h => ?_⟩
  intro σ H1 Hd so e i Q k
  cases h with
  | ok n d h hs =>
    refine ifs_of (et_not (et_B (ed_call (ea_cons (ed_var rfl) (ea_cons (ed_var rfl) ea_nil)) (.mk n d h)))) so e fun H2 e2 => ?_
    rw [hs]
    exact k .non Hd H2 (.d .non) (.of e2) (e.trans e2) (NwM.refl _ _ _) True.intro rfl (.d .non)
  | er n d h hs =>
    refine ifs_of (et_not (et_B (ed_call (ea_cons (ed_var rfl) (ea_cons (ed_var rfl) ea_nil)) (.mk n d h)))) so e fun H2 e2 => ?_
    rw [hs]
    exact k Hd H2 (.of e2) (e.trans e2) (NwM.refl _ _ _) True.intro
theorem ok_greatest_trap (B : Bt mg) (c_check_lot : Cal P w K mg base (L2.CX P w) 5 "check_lot" (spX C W0 (pChkL cl))) (c_trap_in : Cal P w K mg base CX0 3 "trap_in" (spD C pTrapIn)) (F : DefAt K mg "greatest_trap" s_greatest_trap) : Cal P w K mg base (L2.CX P w) 6 "greatest_trap" (spX C W0 (pGrT cl)) := by
  refine calX F sc_greatest_trap (fun _ _ _ _ _ _ us hl => match us, hl with | [_, _], _ => rfl) (fun ds r h => by cases h <;> rfl) fun f cdv A outer s H E hr => ⟨_,
    pss_cons (ps_expr (pe_cal c_check_lot hr (by decide) rfl (passes_call (takes_of rfl rfl rfl rfl) fun _ _ _ _ h => h) (pa_cons (pv 0) (pa_cons (pv 1) pa_nil)))) (PSs.nox (pss_cons (ps_set (i := 2) sc_greatest_trap.nd rfl (Or.inl rfl) (pe_cal c_trap_in hr (by decide) rfl pass0 (pa_cons (pv 0) (pa_cons (pv 1) pa_nil))))
      (pss_one (ps_ret (pe_ifExp (pt_cmpR op_gt (pe_callB (call_lenK K) (by rfl) B.len_ b_len (pa_cons (pv 2) pa_nil)) pe_int (nomark _)) (pv 2) pe_non))))), fun ds r h => frx_of ?_⟩
  cases h with
  | ok n l h hl =>
    refine srx_ok (ea_cons (ed_var rfl) (ea_cons (ed_var rfl) ea_nil)) (Up.refl _) (.ok n (lotD l) (szT_lot h.places hl) (lotIn_of hl)) (srx_of (srm_nx (sn_asg (ed_call (ea_cons (ed_var rfl) (ea_cons (ed_var rfl) ea_nil)) (.mk n l h (by have := lotP_len hl; have := h.places; omega)))) ?_))
    by_cases hb : (0 : Int) < ((trapIn n.deeds l).length : Int)
    · exact srm_of (sr_ret (ed_if (b := true) (et_test (ed_is (ed_op (ed_is (ed_cb (ea_cons (ed_var rfl) ea_nil) rc_len) (by rw [List.length_map])) ed_int rv_B0) (by rw [decide_eq_true hb]))) (fun _ => ed_var rfl) fun z => nomatch z)) True.intro
    · exact srm_of (sr_ret (ed_if (b := false) (et_test (ed_is (ed_op (ed_is (ed_cb (ea_cons (ed_var rfl) ea_nil) rc_len) (by rw [List.length_map])) ed_int rv_B0) (by rw [decide_eq_false hb]))) (fun z => nomatch z) fun _ => ed_non)) True.intro
  | er n d hz hl => exact srx_er (ea_cons (ed_var rfl) (ea_cons (ed_var rfl) ea_nil)) (Up.refl _) (.er n d hz hl)
theorem ok_greatest_siphon (B : Bt mg) (c_check_lot : Cal P w K mg base (L2.CX P w) 5 "check_lot" (spX C W0 (pChkL cl))) (F : DefAt K mg "greatest_siphon" s_greatest_siphon) : Cal P w K mg base (L2.CX P w) 6 "greatest_siphon" (spX C W0 (pGrS cl)) := by
  refine calX F sc_greatest_siphon (fun _ _ _ _ _ _ us hl => match us, hl with | [_, _], _ => rfl) (fun ds r h => by cases h; rfl) fun f cdv A outer s H E hr => ⟨_,
    pss_cons (ps_expr (pe_cal c_check_lot hr (by decide) rfl (passes_call (takes_of rfl rfl rfl rfl) fun _ _ _ _ h => h) (pa_cons (pv 0) (pa_cons (pv 1) pa_nil)))) (pss_cons ps_never (pss_one ps_never)), fun ds r h => frx_of ?_⟩
  cases h with
  | er n d hz hl => exact srx_er (ea_cons (ed_var rfl) (ea_cons (ed_var rfl) ea_nil)) (Up.refl _) (.er n d hz hl)
theorem ok_marked (B : Bt mg) (c_check_lot : Cal P w K mg base (L2.CX P w) 5 "check_lot" (spX C W0 (pChkL cl))) (c_check_standing : Cal P w K mg base (L2.CX P w) 4 "check_standing" (spX C W0 (pChkS cs))) (c_is_marked : Cal P w K mg base CX0 1 "is_marked" (spD C pMarked)) (F : DefAt K mg "marked" s_marked) : Cal P w K mg base (L2.CX P w) 6 "marked" (spX C W0 (pMrk cl cs)) := by
  refine calX F sc_marked (fun _ _ _ _ _ _ us hl => match us, hl with | [_, _, _], _ => rfl) (fun ds r h => by cases h <;> rfl) fun f cdv A outer s H E hr => ⟨_,
    pss_cons (ps_expr (pe_cal c_check_lot hr (by decide) rfl (passes_call (takes_of rfl rfl rfl rfl) fun _ _ _ _ h => h) (pa_cons (pv 0) (pa_cons (pv 1) pa_nil)))) (pss_cons (ps_expr (pe_cal c_check_standing hr (by decide) rfl (passes_call (takes_of rfl rfl rfl rfl) fun _ _ _ _ h => h) (pa_cons (pv 0) (pa_cons (pv 2) pa_nil)))) (PSs.nox (pss_one (ps_ret (pe_cal c_is_marked hr (by decide) rfl pass0 (pa_cons (pv 1) (pa_cons (pv 2) pa_nil))))))), fun ds r h => frx_of ?_⟩
  cases h with
  | ok n l st h hl hs =>
    exact srx_ok (ea_cons (ed_var rfl) (ea_cons (ed_var rfl) ea_nil)) (Up.refl _) (.ok n (lotD l) (szT_lot h.places hl) (lotIn_of hl)) (srx_ok (ea_cons (ed_var rfl) (ea_cons (ed_var rfl) ea_nil)) (Up.refl _) (.ok n (lotD st) h (isStand_of hs))
      (srx_of (srm_of (sr_ret (ed_call (ea_cons (ed_var rfl) (ea_cons (ed_var rfl) ea_nil)) (.mk l st (fun p hp => by rw [hs]; exact hl.1.2 p hp) (by have := lotP_len hl; have := h.places; omega)))) True.intro)))
  | el n d e hz hl => exact srx_er (ea_cons (ed_var rfl) (ea_cons (ed_var rfl) ea_nil)) (Up.refl _) (.er n d hz hl)
  | es n d e h hz hl hs => exact srx_ok (ea_cons (ed_var rfl) (ea_cons (ed_var rfl) ea_nil)) (Up.refl _) (.ok n d hz hl) (srx_er (ea_cons (ed_var rfl) (ea_cons (ed_var rfl) ea_nil)) (Up.refl _) (.er n e h hs))
end
end K13

set_option Elab.async false
set_option linter.all false
set_option maxRecDepth 100000
set_option maxHeartbeats 4000000
/-! KZ: the book; what lives. -/
namespace K13
open PySem PySem.Spec PyProof.Rows L2
open Evl (Ex ex_l ex_t sq_of st_of sz_of sz_lt fresh_back)
theorem room1 {k : Nat} {A : Around} (r : Room k A) : A.units + 1 < cLine := by
  have := r.un
  omega
/-- the book of the net at hand: empty, or its siphons -/
def LookI (C : CW) (Hd H : Hp) : Prop := Hd C.look = none ∧ (H C.look = some (.dK []) ∨ ∃ v, H C.look = some (.dK [(.inr "siphons", v)]) ∧ Rp Hd v (lotsT (siphonsOf C.n)))
theorem LookI.alive {C : CW} {Hd H : Hp} (i : LookI C Hd H) : H C.look ≠ none := by
  rcases i.2 with h | ⟨v, h, _⟩
  · rw [h]
    exact fun z => nomatch z
  · rw [h]
    exact fun z => nomatch z
theorem LookI.stay {C : CW} {Hd H Hd' H' : Hp} (i : LookI C Hd H) (e : Ex H H') (n : Nw Hd H Hd') : LookI C Hd' H' := by
  refine ⟨n.2 _ i.1 i.alive, ?_⟩
  rcases i.2 with h | ⟨v, h, r⟩
  · exact .inl (e _ _ h)
  · exact .inr ⟨v, e _ _ h, r.mono n.1⟩
def LK (C : CW) : Wl where
  M := fun a => a = C.look
  I := LookI C
  al := fun i e => by
    subst e
    exact ⟨i.alive, i.1⟩
  st := fun i e _ n => i.stay e n
  fr := fun i m _ => ⟨i.1, by
    rw [m _ rfl]
    exact i.2⟩
  gr := fun i m e _ => ⟨m _ rfl, by
    rcases i.2 with h | ⟨v, h, r⟩
    · exact .inl h
    · exact .inr ⟨v, h, r.mono e⟩⟩
inductive pSiphons (C : CW) : List Sv → (Sv → Prop) → Prop | mk (n : NetD) (h : NetOk n) : pSiphons C [.net n] fun r => r = .d (lotsT (siphonsOf n))
inductive pHeld : List Sv → (Sv → Prop) → Prop | mk (n : NetD) (st : List Nat) (d : Da) (h : NetOk n) (hs : st.length = n.places) (hz : sm 3 d) : pHeld [.net n, .d (lotD st), .d d] fun r => r = .d (.bl (heldB n st d))
inductive pDoomed : List Sv → Sv → Prop | mk (n : NetD) (st : List Nat) (d : Da) (h : NetOk n) (hs : st.length = n.places) (hz : szT d) : pDoomed [.net n, .d (lotD st), .d d] (.d (.bl (doomedB n st d)))
inductive pLivingB : List Sv → (Sv → Prop) → Prop | mk (n : NetD) (st : List Nat) (d : Da) (h : NetOk n) (hs : st.length = n.places) (hz : sm 4 d) : pLivingB [.net n, .d (lotD st), .d d] fun r => r = .d (.bl (livelyB n st d))
inductive pIsLively (cs : Addr) : List Sv → Out → Prop
  | ok (n : NetD) (st : List Nat) (d : Da) (h : NetOk n) (hs : st.length = n.places) (hz : sm 4 d) : pIsLively cs [.net n, .d (lotD st), .d d] (.ok fun r => r = .d (.bl (livelyB n st d)))
  | er (n : NetD) (d e : Da) (h : NetOk n) (hs : isStand n d = false) : pIsLively cs [.net n, .d d, .d e] (.er cs)
/-- what living says -/
def livingD (n : NetD) (st : List Nat) : Da := match (siphonsOf n).find? (fun s => !isMarked (trapIn n.deeds s) st) with
  | some s => .tup [.str "dies", lotD s]
  | none => .tup [.str "live", .tup ((siphonsOf n).map fun s => .tup [lotD s, lotD (trapIn n.deeds s)])]
inductive pLiving : List Sv → (Sv → Prop) → Prop | mk (n : NetD) (st : List Nat) (h : NetOk n) (hs : st.length = n.places) : pLiving [.net n, .d (lotD st)] fun r => r = .d (livingD n st)
inductive pLively (cs : Addr) : List Sv → Out → Prop
  | ok (n : NetD) (st : List Nat) (h : NetOk n) (hs : st.length = n.places) : pLively cs [.net n, .d (lotD st)] (.ok fun r => r = .d (livingD n st))
  | er (n : NetD) (d : Da) (h : NetOk n) (hs : isStand n d = false) : pLively cs [.net n, .d d] (.er cs)
inductive pRevived (cs : Addr) : List Sv → Out → Prop
  | er (n : NetD) (d : Da) (h : NetOk n) (hs : isStand n d = false) : pRevived cs [.net n, .d d] (.er cs)
abbrev s_are_held : Stmt := topS 49
theorem sc_are_held : FnScope ["net", "standing", "thing", "siphons", "siphon", "lot", "trap", "pair", "place"] ["net", "standing", "thing"] (defScope s_are_held) := ⟨rfl, rfl, rfl, by decide +kernel, rfl, by decide +kernel, by decide +kernel⟩
abbrev s_is_doomed : Stmt := topS 50
theorem sc_is_doomed : FnScope ["net", "standing", "thing"] ["net", "standing", "thing"] (defScope s_is_doomed) := ⟨rfl, rfl, rfl, by decide +kernel, rfl, by decide +kernel, by decide +kernel⟩
abbrev s_is_living : Stmt := topS 51
theorem sc_is_living : FnScope ["net", "standing", "thing"] ["net", "standing", "thing"] (defScope s_is_living) := ⟨rfl, rfl, rfl, by decide +kernel, rfl, by decide +kernel, by decide +kernel⟩
abbrev s_living : Stmt := topS 47
theorem sc_living : FnScope ["net", "standing", "pairs", "siphon", "trap"] ["net", "standing"] (defScope s_living) := ⟨rfl, rfl, rfl, by decide +kernel, rfl, by decide +kernel, by decide +kernel⟩
abbrev s_lively : Stmt := topS 48
theorem sc_lively : FnScope ["net", "standing"] ["net", "standing"] (defScope s_lively) := ⟨rfl, rfl, rfl, by decide +kernel, rfl, by decide +kernel, by decide +kernel⟩
abbrev s_is_lively : Stmt := topS 52
theorem sc_is_lively : FnScope ["net", "standing", "thing"] ["net", "standing", "thing"] (defScope s_is_lively) := ⟨rfl, rfl, rfl, by decide +kernel, rfl, by decide +kernel, by decide +kernel⟩
abbrev s_revived : Stmt := topS 57
theorem sc_revived : FnScope ["net", "standing", "lots", "siphon", "lot"] ["net", "standing"] (defScope s_revived) := ⟨rfl, rfl, rfl, by decide +kernel, rfl, by decide +kernel, by decide +kernel⟩
theorem siphons_le {n : NetD} (ok : NetOk n) : (siphonsOf n).length ≤ 1024 := by
  rw [← siphons_eq]
  unfold lawSiphons lawLeast
  exact Nat.le_trans (List.length_filter_le _ _) (Nat.le_trans (List.length_filter_le _ _) (lawAll_le ok.places))
def itm : Da → Nat → Da
  | .tup xs, k => xs.getD k .non
  | _, _ => .non
section
variable {P : Program} {w : World} {K : PySem.W.Frag} {mg : Str → Option Value} {base : Heap} {C : CW} {cl cs : Addr} {env : En} {te : TE}
theorem ed_looked {n : NetD} (hc : Cls K C.c) (hn : NoAttr K C.c "looked") (h : ED C te env (.net n)) : ED C (tFld K te "looked") env (.loc C.look) := fun σ H Hd s e Q k =>
  h σ H Hd s e _ fun v Hd1 H1 e1 e2 n1 r1 => by
    cases r1 with
    | net q g r => exact ⟨_, C.c, _, _, _, rfl, e2 _ _ g, hc, hn, rfl, (k.on e1 n1).here e2 (.loc _)⟩
section
variable {n : NetD} {i : Nat} {σ : L2.St} {H Hd : Hp} {z : Str}
theorem lk_at (hc : Cls K C.c) (hn : NoAttr K C.c "looked") (hv : env[i]? = some (some (.net n))) (so : SO C Hd σ env) (e : Ex Hd H) (Q : VK) (q : ∀ H2, Ex H H2 → Q (.ref C.look) H2) : tFld K (tVar i) "looked" σ H Q :=
  ed_looked hc hn (ed_var hv) σ H Hd so e Q fun v Hd' H2 e1 e2 n1 r => by
    cases r
    exact q H2 e1
theorem lk_get (hc : Cls K C.c) (hn : NoAttr K C.c "looked") (hv : env[i]? = some (some (.net n))) (so : SO C Hd σ env) (e : Ex Hd H) {D : Ends} (q : ∀ H2, Ex H H2 → ∃ v, DGet H2 C.look (.str z) (some v) ∧ D.rt v H2) : tRet (tDGet (tFld K (tVar i) "looked") (tC (.str z))) D σ H :=
  lk_at hc hn hv so e (fun x H1 => tC (.str z) σ H1 fun y H2 => ∃ a v, x = .ref a ∧ DGet H2 a y (some v) ∧ D.rt v H2) fun H2 e2 => by
    obtain ⟨v, h1, h2⟩ := q H2 e2
    exact ⟨C.look, v, rfl, h1, h2⟩
theorem lk_if (hc : Cls K C.c) (hn : NoAttr K C.c "looked") (hv : env[i]? = some (some (.net n))) (so : SO C Hd σ env) (e : Ex Hd H) {D : Ends} {t u : TS} (q : ∀ H2, Ex H H2 → ∃ o, DGet H2 C.look (.str z) o ∧ if (!o.isSome) = true then t D σ H2 else u D σ H2) : tIfS (tB (tDNotIn (tC (.str z)) (tFld K (tVar i) "looked"))) t u D σ H :=
  lk_at hc hn hv so e (fun x H2 => ∃ a o, x = .ref a ∧ DGet H2 a (.str z) o ∧ ∃ b, V.bl (!o.isSome) = .bl b ∧ if b = true then t D σ H2 else u D σ H2) fun H2 e2 => by
    obtain ⟨o, h1, h2⟩ := q H2 e2
    exact ⟨C.look, o, rfl, h1, _, rfl, h2⟩
theorem lk_put (hc : Cls K C.c) (hn : NoAttr K C.c "looked") (hv : env[i]? = some (some (.net n))) (so : SO C Hd σ env) (e : Ex Hd H) {D : Ends} {v : V} (q : ∀ H2, Ex H H2 → ∃ H3, DPut H2 C.look (.str z) v H3 ∧ D.nx σ H3) : (tFld K (tVar i) "looked") σ H (fun x H2 => tC (.str z) σ H2 fun y H3 => ∃ a H4, x = .ref a ∧ DPut H3 a y v H4 ∧ D.nx σ H4) :=
  lk_at hc hn hv so e _ fun H2 e2 => by
    obtain ⟨H3, h1, h2⟩ := q H2 e2
    exact ⟨C.look, H3, rfl, h1, h2⟩
end
theorem pTr {n : NetD} {d : Da} (e : d = lotD (lotOf d)) (ok : NetOk n) (hz : (lotOf d).length ≤ 1000) : pTrapIn [.net n, .d d] (.d (lotD (trapIn n.deeds (lotOf d)))) := by
  rw [e, lotOf_lotD]
  exact .mk n _ ok hz
theorem ok_siphons_of (B : Bt mg) (Z : Cls K C.c) (nL : NoAttr K C.c "looked") (c_all_lots : Cal P w K mg base CX0 1 "all_lots" (spD C pAllLots)) (c_keeps_siphon : Cal P w K mg base CX0 2 "keeps_siphon" (spD C pKeepsS)) (c_least_of : Cal P w K mg base CX0 1 "least_of" (spD C pLeastOf)) (F : DefAt K mg "siphons_of" s_siphons_of) : Cal P w K mg base CX0 3 "siphons_of" (spM C (LK C) (pSiphons C)) := by
  refine calM F sc_siphons_of (fun _ _ _ _ _ _ us hl => match us, hl with | [_], _ => rfl) (fun ds r h => by cases h; rfl) fun f cdv A outer s H E hr => ⟨_,
    (pss_cons (ps_if (pt_cmp (pc_dnotin (room1 hr) pe_str (pe_fldK K (pv 0) rfl))) (pss_one (ps_dput (room1 hr) (pe_fldK K (pv 0) rfl) pe_str (pe_cal c_least_of hr (by decide) rfl pass0 (pa_cons (pe_lc (own := [("lot", 1)]) rfl sc_siphons_of.nd (pi_listK K (pe_cal c_all_lots hr (by decide) rfl pass0 (pa_cons (pv 0) pa_nil))) (blkOk_by (by kernel_rfl)) (fun _ _ _ _ _ => pg_name (i := 1) sc_siphons_of.nd rfl (Or.inl rfl)) (fun _ _ _ _ _ => pts_one (pt_val (pe_cal c_keeps_siphon hr (by decide) rfl pass0 (pa_cons (pv 0) (pa_cons (pv 1) pa_nil))))) (fun _ _ _ _ _ => (pv 1))) pa_nil)) rfl)) pss_nil)
      (pss_one (ps_ret (pe_dget (room1 hr) (pe_fldK K (pv 0) rfl) pe_str (fun _ _ => rfl))))), fun ds r h => ?_⟩
  cases h with
  | mk n ok =>
    intro σ H Hd so e i D k
    have hn : n = C.n := by
      obtain ⟨v, h1, h2⟩ := so.get 0 (.net n) rfl
      cases h2 with
      | net q _ _ => exact q
    -- the last statement, the book filled
    have fin : ∀ {H2 Hd2 : Hp} {v : V}, SO C Hd2 σ (startE ["net", "lot"] [.net n]) → Ex Hd2 H2 → Hd2 C.look = none → H2 C.look = some (.dK [(.inr "siphons", v)]) → Rp Hd2 v (lotsT (siphonsOf C.n)) → ExM (LK C).M H H2 → NwM (LK C).M Hd H Hd2 → tRet (tDGet (tFld K (tVar 0) "looked") (tC (.str "siphons"))) D σ H2 := fun {H2 Hd2 v} so2 e2 hz hl hr he hnw => by
      refine lk_get Z nL rfl so2 e2 fun H3 e3 => ⟨v, DGet.k (k := .inr "siphons") (e3 _ _ hl), ?_⟩
      exact k v Hd2 H3 _ (he.trans (.of e3)) (e2.trans e3) hnw ⟨hz, .inr ⟨v, e3 _ _ hl, hr⟩⟩ rfl (.d (by rw [hn]; exact hr))
    refine lk_if Z nL rfl so e (D := { D with nx := _ }) fun H1 e1 => ?_
    rcases i.2 with h0 | ⟨v, h0, h1⟩
    · refine ⟨none, DGet.k (k := .inr "siphons") (e1 _ _ h0), ?_⟩
      rw [if_pos (show (!(none : Option V).isSome) = true from rfl)]
      have ex1 := e.trans e1
      refine ed_call (d := .d (lotsT (siphonsOf n))) (ea_cons (ed_lc (as := allLots n.places) (enc := lotD) lotD (fun l => keepsSiphon n.deeds l) _ (src_lst (ed_call (ea_cons (ed_var rfl) ea_nil) (.mk n ok))) (Nat.le_trans (allLots_le ok.places) (by decide)) (fun j h => h) _ (fun x _ => gd_name)
        (fun l _ => et_B (ed_call (ea_cons (ed_var rfl) (ea_cons (ed_var rfl) ea_nil)) (.mk _ _ ok))) (fun _ _ _ => ed_var rfl)) ea_nil) (.mk ((allLots n.places).filter fun l => keepsSiphon n.deeds l) (Nat.le_trans (List.length_filter_le _ _) (Nat.le_trans (allLots_le ok.places) (by decide))) (fun l hl => by
          have q := (mem_allLots _ _).mp (List.mem_filter.mp hl).1
          exact ⟨Nat.le_trans (lotP_len q) ok.places, q.2⟩)) σ H1 Hd so ex1 _ fun v Hd2 H2 e2 x2 n2 r2 => ?_
      cases r2 with
      | d r2 =>
        have hz2 : Hd2 C.look = none := n2.2 _ i.1 (by rw [e1 _ _ h0]; exact fun z => nomatch z)
        have so2 := so.mono n2.1
        refine lk_put Z nL rfl so2 x2 fun H3 e3 => ⟨_, DPut.k (k := .inr "siphons") (e3 _ _ (e2 _ _ (e1 _ _ h0))) (sz_lt (by decide)), ?_⟩
        refine fin (v := v) so2 (ex_mut (x2.trans e3) hz2) hz2 (by rw [upd_same]; rfl) (by rw [← hn]; exact r2) ?_ ?_
        · exact (ExM.of ((e1.trans e2).trans e3)).trans (.upd rfl)
        · exact (NwM.of (M := (LK C).M) (Nw.refl Hd H)).trans (.of e1) (.of n2)
    · refine ⟨some v, DGet.k (k := .inr "siphons") (e1 _ _ h0), ?_⟩
      rw [if_neg (show ¬ (!(some v).isSome) = true from Bool.false_ne_true)]
      exact fin so (e.trans e1) i.1 (e1 _ _ h0) h1 (.of e1) (NwM.refl _ _ _)
theorem ok_is_doomed (B : Bt mg) (c_is_siphon : Cal P w K mg base CX0 5 "is_siphon" (spD C pSiphon)) (c_is_marked : Cal P w K mg base CX0 1 "is_marked" (spD C pMarked)) (c_trap_in : Cal P w K mg base CX0 3 "trap_in" (spD C pTrapIn)) (F : DefAt K mg "is_doomed" s_is_doomed) : Cal P w K mg base CX0 6 "is_doomed" (spD C pDoomed) := by
  refine cal_pure F sc_is_doomed (fun _ _ _ _ _ _ us hl => match us, hl with | [_, _, _], _ => rfl) (fun ds r h => by cases h; rfl) fun f cdv A outer s H E hr => ⟨_,
    (pss_one (ps_ret (pe_and (pe_cal c_is_siphon hr (by decide) rfl pass0 (pa_cons (pv 0) (pa_cons (pv 2) pa_nil))) (pe_one (pe_not (pe_cal c_is_marked hr (by decide) rfl pass0 (pa_cons (pe_cal c_trap_in hr (by decide) rfl pass0 (pa_cons (pv 0) (pa_cons (pv 2) pa_nil))) (pa_cons (pv 1) pa_nil)))))))), fun ds r h => ?_⟩
  cases h with
  | mk n st d ok hs hz =>
    unfold doomedB
    cases hb : (lotIn n d && keepsSiphon n.deeds (lotOf d)) with
    | false => exact sr_ret (ed_is (ed_andV (c := false) (ed_call (ea_cons (ed_var rfl) (ea_cons (ed_var rfl) ea_nil)) (.mk n d ok hz)) fun z => by rw [hb] at z; cases z) (by rw [hb]; rfl))
    | true =>
      have hb2 := hb
      rw [Bool.and_eq_true] at hb2
      obtain ⟨e, hl⟩ := lotIn_iff hb2.1
      have hsub := trapIn_sub n.deeds (lotOf d)
      have hlen := lotP_len hl
      have hp := ok.places
      refine sr_ret (ed_is (ed_andV (c := !isMarked (trapIn n.deeds (lotOf d)) st) (ed_call (ea_cons (ed_var rfl) (ea_cons (ed_var rfl) ea_nil)) (.mk n d ok hz)) fun _ => ed_notV (ed_call (ea_cons (ed_call (ea_cons (ed_var rfl) (ea_cons (ed_var rfl) ea_nil)) (d := .d (lotD (trapIn n.deeds (lotOf d)))) (pTr e ok (by omega))) (ea_cons (ed_var rfl) ea_nil)) (.mk _ _ (fun p hp => by rw [hs]; exact hl.1.2 p (hsub.subset hp)) (by have := hsub.length_le; omega)))) (by rw [hb]))
/-! ### what is held -/
theorem tup2_of {p : Da} (h : isTuple p 2 2 = true) : ∃ l t, p = .tup [l, t] := by
  cases p with
  | tup xs =>
    have h2 : (decide ((2 : Int) ≤ (xs.length : Int)) && decide ((xs.length : Int) ≤ 2)) = true := h
    rw [Bool.and_eq_true, decide_eq_true_eq, decide_eq_true_eq] at h2
    match xs, h2 with
    | [l, t], _ => exact ⟨l, t, rfl⟩
    | [], h2 => exact absurd h2.1 (by decide)
    | [_], h2 => exact absurd h2.1 (by show ¬ (2 : Int) ≤ ((1 : Nat) : Int); decide)
    | _ :: _ :: _ :: r, h2 =>
      exfalso
      have := h2.2
      simp only [List.length_cons] at this
      omega
  | _ => cases h
theorem tupLen (ps : List Da) (k : Nat) : isTuple (.tup ps) (k : Int) (k : Int) = decide (ps.length = k) := by
  show (decide ((k : Int) ≤ (ps.length : Int)) && decide ((ps.length : Int) ≤ (k : Int))) = _
  rw [Bool.eq_iff_iff]
  simp
  omega
theorem pairB_tup {n : NetD} {st s : List Nat} {p : Da} (h : isTuple p 2 2 = false) : pairB n st s p = false := by
  cases p with
  | tup xs =>
    match xs with
    | [l, t] => cases h
    | [] => rfl
    | [_] => rfl
    | _ :: _ :: _ :: _ => rfl
  | _ => rfl
theorem zip_mem {S : List (List Nat)} {ps : List Da} {p : Da} (hl : ps.length = S.length) (hp : p ∈ ps) : ∃ s, (s, p) ∈ S.zip ps := by
  obtain ⟨i, hi, e⟩ := List.getElem_of_mem hp
  have hi2 : i < S.length := by omega
  refine ⟨S[i], List.mem_of_getElem? (i := i) ?_⟩
  rw [List.getElem?_zip_eq_some]
  exact ⟨List.getElem?_eq_getElem hi2, by rw [List.getElem?_eq_getElem hi, e]⟩
theorem ok_are_held (B : Bt mg) (c_siphons_of : Cal P w K mg base CX0 3 "siphons_of" (spM C (LK C) (pSiphons C))) (c_is_tuple : Cal P w K mg base CX0 1 "is_tuple" (spD C pTuple)) (c_is_siphon : Cal P w K mg base CX0 5 "is_siphon" (spD C pSiphon)) (c_is_trap : Cal P w K mg base CX0 5 "is_trap" (spD C pTrap)) (c_is_marked : Cal P w K mg base CX0 1 "is_marked" (spD C pMarked)) (F : DefAt K mg "are_held" s_are_held) : Cal P w K mg base CX0 6 "are_held" (spM C (LK C) pHeld) := by
  refine calM F sc_are_held (fun _ _ _ _ _ _ us hl => match us, hl with | [_, _, _], _ => rfl) (fun ds r h => by cases h; rfl) fun f cdv A outer s H E hr => ⟨_,
    (pss_cons (ps_set (i := 3) sc_are_held.nd rfl (Or.inl rfl) (pe_cal c_siphons_of hr (by decide) rfl pass0 (pa_cons (pv 0) pa_nil)))
      (pss_cons (ps_if (PW.pt (pw_or (pt_not (pt_val (pe_cal c_is_tuple hr (by decide) rfl pass0 (pa_cons (pv 2) (pa_cons (pe_callB (call_lenK K) (by rfl) B.len_ b_len (pa_cons (pv 3) pa_nil)) (pa_cons (pe_callB (call_lenK K) (by rfl) B.len_ b_len (pa_cons (pv 3) pa_nil)) pa_nil)))))) (pw_or1 (pt_not (pt_val (pe_callB (cr_allK K rfl) (by rfl) B.all_ b_all (pa_cons (pe_lc (own := [("pair", 7)]) rfl sc_are_held.nd (pi_tupK K (pv 2)) (blkOk_by (by kernel_rfl)) (fun _ _ _ _ _ => pg_name (i := 7) sc_are_held.nd rfl (Or.inl rfl)) (fun _ _ _ _ _ => pts_nil) (fun _ _ _ _ _ => (pe_cal c_is_tuple hr (by decide) rfl pass0 (pa_cons (pv 7) (pa_cons pe_int (pa_cons pe_int pa_nil)))))) pa_nil))))))) (pss_one (ps_ret pe_bl)) pss_nil)
      (pss_cons (ps_for PassesOwn.never rfl (pi_zipK K (by rfl) B.zip_ (pa_cons (pv 3) (pa_cons (pv 2) pa_nil))) (pg_tupK K (n := 2) rfl (pgs_cons (pg_name (i := 4) sc_are_held.nd rfl (Or.inr rfl)) (pgs_cons (pg_tupK K (n := 2) rfl (pgs_cons (pg_name (i := 5) sc_are_held.nd rfl (Or.inl rfl)) (pgs_cons (pg_name (i := 6) sc_are_held.nd rfl (Or.inl rfl)) pgs_nil))) pgs_nil))) (pss_cons (ps_if (PW.pt (pw_or (pt_not (pt_val (pe_cal c_is_siphon hr (by decide) rfl pass0 (pa_cons (pv 0) (pa_cons (pv 5) pa_nil))))) (pw_or (pt_cmpR (op_neK K hr.units) (pv 5) (pv 4) (nomark _)) (pw_or1 (pt_not (pt_val (pe_cal c_is_trap hr (by decide) rfl pass0 (pa_cons (pv 0) (pa_cons (pv 6) pa_nil))))))))) (pss_one (ps_ret pe_bl)) pss_nil)
      (pss_one (ps_if (PW.pt (pw_or (pt_not (pt_val (pe_callB (cr_allK K rfl) (by rfl) B.all_ b_all (pa_cons (pe_lc (own := [("place", 8)]) rfl sc_are_held.nd (pi_tupK K (pv 6)) (blkOk_by (by kernel_rfl)) (fun _ _ _ _ _ => pg_name (i := 8) sc_are_held.nd rfl (Or.inl rfl)) (fun _ _ _ _ _ => pts_nil) (fun _ _ _ _ _ => (pe_cmpR (op_inK K) (pv 8) (pv 4) rfl))) pa_nil)))) (pw_or1 (pt_not (pt_val (pe_cal c_is_marked hr (by decide) rfl pass0 (pa_cons (pv 6) (pa_cons (pv 1) pa_nil)))))))) (pss_one (ps_ret pe_bl)) pss_nil))))
      (pss_one (ps_ret pe_bl))))), fun ds r h => ?_⟩
  cases h with
  | mk n st d ok hs hz =>
    refine srm_asg (P := fun r => r = .d (lotsT (siphonsOf n))) (em_call (P1 := fun ds => ds = [.net n]) (eam_of (ea_cons (ed_var rfl) ea_nil) rfl) (Up.refl _) (fun ds e => by subst e; exact ⟨_, .mk n ok, fun _ h => h⟩)) fun dd hd => ?_
    subst hd
    refine srm_of (d := .d (.bl (heldB n st d))) ?_ rfl
    have hS : ∀ l, l ∈ siphonsOf n → LotP n.places l ∧ keepsSiphon n.deeds l = true := fun l hl => mem_siphons hl
    cases d with
    | tup ps =>
      by_cases hl : ps.length = (siphonsOf n).length
      · have eH : heldB n st (.tup ps) = ((siphonsOf n).zip ps).all fun q => pairB n st q.1 q.2 := by
          show (decide (ps.length = (siphonsOf n).length) && ((siphonsOf n).zip ps).all fun q => pairB n st q.1 q.2) = _
          rw [decide_eq_true hl, Bool.true_and]
        have et : isTuple (.tup ps) ((siphonsOf n).length : Int) ((siphonsOf n).length : Int) = true := by rw [tupLen, decide_eq_true hl]
        rw [eH]
        generalize hres : (((siphonsOf n).zip ps).all fun q => pairB n st q.1 q.2) = res
        refine sr_when (b := !(ps.all fun p => isTuple p 2 2)) (et_is (et_or (et_not (et_B (ed_call (ea_cons (ed_var rfl) (ea_cons (ed_is (ed_cb (ea_cons (ed_var rfl) ea_nil) rc_len) (by rw [List.length_map])) (ea_cons (ed_is (ed_cb (ea_cons (ed_var rfl) ea_nil) rc_len) (by rw [List.length_map])) ea_nil))) (.mk _ _ _)))) fun _ =>
          et_not (et_B (ed_all (g := fun p => isTuple p 2 2) (ed_lc0 (as := ps) (enc := fun x => x) _ _ (src_tupD (ed_var rfl)) (Nat.le_trans hz.1 (by decide)) (fun j h => h) _ (fun x _ => gd_name) (fun x _ => ed_call (ea_cons (ed_var rfl) (ea_cons ed_int (ea_cons ed_int ea_nil))) (.mk _ _ _)))))) (by rw [et]; rfl)) (fun hb => sr_ret (ed_is ed_bl ?_)) (fun hb => ?_)
        · have hb2 : (ps.all fun p => isTuple p 2 2) = false := (Bool.not_eq_true' _).mp hb
          obtain ⟨p, hp, hpf⟩ := List.all_eq_false.mp hb2
          obtain ⟨s, hsp⟩ := zip_mem hl hp
          rw [← hres, List.all_eq_false.mpr ⟨(s, p), hsp, by
            show ¬ pairB n st s p = true
            rw [pairB_tup (by simpa using hpf)]
            exact Bool.false_ne_true⟩]
        · have hb2 : (ps.all fun p => isTuple p 2 2) = true := (Bool.not_eq_false' _).mp hb
          have hpair : ∀ p, p ∈ ps → ∃ l t, p = .tup [l, t] := fun p hp => tup2_of (List.all_eq_true.mp hb2 p hp)
          refine sr_forB (js := [4] ++ ([5] ++ [6])) (as := (siphonsOf n).zip ps) (enc := fun q => Da.tup [lotD q.1, q.2]) (fun _ => [some (.net n), some (.d (lotD st)), some (.d (.tup ps)), some (.d (lotsT (siphonsOf n))), none, none, none, none, none]) (fun i => !pairB n st (((siphonsOf n).zip ps).getD i ([], .non)).1 (((siphonsOf n).zip ps).getD i ([], .non)).2) (fun _ q => [some (.net n), some (.d (lotD st)), some (.d (.tup ps)), some (.d (lotsT (siphonsOf n))), some (.d (lotD q.1)), some (.d (itm q.2 0)), some (.d (itm q.2 1)), none, none]) (fun i d hi => ?_) rfl
            (by rw [← zip_enc]; exact src_zip (ea_cons (ed_var rfl) (ea_cons (ed_var rfl) ea_nil))) (fun i q hi => ?_) (fun i q hi ho => ?_) (fun ho => ?_)
          · match i, hi with
            | 0, hi => exact hi
            | 1, hi => exact hi
            | 2, hi => exact hi
            | 3, hi => exact hi
            | 4, hi => exact nomatch (Option.some.inj hi)
            | 5, hi => exact nomatch (Option.some.inj hi)
            | 6, hi => exact nomatch (Option.some.inj hi)
            | 7, hi => exact nomatch (Option.some.inj hi)
            | 8, hi => exact nomatch (Option.some.inj hi)
            | k + 9, hi => exact nomatch hi
          · obtain ⟨s, p⟩ := q
            obtain ⟨l, t, rfl⟩ := hpair p (List.of_mem_zip (List.mem_of_getElem? hi)).2
            exact gd_tup2 gd_name (gd_tup2 gd_name gd_name)
          · obtain ⟨s, p⟩ := q
            have hmem := List.mem_of_getElem? hi
            obtain ⟨hsS, hpp⟩ := List.of_mem_zip hmem
            obtain ⟨hsp, hsk⟩ := hS s hsS
            have smp : sm 2 p := hz.2 p hpp
            obtain ⟨l, t, rfl⟩ := hpair p hpp
            have sml : szT l := sm_sz (smp.2 l (by simp))
            have smt : szT t := sm_sz (smp.2 t (by simp))
            rw [List.getD_eq_getElem?_getD, hi]
            show SB C _ [some (.net n), some (.d (lotD st)), some (.d (.tup ps)), some (.d (lotsT (siphonsOf n))), some (.d (lotD s)), some (.d l), some (.d t), none, none] (!pairB n st s (.tup [l, t])) _ _
            have hret : ∀ {l' t' : Da}, pairB n st s (.tup [l, t]) = false → SRet C (tRet (tC (.bl false))) [some (.net n), some (.d (lotD st)), some (.d (.tup ps)), some (.d (lotsT (siphonsOf n))), some (.d (lotD s)), some (.d l'), some (.d t'), none, none] (.d (.bl res)) := fun hf => by
              refine sr_ret (ed_is ed_bl ?_)
              rw [← hres, List.all_eq_false.mpr ⟨(s, _), hmem, by show ¬ pairB n st s _ = true; rw [hf]; exact Bool.false_ne_true⟩]
            have hweak : ∀ {l' t' : Da} (i : Nat) (d : Sv), [some (Sv.net n), some (.d (lotD st)), some (.d (.tup ps)), some (.d (lotsT (siphonsOf n))), none, none, none, none, none][i]? = some (some d) →
                [some (Sv.net n), some (.d (lotD st)), some (.d (.tup ps)), some (.d (lotsT (siphonsOf n))), some (.d (lotD s)), some (.d l'), some (.d t'), none, none][i]? = some (some d) := fun i d hi => by
              match i, hi with
              | 0, hi => exact hi
              | 1, hi => exact hi
              | 2, hi => exact hi
              | 3, hi => exact hi
              | 4, hi => exact nomatch (Option.some.inj hi)
              | 5, hi => exact nomatch (Option.some.inj hi)
              | 6, hi => exact nomatch (Option.some.inj hi)
              | 7, hi => exact nomatch (Option.some.inj hi)
              | 8, hi => exact nomatch (Option.some.inj hi)
              | k + 9, hi => exact nomatch hi
            have e0 : pairB n st s (.tup [l, t]) = ((lotIn n l && decide (lotOf l = s)) && ((lotIn n t && within (lotOf t) s) && (keepsTrap n.deeds (lotOf t) && isMarked (lotOf t) st))) := rfl
            cases h1 : (lotIn n l && keepsSiphon n.deeds (lotOf l)) with
            | false =>
              have hf : pairB n st s (.tup [l, t]) = false := by
                rw [e0]
                cases q1 : lotIn n l with
                | false => rfl
                | true =>
                  rw [q1, Bool.true_and] at h1
                  rw [decide_eq_false (fun z => by rw [z, hsk] at h1; cases h1)]
                  rfl
              exact sb_is (sb_when (c := false) (et_or (c := false) (et_not (et_B (ed_call (ea_cons (ed_var rfl) (ea_cons (ed_var rfl) ea_nil)) (.mk n l ok sml)))) fun z => by rw [h1] at z; cases z) (fun _ => hret hf) (fun z => by rw [h1] at z; cases z)) (by rw [h1, hf]; rfl)
            | true =>
              have h1' := h1
              rw [Bool.and_eq_true] at h1'
              obtain ⟨el, hla⟩ := lotIn_iff h1'.1
              generalize lotOf l = a at *
              subst el
              by_cases ha : a = s
              · subst ha
                cases h2 : (lotIn n t && keepsTrap n.deeds (lotOf t)) with
                | false =>
                  have hf : pairB n st a (.tup [lotD a, t]) = false := by
                    rw [e0]
                    cases q1 : lotIn n t with
                    | false => simp
                    | true =>
                      rw [q1, Bool.true_and] at h2
                      rw [h2]
                      simp
                  exact sb_is (sb_when (c := false) (et_or (et_not (et_B (ed_call (ea_cons (ed_var rfl) (ea_cons (ed_var rfl) ea_nil)) (.mk n (lotD a) ok sml)))) fun _ => et_or (et_test (ed_op (ed_var rfl) (ed_var rfl) rv_neLot)) fun _ => et_not (et_B (ed_call (ea_cons (ed_var rfl) (ea_cons (ed_var rfl) ea_nil)) (.mk n t ok smt)))) (fun _ => hret hf) (fun z => by rw [lotOf_lotD, h1, h2, decide_eq_true rfl] at z; cases z)) (by rw [h2, hf]; simp)
                | true =>
                  have h2' := h2
                  rw [Bool.and_eq_true] at h2'
                  obtain ⟨em, hm⟩ := lotIn_iff h2'.1
                  generalize lotOf t = m at *
                  subst em
                  have e2 : pairB n st a (.tup [lotD a, lotD m]) = (within m a && isMarked m st) := by
                    rw [e0, h2'.1, h2'.2, decide_eq_true rfl, lotIn_of hla]
                    simp
                  rw [e2]
                  refine sb_is (sb_when (b := false) (c := (!within m a || !isMarked m st)) (et_is (et_or (et_not (et_B (ed_call (ea_cons (ed_var rfl) (ea_cons (ed_var rfl) ea_nil)) (.mk n (lotD a) ok sml)))) fun _ => et_or (et_test (ed_op (ed_var rfl) (ed_var rfl) rv_neLot)) fun _ => et_not (et_B (ed_call (ea_cons (ed_var rfl) (ea_cons (ed_var rfl) ea_nil)) (.mk n (lotD m) ok smt)))) (by rw [lotOf_lotD, lotOf_lotD, h1, h2, decide_eq_true rfl]; rfl)) (fun z => nomatch z) fun _ => ?_) (by cases within m a <;> cases isMarked m st <;> rfl)
                  exact sb_last (et_or (et_not (et_B (ed_all (g := fun p => a.contains p) (ed_lc0 (as := m) (enc := fun (p : Nat) => Da.int (p : Int)) _ _ (src_tup (ed_var rfl)) (by have := lotP_len hm; have := ok.places; omega) (fun j h => h) _ (fun x _ => gd_name) (fun p _ => ed_op (ed_var rfl) (ed_var rfl) rv_inT))))) fun _ => et_not (et_B (ed_call (ea_cons (ed_var rfl) (ea_cons (ed_var rfl) ea_nil)) (.mk m st (fun p hp => by rw [hs]; exact hm.1.2 p hp) (by have := lotP_len hm; have := ok.places; omega)))))
                    (fun hb => hret (by rw [e2]; show (within m a && isMarked m st) = false; cases q1 : within m a <;> cases q2 : isMarked m st <;> first | rfl | (exfalso; have hb3 : (!within m a || !isMarked m st) = true := hb; rw [q1, q2] at hb3; cases hb3))) rfl hweak
              · have hf : pairB n st s (.tup [lotD a, t]) = false := by
                  rw [e0, decide_eq_false ha]
                  simp
                exact sb_is (sb_when (c := false) (et_or (et_not (et_B (ed_call (ea_cons (ed_var rfl) (ea_cons (ed_var rfl) ea_nil)) (.mk n (lotD a) ok sml)))) fun _ => et_or (c := false) (et_test (ed_op (ed_var rfl) (ed_var rfl) rv_neLot)) fun z => by rw [decide_eq_false ha] at z; cases z) (fun _ => hret hf) (fun z => by rw [decide_eq_false ha] at z; simp at z)) (by rw [decide_eq_false ha, hf]; simp)
          · refine sr_ret (ed_is ed_bl ?_)
            rw [← hres, List.all_eq_true.mpr fun q hq => ?_]
            obtain ⟨i, hi, hg⟩ := List.getElem_of_mem hq
            have z := ho i hi
            rw [List.getD_eq_getElem?_getD, List.getElem?_eq_getElem hi, hg] at z
            simpa using z
      · have et : isTuple (.tup ps) ((siphonsOf n).length : Int) ((siphonsOf n).length : Int) = false := by rw [tupLen, decide_eq_false hl]
        refine sr_when (b := true) (et_is (et_or (c := false) (et_not (et_B (ed_call (ea_cons (ed_var rfl) (ea_cons (ed_is (ed_cb (ea_cons (ed_var rfl) ea_nil) rc_len) (by rw [List.length_map])) (ea_cons (ed_is (ed_cb (ea_cons (ed_var rfl) ea_nil) rc_len) (by rw [List.length_map])) ea_nil))) (.mk _ _ _)))) fun z => by rw [et] at z; cases z) (by rw [et]; rfl)) (fun _ => sr_ret (ed_is ed_bl ?_)) fun z => nomatch z
        show Sv.d (.bl false) = .d (.bl (decide (ps.length = (siphonsOf n).length) && _))
        rw [decide_eq_false hl]
        rfl
    | _ => exact sr_when (b := true) (et_is (et_or (c := false) (et_not (et_B (ed_call (ea_cons (ed_var rfl) (ea_cons (ed_cb (ea_cons (ed_var rfl) ea_nil) rc_len) (ea_cons (ed_cb (ea_cons (ed_var rfl) ea_nil) rc_len) ea_nil))) (.mk _ _ _)))) fun z => nomatch z) rfl) (fun _ => sr_ret ed_bl) fun z => nomatch z
end
end K13

set_option Elab.async false
set_option linter.all false
set_option maxRecDepth 100000
set_option maxHeartbeats 4000000
/-! KZ2: living, lively and their judges. -/
namespace K13
open PySem PySem.Spec PyProof.Rows L2
open Evl (Ex ex_l ex_t sq_of st_of sz_of sz_lt fresh_back)
section
variable {C : CW} {K : PySem.W.Frag} {W : Wl} {env : En} {tl : TE} {xs : List Da} {wi : TI}
/-- what is walked, come by in a world -/
def SrcM (C : CW) (W : Wl) (wi : TI) (env : En) (P : List Da → Prop) : Prop := ∀ (σ : L2.St) (H Hd : Hp), SO C Hd σ env → Ex Hd H → W.I Hd H → ∀ R : It → Hp → Prop,
  (∀ J Hd' H' xs, P xs → ExM W.M H H' → Ex Hd' H' → NwM W.M Hd H Hd' → W.I Hd' H' → JS J Hd' xs → R J H') → wi σ H R
theorem js_tup {a : Addr} {us : List V} {Hd H : Hp} (g : Hd a = some (.tup us)) (l : RpL Hd us xs) : JS ({ go := fun i H => ∃ ys x, SqT K H a ys ∧ ys[i]? = some x, stop := fun i H => ∃ ys, SqT K H a ys ∧ ys.length ≤ i, yld := fun i H v H' => H' = H ∧ ∀ ys, SqT K H a ys → ys[i]? = some v } : It) Hd xs := fun Hd2 H2 e3 e4 i => ⟨fun x hx => by
  obtain ⟨w, hw, rw'⟩ := l.get hx
  refine ⟨⟨us, w, st_of (e4 _ _ (e3 _ _ g)), hw⟩, fun v H3 hy => ?_⟩
  obtain ⟨rfl, hy⟩ := hy
  have z := hy us (st_of (e4 _ _ (e3 _ _ g)))
  rw [hw] at z
  cases z
  exact ⟨Hd2, Ex.refl _, e4, Nw.refl _ _, rw'.mono e3⟩, fun hi => ⟨us, st_of (e4 _ _ (e3 _ _ g)), by rw [l.length]; exact hi⟩⟩
theorem srcM_tup {P : List Da → Prop} (h : EM C W tl env fun d => ∃ xs, d = .d (.tup xs) ∧ P xs) : SrcM C W (iTup K tl) env P := fun σ H Hd s e i R k => h σ H Hd s e i _ fun v Hd1 H1 d e1 e2 n1 i1 p1 r1 => by
  obtain ⟨xs, rfl, px⟩ := p1
  cases r1 with
  | d r1 =>
    cases r1 with
    | @tup a us _ g l =>
      refine ⟨a, rfl, ⟨us, st_of (e2 _ _ g)⟩, k _ Hd1 H1 xs px e1 e2 n1 i1 fun Hd2 H2 e3 e4 i => ⟨fun x hx => ?_, fun hi => ⟨us, st_of (e4 _ _ (e3 _ _ g)), by rw [l.length]; exact hi⟩⟩⟩
      obtain ⟨w, hw, rw'⟩ := l.get hx
      refine ⟨⟨us, w, st_of (e4 _ _ (e3 _ _ g)), hw⟩, fun v H3 hy => ?_⟩
      obtain ⟨rfl, hy⟩ := hy
      have z := hy us (st_of (e4 _ _ (e3 _ _ g)))
      rw [hw] at z
      cases z
      exact ⟨Hd2, Ex.refl _, e4, Nw.refl _ _, rw'.mono e3⟩
theorem srcM_of {P : List Da → Prop} (h : Src C wi env xs) (p : P xs) : SrcM C W wi env P := fun σ H Hd s e i R k => h σ H Hd s e R fun J Hd' H' e1 e2 n js => k J Hd' H' xs p (.of e1) e2 (.of n) (W.st i e1 e2 n) js
end
theorem for_src {C : CW} {W : Wl} {wi : TI} {env : En} {P : List Da → Prop} {g : TG} {tb : TS} {σ : L2.St} {H Hd : Hp} {D : Ends} (h : SrcM C W wi env P) (s : SO C Hd σ env) (e : Ex Hd H) (i : W.I Hd H)
    (k : ∀ J Hd' H' xs, P xs → ExM W.M H H' → Ex Hd' H' → NwM W.M Hd H Hd' → W.I Hd' H' → JS J Hd' xs → ∃ V : Nat → Nat → L2.St → Hp → Prop, (∃ m, V 0 m σ H') ∧ ∀ i m σ H, V i m σ H →
      (J.stop i H ∧ D.nx σ H) ∨ (J.go i H ∧ ∃ N : L2.St → Hp → Prop, (∀ σ' H', N σ' H' → ∃ m', m' < m ∧ V (i + 1) m' σ' H') ∧ ∀ x H', J.yld i H x H' → g x σ H' fun σ2 H2 => tb { D with nx := N, ct := N, bk := D.nx } σ2 H2)) : tFor wi g tb D σ H := h σ H Hd s e i _ k
theorem for_srcS {C : CW} {W : Wl} {wi : TI} {env : En} {P : List Da → Prop} {g : TG} {tb u : TS} {σ : L2.St} {H Hd : Hp} {D : Ends} (h : SrcM C W wi env P) (s : SO C Hd σ env) (e : Ex Hd H) (i : W.I Hd H)
    (k : ∀ D1 : Ends, D1.nx = u D → D1.rt = D.rt → ∀ J Hd' H' xs, P xs → ExM W.M H H' → Ex Hd' H' → NwM W.M Hd H Hd' → W.I Hd' H' → JS J Hd' xs → ∃ V : Nat → Nat → L2.St → Hp → Prop, (∃ m, V 0 m σ H') ∧ ∀ i m σ H, V i m σ H →
      (J.stop i H ∧ D1.nx σ H) ∨ (J.go i H ∧ ∃ N : L2.St → Hp → Prop, (∀ σ' H', N σ' H' → ∃ m', m' < m ∧ V (i + 1) m' σ' H') ∧ ∀ x H', J.yld i H x H' → g x σ H' fun σ2 H2 => tb { D1 with nx := N, ct := N, bk := D1.nx } σ2 H2)) : tSeq (tFor wi g tb) u D σ H := for_src (D := { D with nx := u D }) h s e i (k { D with nx := u D } rfl rfl)
theorem livelyB_living (n : NetD) (st : List Nat) : livelyB n st (livingD n st) = true := by
  unfold livingD
  cases h : (siphonsOf n).find? (fun s => !isMarked (trapIn n.deeds s) st) with
  | some s =>
    have hm := List.find?_some h
    obtain ⟨hl, hk⟩ := mem_siphons (List.mem_of_find?_eq_some h)
    show (if ("dies" : Str) = ("live" : Str) then heldB n st (lotD s) else decide (("dies" : Str) = ("dies" : Str)) && doomedB n st (lotD s)) = true
    rw [if_neg (by decide), decide_eq_true rfl, Bool.true_and]
    unfold doomedB
    rw [lotIn_of hl, lotOf_lotD, hk]
    exact hm
  | none =>
    have hm := List.find?_eq_none.mp h
    show (if ("live" : Str) = ("live" : Str) then heldB n st (.tup ((siphonsOf n).map fun s => .tup [lotD s, lotD (trapIn n.deeds s)])) else decide (("live" : Str) = ("dies" : Str)) && doomedB n st (.tup ((siphonsOf n).map fun s => .tup [lotD s, lotD (trapIn n.deeds s)]))) = true
    rw [if_pos rfl]
    show (decide (((siphonsOf n).map fun s => Da.tup [lotD s, lotD (trapIn n.deeds s)]).length = (siphonsOf n).length) && ((siphonsOf n).zip ((siphonsOf n).map fun s => Da.tup [lotD s, lotD (trapIn n.deeds s)])).all fun q => pairB n st q.1 q.2) = true
    rw [List.length_map, decide_eq_true rfl, Bool.true_and, List.all_eq_true]
    rintro ⟨s, p⟩ hq
    obtain ⟨i, hi⟩ := List.mem_iff_getElem?.mp hq
    rw [List.getElem?_zip_eq_some, List.getElem?_map] at hi
    obtain ⟨h1, h2⟩ := hi
    rw [h1] at h2
    have e : Da.tup [lotD s, lotD (trapIn n.deeds s)] = p := Option.some.inj h2
    subst e
    have hs := List.mem_of_getElem? h1
    obtain ⟨hl, hk⟩ := mem_siphons hs
    have hmk : isMarked (trapIn n.deeds s) st = true := by simpa using hm s hs
    have hsub := trapIn_sub n.deeds s
    have hne : trapIn n.deeds s ≠ [] := fun z => by
      rw [z] at hmk
      cases hmk
    have hlt : LotP n.places (trapIn n.deeds s) := ⟨⟨hl.1.1.sublist hsub, fun x hx => hl.1.2 x (hsub.subset hx)⟩, hne⟩
    show ((lotIn n (lotD s) && decide (lotOf (lotD s) = s)) && ((lotIn n (lotD (trapIn n.deeds s)) && within (lotOf (lotD (trapIn n.deeds s))) s) && (keepsTrap n.deeds (lotOf (lotD (trapIn n.deeds s))) && isMarked (lotOf (lotD (trapIn n.deeds s))) st))) = true
    rw [lotOf_lotD, lotOf_lotD, lotIn_of hl, lotIn_of hlt, decide_eq_true rfl, trapIn_keeps, hmk, within_iff.mpr fun x hx => hsub.subset hx]
    rfl
section
variable {P : Program} {w : World} {K : PySem.W.Frag} {mg : Str → Option Value} {base : Heap} {C : CW} {cl cs : Addr} {env : En} {te : TE}
theorem ok_is_living (B : Bt mg) (c_is_tuple : Cal P w K mg base CX0 1 "is_tuple" (spD C pTuple)) (c_are_held : Cal P w K mg base CX0 6 "are_held" (spM C (LK C) pHeld)) (c_is_doomed : Cal P w K mg base CX0 6 "is_doomed" (spD C pDoomed)) (F : DefAt K mg "is_living" s_is_living) : Cal P w K mg base CX0 7 "is_living" (spM C (LK C) pLivingB) := by
  refine calM F sc_is_living (fun _ _ _ _ _ _ us hl => match us, hl with | [_, _, _], _ => rfl) (fun ds r h => by cases h; rfl) fun f cdv A outer s H E hr => ⟨_,
    (pss_cons (ps_if (PW.pt (pw_or (pt_not (pt_val (pe_cal c_is_tuple hr (by decide) rfl pass0 (pa_cons (pv 2) (pa_cons pe_int (pa_cons pe_int pa_nil)))))) (pw_or1 (pt_not (pt_val (pe_callB (call_isiK' K) (by rfl) B.isinstance_ b_isinstance (pa_cons (pe_ix (ix_tupK K) (pv 2) pe_int (fun _ _ => rfl)) (pa_cons (pe_bltn (v := .ty "str") (by rfl) B.str_ b_str rfl) pa_nil)))))))) (pss_one (ps_ret pe_bl)) pss_nil)
      (pss_cons (ps_if (pt_cmpR op_eq (pe_ix (ix_tupK K) (pv 2) pe_int (fun _ _ => rfl)) pe_str (nomark _)) (pss_one (ps_ret (pe_cal c_are_held hr (by decide) rfl pass0 (pa_cons (pv 0) (pa_cons (pv 1) (pa_cons (pe_ix (ix_tupK K) (pv 2) pe_int (fun _ _ => rfl)) pa_nil)))))) pss_nil)
      (pss_one (ps_ret (pe_and (pe_cmpR op_eq (pe_ix (ix_tupK K) (pv 2) pe_int (fun _ _ => rfl)) pe_str (nomark _)) (pe_one (pe_cal c_is_doomed hr (by decide) rfl pass0 (pa_cons (pv 0) (pa_cons (pv 1) (pa_cons (pe_ix (ix_tupK K) (pv 2) pe_int (fun _ _ => rfl)) pa_nil)))))))))), fun ds r h => ?_⟩
  cases h with
  | mk n st d ok hs hz =>
    cases d with
    | tup xs =>
      by_cases hx2 : xs.length = 2
      · obtain ⟨a, x, rfl⟩ : ∃ a x, xs = [a, x] := by
          match xs, hx2 with
          | [a, x], _ => exact ⟨a, x, rfl⟩
        have smx : sm 3 x := hz.2 x (by simp)
        cases a with
        | str w =>
          refine srm_when (b := false) (et_is (et_or (et_not (et_B (ed_call (ea_cons (ed_var rfl) (ea_cons ed_int (ea_cons ed_int ea_nil))) (.mk _ _ _)))) fun _ => et_not (et_B (ed_cb (ea_cons (ed_op (ed_var rfl) ed_int (rv_ixT (j := 0) rfl rfl)) (ea_cons ed_ty ea_nil)) rc_isS))) rfl) (fun z => nomatch z) fun _ => ?_
          refine srm_when (b := decide (w = ("live" : Str))) (et_test (ed_op (ed_op (ed_var rfl) ed_int (rv_ixT (j := 0) rfl rfl)) ed_str rv_eqS)) (fun hb => ?_) (fun hb => ?_)
          · have eL : livelyB n st (.tup [.str w, x]) = heldB n st x := by
              show (if w = ("live" : Str) then heldB n st x else _) = _
              rw [if_pos (of_decide_eq_true hb)]
            rw [eL]
            exact srm_ret (em_call (P1 := fun ds => ds = [.net n, .d (lotD st), .d x]) (eam_of (ea_cons (ed_var rfl) (ea_cons (ed_var rfl) (ea_cons (ed_op (ed_var rfl) ed_int (rv_ixT (j := 1) rfl rfl)) ea_nil))) rfl) (Up.refl _) fun ds e => by subst e; exact ⟨_, .mk n st x ok hs smx, fun _ h => h⟩)
          · have eL : livelyB n st (.tup [.str w, x]) = (decide (w = ("dies" : Str)) && doomedB n st x) := by
              show (if w = ("live" : Str) then heldB n st x else _) = _
              rw [if_neg (of_decide_eq_false hb)]
            rw [eL]
            exact srm_of (sr_ret (ed_andV (ed_op (ed_op (ed_var rfl) ed_int (rv_ixT (j := 0) rfl rfl)) ed_str rv_eqS) fun _ => ed_call (ea_cons (ed_var rfl) (ea_cons (ed_var rfl) (ea_cons (ed_op (ed_var rfl) ed_int (rv_ixT (j := 1) rfl rfl)) ea_nil))) (.mk n st x ok hs (sm_sz smx)))) rfl
        | _ => exact srm_of (sr_when (b := true) (et_is (et_or (et_not (et_B (ed_call (ea_cons (ed_var rfl) (ea_cons ed_int (ea_cons ed_int ea_nil))) (.mk _ _ _)))) fun _ => et_not (et_B (ed_cb (ea_cons (ed_op (ed_var rfl) ed_int (rv_ixT (j := 0) rfl rfl)) (ea_cons ed_ty ea_nil)) rc_isS))) rfl) (fun _ => sr_ret ed_bl) (fun z => nomatch z)) rfl
      · have hf : livelyB n st (.tup xs) = false := by
          match xs, hx2 with
          | [], _ => rfl
          | [.str _], _ => rfl
          | [.non], _ => rfl
          | [.bl _], _ => rfl
          | [.int _], _ => rfl
          | [.tup _], _ => rfl
          | [.lst _], _ => rfl
          | [.dic], _ => rfl
          | .str _ :: _ :: _ :: _, _ => rfl
          | .non :: _ :: _ :: _, _ => rfl
          | .bl _ :: _ :: _ :: _, _ => rfl
          | .int _ :: _ :: _ :: _, _ => rfl
          | .tup _ :: _ :: _ :: _, _ => rfl
          | .lst _ :: _ :: _ :: _, _ => rfl
          | .dic :: _ :: _ :: _, _ => rfl
        rw [hf]
        have et : isTuple (.tup xs) 2 2 = false := by
          have := tupLen xs 2
          rw [decide_eq_false hx2] at this
          exact this
        exact srm_of (sr_when (b := true) (et_is (et_or (c := false) (et_not (et_B (ed_call (ea_cons (ed_var rfl) (ea_cons ed_int (ea_cons ed_int ea_nil))) (.mk _ _ _)))) fun z => by rw [et] at z; cases z) (by rw [et]; rfl)) (fun _ => sr_ret ed_bl) (fun z => nomatch z)) rfl
    | _ => exact srm_of (sr_when (b := true) (et_is (et_or (c := false) (et_not (et_B (ed_call (ea_cons (ed_var rfl) (ea_cons ed_int (ea_cons ed_int ea_nil))) (.mk _ _ _)))) fun z => nomatch z) rfl) (fun _ => sr_ret ed_bl) (fun z => nomatch z)) rfl
theorem ok_is_lively (B : Bt mg) (c_check_standing : Cal P w K mg base (L2.CX P w) 4 "check_standing" (spX C W0 (pChkS cs))) (c_is_living : Cal P w K mg base CX0 7 "is_living" (spM C (LK C) pLivingB)) (F : DefAt K mg "is_lively" s_is_lively) : Cal P w K mg base (L2.CX P w) 8 "is_lively" (spX C (LK C) (pIsLively cs)) := by
  refine calX F sc_is_lively (fun _ _ _ _ _ _ us hl => match us, hl with | [_, _, _], _ => rfl) (fun ds r h => by cases h <;> rfl) fun f cdv A outer s H E hr => ⟨_,
    pss_cons (ps_expr (pe_cal c_check_standing hr (by decide) rfl (passes_call (takes_of rfl rfl rfl rfl) fun _ _ _ _ h => h) (pa_cons (pv 0) (pa_cons (pv 1) pa_nil)))) (PSs.nox (pss_one (ps_ret (pe_cal c_is_living hr (by decide) rfl pass0 (pa_cons (pv 0) (pa_cons (pv 1) (pa_cons (pv 2) pa_nil))))))), fun ds r h => frx_of ?_⟩
  cases h with
  | ok n st d h hs hz =>
    exact srx_ok (ea_cons (ed_var rfl) (ea_cons (ed_var rfl) ea_nil)) (Up.w0 _) (.ok n (lotD st) h (isStand_of hs)) (srx_of (srm_ret (em_call (P1 := fun ds => ds = [.net n, .d (lotD st), .d d]) (eam_of (ea_cons (ed_var rfl) (ea_cons (ed_var rfl) (ea_cons (ed_var rfl) ea_nil))) rfl) (Up.refl _) fun ds e => by subst e; exact ⟨_, .mk n st d h hs hz, fun _ h => h⟩)))
  | er n d e h hs => exact srx_er (ea_cons (ed_var rfl) (ea_cons (ed_var rfl) ea_nil)) (Up.w0 _) (.er n d h hs)
theorem ok_living (B : Bt mg) (c_siphons_of : Cal P w K mg base CX0 3 "siphons_of" (spM C (LK C) (pSiphons C))) (c_trap_in : Cal P w K mg base CX0 3 "trap_in" (spD C pTrapIn)) (c_is_marked : Cal P w K mg base CX0 1 "is_marked" (spD C pMarked)) (F : DefAt K mg "living" s_living) : Cal P w K mg base CX0 4 "living" (spM C (LK C) pLiving) := by
  refine calM F sc_living (fun _ _ _ _ _ _ us hl => match us, hl with | [_, _], _ => rfl) (fun ds r h => by cases h; rfl) fun f cdv A outer s H E hr => ⟨_,
    (pss_cons (ps_set (i := 2) sc_living.nd rfl (Or.inl rfl) (pe_lst pa_nil))
      (pss_cons (ps_for PassesOwn.never rfl (pi_tupK K (pe_cal c_siphons_of hr (by decide) rfl pass0 (pa_cons (pv 0) pa_nil))) (pg_name (i := 3) sc_living.nd rfl (Or.inl rfl)) (pss_cons (ps_set (i := 4) sc_living.nd rfl (Or.inl rfl) (pe_cal c_trap_in hr (by decide) rfl pass0 (pa_cons (pv 0) (pa_cons (pv 3) pa_nil))))
      (pss_cons (ps_if (pt_not (pt_val (pe_cal c_is_marked hr (by decide) rfl pass0 (pa_cons (pv 4) (pa_cons (pv 1) pa_nil))))) (pss_one (ps_ret (pe_tup (pa_cons pe_str (pa_cons (pv 3) pa_nil))))) pss_nil)
      (pss_one (ps_expr (pe_bm PySem.F.plainAttrs_list PySem.F.slot_list_append PySem.F.type_list_append mt_append (pv 2) (pa_cons (pe_tup (pa_cons (pv 3) (pa_cons (pv 4) pa_nil))) pa_nil)))))))
      (pss_one (ps_ret (pe_tup (pa_cons pe_str (pa_cons (pe_callTy (call_tupK K) (by rfl) B.tuple_ b_tuple (pa_cons (pv 2) pa_nil)) pa_nil))))))), fun ds r h => ?_⟩
  cases h with
  | mk n st ok hs =>
    intro σ H Hd so e i D k
    refine ⟨Nat.zero_le _, fun l hl => ?_⟩
    have hdl : Hd l = none := fresh_back e hl
    have i0 : LookI C Hd (upd H l (.lst [])) := i.stay (Ex.new hl) (Nw.refl _ _)
    have nl : l ≠ C.look := fun z => i.alive (by rw [← z]; exact hl)
    have hle := siphons_le ok
    have so0 : SO C Hd (σ.set 2 (some (.ref l))) [some (.net n), some (.d (lotD st)), none, none, none] := so.forget (i := 2)
    show tSeq _ _ D (σ.set 2 (some (.ref l))) (upd H l (.lst []))
    refine for_srcS (W := LK C) (P := fun xs => xs = (siphonsOf n).map lotD) (srcM_tup (em_call (P1 := fun ds => ds = [.net n]) (eam_of (ea_cons (ed_var rfl) ea_nil) rfl) (Up.refl _) fun ds e => by subst e; exact ⟨_, .mk n ok, fun d h => ⟨_, h, rfl⟩⟩)) so0 (ex_mut e hdl) i0 fun D1 hnx hrt J Hd1 H1 xs px e1 ex1 n1 i1 js => ?_
    subst px
    have al : (upd H l (.lst [])) l = some (.lst []) := upd_same
    have H1l : H1 l = some (.lst []) := e1.1 _ _ nl al
    have hd1l : Hd1 l = none := n1.2 l nl hdl (by rw [al]; exact fun z => nomatch z)
    have kk : OKL C l Hd1 H1 (.d (livingD n st)) D.rt := fun v Hd' H' a1 a2 a3 r => by
      refine k v Hd' H' _ ⟨fun b o hb h => ?_, fun b h => ?_⟩ a2 ⟨n1.1.trans a3.1, fun b hb h h' => ?_⟩ ⟨a3.2 _ (Ne.symm nl) i1.1 i1.alive, ?_⟩ rfl r
      · have bl : b ≠ l := fun z => by rw [z, hl] at h; cases h
        exact a1 b o bl (e1.1 b o hb (by rw [upd_ne bl]; exact h))
      · have bl : b ≠ l := fun z => h (by rw [z]; exact hl)
        have h1 := e1.2 b (by rw [upd_ne bl]; exact h)
        cases q : H1 b with
        | none => exact absurd q h1
        | some o =>
          rw [a1 b o bl q]
          exact fun z => nomatch z
      · have bl : b ≠ l := fun z => h' (by rw [z]; exact hl)
        have h1 : (upd H l (.lst [])) b ≠ none := by rw [upd_ne bl]; exact h'
        exact a3.2 b bl (n1.2 b hb h h1) (e1.2 b h1)
      · rcases i1.2 with q | ⟨v, q, r⟩
        · exact .inl (a1 _ _ (Ne.symm nl) q)
        · exact .inr ⟨v, a1 _ _ (Ne.symm nl) q, r.mono a3.1⟩
    have so1 := so0.mono n1.1
    generalize hres : livingD n st = res at kk
    rw [← hrt] at kk
    refine for_core (d := .d res) (D := D1) (as := siphonsOf n) (enc := lotD) (j := 2) (l := l) (fun _ => [some (.net n), some (.d (lotD st)), none, none, none]) (fun i => (((siphonsOf n).take i).map fun s => Da.tup [lotD s, lotD (trapIn n.deeds s)])) (fun i => !isMarked (trapIn n.deeds ((siphonsOf n).getD i [])) st) (fun _ x => [some (.net n), some (.d (lotD st)), none, some (.d (lotD x)), none]) js ⟨so1, ex1, List.getElem?_set_self (by rw [so.len]; show 2 < 5; decide), hd1l, [], H1l, .nil⟩ (js := [3]) (by decide) (fun _ _ _ _ _ => True.intro) (fun i x _ => gd_name) (fun i x hi ho z => ?_) (fun i x hi ho z => ?_) kk (fun ho σ' Hd' H' a1 a2 a3 => ?_)
    all_goals have tl : ∀ x, x ∈ siphonsOf n → LotP n.places x := fun x hx => (mem_siphons hx).1
    · have hx := List.mem_of_getElem? hi
      have hl' := tl x hx
      have hsub := trapIn_sub n.deeds x
      have hln := lotP_len hl'
      have hp := ok.places
      rw [List.getD_eq_getElem?_getD, hi] at z
      have z' : isMarked (trapIn n.deeds x) st = false := by simpa using z
      refine sa_one (sa_asg (by decide) (ed_call (ea_cons (ed_var rfl) (ea_cons (ed_var rfl) ea_nil)) (.mk n x ok (by omega)))) ?_
      refine sa_when (b := true) (et_is (et_not (et_B (ed_call (ea_cons (ed_var rfl) (ea_cons (ed_var rfl) ea_nil)) (.mk (trapIn n.deeds x) st (fun p hp => by rw [hs]; exact hl'.1.2 p (hsub.subset hp)) (by have := hsub.length_le; omega))))) (by rw [z']; rfl)) (fun _ => sa_retE (ed_is (ed_tup (ds := [.str "dies", lotD x]) (ea_cons ed_str (ea_cons (ed_var rfl) ea_nil)) lz2) ?_)) fun z => nomatch z
      rw [← hres]
      unfold livingD
      have hfind : (siphonsOf n).find? (fun s => !isMarked (trapIn n.deeds s) st) = some x := by
        refine List.find?_eq_some_iff_getElem.mpr ⟨by rw [z']; rfl, i, (List.getElem?_eq_some_iff.mp hi).1, (List.getElem?_eq_some_iff.mp hi).2, fun j hj => ?_⟩
        have q := ho j hj
        have hj2 : j < (siphonsOf n).length := Nat.lt_trans hj (List.getElem?_eq_some_iff.mp hi).1
        rw [List.getD_eq_getElem?_getD, List.getElem?_eq_getElem hj2] at q
        simpa using q
      rw [hfind]
    · have hx := List.mem_of_getElem? hi
      have hl' := tl x hx
      have hsub := trapIn_sub n.deeds x
      have hln := lotP_len hl'
      have hp := ok.places
      have hi2 := (List.getElem?_eq_some_iff.mp hi).1
      rw [List.getD_eq_getElem?_getD, hi] at z
      have z' : isMarked (trapIn n.deeds x) st = true := by simpa using z
      have e1 : ((siphonsOf n).take (i + 1)).map (fun s => Da.tup [lotD s, lotD (trapIn n.deeds s)]) = ((siphonsOf n).take i).map (fun s => Da.tup [lotD s, lotD (trapIn n.deeds s)]) ++ [Da.tup [lotD x, lotD (trapIn n.deeds x)]] := by
        rw [List.take_add_one, hi, List.map_append]
        rfl
      show SAcc C 2 _ _ _ _ (((siphonsOf n).take (i + 1)).map fun s => Da.tup [lotD s, lotD (trapIn n.deeds s)])
      rw [e1]
      refine sa_weak (sa_seq (sa_asg (by decide) (ed_call (ea_cons (ed_var rfl) (ea_cons (ed_var rfl) ea_nil)) (.mk n x ok (by omega)))) (sn_whenA (b := false) (et_is (et_not (et_B (ed_call (ea_cons (ed_var rfl) (ea_cons (ed_var rfl) ea_nil)) (.mk (trapIn n.deeds x) st (fun p hp => by rw [hs]; exact hl'.1.2 p (hsub.subset hp)) (by have := hsub.length_le; omega))))) (by rw [z']; rfl)) rfl (sa_app (ed_tup (ds := [lotD x, lotD (trapIn n.deeds x)]) (ea_cons (ed_var rfl) (ea_cons (ed_var rfl) ea_nil)) lz2) (by rw [List.length_map]; have := List.length_take_le i (siphonsOf n); omega)))) rfl fun q e hq => ?_
      match q, hq with
      | 0, hq => exact hq
      | 1, hq => exact hq
      | 2, hq => exact nomatch (Option.some.inj hq)
      | 3, hq => exact nomatch (Option.some.inj hq)
      | 4, hq => exact nomatch (Option.some.inj hq)
      | k + 5, hq => exact nomatch hq
    · rw [List.take_length] at a3
      rw [hnx]
      rw [hrt] at kk
      have hnone : (siphonsOf n).find? (fun s => !isMarked (trapIn n.deeds s) st) = none := by
        rw [List.find?_eq_none]
        intro s hsS
        obtain ⟨i, hi, hg⟩ := List.getElem_of_mem hsS
        have z := ho i hi
        rw [List.getD_eq_getElem?_getD, List.getElem?_eq_getElem hi, hg] at z
        simpa using z
      refine sa_ret (d := .d res) (ed_is (ed_tup (ds := [.str "live", .tup ((siphonsOf n).map fun s => .tup [lotD s, lotD (trapIn n.deeds s)])]) (ea_cons ed_str (ea_cons (ed_cb (ea_cons (ed_var rfl) ea_nil) rc_tupL) ea_nil)) lz2) ?_) σ' H' Hd' l a3 D (kk.on a1 a2)
      rw [← hres]
      unfold livingD
      rw [hnone]
theorem ok_lively (B : Bt mg) (c_check_standing : Cal P w K mg base (L2.CX P w) 4 "check_standing" (spX C W0 (pChkS cs))) (c_living : Cal P w K mg base CX0 4 "living" (spM C (LK C) pLiving)) (F : DefAt K mg "lively" s_lively) : Cal P w K mg base (L2.CX P w) 5 "lively" (spX C (LK C) (pLively cs)) := by
  refine calX F sc_lively (fun _ _ _ _ _ _ us hl => match us, hl with | [_, _], _ => rfl) (fun ds r h => by cases h <;> rfl) fun f cdv A outer s H E hr => ⟨_,
    pss_cons (ps_expr (pe_cal c_check_standing hr (by decide) rfl (passes_call (takes_of rfl rfl rfl rfl) fun _ _ _ _ h => h) (pa_cons (pv 0) (pa_cons (pv 1) pa_nil)))) (PSs.nox (pss_one (ps_ret (pe_cal c_living hr (by decide) rfl pass0 (pa_cons (pv 0) (pa_cons (pv 1) pa_nil)))))), fun ds r h => frx_of ?_⟩
  cases h with
  | ok n st h hs =>
    exact srx_ok (ea_cons (ed_var rfl) (ea_cons (ed_var rfl) ea_nil)) (Up.w0 _) (.ok n (lotD st) h (isStand_of hs)) (srx_of (srm_ret (em_call (P1 := fun ds => ds = [.net n, .d (lotD st)]) (eam_of (ea_cons (ed_var rfl) (ea_cons (ed_var rfl) ea_nil)) rfl) (Up.refl _) fun ds e => by subst e; exact ⟨_, .mk n st h hs, fun _ h => h⟩)))
  | er n d h hs => exact srx_er (ea_cons (ed_var rfl) (ea_cons (ed_var rfl) ea_nil)) (Up.w0 _) (.er n d h hs)
theorem ok_revived (B : Bt mg) (c_check_standing : Cal P w K mg base (L2.CX P w) 4 "check_standing" (spX C W0 (pChkS cs))) (F : DefAt K mg "revived" s_revived) : Cal P w K mg base (L2.CX P w) 5 "revived" (spX C W0 (pRevived cs)) := by
  refine calX F sc_revived (fun _ _ _ _ _ _ us hl => match us, hl with | [_, _], _ => rfl) (fun ds r h => by cases h; rfl) fun f cdv A outer s H E hr => ⟨_,
    pss_cons (ps_expr (pe_cal c_check_standing hr (by decide) rfl (passes_call (takes_of rfl rfl rfl rfl) fun _ _ _ _ h => h) (pa_cons (pv 0) (pa_cons (pv 1) pa_nil)))) (pss_cons ps_never (pss_one ps_never)), fun ds r h => frx_of ?_⟩
  cases h with
  | er n d h hs => exact srx_er (ea_cons (ed_var rfl) (ea_cons (ed_var rfl) ea_nil)) (Up.refl _) (.er n d h hs)
end
end K13

set_option Elab.async false
set_option linter.all false
set_option maxRecDepth 100000
set_option maxHeartbeats 4000000
/-! KR: t[::-1] of a tuple. -/
namespace HT
open PySem PyProof.Rows
section
variable {prog : Program} {w : World} {A : Around} {E : Value → Shared → Prop} {s : Shared}
theorem applied_rev {sl : Addr} {u : Tok} {n : Nat} {Q : Int × Int × Nat → Shared → Prop} (hs : s.heap.IsSliceOf sl .none .none (.int (-1) u)) (h : Q ((n : Int) - 1, -1, n) s) :
    wpAny (model prog w) A (Builtin.Slice.sliceApplied (.ref sl) (pure (n : Int))) Q E s := by
  obtain ⟨os, hos, hcs, hds⟩ := id hs
  unfold Builtin.Slice.sliceApplied Builtin.Slice.sliceFields
  refine wpAny_bind (wpAny_bind (wpAny_field hos hds (x := .none) rfl (wpAny_bind (wpAny_field hos hds (x := .none) rfl (wpAny_bind (wpAny_field hos hds (x := .int (-1) u) rfl (wpAny_pure ?_)))))))
  refine wpAny_bind (slicePart_int ?_)
  show wpAny _ _ (if ((-1 : Int) == 0) = true then _ else _) _ _ s
  rw [if_neg (by decide)]
  refine wpAny_bind (slicePart_none (wpAny_bind (slicePart_none (wpAny_bind (wpAny_pure ?_)))))
  have e : Builtin.Slice.slicePlaces ((n : Int) - 1) (-1) (-1) = n := by
    unfold Builtin.Slice.slicePlaces
    rw [if_neg (by decide)]
    by_cases h0 : n = 0
    · subst h0
      rfl
    · rw [if_pos (by omega)]
      have : ((n : Int) - 1 - -1 - 1) / (- -1) + 1 = (n : Int) := by
        rw [show (- -1 : Int) = 1 by decide, Int.ediv_one]
        omega
      rw [this]
      omega
  show wpAny _ _ (pure ((n : Int) - 1, (-1 : Int), Builtin.Slice.slicePlaces ((n : Int) - 1) (-1) (-1))) _ _ s
  rw [e]
  exact wpAny_pure h
theorem pick_rev (xs : Array Value) : ((List.range xs.size).filterMap fun (m : Nat) => xs[(((xs.size : Int) - 1) + (m : Int) * -1).toNat]?).toArray = xs.toList.reverse.toArray := by
  have e : ∀ l : List Nat, (∀ m, m ∈ l → m < xs.size) → (l.filterMap fun (m : Nat) => xs[(((xs.size : Int) - 1) + (m : Int) * -1).toNat]?) = (l.map fun m => xs.size - 1 - m).filterMap (xs[·]?) := by
    intro l
    induction l with
    | nil => exact fun _ => rfl
    | cons a r ih =>
      intro hl
      have ha := hl a List.mem_cons_self
      rw [List.map_cons, List.filterMap_cons, List.filterMap_cons, ih fun m hm => hl m (List.mem_cons_of_mem _ hm), show (((xs.size : Int) - 1) + (a : Int) * -1).toNat = xs.size - 1 - a by omega]
  rw [e _ (fun m hm => List.mem_range.mp hm), PySem.W.krv_range, List.filterMap_reverse, PySem.W.krv_all]
theorem getItem_tuple_rev {t sl : Addr} {items : Array Value} {u : Tok} {Q : Value → Shared → Prop} (ht : IsTup s.heap t items) (hs : s.heap.IsSliceOf sl .none .none (.int (-1) u))
    (h : Q (.ref s.heap.objs.size) { s with heap := s.heap.push { cls := .type "tuple", data := .seq items.toList.reverse.toArray } }) (hz : items.size ≤ sizeLine) : wpAny (model prog w) A (getItem (.ref t) (.ref sl)) Q E s := by
  have hsz : sizeOk (.seq items.toList.reverse.toArray) := by
    show items.toList.reverse.toArray.size ≤ sizeLine
    rw [List.size_toArray, List.length_reverse, Array.length_toList]
    exact hz
  obtain ⟨os, hos, hcs, hds⟩ := id hs
  have hT : s.TypeIs (.ref sl) "slice" := ⟨os, hos, hcs⟩
  unfold getItem
  try with_reducible refine wpAny_holding ?_
  first | refine wpAny_bind (wpAny_pure ?_) | skip
  refine wpAny_bind (wpAny_sequenceKey ht.typeIs (by decide) ?_)
  refine wpAny_bind (wpAny_callSpecial?_slot (name := Str.ofString "__getitem__") ht.typeIs PyProof.Rows.slot_tuple_getitem
    (wpAny_call_entry PyProof.Rows.slot_tuple_getitem ht.typeIs entry_tuple_getitem ?_ (args_tuple_getitem _ _)))
  show wpAny _ _ (Builtin.Tuple.tupleItemsOf (.ref t) >>= _) _ _ s
  refine wpAny_bind (tupleItemsOf_ ht (wpAny_bind (wpAny_typeOf hT ?_)))
  rw [if_pos (by decide)]
  refine wpAny_bind (applied_rev hs ?_)
  have no : ¬ ((((items.size : Int) - 1) == 0 && (-1 : Int) == 1 && items.size == items.size) = true) := by
    rw [show ((-1 : Int) == 1) = false by decide, Bool.and_false, Bool.false_and]
    exact Bool.false_ne_true
  show wpAny _ _ (if (((items.size : Int) - 1) == 0 && (-1 : Int) == 1 && items.size == items.size) = true then _ else _) _ _ s
  rw [if_neg no, pick_rev]
  first
    | exact wpAny_bind (m := Builtin.Tuple.tupleExact _) (wpAny_newObj_type (wpAny_pure ⟨_, rfl, wpAny_pure h⟩) hsz)
    | exact wpAny_bind (m := Builtin.Tuple.tupleExact _) (wpAny_newObj_type (wpAny_bind (wpAny_pure (wpAny_pure ⟨_, rfl, wpAny_pure h⟩))) hsz)
    | exact wpAny_bind (wpAny_bind (m := Builtin.Tuple.tupleExact _) (wpAny_newObj_type (wpAny_pure (wpAny_pure ⟨_, rfl, wpAny_pure h⟩)) hsz))
    | exact wpAny_bind (wpAny_bind (m := Builtin.Tuple.tupleExact _) (wpAny_newObj_type (wpAny_pure ⟨_, rfl, wpAny_pure h⟩) hsz))
end
end HT
namespace L2
open PySem PySem.Spec PyProof.Rows
variable {X : Cx}
/-- t[::-1]: always a new tuple -/
def tRevT (K : PySem.W.Frag) (te : TE) : TE := fun σ H Q => te σ H fun x H1 => ∃ a xs, x = .ref a ∧ SqT K H1 a xs ∧ ∀ p, H1 p = none → Q (.ref p) (upd H1 p (.tup xs.reverse))
theorem pe_revT {e : Expr} {te : TE} {k : Nat} {p1 p2 p3 pos : Pos} (he : PE X e te) : PE X (.Subscript e (.Slice none none (some (.UnaryOp .USub (.Constant (.int 1) k p1) p2)) p3) pos) (tRevT X.K te) := by
  refine ⟨fun pins s σ H Q I q => ?_⟩
  refine Subscript_ (thn (he.run pins s σ H _ I q) fun v s1 ⟨x, H1, I1, r1, a, xs, ex, hx, q1⟩ => ?_)
  subst ex
  cases r1
  have hst : PO X (some (.UnaryOp .USub (.Constant (.int 1) k p1) p2)) (tPart (tUn (rU fun i => .int (-i)) (tC (.int 1)))) := po_some (pe_un un_neg pe_int)
  refine wpAny_Slice (thn (po_none.run pins s1 σ H1 (fun o H2 => o = none ∧ H2 = H1) I1 ⟨rfl, rfl⟩) fun vl s2 ⟨l, H2, I2, pl, el, e2⟩ => ?_)
  subst el e2
  refine thn (po_none.run pins s2 σ H2 (fun o H3 => o = none ∧ H3 = H2) I2 ⟨rfl, rfl⟩) fun vu s3 ⟨u, H3, I3, pu, eu, e3⟩ => ?_
  subst eu e3
  refine thn (hst.run pins s3 σ H3 (fun o H4 => o = some (-1) ∧ H4 = H3) I3 ⟨1, rfl, -1, rfl, rfl, rfl⟩) fun vs s4 ⟨o, H4, I4, ps, eo, e4⟩ => ?_
  subst eo e4
  cases pl
  cases pu
  cases ps with
  | int i tk =>
    have I5 : Inv X pins σ H4 { s4 with heap := s4.heap.push { cls := .type "slice", data := .fields #[.none, .none, .int (-1) tk] } } := I4.kept (t' := s4.toks) fun b ob z => Heap.get?_push_of_some _ z
    obtain ⟨its, r, ht, hz⟩ := I5.tuple hx
    have hlen := r.length
    show wpAny (model X.prog X.w) X.A (subscriptTail e (.Slice none none (some (.UnaryOp .USub (.Constant (.int 1) k p1) p2)) p3) (.ref a) (.ref s4.heap.objs.size)) (EP X pins σ Q) X.xe { s4 with heap := s4.heap.push { cls := .type "slice", data := .fields #[.none, .none, .int (-1) tk] } }
    refine tail_any (ops := [.ref a, .ref s4.heap.objs.size]) ht.typeIs PyProof.Rows.slot_tuple_getitem.lookup ?_ (by with_unfolding_all rfl)
    refine HT.getItem_tuple_rev ht (Heap.IsSliceOf.new _ _ _ _) ?_ (by rw [List.size_toArray]; omega)
    refine ⟨.ref _, _, I5.laid (t' := s4.toks) (o := .tup xs.reverse) (fun b ob z => Heap.get?_push_of_some _ z) (Nat.le_refl _) ?_, rfl, q1 _ (I5.hok.fresh (Nat.le_refl _))⟩
    exact ⟨by rw [List.length_reverse]; exact hz, _, r.reverse, IsTup.new _ _⟩
end L2
namespace K13
open PySem PySem.Spec PyProof.Rows L2
open Evl (Ex ex_l ex_t sq_of st_of sz_of sz_lt fresh_back)
theorem pe_revTK (K : PySem.W.Frag) {X : Cx} {e : Expr} {te : TE} {k : Nat} {p1 p2 p3 pos : Pos} (he : PE X e te) (h : X.K = K := by rfl) : PE X (.Subscript e (.Slice none none (some (.UnaryOp .USub (.Constant (.int 1) k p1) p2)) p3) pos) (tRevT K te) := by
  subst h
  exact pe_revT he
section
variable {C : CW} {K : PySem.W.Frag} {env : En} {te : TE} {xs : List Da}
theorem ed_rev (h : ED C te env (.d (.tup xs))) : ED C (tRevT K te) env (.d (.tup xs.reverse)) := fun σ H Hd s e Q k => h σ H Hd s e _ fun v Hd1 H1 e1 e2 n1 r1 => by
  cases r1 with
  | d r1 =>
    cases r1 with
    | @tup a us _ g l => exact ⟨a, us, rfl, st_of (e2 _ _ g), fun p hp => (k.on e1 n1).tup e2 l.reverse hp⟩
/-- {}; {0: x} -/
theorem ed_dnew : ED C tDNewK env (.d .dic) := fun σ H Hd s e Q k p hp => k.dic e hp
theorem ed_disp1 {i : Int} {d : Da} (h : ED C te env (.d d)) : ED C (tDisp [(tC (.int i), te)]) env (.d .dic) := fun σ H Hd s e Q k p hp => by
  have hd : Hd p = none := fresh_back e hp
  refine h σ (upd H p (.dK [])) Hd s (ex_mut e hd) _ fun v Hd1 H1 e1 e2 n1 r1 => ⟨e1 _ _ upd_same, [(.inl i, v)], rfl, by show 1 ≤ 15; decide, ?_⟩
  have hd1 : Hd1 p = none := n1.2 p hd (by rw [upd_same]; exact fun z => nomatch z)
  refine k (.ref p) (upd Hd1 p (.dK (mergeK [] [(.inl i, v)]))) _ ?_ (ex_upd e2) ⟨n1.1.trans (Ex.new hd1), fun b hb hb' => ?_⟩ (.d (.dic upd_same))
  · intro b o hb
    have ne : b ≠ p := fun z => by rw [z, hp] at hb; cases hb
    rw [upd_ne ne]
    exact e1 b o (by rw [upd_ne ne]; exact hb)
  · have ne : b ≠ p := fun z => hb' (by rw [z]; exact hp)
    rw [upd_ne ne]
    exact n1.2 b hb (by rw [upd_ne ne]; exact hb')
/-- list(range(n)) -/
theorem ed_listRg {n : Nat} (h : ED C te env (.d (.int (n : Int)))) (hn : n ≤ 100000) : ED C (tLstRg (tRg1 te)) env (.d (.lst (rngD n))) := fun σ H Hd s e Q k => h σ H Hd s e _ fun v Hd1 H1 e1 e2 n1 r1 => by
  cases r1 with
  | d r1 =>
    cases r1
    refine ⟨(n : Int), rfl, RgOk.of_le (by decide) (by omega) (by decide) (by omega), fun q hq => (k.on e1 n1).lst e2 ?_ hq⟩
    have ev : rgV 0 (n : Int) = ((List.range n).map fun (i : Nat) => (i : Int)).map V.int := by
      unfold rgV
      rw [show ((n : Int) - 0).toNat = n by omega, List.map_map]
      refine List.map_congr_left fun i _ => ?_
      show V.int (0 + (i : Int)) = V.int (i : Int)
      rw [Int.zero_add]
    have ed : rngD n = ((List.range n).map fun (i : Nat) => (i : Int)).map Da.int := by
      unfold rngD
      rw [List.map_map]
      rfl
    rw [ev, ed]
    exact RpL.ints _
/-- t * n of a tuple -/
theorem rv_repT {ds : List Da} {k : Nat} (hn : ds ≠ []) (h2 : 2 ≤ k) (hk : k ≤ 1000) (hl : ds.length ≤ 1000) : RV2 C (rRepT K) (.d (.tup ds)) (.d (.int (k : Int))) (.d (.tup (List.replicate k ds).flatten)) := fun Hd H u v Q e r1 r2 kk => by
  cases r1 with
  | d r1 =>
    cases r2 with
    | d r2 =>
      cases r2
      cases r1 with
      | @tup a us _ g l =>
        have rep : ∀ m : Nat, RpL Hd (List.replicate m us).flatten (List.replicate m ds).flatten := fun m => by
          induction m with
          | zero => exact .nil
          | succ m ih =>
            rw [List.replicate_succ, List.replicate_succ, List.flatten_cons, List.flatten_cons]
            exact l.append ih
        refine ⟨a, (k : Int), us, rfl, rfl, st_of (e _ _ g), fun z => hn (by subst z; cases l; rfl), by omega, by omega, by rw [l.length]; exact hl, fun p hp => ?_⟩
        rw [Int.toNat_natCast]
        exact kk.tup e (rep k) hp
end
end K13

set_option Elab.async false
set_option linter.all false
set_option maxRecDepth 100000
set_option maxHeartbeats 4000000
/-! KH: draws. A hand lies at h, its cells at ac. -/
namespace K13
open PySem PySem.Spec PyProof.Rows L2
open Evl (Ex ex_l ex_t sq_of st_of sz_of sz_lt fresh_back)
/-- item by item -/
inductive All2 {α β : Type} (R : α → β → Prop) : List α → List β → Prop where
  | nil : All2 R [] []
  | cons {a : α} {b : β} {as : List α} {bs : List β} : R a b → All2 R as bs → All2 R (a :: as) (b :: bs)
theorem All2.app {α β : Type} {R : α → β → Prop} : ∀ {as cs : List α} {bs ds : List β}, All2 R as bs → All2 R cs ds → All2 R (as ++ cs) (bs ++ ds)
  | _, _, _, _, .nil, s => s
  | _, _, _, _, .cons h r, s => .cons h (All2.app r s)
theorem All2.length {α β : Type} {R : α → β → Prop} : ∀ {as : List α} {bs : List β}, All2 R as bs → as.length = bs.length
  | _, _, .nil => rfl
  | _, _, .cons _ r => by rw [List.length_cons, List.length_cons, All2.length r]
/-! ### what is told without a change -/
def DE (te : TE) (σ : L2.St) (H : Hp) (v : V) : Prop := ∀ Q : VK, Q v H → te σ H Q
def DT (tt : TT) (σ : L2.St) (H : Hp) (b : Bool) : Prop := ∀ Q : Bool → Hp → Prop, Q b H → tt σ H Q
def DA (ta : TA) (σ : L2.St) (H : Hp) (vs : List V) : Prop := ∀ Q : List V → Hp → Prop, Q vs H → ta σ H Q
section
variable {K : PySem.W.Frag} {σ : L2.St} {H : Hp} {ta tb te : TE} {tt tu : TT} {x y v : V} {r : R2} {b c : Bool} {i j : Int} {D : Ends} {t u : TS}
theorem de_var {k : Nat} (h : σ[k]? = some (some v)) : DE (tVar k) σ H v := fun Q q => ⟨v, h, q⟩
theorem de_c : DE (tC v) σ H v := fun Q q => q
theorem de_op (ha : DE ta σ H x) (hb : DE tb σ H y) (hr : ∀ Q : VK, Q v H → r x y H Q) : DE (tOp r ta tb) σ H v := fun Q q => ha _ (hb _ (hr Q q))
theorem de_I0 {g : Int → Int → Int} (ha : DE ta σ H (.int i)) (hb : DE tb σ H (.int j)) : DE (tOp (rI0 fun i j => .int (g i j)) ta tb) σ H (.int (g i j)) := de_op ha hb fun Q q => ⟨i, j, rfl, rfl, q⟩
theorem de_I {cc : Int → Int → Prop} {g : Int → Int → Int} (ha : DE ta σ H (.int i)) (hb : DE tb σ H (.int j)) (h : cc i j) : DE (tOp (rI cc fun i j => .int (g i j)) ta tb) σ H (.int (g i j)) := de_op ha hb fun Q q => ⟨i, j, rfl, rfl, h, q⟩
theorem de_B0 {g : Int → Int → Bool} (ha : DE ta σ H (.int i)) (hb : DE tb σ H (.int j)) : DE (tOp (rI0 fun i j => .bl (g i j)) ta tb) σ H (.bl (g i j)) := de_op ha hb fun Q q => ⟨i, j, rfl, rfl, q⟩
theorem de_eqI (ha : DE ta σ H (.int i)) (hb : DE tb σ H (.int j)) : DE (tOp rEq ta tb) σ H (.bl (decide (i = j))) := de_op ha hb fun Q q => ⟨rfl, by rw [show decide (V.int i = V.int j) = decide (i = j) from by rw [Bool.eq_iff_iff]; simp]; exact q⟩
theorem de_ix {a : Addr} {xs : List V} {k : Nat} (ha : DE ta σ H (.ref a)) (hb : DE tb σ H (.int (k : Int))) (hl : H a = some (.lst xs)) (hx : xs[k]? = some v) : DE (tOp (rIxL K) ta tb) σ H v := de_op ha hb fun Q q => ⟨a, xs, _, v, rfl, rfl, sq_of hl, atI_nat hx, q⟩
theorem da_nil : DA tNil σ H [] := fun Q q => q
theorem da_cons {tr : TA} {vs : List V} (ha : DE ta σ H v) (hr : DA tr σ H vs) : DA (tCons ta tr) σ H (v :: vs) := fun Q q => ha _ (hr _ q)
theorem de_cb {rr : List V → Hp → VK → Prop} {t : TA} {vs : List V} (ha : DA t σ H vs) (hr : ∀ Q : VK, Q v H → rr vs H Q) : DE (tCB rr t) σ H v := fun Q q => ha _ (hr Q q)
theorem dt_test (h : DE te σ H (.bl b)) : DT (tTest te) σ H b := fun Q q => h _ ⟨b, rfl, q⟩
theorem dt_and (h1 : DT tt σ H b) (h2 : b = true → DT tu σ H c) : DT (tAnd tt tu) σ H (b && c) := fun Q q => h1 _ (by
  cases b with
  | true => exact h2 rfl Q q
  | false => exact q)
theorem ds_if (h : DT tt σ H b) (k : if b = true then t D σ H else u D σ H) : tIfS tt t u D σ H := h _ k
theorem ds_when (h : DT tt σ H b) (k1 : b = true → t { D with nx := u D } σ H) (k2 : b = false → u D σ H) : tSeq (tIfS tt t tNext) u D σ H := h _ (by
  cases b with
  | true => exact k1 rfl
  | false => exact k2 rfl)
theorem ds_asg {k : Nat} (h : DE te σ H v) (q : u D (σ.set k (some v)) H) : tSeq (tAsg te (gName k)) u D σ H := h _ q
theorem ds_set {a : Addr} {xs : List V} {k : Nat} (h : DE te σ H v) (ha : DE ta σ H (.ref a)) (hb : DE tb σ H (.int (k : Int))) (hl : H a = some (.lst xs)) (hk : k < xs.length) (q : D.nx σ (upd H a (.lst (xs.set k v)))) : tAsg te (gSub ta tb rSetL) D σ H :=
  h _ (ha _ (hb _ ⟨a, xs, (k : Int), k, rfl, rfl, hl, by
    unfold ixN
    rw [if_pos (by omega), if_pos (by omega)]
    rw [Int.toNat_natCast], q⟩))
theorem ds_setS {a : Addr} {xs : List V} {k : Nat} (h : DE te σ H v) (ha : DE ta σ H (.ref a)) (hb : DE tb σ H (.int (k : Int))) (hl : H a = some (.lst xs)) (hk : k < xs.length) (q : u D σ (upd H a (.lst (xs.set k v)))) : tSeq (tAsg te (gSub ta tb rSetL)) u D σ H := ds_set (D := { D with nx := u D }) h ha hb hl hk q
theorem ds_ret (h : DE te σ H v) (q : D.rt v H) : tRet te D σ H := h _ q
end
/-! ### the hand -/
def handL (ac : Addr) (i b s c : Int) : HO := .lst [.ref ac, .int i, .int b, .int s, .int c]
def HandI (h ac : Addr) (Hd H : Hp) : Prop := Hd h = none ∧ Hd ac = none ∧ h ≠ ac ∧ ∃ (cs : List Int) (i : Nat) (b s c : Int), H h = some (handL ac i b s c) ∧ H ac = some (.lst (cs.map .int)) ∧ 0 ≤ b
theorem HandI.stay {h ac : Addr} {Hd H Hd' H' : Hp} (i : HandI h ac Hd H) (e : Ex H H') (n : Nw Hd H Hd') : HandI h ac Hd' H' := by
  obtain ⟨h1, h2, ne, cs, k, b, s, c, h3, h4, h5⟩ := i
  exact ⟨n.2 _ h1 (by rw [h3]; exact fun z => nomatch z), n.2 _ h2 (by rw [h4]; exact fun z => nomatch z), ne, cs, k, b, s, c, e _ _ h3, e _ _ h4, h5⟩
theorem HandI.same {h ac : Addr} {Hd H Hd' H' : Hp} (i : HandI h ac Hd H) (e1 : H' h = H h) (e2 : H' ac = H ac) (n1 : Hd' h = none) (n2 : Hd' ac = none) : HandI h ac Hd' H' := by
  obtain ⟨h1, h2, ne, cs, k, b, s, c, h3, h4, h5⟩ := i
  exact ⟨n1, n2, ne, cs, k, b, s, c, e1.trans h3, e2.trans h4, h5⟩
def HW (h ac : Addr) : Wl where
  M := fun a => a = h ∨ a = ac
  I := HandI h ac
  al := fun i e => by
    obtain ⟨h1, h2, ne, cs, k, b, s, c, h3, h4, h5⟩ := i
    rcases e with rfl | rfl
    · exact ⟨by rw [h3]; exact (fun z => nomatch z), h1⟩
    · exact ⟨by rw [h4]; exact (fun z => nomatch z), h2⟩
  st := fun i e _ n => i.stay e n
  fr := fun i m _ => i.same (m _ (.inl rfl)) (m _ (.inr rfl)) i.1 i.2.1
  gr := fun i m _ _ => i.same rfl rfl (m _ (.inl rfl)) (m _ (.inr rfl))
inductive pDraw (h : Addr) : List Sv → (Sv → Prop) → Prop | mk (m : Nat) (h0 : 0 < m) (h1 : m ≤ 100000) : pDraw h [.loc h, .d (.int (m : Int))] fun r => ∃ d : Nat, r = .d (.int (d : Int)) ∧ d < m
inductive pAny (h : Addr) : List Sv → (Sv → Prop) → Prop | mk (ds : List Da) (h0 : ds ≠ []) (h1 : ds.length ≤ 100000) : pAny h [.loc h, .d (.lst ds)] fun r => ∃ x, r = .d x ∧ x ∈ ds
section
variable {C : CW} {W : Wl} {te : TE} {env : En}
/-- comprehensions with elements come by in a world -/
theorem em_lc {α : Type} {wi : TI} {g : TG} {vs js : List Nat} {P0 : List α → Prop} {enc : α → Da} (Pe : α → Da → Prop) (e2 : α → En) (hs : SrcM C W wi env fun xs => ∃ as, xs = as.map enc ∧ P0 as) (hz : ∀ as, P0 as → as.length ≤ 40000) (hj : ∀ j, j ∈ js → j ∈ vs)
    (hg : ∀ as x, P0 as → x ∈ as → GD C g (enc x) (wipeE env vs) js (e2 x)) (he : ∀ as x, P0 as → x ∈ as → EM C W te (e2 x) fun d => ∃ y, d = .d y ∧ Pe x y) :
    EM C W (tLc wi g tYes te vs) env fun d => ∃ (as : List α) (ys : List Da), P0 as ∧ All2 Pe as ys ∧ d = .d (.lst ys) := fun σ H0 Hd0 s e i0 Q k =>
  hs σ H0 Hd0 s e i0 _ fun J Hd1 H1 xs px e1 ex1 n1 i1 jss D hD => by
    obtain ⟨as, rfl, p0⟩ := px
    have k1 := k.on e1 n1
    have hdD : Hd1 D = none := fresh_back ex1 hD
    have so1 := (s.mono n1.1).wipe vs
    have nM : ¬ W.M D := fun z => (W.al i1 z).1 hD
    let Pv : Nat → Hp → Prop := fun i H => ∃ (Hd : Hp) (acc : List V) (ys : List Da), ExM W.M H1 H ∧ Ex Hd H ∧ NwM W.M Hd1 H1 Hd ∧ W.I Hd H ∧ Hd D = none ∧ H D = some (.lst acc) ∧ All2 Pe (as.take i) ys ∧ RpL Hd acc ys
    refine ⟨fun i m H => m = as.length - i ∧ i ≤ as.length ∧ Pv i H, ⟨as.length, by simp, Nat.zero_le _, Hd1, [], [], .of (Ex.new hD), Ex.trans ex1 (Ex.new hD), NwM.refl _ _ _, W.st i1 (Ex.new hD) (Ex.trans ex1 (Ex.new hD)) (Nw.refl _ _), hdD, upd_same, by rw [List.take_zero]; exact .nil, .nil⟩, ?_⟩
    rintro i m H ⟨rfl, hi, Hd, acc, ys, a1, a2, a3, a7, a4, a5, a8, a6⟩
    obtain ⟨q1, q2⟩ := jss Hd H a3.1 a2 i
    by_cases hlt : i < as.length
    · have hx : as[i]? = some as[i] := List.getElem?_eq_getElem hlt
      have hm : as[i] ∈ as := List.getElem_mem hlt
      obtain ⟨go, yl⟩ := q1 (enc as[i]) (by rw [List.getElem?_map, hx]; rfl)
      refine .inr ⟨go, Pv (i + 1), fun H' p' => ⟨as.length - (i + 1), by omega, rfl, hlt, p'⟩, fun v H2 hy => ?_⟩
      obtain ⟨Hd2, b1, b2, b3, b4⟩ := yl v H2 hy
      have b5 : Hd2 D = none := b3.2 D a4 (by rw [a5]; intro z; cases z)
      have i2 := W.st a7 b1 b2 b3
      refine hg as _ p0 hm v (L2.wipe σ vs) H2 Hd2 ((so1.mono a3.1).mono b3.1) b2 b4 _ fun σ2 so2 w2 => ⟨by rw [w2 vs hj, wipe_wipe], ?_⟩
      show te σ2 H2 _
      have tk : as.take (i + 1) = as.take i ++ [as[i]] := by rw [List.take_add_one, hx]; rfl
      have nw2 : NwM W.M Hd1 H1 Hd2 := a3.trans a1 (.of b3)
      have D2 : H2 D = some (.lst acc) := b1 _ _ a5
      refine he as _ p0 hm σ2 H2 Hd2 so2 b2 i2 _ fun v' Hd3 H4 d d1 d2 d3 i4 dp d4 => ?_
      obtain ⟨y, rfl, py⟩ := dp
      have d5 : Hd3 D = none := d3.2 D nM b5 (by rw [D2]; intro z; cases z)
      have al1 : (upd H1 D (.lst [])) D = some (.lst []) := upd_same
      have len1 : ys.length = (as.take i).length := a8.length.symm
      have hzz := hz as p0
      have ex5 : Ex Hd3 (upd H4 D (.lst (acc ++ [v']))) := ex_mut d2 d5
      refine ⟨acc, d1.1 _ _ nM D2, sz_lt (by rw [a6.length, len1]; have := List.length_take_le i as; omega), Hd3, acc ++ [v'], ys ++ [y], ?_, ex5, nw2.trans (a1.trans (.of b1)) d3, W.fr i4 (fun a ha => upd_ne (fun z => nM (by rw [← z]; exact ha))) ex5, d5, upd_same, ?_, ?_⟩
      · have z1 := (a1.trans (.of b1)).trans d1
        refine ⟨fun b o hb h => ?_, fun b h => ?_⟩
        · have bD : b ≠ D := fun z => by rw [z, hD] at h; cases h
          rw [upd_ne bD]
          exact z1.1 b o hb h
        · have bD : b ≠ D := fun z => h (by rw [z]; exact hD)
          rw [upd_ne bD]
          exact z1.2 b h
      · rw [tk]
        exact a8.app (.cons py .nil)
      · cases d4 with
        | d d4 => exact ((a6.mono b3.1).mono d3.1).append (.one d4)
    · have ei : i = as.length := by omega
      subst ei
      refine .inl ⟨q2 (by rw [List.length_map]; exact Nat.le_refl _), ?_⟩
      rw [List.take_length] at a8
      have h0 : Ex (upd Hd D (.lst acc)) H := fun b o hb => by
        by_cases z : b = D
        · rw [z, upd_same] at hb
          rw [z, a5]
          exact hb
        · rw [upd_ne z] at hb
          exact a2 b o hb
      have up : Ex Hd (upd Hd D (.lst acc)) := Ex.new a4
      refine k1 _ (upd Hd D (.lst acc)) H _ a1 h0 ⟨a3.1.trans up, fun b hM hb hb' => ?_⟩ ?_ ⟨as, ys, p0, a8, rfl⟩ (.d (.lst upd_same (a6.mono up)))
      · have z : b ≠ D := fun z => hb' (by rw [z]; exact hD)
        rw [upd_ne z]
        exact a3.2 b hM hb hb'
      · refine W.gr a7 (fun a ha => ?_) up h0
        rw [upd_ne (fun z => nM (by rw [← z]; exact ha))]
        exact (W.al a7 ha).2
end
end K13

set_option Elab.async false
set_option linter.all false
set_option maxRecDepth 100000
set_option maxHeartbeats 4000000
/-! KH2: a draw; one of many. -/
namespace K13
open PySem PySem.Spec PyProof.Rows L2
open Evl (Ex ex_l ex_t sq_of st_of sz_of sz_lt fresh_back)
abbrev s_law_draw : Stmt := topS 60
theorem sc_law_draw : FnScope ["hand", "many", "cell", "digit", "number"] ["hand", "many"] (defScope s_law_draw) := ⟨rfl, rfl, rfl, by decide +kernel, rfl, by decide +kernel, by decide +kernel⟩
abbrev s_law_any : Stmt := topS 61
theorem sc_law_any : FnScope ["hand", "things"] ["hand", "things"] (defScope s_law_any) := ⟨rfl, rfl, rfl, by decide +kernel, rfl, by decide +kernel, by decide +kernel⟩
section
variable {K : PySem.W.Frag} {σ : L2.St} {H : Hp} {te ta : TE} {i : Int} {x : V}
variable {tb : TE} {j : Int}
theorem de_mod (ha : DE ta σ H (.int i)) (hb : DE tb σ H (.int j)) (h : 0 < j) : DE (tOp (rI (fun _ j => 0 < j) fun i j => .int (i % j)) ta tb) σ H (.int (i % j)) := de_I (cc := fun _ j => 0 < j) (g := fun i j => i % j) ha hb h
theorem de_mul (ha : DE ta σ H (.int i)) (hb : DE tb σ H (.int j)) (h : CMul i j) : DE (tOp (rI CMul fun i j => .int (i * j)) ta tb) σ H (.int (i * j)) := de_I (cc := CMul) (g := fun i j => i * j) ha hb h
theorem de_fdiv (ha : DE ta σ H (.int i)) (hb : DE tb σ H (.int j)) (h : CDiv i j) : DE (tOp (rI CDiv fun i j => .int (i / j)) ta tb) σ H (.int (i / j)) := de_I (cc := CDiv) (g := fun i j => i / j) ha hb h
theorem de_add (ha : DE ta σ H (.int i)) (hb : DE tb σ H (.int j)) : DE (tOp (rI0 fun i j => .int (i + j)) ta tb) σ H (.int (i + j)) := de_I0 (g := fun i j => i + j) ha hb
theorem de_pow (ha : DE ta σ H (.int i)) (hb : DE tb σ H (.int j)) (h : CPow i j) : DE (tOp (rI CPow fun i j => .int (i ^ j.toNat)) ta tb) σ H (.int (i ^ j.toNat)) := de_I (cc := CPow) (g := fun i j => i ^ j.toNat) ha hb h
theorem de_int1 {t : TA} (h : DA t σ H [.int i]) : DE (tCB (fun xs H Q => (∃ i, xs = [.int i] ∧ Q (.int i) H) ∨ ∃ k, xs = [.bl k] ∧ Q (.int (if k then 1 else 0)) H) t) σ H (.int i) := de_cb h fun Q q => .inl ⟨i, rfl, q⟩
theorem de_len {t : TA} {a : Addr} {xs : List V} (h : DA t σ H [.ref a]) (hl : H a = some (.lst xs)) : DE (tCB (rLenK K) t) σ H (.int (xs.length : Int)) := de_cb h fun Q q => ⟨a, xs, rfl, .inl (sq_of hl), q⟩
end
theorem handL_set1 (ac : Addr) (i b s c i' : Int) : HO.lst (([.ref ac, .int i, .int b, .int s, .int c] : List V).set 1 (.int i')) = handL ac i' b s c := rfl
theorem mod_nat {x : Int} {m : Nat} (h : 0 < m) : ∃ d : Nat, x % (m : Int) = (d : Int) ∧ d < m := by
  have h1 := Int.emod_nonneg x (show (m : Int) ≠ 0 by omega)
  have h2 := Int.emod_lt_of_pos x (show (0 : Int) < (m : Int) by omega)
  exact ⟨(x % (m : Int)).toNat, by omega, by omega⟩
theorem mod_int {x m : Int} (h : 0 < m) : ∃ d : Nat, x % m = (d : Int) ∧ (d : Int) < m := by
  have h1 := Int.emod_nonneg x (show m ≠ 0 by omega)
  have h2 := Int.emod_lt_of_pos x h
  exact ⟨(x % m).toNat, by omega, by omega⟩
section
variable {P : Program} {w : World} {K : PySem.W.Frag} {mg : Str → Option Value} {base : Heap} {C : CW} {h ac : Addr}
theorem ok_law_draw (B : Bt mg) (F : DefAt K mg "_law_draw" s_law_draw) : Cal P w K mg base CX0 1 "_law_draw" (spM C (HW h ac) (pDraw h)) := by
  refine calM F sc_law_draw (fun _ _ _ _ _ _ us hl => match us, hl with | [_, _], _ => rfl) (fun ds r h => by cases h; rfl) fun f cdv A outer s H E hr => ⟨_,
    (pss_cons (ps_if (PW.pt (pw_and (pt_cmpR op_eq (pe_ix (ix_listK K) (pv 0) pe_int (fun _ _ => rfl)) pe_int (nomark _)) (pw_and1 (pt_cmpR op_lt (pe_ix (ix_listK K) (pv 0) pe_int (fun _ _ => rfl)) (pe_callB (call_lenK K) (by rfl) B.len_ b_len (pa_cons (pe_ix (ix_listK K) (pv 0) pe_int (fun _ _ => rfl)) pa_nil)) (nomark _))))) (pss_cons (ps_set (i := 2) sc_law_draw.nd rfl (Or.inl rfl) (pe_ix (ix_listK K) (pe_ix (ix_listK K) (pv 0) pe_int (fun _ _ => rfl)) (pe_ix (ix_listK K) (pv 0) pe_int (fun _ _ => rfl)) (fun _ _ => rfl)))
      (pss_cons (ps_asg (pe_op op_add (pe_ix (ix_listK K) (pv 0) pe_int (fun _ _ => rfl)) pe_int) (pg_sub (pv 0) pe_int set_list))
      (pss_cons (ps_asg (pe_op op_mod (pe_callTy call_int1 (by rfl) B.int_ b_int (pa_cons (pe_op op_add (pe_op op_add (pe_op op_mul (pe_ix (ix_listK K) (pv 0) pe_int (fun _ _ => rfl)) pe_int) (pv 2)) pe_int) pa_nil)) pe_int) (pg_sub (pv 0) pe_int set_list))
      (pss_one (ps_if (pt_cmpR op_ge (pv 2) (pe_op op_pow pe_int pe_int) (nomark _)) (pss_one (ps_asg (pv 2) (pg_sub (pv 0) pe_int set_list))) pss_nil))))) pss_nil)
      (pss_cons (ps_if (pt_cmpR op_gt (pe_ix (ix_listK K) (pv 0) pe_int (fun _ _ => rfl)) pe_int (nomark _)) (pss_cons (ps_set (i := 3) sc_law_draw.nd rfl (Or.inl rfl) (pe_op op_mod (pe_callTy call_int1 (by rfl) B.int_ b_int (pa_cons (pe_ix (ix_listK K) (pv 0) pe_int (fun _ _ => rfl)) pa_nil)) (pv 1)))
      (pss_cons (ps_asg (pe_op op_fdiv (pe_ix (ix_listK K) (pv 0) pe_int (fun _ _ => rfl)) (pv 1)) (pg_sub (pv 0) pe_int set_list))
      (pss_one (ps_ret (pv 3))))) pss_nil)
      (pss_cons (ps_asg (pe_op op_add (pe_ix (ix_listK K) (pv 0) pe_int (fun _ _ => rfl)) pe_int) (pg_sub (pv 0) pe_int set_list))
      (pss_cons (ps_set (i := 4) sc_law_draw.nd rfl (Or.inl rfl) (pe_op op_mod (pe_callTy call_int1 (by rfl) B.int_ b_int (pa_cons (pe_op op_mul (pe_callTy call_int1 (by rfl) B.int_ b_int (pa_cons (pe_op op_add (pe_ix (ix_listK K) (pv 0) pe_int (fun _ _ => rfl)) (pe_op op_mul pe_int (pe_ix (ix_listK K) (pv 0) pe_int (fun _ _ => rfl)))) pa_nil)) pe_int) pa_nil)) pe_int))
      (pss_cons (ps_set (i := 4) sc_law_draw.nd rfl (Or.inl rfl) (pe_op op_mod (pe_callTy call_int1 (by rfl) B.int_ b_int (pa_cons (pe_op op_mul (pv 4) (pe_op op_add (pe_op op_fdiv (pv 4) pe_int) pe_int)) pa_nil)) pe_int))
      (pss_cons (ps_set (i := 4) sc_law_draw.nd rfl (Or.inl rfl) (pe_op op_mod (pe_callTy call_int1 (by rfl) B.int_ b_int (pa_cons (pe_op op_mul (pv 4) (pe_op op_add (pe_op op_fdiv (pv 4) pe_int) pe_int)) pa_nil)) pe_int))
      (pss_one (ps_ret (pe_op op_mod (pe_callTy call_int1 (by rfl) B.int_ b_int (pa_cons (pe_op op_fdiv (pv 4) pe_int) pa_nil)) (pv 1)))))))))), fun ds r hp => ?_⟩
  cases hp with
  | mk m m0 m1 =>
    intro σ H Hd so e i D k
    obtain ⟨n1, n2, ne, cs, ix, b, sd, ct, e1, e2, hb⟩ := i
    have s0 : σ[0]? = some (some (.ref h)) := by
      obtain ⟨v, h1, h2⟩ := so.get 0 (.loc h) rfl
      cases h2
      exact h1
    have s1 : σ[1]? = some (some (.int (m : Int))) := by
      obtain ⟨v, h1, h2⟩ := so.get 1 (.d (.int (m : Int))) rfl
      cases h2 with
      | d h2 =>
        cases h2
        exact h1
    have sl : σ.length = 5 := so.len
    -- what is left when a digit has come
    have fin : ∀ (H' : Hp) (ix : Nat) (b sd ct : Int) (d : Nat), (∀ a, a ≠ h → H' a = H a) → H' h = some (handL ac ix b sd ct) → 0 ≤ b → d < m → D.rt (.int (d : Int)) H' := fun H' ix b sd ct d q1 q2 q3 q4 => by
      refine k (.int (d : Int)) Hd H' (.d (.int (d : Int))) ⟨fun a o hm ha => ?_, fun a ha => ?_⟩ (fun a o ha => ?_) (NwM.refl _ _ _) ⟨n1, n2, ne, cs, ix, b, sd, ct, q2, by rw [q1 ac (Ne.symm ne)]; exact e2, q3⟩ ⟨d, rfl, q4⟩ (.d (.int _))
      · rw [q1 a (fun z => hm (.inl z))]
        exact ha
      · by_cases z : a = h
        · rw [z, q2]
          exact (fun z => nomatch z)
        · rw [q1 a z]
          exact ha
      · rw [q1 a (fun z => by rw [z, n1] at ha; cases ha)]
        exact e a o ha
    -- the second half
    have half : ∀ (σ' : L2.St) (H' : Hp) (ix : Nat) (b sd ct : Int) (u : TS), σ'[0]? = some (some (.ref h)) → σ'[1]? = some (some (.int (m : Int))) → σ'.length = 5 → (∀ a, a ≠ h → H' a = H a) → H' h = some (handL ac ix b sd ct) → 0 ≤ b →
        (tSeq (tIfS (tTest (tOp (rI0 fun i j => .bl (decide (j < i))) (tOp (rIxL K) (tVar 0) (tC (.int 2))) (tC (.int 0)))) (tSeq (tAsg (tOp (rI (fun _ j => 0 < j) fun i j => .int (i % j)) (tCB (fun xs H Q => (∃ i, xs = [.int i] ∧ Q (.int i) H) ∨ ∃ k, xs = [.bl k] ∧ Q (.int (if k then 1 else 0)) H) (tCons (tOp (rIxL K) (tVar 0) (tC (.int 2))) tNil)) (tVar 1)) (gName 3))
          (tSeq (tAsg (tOp (rI CDiv fun i j => .int (i / j)) (tOp (rIxL K) (tVar 0) (tC (.int 2))) (tVar 1)) (gSub (tVar 0) (tC (.int 2)) rSetL)) (tRet (tVar 3)))) tNext)
        (tSeq (tAsg (tOp (rI0 fun i j => .int (i + j)) (tOp (rIxL K) (tVar 0) (tC (.int 4))) (tC (.int 1))) (gSub (tVar 0) (tC (.int 4)) rSetL))
        (tSeq (tAsg (tOp (rI (fun _ j => 0 < j) fun i j => .int (i % j)) (tCB (fun xs H Q => (∃ i, xs = [.int i] ∧ Q (.int i) H) ∨ ∃ k, xs = [.bl k] ∧ Q (.int (if k then 1 else 0)) H) (tCons (tOp (rI CMul fun i j => .int (i * j)) (tCB (fun xs H Q => (∃ i, xs = [.int i] ∧ Q (.int i) H) ∨ ∃ k, xs = [.bl k] ∧ Q (.int (if k then 1 else 0)) H) (tCons (tOp (rI0 fun i j => .int (i + j)) (tOp (rIxL K) (tVar 0) (tC (.int 3))) (tOp (rI CMul fun i j => .int (i * j)) (tC (.int 7919)) (tOp (rIxL K) (tVar 0) (tC (.int 4))))) tNil)) (tC (.int 48271))) tNil)) (tC (.int 2147483647))) (gName 4))
        (tSeq (tAsg (tOp (rI (fun _ j => 0 < j) fun i j => .int (i % j)) (tCB (fun xs H Q => (∃ i, xs = [.int i] ∧ Q (.int i) H) ∨ ∃ k, xs = [.bl k] ∧ Q (.int (if k then 1 else 0)) H) (tCons (tOp (rI CMul fun i j => .int (i * j)) (tVar 4) (tOp (rI0 fun i j => .int (i + j)) (tOp (rI CDiv fun i j => .int (i / j)) (tVar 4) (tC (.int 1009))) (tC (.int 69621)))) tNil)) (tC (.int 2147483647))) (gName 4))
        (tSeq (tAsg (tOp (rI (fun _ j => 0 < j) fun i j => .int (i % j)) (tCB (fun xs H Q => (∃ i, xs = [.int i] ∧ Q (.int i) H) ∨ ∃ k, xs = [.bl k] ∧ Q (.int (if k then 1 else 0)) H) (tCons (tOp (rI CMul fun i j => .int (i * j)) (tVar 4) (tOp (rI0 fun i j => .int (i + j)) (tOp (rI CDiv fun i j => .int (i / j)) (tVar 4) (tC (.int 2003))) (tC (.int 40692)))) tNil)) (tC (.int 2147483399))) (gName 4))
          (tRet (tOp (rI (fun _ j => 0 < j) fun i j => .int (i % j)) (tCB (fun xs H Q => (∃ i, xs = [.int i] ∧ Q (.int i) H) ∨ ∃ k, xs = [.bl k] ∧ Q (.int (if k then 1 else 0)) H) (tCons (tOp (rI CDiv fun i j => .int (i / j)) (tVar 4) (tC (.int 16))) tNil)) (tVar 1)))))))) D σ' H' := fun σ' H' ix b sd ct _ t0 t1 tl q1 q2 q3 => by
      have ix2 : DE (tOp (rIxL K) (tVar 0) (tC (.int 2))) σ' H' (.int b) := de_ix (k := 2) (de_var t0) de_c q2 rfl
      refine ds_when (b := decide (0 < b)) (dt_test (de_B0 ix2 de_c)) (fun hp => ?_) (fun hp => ?_)
      · have hp := of_decide_eq_true hp
        obtain ⟨d, hd1, hd2⟩ := mod_nat (x := b) m0
        refine ds_asg (v := .int (d : Int)) (by rw [← hd1]; exact de_mod (de_int1 (da_cons ix2 da_nil)) (de_var t1) (by omega)) ?_
        have t0' : (σ'.set 3 (some (.int (d : Int))))[0]? = some (some (.ref h)) := by rw [List.getElem?_set_ne (by decide)]; exact t0
        have t1' : (σ'.set 3 (some (.int (d : Int))))[1]? = some (some (.int (m : Int))) := by rw [List.getElem?_set_ne (by decide)]; exact t1
        have t3' : (σ'.set 3 (some (.int (d : Int))))[3]? = some (some (.int (d : Int))) := List.getElem?_set_self (by omega)
        refine ds_setS (k := 2) (v := .int (b / (m : Int))) (de_fdiv (de_ix (k := 2) (de_var t0') de_c q2 rfl) (de_var t1') ⟨by omega, by omega⟩) (de_var t0') de_c q2 (by show 2 < 5; decide) ?_
        refine ds_ret (de_var t3') (fin _ ix (b / (m : Int)) sd ct d (fun a ha => by rw [upd_ne ha]; exact q1 a ha) (by rw [upd_same]; rfl) (Int.ediv_nonneg q3 (by omega)) hd2)
      · have ix4 : DE (tOp (rIxL K) (tVar 0) (tC (.int 4))) σ' H' (.int ct) := de_ix (k := 4) (de_var t0) de_c q2 rfl
        refine ds_setS (k := 4) (v := .int (ct + 1)) (de_add ix4 de_c) (de_var t0) de_c q2 (by show 4 < 5; decide) ?_
        have q2' : (upd H' h (.lst (([.ref ac, .int (ix : Int), .int b, .int sd, .int ct] : List V).set 4 (.int (ct + 1))))) h = some (handL ac ix b sd (ct + 1)) := upd_same
        generalize hH2 : upd H' h (.lst (([.ref ac, .int (ix : Int), .int b, .int sd, .int ct] : List V).set 4 (.int (ct + 1)))) = H2 at q2' ⊢
        have q12 : ∀ a, a ≠ h → H2 a = H a := fun a ha => by rw [← hH2, upd_ne ha]; exact q1 a ha
        obtain ⟨y1, hy1, hz1⟩ := mod_int (x := (sd + 7919 * (ct + 1)) * 48271) (m := (2147483647 : Int)) (by decide)
        refine ds_asg (v := .int (y1 : Int)) (by rw [← hy1]; exact de_mod (de_int1 (da_cons (de_mul (de_int1 (da_cons (de_add (de_ix (k := 3) (de_var t0) de_c q2' rfl) (de_mul de_c (de_ix (k := 4) (de_var t0) de_c q2' rfl) (.inl ⟨by decide, by decide⟩))) da_nil)) de_c (.inr ⟨by decide, by decide⟩)) da_nil)) de_c (by show (0 : Int) < 2147483647; decide)) ?_
        have v4 : (σ'.set 4 (some (.int (y1 : Int))))[4]? = some (some (.int (y1 : Int))) := List.getElem?_set_self (by omega)
        obtain ⟨y2, hy2, hz2⟩ := mod_int (x := (y1 : Int) * ((y1 : Int) / 1009 + 69621)) (m := (2147483647 : Int)) (by decide)
        refine ds_asg (v := .int (y2 : Int)) (by rw [← hy2]; exact de_mod (de_int1 (da_cons (de_mul (de_var v4) (de_add (de_fdiv (de_var v4) de_c ⟨by decide, by decide⟩) de_c) (.inl ⟨by omega, by omega⟩)) da_nil)) de_c (by show (0 : Int) < 2147483647; decide)) ?_
        have v5 : ((σ'.set 4 (some (.int (y1 : Int)))).set 4 (some (.int (y2 : Int))))[4]? = some (some (.int (y2 : Int))) := List.getElem?_set_self (by rw [List.length_set]; omega)
        obtain ⟨y3, hy3, hz3⟩ := mod_int (x := (y2 : Int) * ((y2 : Int) / 2003 + 40692)) (m := (2147483399 : Int)) (by decide)
        refine ds_asg (v := .int (y3 : Int)) (by rw [← hy3]; exact de_mod (de_int1 (da_cons (de_mul (de_var v5) (de_add (de_fdiv (de_var v5) de_c ⟨by decide, by decide⟩) de_c) (.inl ⟨by omega, by omega⟩)) da_nil)) de_c (by show (0 : Int) < 2147483399; decide)) ?_
        have v6 : (((σ'.set 4 (some (.int (y1 : Int)))).set 4 (some (.int (y2 : Int)))).set 4 (some (.int (y3 : Int))))[4]? = some (some (.int (y3 : Int))) := List.getElem?_set_self (by rw [List.length_set, List.length_set]; omega)
        have w1 : (((σ'.set 4 (some (.int (y1 : Int)))).set 4 (some (.int (y2 : Int)))).set 4 (some (.int (y3 : Int))))[1]? = some (some (.int (m : Int))) := by rw [List.getElem?_set_ne (by decide), List.getElem?_set_ne (by decide), List.getElem?_set_ne (by decide)]; exact t1
        obtain ⟨d, hd1, hd2⟩ := mod_nat (x := (y3 : Int) / 16) m0
        exact ds_ret (v := .int (d : Int)) (by rw [← hd1]; exact de_mod (de_int1 (da_cons (de_fdiv (de_var v6) de_c ⟨by decide, by decide⟩) da_nil)) (de_var w1) (by omega)) (fin H2 ix b sd (ct + 1) d q12 q2' q3 hd2)
    have ix0 : DE (tOp (rIxL K) (tVar 0) (tC (.int 0))) σ H (.ref ac) := de_ix (k := 0) (de_var s0) de_c e1 rfl
    have ix1 : DE (tOp (rIxL K) (tVar 0) (tC (.int 1))) σ H (.int (ix : Int)) := de_ix (k := 1) (de_var s0) de_c e1 rfl
    have ix2 : DE (tOp (rIxL K) (tVar 0) (tC (.int 2))) σ H (.int b) := de_ix (k := 2) (de_var s0) de_c e1 rfl
    refine ds_when (b := decide (b = 0) && decide ((ix : Int) < ((cs.map V.int).length : Int))) (dt_and (dt_test (de_eqI ix2 de_c)) fun _ => dt_test (de_B0 ix1 (de_len (da_cons ix0 da_nil) e2))) (fun hp => ?_) (fun hp => half σ H ix b sd ct tNext s0 s1 sl (fun _ _ => rfl) e1 hb)
    rw [Bool.and_eq_true] at hp
    have hi := of_decide_eq_true hp.2
    rw [List.length_map] at hi
    have hi2 : ix < cs.length := by omega
    have hcell : (cs.map V.int)[ix]? = some (.int cs[ix]) := by rw [List.getElem?_map, List.getElem?_eq_getElem hi2]; rfl
    refine ds_asg (v := .int cs[ix]) (de_ix ix0 ix1 e2 hcell) ?_
    have t0 : (σ.set 2 (some (.int cs[ix])))[0]? = some (some (.ref h)) := by rw [List.getElem?_set_ne (by decide)]; exact s0
    have t1 : (σ.set 2 (some (.int cs[ix])))[1]? = some (some (.int (m : Int))) := by rw [List.getElem?_set_ne (by decide)]; exact s1
    have t2 : (σ.set 2 (some (.int cs[ix])))[2]? = some (some (.int cs[ix])) := List.getElem?_set_self (by omega)
    have tl : (σ.set 2 (some (.int cs[ix]))).length = 5 := by rw [List.length_set]; exact sl
    generalize cs[ix] = cell at *
    refine ds_setS (k := 1) (v := .int ((ix : Int) + 1)) (de_add (de_ix (k := 1) (de_var t0) de_c e1 rfl) de_c) (de_var t0) de_c e1 (by show 1 < 5; decide) ?_
    have q2 : (upd H h (.lst (([.ref ac, .int (ix : Int), .int b, .int sd, .int ct] : List V).set 1 (.int ((ix : Int) + 1))))) h = some (handL ac ((ix + 1 : Nat) : Int) b sd ct) := upd_same
    generalize hH1 : upd H h (.lst (([.ref ac, .int (ix : Int), .int b, .int sd, .int ct] : List V).set 1 (.int ((ix : Int) + 1)))) = H1 at q2 ⊢
    have q1 : ∀ a, a ≠ h → H1 a = H a := fun a ha => by rw [← hH1, upd_ne ha]
    refine ds_setS (k := 3) (v := .int ((sd * 69621 + cell + 11) % 2147483629)) (de_mod (de_int1 (da_cons (de_add (de_add (de_mul (de_ix (k := 3) (de_var t0) de_c q2 rfl) de_c (.inr ⟨by decide, by decide⟩)) (de_var t2)) de_c) da_nil)) de_c (by show (0 : Int) < 2147483629; decide)) (de_var t0) de_c q2 (by show 3 < 5; decide) ?_
    generalize (sd * 69621 + cell + 11) % 2147483629 = sd2
    have q4 : (upd H1 h (.lst (([.ref ac, .int ((ix + 1 : Nat) : Int), .int b, .int sd, .int ct] : List V).set 3 (.int sd2)))) h = some (handL ac ((ix + 1 : Nat) : Int) b sd2 ct) := upd_same
    generalize hH2 : upd H1 h (.lst (([.ref ac, .int ((ix + 1 : Nat) : Int), .int b, .int sd, .int ct] : List V).set 3 (.int sd2))) = H2 at q4 ⊢
    have q3 : ∀ a, a ≠ h → H2 a = H a := fun a ha => by rw [← hH2, upd_ne ha]; exact q1 a ha
    refine ds_if (b := decide ((10 : Int) ^ (18 : Int).toNat ≤ cell)) (dt_test (de_B0 (de_var t2) (de_pow (i := 10) (j := 18) de_c de_c ⟨by decide, by decide, by decide⟩))) ?_
    by_cases hc : (10 : Int) ^ (18 : Int).toNat ≤ cell
    · rw [if_pos (decide_eq_true hc)]
      refine ds_set (k := 2) (v := .int cell) (de_var t2) (de_var t0) de_c q4 (by show 2 < 5; decide) ?_
      refine half _ _ (ix + 1) cell sd2 ct tNext t0 t1 tl (fun a ha => by rw [upd_ne ha]; exact q3 a ha) (by rw [upd_same]; rfl) (Int.le_trans (by decide) hc)
    · rw [if_neg (by rw [decide_eq_false hc]; exact Bool.false_ne_true)]
      exact half _ _ (ix + 1) b sd2 ct tNext t0 t1 tl q3 q4 hb
theorem ok_law_any (B : Bt mg) (c_law_draw : Cal P w K mg base CX0 1 "_law_draw" (spM C (HW h ac) (pDraw h))) (F : DefAt K mg "_law_any" s_law_any) : Cal P w K mg base CX0 2 "_law_any" (spM C (HW h ac) (pAny h)) := by
  refine calM F sc_law_any (fun _ _ _ _ _ _ us hl => match us, hl with | [_, _], _ => rfl) (fun ds r h => by cases h; rfl) fun f cdv A outer s H E hr => ⟨_,
    (pss_one (ps_ret (pe_ix (ix_listK K) (pv 1) (pe_cal c_law_draw hr (by decide) rfl pass0 (pa_cons (pv 0) (pa_cons (pe_callB (call_lenK K) (by rfl) B.len_ b_len (pa_cons (pv 1) pa_nil)) pa_nil))) (fun _ _ => rfl)))), fun ds r hp => ?_⟩
  cases hp with
  | mk ds h0 h1 =>
    have hl : 0 < ds.length := List.length_pos_iff.mpr h0
    refine srm_ret (em_op (P1 := fun x => x = .d (.lst ds)) (P2 := fun y => ∃ d : Nat, y = .d (.int (d : Int)) ∧ d < ds.length) (em_of (ed_var rfl) rfl) (fun x _ => em_call (P1 := fun es => es = [.loc h, .d (.int (ds.length : Int))]) (eam_of (ea_cons (ed_var rfl) (ea_cons (ed_cb (ea_cons (ed_var rfl) ea_nil) rc_lenL) ea_nil)) rfl) (Up.refl _) fun es e => by subst e; exact ⟨_, .mk ds.length hl h1, fun d q => q⟩) fun x y hx hy => ?_)
    subst hx
    obtain ⟨d, rfl, hd⟩ := hy
    exact ⟨.d ds[d], rv_ixL (j := d) (List.getElem?_eq_getElem hd) rfl, ds[d], rfl, List.getElem_mem hd⟩
end
end K13

set_option Elab.async false
set_option linter.all false
set_option maxRecDepth 100000
set_option maxHeartbeats 4000000
/-! KW2: loops in worlds. -/
namespace K13
open PySem PySem.Spec PyProof.Rows L2
open Evl (Ex ex_l ex_t sq_of st_of sz_of sz_lt fresh_back)
section
variable {C : CW} {K : PySem.W.Frag} {W W' : Wl} {env env1 env2 : En} {ta tb tc te tl : TE} {tt tu : TT} {x y z d : Sv} {b c : Bool} {t u w tb' : TS} {P R : Sv → Prop} {Pn Pm : Wl → En → Prop} {wi : TI} {g : TG} {Io : Hp → Hp → Prop}
/-- returns; at the end Io holds -/
def SRO (C : CW) (W : Wl) (Io : Hp → Hp → Prop) (t : TS) (env : En) (P : Sv → Prop) : Prop := ∀ (σ : L2.St) (H Hd : Hp), SO C Hd σ env → Ex Hd H → W.I Hd H → ∀ D : Ends,
  (∀ (v : V) (Hd' H' : Hp) (d : Sv), ExM W.M H H' → Ex Hd' H' → NwM W.M Hd H Hd' → Io Hd' H' → P d → RpS C Hd' v d → D.rt v H') → t D σ H
theorem SRO.srm (h : SRO C W W.I t env P) : SRM C W t env P := h
theorem sro_srm (h : SRM C W t env P) (hi : ∀ Hd H, W.I Hd H → Io Hd H) : SRO C W Io t env P := fun σ H Hd s e i D k => h σ H Hd s e i D fun v Hd' H' d e1 e2 n i2 p r => k v Hd' H' d e1 e2 n (hi _ _ i2) p r
theorem sro_seq (h : SNM C W t env Pn) (hM : ∀ W' e', Pn W' e' → W'.M = W.M) (h2 : ∀ W' e', Pn W' e' → SRO C W' Io u e' P) : SRO C W Io (tSeq t u) env P := fun σ H Hd s e i D k =>
  h σ H Hd s e i { D with nx := u D } fun W' env' σ' Hd' H' p e1 e2 n1 i1 s1 => by
    have m := hM W' env' p
    refine h2 W' env' p σ' H' Hd' s1 e2 i1 D fun v Hd2 H2 d e3 e4 n2 i2 p2 r2 => ?_
    rw [m] at e3 n2
    exact k v Hd2 H2 d (e1.trans e3) e4 (n1.trans e1 n2) i2 p2 r2
theorem snm_imp (h : SNM C W t env Pn) (hp : ∀ W' e', Pn W' e' → Pm W' e') : SNM C W t env Pm := fun σ H Hd s e i D k => h σ H Hd s e i D fun W' env' σ' Hd' H' p => k W' env' σ' Hd' H' (hp _ _ p)
theorem snm_of (h : SNx C t env env1) (hp : Pn W env1) : SNM C W t env Pn := fun σ H Hd s e i D k => h σ H Hd s e D fun σ' Hd' H' e1 e2 n1 s1 => k W env1 σ' Hd' H' hp (.of e1) e2 (.of n1) (W.st i e1 e2 n1) s1
theorem snm_asg {i : Nat} (h : EM C W te env P) (hp : ∀ d, P d → Pn W (env.set i (some d))) : SNM C W (tAsg te (gName i)) env Pn := fun σ H Hd s e ii D k =>
  h σ H Hd s e ii _ fun v Hd1 H1 d e1 e2 n1 i1 p1 r1 => k W _ _ Hd1 H1 (hp d p1) e1 e2 n1 i1 ((s.mono n1.1).set r1)
theorem snm_seq (h : SNM C W t env Pm) (hM : ∀ W' e', Pm W' e' → W'.M = W.M) (h2 : ∀ W' e', Pm W' e' → SNM C W' u e' Pn) : SNM C W (tSeq t u) env Pn := fun σ H Hd s e i D k =>
  h σ H Hd s e i { D with nx := u D } fun W' env' σ' Hd' H' p e1 e2 n1 i1 s1 => by
    have m := hM W' env' p
    refine h2 W' env' p σ' H' Hd' s1 e2 i1 D fun W2 env2 σ2 Hd2 H2 p2 e3 e4 n2 i2 s2 => ?_
    rw [m] at e3 n2
    exact k W2 env2 σ2 Hd2 H2 p2 (e1.trans e3) e4 (n1.trans e1 n2) i2 s2
theorem snm_weak (h : SNM C W t env Pm) (hp : ∀ W' e', Pm W' e' → ∃ e2, Pn W' e2 ∧ e2.length = e'.length ∧ ∀ (i : Nat) (d : Sv), e2[i]? = some (some d) → e'[i]? = some (some d)) : SNM C W t env Pn := fun σ H Hd s e i D k =>
  h σ H Hd s e i D fun W' env' σ' Hd' H' p e1 e2 n1 i1 s1 => by
    obtain ⟨ee, q1, q2, q3⟩ := hp W' env' p
    exact k W' ee σ' Hd' H' q1 e1 e2 n1 i1 (s1.weak q2 q3)
/-- for x in source: .. -/
theorem snm_for {α : Type} {enc : α → Da} {P0 : List α → Prop} (S : Nat → Wl → En → Prop) (hM : ∀ i W' e, S i W' e → W'.M = W.M) (h0 : ∀ as, P0 as → S 0 W env) (hs : SrcM C W wi env fun xs => ∃ as, xs = as.map enc ∧ P0 as)
    (hb : ∀ as, P0 as → ∀ (i : Nat) (x : α) (W' : Wl) (e : En), as[i]? = some x → S i W' e → ∃ js E2, GD C g (enc x) e js E2 ∧ SNM C W' tb' E2 (S (i + 1))) (hd : ∀ as, P0 as → ∀ W' e, S as.length W' e → Pn W' e) : SNM C W (tFor wi g tb') env Pn := fun σ0 H0 Hd0 s e i0 D k =>
  hs σ0 H0 Hd0 s e i0 _ fun J Hd1 H1 xs px e1 ex1 n1 i1 js => by
    obtain ⟨as, rfl, p0⟩ := px
    refine ⟨fun i m σ H => m = as.length - i ∧ i ≤ as.length ∧ ∃ (W' : Wl) (e' : En) (Hd : Hp), S i W' e' ∧ ExM W.M H1 H ∧ Ex Hd H ∧ NwM W.M Hd1 H1 Hd ∧ W'.I Hd H ∧ SO C Hd σ e',
      ⟨as.length, by simp, Nat.zero_le _, W, env, Hd1, h0 as p0, ExM.refl _ _, ex1, NwM.refl _ _ _, i1, s.mono n1.1⟩, ?_⟩
    rintro i m σ H ⟨rfl, hi, W', e', Hd, hS, a1, a2, a3, a4, a5⟩
    have hm := hM i W' e' hS
    obtain ⟨q1, q2⟩ := js Hd H a3.1 a2 i
    by_cases hlt : i < as.length
    · have hx : as[i]? = some as[i] := List.getElem?_eq_getElem hlt
      obtain ⟨go, yl⟩ := q1 (enc as[i]) (by rw [List.getElem?_map, hx]; rfl)
      refine .inr ⟨go, fun σ2 H2 => ∃ (W' : Wl) (e' : En) (Hd : Hp), S (i + 1) W' e' ∧ ExM W.M H1 H2 ∧ Ex Hd H2 ∧ NwM W.M Hd1 H1 Hd ∧ W'.I Hd H2 ∧ SO C Hd σ2 e', fun σ2 H2 p2 => ⟨as.length - (i + 1), by omega, rfl, hlt, p2⟩, fun v H2 hy => ?_⟩
      obtain ⟨Hd2, b1, b2, b3, b4⟩ := yl v H2 hy
      obtain ⟨jj, E2, g1, g2⟩ := hb as p0 i _ W' e' hx hS
      refine g1 v σ H2 Hd2 (a5.mono b3.1) b2 b4 _ fun σ2 so2 _ => ?_
      refine g2 σ2 H2 Hd2 so2 b2 (W'.st a4 b1 b2 b3) _ fun W2 e2 σ3 Hd3 H3 p c1 c2 c3 c4 c5 => ?_
      rw [hm] at c1 c3
      exact ⟨W2, e2, Hd3, p, (a1.trans (.of b1)).trans c1, c2, (a3.trans a1 (.of b3)).trans (a1.trans (.of b1)) c3, c4, c5⟩
    · have ei : i = as.length := by omega
      subst ei
      exact .inl ⟨q2 (by rw [List.length_map]; exact Nat.le_refl _), k W' e' σ Hd H (hd as p0 W' e' hS) (e1.trans a1) a2 (n1.trans e1 a3) a4 a5⟩
theorem snm_while (S : Nat → Wl → En → Prop) (hM : ∀ m W' e, S m W' e → W'.M = W.M) (m0 : Nat) (h0 : S m0 W env) (hb : ∀ m W' e, S m W' e → ∃ b, ET C tt e b ∧ (b = true → SNM C W' tb' e fun W2 e2 => ∃ m', m' < m ∧ S m' W2 e2) ∧ (b = false → Pn W' e)) : SNM C W (tWhile tt tb') env Pn := fun σ0 H0 Hd0 s e i0 D k => by
  refine ⟨fun m σ H => ∃ (W' : Wl) (e' : En) (Hd : Hp), S m W' e' ∧ ExM W.M H0 H ∧ Ex Hd H ∧ NwM W.M Hd0 H0 Hd ∧ W'.I Hd H ∧ SO C Hd σ e', ⟨m0, W, env, Hd0, h0, ExM.refl _ _, e, NwM.refl _ _ _, i0, s⟩, ?_⟩
  rintro m σ H ⟨W', e', Hd, hS, a1, a2, a3, a4, a5⟩
  have hm := hM m W' e' hS
  obtain ⟨b, t1, t2, t3⟩ := hb m W' e' hS
  refine t1 σ H Hd a5 a2 _ fun H1 e1 => ?_
  have i1 := W'.st a4 e1 (a2.trans e1) (Nw.refl Hd H)
  cases b with
  | true =>
    rw [if_pos rfl]
    refine ⟨fun σ2 H2 => ∃ m', m' < m ∧ ∃ (W' : Wl) (e' : En) (Hd : Hp), S m' W' e' ∧ ExM W.M H0 H2 ∧ Ex Hd H2 ∧ NwM W.M Hd0 H0 Hd ∧ W'.I Hd H2 ∧ SO C Hd σ2 e', fun σ2 H2 p => p, ?_⟩
    refine t2 rfl σ H1 Hd a5 (a2.trans e1) i1 _ fun W2 e2 σ3 Hd3 H3 ⟨m', p1, p2⟩ c1 c2 c3 c4 c5 => ?_
    rw [hm] at c1 c3
    exact ⟨m', p1, W2, e2, Hd3, p2, (a1.trans (.of e1)).trans c1, c2, a3.trans (a1.trans (.of e1)) c3, c4, c5⟩
  | false =>
    rw [if_neg Bool.false_ne_true]
    exact k W' e' σ Hd H1 (t3 rfl) (a1.trans (.of e1)) (a2.trans e1) a3 i1 a5
/-- for in a world that stays, the slots as S says -/
theorem srm_for {α : Type} {enc : α → Da} {P0 : List α → Prop} (S : En → Prop) (h0 : S env) (hs : SrcM C W wi env fun xs => ∃ as, xs = as.map enc ∧ P0 as)
    (hb : ∀ as, P0 as → ∀ (x : α) (e : En), x ∈ as → S e → ∃ js E2, GD C g (enc x) e js E2 ∧ SNM C W tb' E2 fun W' e' => W' = W ∧ S e') (hd : ∀ e, S e → SRM C W u e P) : SRM C W (tSeq (tFor wi g tb') u) env P :=
  sro_seq (Pn := fun W' e' => W' = W ∧ S e') (snm_for (fun _ W' e' => W' = W ∧ S e') (fun i W' e' h => by rw [h.1]) (fun _ _ => ⟨rfl, h0⟩) hs (fun as p0 i x W' e' hx h => by
    obtain ⟨rfl, h⟩ := h
    exact hb as p0 x e' (List.mem_of_getElem? hx) h) fun as p0 W' e' h => h) (fun W' e' h => by rw [h.1]) fun W' e' h => by
      obtain ⟨rfl, h⟩ := h
      exact hd e' h
theorem srcM_rng {n : Nat} (h : EM C W te env fun d => ∃ k : Nat, k ≤ n ∧ d = .d (.int (k : Int))) (hn : n ≤ 1000000) : SrcM C W (iRng1 (tCons te tNil)) env fun xs => ∃ as, xs = as.map (fun (i : Nat) => Da.int (i : Int)) ∧ ∃ k : Nat, k ≤ n ∧ as = List.range k := fun σ H Hd s e i R k => h σ H Hd s e i _ fun v Hd1 H1 d e1 e2 n1 i1 p1 r1 => by
  obtain ⟨m, hm, rfl⟩ := p1
  cases r1 with
  | d r1 =>
    cases r1
    refine ⟨(m : Int), rfl, by omega, by omega, ?_⟩
    have e0 : ((m : Int)).toNat = m := by omega
    rw [e0]
    refine k _ Hd1 H1 _ ⟨List.range m, rfl, m, hm, rfl⟩ e1 e2 n1 i1 fun Hd2 H2 e3 e4 i => ⟨fun x hx => ?_, fun hi => ?_⟩
    · obtain ⟨hi, ex⟩ := rngD_get (n := m) hx
      refine ⟨hi, fun v H3 hy => ?_⟩
      obtain ⟨rfl, hv⟩ := hy
      rw [Int.zero_add] at hv
      rw [hv, ex]
      exact ⟨Hd2, Ex.refl _, e4, Nw.refl _ _, .int _⟩
    · rw [List.length_map, List.length_range] at hi
      exact hi
end
end K13

set_option Elab.async false
set_option linter.all false
set_option maxRecDepth 100000
set_option maxHeartbeats 4000000
/-! KH3: a lot is drawn; a standing; a deep thing. -/
namespace K13
open PySem PySem.Spec PyProof.Rows L2
open Evl (Ex ex_l ex_t sq_of st_of sz_of sz_lt fresh_back)
def intsV (l : List Nat) : List V := l.map fun (n : Nat) => V.int (n : Int)
def intsD (l : List Nat) : List Da := l.map fun (n : Nat) => Da.int (n : Int)
theorem ints_rp {H : Hp} (l : List Nat) : RpL H (intsV l) (intsD l) := by
  have e1 : intsV l = (l.map fun (n : Nat) => (n : Int)).map V.int := by unfold intsV; rw [List.map_map]; rfl
  have e2 : intsD l = (l.map fun (n : Nat) => (n : Int)).map Da.int := by unfold intsD; rw [List.map_map]; rfl
  rw [e1, e2]
  exact RpL.ints _
inductive pLotD (h : Addr) : List Sv → (Sv → Prop) → Prop | mk (ns : List Nat) (k : Nat) (nd : ns.Nodup) (h0 : ns ≠ []) (hz : ns.length ≤ 1000) (hk : 1 ≤ k) : pLotD h [.loc h, .d (.lst (intsD ns)), .d (.int (k : Int))] fun r => ∃ l : List Nat, r = .d (lotD l) ∧ Asc l ∧ (∀ x, x ∈ l → x ∈ ns) ∧ l ≠ []
inductive pBegin (h : Addr) : List Sv → (Sv → Prop) → Prop | mk (p : Nat) (hp : p ≤ 10) : pBegin h [.loc h, .d (.int (p : Int))] fun r => ∃ st : List Nat, r = .d (lotD st) ∧ st.length = p
/-- what is deep is no lot, no standing -/
theorem sm_one {d : Da} (h : ∀ k, sm k d) (k : Nat) : sm k (.tup [d]) := by
  cases k with
  | zero => trivial
  | succ k =>
    refine ⟨by show 1 ≤ 1000; decide, fun x hx => ?_⟩
    rw [List.mem_singleton.mp hx]
    exact h k
def Deep (d : Da) : Prop := isI d = false ∧ (∀ xs, d = .tup xs → ∃ x, xs = [x] ∧ isI x = false) ∧ ∀ k, sm k d
inductive pDeep (h : Addr) : List Sv → (Sv → Prop) → Prop | mk : pDeep h [.loc h] fun r => ∃ d, r = .d d ∧ Deep d
theorem deep_tup {d : Da} (h : Deep d) : Deep (.tup [d]) := ⟨rfl, fun xs e => ⟨d, (Da.tup.inj e).symm, h.1⟩, sm_one h.2.2⟩
theorem deep_sm {d : Da} (h2 : isT d = false) (k : Nat) : sm k d := by
  cases k with
  | zero => trivial
  | succ k =>
    cases d with
    | tup xs => cases h2
    | _ => trivial
theorem deep_flat {d : Da} (h1 : isI d = false) (h2 : isT d = false) : Deep d := ⟨h1, (fun xs e => by rw [e] at h2; cases h2), deep_sm h2⟩
theorem map_erase {α β : Type} (f : α → β) : ∀ (l : List α) (i : Nat), (l.map f).eraseIdx i = (l.eraseIdx i).map f
  | [], _ => rfl
  | _ :: _, 0 => rfl
  | a :: l, i + 1 => by
    show f a :: (l.map f).eraseIdx i = f a :: (l.eraseIdx i).map f
    rw [map_erase f l i]
theorem eraseIdx_perm {α : Type} : ∀ (l : List α) (i : Nat) (h : i < l.length), (l[i] :: l.eraseIdx i).Perm l
  | a :: l, 0, _ => .refl _
  | a :: l, i + 1, h => by
    have h' : i < l.length := by simpa using h
    show (l[i]'h' :: a :: l.eraseIdx i).Perm (a :: l)
    exact (List.Perm.swap _ _ _).trans ((eraseIdx_perm l i h').cons a)
abbrev s_law_lot : Stmt := topS 62
theorem sc_law_lot : FnScope ["hand", "things", "size", "left", "found"] ["hand", "things", "size"] (defScope s_law_lot) := ⟨rfl, rfl, rfl, by decide +kernel, rfl, by decide +kernel, by decide +kernel⟩
abbrev s_law_begin : Stmt := topS 64
theorem sc_law_begin : FnScope ["hand", "places", "place"] ["hand", "places"] (defScope s_law_begin) := ⟨rfl, rfl, rfl, by decide +kernel, rfl, by decide +kernel, by decide +kernel⟩
abbrev s_law_deep : Stmt := topS 78
theorem sc_law_deep : FnScope ["hand", "thing", "turn"] ["hand"] (defScope s_law_deep) := ⟨rfl, rfl, rfl, by decide +kernel, rfl, by decide +kernel, by decide +kernel⟩
theorem cons_call {sp : Sp} {E : XK} {t tr : TA} {σ : L2.St} {H : Hp} {Q : List V → Hp → Prop} (h : t σ H fun vs H1 => sp (vs ++ []) H1 (fun v H2 => tr σ H2 fun us H3 => Q (v :: us) H3) E) : tCons (tCall sp [] E t) tr σ H Q := h
section
variable {P : Program} {w : World} {K : PySem.W.Frag} {mg : Str → Option Value} {base : Heap} {C : CW} {h ac : Addr}
theorem ok_law_lot (B : Bt mg) (c_law_draw : Cal P w K mg base CX0 1 "_law_draw" (spM C (HW h ac) (pDraw h))) (F : DefAt K mg "_law_lot" s_law_lot) : Cal P w K mg base CX0 2 "_law_lot" (spM C (HW h ac) (pLotD h)) := by
  refine calM F sc_law_lot (fun _ _ _ _ _ _ us hl => match us, hl with | [_, _, _], _ => rfl) (fun ds r h => by cases h; rfl) fun f cdv A outer s H E hr => ⟨_,
    (pss_cons (ps_par (i := 3) (j := 4) rfl sc_law_lot.nd rfl rfl (by decide) rfl rfl (pa_cons (pe_callTy (call_listK K) (by rfl) B.list_ b_list (pa_cons (pv 1) pa_nil)) (pa_cons (pe_lst pa_nil) pa_nil)) rfl)
      (pss_cons (ps_while PassesOwn.never (PW.pt (pw_and (pt_cmpR op_gt (pe_callB (call_lenK K) (by rfl) B.len_ b_len (pa_cons (pv 3) pa_nil)) pe_int (nomark _)) (pw_and1 (pt_cmpR op_lt (pe_callB (call_lenK K) (by rfl) B.len_ b_len (pa_cons (pv 4) pa_nil)) (pv 2) (nomark _))))) (pss_one (ps_expr (pe_bm PySem.F.plainAttrs_list PySem.F.slot_list_append PySem.F.type_list_append mt_append (pv 4) (pa_cons (pe_bm PySem.F.plainAttrs_list PySem.F.slot_list_pop PySem.F.type_list_pop mt_popAt (pv 3) (pa_cons (pe_cal c_law_draw hr (by decide) rfl pass0 (pa_cons (pv 0) (pa_cons (pe_callB (call_lenK K) (by rfl) B.len_ b_len (pa_cons (pv 3) pa_nil)) pa_nil))) pa_nil)) pa_nil)))))
      (pss_one (ps_ret (pe_callTy (call_tupK K) (by rfl) B.tuple_ b_tuple (pa_cons (pe_callB (cr_sortB K encI hr.units) (by rfl) B.sorted_ b_sorted (pa_cons (pv 4) pa_nil)) pa_nil)))))), fun ds r hp => ?_⟩
  cases hp with
  | mk ns kk nd h0 hz hk =>
    intro σ H Hd so e i D k
    have s0 : σ[0]? = some (some (.ref h)) := by
      obtain ⟨v, h1, h2⟩ := so.get 0 (.loc h) rfl
      cases h2
      exact h1
    have s2 : σ[2]? = some (some (.int (kk : Int))) := by
      obtain ⟨v, h1, h2⟩ := so.get 2 (.d (.int (kk : Int))) rfl
      cases h2 with
      | d h2 =>
        cases h2
        exact h1
    obtain ⟨a1, s1, hd1⟩ : ∃ a1, σ[1]? = some (some (.ref a1)) ∧ Hd a1 = some (.lst (intsV ns)) := by
      obtain ⟨v, h1, h2⟩ := so.get 1 (.d (.lst (intsD ns))) rfl
      cases h2 with
      | d h2 =>
        cases h2 with
        | @lst a us _ g l =>
          have : us = intsV ns := lot_vals l
          exact ⟨a, h1, by rw [g, this]⟩
    have sl : σ.length = 5 := so.len
    refine (de_var (v := .ref a1) s1 _ ⟨a1, intsV ns, rfl, .inl (sq_of (e _ _ hd1)), fun L1 hL1 => ⟨Nat.zero_le _, fun L2 hL2 => ⟨.ref L1, .ref L2, rfl, ?_⟩⟩⟩)
    have n12 : L2 ≠ L1 := fun z => by rw [z, upd_same] at hL2; cases hL2
    have hL2' : H L2 = none := by rw [upd_ne n12] at hL2; exact hL2
    obtain ⟨g1, g2, gne, cs, ix, b, sd, ct, e1, e2, hb⟩ := i
    have l1h : L1 ≠ h := fun z => by rw [z, e1] at hL1; cases hL1
    have l1a : L1 ≠ ac := fun z => by rw [z, e2] at hL1; cases hL1
    have l2h : L2 ≠ h := fun z => by rw [z, e1] at hL2'; cases hL2'
    have l2a : L2 ≠ ac := fun z => by rw [z, e2] at hL2'; cases hL2'
    generalize hσ : (σ.set 3 (some (.ref L1))).set 4 (some (.ref L2)) = σ2
    have t0 : σ2[0]? = some (some (.ref h)) := by rw [← hσ, List.getElem?_set_ne (by decide), List.getElem?_set_ne (by decide)]; exact s0
    have t2 : σ2[2]? = some (some (.int (kk : Int))) := by rw [← hσ, List.getElem?_set_ne (by decide), List.getElem?_set_ne (by decide)]; exact s2
    have t3 : σ2[3]? = some (some (.ref L1)) := by rw [← hσ, List.getElem?_set_ne (by decide)]; exact List.getElem?_set_self (by omega)
    have t4 : σ2[4]? = some (some (.ref L2)) := by rw [← hσ]; exact List.getElem?_set_self (by rw [List.length_set]; omega)
    have tl : σ2.length = 5 := by rw [← hσ, List.length_set, List.length_set]; exact sl
    let St : List Nat → List Nat → Hp → Prop := fun l1 l2 H' => H' L1 = some (.lst (intsV l1)) ∧ H' L2 = some (.lst (intsV l2)) ∧ HandI h ac Hd H' ∧ (l1 ++ l2).Perm ns ∧ ExM (HW h ac).M H H'
    refine ⟨fun m σ' H' => σ' = σ2 ∧ ∃ l1 l2, m = l1.length ∧ St l1 l2 H', ⟨ns.length, rfl, ns, [], rfl, ?_, upd_same, ?_, by rw [List.append_nil], ?_⟩, ?_⟩
    · rw [upd_ne (Ne.symm n12), upd_same]
    · exact ⟨g1, g2, gne, cs, ix, b, sd, ct, by rw [upd_ne (Ne.symm l2h), upd_ne (Ne.symm l1h)]; exact e1, by rw [upd_ne (Ne.symm l2a), upd_ne (Ne.symm l1a)]; exact e2, hb⟩
    · exact .of ((Ex.new hL1).trans (Ex.new hL2))
    rintro m σ' H' ⟨rfl, l1, l2, rfl, q1, q2, q3, q4, q5⟩
    have hlen : l1.length + l2.length = ns.length := by rw [← List.length_append]; exact q4.length_eq
    have dl1 : DE (tCB (rLenK K) (tCons (tVar 3) tNil)) σ' H' (.int (l1.length : Int)) := by
      have := de_len (K := K) (da_cons (de_var t3) da_nil) q1
      unfold intsV at this
      rw [List.length_map] at this
      exact this
    have dl2 : DE (tCB (rLenK K) (tCons (tVar 4) tNil)) σ' H' (.int (l2.length : Int)) := by
      have := de_len (K := K) (da_cons (de_var t4) da_nil) q2
      unfold intsV at this
      rw [List.length_map] at this
      exact this
    refine dt_and (b := decide ((0 : Int) < (l1.length : Int))) (c := decide ((l2.length : Int) < (kk : Int))) (dt_test (de_B0 dl1 de_c)) (fun _ => dt_test (de_B0 dl2 (de_var t2))) _ ?_
    by_cases hc : (decide ((0 : Int) < (l1.length : Int)) && decide ((l2.length : Int) < (kk : Int))) = true
    · rw [if_pos hc]
      rw [Bool.and_eq_true, decide_eq_true_eq, decide_eq_true_eq] at hc
      refine ⟨fun σ3 H3 => σ3 = σ' ∧ ∃ l1' l2', l1'.length < l1.length ∧ St l1' l2' H3, fun σ3 H3 ⟨r1, l1', l2', r2, r3⟩ => ⟨l1'.length, r2, r1, l1', l2', rfl, r3⟩, ?_⟩
      refine ⟨_, t4, .inl ⟨rfl, _, sq_of q2⟩, _, t3, .inl ⟨rfl, _, sq_of q1⟩, ?_⟩
      refine cons_call ?_
      refine da_cons (de_var t0) (da_cons dl1 da_nil) _ ?_
      refine ⟨fun _ => none, [.loc h, .d (.int (l1.length : Int))], _, (fun _ _ z => nomatch z), ⟨rfl, rfl, q3.2.2⟩, .cons (.loc h) (.cons (.d (.int _)) .nil), pDraw.mk l1.length (by omega) (by omega), fun v Hd' H2 d m1 m2 m3 m4 m5 m6 => ?_⟩
      obtain ⟨dd, rfl, hdd⟩ := m5
      cases m6 with
      | d m6 =>
        cases m6
        have z1 : H2 L1 = some (.lst (intsV l1)) := m1.1 _ _ (by rintro (z | z); exact l1h z; exact l1a z) q1
        have z2 : H2 L2 = some (.lst (intsV l2)) := m1.1 _ _ (by rintro (z | z); exact l2h z; exact l2a z) q2
        refine ⟨L1, intsV l1, (dd : Int), dd, .int ((l1[dd] : Nat) : Int), rfl, rfl, z1, by omega, by omega, ?_, ?_, ?_⟩
        · unfold seqIndex?
          have : (intsV l1).length = l1.length := by unfold intsV; rw [List.length_map]
          rw [this]
          simp
          omega
        · unfold intsV
          rw [List.getElem?_map, List.getElem?_eq_getElem hdd]
          rfl
        · refine ⟨L2, intsV l2, .int ((l1[dd] : Nat) : Int), rfl, rfl, by rw [upd_ne n12]; exact z2, sz_lt (by unfold intsV; rw [List.length_map]; omega), rfl, l1.eraseIdx dd, l2 ++ [l1[dd]], by rw [List.length_eraseIdx_of_lt hdd]; omega, ?_, ?_, ?_, ?_, ?_⟩
          · rw [upd_ne (Ne.symm n12), upd_same]
            unfold intsV
            rw [map_erase]
          · rw [upd_same]
            unfold intsV
            rw [List.map_append]
            rfl
          · exact m4.same (by rw [upd_ne (Ne.symm l2h), upd_ne (Ne.symm l1h)]) (by rw [upd_ne (Ne.symm l2a), upd_ne (Ne.symm l1a)]) g1 g2
          · refine List.Perm.trans ?_ q4
            have p1 : (l1.eraseIdx dd ++ (l2 ++ [l1[dd]])).Perm (l1[dd] :: (l1.eraseIdx dd ++ l2)) := by
              rw [← List.append_assoc]
              exact List.perm_append_comm
            exact p1.trans ((eraseIdx_perm l1 dd hdd).append_right l2)
          · have z := q5.trans m1
            refine ⟨fun a o hm ha => ?_, fun a ha => ?_⟩
            · rw [upd_ne (fun y => by rw [y, hL2'] at ha; cases ha), upd_ne (fun y => by rw [y, hL1] at ha; cases ha)]
              exact z.1 a o hm ha
            · rw [upd_ne (fun y => ha (by rw [y]; exact hL2')), upd_ne (fun y => ha (by rw [y]; exact hL1))]
              exact z.2 a ha
    · rw [if_neg hc]
      have hd2 : Hd L2 = none := by
        cases q : Hd L2 with
        | none => rfl
        | some o =>
          have := e _ _ q
          rw [hL2'] at this
          cases this
      have ex2 : Ex (upd Hd L2 (.lst (intsV l2))) H' := fun a o ha => by
        by_cases z : a = L2
        · rw [z, upd_same] at ha
          rw [z, q2]
          exact ha
        · rw [upd_ne z] at ha
          refine q5.1 a o ?_ (e a o ha)
          rintro (y | y)
          · rw [y, g1] at ha
            cases ha
          · rw [y, g2] at ha
            cases ha
      have so2 : SO C (upd Hd L2 (.lst (intsV l2))) σ' [none, none, none, none, some (.d (.lst (intsD l2)))] := ⟨tl, fun j d hj => by
        match j, hj with
        | 4, hj =>
          have y := Option.some.inj (Option.some.inj hj)
          subst y
          exact ⟨_, t4, .d (.lst upd_same (ints_rp l2))⟩
        | 0, hj => exact nomatch (Option.some.inj hj)
        | 1, hj => exact nomatch (Option.some.inj hj)
        | 2, hj => exact nomatch (Option.some.inj hj)
        | 3, hj => exact nomatch (Option.some.inj hj)
        | j + 5, hj => exact nomatch hj⟩
      have hl2 : l2.Nodup := (q4.nodup_iff.mpr nd).sublist (List.sublist_append_right _ _)
      refine (ed_cb (ea_cons (ed_cb (ea_cons (ed_var rfl) ea_nil) (rc_sortNats (l := l2) (by omega))) ea_nil) rc_tupL : ED C _ _ _) σ' H' _ so2 ex2 D.rt fun v Hd3 H3 m1 m2 m3 m4 => ?_
      have nk : ∀ a, Hd a = none → a ≠ L2 → H' a ≠ none → Hd3 a = none := fun a ha hn hh => m3.2 a (by rw [upd_ne hn]; exact ha) hh
      refine k v Hd3 H3 _ (q5.trans (.of m1)) m2 ⟨(Ex.new hd2).trans m3.1, fun a hm ha hh => nk a ha (fun z => hh (by rw [z]; exact hL2')) (q5.2 a hh)⟩ ?_ ⟨l2.mergeSort fun a b => decide (a ≤ b), rfl, sortNat_asc hl2, fun x hx => ?_, fun z => ?_⟩ m4
      · have st := q3.stay m1 (Hd' := Hd) ⟨Ex.refl _, fun a ha _ => ha⟩
        obtain ⟨cs', ix', b', sd', ct', y1, y2, y3⟩ := q3.2.2.2
        exact st.same rfl rfl (nk h g1 (Ne.symm l2h) (by rw [y1]; exact (fun z => nomatch z))) (nk ac g2 (Ne.symm l2a) (by rw [y2]; exact (fun z => nomatch z)))
      · rw [(List.mergeSort_perm _ _).mem_iff] at hx
        exact q4.mem_iff.mp (List.mem_append_right _ hx)
      · have z2 : l2 = [] := by
          have := (List.mergeSort_perm l2 (fun a b => decide (a ≤ b))).length_eq
          rw [z] at this
          exact List.eq_nil_of_length_eq_zero this.symm
        subst z2
        have hn : 0 < ns.length := List.length_pos_iff.mpr h0
        refine hc ?_
        rw [Bool.and_eq_true, decide_eq_true_eq, decide_eq_true_eq]
        simp only [List.length_nil] at hlen ⊢
        omega
theorem any_ints {P : Sv → Prop} {env : En} {ta : TA} {W : Wl} {E : XK} (ds : List Da) (h0 : ds ≠ []) (h1 : ds.length ≤ 100000) (up : Up (HW h ac) W) (ha : EA C ta env [.loc h, .d (.lst ds)]) (hp : ∀ x, x ∈ ds → P (.d x)) : EM C W (tCall (spM C (HW h ac) (pAny h)) [] E ta) env P :=
  em_call (P1 := fun es => es = [.loc h, .d (.lst ds)]) (eam_of ha rfl) up fun es e => by
    subst e
    exact ⟨_, .mk ds h0 h1, fun d ⟨x, e, hx⟩ => by rw [e]; exact hp x hx⟩
theorem draw_m {P : Sv → Prop} {env : En} {ta : TA} {W : Wl} {E : XK} (m : Nat) (h0 : 0 < m) (h1 : m ≤ 100000) (up : Up (HW h ac) W) (ha : EA C ta env [.loc h, .d (.int (m : Int))]) (hp : ∀ d : Nat, d < m → P (.d (.int (d : Int)))) : EM C W (tCall (spM C (HW h ac) (pDraw h)) [] E ta) env P :=
  em_call (P1 := fun es => es = [.loc h, .d (.int (m : Int))]) (eam_of ha rfl) up fun es e => by
    subst e
    exact ⟨_, .mk m h0 h1, fun d ⟨x, e, hx⟩ => by rw [e]; exact hp x hx⟩
theorem ok_law_begin (B : Bt mg) (c_law_any : Cal P w K mg base CX0 2 "_law_any" (spM C (HW h ac) (pAny h))) (F : DefAt K mg "_law_begin" s_law_begin) : Cal P w K mg base CX0 3 "_law_begin" (spM C (HW h ac) (pBegin h)) := by
  refine calM F sc_law_begin (fun _ _ _ _ _ _ us hl => match us, hl with | [_, _], _ => rfl) (fun ds r h => by cases h; rfl) fun f cdv A outer s H E hr => ⟨_,
    (pss_one (ps_ret (pe_callTy (call_tupK K) (by rfl) B.tuple_ b_tuple (pa_cons (pe_lc (own := [("place", 2)]) rfl sc_law_begin.nd (pi_range1 rfl B.range_ (pa_cons (pv 1) pa_nil)) (blkOk_by (by kernel_rfl)) (fun _ _ _ _ _ => pg_name (i := 2) sc_law_begin.nd rfl (Or.inl rfl)) (fun _ _ _ _ _ => pts_nil) (fun _ _ _ _ _ => (pe_cal c_law_any hr (by decide) rfl pass0 (pa_cons (pv 0) (pa_cons (pe_lst (pa_cons pe_int (pa_cons pe_int (pa_cons pe_int (pa_cons pe_int (pa_cons pe_int (pa_cons pe_int pa_nil))))))) pa_nil))))) pa_nil)))), fun ds r hp => ?_⟩
  cases hp with
  | mk p hp =>
    refine srm_ret (em_cb (P1 := fun ds => ∃ ys : List Da, All2 (fun (_ : Nat) y => ∃ n : Nat, y = .int (n : Int)) (List.range p) ys ∧ ds = [.d (.lst ys)]) (eam_imp (eam_cons (P2 := fun _ ds => ds = []) (em_lc (α := Nat) (P0 := fun as => as = List.range p) (enc := fun (i : Nat) => Da.int (i : Int)) (fun _ y => ∃ n : Nat, y = .int (n : Int)) _ (srcM_of (src_rng (ea_cons (ed_var rfl) ea_nil) (by omega)) ⟨_, rfl, rfl⟩) (fun as e => by rw [e, List.length_range]; omega) (fun j h => h) (fun as x _ _ => gd_name)
      (fun as x _ _ => any_ints [.int 0, .int 0, .int 1, .int 1, .int 1, .int 2] (by simp) (by show 6 ≤ 100000; decide) (Up.refl _) (ea_cons (ed_var rfl) (ea_cons (ed_lst (ds := [.int 0, .int 0, .int 1, .int 1, .int 1, .int 2]) (ea_cons ed_int (ea_cons ed_int (ea_cons ed_int (ea_cons ed_int (ea_cons ed_int (ea_cons ed_int ea_nil)))))) (by show 6 ≤ 100000; decide)) ea_nil)) (fun x hx => ⟨x, rfl, by
        simp only [List.mem_cons, List.not_mem_nil, or_false] at hx
        rcases hx with rfl | rfl | rfl | rfl | rfl | rfl
        · exact ⟨0, rfl⟩
        · exact ⟨0, rfl⟩
        · exact ⟨1, rfl⟩
        · exact ⟨1, rfl⟩
        · exact ⟨1, rfl⟩
        · exact ⟨2, rfl⟩⟩))) fun d hd => eam_nil) fun ds ⟨d, es, ⟨as, ys, e1, e2, e3⟩, e4, e5⟩ => by
          subst e1 e3 e4 e5
          exact ⟨ys, e2, rfl⟩) fun ds ⟨ys, h1, h2⟩ => ?_)
    subst h2
    have key : ∀ {as : List Nat} {ys : List Da}, All2 (fun (_ : Nat) y => ∃ n : Nat, y = .int (n : Int)) as ys → ∃ l : List Nat, ys = intsD l ∧ l.length = as.length := fun {as ys} q => by
      induction q with
      | nil => exact ⟨[], rfl, rfl⟩
      | cons hx _ ih =>
        obtain ⟨n, rfl⟩ := hx
        obtain ⟨l, rfl, hl⟩ := ih
        exact ⟨n :: l, rfl, by rw [List.length_cons, List.length_cons, hl]⟩
    obtain ⟨l, rfl, hl⟩ := key h1
    exact ⟨_, rc_tupL, l, rfl, by rw [hl, List.length_range]⟩
theorem ok_law_deep (B : Bt mg) (c_law_draw : Cal P w K mg base CX0 1 "_law_draw" (spM C (HW h ac) (pDraw h))) (c_law_any : Cal P w K mg base CX0 2 "_law_any" (spM C (HW h ac) (pAny h))) (F : DefAt K mg "_law_deep" s_law_deep) : Cal P w K mg base CX0 3 "_law_deep" (spM C (HW h ac) (pDeep h)) := by
  refine calM F sc_law_deep (fun _ _ _ _ _ _ us hl => match us, hl with | [_], _ => rfl) (fun ds r h => by cases h; rfl) fun f cdv A outer s H E hr => ⟨_,
    (pss_cons (ps_set (i := 1) sc_law_deep.nd rfl (Or.inl rfl) (pe_cal c_law_any hr (by decide) rfl pass0 (pa_cons (pv 0) (pa_cons (pe_lst (pa_cons pe_non (pa_cons pe_str (pa_cons pe_dnewK pa_nil)))) pa_nil))))
      (pss_cons (ps_for PassesOwn.never rfl (pi_range1 rfl B.range_ (pa_cons (pe_op op_add pe_int (pe_cal c_law_draw hr (by decide) rfl pass0 (pa_cons (pv 0) (pa_cons pe_int pa_nil)))) pa_nil)) (pg_name (i := 2) sc_law_deep.nd rfl (Or.inl rfl)) (pss_one (ps_set (i := 1) sc_law_deep.nd rfl (Or.inl rfl) (pe_cal c_law_any hr (by decide) rfl pass0 (pa_cons (pv 0) (pa_cons (pe_lst (pa_cons (pe_tup (pa_cons (pv 1) pa_nil)) (pa_cons (pe_lst (pa_cons (pv 1) pa_nil)) (pa_cons (pe_disp (pps_cons pe_int (pv 1) pps_nil) (by rfl) (by rfl) (fun z => by cases z) (by decide)) pa_nil)))) pa_nil))))))
      (pss_one (ps_ret (pv 1))))), fun ds r hp => ?_⟩
  cases hp with
  | mk =>
    refine srm_asg (P := fun d => ∃ x, d = .d x ∧ Deep x) (any_ints [.non, .str "lot", .dic] (by simp) (by show 3 ≤ 100000; decide) (Up.refl _) (ea_cons (ed_var rfl) (ea_cons (ed_lst (ds := [.non, .str "lot", .dic]) (ea_cons ed_non (ea_cons ed_str (ea_cons ed_dnew ea_nil))) (by show 3 ≤ 100000; decide)) ea_nil)) fun x hx => ⟨x, rfl, by
      simp only [List.mem_cons, List.not_mem_nil, or_false] at hx
      rcases hx with rfl | rfl | rfl
      · exact deep_flat rfl rfl
      · exact deep_flat rfl rfl
      · exact deep_flat rfl rfl⟩) fun d hd => ?_
    obtain ⟨x, rfl, dx⟩ := hd
    refine srm_for (fun e => ∃ x, e = [some (.loc h), some (.d x), none] ∧ Deep x) ⟨x, rfl, dx⟩ (srcM_rng (n := 30) (em_op (P1 := fun x => x = .d (.int 1)) (P2 := fun y => ∃ d : Nat, y = .d (.int (d : Int)) ∧ d < 30) (em_of ed_int rfl) (fun _ _ => draw_m 30 (by decide) (by decide) (Up.refl _) (ea_cons (ed_var rfl) (ea_cons ed_int ea_nil)) fun d hd => ⟨d, rfl, hd⟩) fun x y hx hy => by
      obtain ⟨d, rfl, hd⟩ := hy
      subst hx
      exact ⟨_, rv_I0, d + 1, by omega, by show Sv.d (.int (1 + (d : Int))) = _; rw [Int.add_comm]; rfl⟩) (by decide)) (fun as has x e hx he => ?_) (fun e he => ?_)
    · obtain ⟨y, rfl, dy⟩ := he
      refine ⟨_, _, gd_name, snm_weak (Pm := fun W' e' => ∃ z, W' = HW h ac ∧ e' = [some (.loc h), some (.d z), some (.d (.int (x : Int)))] ∧ Deep z) (snm_asg (P := fun d => ∃ z, d = .d z ∧ Deep z) (any_ints [.tup [y], .lst [y], .dic] (by simp) (by show 3 ≤ 100000; decide) (Up.refl _) (ea_cons (ed_var rfl) (ea_cons (ed_lst (ds := [.tup [y], .lst [y], .dic]) (ea_cons (ed_tup (ds := [y]) (ea_cons (ed_var rfl) ea_nil) lz1) (ea_cons (ed_lst (ds := [y]) (ea_cons (ed_var rfl) ea_nil) lz1) (ea_cons (ed_disp1 (ed_var (d := .d y) rfl)) ea_nil))) (by show 3 ≤ 100000; decide)) ea_nil)) fun z hz => ⟨z, rfl, by
        simp only [List.mem_cons, List.not_mem_nil, or_false] at hz
        rcases hz with rfl | rfl | rfl
        · exact deep_tup dy
        · exact deep_flat rfl rfl
        · exact deep_flat rfl rfl⟩) fun d ⟨z, hz, dz⟩ => ⟨z, rfl, by rw [hz]; rfl, dz⟩) fun W' e' ⟨z, h1, h2, h3⟩ => ⟨[some (.loc h), some (.d z), none], ⟨h1, z, rfl, h3⟩, by rw [h2]; rfl, fun j d hj => ?_⟩⟩
      rw [h2]
      match j, hj with
      | 0, hj => exact hj
      | 1, hj => exact hj
      | 2, hj => exact nomatch (Option.some.inj hj)
      | j + 3, hj => exact nomatch hj
    · obtain ⟨y, rfl, dy⟩ := he
      exact srm_of (sr_ret (ed_var rfl)) ⟨y, rfl, dy⟩
end
end K13

set_option Elab.async false
set_option linter.all false
set_option maxRecDepth 100000
set_option maxHeartbeats 4000000
/-! KH4: an answer is bent. -/
namespace K13
open PySem PySem.Spec PyProof.Rows L2
open Evl (Ex ex_l ex_t sq_of st_of sz_of sz_lt fresh_back)
section
variable {C : CW} {W : Wl} {env : En} {ta tb te : TE} {P Q : Sv → Prop} {g : TG} {Pn : Wl → En → Prop}
theorem eam1 (h : EM C W ta env P) : EAM C W (tCons ta tNil) env fun ds => ∃ a, P a ∧ ds = [a] := eam_imp (eam_cons (P2 := fun _ ds => ds = []) h fun _ _ => eam_nil) fun ds ⟨a, es, p, e1, e2⟩ => ⟨a, p, by rw [e2, e1]⟩
theorem eam2 (h : EM C W ta env P) (h2 : EM C W tb env Q) : EAM C W (tCons ta (tCons tb tNil)) env fun ds => ∃ a b, P a ∧ Q b ∧ ds = [a, b] :=
  eam_imp (eam_cons (P2 := fun _ ds => ∃ b, Q b ∧ ds = [b]) h fun _ _ => eam1 h2) fun ds ⟨a, es, p, ⟨b, q, e1⟩, e2⟩ => ⟨a, b, p, q, by rw [e2, e1]⟩
theorem eam_ed {tr : TA} {a : Sv} {Pl : List Sv → Prop} (ha : ED C ta env a) (hr : EAM C W tr env Pl) : EAM C W (tCons ta tr) env fun ds => ∃ es, Pl es ∧ ds = a :: es :=
  eam_imp (eam_cons (P := fun d => d = a) (P2 := fun _ => Pl) (em_of ha rfl) fun _ _ => hr) fun ds ⟨d, es, e1, p, e2⟩ => ⟨es, p, by rw [e2, e1]⟩
theorem snm_asgG {Px : Da → Prop} (h : EM C W te env fun d => ∃ x, d = .d x ∧ Px x) (hg : ∀ x, Px x → ∃ js e2, GD C g x env js e2 ∧ Pn W e2) : SNM C W (tAsg te g) env Pn := fun σ H Hd s e i D k => h σ H Hd s e i _ fun v Hd1 H1 d e1 e2 n1 i1 p1 r1 => by
  obtain ⟨x, rfl, px⟩ := p1
  obtain ⟨js, ee, g1, g2⟩ := hg x px
  cases r1 with
  | d r1 => exact g1 v σ H1 Hd1 (s.mono n1.1) e2 r1 _ fun σ2 s2 _ => k W ee σ2 Hd1 H1 g2 e1 e2 n1 i1 s2
end
def smA (d : Da) : Prop := ∀ k, sm k d
theorem smA_tup {xs : List Da} (h : xs.length ≤ 1000) (hx : ∀ x, x ∈ xs → smA x) : smA (.tup xs) := fun k => by
  cases k with
  | zero => trivial
  | succ k => exact ⟨h, fun x q => hx x q k⟩
theorem smA_flat {d : Da} (h : isT d = false) : smA d := deep_sm h
theorem smA_lot {l : List Nat} (h : l.length ≤ 1000) : smA (lotD l) := smA_tup (by rw [List.length_map]; exact h) fun x hx => by
  obtain ⟨n, _, rfl⟩ := List.mem_map.mp hx
  exact smA_flat rfl
theorem smA_two {a b : Da} (ha : smA a) (hb : smA b) : smA (.tup [a, b]) := smA_tup (by show 2 ≤ 1000; decide) fun x hx => by
  simp only [List.mem_cons, List.not_mem_nil, or_false] at hx
  rcases hx with rfl | rfl
  · exact ha
  · exact hb
/-- an answer of living's shape -/
structure Ans (w : Str) (xs : List Da) : Prop where
  len : xs.length ≤ 100
  sm : ∀ x, x ∈ xs → smA x
  pair : w = ("live" : Str) → ∀ x, x ∈ xs → ∃ a b : List Nat, x = .tup [lotD a, lotD b] ∧ a.length ≤ 10 ∧ b.length ≤ 10
inductive pBent (h : Addr) : List Sv → (Sv → Prop) → Prop | mk (n : NetD) (S : List (List Nat)) (w : Str) (xs : List Da) (ok : NetOk n) (h1 : 1 ≤ n.places) (hS : S.length ≤ 100) (hS2 : ∀ l, l ∈ S → l.length ≤ 10) (ha : Ans w xs) :
    pBent h [.loc h, .d (netD n), .d (lotsT S), .d (.tup [.str w, .tup xs])] fun r => ∃ d, r = .d d ∧ smA d
abbrev s_law_bent : Stmt := topS 81
theorem sc_law_bent : FnScope ["hand", "net", "siphons", "thing", "every", "kind", "at", "pair", "some", "odd", "lot"] ["hand", "net", "siphons", "thing"] (defScope s_law_bent) := ⟨rfl, rfl, rfl, by decide +kernel, rfl, by decide +kernel, by decide +kernel⟩
theorem lawAll_ne {p : Nat} (h : 1 ≤ p) : lawAllLots p ≠ [] := fun z => by
  have : [0] ∈ lawAllLots p := (mem_lawAll p [0]).mpr ⟨⟨List.pairwise_singleton _ _, fun x hx => by rw [List.mem_singleton.mp hx]; omega⟩, by simp⟩
  rw [z] at this
  cases this
section
variable {P : Program} {w : World} {K : PySem.W.Frag} {mg : Str → Option Value} {base : Heap} {C : CW} {h ac : Addr}
theorem ok_law_bent (B : Bt mg) (c_law_draw : Cal P w K mg base CX0 1 "_law_draw" (spM C (HW h ac) (pDraw h))) (c_law_any : Cal P w K mg base CX0 2 "_law_any" (spM C (HW h ac) (pAny h))) (c_law_deep : Cal P w K mg base CX0 3 "_law_deep" (spM C (HW h ac) (pDeep h))) (c_law_all_lots : Cal P w K mg base CX0 1 "_law_all_lots" (spD C pLawAll)) (F : DefAt K mg "_law_bent" s_law_bent) : Cal P w K mg base CX0 4 "_law_bent" (spM C (HW h ac) (pBent h)) := by
  refine calM F sc_law_bent (fun _ _ _ _ _ _ us hl => match us, hl with | [_, _, _, _], _ => rfl) (fun ds r h => by cases h; rfl) fun f cdv A outer s H E hr => ⟨_,
    (pss_cons (ps_asg (pe_tup (pa_cons (pe_cal c_law_all_lots hr (by decide) rfl pass0 (pa_cons (pe_ix (ix_tupK K) (pv 1) pe_int (fun _ _ => rfl)) pa_nil)) (pa_cons (pe_cal c_law_draw hr (by decide) rfl pass0 (pa_cons (pv 0) (pa_cons pe_int pa_nil))) pa_nil))) (pg_tupK K (n := 2) rfl (pgs_cons (pg_name (i := 4) sc_law_bent.nd rfl (Or.inr rfl)) (pgs_cons (pg_name (i := 5) sc_law_bent.nd rfl (Or.inl rfl)) pgs_nil))))
      (pss_cons (ps_if (pt_cmpR op_eq (pv 5) pe_int (nomark _)) (pss_one (ps_ret (pe_tup (pa_cons pe_str (pa_cons (pe_cal c_law_any hr (by decide) rfl pass0 (pa_cons (pv 0) (pa_cons (pv 4) pa_nil))) pa_nil))))) pss_nil)
      (pss_cons (ps_if (pt_cmpR op_eq (pv 5) pe_int (nomark _)) (pss_one (ps_ret (pe_tup (pa_cons pe_str (pa_cons (pe_callTy (call_tupK K) (by rfl) B.tuple_ b_tuple (pa_cons (pe_lc (own := [("lot", 10)]) rfl sc_law_bent.nd (pi_tupK K (pv 2)) (blkOk_by (by kernel_rfl)) (fun _ _ _ _ _ => pg_name (i := 10) sc_law_bent.nd rfl (Or.inl rfl)) (fun _ _ _ _ _ => pts_nil) (fun _ _ _ _ _ => (pe_tup (pa_cons (pv 10) (pa_cons (pe_cal c_law_any hr (by decide) rfl pass0 (pa_cons (pv 0) (pa_cons (pv 4) pa_nil))) pa_nil))))) pa_nil)) pa_nil))))) pss_nil)
      (pss_cons (ps_if (pt_cmpR op_eq (pv 5) pe_int (nomark _)) (pss_one (ps_ret (pe_tup (pa_cons pe_str (pa_cons (pe_callTy (call_tupK K) (by rfl) B.tuple_ b_tuple (pa_cons (pe_lc (own := [("lot", 10)]) rfl sc_law_bent.nd (pi_tupK K (pv 2)) (blkOk_by (by kernel_rfl)) (fun _ _ _ _ _ => pg_name (i := 10) sc_law_bent.nd rfl (Or.inl rfl)) (fun _ _ _ _ _ => pts_nil) (fun _ _ _ _ _ => (pe_tup (pa_cons (pv 10) (pa_cons (pv 10) pa_nil))))) pa_nil)) pa_nil))))) pss_nil)
      (pss_cons (ps_if (PW.pt (pw_and (pt_cmpR op_eq (pv 5) pe_int (nomark _)) (pw_and (pt_cmpR op_eq (pe_ix (ix_tupK K) (pv 3) pe_int (fun _ _ => rfl)) pe_str (nomark _)) (pw_and1 (pt_cmpR op_gt (pe_callB (call_lenK K) (by rfl) B.len_ b_len (pa_cons (pe_ix (ix_tupK K) (pv 3) pe_int (fun _ _ => rfl)) pa_nil)) pe_int (nomark _)))))) (pss_cons (ps_set (i := 6) sc_law_bent.nd rfl (Or.inl rfl) (pe_cal c_law_draw hr (by decide) rfl pass0 (pa_cons (pv 0) (pa_cons (pe_callB (call_lenK K) (by rfl) B.len_ b_len (pa_cons (pe_ix (ix_tupK K) (pv 3) pe_int (fun _ _ => rfl)) pa_nil)) pa_nil))))
      (pss_cons (ps_set (i := 7) sc_law_bent.nd rfl (Or.inl rfl) (pe_ix (ix_tupK K) (pe_ix (ix_tupK K) (pv 3) pe_int (fun _ _ => rfl)) (pv 6) (fun _ _ => rfl)))
      (pss_cons (ps_set (i := 8) sc_law_bent.nd rfl (Or.inl rfl) (pe_lst (pa_cons (pe_callTy (call_listK K) (by rfl) B.list_ b_list (pa_cons (pv 7) pa_nil)) (pa_cons (pe_slice (sl_tupK K) (pv 7) po_none (po_some pe_int)) (pa_cons (pe_op (op_catK K) (pv 7) (pv 7)) (pa_cons (pe_revTK K (pv 7)) (pa_cons (pe_tup (pa_cons (pe_ix (ix_tupK K) (pv 7) pe_int (fun _ _ => rfl)) (pa_cons (pe_callTy (call_listK K) (by rfl) B.list_ b_list (pa_cons (pe_ix (ix_tupK K) (pv 7) pe_int (fun _ _ => rfl)) pa_nil)) pa_nil))) (pa_cons (pe_tup (pa_cons (pe_ix (ix_tupK K) (pv 7) pe_int (fun _ _ => rfl)) (pa_cons (pe_tup pa_nil) pa_nil))) (pa_cons pe_non pa_nil)))))))))
      (pss_cons (ps_set (i := 9) sc_law_bent.nd rfl (Or.inl rfl) (pe_cal c_law_any hr (by decide) rfl pass0 (pa_cons (pv 0) (pa_cons (pv 8) pa_nil))))
      (pss_one (ps_ret (pe_tup (pa_cons pe_str (pa_cons (pe_op (op_catK K) (pe_op (op_catK K) (pe_slice (sl_tupK K) (pe_ix (ix_tupK K) (pv 3) pe_int (fun _ _ => rfl)) po_none (po_some (pv 6))) (pe_tup (pa_cons (pv 9) pa_nil))) (pe_slice (sl_tupK K) (pe_ix (ix_tupK K) (pv 3) pe_int (fun _ _ => rfl)) (po_some (pe_op op_add (pv 6) pe_int)) po_none)) pa_nil))))))))) pss_nil)
      (pss_cons (ps_set (i := 8) sc_law_bent.nd rfl (Or.inl rfl) (pe_lst (pa_cons pe_non (pa_cons (pe_tup pa_nil) (pa_cons (pe_ix (ix_tupK K) (pv 3) pe_int (fun _ _ => rfl)) (pa_cons (pe_ix (ix_tupK K) (pv 3) pe_int (fun _ _ => rfl)) (pa_cons (pe_callTy (call_listK K) (by rfl) B.list_ b_list (pa_cons (pv 3) pa_nil)) (pa_cons (pe_op (op_catK K) (pv 3) (pe_tup (pa_cons pe_int pa_nil))) (pa_cons (pe_revTK K (pv 3)) (pa_cons (pe_tup (pa_cons pe_str (pa_cons (pe_ix (ix_tupK K) (pv 3) pe_int (fun _ _ => rfl)) pa_nil))) (pa_cons (pe_tup (pa_cons pe_str (pa_cons (pe_tup pa_nil) pa_nil))) pa_nil)))))))))))
      (pss_cons (ps_set (i := 8) sc_law_bent.nd rfl (Or.inl rfl) (pe_op op_cat (pv 8) (pe_lst (pa_cons (pe_tup (pa_cons pe_str (pa_cons (pe_tup pa_nil) pa_nil))) (pa_cons (pe_tup (pa_cons pe_str (pa_cons (pe_callTy (call_listK K) (by rfl) B.list_ b_list (pa_cons (pe_ix (ix_tupK K) (pv 3) pe_int (fun _ _ => rfl)) pa_nil)) pa_nil))) (pa_cons (pe_tup (pa_cons pe_str (pa_cons pe_non pa_nil))) (pa_cons (pe_tup (pa_cons pe_str (pa_cons (pe_callTy (call_listK K) (by rfl) B.list_ b_list (pa_cons (pe_ix (ix_tupK K) (pv 3) pe_int (fun _ _ => rfl)) pa_nil)) pa_nil))) (pa_cons (pe_cal c_law_deep hr (by decide) rfl pass0 (pa_cons (pv 0) pa_nil)) pa_nil))))))))
      (pss_one (ps_ret (pe_cal c_law_any hr (by decide) rfl pass0 (pa_cons (pv 0) (pa_cons (pe_op op_cat (pv 8) (pe_lst (pa_cons (pe_tup (pa_cons pe_str (pa_cons (pe_revTK K (pe_ix (ix_tupK K) (pv 3) pe_int (fun _ _ => rfl))) pa_nil))) (pa_cons (pe_tup (pa_cons pe_str (pa_cons (pe_ix (ix_tupK K) (pv 3) pe_int (fun _ _ => rfl)) pa_nil))) pa_nil)))) pa_nil)))))))))))), fun ds r hp => ?_⟩
  cases hp with
  | mk n S w xs ok h1 hS hS2 ha =>
    have hev : ∀ l, l ∈ lawAllLots n.places → smA (lotD l) := fun l hl => smA_lot (Nat.le_trans (lawAll_mem_len ok.places hl) (by decide))
    have hevl : ((lawAllLots n.places).map lotD).length ≤ 100000 := by rw [List.length_map]; exact Nat.le_trans (lawAll_le ok.places) (by decide)
    have hevn : (lawAllLots n.places).map lotD ≠ [] := fun z => lawAll_ne h1 (List.map_eq_nil_iff.mp z)
    have hevm : ∀ x, x ∈ (lawAllLots n.places).map lotD → smA x := fun x hx => by
      obtain ⟨l, hl, rfl⟩ := List.mem_map.mp hx
      exact hev l hl
    have smx : smA (.tup xs) := smA_tup (Nat.le_trans ha.len (by decide)) ha.sm
    refine sro_seq (Io := (HW h ac).I) (Pn := fun W' e' => ∃ k : Nat, W' = HW h ac ∧ e' = [some (.loc h), some (.d (netD n)), some (.d (lotsT S)), some (.d (.tup [.str w, .tup xs])), some (.d (lotsD (lawAllLots n.places))), some (.d (.int (k : Int))), none, none, none, none, none]) (snm_asgG (Px := fun x => ∃ k : Nat, x = .tup [lotsD (lawAllLots n.places), .int (k : Int)]) (em_tup (eam2 (P := fun d => d = .d (lotsD (lawAllLots n.places))) (Q := fun d => ∃ k : Nat, d = .d (.int (k : Int))) (em_of (ed_call (ea_cons (ed_op (ed_var rfl) ed_int (rv_ixT (j := 0) rfl rfl)) ea_nil) (.mk _ ok.places)) rfl) (draw_m 6 (by decide) (by decide) (Up.refl _) (ea_cons (ed_var rfl) (ea_cons ed_int ea_nil)) fun d _ => ⟨d, rfl⟩)) fun ds ⟨a, b, e1, ⟨k, e2⟩, e3⟩ => by
        subst e1 e2 e3
        exact ⟨[lotsD (lawAllLots n.places), .int (k : Int)], rfl, lz2, _, rfl, k, rfl⟩) fun x ⟨k, hx⟩ => by
        subst hx
        exact ⟨_, _, gd_tup2 gd_name gd_name, k, rfl, rfl⟩) (fun W' e' ⟨k, e1, _⟩ => by rw [e1]) fun W' e' ⟨k, e1, e2⟩ => ?_
    subst e1 e2
    refine (?_ : SRM C (HW h ac) _ _ _)
    refine srm_when (b := decide ((k : Int) = 0)) (et_test (ed_op (ed_var rfl) ed_int rv_eqI)) (fun _ => ?_) fun _ => ?_
    · exact srm_ret (em_tup (eam2 (P := fun d => d = .d (.str "dies")) (Q := fun d => ∃ x, d = .d x ∧ smA x) (em_of ed_str rfl) (any_ints _ hevn hevl (Up.refl _) (ea_cons (ed_var rfl) (ea_cons (ed_var rfl) ea_nil)) fun x hx => ⟨x, rfl, hevm x hx⟩)) fun ds ⟨a, b, e1, ⟨x, e2, hx⟩, e3⟩ => by
        subst e1 e2 e3
        exact ⟨[.str "dies", x], rfl, lz2, _, rfl, smA_two (smA_flat rfl) hx⟩)
    refine srm_when (b := decide ((k : Int) = 1)) (et_test (ed_op (ed_var rfl) ed_int rv_eqI)) (fun _ => ?_) fun _ => ?_
    · refine srm_ret (em_tup (eam2 (P := fun d => d = .d (.str "live")) (Q := fun d => ∃ x, d = .d x ∧ smA x) (em_of ed_str rfl) (em_cb (eam1 (em_lc (α := List Nat) (P0 := fun as => as = S) (enc := lotD) (fun _ y => smA y) _ (srcM_of (src_tup (ed_var rfl)) ⟨_, rfl, rfl⟩) (fun as e => by rw [e]; omega) (fun j h => h) (fun as x _ _ => gd_name)
        (fun as x e hx => em_tup (eam2 (P := fun d => d = .d (lotD x)) (Q := fun d => ∃ x, d = .d x ∧ smA x) (em_of (ed_var rfl) rfl) (any_ints _ hevn hevl (Up.refl _) (ea_cons (ed_var rfl) (ea_cons (ed_var rfl) ea_nil)) fun x hx => ⟨x, rfl, hevm x hx⟩)) fun ds ⟨a, b, e1, ⟨y, e2, hy⟩, e3⟩ => by
          subst e1 e2 e3
          exact ⟨[lotD x, y], rfl, lz2, _, rfl, smA_two (smA_lot (Nat.le_trans (hS2 x (by rw [← e]; exact hx)) (by decide))) hy⟩))) fun ds ⟨a, ⟨as, ys, e1, e2, e3⟩, e4⟩ => ?_)) fun ds ⟨a, b, e1, ⟨x, e2, hx⟩, e3⟩ => by
          subst e1 e2 e3
          exact ⟨[.str "live", x], rfl, lz2, _, rfl, smA_two (smA_flat rfl) hx⟩)
      subst e1 e3 e4
      refine ⟨_, rc_tupL, _, rfl, smA_tup (by rw [← e2.length]; omega) fun x hx => ?_⟩
      have key : ∀ {as : List (List Nat)} {ys : List Da}, All2 (fun (_ : List Nat) y => smA y) as ys → ∀ y, y ∈ ys → smA y := fun {as ys} q => by
        induction q with
        | nil =>
          intro y hy
          cases hy
        | cons hy _ ih =>
          intro y h2
          rcases List.mem_cons.mp h2 with z | z
          · rw [z]
            exact hy
          · exact ih y z
      exact key e2 x hx
    refine srm_when (b := decide ((k : Int) = 2)) (et_test (ed_op (ed_var rfl) ed_int rv_eqI)) (fun _ => ?_) fun _ => ?_
    · refine srm_of (sr_ret (ed_tup (ds := [.str "live", .tup (S.map fun l => .tup [lotD l, lotD l])]) (ea_cons ed_str (ea_cons (ed_cb (ea_cons (ed_lc0 (as := S) (enc := lotD) (fun l => Da.tup [lotD l, lotD l]) _ (src_tup (ed_var rfl)) (by omega) (fun j h => h) _ (fun x _ => gd_name) (fun x _ => ed_tup (ds := [lotD x, lotD x]) (ea_cons (ed_var rfl) (ea_cons (ed_var rfl) ea_nil)) lz2)) ea_nil) rc_tupL) ea_nil)) lz2)) ⟨_, rfl, smA_two (smA_flat rfl) (smA_tup (by rw [List.length_map]; omega) fun x hx => ?_)⟩
      obtain ⟨l, hl, rfl⟩ := List.mem_map.mp hx
      have := smA_lot (Nat.le_trans (hS2 l hl) (by decide))
      exact smA_two this this
    have e1 : ∀ {env : En}, env[3]? = some (some (.d (.tup [.str w, .tup xs]))) → ED C (tOp (rIxT K) (tVar 3) (tC (.int 1))) env (.d (.tup xs)) := fun hv => ed_op (ed_var hv) ed_int (rv_ixT (j := 1) rfl rfl)
    refine srm_when (b := decide ((k : Int) = 3) && (decide (w = ("live" : Str)) && decide ((0 : Int) < (xs.length : Int)))) (et_and (et_test (ed_op (ed_var rfl) ed_int rv_eqI)) fun _ => et_and (et_test (ed_op (ed_op (ed_var rfl) ed_int (rv_ixT (j := 0) rfl rfl)) ed_str rv_eqS)) fun _ => et_test (ed_op (ed_cb (ea_cons (e1 rfl) ea_nil) rc_len) ed_int rv_B0)) (fun hb => ?_) fun _ => ?_
    · rw [Bool.and_eq_true, Bool.and_eq_true, decide_eq_true_eq, decide_eq_true_eq, decide_eq_true_eq] at hb
      obtain ⟨_, hw, hl⟩ := hb
      refine srm_asg (P := fun d => ∃ j : Nat, d = .d (.int (j : Int)) ∧ j < xs.length) (draw_m xs.length (by omega) (by have := ha.len; omega) (Up.refl _) (ea_cons (ed_var rfl) (ea_cons (ed_cb (ea_cons (e1 rfl) ea_nil) rc_len) ea_nil)) fun d hd => ⟨d, rfl, hd⟩) fun d hd => ?_
      obtain ⟨j, rfl, hj⟩ := hd
      obtain ⟨a, b, hab, la, lb⟩ := ha.pair hw xs[j] (List.getElem_mem hj)
      have sa : smA (lotD a) := smA_lot (by omega)
      have sb : smA (lotD b) := smA_lot (by omega)
      have sab := smA_two sa sb
      refine srm_nx (sn_asg (d := .d (.tup [lotD a, lotD b])) (ed_op (e1 rfl) (ed_var rfl) (rv_ixT (j := j) (by rw [List.getElem?_eq_getElem hj, hab]) rfl))) ?_
      have p0 : ∀ {env : En}, env[7]? = some (some (.d (.tup [lotD a, lotD b]))) → ED C (tOp (rIxT K) (tVar 7) (tC (.int 0))) env (.d (lotD a)) := fun hv => ed_op (ed_var hv) ed_int (rv_ixT (j := 0) rfl rfl)
      have p1 : ∀ {env : En}, env[7]? = some (some (.d (.tup [lotD a, lotD b]))) → ED C (tOp (rIxT K) (tVar 7) (tC (.int 1))) env (.d (lotD b)) := fun hv => ed_op (ed_var hv) ed_int (rv_ixT (j := 1) rfl rfl)
      refine srm_nx (sn_asg (ed_lst (ds := [.lst [lotD a, lotD b], .tup [lotD a], .tup [lotD a, lotD b, lotD a, lotD b], .tup [lotD b, lotD a], .tup [lotD a, .lst (intsD b)], .tup [lotD a, .tup []], .non]) (ea_cons (ed_cb (ea_cons (ed_var rfl) ea_nil) rc_listT) (ea_cons (ed_is (ed_slT (ed_var (d := .d (.tup [lotD a, lotD b])) rfl) eo_none (eo_some ed_int)) (by rw [show (1 : Int) = ((1 : Nat) : Int) from rfl, cut_to]; rfl)) (ea_cons (ed_op (ed_var rfl) (ed_var rfl) (rv_catA (by show 4 ≤ 100000; decide))) (ea_cons (ed_rev (ed_var (d := .d (.tup [lotD a, lotD b])) rfl)) (ea_cons (ed_tup (ds := [lotD a, .lst (intsD b)]) (ea_cons (p0 rfl) (ea_cons (ed_cb (ea_cons (p1 rfl) ea_nil) rc_listT) ea_nil)) lz2) (ea_cons (ed_tup (ds := [lotD a, .tup []]) (ea_cons (p0 rfl) (ea_cons (ed_tup (ds := []) ea_nil (by decide)) ea_nil)) lz2) (ea_cons ed_non ea_nil))))))) (by show 7 ≤ 100000; decide))) ?_
      refine srm_asg (P := fun d => ∃ x, d = .d x ∧ smA x) (any_ints [.lst [lotD a, lotD b], .tup [lotD a], .tup [lotD a, lotD b, lotD a, lotD b], .tup [lotD b, lotD a], .tup [lotD a, .lst (intsD b)], .tup [lotD a, .tup []], .non] (by simp) (by show 7 ≤ 100000; decide) (Up.refl _) (ea_cons (ed_var rfl) (ea_cons (ed_var rfl) ea_nil)) fun x hx => ⟨x, rfl, by
        simp only [List.mem_cons, List.not_mem_nil, or_false] at hx
        rcases hx with rfl | rfl | rfl | rfl | rfl | rfl | rfl
        · exact smA_flat rfl
        · exact sm_one sa
        · refine smA_tup (by show 4 ≤ 1000; decide) fun x hx => ?_
          simp only [List.mem_cons, List.not_mem_nil, or_false] at hx
          rcases hx with rfl | rfl | rfl | rfl
          · exact sa
          · exact sb
          · exact sa
          · exact sb
        · exact smA_two sb sa
        · exact smA_two sa (smA_flat rfl)
        · exact smA_two sa (smA_tup (Nat.zero_le _) fun x hx => nomatch hx)
        · exact smA_flat rfl⟩) fun d hd => ?_
      obtain ⟨odd, rfl, so⟩ := hd
      refine srm_of (d := .d (.tup [.str "live", .tup ((xs.take j ++ [odd]) ++ xs.drop (j + 1))])) (sr_ret (ed_tup (ds := [.str "live", .tup ((xs.take j ++ [odd]) ++ xs.drop (j + 1))]) (ea_cons ed_str (ea_cons (ed_op (ed_op (ed_is (ed_slT (e1 rfl) eo_none (eo_some (ed_var rfl))) (by rw [cut_to])) (ed_tup (ds := [odd]) (ea_cons (ed_var rfl) ea_nil) lz1) (rv_catA (by rw [List.length_take]; have := ha.len; show _ + 1 ≤ 100000; omega))) (ed_is (ed_slT (e1 rfl) (eo_some (ed_op (ed_var rfl) ed_int rv_I0)) eo_none) (by
        have q := cut_from xs (j + 1)
        rw [show ((j + 1 : Nat) : Int) = (j : Int) + 1 by omega] at q
        rw [q])) (rv_catA (by rw [List.length_append, List.length_take, List.length_drop]; have := ha.len; show _ + 1 + _ ≤ 100000; omega))) ea_nil)) lz2)) ⟨_, rfl, smA_two (smA_flat rfl) (smA_tup (by rw [List.length_append, List.length_append, List.length_take, List.length_drop]; have := ha.len; show _ + 1 + _ ≤ 1000; omega) fun x hx => ?_)⟩
      rcases List.mem_append.mp hx with z | z
      · rcases List.mem_append.mp z with z | z
        · exact ha.sm x (List.mem_of_mem_take z)
        · rw [List.mem_singleton.mp z]
          exact so
      · exact ha.sm x (List.mem_of_mem_drop z)
    · have thing : ∀ {env : En}, env[3]? = some (some (.d (.tup [.str w, .tup xs]))) → ED C (tVar 3) env (.d (.tup [.str w, .tup xs])) := fun hv => ed_var hv
      refine srm_nx (sn_asg (ed_lst (ds := [.non, .tup [], .tup xs, .str w, .lst [.str w, .tup xs], .tup [.str w, .tup xs, .int 0], .tup [.tup xs, .str w], .tup [.str "Live", .tup xs], .tup [.str "dies", .tup []]])
        (ea_cons ed_non (ea_cons (ed_tup (ds := []) ea_nil (by decide)) (ea_cons (e1 rfl) (ea_cons (ed_op (thing rfl) ed_int (rv_ixT (j := 0) rfl rfl)) (ea_cons (ed_cb (ea_cons (thing rfl) ea_nil) rc_listT) (ea_cons (ed_op (thing rfl) (ed_tup (ds := [.int 0]) (ea_cons ed_int ea_nil) lz1) (rv_catA (by show 3 ≤ 100000; decide))) (ea_cons (ed_rev (thing rfl)) (ea_cons (ed_tup (ds := [.str "Live", .tup xs]) (ea_cons ed_str (ea_cons (e1 rfl) ea_nil)) lz2) (ea_cons (ed_tup (ds := [.str "dies", .tup []]) (ea_cons ed_str (ea_cons (ed_tup (ds := []) ea_nil (by decide)) ea_nil)) lz2) ea_nil))))))))) (by show 9 ≤ 100000; decide))) ?_
      have s0 : smA (.tup []) := smA_tup (Nat.zero_le _) fun x hx => nomatch hx
      have tw : ∀ {env : En} {z : Str} {te : TE} {d : Da}, ED C te env (.d d) → ED C (tTup (tCons (tC (.str z)) (tCons te tNil))) env (.d (.tup [.str z, d])) := fun hd => ed_tup (ds := [.str _, _]) (ea_cons ed_str (ea_cons hd ea_nil)) lz2
      refine srm_asg (P := fun d => ∃ x, d = .d (.lst ([.non, .tup [], .tup xs, .str w, .lst [.str w, .tup xs], .tup [.str w, .tup xs, .int 0], .tup [.tup xs, .str w], .tup [.str "Live", .tup xs], .tup [.str "dies", .tup []]] ++ [.tup [.str "live", .tup []], .tup [.str "live", .lst xs], .tup [.str "dies", .non], .tup [.str "dies", .lst xs], x])) ∧ smA x)
        (em_op (P1 := fun d => d = .d (.lst [.non, .tup [], .tup xs, .str w, .lst [.str w, .tup xs], .tup [.str w, .tup xs, .int 0], .tup [.tup xs, .str w], .tup [.str "Live", .tup xs], .tup [.str "dies", .tup []]])) (P2 := fun d => ∃ x, d = .d (.lst [.tup [.str "live", .tup []], .tup [.str "live", .lst xs], .tup [.str "dies", .non], .tup [.str "dies", .lst xs], x]) ∧ smA x) (em_of (ed_var rfl) rfl)
          (fun _ _ => em_lst (eam_ed (tw (ed_tup (ds := []) ea_nil (by decide))) (eam_ed (tw (ed_cb (ea_cons (e1 rfl) ea_nil) rc_listT)) (eam_ed (tw ed_non) (eam_ed (tw (ed_cb (ea_cons (e1 rfl) ea_nil) rc_listT)) (eam1 (P := fun d => ∃ x, d = .d x ∧ smA x) (em_call (P1 := fun es => es = [.loc h]) (eam_of (ea_cons (ed_var rfl) ea_nil) rfl) (Up.refl _) fun es e => by
            subst e
            exact ⟨_, .mk, fun d ⟨x, e, hx⟩ => ⟨x, e, hx.2.2⟩⟩)))))) fun ds hds => by
              obtain ⟨_, ⟨_, ⟨_, ⟨_, ⟨_, ⟨x, rfl, hx⟩, rfl⟩, rfl⟩, rfl⟩, rfl⟩, rfl⟩ := hds
              exact ⟨[.tup [.str "live", .tup []], .tup [.str "live", .lst xs], .tup [.str "dies", .non], .tup [.str "dies", .lst xs], x], rfl, by show 5 ≤ 100000; decide, x, rfl, hx⟩)
          fun a b ha hb => by
            obtain ⟨x, rfl, hx⟩ := hb
            subst ha
            exact ⟨_, rv_catL (by show 9 + 5 ≤ 100000; decide), x, rfl, hx⟩) fun d hd => ?_
      obtain ⟨x, rfl, hx⟩ := hd
      refine srm_ret (any_ints (([.non, .tup [], .tup xs, .str w, .lst [.str w, .tup xs], .tup [.str w, .tup xs, .int 0], .tup [.tup xs, .str w], .tup [.str "Live", .tup xs], .tup [.str "dies", .tup []]] ++ [.tup [.str "live", .tup []], .tup [.str "live", .lst xs], .tup [.str "dies", .non], .tup [.str "dies", .lst xs], x]) ++ [.tup [.str "live", .tup xs.reverse], .tup [.str "dies", .tup xs]]) (by simp) (by show 16 ≤ 100000; decide) (Up.refl _) (ea_cons (ed_var rfl) (ea_cons (ed_op (ed_var rfl) (ed_lst (ds := [.tup [.str "live", .tup xs.reverse], .tup [.str "dies", .tup xs]]) (ea_cons (tw (ed_rev (e1 rfl))) (ea_cons (tw (e1 rfl)) ea_nil)) lz2) (rv_catL (by show 14 + 2 ≤ 100000; decide))) ea_nil)) fun y hy => ⟨y, rfl, ?_⟩)
      simp only [List.cons_append, List.nil_append, List.mem_cons, List.not_mem_nil, or_false] at hy
      have fl : ∀ {z : Str}, smA (.str z) := smA_flat rfl
      rcases hy with rfl | rfl | rfl | rfl | rfl | rfl | rfl | rfl | rfl | rfl | rfl | rfl | rfl | rfl | rfl | rfl
      · exact smA_flat rfl
      · exact s0
      · exact smx
      · exact fl
      · exact smA_flat rfl
      · refine smA_tup (by show 3 ≤ 1000; decide) fun x hx => ?_
        simp only [List.mem_cons, List.not_mem_nil, or_false] at hx
        rcases hx with rfl | rfl | rfl
        · exact fl
        · exact smx
        · exact smA_flat rfl
      · exact smA_two smx fl
      · exact smA_two fl smx
      · exact smA_two fl s0
      · exact smA_two fl s0
      · exact smA_two fl (smA_flat rfl)
      · exact smA_two fl (smA_flat rfl)
      · exact smA_two fl (smA_flat rfl)
      · exact hx
      · exact smA_two fl (smA_tup (by rw [List.length_reverse]; exact Nat.le_trans ha.len (by decide)) fun x hx => ha.sm x (List.mem_reverse.mp hx))
      · exact smA_two fl smx
end
end K13

set_option Elab.async false
set_option linter.all false
set_option maxRecDepth 100000
set_option maxHeartbeats 4000000
/-! KL: a world with a list of one's own beside it. -/
namespace K13
open PySem PySem.Spec PyProof.Rows L2
open Evl (Ex ex_l ex_t sq_of st_of sz_of sz_lt fresh_back)
def OwnI (l : Addr) (xs : List Da) (Hd H : Hp) : Prop := Hd l = none ∧ ∃ vs, H l = some (.lst vs) ∧ RpL Hd vs xs
def LW (W : Wl) (l : Addr) (xs : List Da) : Wl where
  M := fun a => W.M a ∨ a = l
  I := fun Hd H => W.I Hd H ∧ OwnI l xs Hd H
  al := fun i e => by
    obtain ⟨i1, i2, vs, h1, h2⟩ := i
    rcases e with e | rfl
    · exact W.al i1 e
    · exact ⟨by rw [h1]; exact (fun z => nomatch z), i2⟩
  st := fun i e e2 n => by
    obtain ⟨i1, i2, vs, h1, h2⟩ := i
    exact ⟨W.st i1 e e2 n, n.2 _ i2 (by rw [h1]; exact (fun z => nomatch z)), vs, e _ _ h1, h2.mono n.1⟩
  fr := fun i m e => by
    obtain ⟨i1, i2, vs, h1, h2⟩ := i
    exact ⟨W.fr i1 (fun a ha => m a (.inl ha)) e, i2, vs, (m _ (.inr rfl)).trans h1, h2⟩
  gr := fun i m e e2 => by
    obtain ⟨i1, i2, vs, h1, h2⟩ := i
    exact ⟨W.gr i1 (fun a ha => m a (.inl ha)) e e2, m _ (.inr rfl), vs, h1, h2.mono e⟩
theorem up_lw {W0' W : Wl} {l : Addr} {xs : List Da} (u : Up W0' W) (nl : ¬ W0'.M l) : Up W0' (LW W l xs) := ⟨fun a h => .inl (u.m a h), fun i => u.i i.1, fun i e e2 n i2 => by
  obtain ⟨i1, g, vs, h1, h2⟩ := i
  exact ⟨u.b i1 e e2 n i2, n.2 _ nl g (by rw [h1]; exact (fun z => nomatch z)), vs, e.1 _ _ nl h1, h2.mono n.1⟩⟩
section
variable {C : CW} {K : PySem.W.Frag} {W : Wl} {env : En} {ta : TA} {te : TE} {t u : TS} {P R : Sv → Prop} {Pn : Wl → En → Prop} {Io : Hp → Hp → Prop} {l : Addr} {xs : List Da} {j : Nat}
theorem loc_at {Hd : Hp} {σ : L2.St} (s : SO C Hd σ env) (hv : env[j]? = some (some (.loc l))) : σ[j]? = some (some (.ref l)) := by
  obtain ⟨v, h1, h2⟩ := s.get j _ hv
  cases h2
  exact h1
/-- the list is changed -/
theorem own_put {Hd H : Hp} {vs : List V} {ys : List Da} (nl : ¬ W.M l) (i : (LW W l xs).I Hd H) (e : Ex Hd H) (r : RpL Hd vs ys) : (LW W l ys).I Hd (upd H l (.lst vs)) ∧ Ex Hd (upd H l (.lst vs)) ∧ ExM (LW W l ys).M H (upd H l (.lst vs)) := by
  obtain ⟨i1, g, us, h1, h2⟩ := i
  have e2 := ex_mut (o := .lst vs) e g
  exact ⟨⟨W.fr i1 (fun a ha => upd_ne (fun z => nl (by rw [← z]; exact ha))) e2, g, vs, upd_same, r⟩, e2, .upd (.inr rfl)⟩
theorem snm_app {Px : Da → Prop} (nl : ¬ W.M l) (hv : env[j]? = some (some (.loc l))) (h : EM C (LW W l xs) te env fun d => ∃ x, d = .d x ∧ Px x) (hz : xs.length < 100000) (hp : ∀ x, Px x → Pn (LW W l (xs ++ [x])) env) : SNM C (LW W l xs) (tDrop (tBM K "list" rAppend (tVar j) (tCons te tNil))) env Pn := fun σ H Hd s e i D k => by
  obtain ⟨vs, h1, h2⟩ := i.2.2
  refine ⟨_, loc_at s hv, .inl ⟨rfl, vs, sq_of h1⟩, h σ H Hd s e i _ fun v Hd1 H1 d e1 e2 n1 i1 p1 r1 => ?_⟩
  obtain ⟨x, rfl, px⟩ := p1
  obtain ⟨us, g1, g2⟩ := i1.2.2
  cases r1 with
  | d r1 =>
    obtain ⟨q1, q2, q3⟩ := own_put nl i1 e2 (g2.append (.one r1))
    exact ⟨l, us, v, rfl, rfl, g1, sz_lt (by rw [g2.length]; exact hz), k _ _ σ Hd1 _ (hp x px) (e1.trans q3) q2 n1 q1 (s.mono n1.1)⟩
def rIns : V → List V → Hp → VK → Prop := fun x vs H Q => ∃ (l : Addr) (xs : List V) (i : Int) (y : V), x = .ref l ∧ vs = [.int i, y] ∧ H l = some (.lst xs) ∧ xs.length < sizeLine ∧ 0 ≤ i ∧ i < 2 ^ 63 ∧ Q .non (upd H l (.lst (xs.take i.toNat ++ [y] ++ xs.drop i.toNat)))
theorem snm_ins {Px : Da → Prop} (nl : ¬ W.M l) (hv : env[j]? = some (some (.loc l))) (h : EAM C (LW W l xs) ta env fun ds => ∃ (i : Nat) (x : Da), i ≤ 100000 ∧ Px x ∧ ds = [.d (.int (i : Int)), .d x]) (hz : xs.length < 100000) (hp : ∀ i x, Px x → Pn (LW W l (xs.take i ++ [x] ++ xs.drop i)) env) :
    SNM C (LW W l xs) (tDrop (tBM K "list" rIns (tVar j) ta)) env Pn := fun σ H Hd s e i D k => by
  obtain ⟨vs, h1, h2⟩ := i.2.2
  refine ⟨_, loc_at s hv, .inl ⟨rfl, vs, sq_of h1⟩, h σ H Hd s e i _ fun vs1 Hd1 H1 ds e1 e2 n1 i1 p1 r1 => ?_⟩
  obtain ⟨m, x, hm, px, rfl⟩ := p1
  obtain ⟨us, g1, g2⟩ := i1.2.2
  cases r1 with
  | cons r1 r2 =>
    cases r1 with
    | d r1 =>
      cases r1
      cases r2 with
      | @cons y _ _ _ r2 r3 =>
        cases r3
        cases r2 with
        | d r2 =>
          obtain ⟨q1, q2, q3⟩ := own_put nl i1 e2 (((g2.take m).append (.one r2)).append (g2.drop m))
          refine ⟨l, us, (m : Int), y, rfl, rfl, g1, sz_lt (by rw [g2.length]; exact hz), by omega, by omega, ?_⟩
          rw [Int.toNat_natCast]
          exact k _ _ σ Hd1 _ (hp m x px) (e1.trans q3) q2 n1 q1 (s.mono n1.1)
theorem em_lenOwn (hv : env[j]? = some (some (.loc l))) (hp : P (.d (.int (xs.length : Int)))) : EM C (LW W l xs) (tCB (rLenK K) (tCons (tVar j) tNil)) env P := fun σ H Hd s e i Q k => by
  obtain ⟨vs, h1, h2⟩ := i.2.2
  refine ⟨_, loc_at s hv, l, vs, rfl, .inl (sq_of h1), ?_⟩
  exact k _ Hd H _ (ExM.refl _ _) e (NwM.refl _ _ _) i hp (by rw [h2.length]; exact .d (.int _))
theorem em_tupOwn (hv : env[j]? = some (some (.loc l))) (hp : P (.d (.tup xs))) : EM C (LW W l xs) (tCB (rTupK K) (tCons (tVar j) tNil)) env P := fun σ H Hd s e i Q k => by
  obtain ⟨vs, h1, h2⟩ := i.2.2
  exact ⟨_, loc_at s hv, l, vs, rfl, .inl ⟨sq_of h1, fun p hpn => (k.toOK i hp).tup e h2 hpn⟩⟩
/-- from here on the list is data -/
theorem sro_absorb (nl : ¬ W.M l) (hv : env[j]? = some (some (.loc l))) (h : SRO C W Io u (env.set j (some (.d (.lst xs)))) P) : SRO C (LW W l xs) Io u env P := fun σ H Hd s e i D k => by
  obtain ⟨i1, g, vs, h1, h2⟩ := i
  have up : Ex Hd (upd Hd l (.lst vs)) := Ex.new g
  have e2 : Ex (upd Hd l (.lst vs)) H := fun b o hb => by
    by_cases z : b = l
    · rw [z, upd_same] at hb
      rw [z, h1]
      exact hb
    · rw [upd_ne z] at hb
      exact e b o hb
  have s2 : SO C (upd Hd l (.lst vs)) σ (env.set j (some (.d (.lst xs)))) := by
    have z := (s.mono up).set (i := j) (v := .ref l) (d := .d (.lst xs)) (.d (.lst upd_same (h2.mono up)))
    have q : σ.set j (some (.ref l)) = σ := by
      apply List.ext_getElem?
      intro a
      by_cases ha : j = a
      · subst ha
        rw [List.getElem?_set_self (List.getElem?_eq_some_iff.mp (loc_at s hv)).1, loc_at s hv]
      · rw [List.getElem?_set_ne ha]
    rw [q] at z
    exact z
  refine h σ H _ s2 e2 (W.gr i1 (fun a ha => ?_) up e2) D fun v Hd' H' d a1 a2 a3 a4 a5 a6 => ?_
  · rw [upd_ne (fun z => nl (by rw [← z]; exact ha))]
    exact (W.al i1 ha).2
  · refine k v Hd' H' d (a1.weak fun a ha => .inl ha) a2 ⟨up.trans a3.1, fun b hb h3 h4 => a3.2 b (fun z => hb (.inl z)) ?_ h4⟩ a4 a5 a6
    rw [upd_ne (fun z => hb (.inr z))]
    exact h3
theorem srcM_rngP {n : Nat} {Pk : Nat → Prop} (h : EM C W te env fun d => ∃ k : Nat, d = .d (.int (k : Int)) ∧ k ≤ n ∧ Pk k) (hn : n ≤ 1000000) : SrcM C W (iRng1 (tCons te tNil)) env fun xs => ∃ as, xs = as.map (fun (i : Nat) => Da.int (i : Int)) ∧ ∃ k : Nat, as = List.range k ∧ Pk k := fun σ H Hd s e i R k => h σ H Hd s e i _ fun v Hd1 H1 d e1 e2 n1 i1 p1 r1 => by
  obtain ⟨m, rfl, hm, pm⟩ := p1
  cases r1 with
  | d r1 =>
    cases r1
    refine ⟨(m : Int), rfl, by omega, by omega, ?_⟩
    have e0 : ((m : Int)).toNat = m := by omega
    rw [e0]
    refine k _ Hd1 H1 _ ⟨List.range m, rfl, m, rfl, pm⟩ e1 e2 n1 i1 fun Hd2 H2 e3 e4 i => ⟨fun x hx => ?_, fun hi => ?_⟩
    · obtain ⟨hi, ex⟩ := rngD_get (n := m) hx
      refine ⟨hi, fun v H3 hy => ?_⟩
      obtain ⟨rfl, hv⟩ := hy
      rw [Int.zero_add] at hv
      rw [hv, ex]
      exact ⟨Hd2, Ex.refl _, e4, Nw.refl _ _, .int _⟩
    · rw [List.length_map, List.length_range] at hi
      exact hi
/-- a, b, c = x, [], [] -/
theorem sro_par3 {a b c : Nat} {x : Da} (hab : a ≠ b) (hac : a ≠ c) (hbc : b ≠ c) (hb : b < env.length) (hc : c < env.length) (ha : ED C te env (.d x))
    (h : ∀ lk ld, lk ≠ ld → ¬ W.M lk → ¬ W.M ld → SRO C (LW (LW W ld []) lk []) Io u (((env.set a (some (.d x))).set b (some (.loc lk))).set c (some (.loc ld))) P) : SRO C W Io (tSeq (tPar3 a b c (tCons te (tCons (tLst tNil) (tCons (tLst tNil) tNil)))) u) env P := fun σ H0 Hd0 s0 e0 i0 D k0 =>
  ha σ H0 Hd0 s0 e0 _ fun v Hd H e1 e n1 r => ⟨Nat.zero_le _, fun lk hk => ⟨Nat.zero_le _, fun ld hd => ⟨v, .ref lk, .ref ld, rfl, by
    have i := W.st i0 e1 e n1
    have s := s0.mono n1.1
    have ne : ld ≠ lk := fun z => by rw [z, upd_same] at hd; cases hd
    have hd' : H ld = none := by rw [upd_ne ne] at hd; exact hd
    have mk : ¬ W.M lk := fun z => (W.al i z).1 hk
    have md : ¬ W.M ld := fun z => (W.al i z).1 hd'
    have zk : Hd lk = none := fresh_back e hk
    have zd : Hd ld = none := fresh_back e hd'
    have ex2 : Ex H (upd (upd H lk (.lst [])) ld (.lst [])) := (Ex.new hk).trans (Ex.new hd)
    refine h lk ld (Ne.symm ne) mk md _ _ Hd (((s.set r).set (.loc lk)).set (.loc ld)) (e.trans ex2) ⟨⟨W.st i ex2 (e.trans ex2) (Nw.refl _ _), zd, [], upd_same, .nil⟩, zk, [], by rw [upd_ne (Ne.symm ne), upd_same], .nil⟩ D fun v' Hd' H' d a1 a2 a3 a4 a5 a6 => ?_
    have hM : ∀ a, (LW (LW W ld []) lk []).M a → W.M a ∨ H a = none := fun a z => by
      rcases z with (z | z) | z
      · exact .inl z
      · exact .inr (by rw [z]; exact hd')
      · exact .inr (by rw [z]; exact hk)
    have b1 : ExM W.M H H' := ⟨fun b o hb h1 => (ExM.of (M := (LW (LW W ld []) lk []).M) ex2 |>.trans a1).1 b o (fun z => (hM b z).elim hb fun w => by rw [w] at h1; cases h1) h1, ((ExM.of (M := (LW (LW W ld []) lk []).M) ex2).trans a1).2⟩
    have b2 : NwM W.M Hd H Hd' := ⟨a3.1, fun b hb h1 h2 => a3.2 b (fun z => (hM b z).elim hb h2) h1 ((ExM.of (M := W.M) ex2).2 b h2)⟩
    exact k0 v' Hd' H' d ((ExM.of e1).trans b1) a2 ((NwM.of n1).trans (.of e1) b2) a4 a5 a6⟩⟩⟩
end
end K13

set_option Elab.async false
set_option linter.all false
set_option maxRecDepth 100000
set_option maxHeartbeats 4000000
/-! KH5: a net is drawn. -/
namespace K13
open PySem PySem.Spec PyProof.Rows L2
open Evl (Ex ex_l ex_t sq_of st_of sz_of sz_lt fresh_back)
inductive pNet (h : Addr) : List Sv → (Sv → Prop) → Prop | mk (p : Nat) (h1 : 1 ≤ p) (h5 : p ≤ 5) : pNet h [.loc h, .d (.int (p : Int)), .d (.int 5)] fun r => ∃ n, r = .d (netD n) ∧ NetV n ∧ n.places = p
/-- the knots drawn so far, and what is left -/
structure Kn (p : Nat) (left : List Nat) (ks : List (List Nat)) : Prop where
  nd : left.Nodup
  lt : ∀ x, x ∈ left → x < p
  ok : ∀ k, k ∈ ks → LotP p k
  dis : ∀ k, k ∈ ks → ∀ x, x ∈ k → x ∉ left
  pw : ∀ a b, a ∈ ks → b ∈ ks → a ≠ b → ∀ x, x ∈ a → x ∉ b
  cov : ∀ x, x < p → x ∈ left ∨ ∃ k, k ∈ ks ∧ x ∈ k
  len : ks.length + left.length ≤ p
theorem Kn.step {p : Nat} {left : List Nat} {ks : List (List Nat)} (h : Kn p left ks) {l : List Nat} (ha : Asc l) (hs : ∀ x, x ∈ l → x ∈ left) (hn : l ≠ []) : Kn p (left.filter fun x => !l.contains x) (ks ++ [l]) ∧ (left.filter fun x => !l.contains x).length < left.length := by
  have mem : ∀ x, x ∈ left.filter (fun x => !l.contains x) ↔ x ∈ left ∧ x ∉ l := fun x => by
    rw [List.mem_filter]
    simp
  have less : (left.filter fun x => !l.contains x).length < left.length := by
    obtain ⟨x, hx⟩ := List.exists_mem_of_ne_nil l hn
    have hxl := hs x hx
    have key : ∀ ls : List Nat, x ∈ ls → (ls.filter fun x => !l.contains x).length < ls.length := by
      intro ls
      induction ls with
      | nil =>
        intro z
        cases z
      | cons a r ih =>
        intro z
        rw [List.filter_cons]
        by_cases hax : a = x
        · have hc : l.contains a = true := by rw [hax]; simpa using hx
          rw [hc]
          have := List.length_filter_le (fun x => !l.contains x) r
          simp only [Bool.not_true, Bool.false_eq_true, if_false, List.length_cons]
          omega
        · have := ih ((List.mem_cons.mp z).resolve_left (fun q => hax q.symm))
          split
          · simp only [List.length_cons]
            omega
          · simp only [List.length_cons]
            omega
    exact key left hxl
  refine ⟨⟨h.nd.filter _, fun x hx => h.lt x ((mem x).mp hx).1, fun k hk => ?_, fun k hk x hx hx2 => ?_, fun a b ha' hb' ne x hxa hxb => ?_, fun x hx => ?_, by rw [List.length_append]; have := h.len; show _ + 1 + _ ≤ p; omega⟩, less⟩
  · rcases List.mem_append.mp hk with z | z
    · exact h.ok k z
    · rw [List.mem_singleton.mp z]
      exact ⟨⟨ha, fun x hx => h.lt x (hs x hx)⟩, hn⟩
  · rcases List.mem_append.mp hk with z | z
    · exact h.dis k z x hx ((mem x).mp hx2).1
    · rw [List.mem_singleton.mp z] at hx
      exact ((mem x).mp hx2).2 hx
  · rcases List.mem_append.mp ha' with za | za
    · rcases List.mem_append.mp hb' with zb | zb
      · exact h.pw a b za zb ne x hxa hxb
      · rw [List.mem_singleton.mp zb] at hxb
        exact h.dis a za x hxa (hs x hxb)
    · rw [List.mem_singleton.mp za] at hxa
      rcases List.mem_append.mp hb' with zb | zb
      · exact h.dis b zb x hxb (hs x hxa)
      · exact ne (by rw [List.mem_singleton.mp za, List.mem_singleton.mp zb])
  · rcases h.cov x hx with z | ⟨k, hk, hxk⟩
    · by_cases q : x ∈ l
      · exact .inr ⟨l, List.mem_append_right _ (List.mem_singleton_self _), q⟩
      · exact .inl ((mem x).mpr ⟨z, q⟩)
    · exact .inr ⟨k, List.mem_append_left _ hk, hxk⟩
/-- the deeds drawn so far: of the knots, none but the first i have one -/
structure Dd (p : Nat) (ks : List (List Nat)) (i : Nat) (ds : List (List Nat × List Nat)) : Prop where
  ok : ∀ d, d ∈ ds → d.1 ∈ ks ∧ LotP p d.2
  has : ∀ j k, j < i → ks[j]? = some k → ∃ d, d ∈ ds ∧ d.1 = k
theorem Dd.ins {p i : Nat} {ks : List (List Nat)} {ds : List (List Nat × List Nat)} (h : Dd p ks i ds) {k l : List Nat} (hk : k ∈ ks) (hl : LotP p l) (m : Nat) : Dd p ks i (ds.take m ++ [(k, l)] ++ ds.drop m) ∧ (k, l) ∈ ds.take m ++ [(k, l)] ++ ds.drop m ∧ (ds.take m ++ [(k, l)] ++ ds.drop m).length = ds.length + 1 := by
  refine ⟨⟨fun d hd => ?_, fun j k' hj hk' => ?_⟩, by simp, by simp [List.length_take, List.length_drop]; omega⟩
  · rcases List.mem_append.mp hd with z | z
    · rcases List.mem_append.mp z with z | z
      · exact h.ok d (List.mem_of_mem_take z)
      · rw [List.mem_singleton.mp z]
        exact ⟨hk, hl⟩
    · exact h.ok d (List.mem_of_mem_drop z)
  · obtain ⟨d, hd, e⟩ := h.has j k' hj hk'
    refine ⟨d, ?_, e⟩
    rw [← List.take_append_drop m ds] at hd
    rcases List.mem_append.mp hd with z | z
    · exact List.mem_append_left _ (List.mem_append_left _ z)
    · exact List.mem_append_right _ z
theorem map_ins (ds : List (List Nat × List Nat)) (x : List Nat × List Nat) (m : Nat) : (ds.map deedD).take m ++ [deedD x] ++ (ds.map deedD).drop m = (ds.take m ++ [x] ++ ds.drop m).map deedD := by
  rw [List.map_append, List.map_append, List.map_take, List.map_drop]
  rfl
abbrev s_law_net : Stmt := topS 63
theorem sc_law_net : FnScope ["hand", "places", "loose", "left", "knots", "deeds", "ins", "turn", "size", "place"] ["hand", "places", "loose"] (defScope s_law_net) := ⟨rfl, rfl, rfl, by decide +kernel, rfl, by decide +kernel, by decide +kernel⟩
section
variable {P : Program} {w : World} {K : PySem.W.Frag} {mg : Str → Option Value} {base : Heap} {C : CW} {h ac : Addr}
theorem rc_min3 {p : Nat} : RC C (fun xs H Q => ∃ i j, xs = [.int i, .int j] ∧ Q (.int (if j < i then j else i)) H) [.d (.int 3), .d (.int (p : Int))] (.d (.int ((min 3 p : Nat) : Int))) := fun Hd H vs Q e r k => by
  cases r with
  | cons h1 t =>
    cases t with
    | cons h2 t =>
      cases t
      cases h1 with
      | d h1 =>
        cases h2 with
        | d h2 =>
          cases h1
          cases h2
          refine ⟨3, (p : Int), rfl, ?_⟩
          have ee : (if (p : Int) < 3 then (p : Int) else 3) = ((min 3 p : Nat) : Int) := by
            split <;> omega
          rw [ee]
          exact k.here e (.d (.int _))
theorem ok_law_net (B : Bt mg) (c_law_draw : Cal P w K mg base CX0 1 "_law_draw" (spM C (HW h ac) (pDraw h))) (c_law_any : Cal P w K mg base CX0 2 "_law_any" (spM C (HW h ac) (pAny h))) (c_law_lot : Cal P w K mg base CX0 2 "_law_lot" (spM C (HW h ac) (pLotD h))) (F : DefAt K mg "_law_net" s_law_net) : Cal P w K mg base CX0 3 "_law_net" (spM C (HW h ac) (pNet h)) := by
  refine calM F sc_law_net (fun _ _ _ _ _ _ us hl => match us, hl with | [_, _, _], _ => rfl) (fun ds r h => by cases h; rfl) fun f cdv A outer s H E hr => ⟨_,
    (pss_cons (ps_par3 (i := 3) (j := 4) (l := 5) rfl sc_law_net.nd rfl rfl rfl (by decide) (by decide) (by decide) rfl rfl rfl (pa_cons (pe_listRg rfl rfl B.list_ (prg_1 rfl B.range_ (pv 1))) (pa_cons (pe_lst pa_nil) (pa_cons (pe_lst pa_nil) pa_nil))) rfl)
      (pss_cons (ps_while PassesOwn.never (pt_cmpR op_gt (pe_callB (call_lenK K) (by rfl) B.len_ b_len (pa_cons (pv 3) pa_nil)) pe_int (nomark _)) (pss_cons (ps_set (i := 6) sc_law_net.nd rfl (Or.inr rfl) (pe_cal c_law_lot hr (by decide) rfl pass0 (pa_cons (pv 0) (pa_cons (pv 3) (pa_cons (pe_cal c_law_any hr (by decide) rfl pass0 (pa_cons (pv 0) (pa_cons (pe_lst (pa_cons pe_int (pa_cons pe_int (pa_cons pe_int (pa_cons pe_int pa_nil))))) pa_nil))) pa_nil)))))
      (pss_cons (ps_setLc (i := 3) (own := [("place", 9)]) rfl sc_law_net.nd rfl rfl (sw_true rfl rfl rfl (by decide +kernel)) (pi_listK K (pv 3)) (blkOk_by (by kernel_rfl)) (fun _ _ _ _ _ => pg_name (i := 9) sc_law_net.nd rfl (Or.inl rfl)) (fun _ _ _ _ _ => pts_one (pt_cmpR (op_niK K) (pv 9) (pv 6) rfl)) (fun _ _ _ _ _ => (pv 9)))
      (pss_one (ps_expr (pe_bm PySem.F.plainAttrs_list PySem.F.slot_list_append PySem.F.type_list_append mt_append (pv 4) (pa_cons (pv 6) pa_nil)))))))
      (pss_cons (ps_for PassesOwn.never rfl (pi_listK K (pv 4)) (pg_name (i := 6) sc_law_net.nd rfl (Or.inr rfl)) (pss_one (ps_for PassesOwn.never rfl (pi_range1 rfl B.range_ (pa_cons (pe_ifExp (pt_cmpR op_lt (pe_op op_add (pe_callB (call_lenK K) (by rfl) B.len_ b_len (pa_cons (pv 5) pa_nil)) (pe_callB (call_lenK K) (by rfl) B.len_ b_len (pa_cons (pv 4) pa_nil))) pe_int (nomark _)) (pe_cal c_law_any hr (by decide) rfl pass0 (pa_cons (pv 0) (pa_cons (pe_lst (pa_cons pe_int (pa_cons pe_int (pa_cons pe_int (pa_cons pe_int (pa_cons pe_int pa_nil)))))) pa_nil))) pe_int) pa_nil)) (pg_name (i := 7) sc_law_net.nd rfl (Or.inl rfl)) (pss_cons (ps_set (i := 8) sc_law_net.nd rfl (Or.inl rfl) (pe_ifExp (pt_cmpR op_gt (pe_cal c_law_draw hr (by decide) rfl pass0 (pa_cons (pv 0) (pa_cons (pv 2) pa_nil))) pe_int (nomark _)) (pe_callB (call_lenK K) (by rfl) B.len_ b_len (pa_cons (pv 6) pa_nil)) (pe_op op_add pe_int (pe_cal c_law_draw hr (by decide) rfl pass0 (pa_cons (pv 0) (pa_cons (pe_callB (call_min2 rfl) (by rfl) B.min_ b_min (pa_cons pe_int (pa_cons (pv 1) pa_nil))) pa_nil))))))
      (pss_one (ps_expr (pe_bm PySem.F.plainAttrs_list PySem.F.slot_list_insert PySem.F.type_list_insert mt_insert (pv 5) (pa_cons (pe_cal c_law_draw hr (by decide) rfl pass0 (pa_cons (pv 0) (pa_cons (pe_op op_add (pe_callB (call_lenK K) (by rfl) B.len_ b_len (pa_cons (pv 5) pa_nil)) pe_int) pa_nil))) (pa_cons (pe_tup (pa_cons (pv 6) (pa_cons (pe_cal c_law_lot hr (by decide) rfl pass0 (pa_cons (pv 0) (pa_cons (pe_listRg rfl rfl B.list_ (prg_1 rfl B.range_ (pv 1))) (pa_cons (pv 8) pa_nil)))) pa_nil))) pa_nil)))))))))
      (pss_one (ps_ret (pe_tup (pa_cons (pv 1) (pa_cons (pe_callTy (call_tupK K) (by rfl) B.tuple_ b_tuple (pa_cons (pv 5) pa_nil)) pa_nil)))))))), fun ds r hp => ?_⟩
  cases hp with
  | mk p h1 h5 =>
    refine SRO.srm (sro_par3 (a := 3) (b := 4) (c := 5) (x := .lst (rngD p)) (by decide) (by decide) (by decide) (by show 4 < 10; decide) (by show 5 < 10; decide) (ed_listRg (ed_var rfl) (by omega)) fun lk ld ne mk md => ?_)
    have upD : Up (HW h ac) (LW (HW h ac) ld []) := up_lw (Up.refl _) md
    have upK : ∀ xs, Up (HW h ac) (LW (LW (HW h ac) ld []) lk xs) := fun xs => up_lw upD mk
    have mk2 : ¬ (LW (HW h ac) ld []).M lk := fun z => z.elim mk ne
    refine sro_seq (Pn := fun W' e' => ∃ ks, W' = LW (LW (HW h ac) ld []) lk (ks.map lotD) ∧ e' = [some (.loc h), some (.d (.int (p : Int))), some (.d (.int 5)), some (.d (.lst [])), some (.loc lk), some (.loc ld), none, none, none, none] ∧ Kn p [] ks)
      (snm_while (fun m W' e' => ∃ left ks, m = left.length ∧ W' = LW (LW (HW h ac) ld []) lk (ks.map lotD) ∧ e' = [some (.loc h), some (.d (.int (p : Int))), some (.d (.int 5)), some (.d (.lst (intsD left))), some (.loc lk), some (.loc ld), none, none, none, none] ∧ Kn p left ks) (fun m W' e' ⟨_, _, _, e, _, _⟩ => by rw [e]; rfl) p
        ⟨List.range p, [], by rw [List.length_range], rfl, rfl, ⟨List.nodup_range, fun x hx => List.mem_range.mp hx, fun k hk => (nomatch hk), fun k hk => (nomatch hk), fun a b hk => (nomatch hk), fun x hx => .inl (List.mem_range.mpr hx), by rw [List.length_range]; exact Nat.le_of_eq (Nat.zero_add _)⟩⟩ fun m W' e' ⟨left, ks, e1, e2, e3, hk⟩ => ?_) (fun W' e' ⟨ks, e, _, _⟩ => by rw [e]; rfl) fun W' e' ⟨ks, e1, e2, hk⟩ => ?_
    · subst e1 e2 e3
      have hlen := hk.len
      have lenl : (intsD left).length = left.length := by unfold intsD; rw [List.length_map]
      refine ⟨decide ((0 : Int) < (left.length : Int)), et_test (ed_op (ed_is (ed_cb (ea_cons (ed_var rfl) ea_nil) rc_lenL) (by rw [lenl])) ed_int rv_B0), fun hb => ?_, fun hb => ?_⟩
      · have hb := of_decide_eq_true hb
        have hne : left ≠ [] := fun z => by rw [z] at hb; exact absurd hb (by decide)
        refine snm_seq (Pm := fun W' e' => ∃ l, W' = LW (LW (HW h ac) ld []) lk (ks.map lotD) ∧ e' = [some (.loc h), some (.d (.int (p : Int))), some (.d (.int 5)), some (.d (.lst (intsD left))), some (.loc lk), some (.loc ld), some (.d (lotD l)), none, none, none] ∧ Asc l ∧ (∀ x, x ∈ l → x ∈ left) ∧ l ≠ [])
          (snm_asg (P := fun d => ∃ l : List Nat, d = .d (lotD l) ∧ Asc l ∧ (∀ x, x ∈ l → x ∈ left) ∧ l ≠ []) (em_call (eam_ed (ed_var rfl) (eam_ed (ed_var rfl) (eam1 (P := fun d => ∃ k : Nat, d = .d (.int (k : Int)) ∧ 1 ≤ k) (any_ints [.int 1, .int 1, .int 1, .int 2] (by simp) (by show 4 ≤ 100000; decide) (upK _) (ea_cons (ed_var rfl) (ea_cons (ed_lst (ds := [.int 1, .int 1, .int 1, .int 2]) (ea_cons ed_int (ea_cons ed_int (ea_cons ed_int (ea_cons ed_int ea_nil)))) (by show 4 ≤ 100000; decide)) ea_nil)) fun x hx => by
              simp only [List.mem_cons, List.not_mem_nil, or_false] at hx
              rcases hx with rfl | rfl | rfl | rfl
              · exact ⟨1, rfl, by decide⟩
              · exact ⟨1, rfl, by decide⟩
              · exact ⟨1, rfl, by decide⟩
              · exact ⟨2, rfl, by decide⟩)))) (upK _) fun ds hds => by
                obtain ⟨_, ⟨_, ⟨_, ⟨k, rfl, hk1⟩, rfl⟩, rfl⟩, rfl⟩ := hds
                exact ⟨_, pLotD.mk left k hk.nd hne (by omega) hk1, fun d q => q⟩) fun d ⟨l, hd, q1, q2, q3⟩ => ⟨l, rfl, by rw [hd]; rfl, q1, q2, q3⟩) (fun W' e' ⟨_, e, _⟩ => by rw [e]) fun W' e' ⟨l, e1, e2, q1, q2, q3⟩ => ?_
        subst e1 e2
        obtain ⟨kn, less⟩ := hk.step q1 q2 q3
        refine snm_seq (Pm := fun W' e' => W' = LW (LW (HW h ac) ld []) lk (ks.map lotD) ∧ e' = [some (.loc h), some (.d (.int (p : Int))), some (.d (.int 5)), some (.d (.lst (intsD (left.filter fun x => !l.contains x)))), some (.loc lk), some (.loc ld), some (.d (lotD l)), none, none, none]) (snm_of (sn_asg (ed_lc (as := left) (enc := fun (n : Nat) => Da.int (n : Int)) (fun (n : Nat) => Da.int (n : Int)) (fun x => !l.contains x) _ (src_lst (ed_var rfl)) (by omega) (fun j h => h) _ (fun x _ => gd_name) (fun x _ => et_test (ed_op (ed_var rfl) (ed_var rfl) rv_niT)) (fun x _ _ => ed_var rfl))) ⟨rfl, rfl⟩) (fun W' e' ⟨e, _⟩ => by rw [e]) fun W' e' ⟨e1, e2⟩ => ?_
        subst e1 e2
        refine snm_weak (Pm := fun W' e' => W' = LW (LW (HW h ac) ld []) lk (ks.map lotD ++ [lotD l]) ∧ e' = [some (.loc h), some (.d (.int (p : Int))), some (.d (.int 5)), some (.d (.lst (intsD (left.filter fun x => !l.contains x)))), some (.loc lk), some (.loc ld), some (.d (lotD l)), none, none, none]) (snm_app (Px := fun x => x = lotD l) mk2 rfl (em_of (ed_var rfl) ⟨_, rfl, rfl⟩) (by rw [List.length_map]; omega) fun x hx => by subst hx; exact ⟨rfl, rfl⟩) fun W' e' ⟨e1, e2⟩ => ⟨[some (.loc h), some (.d (.int (p : Int))), some (.d (.int 5)), some (.d (.lst (intsD (left.filter fun x => !l.contains x)))), some (.loc lk), some (.loc ld), none, none, none, none], ⟨_, less, _, ks ++ [l], rfl, by rw [e1, List.map_append]; rfl, rfl, kn⟩, by rw [e2]; rfl, fun j d hj => ?_⟩
        rw [e2]
        match j, hj with
        | 0, hj => exact hj
        | 1, hj => exact hj
        | 2, hj => exact hj
        | 3, hj => exact hj
        | 4, hj => exact hj
        | 5, hj => exact hj
        | 6, hj => exact nomatch (Option.some.inj hj)
        | 7, hj => exact nomatch (Option.some.inj hj)
        | 8, hj => exact nomatch (Option.some.inj hj)
        | 9, hj => exact nomatch (Option.some.inj hj)
        | j + 10, hj => exact nomatch hj
      · have hb := of_decide_eq_false hb
        have hnil : left = [] := List.eq_nil_of_length_eq_zero (by omega)
        subst hnil
        exact ⟨ks, rfl, rfl, hk⟩
    · subst e1 e2
      refine sro_absorb (j := 4) mk2 rfl ?_
      have hkl : ks.length ≤ p := by have := hk.len; simpa using this
      have hksok : ∀ k, k ∈ ks → LotP p k := hk.ok
      let env0 : En := [some (.loc h), some (.d (.int (p : Int))), some (.d (.int 5)), some (.d (.lst [])), some (.d (lotsD ks)), some (.loc ld), none, none, none, none]
      refine sro_seq (Pn := fun W' e' => ∃ ds, W' = LW (HW h ac) ld (ds.map deedD) ∧ e' = env0 ∧ Dd p ks ks.length ds ∧ ds.length ≤ 10) (snm_for (P0 := fun as => as = ks) (enc := lotD) (fun i W' e' => ∃ ds, W' = LW (HW h ac) ld (ds.map deedD) ∧ e' = env0 ∧ Dd p ks i ds ∧ ds.length + ks.length ≤ 10 + i) (fun i W' e' ⟨_, e, _⟩ => by rw [e]; rfl) (fun as e => ⟨[], rfl, rfl, ⟨fun d hd => (nomatch hd), fun j k hj => absurd hj (Nat.not_lt_zero _)⟩, by show 0 + ks.length ≤ 10 + 0; omega⟩) (srcM_of (src_lst (ed_var rfl)) ⟨ks, rfl, rfl⟩)
        (fun as e i kn W' e' hi ⟨ds, e1, e2, dd, hl⟩ => ?_) fun as e W' e' ⟨ds, e1, e2, dd, hl⟩ => ⟨ds, e1, e2, (by subst e; exact dd), (by subst e; omega)⟩) (fun W' e' ⟨_, e, _⟩ => by rw [e]; rfl) fun W' e' ⟨ds, e1, e2, dd, hl⟩ => ?_
      · subst e
        subst e1 e2
        have hik : kn ∈ as := List.mem_of_getElem? hi
        have hil : i < as.length := (List.getElem?_eq_some_iff.mp hi).1
        have okk := hksok kn hik
        have upI : ∀ xs, Up (HW h ac) (LW (HW h ac) ld xs) := fun xs => up_lw (Up.refl _) md
        refine ⟨_, _, gd_name, ?_⟩
        let env1 : En := [some (.loc h), some (.d (.int (p : Int))), some (.d (.int 5)), some (.d (.lst [])), some (.d (lotsD as)), some (.loc ld), some (.d (lotD kn)), none, none, none]
        refine snm_weak (Pm := fun W' e' => ∃ ds', W' = LW (HW h ac) ld (ds'.map deedD) ∧ e' = env1 ∧ Dd p as (i + 1) ds' ∧ ds'.length + as.length ≤ 10 + (i + 1)) (snm_for (P0 := fun bs => ∃ t : Nat, bs = List.range t ∧ (1 ≤ t ∧ (t = 1 ∨ (t ≤ 3 ∧ ds.length + as.length < 8)))) (enc := fun (i : Nat) => Da.int (i : Int))
          (fun t W' e' => ∃ ds', W' = LW (HW h ac) ld (ds'.map deedD) ∧ e' = env1 ∧ Dd p as i ds' ∧ (1 ≤ t → ∃ d, d ∈ ds' ∧ d.1 = kn) ∧ ds'.length = ds.length + t) (fun t W' e' ⟨_, e, _⟩ => by rw [e]; rfl) (fun bs _ => ⟨ds, rfl, rfl, dd, fun z => absurd z (by decide), rfl⟩) ?_ (fun bs hbs t x W' e' hx ⟨ds', e1, e2, dd', hd1, hd2⟩ => ?_) fun bs hbs W' e' ⟨ds', e1, e2, dd', hd1, hd2⟩ => ?_) fun W' e' ⟨ds', e1, e2, dd', hl'⟩ => ⟨env0, ⟨ds', e1, rfl, dd', hl'⟩, by rw [e2]; rfl, fun j d hj => ?_⟩
        · -- how many turns
          refine srcM_rngP (n := 3) (em_if (Pb := fun b => b = decide (((ds.length : Int) + (as.length : Int)) < 8)) (etm_test (em_op (P1 := fun d => d = .d (.int ((ds.length : Int) + (as.length : Int)))) (P2 := fun d => d = .d (.int 8)) (em_op (P1 := fun d => d = .d (.int (ds.length : Int))) (P2 := fun d => d = .d (.int (as.length : Int))) (em_lenOwn rfl (by rw [List.length_map])) (fun _ _ => em_of (ed_is (ed_cb (ea_cons (ed_var rfl) ea_nil) rc_lenL) (by rw [List.length_map])) rfl) fun a b h1 h2 => by subst h1 h2; exact ⟨_, rv_I0, rfl⟩) (fun _ _ => em_of ed_int rfl) fun a b h1 h2 => by subst h1 h2; exact ⟨_, rv_B0, _, rfl, rfl⟩)) (fun hb => ?_) fun hb => ?_) (by decide)
          · have hlt := of_decide_eq_true hb.symm
            exact any_ints [.int 1, .int 1, .int 2, .int 2, .int 3] (by simp) (by show 5 ≤ 100000; decide) (upI _) (ea_cons (ed_var rfl) (ea_cons (ed_lst (ds := [.int 1, .int 1, .int 2, .int 2, .int 3]) (ea_cons ed_int (ea_cons ed_int (ea_cons ed_int (ea_cons ed_int (ea_cons ed_int ea_nil))))) (by show 5 ≤ 100000; decide)) ea_nil)) fun x hx => by
              simp only [List.mem_cons, List.not_mem_nil, or_false] at hx
              have l8 : ds.length + as.length < 8 := by omega
              rcases hx with rfl | rfl | rfl | rfl | rfl
              · exact ⟨1, rfl, by decide, by decide, .inl rfl⟩
              · exact ⟨1, rfl, by decide, by decide, .inl rfl⟩
              · exact ⟨2, rfl, by decide, by decide, .inr ⟨by decide, l8⟩⟩
              · exact ⟨2, rfl, by decide, by decide, .inr ⟨by decide, l8⟩⟩
              · exact ⟨3, rfl, by decide, by decide, .inr ⟨by decide, l8⟩⟩
          · exact em_of ed_int ⟨1, rfl, by decide, by decide, .inl rfl⟩
        · subst e1 e2
          obtain ⟨t', rfl, ht1, ht2⟩ := hbs
          have htt : t < t' := by
            have := (List.getElem?_eq_some_iff.mp hx).1
            rwa [List.length_range] at this
          refine ⟨_, _, gd_name, ?_⟩
          let env2 : Nat → En := fun sz => [some (.loc h), some (.d (.int (p : Int))), some (.d (.int 5)), some (.d (.lst [])), some (.d (lotsD as)), some (.loc ld), some (.d (lotD kn)), some (.d (.int (x : Int))), some (.d (.int (sz : Int))), none]
          have kl : 1 ≤ kn.length := List.length_pos_iff.mpr okk.2
          refine snm_seq (Pm := fun W' e' => ∃ sz, W' = LW (HW h ac) ld (ds'.map deedD) ∧ e' = env2 sz ∧ 1 ≤ sz) (snm_asg (P := fun d => ∃ sz : Nat, d = .d (.int (sz : Int)) ∧ 1 ≤ sz) (em_if (Pb := fun _ => True) (etm_test (em_op (P1 := fun d => ∃ k : Nat, d = .d (.int (k : Int))) (P2 := fun d => d = .d (.int 0)) (draw_m 5 (by decide) (by decide) (upI _) (ea_cons (ed_var rfl) (ea_cons (ed_var rfl) ea_nil)) fun d _ => ⟨d, rfl⟩) (fun _ _ => em_of ed_int rfl) fun a b ⟨k, h1⟩ h2 => by subst h1 h2; exact ⟨_, rv_B0, _, rfl, True.intro⟩))
            (fun _ => em_of (ed_is (ed_cb (ea_cons (ed_var rfl) ea_nil) rc_len) (by rw [List.length_map])) ⟨kn.length, rfl, kl⟩)
            (fun _ => em_op (P1 := fun d => d = .d (.int 1)) (P2 := fun d => ∃ k : Nat, d = .d (.int (k : Int))) (em_of ed_int rfl) (fun _ _ => draw_m (min 3 p) (by omega) (by omega) (upI _) (ea_cons (ed_var rfl) (ea_cons (ed_cb (ea_cons ed_int (ea_cons (ed_var rfl) ea_nil)) rc_min3) ea_nil)) fun d _ => ⟨d, rfl⟩) fun a b h1 ⟨k, h2⟩ => by subst h1 h2; exact ⟨_, rv_I0, k + 1, by show Sv.d (.int (1 + (k : Int))) = _; rw [Int.add_comm]; rfl, by omega⟩)) fun d ⟨sz, hd, h1⟩ => ⟨sz, rfl, by rw [hd]; rfl, h1⟩) (fun W' e' ⟨_, e, _⟩ => by rw [e]) fun W' e' ⟨sz, e1, e2, hsz⟩ => ?_
          subst e1 e2
          have dlen : ds'.length ≤ 100 := by rcases ht2 with z | z <;> omega
          refine snm_weak (Pm := fun W' e' => ∃ ds2, W' = LW (HW h ac) ld (ds2.map deedD) ∧ e' = env2 sz ∧ Dd p as i ds2 ∧ (∃ d, d ∈ ds2 ∧ d.1 = kn) ∧ ds2.length = ds.length + (t + 1)) (snm_ins (Px := fun y => ∃ l, y = deedD (kn, l) ∧ LotP p l) md rfl (eam_imp (eam2 (P := fun d => ∃ m : Nat, d = .d (.int (m : Int)) ∧ m ≤ 100000) (Q := fun d => ∃ l, d = .d (deedD (kn, l)) ∧ LotP p l)
            (em_call (eam_ed (ed_var rfl) (eam1 (P := fun d => d = .d (.int ((ds'.length + 1 : Nat) : Int))) (em_op (P1 := fun d => d = .d (.int (ds'.length : Int))) (P2 := fun d => d = .d (.int 1)) (em_lenOwn rfl (by rw [List.length_map])) (fun _ _ => em_of ed_int rfl) fun a b h1 h2 => by subst h1 h2; exact ⟨_, rv_I0, rfl⟩))) (upI _) fun es hes => by
              obtain ⟨_, ⟨_, rfl, rfl⟩, rfl⟩ := hes
              exact ⟨_, pDraw.mk (ds'.length + 1) (by omega) (by omega), fun d ⟨m, e, hm⟩ => ⟨m, e, by omega⟩⟩)
            (em_tup (eam2 (P := fun d => d = .d (lotD kn)) (Q := fun d => ∃ l, d = .d (lotD l) ∧ LotP p l) (em_of (ed_var rfl) rfl) (em_call (P1 := fun es => es = [.loc h, .d (.lst (intsD (List.range p))), .d (.int (sz : Int))]) (eam_of (ea_cons (ed_var rfl) (ea_cons (ed_listRg (ed_var rfl) (by omega)) (ea_cons (ed_var rfl) ea_nil))) rfl) (upI _) fun es e => by
              subst e
              exact ⟨_, pLotD.mk (List.range p) sz List.nodup_range (fun z => by have := congrArg List.length z; rw [List.length_range] at this; simp at this; omega) (by rw [List.length_range]; omega) hsz, fun d ⟨l, e, q1, q2, q3⟩ => ⟨l, e, ⟨q1, fun x hx => List.mem_range.mp (q2 x hx)⟩, q3⟩⟩)) fun es ⟨a, b, e1, ⟨l, e2, hl⟩, e3⟩ => by
                subst e1 e2 e3
                exact ⟨[lotD kn, lotD l], rfl, lz2, l, rfl, hl⟩)) fun es ⟨a, b, ⟨m, e1, hm⟩, ⟨l, e2, hl⟩, e3⟩ => by
                  subst e1 e2 e3
                  exact ⟨m, _, hm, ⟨l, rfl, hl⟩, rfl⟩) (by rw [List.length_map]; omega) fun m y ⟨l, hy, hl⟩ => by
                    subst hy
                    obtain ⟨z1, z2, z3⟩ := dd'.ins hik hl m
                    exact ⟨_, by rw [map_ins], rfl, z1, ⟨_, z2, rfl⟩, by rw [z3, hd2]; omega⟩) fun W' e' ⟨ds2, e1, e2, z1, z2, z3⟩ => ⟨env1, ⟨ds2, e1, rfl, z1, fun _ => z2, z3⟩, by rw [e2]; rfl, fun j d hj => ?_⟩
          rw [e2]
          match j, hj with
          | 0, hj => exact hj
          | 1, hj => exact hj
          | 2, hj => exact hj
          | 3, hj => exact hj
          | 4, hj => exact hj
          | 5, hj => exact hj
          | 6, hj => exact hj
          | 7, hj => exact nomatch (Option.some.inj hj)
          | 8, hj => exact nomatch (Option.some.inj hj)
          | 9, hj => exact nomatch (Option.some.inj hj)
          | j + 10, hj => exact nomatch hj
        · obtain ⟨t, rfl, ht1, ht2⟩ := hbs
          rw [List.length_range] at hd1 hd2
          refine ⟨ds', e1, e2, ⟨dd'.ok, fun j k hj hk' => ?_⟩, by rcases ht2 with z | z <;> omega⟩
          by_cases hji : j = i
          · subst hji
            rw [hi] at hk'
            cases hk'
            exact hd1 ht1
          · exact dd'.has j k (by omega) hk'
        · rw [e2]
          match j, hj with
          | 0, hj => exact hj
          | 1, hj => exact hj
          | 2, hj => exact hj
          | 3, hj => exact hj
          | 4, hj => exact hj
          | 5, hj => exact hj
          | 6, hj => exact nomatch (Option.some.inj hj)
          | 7, hj => exact nomatch (Option.some.inj hj)
          | 8, hj => exact nomatch (Option.some.inj hj)
          | 9, hj => exact nomatch (Option.some.inj hj)
          | j + 10, hj => exact nomatch hj
      · subst e1 e2
        have kdeed : ∀ d, d ∈ ds → DeedOk p d := fun d hd => by
          obtain ⟨q1, q2⟩ := dd.ok d hd
          have q3 := hksok d.1 q1
          exact ⟨lotP_ok q3, lotP_ok q2, q3.2, q2.2, Nat.le_trans (lotP_len q3) (by omega), Nat.le_trans (lotP_len q2) (by omega)⟩
        have used : ∀ x, x < p → ∃ d, d ∈ ds ∧ x ∈ d.1 := fun x hx => by
          rcases hk.cov x hx with z | ⟨k, hkk, hxk⟩
          · cases z
          · obtain ⟨j, hj, hjk⟩ := List.getElem_of_mem hkk
            obtain ⟨d, hd, e⟩ := dd.has j k hj (by rw [List.getElem?_eq_getElem hj, hjk])
            exact ⟨d, hd, by rw [e]; exact hxk⟩
        refine sro_srm (srm_ret (em_tup (eam2 (P := fun d => d = .d (.int (p : Int))) (Q := fun d => d = .d (deedsD ds)) (em_of (ed_var rfl) rfl) (em_tupOwn rfl rfl)) fun es ⟨a, b, e1, e2, e3⟩ => ?_)) fun Hd H i => i.1
        subst e1 e2 e3
        refine ⟨[.int (p : Int), deedsD ds], rfl, lz2, ⟨p, ds⟩, rfl, ⟨h1, by show p ≤ 10; omega, ?_, hl, kdeed, used, fun d e hd he ne x hx hx2 => hk.pw d.1 e.1 (dd.ok d hd).1 (dd.ok e he).1 ne x hx hx2⟩, rfl⟩
        obtain ⟨d, hd, _⟩ := used 0 (by omega)
        exact List.length_pos_of_mem hd
end
end K13

set_option Elab.async false
set_option linter.all false
set_option maxRecDepth 100000
set_option maxHeartbeats 4000000
/-! KN: a net is made. -/
namespace L2
open PySem PySem.Spec PyProof.Rows
/-- o.f as a target -/
def gFld (K : PySem.W.Frag) (ta : TE) (f : Str) : TG := fun v σ H Q => ta σ H fun x H2 => ∃ a C dx fs, x = .ref a ∧ H2 a = some (.ins C dx fs) ∧ Cls K C ∧ NoAttr K C f ∧ fs.length < 1000 ∧ Q σ (upd H2 a (.ins C dx (putF f v fs)))
theorem pg_fld {X : Cx} {o : Expr} {f : Str} {ta : TE} {pos : Pos} (ha : PE X o ta) : PG X (.Attribute o f pos) (gFld X.K ta f) := by
  refine ⟨fun pins s σ H v u Q I r h => ?_⟩
  rw [assign_Attribute]
  refine wpAny_bind (wpAny_holding (thn (ha.run pins s σ H _ I h) fun ov s1 ⟨x, H2, I2, rx, a, C, dx, fs, ex, ea, c, n, l, q⟩ => ?_))
  subst ex
  obtain rfl : ov = Value.ref a := rx
  refine wpAny_bind (wpAny_standAt (wpAny_bind (wpAny_holding (setattr_ok I2 ea c n l r fun s3 I3 => ?_))))
  exact wpAny_release ⟨σ, _, I3, q⟩
end L2
namespace K13
open PySem PySem.Spec PyProof.Rows L2
open Evl (Ex ex_l ex_t sq_of st_of sz_of sz_lt fresh_back)
theorem pg_fldK (K : PySem.W.Frag) {X : Cx} {o : Expr} {f : Str} {ta : TE} {pos : Pos} (ha : PE X o ta) (h : X.K = K := by rfl) : PG X (.Attribute o f pos) (gFld K ta f) := by
  subst h
  exact pg_fld ha
theorem ps_fldK (K : PySem.W.Frag) {X : Cx} {o value : Expr} {f : Str} {ta tv : TE} {pos pos' : Pos} (ha : PE X o ta) (hv : PE X value tv) (hs : swapsWith value (some (.Attribute o f pos')) pos.line X.env = pure false) (h : X.K = K := by rfl) : PS X (.Assign [.Attribute o f pos'] value pos) (sFld K ta tv f) := by
  subst h
  exact ps_fld ha hv hs
/-- the numbers of the text's top -/
structure Gs (mg : Str → Option Value) : Prop where
  p : ∃ t, mg "MOST_PLACES" = some (.int 10 t)
  d : ∃ t, mg "MOST_DEEDS" = some (.int 10 t)
/-- what Net.__init__ promises of a net as the law draws it -/
def spInit (c : Addr) : Sp := fun vs H Q _ => ∃ (x dx t : Addr) (Hd : Hp) (n : NetD), vs = [.ref x, .int (n.places : Int), .ref t] ∧ H x = some (.ins c dx []) ∧ Hd x = none ∧ Ex Hd H ∧ Rp Hd (.ref t) (deedsD n.deeds) ∧ NetV n ∧
  ∀ (l : Addr) (H' : Hp), H l = none → (∀ b o, b ≠ x → H b = some o → H' b = some o) → H' x = some (.ins c dx (netF n.places t l)) → H' l = some (.dK []) → Q .non H'
abbrev s_Net___init__ : Stmt := inClass (topS 19) 0
theorem sc_Net___init__ : FnScope ["self", "places", "deeds"] ["self", "places", "deeds"] (defScope s_Net___init__) := ⟨rfl, rfl, rfl, by decide +kernel, rfl, by decide +kernel, by decide +kernel⟩
theorem skip_if {C : CW} {tt : TT} {t u : TS} {env : En} {σ : L2.St} {H Hd : Hp} {D : Ends} (h : ET C tt env false) (s : SO C Hd σ env) (e : Ex Hd H) (k : ∀ H2, Ex H H2 → u D σ H2) : tSeq (tIfS tt t tNext) u D σ H := h σ H Hd s e _ fun H2 e2 => k H2 e2
section
variable {P : Program} {w : World} {K : PySem.W.Frag} {mg : Str → Option Value} {base : Heap} {C : CW}
theorem ok_Net_init (B : Bt mg) (G : Gs mg) (Z : Cls K C.c) (nP : NoAttr K C.c "places") (nD : NoAttr K C.c "deeds") (nL : NoAttr K C.c "looked") (c_is_within : Cal P w K mg base CX0 2 "is_within" (spD C pWithin)) (c_are_deeds : Cal P w K mg base CX0 5 "are_deeds" (spD C pDeeds)) (c_are_used : Cal P w K mg base CX0 1 "are_used" (spD C pUsed)) (c_are_free : Cal P w K mg base CX0 1 "are_free" (spD C pFree))
    {f : Addr} {fd : FuncData} (F : Fun K "__init__" "Net.__init__" s_Net___init__ f fd) : FnOk P w K mg base CX0 6 f fd ["self", "places", "deeds"] (spInit C.c) := by
  obtain ⟨⟨tp, gp⟩, ⟨td, gd⟩⟩ := G
  refine F.ok sc_Net___init__ (fun vs H Q E ⟨x, dx, t, Hd, n, e, _⟩ => by rw [e]; rfl) fun cdv A outer s H vs Q E hr h => ⟨_,
    (pss_cons (ps_if (pt_not (pt_val (pe_cal c_is_within hr (by decide) rfl pass0 (pa_cons (pv 1) (pa_cons pe_int (pa_cons (pe_glob (v := .int 10) rfl gp ⟨_, rfl⟩) pa_nil)))))) (pss_one ps_never) pss_nil)
      (pss_cons (ps_if (pt_not (pt_val (pe_cal c_are_deeds hr (by decide) rfl pass0 (pa_cons (pv 1) (pa_cons (pv 2) (pa_cons (pe_glob (v := .int 10) rfl gd ⟨_, rfl⟩) pa_nil)))))) (pss_one ps_never) pss_nil)
      (pss_cons (ps_if (pt_not (pt_val (pe_cal c_are_used hr (by decide) rfl pass0 (pa_cons (pv 1) (pa_cons (pv 2) (pa_cons (pe_tup pa_nil) pa_nil)))))) (pss_one ps_never) pss_nil)
      (pss_cons (ps_if (pt_not (pt_val (pe_cal c_are_free hr (by decide) rfl pass0 (pa_cons (pv 2) pa_nil)))) (pss_one ps_never) pss_nil)
      (pss_cons (ps_asg (pe_tup (pa_cons (pv 1) (pa_cons (pv 2) pa_nil))) (pg_tupK K (n := 2) rfl (pgs_cons (pg_fldK K (pv 0) rfl) (pgs_cons (pg_fldK K (pv 0) rfl) pgs_nil))))
      (pss_one (ps_fldK K (pv 0) pe_dnewK rfl))))))), ?_⟩
  obtain ⟨x, dx, t, Hd, n, ev, hx, hdx, e, rt, ok, k⟩ := h
  subst ev
  have so : SO C Hd (L2.start ["self", "places", "deeds"] [.ref x, .int (n.places : Int), .ref t]) [some (.loc x), some (.d (.int (n.places : Int))), some (.d (deedsD n.deeds))] := SO.start (.cons (.loc x) (.cons (.d (.int _)) (.cons (.d rt) .nil)))
  have w1 : isWithin (.int (n.places : Int)) 1 10 = true := within_of (by have := ok.p1; omega) (by have := ok.p2; omega)
  refine skip_if (et_is (et_not (et_B (ed_call (ea_cons (ed_var rfl) (ea_cons ed_int (ea_cons ed_int ea_nil))) (.mk _ _ _)))) (by rw [w1]; rfl)) so e fun H1 e1 => ?_
  refine skip_if (et_is (et_not (et_B (ed_call (ea_cons (ed_var rfl) (ea_cons (ed_var rfl) (ea_cons ed_int ea_nil))) (.mk n ok)))) rfl) so (e.trans e1) fun H2 e2 => ?_
  refine skip_if (et_is (et_not (et_B (ed_call (ea_cons (ed_var rfl) (ea_cons (ed_var rfl) (ea_cons (ed_tup (ds := []) ea_nil (by decide)) ea_nil))) (.mk n ok)))) rfl) so ((e.trans e1).trans e2) fun H3 e3 => ?_
  refine skip_if (et_is (et_not (et_B (ed_call (ea_cons (ed_var rfl) ea_nil) (.mk n ok)))) rfl) so (((e.trans e1).trans e2).trans e3) fun H4 e4 => ?_
  have eH : Ex H H4 := ((e1.trans e2).trans e3).trans e4
  have hx4 := eH _ _ hx
  refine ⟨_, rfl, _, rfl, ⟨sz_of (by show 2 ≤ 100000; decide), fun q hq => ?_⟩⟩
  have nq : x ≠ q := fun z => by rw [← z, hx4] at hq; cases hq
  have h5 : (upd H4 q (.tup [.int (n.places : Int), .ref t])) x = some (.ins C.c dx []) := by rw [upd_ne nq]; exact hx4
  refine ⟨q, _, rfl, st_of upd_same, rfl, _, _, rfl, ⟨_, rfl, x, C.c, dx, [], rfl, h5, Z, nP, by show 0 < 1000; decide, ?_⟩⟩
  refine ⟨_, _, rfl, ⟨_, rfl, x, C.c, dx, [("places", .int (n.places : Int))], rfl, upd_same, Z, nD, by show 1 < 1000; decide, rfl, ?_⟩⟩
  intro l hl
  have nlx : l ≠ x := fun z => by rw [z, upd_same] at hl; cases hl
  rw [upd_ne nlx, upd_ne nlx] at hl
  have nlq : l ≠ q := fun z => by rw [z, upd_same] at hl; cases hl
  rw [upd_ne nlq] at hl
  refine ⟨_, rfl, x, C.c, dx, [("places", .int (n.places : Int)), ("deeds", .ref t)], rfl, by rw [upd_ne (Ne.symm nlx), upd_same]; rfl, Z, nL, by show 2 < 1000; decide, ?_⟩
  have old : ∀ b o, H b = some o → H4 b = some o := eH
  refine k l _ ?_ (fun b o hb ho => ?_) (by rw [upd_same]; rfl) (by rw [upd_ne nlx, upd_same])
  · cases z : H l with
    | none => rfl
    | some o =>
      rw [eH _ _ z] at hl
      cases hl
  · have nbl : b ≠ l := fun z => by
      rw [z] at ho
      rw [eH _ _ ho] at hl
      cases hl
    have nbq : b ≠ q := fun z => by
      rw [z] at ho
      rw [eH _ _ ho] at hq
      cases hq
    rw [upd_ne hb, upd_ne nbl, upd_ne hb, upd_ne hb, upd_ne nbq]
    exact eH _ _ ho
end
end K13

set_option Elab.async false
set_option linter.all false
set_option maxRecDepth 100000
set_option maxHeartbeats 4000000
/-! KQ: {t: v} with a tuple for a key; what is never reached. -/
namespace L2
open PySem PySem.Spec PyProof.Rows
theorem pss_dead {X : Cx} : ∀ b : List Stmt, b ≠ [] → PSs X b (fun _ _ _ => False)
  | [], h => absurd rfl h
  | _ :: _, _ => ⟨fun _ _ _ _ _ _ h => h.elim⟩
/-- {k: v}, k a tuple of ints and texts -/
def tDispT (tk tv : TE) : TE := fun σ H Q => ∀ p, H p = none → tk σ (upd H p (.dT [])) fun x H1 => tv σ H1 fun y H2 => H2 p = some (.dT []) ∧ ∃ b ks, x = .ref b ∧ H2 b = some (.tup (ks.map kV)) ∧ Q (.ref p) (upd H2 p (.dT [(ks, y)]))
theorem pe_dispT {X : Cx} {k v : Expr} {pos : Pos} {tk tv : TE} (hu : X.A.units + 1 < cLine) (hk : PE X k tk) (hv : PE X v tv) : PE X (.Dict [some k] [v] pos) (tDispT tk tv) := by
  refine ⟨fun pins s σ H Q I q => ?_⟩
  have hn := I.hok.fresh (Nat.le_refl s.heap.objs.size)
  have I1 := I.laid (a := s.heap.objs.size) (o := .dT []) (h' := s.heap.push { cls := .type "dict", data := .dict #[] }) (t' := s.toks) (fun _ _ z => Heap.get?_push_of_some _ z) (Nat.le_refl _) (dt_empty s.heap I.big)
  rw [arm_eval_Dict, zip_pairTrees [some k] [v] X.env pos rfl rfl, dictDisplay_pairs (pairTrees [some k] [v] X.env pos) (fun z => by have := pairTrees_length [some k] [v] X.env pos rfl rfl; rw [z] at this; cases this) (by rw [pairTrees_length [some k] [v] X.env pos rfl rfl]; show 1 < 17; decide)]
  have hroom : (tupleKind (mixKind X.prog X.w)).room X.A := by
    show X.A.units < cLine
    omega
  refine wpAny_bind (wpAny_standAt (wpAny_bind (wpAny_subDictH (knd := tupleKind (mixKind X.prog X.w)) hroom (by rw [pairTrees_length [some k] [v] X.env pos rfl rfl]; show 1 ≤ 15; decide) ?_)))
  refine pairTrees_cons_walk (thn (hk.run pins _ σ _ _ I1 (q _ hn)) fun u s2 ⟨x, H1, I2, rx, q1⟩ => thn (hv.run pins s2 σ H1 _ I2 q1) fun w2 s3 ⟨y, H2, I3, ry, hp, b, ks, ex, eb, q2⟩ => pairTrees_nil_walk ?_)
  subst ex
  obtain rfl : u = Value.ref b := rx
  obtain ⟨z, hd, xs, rel, dd⟩ := dt_of I3.hok hp
  cases rel
  refine ⟨[(ks, b, w2)], ⟨rfl, rfl, key_of I3.hok eb, trivial⟩, dd, fun h' tk2 dd' hs => ?_⟩
  refine wpAny_pure ⟨.ref s.heap.objs.size, _, ?_, rfl, q2⟩
  obtain ⟨qq, es, ep, hq, h2, h3, h4, _, h5⟩ := dd'
  refine d_write I3 (by rw [hp]; exact True.intro) hs ⟨qq, hq⟩ ⟨by show 1 ≤ sizeLine; decide, hd, [(ks, b, w2)], .cons ⟨rfl, ?_, ry⟩ .nil, qq, es, ep, hq, h2, h3, h4, h5⟩
  have ne : b ≠ s.heap.objs.size := fun z => by rw [z, hp] at eb; cases eb
  show (upd H2 s.heap.objs.size (.dT [(ks, y)])) b = _
  rw [upd_ne ne]
  exact eb
end L2

set_option Elab.async false
set_option linter.all false
set_option maxRecDepth 100000
set_option maxHeartbeats 4000000
/-! KO: dying, where nothing can be done. -/
namespace K13
open PySem PySem.Spec PyProof.Rows L2
open Evl (Ex ex_l ex_t sq_of st_of sz_of sz_lt fresh_back)
/-- no marks at all -/
def zeros (p : Nat) : List Nat := List.replicate p 0
def zkey (p : Nat) : List Key := List.replicate p (.inl 0)
def zV (p : Nat) : List V := List.replicate p (.int 0)
theorem zkey_V (p : Nat) : (zkey p).map kV = zV p := by
  unfold zkey zV
  rw [List.map_replicate]
  rfl
theorem zeros_rp {H : Hp} {st : Addr} {p : Nat} (h : H st = some (.tup (zV p))) : Rp H (.ref st) (lotD (zeros p)) := by
  refine .tup h ?_
  have key : ∀ p, RpL H (zV p) ((zeros p).map fun (n : Nat) => Da.int (n : Int)) := fun p => by
    induction p with
    | zero => exact .nil
    | succ p ih =>
      show RpL H (.int 0 :: zV p) (.int 0 :: (zeros p).map fun (n : Nat) => Da.int (n : Int))
      exact .cons (.int 0) ih
  exact key p
theorem none_ready {n : NetD} (h : NetOk n) (q : Nat) : (List.range n.deeds.length).filter (canDo n (zeros q)) = [] := by
  rw [List.filter_eq_nil_iff]
  intro i hi
  have hi := List.mem_range.mp hi
  have hd : n.deeds[i] ∈ n.deeds := List.getElem_mem hi
  obtain ⟨_, hne, _⟩ := h.ins _ hd
  unfold canDo
  rw [List.getD_eq_getElem?_getD, List.getElem?_eq_getElem hi]
  show ¬ (n.deeds[i].1.all fun p => decide (0 < (zeros q).getD p 0)) = true
  cases e : n.deeds[i].1 with
  | nil => exact absurd e hne
  | cons a r =>
    have z : (zeros q).getD a 0 = 0 := by
      unfold zeros
      rw [List.getD_eq_getElem?_getD, List.getElem?_replicate]
      split <;> rfl
    rw [List.all_cons, z]
    exact Bool.false_ne_true
section
variable {C : CW} {K : PySem.W.Frag} {σ : L2.St} {H Hd : Hp} {te ta : TE} {t : TA} {v x : V} {vs : List V} {Q : VK} {E : XK} {sp : Sp} {D : Ends} {u tb : TS} {g : TG}
theorem de_fld {c a dx : Addr} {fs : List (Str × V)} {f : Str} (hc : Cls K c) (hn : NoAttr K c f) (ha : DE ta σ H (.ref a)) (h : H a = some (.ins c dx fs)) (hl : fs.lookup f = some v) : DE (tFld K ta f) σ H v := fun Q q => ha _ ⟨a, c, dx, fs, v, rfl, h, hc, hn, hl, q⟩
theorem de_dget {a : Addr} {y : V} {td ty : TE} (ha : DE td σ H (.ref a)) (hy : DE ty σ H y) (hg : DGet H a y (some v)) : DE (tDGet td ty) σ H v := fun Q q => ha _ (hy _ ⟨a, v, rfl, hg, q⟩)
theorem dc_call (ha : DA t σ H vs) (h : sp vs H Q E) : tCall sp [] E t σ H Q := ha _ (by rw [List.append_nil]; exact h)
theorem dm_call {c a dx : Addr} {fs : List (Str × V)} {m : Str} (ho : DE ta σ H (.ref a)) (h : H a = some (.ins c dx fs)) (hl : fs.lookup m = none) (ha : DA t σ H vs) (hs : sp (.ref a :: vs) H Q E) : tMeth c m sp [] E ta t σ H Q := ho _ ⟨a, dx, fs, rfl, h, hl, ha _ (by rw [List.append_nil]; exact hs)⟩
theorem set_fld {c x dx : Addr} {fs : List (Str × V)} {f : Str} {tv : TE} {k : Nat} (hc : Cls K c) (hn : NoAttr K c f) (hs : σ[k]? = some (some (.ref x))) (hl : fs.length < 1000) (h : tv σ H fun y H1 => H1 x = some (.ins c dx fs) ∧ u D σ (upd H1 x (.ins c dx (putF f y fs)))) (mono : ∀ (Q Q' : VK), (∀ v H, Q v H → Q' v H) → tv σ H Q → tv σ H Q') : tSeq (sFld K (tVar k) tv f) u D σ H :=
  mono _ _ (fun y H1 q => ⟨_, hs, x, c, dx, fs, rfl, q.1, hc, hn, hl, q.2⟩) h
/-- what ready_in gives where there are no marks -/
theorem ready0 {n : NetD} {nv : V} {st : Addr} {p : Nat} (ok : NetOk n) (hp : p = n.places) (e : Ex Hd H) (hn : RpS C Hd nv (.net n)) (hs : H st = some (.tup (zV p))) (ha : DA t σ H [nv, .ref st]) (k : ∀ a H', Ex H H' → H' a = some (.tup []) → Q (.ref a) H') : tCall (spD C pReady) [] E t σ H Q := by
  have e2 : Ex (upd Hd st (.tup (zV p))) H := fun b o hb => by
    by_cases z : b = st
    · rw [z, upd_same] at hb
      rw [z, hs]
      exact hb
    · rw [upd_ne z] at hb
      exact e b o hb
  have e1 : Ex Hd (upd Hd st (.tup (zV p))) := fun b o hb => by
    by_cases z : b = st
    · rw [z, upd_same]
      have := e b o hb
      rw [z, hs] at this
      exact this
    · rw [upd_ne z]
      exact hb
  refine dc_call ha ⟨_, [.net n, .d (lotD (zeros p))], _, e2, .cons (hn.mono e1) (.cons (.d (zeros_rp upd_same)) .nil), .mk n (zeros p) ok (by unfold zeros; rw [List.length_replicate]; exact hp), fun v Hd' H' a1 a2 a3 r => ?_⟩
  rw [none_ready ok] at r
  cases r with
  | d r =>
    cases r with
    | @tup a us _ g l =>
      cases l
      exact k a H' a1 (a2 _ _ g)
/-- for .. in what ready_in gives: nothing -/
theorem for_ready0 {n : NetD} {nv : V} {st : Addr} {p : Nat} (ok : NetOk n) (hp : p = n.places) (e : Ex Hd H) (hn : RpS C Hd nv (.net n)) (hs : H st = some (.tup (zV p))) (ha : DA t σ H [nv, .ref st]) (k : ∀ H', Ex H H' → D.nx σ H') : tFor (iTup K (tCall (spD C pReady) [] E t)) g tb D σ H :=
  ready0 ok hp e hn hs ha fun a H' e1 h => ⟨a, rfl, ⟨[], st_of h⟩, fun i m σ' H2 => i = 0 ∧ σ' = σ ∧ H2 = H', ⟨0, rfl, rfl, rfl⟩, by
    rintro i m σ' H2 ⟨rfl, rfl, rfl⟩
    exact .inl ⟨⟨[], st_of h, Nat.le_refl _⟩, k _ e1⟩⟩
theorem for_ready0S {n : NetD} {nv : V} {st : Addr} {p : Nat} (ok : NetOk n) (hp : p = n.places) (e : Ex Hd H) (hn : RpS C Hd nv (.net n)) (hs : H st = some (.tup (zV p))) (ha : DA t σ H [nv, .ref st]) (k : ∀ H', Ex H H' → u D σ H') : tSeq (tFor (iTup K (tCall (spD C pReady) [] E t)) g tb) u D σ H := for_ready0 (D := { D with nx := u D }) ok hp e hn hs ha k
end
/-- the walk that has come no further than where it began -/
structure Wk (c : Addr) (p : Nat) (nv : V) (x st : Addr) (H : Hp) : Prop where
  ex : ∃ dx dc lf, H x = some (.ins c dx [("net", nv), ("most", .int 2000), ("came", .ref dc), ("found", .ref lf)]) ∧ H dc = some (.dT [(zkey p, .non)]) ∧ H lf = some (.lst [.ref st])
  st : H st = some (.tup (zV p))
theorem Wk.mono {c : Addr} {p : Nat} {nv : V} {x st : Addr} {H H' : Hp} (h : Wk c p nv x st H) (e : Ex H H') : Wk c p nv x st H' := by
  obtain ⟨⟨dx, dc, lf, h1, h2, h3⟩, h4⟩ := h
  exact ⟨⟨dx, dc, lf, e _ _ h1, e _ _ h2, e _ _ h3⟩, e _ _ h4⟩
def spWInit (C : CW) (c : Addr) : Sp := fun vs H Q _ => ∃ (x dx st : Addr) (nv : V) (Hd : Hp) (n : NetD), vs = [.ref x, nv, .ref st, .int 2000] ∧ H x = some (.ins c dx []) ∧ Ex Hd H ∧ Hd x = none ∧ RpS C Hd nv (.net n) ∧ NetOk n ∧ H st = some (.tup (zV n.places)) ∧
  ∀ H', (∀ b o, b ≠ x → H b = some o → H' b = some o) → Wk c n.places nv x st H' → Q .non H'
def spWOver (c : Addr) : Sp := fun vs H Q _ => ∃ (x st : Addr) (nv : V) (p : Nat), vs = [.ref x] ∧ Wk c p nv x st H ∧ Q (.bl false) H
def spWRun (c : Addr) : Sp := fun vs H Q _ => ∃ (x st : Addr) (nv : V) (p : Nat), vs = [.ref x, .ref st] ∧ Wk c p nv x st H ∧ ∀ a H', Ex H H' → H' a = some (.tup []) → Q (.ref a) H'
def spWalked (C : CW) (c : Addr) : Sp := fun vs H Q _ => ∃ (st : Addr) (nv : V) (Hd : Hp) (n : NetD), vs = [nv, .ref st] ∧ Ex Hd H ∧ RpS C Hd nv (.net n) ∧ NetOk n ∧ H st = some (.tup (zV n.places)) ∧ ∀ x H', Ex H H' → Wk c n.places nv x st H' → Q (.ref x) H'
def spBack (C : CW) : Sp := fun vs H Q _ => ∃ (st lf : Addr) (nv : V) (Hd : Hp) (n : NetD), vs = [nv, .ref lf] ∧ Ex Hd H ∧ RpS C Hd nv (.net n) ∧ NetOk n ∧ H lf = some (.lst [.ref st]) ∧ H st = some (.tup (zV n.places)) ∧ ∀ x H', Ex H H' → Q (.ref x) H'
def spCome : Sp := fun vs H Q _ => ∃ (v : V) (l : Addr), vs = [v, .ref l] ∧ H l = some (.lst []) ∧ ∀ m H', Ex H H' → H' m = some (.dT []) → Q (.ref m) H'
abbrev s_Walk___init__ : Stmt := inClass (topS 27) 0
theorem sc_Walk___init__ : FnScope ["self", "net", "first", "most", "at", "deed", "behind"] ["self", "net", "first", "most"] (defScope s_Walk___init__) := ⟨rfl, rfl, rfl, by decide +kernel, rfl, by decide +kernel, by decide +kernel⟩
abbrev s_Walk_is_over : Stmt := inClass (topS 27) 1
theorem sc_Walk_is_over : FnScope ["self"] ["self"] (defScope s_Walk_is_over) := ⟨rfl, rfl, rfl, by decide +kernel, rfl, by decide +kernel, by decide +kernel⟩
abbrev s_Walk_run_to : Stmt := inClass (topS 27) 2
theorem sc_Walk_run_to : FnScope ["self", "standing", "found", "deed"] ["self", "standing"] (defScope s_Walk_run_to) := ⟨rfl, rfl, rfl, by decide +kernel, rfl, by decide +kernel, by decide +kernel⟩
abbrev s_walked : Stmt := topS 28
theorem sc_walked : FnScope ["net", "standing", "walk"] ["net", "standing"] (defScope s_walked) := ⟨rfl, rfl, rfl, by decide +kernel, rfl, by decide +kernel, by decide +kernel⟩
abbrev s_back_of : Stmt := topS 53
theorem sc_back_of : FnScope ["net", "found", "back", "standing", "deed"] ["net", "found"] (defScope s_back_of) := ⟨rfl, rfl, rfl, by decide +kernel, rfl, by decide +kernel, by decide +kernel⟩
abbrev s_can_come : Stmt := topS 54
theorem sc_can_come : FnScope ["back", "first", "met", "waiting", "standing"] ["back", "first"] (defScope s_can_come) := ⟨rfl, rfl, rfl, by decide +kernel, rfl, by decide +kernel, by decide +kernel⟩
abbrev s_dying : Stmt := topS 55
theorem sc_dying : FnScope ["net", "standing", "walk", "back", "alive", "deed", "one", "met"] ["net", "standing"] (defScope s_dying) := ⟨rfl, rfl, rfl, by decide +kernel, rfl, by decide +kernel, by decide +kernel⟩
section
variable {P : Program} {w : World} {K : PySem.W.Frag} {mg : Str → Option Value} {base : Heap} {C : CW} {c : Addr}
theorem ok_W_over (B : Bt mg) (Z : Cls K c) (nM : NoAttr K c "most") (nF : NoAttr K c "found") {f : Addr} {fd : FuncData} (F : Fun K "is_over" "Walk.is_over" s_Walk_is_over f fd) : FnOk P w K mg base CX0 1 f fd ["self"] (spWOver c) := by
  refine F.ok sc_Walk_is_over (fun vs H Q E ⟨x, st, nv, p, e, _⟩ => by rw [e]; rfl) fun cdv A outer s H vs Q E hr h => ⟨_,
    (pss_one (ps_ret (pe_cmpR op_gt (pe_callB (call_lenK K) (by rfl) B.len_ b_len (pa_cons (pe_fldK K (pv 0) rfl) pa_nil)) (pe_fldK K (pv 0) rfl) (nomark _)))), ?_⟩
  obtain ⟨x, st, nv, p, ev, ⟨⟨dx, dc, lf, h1, h2, h3⟩, h4⟩, k⟩ := h
  subst ev
  exact ds_ret (v := .bl false) (de_B0 (g := fun i j => decide (j < i)) (i := 1) (j := 2000) (de_len (da_cons (de_fld Z nF (de_var rfl) h1 rfl) da_nil) h3) (de_fld Z nM (de_var rfl) h1 rfl)) k
theorem ok_W_run (B : Bt mg) (Z : Cls K c) (nC : NoAttr K c "came") {f : Addr} {fd : FuncData} (F : Fun K "run_to" "Walk.run_to" s_Walk_run_to f fd) : FnOk P w K mg base CX0 1 f fd ["self", "standing"] (spWRun c) := by
  refine F.ok sc_Walk_run_to (fun vs H Q E ⟨x, st, nv, p, e, _⟩ => by rw [e]; rfl) fun cdv A outer s H vs Q E hr h => ⟨_,
    (pss_cons (ps_set (i := 2) sc_Walk_run_to.nd rfl (Or.inl rfl) (pe_lst pa_nil))
      (pss_cons (ps_while PassesOwn.never (pt_cmpR op_notN (pe_dget (room1 hr) (pe_fldK K (pv 0) rfl) (pv 1) (fun _ _ => rfl)) pe_non (nomark _)) (pss_dead _ (by simp)))
      (pss_one (ps_ret (pe_callTy (call_tupK K) (by rfl) B.tuple_ b_tuple (pa_cons (pe_revL (pv 2)) pa_nil)))))), ?_⟩
  obtain ⟨x, st, nv, p, ev, ⟨⟨dx, dc, lf, h1, h2, h3⟩, h4⟩, k⟩ := h
  subst ev
  refine ⟨Nat.zero_le _, fun l hl => ?_⟩
  have ex1 : Ex H (upd H l (.lst [])) := Ex.new hl
  refine ⟨fun m σ' H' => m = 0 ∧ σ' = [some (.ref x), some (.ref st), some (.ref l), none] ∧ H' = upd H l (.lst []), ⟨0, rfl, rfl, rfl⟩, ?_⟩
  rintro m σ' H' ⟨rfl, rfl, rfl⟩
  have dg : DGet (upd H l (.lst [])) dc (.ref st) (some .non) := by
    have := DGet.t (H := upd H l (.lst [])) (a := dc) (b := st) (kvs := [(zkey p, V.non)]) (k := zkey p) (ex1 _ _ h2) (by rw [zkey_V]; exact ex1 _ _ h4)
    have e : valV [(zkey p, V.non)] (zkey p) = some .non := by simp [valV]
    rw [e] at this
    exact this
  refine dt_test (b := false) (de_op (x := .non) (y := .non) (v := .bl false) (de_dget (de_fld (fs := [("net", nv), ("most", .int 2000), ("came", .ref dc), ("found", .ref lf)]) Z nC (de_var rfl) (ex1 _ _ h1) rfl) (de_var rfl) dg) de_c fun Q q => ⟨rfl, q⟩) _ ?_
  rw [if_neg Bool.false_ne_true]
  refine ⟨_, rfl, l, [], rfl, sq_of upd_same, fun q hq => ?_⟩
  have nq : l ≠ q := fun z => by rw [← z, upd_same] at hq; cases hq
  exact ⟨q, [], rfl, .inl ⟨sq_of upd_same, fun a ha => k a _ ((ex1.trans (Ex.new hq)).trans (Ex.new ha)) upd_same⟩⟩
theorem ok_W_init (B : Bt mg) (Z : Cls K c) (nN : NoAttr K c "net") (nM : NoAttr K c "most") (nC : NoAttr K c "came") (nF : NoAttr K c "found") (c_ready_in : Cal P w K mg base CX0 2 "ready_in" (spD C pReady)) {f : Addr} {fd : FuncData} (F : Fun K "__init__" "Walk.__init__" s_Walk___init__ f fd) : FnOk P w K mg base CX0 3 f fd ["self", "net", "first", "most"] (spWInit C c) := by
  refine F.ok sc_Walk___init__ (fun vs H Q E ⟨x, dx, st, nv, Hd, n, e, _⟩ => by rw [e]; rfl) fun cdv A outer s H vs Q E hr h => ⟨_,
    (pss_cons (ps_asg (pe_tup (pa_cons (pv 1) (pa_cons (pv 3) pa_nil))) (pg_tupK K (n := 2) rfl (pgs_cons (pg_fldK K (pv 0) rfl) (pgs_cons (pg_fldK K (pv 0) rfl) pgs_nil))))
      (pss_cons (ps_fldK K (pv 0) (pe_dispT (room1 hr) (pv 2) pe_non) rfl)
      (pss_cons (ps_fldK K (pv 0) (pe_lst (pa_cons (pv 2) pa_nil)) rfl)
      (pss_cons (ps_set (i := 4) sc_Walk___init__.nd rfl (Or.inl rfl) pe_int)
      (pss_one (ps_while PassesOwn.never (PW.pt (pw_and (pt_cmpR op_lt (pv 4) (pe_callB (call_lenK K) (by rfl) B.len_ b_len (pa_cons (pe_fldK K (pv 0) rfl) pa_nil)) (nomark _)) (pw_and1 (pt_cmpR op_le (pe_callB (call_lenK K) (by rfl) B.len_ b_len (pa_cons (pe_fldK K (pv 0) rfl) pa_nil)) (pv 3) (nomark _))))) (pss_cons (ps_for PassesOwn.never rfl (pi_tupK K (pe_cal c_ready_in hr (by decide) rfl pass0 (pa_cons (pv 1) (pa_cons (pe_ix (ix_listK K) (pe_fldK K (pv 0) rfl) (pv 4) (fun _ _ => rfl)) pa_nil)))) (pg_name (i := 5) sc_Walk___init__.nd rfl (Or.inl rfl)) (pss_dead _ (by simp)))
      (pss_one (ps_set (i := 4) sc_Walk___init__.nd rfl (Or.inl rfl) (pe_op op_add (pv 4) pe_int)))))))))), ?_⟩
  obtain ⟨x, dx, st, nv, Hd, n, ev, hx, e, hdx, rn, ok, hst, k⟩ := h
  subst ev
  have sx : st ≠ x := fun z => by rw [z, hx] at hst; cases hst
  -- self.net, self.most = net, most
  refine ⟨_, rfl, _, rfl, ⟨sz_of (by show 2 ≤ 100000; decide), fun q hq => ?_⟩⟩
  have nq : x ≠ q := fun z => by rw [← z, hx] at hq; cases hq
  have h5 : (upd H q (.tup [nv, .int 2000])) x = some (.ins c dx []) := by rw [upd_ne nq]; exact hx
  refine ⟨q, _, rfl, st_of upd_same, rfl, _, _, rfl, ⟨_, rfl, x, c, dx, [], rfl, h5, Z, nN, by show 0 < 1000; decide, ?_⟩⟩
  refine ⟨_, _, rfl, ⟨_, rfl, x, c, dx, [("net", nv)], rfl, upd_same, Z, nM, by show 1 < 1000; decide, rfl, ?_⟩⟩
  have b1 : ∀ b o, b ≠ x → H b = some o → (upd (upd (upd H q (.tup [nv, .int 2000])) x (.ins c dx (putF "net" nv []))) x (.ins c dx (putF "most" (.int 2000) [("net", nv)]))) b = some o := fun b o hb ho => by
    have nbq : b ≠ q := fun z => by rw [z, hq] at ho; cases ho
    rw [upd_ne hb, upd_ne hb, upd_ne nbq]
    exact ho
  have x1 : (upd (upd (upd H q (.tup [nv, .int 2000])) x (.ins c dx (putF "net" nv []))) x (.ins c dx (putF "most" (.int 2000) [("net", nv)]))) x = some (.ins c dx [("net", nv), ("most", .int 2000)]) := by rw [upd_same]; rfl
  generalize upd (upd (upd H q (.tup [nv, .int 2000])) x (.ins c dx (putF "net" nv []))) x (.ins c dx (putF "most" (.int 2000) [("net", nv)])) = H1 at b1 x1
  -- self.came = {first: None}
  show tSeq (sFld K (tVar 0) (tDispT (tVar 2) (tC .non)) "came") _ _ _ H1
  refine fun dc hdc => ⟨_, rfl, upd_same, st, zkey n.places, rfl, ?_, _, rfl, x, c, dx, [("net", nv), ("most", .int 2000)], rfl, ?_, Z, nC, by show 2 < 1000; decide, ?_⟩
  · have : st ≠ dc := fun z => by rw [← z, b1 st _ sx hst] at hdc; cases hdc
    rw [upd_ne this, zkey_V]
    exact b1 st _ sx hst
  · have : x ≠ dc := fun z => by rw [← z, x1] at hdc; cases hdc
    rw [upd_ne this, upd_ne this]
    exact x1
  have ndx : dc ≠ x := fun z => by rw [z, x1] at hdc; cases hdc
  have b2 : ∀ b o, b ≠ x → H b = some o → (upd (upd (upd H1 dc (.dT [])) dc (.dT [(zkey n.places, .non)])) x (.ins c dx (putF "came" (.ref dc) [("net", nv), ("most", .int 2000)]))) b = some o := fun b o hb ho => by
    have nb : b ≠ dc := fun z => by rw [← z, b1 b o hb ho] at hdc; cases hdc
    rw [upd_ne hb, upd_ne nb, upd_ne nb]
    exact b1 b o hb ho
  have x2 : (upd (upd (upd H1 dc (.dT [])) dc (.dT [(zkey n.places, .non)])) x (.ins c dx (putF "came" (.ref dc) [("net", nv), ("most", .int 2000)]))) x = some (.ins c dx [("net", nv), ("most", .int 2000), ("came", .ref dc)]) := by rw [upd_same]; rfl
  have d2 : (upd (upd (upd H1 dc (.dT [])) dc (.dT [(zkey n.places, .non)])) x (.ins c dx (putF "came" (.ref dc) [("net", nv), ("most", .int 2000)]))) dc = some (.dT [(zkey n.places, .non)]) := by rw [upd_ne ndx, upd_same]
  show tSeq (sFld K (tVar 0) (tLst (tCons (tVar 2) tNil)) "found") _ _ _ (upd (upd (upd H1 dc (.dT [])) dc (.dT [(zkey n.places, .non)])) x (.ins c dx (putF "came" (.ref dc) [("net", nv), ("most", .int 2000)])))
  generalize upd (upd (upd H1 dc (.dT [])) dc (.dT [(zkey n.places, .non)])) x (.ins c dx (putF "came" (.ref dc) [("net", nv), ("most", .int 2000)])) = H2 at b2 x2 d2
  -- self.found = [first]
  refine ⟨_, rfl, sz_of (by show 1 ≤ 100000; decide), fun lf hlf => ⟨_, rfl, x, c, dx, [("net", nv), ("most", .int 2000), ("came", .ref dc)], rfl, ?_, Z, nF, by show 3 < 1000; decide, ?_⟩⟩
  · have : x ≠ lf := fun z => by rw [← z, x2] at hlf; cases hlf
    rw [upd_ne this]
    exact x2
  have nlx : lf ≠ x := fun z => by rw [z, x2] at hlf; cases hlf
  have ndl : dc ≠ lf := fun z => by rw [← z, d2] at hlf; cases hlf
  have b3 : ∀ b o, b ≠ x → H b = some o → (upd (upd H2 lf (.lst [.ref st])) x (.ins c dx (putF "found" (.ref lf) [("net", nv), ("most", .int 2000), ("came", .ref dc)]))) b = some o := fun b o hb ho => by
    have nb : b ≠ lf := fun z => by rw [← z, b2 b o hb ho] at hlf; cases hlf
    rw [upd_ne hb, upd_ne nb]
    exact b2 b o hb ho
  have x3 : (upd (upd H2 lf (.lst [.ref st])) x (.ins c dx (putF "found" (.ref lf) [("net", nv), ("most", .int 2000), ("came", .ref dc)]))) x = some (.ins c dx [("net", nv), ("most", .int 2000), ("came", .ref dc), ("found", .ref lf)]) := by rw [upd_same]; rfl
  have d3 : (upd (upd H2 lf (.lst [.ref st])) x (.ins c dx (putF "found" (.ref lf) [("net", nv), ("most", .int 2000), ("came", .ref dc)]))) dc = some (.dT [(zkey n.places, .non)]) := by rw [upd_ne ndx, upd_ne ndl]; exact d2
  have l3 : (upd (upd H2 lf (.lst [.ref st])) x (.ins c dx (putF "found" (.ref lf) [("net", nv), ("most", .int 2000), ("came", .ref dc)]))) lf = some (.lst [.ref st]) := by rw [upd_ne nlx, upd_same]
  show tSeq (tAsg (tC (.int 0)) (gName 4)) _ _ _ (upd (upd H2 lf (.lst [.ref st])) x (.ins c dx (putF "found" (.ref lf) [("net", nv), ("most", .int 2000), ("came", .ref dc)])))
  generalize upd (upd H2 lf (.lst [.ref st])) x (.ins c dx (putF "found" (.ref lf) [("net", nv), ("most", .int 2000), ("came", .ref dc)])) = H3 at b3 x3 d3 l3
  have wk : ∀ H', Ex H3 H' → Wk c n.places nv x st H' := fun H' e' => ⟨⟨dx, dc, lf, e' _ _ x3, e' _ _ d3, e' _ _ l3⟩, e' _ _ (b3 _ _ sx hst)⟩
  have ed : Ex Hd H3 := fun b o hb => b3 b o (fun z => by rw [z, hdx] at hb; cases hb) (e b o hb)
  -- while
  refine ds_asg (v := .int 0) de_c ?_
  refine ⟨fun m σ' H' => Ex H3 H' ∧ ∃ at_ dd : Option V, σ' = [some (.ref x), some nv, some (.ref st), some (.int 2000), at_, dd, none] ∧ ((m = 1 ∧ at_ = some (.int 0)) ∨ (m = 0 ∧ at_ = some (.int 1))), ⟨1, Ex.refl _, some (.int 0), none, rfl, .inl ⟨rfl, rfl⟩⟩, ?_⟩
  rintro m σ' H' ⟨e', at_, dd, rfl, hm⟩
  have fnd : ∀ {a b : Option V}, DE (tFld K (tVar 0) "found") [some (.ref x), some nv, some (.ref st), some (.int 2000), a, b, none] H' (.ref lf) := fun {a b} => de_fld (fs := [("net", nv), ("most", .int 2000), ("came", .ref dc), ("found", .ref lf)]) Z nF (de_var rfl) (e' _ _ x3) rfl
  rcases hm with ⟨rfl, rfl⟩ | ⟨rfl, rfl⟩
  · refine dt_and (b := true) (c := true) (dt_test (de_B0 (g := fun i j => decide (i < j)) (i := 0) (j := 1) (de_var rfl) (de_len (da_cons fnd da_nil) (e' _ _ l3)))) (fun _ => dt_test (de_B0 (g := fun i j => decide (i ≤ j)) (i := 1) (j := 2000) (de_len (da_cons fnd da_nil) (e' _ _ l3)) (de_var rfl))) _ ?_
    rw [if_pos (show (true && true) = true from rfl)]
    refine ⟨fun σ2 H2' => Ex H3 H2' ∧ ∃ dd : Option V, σ2 = [some (.ref x), some nv, some (.ref st), some (.int 2000), some (.int 1), dd, none], fun σ2 H2' ⟨a1, dd2, a2⟩ => ⟨0, by decide, a1, some (.int 1), dd2, a2, .inr ⟨rfl, rfl⟩⟩, ?_⟩
    refine for_ready0S ok rfl (ed.trans e') rn (e' _ _ (b3 _ _ sx hst)) (da_cons (de_var rfl) (da_cons (de_ix (k := 0) fnd (de_var rfl) (e' _ _ l3) rfl) da_nil)) fun H4 e4 => ?_
    exact de_add (i := 0) (j := 1) (de_var rfl) de_c _ ⟨e'.trans e4, dd, rfl⟩
  · refine dt_and (b := false) (c := false) (dt_test (de_B0 (g := fun i j => decide (i < j)) (i := 1) (j := 1) (de_var rfl) (de_len (da_cons fnd da_nil) (e' _ _ l3)))) (fun z => nomatch z) _ ?_
    rw [if_neg (show ¬ (false && false) = true by decide)]
    exact k H' (fun b o hb ho => e' _ _ (b3 b o hb ho)) (wk H' e')
end
end K13

set_option Elab.async false
set_option linter.all false
set_option maxRecDepth 100000
set_option maxHeartbeats 4000000
/-! KO2: dying, where nothing can be done: the defs. -/
namespace K13
open PySem PySem.Spec PyProof.Rows L2
open Evl (Ex ex_l ex_t sq_of st_of sz_of sz_lt fresh_back)
inductive pDying (cs : Addr) : List Sv → Out → Prop
  | ok (n : NetD) (h : NetOk n) (h1 : 1 ≤ n.deeds.length) : pDying cs [.net n, .d (lotD (zeros n.places))] (.ok fun _ => True)
  | er (n : NetD) (d : Da) (h : NetOk n) (hs : isStand n d = false) : pDying cs [.net n, .d d] (.er cs)
/-- what the top has left of the class of walks -/
structure Wc (P : Program) (w : World) (K : PySem.W.Frag) (mg : Str → Option Value) (base : Heap) (C : CW) (c : Addr) : Prop where
  Z : Cls K c
  gW : mg "Walk" = some (.ref c)
  nF : NoAttr K c "found"
  ini : ∃ f fd, Mk K c f ∧ FnOk P w K mg base CX0 3 f fd ["self", "net", "first", "most"] (spWInit C c) ∧ Binds K fd ["self", "net", "first", "most"] []
  ovr : ∃ f fd, Meth K c "is_over" f ∧ FnOk P w K mg base CX0 1 f fd ["self"] (spWOver c) ∧ Binds K fd ["self"] []
  run : ∃ f fd, Meth K c "run_to" f ∧ FnOk P w K mg base CX0 1 f fd ["self", "standing"] (spWRun c) ∧ Binds K fd ["self", "standing"] []
  gs : ∃ t, mg "MOST_STANDINGS" = some (.int 2000 t)
theorem name_step {i : Nat} {v : V} {σ : L2.St} {H : Hp} {Q : L2.St → Hp → Prop} (h : Q (σ.set i (some v)) H) : gName i v σ H Q := h
theorem asg_call {sp : Sp} {E : XK} {t : TA} {i : Nat} {u : TS} {D : Ends} {σ : L2.St} {H : Hp} {vs : List V} (ha : DA t σ H vs) (h : sp vs H (fun v H2 => u D (σ.set i (some v)) H2) E) : tSeq (tAsg (tCall sp [] E t) (gName i)) u D σ H :=
  ha _ (by rw [List.append_nil]; exact h)
theorem asg_nil {i : Nat} {u : TS} {D : Ends} {σ : L2.St} {H : Hp} (h : ∀ l, H l = none → u D (σ.set i (some (.ref l))) (upd H l (.lst []))) : tSeq (tAsg (tLst tNil) (gName i)) u D σ H := ⟨Nat.zero_le _, fun l hl => h l hl⟩
theorem for_rngR {C : CW} {ta : TA} {env : En} {n : Nat} {g : TG} {tb u : TS} {D : Ends} {σ : L2.St} {H Hd : Hp} (ha : EA C ta env [.d (.int (n : Int))]) (so : SO C Hd σ env) (e : Ex Hd H) (hn : n ≤ 1000000)
    (k : ∀ H', Ex H H' → ∃ W : Nat → Nat → L2.St → Hp → Prop, (∃ m, W 0 m σ H') ∧ ∀ i m σ H, W i m σ H → (n ≤ i ∧ u D σ H) ∨ (i < n ∧ ∃ N : L2.St → Hp → Prop, (∀ σ' H', N σ' H' → ∃ m', m' < m ∧ W (i + 1) m' σ' H') ∧ g (.int (i : Int)) σ H fun σ2 H2 => tb { D with nx := N, ct := N, bk := u D } σ2 H2)) : tSeq (tFor (iRng1 ta) g tb) u D σ H :=
  ha σ H Hd so e _ fun vs Hd1 H1 e1 e2 n1 r1 => by
    cases r1 with
    | cons r1 l =>
      cases l
      cases r1 with
      | d r1 =>
        cases r1
        refine ⟨(n : Int), rfl, by omega, by omega, ?_⟩
        rw [Int.toNat_natCast]
        obtain ⟨W, w0, turn⟩ := k H1 e1
        refine ⟨W, w0, fun i m σ' H' hw => ?_⟩
        rcases turn i m σ' H' hw with ⟨q1, q2⟩ | ⟨q1, N, q2, q3⟩
        · exact .inl ⟨q1, q2⟩
        · refine .inr ⟨q1, N, q2, fun v H2 ⟨eq, hv⟩ => ?_⟩
          subst eq hv
          rw [Int.zero_add]
          exact q3
theorem lc_list {K : PySem.W.Frag} {tl te : TE} {g : TG} {tt : TT} {vs : List Nat} {σ : L2.St} {H : Hp} {Q : VK} {a : Addr} {xs : List V} (hd : DE tl σ H (.ref a)) (hl : H a = some (.lst xs))
    (k : ∀ D, H D = none → ∃ W : Nat → Nat → Hp → Prop, (∃ m, W 0 m (upd H D (.lst []))) ∧ ∀ i m H, W i m H → ((Itl K a).stop i H ∧ Q (.ref D) H) ∨ ((Itl K a).go i H ∧ ∃ Nx : Hp → Prop, (∀ H', Nx H' → ∃ m', m' < m ∧ W (i + 1) m' H') ∧ ∀ x H', (Itl K a).yld i H x H' → g x (wipe σ vs) H' fun σ2 H2 => wipe σ2 vs = wipe σ vs ∧ tt σ2 H2 fun b H3 =>
      if b = true then te σ2 H3 fun y H4 => ∃ acc, H4 D = some (.lst acc) ∧ acc.length < sizeLine ∧ Nx (upd H4 D (.lst (acc ++ [y]))) else Nx H3)) : tLc (iList K tl) g tt te vs σ H Q := hd _ ⟨a, rfl, ⟨xs, sq_of hl⟩, k⟩
theorem for_listR {K : PySem.W.Frag} {tl : TE} {g : TG} {tb u : TS} {D : Ends} {σ : L2.St} {H : Hp} {a : Addr} {xs : List V} (hd : DE tl σ H (.ref a)) (hl : H a = some (.lst xs))
    (k : ∃ W : Nat → Nat → L2.St → Hp → Prop, (∃ m, W 0 m σ H) ∧ ∀ i m σ H, W i m σ H → ((Itl K a).stop i H ∧ u D σ H) ∨ ((Itl K a).go i H ∧ ∃ N : L2.St → Hp → Prop, (∀ σ' H', N σ' H' → ∃ m', m' < m ∧ W (i + 1) m' σ' H') ∧ ∀ x H', (Itl K a).yld i H x H' → g x σ H' fun σ2 H2 => tb { D with nx := N, ct := N, bk := u D } σ2 H2)) : tSeq (tFor (iList K tl) g tb) u D σ H := hd _ ⟨a, rfl, ⟨xs, sq_of hl⟩, k⟩
theorem ite_yes {A B : Prop} (h : A) : if true = true then A else B := h
theorem asg_make {c : Addr} {sp : Sp} {E : XK} {t : TA} {i : Nat} {u : TS} {D : Ends} {σ : L2.St} {H : Hp} {vs : List V} (ha : DA t σ H vs) (h : ∀ x dx, H x = none → H dx = none → dx ≠ x → sp (.ref x :: vs) (upd (upd H dx (.own x)) x (.ins c dx [])) (fun v H2 => v = .non ∧ u D (σ.set i (some (.ref x))) H2) E) : tSeq (tAsg (tMake c sp [] E t) (gName i)) u D σ H :=
  ha _ fun x dx h1 h2 h3 => by
    rw [List.append_nil]
    exact h x dx h1 h2 h3
section
variable {P : Program} {w : World} {K : PySem.W.Frag} {mg : Str → Option Value} {base : Heap} {C : CW} {c cs : Addr}
theorem ok_walked (T : Wc P w K mg base C c) (F : DefAt K mg "walked" s_walked) : Cal P w K mg base CX0 5 "walked" (spWalked C c) := by
  have Z := T.Z
  have gW := T.gW
  obtain ⟨fi, fdi, M, FI, bI⟩ := T.ini
  obtain ⟨fo, fdo, mO, FO, bO⟩ := T.ovr
  obtain ⟨ts, gs⟩ := T.gs
  refine cal_of F sc_walked (fun _ _ _ _ _ _ us hl => match us, hl with | [_, _], _ => rfl) (fun vs H Q E ⟨st, nv, Hd, n, e, _⟩ => by rw [e]; rfl) fun f cdv A outer s H vs Q E hr h => ⟨_,
    (pss_cons (ps_set (i := 2) sc_walked.nd rfl (Or.inl rfl) (pe_make M FI (hr.mono (by decide)) rfl gW bI .nil pass0 (pa_cons (pv 0) (pa_cons (pv 1) (pa_cons (pe_glob (v := .int 2000) rfl gs ⟨_, rfl⟩) pa_nil)))))
      (pss_cons (ps_if (pt_val (pe_meth0 (pv 2) Z mO FO (hr.mono (by decide)) bO .nil pass0)) (pss_one ps_never) pss_nil)
      (pss_one (ps_ret (pv 2))))), ?_⟩
  obtain ⟨st, nv, Hd, n, ev, e, rn, ok, hst, k⟩ := h
  subst ev
  refine asg_make (da_cons (de_var rfl) (da_cons (de_var rfl) (da_cons de_c da_nil))) fun x dx hx hdx ne => ?_
  have sx : st ≠ x := fun z => by rw [z, hx] at hst; cases hst
  have sd : st ≠ dx := fun z => by rw [z, hdx] at hst; cases hst
  have ex2 : Ex H (upd (upd H dx (.own x)) x (.ins c dx [])) := (Ex.new hdx).trans (Ex.new (by rw [upd_ne (Ne.symm ne)]; exact hx))
  refine ⟨x, dx, st, nv, Hd, n, rfl, upd_same, e.trans ex2, fresh_back e hx, rn, ok, by rw [upd_ne sx, upd_ne sd]; exact hst, fun H' b1 wk => ⟨rfl, ?_⟩⟩
  have e3 : Ex H H' := fun b o hb => b1 b o (fun z => by rw [z, hx] at hb; cases hb) (ex2 b o hb)
  have hk : H' x ≠ none := by
    obtain ⟨⟨dx', dc, lf, h1, _, _⟩, _⟩ := wk
    rw [h1]
    exact (fun z => nomatch z)
  obtain ⟨⟨dx', dc, lf, h1, h2, h3⟩, h4⟩ := id wk
  refine dm_call (vs := []) (de_var rfl) h1 (by rfl) da_nil ⟨x, st, nv, n.places, rfl, wk, ?_⟩
  refine ⟨false, rfl, ?_⟩
  show tRet (tVar 2) _ _ H'
  exact ⟨_, rfl, k x H' e3 wk⟩
theorem ok_can_come (B : Bt mg) (F : DefAt K mg "can_come" s_can_come) : Cal P w K mg base CX0 1 "can_come" spCome := by
  refine cal_of F sc_can_come (fun _ _ _ _ _ _ us hl => match us, hl with | [_, _], _ => rfl) (fun vs H Q E ⟨v, l, e, _⟩ => by rw [e]; rfl) fun f cdv A outer s H vs Q E hr h => ⟨_,
    (pss_cons (ps_par (i := 2) (j := 3) rfl sc_can_come.nd rfl rfl (by decide) rfl rfl (pa_cons pe_dnewT (pa_cons (pe_callTy (call_listK K) (by rfl) B.list_ b_list (pa_cons (pv 1) pa_nil)) pa_nil)) rfl)
      (pss_cons (ps_while PassesOwn.never (pt_cmpR op_gt (pe_callB (call_lenK K) (by rfl) B.len_ b_len (pa_cons (pv 3) pa_nil)) pe_int (nomark _)) (pss_dead _ (by simp)))
      (pss_one (ps_ret (pv 2))))), ?_⟩
  obtain ⟨v, l, ev, hl, k⟩ := h
  subst ev
  refine fun m hm => ⟨_, rfl, l, [], rfl, .inl (sq_of (Ex.new hm _ _ hl)), fun q hq => ⟨.ref m, .ref q, rfl, ?_⟩⟩
  have nm : m ≠ q := fun z => by rw [← z, upd_same] at hq; cases hq
  have ex : Ex H (upd (upd H m (.dT [])) q (.lst [])) := (Ex.new hm).trans (Ex.new hq)
  refine ⟨fun j σ' H' => j = 0 ∧ σ' = [some v, some (.ref l), some (.ref m), some (.ref q), none] ∧ H' = upd (upd H m (.dT [])) q (.lst []), ⟨0, rfl, rfl, rfl⟩, ?_⟩
  rintro j σ' H' ⟨rfl, rfl, rfl⟩
  refine dt_test (b := false) (de_B0 (g := fun i j => decide (j < i)) (i := 0) (j := 0) (de_len (da_cons (de_var rfl) da_nil) upd_same) de_c) _ ?_
  rw [if_neg Bool.false_ne_true]
  exact ⟨_, rfl, k m _ ex (by rw [upd_ne nm, upd_same])⟩
theorem ok_back_of (B : Bt mg) (c_ready_in : Cal P w K mg base CX0 2 "ready_in" (spD C pReady)) (F : DefAt K mg "back_of" s_back_of) : Cal P w K mg base CX0 3 "back_of" (spBack C) := by
  refine cal_of F sc_back_of (fun _ _ _ _ _ _ us hl => match us, hl with | [_, _], _ => rfl) (fun vs H Q E ⟨st, lf, nv, Hd, n, e, _⟩ => by rw [e]; rfl) fun f cdv A outer s H vs Q E hr h => ⟨_,
    (pss_cons (ps_set (i := 2) sc_back_of.nd rfl (Or.inl rfl) pe_dnewT)
      (pss_cons (ps_for PassesOwn.never rfl (pi_listK K (pv 1)) (pg_name (i := 3) sc_back_of.nd rfl (Or.inl rfl)) (pss_one (ps_dput (room1 hr) (pv 2) (pv 3) (pe_lst pa_nil) rfl)))
      (pss_cons (ps_for PassesOwn.never rfl (pi_listK K (pv 1)) (pg_name (i := 3) sc_back_of.nd rfl (Or.inl rfl)) (pss_one (ps_for PassesOwn.never rfl (pi_tupK K (pe_cal c_ready_in hr (by decide) rfl pass0 (pa_cons (pv 0) (pa_cons (pv 3) pa_nil)))) (pg_name (i := 4) sc_back_of.nd rfl (Or.inl rfl)) (pss_dead _ (by simp)))))
      (pss_one (ps_ret (pv 2)))))), ?_⟩
  obtain ⟨st, lf, nv, Hd, n, ev, e, rn, ok, hlf, hst, k⟩ := h
  subst ev
  intro db hdb
  have ex0 : Ex H (upd H db (.dT [])) := Ex.new hdb
  refine ⟨_, rfl, lf, rfl, ⟨_, sq_of (ex0 _ _ hlf)⟩, fun i m σ' H' => m = 1 - i ∧ i ≤ 1 ∧ Ex H H' ∧ ∃ kvs sd, H' db = some (.dT kvs) ∧ kvs.length ≤ i ∧ σ' = [some nv, some (.ref lf), some (.ref db), sd, none], ⟨1, rfl, by decide, ex0, [], none, upd_same, Nat.le_refl _, rfl⟩, ?_⟩
  rintro i m σ' H' ⟨rfl, hi, e', kvs, sd, hd, hk, rfl⟩
  by_cases h0 : i = 0
  · subst h0
    refine .inr ⟨⟨_, _, sq_of (e' _ _ hlf), rfl⟩, fun σ2 H2 => Ex H H2 ∧ ∃ kvs sd, H2 db = some (.dT kvs) ∧ kvs.length ≤ 1 ∧ σ2 = [some nv, some (.ref lf), some (.ref db), sd, none], fun σ2 H2 ⟨a1, a2⟩ => ⟨0, by decide, rfl, by decide, a1, a2⟩, fun v H2 ⟨eq, hv⟩ => ?_⟩
    subst eq
    have hv2 := hv _ (sq_of (e' _ _ hlf))
    have ev : v = .ref st := (Option.some.inj hv2).symm
    subst ev
    refine ⟨Nat.zero_le _, fun lb hlb => ⟨_, rfl, _, rfl, db, _, rfl, DPut.t (k := zkey n.places) (Ex.new hlb _ _ hd) (by rw [zkey_V]; exact Ex.new hlb _ _ (e' _ _ hst)) (sz_lt (by omega)), ?_⟩⟩
    refine ⟨fun b o hb => ?_, _, some (.ref st), upd_same, ?_, rfl⟩
    · have nb : b ≠ db := fun z => by rw [z, hdb] at hb; cases hb
      rw [upd_ne nb]
      exact Ex.new hlb _ _ (e' _ _ hb)
    · have := length_putK kvs (zkey n.places) (V.ref lb)
      omega
  · have h1 : i = 1 := by omega
    subst h1
    refine .inl ⟨⟨_, sq_of (e' _ _ hlf), Nat.le_refl _⟩, ?_⟩
    refine ⟨_, rfl, lf, rfl, ⟨_, sq_of (e' _ _ hlf)⟩, fun i m σ' H' => m = 1 - i ∧ i ≤ 1 ∧ Ex H H' ∧ ∃ sd, σ' = [some nv, some (.ref lf), some (.ref db), sd, none], ⟨1, rfl, by decide, e', sd, rfl⟩, ?_⟩
    rintro i m σ' H3 ⟨rfl, hi, e3, sd2, rfl⟩
    by_cases h0 : i = 0
    · subst h0
      refine .inr ⟨⟨_, _, sq_of (e3 _ _ hlf), rfl⟩, fun σ2 H2 => Ex H H2 ∧ ∃ sd, σ2 = [some nv, some (.ref lf), some (.ref db), sd, none], fun σ2 H2 ⟨a1, a2⟩ => ⟨0, by decide, rfl, by decide, a1, a2⟩, fun v H2 ⟨eq, hv⟩ => ?_⟩
      subst eq
      have hv2 := hv _ (sq_of (e3 _ _ hlf))
      have ev : v = .ref st := (Option.some.inj hv2).symm
      subst ev
      refine name_step ?_
      exact for_ready0 ok rfl (e.trans e3) rn (e3 _ _ hst) (da_cons (de_var rfl) (da_cons (de_var rfl) da_nil)) fun H4 e4 => ⟨e3.trans e4, _, rfl⟩
    · have h1 : i = 1 := by omega
      subst h1
      exact .inl ⟨⟨_, sq_of (e3 _ _ hlf), Nat.le_refl _⟩, _, rfl, k db H3 e3⟩
theorem ok_dying (B : Bt mg) (ZN : Cls K C.c) (nD : NoAttr K C.c "deeds") (T : Wc P w K mg base C c) (c_check_standing : Cal P w K mg base (L2.CX P w) 4 "check_standing" (spX C W0 (pChkS cs))) (c_walked : Cal P w K mg base CX0 5 "walked" (spWalked C c)) (c_back_of : Cal P w K mg base CX0 3 "back_of" (spBack C)) (c_can_come : Cal P w K mg base CX0 1 "can_come" spCome) (c_ready_in : Cal P w K mg base CX0 2 "ready_in" (spD C pReady))
    (F : DefAt K mg "dying" s_dying) : Cal P w K mg base (L2.CX P w) 6 "dying" (spX C W0 (pDying cs)) := by
  have ZW := T.Z
  have nF := T.nF
  obtain ⟨fr, fdr, mR, FR, bR⟩ := T.run
  refine calX F sc_dying (fun _ _ _ _ _ _ us hl => match us, hl with | [_, _], _ => rfl) (fun ds r h => by cases h <;> rfl) fun f cdv A outer s H E hr => ⟨_,
    pss_cons (ps_expr (pe_cal c_check_standing hr (by decide) rfl (passes_call (takes_of rfl rfl rfl rfl) fun _ _ _ _ h => h) (pa_cons (pv 0) (pa_cons (pv 1) pa_nil)))) (PSs.nox (pss_cons (ps_set (i := 2) sc_dying.nd rfl (Or.inl rfl) (pe_cal c_walked hr (by decide) rfl pass0 (pa_cons (pv 0) (pa_cons (pv 1) pa_nil))))
      (pss_cons (ps_set (i := 3) sc_dying.nd rfl (Or.inl rfl) (pe_cal c_back_of hr (by decide) rfl pass0 (pa_cons (pv 0) (pa_cons (pe_fldK K (pv 2) rfl) pa_nil))))
      (pss_cons (ps_set (i := 4) sc_dying.nd rfl (Or.inl rfl) (pe_lst pa_nil))
      (pss_cons (ps_for PassesOwn.never rfl (pi_range1 rfl B.range_ (pa_cons (pe_callB (call_lenK K) (by rfl) B.len_ b_len (pa_cons (pe_fldK K (pv 0) rfl) pa_nil)) pa_nil)) (pg_name (i := 5) sc_dying.nd rfl (Or.inr rfl)) (pss_one (ps_expr (pe_bm PySem.F.plainAttrs_list PySem.F.slot_list_append PySem.F.type_list_append mt_append (pv 4) (pa_cons (pe_cal c_can_come hr (by decide) rfl pass0 (pa_cons (pv 3) (pa_cons (pe_lc (own := [("one", 6)]) rfl sc_dying.nd (pi_listK K (pe_fldK K (pv 2) rfl)) (blkOk_by (by kernel_rfl)) (fun _ _ _ _ _ => pg_name (i := 6) sc_dying.nd rfl (Or.inl rfl)) (fun _ _ _ _ _ => pts_one (pt_cmpR (op_inK K) (pv 5) (pe_cal c_ready_in hr (by decide) rfl pass0 (pa_cons (pv 0) (pa_cons (pv 6) pa_nil))) rfl)) (fun _ _ _ _ _ => (pv 6))) pa_nil))) pa_nil)))))
      (pss_cons (ps_for PassesOwn.never rfl (pi_listK K (pe_fldK K (pv 2) rfl)) (pg_name (i := 6) sc_dying.nd rfl (Or.inl rfl)) (pss_one (ps_for PassesOwn.never rfl (pi_enum (by rfl) B.enumerate_ (pa_cons (pv 4) pa_nil)) (pg_tupK K (n := 2) rfl (pgs_cons (pg_name (i := 5) sc_dying.nd rfl (Or.inr rfl)) (pgs_cons (pg_name (i := 7) sc_dying.nd rfl (Or.inl rfl)) pgs_nil))) (pss_one (ps_if (pt_cmp (pc_dnotin (room1 hr) (pv 6) (pv 7))) (pss_one (ps_ret (pe_tup (pa_cons (pe_meth (pv 2) ZW mR FR (hr.mono (by decide)) bR .nil pass0 (pa_cons (pv 6) pa_nil)) (pa_cons (pv 5) pa_nil))))) pss_nil)))))
      (pss_one (ps_ret pe_non)))))))), fun ds r h => frx_of ?_⟩
  cases h with
  | er n d h hs => exact srx_er (ea_cons (ed_var rfl) (ea_cons (ed_var rfl) ea_nil)) (Up.refl _) (.er n d h hs)
  | ok n ok h1 =>
    refine srx_ok (ea_cons (ed_var rfl) (ea_cons (ed_var rfl) ea_nil)) (Up.refl _) (.ok n (lotD (zeros n.places)) ok (isStand_of (by unfold zeros; rw [List.length_replicate]))) ?_
    intro σ H Hd so e i D k
    obtain ⟨nv, s0, rn⟩ := so.get 0 (.net n) rfl
    obtain ⟨st, s1, hst⟩ : ∃ st, σ[1]? = some (some (.ref st)) ∧ Hd st = some (.tup (zV n.places)) := by
      obtain ⟨v, q1, q2⟩ := so.get 1 (.d (lotD (zeros n.places))) rfl
      cases q2 with
      | d q2 =>
        cases q2 with
        | @tup a us _ g l =>
          have : us = zV n.places := by
            rw [lot_vals l]
            unfold zeros zV
            rw [List.map_replicate]
            rfl
          exact ⟨a, q1, by rw [g, this]⟩
    have sl : σ.length = 8 := so.len
    match σ, sl, s0, s1 with
    | [_, _, a2, a3, a4, a5, a6, a7], _, rfl, rfl =>
      refine asg_call (vs := [nv, .ref st]) (da_cons (de_var rfl) (da_cons (de_var rfl) da_nil)) ⟨st, nv, Hd, n, rfl, e, rn, ok, e _ _ hst, fun x H1 e1 wk => ?_⟩
      obtain ⟨⟨dx, dc, lf, w1, w2, w3⟩, w4⟩ := id wk
      refine asg_call (vs := [nv, .ref lf]) (da_cons (de_var rfl) (da_cons (de_fld (fs := [("net", nv), ("most", .int 2000), ("came", .ref dc), ("found", .ref lf)]) ZW nF (de_var rfl) w1 rfl) da_nil)) ⟨st, lf, nv, Hd, n, rfl, e.trans e1, rn, ok, w3, w4, fun b H2 e2 => ?_⟩
      refine asg_nil fun la hla => ?_
      have e12 : Ex H H2 := e1.trans e2
      have soL : SO C Hd [some nv, some (.ref st), some (.ref x), some (.ref b), some (.ref la), a5, a6, a7] [some (.net n), none, none, none, none, none, none, none] := ⟨rfl, fun j d hj => by
        match j, hj with
        | 0, hj =>
          have y := Option.some.inj (Option.some.inj hj)
          subst y
          exact ⟨nv, rfl, rn⟩
        | 1, hj => exact nomatch (Option.some.inj hj)
        | 2, hj => exact nomatch (Option.some.inj hj)
        | 3, hj => exact nomatch (Option.some.inj hj)
        | 4, hj => exact nomatch (Option.some.inj hj)
        | 5, hj => exact nomatch (Option.some.inj hj)
        | 6, hj => exact nomatch (Option.some.inj hj)
        | 7, hj => exact nomatch (Option.some.inj hj)
        | j + 8, hj => exact nomatch hj⟩
      have exL : Ex Hd (upd H2 la (.lst [])) := (e.trans e12).trans (Ex.new hla)
      have hdl := ok.deeds
      refine for_rngR (env := [some (.net n), none, none, none, none, none, none, none]) (ea_cons (ed_is (ed_cb (ea_cons (ed_deeds ZN nD (ed_var rfl)) ea_nil) rc_len) (by rw [List.length_map])) ea_nil) soL exL (by omega) fun H3 e3 => ?_
      have old : ∀ q o, q ≠ la → H2 q = some o → H3 q = some o := fun q o hq ho => e3 _ _ (by rw [upd_ne hq]; exact ho)
      refine ⟨fun i m σ' H' => m = n.deeds.length - i ∧ i ≤ n.deeds.length ∧ (∃ d5, σ' = [some nv, some (.ref st), some (.ref x), some (.ref b), some (.ref la), d5, a6, a7]) ∧ (∀ q o, q ≠ la → H2 q = some o → H' q = some o) ∧ ∃ ms : List Addr, H' la = some (.lst (ms.map .ref)) ∧ ms.length = i ∧ ∀ a, a ∈ ms → H' a = some (.dT []),
        ⟨n.deeds.length, rfl, Nat.zero_le _, ⟨a5, rfl⟩, old, [], e3 _ _ upd_same, rfl, fun a ha => nomatch ha⟩, ?_⟩
      rintro i m σ' H' ⟨rfl, hi, ⟨d5, rfl⟩, old', ms, hla', hml, hms⟩
      have nla : ∀ q o, H2 q = some o → q ≠ la := fun q o hq z => by rw [z, hla] at hq; cases hq
      have get' : ∀ q o, H2 q = some o → H' q = some o := fun q o hq => old' q o (nla q o hq) hq
      by_cases hlt : i < n.deeds.length
      · refine .inr ⟨hlt, fun σ2 H2' => (∃ d5, σ2 = [some nv, some (.ref st), some (.ref x), some (.ref b), some (.ref la), d5, a6, a7]) ∧ (∀ q o, q ≠ la → H2 q = some o → H2' q = some o) ∧ ∃ ms : List Addr, H2' la = some (.lst (ms.map .ref)) ∧ ms.length = i + 1 ∧ ∀ a, a ∈ ms → H2' a = some (.dT []), fun σ2 H2' p => ⟨n.deeds.length - (i + 1), by omega, rfl, hlt, p⟩, ?_⟩
        refine name_step ?_
        show tDrop _ _ [some nv, some (.ref st), some (.ref x), some (.ref b), some (.ref la), some (.int (i : Int)), a6, a7] H'
        refine ⟨_, rfl, .inl ⟨rfl, _, sq_of hla'⟩, cons_call ⟨_, rfl, ?_⟩⟩
        refine lc_list (de_fld (fs := [("net", nv), ("most", .int 2000), ("came", .ref dc), ("found", .ref lf)]) ZW nF (de_var rfl) (get' _ _ (e2 _ _ w1)) rfl) (get' _ _ (e2 _ _ w3)) fun D0 hD0 => ?_
        refine ⟨fun j m H5 => m = 1 - j ∧ j ≤ 1 ∧ Ex (upd H' D0 (.lst [])) H5, ⟨1, rfl, by decide, Ex.refl _⟩, ?_⟩
        rintro j m H5 ⟨rfl, hj, e5⟩
        have ex5 : Ex H' H5 := (Ex.new hD0).trans e5
        by_cases hj0 : j = 0
        · subst hj0
          refine .inr ⟨⟨_, _, sq_of (ex5 _ _ (get' _ _ (e2 _ _ w3))), rfl⟩, fun H6 => Ex (upd H' D0 (.lst [])) H6, fun H6 p => ⟨0, by decide, rfl, by decide, p⟩, fun v H6 ⟨eq, hv⟩ => ?_⟩
          subst eq
          have ev : v = .ref st := (Option.some.inj (hv _ (sq_of (ex5 _ _ (get' _ _ (e2 _ _ w3)))))).symm
          subst ev
          refine name_step ⟨rfl, ?_⟩
          refine ⟨.int (i : Int), rfl, ?_⟩
          have eH6 : Ex Hd H6 := fun q o hq => ex5 q o (get' q o (e12 q o (e q o hq)))
          refine ready0 ok rfl eH6 rn (eH6 _ _ hst) (da_cons (de_var rfl) (da_cons (de_var rfl) da_nil)) fun a H7 e7 h7 => ?_
          refine ⟨a, [], rfl, .inr (st_of h7), rfl, rfl, ?_⟩
          exact ⟨false, rfl, e5.trans e7⟩
        · have hj1 : j = 1 := by omega
          subst hj1
          refine .inl ⟨⟨_, sq_of (ex5 _ _ (get' _ _ (e2 _ _ w3))), Nat.le_refl _⟩, ?_⟩
          refine ⟨.ref b, D0, rfl, e5 _ _ upd_same, fun mt H7 e7 h7 => ?_⟩
          have ex7 : Ex H' H7 := ex5.trans e7
          refine ⟨la, ms.map .ref, .ref mt, rfl, rfl, ex7 _ _ hla', sz_lt (by rw [List.length_map]; omega), ⟨_, rfl⟩, fun q o hq ho => ?_, ms ++ [mt], ?_, by rw [List.length_append, hml]; rfl, fun a ha => ?_⟩
          · rw [upd_ne hq]
            exact ex7 q o (get' q o ho)
          · rw [upd_same, List.map_append]
            rfl
          · rcases List.mem_append.mp ha with z | z
            · have nz : a ≠ la := fun y => by
                have := hms a z
                rw [y, hla'] at this
                cases this
              rw [upd_ne nz]
              exact ex7 _ _ (hms a z)
            · have ez := List.mem_singleton.mp z
              subst ez
              have nz : a ≠ la := fun y => by
                have := ex7 _ _ hla'
                rw [← y, h7] at this
                cases this
              rw [upd_ne nz]
              exact h7
      · have hie : i = n.deeds.length := by omega
        subst hie
        refine .inl ⟨Nat.le_refl _, ?_⟩
        obtain ⟨m0, mr, rfl⟩ : ∃ m0 mr, ms = m0 :: mr := by
          cases ms with
          | nil =>
            rw [List.length_nil] at hml
            omega
          | cons a r => exact ⟨a, r, rfl⟩
        have hm0 := hms m0 List.mem_cons_self
        have eH' : Ex H H' := fun q o hq => get' q o (e12 q o hq)
        refine for_listR (de_fld (fs := [("net", nv), ("most", .int 2000), ("came", .ref dc), ("found", .ref lf)]) ZW nF (de_var rfl) (get' _ _ (e2 _ _ w1)) rfl) (get' _ _ (e2 _ _ w3)) ?_
        refine ⟨fun j m σ2 H4 => j = 0 ∧ σ2 = [some nv, some (.ref st), some (.ref x), some (.ref b), some (.ref la), d5, a6, a7] ∧ H4 = H', ⟨0, rfl, rfl, rfl⟩, ?_⟩
        rintro j m σ2 H4 ⟨rfl, rfl, rfl⟩
        refine .inr ⟨⟨_, _, sq_of (get' _ _ (e2 _ _ w3)), rfl⟩, fun _ _ => False, fun _ _ z => z.elim, fun v H5 ⟨eq, hv⟩ => ?_⟩
        subst eq
        have ev : v = .ref st := (Option.some.inj (hv _ (sq_of (get' _ _ (e2 _ _ w3))))).symm
        subst ev
        refine name_step ?_
        refine ⟨_, rfl, la, _, rfl, sq_of hla', ?_⟩
        refine ⟨fun j m σ2 H4 => j = 0 ∧ σ2 = [some nv, some (.ref st), some (.ref x), some (.ref b), some (.ref la), d5, some (.ref st), a7] ∧ H4 = H5, ⟨0, rfl, rfl, rfl⟩, ?_⟩
        rintro j m σ2 H4 ⟨rfl, rfl, rfl⟩
        refine .inr ⟨⟨_, _, sq_of hla', rfl⟩, fun _ _ => False, fun _ _ z => z.elim, fun v H6 ⟨T0, y0, q1, q2, q3, q4⟩ => ?_⟩
        subst q1 q3
        have ey : y0 = .ref m0 := (Option.some.inj (q4 _ (sq_of hla'))).symm
        subst ey
        have ex6 : Ex H4 (upd H4 T0 (.tup [.int ((0 : Nat) : Int), .ref m0])) := Ex.new q2
        refine ⟨T0, _, rfl, st_of upd_same, rfl, _, _, rfl, name_step ⟨_, _, rfl, name_step ⟨rfl, ?_⟩⟩⟩
        have dg : DGet (upd H4 T0 (.tup [.int ((0 : Nat) : Int), .ref m0])) m0 (.ref st) none := by
          have := DGet.t (H := upd H4 T0 (.tup [.int ((0 : Nat) : Int), .ref m0])) (a := m0) (b := st) (kvs := []) (k := zkey n.places) (ex6 _ _ hm0) (by rw [zkey_V]; exact ex6 _ _ (get' _ _ (e2 _ _ w4)))
          exact this
        refine ⟨_, rfl, _, rfl, m0, none, rfl, dg, true, rfl, ?_⟩
        refine ite_yes ?_
        have wk6 : Wk c n.places nv x st (upd H4 T0 (.tup [.int ((0 : Nat) : Int), .ref m0])) := by
          refine Wk.mono (H := H4) ⟨⟨dx, dc, lf, get' _ _ (e2 _ _ w1), get' _ _ (e2 _ _ w2), get' _ _ (e2 _ _ w3)⟩, get' _ _ (e2 _ _ w4)⟩ ex6
        obtain ⟨⟨dx', dc', lf', v1, v2, v3⟩, v4⟩ := id wk6
        refine dm_call (vs := [.ref st]) (de_var rfl) v1 (by rfl) (da_cons (de_var rfl) da_nil) ⟨x, st, nv, n.places, rfl, wk6, fun a H7 e7 h7 => ?_⟩
        refine ⟨_, rfl, sz_of (by show 2 ≤ 100000; decide), fun pp hpp => ?_⟩
        have exF : Ex H (upd H7 pp (.tup [.ref a, .int ((0 : Nat) : Int)])) := ((eH'.trans ex6).trans e7).trans (Ex.new hpp)
        exact k (.ref pp) Hd _ (.loc pp) (.of exF) (e.trans exF) (NwM.refl _ _ _) True.intro True.intro (.loc pp)
end
end K13

set_option Elab.async false
set_option linter.all false
set_option maxRecDepth 100000
set_option maxHeartbeats 4000000
/-! KP: the word of a call. -/
namespace L2
open PySem PySem.Spec PyProof.Rows
/-- xs.count(y), flat items -/
def rCntF (K : PySem.W.Frag) : V → List V → Hp → VK → Prop := fun x xs H Q => ∃ (p : Addr) (ys : List V) (y : V), x = .ref p ∧ xs = [y] ∧ SqL K H p ys ∧ flatV y = true ∧ ys.all flatV = true ∧ Q (.int ((ys.countP fun z => eqV z y : Nat) : Int)) H
theorem count_flat {y : V} {uy : Value} : ∀ {ys : List V} {us : List Value}, Vals ys us → ys.all flatV = true → us.countP (eqU y) = ys.countP fun z => eqV z y
  | _, _, .nil, _ => rfl
  | _, _, .cons r t, h => by
    rw [List.all_cons, Bool.and_eq_true] at h
    rw [List.countP_cons, List.countP_cons, count_flat t h.2, eqU_of r h.1]
    exact uy
theorem mt_lcountF {X : Cx} : MtR X "list.count" (rCntF X.K) := by
  intro pins s σ H x xs v us Q I rx rxs h
  obtain ⟨p, ys, y, rfl, rfl, hs, fy, fys, q⟩ := h
  cases rx
  obtain ⟨uy, rfl, ry⟩ := rxs.one
  obtain ⟨its, rv, ⟨⟨cls, dd, data, sl⟩, n, ho, hc, hdn, hd⟩, hlen⟩ := I.list hs
  simp only at hc hd
  subst hc hd
  refine call_meets PySem.F.slot_list_count ⟨_, ho, rfl⟩ PySem.F.entry_list_count (PySem.F.args_list_count_2 _ _)
    (SeqAt.list_countAt p its.toArray n dd sl uy (eqU y)) ⟨ho, fun u' hu' => mem_eqAt ry fy rv fys u' (by simpa using hu'), ?_⟩
  have ec : its.toArray.toList.countP (eqU y) = ys.countP fun z => eqV z y := count_flat (uy := uy) rv fys
  refine ⟨.int ((ys.countP fun z => eqV z y : Nat) : Int), H, I.tok _, ⟨s.toks, ?_⟩, q⟩
  show Value.int ((its.toArray.toList.countP (eqU y) : Nat) : Int) s.toks = _
  rw [ec]
/-- isinstance(e, c) in a suite, whatever was caught -/
def rIsAny (K : PySem.W.Frag) (cls : Value) (d : Option Addr) (a : Addr) : List V → Hp → VK → Prop := fun xs H Q => ∃ D, cls = .ref D ∧ d = none ∧ ExcC K D ∧ rIsE K D a xs H Q
theorem call_isAny {X : Cx} {a : Addr} {cls : Value} {d : Option Addr} {oe : Obj} {pn : List (Addr × Obj)} (hz : Zc cls d oe) (hf : ∃ vs, oe.data = .fields vs) : CallR (X.suite a ((a, oe) :: pn)) (.builtin "isinstance") (rIsAny X.K cls d a) := by
  intro pins s σ H xs us Q I r h
  obtain ⟨D, e1, e2, C, h⟩ := h
  subst e1 e2
  exact call_isE C hz hf pins s σ H xs us Q I r h
theorem takes_len {X : Cx} {W : WX} (tk : Takes X W) : Takes X (fun cls d σ H => σ.length = X.N.length → W cls d σ H) := fun u s' ⟨a, B, sI, pins, σ, H, cls, d, e, I, nb, up, sky, na, os, ag, w⟩ =>
  tk u s' ⟨a, B, sI, pins, σ, H, cls, d, e, I, nb, up, sky, na, os, ag, w I.len⟩
end L2
namespace K13
open PySem PySem.Spec PyProof.Rows L2
open Evl (Ex ex_l ex_t sq_of st_of sz_of sz_lt fresh_back)
abbrev s_law_word : Stmt := topS 77
theorem sc_law_word : FnScope ["call", "word", "e", "flags"] ["call"] (defScope s_law_word) := ⟨rfl, rfl, rfl, by decide +kernel, rfl, by decide +kernel, by decide +kernel⟩
/-- what the suite of _law_word does with what was caught -/
def wordS (K : PySem.W.Frag) (cl cs a : Addr) (cls : Value) (d : Option Addr) : TS :=
  tSeq (tAsg (tLst (tCons (tCB (rIsAny K cls d a) (tCons (tVar 2) (tCons (tC (.ref cl)) tNil))) (tCons (tCB (rIsAny K cls d a) (tCons (tVar 2) (tCons (tC (.ref cs)) tNil))) tNil))) (gName 3))
  (tSeq (tAsg (tC (.str "other")) (gName 1))
  (tIfS (tAnd (tTest (tOp rEq (tBM K "list" (rCntF K) (tVar 3) (tCons (tC (.bl true)) tNil)) (tC (.int 1)))) (tB (tCB (rIsAny K cls d a) (tCons (tVar 2) (tCons (tC (.ty "ValueError")) tNil)))))
    (tAsg (tOp (rIxL K) (tLst (tCons (tC (.str "lot")) (tCons (tC (.str "standing")) tNil))) (tBM K "list" (rIndex K) (tVar 3) (tCons (tC (.bl true)) tNil))) (gName 1)) tNext))
/-- the word of what the call does -/
def TTword (cl cs : Addr) : (XK → Hp → VK → Prop) → Hp → VK → Prop := fun tl H Q =>
  tl (fun cls d H' => d = none ∧ ∃ (D : Addr) (ret : Str), cls = .ref D ∧ ((D = cl ∧ ret = ("lot" : Str)) ∨ (D = cs ∧ ret = ("standing" : Str))) ∧ ∀ H'', Ex H' H'' → Q (.str ret) H'') H fun _ H' => ∃ v : V, some (some (V.str "let")) = some (some v) ∧ Q v H'
/-- what the written part says of the errors -/
structure ErrT (K : PySem.W.Frag) (mg : Str → Option Value) (ce cl cs : Addr) : Prop where
  ge : mg "NetError" = some (.ref ce)
  gl : mg "NoLot" = some (.ref cl)
  gs : mg "NoStanding" = some (.ref cs)
  xl : ExcC K cl
  xs : ExcC K cs
  el : PySem.W.exmOne K (.ref cl) (.ref ce) = some true
  es : PySem.W.exmOne K (.ref cs) (.ref ce) = some true
  ll : PySem.W.kitOne K (.ref cl) (.ref cl) = some true
  ls : PySem.W.kitOne K (.ref cl) (.ref cs) = some false
  sl : PySem.W.kitOne K (.ref cs) (.ref cl) = some false
  ss : PySem.W.kitOne K (.ref cs) (.ref cs) = some true
  lv : PySem.W.kitOne K (.ref cl) (.type "ValueError") = some true
  sv : PySem.W.kitOne K (.ref cs) (.type "ValueError") = some true
theorem asg_lstDA {t : TA} {i : Nat} {u : TS} {D : Ends} {σ : L2.St} {H : Hp} {vs : List V} (ha : DA t σ H vs) (hz : vs.length ≤ 100000) (k : ∀ l, H l = none → u D (σ.set i (some (.ref l))) (upd H l (.lst vs))) : tSeq (tAsg (tLst t) (gName i)) u D σ H := ha _ ⟨sz_of hz, fun l hl => k l hl⟩
theorem wordS_ok {K : PySem.W.Frag} {mg : Str → Option Value} {ce cl cs a D : Addr} {ret : Str} {σ : L2.St} {H : Hp} {Dn : Ends} (T : ErrT K mg ce cl cs) (hl : σ.length = 4) (hD : (D = cl ∧ ret = ("lot" : Str)) ∨ (D = cs ∧ ret = ("standing" : Str)))
    (k : ∀ σ' H', σ'.length = 4 → σ'[1]? = some (some (.str ret)) → Ex H H' → Dn.nx σ' H') : wordS K cl cs a (.ref D) none Dn (σ.set 2 (some (.ref a))) H := by
  obtain ⟨b1, b2, k1, k2, kv, hr, xd, hb⟩ : ∃ b1 b2 : Bool, PySem.W.kitOne K (.ref D) (.ref cl) = some b1 ∧ PySem.W.kitOne K (.ref D) (.ref cs) = some b2 ∧ PySem.W.kitOne K (.ref D) (.type "ValueError") = some true ∧ (b1 = true ∧ b2 = false ∧ ret = ("lot" : Str) ∨ b1 = false ∧ b2 = true ∧ ret = ("standing" : Str)) ∧ ExcC K D ∧ True := by
    rcases hD with ⟨rfl, rfl⟩ | ⟨rfl, rfl⟩
    · exact ⟨true, false, T.ll, T.ls, T.lv, .inl ⟨rfl, rfl, rfl⟩, T.xl, True.intro⟩
    · exact ⟨false, true, T.sl, T.ss, T.sv, .inr ⟨rfl, rfl, rfl⟩, T.xs, True.intro⟩
  generalize hσ : σ.set 2 (some (V.ref a)) = σ2
  have l2 : σ2.length = 4 := by rw [← hσ, List.length_set]; exact hl
  have v2 : σ2[2]? = some (some (.ref a)) := by rw [← hσ]; exact List.getElem?_set_self (by omega)
  have ci : ∀ {σ : L2.St} {H : Hp} {c : V} {cv : Value} {b : Bool} {tc : TE}, σ[2]? = some (some (.ref a)) → DE tc σ H c → (∀ u, RelV c u → u = cv) → PySem.W.kitOne K (.ref D) cv = some b → DE (tCB (rIsAny K (.ref D) none a) (tCons (tVar 2) (tCons tc tNil))) σ H (.bl b) := fun hv hc hu hk => de_cb (da_cons (de_var hv) (da_cons hc da_nil)) fun Q q => ⟨D, rfl, rfl, xd, _, _, _, rfl, hu, hk, q⟩
  refine asg_lstDA (da_cons (ci (c := .ref cl) v2 de_c (fun u r => r) k1) (da_cons (ci (c := .ref cs) v2 de_c (fun u r => r) k2) da_nil)) (by show 2 ≤ 100000; decide) fun lf hlf => ?_
  have e1 : Ex H (upd H lf (.lst [.bl b1, .bl b2])) := Ex.new hlf
  have h1 : (upd H lf (.lst [.bl b1, .bl b2])) lf = some (.lst [.bl b1, .bl b2]) := upd_same
  generalize upd H lf (.lst [.bl b1, .bl b2]) = H1 at e1 h1
  generalize hσ3 : (σ2.set 3 (some (.ref lf))).set 1 (some (.str "other")) = σ3
  have l3 : σ3.length = 4 := by rw [← hσ3, List.length_set, List.length_set]; exact l2
  have w2 : σ3[2]? = some (some (.ref a)) := by rw [← hσ3, List.getElem?_set_ne (by decide), List.getElem?_set_ne (by decide)]; exact v2
  have w3 : σ3[3]? = some (some (.ref lf)) := by rw [← hσ3, List.getElem?_set_ne (by decide)]; exact List.getElem?_set_self (by omega)
  refine ds_asg (v := .str "other") de_c ?_
  rw [hσ3]
  have cnt : ([V.bl b1, V.bl b2].countP fun z => eqV z (.bl true)) = 1 := by
    rcases hr with ⟨rfl, rfl, _⟩ | ⟨rfl, rfl, _⟩ <;> rfl
  refine ds_if (b := true) (dt_and (b := true) (c := true) (dt_test (by
    have z : DE (tOp rEq (tBM K "list" (rCntF K) (tVar 3) (tCons (tC (.bl true)) tNil)) (tC (.int 1))) σ3 H1 (.bl (decide ((1 : Int) = 1))) := de_eqI (fun Q q => ⟨_, w3, .inl ⟨rfl, _, sq_of h1⟩, lf, _, _, rfl, rfl, sq_of h1, rfl, rfl, by rw [cnt]; exact q⟩) de_c
    exact z)) fun _ => fun Q q => ci (c := .ty "ValueError") (cv := .type "ValueError") w2 de_c (fun u r => r) kv _ ⟨true, rfl, q⟩) ?_
  rw [if_pos rfl]
  refine ⟨sz_of (by show 2 ≤ 100000; decide), fun lw hlw => ?_⟩
  have e2 : Ex H1 (upd H1 lw (.lst [.str "lot", .str "standing"])) := Ex.new hlw
  have h2 : (upd H1 lw (.lst [.str "lot", .str "standing"])) lw = some (.lst [.str "lot", .str "standing"]) := upd_same
  generalize upd H1 lw (.lst [.str "lot", .str "standing"]) = H2 at e2 h2
  refine ⟨_, w3, .inl ⟨rfl, _, sq_of (e2 _ _ h1)⟩, ?_⟩
  rcases hr with ⟨rfl, rfl, rfl⟩ | ⟨rfl, rfl, rfl⟩
  · refine ⟨lf, _, .bl true, 0, .bl true, rfl, rfl, sq_of (e2 _ _ h1), rfl, rfl, rfl, rfl, fun m z hm => absurd hm (Nat.not_lt_zero _), ?_⟩
    exact ⟨lw, _, ((0 : Nat) : Int), .str "lot", rfl, rfl, sq_of h2, atI_nat (j := 0) rfl, k _ H2 (by rw [List.length_set]; exact l3) (List.getElem?_set_self (by omega)) (e1.trans e2)⟩
  · refine ⟨lf, _, .bl true, 1, .bl true, rfl, rfl, sq_of (e2 _ _ h1), rfl, rfl, rfl, rfl, fun m z hm hz => ?_, ?_⟩
    · have : m = 0 := by omega
      subst this
      cases hz
      rfl
    · exact ⟨lw, _, ((1 : Nat) : Int), .str "standing", rfl, rfl, sq_of h2, atI_nat (j := 1) rfl, k _ H2 (by rw [List.length_set]; exact l3) (List.getElem?_set_self (by omega)) (e1.trans e2)⟩
theorem word_gives {X : Cx} {ce cl cs g : Addr} {cdg : Value} {q : Str} (B : Bt X.mg) (T : ErrT X.K X.mg ce cl cs) : LamX.GivesTo X ["call", "word", "e", "flags"] "_law_word" (defScope s_law_word) g cdg (defBody s_law_word) "call" q (TTword cl cs) := by
  intro f c' s H Q tl act hc h
  have gl := T.gl
  have gs := T.gs
  have hgl : Gl (cxOf C8.CX0 X.prog X.w X.K X.mg X.base ["call", "word", "e", "flags"] "_law_word" (defScope s_law_word) g cdg X.A X.stack s H C8.E0).nox "NetError" := rfl
  refine ⟨_, pss_cons (ps_set (i := 1) sc_law_word.nd rfl (Or.inl rfl) pe_str) (pss_cons (ps_try_as (X := (cxOf C8.CX0 X.prog X.w X.K X.mg X.base ["call", "word", "e", "flags"] "_law_word" (defScope s_law_word) g cdg X.A X.stack s H C8.E0).nox) (i := 2) (c := .ref ce)
      (tb := fun W D σ H => ∃ Ech : XK, (∀ cls d σ' H', Ech cls d H' → σ'.length = 4 → W cls d σ' H') ∧ σ[0]? = some (some (.ref f)) ∧ H c' = some (LamX.CodeO c' q) ∧ tl Ech H fun _ H' => D.nx σ H') (ts := wordS X.K cl cs) (Wout := fun _ _ _ _ => False)
      rfl rfl sc_law_word.nd rfl rfl ⟨hgl, by decide, .inl T.ge⟩ LamX.takes0 (fun W pn xe tk _ => ?_) (fun a oe cls d pn hz hf => ?_)) (pss_one (ps_ret (pv 1)))), ?_⟩
  · refine ⟨fun pins s' σ H' D I h' => ?_⟩
    obtain ⟨Ech, hW, h1, h2, h3⟩ := h'
    exact (pss_one (ps_expr (act _ pn xe Ech _ _ (takes_len tk) (fun cls d σ' H' he hl => hW cls d σ' H' he hl)))).run pins s' σ H' D I ⟨h1, h2, h3⟩
  · exact pss_cons (ps_set (i := 3) sc_law_word.nd rfl (Or.inl rfl) (pe_lst (pa_cons (pe_callB (call_isAny hz hf) (by rfl) B.isinstance_ b_isinstance (pa_cons (pv 2) (pa_cons (pe_glob (v := .ref cl) rfl gl rfl) pa_nil))) (pa_cons (pe_callB (call_isAny hz hf) (by rfl) B.isinstance_ b_isinstance (pa_cons (pv 2) (pa_cons (pe_glob (v := .ref cs) rfl gs rfl) pa_nil))) pa_nil))))
      (pss_cons (ps_set (i := 1) sc_law_word.nd rfl (Or.inl rfl) pe_str)
      (pss_one (ps_if (PW.pt (pw_and (pt_cmpR op_eq (pe_bm PySem.F.plainAttrs_list PySem.F.slot_list_count PySem.F.type_list_count mt_lcountF (pv 3) (pa_cons pe_bl pa_nil)) pe_int (nomark _)) (pw_and1 (pt_val (pe_callB (call_isAny hz hf) (by rfl) B.isinstance_ b_isinstance (pa_cons (pv 2) (pa_cons (pe_bltn (v := .ty "ValueError") (by rfl) B.ValueError_ b_ValueError rfl) pa_nil)))))))
        (pss_one (ps_set (i := 1) sc_law_word.nd rfl (Or.inl rfl) (pe_ix (ix_listK X.K) (pe_lst (pa_cons pe_str (pa_cons pe_str pa_nil))) (pe_bm PySem.F.plainAttrs_list PySem.F.slot_list_index PySem.F.type_list_index mt_index (pv 3) (pa_cons pe_bl pa_nil)) (fun _ _ => rfl)))) pss_nil)))
  · refine ⟨fun cls d H' => d = none ∧ ∃ (D : Addr) (ret : Str), cls = .ref D ∧ ((D = cl ∧ ret = ("lot" : Str)) ∨ (D = cs ∧ ret = ("standing" : Str))) ∧ ∀ H'', Ex H' H'' → Q (.str ret) H'', fun cls d σ' H' ⟨e1, D, ret, e2, hD, hQ⟩ hl => ?_, rfl, hc, ?_⟩
    · subst e1 e2
      refine ⟨true, ?_, fun _ a ha => ?_, fun z => nomatch z⟩
      · rcases hD with ⟨rfl, _⟩ | ⟨rfl, _⟩
        · exact T.el
        · exact T.es
      · refine wordS_ok T hl hD fun σ2 H2 l2 v2 e2 => ?_
        exact ⟨_, by rw [List.getElem?_set_ne (by decide)]; exact v2, hQ H2 e2⟩
    · exact h
end K13

set_option Elab.async false
set_option linter.all false
set_option maxRecDepth 100000
set_option maxHeartbeats 4000000
/-! KHH: the hand of a script. -/
namespace K13
open PySem PySem.Spec PyProof.Rows L2
open Evl (Ex ex_l ex_t sq_of st_of sz_of sz_lt fresh_back)
abbrev s_law_hand : Stmt := topS 59
theorem sc_law_hand : FnScope ["script", "cells", "cell"] ["script"] (defScope s_law_hand) := ⟨rfl, rfl, rfl, by decide +kernel, rfl, by decide +kernel, by decide +kernel⟩
theorem tyes_ite {σ : L2.St} {H : Hp} {A B : Hp → Prop} (h : A H) : tYes σ H fun b H3 => if b = true then A H3 else B H3 := by
  show (if true = true then A H else B H)
  rw [if_pos rfl]
  exact h
theorem cut_ints (ns : List Int) (lo hi : Option Int) : ∃ cs : List Int, cutV (ns.map V.int) lo hi = cs.map V.int ∧ cs.length ≤ ns.length := by
  unfold cutV
  refine ⟨(ns.drop _).take _, by rw [List.map_take, List.map_drop], ?_⟩
  rw [List.length_take, List.length_drop]
  omega
def spHand (K : PySem.W.Frag) : Sp := fun vs H Q _ => ∃ (a : Addr) (ns : List Int), vs = [.ref a] ∧ SqL K H a (ns.map V.int) ∧ ns.length ≤ 100000 ∧ ∀ h ac H', Ex H H' → HandI h ac (fun _ => none) H' → Q (.ref h) H'
section
variable {P : Program} {w : World} {K : PySem.W.Frag} {mg : Str → Option Value} {base : Heap}
theorem ok_law_hand (B : Bt mg) (F : DefAt K mg "_law_hand" s_law_hand) : Cal P w K mg base CX0 1 "_law_hand" (spHand K) := by
  refine cal_of F sc_law_hand (fun _ _ _ _ _ _ us hl => match us, hl with | [_], _ => rfl) (fun vs H Q E ⟨a, ns, e, _⟩ => by rw [e]; rfl) fun f cdv A outer s H vs Q E hr h => ⟨_,
    (pss_cons (ps_setLc (i := 1) (own := [("cell", 2)]) rfl sc_law_hand.nd rfl rfl (sw_true rfl rfl rfl (by decide +kernel)) (pi_listK K (pe_slice (sl_listK K) (pv 0) po_none (po_some pe_int))) (blkOk_by (by kernel_rfl)) (fun _ _ _ _ _ => pg_name (i := 2) sc_law_hand.nd rfl (Or.inl rfl)) (fun _ _ _ _ _ => pts_nil) (fun _ _ _ _ _ => (pe_callB call_abs (by rfl) B.abs_ b_abs (pa_cons (pe_callTy call_int1 (by rfl) B.int_ b_int (pa_cons (pv 2) pa_nil)) pa_nil))))
      (pss_one (ps_ret (pe_lst (pa_cons (pv 1) (pa_cons pe_int (pa_cons pe_int (pa_cons (pe_op op_add pe_int (pe_callB (call_lenK K) (by rfl) B.len_ b_len (pa_cons (pv 1) pa_nil))) (pa_cons pe_int pa_nil))))))))), ?_⟩
  obtain ⟨a, ns, ev, hs, hz, k⟩ := h
  subst ev
  obtain ⟨cs, ec, lc⟩ := cut_ints ns none (some 63)
  refine ⟨_, rfl, ⟨63, rfl, a, _, rfl, hs, fun p hp => ?_⟩⟩
  rw [ec]
  have ex0 : Ex H (upd H p (.lst (cs.map V.int))) := Ex.new hp
  have hp1 : (upd H p (.lst (cs.map V.int))) p = some (.lst (cs.map V.int)) := upd_same
  generalize upd H p (.lst (cs.map V.int)) = H1 at ex0 hp1
  refine ⟨p, rfl, ⟨_, sq_of hp1⟩, fun D hD => ?_⟩
  refine ⟨fun i m H2 => m = cs.length - i ∧ i ≤ cs.length ∧ Ex H1 H2 ∧ ∃ acc : List Int, H2 D = some (.lst (acc.map V.int)) ∧ acc.length = i, ⟨cs.length, rfl, Nat.zero_le _, Ex.new hD, [], upd_same, rfl⟩, ?_⟩
  rintro i m H2 ⟨rfl, hi, e2, acc, hacc, la⟩
  have hp2 := e2 _ _ hp1
  by_cases hlt : i < cs.length
  · have hx : (cs.map V.int)[i]? = some (.int cs[i]) := by rw [List.getElem?_map, List.getElem?_eq_getElem hlt]; rfl
    refine .inr ⟨⟨_, _, sq_of hp2, hx⟩, fun H3 => Ex H1 H3 ∧ ∃ acc : List Int, H3 D = some (.lst (acc.map V.int)) ∧ acc.length = i + 1, fun H3 q => ⟨cs.length - (i + 1), by omega, rfl, hlt, q⟩, fun v H3 ⟨eq, hv⟩ => ?_⟩
    subst eq
    have ev : v = .int cs[i] := (Option.some.inj ((hv _ (sq_of hp2)).symm.trans hx))
    subst ev
    refine name_step ⟨rfl, tyes_ite ?_⟩
    refine ⟨_, rfl, .inl ⟨_, rfl, ⟨_, rfl, ?_⟩⟩⟩
    refine ⟨_, hacc, sz_lt (by rw [List.length_map]; omega), fun q o hq => ?_, acc ++ [if cs[i] < 0 then -cs[i] else cs[i]], ?_, by rw [List.length_append, la]; rfl⟩
    · rw [upd_ne]
      · exact e2 _ _ hq
      · intro z
        rw [z, hD] at hq
        cases hq
    · rw [upd_same, List.map_append]
      rfl
  · refine .inl ⟨⟨_, sq_of hp2, by rw [List.length_map]; omega⟩, ?_⟩
    refine ⟨_, rfl, ?_⟩
    refine (da_cons de_c (da_cons de_c (da_cons (de_add de_c (de_len (da_cons (de_var rfl) da_nil) hacc)) (da_cons de_c da_nil)))) _ ?_
    refine ⟨sz_of (by show 5 ≤ 100000; decide), fun h hh => ?_⟩
    have ne : h ≠ D := fun z => by rw [z, hacc] at hh; cases hh
    exact k h D _ ((ex0.trans e2).trans (Ex.new hh)) ⟨rfl, rfl, ne, acc, 0, 0, _, 0, upd_same, by rw [upd_ne (Ne.symm ne)]; exact hacc, Int.le_refl 0⟩
end
end K13

set_option Elab.async false
set_option linter.all false
set_option maxRecDepth 100000
set_option maxHeartbeats 4000000
/-! KJ: a lambda handed on, the step of its table told precisely; worlds side by side. -/
namespace LamX
open PySem PySem.Spec PyProof.Rows L2
/-- what the making of a lambda does to what is tracked: nothing, or a code object that is new and its line in the table -/
def LStep (P : Addr) (q : Str) (H H1 : Hp) : Prop := ∃ ps : Array Value, H P = some (.tbl ps) ∧ (H1 = H ∨ ∃ (c' : Addr) (qs : Array Value), H c' = none ∧ H1 = upd (upd H P (.tbl qs)) c' (CodeO c' q) ∧ TriplesOk qs.toList ∧ ∀ (pos : Pos) (cv : Value), codeAmong pos qs.toList = some cv → codeAmong pos ps.toList = some cv ∨ cv = .ref c')
section
variable {X : Cx} {pins : List (Addr × Obj)} {σ : L2.St} {H : Hp} {s : Shared}
theorem lam_make3 {q : Str} {c P : Addr} {params : Arguments} {body : Expr} {scope : Scope} {pos : Pos} {E Q : Value → Shared → Prop} (eq : X.env.qual ++ "<lambda>" = q) (hT : TabS H P q) (I : Inv X pins σ H s) (TB : TabB X.base X.mg c P) (cd : X.env.code = .ref c)
    (nod : defaultsOf params X.env = ([], [])) (fre : ∀ y ∈ scope.names, y.2 = .free → ∃ c, X.env.cells.lookup y.1 = some c)
    (k : ∀ (f c' : Addr) (pm ctv : Value) (H1 : Hp) (s' : Shared), LStep P q H H1 → H1 c' = some (CodeO c' q) → Inv X pins σ H1 s' → f ∉ frs X.stack → H1 f = none →
      s'.heap.get? f = some (PySem.W.kla_obj "<lambda>" q params body scope (cloFrom X.env.cells scope.names []) pm c' ctv) → Q (.ref f) s') :
    wpAny (model X.prog X.w) X.A (eval (.Lambda params body scope pos) X.env) Q E s := by
  subst eq
  obtain ⟨ps, tP, ok, code⟩ := hT
  have oP := I.hok P _ tP
  have late : ∀ f, s.heap.objs.size ≤ f → f ∉ frs X.stack := by
    intro f hf z
    rcases List.mem_cons.mp (I.stkSub _ z) with e | e
    · exact absurd I.lt (by rw [← e]; exact Nat.not_lt.mpr hf)
    · exact I.nofs hf e
  have bP : s.heap.BuiltinsAt X.mg P := TB.bm.keeps I.bk
  refine PySem.W.kla_eval nod ?_
  rcases hc : codeAmong pos ps.toList with _ | cv
  · refine PySem.W.kla_makeFunction (mg := X.mg) (c := c) (P := P) (ps := ps) (closure_ok fre) I.ok.glob (I.mod.glob.keeps I.bk) cd (TB.code.keeps I.bk) oP ok hc TB.gP bP ?_
    rintro c' ctv h' tk kept ge lt ⟨c2, oc, vs, t, e2, g1, g2, g3⟩ tb
    cases e2
    have new : H c' = none := I.hok.fresh ge
    have big : s.heap.objs.size ≤ h'.objs.size := Nat.le_of_lt (Nat.lt_of_le_of_lt ge lt)
    have up := inv_table (t' := tk) (more := #[rawInt pos.line, rawInt pos.col, .ref c']) (h' := h'.push (PySem.W.kla_obj "<lambda>" (X.env.qual ++ "<lambda>") params body scope (cloFrom X.env.cells scope.names []) ((X.mg "__name__").getD .none) c' ctv)) I tP
      (fun b o n e => Heap.get?_push_of_some _ (kept b o n e)) (Heap.get?_push_of_some _ tb) ge ⟨oc, vs, t, Heap.get?_push_of_some _ g1, g2, g3⟩
    have app : (ps ++ #[rawInt pos.line, rawInt pos.col, .ref c']).toList = ps.toList ++ [rawInt pos.line, rawInt pos.col, .ref c'] := by simp
    refine k h'.objs.size c' _ ctv _ _ ⟨ps, tP, .inr ⟨c', _, new, rfl, ?_, fun p' cv h => ?_⟩⟩ upd_same up (late _ big) ?_ (Heap.get?_push_size _ rfl)
    · rw [app]
      exact PySem.TriplesOk_snoc _ _ _ _ ok
    · rw [app] at h
      exact among_app _ ok h
    · rw [upd_ne (Nat.ne_of_gt lt), upd_ne (Nat.ne_of_gt (Nat.lt_of_lt_of_le (Heap.lt_size oP) big))]
      exact I.hok.fresh big
  · obtain ⟨c', e, co⟩ := code pos cv hc
    subst e
    refine PySem.W.kla_makeFunctionHit (mg := X.mg) (c := c) (P := P) (ps := ps) (closure_ok fre) I.ok.glob (I.mod.glob.keeps I.bk) cd (TB.code.keeps I.bk) oP ok hc bP ?_
    intro ctv h' tk kept big
    exact k h'.objs.size c' _ ctv H _ ⟨ps, tP, .inl rfl⟩ co (I.kept fun b o e => Heap.get?_push_of_some _ (kept b o e)) (late _ big) (I.hok.fresh big) (Heap.get?_push_size _ rfl)
end
end LamX

set_option Elab.async false
set_option linter.all false
set_option maxRecDepth 100000
set_option maxHeartbeats 4000000
/-! KJ2: x(lambda: body) with the step told; worlds side by side; the world of a table. -/
namespace LamX
open PySem PySem.Spec PyProof.Rows L2
def tLamS (P : Addr) (q : Str) (TT : (XK → Hp → VK → Prop) → Hp → VK → Prop) (t : XK → TE) : TE := fun σ H Q => TabS H P q ∧ ∀ H1, LStep P q H H1 → TT (fun E H' Q' => t E σ H' Q') H1 Q
/-- a def of one parameter that may be handed a lambda -/
structure LamDef (K : PySem.W.Frag) (mg : Str → Option Value) (x a : Str) (N : List Str) (st : Stmt) (g : Addr) (cdv : Value) : Prop where
  gl : mg x = some (.ref g)
  kp : PySem.W.keepIn K (.ref g) = true
  lk : ∃ (oc : Value) (od : Option Addr) (osl : Array (Option Value)) (kV doc pm ct : Value) (an : Option Addr), K.lookup g = some ⟨oc, od, .func (PySem.W.fnOf x x (defArgs st) (defBody st) (defScope st) .none kV doc pm an cdv ct), osl⟩ ∧ L2.Binds K (PySem.W.fnOf x x (defArgs st) (defBody st) (defScope st) .none kV doc pm an cdv ct) [a] []
  cd : PySem.W.codeIn K cdv x = true
  sc : FnScope N [a] (defScope st)
  n0 : N[0]? = some a
  vs : Vis (defScope st) a
theorem pe_lamcall3 {X : Cx} {TT : (XK → Hp → VK → Prop) → Hp → VK → Prop} {x a q : Str} {st : Stmt} {g c P : Addr} {k : Nat} {cdv : Value} {N : List Str} {params : Arguments} {body : Expr} {scope : Scope} {t : XK → TE} {p lpos pos : Pos}
    (D : LamDef X.K X.mg x a N st g cdv) (eq : X.env.qual ++ "<lambda>" = q) (hg : Gl X x) (G : GivesTo X N x (defScope st) g cdv (defBody st) a q TT) (TB : TabB X.base X.mg c P) (cd : X.env.code = .ref c) (hr : Room (k + 2) X.A) (L : LamS X.env.scope scope) (nod : defaultsOf params X.env = ([], []))
    (bnd : ∀ (q : Str) (cl : List (Str × Addr)) (pm cv ctv : Value), bindArgs (PySem.W.kla_fn "<lambda>" q params body scope cl pm cv ctv) ⟨[], []⟩ = pure [])
    (bod : ∀ (A : Around) (outer : List Env) (s : Shared) (H : Hp) (E : XK) (f c' : Addr), Room k (A.deeper (lamEnv X scope s.heap.objs.size f c')) → PE (lamCx X A outer s H E scope f c') body (t E))
    (n1 : (x == ("__debug__" : Str)) = false := by decide) (n2 : (a == ("__debug__" : Str)) = false := by decide) (n3 : (a == ("__classdict__" : Str)) = false := by decide) :
    PE X (.Call (.Name x p) [.Lambda params body scope lpos] [] pos) (tLamS P q TT t) := by
  subst eq
  obtain ⟨oc, od, osl, kV, doc, pm, ct, an, lk, hb⟩ := D.lk
  constructor
  rintro pins s σ H Q I ⟨tb, h⟩
  refine wpAny_Call_Name_kw (ld_glob I hg D.gl (PySem.W.callWith_K (h₀ := X.base) I.ok.mod.kin D.kp ?_ (by rfl) (by rfl)) n1)
  show wpAny _ _ (spliced ((false, eval (.Lambda params body scope lpos) X.env) :: backTo pos (starEach [] X.env))) _ _ s
  refine Calls.spliced_cons (lam_make3 rfl tb I TB cd nod (L.has I.ok) ?_)
  intro f c' pm' ctv H1 s' step hc I1 hs hn hf
  refine Calls.spliced_nil ⟨I1.kIn, wpAny_call (codeAny_mono (R := CR C8.CX0 X.stack X.prog X.w H1 s' Q C8.E0) ?_ ?_)⟩
  · refine run_ofS (N := N) (ps := [a]) (us := [.ref f]) (vs := [.ref f]) lk D.cd D.sc hr I1.env0 (hb s' [.ref f] I1.kIn rfl) (.cons rfl .nil) rfl fun room => ?_
    obtain ⟨tt, ptt, qtt⟩ := G f c' s' H1 Q _ (fun W pn xe E p1 p2 tk hW => pe_act (i := 0) I1 L hf hn hs (bnd _ _ _ _ _) tk hW room (fun A outer s H r2 => bod A outer s H E f c' r2) D.n0 D.vs n2 n3) hc (h H1 step)
    exact ⟨tt, ptt.nox, qtt⟩
  · rintro (e | fl) s2 z
    · exact False.elim z
    · cases fl
      case ret u => exact I1.after z
      all_goals exact False.elim z
end LamX
namespace K13
open PySem PySem.Spec PyProof.Rows L2
open Evl (Ex ex_l ex_t sq_of st_of sz_of sz_lt fresh_back)
/-- two worlds side by side, no place in both -/
def Wl.mul (A B : Wl) (dis : ∀ a, A.M a → B.M a → False) : Wl where
  M := fun a => A.M a ∨ B.M a
  I := fun Hd H => A.I Hd H ∧ B.I Hd H
  al := fun i m => m.elim (A.al i.1) (B.al i.2)
  st := fun i e1 e2 n => ⟨A.st i.1 e1 e2 n, B.st i.2 e1 e2 n⟩
  fr := fun i m e => ⟨A.fr i.1 (fun a h => m a (.inl h)) e, B.fr i.2 (fun a h => m a (.inr h)) e⟩
  gr := fun i m e1 e2 => ⟨A.gr i.1 (fun a h => m a (.inl h)) e1 e2, B.gr i.2 (fun a h => m a (.inr h)) e1 e2⟩
/-- what another world's doing leaves -/
theorem Wl.rest {A B : Wl} {Hd H Hd' H' : Hp} (dis : ∀ a, A.M a → B.M a → False) (i : B.I Hd H) (e : ExM A.M H H') (e2 : Ex Hd' H') (n : NwM A.M Hd H Hd') : B.I Hd' H' := by
  have keep : ∀ a, B.M a → H' a = H a := fun a h => by
    cases q : H a with
    | none => exact absurd q (B.al i h).1
    | some o => exact e.1 a o (fun z => dis a z h) q
  exact B.gr (B.fr i keep (n.1.trans e2)) (fun a h => n.2 a (fun z => dis a z h) (B.al i h).2 (B.al i h).1) n.1 e2
theorem up_mul1 {A B : Wl} (dis : ∀ a, A.M a → B.M a → False) : Up A (Wl.mul A B dis) := ⟨fun a h => .inl h, fun i => i.1, fun i e e2 n j => ⟨j, Wl.rest dis i.2 e e2 n⟩⟩
theorem up_mul2 {A B : Wl} (dis : ∀ a, A.M a → B.M a → False) : Up B (Wl.mul A B dis) := ⟨fun a h => .inr h, fun i => i.2, fun i e e2 n j => ⟨Wl.rest (fun a h1 h2 => dis a h2 h1) i.1 e e2 n, j⟩⟩
/-- the table of code objects at P -/
def TabI (P : Addr) (q : Str) (Hd H : Hp) : Prop := Hd P = none ∧ ∃ ps : Array Value, H P = some (.tbl ps) ∧ TriplesOk ps.toList ∧ ∀ (pos : Pos) (cv : Value), codeAmong pos ps.toList = some cv → ∃ c, cv = .ref c ∧ Hd c = some (LamX.CodeO c q)
def WT (P : Addr) (q : Str) : Wl where
  M := fun a => a = P
  I := TabI P q
  al := by
    rintro Hd H a ⟨h1, ps, h2, _⟩ rfl
    exact ⟨by rw [h2]; exact (fun z => nomatch z), h1⟩
  st := by
    rintro Hd H Hd' H' ⟨h1, ps, h2, h3, h4⟩ e e2 n
    exact ⟨n.2 _ h1 (by rw [h2]; exact (fun z => nomatch z)), ps, e _ _ h2, h3, fun pos cv hc => by
      obtain ⟨c, e1, e3⟩ := h4 pos cv hc
      exact ⟨c, e1, n.1 _ _ e3⟩⟩
  fr := by
    rintro Hd H H' ⟨h1, ps, h2, h3, h4⟩ m e
    exact ⟨h1, ps, (m P rfl).trans h2, h3, h4⟩
  gr := by
    rintro Hd Hd' H ⟨h1, ps, h2, h3, h4⟩ m e e2
    exact ⟨m P rfl, ps, h2, h3, fun pos cv hc => by
      obtain ⟨c, e1, e3⟩ := h4 pos cv hc
      exact ⟨c, e1, e _ _ e3⟩⟩
theorem TabI.tab {P : Addr} {q : Str} {Hd H : Hp} (i : TabI P q Hd H) (e : Ex Hd H) : LamX.TabS H P q := by
  obtain ⟨_, ps, h2, h3, h4⟩ := i
  exact ⟨ps, h2, h3, fun pos cv hc => by
    obtain ⟨c, e1, e3⟩ := h4 pos cv hc
    exact ⟨c, e1, e _ _ e3⟩⟩
theorem TabI.step {P : Addr} {q : Str} {Hd H H1 : Hp} (i : TabI P q Hd H) (e : Ex Hd H) (s : LamX.LStep P q H H1) : ∃ Hd1, Ex Hd1 H1 ∧ ExM (fun a => a = P) H H1 ∧ NwM (fun a => a = P) Hd H Hd1 ∧ TabI P q Hd1 H1 := by
  obtain ⟨h1, ps, h2, h3, h4⟩ := i
  obtain ⟨ps', t1, s⟩ := s
  rw [h2] at t1
  cases t1
  rcases s with rfl | ⟨c', qs, new, rfl, ok, cs⟩
  · exact ⟨Hd, e, .refl _ _, .refl _ _ _, h1, ps, h2, h3, h4⟩
  · have nP : P ≠ c' := fun z => by rw [← z, h2] at new; cases new
    have nd : Hd c' = none := by
      cases hd : Hd c' with
      | none => rfl
      | some o => rw [e _ _ hd] at new; cases new
    refine ⟨upd Hd c' (LamX.CodeO c' q), fun b o hb => ?_, ⟨fun b o n hb => ?_, fun b hb => ?_⟩, ⟨Ex.new nd, fun b n hb hb2 => ?_⟩, ?_, qs, ?_, ok, fun pos cv hc => ?_⟩
    · by_cases z : b = c'
      · subst z
        rw [upd_same] at hb ⊢
        exact hb
      · rw [upd_ne z] at hb ⊢
        rw [upd_ne (fun w => by rw [w, h1] at hb; cases hb)]
        exact e _ _ hb
    · rw [upd_ne (fun z => by rw [z, new] at hb; cases hb), upd_ne n]
      exact hb
    · rw [upd_ne (fun z => hb (by rw [z]; exact new))]
      by_cases z : b = P
      · rw [z, upd_same]
        exact fun z => nomatch z
      · rw [upd_ne z]
        exact hb
    · rw [upd_ne (fun z => hb2 (by rw [z]; exact new))]
      exact hb
    · rw [upd_ne nP]
      exact h1
    · rw [upd_ne nP, upd_same]
    · rcases cs pos cv hc with z | z
      · obtain ⟨c, e1, e3⟩ := h4 pos cv z
        exact ⟨c, e1, by rw [upd_ne (fun w => by rw [w, nd] at e3; cases e3)]; exact e3⟩
      · exact ⟨c', z, upd_same⟩
end K13

set_option Elab.async false
set_option linter.all false
set_option maxRecDepth 100000
set_option maxHeartbeats 4000000
/-! KJ3: the word of a call, in a world. -/
namespace K13
open PySem PySem.Spec PyProof.Rows L2
open Evl (Ex ex_l ex_t sq_of st_of sz_of sz_lt fresh_back)
/-- a call that comes out as told -/
def EOut (C : CW) (W : Wl) (t : XK → TE) (env : En) (o : Out) : Prop := ∀ (σ : L2.St) (H Hd : Hp), SO C Hd σ env → Ex Hd H → W.I Hd H → ∀ (Q : VK) (E : XK), OKX C W Hd H o Q E → t E σ H Q
section
variable {C : CW} {W : Wl} {t : XK → TE} {env : En} {P cl cs : Addr} {q : Str}
theorem em_wordLet {Pr : Sv → Prop} (up : Up (WT P q) W) (h : EOut C W t env (.ok Pr)) : EM C W (LamX.tLamS P q (TTword cl cs) t) env fun r => r = .d (.str "let") := fun σ H Hd s e i Q k => by
  refine ⟨(up.i i).tab e, fun H1 st => ?_⟩
  obtain ⟨Hd1, e1, x1, n1, i1⟩ := (up.i i).step e st
  have iW := up.b i x1 e1 n1 i1
  refine h σ H1 Hd1 (s.mono n1.1) e1 iW _ _ fun v Hd2 H2 d a1 a2 a3 a4 p r => ⟨_, rfl, ?_⟩
  exact k _ Hd2 H2 (.d (.str "let")) ((x1.weak up.m).trans a1) a2 ((n1.weak up.m).trans (x1.weak up.m) a3) a4 rfl (.d (.str _))
theorem em_wordEr {c : Addr} {ret : Str} (hc : (c = cl ∧ ret = ("lot" : Str)) ∨ (c = cs ∧ ret = ("standing" : Str))) (up : Up (WT P q) W) (h : EOut C W t env (.er c)) : EM C W (LamX.tLamS P q (TTword cl cs) t) env fun r => r = .d (.str ret) := fun σ H Hd s e i Q k => by
  refine ⟨(up.i i).tab e, fun H1 st => ?_⟩
  obtain ⟨Hd1, e1, x1, n1, i1⟩ := (up.i i).step e st
  have iW := up.b i x1 e1 n1 i1
  refine h σ H1 Hd1 (s.mono n1.1) e1 iW _ _ fun Hd2 H2 a1 a2 a3 a4 => ⟨rfl, c, ret, rfl, hc, fun H3 e3 => ?_⟩
  have a5 : W.I Hd2 H3 := W.st a4 e3 (a2.trans e3) (Nw.refl _ _)
  exact k _ Hd2 H3 (.d (.str ret)) (((x1.weak up.m).trans a1).trans (.of e3)) (a2.trans e3) ((n1.weak up.m).trans (x1.weak up.m) a3) a5 rfl (.d (.str _))
/-- a call by its promise -/
theorem eo_call {pre : List Sv → Out → Prop} {ta : TA} {o : Out} {ds : List Sv} {W1 : Wl} (up : Up W1 W) (ha : EA C ta env ds) (hp : pre ds o) : EOut C W (fun E => tCall (spX C W1 pre) [] E ta) env o := fun σ H Hd s e i Q E k => by
  refine ha σ H Hd s e _ fun vs Hd1 H1 e1 e2 n1 r1 => ?_
  have i1 := W.st i e1 e2 n1
  refine ⟨Hd1, ds, o, e2, up.i i1, by rw [List.append_nil]; exact r1, hp, ?_⟩
  cases o with
  | ok Pr => exact fun v Hd2 H2 d a1 a2 a3 a4 p r => k v Hd2 H2 d ((ExM.of e1).trans (a1.weak up.m)) a2 ((NwM.of n1).trans (.of e1) (a3.weak up.m)) (up.b i1 a1 a2 a3 a4) p r
  | er c => exact fun Hd2 H2 a1 a2 a3 a4 => k Hd2 H2 ((ExM.of e1).trans (a1.weak up.m)) a2 ((NwM.of n1).trans (.of e1) (a3.weak up.m)) (up.b i1 a1 a2 a3 a4)
end
end K13

set_option Elab.async false
set_option linter.all false
set_option maxRecDepth 100000
set_option maxHeartbeats 4000000
/-! KJ4: a promise chosen where the call is met (the net, the hand and the book are known only then). -/
namespace K13
open PySem PySem.Spec PyProof.Rows L2
def tEx {ι : Type} (t : ι → TE) : TE := fun σ H Q => ∃ i, t i σ H Q
theorem pe_ex {ι : Type} {X : Cx} {e : Expr} {t : ι → TE} (h : ∀ i, PE X e (t i)) : PE X e (tEx t) := ⟨fun pins s σ H Q I ⟨i, q⟩ => (h i).run pins s σ H Q I q⟩
/-- hand, cells, book, net -/
structure Ix where
  h : Addr
  ac : Addr
  look : Addr
  n : NetD
section
variable {C : CW} {W : Wl} {env : En}
theorem em_ex {ι : Type} {t : ι → TE} {P : Sv → Prop} (i : ι) (h : EM C W (t i) env P) : EM C W (tEx t) env P := fun σ H Hd s e iW Q k => ⟨i, h σ H Hd s e iW Q k⟩
theorem eout_ex {ι : Type} {t : ι → XK → TE} {o : Out} (i : ι) (h : EOut C W (t i) env o) : EOut C W (fun E => tEx fun i => t i E) env o := fun σ H Hd s e iW Q E k => ⟨i, h σ H Hd s e iW Q E k⟩
theorem ed_ex {ι : Type} {t : ι → TE} {d : Sv} (i : ι) (h : ED C (t i) env d) : ED C (tEx t) env d := fun σ H Hd s e Q k => ⟨i, h σ H Hd s e Q k⟩
/-- a call that cannot raise as told, where nothing may be raised -/
theorem em_out {t : XK → TE} {P : Sv → Prop} {E : XK} (h : EOut C W t env (.ok P)) : EM C W (t E) env P := fun σ H Hd s e i Q k => h σ H Hd s e i Q E k
end
end K13

set_option Elab.async false
set_option linter.all false
set_option maxRecDepth 100000
set_option maxHeartbeats 4000000
/-! KJ5: from the world's calculus to a statement that is read by hand. -/
namespace K13
open PySem PySem.Spec PyProof.Rows L2
open Evl (Ex ex_l ex_t sq_of st_of sz_of sz_lt fresh_back)
section
variable {C : CW} {W : Wl} {env : En} {te : TE} {P : Sv → Prop} {σ : L2.St} {H Hd : Hp} {D : Ends} {u : TS} {i : Nat}
theorem raw_asg (h : EM C W te env P) (s : SO C Hd σ env) (e : Ex Hd H) (iw : W.I Hd H)
    (k : ∀ (d : Sv) (v : V) (Hd' H' : Hp), P d → ExM W.M H H' → Ex Hd' H' → NwM W.M Hd H Hd' → W.I Hd' H' → RpS C Hd' v d → SO C Hd' (σ.set i (some v)) (env.set i (some d)) → u D (σ.set i (some v)) H') : tSeq (tAsg te (gName i)) u D σ H :=
  h σ H Hd s e iw _ fun v Hd' H' d a1 a2 a3 a4 p r => k d v Hd' H' p a1 a2 a3 a4 r ((s.mono a3.1).set r)
/-- data without nets are told alike of any net -/
theorem so_cw {C' : CW} (s : SO C Hd σ env) (h : ∀ (j : Nat) (d : Sv), env[j]? = some (some d) → (∃ x, d = .d x) ∨ ∃ a, d = .loc a) : SO C' Hd σ env := ⟨s.len, fun j d hj => by
  obtain ⟨v, h1, h2⟩ := s.get j d hj
  refine ⟨v, h1, ?_⟩
  rcases h j d hj with ⟨x, rfl⟩ | ⟨a, rfl⟩
  · cases h2 with
    | d r => exact .d r
  · cases h2
    exact .loc _⟩
/-- sixteen slots, the hand in the second -/
def env16 (h : Addr) : En := none :: some (.loc h) :: List.replicate 14 none
theorem so16 {C : CW} {h : Addr} (l : σ.length = 16) (s : σ[1]? = some (some (.ref h))) : SO C Hd σ (env16 h) := ⟨l, fun j d hj => by
  match j, hj with
  | 0, hj => cases hj
  | 1, hj =>
    cases hj
    exact ⟨_, s, .loc _⟩
  | j + 2, hj =>
    have hj' : (List.replicate 14 (none : Option Sv))[j]? = some (some d) := hj
    rw [List.getElem?_replicate] at hj'
    split at hj'
    · cases hj'
    · cases hj'⟩
end
end K13

set_option Elab.async false
set_option linter.all false
set_option maxRecDepth 100000
set_option maxHeartbeats 4000000
/-! KJ6: statements read from any state of a world, to an end that is known. -/
namespace K13
open PySem PySem.Spec PyProof.Rows L2
open Evl (Ex ex_l ex_t sq_of st_of sz_of sz_lt fresh_back)
theorem Up.trans {A B D : Wl} (u : Up A B) (v : Up B D) : Up A D := ⟨fun a h => v.m a (u.m a h), fun i => u.i (v.i i), fun i e e2 n j => v.b i (e.weak u.m) e2 (n.weak u.m) (u.b (v.i i) e e2 n j)⟩
section
variable {C : CW} {K : PySem.W.Frag} {W : Wl} {env : En} {ta : TA} {te tb th : TE} {tt tu : TT} {t u : TS} {P Q R : Sv → Prop} {Pn : Wl → En → Prop} {D : Ends} {l : Addr} {xs : List Da} {i j : Nat} {d : Sv}
/-- from every state of the world W with the slots env -/
def Raw (C : CW) (W : Wl) (t : TS) (env : En) (D : Ends) : Prop := ∀ (σ : L2.St) (H Hd : Hp), SO C Hd σ env → Ex Hd H → W.I Hd H → t D σ H
theorem raw_seq (h : SNM C W t env Pn) (k : ∀ W' e', Pn W' e' → Raw C W' u e' D) : Raw C W (tSeq t u) env D := fun σ H Hd s e i => h σ H Hd s e i { D with nx := u D } fun W' env' σ' Hd' H' p _ e2 _ i2 s2 => k W' env' p σ' H' Hd' s2 e2 i2
theorem raw_last (h : SNM C W t env Pn) (k : ∀ W' e' σ H Hd, Pn W' e' → SO C Hd σ e' → Ex Hd H → W'.I Hd H → D.nx σ H) : Raw C W t env D := fun σ H Hd s e i => h σ H Hd s e i D fun W' env' σ' Hd' H' p _ e2 _ i2 s2 => k W' env' σ' H' Hd' p s2 e2 i2
theorem raw_set (h : EM C W te env P) (k : ∀ d, P d → Raw C W u (env.set i (some d)) D) : Raw C W (tSeq (tAsg te (gName i)) u) env D := fun σ H Hd s e iw => h σ H Hd s e iw _ fun v Hd' H' d _ e2 n i2 p r => k d p _ H' Hd' ((s.mono n.1).set r) e2 i2
theorem raw_setD (h : ED C te env d) (k : Raw C W u (env.set i (some d)) D) : Raw C W (tSeq (tAsg te (gName i)) u) env D := raw_set (P := fun x => x = d) (em_of h rfl) fun x e => by
  subst e
  exact k
theorem raw_if (h : ETM C W tt env fun b => b = false) (k : Raw C W u env D) : Raw C W (tSeq (tIfS tt t tNext) u) env D := fun σ H Hd s e i => h σ H Hd s e i _ fun b Hd' H' _ e2 n i2 p => by
  subst p
  exact k σ H' Hd' (s.mono n.1) e2 i2
/-- words = [..] -/
theorem raw_lst1 {Px : Da → Prop} (h : EM C W te env fun d => ∃ x, d = .d x ∧ Px x) (k : ∀ l x, Px x → ¬ W.M l → Raw C (LW W l [x]) u (env.set i (some (.loc l))) D) : Raw C W (tSeq (tAsg (tLst (tCons te tNil)) (gName i)) u) env D := fun σ H Hd s e iw => h σ H Hd s e iw _ fun v Hd' H' d _ e2 n i2 p r => by
  obtain ⟨x, rfl, px⟩ := p
  refine ⟨sz_of (by show 1 ≤ 100000; decide), fun l hl => ?_⟩
  cases r with
  | d r =>
    have nl : ¬ W.M l := fun z => (W.al i2 z).1 hl
    have e3 : Ex Hd' (upd H' l (.lst [v])) := e2.trans (Ex.new hl)
    exact k l x px nl _ _ Hd' ((s.mono n.1).set (.loc l)) e3 ⟨W.st i2 (Ex.new hl) e3 (Nw.refl _ _), fresh_back e2 hl, [v], upd_same, .one r⟩
/-- words.append(..) -/
theorem raw_app {Px : Da → Prop} (nl : ¬ W.M l) (hv : env[j]? = some (some (.loc l))) (h : EM C (LW W l xs) te env fun d => ∃ x, d = .d x ∧ Px x) (hz : xs.length < 100000) (k : ∀ x, Px x → Raw C (LW W l (xs ++ [x])) u env D) : Raw C (LW W l xs) (tSeq (tDrop (tBM K "list" rAppend (tVar j) (tCons te tNil))) u) env D :=
  raw_seq (Pn := fun W' e' => e' = env ∧ ∃ x, Px x ∧ W' = LW W l (xs ++ [x])) (snm_app nl hv h hz fun x px => ⟨rfl, x, px, rfl⟩) fun W' e' ⟨e1, x, px, e2⟩ => by
    subst e1 e2
    exact k x px
/-- from here on the list is data -/
theorem raw_data (nl : ¬ W.M l) (hv : env[j]? = some (some (.loc l))) (h : Raw C W u (env.set j (some (.d (.lst xs)))) D) : Raw C (LW W l xs) u env D := fun σ H Hd s e i => by
  obtain ⟨i1, g, vs, h1, h2⟩ := i
  have up : Ex Hd (upd Hd l (.lst vs)) := Ex.new g
  have e2 : Ex (upd Hd l (.lst vs)) H := fun b o hb => by
    by_cases z : b = l
    · rw [z, upd_same] at hb
      rw [z, h1]
      exact hb
    · rw [upd_ne z] at hb
      exact e b o hb
  have s2 : SO C (upd Hd l (.lst vs)) σ (env.set j (some (.d (.lst xs)))) := by
    have z := (s.mono up).set (i := j) (v := .ref l) (d := .d (.lst xs)) (.d (.lst upd_same (h2.mono up)))
    have q : σ.set j (some (.ref l)) = σ := by
      apply List.ext_getElem?
      intro a
      by_cases ha : j = a
      · subst ha
        rw [List.getElem?_set_self (List.getElem?_eq_some_iff.mp (loc_at s hv)).1, loc_at s hv]
      · rw [List.getElem?_set_ne ha]
    rw [q] at z
    exact z
  refine h σ H _ s2 e2 (W.gr i1 (fun a ha => ?_) up e2)
  rw [upd_ne (fun z => nl (by rw [← z]; exact ha))]
  exact (W.al i1 ha).2
/-! ### tests -/
theorem etm_orF (h1 : ETM C W tt env fun b => b = false) (h2 : ETM C W tu env fun b => b = false) : ETM C W (tOr tt tu) env fun b => b = false := fun σ H Hd s e i Q k => h1 σ H Hd s e i _ fun b Hd1 H1 a1 a2 a3 a4 p => by
  subst p
  exact h2 σ H1 Hd1 (s.mono a3.1) a2 a4 Q fun b Hd2 H2 b1 b2 b3 b4 p => k b Hd2 H2 (a1.trans b1) b2 (a3.trans a1 b3) b4 p
theorem etm_notT (h1 : ETM C W tt env fun b => b = true) : ETM C W (tNot tt) env fun b => b = false := fun σ H Hd s e i Q k => h1 σ H Hd s e i _ fun b Hd1 H1 a1 a2 a3 a4 p => by
  subst p
  exact k false Hd1 H1 a1 a2 a3 a4 rfl
theorem snm_ifF (h : ETM C W tt env fun b => b = false) (k : Pn W env) : SNM C W (tIfS tt t tNext) env Pn := fun σ H Hd s e i D q => h σ H Hd s e i _ fun b Hd' H' a1 e2 n i2 p => by
  subst p
  exact q W env σ Hd' H' k a1 e2 n i2 (s.mono n.1)
theorem em_callX {pre : List Sv → Out → Prop} {E : XK} {ds : List Sv} {W1 : Wl} (up : Up W1 W) (ha : EA C ta env ds) (hp : pre ds (.ok P)) : EM C W (tCall (spX C W1 pre) [] E ta) env P := em_out (t := fun E => tCall (spX C W1 pre) [] E ta) (eo_call up ha hp)
/-! ### small things -/
theorem ed_neg {n : Int} (h : ED C te env (.d (.int n))) : ED C (tUn (rU fun i => .int (-i)) te) env (.d (.int (-n))) := fun σ H Hd s e Q k => h σ H Hd s e _ fun v Hd1 H1 e1 e2 n1 r1 => by
  cases r1 with
  | d r1 =>
    cases r1
    exact ⟨n, rfl, (k.on e1 n1).here e2 (.d (.int _))⟩
theorem rv_notB {a b : Bool} : RV2 C rNotB (.d (.bl a)) (.d (.bl b)) (.d (.bl (!decide (a = b)))) := fun Hd H u v Q e r1 r2 k => by
  cases r1 with
  | d r1 =>
    cases r2 with
    | d r2 =>
      cases r1
      cases r2
      exact ⟨a, b, rfl, rfl, k.here e (.d (.bl _))⟩
theorem rv_repL {ds : List Da} {k : Nat} (hk : k ≤ 1000) (hl : ds.length ≤ 100) : RV2 C rRep (.d (.lst ds)) (.d (.int (k : Int))) (.d (.lst (List.replicate k ds).flatten)) := fun Hd H u v Q e r1 r2 kk => by
  cases r1 with
  | d r1 =>
    cases r2 with
    | d r2 =>
      cases r2
      cases r1 with
      | @lst a us _ g r =>
        have rep : ∀ m : Nat, RpL Hd (List.replicate m us).flatten (List.replicate m ds).flatten := fun m => by
          induction m with
          | zero => exact .nil
          | succ m ih =>
            rw [List.replicate_succ, List.replicate_succ, List.flatten_cons, List.flatten_cons]
            exact r.append ih
        have e1 : us.length = ds.length := r.length
        have m1 : us.length * k ≤ 100 * 1000 := Nat.mul_le_mul (by omega) hk
        refine ⟨a, (k : Int), us, rfl, rfl, e _ _ g, by omega, by omega, ?_, fun p hp => ?_⟩
        · rw [Int.toNat_natCast]
          exact sz_of (by omega)
        · rw [Int.toNat_natCast]
          exact kk.lst e (rep k) hp
/-- lists of words -/
theorem lay_strs : ∀ ws : List Str, (∀ x, x ∈ ws → PyData.strOk x = true) → PyData.canLayAll0 (ws.map PyData.str) = true
  | [], _ => by simp [PyData.canLayAll0]
  | a :: ws, h => by
    rw [List.map_cons, PyData.canLayAll0, lay_strs ws fun x hx => h x (List.mem_cons_of_mem _ hx)]
    have := h a List.mem_cons_self
    simp [PyData.canLay0, this]
theorem depth_strs : ∀ ws : List Str, PyData.depthAll (ws.map PyData.str) = 0
  | [] => by simp [PyData.depthAll]
  | a :: ws => by
    rw [List.map_cons, PyData.depthAll, depth_strs ws]
    simp [PyData.depth]
theorem shaped_strs (ws : List Str) (h : ∀ x, x ∈ ws → PyData.strOk x = true) : SeqAt.shaped (.list (ws.map PyData.str)) = true := by
  show ((PyData.list (ws.map PyData.str)).canLay0 && decide ((PyData.list (ws.map PyData.str)).depth ≤ 64)) = true
  rw [PyData.canLay0, lay_strs ws h, PyData.depth, depth_strs]
  rfl
theorem eqv_strs : ∀ ws : List Str, PyData.eqvAll (ws.map PyData.str) (ws.map PyData.str) = true
  | [] => by simp [PyData.eqvAll]
  | a :: ws => by
    rw [List.map_cons, PyData.eqvAll, eqv_strs ws]
    simp [PyData.eqv]
theorem dp_strs {Hd H : Hp} (e : Ex Hd H) : ∀ {vs : List V} {ws : List Str}, RpL Hd vs (ws.map Da.str) → DpAll K H vs (ws.map PyData.str)
  | _, [], .nil => .nil
  | _, w :: ws, .cons h r => by
    cases h
    exact .cons (.str _) (dp_strs e r)
theorem rv_neSame {ws : List Str} (h : ∀ x, x ∈ ws → PyData.strOk x = true) : RV2 C (rNeD K) (.d (.lst (ws.map Da.str))) (.d (.lst (ws.map Da.str))) (.d (.bl false)) := fun Hd H u v Q e r1 r2 k => by
  cases r1 with
  | d r1 =>
    cases r2 with
    | d r2 =>
      cases r1 with
      | lst h1 t1 =>
        cases r2 with
        | lst h2 t2 =>
          refine ⟨.list (ws.map PyData.str), .list (ws.map PyData.str), .lst (sq_of (e _ _ h1)) (dp_strs e t1), .lst (sq_of (e _ _ h2)) (dp_strs e t2), shaped_strs ws h, shaped_strs ws h, ?_⟩
          rw [PyData.eqv, eqv_strs]
          exact k.here e (.d (.bl false))
end
end K13

set_option Elab.async false
set_option linter.all false
set_option maxRecDepth 100000
set_option maxHeartbeats 4000000
/-! KJ7: net, begin = Net(..), ..; what is no lot, no standing; what living says. -/
namespace K13
open PySem PySem.Spec PyProof.Rows L2
open Evl (Ex ex_l ex_t sq_of st_of sz_of sz_lt fresh_back)
abbrev Ix.C (c : Addr) (i : Ix) : CW := ⟨c, i.look, i.n⟩
section
variable {K : PySem.W.Frag} {W : Wl} {env : En} {u : TS} {D : Ends} {σ : L2.St} {H Hd : Hp} {n : NetD} {h ac c : Addr} {C0 : CW}
theorem rp_ref {H : Hp} {v : V} {ds : List Da} (r : Rp H v (.tup ds)) : ∃ t, v = .ref t := by
  cases r
  exact ⟨_, rfl⟩
theorem asg_tup2 {ta tb : TE} {g : TG} (q : ta σ H fun v H1 => tb σ H1 fun w H2 => [v, w].length ≤ sizeLine ∧ ∀ p, H2 p = none → g (.ref p) σ (upd H2 p (.tup [v, w])) (u D)) : tSeq (tAsg (tTup (tCons ta (tCons tb tNil))) g) u D σ H := q
theorem raw_net {E1 E2 : XK} (nv : NetV n) (hv : env[11]? = some (some (.d (.tup [.int (n.places : Int), deedsD n.deeds])))) (hh : env[1]? = some (some (.loc h))) (pure : ∀ (j : Nat) (d : Sv), env[j]? = some (some d) → (∃ x, d = .d x) ∨ ∃ a, d = .loc a)
    (so : SO C0 Hd σ env) (ex : Ex Hd H) (iw : W.I Hd H) (upH : Up (HW h ac) W)
    (k : ∀ (look : Addr) (st : List Nat) (dis : ∀ a, W.M a → (LK ⟨c, look, n⟩).M a → False), st.length = n.places → Raw ⟨c, look, n⟩ (Wl.mul W (LK ⟨c, look, n⟩) dis) u ((env.set 13 (some (.net n))).set 10 (some (.d (lotD st)))) D) :
    tSeq (tAsg (tTup (tCons (tMake c (spInit c) [] E1 (tCons (tOp (rIxT K) (tVar 11) (tC (.int 0))) (tCons (tOp (rIxT K) (tVar 11) (tC (.int 1))) tNil))) (tCons (tEx fun i : Ix => tCall (spM (Ix.C c i) (HW i.h i.ac) (pBegin i.h)) [] E2 (tCons (tVar 1) (tCons (tOp (rIxT K) (tVar 11) (tC (.int 0))) tNil))) tNil))) (gTup K 2 (gCons (gName 13) (gCons (gName 10) gNil)))) u D σ H := by
  have ea : EA C0 (tCons (tOp (rIxT K) (tVar 11) (tC (.int 0))) (tCons (tOp (rIxT K) (tVar 11) (tC (.int 1))) tNil)) env [.d (.int (n.places : Int)), .d (deedsD n.deeds)] :=
    ea_cons (ed_op (ed_var hv) ed_int (rv_ixT (j := 0) rfl rfl)) (ea_cons (ed_op (ed_var hv) ed_int (rv_ixT (j := 1) rfl rfl)) ea_nil)
  refine asg_tup2 ?_
  refine ea σ H Hd so ex _ fun vs Hd1 H1 e1 ex1 n1 r1 => ?_
  cases r1 with
  | cons ra r1 =>
    cases r1 with
    | cons rb r1 =>
      cases r1
      cases ra with
      | d ra =>
        cases ra
        cases rb with
        | d rb =>
          obtain ⟨t, et⟩ := rp_ref (ds := n.deeds.map deedD) rb
          subst et
          intro x dx hx hdx hne
          have hx2 : (upd H1 dx (.own x)) x = none := by rw [upd_ne (Ne.symm hne)]; exact hx
          have xm : Ex H1 (upd (upd H1 dx (.own x)) x (.ins c dx [])) := (Ex.new hdx).trans (Ex.new hx2)
          refine ⟨x, dx, t, Hd1, n, rfl, upd_same, fresh_back ex1 hx, ex1.trans xm, rb, nv, fun l H2 hl keep hxx hll => ⟨rfl, ?_⟩⟩
          have lx : l ≠ x := fun z => by rw [z, upd_same] at hl; cases hl
          have hl1 : H1 l = none := by
            cases q : H1 l with
            | none => rfl
            | some o =>
              rw [xm _ _ q] at hl
              cases hl
          have xH2 : Ex H1 H2 := fun b o hb => keep b o (fun z => by rw [z, hx] at hb; cases hb) (xm _ _ hb)
          have nw2 : Nw Hd1 H1 (upd Hd1 x (.ins c dx (netF n.places t l))) := Nw.new ex1 hx
          have ex2 : Ex (upd Hd1 x (.ins c dx (netF n.places t l))) H2 := fun b o hb => by
            by_cases z : b = x
            · subst z
              rw [upd_same] at hb
              rw [hxx]
              exact hb
            · rw [upd_ne z] at hb
              exact xH2 _ _ (ex1 _ _ hb)
          have i1 := W.st iw e1 ex1 n1
          have dis : ∀ a, W.M a → (LK ⟨c, l, n⟩).M a → False := fun a m1 m2 => by
            have e : a = l := m2
            subst e
            exact (W.al i1 m1).1 hl1
          have iW := W.st i1 xH2 ex2 nw2
          have iL : (LK ⟨c, l, n⟩).I (upd Hd1 x (.ins c dx (netF n.places t l))) H2 := ⟨by show (upd Hd1 x (.ins c dx (netF n.places t l))) l = none; rw [upd_ne lx]; exact fresh_back ex1 hl1, .inl hll⟩
          have so2 : SO ⟨c, l, n⟩ (upd Hd1 x (.ins c dx (netF n.places t l))) σ env := so_cw ((so.mono n1.1).mono nw2.1) pure
          have rx : RpS ⟨c, l, n⟩ (upd Hd1 x (.ins c dx (netF n.places t l))) (.ref x) (.net n) := .net rfl upd_same (rb.mono nw2.1)
          have em : EM ⟨c, l, n⟩ (Wl.mul W (LK ⟨c, l, n⟩) dis) (tEx fun i : Ix => tCall (spM (Ix.C c i) (HW i.h i.ac) (pBegin i.h)) [] E2 (tCons (tVar 1) (tCons (tOp (rIxT K) (tVar 11) (tC (.int 0))) tNil))) env fun d => ∃ st : List Nat, d = .d (lotD st) ∧ st.length = n.places :=
            em_ex ⟨h, ac, l, n⟩ (em_call (P1 := fun es => es = [.loc h, .d (.int (n.places : Int))]) (eam_of (ea_cons (ed_var hh) (ea_cons (ed_op (ed_var hv) ed_int (rv_ixT (j := 0) rfl rfl)) ea_nil)) rfl) (upH.trans (up_mul1 dis)) fun es e => by
              subst e
              exact ⟨_, .mk n.places nv.p2, fun d q => q⟩)
          refine em σ H2 _ so2 ex2 ⟨iW, iL⟩ _ fun v Hd3 H3 d e3 ex3 n3 i3 p3 r3 => ?_
          obtain ⟨st, rfl, hst⟩ := p3
          refine ⟨sz_of (by show 2 ≤ 100000; decide), fun p hp => ?_⟩
          refine ⟨p, [.ref x, v], rfl, st_of upd_same, rfl, _, _, rfl, _, _, rfl, rfl, ?_⟩
          exact k l st dis hst _ _ Hd3 (((so2.mono n3.1).set (rx.mono n3.1)).set r3) (ex3.trans (Ex.new hp)) ((Wl.mul W (LK ⟨c, l, n⟩) dis).st i3 (Ex.new hp) (ex3.trans (Ex.new hp)) (Nw.refl _ _))
end
/-! ### no lot, no standing -/
def NoLotD (n : NetD) (d : Da) : Prop := szT d ∧ lotIn n d = false
theorem noLot_deep {n : NetD} {d : Da} (h : Deep d) : NoLotD n d := by
  refine ⟨sm_sz (k := 0) (h.2.2 1), ?_⟩
  cases d with
  | tup xs =>
    obtain ⟨x, rfl, hx⟩ := h.2.1 xs rfl
    have : isLot (.tup [x]) (n.places : Int) = false := by
      show (([x].all fun y => isWithin y 0 ((n.places : Int) - 1)) && _) = false
      cases x with
      | int i => cases hx
      | _ => rfl
    unfold lotIn
    rw [this]
    rfl
  | _ => rfl
theorem isLot_last {xs : List Da} {p : Nat} : isLot (.tup (xs ++ [.int (p : Int)])) (p : Int) = false := by
  show (((xs ++ [Da.int (p : Int)]).all fun y => isWithin y 0 ((p : Int) - 1)) && _) = false
  have : ((xs ++ [Da.int (p : Int)]).all fun y => isWithin y 0 ((p : Int) - 1)) = false := by
    rw [List.all_append]
    have e : ([Da.int (p : Int)].all fun y => isWithin y 0 ((p : Int) - 1)) = false := by
      show ((decide ((0 : Int) ≤ (p : Int)) && decide ((p : Int) ≤ (p : Int) - 1)) && true) = false
      rw [decide_eq_false (show ¬ ((p : Int) ≤ (p : Int) - 1) from by omega)]
      simp
    rw [e, Bool.and_false]
  rw [this]
  rfl
def lotThings (n : NetD) (a : Nat) (l : List Nat) : List Da := [.tup [], .lst (l.map fun (n : Nat) => Da.int (n : Int)), .tup ((l.map fun (n : Nat) => Da.int (n : Int)) ++ [.int (n.places : Int)]), .tup [.int (a : Int), .int (a : Int)], .tup [.bl true], .tup [.int (-1)], .non, .int (a : Int), .dic, .tup [.str "0"], .str "01"]
theorem noLots {n : NetD} {a : Nat} {l : List Nat} (hz : l.length ≤ 10) : ∀ x, x ∈ lotThings n a l → NoLotD n x := by
  intro x hx
  unfold lotThings at hx
  simp only [List.mem_cons, List.not_mem_nil, or_false] at hx
  have two : ∀ y : Da, isLot y (n.places : Int) = false → lotIn n y = false := fun y e => by
    unfold lotIn
    rw [e]
    rfl
  have all1 : ∀ y : Da, isWithin y 0 ((n.places : Int) - 1) = false → isLot (.tup [y]) (n.places : Int) = false := fun y e => by
    show (([y].all fun y => isWithin y 0 ((n.places : Int) - 1)) && _) = false
    rw [List.all_cons, e]
    rfl
  rcases hx with rfl | rfl | rfl | rfl | rfl | rfl | rfl | rfl | rfl | rfl | rfl
  · exact ⟨by show 0 ≤ 1000; decide, by unfold lotIn; rw [show decide (0 < lenD (.tup [])) = false from rfl, Bool.and_false]⟩
  · exact ⟨trivial, rfl⟩
  · refine ⟨?_, two _ isLot_last⟩
    show ((l.map fun (n : Nat) => Da.int (n : Int)) ++ [Da.int (n.places : Int)]).length ≤ 1000
    rw [List.length_append, List.length_map]
    show l.length + 1 ≤ 1000
    omega
  · refine ⟨by show 2 ≤ 1000; decide, two _ ?_⟩
    show (_ && ((decide ((a : Int) < (a : Int))) && true)) = false
    rw [decide_eq_false (show ¬ ((a : Int) < (a : Int)) from by omega)]
    simp
  · exact ⟨by show 1 ≤ 1000; decide, two _ (all1 _ rfl)⟩
  · exact ⟨by show 1 ≤ 1000; decide, two _ (all1 _ rfl)⟩
  · exact ⟨trivial, rfl⟩
  · exact ⟨trivial, rfl⟩
  · exact ⟨trivial, rfl⟩
  · exact ⟨by show 1 ≤ 1000; decide, two _ (all1 _ rfl)⟩
  · exact ⟨trivial, rfl⟩
theorem noSt_deep {n : NetD} (h2 : 2 ≤ n.places) {d : Da} (h : Deep d) : isStand n d = false := by
  cases d with
  | tup xs =>
    obtain ⟨x, rfl, hx⟩ := h.2.1 xs rfl
    show (decide (1 = n.places) && _) = false
    rw [decide_eq_false (show ¬ (1 = n.places) from by omega)]
    rfl
  | _ => rfl
def stThings (st : List Nat) : List Da := [.lst (st.map fun (n : Nat) => Da.int (n : Int)), .tup ((st.map fun (n : Nat) => Da.int (n : Int)).drop 1), .tup ((st.map fun (n : Nat) => Da.int (n : Int)) ++ [.int 0]), .tup ([.int (-1)] ++ (st.map fun (n : Nat) => Da.int (n : Int)).drop 1), .tup ([.bl true] ++ (st.map fun (n : Nat) => Da.int (n : Int)).drop 1), .non, .int 0, .dic, .str "01"]
theorem noSts {n : NetD} (h2 : 2 ≤ n.places) {st : List Nat} (hs : st.length = n.places) : ∀ x, x ∈ stThings st → isStand n x = false := by
  intro x hx
  unfold stThings at hx
  simp only [List.mem_cons, List.not_mem_nil, or_false] at hx
  have len : ∀ ys : List Da, ys.length ≠ n.places → isStand n (.tup ys) = false := fun ys e => by
    show (decide (ys.length = n.places) && _) = false
    rw [decide_eq_false e]
    rfl
  rcases hx with rfl | rfl | rfl | rfl | rfl | rfl | rfl | rfl | rfl
  · rfl
  · refine len _ ?_
    rw [List.length_drop, List.length_map]
    omega
  · refine len _ ?_
    rw [List.length_append, List.length_map]
    show st.length + 1 ≠ n.places
    omega
  · show (_ && (false && _)) = false
    simp
  · show (_ && (false && _)) = false
    simp
  · rfl
  · rfl
  · rfl
  · rfl
/-! ### what living says -/
theorem siph_le {n : NetD} (h5 : n.places ≤ 5) : (lawSiphons n).length ≤ 100 := by
  have h1 : (lawSiphons n).length ≤ (lawAllLots n.places).length := by
    unfold lawSiphons lawLeast
    exact Nat.le_trans (List.length_filter_le _ _) (List.length_filter_le _ _)
  have h2 := lawAll_length n.places
  have h3 : 2 ^ n.places ≤ 2 ^ 5 := Nat.pow_le_pow_right (by decide) h5
  have h4 : (2 : Nat) ^ 5 = 32 := by decide
  omega
theorem siph_mem {n : NetD} {l : List Nat} (h : l ∈ lawSiphons n) : LotP n.places l := by
  unfold lawSiphons lawLeast at h
  exact (mem_lawAll _ _).mp (List.mem_filter.mp (List.mem_filter.mp h).1).1
theorem trapFuel_len (ds : List (List Nat × List Nat)) : ∀ (k : Nat) (l : List Nat), (trapFuel ds k l).length ≤ l.length
  | 0, l => by unfold trapFuel; first | exact Nat.le_refl _ | (split <;> exact Nat.le_refl _)
  | k + 1, l => by
    unfold trapFuel
    split
    · first | exact Nat.le_refl _ | exact Nat.le_trans (trapFuel_len ds k _) (List.length_filter_le _ _)
    · first | exact Nat.le_refl _ | exact Nat.le_trans (trapFuel_len ds k _) (List.length_filter_le _ _)
theorem trapIn_len (ds : List (List Nat × List Nat)) (l : List Nat) : (trapIn ds l).length ≤ l.length := trapFuel_len ds _ l
theorem living_ans {n : NetD} (h2 : n.places ≤ 5) (st : List Nat) : ∃ w xs, livingD n st = .tup [.str w, .tup xs] ∧ Ans w xs := by
  have hS : ∀ l, l ∈ siphonsOf n → l.length ≤ 10 := fun l hl => by
    rw [← siphons_eq] at hl
    exact Nat.le_trans (lotP_len (siph_mem hl)) (by omega)
  unfold livingD
  cases q : (siphonsOf n).find? (fun s => !isMarked (trapIn n.deeds s) st) with
  | some s =>
    have hs := hS s (List.mem_of_find?_eq_some q)
    refine ⟨"dies", _, rfl, by rw [List.length_map]; omega, fun x hx => ?_, fun z => absurd z (by decide)⟩
    obtain ⟨m, _, rfl⟩ := List.mem_map.mp hx
    exact smA_flat rfl
  | none =>
    refine ⟨"live", _, rfl, by rw [List.length_map, ← siphons_eq]; exact siph_le h2, fun x hx => ?_, fun _ x hx => ?_⟩
    · obtain ⟨s, hs, rfl⟩ := List.mem_map.mp hx
      have := hS s hs
      have := trapIn_len n.deeds s
      exact smA_two (smA_lot (by omega)) (smA_lot (by omega))
    · obtain ⟨s, hs, rfl⟩ := List.mem_map.mp hx
      have := hS s hs
      have := trapIn_len n.deeds s
      exact ⟨s, trapIn n.deeds s, rfl, by omega, by omega⟩
theorem smA4 {d : Da} (h : smA d) : sm 4 d := h 4
theorem living_smA {n : NetD} (h5 : n.places ≤ 5) (st : List Nat) : smA (livingD n st) := by
  obtain ⟨w, xs, e, a⟩ := living_ans h5 st
  rw [e]
  have := a.len
  exact smA_two (smA_flat rfl) (smA_tup (by omega) a.sm)
section
variable {K : PySem.W.Frag} {W : Wl} {env : En} {n : NetD} {h ac c look : Addr} {te1 th : TE} {te : TE} {C : CW}
theorem em_w {s : Str} (q : EM C W te env fun r => r = .d (.str s)) : EM C W te env fun d => ∃ x, d = .d x ∧ x = .str s := em_imp q fun d e => ⟨_, e, rfl⟩
theorem zeros_rep (p : Nat) : Da.tup (List.replicate p [Da.int 0]).flatten = lotD (zeros p) := by
  show Da.tup _ = Da.tup ((List.replicate p 0).map fun (n : Nat) => Da.int (n : Int))
  congr 1
  induction p with
  | zero => rfl
  | succ p ih =>
    rw [List.replicate_succ, List.replicate_succ, List.flatten_cons, List.map_cons, ih]
    rfl
/-- one of some things, or a deep one -/
theorem em_pick {E E2 : XK} {good : Da → Prop} (ds : List Da) (up : Up (HW h ac) W) (hv : ED ⟨c, look, n⟩ th env (.loc h)) (h1 : ED ⟨c, look, n⟩ te1 env (.d (.lst ds))) (hz : ds.length ≤ 1000) (hds : ∀ x, x ∈ ds → good x) (hdeep : ∀ x, Deep x → good x) :
    EM ⟨c, look, n⟩ W (tEx fun i : Ix => tCall (spM (i.C c) (HW i.h i.ac) (pAny i.h)) [] E (tCons th (tCons (tOp rCat te1 (tLst (tCons (tEx fun i : Ix => tCall (spM (i.C c) (HW i.h i.ac) (pDeep i.h)) [] E2 (tCons th tNil)) tNil))) tNil))) env fun d => ∃ x, d = .d x ∧ good x :=
  em_ex ⟨h, ac, look, n⟩ (em_call (P1 := fun es => ∃ y, Deep y ∧ es = [.loc h, .d (.lst (ds ++ [y]))]) (eam_imp (eam_ed hv (eam1 (P := fun d => ∃ y, Deep y ∧ d = .d (.lst (ds ++ [y]))) (em_op (P1 := fun d => d = .d (.lst ds)) (P2 := fun d => ∃ y, Deep y ∧ d = .d (.lst [y])) (em_of h1 rfl) (fun _ _ => em_lst (eam1 (P := fun d => ∃ y, d = .d y ∧ Deep y) (em_ex ⟨h, ac, look, n⟩ (em_call (P1 := fun es => es = [.loc h]) (eam_of (ea_cons hv ea_nil) rfl) up fun es e => by
      subst e
      exact ⟨_, .mk, fun d q => q⟩))) fun es ⟨d, ⟨y, e1, dy⟩, e2⟩ => by
        subst e1 e2
        exact ⟨[y], rfl, by show 1 ≤ 100000; decide, y, dy, rfl⟩) fun x y hx ⟨z, dz, hz2⟩ => by
          subst hx hz2
          exact ⟨_, rv_catL (by show ds.length + 1 ≤ 100000; omega), z, dz, rfl⟩))) fun es ⟨es1, ⟨d, ⟨y, dy, e1⟩, e2⟩, e3⟩ => by
            subst e1 e2 e3
            exact ⟨y, dy, rfl⟩) up fun es ⟨y, dy, e⟩ => by
              subst e
              exact ⟨_, .mk (ds ++ [y]) (by simp) (by rw [List.length_append]; show ds.length + 1 ≤ 100000; omega), fun d ⟨x, e, hx⟩ => ⟨x, e, (List.mem_append.mp hx).elim (hds x) fun q => by
                rw [List.mem_singleton.mp q]
                exact hdeep _ dy⟩⟩)
end
end K13

set_option Elab.async false
set_option linter.all false
set_option maxRecDepth 100000
set_option maxHeartbeats 4000000
/-! KV3: law. -/
namespace K13
open PySem PySem.Spec PyProof.Rows L2
open Evl (Ex ex_l ex_t sq_of st_of sz_of sz_lt fresh_back)
abbrev s_law : Stmt := topS 82
theorem sc_law : FnScope ["script", "hand", "turn", "some", "words", "told", "siphons", "again", "thing", "flag", "begin", "drawn", "lot", "net", "no_lot", "no_standing"] ["script"] (defScope s_law) := ⟨rfl, rfl, rfl, by decide +kernel, rfl, by decide +kernel, by decide +kernel⟩
theorem op_repTK (K : PySem.W.Frag) {X : Cx} (h : X.K = K := by rfl) : OpR X (binaryOp .Mult) (rRepT K) := by subst h; exact op_repT
theorem passF {X : Cx} {P : Program} {w : World} : Passes (L2.CX P w) X (fun _ _ _ => False) := fun _ _ _ _ _ _ _ h => by
  obtain ⟨_, _, _, _, _, _, _, _, _, _, _, _, z⟩ := h
  exact z.elim
structure LawF (P : Program) (w : World) (K : PySem.W.Frag) (mg : Str → Option Value) (base : Heap) (c ce cl cs g cc PP fi : Addr) (cdg : Value) (fdi : FuncData) : Prop where
  B : Bt mg
  ER : ErrT K mg ce cl cs
  TB : LamX.TabB base mg cc PP
  LD : LamX.LamDef K mg "_law_word" "call" ["call", "word", "e", "flags"] s_law_word g cdg
  gN : mg "Net" = some (.ref c)
  M : Mk K c fi
  FI : FnOk P w K mg base CX0 6 fi fdi ["self", "places", "deeds"] (spInit c)
  bI : Binds K fdi ["self", "places", "deeds"] []
  c_law_hand : ∀ i : Ix, Cal P w K mg base CX0 1 "_law_hand" (spHand K)
  c_law_net : ∀ i : Ix, Cal P w K mg base CX0 3 "_law_net" (spM (i.C c) (HW i.h i.ac) (pNet i.h))
  c_law_draw : ∀ i : Ix, Cal P w K mg base CX0 1 "_law_draw" (spM (i.C c) (HW i.h i.ac) (pDraw i.h))
  c_law_begin : ∀ i : Ix, Cal P w K mg base CX0 3 "_law_begin" (spM (i.C c) (HW i.h i.ac) (pBegin i.h))
  c_law_any : ∀ i : Ix, Cal P w K mg base CX0 2 "_law_any" (spM (i.C c) (HW i.h i.ac) (pAny i.h))
  c_law_deep : ∀ i : Ix, Cal P w K mg base CX0 3 "_law_deep" (spM (i.C c) (HW i.h i.ac) (pDeep i.h))
  c_law_bent : ∀ i : Ix, Cal P w K mg base CX0 4 "_law_bent" (spM (i.C c) (HW i.h i.ac) (pBent i.h))
  c_law_all_lots : ∀ i : Ix, Cal P w K mg base CX0 1 "_law_all_lots" (spD (i.C c) pLawAll)
  c_law_bare : ∀ i : Ix, Cal P w K mg base CX0 3 "_law_bare" (spD (i.C c) pLawBare)
  c_law_is_lively : ∀ i : Ix, Cal P w K mg base CX0 4 "_law_is_lively" (spD (i.C c) pLawLively)
  c_greatest_trap : ∀ i : Ix, Cal P w K mg base (L2.CX P w) 6 "greatest_trap" (spX (i.C c) W0 (pGrT cl))
  c_greatest_siphon : ∀ i : Ix, Cal P w K mg base (L2.CX P w) 6 "greatest_siphon" (spX (i.C c) W0 (pGrS cl))
  c_marked : ∀ i : Ix, Cal P w K mg base (L2.CX P w) 6 "marked" (spX (i.C c) W0 (pMrk cl cs))
  c_lively : ∀ i : Ix, Cal P w K mg base (L2.CX P w) 5 "lively" (spX (i.C c) (LK (i.C c)) (pLively cs))
  c_is_lively : ∀ i : Ix, Cal P w K mg base (L2.CX P w) 8 "is_lively" (spX (i.C c) (LK (i.C c)) (pIsLively cs))
  c_dying : ∀ i : Ix, Cal P w K mg base (L2.CX P w) 6 "dying" (spX (i.C c) W0 (pDying cs))
  c_revived : ∀ i : Ix, Cal P w K mg base (L2.CX P w) 5 "revived" (spX (i.C c) W0 (pRevived cs))
def qL : Str := "law.<locals>.<lambda>"
def spLaw (K : PySem.W.Frag) (PP : Addr) : Sp := fun vs H Q _ => ∃ (a : Addr) (ns : List Int), vs = [.ref a] ∧ SqL K H a (ns.map V.int) ∧ ns.length ≤ 100000 ∧ H PP = some (.tbl #[]) ∧ ∀ H', Q (.bl true) H'
section
variable {P : Program} {w : World} {K : PySem.W.Frag} {mg : Str → Option Value} {base : Heap} {c ce cl cs g cc PP fi : Addr} {cdg : Value} {fdi : FuncData}
theorem ok_law (LF : LawF P w K mg base c ce cl cs g cc PP fi cdg fdi) {f : Addr} {oc : Value} {od : Option Addr} {osl : Array (Option Value)} {kV doc pm ct : Value} {an : Option Addr} (lk : K.lookup f = some ⟨oc, od, .func (PySem.W.fnOf "law" "law" (defArgs s_law) (defBody s_law) (defScope s_law) .none kV doc pm an (.ref cc) ct), osl⟩)
    (hcd : PySem.W.codeIn K (.ref cc) "law" = true) : FnOk P w K mg base CX0 12 f (PySem.W.fnOf "law" "law" (defArgs s_law) (defBody s_law) (defScope s_law) .none kV doc pm an (.ref cc) ct) ["script"] (spLaw K PP) := by
  obtain ⟨B, ER, TB, LD, gN, M, FI, bI, c_law_hand, c_law_net, c_law_draw, c_law_begin, c_law_any, c_law_deep, c_law_bent, c_law_all_lots, c_law_bare, c_law_is_lively, c_greatest_trap, c_greatest_siphon, c_marked, c_lively, c_is_lively, c_dying, c_revived⟩ := LF
  refine fn_of lk hcd sc_law (fun vs H Q E ⟨a, ns, e, _⟩ => by rw [e]; rfl) fun A outer s H vs Q E hr h => ?_
  obtain ⟨a, ns, ev, hs, hz, ht, k⟩ := h
  subst ev
  suffices z : ∃ t, PSs (cxOf CX0 P w K mg base ["script", "hand", "turn", "some", "words", "told", "siphons", "again", "thing", "flag", "begin", "drawn", "lot", "net", "no_lot", "no_standing"] "law" (defScope s_law) f (.ref cc) A outer s H E).nox (defBody s_law) t ∧ t { nx := fun _ H' => Q .non H', rt := Q } (L2.start ["script", "hand", "turn", "some", "words", "told", "siphons", "again", "thing", "flag", "begin", "drawn", "lot", "net", "no_lot", "no_standing"] [.ref a]) H by
    obtain ⟨t, z1, z2⟩ := z
    exact ⟨t, z1.nox, z2⟩
  refine ⟨_, (pss_cons (ps_set (i := 1) sc_law.nd rfl (Or.inl rfl) (pe_ex fun i : Ix => pe_cal (c_law_hand i) hr (by decide) rfl pass0 (pa_cons (pv 0) pa_nil)))
      (pss_cons (ps_for PassesOwn.never rfl (pi_range1 rfl B.range_ (pa_cons pe_int pa_nil)) (pg_name (i := 2) sc_law.nd rfl (Or.inl rfl)) (pss_cons (ps_set (i := 11) sc_law.nd rfl (Or.inr rfl) (pe_ex fun i : Ix => pe_cal (c_law_net i) hr (by decide) rfl pass0 (pa_cons (pv 1) (pa_cons (pe_op op_add pe_int (pe_ex fun i : Ix => pe_cal (c_law_draw i) hr (by decide) rfl pass0 (pa_cons (pv 1) (pa_cons pe_int pa_nil)))) (pa_cons pe_int pa_nil)))))
      (pss_cons (ps_asg (pe_tup (pa_cons (pe_make M FI (hr.mono (by decide)) rfl gN bI .nil pass0 (pa_cons (pe_ix (ix_tupK K) (pv 11) pe_int (fun _ _ => rfl)) (pa_cons (pe_ix (ix_tupK K) (pv 11) pe_int (fun _ _ => rfl)) pa_nil))) (pa_cons (pe_ex fun i : Ix => pe_cal (c_law_begin i) hr (by decide) rfl pass0 (pa_cons (pv 1) (pa_cons (pe_ix (ix_tupK K) (pv 11) pe_int (fun _ _ => rfl)) pa_nil))) pa_nil))) (pg_tupK K (n := 2) rfl (pgs_cons (pg_name (i := 13) sc_law.nd rfl (Or.inr rfl)) (pgs_cons (pg_name (i := 10) sc_law.nd rfl (Or.inr rfl)) pgs_nil))))
      (pss_cons (ps_set (i := 12) sc_law.nd rfl (Or.inr rfl) (pe_ex fun i : Ix => pe_cal (c_law_any i) hr (by decide) rfl pass0 (pa_cons (pv 1) (pa_cons (pe_ex fun i : Ix => pe_cal (c_law_all_lots i) hr (by decide) rfl pass0 (pa_cons (pe_ix (ix_tupK K) (pv 11) pe_int (fun _ _ => rfl)) pa_nil)) pa_nil))))
      (pss_cons (ps_set (i := 3) sc_law.nd rfl (Or.inl rfl) (pe_lst (pa_cons (pe_tup pa_nil) (pa_cons (pe_callTy (call_listK K) (by rfl) B.list_ b_list (pa_cons (pv 12) pa_nil)) (pa_cons (pe_op (op_catK K) (pv 12) (pe_tup (pa_cons (pe_ix (ix_tupK K) (pv 11) pe_int (fun _ _ => rfl)) pa_nil))) (pa_cons (pe_tup (pa_cons (pe_ix (ix_tupK K) (pv 12) pe_int (fun _ _ => rfl)) (pa_cons (pe_ix (ix_tupK K) (pv 12) pe_int (fun _ _ => rfl)) pa_nil))) (pa_cons (pe_tup (pa_cons pe_bl pa_nil)) (pa_cons (pe_tup (pa_cons (pe_un un_neg pe_int) pa_nil)) (pa_cons pe_non (pa_cons (pe_ix (ix_tupK K) (pv 12) pe_int (fun _ _ => rfl)) (pa_cons pe_dnewK (pa_cons (pe_tup (pa_cons pe_str pa_nil)) (pa_cons pe_str pa_nil)))))))))))))
      (pss_cons (ps_set (i := 14) sc_law.nd rfl (Or.inr rfl) (pe_ex fun i : Ix => pe_cal (c_law_any i) hr (by decide) rfl pass0 (pa_cons (pv 1) (pa_cons (pe_op op_cat (pv 3) (pe_lst (pa_cons (pe_ex fun i : Ix => pe_cal (c_law_deep i) hr (by decide) rfl pass0 (pa_cons (pv 1) pa_nil)) pa_nil))) pa_nil))))
      (pss_cons (ps_set (i := 3) sc_law.nd rfl (Or.inl rfl) (pe_lst (pa_cons (pe_callTy (call_listK K) (by rfl) B.list_ b_list (pa_cons (pv 10) pa_nil)) (pa_cons (pe_slice (sl_tupK K) (pv 10) (po_some pe_int) po_none) (pa_cons (pe_op (op_catK K) (pv 10) (pe_tup (pa_cons pe_int pa_nil))) (pa_cons (pe_op (op_catK K) (pe_tup (pa_cons (pe_un un_neg pe_int) pa_nil)) (pe_slice (sl_tupK K) (pv 10) (po_some pe_int) po_none)) (pa_cons (pe_op (op_catK K) (pe_tup (pa_cons pe_bl pa_nil)) (pe_slice (sl_tupK K) (pv 10) (po_some pe_int) po_none)) (pa_cons pe_non (pa_cons pe_int (pa_cons pe_dnewK (pa_cons pe_str pa_nil)))))))))))
      (pss_cons (ps_set (i := 15) sc_law.nd rfl (Or.inr rfl) (pe_ex fun i : Ix => pe_cal (c_law_any i) hr (by decide) rfl pass0 (pa_cons (pv 1) (pa_cons (pe_op op_cat (pv 3) (pe_lst (pa_cons (pe_ex fun i : Ix => pe_cal (c_law_deep i) hr (by decide) rfl pass0 (pa_cons (pv 1) pa_nil)) pa_nil))) pa_nil))))
      (pss_cons (ps_set (i := 4) sc_law.nd rfl (Or.inl rfl) (pe_lst (pa_cons (LamX.pe_lamcall3 (k := 9) (q := qL) LD (by rfl) (by rfl) (word_gives B ER) TB rfl (hr.mono (by decide)) (LamX.lamS_by (by kernel_rfl)) rfl (fun _ _ _ _ _ => rfl) (fun A outer s H E f c2 hr => (pe_ex fun i : Ix => pe_cal (c_greatest_trap i) hr (by decide) rfl (passes_call (takes_of rfl rfl rfl rfl) fun _ _ _ _ h => h) (pa_cons (pv 13) (pa_cons (pv 14) pa_nil))))) pa_nil)))
      (pss_cons (ps_expr (pe_bm PySem.F.plainAttrs_list PySem.F.slot_list_append PySem.F.type_list_append mt_append (pv 4) (pa_cons (LamX.pe_lamcall3 (k := 9) (q := qL) LD (by rfl) (by rfl) (word_gives B ER) TB rfl (hr.mono (by decide)) (LamX.lamS_by (by kernel_rfl)) rfl (fun _ _ _ _ _ => rfl) (fun A outer s H E f c2 hr => (pe_ex fun i : Ix => pe_cal (c_greatest_siphon i) hr (by decide) rfl (passes_call (takes_of rfl rfl rfl rfl) fun _ _ _ _ h => h) (pa_cons (pv 13) (pa_cons (pv 14) pa_nil))))) pa_nil)))
      (pss_cons (ps_expr (pe_bm PySem.F.plainAttrs_list PySem.F.slot_list_append PySem.F.type_list_append mt_append (pv 4) (pa_cons (LamX.pe_lamcall3 (k := 9) (q := qL) LD (by rfl) (by rfl) (word_gives B ER) TB rfl (hr.mono (by decide)) (LamX.lamS_by (by kernel_rfl)) rfl (fun _ _ _ _ _ => rfl) (fun A outer s H E f c2 hr => (pe_ex fun i : Ix => pe_cal (c_marked i) hr (by decide) rfl (passes_call (takes_of rfl rfl rfl rfl) fun _ _ _ _ h => h) (pa_cons (pv 13) (pa_cons (pv 14) (pa_cons (pv 15) pa_nil)))))) pa_nil)))
      (pss_cons (ps_expr (pe_bm PySem.F.plainAttrs_list PySem.F.slot_list_append PySem.F.type_list_append mt_append (pv 4) (pa_cons (LamX.pe_lamcall3 (k := 9) (q := qL) LD (by rfl) (by rfl) (word_gives B ER) TB rfl (hr.mono (by decide)) (LamX.lamS_by (by kernel_rfl)) rfl (fun _ _ _ _ _ => rfl) (fun A outer s H E f c2 hr => (pe_ex fun i : Ix => pe_cal (c_marked i) hr (by decide) rfl (passes_call (takes_of rfl rfl rfl rfl) fun _ _ _ _ h => h) (pa_cons (pv 13) (pa_cons (pv 14) (pa_cons (pv 10) pa_nil)))))) pa_nil)))
      (pss_cons (ps_expr (pe_bm PySem.F.plainAttrs_list PySem.F.slot_list_append PySem.F.type_list_append mt_append (pv 4) (pa_cons (LamX.pe_lamcall3 (k := 9) (q := qL) LD (by rfl) (by rfl) (word_gives B ER) TB rfl (hr.mono (by decide)) (LamX.lamS_by (by kernel_rfl)) rfl (fun _ _ _ _ _ => rfl) (fun A outer s H E f c2 hr => (pe_ex fun i : Ix => pe_cal (c_marked i) hr (by decide) rfl (passes_call (takes_of rfl rfl rfl rfl) fun _ _ _ _ h => h) (pa_cons (pv 13) (pa_cons (pv 12) (pa_cons (pv 15) pa_nil)))))) pa_nil)))
      (pss_cons (ps_expr (pe_bm PySem.F.plainAttrs_list PySem.F.slot_list_append PySem.F.type_list_append mt_append (pv 4) (pa_cons (LamX.pe_lamcall3 (k := 9) (q := qL) LD (by rfl) (by rfl) (word_gives B ER) TB rfl (hr.mono (by decide)) (LamX.lamS_by (by kernel_rfl)) rfl (fun _ _ _ _ _ => rfl) (fun A outer s H E f c2 hr => (pe_ex fun i : Ix => pe_cal (c_lively i) hr (by decide) rfl (passes_call (takes_of rfl rfl rfl rfl) fun _ _ _ _ h => h) (pa_cons (pv 13) (pa_cons (pv 15) pa_nil))))) pa_nil)))
      (pss_cons (ps_expr (pe_bm PySem.F.plainAttrs_list PySem.F.slot_list_append PySem.F.type_list_append mt_append (pv 4) (pa_cons (LamX.pe_lamcall3 (k := 9) (q := qL) LD (by rfl) (by rfl) (word_gives B ER) TB rfl (hr.mono (by decide)) (LamX.lamS_by (by kernel_rfl)) rfl (fun _ _ _ _ _ => rfl) (fun A outer s H E f c2 hr => (pe_ex fun i : Ix => pe_cal (c_is_lively i) hr (by decide) rfl (passes_call (takes_of rfl rfl rfl rfl) fun _ _ _ _ h => h) (pa_cons (pv 13) (pa_cons (pv 15) (pa_cons (pv 14) pa_nil)))))) pa_nil)))
      (pss_cons (ps_expr (pe_bm PySem.F.plainAttrs_list PySem.F.slot_list_append PySem.F.type_list_append mt_append (pv 4) (pa_cons (LamX.pe_lamcall3 (k := 9) (q := qL) LD (by rfl) (by rfl) (word_gives B ER) TB rfl (hr.mono (by decide)) (LamX.lamS_by (by kernel_rfl)) rfl (fun _ _ _ _ _ => rfl) (fun A outer s H E f c2 hr => (pe_ex fun i : Ix => pe_cal (c_dying i) hr (by decide) rfl (passes_call (takes_of rfl rfl rfl rfl) fun _ _ _ _ h => h) (pa_cons (pv 13) (pa_cons (pv 15) pa_nil))))) pa_nil)))
      (pss_cons (ps_expr (pe_bm PySem.F.plainAttrs_list PySem.F.slot_list_append PySem.F.type_list_append mt_append (pv 4) (pa_cons (LamX.pe_lamcall3 (k := 9) (q := qL) LD (by rfl) (by rfl) (word_gives B ER) TB rfl (hr.mono (by decide)) (LamX.lamS_by (by kernel_rfl)) rfl (fun _ _ _ _ _ => rfl) (fun A outer s H E f c2 hr => (pe_ex fun i : Ix => pe_cal (c_revived i) hr (by decide) rfl (passes_call (takes_of rfl rfl rfl rfl) fun _ _ _ _ h => h) (pa_cons (pv 13) (pa_cons (pv 15) pa_nil))))) pa_nil)))
      (pss_cons (ps_if (pt_cmpR (op_neK K hr.units) (pv 4) (pe_op op_cat (pe_op op_rep (pe_lst (pa_cons pe_str pa_nil)) pe_int) (pe_op op_rep (pe_lst (pa_cons pe_str pa_nil)) pe_int)) (nomark _)) (pss_one (ps_ret pe_bl)) pss_nil)
      (pss_cons (ps_set (i := 4) sc_law.nd rfl (Or.inl rfl) (pe_lst (pa_cons (LamX.pe_lamcall3 (k := 9) (q := qL) LD (by rfl) (by rfl) (word_gives B ER) TB rfl (hr.mono (by decide)) (LamX.lamS_by (by kernel_rfl)) rfl (fun _ _ _ _ _ => rfl) (fun A outer s H E f c2 hr => (pe_ex fun i : Ix => pe_cal (c_greatest_trap i) hr (by decide) rfl (passes_call (takes_of rfl rfl rfl rfl) fun _ _ _ _ h => h) (pa_cons (pv 13) (pa_cons (pv 12) pa_nil))))) pa_nil)))
      (pss_cons (ps_expr (pe_bm PySem.F.plainAttrs_list PySem.F.slot_list_append PySem.F.type_list_append mt_append (pv 4) (pa_cons (LamX.pe_lamcall3 (k := 9) (q := qL) LD (by rfl) (by rfl) (word_gives B ER) TB rfl (hr.mono (by decide)) (LamX.lamS_by (by kernel_rfl)) rfl (fun _ _ _ _ _ => rfl) (fun A outer s H E f c2 hr => (pe_ex fun i : Ix => pe_cal (c_marked i) hr (by decide) rfl (passes_call (takes_of rfl rfl rfl rfl) fun _ _ _ _ h => h) (pa_cons (pv 13) (pa_cons (pv 12) (pa_cons (pv 10) pa_nil)))))) pa_nil)))
      (pss_cons (ps_expr (pe_bm PySem.F.plainAttrs_list PySem.F.slot_list_append PySem.F.type_list_append mt_append (pv 4) (pa_cons (LamX.pe_lamcall3 (k := 9) (q := qL) LD (by rfl) (by rfl) (word_gives B ER) TB rfl (hr.mono (by decide)) (LamX.lamS_by (by kernel_rfl)) rfl (fun _ _ _ _ _ => rfl) (fun A outer s H E f c2 hr => (pe_ex fun i : Ix => pe_cal (c_dying i) hr (by decide) rfl (passes_call (takes_of rfl rfl rfl rfl) fun _ _ _ _ h => h) (pa_cons (pv 13) (pa_cons (pe_op (op_repTK K) (pe_tup (pa_cons pe_int pa_nil)) (pe_ix (ix_tupK K) (pv 11) pe_int (fun _ _ => rfl))) pa_nil))))) pa_nil)))
      (pss_cons (ps_set (i := 5) sc_law.nd rfl (Or.inl rfl) (pe_ex fun i : Ix => pe_cal (c_lively i) hr (by decide) rfl passF (pa_cons (pv 13) (pa_cons (pv 10) pa_nil))))
      (pss_cons (ps_if (PW.pt (pw_or (pt_cmpR (op_neK K hr.units) (pv 4) (pe_op op_rep (pe_lst (pa_cons pe_str pa_nil)) pe_int) (nomark _)) (pw_or (pt_cmpR op_notBl (pe_ex fun i : Ix => pe_cal (c_is_lively i) hr (by decide) rfl passF (pa_cons (pv 13) (pa_cons (pv 10) (pa_cons (pv 5) pa_nil)))) pe_bl (nomark _)) (pw_or1 (pt_not (pt_val (pe_ex fun i : Ix => pe_cal (c_law_is_lively i) hr (by decide) rfl pass0 (pa_cons (pv 11) (pa_cons (pv 10) (pa_cons (pv 5) pa_nil)))))))))) (pss_one (ps_ret pe_bl)) pss_nil)
      (pss_cons (ps_set (i := 6) sc_law.nd rfl (Or.inl rfl) (pe_ix (ix_tupK K) (pe_ex fun i : Ix => pe_cal (c_law_bare i) hr (by decide) rfl pass0 (pa_cons (pv 11) (pa_cons (pv 10) pa_nil))) pe_int (fun _ _ => rfl)))
      (pss_one (ps_for PassesOwn.never rfl (pi_range1 rfl B.range_ (pa_cons pe_int pa_nil)) (pg_name (i := 7) sc_law.nd rfl (Or.inl rfl)) (pss_cons (ps_set (i := 8) sc_law.nd rfl (Or.inl rfl) (pe_ex fun i : Ix => pe_cal (c_law_bent i) hr (by decide) rfl pass0 (pa_cons (pv 1) (pa_cons (pv 11) (pa_cons (pv 6) (pa_cons (pv 5) pa_nil))))))
      (pss_cons (ps_set (i := 9) sc_law.nd rfl (Or.inl rfl) (pe_ex fun i : Ix => pe_cal (c_is_lively i) hr (by decide) rfl passF (pa_cons (pv 13) (pa_cons (pv 10) (pa_cons (pv 8) pa_nil)))))
      (pss_one (ps_if (PW.pt (pw_or (pt_not (pt_val (pe_callB (call_isiK' K) (by rfl) B.isinstance_ b_isinstance (pa_cons (pv 9) (pa_cons (pe_bltn (v := .ty "bool") (by rfl) B.bool_ b_bool rfl) pa_nil))))) (pw_or1 (pt_cmpR op_ne (pv 9) (pe_ex fun i : Ix => pe_cal (c_law_is_lively i) hr (by decide) rfl pass0 (pa_cons (pv 11) (pa_cons (pv 10) (pa_cons (pv 8) pa_nil)))) (nomark _))))) (pss_one (ps_ret pe_bl)) pss_nil))))))))))))))))))))))))))))))
      (pss_one (ps_ret pe_bl)))), ?_⟩
  refine ⟨⟨0, 0, 0, ⟨0, []⟩⟩, _, rfl, ⟨a, ns, rfl, hs, hz, fun h ac H1 e1 hi => ?_⟩⟩
  have tab0 : TabI PP qL (fun _ => none) H1 := ⟨rfl, #[], e1 _ _ ht, True.intro, fun pos cv hc => by cases hc⟩
  refine ⟨2, rfl, by decide, by decide, ?_⟩
  refine ⟨fun i m σ' H' => m = 2 - i ∧ i ≤ 2 ∧ σ'.length = 16 ∧ σ'[1]? = some (some (.ref h)) ∧ ∃ Hd, Ex Hd H' ∧ HandI h ac Hd H' ∧ TabI PP qL Hd H', ⟨2, rfl, by decide, rfl, rfl, fun _ => none, (fun b o z => by cases z), hi, tab0⟩, ?_⟩
  rintro i m σ' H' ⟨rfl, hi2, l16, s1, Hd, ex, hh, tb⟩
  by_cases hlt : i < 2
  · refine .inr ⟨hlt, fun σ2 H2 => σ2.length = 16 ∧ σ2[1]? = some (some (.ref h)) ∧ ∃ Hd, Ex Hd H2 ∧ HandI h ac Hd H2 ∧ TabI PP qL Hd H2, fun σ2 H2 p => ⟨2 - (i + 1), by omega, rfl, hlt, p⟩, ?_⟩
    rintro v H2 ⟨eq, hv⟩
    subst eq hv
    refine name_step ?_
    have nP : ∀ x, (HW h ac).M x → (WT PP qL).M x → False := fun x m1 m2 => by
      have e1 : x = PP := m2
      obtain ⟨_, _, _, cs', ix, b, sd, ct', z1, z2, _⟩ := hh
      obtain ⟨_, ps, z3, _⟩ := tb
      rcases m1 with z | z
      · rw [← e1, z, z1] at z3
        cases z3
      · rw [← e1, z, z2] at z3
        cases z3
    have l2 : (σ'.set 2 (some (V.int (0 + (i : Int))))).length = 16 := by rw [List.length_set]; exact l16
    have s2 : (σ'.set 2 (some (V.int (0 + (i : Int)))))[1]? = some (some (.ref h)) := by rw [List.getElem?_set_ne (by decide)]; exact s1
    have so := so16 (C := Ix.C c ⟨h, ac, 0, ⟨0, []⟩⟩) (Hd := Hd) l2 s2
    refine raw_asg (W := Wl.mul (HW h ac) (WT PP qL) nP) (P := fun r => ∃ n, r = .d (netD n) ∧ NetV n ∧ 2 ≤ n.places ∧ n.places ≤ 5) (em_ex ⟨h, ac, 0, ⟨0, []⟩⟩ ?_) so ex ⟨hh, tb⟩ ?_
    · have up0 : Up (HW h ac) (Wl.mul (HW h ac) (WT PP qL) nP) := up_mul1 nP
      refine em_call (P1 := fun es => ∃ p : Nat, 2 ≤ p ∧ p ≤ 5 ∧ es = [.loc h, .d (.int (p : Int)), .d (.int 5)]) (eam_imp (eam_ed (ed_var rfl) (eam2 (P := fun d => ∃ p : Nat, 2 ≤ p ∧ p ≤ 5 ∧ d = .d (.int (p : Int))) (Q := fun d => d = .d (.int 5)) (em_op (P1 := fun d => d = .d (.int 2)) (P2 := fun d => ∃ k : Nat, k < 4 ∧ d = .d (.int (k : Int))) (em_of ed_int rfl) (fun _ _ => em_ex ⟨h, ac, 0, ⟨0, []⟩⟩ (draw_m 4 (by decide) (by decide) up0 (ea_cons (ed_var rfl) (ea_cons ed_int ea_nil)) fun d hd => ⟨d, hd, rfl⟩)) fun x y hx hy => by
        obtain ⟨k, hk, rfl⟩ := hy
        subst hx
        exact ⟨_, rv_I0, k + 2, by omega, by omega, by show Sv.d (.int (2 + (k : Int))) = _; rw [Int.add_comm]; rfl⟩) (em_of ed_int rfl))) fun ds ⟨es, ⟨a, b, ⟨p, q1, q2, e1⟩, e2, e3⟩, e4⟩ => by
          subst e1 e2 e3 e4
          exact ⟨p, q1, q2, rfl⟩) up0 fun es ⟨p, q1, q2, e⟩ => by
            subst e
            exact ⟨_, .mk p (by omega) q2, fun d ⟨n, e1, e2, e3⟩ => ⟨n, e1, e2, by omega, by omega⟩⟩
    rintro d v Hd1 H1 ⟨n, rfl, nv, p2, p5⟩ x1 ex1 n1 i1 rd so1
    refine raw_net (h := h) (ac := ac) nv rfl rfl (fun j d hj => ?_) so1 ex1 i1 (up_mul1 nP) fun look st dis hst => ?_
    · match j, hj with
      | 0, hj => cases hj
      | 1, hj => cases hj; exact .inr ⟨_, rfl⟩
      | 2, hj => cases hj
      | 3, hj => cases hj
      | 4, hj => cases hj
      | 5, hj => cases hj
      | 6, hj => cases hj
      | 7, hj => cases hj
      | 8, hj => cases hj
      | 9, hj => cases hj
      | 10, hj => cases hj
      | 11, hj => cases hj; exact .inl ⟨_, rfl⟩
      | 12, hj => cases hj
      | 13, hj => cases hj
      | 14, hj => cases hj
      | 15, hj => cases hj
      | j + 16, hj => cases hj
    have ok : NetOk n := nv.ok
    generalize hW1 : Wl.mul (Wl.mul (HW h ac) (WT PP qL) nP) (LK ⟨c, look, n⟩) dis = W1
    have upH : Up (HW h ac) W1 := by
      rw [← hW1]
      exact (up_mul1 nP).trans (up_mul1 dis)
    have upT : Up (WT PP qL) W1 := by
      rw [← hW1]
      exact (up_mul2 nP).trans (up_mul1 dis)
    have upL : Up (LK ⟨c, look, n⟩) W1 := by
      rw [← hW1]
      exact up_mul2 dis
    have fin : ∀ Hd H, W1.I Hd H → HandI h ac Hd H ∧ TabI PP qL Hd H := by
      rw [← hW1]
      exact fun Hd H i => i.1
    clear hW1 dis
    let i0 : Ix := ⟨h, ac, look, n⟩
    -- lot
    refine raw_set (P := fun d => ∃ l, d = .d (lotD l) ∧ LotP n.places l) (em_ex i0 (any_ints ((lawAllLots n.places).map lotD) (fun z => lawAll_ne nv.p1 (List.map_eq_nil_iff.mp z)) (by rw [List.length_map]; have := lawAll_le nv.p2; omega) upH (ea_cons (ed_var rfl) (ea_cons (ed_ex i0 (ed_call (ea_cons (ed_op (ed_var rfl) ed_int (rv_ixT (j := 0) rfl rfl)) ea_nil) (.mk n.places nv.p2))) ea_nil)) fun x hx => by
      obtain ⟨l, hl, rfl⟩ := List.mem_map.mp hx
      exact ⟨l, rfl, (mem_lawAll _ _).mp hl⟩)) fun d hd => ?_
    obtain ⟨l, rfl, hl⟩ := hd
    have hl10 : l.length ≤ 10 := Nat.le_trans (lotP_len hl) nv.p2
    obtain ⟨a, r, rfl⟩ : ∃ a r, l = a :: r := by
      cases l with
      | nil => exact absurd rfl hl.2
      | cons a r => exact ⟨a, r, rfl⟩
    have hnl := noLots (n := n) (a := a) hl10
    have hns := noSts p2 hst
    -- things that are no lots
    refine raw_setD (d := .d (.lst (lotThings n a (a :: r)))) (ed_lst (ds := lotThings n a (a :: r)) (ea_cons (ed_tup (ds := []) ea_nil (by show 0 ≤ 100000; decide)) (ea_cons (ed_cb (ea_cons (ed_var rfl) ea_nil) rc_listT) (ea_cons (ed_op (ed_var rfl) (ed_tup (ds := [.int (n.places : Int)]) (ea_cons (ed_op (ed_var rfl) ed_int (rv_ixT (j := 0) rfl rfl)) ea_nil) (by show 1 ≤ 100000; decide)) (rv_catA (by rw [List.length_map]; show (a :: r).length + 1 ≤ 100000; omega)))
      (ea_cons (ed_tup (ds := [.int (a : Int), .int (a : Int)]) (ea_cons (ed_op (ed_var rfl) ed_int (rv_ixT (j := 0) rfl rfl)) (ea_cons (ed_op (ed_var rfl) ed_int (rv_ixT (j := 0) rfl rfl)) ea_nil)) (by show 2 ≤ 100000; decide)) (ea_cons (ed_tup (ds := [.bl true]) (ea_cons ed_bl ea_nil) (by show 1 ≤ 100000; decide)) (ea_cons (ed_tup (ds := [.int (-1)]) (ea_cons (ed_neg ed_int) ea_nil) (by show 1 ≤ 100000; decide)) (ea_cons ed_non
      (ea_cons (ed_op (ed_var rfl) ed_int (rv_ixT (j := 0) rfl rfl)) (ea_cons ed_dnew (ea_cons (ed_tup (ds := [.str "0"]) (ea_cons ed_str ea_nil) (by show 1 ≤ 100000; decide)) (ea_cons ed_str ea_nil))))))))))) (by show 11 ≤ 100000; decide)) ?_
    refine raw_set (P := fun d => ∃ x, d = .d x ∧ NoLotD n x) (em_pick (lotThings n a (a :: r)) upH (ed_var rfl) (ed_var rfl) (by show 11 ≤ 1000; decide) hnl fun x hx => noLot_deep hx) fun d hd => ?_
    obtain ⟨xl, rfl, zl, ll⟩ := hd
    -- things that are no standings
    refine raw_setD (d := .d (.lst (stThings st))) (ed_lst (ds := stThings st) (ea_cons (ed_cb (ea_cons (ed_var rfl) ea_nil) rc_listT) (ea_cons (ed_is (ed_slT (ed_var rfl) (eo_some ed_int) eo_none) (by rw [cut_one])) (ea_cons (ed_op (ed_var rfl) (ed_tup (ds := [.int 0]) (ea_cons ed_int ea_nil) (by show 1 ≤ 100000; decide)) (rv_catA (by rw [List.length_map]; show st.length + 1 ≤ 100000; omega)))
      (ea_cons (ed_op (ed_tup (ds := [.int (-1)]) (ea_cons (ed_neg ed_int) ea_nil) (by show 1 ≤ 100000; decide)) (ed_is (ed_slT (ed_var rfl) (eo_some ed_int) eo_none) (by rw [cut_one])) (rv_catA (by rw [List.length_drop, List.length_map]; show 1 + _ ≤ 100000; omega)))
      (ea_cons (ed_op (ed_tup (ds := [.bl true]) (ea_cons ed_bl ea_nil) (by show 1 ≤ 100000; decide)) (ed_is (ed_slT (ed_var rfl) (eo_some ed_int) eo_none) (by rw [cut_one])) (rv_catA (by rw [List.length_drop, List.length_map]; show 1 + _ ≤ 100000; omega)))
      (ea_cons ed_non (ea_cons ed_int (ea_cons ed_dnew (ea_cons ed_str ea_nil))))))))) (by show 9 ≤ 100000; decide)) ?_
    refine raw_set (P := fun d => ∃ x, d = .d x ∧ isStand n x = false) (em_pick (stThings st) upH (ed_var rfl) (ed_var rfl) (by show 9 ≤ 1000; decide) hns fun x hx => noSt_deep p2 hx) fun d hd => ?_
    obtain ⟨xs, rfl, ls⟩ := hd
    -- nine words
    refine raw_lst1 (Px := fun x => x = .str "lot") (em_w (em_wordEr (.inl ⟨rfl, rfl⟩) upT (eout_ex i0 (eo_call (Up.w0 _) (ea_cons (ed_var rfl) (ea_cons (ed_var rfl) ea_nil)) (.er n xl zl ll))))) fun l9 x hx nl => ?_
    subst hx
    have nlT : ¬ (WT PP qL).M l9 := fun z => nl (upT.m _ z)
    have nlL : ¬ (LK ⟨c, look, n⟩).M l9 := fun z => nl (upL.m _ z)
    have upTw : ∀ {ws : List Da}, Up (WT PP qL) (LW W1 l9 ws) := up_lw upT nlT
    have upLw : ∀ {ws : List Da}, Up (LK ⟨c, look, n⟩) (LW W1 l9 ws) := up_lw upL nlL
    refine raw_app (Px := fun x => x = .str "lot") nl rfl (em_w (em_wordEr (.inl ⟨rfl, rfl⟩) upTw (eout_ex i0 (eo_call (Up.w0 _) (ea_cons (ed_var rfl) (ea_cons (ed_var rfl) ea_nil)) (.er n xl zl ll))))) (by show _ < 100000; decide) fun x hx => ?_
    subst hx
    refine raw_app (Px := fun x => x = .str "lot") nl rfl (em_w (em_wordEr (.inl ⟨rfl, rfl⟩) upTw (eout_ex i0 (eo_call (Up.w0 _) (ea_cons (ed_var rfl) (ea_cons (ed_var rfl) (ea_cons (ed_var rfl) ea_nil))) (.el n xl xs zl ll))))) (by show _ < 100000; decide) fun x hx => ?_
    subst hx
    refine raw_app (Px := fun x => x = .str "lot") nl rfl (em_w (em_wordEr (.inl ⟨rfl, rfl⟩) upTw (eout_ex i0 (eo_call (Up.w0 _) (ea_cons (ed_var rfl) (ea_cons (ed_var rfl) (ea_cons (ed_var rfl) ea_nil))) (.el n xl (lotD st) zl ll))))) (by show _ < 100000; decide) fun x hx => ?_
    subst hx
    refine raw_app (Px := fun x => x = .str "standing") nl rfl (em_w (em_wordEr (.inr ⟨rfl, rfl⟩) upTw (eout_ex i0 (eo_call (Up.w0 _) (ea_cons (ed_var rfl) (ea_cons (ed_var rfl) (ea_cons (ed_var rfl) ea_nil))) (.es n (lotD (a :: r)) xs ok (szT_lot nv.p2 hl) (lotIn_of hl) ls))))) (by show _ < 100000; decide) fun x hx => ?_
    subst hx
    refine raw_app (Px := fun x => x = .str "standing") nl rfl (em_w (em_wordEr (.inr ⟨rfl, rfl⟩) upTw (eout_ex i0 (eo_call upLw (ea_cons (ed_var rfl) (ea_cons (ed_var rfl) ea_nil)) (.er n xs ok ls))))) (by show _ < 100000; decide) fun x hx => ?_
    subst hx
    refine raw_app (Px := fun x => x = .str "standing") nl rfl (em_w (em_wordEr (.inr ⟨rfl, rfl⟩) upTw (eout_ex i0 (eo_call upLw (ea_cons (ed_var rfl) (ea_cons (ed_var rfl) (ea_cons (ed_var rfl) ea_nil))) (.er n xs xl ok ls))))) (by show _ < 100000; decide) fun x hx => ?_
    subst hx
    refine raw_app (Px := fun x => x = .str "standing") nl rfl (em_w (em_wordEr (.inr ⟨rfl, rfl⟩) upTw (eout_ex i0 (eo_call (Up.w0 _) (ea_cons (ed_var rfl) (ea_cons (ed_var rfl) ea_nil)) (.er n xs ok ls))))) (by show _ < 100000; decide) fun x hx => ?_
    subst hx
    refine raw_app (Px := fun x => x = .str "standing") nl rfl (em_w (em_wordEr (.inr ⟨rfl, rfl⟩) upTw (eout_ex i0 (eo_call (Up.w0 _) (ea_cons (ed_var rfl) (ea_cons (ed_var rfl) ea_nil)) (.er n xs ok ls))))) (by show _ < 100000; decide) fun x hx => ?_
    subst hx
    refine raw_data (j := 4) nl rfl ?_
    refine raw_if (etm_of (et_test (ed_op (x := .d (.lst ((["lot", "lot", "lot", "lot", "standing", "standing", "standing", "standing", "standing"] : List Str).map Da.str))) (y := .d (.lst ((["lot", "lot", "lot", "lot", "standing", "standing", "standing", "standing", "standing"] : List Str).map Da.str))) (ed_var rfl) (ed_is (ed_op (ed_op (ed_lst (ds := [.str "lot"]) (ea_cons ed_str ea_nil) (by show 1 ≤ 100000; decide)) ed_int (rv_repL (k := 4) (by decide) (by show 1 ≤ 100; decide))) (ed_op (ed_lst (ds := [.str "standing"]) (ea_cons ed_str ea_nil) (by show 1 ≤ 100000; decide)) ed_int (rv_repL (k := 5) (by decide) (by show 1 ≤ 100; decide))) (rv_catL (by decide))) rfl) (rv_neSame (by decide +kernel))))) ?_
    -- three words
    refine raw_lst1 (Px := fun x => x = .str "let") (em_w (em_wordLet upT (eout_ex i0 (eo_call (Up.w0 _) (ea_cons (ed_var rfl) (ea_cons (ed_var rfl) ea_nil)) (.ok n (a :: r) ok hl))))) fun l3 x hx nl2 => ?_
    subst hx
    have upTw2 : ∀ {ws : List Da}, Up (WT PP qL) (LW W1 l3 ws) := up_lw upT fun z => nl2 (upT.m _ z)
    refine raw_app (Px := fun x => x = .str "let") nl2 rfl (em_w (em_wordLet upTw2 (eout_ex i0 (eo_call (Up.w0 _) (ea_cons (ed_var rfl) (ea_cons (ed_var rfl) (ea_cons (ed_var rfl) ea_nil))) (.ok n (a :: r) st ok hl hst))))) (by show _ < 100000; decide) fun x hx => ?_
    subst hx
    refine raw_app (Px := fun x => x = .str "let") nl2 rfl (em_w (em_wordLet upTw2 (eout_ex i0 (eo_call (Up.w0 _) (ea_cons (ed_var rfl) (ea_cons (ed_is (ed_op (ed_tup (ds := [.int 0]) (ea_cons ed_int ea_nil) (by show 1 ≤ 100000; decide)) (ed_op (ed_var rfl) ed_int (rv_ixT (j := 0) rfl rfl)) (rv_repT (by simp) p2 (by omega) (by show 1 ≤ 1000; decide))) (congrArg Sv.d (zeros_rep n.places))) ea_nil)) (.ok n ok nv.d1))))) (by show _ < 100000; decide) fun x hx => ?_
    subst hx
    refine raw_data (j := 4) nl2 rfl ?_
    refine raw_set (P := fun d => d = .d (livingD n st)) (em_ex i0 (em_callX upL (ea_cons (ed_var rfl) (ea_cons (ed_var rfl) ea_nil)) (.ok n st ok hst))) fun d hd => ?_
    subst hd
    have sml := living_smA p5 st
    refine raw_if (etm_orF (etm_of (et_test (ed_op (x := .d (.lst ((["let", "let", "let"] : List Str).map Da.str))) (y := .d (.lst ((["let", "let", "let"] : List Str).map Da.str))) (ed_var rfl) (ed_is (ed_op (ed_lst (ds := [.str "let"]) (ea_cons ed_str ea_nil) (by show 1 ≤ 100000; decide)) ed_int (rv_repL (k := 3) (by decide) (by show 1 ≤ 100; decide))) rfl) (rv_neSame (by decide +kernel)))))
      (etm_orF (etm_test (em_op (P1 := fun d => d = .d (.bl true)) (P2 := fun d => d = .d (.bl true)) (em_ex i0 (em_imp (em_callX upL (ea_cons (ed_var rfl) (ea_cons (ed_var rfl) (ea_cons (ed_var rfl) ea_nil))) (.ok n st (livingD n st) ok hst (sml 4))) fun d e => by rw [e, livelyB_living])) (fun _ _ => em_of ed_bl rfl) fun x y hx hy => by
        subst hx hy
        exact ⟨_, rv_notB, false, rfl, rfl⟩))
      (etm_notT (etm_B (em_of (ed_ex i0 (ed_call (ea_cons (ed_var rfl) (ea_cons (ed_var rfl) (ea_cons (ed_var rfl) ea_nil))) (.mk n st (livingD n st) ok hst (sml 4)))) ⟨true, by rw [livelyB_living], rfl⟩))))) ?_
    refine raw_setD (ed_op (ed_ex i0 (ed_call (ea_cons (ed_var rfl) (ea_cons (ed_var rfl) ea_nil)) (.mk n st ok hst))) ed_int (rv_ixT (j := 0) rfl rfl)) ?_
    obtain ⟨w9, ys, ely, an⟩ := living_ans p5 st
    rw [ely]
    let Le : Option Sv → Option Sv → Option Sv → En := fun x7 x8 x9 => [none, some (.loc h), none, some (.d (.lst (stThings st))), some (.d (.lst [.str "let", .str "let", .str "let"])), some (.d (.tup [.str w9, .tup ys])), some (.d (lotsT (lawSiphons n))), x7, x8, x9, some (.d (lotD st)), some (.d (netD n)), some (.d (lotD (a :: r))), some (.net n), some (.d xl), some (.d xs)]
    refine raw_last (Pn := fun W' e' => W' = W1 ∧ ∃ x7 x8 x9, e' = Le x7 x8 x9) (snm_for (α := Nat) (enc := fun (i : Nat) => Da.int (i : Int)) (P0 := fun as => as = List.range 6) (fun _ W' e' => W' = W1 ∧ ∃ x7 x8 x9, e' = Le x7 x8 x9) (fun i W' e h => by rw [h.1]) (fun as _ => ⟨rfl, none, none, none, rfl⟩) (srcM_of (src_rng (n := 6) (ea_cons ed_int ea_nil) (by decide)) ⟨List.range 6, rfl, rfl⟩) (fun as has i x W' e hx ⟨e1, x7, x8, x9, e2⟩ => ?_) fun as has W' e h => h) fun W' e' σ H Hd ⟨e1, x7, x8, x9, e2⟩ s ex iw => ?_
    · subst e1 e2
      refine ⟨_, _, gd_name, ?_⟩
      refine snm_seq (Pm := fun W2 e2 => W2 = W' ∧ ∃ d, e2 = Le (some (.d (.int (x : Int)))) (some (.d d)) x9 ∧ smA d) (snm_asg (P := fun r => ∃ d, r = .d d ∧ smA d) (em_ex i0 (em_call (P1 := fun es => es = [.loc h, .d (netD n), .d (lotsT (lawSiphons n)), .d (.tup [.str w9, .tup ys])]) (eam_of (ea_cons (ed_var rfl) (ea_cons (ed_var rfl) (ea_cons (ed_var rfl) (ea_cons (ed_var rfl) ea_nil)))) rfl) upH fun es e => by
        subst e
        exact ⟨_, .mk n (lawSiphons n) w9 ys ok nv.p1 (siph_le p5) (fun l hl => Nat.le_trans (lotP_len (siph_mem hl)) nv.p2) an, fun d q => q⟩)) fun d ⟨y, e, sy⟩ => ⟨rfl, y, by rw [e]; rfl, sy⟩) (fun W2 e2 ⟨e, _⟩ => by rw [e]) fun W2 e2 ⟨e1, d, e2, sd⟩ => ?_
      subst e1 e2
      refine snm_seq (Pm := fun W3 e3 => W3 = W2 ∧ e3 = Le (some (.d (.int (x : Int)))) (some (.d d)) (some (.d (.bl (livelyB n st d))))) (snm_asg (P := fun r => r = .d (.bl (livelyB n st d))) (em_ex i0 (em_callX upL (ea_cons (ed_var rfl) (ea_cons (ed_var rfl) (ea_cons (ed_var rfl) ea_nil))) (.ok n st d ok hst (sd 4)))) fun r e => ⟨rfl, by rw [e]; rfl⟩) (fun W3 e3 ⟨e, _⟩ => by rw [e]) fun W3 e3 ⟨e1, e2⟩ => ?_
      subst e1 e2
      exact snm_ifF (etm_orF (etm_notT (etm_B (em_of (ed_cb (ea_cons (ed_var rfl) (ea_cons ed_ty ea_nil)) rc_isB) ⟨true, rfl, rfl⟩))) (etm_test (em_of (ed_op (ed_var rfl) (ed_ex i0 (ed_call (ea_cons (ed_var rfl) (ea_cons (ed_var rfl) (ea_cons (ed_var rfl) ea_nil))) (.mk n st d ok hst (sd 4)))) rv_neB) ⟨false, by simp, rfl⟩))) ⟨rfl, _, _, _, rfl⟩
    · subst e1 e2
      obtain ⟨f1, f2⟩ := fin _ _ iw
      exact ⟨s.len, loc_at s rfl, Hd, ex, f1, f2⟩
  · refine .inl ⟨by show (2 : Int).toNat ≤ i; omega, ?_⟩
    exact k _
end
end K13

set_option Elab.async false
set_option linter.all false
set_option maxRecDepth 100000
set_option maxHeartbeats 0
/-! KT: the head: what is looked at behind the top, and the run. Printed by genhead.py. -/
namespace K13
open PySem PySem.Spec PyProof.Rows L2
abbrev Rw : PySem.W.OpenRow := PySem.W.OpenLaw.row PySem.Challenge.rw_everydeed_k13_refusals_of_siphons_and_tr
def names0 : List PySem.Str := ["__name__", "is_integer", "is_within", "is_number", "is_tuple", "is_lot", "NetError", "BadNet", "NoStanding", "TooMany", "NoLot", "MOST_PLACES", "MOST_DEEDS", "is_deed_of", "are_deeds", "are_used", "are_free", "Net", "is_standing", "check_standing"]
def names1 : List PySem.Str := ["can_do", "fired", "ready_in", "MOST_STANDINGS", "Walk", "walked", "lot_in", "check_lot", "touches", "keeps_siphon", "keeps_trap", "is_siphon", "is_trap", "trap_in", "siphon_in", "greatest_trap", "greatest_siphon", "all_lots", "least_of", "siphons_of"]
def names2 : List PySem.Str := ["is_marked", "marked", "living", "lively", "are_held", "is_doomed", "is_living", "is_lively", "back_of", "can_come", "dying", "hitting", "revived", "_law_hand", "_law_draw", "_law_any", "_law_lot", "_law_net", "_law_begin", "_law_done"]
def names3 : List PySem.Str := ["_law_runs", "_law_led", "_law_all_lots", "_law_is_siphon_of", "_law_is_trap_of", "_law_join", "_law_is_within", "_law_least", "_law_is_marked", "_law_trap_in", "_law_bare", "_law_word", "_law_deep", "_law_is_lively", "_law_is_plain", "_law_bent"]
def namesL : List PySem.Str := names0 ++ names1 ++ names2 ++ names3
def fnD (x : Str) (i : Nat) : He.DefD := ⟨(x, none), x, x, defArgs (topS i), defBody (topS i), defScope (topS i), [], []⟩
def mtD (c m q : Str) (i j : Nat) : He.DefD := ⟨(c, some m), m, q, defArgs (inClass (topS i) j), defBody (inClass (topS i) j), defScope (inClass (topS i) j), [], []⟩
def fd0 : List He.DefD := [fnD "is_integer" 1, fnD "is_within" 2, fnD "is_number" 3, fnD "is_tuple" 4, fnD "is_lot" 5, fnD "is_deed_of" 15, fnD "are_deeds" 16, fnD "are_used" 17, fnD "are_free" 18, fnD "is_standing" 20, fnD "check_standing" 21, fnD "can_do" 22]
def fd1 : List He.DefD := [fnD "ready_in" 24, fnD "walked" 28, fnD "lot_in" 30, fnD "check_lot" 31, fnD "touches" 32, fnD "keeps_siphon" 33, fnD "keeps_trap" 34, fnD "is_siphon" 35, fnD "is_trap" 36, fnD "trap_in" 37, fnD "greatest_trap" 39, fnD "greatest_siphon" 40]
def fd2 : List He.DefD := [fnD "all_lots" 41, fnD "least_of" 42, fnD "siphons_of" 43, fnD "is_marked" 44, fnD "marked" 45, fnD "living" 47, fnD "lively" 48, fnD "are_held" 49, fnD "is_doomed" 50, fnD "is_living" 51, fnD "is_lively" 52, fnD "back_of" 53]
def fd3 : List He.DefD := [fnD "can_come" 54, fnD "dying" 55, fnD "revived" 57, fnD "_law_hand" 59, fnD "_law_draw" 60, fnD "_law_any" 61, fnD "_law_lot" 62, fnD "_law_net" 63, fnD "_law_begin" 64, fnD "_law_all_lots" 68, fnD "_law_is_siphon_of" 69, fnD "_law_is_trap_of" 70]
def fd4 : List He.DefD := [fnD "_law_join" 71, fnD "_law_is_within" 72, fnD "_law_least" 73, fnD "_law_is_marked" 74, fnD "_law_trap_in" 75, fnD "_law_bare" 76, fnD "_law_word" 77, fnD "_law_deep" 78, fnD "_law_is_lively" 79, fnD "_law_is_plain" 80, fnD "_law_bent" 81, fnD "law" 82]
def fd5 : List He.DefD := [mtD "Net" "__init__" "Net.__init__" 19 0, mtD "Walk" "__init__" "Walk.__init__" 27 0, mtD "Walk" "is_over" "Walk.is_over" 27 1, mtD "Walk" "run_to" "Walk.run_to" 27 2]
def fdL : List He.DefD := fd0 ++ fd1 ++ fd2 ++ fd3 ++ fd4 ++ fd5
def fa0 : List He.Fa := [.free "len", .free "all", .free "any", .free "isinstance", .free "abs", .free "sorted", .free "min", .free "int", .free "bool", .free "str", .free "tuple", .free "list", .free "range", .free "zip", .free "enumerate", .free "ValueError", .free "super", .int "MOST_PLACES" 10, .int "MOST_DEEDS" 10, .int "MOST_STANDINGS" 2000]
def fa1 : List He.Fa := [.glo "is_integer", .glo "is_within", .glo "is_number", .glo "is_tuple", .glo "is_lot", .glo "is_deed_of", .glo "are_deeds", .glo "are_used", .glo "are_free", .glo "is_standing", .glo "check_standing", .glo "can_do", .glo "ready_in", .glo "walked", .glo "lot_in", .glo "check_lot", .glo "touches", .glo "keeps_siphon", .glo "keeps_trap", .glo "is_siphon"]
def fa2 : List He.Fa := [.glo "is_trap", .glo "trap_in", .glo "greatest_trap", .glo "greatest_siphon", .glo "all_lots", .glo "least_of", .glo "siphons_of", .glo "is_marked", .glo "marked", .glo "living", .glo "lively", .glo "are_held", .glo "is_doomed", .glo "is_living", .glo "is_lively", .glo "back_of", .glo "can_come", .glo "dying", .glo "revived", .glo "_law_hand"]
def fa3 : List He.Fa := [.glo "_law_draw", .glo "_law_any", .glo "_law_lot", .glo "_law_net", .glo "_law_begin", .glo "_law_all_lots", .glo "_law_is_siphon_of", .glo "_law_is_trap_of", .glo "_law_join", .glo "_law_is_within", .glo "_law_least", .glo "_law_is_marked", .glo "_law_trap_in", .glo "_law_bare", .glo "_law_word", .glo "_law_deep", .glo "_law_is_lively", .glo "_law_is_plain", .glo "_law_bent", .glo "law"]
def fa4 : List He.Fa := [.glo "Net", .glo "Walk", .glo "NetError", .glo "NoLot", .glo "NoStanding", .cls "Net", .cls "Walk", .mkr "Net", .mkr "Walk", .meth "Walk" "is_over", .meth "Walk" "run_to", .noat "Net" "places", .noat "Net" "deeds", .noat "Net" "looked", .noat "Walk" "net", .noat "Walk" "most", .noat "Walk" "came", .noat "Walk" "found"]
def faL : List He.Fa := fa0 ++ fa1 ++ fa2 ++ fa3 ++ fa4
/-! the own exceptions -/
def eqB {α : Type} [DecidableEq α] (a b : α) : Bool := decide (a = b)
theorem eqB_ok {α : Type} [DecidableEq α] {a b : α} (h : eqB a b = true) : a = b := of_decide_eq_true h
def clsB (K : PySem.W.Frag) (C : Addr) : Bool := match K.lookup C with
  | some ⟨.type t, _, .cls cd, sl⟩ => decide (t = "type") && (match cd.mro, sl.toList with
    | .ref C' :: bm, [_, _, _, _, some (.builtin n), _] => decide (C' = C) && (decide (n = "ValueError.__new__") && (!cd.hasDel && (cd.hasDict && (PySem.HandSPX.refsVE bm && eqB (PySem.W.alongIn K "__init__" bm) (some (some (.builtin "ValueError.__init__")))))))
    | _, _ => false)
  | _ => false
def cloB (K : PySem.W.Frag) (C f : Addr) (file : Str) : Bool := match K.lookup f with
  | some ⟨_, _, .func fd, _⟩ => (match fd.closure with
    | [(x, cc)] => decide (x = "__class__") && (match K.lookup cc with
      | some ⟨_, _, .cell (some (.ref C')), _⟩ => decide (C' = C)
      | _ => false)
    | _ => false) && (match fd.code with
    | .ref cda => PySem.W.codeIn K (.ref cda) fd.qualname && (match K.lookup cda with
      | some ⟨_, _, .fields vs, _⟩ => (match (vs[2]? : Option Value) with
        | some (.str fl _) => file == fl
        | _ => false)
      | _ => false)
    | _ => false) && (match fd.defaults with
    | .none => true
    | _ => false)
  | _ => false
def exB (K : PySem.W.Frag) (x : Str) : Bool := clsB K (He.ga K x) && (PySem.W.keepIn K (.ref (He.ga K x)) && (eqB (PySem.W.subIn K (.ref (He.ga K x)) (.type "BaseException")) (some true) && (eqB (PySem.W.subIn K (.ref (He.ga K x)) (.type "ValueError")) (some true) && (eqB (PySem.W.typeIn K (.ref (He.ga K x))) (some (.type "type")) &&
  (eqB (PySem.W.findIn K (.ref (He.ga K x)) "__init__") (some (some (.ref (He.ma K (He.ga K x) "__init__")))) && (eqB (PySem.W.typeIn K (.ref (He.ma K (He.ga K x) "__init__"))) (some (.type "function")) && (cloB K (He.ga K x) (He.ma K (He.ga K x) "__init__") PySem.Challenge.pw_everydeed_k13_refusals_of_siphons_and_tr.main.file &&
  eqB (PySem.W.nsIn K cStatics "thirdparty.any") (some none))))))))
def exCB (K : PySem.W.Frag) (D : Addr) : Bool := eqB (PySem.W.findIn K (.ref D) "__getattribute__") (some (some (.builtin "BaseException.__getattribute__"))) && (eqB (PySem.W.findIn K (.ref D) "__getattr__") (some none) && (eqB (PySem.W.subIn K (.ref D) (.type "BaseException")) (some true) && (PySem.W.hasDictIn K D &&
  (eqB (PySem.W.findIn K (.ref D) "__class__") (some (some (.builtin "object.__class__"))) && (eqB (PySem.W.specialIn K (.builtin "object.__class__") "__get__") (some (some (.builtin "getset_descriptor.__get__"))) && (eqB (PySem.W.takesIn K (.builtin "object.__class__")) (some true) && eqB (PySem.W.mroIn K D (.type "object")) (some true)))))))
def koB (K : PySem.W.Frag) (t c : Value) (b : Bool) : Bool := eqB (PySem.W.kitOne K t c) (some b)
def erB (K : PySem.W.Frag) (ce cl cs : Addr) : Bool := exCB K cl && (exCB K cs && (eqB (PySem.W.exmOne K (.ref cl) (.ref ce)) (some true) && (eqB (PySem.W.exmOne K (.ref cs) (.ref ce)) (some true) && (koB K (.ref cl) (.ref cl) true && (koB K (.ref cl) (.ref cs) false && (koB K (.ref cs) (.ref cl) false && (koB K (.ref cs) (.ref cs) true && (koB K (.ref cl) (.type "ValueError") true && koB K (.ref cs) (.type "ValueError") true))))))))
/-- all but the closure of an exception's __init__ -/
abbrev FnE : Type := Option (Str × Str × Arguments × FuncBody × Scope × Addr × Addr)
def fnE (K : PySem.W.Frag) (p : Str × Option Str) : FnE := match K.lookup (He.fAd K p) with
  | some ⟨_, _, .func fd, _⟩ => some (fd.name, fd.qualname, fd.params, fd.body, fd.scope, fd.globals, fd.builtins)
  | _ => none
def exV (q : Str) (i : Nat) : FnE := some ("__init__", q, defArgs (inClass (topS i) 0), .stmts (defBody (inClass (topS i) 0)), defScope (inClass (topS i) 0), mainGlobals, builtinsNs)
/-! the Hook -/
/-- what is followed from an object: a namespace's values, a function's code and cells, a class's namespace and bases -/
def refsK (o : Obj) : List Addr := match o.data with
  | .dict es _ => es.toList.flatMap fun e => He.refV e.val
  | .func fd => He.refV fd.code ++ fd.closure.map (·.2)
  | .cls cd => cd.ns :: cd.mro.flatMap He.refV
  | _ => []
def layK (g : Addr → Option Obj) (as : List Addr) : List Addr := as.flatMap fun a => match g a with
  | some o => refsK o
  | none => []
/-- lists with all said -/
def frL {α : Type} : List Addr → (List Addr → α) → α
  | [], k => k []
  | a :: r, k => HandSHeadRun.frNat a fun a => frL r fun r => k (a :: r)
theorem frL_eq {α : Type} : ∀ (l : List Addr) (k : List Addr → α), frL l k = k l
  | [], _ => rfl
  | a :: r, k => by
    show HandSHeadRun.frNat a (fun a => frL r fun r => k (a :: r)) = _
    rw [HandSHeadRun.frNat_eq, frL_eq r]
def frK {α : Type} : PySem.W.Frag → (PySem.W.Frag → α) → α
  | [], k => k []
  | (a, o) :: r, k => frK r fun r => k ((a, o) :: r)
theorem frK_eq {α : Type} : ∀ (l : PySem.W.Frag) (k : PySem.W.Frag → α), frK l k = k l
  | [], _ => rfl
  | (a, o) :: r, k => by
    show frK r (fun r => k ((a, o) :: r)) = _
    rw [frK_eq r]
def adrK (g : Addr → Option Obj) : List Addr := frL (layK g [mainGlobals]) fun l1 => frL (layK g l1) fun l2 => frL (layK g l2) fun l3 => frL (layK g l3) fun l4 => mainGlobals :: cStatics :: (l1 ++ (l2 ++ (l3 ++ l4)))
def Kof (g : Addr → Option Obj) : PySem.W.Frag := He.frT g (adrK g)
def moreB (K : PySem.W.Frag) : Bool := exB K "NoLot" && (exB K "NoStanding" && erB K (He.ga K "NetError") (He.ga K "NoLot") (He.ga K "NoStanding"))
def tfL : List He.Defn := [("law", none)]
abbrev AlK : Type := (He.AlD × (FnE × FnE)) × Bool
def obsKK (g : Addr → Option Obj) (K : PySem.W.Frag) : AlK := ((He.obsD faL fdL K, (fnE K ("NoLot", some "__init__"), fnE K ("NoStanding", some "__init__"))), moreB K && He.tabsB g tfL K)
def obsK (g : Addr → Option Obj) : AlK := obsKK g (Kof g)
def obsF (g : Addr → Option Obj) : AlK := frL (adrK g) fun as => frK (He.frT g as) fun K => obsKK g K
theorem obsF_eq (g : Addr → Option Obj) : obsF g = obsK g := by
  unfold obsF obsK Kof
  rw [frL_eq, frK_eq]
def valK : AlK := ((He.valD fdL, (exV "NoLot.__init__" 11, exV "NoStanding.__init__" 9)), true)
structure SaysK (h : Heap) (K : PySem.W.Frag) : Prop where
  d : He.SaysD faL fdL K
  el : fnE K ("NoLot", some "__init__") = exV "NoLot.__init__" 11
  es : fnE K ("NoStanding", some "__init__") = exV "NoStanding.__init__" 9
  more : moreB K = true
  hd : ∀ p ∈ tfL, PySem.W.codeHdIn K (He.cT K p).1 (He.cT K p).2 = true
  out : ∀ p ∈ tfL, K.lookup (He.cT K p).2 = none
  empty : ∀ p ∈ tfL, h.get? (He.cT K p).2 = some { cls := .none, data := .fields #[] }
theorem Kof_in {h : Heap} : (Kof h.get?).In h := He.frT_in
theorem saysK_of {h : Heap} (e : obsK h.get? = valK) : SaysK h (Kof h.get?) := by
  have e1 : He.obsD faL fdL (Kof h.get?) = He.valD fdL := congrArg (fun z : AlK => z.1.1) e
  have e2 : fnE (Kof h.get?) ("NoLot", some "__init__") = _ := congrArg (fun z : AlK => z.1.2.1) e
  have e3 : fnE (Kof h.get?) ("NoStanding", some "__init__") = _ := congrArg (fun z : AlK => z.1.2.2) e
  have e4 : (moreB (Kof h.get?) && He.tabsB h.get? tfL (Kof h.get?)) = true := congrArg (fun z : AlK => z.2) e
  obtain ⟨h1, h2⟩ := He.ba e4
  have key : ∀ p ∈ tfL, PySem.W.codeHdIn (Kof h.get?) (He.cT (Kof h.get?) p).1 (He.cT (Kof h.get?) p).2 = true ∧ ∃ o, h.get? (He.cT (Kof h.get?) p).2 = some o ∧ He.emptyTab o = true := fun p hp => by
    obtain ⟨h3, h4⟩ := He.ba (List.all_eq_true.mp h2 p hp)
    refine ⟨h3, ?_⟩
    cases q : h.get? (He.cT (Kof h.get?) p).2 with
    | none =>
      rw [q] at h4
      cases h4
    | some o =>
      rw [q] at h4
      exact ⟨o, rfl, h4⟩
  exact ⟨e1, e2, e3, h1, fun p hp => (key p hp).1, fun p hp => by
    obtain ⟨_, o, q, z⟩ := key p hp
    exact He.frT_none q z, fun p hp => by
    obtain ⟨_, o, q, z⟩ := key p hp
    rw [q, He.emptyTab_eq z]⟩
def hk : PySem.W.Hook where
  α := AlK
  obs := fun s => obsK s.heap.get?
  val := fun _ => valK
  says := fun _ h => ∃ K : PySem.W.Frag, K.In h ∧ SaysK h K
  of := fun _ _ e => ⟨_, Kof_in, saysK_of e⟩
  keeps := fun _ _ _ ⟨K, hK, c⟩ k => ⟨K, PySem.W.Frag.In.keeps hK k, ⟨c.d, c.el, c.es, c.more, c.hd, c.out, fun p hp => k _ _ (c.empty p hp)⟩⟩
def ob (s : PySem.W.SharedT) : AlK := obsF (HandSHeadRun.getT s)
theorem ob_eq (s : PySem.W.SharedT) : ob s = hk.obs s.abs := by
  have e : HandSHeadRun.getT s = s.abs.heap.get? := funext (HandSHeadRun.getT_eq s)
  show obsF (HandSHeadRun.getT s) = obsK s.abs.heap.get?
  rw [e, obsF_eq]
theorem run (w : World) : HandSHeadRun.RunEq Rw (PySem.W.view Rw.prog [82]) hk ob 4200 namesL w := by
  intro os
  kernel_rfl
end K13

set_option Elab.async false
set_option linter.all false
set_option maxRecDepth 100000
set_option maxHeartbeats 4000000
/-! KU: the facts behind the head; each def's promise out of those below it. Printed by genfacts.py. -/
namespace K13
open PySem PySem.Spec PyProof.Rows L2
theorem fun_of {K : PySem.W.Frag} {x q : Str} {st : Stmt} {f : Addr} {fd : FuncData} (F : FunD K x q (defArgs st) (defBody st) (defScope st) [] [] f fd) : Fun K x q st f fd := by
  obtain ⟨⟨oc, od, dV, kV, doc, pm, an, cdv, ct, osl, e, lk, cd, dv, kw⟩, kp⟩ := F
  rcases dv with ⟨_, z⟩ | ⟨z, _⟩
  · subst z
    exact ⟨⟨oc, od, kV, doc, pm, an, cdv, ct, osl, e, lk, cd⟩, kp⟩
  · exact absurd rfl z
abbrev PG : Program := PySem.Challenge.rw_everydeed_k13_refusals_of_siphons_and_tr.prog
section
variable {K : PySem.W.Frag} {h : Heap} {mg : Str → Option Value}
theorem defAt_of (X : K.In h) (G : h.Ns mainGlobals mg) {x : Str} {i : Nat} (c : (He.Fa.glo x).ok K = true) (d : ∃ fd, FunD K (fnD x i).name (fnD x i).qual (fnD x i).params (fnD x i).body (fnD x i).scope ((fnD x i).dvs K) ((fnD x i).kws K) (He.fAd K (fnD x i).at_) fd) : DefAt K mg x (topS i) := by
  obtain ⟨fd, F⟩ := d
  exact ⟨He.ga K x, fd, fun_of F, He.glo_ok X G c⟩
theorem cls_of {C : Addr} (e : clsB K C = true) : ∃ nm q N bs bm sn sub ab col dd k0 k1 k2 k3 k5, K.lookup C = some (excClassObj nm q C N bs bm true sn sub ab col dd k0 k1 k2 k3 k5 "ValueError.__new__") ∧ PySem.HandSPX.refsVE bm = true ∧ PySem.W.alongIn K "__init__" bm = some (some (.builtin "ValueError.__init__")) := by
  unfold clsB at e
  split at e
  · rename_i t dd cd sl ho
    obtain ⟨e0, f0⟩ := He.ba e
    have et : t = "type" := of_decide_eq_true e0
    subst et
    clear e e0
    split at f0
    · rename_i C' bm k0 k1 k2 k3 n k5 hm hs
      obtain ⟨e1, f1⟩ := He.ba f0
      obtain ⟨e2, f2⟩ := He.ba f1
      obtain ⟨e3, f3⟩ := He.ba f2
      obtain ⟨e4, f4⟩ := He.ba f3
      obtain ⟨e5, e6⟩ := He.ba f4
      clear f0 f1 f2 f3 f4
      have ec : C' = C := of_decide_eq_true e1
      have en : n = "ValueError.__new__" := of_decide_eq_true e2
      subst ec en
      obtain ⟨nm, bs, mro, ns, qn, hd, sn, sub, ab, col, del⟩ := cd
      dsimp only at hm e3 e4
      have e3' : del = false := by simpa using e3
      subst hm e3' e4
      have hsl : sl = #[k0, k1, k2, k3, some (.builtin "ValueError.__new__"), k5] := by
        obtain ⟨l⟩ := sl
        simp only at hs
        rw [hs]
      subst hsl
      exact ⟨nm, qn, ns, bs, bm, sn, sub, ab, col, dd, k0, k1, k2, k3, k5, ho, e5, eqB_ok e6⟩
    · cases f0
  · cases e
theorem exTxt_of (X : K.In h) (G : h.Ns mainGlobals mg) {x q : Str} {i : Nat} {p1 q1 q2 q3 q4 q5 : Pos} (hx : exB K x = true) (hf : fnE K (x, some "__init__") = exV q i) (cg : (He.Fa.glo x).ok K = true) (cs : (He.Fa.free "super").ok K = true)
    (hA : defArgs (inClass (topS i) 0) = xA p1) (hB : defBody (inClass (topS i) 0) = xB q1 q2 q3 q4 q5) (hS : defScope (inClass (topS i) 0) = xS) (hM : MEq q1 q2 q3 q4) (hT : (PG.main.scope.names.lookup ("super" : Str)).isSome = false) : ExTxt PG K mg x (He.ga K x) := by
  obtain ⟨a1, hx⟩ := He.ba hx
  obtain ⟨a2, hx⟩ := He.ba hx
  obtain ⟨a3, hx⟩ := He.ba hx
  obtain ⟨a4, hx⟩ := He.ba hx
  obtain ⟨a5, hx⟩ := He.ba hx
  obtain ⟨a6, hx⟩ := He.ba hx
  obtain ⟨a7, hx⟩ := He.ba hx
  obtain ⟨a8, a9⟩ := He.ba hx
  refine ⟨He.glo_ok X G cg, cls_of a1, a2, eqB_ok a3, eqB_ok a4, eqB_ok a5, ?_, eqB_ok a9, He.free_ok X G cs, hT⟩
  have hf2 : (match K.lookup (He.ma K (He.ga K x) "__init__") with
    | some ⟨_, _, .func fd, _⟩ => some (fd.name, fd.qualname, fd.params, fd.body, fd.scope, fd.globals, fd.builtins)
    | _ => none : FnE) = exV q i := hf
  unfold exV at hf2
  rw [hA, hB, hS] at hf2
  unfold cloB at a8
  cases ho : K.lookup (He.ma K (He.ga K x) "__init__") with
  | none =>
    rw [ho] at a8
    cases a8
  | some o =>
    obtain ⟨oc, od, dt, osl⟩ := o
    rw [ho] at a8 hf2
    cases dt with
    | func fd =>
      obtain ⟨n1, n2, n3, n4, n5, n6, n7, n8, n9, n10, n11, n12, n13, n14, n15⟩ := fd
      simp only [Option.some.injEq, Prod.mk.injEq] at hf2
      obtain ⟨h1, h2, h3, h4, h5, h6, h7⟩ := hf2
      subst h1 h2 h3 h4 h5 h6 h7
      dsimp only at a8
      obtain ⟨b0, b2⟩ := He.ba a8
      obtain ⟨b1, b3⟩ := He.ba b0
      clear a8 b0
      have e8 : n8 = .none := by
        cases n8 with
        | none => rfl
        | _ => cases b2
      subst e8
      cases n7 with
      | nil => cases b1
      | cons p r =>
        obtain ⟨x', cc⟩ := p
        cases r with
        | cons _ _ => cases b1
        | nil =>
          obtain ⟨c1, c2⟩ := He.ba b1
          have ex : x' = ("__class__" : Str) := of_decide_eq_true c1
          subst ex
          split at c2
          · rename_i cl cld C' csl hcc
            have eC : C' = He.ga K x := of_decide_eq_true c2
            subst eC
            cases n13 with
            | ref cda =>
              obtain ⟨d1, d2⟩ := He.ba b3
              split at d2
              · rename_i ccl cdd vs ccs hcd
                split at d2
                · rename_i fl tf hfl
                  exact ⟨He.ma K (He.ga K x) "__init__", cc, cda, _, oc, od, n10, n11, n12, n14, osl, p1, q1, q2, q3, q4, q5, ccl, cdd, vs, ccs, fl, tf, cl, cld, csl, n9, eqB_ok a6, eqB_ok a7, ho, d1, hcd, hfl, d2, hcc, hM⟩
                · cases d2
              · cases d2
            | _ => cases b3
          · cases c2
    | _ => cases a8
theorem exC_of {D : Addr} (e : exCB K D = true) : ExcC K D := by
  obtain ⟨a1, e⟩ := He.ba e
  obtain ⟨a2, e⟩ := He.ba e
  obtain ⟨a3, e⟩ := He.ba e
  obtain ⟨a4, e⟩ := He.ba e
  obtain ⟨a5, e⟩ := He.ba e
  obtain ⟨a6, e⟩ := He.ba e
  obtain ⟨a7, a8⟩ := He.ba e
  exact ⟨eqB_ok a1, eqB_ok a2, eqB_ok a3, a4, eqB_ok a5, eqB_ok a6, eqB_ok a7, eqB_ok a8⟩
theorem errT_of {ce cl cs : Addr} (ge : mg "NetError" = some (.ref ce)) (gl : mg "NoLot" = some (.ref cl)) (gs : mg "NoStanding" = some (.ref cs)) (e : erB K ce cl cs = true) : ErrT K mg ce cl cs := by
  obtain ⟨a1, e⟩ := He.ba e
  obtain ⟨a2, e⟩ := He.ba e
  obtain ⟨a3, e⟩ := He.ba e
  obtain ⟨a4, e⟩ := He.ba e
  obtain ⟨a5, e⟩ := He.ba e
  obtain ⟨a6, e⟩ := He.ba e
  obtain ⟨a7, e⟩ := He.ba e
  obtain ⟨a8, e⟩ := He.ba e
  obtain ⟨a9, a10⟩ := He.ba e
  exact ⟨ge, gl, gs, exC_of a1, exC_of a2, eqB_ok a3, eqB_ok a4, eqB_ok a5, eqB_ok a6, eqB_ok a7, eqB_ok a8, eqB_ok a9, eqB_ok a10⟩
theorem lamDef_of {x a : Str} {N : List Str} {st : Stmt} {g : Addr} {fd : FuncData} (F : Fun K x x st g fd) (gl : mg x = some (.ref g)) (sc : FnScope N [a] (defScope st)) (n0 : N[0]? = some a) (vs : Vis (defScope st) a) (hb : BindOk x st [a]) : ∃ cdg, LamX.LamDef K mg x a N st g cdg := by
  obtain ⟨oc, od, kV, doc, pm, an, cdv, ct, osl, e, lk, cd⟩ := F.ex
  subst e
  exact ⟨cdv, gl, F.kp, ⟨oc, od, osl, kV, doc, pm, ct, an, lk, F.binds hb⟩, cd, sc, n0, vs⟩
end
section
variable {w : World} {K : PySem.W.Frag} {h base : Heap} {mg : Str → Option Value}
theorem lawF_of (X : K.In h) (G : h.Ns mainGlobals mg) (S : SaysK h K) {cc PP : Addr} (TB : LamX.TabB base mg cc PP) : ∃ (g : Addr) (cdg : Value) (fdi : FuncData), LawF PG w K mg base (He.ga K "Net") (He.ga K "NetError") (He.ga K "NoLot") (He.ga K "NoStanding") g cc PP (He.ma K (He.ga K "Net") "__init__") cdg fdi := by
  have FR : ∀ {x : Str}, (He.Fa.free x).ok K = true → mg x = none := fun c => He.free_ok X G c
  have GL : ∀ {x : Str}, (He.Fa.glo x).ok K = true → mg x = some (.ref (He.ga K x)) := fun c => He.glo_ok X G c
  have B : Bt mg := ⟨FR (S.d.fact 0 (f := .free "len") rfl), FR (S.d.fact 1 (f := .free "all") rfl), FR (S.d.fact 2 (f := .free "any") rfl), FR (S.d.fact 3 (f := .free "isinstance") rfl), FR (S.d.fact 4 (f := .free "abs") rfl), FR (S.d.fact 5 (f := .free "sorted") rfl), FR (S.d.fact 6 (f := .free "min") rfl), FR (S.d.fact 7 (f := .free "int") rfl), FR (S.d.fact 8 (f := .free "bool") rfl), FR (S.d.fact 9 (f := .free "str") rfl), FR (S.d.fact 10 (f := .free "tuple") rfl), FR (S.d.fact 11 (f := .free "list") rfl), FR (S.d.fact 12 (f := .free "range") rfl), FR (S.d.fact 13 (f := .free "zip") rfl), FR (S.d.fact 14 (f := .free "enumerate") rfl), FR (S.d.fact 15 (f := .free "ValueError") rfl)⟩
  have GS : Gs mg := ⟨He.int_ok X G (S.d.fact 17 (f := .int "MOST_PLACES" 10) rfl), He.int_ok X G (S.d.fact 18 (f := .int "MOST_DEEDS" 10) rfl)⟩
  have ZN : Cls K (He.ga K "Net") := He.cls_ok (S.d.fact 85 (f := .cls "Net") rfl)
  have nP : NoAttr K (He.ga K "Net") "places" := He.noat_ok (S.d.fact 91 (f := .noat "Net" "places") rfl)
  have nD : NoAttr K (He.ga K "Net") "deeds" := He.noat_ok (S.d.fact 92 (f := .noat "Net" "deeds") rfl)
  have nL : NoAttr K (He.ga K "Net") "looked" := He.noat_ok (S.d.fact 93 (f := .noat "Net" "looked") rfl)
  have ZW : Cls K (He.ga K "Walk") := He.cls_ok (S.d.fact 86 (f := .cls "Walk") rfl)
  have wN : NoAttr K (He.ga K "Walk") "net" := He.noat_ok (S.d.fact 94 (f := .noat "Walk" "net") rfl)
  have wM : NoAttr K (He.ga K "Walk") "most" := He.noat_ok (S.d.fact 95 (f := .noat "Walk" "most") rfl)
  have wC : NoAttr K (He.ga K "Walk") "came" := He.noat_ok (S.d.fact 96 (f := .noat "Walk" "came") rfl)
  have wF : NoAttr K (He.ga K "Walk") "found" := He.noat_ok (S.d.fact 97 (f := .noat "Walk" "found") rfl)
  have MN := He.mkr_ok (S.d.fact 87 (f := .mkr "Net") rfl)
  have MW := He.mkr_ok (S.d.fact 88 (f := .mkr "Walk") rfl)
  have MO := He.meth_ok (S.d.fact 89 (f := .meth "Walk" "is_over") rfl)
  have MR := He.meth_ok (S.d.fact 90 (f := .meth "Walk" "run_to") rfl)
  obtain ⟨m1, m2⟩ := He.ba S.more
  obtain ⟨m2, m3⟩ := He.ba m2
  have TL : ExTxt PG K mg "NoLot" (He.ga K "NoLot") := exTxt_of X G m1 S.el (S.d.fact 83 (f := .glo "NoLot") rfl) (S.d.fact 16 (f := .free "super") rfl) rfl rfl rfl (fun _ _ _ _ _ => ⟨_, rfl⟩) (by decide +kernel)
  have TS : ExTxt PG K mg "NoStanding" (He.ga K "NoStanding") := exTxt_of X G m2 S.es (S.d.fact 84 (f := .glo "NoStanding") rfl) (S.d.fact 16 (f := .free "super") rfl) rfl rfl rfl (fun _ _ _ _ _ => ⟨_, rfl⟩) (by decide +kernel)
  have ER : ErrT K mg (He.ga K "NetError") (He.ga K "NoLot") (He.ga K "NoStanding") := errT_of (GL (S.d.fact 82 (f := .glo "NetError") rfl)) (GL (S.d.fact 83 (f := .glo "NoLot") rfl)) (GL (S.d.fact 84 (f := .glo "NoStanding") rfl)) m3
  have F_is_integer : DefAt K mg "is_integer" (topS 1) := defAt_of X G (S.d.fact 20 (f := .glo "is_integer") rfl) (S.d.def_ 0 (d := fnD "is_integer" 1) rfl)
  have F_is_within : DefAt K mg "is_within" (topS 2) := defAt_of X G (S.d.fact 21 (f := .glo "is_within") rfl) (S.d.def_ 1 (d := fnD "is_within" 2) rfl)
  have F_is_number : DefAt K mg "is_number" (topS 3) := defAt_of X G (S.d.fact 22 (f := .glo "is_number") rfl) (S.d.def_ 2 (d := fnD "is_number" 3) rfl)
  have F_is_tuple : DefAt K mg "is_tuple" (topS 4) := defAt_of X G (S.d.fact 23 (f := .glo "is_tuple") rfl) (S.d.def_ 3 (d := fnD "is_tuple" 4) rfl)
  have F_is_lot : DefAt K mg "is_lot" (topS 5) := defAt_of X G (S.d.fact 24 (f := .glo "is_lot") rfl) (S.d.def_ 4 (d := fnD "is_lot" 5) rfl)
  have F_is_deed_of : DefAt K mg "is_deed_of" (topS 15) := defAt_of X G (S.d.fact 25 (f := .glo "is_deed_of") rfl) (S.d.def_ 5 (d := fnD "is_deed_of" 15) rfl)
  have F_are_deeds : DefAt K mg "are_deeds" (topS 16) := defAt_of X G (S.d.fact 26 (f := .glo "are_deeds") rfl) (S.d.def_ 6 (d := fnD "are_deeds" 16) rfl)
  have F_are_used : DefAt K mg "are_used" (topS 17) := defAt_of X G (S.d.fact 27 (f := .glo "are_used") rfl) (S.d.def_ 7 (d := fnD "are_used" 17) rfl)
  have F_are_free : DefAt K mg "are_free" (topS 18) := defAt_of X G (S.d.fact 28 (f := .glo "are_free") rfl) (S.d.def_ 8 (d := fnD "are_free" 18) rfl)
  have F_is_standing : DefAt K mg "is_standing" (topS 20) := defAt_of X G (S.d.fact 29 (f := .glo "is_standing") rfl) (S.d.def_ 9 (d := fnD "is_standing" 20) rfl)
  have F_check_standing : DefAt K mg "check_standing" (topS 21) := defAt_of X G (S.d.fact 30 (f := .glo "check_standing") rfl) (S.d.def_ 10 (d := fnD "check_standing" 21) rfl)
  have F_can_do : DefAt K mg "can_do" (topS 22) := defAt_of X G (S.d.fact 31 (f := .glo "can_do") rfl) (S.d.def_ 11 (d := fnD "can_do" 22) rfl)
  have F_ready_in : DefAt K mg "ready_in" (topS 24) := defAt_of X G (S.d.fact 32 (f := .glo "ready_in") rfl) (S.d.def_ 12 (d := fnD "ready_in" 24) rfl)
  have F_walked : DefAt K mg "walked" (topS 28) := defAt_of X G (S.d.fact 33 (f := .glo "walked") rfl) (S.d.def_ 13 (d := fnD "walked" 28) rfl)
  have F_lot_in : DefAt K mg "lot_in" (topS 30) := defAt_of X G (S.d.fact 34 (f := .glo "lot_in") rfl) (S.d.def_ 14 (d := fnD "lot_in" 30) rfl)
  have F_check_lot : DefAt K mg "check_lot" (topS 31) := defAt_of X G (S.d.fact 35 (f := .glo "check_lot") rfl) (S.d.def_ 15 (d := fnD "check_lot" 31) rfl)
  have F_touches : DefAt K mg "touches" (topS 32) := defAt_of X G (S.d.fact 36 (f := .glo "touches") rfl) (S.d.def_ 16 (d := fnD "touches" 32) rfl)
  have F_keeps_siphon : DefAt K mg "keeps_siphon" (topS 33) := defAt_of X G (S.d.fact 37 (f := .glo "keeps_siphon") rfl) (S.d.def_ 17 (d := fnD "keeps_siphon" 33) rfl)
  have F_keeps_trap : DefAt K mg "keeps_trap" (topS 34) := defAt_of X G (S.d.fact 38 (f := .glo "keeps_trap") rfl) (S.d.def_ 18 (d := fnD "keeps_trap" 34) rfl)
  have F_is_siphon : DefAt K mg "is_siphon" (topS 35) := defAt_of X G (S.d.fact 39 (f := .glo "is_siphon") rfl) (S.d.def_ 19 (d := fnD "is_siphon" 35) rfl)
  have F_is_trap : DefAt K mg "is_trap" (topS 36) := defAt_of X G (S.d.fact 40 (f := .glo "is_trap") rfl) (S.d.def_ 20 (d := fnD "is_trap" 36) rfl)
  have F_trap_in : DefAt K mg "trap_in" (topS 37) := defAt_of X G (S.d.fact 41 (f := .glo "trap_in") rfl) (S.d.def_ 21 (d := fnD "trap_in" 37) rfl)
  have F_greatest_trap : DefAt K mg "greatest_trap" (topS 39) := defAt_of X G (S.d.fact 42 (f := .glo "greatest_trap") rfl) (S.d.def_ 22 (d := fnD "greatest_trap" 39) rfl)
  have F_greatest_siphon : DefAt K mg "greatest_siphon" (topS 40) := defAt_of X G (S.d.fact 43 (f := .glo "greatest_siphon") rfl) (S.d.def_ 23 (d := fnD "greatest_siphon" 40) rfl)
  have F_all_lots : DefAt K mg "all_lots" (topS 41) := defAt_of X G (S.d.fact 44 (f := .glo "all_lots") rfl) (S.d.def_ 24 (d := fnD "all_lots" 41) rfl)
  have F_least_of : DefAt K mg "least_of" (topS 42) := defAt_of X G (S.d.fact 45 (f := .glo "least_of") rfl) (S.d.def_ 25 (d := fnD "least_of" 42) rfl)
  have F_siphons_of : DefAt K mg "siphons_of" (topS 43) := defAt_of X G (S.d.fact 46 (f := .glo "siphons_of") rfl) (S.d.def_ 26 (d := fnD "siphons_of" 43) rfl)
  have F_is_marked : DefAt K mg "is_marked" (topS 44) := defAt_of X G (S.d.fact 47 (f := .glo "is_marked") rfl) (S.d.def_ 27 (d := fnD "is_marked" 44) rfl)
  have F_marked : DefAt K mg "marked" (topS 45) := defAt_of X G (S.d.fact 48 (f := .glo "marked") rfl) (S.d.def_ 28 (d := fnD "marked" 45) rfl)
  have F_living : DefAt K mg "living" (topS 47) := defAt_of X G (S.d.fact 49 (f := .glo "living") rfl) (S.d.def_ 29 (d := fnD "living" 47) rfl)
  have F_lively : DefAt K mg "lively" (topS 48) := defAt_of X G (S.d.fact 50 (f := .glo "lively") rfl) (S.d.def_ 30 (d := fnD "lively" 48) rfl)
  have F_are_held : DefAt K mg "are_held" (topS 49) := defAt_of X G (S.d.fact 51 (f := .glo "are_held") rfl) (S.d.def_ 31 (d := fnD "are_held" 49) rfl)
  have F_is_doomed : DefAt K mg "is_doomed" (topS 50) := defAt_of X G (S.d.fact 52 (f := .glo "is_doomed") rfl) (S.d.def_ 32 (d := fnD "is_doomed" 50) rfl)
  have F_is_living : DefAt K mg "is_living" (topS 51) := defAt_of X G (S.d.fact 53 (f := .glo "is_living") rfl) (S.d.def_ 33 (d := fnD "is_living" 51) rfl)
  have F_is_lively : DefAt K mg "is_lively" (topS 52) := defAt_of X G (S.d.fact 54 (f := .glo "is_lively") rfl) (S.d.def_ 34 (d := fnD "is_lively" 52) rfl)
  have F_back_of : DefAt K mg "back_of" (topS 53) := defAt_of X G (S.d.fact 55 (f := .glo "back_of") rfl) (S.d.def_ 35 (d := fnD "back_of" 53) rfl)
  have F_can_come : DefAt K mg "can_come" (topS 54) := defAt_of X G (S.d.fact 56 (f := .glo "can_come") rfl) (S.d.def_ 36 (d := fnD "can_come" 54) rfl)
  have F_dying : DefAt K mg "dying" (topS 55) := defAt_of X G (S.d.fact 57 (f := .glo "dying") rfl) (S.d.def_ 37 (d := fnD "dying" 55) rfl)
  have F_revived : DefAt K mg "revived" (topS 57) := defAt_of X G (S.d.fact 58 (f := .glo "revived") rfl) (S.d.def_ 38 (d := fnD "revived" 57) rfl)
  have F_law_hand : DefAt K mg "_law_hand" (topS 59) := defAt_of X G (S.d.fact 59 (f := .glo "_law_hand") rfl) (S.d.def_ 39 (d := fnD "_law_hand" 59) rfl)
  have F_law_draw : DefAt K mg "_law_draw" (topS 60) := defAt_of X G (S.d.fact 60 (f := .glo "_law_draw") rfl) (S.d.def_ 40 (d := fnD "_law_draw" 60) rfl)
  have F_law_any : DefAt K mg "_law_any" (topS 61) := defAt_of X G (S.d.fact 61 (f := .glo "_law_any") rfl) (S.d.def_ 41 (d := fnD "_law_any" 61) rfl)
  have F_law_lot : DefAt K mg "_law_lot" (topS 62) := defAt_of X G (S.d.fact 62 (f := .glo "_law_lot") rfl) (S.d.def_ 42 (d := fnD "_law_lot" 62) rfl)
  have F_law_net : DefAt K mg "_law_net" (topS 63) := defAt_of X G (S.d.fact 63 (f := .glo "_law_net") rfl) (S.d.def_ 43 (d := fnD "_law_net" 63) rfl)
  have F_law_begin : DefAt K mg "_law_begin" (topS 64) := defAt_of X G (S.d.fact 64 (f := .glo "_law_begin") rfl) (S.d.def_ 44 (d := fnD "_law_begin" 64) rfl)
  have F_law_all_lots : DefAt K mg "_law_all_lots" (topS 68) := defAt_of X G (S.d.fact 65 (f := .glo "_law_all_lots") rfl) (S.d.def_ 45 (d := fnD "_law_all_lots" 68) rfl)
  have F_law_is_siphon_of : DefAt K mg "_law_is_siphon_of" (topS 69) := defAt_of X G (S.d.fact 66 (f := .glo "_law_is_siphon_of") rfl) (S.d.def_ 46 (d := fnD "_law_is_siphon_of" 69) rfl)
  have F_law_is_trap_of : DefAt K mg "_law_is_trap_of" (topS 70) := defAt_of X G (S.d.fact 67 (f := .glo "_law_is_trap_of") rfl) (S.d.def_ 47 (d := fnD "_law_is_trap_of" 70) rfl)
  have F_law_join : DefAt K mg "_law_join" (topS 71) := defAt_of X G (S.d.fact 68 (f := .glo "_law_join") rfl) (S.d.def_ 48 (d := fnD "_law_join" 71) rfl)
  have F_law_is_within : DefAt K mg "_law_is_within" (topS 72) := defAt_of X G (S.d.fact 69 (f := .glo "_law_is_within") rfl) (S.d.def_ 49 (d := fnD "_law_is_within" 72) rfl)
  have F_law_least : DefAt K mg "_law_least" (topS 73) := defAt_of X G (S.d.fact 70 (f := .glo "_law_least") rfl) (S.d.def_ 50 (d := fnD "_law_least" 73) rfl)
  have F_law_is_marked : DefAt K mg "_law_is_marked" (topS 74) := defAt_of X G (S.d.fact 71 (f := .glo "_law_is_marked") rfl) (S.d.def_ 51 (d := fnD "_law_is_marked" 74) rfl)
  have F_law_trap_in : DefAt K mg "_law_trap_in" (topS 75) := defAt_of X G (S.d.fact 72 (f := .glo "_law_trap_in") rfl) (S.d.def_ 52 (d := fnD "_law_trap_in" 75) rfl)
  have F_law_bare : DefAt K mg "_law_bare" (topS 76) := defAt_of X G (S.d.fact 73 (f := .glo "_law_bare") rfl) (S.d.def_ 53 (d := fnD "_law_bare" 76) rfl)
  have F_law_word : DefAt K mg "_law_word" (topS 77) := defAt_of X G (S.d.fact 74 (f := .glo "_law_word") rfl) (S.d.def_ 54 (d := fnD "_law_word" 77) rfl)
  have F_law_deep : DefAt K mg "_law_deep" (topS 78) := defAt_of X G (S.d.fact 75 (f := .glo "_law_deep") rfl) (S.d.def_ 55 (d := fnD "_law_deep" 78) rfl)
  have F_law_is_lively : DefAt K mg "_law_is_lively" (topS 79) := defAt_of X G (S.d.fact 76 (f := .glo "_law_is_lively") rfl) (S.d.def_ 56 (d := fnD "_law_is_lively" 79) rfl)
  have F_law_is_plain : DefAt K mg "_law_is_plain" (topS 80) := defAt_of X G (S.d.fact 77 (f := .glo "_law_is_plain") rfl) (S.d.def_ 57 (d := fnD "_law_is_plain" 80) rfl)
  have F_law_bent : DefAt K mg "_law_bent" (topS 81) := defAt_of X G (S.d.fact 78 (f := .glo "_law_bent") rfl) (S.d.def_ 58 (d := fnD "_law_bent" 81) rfl)
  have F_law : DefAt K mg "law" (topS 82) := defAt_of X G (S.d.fact 79 (f := .glo "law") rfl) (S.d.def_ 59 (d := fnD "law" 82) rfl)
  obtain ⟨fd_Net___init__, FD_Net___init__⟩ := S.d.def_ 60 (d := mtD "Net" "__init__" "Net.__init__" 19 0) rfl
  have FF_Net___init__ : Fun K "__init__" "Net.__init__" (inClass (topS 19) 0) (He.ma K (He.ga K "Net") "__init__") fd_Net___init__ := fun_of FD_Net___init__
  obtain ⟨fd_Walk___init__, FD_Walk___init__⟩ := S.d.def_ 61 (d := mtD "Walk" "__init__" "Walk.__init__" 27 0) rfl
  have FF_Walk___init__ : Fun K "__init__" "Walk.__init__" (inClass (topS 27) 0) (He.ma K (He.ga K "Walk") "__init__") fd_Walk___init__ := fun_of FD_Walk___init__
  obtain ⟨fd_Walk_is_over, FD_Walk_is_over⟩ := S.d.def_ 62 (d := mtD "Walk" "is_over" "Walk.is_over" 27 1) rfl
  have FF_Walk_is_over : Fun K "is_over" "Walk.is_over" (inClass (topS 27) 1) (He.ma K (He.ga K "Walk") "is_over") fd_Walk_is_over := fun_of FD_Walk_is_over
  obtain ⟨fd_Walk_run_to, FD_Walk_run_to⟩ := S.d.def_ 63 (d := mtD "Walk" "run_to" "Walk.run_to" 27 2) rfl
  have FF_Walk_run_to : Fun K "run_to" "Walk.run_to" (inClass (topS 27) 2) (He.ma K (He.ga K "Walk") "run_to") fd_Walk_run_to := fun_of FD_Walk_run_to
  have all : ∀ i : Ix, (Cal PG w K mg base CX0 1 "_law_hand" (spHand K)) ∧ (Cal PG w K mg base CX0 3 "_law_net" (spM (i.C (He.ga K "Net")) (HW i.h i.ac) (pNet i.h))) ∧ (Cal PG w K mg base CX0 1 "_law_draw" (spM (i.C (He.ga K "Net")) (HW i.h i.ac) (pDraw i.h))) ∧ (Cal PG w K mg base CX0 3 "_law_begin" (spM (i.C (He.ga K "Net")) (HW i.h i.ac) (pBegin i.h))) ∧ (Cal PG w K mg base CX0 2 "_law_any" (spM (i.C (He.ga K "Net")) (HW i.h i.ac) (pAny i.h))) ∧ (Cal PG w K mg base CX0 3 "_law_deep" (spM (i.C (He.ga K "Net")) (HW i.h i.ac) (pDeep i.h))) ∧ (Cal PG w K mg base CX0 4 "_law_bent" (spM (i.C (He.ga K "Net")) (HW i.h i.ac) (pBent i.h))) ∧ (Cal PG w K mg base CX0 1 "_law_all_lots" (spD (i.C (He.ga K "Net")) pLawAll)) ∧ (Cal PG w K mg base CX0 3 "_law_bare" (spD (i.C (He.ga K "Net")) pLawBare)) ∧ (Cal PG w K mg base CX0 4 "_law_is_lively" (spD (i.C (He.ga K "Net")) pLawLively)) ∧ (Cal PG w K mg base (L2.CX PG w) 6 "greatest_trap" (spX (i.C (He.ga K "Net")) W0 (pGrT (He.ga K "NoLot")))) ∧ (Cal PG w K mg base (L2.CX PG w) 6 "greatest_siphon" (spX (i.C (He.ga K "Net")) W0 (pGrS (He.ga K "NoLot")))) ∧ (Cal PG w K mg base (L2.CX PG w) 6 "marked" (spX (i.C (He.ga K "Net")) W0 (pMrk (He.ga K "NoLot") (He.ga K "NoStanding")))) ∧ (Cal PG w K mg base (L2.CX PG w) 5 "lively" (spX (i.C (He.ga K "Net")) (LK (i.C (He.ga K "Net"))) (pLively (He.ga K "NoStanding")))) ∧ (Cal PG w K mg base (L2.CX PG w) 8 "is_lively" (spX (i.C (He.ga K "Net")) (LK (i.C (He.ga K "Net"))) (pIsLively (He.ga K "NoStanding")))) ∧ (Cal PG w K mg base (L2.CX PG w) 6 "dying" (spX (i.C (He.ga K "Net")) W0 (pDying (He.ga K "NoStanding")))) ∧ (Cal PG w K mg base (L2.CX PG w) 5 "revived" (spX (i.C (He.ga K "Net")) W0 (pRevived (He.ga K "NoStanding")))) := fun i => by
    have c_is_integer := ok_is_integer (P := PG) (w := w) (base := base) (C := i.C (He.ga K "Net")) B F_is_integer
    have c_is_within := ok_is_within (P := PG) (w := w) (base := base) (C := i.C (He.ga K "Net")) c_is_integer F_is_within
    have c_is_number := ok_is_number (P := PG) (w := w) (base := base) (C := i.C (He.ga K "Net")) c_is_integer F_is_number
    have c_is_tuple := ok_is_tuple (P := PG) (w := w) (base := base) (C := i.C (He.ga K "Net")) B F_is_tuple
    have c_is_lot := ok_is_lot (P := PG) (w := w) (base := base) (C := i.C (He.ga K "Net")) B c_is_within F_is_lot
    have c_touches := ok_touches (P := PG) (w := w) (base := base) (C := i.C (He.ga K "Net")) B F_touches
    have c_keeps_trap := ok_keeps_trap (P := PG) (w := w) (base := base) (C := i.C (He.ga K "Net")) B ZN nD c_touches F_keeps_trap
    have c_keeps_siphon := ok_keeps_siphon (P := PG) (w := w) (base := base) (C := i.C (He.ga K "Net")) B ZN nD c_touches F_keeps_siphon
    have c_trap_in := ok_trap_in (P := PG) (w := w) (base := base) (C := i.C (He.ga K "Net")) B ZN nD c_touches c_keeps_trap F_trap_in
    have c_is_deed_of := ok_is_deed_of (P := PG) (w := w) (base := base) (C := i.C (He.ga K "Net")) B c_is_tuple c_is_lot F_is_deed_of
    have c_are_deeds := ok_are_deeds (P := PG) (w := w) (base := base) (C := i.C (He.ga K "Net")) B c_is_tuple c_is_deed_of F_are_deeds
    have c_are_used := ok_are_used (P := PG) (w := w) (base := base) (C := i.C (He.ga K "Net")) B F_are_used
    have c_are_free := ok_are_free (P := PG) (w := w) (base := base) (C := i.C (He.ga K "Net")) B F_are_free
    have c_is_standing := ok_is_standing (P := PG) (w := w) (base := base) (C := i.C (He.ga K "Net")) B ZN nP c_is_tuple c_is_number F_is_standing
    have c_is_marked := ok_is_marked (P := PG) (w := w) (base := base) (C := i.C (He.ga K "Net")) B F_is_marked
    have c_can_do := ok_can_do (P := PG) (w := w) (base := base) (C := i.C (He.ga K "Net")) B ZN nD F_can_do
    have c_ready_in := ok_ready_in (P := PG) (w := w) (base := base) (C := i.C (He.ga K "Net")) B ZN nD c_can_do F_ready_in
    have c_lot_in := ok_lot_in (P := PG) (w := w) (base := base) (C := i.C (He.ga K "Net")) B ZN nP c_is_lot F_lot_in
    have c_is_siphon := ok_is_siphon (P := PG) (w := w) (base := base) (C := i.C (He.ga K "Net")) B c_lot_in c_keeps_siphon F_is_siphon
    have c_is_trap := ok_is_trap (P := PG) (w := w) (base := base) (C := i.C (He.ga K "Net")) B c_lot_in c_keeps_trap F_is_trap
    have c_all_lots := ok_all_lots (P := PG) (w := w) (base := base) (C := i.C (He.ga K "Net")) B ZN nP F_all_lots
    have c_least_of := ok_least_of (P := PG) (w := w) (base := base) (C := i.C (He.ga K "Net")) B F_least_of
    have c_law_all_lots := ok_law_all_lots (P := PG) (w := w) (base := base) (C := i.C (He.ga K "Net")) B F_law_all_lots
    have c_law_is_siphon_of := ok_law_is_siphon_of (P := PG) (w := w) (base := base) (C := i.C (He.ga K "Net")) B F_law_is_siphon_of
    have c_law_is_trap_of := ok_law_is_trap_of (P := PG) (w := w) (base := base) (C := i.C (He.ga K "Net")) B F_law_is_trap_of
    have c_law_is_within := ok_law_is_within (P := PG) (w := w) (base := base) (C := i.C (He.ga K "Net")) B F_law_is_within
    have c_law_is_marked := ok_law_is_marked (P := PG) (w := w) (base := base) (C := i.C (He.ga K "Net")) B F_law_is_marked
    have c_law_least := ok_law_least (P := PG) (w := w) (base := base) (C := i.C (He.ga K "Net")) B c_law_is_within F_law_least
    have c_law_join := ok_law_join (P := PG) (w := w) (base := base) (C := i.C (He.ga K "Net")) B F_law_join
    have c_law_trap_in := ok_law_trap_in (P := PG) (w := w) (base := base) (C := i.C (He.ga K "Net")) B c_law_all_lots c_law_is_within c_law_is_trap_of c_law_join F_law_trap_in
    have c_law_is_plain := ok_law_is_plain (P := PG) (w := w) (base := base) (C := i.C (He.ga K "Net")) B F_law_is_plain
    have c_law_bare := ok_law_bare (P := PG) (w := w) (base := base) (C := i.C (He.ga K "Net")) B c_law_all_lots c_law_least c_law_is_siphon_of c_law_is_marked c_law_trap_in F_law_bare
    have c_law_is_lively := ok_law_is_lively (P := PG) (w := w) (base := base) (C := i.C (He.ga K "Net")) B c_law_all_lots c_law_bare c_law_is_plain c_law_is_siphon_of c_law_is_trap_of c_law_is_within c_law_is_marked c_law_trap_in F_law_is_lively
    have c_law_draw := ok_law_draw (P := PG) (w := w) (base := base) (C := i.C (He.ga K "Net")) (h := i.h) (ac := i.ac) B F_law_draw
    have c_law_any := ok_law_any (P := PG) (w := w) (base := base) (C := i.C (He.ga K "Net")) (h := i.h) (ac := i.ac) B c_law_draw F_law_any
    have c_law_lot := ok_law_lot (P := PG) (w := w) (base := base) (C := i.C (He.ga K "Net")) (h := i.h) (ac := i.ac) B c_law_draw F_law_lot
    have c_law_begin := ok_law_begin (P := PG) (w := w) (base := base) (C := i.C (He.ga K "Net")) (h := i.h) (ac := i.ac) B c_law_any F_law_begin
    have c_law_deep := ok_law_deep (P := PG) (w := w) (base := base) (C := i.C (He.ga K "Net")) (h := i.h) (ac := i.ac) B c_law_draw c_law_any F_law_deep
    have c_law_bent := ok_law_bent (P := PG) (w := w) (base := base) (C := i.C (He.ga K "Net")) (h := i.h) (ac := i.ac) B c_law_draw c_law_any c_law_deep c_law_all_lots F_law_bent
    have c_law_net := ok_law_net (P := PG) (w := w) (base := base) (C := i.C (He.ga K "Net")) (h := i.h) (ac := i.ac) B c_law_draw c_law_any c_law_lot F_law_net
    have c_law_hand := ok_law_hand (P := PG) (w := w) (base := base) B F_law_hand
    have wini := ok_W_init (P := PG) (w := w) (base := base) (C := i.C (He.ga K "Net")) (c := He.ga K "Walk") B ZW wN wM wC wF c_ready_in FF_Walk___init__
    have wovr := ok_W_over (P := PG) (w := w) (base := base) (c := He.ga K "Walk") B ZW wM wF FF_Walk_is_over
    have wrun := ok_W_run (P := PG) (w := w) (base := base) (c := He.ga K "Walk") B ZW wC FF_Walk_run_to
    have TW : Wc PG w K mg base (i.C (He.ga K "Net")) (He.ga K "Walk") := ⟨ZW, GL (S.d.fact 81 (f := .glo "Walk") rfl), wF, ⟨_, _, MW, wini, FF_Walk___init__.binds (fun _ _ _ _ _ _ us hl => match us, hl with | [_, _, _, _], _ => rfl)⟩, ⟨_, _, MO, wovr, FF_Walk_is_over.binds (fun _ _ _ _ _ _ us hl => match us, hl with | [_], _ => rfl)⟩, ⟨_, _, MR, wrun, FF_Walk_run_to.binds (fun _ _ _ _ _ _ us hl => match us, hl with | [_, _], _ => rfl)⟩, He.int_ok X G (S.d.fact 19 (f := .int "MOST_STANDINGS" 2000) rfl)⟩
    have c_walked := ok_walked (P := PG) (w := w) (base := base) (C := i.C (He.ga K "Net")) TW F_walked
    have c_can_come := ok_can_come (P := PG) (w := w) (base := base) B F_can_come
    have c_back_of := ok_back_of (P := PG) (w := w) (base := base) (C := i.C (He.ga K "Net")) B c_ready_in F_back_of
    have c_check_standing := ok_check_standing (P := PG) (w := w) (base := base) (C := i.C (He.ga K "Net")) B TS c_is_standing F_check_standing
    have c_check_lot := ok_check_lot (P := PG) (w := w) (base := base) (C := i.C (He.ga K "Net")) B TL c_lot_in F_check_lot
    have c_greatest_trap := ok_greatest_trap (P := PG) (w := w) (base := base) (C := i.C (He.ga K "Net")) B c_check_lot c_trap_in F_greatest_trap
    have c_greatest_siphon := ok_greatest_siphon (P := PG) (w := w) (base := base) (C := i.C (He.ga K "Net")) B c_check_lot F_greatest_siphon
    have c_marked := ok_marked (P := PG) (w := w) (base := base) (C := i.C (He.ga K "Net")) B c_check_lot c_check_standing c_is_marked F_marked
    have c_siphons_of := ok_siphons_of (P := PG) (w := w) (base := base) (C := i.C (He.ga K "Net")) B ZN nL c_all_lots c_keeps_siphon c_least_of F_siphons_of
    have c_is_doomed := ok_is_doomed (P := PG) (w := w) (base := base) (C := i.C (He.ga K "Net")) B c_is_siphon c_is_marked c_trap_in F_is_doomed
    have c_are_held := ok_are_held (P := PG) (w := w) (base := base) (C := i.C (He.ga K "Net")) B c_siphons_of c_is_tuple c_is_siphon c_is_trap c_is_marked F_are_held
    have c_is_living := ok_is_living (P := PG) (w := w) (base := base) (C := i.C (He.ga K "Net")) B c_is_tuple c_are_held c_is_doomed F_is_living
    have c_is_lively := ok_is_lively (P := PG) (w := w) (base := base) (C := i.C (He.ga K "Net")) B c_check_standing c_is_living F_is_lively
    have c_living := ok_living (P := PG) (w := w) (base := base) (C := i.C (He.ga K "Net")) B c_siphons_of c_trap_in c_is_marked F_living
    have c_lively := ok_lively (P := PG) (w := w) (base := base) (C := i.C (He.ga K "Net")) B c_check_standing c_living F_lively
    have c_revived := ok_revived (P := PG) (w := w) (base := base) (C := i.C (He.ga K "Net")) B c_check_standing F_revived
    have c_dying := ok_dying (P := PG) (w := w) (base := base) (C := i.C (He.ga K "Net")) B ZN nD TW c_check_standing c_walked c_back_of c_can_come c_ready_in F_dying
    exact ⟨c_law_hand, c_law_net, c_law_draw, c_law_begin, c_law_any, c_law_deep, c_law_bent, c_law_all_lots, c_law_bare, c_law_is_lively, c_greatest_trap, c_greatest_siphon, c_marked, c_lively, c_is_lively, c_dying, c_revived⟩
  have netI : FnOk PG w K mg base CX0 6 (He.ma K (He.ga K "Net") "__init__") fd_Net___init__ ["self", "places", "deeds"] (spInit (He.ga K "Net")) := by
    let i : Ix := ⟨0, 0, 0, ⟨0, []⟩⟩
    have c_is_integer := ok_is_integer (P := PG) (w := w) (base := base) (C := i.C (He.ga K "Net")) B F_is_integer
    have c_is_within := ok_is_within (P := PG) (w := w) (base := base) (C := i.C (He.ga K "Net")) c_is_integer F_is_within
    have c_is_tuple := ok_is_tuple (P := PG) (w := w) (base := base) (C := i.C (He.ga K "Net")) B F_is_tuple
    have c_is_lot := ok_is_lot (P := PG) (w := w) (base := base) (C := i.C (He.ga K "Net")) B c_is_within F_is_lot
    have c_is_deed_of := ok_is_deed_of (P := PG) (w := w) (base := base) (C := i.C (He.ga K "Net")) B c_is_tuple c_is_lot F_is_deed_of
    have c_are_deeds := ok_are_deeds (P := PG) (w := w) (base := base) (C := i.C (He.ga K "Net")) B c_is_tuple c_is_deed_of F_are_deeds
    have c_are_used := ok_are_used (P := PG) (w := w) (base := base) (C := i.C (He.ga K "Net")) B F_are_used
    have c_are_free := ok_are_free (P := PG) (w := w) (base := base) (C := i.C (He.ga K "Net")) B F_are_free
    exact ok_Net_init (P := PG) (w := w) (base := base) (C := i.C (He.ga K "Net")) B GS ZN nP nD nL c_is_within c_are_deeds c_are_used c_are_free FF_Net___init__
  obtain ⟨g, fdw, FW, gW⟩ := F_law_word.ex
  obtain ⟨cdg, LD⟩ := lamDef_of FW gW sc_law_word rfl (by first | exact .inl rfl | exact .inr (.inl rfl) | exact .inr (.inr rfl)) (fun _ _ _ _ _ _ us hl => match us, hl with | [_], _ => rfl)
  exact ⟨g, cdg, fd_Net___init__, ⟨B, ER, TB, LD, GL (S.d.fact 80 (f := .glo "Net") rfl), MN, netI, FF_Net___init__.binds (fun _ _ _ _ _ _ us hl => match us, hl with | [_, _, _], _ => rfl), fun i => (all i).1, fun i => (all i).2.1, fun i => (all i).2.2.1, fun i => (all i).2.2.2.1, fun i => (all i).2.2.2.2.1, fun i => (all i).2.2.2.2.2.1, fun i => (all i).2.2.2.2.2.2.1, fun i => (all i).2.2.2.2.2.2.2.1, fun i => (all i).2.2.2.2.2.2.2.2.1, fun i => (all i).2.2.2.2.2.2.2.2.2.1, fun i => (all i).2.2.2.2.2.2.2.2.2.2.1, fun i => (all i).2.2.2.2.2.2.2.2.2.2.2.1, fun i => (all i).2.2.2.2.2.2.2.2.2.2.2.2.1, fun i => (all i).2.2.2.2.2.2.2.2.2.2.2.2.2.1, fun i => (all i).2.2.2.2.2.2.2.2.2.2.2.2.2.2.1, fun i => (all i).2.2.2.2.2.2.2.2.2.2.2.2.2.2.2.1, fun i => (all i).2.2.2.2.2.2.2.2.2.2.2.2.2.2.2.2⟩⟩
end
end K13

set_option Elab.async false
set_option linter.all false
set_option maxRecDepth 100000
set_option maxHeartbeats 4000000
/-! KEND: the end. Printed by genend.py. -/
namespace K13
open PySem PySem.Spec PyProof.Rows L2
theorem lawAt {w : World} {mg : Str → Option Value} {fa : Addr} {h : Heap} (Y : hk.says w h) (G : h.Ns mainGlobals mg) (hmg : mg ("law" : Str) = some (.ref fa)) : ∃ K : PySem.W.Frag, K.In h ∧ LamX.LawAtS PySem.Challenge.rw_everydeed_k13_refusals_of_siphons_and_tr w K CX0 12 63 "script" mg fa h := by
  obtain ⟨K, KX, S⟩ := Y
  refine ⟨K, KX, ?_⟩
  obtain ⟨fd, FD⟩ := S.d.def_ 59 (d := fnD "law" 82) rfl
  have F : Fun K "law" "law" (topS 82) (He.ga K "law") fd := fun_of FD
  have gl : mg ("law" : Str) = some (.ref (He.ga K "law")) := He.glo_ok KX G (S.d.fact 79 (f := .glo "law") rfl)
  have e := hmg.symm.trans gl
  cases e
  have bn := FunD.bindsA (ps := ["script"]) FD fun _ _ _ _ _ _ us hl => match us, hl with | [_], _ => rfl
  obtain ⟨oc, od, kV, doc, pm, an, cdv, ct, osl, e, lk, hcd⟩ := F.ex
  obtain ⟨cc, ecc⟩ := He.codeIn_ref hcd
  subst ecc
  subst e
  have ec : He.codeOf K (("law" : Str), none) = cc := He.codeOf_eq lk rfl
  have hmem : ((("law" : Str), none) : He.Defn) ∈ tfL := List.mem_cons_self
  have h1 := S.hd _ hmem
  have h2 := S.out _ hmem
  have h3 := S.empty _ hmem
  have et : He.cT K (("law" : Str), none) = (cc, He.tabOf K cc) := by
    unfold He.cT
    rw [ec]
  rw [et] at h1 h2 h3
  refine ⟨_, [(cc, He.tabOf K cc)], spLaw K (He.tabOf K cc), fun p hp => ?_, fun p hp => ?_, fun p hp => ?_, fun s v => bn s [v] rfl, fun H a ns hl _ hH hS => ⟨a, ns, rfl, hS, by omega, hH _ (List.mem_singleton.mpr rfl), fun _ => rfl⟩, fun base KB GB TB => ?_⟩
  · rw [List.mem_singleton.mp hp]
    exact h3
  · rw [List.mem_singleton.mp hp]
    exact h2
  · rw [List.mem_singleton.mp hp]
    exact PySem.W.codeHd_of_K KX h1
  · obtain ⟨g, cdg, fdi, LF⟩ := lawF_of (w := w) (base := base) KX G S (TB _ (List.mem_singleton.mpr rfl))
    exact ok_law LF lk hcd
end K13
open PySem PySem.W PySem.Calls PyProof.Rows
set_option maxRecDepth 100000 in
set_option maxHeartbeats 0 in
theorem PySem.Challenge.cw_everydeed_k13_refusals_of_siphons_and_tr_holds : PySem.Challenge.rw_everydeed_k13_refusals_of_siphons_and_tr.Holds := by
  w_on; o_law
  refine HandSHeadRun.head_any (r := OpenLaw.row PySem.Challenge.rw_everydeed_k13_refusals_of_siphons_and_tr) (q := view (OpenLaw.row PySem.Challenge.rw_everydeed_k13_refusals_of_siphons_and_tr).prog [82]) (H := K13.hk) (ob := K13.ob) (M := 4200) (loose := K13.namesL) (d := HandSHeadRun.topDef (OpenLaw.row PySem.Challenge.rw_everydeed_k13_refusals_of_siphons_and_tr).prog 82) (kwd := []) K13.ob_eq
    (by kernel_rfl) (fun s => by kernel_rfl) K13.run (by kernel_rfl) (by kernel_rfl) (by kernel_rfl) (by rfl) (by first | assumption | decide +kernel) (by decide +kernel) ⟨rfl, rfl, rfl, rfl, rfl, by decide +kernel⟩ ?hw ?hc
  case hw => w_witness2
  case hc =>
    refine LamX.walk_ofTsE (l := PySem.Challenge.rw_everydeed_k13_refusals_of_siphons_and_tr) (n := 63) (k := 12) (x := "script") (CX := fun _ => L2.CX0) rfl (by decide) (by kernel_rfl) ⟨rfl, by decide, by decide⟩ ?F (fun _ _ _ _ _ z => z)
    intro w mg fa h Y G hmg0
    have hmg : mg ("law" : PySem.Str) = some (.ref fa) := by
      have e : (HandSHeadRun.topDef (OpenLaw.row PySem.Challenge.rw_everydeed_k13_refusals_of_siphons_and_tr).prog 82).name = ("law" : PySem.Str) := by kernel_rfl
      rw [← e]
      exact hmg0
    exact K13.lawAt Y G hmg

