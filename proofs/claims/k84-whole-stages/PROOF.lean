import PyProof.Rows.All
import Wide.All
import OpenK.AllK
import Wide.FinOn
import HandS.ForMost
import HandS.Walk
import HandS.Star
import HandS.Style
import HandS.Deep
import HandS.IsInst
import HandS.Conv
import HandS.SortInts
import HandS.More
import HandS.DictComp
import KE.GoesEnum
import HandS.SetFor
import HandS.Strs
import HandS.WordsDict
import HandS.ListItems
import KE.SortData
import KE.KDictList
import HandS.DictTup
import PyProof.DictDisplay
import KE.KDictDisplayH
import KE.KDictKeyed
import KE.KeyNested
import PySem.Challenge.RW_lastholders_k84_whole_stages_and_rounds
set_option Elab.async false
set_option linter.all false
set_option maxRecDepth 10000
namespace LH

abbrev Hs := List (List Nat)
def hand (hs : Hs) (p : Nat) : List Nat := hs.getD p []
def holders (hs : Hs) (t : Nat) : List Nat := (List.range hs.length).filter fun p => (hand hs p).contains t
def sset (xs : List Nat) : List Nat := (List.range 8).filter fun t => xs.contains t
def things (hs : Hs) : List Nat := sset hs.flatten
def spare (hs : Hs) (p : Nat) : List Nat := (hand hs p).filter fun t => decide (1 < (holders hs t).length)
def meet (hs : Hs) (a b : Nat) : Bool := (hand hs a).any fun t => (hand hs b).contains t
def pairsOf (hs : Hs) : List (Nat × Nat) := (List.range hs.length).flatMap fun a => (((List.range (hs.length - (a + 1))).map (fun i => a + 1 + i)).filter fun b => meet hs a b).map fun b => (a, b)
def isEnd (hs : Hs) : Bool := (pairsOf hs).isEmpty
def together (hs : Hs) (S : List Nat) : Hs := (List.range hs.length).map fun p => (hand hs p).filter fun t => !(if S.contains p then spare hs p else []).contains t
def choices : Nat → List (List Nat)
  | 0 => [[]]
  | n + 1 => choices n ++ (choices n).map (· ++ [n])
def safe (hs : Hs) (S : List Nat) : Bool := things (together hs S) == things hs
def losers (hs e : Hs) : List Nat := (List.range hs.length).filter fun p => hand hs p != hand e p
def stepsIn (hs e : Hs) : List (Nat × Nat) := (losers hs e).flatMap fun k => (hand e k).flatMap fun t => ((holders hs t).filter (· != k)).map fun p => (p, k)

structure Valid (hs : Hs) : Prop where
  pos : 1 ≤ hs.length
  le : hs.length ≤ 4
  asc : ∀ h ∈ hs, h.Pairwise (· < ·)
  lt : ∀ h ∈ hs, ∀ t ∈ h, t < 8

theorem asc_len : ∀ {l : List Nat} {k : Nat}, l.Pairwise (· < ·) → (∀ t ∈ l, k ≤ t ∧ t < 8) → l.length + k ≤ 8 ∨ l = []
  | [], _, _, _ => .inr rfl
  | a :: l, k, h, hb => by
    have h1 := List.pairwise_cons.mp h
    have ha := hb a (by simp)
    rcases asc_len (l := l) (k := a + 1) h1.2 (fun t ht => ⟨h1.1 t ht, (hb t (List.mem_cons_of_mem _ ht)).2⟩) with z | z
    · left; simp only [List.length_cons]; omega
    · subst z; left; simp; omega
theorem asc_len8 {l : List Nat} (h : l.Pairwise (· < ·)) (hb : ∀ t ∈ l, t < 8) : l.length ≤ 8 := by
  rcases asc_len (k := 0) h (fun t ht => ⟨Nat.zero_le _, hb t ht⟩) with z | z
  · omega
  · subst z; simp
/-! ### rings -/
def freeOf (st : List (Nat × Nat)) (left : List Nat) : List Nat := left.filter fun p => !(st.any fun e => e.2 == p && left.contains e.1)
def ringF (st : List (Nat × Nat)) : Nat → List Nat → Bool
  | 0, left => !left.isEmpty
  | n + 1, left => if left.isEmpty then false else if (freeOf st left).isEmpty then true else ringF st n (left.filter fun p => !(freeOf st left).contains p)
def nodes (st : List (Nat × Nat)) : List Nat := sset (st.flatMap fun e => [e.1, e.2])
def ring (st : List (Nat × Nat)) : Bool := ringF st 8 (nodes st)
def Acyc (st : List (Nat × Nat)) : Prop := ∃ r : Nat → Nat, ∀ e ∈ st, r e.1 < r e.2

theorem mem_sset {xs : List Nat} {t : Nat} : t ∈ sset xs ↔ t < 8 ∧ t ∈ xs := by
  unfold sset
  simp [List.mem_filter]
theorem sset_asc (xs : List Nat) : (sset xs).Pairwise (· < ·) := by
  unfold sset
  exact List.Pairwise.filter _ List.pairwise_lt_range
theorem sset_len (xs : List Nat) : (sset xs).length ≤ 8 := by
  unfold sset
  exact Nat.le_trans (List.length_filter_le _ _) (by simp)
theorem mem_freeOf {st : List (Nat × Nat)} {left : List Nat} {p : Nat} : p ∈ freeOf st left ↔ p ∈ left ∧ ∀ e ∈ st, e.2 = p → e.1 ∉ left := by
  unfold freeOf
  simp only [List.mem_filter, Bool.not_eq_true', List.any_eq_false, Bool.and_eq_true, beq_iff_eq, List.contains_iff_mem, not_and]

theorem acyc_of_ringF {st : List (Nat × Nat)} : ∀ (n : Nat) (left : List Nat), ringF st n left = false → ∃ r : Nat → Nat, ∀ e ∈ st, e.1 ∈ left → e.2 ∈ left → r e.1 < r e.2
  | 0, left, h => by
    have : left = [] := by simpa [ringF] using h
    subst this
    exact ⟨fun _ => 0, fun e _ h1 => by simp at h1⟩
  | n + 1, left, h => by
    unfold ringF at h
    split at h
    · rename_i he
      have : left = [] := by simpa using he
      subst this
      exact ⟨fun _ => 0, fun e _ h1 => by simp at h1⟩
    · split at h
      · cases h
      · obtain ⟨r, hr⟩ := acyc_of_ringF n _ h
        refine ⟨fun p => if (freeOf st left).contains p then 0 else r p + 1, fun e he h1 h2 => ?_⟩
        have n2 : e.2 ∉ freeOf st left := fun z => (mem_freeOf.mp z).2 e he rfl h1
        have c2 : (freeOf st left).contains e.2 = false := by simpa using n2
        show (if (freeOf st left).contains e.1 then 0 else r e.1 + 1) < (if (freeOf st left).contains e.2 then 0 else r e.2 + 1)
        rw [c2]
        by_cases c1 : (freeOf st left).contains e.1 = true
        · rw [c1]; simp
        · have c1 : (freeOf st left).contains e.1 = false := by simpa using c1
          rw [c1]
          have q := hr e he (List.mem_filter.mpr ⟨h1, by simp [c1]; simpa using c1⟩) (List.mem_filter.mpr ⟨h2, by simp [c2]; simpa using c2⟩)
          simp
          exact q

/-- a place of least rank -/
theorem least_of (r : Nat → Nat) : ∀ (l : List Nat), l ≠ [] → ∃ p ∈ l, ∀ q ∈ l, r p ≤ r q
  | [], h => absurd rfl h
  | [a], _ => ⟨a, by simp, by simp⟩
  | a :: b :: l, _ => by
    obtain ⟨p, hp, hm⟩ := least_of r (b :: l) (by simp)
    by_cases h : r a ≤ r p
    · refine ⟨a, by simp, fun q hq => ?_⟩
      rcases List.mem_cons.mp hq with rfl | hq
      · exact Nat.le_refl _
      · exact Nat.le_trans h (hm q hq)
    · refine ⟨p, List.mem_cons_of_mem _ hp, fun q hq => ?_⟩
      rcases List.mem_cons.mp hq with rfl | hq
      · omega
      · exact hm q hq

theorem filter_shorter {α : Type} {l : List α} {f : α → Bool} {a : α} (ha : a ∈ l) (hf : f a = false) : (l.filter f).length < l.length := by
  induction l with
  | nil => simp at ha
  | cons b l ih =>
    rcases List.mem_cons.mp ha with rfl | ha
    · rw [List.filter_cons, hf]
      exact Nat.lt_succ_of_le (List.length_filter_le _ _)
    · rw [List.filter_cons]
      split
      · simp only [List.length_cons]; exact Nat.succ_lt_succ (ih ha)
      · exact Nat.lt_succ_of_lt (ih ha)

theorem free_some {st : List (Nat × Nat)} {left : List Nat} (h : Acyc st) (hl : left ≠ []) : ∃ p, p ∈ freeOf st left := by
  obtain ⟨r, hr⟩ := h
  obtain ⟨p, hp, hm⟩ := least_of r left hl
  refine ⟨p, mem_freeOf.mpr ⟨hp, fun e he h2 h1 => ?_⟩⟩
  have a := hr e he
  have b := hm _ h1
  rw [h2] at a
  omega
theorem left_shorter {st : List (Nat × Nat)} {left : List Nat} (h : ∃ p, p ∈ freeOf st left) : (left.filter fun p => !(freeOf st left).contains p).length < left.length := by
  obtain ⟨p, hp⟩ := h
  exact filter_shorter (mem_freeOf.mp hp).1 (by simpa using hp)

theorem ringF_of_acyc {st : List (Nat × Nat)} (h : Acyc st) : ∀ (n : Nat) (left : List Nat), left.length ≤ n → ringF st n left = false
  | 0, left, hl => by
    have : left = [] := List.eq_nil_of_length_eq_zero (by omega)
    subst this; rfl
  | n + 1, left, hl => by
    unfold ringF
    split
    · rfl
    · rename_i he
      have hne : left ≠ [] := by simpa using he
      have hf := free_some h hne
      split
      · rename_i hz
        obtain ⟨p, hp⟩ := hf
        have : freeOf st left = [] := by simpa using hz
        rw [this] at hp; simp at hp
      · have := left_shorter hf
        exact ringF_of_acyc h n _ (by omega)

theorem ring_iff {st : List (Nat × Nat)} (hb : ∀ e ∈ st, e.1 < 8 ∧ e.2 < 8) : ring st = false ↔ Acyc st := by
  constructor
  · intro h
    obtain ⟨r, hr⟩ := acyc_of_ringF _ _ h
    refine ⟨r, fun e he => hr e he ?_ ?_⟩
    · exact mem_sset.mpr ⟨(hb e he).1, List.mem_flatMap.mpr ⟨e, he, by simp⟩⟩
    · exact mem_sset.mpr ⟨(hb e he).2, List.mem_flatMap.mpr ⟨e, he, by simp⟩⟩
  · intro h
    exact ringF_of_acyc h _ _ (sset_len _)

/-! ### levels -/
def mx (l : List Nat) : Nat := l.foldl max 0
theorem foldl_max_ge : ∀ (l : List Nat) (a : Nat), a ≤ l.foldl max a ∧ ∀ x ∈ l, x ≤ l.foldl max a
  | [], a => by simp
  | b :: l, a => by
    obtain ⟨h1, h2⟩ := foldl_max_ge l (max a b)
    refine ⟨by simp only [List.foldl_cons]; omega, fun x hx => ?_⟩
    rcases List.mem_cons.mp hx with rfl | hx
    · simp only [List.foldl_cons]; omega
    · exact h2 x hx
theorem foldl_max_mem : ∀ (l : List Nat) (a : Nat), l.foldl max a = a ∨ l.foldl max a ∈ l
  | [], a => by simp
  | b :: l, a => by
    simp only [List.foldl_cons]
    rcases foldl_max_mem l (max a b) with h | h
    · rw [h]
      by_cases hab : a ≤ b
      · right; rw [Nat.max_eq_right hab]; simp
      · left; omega
    · right; exact List.mem_cons_of_mem _ h
theorem le_mx {l : List Nat} {x : Nat} (h : x ∈ l) : x ≤ mx l := (foldl_max_ge l 0).2 x h
theorem mx_mem {l : List Nat} (h : l ≠ []) : mx l ∈ l := by
  rcases foldl_max_mem l 0 with e | e
  · cases l with
    | nil => exact absurd rfl h
    | cons a l =>
      have : a ≤ mx (a :: l) := le_mx (by simp)
      have e' : mx (a :: l) = 0 := e
      have : a = 0 := by omega
      rw [e', this]; simp
  · exact e
theorem mx_eq {l : List Nat} {m : Nat} (h1 : m ∈ l) (h2 : ∀ x ∈ l, x ≤ m) : mx l = m := by
  have a := le_mx h1
  have b := h2 _ (mx_mem (List.ne_nil_of_mem h1))
  omega
theorem mx_map_congr {l : List Nat} {f g : Nat → Nat} (h : ∀ x ∈ l, f x = g x) : mx (l.map f) = mx (l.map g) := by
  rw [List.map_congr_left h]

def preds (st : List (Nat × Nat)) (p : Nat) : List Nat := (st.filter fun e => e.2 == p).map (·.1)
theorem mem_preds {st : List (Nat × Nat)} {p q : Nat} : q ∈ preds st p ↔ (q, p) ∈ st := by
  unfold preds
  simp only [List.mem_map, List.mem_filter, beq_iff_eq]
  constructor
  · rintro ⟨⟨a, b⟩, ⟨h1, h2⟩, h3⟩
    simp only at h2 h3
    subst h2 h3; exact h1
  · intro h
    exact ⟨(q, p), ⟨h, rfl⟩, rfl⟩
/-- the length of the longest row of steps to a person -/
def IsLev (st : List (Nat × Nat)) (L : Nat → Nat) : Prop := ∀ p, L p = if preds st p = [] then 0 else 1 + mx ((preds st p).map L)
def levF (st : List (Nat × Nat)) : Nat → Nat → Nat
  | 0, _ => 0
  | k + 1, p => if preds st p = [] then 0 else 1 + mx ((preds st p).map (levF st k))
theorem lev_exists {st : List (Nat × Nat)} (h : Acyc st) : ∃ L, IsLev st L := by
  obtain ⟨r, hr⟩ := h
  have key : ∀ n p k, r p ≤ n → r p ≤ k → levF st k p = levF st (r p) p := by
    intro n
    induction n with
    | zero =>
      intro p k h1 h2
      have e0 : preds st p = [] := by
        cases e : preds st p with
        | nil => rfl
        | cons q l =>
          have : (q, p) ∈ st := mem_preds.mp (by rw [e]; simp)
          have := hr _ this
          simp only at this
          omega
      have e1 : r p = 0 := by omega
      cases k with
      | zero => rw [e1]
      | succ k => simp only [levF, e0, if_pos, e1]
    | succ n ih =>
      intro p k h1 h2
      by_cases e0 : preds st p = []
      · have z : ∀ j, levF st j p = 0 := fun j => by
          cases j with
          | zero => rfl
          | succ j => simp only [levF, e0, if_pos]
        rw [z, z]
      · have hpos : ∃ m, r p = m + 1 := by
          cases e : preds st p with
          | nil => exact absurd e e0
          | cons q l =>
            have : (q, p) ∈ st := mem_preds.mp (by rw [e]; simp)
            have := hr _ this
            simp only at this
            exact ⟨r p - 1, by omega⟩
        obtain ⟨m, hm⟩ := hpos
        obtain ⟨k', hk⟩ : ∃ k', k = k' + 1 := ⟨k - 1, by omega⟩
        rw [hk, hm]
        simp only [levF, e0, if_neg, not_false_eq_true, if_false]
        congr 1
        refine mx_map_congr fun q hq => ?_
        have : (q, p) ∈ st := mem_preds.mp hq
        have := hr _ this
        simp only at this
        rw [ih q k' (by omega) (by omega), ih q m (by omega) (by omega)]
  refine ⟨fun p => levF st (r p) p, fun p => ?_⟩
  show levF st (r p) p = _
  rw [← key (r p) p (r p + 1) (Nat.le_refl _) (Nat.le_succ _)]
  simp only [levF]
  split
  · rfl
  · congr 1
    refine mx_map_congr fun q hq => ?_
    have : (q, p) ∈ st := mem_preds.mp hq
    have := hr _ this
    simp only at this
    exact key (r q) q (r p) (Nat.le_refl _) (by omega)
theorem IsLev.lt {st : List (Nat × Nat)} {L : Nat → Nat} (h : IsLev st L) {q p : Nat} (e : (q, p) ∈ st) : L q < L p := by
  have hq : q ∈ preds st p := mem_preds.mpr e
  rw [h p, if_neg (List.ne_nil_of_mem hq)]
  have := le_mx (l := (preds st p).map L) (List.mem_map.mpr ⟨q, hq, rfl⟩)
  omega
theorem IsLev.pred {st : List (Nat × Nat)} {L : Nat → Nat} (h : IsLev st L) {p k : Nat} (e : L p = k + 1) : ∃ q, (q, p) ∈ st ∧ L q = k := by
  rw [h p] at e
  split at e
  · omega
  · rename_i hn
    have := mx_mem (l := (preds st p).map L) (by simpa using hn)
    obtain ⟨q, hq, e2⟩ := List.mem_map.mp this
    exact ⟨q, mem_preds.mp hq, by omega⟩
theorem IsLev.le {st : List (Nat × Nat)} {L : Nat → Nat} (h : IsLev st L) {r : Nat → Nat} (hr : ∀ e ∈ st, r e.1 < r e.2) : ∀ p, L p ≤ r p := by
  have : ∀ n p, L p ≤ n → L p ≤ r p := by
    intro n
    induction n with
    | zero => intro p hp; omega
    | succ n ih =>
      intro p hp
      by_cases e : L p = 0
      · omega
      · obtain ⟨q, hq, e2⟩ := h.pred (p := p) (k := L p - 1) (by omega)
        have := ih q (by omega)
        have := hr _ hq
        simp only at this
        omega
  exact fun p => this _ p (Nat.le_refl _)
open Classical in
noncomputable def Lv (st : List (Nat × Nat)) : Nat → Nat := if h : ∃ L, IsLev st L then Classical.choose h else fun _ => 0
theorem Lv_is {st : List (Nat × Nat)} (h : Acyc st) : IsLev st (Lv st) := by
  have e := lev_exists h
  unfold Lv
  rw [dif_pos e]
  exact Classical.choose_spec e
end LH

set_option Elab.async false
set_option linter.all false
set_option maxRecDepth 10000
namespace LH

theorem hand_map {n : Nat} {f : Nat → List Nat} {p : Nat} : hand ((List.range n).map f) p = if p < n then f p else [] := by
  unfold hand
  rw [List.getD_eq_getElem?_getD, List.getElem?_map]
  by_cases h : p < n
  · rw [List.getElem?_range h]; simp [h]
  · rw [List.getElem?_eq_none (by simp; omega)]; simp [h]
theorem hand_out {hs : Hs} {p : Nat} (h : hs.length ≤ p) : hand hs p = [] := by
  unfold hand
  rw [List.getD_eq_getElem?_getD, List.getElem?_eq_none h]; rfl
theorem hand_in {hs : Hs} {p : Nat} (h : p < hs.length) : hand hs p ∈ hs := by
  unfold hand
  rw [List.getD_eq_getElem?_getD, List.getElem?_eq_getElem h]
  exact List.getElem_mem h
theorem lt_of_hand {hs : Hs} {p t : Nat} (h : t ∈ hand hs p) : p < hs.length := by
  by_cases q : p < hs.length
  · exact q
  · rw [hand_out (by omega)] at h; simp at h
theorem hs_eq (hs : Hs) : (List.range hs.length).map (hand hs) = hs := by
  apply List.ext_getElem (by simp)
  intro i h1 h2
  simp only [List.getElem_map, List.getElem_range]
  unfold hand
  rw [List.getD_eq_getElem?_getD, List.getElem?_eq_getElem h2]; rfl
theorem hs_ext {a b : Hs} (hl : a.length = b.length) (h : ∀ p, p < a.length → hand a p = hand b p) : a = b := by
  rw [← hs_eq a, ← hs_eq b, hl]
  apply List.map_congr_left
  intro p hp
  exact h p (by rw [hl]; simpa using hp)
theorem mem_hs {hs : Hs} {h : List Nat} : h ∈ hs ↔ ∃ p, p < hs.length ∧ hand hs p = h := by
  constructor
  · intro hm
    obtain ⟨p, hp, e⟩ := List.getElem_of_mem hm
    exact ⟨p, hp, by unfold hand; rw [List.getD_eq_getElem?_getD, List.getElem?_eq_getElem hp]; exact e⟩
  · rintro ⟨p, hp, rfl⟩
    exact hand_in hp
theorem mem_flat {hs : Hs} {t : Nat} : t ∈ hs.flatten ↔ ∃ p, t ∈ hand hs p := by
  rw [List.mem_flatten]
  constructor
  · rintro ⟨h, hm, ht⟩
    obtain ⟨p, _, rfl⟩ := mem_hs.mp hm
    exact ⟨p, ht⟩
  · rintro ⟨p, ht⟩
    exact ⟨_, hand_in (lt_of_hand ht), ht⟩
theorem mem_holders {hs : Hs} {t p : Nat} : p ∈ holders hs t ↔ t ∈ hand hs p := by
  unfold holders
  simp only [List.mem_filter, List.mem_range, List.contains_iff_mem]
  exact ⟨fun h => h.2, fun h => ⟨lt_of_hand h, h⟩⟩
theorem holders_nodup {hs : Hs} {t : Nat} : (holders hs t).Nodup := List.Nodup.sublist List.filter_sublist List.nodup_range
theorem mem_losers {hs e : Hs} {p : Nat} : p ∈ losers hs e ↔ p < hs.length ∧ hand hs p ≠ hand e p := by
  unfold losers
  simp
theorem losers_asc {hs e : Hs} : (losers hs e).Pairwise (· < ·) := List.Pairwise.filter _ List.pairwise_lt_range
theorem mem_stepsIn {hs e : Hs} {x : Nat × Nat} : x ∈ stepsIn hs e ↔ x.2 ∈ losers hs e ∧ x.1 ≠ x.2 ∧ ∃ t, t ∈ hand e x.2 ∧ t ∈ hand hs x.1 := by
  unfold stepsIn
  simp only [List.mem_flatMap, List.mem_map, List.mem_filter, mem_holders, bne_iff_ne]
  constructor
  · rintro ⟨k, hk, t, ht, p, ⟨hp, hne⟩, rfl⟩
    exact ⟨hk, hne, t, ht, hp⟩
  · rintro ⟨h1, h2, t, h3, h4⟩
    exact ⟨x.2, h1, t, h3, x.1, ⟨h4, h2⟩, rfl⟩
theorem sset_congr {xs ys : List Nat} (h : ∀ t, t ∈ xs ↔ t ∈ ys) : sset xs = sset ys := by
  unfold sset
  apply List.filter_congr
  intro t _
  have := h t
  by_cases a : t ∈ xs
  · simp [a, this.mp a]
  · have b : t ∉ ys := fun z => a (this.mpr z)
    simp [a, b]
theorem things_congr {a b : Hs} (h : ∀ t, (∃ p, t ∈ hand a p) ↔ ∃ p, t ∈ hand b p) : things a = things b :=
  sset_congr fun t => by rw [mem_flat, mem_flat]; exact h t
theorem mem_things {hs : Hs} (hv : Valid hs) {t : Nat} : t ∈ things hs ↔ ∃ p, t ∈ hand hs p := by
  unfold things
  rw [mem_sset, mem_flat]
  exact ⟨fun h => h.2, fun h => ⟨by
    obtain ⟨p, hp⟩ := h
    exact hv.lt _ (hand_in (lt_of_hand hp)) t hp, h⟩⟩
theorem Valid.handAsc {hs : Hs} (hv : Valid hs) (p : Nat) : (hand hs p).Pairwise (· < ·) := by
  by_cases h : p < hs.length
  · exact hv.asc _ (hand_in h)
  · rw [hand_out (by omega)]; exact List.Pairwise.nil

theorem Valid.handLt {hs : Hs} (hv : Valid hs) {p t : Nat} (h : t ∈ hand hs p) : t < 8 := hv.lt _ (hand_in (lt_of_hand h)) t h
theorem Valid.handLen {hs : Hs} (hv : Valid hs) (p : Nat) : (hand hs p).length ≤ 8 := asc_len8 (hv.handAsc p) fun t ht => hv.handLt ht
/-- e is an end that can come -/
structure Good (hs e : Hs) : Prop where
  len : e.length = hs.length
  sub : ∀ p, hand e p = (hand hs p).filter fun t => (hand e p).contains t
  keep : ∀ p t, t ∈ hand hs p → ∃ q, t ∈ hand e q
  one : ∀ p q t, t ∈ hand e p → t ∈ hand e q → p = q
  acyc : Acyc (stepsIn hs e)
section
variable {hs e : Hs}
theorem Good.mem (g : Good hs e) {p t : Nat} (h : t ∈ hand e p) : t ∈ hand hs p := by
  rw [g.sub p] at h
  exact (List.mem_filter.mp h).1
theorem Good.valid (g : Good hs e) (hv : Valid hs) : Valid e := by
  refine ⟨by rw [g.len]; exact hv.pos, by rw [g.len]; exact hv.le, fun h hm => ?_, fun h hm t ht => ?_⟩
  · obtain ⟨p, hp, rfl⟩ := mem_hs.mp hm
    rw [g.sub p]
    exact List.Pairwise.filter _ (hv.handAsc p)
  · obtain ⟨p, hp, rfl⟩ := mem_hs.mp hm
    have := g.mem ht
    exact hv.lt _ (hand_in (lt_of_hand this)) t this
theorem Good.things (g : Good hs e) : things hs = things e :=
  things_congr fun t => ⟨fun ⟨p, hp⟩ => g.keep p t hp, fun ⟨p, hp⟩ => ⟨p, g.mem hp⟩⟩
/-- who must go ahead is a loser too -/
theorem Good.step (g : Good hs e) {x : Nat × Nat} (h : x ∈ stepsIn hs e) : x.1 ∈ losers hs e ∧ x.2 ∈ losers hs e := by
  obtain ⟨h1, h2, t, h3, h4⟩ := mem_stepsIn.mp h
  refine ⟨mem_losers.mpr ⟨lt_of_hand h4, fun z => h2 (g.one _ _ t ?_ h3)⟩, h1⟩
  rw [← z]; exact h4
theorem Good.lev (g : Good hs e) : IsLev (stepsIn hs e) (Lv (stepsIn hs e)) := Lv_is g.acyc
theorem steps_lt (hv : Valid hs) (g : Good hs e) : ∀ x ∈ stepsIn hs e, x.1 < 8 ∧ x.2 < 8 := fun x hx => by
  obtain ⟨a, b⟩ := g.step hx
  have := hv.le
  have := (mem_losers.mp a).1
  have := (mem_losers.mp b).1
  omega
theorem Good.ring (g : Good hs e) (hv : Valid hs) : ring (stepsIn hs e) = false := (ring_iff (steps_lt hv g)).mpr g.acyc

/-- the people of a stage -/
noncomputable def part (hs e : Hs) (k : Nat) : List Nat := (losers hs e).filter fun p => Lv (stepsIn hs e) p == k
noncomputable def cs (hs e : Hs) : Nat := if losers hs e = [] then 0 else mx ((losers hs e).map (Lv (stepsIn hs e))) + 1
noncomputable def parts (hs e : Hs) : List (List Nat) := (List.range (cs hs e)).map (part hs e)
/-- the hands behind k stages -/
noncomputable def mid (hs e : Hs) (k : Nat) : Hs := (List.range hs.length).map fun p => if Lv (stepsIn hs e) p < k then hand e p else hand hs p

theorem mid_len {k : Nat} : (mid hs e k).length = hs.length := by simp [mid]
theorem hand_mid (g : Good hs e) {k p : Nat} : hand (mid hs e k) p = if Lv (stepsIn hs e) p < k then hand e p else hand hs p := by
  unfold mid
  rw [hand_map]
  by_cases h : p < hs.length
  · rw [if_pos h]
  · rw [if_neg h, hand_out (hs := hs) (by omega), hand_out (hs := e) (by rw [g.len]; omega)]; split <;> rfl
theorem mid_zero (g : Good hs e) : mid hs e 0 = hs := by
  refine hs_ext mid_len fun p _ => ?_
  rw [hand_mid g, if_neg (Nat.not_lt_zero _)]
theorem mid_end (g : Good hs e) {k : Nat} (hk : cs hs e ≤ k) : mid hs e k = e := by
  refine hs_ext (mid_len.trans g.len.symm) fun p hp => ?_
  rw [mid_len] at hp
  rw [hand_mid g]
  split
  · rfl
  · rename_i h
    cases Decidable.em (hand hs p = hand e p) with
    | inl q => exact q
    | inr q =>
      have hl := mem_losers.mpr ⟨hp, q⟩
      unfold cs at hk
      rw [if_neg (List.ne_nil_of_mem hl)] at hk
      have := le_mx (List.mem_map.mpr ⟨p, hl, rfl⟩ : Lv (stepsIn hs e) p ∈ _)
      omega
theorem mid_sub (g : Good hs e) {k p t : Nat} (h : t ∈ hand (mid hs e k) p) : t ∈ hand hs p := by
  rw [hand_mid g] at h
  split at h
  · exact g.mem h
  · exact h
theorem sub_mid (g : Good hs e) {k p t : Nat} (h : t ∈ hand e p) : t ∈ hand (mid hs e k) p := by
  rw [hand_mid g]
  split
  · exact h
  · exact g.mem h
theorem mid_things (g : Good hs e) (k : Nat) : LH.things (mid hs e k) = LH.things hs :=
  things_congr fun t => ⟨fun ⟨p, hp⟩ => ⟨p, mid_sub g hp⟩, fun ⟨p, hp⟩ => by
    obtain ⟨q, hq⟩ := g.keep p t hp
    exact ⟨q, sub_mid g hq⟩⟩
theorem len_le_one {l : List Nat} (hn : l.Nodup) {a : Nat} (h : ∀ x ∈ l, x = a) : l.length ≤ 1 := by
  match l, hn, h with
  | [], _, _ => simp
  | [x], _, _ => simp
  | x :: y :: r, hn, h =>
    have e1 := h x (by simp)
    have e2 := h y (by simp)
    rw [List.nodup_cons] at hn
    exact absurd (by rw [e1, ← e2]; simp) hn.1
theorem two_le {l : List Nat} {a b : Nat} (ha : a ∈ l) (hb : b ∈ l) (hne : a ≠ b) : 1 < l.length := by
  match l, ha, hb with
  | [x], ha, hb =>
    simp at ha hb
    exact absurd (ha.trans hb.symm) hne
  | x :: y :: r, _, _ => simp
theorem mem_spare {hs : Hs} {p t : Nat} : t ∈ spare hs p ↔ t ∈ hand hs p ∧ 1 < (holders hs t).length := by
  unfold spare; simp
theorem hand_together {hs : Hs} {S : List Nat} {p : Nat} : hand (together hs S) p = (hand hs p).filter fun t => !(if S.contains p then spare hs p else []).contains t := by
  unfold together
  rw [hand_map]
  by_cases h : p < hs.length
  · rw [if_pos h]
  · rw [if_neg h, hand_out (by omega)]; rfl
theorem together_len {hs : Hs} {S : List Nat} : (together hs S).length = hs.length := by simp [together]

/-- one stage called at once -/
theorem stage_step (g : Good hs e) (k : Nat) : together (mid hs e k) (part hs e k) = mid hs e (k + 1) := by
  refine hs_ext (by rw [together_len, mid_len, mid_len]) fun p hp => ?_
  rw [together_len, mid_len] at hp
  rw [hand_together, hand_mid g (k := k + 1)]
  by_cases hS : (part hs e k).contains p = true
  · rw [if_pos hS]
    have hm : p ∈ part hs e k := by simpa using hS
    unfold part at hm
    obtain ⟨hl, hL⟩ := List.mem_filter.mp hm
    have hL : Lv (stepsIn hs e) p = k := by simpa using hL
    rw [if_pos (by omega)]
    have e1 : hand (mid hs e k) p = hand hs p := by rw [hand_mid g, if_neg (by omega)]
    rw [g.sub p, e1]
    apply List.filter_congr
    intro t ht
    by_cases hte : t ∈ hand e p
    · have c1 : (hand e p).contains t = true := by simpa using hte
      rw [c1]
      have : t ∉ spare (mid hs e k) p := fun z => by
        have hlen := (mem_spare.mp z).2
        have : (holders (mid hs e k) t).length ≤ 1 := len_le_one holders_nodup (a := p) fun q hq => by
          cases Decidable.em (q = p) with
          | inl h => exact h
          | inr hne =>
            have hq := mem_holders.mp hq
            have hst : (q, p) ∈ stepsIn hs e := mem_stepsIn.mpr ⟨hl, hne, t, hte, mid_sub g hq⟩
            have := g.lev.lt hst
            rw [hand_mid g, if_pos (by omega)] at hq
            exact g.one _ _ t hq hte
        omega
      simpa using this
    · have c1 : (hand e p).contains t = false := by simpa using hte
      rw [c1]
      have : t ∈ spare (mid hs e k) p := by
        refine mem_spare.mpr ⟨by rw [e1]; exact ht, ?_⟩
        obtain ⟨c, hc⟩ := g.keep p t ht
        refine two_le (a := p) (b := c) (mem_holders.mpr (by rw [e1]; exact ht)) (mem_holders.mpr (sub_mid g hc)) fun z => hte ?_
        rw [z]; exact hc
      simpa using this
  · rw [if_neg hS]
    have : (hand (mid hs e k) p).filter (fun t => !([] : List Nat).contains t) = hand (mid hs e k) p := by
      apply List.filter_eq_self.mpr
      intro t _; rfl
    rw [this, hand_mid g]
    by_cases hk : Lv (stepsIn hs e) p < k
    · rw [if_pos hk, if_pos (by omega)]
    · rw [if_neg hk]
      by_cases hk1 : Lv (stepsIn hs e) p < k + 1
      · rw [if_pos hk1]
        cases Decidable.em (hand hs p = hand e p) with
        | inl q => exact q
        | inr q =>
          have hm : p ∈ part hs e k := List.mem_filter.mpr ⟨mem_losers.mpr ⟨hp, q⟩, by simp; omega⟩
          exact absurd (by simpa using hm) hS
      · rw [if_neg hk1]
theorem stage_safe (g : Good hs e) (k : Nat) : safe (mid hs e k) (part hs e k) = true := by
  unfold safe
  rw [stage_step g, mid_things g, mid_things g]
  simp
theorem valid_sub {a b : Hs} (hv : Valid a) (hl : b.length = a.length) (h : ∀ p, ∃ f : Nat → Bool, hand b p = (hand a p).filter f) : Valid b := by
  refine ⟨by rw [hl]; exact hv.pos, by rw [hl]; exact hv.le, fun x hm => ?_, fun x hm t ht => ?_⟩
  · obtain ⟨p, hp, rfl⟩ := mem_hs.mp hm
    obtain ⟨f, hf⟩ := h p
    rw [hf]
    exact List.Pairwise.filter _ (hv.handAsc p)
  · obtain ⟨p, hp, rfl⟩ := mem_hs.mp hm
    obtain ⟨f, hf⟩ := h p
    rw [hf] at ht
    have := (List.mem_filter.mp ht).1
    exact hv.lt _ (hand_in (lt_of_hand this)) t this
theorem together_valid {hs : Hs} (hv : Valid hs) (S : List Nat) : Valid (together hs S) := valid_sub hv together_len fun p => ⟨_, hand_together⟩
theorem mid_valid (hv : Valid hs) (g : Good hs e) (k : Nat) : Valid (mid hs e k) := valid_sub hv mid_len fun p => by
  rw [hand_mid g]
  split
  · exact ⟨_, g.sub p⟩
  · exact ⟨fun _ => true, (List.filter_eq_self.mpr fun _ _ => rfl).symm⟩

/-! ### choices -/
theorem mem_choices : ∀ {n : Nat} {S : List Nat}, S ∈ choices n ↔ S.Pairwise (· < ·) ∧ ∀ p ∈ S, p < n
  | 0, S => by
    simp only [choices, List.mem_singleton]
    constructor
    · rintro rfl; exact ⟨List.Pairwise.nil, by simp⟩
    · rintro ⟨_, h⟩
      cases S with
      | nil => rfl
      | cons a l => exact absurd (h a (by simp)) (Nat.not_lt_zero _)
  | n + 1, S => by
    simp only [choices, List.mem_append, List.mem_map]
    constructor
    · rintro (h | ⟨T, h, rfl⟩)
      · obtain ⟨h1, h2⟩ := mem_choices.mp h
        exact ⟨h1, fun p hp => Nat.lt_succ_of_lt (h2 p hp)⟩
      · obtain ⟨h1, h2⟩ := mem_choices.mp h
        refine ⟨List.pairwise_append.mpr ⟨h1, by simp, fun a ha b hb => ?_⟩, fun p hp => ?_⟩
        · simp at hb; subst hb; exact h2 a ha
        · rcases List.mem_append.mp hp with hp | hp
          · exact Nat.lt_succ_of_lt (h2 p hp)
          · simp at hp; omega
    · rintro ⟨h1, h2⟩
      by_cases hn : n ∈ S
      · right
        -- n is the last
        have : ∃ T, S = T ++ [n] := by
          have hne : S ≠ [] := List.ne_nil_of_mem hn
          refine ⟨S.dropLast, ?_⟩
          have e := List.dropLast_concat_getLast hne
          have hlast : S.getLast hne = n := by
            have hm := List.getLast_mem hne
            have hlt := h2 _ hm
            cases Decidable.em (S.getLast hne = n) with
            | inl q => exact q
            | inr q =>
              have hl : S.getLast hne < n := by omega
              rw [← e] at hn
              rcases List.mem_append.mp hn with z | z
              · rw [← e] at h1
                have := (List.pairwise_append.mp h1).2.2 n z (S.getLast hne) (by simp)
                omega
              · simp at z; omega
          rw [← hlast]
          exact e.symm
        obtain ⟨T, rfl⟩ := this
        refine ⟨T, mem_choices.mpr ⟨(List.pairwise_append.mp h1).1, fun p hp => ?_⟩, rfl⟩
        exact (List.pairwise_append.mp h1).2.2 p hp n (by simp)
      · left
        refine mem_choices.mpr ⟨h1, fun p hp => ?_⟩
        have := h2 p hp
        have : p ≠ n := fun z => hn (z ▸ hp)
        omega
theorem choices_len : ∀ n, (choices n).length = 2 ^ n
  | 0 => rfl
  | n + 1 => by
    simp only [choices, List.length_append, List.length_map, choices_len n, Nat.pow_succ]
    omega
theorem part_choice {k : Nat} : part hs e k ∈ choices hs.length := mem_choices.mpr ⟨List.Pairwise.filter _ losers_asc, fun p hp => (mem_losers.mp (List.mem_filter.mp hp).1).1⟩

/-! ### ends -/
theorem isEnd_iff {hs : Hs} : isEnd hs = true ↔ ∀ a b t, t ∈ hand hs a → t ∈ hand hs b → a = b := by
  unfold isEnd
  rw [List.isEmpty_iff]
  have key : pairsOf hs = [] ↔ ∀ a b, a < b → b < hs.length → ∀ t, t ∈ hand hs a → t ∉ hand hs b := by
    rw [List.eq_nil_iff_forall_not_mem]
    constructor
    · intro h a b hab hb t h1 h2
      refine h (a, b) ?_
      unfold pairsOf
      refine List.mem_flatMap.mpr ⟨a, by simp; omega, List.mem_map.mpr ⟨b, List.mem_filter.mpr ⟨List.mem_map.mpr ⟨b - (a + 1), by simp; omega, by omega⟩, ?_⟩, rfl⟩⟩
      unfold meet
      simp only [List.any_eq_true, List.contains_iff_mem]
      exact ⟨t, h1, h2⟩
    · intro h x hx
      unfold pairsOf at hx
      obtain ⟨a, ha, hx⟩ := List.mem_flatMap.mp hx
      obtain ⟨b, hb, rfl⟩ := List.mem_map.mp hx
      obtain ⟨hb, hm⟩ := List.mem_filter.mp hb
      obtain ⟨i, hi, rfl⟩ := List.mem_map.mp hb
      simp at ha hi
      unfold meet at hm
      simp only [List.any_eq_true, List.contains_iff_mem] at hm
      obtain ⟨t, h1, h2⟩ := hm
      exact h a (a + 1 + i) (by omega) (by omega) t h1 h2
  rw [key]
  constructor
  · intro h a b t h1 h2
    rcases Nat.lt_trichotomy a b with z | z | z
    · exact absurd h2 (h a b z (lt_of_hand h2) t h1)
    · exact z
    · exact absurd h1 (h b a z (lt_of_hand h1) t h2)
  · intro h a b hab hb t h1 h2
    have := h a b t h1 h2
    omega
theorem Good.isEnd (g : Good hs e) : LH.isEnd e = true := isEnd_iff.mpr fun a b t h1 h2 => g.one a b t h1 h2

/-! ### the numbers of stages -/
theorem sum_len_range (l : List Nat) (f : Nat → Nat) : ∀ n, ((List.range n).map fun k => (l.filter fun p => f p == k).length).sum = (l.filter fun p => decide (f p < n)).length
  | 0 => by
    have : l.filter (fun p => decide (f p < 0)) = [] := List.filter_eq_nil_iff.mpr fun p _ => by simp
    rw [this]; rfl
  | n + 1 => by
    rw [List.range_succ, List.map_append, List.sum_append, sum_len_range l f n]
    simp only [List.map_cons, List.map_nil, List.sum_cons, List.sum_nil, Nat.add_zero]
    induction l with
    | nil => rfl
    | cons a l ih =>
      simp only [List.filter_cons]
      by_cases h1 : f a < n
      · have h2 : ¬ f a = n := by omega
        have h3 : f a < n + 1 := by omega
        simp only [h1, h2, h3, decide_true, if_true, beq_iff_eq, if_false, List.length_cons]
        omega
      · by_cases h2 : f a = n
        · have h3 : f a < n + 1 := by omega
          simp only [h1, h2, h3, decide_true, decide_false, if_true, beq_iff_eq, if_false, List.length_cons, Bool.false_eq_true]
          simp only [h2, Nat.lt_irrefl, decide_false, Bool.false_eq_true, if_false, beq_self_eq_true, if_true, List.length_cons, Nat.lt_succ_self, decide_true]
          omega
        · have h3 : ¬ f a < n + 1 := by omega
          simp only [h1, h2, h3, decide_false, beq_iff_eq, if_false, Bool.false_eq_true]
          exact ih
theorem lev_lt_cs {p : Nat} (h : p ∈ losers hs e) : Lv (stepsIn hs e) p < cs hs e := by
  unfold cs
  rw [if_neg (List.ne_nil_of_mem h)]
  have := le_mx (List.mem_map.mpr ⟨p, h, rfl⟩ : Lv (stepsIn hs e) p ∈ _)
  omega
theorem sum_parts : ((parts hs e).map List.length).sum = (losers hs e).length := by
  unfold parts
  rw [List.map_map]
  show ((List.range (cs hs e)).map fun k => (part hs e k).length).sum = _
  unfold part
  rw [sum_len_range]
  congr 1
  apply List.filter_eq_self.mpr
  intro p hp
  simpa using lev_lt_cs hp
/-- each stage below has somebody -/
theorem part_some (g : Good hs e) {k : Nat} (hk : k < cs hs e) : ∃ p, p ∈ part hs e k := by
  have hne : losers hs e ≠ [] := fun z => by unfold cs at hk; rw [if_pos z] at hk; omega
  have hm := mx_mem (l := (losers hs e).map (Lv (stepsIn hs e))) (by simpa using hne)
  obtain ⟨p, hp, ep⟩ := List.mem_map.mp hm
  unfold cs at hk
  rw [if_neg hne, ← ep] at hk
  have : ∀ d p, p ∈ losers hs e → k + d = Lv (stepsIn hs e) p → ∃ q, q ∈ part hs e k := by
    intro d
    induction d with
    | zero => exact fun p hp h => ⟨p, List.mem_filter.mpr ⟨hp, by simp; omega⟩⟩
    | succ d ih =>
      intro p hp h
      obtain ⟨q, hq, e2⟩ := g.lev.pred (p := p) (k := k + d) (by omega)
      exact ih q (g.step hq).1 (by omega)
  exact this (Lv (stepsIn hs e) p - k) p hp (by omega)
theorem len_le_sum : ∀ {l : List (List Nat)}, (∀ x ∈ l, x ≠ []) → l.length ≤ (l.map List.length).sum
  | [], _ => by simp
  | a :: l, h => by
    have := len_le_sum (l := l) fun x hx => h x (List.mem_cons_of_mem _ hx)
    have h1 := h a (by simp)
    have : 0 < a.length := List.length_pos_iff.mpr h1
    simp only [List.length_cons, List.map_cons, List.sum_cons]
    omega
theorem parts_ne (g : Good hs e) : ∀ x ∈ parts hs e, x ≠ [] := fun x hx => by
  obtain ⟨k, hk, rfl⟩ := List.mem_map.mp hx
  obtain ⟨p, hp⟩ := part_some g (by simpa using hk)
  exact List.ne_nil_of_mem hp
theorem parts_len : (parts hs e).length = cs hs e := by simp [parts]
theorem cs_le (g : Good hs e) : cs hs e ≤ (losers hs e).length := by
  rw [← parts_len, ← sum_parts]
  exact len_le_sum (parts_ne g)
theorem losers_le : (losers hs e).length ≤ hs.length := by
  unfold losers
  exact Nat.le_trans (List.length_filter_le _ _) (by simp)
theorem cs_pos {hs e : Hs} (h : losers hs e ≠ []) : 0 < cs hs e := by unfold cs; rw [if_neg h]; omega
/-- one stage alone is a round -/
theorem one_stage (g : Good hs e) (h1 : cs hs e < 2) (h2 : losers hs e ≠ []) : ∃ S, (parts hs e)[0]? = some S ∧ S ∈ choices hs.length ∧ together hs S = e := by
  have : cs hs e = 1 := by have := cs_pos h2; omega
  refine ⟨part hs e 0, ?_, part_choice, ?_⟩
  · unfold parts
    rw [this]; rfl
  · have := stage_step g 0
    rw [mid_zero g] at this
    rw [this]
    exact mid_end g (by omega)
end
end LH

set_option Elab.async false
set_option linter.all false
set_option maxRecDepth 10000
namespace LH

/-! ### rows of all people, by steps -/
def okp (st : List (Nat × Nat)) (s : List Nat) (p : Nat) : Bool := !(s.contains p) && (preds st p).all fun q => s.contains q
def exts (people : List Nat) (st : List (Nat × Nat)) : Nat → List (List Nat)
  | 0 => [[]]
  | k + 1 => (exts people st k).flatMap fun s => (people.filter (okp st s)).map fun p => s ++ [p]
theorem okp_iff {st : List (Nat × Nat)} {s : List Nat} {p : Nat} : okp st s p = true ↔ p ∉ s ∧ ∀ q, (q, p) ∈ st → q ∈ s := by
  unfold okp
  simp only [Bool.and_eq_true, Bool.not_eq_true', List.all_eq_true, List.contains_iff_mem]
  constructor
  · rintro ⟨h1, h2⟩
    exact ⟨by simpa using h1, fun q hq => h2 q (mem_preds.mpr hq)⟩
  · rintro ⟨h1, h2⟩
    exact ⟨by simpa using h1, fun q hq => h2 q (mem_preds.mp hq)⟩
theorem okp_congr {st : List (Nat × Nat)} {s t : List Nat} (h : ∀ q, q ∈ s ↔ q ∈ t) (p : Nat) : okp st s p = okp st t p := by
  rw [Bool.eq_iff_iff, okp_iff, okp_iff, h p]
  constructor
  · rintro ⟨a, b⟩; exact ⟨a, fun q hq => (h q).mp (b q hq)⟩
  · rintro ⟨a, b⟩; exact ⟨a, fun q hq => (h q).mpr (b q hq)⟩
section
variable {people : List Nat} {st : List (Nat × Nat)}
theorem mem_exts_succ {k : Nat} {s : List Nat} : s ∈ exts people st (k + 1) ↔ ∃ t p, s = t ++ [p] ∧ t ∈ exts people st k ∧ p ∈ people ∧ p ∉ t ∧ ∀ q, (q, p) ∈ st → q ∈ t := by
  simp only [exts, List.mem_flatMap, List.mem_map, List.mem_filter, okp_iff]
  constructor
  · rintro ⟨t, ht, p, ⟨hp, h1, h2⟩, rfl⟩
    exact ⟨t, p, rfl, ht, hp, h1, h2⟩
  · rintro ⟨t, p, rfl, ht, hp, h1, h2⟩
    exact ⟨t, ht, p, ⟨hp, h1, h2⟩, rfl⟩
theorem exts_facts : ∀ {k : Nat} {s : List Nat}, s ∈ exts people st k → s.length = k ∧ s.Nodup ∧ ∀ p ∈ s, p ∈ people
  | 0, s, h => by
    simp [exts] at h
    subst h; simp
  | k + 1, s, h => by
    obtain ⟨t, p, rfl, ht, hp, h1, _⟩ := mem_exts_succ.mp h
    obtain ⟨a, b, c⟩ := exts_facts ht
    refine ⟨by simp [a], ?_, fun x hx => ?_⟩
    · rw [List.nodup_append]
      refine ⟨b, by simp, fun x hx y hy => ?_⟩
      simp at hy
      rintro rfl
      exact h1 (hy ▸ hx)
    · rcases List.mem_append.mp hx with hx | hx
      · exact c x hx
      · simp at hx; subst hx; exact hp
/-- what has all that must go ahead at each place is a row -/
theorem mem_exts_of : ∀ {k : Nat} {s : List Nat}, s.length = k → s.Nodup → (∀ p ∈ s, p ∈ people) → (∀ pre p suf, s = pre ++ p :: suf → ∀ q, (q, p) ∈ st → q ∈ pre) → s ∈ exts people st k
  | 0, s, h, _, _, _ => by
    have : s = [] := List.eq_nil_of_length_eq_zero h
    subst this
    simp [exts]
  | k + 1, s, h, hn, hp, hq => by
    have hne : s ≠ [] := by intro z; subst z; simp at h
    have e := List.dropLast_concat_getLast hne
    refine mem_exts_succ.mpr ⟨s.dropLast, s.getLast hne, e.symm, ?_, hp _ (List.getLast_mem hne), ?_, fun q h2 => hq s.dropLast _ [] (by rw [e]) q h2⟩
    · refine mem_exts_of (by simp [h]) ?_ (fun p h' => hp p (List.dropLast_subset _ h')) (fun pre p suf h1 q h2 => hq pre p (suf ++ [s.getLast hne]) ?_ q h2)
      · exact hn.sublist (List.dropLast_sublist _)
      · have e2 : s = s.dropLast ++ [s.getLast hne] := e.symm
        rw [h1, List.append_assoc] at e2
        exact e2
    · intro z
      have hn2 : (s.dropLast ++ [s.getLast hne]).Nodup := by rw [e]; exact hn
      rw [List.nodup_append] at hn2
      exact hn2.2.2 _ z _ (by simp) rfl

/-! ### the table of sets -/
abbrev Tab := List (List Nat × Nat)
def getN (kvs : Tab) (k : List Nat) : Nat := ((kvs.find? fun kv => decide (kv.1 = k)).map (·.2)).getD 0
def putN (kvs : Tab) (k : List Nat) (v : Nat) : Tab := if (kvs.any fun kv => decide (kv.1 = k)) = true then kvs.map (fun kv => if kv.1 = k then (kv.1, v) else kv) else kvs ++ [(k, v)]
def addN (kvs : Tab) (k : List Nat) (m : Nat) : Tab := putN kvs k (getN kvs k + m)
def dpIn (people : List Nat) (st : List (Nat × Nat)) (later : Tab) (dm : List Nat × Nat) : Tab :=
  people.foldl (fun later p => if okp st dm.1 p then addN later (sset (dm.1 ++ [p])) dm.2 else later) later
def dpStep (people : List Nat) (st : List (Nat × Nat)) (found : Tab) : Tab := found.foldl (dpIn people st) []
def dp (people : List Nat) (st : List (Nat × Nat)) : Nat → Tab
  | 0 => [([], 1)]
  | k + 1 => dpStep people st (dp people st k)
def wsum (kvs : Tab) (g : List Nat → Nat) : Nat := (kvs.map fun kv => kv.2 * g kv.1).sum
def KeysOk (kvs : Tab) : Prop := (kvs.map (·.1)).Nodup

theorem any_iff {kvs : Tab} {k : List Nat} : (kvs.any fun kv => decide (kv.1 = k)) = true ↔ k ∈ kvs.map (·.1) := by
  simp only [List.any_eq_true, decide_eq_true_eq, List.mem_map]
theorem keys_put {kvs : Tab} {k : List Nat} {v : Nat} : (putN kvs k v).map (·.1) = if k ∈ kvs.map (·.1) then kvs.map (·.1) else kvs.map (·.1) ++ [k] := by
  unfold putN
  by_cases h : (kvs.any fun kv => decide (kv.1 = k)) = true
  · rw [if_pos h, if_pos (any_iff.mp h), List.map_map]
    apply List.map_congr_left
    intro kv _
    simp only [Function.comp]
    split <;> rfl
  · rw [if_neg h, if_neg (fun z => h (any_iff.mpr z))]
    simp
theorem KeysOk.put {kvs : Tab} (h : KeysOk kvs) {k : List Nat} {v : Nat} : KeysOk (putN kvs k v) := by
  unfold KeysOk
  rw [keys_put]
  split
  · exact h
  · rename_i hn
    rw [List.nodup_append]
    refine ⟨h, by simp, fun a ha b hb => ?_⟩
    simp at hb
    subst hb
    rintro rfl
    exact hn ha
theorem wsum_add {g : List Nat → Nat} {k : List Nat} {m : Nat} : ∀ {kvs : Tab}, KeysOk kvs → wsum (addN kvs k m) g = wsum kvs g + m * g k
  | [], _ => by simp [addN, putN, getN, wsum]
  | (a, b) :: kvs, h => by
    have hk : KeysOk kvs := (List.nodup_cons.mp h).2
    have hn : a ∉ kvs.map (·.1) := (List.nodup_cons.mp h).1
    by_cases e : a = k
    · subst e
      have e1 : addN ((a, b) :: kvs) a m = (a, b + m) :: kvs := by
        unfold addN putN getN
        simp only [List.any_cons, decide_true, Bool.true_or, if_true, List.map_cons, List.find?_cons, Option.map_some, Option.getD_some]
        congr 1
        have : ∀ kv ∈ kvs, (if kv.1 = a then (kv.1, b + m) else kv) = kv := fun kv hkv => by
          rw [if_neg]
          intro z
          exact hn (List.mem_map.mpr ⟨kv, hkv, z⟩)
        exact (List.map_congr_left this).trans (List.map_id _)
      rw [e1]
      simp only [wsum, List.map_cons, List.sum_cons, Nat.add_mul]
      omega
    · have ih := wsum_add (g := g) (k := k) (m := m) hk
      have e1 : addN ((a, b) :: kvs) k m = (a, b) :: addN kvs k m := by
        unfold addN putN getN
        simp only [List.any_cons, e, decide_false, Bool.false_or, List.map_cons, if_false, List.find?_cons, List.cons_append]
        split <;> rfl
      rw [e1]
      simp only [wsum, List.map_cons, List.sum_cons] at ih ⊢
      omega
theorem KeysOk.addN {kvs : Tab} (h : KeysOk kvs) {k : List Nat} {m : Nat} : KeysOk (LH.addN kvs k m) := h.put
theorem keys_add {kvs : Tab} {k d : List Nat} {m : Nat} (h : d ∈ (addN kvs k m).map (·.1)) : d ∈ kvs.map (·.1) ∨ d = k := by
  unfold addN at h
  rw [keys_put] at h
  split at h
  · exact .inl h
  · rcases List.mem_append.mp h with h | h
    · exact .inl h
    · simp at h; exact .inr h

theorem dpIn_ok (dm : List Nat × Nat) (g : List Nat → Nat) : ∀ (l : List Nat) (later : Tab), KeysOk later →
    let r := l.foldl (fun later p => if okp st dm.1 p then addN later (sset (dm.1 ++ [p])) dm.2 else later) later
    KeysOk r ∧ wsum r g = wsum later g + dm.2 * ((l.filter (okp st dm.1)).map fun p => g (sset (dm.1 ++ [p]))).sum ∧
      ∀ d ∈ r.map (·.1), d ∈ later.map (·.1) ∨ ∃ p ∈ l, okp st dm.1 p = true ∧ d = sset (dm.1 ++ [p])
  | [], later, h => ⟨h, by simp, fun d hd => .inl hd⟩
  | p :: l, later, h => by
    simp only [List.foldl_cons, List.filter_cons]
    by_cases hp : okp st dm.1 p = true
    · rw [if_pos hp, if_pos hp]
      obtain ⟨a, b, c⟩ := dpIn_ok dm g l (addN later (sset (dm.1 ++ [p])) dm.2) h.addN
      refine ⟨a, ?_, fun d hd => ?_⟩
      · rw [b, wsum_add h, List.map_cons, List.sum_cons, Nat.mul_add]
        omega
      · rcases c d hd with z | ⟨q, hq, h2⟩
        · rcases keys_add z with z | z
          · exact .inl z
          · exact .inr ⟨p, by simp, hp, z⟩
        · exact .inr ⟨q, List.mem_cons_of_mem _ hq, h2⟩
    · rw [if_neg hp, if_neg hp]
      obtain ⟨a, b, c⟩ := dpIn_ok dm g l later h
      refine ⟨a, b, fun d hd => ?_⟩
      rcases c d hd with z | ⟨q, hq, h2⟩
      · exact .inl z
      · exact .inr ⟨q, List.mem_cons_of_mem _ hq, h2⟩
theorem dpStep_ok (g : List Nat → Nat) : ∀ (found later : Tab), KeysOk later →
    let r := found.foldl (dpIn people st) later
    KeysOk r ∧ wsum r g = wsum later g + wsum found (fun d => ((people.filter (okp st d)).map fun p => g (sset (d ++ [p]))).sum) ∧
      ∀ d ∈ r.map (·.1), d ∈ later.map (·.1) ∨ ∃ dm ∈ found, ∃ p ∈ people, okp st dm.1 p = true ∧ d = sset (dm.1 ++ [p])
  | [], later, h => ⟨h, by simp [wsum], fun d hd => .inl hd⟩
  | dm :: found, later, h => by
    simp only [List.foldl_cons]
    obtain ⟨a, b, c⟩ := dpIn_ok (st := st) dm g people later h
    obtain ⟨a2, b2, c2⟩ := dpStep_ok g found (dpIn people st later dm) a
    refine ⟨a2, ?_, fun d hd => ?_⟩
    · have b' : wsum (dpIn people st later dm) g = _ := b
      rw [b2, b']
      simp only [wsum, List.map_cons, List.sum_cons]
      omega
    · rcases c2 d hd with z | ⟨dm', h1, h2⟩
      · rcases c d z with z | ⟨p, hp, h2⟩
        · exact .inl z
        · exact .inr ⟨dm, by simp, p, hp, h2⟩
      · exact .inr ⟨dm', List.mem_cons_of_mem _ h1, h2⟩

theorem mem_sset_sub {s : List Nat} (h : ∀ p ∈ s, p < 8) (q : Nat) : q ∈ sset s ↔ q ∈ s := by
  rw [mem_sset]
  exact ⟨fun h => h.2, fun x => ⟨h q x, x⟩⟩
theorem sset_snoc {s : List Nat} (h : ∀ p ∈ s, p < 8) (p : Nat) : sset (sset s ++ [p]) = sset (s ++ [p]) := sset_congr fun t => by
  rw [List.mem_append, List.mem_append, mem_sset_sub h]
theorem sum_flatMap {α β : Type} (f : β → Nat) (h : α → List β) : ∀ l : List α, ((l.flatMap h).map f).sum = (l.map fun a => ((h a).map f).sum).sum
  | [] => rfl
  | a :: l => by
    rw [List.flatMap_cons, List.map_append, List.sum_append, sum_flatMap f h l, List.map_cons, List.sum_cons]
theorem dp_ok (hp : ∀ p ∈ people, p < 8) : ∀ k, KeysOk (dp people st k) ∧ (∀ g, wsum (dp people st k) g = ((exts people st k).map fun s => g (sset s)).sum) ∧ ∀ d ∈ (dp people st k).map (·.1), ∃ s ∈ exts people st k, d = sset s
  | 0 => ⟨by simp [dp, KeysOk], fun g => by simp [dp, wsum, exts, show sset [] = [] from rfl], fun d hd => ⟨[], by simp [exts], by
      simp [dp] at hd
      subst hd; rfl⟩⟩
  | k + 1 => by
    obtain ⟨a, b, c⟩ := dp_ok hp k
    refine ⟨(dpStep_ok (fun _ => 0) (dp people st k) [] (by simp [KeysOk])).1, fun g => ?_, fun d hd => ?_⟩
    · have e := (dpStep_ok (people := people) (st := st) g (dp people st k) [] (by simp [KeysOk])).2.1
      have e : wsum (dp people st (k + 1)) g = _ := e
      rw [e, b]
      simp only [exts, wsum, List.map_nil, List.sum_nil, Nat.zero_add]
      rw [sum_flatMap]
      congr 1
      apply List.map_congr_left
      intro s hs
      have h8 : ∀ p ∈ s, p < 8 := fun p h => hp p ((exts_facts hs).2.2 p h)
      rw [List.map_map]
      have e1 : people.filter (okp st (sset s)) = people.filter (okp st s) := by
        apply List.filter_congr
        intro p _
        exact okp_congr (mem_sset_sub h8) p
      rw [e1]
      congr 1
      apply List.map_congr_left
      intro p _
      simp only [Function.comp]
      rw [sset_snoc h8]
    · rcases (dpStep_ok (people := people) (st := st) (fun _ => 0) (dp people st k) [] (by simp [KeysOk])).2.2 d hd with z | ⟨dm, h1, p, h2, h3, h4⟩
      · simp at z
      · obtain ⟨s, hs, e⟩ := c dm.1 (List.mem_map.mpr ⟨dm, h1, rfl⟩)
        have h8 : ∀ p ∈ s, p < 8 := fun p h => hp p ((exts_facts hs).2.2 p h)
        refine ⟨s ++ [p], ?_, by rw [h4, e, sset_snoc h8]⟩
        rw [e, okp_congr (mem_sset_sub h8), okp_iff] at h3
        exact mem_exts_succ.mpr ⟨s, p, rfl, hs, h2, h3.1, h3.2⟩
/-- a set as large as all is all -/
theorem asc_nodup {l : List Nat} (h : l.Pairwise (· < ·)) : l.Nodup := h.imp fun z => Nat.ne_of_lt z
theorem asc_ext {a b : List Nat} (ha : a.Pairwise (· < ·)) (hb : b.Pairwise (· < ·)) (h : ∀ t, t ∈ a ↔ t ∈ b) : a = b := by
  have hp : a.Perm b := (List.perm_ext_iff_of_nodup (asc_nodup ha) (asc_nodup hb)).mpr h
  exact hp.eq_of_pairwise (le := (· < ·)) (fun x y _ _ h1 h2 => absurd h1 (by omega)) ha hb
theorem full_of {s people : List Nat} (ha : people.Pairwise (· < ·)) (hp : ∀ p ∈ people, p < 8) (hn : s.Nodup) (hs : ∀ p ∈ s, p ∈ people) (hl : s.length = people.length) : sset s = people := by
  refine asc_ext (sset_asc _) ha fun t => ?_
  rw [mem_sset]
  refine ⟨fun h => hs t h.2, fun h => ⟨hp t h, ?_⟩⟩
  cases Decidable.em (t ∈ s) with
  | inl q => exact q
  | inr q =>
    have hn2 : (t :: s).Nodup := List.nodup_cons.mpr ⟨q, hn⟩
    have := List.Nodup.length_le_of_subset hn2 (l₂ := people) fun x hx => by
      rcases List.mem_cons.mp hx with rfl | hx
      · exact h
      · exact hs x hx
    simp only [List.length_cons] at this
    omega
/-- the number in the table's end -/
theorem dp_count (ha : people.Pairwise (· < ·)) (hp : ∀ p ∈ people, p < 8) : getN (dp people st people.length) people = (exts people st people.length).length := by
  obtain ⟨a, b, c⟩ := dp_ok (st := st) hp people.length
  have hk : ∀ d ∈ (dp people st people.length).map (·.1), d = people := fun d hd => by
    obtain ⟨s, hs, e⟩ := c d hd
    obtain ⟨h1, h2, h3⟩ := exts_facts hs
    rw [e]
    exact full_of ha hp h2 h3 h1
  have e := b fun _ => 1
  simp only [List.map_const', List.sum_replicate_nat, Nat.mul_one] at e
  rw [← e]
  unfold KeysOk at a
  generalize dp people st people.length = kvs at a hk ⊢
  match kvs, a, hk with
  | [], _, _ => rfl
  | [(d, m)], _, hk =>
    have := hk d (by simp)
    subst this
    simp [getN, wsum]
  | (d, m) :: (d', m') :: r, a, hk =>
    have h1 := hk d (by simp)
    have h2 := hk d' (by simp)
    simp [h1, h2] at a
theorem dp_key (ha : people.Pairwise (· < ·)) (hp : ∀ p ∈ people, p < 8) (h : exts people st people.length ≠ []) : people ∈ (dp people st people.length).map (·.1) := by
  obtain ⟨a, b, c⟩ := dp_ok (st := st) hp people.length
  have e := b fun _ => 1
  simp only [List.map_const', List.sum_replicate_nat, Nat.mul_one] at e
  have : 0 < (exts people st people.length).length := List.length_pos_iff.mpr h
  cases hd : (dp people st people.length).map (·.1) with
  | nil =>
    have : dp people st people.length = [] := by simpa using hd
    rw [this] at e
    simp [wsum] at e
    omega
  | cons d r =>
    obtain ⟨s, hs, e⟩ := c d (by rw [hd]; simp)
    obtain ⟨h1, h2, h3⟩ := exts_facts hs
    rw [full_of ha hp h2 h3 h1] at e
    rw [← e]; simp
end

/-! ### one row alone, just if each stage has one -/
section
variable {hs e : Hs}
theorem flat_before : ∀ {l : List (List Nat)} {pre suf : List Nat} {p : Nat}, l.flatten = pre ++ p :: suf → ∃ (i : Nat) (x : List Nat), l[i]? = some x ∧ p ∈ x ∧ ∀ (j : Nat) (y : List Nat), j < i → l[j]? = some y → ∀ q ∈ y, q ∈ pre
  | [], pre, suf, p, h => by simp at h
  | x :: l, pre, suf, p, h => by
    rw [List.flatten_cons] at h
    rcases List.append_eq_append_iff.mp h with ⟨a, h1, h2⟩ | ⟨c, h1, h2⟩
    · -- x ++ a = pre
      obtain ⟨i, y, hi, hy, hb⟩ := flat_before h2
      refine ⟨i + 1, y, by simpa using hi, hy, fun j z hj hz q hq => ?_⟩
      cases j with
      | zero =>
        simp at hz
        subst hz
        rw [h1]; exact List.mem_append_left _ hq
      | succ j =>
        rw [h1]
        exact List.mem_append_right _ (hb j z (by omega) (by simpa using hz) q hq)
    · cases c with
      | nil =>
        simp at h2 h1
        obtain ⟨i, y, hi, hy, hb⟩ := flat_before (pre := []) (by rw [List.nil_append]; exact h2.symm)
        refine ⟨i + 1, y, by simpa using hi, hy, fun j z hj hz q hq => ?_⟩
        cases j with
        | zero =>
          simp at hz
          subst hz
          rw [← h1]; exact hq
        | succ j =>
          have := hb j z (by omega) (by simpa using hz) q hq
          simp at this
      | cons b c =>
        simp at h2
        obtain ⟨rfl, _⟩ := h2
        refine ⟨0, x, rfl, by rw [h1]; simp, fun j _ hj => absurd hj (Nat.not_lt_zero _)⟩

theorem flat_len_rev (l : List (List Nat)) : (l.map List.reverse).flatten.length = l.flatten.length := by
  rw [List.length_flatten, List.length_flatten, List.map_map]
  congr 1
  apply List.map_congr_left
  intro x _
  simp
theorem flat_rev_eq : ∀ {l : List (List Nat)}, (l.map List.reverse).flatten = l.flatten → ∀ x ∈ l, x.reverse = x
  | [], _, x, hx => by simp at hx
  | a :: l, h, x, hx => by
    simp only [List.map_cons, List.flatten_cons] at h
    obtain ⟨h1, h2⟩ := List.append_inj h (by simp)
    rcases List.mem_cons.mp hx with rfl | hx
    · exact h1
    · exact flat_rev_eq h2 x hx
theorem rev_short {x : List Nat} (hn : x.Nodup) (h : x.reverse = x) : x.length ≤ 1 := by
  cases Nat.lt_or_ge 1 x.length with
  | inr q => exact q
  | inl q =>
    have h0 : x.reverse[0]? = x[0]? := by rw [h]
    rw [List.getElem?_reverse (by omega)] at h0
    have : x.length - 1 - 0 = 0 := by
      have a : x.length - 1 - 0 < x.length := by omega
      have b : 0 < x.length := by omega
      rw [List.getElem?_eq_getElem a, List.getElem?_eq_getElem b] at h0
      exact (List.getElem_inj hn).mp (Option.some.inj h0)
    omega
/-- the people stage by stage, each stage in any order of its own -/
theorem flat_ext (g : Good hs e) (l : List (List Nat)) (hl : l.length = cs hs e) (hm : ∀ (i : Nat) (x : List Nat), l[i]? = some x → x.Perm (part hs e i)) : l.flatten ∈ exts (losers hs e) (stepsIn hs e) (losers hs e).length := by
  have hx : ∀ x ∈ l, ∃ i, i < cs hs e ∧ l[i]? = some x := fun x hx => by
    obtain ⟨i, hi, rfl⟩ := List.getElem_of_mem hx
    exact ⟨i, by omega, List.getElem?_eq_getElem hi⟩
  have lev : ∀ (i : Nat) (x : List Nat) (p : Nat), l[i]? = some x → p ∈ x → p ∈ losers hs e ∧ Lv (stepsIn hs e) p = i := fun i x p hi hp => by
    have := (hm i x hi).mem_iff.mp hp
    unfold part at this
    obtain ⟨a, b⟩ := List.mem_filter.mp this
    exact ⟨a, by simpa using b⟩
  have pm : l.map List.length = (parts hs e).map List.length := by
    apply List.ext_getElem (by simp [hl, parts_len])
    intro i h1 h2
    simp only [List.getElem_map, List.length_map] at h1 h2 ⊢
    have := (hm i l[i] (List.getElem?_eq_getElem (by simpa using h1))).length_eq
    rw [this]
    simp [parts]
  refine mem_exts_of ?_ ?_ ?_ ?_
  · rw [List.length_flatten, pm, sum_parts]
  · -- no person twice
    have : ∀ n, (l.take n).flatten.Nodup ∧ ∀ p ∈ (l.take n).flatten, Lv (stepsIn hs e) p < n := by
      intro n
      induction n with
      | zero => simp
      | succ n ih =>
        by_cases hn : n < l.length
        · rw [List.take_succ, List.getElem?_eq_getElem hn]
          simp only [Option.toList_some, List.flatten_append, List.flatten_cons, List.flatten_nil, List.append_nil]
          have hi := List.getElem?_eq_getElem hn
          refine ⟨?_, fun p hp => ?_⟩
          · rw [List.nodup_append]
            refine ⟨ih.1, ?_, fun a ha b hb => ?_⟩
            · refine (hm n _ hi).nodup_iff.mpr ?_
              exact List.Nodup.sublist List.filter_sublist (asc_nodup losers_asc)
            · have h1 := ih.2 a ha
              have h2 := (lev n _ b hi hb).2
              rintro rfl
              omega
          · rcases List.mem_append.mp hp with hp | hp
            · have := ih.2 p hp; omega
            · have := (lev n _ p hi hp).2; omega
        · rw [List.take_of_length_le (by omega)]
          rw [List.take_of_length_le (by omega)] at ih
          exact ⟨ih.1, fun p hp => by have := ih.2 p hp; omega⟩
    have := (this l.length).1
    rwa [List.take_length] at this
  · intro p hp
    obtain ⟨x, hx1, hx2⟩ := List.mem_flatten.mp hp
    obtain ⟨i, _, hi⟩ := hx x hx1
    exact (lev i x p hi hx2).1
  · intro pre p suf h q hq
    obtain ⟨i, x, hi, hpx, hb⟩ := flat_before h
    have hlt := g.lev.lt hq
    rw [(lev i x p hi hpx).2] at hlt
    have hlen : i < l.length := (List.getElem?_eq_some_iff.mp hi).1
    have hj : Lv (stepsIn hs e) q < l.length := by omega
    refine hb _ _ hlt (List.getElem?_eq_getElem hj) q ?_
    refine (hm _ _ (List.getElem?_eq_getElem hj)).mem_iff.mpr ?_
    exact List.mem_filter.mpr ⟨(g.step hq).1, by simp⟩
theorem exts_ne (g : Good hs e) : (parts hs e).flatten ∈ exts (losers hs e) (stepsIn hs e) (losers hs e).length := by
  refine flat_ext g _ parts_len fun i x hi => ?_
  unfold parts at hi
  rw [List.getElem?_map] at hi
  by_cases h : i < cs hs e
  · rw [List.getElem?_range h] at hi
    have e1 : part hs e i = x := Option.some.inj hi
    rw [e1]
  · rw [List.getElem?_eq_none (by simp; omega)] at hi
    cases hi
theorem two_le' {α : Type} {l : List α} {a b : α} (ha : a ∈ l) (hb : b ∈ l) (hne : a ≠ b) : 1 < l.length := by
  match l, ha, hb with
  | [x], ha, hb =>
    simp at ha hb
    exact absurd (ha.trans hb.symm) hne
  | x :: y :: r, _, _ => simp
/-- fewer stages than people: two rows -/
theorem two_rows (g : Good hs e) (h : cs hs e < (losers hs e).length) : 1 < (exts (losers hs e) (stepsIn hs e) (losers hs e).length).length := by
  have h2 : ((parts hs e).map List.reverse).flatten ∈ exts (losers hs e) (stepsIn hs e) (losers hs e).length := by
    refine flat_ext g _ (by simp [parts_len]) fun i x hi => ?_
    unfold parts at hi
    rw [List.map_map, List.getElem?_map] at hi
    by_cases h : i < cs hs e
    · rw [List.getElem?_range h] at hi
      have e1 : (part hs e i).reverse = x := Option.some.inj hi
      rw [← e1]
      exact List.reverse_perm _
    · rw [List.getElem?_eq_none (by simp; omega)] at hi
      cases hi
  refine two_le' h2 (exts_ne g) fun q => ?_
  have hr := flat_rev_eq q
  have : ((parts hs e).map List.length).sum ≤ (parts hs e).length := by
    have : ∀ l : List (List Nat), (∀ x ∈ l, x.length ≤ 1) → (l.map List.length).sum ≤ l.length := by
      intro l
      induction l with
      | nil => simp
      | cons a l ih =>
        intro h
        have := ih fun x hx => h x (List.mem_cons_of_mem _ hx)
        have := h a (by simp)
        simp only [List.map_cons, List.sum_cons, List.length_cons]
        omega
    refine this _ fun x hx => rev_short ?_ (hr x hx)
    obtain ⟨k, _, rfl⟩ := List.mem_map.mp hx
    exact List.Nodup.sublist List.filter_sublist (asc_nodup losers_asc)
  rw [sum_parts, parts_len] at this
  omega
/-- as many stages as people: no two share one -/
theorem lev_inj (g : Good hs e) (h : cs hs e = (losers hs e).length) {p q : Nat} (hp : p ∈ losers hs e) (hq : q ∈ losers hs e) (hl : Lv (stepsIn hs e) p = Lv (stepsIn hs e) q) : p = q := by
  have hs1 : ∀ l : List (List Nat), (∀ x ∈ l, x ≠ []) → (l.map List.length).sum = l.length → ∀ x ∈ l, x.length = 1 := by
    intro l
    induction l with
    | nil => intro _ _ x hx; simp at hx
    | cons a l ih =>
      intro h1 h2 x hx
      have a1 : 0 < a.length := List.length_pos_iff.mpr (h1 a (by simp))
      have l1 := len_le_sum (l := l) fun y hy => h1 y (List.mem_cons_of_mem _ hy)
      simp only [List.map_cons, List.sum_cons, List.length_cons] at h2
      rcases List.mem_cons.mp hx with rfl | hx
      · omega
      · exact ih (fun y hy => h1 y (List.mem_cons_of_mem _ hy)) (by omega) x hx
  have hlt := lev_lt_cs hp
  have := hs1 (parts hs e) (parts_ne g) (by rw [sum_parts, parts_len, h]) (part hs e (Lv (stepsIn hs e) p)) (List.mem_map.mpr ⟨_, by simpa using hlt, rfl⟩)
  have m1 : p ∈ part hs e (Lv (stepsIn hs e) p) := List.mem_filter.mpr ⟨hp, by simp⟩
  have m2 : q ∈ part hs e (Lv (stepsIn hs e) p) := List.mem_filter.mpr ⟨hq, by simp [hl]⟩
  revert this m1 m2
  generalize part hs e (Lv (stepsIn hs e) p) = l
  intro h1 m1 m2
  match l, h1, m1, m2 with
  | [x], _, m1, m2 =>
    simp at m1 m2
    rw [m1, m2]
theorem one_row (g : Good hs e) (h : cs hs e = (losers hs e).length) : ∀ k, (exts (losers hs e) (stepsIn hs e) k).length ≤ 1 ∧ ∀ s ∈ exts (losers hs e) (stepsIn hs e) k, s.map (Lv (stepsIn hs e)) = List.range k
  | 0 => by simp [exts]
  | k + 1 => by
    obtain ⟨a, b⟩ := one_row g h k
    have key : ∀ s ∈ exts (losers hs e) (stepsIn hs e) k, ∀ p ∈ losers hs e, okp (stepsIn hs e) s p = true → Lv (stepsIn hs e) p = k := fun s hs1 p hp ho => by
      obtain ⟨h1, h2⟩ := okp_iff.mp ho
      have hb := b s hs1
      rcases Nat.lt_trichotomy (Lv (stepsIn hs e) p) k with z | z | z
      · have : Lv (stepsIn hs e) p ∈ s.map (Lv (stepsIn hs e)) := by rw [hb]; simpa using z
        obtain ⟨q, hq, e2⟩ := List.mem_map.mp this
        have := lev_inj g h ((exts_facts hs1).2.2 q hq) hp e2
        exact absurd (this ▸ hq) h1
      · exact z
      · obtain ⟨q, hq, e2⟩ := g.lev.pred (p := p) (k := Lv (stepsIn hs e) p - 1) (by omega)
        have hqs := h2 q hq
        have : Lv (stepsIn hs e) q ∈ s.map (Lv (stepsIn hs e)) := List.mem_map.mpr ⟨q, hqs, rfl⟩
        rw [hb] at this
        simp at this
        omega
    constructor
    · have a' : exts (losers hs e) (stepsIn hs e) k = [] ∨ ∃ s, exts (losers hs e) (stepsIn hs e) k = [s] := by
        match h3 : exts (losers hs e) (stepsIn hs e) k with
        | [] => exact .inl rfl
        | [s] => exact .inr ⟨s, rfl⟩
        | x :: y :: r => rw [h3] at a; simp at a
      rcases a' with e1 | ⟨s, e1⟩
      · simp [exts, e1]
      · simp only [exts, e1, List.flatMap_cons, List.flatMap_nil, List.append_nil, List.length_map]
        cases hf : (losers hs e).filter (okp (stepsIn hs e) s) with
        | nil => simp
        | cons x r =>
          rw [← hf]
          refine len_le_one (a := x) (List.Nodup.sublist List.filter_sublist (asc_nodup losers_asc)) fun y hy => ?_
          have hx : x ∈ (losers hs e).filter (okp (stepsIn hs e) s) := by rw [hf]; simp
          obtain ⟨y1, y2⟩ := List.mem_filter.mp hy
          obtain ⟨x1, x2⟩ := List.mem_filter.mp hx
          have hm : s ∈ exts (losers hs e) (stepsIn hs e) k := by rw [e1]; simp
          exact lev_inj g h y1 x1 ((key s hm y y1 y2).trans (key s hm x x1 x2).symm)
    · intro s hs1
      obtain ⟨t, p, rfl, ht, hp, h1, h2⟩ := mem_exts_succ.mp hs1
      rw [List.map_append, b t ht, List.range_succ]
      simp only [List.map_cons, List.map_nil]
      rw [key t ht p hp (okp_iff.mpr ⟨h1, h2⟩)]
noncomputable def ways (hs e : Hs) : Nat := getN (dp (losers hs e) (stepsIn hs e) (losers hs e).length) (losers hs e)
theorem losers_lt8 (hv : Valid hs) : ∀ p ∈ losers hs e, p < 8 := fun p hp => by
  have := hv.le
  have := (mem_losers.mp hp).1
  omega
theorem ways_eq (hv : Valid hs) : ways hs e = (exts (losers hs e) (stepsIn hs e) (losers hs e).length).length := dp_count losers_asc (losers_lt8 hv)
/-- one row alone, just if there are as many stages as losers -/
theorem ways_one (hv : Valid hs) (g : Good hs e) : ways hs e = 1 ↔ cs hs e = (losers hs e).length := by
  rw [ways_eq hv]
  have hpos : 0 < (exts (losers hs e) (stepsIn hs e) (losers hs e).length).length := List.length_pos_iff.mpr (List.ne_nil_of_mem (exts_ne g))
  constructor
  · intro h
    have := cs_le g
    cases Nat.lt_or_ge (cs hs e) (losers hs e).length with
    | inl q => have := two_rows g q; omega
    | inr q => omega
  · intro h
    have := (one_row g h (losers hs e).length).1
    omega
theorem ways_key (hv : Valid hs) (g : Good hs e) : losers hs e ∈ (dp (losers hs e) (stepsIn hs e) (losers hs e).length).map (·.1) := dp_key losers_asc (losers_lt8 hv) (List.ne_nil_of_mem (exts_ne g))
end
end LH

set_option Elab.async false
set_option linter.all false
set_option maxRecDepth 10000
namespace LH

/-! ### the keepers -/
abbrev Kp := List (Nat × Nat)
def getK (k : Kp) (t : Nat) : Nat := ((k.find? fun kv => decide (kv.1 = t)).map (·.2)).getD 0
def stepsOf (hs : Hs) (k : Kp) : List (Nat × Nat) := k.flatMap fun tp => ((holders hs tp.1).filter (· != tp.2)).map fun p => (p, tp.2)
def keepStep (hs : Hs) (found : List Kp) (t : Nat) : List Kp := found.flatMap fun k => ((holders hs t).filter fun p => !ring (stepsOf hs (k ++ [(t, p)]))).map fun p => k ++ [(t, p)]
def keepersM (hs : Hs) : List Kp := (things hs).foldl (keepStep hs) [[]]
def endBy (hs : Hs) (k : Kp) : Hs := (List.range hs.length).map fun p => (hand hs p).filter fun t => getK k t == p
def endsM (hs : Hs) : List Hs := (keepersM hs).map (endBy hs)

theorem Acyc.sub {a b : List (Nat × Nat)} (h : Acyc b) (hs : ∀ x ∈ a, x ∈ b) : Acyc a := let ⟨r, hr⟩ := h; ⟨r, fun x hx => hr x (hs x hx)⟩
section
variable {hs e : Hs}
theorem mem_stepsOf {k : Kp} {x : Nat × Nat} : x ∈ stepsOf hs k ↔ ∃ t, (t, x.2) ∈ k ∧ t ∈ hand hs x.1 ∧ x.1 ≠ x.2 := by
  unfold stepsOf
  simp only [List.mem_flatMap, List.mem_map, List.mem_filter, mem_holders, bne_iff_ne]
  constructor
  · rintro ⟨⟨t, p⟩, h1, q, ⟨h2, h3⟩, rfl⟩
    exact ⟨t, h1, h2, h3⟩
  · rintro ⟨t, h1, h2, h3⟩
    exact ⟨(t, x.2), h1, x.1, ⟨h2, h3⟩, rfl⟩
def KpOk (hs : Hs) (k : Kp) : Prop := ∀ x ∈ k, x.1 ∈ hand hs x.2
theorem stepsOf_lt (hv : Valid hs) {k : Kp} (h : KpOk hs k) : ∀ x ∈ stepsOf hs k, x.1 < 8 ∧ x.2 < 8 := fun x hx => by
  obtain ⟨t, h1, h2, _⟩ := mem_stepsOf.mp hx
  have a := lt_of_hand (h _ h1)
  have b := lt_of_hand h2
  have := hv.le
  simp only at a
  omega
theorem mem_fold (hv : Valid hs) : ∀ (ts : List Nat) (found : List Kp) (k : Kp), (∀ k0 ∈ found, KpOk hs k0) → (k ∈ ts.foldl (keepStep hs) found ↔
    ∃ k0 ∈ found, ∃ ext, k = k0 ++ ext ∧ ext.map (·.1) = ts ∧ KpOk hs ext ∧ (ext ≠ [] → Acyc (stepsOf hs k)))
  | [], found, k, _ => by
    simp only [List.foldl_nil, List.map_eq_nil_iff]
    constructor
    · intro h; exact ⟨k, h, [], by simp, rfl, by simp [KpOk], fun z => absurd rfl z⟩
    · rintro ⟨k0, h, ext, rfl, rfl, _, _⟩; simpa using h
  | t :: ts, found, k, hf => by
    have hf2 : ∀ k0 ∈ keepStep hs found t, KpOk hs k0 := fun k1 h1 => by
      unfold keepStep at h1
      obtain ⟨k0, h0, h1⟩ := List.mem_flatMap.mp h1
      obtain ⟨p, hp, rfl⟩ := List.mem_map.mp h1
      have hp := mem_holders.mp (List.mem_filter.mp hp).1
      intro x hx
      rcases List.mem_append.mp hx with hx | hx
      · exact hf k0 h0 x hx
      · simp at hx; subst hx; exact hp
    rw [List.foldl_cons, mem_fold hv ts _ k hf2]
    constructor
    · rintro ⟨k1, h1, ext, rfl, h2, h3, h4⟩
      have ok1 := hf2 k1 h1
      unfold keepStep at h1
      obtain ⟨k0, h0, h1⟩ := List.mem_flatMap.mp h1
      obtain ⟨p, hp, rfl⟩ := List.mem_map.mp h1
      obtain ⟨hp, hr⟩ := List.mem_filter.mp hp
      have hp := mem_holders.mp hp
      have hr : ring (stepsOf hs (k0 ++ [(t, p)])) = false := by simpa using hr
      refine ⟨k0, h0, (t, p) :: ext, by simp, by simp [h2], fun x hx => ?_, fun _ => ?_⟩
      · rcases List.mem_cons.mp hx with rfl | hx
        · exact hp
        · exact h3 x hx
      · cases ext with
        | nil => simpa using (ring_iff (stepsOf_lt hv ok1)).mp hr
        | cons y ext => exact h4 (by simp)
    · rintro ⟨k0, h0, ext, rfl, h2, h3, h4⟩
      cases ext with
      | nil => simp at h2
      | cons x ext =>
        obtain ⟨t', p⟩ := x
        simp only [List.map_cons, List.cons.injEq] at h2
        obtain ⟨rfl, h2⟩ := h2
        have ac := h4 (by simp)
        have ok1 : KpOk hs (k0 ++ [(t', p)]) := fun x hx => by
          rcases List.mem_append.mp hx with hx | hx
          · exact hf k0 h0 x hx
          · exact h3 x (by simp at hx; subst hx; simp)
        have ac1 : Acyc (stepsOf hs (k0 ++ [(t', p)])) := ac.sub fun x hx => by
          obtain ⟨t, a, b⟩ := mem_stepsOf.mp hx
          refine mem_stepsOf.mpr ⟨t, ?_, b⟩
          rcases List.mem_append.mp a with a | a
          · exact List.mem_append_left _ a
          · simp at a
            obtain ⟨rfl, a2⟩ := a
            exact List.mem_append_right _ (by rw [a2]; simp)
        refine ⟨k0 ++ [(t', p)], ?_, ext, by simp, h2, fun x hx => h3 x (List.mem_cons_of_mem _ hx), fun _ => by simpa using ac⟩
        unfold keepStep
        refine List.mem_flatMap.mpr ⟨k0, h0, List.mem_map.mpr ⟨p, List.mem_filter.mpr ⟨mem_holders.mpr (h3 (t', p) (by simp)), ?_⟩, rfl⟩⟩
        rw [(ring_iff (stepsOf_lt hv ok1)).mpr ac1]; rfl
theorem mem_keepers (hv : Valid hs) {k : Kp} : k ∈ keepersM hs ↔ k.map (·.1) = things hs ∧ KpOk hs k ∧ Acyc (stepsOf hs k) := by
  unfold keepersM
  rw [mem_fold hv _ _ _ (by simp [KpOk])]
  constructor
  · rintro ⟨k0, h0, ext, rfl, h2, h3, h4⟩
    simp at h0
    subst h0
    simp only [List.nil_append] at h4 ⊢
    refine ⟨h2, h3, ?_⟩
    cases ext with
    | nil => exact ⟨fun _ => 0, fun x hx => by simp [stepsOf] at hx⟩
    | cons x ext => exact h4 (by simp)
  · rintro ⟨h1, h2, h3⟩
    exact ⟨[], by simp, k, by simp, h1, h2, fun _ => h3⟩
theorem getK_mem {k : Kp} {t : Nat} (h : t ∈ k.map (·.1)) : (t, getK k t) ∈ k := by
  unfold getK
  cases hf : k.find? fun kv => decide (kv.1 = t) with
  | none =>
    obtain ⟨x, hx, rfl⟩ := List.mem_map.mp h
    have := List.find?_eq_none.mp hf x hx
    simp at this
  | some x =>
    have h1 := List.mem_of_find?_eq_some hf
    have h2 : x.1 = t := by simpa using List.find?_some hf
    simp only [Option.map_some, Option.getD_some]
    rw [← h2]
    exact h1
theorem hand_endBy {k : Kp} {p : Nat} : hand (endBy hs k) p = (hand hs p).filter fun t => getK k t == p := by
  unfold endBy
  rw [hand_map]
  by_cases h : p < hs.length
  · rw [if_pos h]
  · rw [if_neg h, hand_out (by omega)]; rfl
theorem good_of_keeper (hv : Valid hs) {k : Kp} (h : k ∈ keepersM hs) : Good hs (endBy hs k) := by
  obtain ⟨h1, h2, h3⟩ := (mem_keepers hv).mp h
  have key : ∀ p t, t ∈ hand hs p → (t, getK k t) ∈ k := fun p t ht => getK_mem (by rw [h1]; exact (mem_things hv).mpr ⟨p, ht⟩)
  have mem : ∀ p t, t ∈ hand (endBy hs k) p ↔ t ∈ hand hs p ∧ getK k t = p := fun p t => by
    rw [hand_endBy]; simp
  refine ⟨by simp [endBy], fun p => ?_, fun p t ht => ⟨getK k t, (mem _ _).mpr ⟨h2 _ (key p t ht), rfl⟩⟩, fun p q t a b => ((mem _ _).mp a).2.symm.trans ((mem _ _).mp b).2, h3.sub fun x hx => ?_⟩
  · conv => lhs; rw [hand_endBy]
    apply List.filter_congr
    intro t ht
    rw [Bool.eq_iff_iff]
    simp only [beq_iff_eq, List.contains_iff_mem]
    rw [mem]
    exact ⟨fun z => ⟨ht, z⟩, fun z => z.2⟩
  · obtain ⟨a, b, t, c, d⟩ := mem_stepsIn.mp hx
    obtain ⟨c1, c2⟩ := (mem _ _).mp c
    have := key _ t c1
    rw [c2] at this
    exact mem_stepsOf.mpr ⟨t, this, d, b⟩
def keeperOf (hs e : Hs) (t : Nat) : Nat := ((List.range hs.length).find? fun p => (hand e p).contains t).getD 0
theorem keeperOf_mem (g : Good hs e) {p t : Nat} (h : t ∈ hand e p) : keeperOf hs e t = p := by
  unfold keeperOf
  cases hf : (List.range hs.length).find? fun p => (hand e p).contains t with
  | none =>
    have hp : p < hs.length := by have := lt_of_hand h; rw [g.len] at this; exact this
    have := List.find?_eq_none.mp hf p (by simpa using hp)
    simp at this
    exact absurd h this
  | some x =>
    have h2 : t ∈ hand e x := by simpa using List.find?_some hf
    exact g.one x p t h2 h
theorem good_mem (hv : Valid hs) (g : Good hs e) : e ∈ endsM hs := by
  have kp : ∀ t, t ∈ things hs → t ∈ hand e (keeperOf hs e t) := fun t ht => by
    obtain ⟨p, hp⟩ := (mem_things hv).mp ht
    obtain ⟨q, hq⟩ := g.keep p t hp
    rw [keeperOf_mem g hq]; exact hq
  have hmem : (things hs).map (fun t => (t, keeperOf hs e t)) ∈ keepersM hs := by
    refine (mem_keepers hv).mpr ⟨by rw [List.map_map]; exact (List.map_congr_left (fun t _ => rfl)).trans (List.map_id _), fun x hx => ?_, ?_⟩
    · obtain ⟨t, ht, rfl⟩ := List.mem_map.mp hx
      exact g.mem (kp t ht)
    · obtain ⟨r, hr⟩ := g.acyc
      refine ⟨fun p => if p ∈ losers hs e then r p else mx ((losers hs e).map r) + 1, fun x hx => ?_⟩
      obtain ⟨t, h1, h2, h3⟩ := mem_stepsOf.mp hx
      obtain ⟨t', ht, e1⟩ := List.mem_map.mp h1
      have e2 : t' = t := congrArg Prod.fst e1
      have e3 : keeperOf hs e t' = x.2 := congrArg Prod.snd e1
      subst e2
      have hk := kp t' ht
      rw [e3] at hk
      have hq : x.1 ∈ losers hs e := mem_losers.mpr ⟨lt_of_hand h2, fun z => h3 (g.one _ _ t' (by rw [← z]; exact h2) hk)⟩
      show (if x.1 ∈ losers hs e then r x.1 else _) < (if x.2 ∈ losers hs e then r x.2 else _)
      rw [if_pos hq]
      by_cases hl : x.2 ∈ losers hs e
      · rw [if_pos hl]
        exact hr x (mem_stepsIn.mpr ⟨hl, h3, t', hk, h2⟩)
      · rw [if_neg hl]
        have := le_mx (List.mem_map.mpr ⟨x.1, hq, rfl⟩ : r x.1 ∈ (losers hs e).map r)
        omega
  refine List.mem_map.mpr ⟨_, hmem, ?_⟩
  refine hs_ext (by simp [endBy, g.len]) fun p hp => ?_
  rw [hand_endBy]
  conv => rhs; rw [g.sub p]
  apply List.filter_congr
  intro t ht
  have hth : t ∈ things hs := (mem_things hv).mpr ⟨p, ht⟩
  have hk : getK ((things hs).map fun t => (t, keeperOf hs e t)) t = keeperOf hs e t := by
    have := getK_mem (k := (things hs).map fun t => (t, keeperOf hs e t)) (t := t) (List.mem_map.mpr ⟨(t, keeperOf hs e t), List.mem_map.mpr ⟨t, hth, rfl⟩, rfl⟩)
    obtain ⟨t', _, e1⟩ := List.mem_map.mp this
    have e2 : t' = t := congrArg Prod.fst e1
    have e3 := congrArg Prod.snd e1
    simp only at e3
    rw [← e3, e2]
  rw [hk, Bool.eq_iff_iff]
  simp only [beq_iff_eq, List.contains_iff_mem]
  constructor
  · rintro rfl; exact kp t hth
  · intro h; exact keeperOf_mem g h
theorem mem_endsM (hv : Valid hs) : e ∈ endsM hs ↔ Good hs e := by
  constructor
  · intro h
    obtain ⟨k, hk, rfl⟩ := List.mem_map.mp h
    exact good_of_keeper hv hk
  · exact good_mem hv
/-- there is an end: each thing with the last who holds it -/
theorem good_exists (hs : Hs) : ∃ e, Good hs e := by
  have mem : ∀ p t, t ∈ hand ((List.range hs.length).map fun p => (hand hs p).filter fun t => (holders hs t).all fun q => decide (q ≤ p)) p ↔ t ∈ hand hs p ∧ ∀ q, t ∈ hand hs q → q ≤ p := fun p t => by
    have he : hand ((List.range hs.length).map fun p => (hand hs p).filter fun t => (holders hs t).all fun q => decide (q ≤ p)) p = (hand hs p).filter fun t => (holders hs t).all fun q => decide (q ≤ p) := by
      rw [hand_map]
      by_cases h : p < hs.length
      · rw [if_pos h]
      · rw [if_neg h, hand_out (by omega)]; rfl
    rw [he]
    simp only [List.mem_filter, List.all_eq_true, decide_eq_true_eq, mem_holders]
  refine ⟨(List.range hs.length).map fun p => (hand hs p).filter fun t => (holders hs t).all fun q => decide (q ≤ p), by simp, fun p => ?_, fun p t ht => ?_, fun p q t a b => ?_, fun p => p, fun x hx => ?_⟩
  · have e1 : hand ((List.range hs.length).map fun p => (hand hs p).filter fun t => (holders hs t).all fun q => decide (q ≤ p)) p = (hand hs p).filter fun t => (holders hs t).all fun q => decide (q ≤ p) := by
      rw [hand_map]
      by_cases h : p < hs.length
      · rw [if_pos h]
      · rw [if_neg h, hand_out (by omega)]; rfl
    rw [e1]
    apply List.filter_congr
    intro t ht
    rw [Bool.eq_iff_iff]
    simp only [List.contains_iff_mem, List.mem_filter]
    exact ⟨fun z => ⟨ht, z⟩, fun z => z.2⟩
  · have hne : holders hs t ≠ [] := List.ne_nil_of_mem (mem_holders.mpr ht)
    refine ⟨mx (holders hs t), (mem _ _).mpr ⟨mem_holders.mp (mx_mem hne), fun q hq => le_mx (mem_holders.mpr hq)⟩⟩
  · have a := (mem _ _).mp a
    have b := (mem _ _).mp b
    have := a.2 q b.1
    have := b.2 p a.1
    omega
  · obtain ⟨a, b, t, c, d⟩ := mem_stepsIn.mp hx
    have := ((mem _ _).mp c).2 _ d
    show x.1 < x.2
    omega
theorem endsM_ne (hv : Valid hs) : endsM hs ≠ [] := by
  obtain ⟨e, g⟩ := good_exists hs
  exact List.ne_nil_of_mem (good_mem hv g)
end

/-! ### rounds -/
def Rch (hs : Hs) : Nat → Hs → Prop
  | 0, h => h = hs
  | k + 1, h => ∃ h', Rch hs k h' ∧ ∃ S ∈ choices hs.length, together h' S = h ∧ things h = things hs
section
variable {hs e : Hs}
theorem Rch.stages (g : Good hs e) : ∀ k, Rch hs k (mid hs e k)
  | 0 => mid_zero g
  | k + 1 => ⟨mid hs e k, Rch.stages g k, part hs e k, part_choice, stage_step g k, mid_things g _⟩
theorem Rch.to_end (g : Good hs e) : Rch hs (cs hs e) e := by
  have := Rch.stages g (cs hs e)
  rwa [mid_end g (Nat.le_refl _)] at this
structure Way (hs h : Hs) (k : Nat) : Prop where
  len : h.length = hs.length
  sub : ∀ p, hand h p = (hand hs p).filter fun t => (hand h p).contains t
  keep : ∀ p t, t ∈ hand hs p → ∃ q, t ∈ hand h q
  turn : ∃ g : Nat → Nat, (∀ p, hand h p ≠ hand hs p → g p < k) ∧ ∀ p q t, p ≠ q → hand h p ≠ hand hs p → t ∈ hand h p → t ∈ hand hs q → t ∉ hand h q ∧ g q < g p
theorem sub_trans {a b c : List Nat} (h1 : b = a.filter fun t => b.contains t) (h2 : ∃ f : Nat → Bool, c = b.filter f) : c = a.filter fun t => c.contains t := by
  obtain ⟨f, h2⟩ := h2
  have e1 : c = a.filter fun t => b.contains t && f t := by
    rw [h2]
    conv => lhs; rw [h1]
    rw [List.filter_filter]
    apply List.filter_congr
    intro t _
    rw [Bool.and_comm]
  conv => lhs; rw [e1]
  apply List.filter_congr
  intro t ht
  rw [Bool.eq_iff_iff]
  simp only [Bool.and_eq_true, List.contains_iff_mem]
  rw [e1]
  simp only [List.mem_filter, Bool.and_eq_true, List.contains_iff_mem]
  exact ⟨fun z => ⟨ht, z⟩, fun z => z.2⟩
theorem Rch.way (hv : Valid hs) : ∀ {k : Nat} {h : Hs}, Rch hs k h → Way hs h k
  | 0, h, r => by
    have e : h = hs := r
    subst e
    refine ⟨rfl, fun p => (List.filter_eq_self.mpr fun t ht => by simpa using ht).symm, fun p t ht => ⟨p, ht⟩, fun _ => 0, fun p hp => absurd rfl hp, fun p q t _ hp => absurd rfl hp⟩
  | k + 1, h, r => by
    obtain ⟨h', r', S, _, e, et⟩ := r
    obtain ⟨w1, w2, w3, g, w4, w5⟩ := Rch.way hv r'
    have hlen : h.length = hs.length := by rw [← e, together_len, w1]
    have hsub : ∀ p, ∃ f : Nat → Bool, hand h p = (hand h' p).filter f := fun p => ⟨_, by rw [← e]; exact hand_together⟩
    have sub' : ∀ p t, t ∈ hand h p → t ∈ hand h' p := fun p t ht => by
      obtain ⟨f, hf⟩ := hsub p
      rw [hf] at ht
      exact (List.mem_filter.mp ht).1
    have subh : ∀ p t, t ∈ hand h' p → t ∈ hand hs p := fun p t ht => by
      rw [w2 p] at ht
      exact (List.mem_filter.mp ht).1
    have hvh : Valid h := valid_sub hv hlen fun p => by
      obtain ⟨f, hf⟩ := hsub p
      refine ⟨_, sub_trans (w2 p) ⟨f, hf⟩⟩
    refine ⟨hlen, fun p => sub_trans (w2 p) (hsub p), fun p t ht => ?_, fun p => if hand h' p ≠ hand hs p then g p else k, fun p hp => ?_, fun p q t hne hp ht hq => ?_⟩
    · have : t ∈ things h := by rw [et]; exact (mem_things hv).mpr ⟨p, ht⟩
      exact (mem_things hvh).mp this
    · show (if hand h' p ≠ hand hs p then g p else k) < k + 1
      split
      · rename_i z; have := w4 p z; omega
      · omega
    · show t ∉ hand h q ∧ (if hand h' q ≠ hand hs q then g q else k) < (if hand h' p ≠ hand hs p then g p else k)
      by_cases hp' : hand h' p ≠ hand hs p
      · obtain ⟨a, b⟩ := w5 p q t hne hp' (sub' p t ht) hq
        have hq' : hand h' q ≠ hand hs q := fun z => a (by rw [z]; exact hq)
        rw [if_pos hq', if_pos hp']
        exact ⟨fun z => a (sub' q t z), b⟩
      · have hp2 : hand h' p = hand hs p := by
          cases Decidable.em (hand h' p = hand hs p) with
          | inl z => exact z
          | inr z => exact absurd z hp'
        -- called just now
        have hS : S.contains p = true := by
          cases hS : S.contains p with
          | true => rfl
          | false =>
            exfalso
            apply hp
            rw [← e, hand_together, hS, hp2]
            exact List.filter_eq_self.mpr fun _ _ => rfl
        have hns : t ∉ spare h' p := by
          have ht2 := ht
          rw [← e, hand_together, if_pos hS] at ht2
          have := (List.mem_filter.mp ht2).2
          simpa using this
        have a : t ∉ hand h' q := fun z => hns (mem_spare.mpr ⟨sub' p t ht, two_le (mem_holders.mpr (sub' p t ht)) (mem_holders.mpr z) hne⟩)
        have hq' : hand h' q ≠ hand hs q := fun z => a (by rw [z]; exact hq)
        rw [if_pos hq', if_neg hp']
        exact ⟨fun z => a (sub' q t z), w4 q hq'⟩
theorem Way.good {h : Hs} {k : Nat} (w : Way hs h k) (he : isEnd h = true) : Good hs h ∧ cs hs h ≤ k := by
  obtain ⟨w1, w2, w3, g, w4, w5⟩ := w
  have hr : ∀ x ∈ stepsIn hs h, g x.1 < g x.2 := fun x hx => by
    obtain ⟨a, b, t, c, d⟩ := mem_stepsIn.mp hx
    exact (w5 x.2 x.1 t (fun z => b z.symm) (fun z => (mem_losers.mp a).2 z.symm) c d).2
  have gd : Good hs h := ⟨w1, w2, w3, isEnd_iff.mp he, g, hr⟩
  refine ⟨gd, ?_⟩
  unfold cs
  split
  · omega
  · rename_i hne
    have hm := mx_mem (l := (losers hs h).map (Lv (stepsIn hs h))) (by simpa using hne)
    obtain ⟨p, hp, e⟩ := List.mem_map.mp hm
    rw [← e]
    have h1 := gd.lev.le hr p
    have h2 := w4 p fun z => (mem_losers.mp hp).2 z.symm
    omega

/-! ### the search, round by round -/
def bfsIn (hs : Hs) (mf : List Hs × List Hs) (there : Hs) : List Hs × List Hs := if !(mf.1.contains there) && things there == things hs then (mf.1 ++ [there], mf.2 ++ [there]) else mf
def childs (n : Nat) (last : List Hs) : List Hs := last.flatMap fun h => (choices n).map (together h)
/-- (last, met) behind so many rounds -/
def bfs (hs : Hs) : Nat → List Hs × List Hs
  | 0 => ([hs], [hs])
  | k + 1 => let r := (childs hs.length (bfs hs k).1).foldl (bfsIn hs) ((bfs hs k).2, []); (r.2, r.1)
theorem bfsIn_ok : ∀ (l : List Hs) (mf : List Hs × List Hs), ∃ new, (l.foldl (bfsIn hs) mf) = (mf.1 ++ new, mf.2 ++ new) ∧ new.length ≤ l.length ∧ (∀ x ∈ new, x ∈ l ∧ things x = things hs) ∧ ∀ x ∈ l, things x = things hs → x ∈ mf.1 ++ new
  | [], mf => ⟨[], by simp, by simp, by simp, by simp⟩
  | a :: l, mf => by
    rw [List.foldl_cons]
    by_cases h : (!(mf.1.contains a) && things a == things hs) = true
    · obtain ⟨new, h1, h2, h3, h4⟩ := bfsIn_ok l (mf.1 ++ [a], mf.2 ++ [a])
      have e : bfsIn hs mf a = (mf.1 ++ [a], mf.2 ++ [a]) := by unfold bfsIn; rw [if_pos h]
      simp only [Bool.and_eq_true, beq_iff_eq] at h
      refine ⟨a :: new, by rw [e, h1]; simp, by simp only [List.length_cons]; omega, fun x hx => ?_, fun x hx ht => ?_⟩
      · rcases List.mem_cons.mp hx with rfl | hx
        · exact ⟨by simp, h.2⟩
        · exact ⟨List.mem_cons_of_mem _ (h3 x hx).1, (h3 x hx).2⟩
      · rcases List.mem_cons.mp hx with rfl | hx
        · simp
        · have := h4 x hx ht
          simpa using this
    · obtain ⟨new, h1, h2, h3, h4⟩ := bfsIn_ok l mf
      have e : bfsIn hs mf a = mf := by unfold bfsIn; rw [if_neg h]
      refine ⟨new, by rw [e, h1], by simp only [List.length_cons]; omega, fun x hx => ⟨List.mem_cons_of_mem _ (h3 x hx).1, (h3 x hx).2⟩, fun x hx ht => ?_⟩
      rcases List.mem_cons.mp hx with rfl | hx
      · have : mf.1.contains x = true := by
          cases hc : mf.1.contains x with
          | true => rfl
          | false =>
            exfalso; apply h
            rw [hc, ht]; simp
        exact List.mem_append_left _ (by simpa using this)
      · exact h4 x hx ht
theorem bfs_succ (k : Nat) : ∃ new, bfs hs (k + 1) = (new, (bfs hs k).2 ++ new) ∧ new.length ≤ (childs hs.length (bfs hs k).1).length ∧ (∀ x ∈ new, x ∈ childs hs.length (bfs hs k).1 ∧ things x = things hs) ∧
    ∀ x ∈ childs hs.length (bfs hs k).1, things x = things hs → x ∈ (bfs hs k).2 ++ new := by
  obtain ⟨new, h1, h2, h3, h4⟩ := bfsIn_ok (hs := hs) (childs hs.length (bfs hs k).1) ((bfs hs k).2, [])
  refine ⟨new, ?_, h2, h3, h4⟩
  show ((((childs hs.length (bfs hs k).1).foldl (bfsIn hs) ((bfs hs k).2, [])).2, ((childs hs.length (bfs hs k).1).foldl (bfsIn hs) ((bfs hs k).2, [])).1) : List Hs × List Hs) = _
  rw [h1]; simp
theorem bfs_last : ∀ {k : Nat} {h : Hs}, h ∈ (bfs hs k).1 → Rch hs k h
  | 0, h, hm => by
    simp [bfs] at hm
    exact hm
  | k + 1, h, hm => by
    obtain ⟨new, h1, _, h3, _⟩ := bfs_succ (hs := hs) k
    rw [h1] at hm
    obtain ⟨a, b⟩ := h3 h hm
    obtain ⟨h', c, d⟩ := List.mem_flatMap.mp a
    obtain ⟨S, hS, e⟩ := List.mem_map.mp d
    exact ⟨h', bfs_last c, S, hS, e, b⟩
theorem bfs_met_mono {k : Nat} {h : Hs} (hm : h ∈ (bfs hs k).2) : h ∈ (bfs hs (k + 1)).2 := by
  obtain ⟨new, h1, _⟩ := bfs_succ (hs := hs) k
  rw [h1]
  exact List.mem_append_left _ hm
theorem bfs_met_le {j k : Nat} {h : Hs} (hjk : j ≤ k) (hm : h ∈ (bfs hs j).2) : h ∈ (bfs hs k).2 := by
  induction hjk with
  | refl => exact hm
  | step _ ih => exact bfs_met_mono ih
theorem bfs_met_last : ∀ {k : Nat} {h : Hs}, h ∈ (bfs hs k).2 → ∃ j, j ≤ k ∧ h ∈ (bfs hs j).1
  | 0, h, hm => ⟨0, Nat.le_refl _, hm⟩
  | k + 1, h, hm => by
    obtain ⟨new, h1, _⟩ := bfs_succ (hs := hs) k
    have h1' := h1
    rw [h1] at hm
    rcases List.mem_append.mp hm with hm | hm
    · obtain ⟨j, hj, hl⟩ := bfs_met_last hm
      exact ⟨j, by omega, hl⟩
    · exact ⟨k + 1, Nat.le_refl _, by rw [h1]; exact hm⟩
theorem bfs_met : ∀ {k : Nat} {h : Hs}, Rch hs k h → h ∈ (bfs hs k).2
  | 0, h, r => by
    have e : h = hs := r
    subst e
    simp [bfs]
  | k + 1, h, r => by
    obtain ⟨h', r', S, hS, e, et⟩ := r
    obtain ⟨j, hj, hl⟩ := bfs_met_last (bfs_met r')
    obtain ⟨new, h1, _, _, h4⟩ := bfs_succ (hs := hs) j
    have := h4 h (List.mem_flatMap.mpr ⟨h', hl, List.mem_map.mpr ⟨S, hS, e⟩⟩) et
    refine bfs_met_le (j := j + 1) (by omega) ?_
    rw [h1]
    exact this
/-- the number of rounds that the search gives -/
def few (hs : Hs) : Nat := ((List.range 5).find? fun m => (bfs hs m).1.any isEnd).getD 0
theorem few_ok (hv : Valid hs) : few hs ≤ 4 ∧ ((bfs hs (few hs)).1.any isEnd = true) ∧ ∀ k, k < few hs → (bfs hs k).1.any isEnd = false := by
  obtain ⟨e, g⟩ := good_exists hs
  have h1 := bfs_met_last (bfs_met (Rch.to_end g))
  obtain ⟨j, hj, hl⟩ := h1
  have hc := cs_le g
  have hl2 := losers_le (hs := hs) (e := e)
  have := hv.le
  have hany : (bfs hs j).1.any isEnd = true := List.any_eq_true.mpr ⟨e, hl, g.isEnd⟩
  unfold few
  cases hf : (List.range 5).find? fun m => (bfs hs m).1.any isEnd with
  | none =>
    have := List.find?_eq_none.mp hf j (by simp; omega)
    exact absurd hany this
  | some m =>
    simp only [Option.getD_some]
    have hm := List.mem_of_find?_eq_some hf
    refine ⟨by simp at hm; omega, (by have := List.find?_some hf; simpa using this), fun k hk => ?_⟩
    obtain ⟨_, as, bs, e1, h2⟩ := List.find?_eq_some_iff_append.mp hf
    have hlt : as.length = m := by
      have h3 : (List.range 5)[as.length]? = some m := by rw [e1]; simp
      obtain ⟨h4, h5⟩ := List.getElem?_eq_some_iff.mp h3
      simpa using h5
    have hk2 : k ∈ as := by
      have h3 : (List.range 5)[k]? = some k := by
        rw [List.getElem?_range]
        simp at hm; omega
      rw [e1, List.getElem?_append_left (by omega)] at h3
      exact List.mem_of_getElem? h3
    have := h2 k hk2
    simpa using this
theorem few_min (hv : Valid hs) {few' : List Nat} {m : Nat} (hl : ∀ y, y ∈ few' ↔ ∃ e, Good hs e ∧ cs hs e = y) (h1 : m ∈ few') (h2 : ∀ y ∈ few', m ≤ y) : few hs = m := by
  obtain ⟨h4, ha, hb⟩ := few_ok hv
  obtain ⟨e, he, hee⟩ := List.any_eq_true.mp ha
  obtain ⟨g, hc⟩ := ((bfs_last he).way hv).good hee
  have a := h2 _ ((hl _).mpr ⟨e, g, rfl⟩)
  obtain ⟨e0, g0, rfl⟩ := (hl m).mp h1
  obtain ⟨j, hj, hl0⟩ := bfs_met_last (bfs_met (Rch.to_end g0))
  have hany : (bfs hs j).1.any isEnd = true := List.any_eq_true.mpr ⟨e0, hl0, g0.isEnd⟩
  have : ¬ j < few hs := fun z => by rw [hb j z] at hany; cases hany
  omega
theorem childs_len (hv : Valid hs) (l : List Hs) : (childs hs.length l).length ≤ l.length * 16 := by
  unfold childs
  rw [List.length_flatMap]
  simp only [List.length_map, choices_len]
  have h16 : 2 ^ hs.length ≤ 16 := Nat.le_trans (Nat.pow_le_pow_right (by decide) hv.le) (by decide)
  rw [List.map_const', List.sum_replicate_nat]
  exact Nat.mul_le_mul_left _ h16
theorem bfs_len (hv : Valid hs) : ∀ k, (bfs hs k).1.length ≤ 16 ^ k ∧ (bfs hs k).2.length ≤ 2 * 16 ^ k
  | 0 => by simp [bfs]
  | k + 1 => by
    obtain ⟨a, b⟩ := bfs_len hv k
    obtain ⟨new, h1, h2, _⟩ := bfs_succ (hs := hs) k
    have := childs_len hv (bfs hs k).1
    rw [h1, Nat.pow_succ]
    simp only [List.length_append]
    omega
theorem bfs_valid (hv : Valid hs) {k : Nat} {h : Hs} (hm : h ∈ (bfs hs k).2) : Valid h ∧ h.length = hs.length := by
  obtain ⟨j, _, hl⟩ := bfs_met_last hm
  have w := (bfs_last hl).way hv
  exact ⟨valid_sub hv w.len fun p => ⟨_, w.sub p⟩, w.len⟩
theorem bfs_valid1 (hv : Valid hs) {k : Nat} {h : Hs} (hm : h ∈ (bfs hs k).1) : Valid h ∧ h.length = hs.length := by
  have w := (bfs_last hm).way hv
  exact ⟨valid_sub hv w.len fun p => ⟨_, w.sub p⟩, w.len⟩
end
end LH

set_option Elab.async false
set_option linter.all false
set_option maxRecDepth 10000
namespace LH

/-! ### the stages, as the program finds them -/
def hasK (f : Kp) (q : Nat) : Bool := f.any fun kv => decide (kv.1 = q)
def stVal (st : List (Nat × Nat)) (f : Kp) (p : Nat) : Nat := if (preds st p).isEmpty then 0 else 1 + mx ((preds st p).map (getK f))
def stIn (st : List (Nat × Nat)) (f : Kp) (p : Nat) : Kp := if !(hasK f p) && (preds st p).all (hasK f) then f ++ [(p, stVal st f p)] else f
def stPass (st : List (Nat × Nat)) (left : List Nat) (f : Kp) : Kp := left.foldl (stIn st) f
def stF (st : List (Nat × Nat)) (left : List Nat) : Nat → Kp → Kp
  | 0, f => f
  | n + 1, f => if f.length < left.length then stF st left n (stPass st left f) else f
def stagesM (hs e : Hs) : Kp := stF (stepsIn hs e) (losers hs e) 8 []

theorem hasK_iff {f : Kp} {q : Nat} : hasK f q = true ↔ q ∈ f.map (·.1) := by
  unfold hasK
  simp only [List.any_eq_true, decide_eq_true_eq, List.mem_map]
structure StOk (L : Nat → Nat) (left : List Nat) (f : Kp) : Prop where
  nd : (f.map (·.1)).Nodup
  sub : ∀ x ∈ f, x.1 ∈ left ∧ x.2 = L x.1
section
variable {st : List (Nat × Nat)} {left : List Nat} {L : Nat → Nat}
theorem StOk.getK {f : Kp} (h : StOk L left f) {q : Nat} (hq : q ∈ f.map (·.1)) : LH.getK f q = L q := (h.sub _ (getK_mem hq)).2
theorem StOk.step {f : Kp} (hL : IsLev st L) (h : StOk L left f) {p : Nat} (hp : p ∈ left) : StOk L left (stIn st f p) := by
  unfold stIn
  split
  · rename_i hc
    simp only [Bool.and_eq_true, Bool.not_eq_true', List.all_eq_true] at hc
    obtain ⟨c1, c2⟩ := hc
    have c1 : p ∉ f.map (·.1) := fun z => by rw [hasK_iff.mpr z] at c1; cases c1
    refine ⟨?_, fun x hx => ?_⟩
    · rw [List.map_append, List.nodup_append]
      refine ⟨h.nd, by simp, fun a ha b hb => ?_⟩
      simp at hb
      subst hb
      rintro rfl
      exact c1 ha
    · rcases List.mem_append.mp hx with hx | hx
      · exact h.sub x hx
      · simp at hx
        subst hx
        refine ⟨hp, ?_⟩
        show stVal st f p = L p
        unfold stVal
        rw [hL p]
        by_cases e : preds st p = []
        · simp [e]
        · have : (preds st p).isEmpty = false := by simpa using e
          rw [this, if_neg e]
          simp only [Bool.false_eq_true, if_false]
          congr 1
          exact mx_map_congr fun q hq => h.getK (hasK_iff.mp (c2 q hq))
  · exact h
theorem stIn_keys {f : Kp} {p q : Nat} (h : q ∈ f.map (·.1)) : q ∈ (stIn st f p).map (·.1) := by
  unfold stIn
  split
  · rw [List.map_append]; exact List.mem_append_left _ h
  · exact h
theorem fold_keys : ∀ {l : List Nat} {f : Kp} {q : Nat}, q ∈ f.map (·.1) → q ∈ (l.foldl (stIn st) f).map (·.1)
  | [], _, _, h => h
  | a :: l, f, q, h => by rw [List.foldl_cons]; exact fold_keys (stIn_keys h)
theorem fold_ok (hL : IsLev st L) : ∀ {l : List Nat} {f : Kp}, (∀ p ∈ l, p ∈ left) → StOk L left f → StOk L left (l.foldl (stIn st) f)
  | [], _, _, h => h
  | a :: l, f, hl, h => by
    rw [List.foldl_cons]
    exact fold_ok hL (fun p hp => hl p (List.mem_cons_of_mem _ hp)) (h.step hL (hl a (by simp)))
theorem StOk.len (hn : left.Nodup) {f : Kp} (h : StOk L left f) : f.length ≤ left.length := by
  have := List.Nodup.length_le_of_subset h.nd (l₂ := left) fun q hq => by
    obtain ⟨x, hx, rfl⟩ := List.mem_map.mp hq
    exact (h.sub x hx).1
  simpa using this
theorem pass_more (hL : IsLev st L) (hn : left.Nodup) (hc : ∀ x ∈ st, x.2 ∈ left → x.1 ∈ left) {f : Kp} (h : StOk L left f) (hlt : f.length < left.length) : f.length < (stPass st left f).length := by
  have hne : left.filter (fun p => !hasK f p) ≠ [] := fun z => by
    have hsub : ∀ p ∈ left, p ∈ f.map (·.1) := fun p hp => by
      have := List.filter_eq_nil_iff.mp z p hp
      exact hasK_iff.mp (by simpa using this)
    have := List.Nodup.length_le_of_subset hn (l₂ := f.map (·.1)) fun p hp => hsub p hp
    simp at this
    omega
  obtain ⟨p, hp, hm⟩ := least_of L _ hne
  obtain ⟨hpl, hpf⟩ := List.mem_filter.mp hp
  have hpf : p ∉ f.map (·.1) := fun z => by rw [hasK_iff.mpr z] at hpf; cases hpf
  have hpre : ∀ q ∈ preds st p, q ∈ f.map (·.1) := fun q hq => by
    have he := mem_preds.mp hq
    have hlt := hL.lt he
    cases Decidable.em (q ∈ f.map (·.1)) with
    | inl z => exact z
    | inr z =>
      have hq2 : hasK f q = false := by
        cases hk : hasK f q with
        | false => rfl
        | true => exact absurd (hasK_iff.mp hk) z
      have := hm q (List.mem_filter.mpr ⟨hc _ he hpl, by rw [hq2]; rfl⟩)
      omega
  obtain ⟨pre, suf, e⟩ := List.append_of_mem hpl
  have hpin : p ∈ (stPass st left f).map (·.1) := by
    unfold stPass
    rw [e, List.foldl_append, List.foldl_cons]
    apply fold_keys
    by_cases hk : hasK (pre.foldl (stIn st) f) p = true
    · exact stIn_keys (hasK_iff.mp hk)
    · have : (preds st p).all (hasK (pre.foldl (stIn st) f)) = true := by
        rw [List.all_eq_true]
        intro q hq
        exact hasK_iff.mpr (fold_keys (hpre q hq))
      have hk : hasK (pre.foldl (stIn st) f) p = false := by simpa using hk
      generalize pre.foldl (stIn st) f = f1 at this hk
      unfold stIn
      rw [hk, this]
      simp
  have ok := fold_ok hL (l := left) (fun p hp => hp) h
  have hn2 : (p :: f.map (·.1)).Nodup := List.nodup_cons.mpr ⟨hpf, h.nd⟩
  have := List.Nodup.length_le_of_subset hn2 (l₂ := (stPass st left f).map (·.1)) fun q hq => by
    rcases List.mem_cons.mp hq with rfl | hq
    · exact hpin
    · exact fold_keys hq
  simp only [List.length_cons, List.length_map] at this
  omega
theorem stF_ok (hL : IsLev st L) (hn : left.Nodup) (hc : ∀ x ∈ st, x.2 ∈ left → x.1 ∈ left) : ∀ (n : Nat) (f : Kp), StOk L left f → left.length ≤ f.length + n → StOk L left (stF st left n f) ∧ (stF st left n f).length = left.length
  | 0, f, h, hl => ⟨h, by have := h.len hn; simp only [stF]; omega⟩
  | n + 1, f, h, hl => by
    unfold stF
    split
    · rename_i hlt
      have := pass_more hL hn hc h hlt
      exact stF_ok hL hn hc n _ (fold_ok hL (fun p hp => hp) h) (by omega)
    · exact ⟨h, by have := h.len hn; omega⟩
end
section
variable {hs e : Hs}
theorem stages_ok (hv : Valid hs) (g : Good hs e) : StOk (Lv (stepsIn hs e)) (losers hs e) (stagesM hs e) ∧ (stagesM hs e).length = (losers hs e).length := by
  refine stF_ok g.lev (asc_nodup losers_asc) (fun x hx _ => (g.step hx).1) 8 [] ⟨by simp, by simp⟩ ?_
  have := losers_le (hs := hs) (e := e)
  have := hv.le
  simp; omega
theorem stages_keys (hv : Valid hs) (g : Good hs e) : ((stagesM hs e).map (·.1)).Perm (losers hs e) := by
  obtain ⟨ok, hl⟩ := stages_ok hv g
  refine (List.perm_ext_iff_of_nodup ok.nd (asc_nodup losers_asc)).mpr fun q => ⟨fun h => ?_, fun h => ?_⟩
  · obtain ⟨x, hx, rfl⟩ := List.mem_map.mp h
    exact (ok.sub x hx).1
  · cases Decidable.em (q ∈ (stagesM hs e).map (·.1)) with
    | inl z => exact z
    | inr z =>
      have hn2 : (q :: (stagesM hs e).map (·.1)).Nodup := List.nodup_cons.mpr ⟨z, ok.nd⟩
      have := List.Nodup.length_le_of_subset hn2 (l₂ := losers hs e) fun p hp => by
        rcases List.mem_cons.mp hp with rfl | hp
        · exact h
        · obtain ⟨x, hx, rfl⟩ := List.mem_map.mp hp
          exact (ok.sub x hx).1
      simp only [List.length_cons, List.length_map] at this
      omega
theorem stages_eq (hv : Valid hs) (g : Good hs e) : stagesM hs e = ((stagesM hs e).map (·.1)).map fun p => (p, Lv (stepsIn hs e) p) := by
  obtain ⟨ok, _⟩ := stages_ok hv g
  rw [List.map_map]
  conv => lhs; rw [← List.map_id (stagesM hs e)]
  apply List.map_congr_left
  intro x hx
  have := (ok.sub x hx).2
  simp only [id, Function.comp]
  rw [← this]
theorem stages_get (hv : Valid hs) (g : Good hs e) {p : Nat} (h : p ∈ losers hs e) : getK (stagesM hs e) p = Lv (stepsIn hs e) p := (stages_ok hv g).1.getK ((stages_keys hv g).mem_iff.mpr h)
theorem stages_perm (hv : Valid hs) (g : Good hs e) : (stagesM hs e).Perm ((losers hs e).map fun p => (p, Lv (stepsIn hs e) p)) := by
  rw [stages_eq hv g]
  exact (stages_keys hv g).map _
theorem mx_perm {a b : List Nat} (h : a.Perm b) : mx a = mx b := by
  cases Decidable.em (a = []) with
  | inl z => subst z; rw [List.nil_perm.mp h]
  | inr z => exact (mx_eq (h.mem_iff.mp (mx_mem z)) fun x hx => le_mx (h.mem_iff.mpr hx)).symm
theorem stages_mx (hv : Valid hs) (g : Good hs e) : mx ((stagesM hs e).map (·.2)) = mx ((losers hs e).map (Lv (stepsIn hs e))) := by
  refine mx_perm ?_
  have := (stages_perm hv g).map (·.2)
  rw [List.map_map] at this
  exact this
theorem stages_nil (hv : Valid hs) (g : Good hs e) : (stagesM hs e = []) ↔ losers hs e = [] := by
  have := (stages_ok hv g).2
  constructor
  · intro h; rw [h] at this; exact List.eq_nil_of_length_eq_zero this.symm
  · intro h; rw [h] at this; exact List.eq_nil_of_length_eq_zero this

/-! ### one row, as the program finds it -/
def wayF (st : List (Nat × Nat)) : Nat → List Nat → List Nat → List Nat
  | 0, _, row => row
  | n + 1, left, row => if left.isEmpty then row else wayF st n (left.filter fun p => p != (freeOf st left).headD 0) (row ++ [(freeOf st left).headD 0])
def wayM (hs e : Hs) : List Nat := wayF (stepsIn hs e) 8 (losers hs e) []
theorem way_shorter {st : List (Nat × Nat)} {left : List Nat} (h : ∃ p, p ∈ freeOf st left) : ∃ f r, freeOf st left = f :: r ∧ f ∈ left ∧ (left.filter fun p => p != f).length < left.length := by
  obtain ⟨p, hp⟩ := h
  cases e : freeOf st left with
  | nil => rw [e] at hp; simp at hp
  | cons f r =>
    have hf : f ∈ left := (mem_freeOf.mp (by rw [e]; simp : f ∈ freeOf st left)).1
    exact ⟨f, r, rfl, hf, filter_shorter hf (by simp)⟩
theorem drop_one {l : List Nat} (hn : l.Nodup) {f : Nat} (hf : f ∈ l) : (l.filter fun p => p != f).length + 1 = l.length := by
  induction l with
  | nil => simp at hf
  | cons a l ih =>
    rw [List.nodup_cons] at hn
    by_cases e : a = f
    · subst e
      have : l.filter (fun p => p != a) = l := List.filter_eq_self.mpr fun x hx => by
        have : x ≠ a := fun z => hn.1 (z ▸ hx)
        simpa using this
      rw [List.filter_cons]
      simp [this]
    · have hf' : f ∈ l := by
        rcases List.mem_cons.mp hf with z | z
        · exact absurd z.symm e
        · exact z
      rw [List.filter_cons]
      simp only [bne_iff_ne, ne_eq, e, not_false_eq_true, if_true, List.length_cons]
      have := ih hn.2 hf'
      omega
theorem wayF_len {st : List (Nat × Nat)} (h : Acyc st) : ∀ (n : Nat) (left row : List Nat), left.Nodup → left.length ≤ n → (wayF st n left row).length = row.length + left.length
  | 0, left, row, _, hl => by
    have : left = [] := List.eq_nil_of_length_eq_zero (by omega)
    subst this; simp [wayF]
  | n + 1, left, row, hn, hl => by
    unfold wayF
    split
    · rename_i he
      have : left = [] := by simpa using he
      subst this; simp
    · rename_i he
      have hne : left ≠ [] := by simpa using he
      obtain ⟨f, r, e1, hf, hs⟩ := way_shorter (free_some h hne)
      rw [e1]
      simp only [List.headD_cons]
      have := drop_one hn hf
      rw [wayF_len h n _ _ (List.Nodup.sublist List.filter_sublist hn) (by omega)]
      simp
      omega
theorem wayM_len (hv : Valid hs) (g : Good hs e) : (wayM hs e).length = (losers hs e).length := by
  unfold wayM
  rw [wayF_len g.acyc 8 _ _ (asc_nodup losers_asc) (by have := losers_le (hs := hs) (e := e); have := hv.le; omega)]
  simp
end
end LH

set_option Elab.async false
set_option linter.all false
set_option maxRecDepth 100000
set_option maxHeartbeats 4000000
/-! data, what is known of a heap, evaluation -/
namespace FW
open PySem L2

inductive D where
  | int (i : Int) | bl (b : Bool) | non
  | tup (xs : List D) | lst (xs : List D)
  | dk (kvs : List (Int × Int)) | dt (kvs : List (List Int × Int))
  | cl (n : String)
  | obj

abbrev St := L2.St
def ekv (kv : Int × Int) : L2.Key × V := (Sum.inl kv.1, V.int kv.2)
def etv (kv : List Int × Int) : List L2.Key × V := (kv.1.map Sum.inl, V.int kv.2)
mutual
inductive Kn (B : Hp) : D → V → Prop
  | int (i : Int) : Kn B (.int i) (.int i)
  | bl (b : Bool) : Kn B (.bl b) (.bl b)
  | non : Kn B .non .non
  | cl (n : String) : Kn B (.cl n) (.ty n)
  | tup {a : Addr} {vs : List V} {xs : List D} : B a = some (.tup vs) → KnL B xs vs → Kn B (.tup xs) (.ref a)
  | lst {a : Addr} {vs : List V} {xs : List D} : B a = some (.lst vs) → KnL B xs vs → Kn B (.lst xs) (.ref a)
  | dk {a : Addr} {kvs : List (Int × Int)} : B a = some (.dK (kvs.map ekv)) → Kn B (.dk kvs) (.ref a)
  | dt {a : Addr} {kvs : List (List Int × Int)} : B a = some (.dT (kvs.map etv)) → Kn B (.dt kvs) (.ref a)
  | obj {a : Addr} {u : HO} : B a = some u → Kn B .obj (.ref a)
inductive KnL (B : Hp) : List D → List V → Prop
  | nil : KnL B [] []
  | cons {d : D} {v : V} {ds : List D} {vs : List V} : Kn B d v → KnL B ds vs → KnL B (d :: ds) (v :: vs)
end
mutual
theorem Kn.mono {B B' : Hp} (e : Same B B') : ∀ {d : D} {v : V}, Kn B d v → Kn B' d v
  | _, _, .int i => .int i
  | _, _, .bl b => .bl b
  | _, _, .non => .non
  | _, _, .cl n => .cl n
  | _, _, .tup h hl => .tup (e _ _ h) (KnL.mono e hl)
  | _, _, .lst h hl => .lst (e _ _ h) (KnL.mono e hl)
  | _, _, .dk h => .dk (e _ _ h)
  | _, _, .dt h => .dt (e _ _ h)
  | _, _, .obj h => .obj (e _ _ h)
theorem KnL.mono {B B' : Hp} (e : Same B B') : ∀ {ds : List D} {vs : List V}, KnL B ds vs → KnL B' ds vs
  | _, _, .nil => .nil
  | _, _, .cons h hl => .cons (Kn.mono e h) (KnL.mono e hl)
end
section
variable {B : Hp}
theorem KnL.length : ∀ {ds : List D} {vs : List V}, KnL B ds vs → ds.length = vs.length
  | _, _, .nil => rfl
  | _, _, .cons _ t => by rw [List.length_cons, List.length_cons, KnL.length t]
theorem KnL.get : ∀ {ds : List D} {vs : List V} {i : Nat} {d : D}, KnL B ds vs → ds[i]? = some d → ∃ v, vs[i]? = some v ∧ Kn B d v
  | _, _, _, _, .nil, e => by simp at e
  | _, _, 0, _, .cons h _, e => by simp at e; subst e; exact ⟨_, rfl, h⟩
  | _, _, i + 1, d, .cons _ t, e => by
    obtain ⟨v, h1, h2⟩ := KnL.get (i := i) (d := d) t (by simpa using e)
    exact ⟨v, by simpa using h1, h2⟩
theorem KnL.getV : ∀ {ds : List D} {vs : List V} {i : Nat} {v : V}, KnL B ds vs → vs[i]? = some v → ∃ d, ds[i]? = some d ∧ Kn B d v
  | _, _, _, _, .nil, e => by simp at e
  | _, _, 0, _, .cons h _, e => by simp at e; subst e; exact ⟨_, rfl, h⟩
  | _, _, i + 1, v, .cons _ t, e => by
    obtain ⟨d, h1, h2⟩ := KnL.getV (i := i) (v := v) t (by simpa using e)
    exact ⟨d, by simpa using h1, h2⟩
theorem KnL.append : ∀ {ds es : List D} {vs ws : List V}, KnL B ds vs → KnL B es ws → KnL B (ds ++ es) (vs ++ ws)
  | _, _, _, _, .nil, h => h
  | _, _, _, _, .cons a t, h => .cons a (KnL.append t h)
theorem KnL.ints : ∀ {ns : List Int} {vs : List V}, KnL B (ns.map D.int) vs → vs = ns.map V.int
  | [], _, h => by cases h; rfl
  | n :: ns, _, h => by
    cases h with
    | cons a t => cases a; rw [KnL.ints t]; rfl
theorem KnL.bls : ∀ {ns : List Bool} {vs : List V}, KnL B (ns.map D.bl) vs → vs = ns.map V.bl
  | [], _, h => by cases h; rfl
  | n :: ns, _, h => by
    cases h with
    | cons a t => cases a; rw [KnL.bls t]; rfl
theorem KnL.of_ints : ∀ (ns : List Int), KnL B (ns.map D.int) (ns.map V.int)
  | [] => .nil
  | n :: ns => .cons (.int n) (KnL.of_ints ns)
end

/-! ### heaps -/
theorem same_new {H : Hp} {p : Addr} {o : HO} (h : H p = none) : Same H (upd H p o) := fun b x e => by
  rw [upd_ne (ne_of_none e h)]
  exact e
theorem same_mut {H H' : Hp} {p : Addr} {o : HO} (e : Same H H') (h : H p = none) : Same H (upd H' p o) := fun a u ha => by
  rw [upd_ne (ne_of_none ha h)]
  exact e a u ha
/-- what can be changed -/
def Hi : Option HO → Prop
  | none => False
  | some (.tup _) => False
  | some _ => True
/-- what is known (B) of the heap (H) grows; what is hidden of it stays hidden, and as it is -/
structure Frm (B H B2 H2 : Hp) : Prop where
  kb : Same B B2
  kh : Same B2 H2
  hh : Same H H2
  hid : ∀ a, B a = none → Hi (H a) → B2 a = none
section
variable {B H B1 H1 B2 H2 B3 H3 : Hp}
theorem Frm.refl (h : Same B H) : Frm B H B H := ⟨Same.refl _, h, Same.refl _, fun _ h _ => h⟩
theorem Frm.trans (a : Frm B H B2 H2) (b : Frm B2 H2 B3 H3) : Frm B H B3 H3 := ⟨a.kb.trans b.kb, b.kh, a.hh.trans b.hh, fun c h1 h2 => b.hid c (a.hid c h1 h2) (by
  cases e : H c with
  | none => rw [e] at h2; exact h2.elim
  | some o => rw [e] at h2; rw [a.hh c o e]; exact h2)⟩
theorem Frm.new (h : Same B H) {p : Addr} {o : HO} (hp : H p = none) : Frm B H (upd B p o) (upd H p o) := by
  have hb := h.free hp
  refine ⟨same_new hb, fun a u e => ?_, same_new hp, fun a h1 h2 => ?_⟩
  · by_cases q : a = p
    · subst q; rw [upd_same] at e ⊢; exact e
    · rw [upd_ne q] at e ⊢; exact h a u e
  · have q : a ≠ p := fun z => by rw [z, hp] at h2; exact h2
    rw [upd_ne q]; exact h1
/-- a new object that is not known -/
theorem Frm.lay (h : Same B H) {p : Addr} {o : HO} (hp : H p = none) : Frm B H B (upd H p o) := ⟨Same.refl _, h.trans (same_new hp), same_new hp, fun _ h _ => h⟩
theorem Frm.grow (a : Frm B H B2 H2) (h1 : Same B B1) (h2 : Same B1 H) : ∃ B3, Frm B1 H B3 H2 ∧ Same B2 B3 := by
  refine ⟨fun a => match B2 a with | some o => some o | none => B1 a, ⟨fun c o e => ?_, fun c o e => ?_, a.hh, fun c e1 e2 => ?_⟩, fun c o e => ?_⟩
  · show (match B2 c with | some o => some o | none => B1 c) = some o
    cases q : B2 c with
    | none => exact e
    | some u =>
      have e1 := a.kh c u q
      have e2 := a.hh c o (h2 c o e)
      rw [e1] at e2
      exact e2
  · have e : (match B2 c with | some o => some o | none => B1 c) = some o := e
    cases q : B2 c with
    | none => rw [q] at e; exact a.hh c o (h2 c o e)
    | some u => rw [q] at e; cases e; exact a.kh c _ q
  · show (match B2 c with | some o => some o | none => B1 c) = none
    have : B2 c = none := a.hid c (h1.free e1) e2
    rw [this]; exact e1
  · show (match B2 c with | some o => some o | none => B1 c) = some o
    rw [e]
end

/-! ### evaluation -/
def EvD (te : TE) (σ : St) (B : Hp) (d : D) : Prop := ∀ (H : Hp) (Q : VK), Same B H → (∀ v B2 H2, Frm B H B2 H2 → Kn B2 d v → Q v H2) → te σ H Q
abbrev Gm := List (Option D)
structure EnvOk (B : Hp) (σ : St) (Γ : Gm) : Prop where
  len : σ.length = Γ.length
  get : ∀ (i : Nat) (d : D), Γ[i]? = some (some d) → ∃ v, σ[i]? = some (some v) ∧ Kn B d v
theorem EnvOk.mono {B B' : Hp} {σ : St} {Γ : Gm} (e : Same B B') (h : EnvOk B σ Γ) : EnvOk B' σ Γ := ⟨h.len, fun i d q => let ⟨v, a, b⟩ := h.get i d q; ⟨v, a, b.mono e⟩⟩
theorem EnvOk.set {B : Hp} {σ : St} {Γ : Gm} {i : Nat} {d : D} {v : V} (h : EnvOk B σ Γ) (k : Kn B d v) : EnvOk B (σ.set i (some v)) (Γ.set i (some d)) := by
  refine ⟨by rw [List.length_set, List.length_set]; exact h.len, fun j e q => ?_⟩
  by_cases hj : i = j
  · subst hj
    have hl : i < Γ.length := by
      have := (List.getElem?_eq_some_iff.mp q).1
      rwa [List.length_set] at this
    rw [List.getElem?_set_self hl] at q
    cases q
    exact ⟨v, List.getElem?_set_self (by rw [h.len]; exact hl), k⟩
  · rw [List.getElem?_set_ne hj] at q ⊢
    exact h.get j e q
theorem EnvOk.setN {B : Hp} {σ : St} {Γ : Gm} {i : Nat} {o : Option V} (h : EnvOk B σ Γ) : EnvOk B (σ.set i o) (Γ.set i none) := by
  refine ⟨by rw [List.length_set, List.length_set]; exact h.len, fun j e q => ?_⟩
  by_cases hj : i = j
  · subst hj
    have hl : i < Γ.length := by
      have := (List.getElem?_eq_some_iff.mp q).1
      rwa [List.length_set] at this
    rw [List.getElem?_set_self hl] at q
    cases q
  · rw [List.getElem?_set_ne hj] at q ⊢
    exact h.get j e q
theorem EnvOk.know {B : Hp} {σ : St} {Γ : Gm} {i : Nat} {d : D} {v : V} (h : EnvOk B σ Γ) (hi : σ[i]? = some (some v)) (k : Kn B d v) : EnvOk B σ (Γ.set i (some d)) := by
  refine ⟨by rw [List.length_set]; exact h.len, fun j e q => ?_⟩
  by_cases hj : i = j
  · subst hj
    have hl : i < Γ.length := by
      have := (List.getElem?_eq_some_iff.mp q).1
      rwa [List.length_set] at this
    rw [List.getElem?_set_self hl] at q
    cases q
    exact ⟨v, hi, k⟩
  · rw [List.getElem?_set_ne hj] at q
    exact h.get j e q
/-- less is known -/
def Sub (Γ' Γ : Gm) : Prop := Γ'.length = Γ.length ∧ ∀ (i : Nat) (d : D), Γ'[i]? = some (some d) → Γ[i]? = some (some d)
theorem EnvOk.sub {B : Hp} {σ : St} {Γ Γ' : Gm} (h : EnvOk B σ Γ) (s : Sub Γ' Γ) : EnvOk B σ Γ' := ⟨h.len.trans s.1.symm, fun i d q => h.get i d (s.2 i d q)⟩
theorem Sub.refl (Γ : Gm) : Sub Γ Γ := ⟨rfl, fun _ _ h => h⟩
theorem Sub.nil : Sub [] [] := Sub.refl _
theorem Sub.keep {o : Option D} {Γ' Γ : Gm} (h : Sub Γ' Γ) : Sub (o :: Γ') (o :: Γ) := ⟨by rw [List.length_cons, List.length_cons, h.1], fun i d q => by
  cases i with
  | zero => exact q
  | succ i => exact h.2 i d (by simpa using q)⟩
theorem Sub.drop {o : Option D} {Γ' Γ : Gm} (h : Sub Γ' Γ) : Sub (none :: Γ') (o :: Γ) := ⟨by rw [List.length_cons, List.length_cons, h.1], fun i d q => by
  cases i with
  | zero => simp at q
  | succ i => exact h.2 i d (by simpa using q)⟩
def wipeG (Γ : Gm) : List Nat → Gm
  | [] => Γ
  | v :: vs => (wipeG Γ vs).set v none
theorem EnvOk.wipe {B : Hp} {σ : St} {Γ : Gm} (h : EnvOk B σ Γ) : ∀ vs : List Nat, EnvOk B (wipe σ vs) (wipeG Γ vs)
  | [] => h
  | _ :: vs => (EnvOk.wipe h vs).setN
theorem wipe_comm (σ : St) (i : Nat) (x : Option V) : ∀ vs : List Nat, i ∉ vs → wipe (σ.set i x) vs = (wipe σ vs).set i x
  | [], _ => rfl
  | v :: vs, h => by
    have h1 : i ≠ v := fun z => h (by rw [z]; simp)
    have h2 : i ∉ vs := fun z => h (List.mem_cons_of_mem _ z)
    unfold wipe
    rw [wipe_comm σ i x vs h2, List.set_comm _ _ h1]
theorem wipe_set (σ : St) {i : Nat} (x : Option V) : ∀ {vs : List Nat}, i ∈ vs → wipe (σ.set i x) vs = wipe σ vs
  | v :: vs, h => by
    by_cases h2 : i ∈ vs
    · unfold wipe; rw [wipe_set σ x h2]
    · have h1 : i = v := by
        rcases List.mem_cons.mp h with z | z
        · exact z
        · exact absurd z h2
      subst h1
      unfold wipe
      rw [wipe_comm σ i x vs h2, List.set_set]
theorem wipe_wipe (σ : St) {us : List Nat} : ∀ {vs : List Nat}, (∀ i ∈ vs, i ∈ us) → wipe (wipe σ vs) us = wipe σ us
  | [], _ => rfl
  | v :: vs, h => by
    show wipe ((wipe σ vs).set v none) us = wipe σ us
    rw [wipe_set _ _ (h v (by simp))]
    exact wipe_wipe σ fun i hi => h i (List.mem_cons_of_mem _ hi)

def EvG (te : TE) (Γ : Gm) (d : D) : Prop := ∀ σ B, EnvOk B σ Γ → EvD te σ B d
def TtG (tt : TT) (Γ : Gm) (b : Bool) : Prop := ∀ σ B, EnvOk B σ Γ → ∀ (H : Hp) (Q : Bool → Hp → Prop), Same B H → (∀ B2 H2, Frm B H B2 H2 → Q b H2) → tt σ H Q
def ArG (ta : TA) (Γ : Gm) (ds : List D) : Prop := ∀ σ B, EnvOk B σ Γ → ∀ (H : Hp) (Q : List V → Hp → Prop), Same B H → (∀ vs B2 H2, Frm B H B2 H2 → KnL B2 ds vs → Q vs H2) → ta σ H Q
/-- a two-place operation, a call, on data -/
def RvD (r : R2) (d e f : D) : Prop := ∀ (B H : Hp) (x y : V) (Q : VK), Same B H → Kn B d x → Kn B e y → (∀ v B2 H2, Frm B H B2 H2 → Kn B2 f v → Q v H2) → r x y H Q
def RcD (r : List V → Hp → VK → Prop) (ds : List D) (f : D) : Prop := ∀ (B H : Hp) (xs : List V) (Q : VK), Same B H → KnL B ds xs → (∀ v B2 H2, Frm B H B2 H2 → Kn B2 f v → Q v H2) → r xs H Q
section
variable {Γ : Gm} {ta tb te : TE} {t u : TT} {d e f : D} {r : R2}
theorem EvG.is (h : EvG te Γ d) (q : d = e) : EvG te Γ e := q ▸ h
theorem TtG.is {a b : Bool} (h : TtG t Γ a) (q : a = b) : TtG t Γ b := q ▸ h
theorem EvG.sub {Γ' : Gm} (h : EvG te Γ' d) (s : Sub Γ' Γ) : EvG te Γ d := fun σ B e => h σ B (e.sub s)
theorem g_var {i : Nat} (h : Γ[i]? = some (some d)) : EvG (tVar i) Γ d := fun σ B e H Q hs q => by
  obtain ⟨v, a, b⟩ := e.get i d h
  exact ⟨v, a, q v B H (.refl hs) b⟩
theorem g_int {i : Int} : EvG (tC (.int i)) Γ (.int i) := fun σ B e H Q hs q => q _ B H (.refl hs) (.int i)
theorem g_bl {i : Bool} : EvG (tC (.bl i)) Γ (.bl i) := fun σ B e H Q hs q => q _ B H (.refl hs) (.bl i)
theorem g_non : EvG (tC .non) Γ .non := fun σ B e H Q hs q => q _ B H (.refl hs) .non
theorem g_cl {n : String} : EvG (tC (.ty n)) Γ (.cl n) := fun σ B e H Q hs q => q _ B H (.refl hs) (.cl n)
theorem g_op (ha : EvG ta Γ d) (hb : EvG tb Γ e) (hr : RvD r d e f) : EvG (tOp r ta tb) Γ f := fun σ B en H Q hs q =>
  ha σ B en H _ hs fun v B1 H1 f1 k1 => hb σ B1 (en.mono f1.kb) H1 _ f1.kh fun w B2 H2 f2 k2 => hr B2 H2 v w Q f2.kh (k1.mono f2.kb) k2 fun z B3 H3 f3 k3 => q z B3 H3 ((f1.trans f2).trans f3) k3
theorem t_test {b : Bool} (h : EvG te Γ (.bl b)) : TtG (tTest te) Γ b := fun σ B en H Q hs q => h σ B en H _ hs fun v B1 H1 f1 k1 => by
  cases k1
  exact ⟨b, rfl, q B1 H1 f1⟩
theorem t_B {b : Bool} (h : EvG te Γ (.bl b)) : TtG (tB te) Γ b := t_test h
theorem t_and {a b : Bool} (h1 : TtG t Γ a) (h2 : a = true → TtG u Γ b) : TtG (tAnd t u) Γ (a && b) := fun σ B en H Q hs q => h1 σ B en H _ hs fun B1 H1 f1 => by
  cases a with
  | true => exact h2 rfl σ B1 (en.mono f1.kb) H1 Q f1.kh fun B2 H2 f2 => q B2 H2 (f1.trans f2)
  | false => exact q B1 H1 f1
theorem t_or {a b : Bool} (h1 : TtG t Γ a) (h2 : a = false → TtG u Γ b) : TtG (tOr t u) Γ (a || b) := fun σ B en H Q hs q => h1 σ B en H _ hs fun B1 H1 f1 => by
  cases a with
  | true => exact q B1 H1 f1
  | false => exact h2 rfl σ B1 (en.mono f1.kb) H1 Q f1.kh fun B2 H2 f2 => q B2 H2 (f1.trans f2)
theorem t_not {a : Bool} (h1 : TtG t Γ a) : TtG (tNot t) Γ (!a) := fun σ B en H Q hs q => h1 σ B en H _ hs fun B1 H1 f1 => q B1 H1 f1
theorem g_andV {a b : Bool} (h1 : EvG ta Γ (.bl a)) (h2 : a = true → EvG tb Γ (.bl b)) : EvG (tAndV ta tb) Γ (.bl (a && b)) := fun σ B en H Q hs q => h1 σ B en H _ hs fun v B1 H1 f1 k1 => by
  cases k1
  refine ⟨a, rfl, ?_⟩
  cases a with
  | true => exact h2 rfl σ B1 (en.mono f1.kb) H1 Q f1.kh fun w B2 H2 f2 k2 => q w B2 H2 (f1.trans f2) k2
  | false => exact q _ B1 H1 f1 (.bl _)
theorem g_orV {a b : Bool} (h1 : EvG ta Γ (.bl a)) (h2 : a = false → EvG tb Γ (.bl b)) : EvG (tOrV ta tb) Γ (.bl (a || b)) := fun σ B en H Q hs q => h1 σ B en H _ hs fun v B1 H1 f1 k1 => by
  cases k1
  refine ⟨a, rfl, ?_⟩
  cases a with
  | true => exact q _ B1 H1 f1 (.bl _)
  | false => exact h2 rfl σ B1 (en.mono f1.kb) H1 Q f1.kh fun w B2 H2 f2 k2 => q w B2 H2 (f1.trans f2) k2
theorem g_notV {a : Bool} (h1 : EvG ta Γ (.bl a)) : EvG (tNotV ta) Γ (.bl (!a)) := fun σ B en H Q hs q => h1 σ B en H _ hs fun v B1 H1 f1 k1 => by
  cases k1
  exact ⟨a, rfl, q _ B1 H1 f1 (.bl _)⟩
theorem g_if {b : Bool} (h : TtG t Γ b) (h1 : b = true → EvG ta Γ d) (h2 : b = false → EvG tb Γ d) : EvG (tIf t ta tb) Γ d := fun σ B en H Q hs q => h σ B en H _ hs fun B1 H1 f1 => by
  cases b with
  | true => exact h1 rfl σ B1 (en.mono f1.kb) H1 Q f1.kh fun w B2 H2 f2 k2 => q w B2 H2 (f1.trans f2) k2
  | false => exact h2 rfl σ B1 (en.mono f1.kb) H1 Q f1.kh fun w B2 H2 f2 k2 => q w B2 H2 (f1.trans f2) k2
theorem a_nil : ArG tNil Γ [] := fun σ B en H Q hs q => q [] B H (.refl hs) .nil
theorem a_cons {tr : TA} {ds : List D} (h : EvG ta Γ d) (hr : ArG tr Γ ds) : ArG (tCons ta tr) Γ (d :: ds) := fun σ B en H Q hs q =>
  h σ B en H _ hs fun v B1 H1 f1 k1 => hr σ B1 (en.mono f1.kb) H1 _ f1.kh fun vs B2 H2 f2 k2 => q (v :: vs) B2 H2 (f1.trans f2) (.cons (k1.mono f2.kb) k2)
/-- *e in a display -/
theorem a_star {K : PySem.W.Frag} {tr : TA} {es ds : List D} (h : EvG ta Γ (.tup es) ∨ EvG ta Γ (.lst es)) (hr : ArG tr Γ ds) : ArG (StX.tStar K ta tr) Γ (es ++ ds) := fun σ B en H Q hs q => by
  rcases h with h | h
  · refine h σ B en H _ hs fun v B1 H1 f1 k1 => ?_
    cases k1 with
    | tup hb hl => exact ⟨_, _, rfl, .inl (SqT.of (f1.kh _ _ hb)), hr σ B1 (en.mono f1.kb) H1 _ f1.kh fun vs B2 H2 f2 k2 => q _ B2 H2 (f1.trans f2) ((hl.mono f2.kb).append k2)⟩
  · refine h σ B en H _ hs fun v B1 H1 f1 k1 => ?_
    cases k1 with
    | lst hb hl => exact ⟨_, _, rfl, .inr (SqL.of (f1.kh _ _ hb)), hr σ B1 (en.mono f1.kb) H1 _ f1.kh fun vs B2 H2 f2 k2 => q _ B2 H2 (f1.trans f2) ((hl.mono f2.kb).append k2)⟩
theorem sz_le {n : Nat} (h : n ≤ 10000000) : n ≤ sizeLine := by rw [sizeLine_eq]; omega
theorem sz_lt {n : Nat} (h : n < 10000000) : n < sizeLine := by rw [sizeLine_eq]; omega
theorem new_tup {B H : Hp} {ds : List D} {vs : List V} {Q : VK} (hs : Same B H) (k : KnL B ds vs) (q : ∀ v B2 H2, Frm B H B2 H2 → Kn B2 (.tup ds) v → Q v H2) : ∀ p, H p = none → Q (.ref p) (upd H p (.tup vs)) := fun p hp =>
  q _ _ _ (Frm.new hs hp) (.tup upd_same (k.mono (Frm.new hs hp).kb))
theorem new_lst {B H : Hp} {ds : List D} {vs : List V} {Q : VK} (hs : Same B H) (k : KnL B ds vs) (q : ∀ v B2 H2, Frm B H B2 H2 → Kn B2 (.lst ds) v → Q v H2) : ∀ p, H p = none → Q (.ref p) (upd H p (.lst vs)) := fun p hp =>
  q _ _ _ (Frm.new hs hp) (.lst upd_same (k.mono (Frm.new hs hp).kb))
theorem g_tup {ta : TA} {ds : List D} (h : ArG ta Γ ds) (hl : ds.length ≤ 10000000) : EvG (tTup ta) Γ (.tup ds) := fun σ B en H Q hs q =>
  h σ B en H _ hs fun vs B1 H1 f1 k1 => ⟨by rw [← k1.length]; exact sz_le hl, new_tup f1.kh k1 fun v B2 H2 f2 k2 => q v B2 H2 (f1.trans f2) k2⟩
theorem g_lst {ta : TA} {ds : List D} (h : ArG ta Γ ds) (hl : ds.length ≤ 10000000) : EvG (tLst ta) Γ (.lst ds) := fun σ B en H Q hs q =>
  h σ B en H _ hs fun vs B1 H1 f1 k1 => ⟨by rw [← k1.length]; exact sz_le hl, new_lst f1.kh k1 fun v B2 H2 f2 k2 => q v B2 H2 (f1.trans f2) k2⟩
theorem g_cb {r : List V → Hp → VK → Prop} {ta : TA} {ds : List D} (h : ArG ta Γ ds) (hr : RcD r ds f) : EvG (tCB r ta) Γ f := fun σ B en H Q hs q =>
  h σ B en H _ hs fun vs B1 H1 f1 k1 => hr B1 H1 vs Q f1.kh k1 fun v B2 H2 f2 k2 => q v B2 H2 (f1.trans f2) k2

/-! ### promises -/
def SpR (R : List D → D → Prop) : Sp := fun vs H Q _ => ∃ B ds r, Same B H ∧ KnL B ds vs ∧ R ds r ∧ ∀ v B2 H2, Frm B H B2 H2 → Kn B2 r v → Q v H2
theorem g_call {R : List D → D → Prop} {ta : TA} {ds : List D} (h : ArG ta Γ ds) (hR : R ds f) : EvG (tCall (SpR R) [] E0 ta) Γ f := fun σ B en H Q hs q =>
  h σ B en H _ hs fun vs B1 H1 f1 k1 => ⟨B1, ds, f, f1.kh, by rw [List.append_nil]; exact k1, hR, fun v B2 H2 f2 k2 => q v B2 H2 (f1.trans f2) k2⟩
end
end FW

set_option Elab.async false
set_option linter.all false
set_option maxRecDepth 100000
set_option maxHeartbeats 4000000
/-! operations on data; walks; comprehensions -/
namespace FW
open PySem L2

/-! ### data as the library compares it -/
mutual
def py : D → PyData
  | .int i => .int i
  | .bl b => .bool b
  | .non => .none
  | .tup xs => .tuple (pyL xs)
  | .lst xs => .list (pyL xs)
  | .dk _ => .none
  | .dt _ => .none
  | .cl _ => .none
  | .obj => .none
def pyL : List D → List PyData
  | [] => []
  | x :: xs => py x :: pyL xs
end
mutual
def pl : D → Bool
  | .int _ => true
  | .bl _ => true
  | .non => true
  | .tup xs => plL xs
  | .lst xs => plL xs
  | .dk _ => false
  | .dt _ => false
  | .cl _ => false
  | .obj => false
def plL : List D → Bool
  | [] => true
  | x :: xs => pl x && plL xs
end
mutual
theorem Kn.dp {K : PySem.W.Frag} {B H : Hp} (e : Same B H) : ∀ {d : D} {v : V}, Kn B d v → pl d = true → Dp K H v (py d)
  | _, _, .int i, _ => by rw [py]; exact .int i
  | _, _, .bl b, _ => by rw [py]; exact .bl b
  | _, _, .non, _ => by rw [py]; exact .non
  | _, _, .tup h hl, q => by rw [py]; exact .tup (SqT.of (e _ _ h)) (KnL.dp e hl (by rw [pl] at q; exact q))
  | _, _, .lst h hl, q => by rw [py]; exact .lst (SqL.of (e _ _ h)) (KnL.dp e hl (by rw [pl] at q; exact q))
  | _, _, .dk _, q => by rw [pl] at q; cases q
  | _, _, .dt _, q => by rw [pl] at q; cases q
  | _, _, .cl _, q => by rw [pl] at q; cases q
  | _, _, .obj _, q => by rw [pl] at q; cases q
theorem KnL.dp {K : PySem.W.Frag} {B H : Hp} (e : Same B H) : ∀ {ds : List D} {vs : List V}, KnL B ds vs → plL ds = true → DpAll K H vs (pyL ds)
  | _, _, .nil, _ => by rw [pyL]; exact .nil
  | _, _, .cons h hl, q => by
    rw [plL, Bool.and_eq_true] at q
    rw [pyL]
    exact .cons (Kn.dp e h q.1) (KnL.dp e hl q.2)
end
theorem pyL_map {α : Type} (enc : α → D) : ∀ xs : List α, pyL (xs.map enc) = xs.map fun a => py (enc a)
  | [] => by rw [List.map_nil, pyL]; rfl
  | x :: xs => by rw [List.map_cons, pyL, pyL_map enc xs]; rfl
theorem plL_map {α : Type} {enc : α → D} (h : ∀ a, pl (enc a) = true) : ∀ xs : List α, plL (xs.map enc) = true
  | [] => by rw [List.map_nil, plL]
  | x :: xs => by rw [List.map_cons, plL, plL_map h xs, h]; rfl
/-- data of one kind, told by what they stand for -/
structure Enc {α : Type} [DecidableEq α] (enc : α → D) (k : Nat) : Prop where
  pl : ∀ a, pl (enc a) = true
  eq : ∀ a b, PyData.eqv (py (enc a)) (py (enc b)) = decide (a = b)
  lay : ∀ a, (py (enc a)).canLay0 = true
  dep : ∀ a, (py (enc a)).depth ≤ k
section
variable {α : Type} [DecidableEq α] {enc : α → D} {k : Nat}
theorem eqvAll_map (h : ∀ a b, PyData.eqv (py (enc a)) (py (enc b)) = decide (a = b)) : ∀ xs ys : List α, PyData.eqvAll (xs.map fun a => py (enc a)) (ys.map fun a => py (enc a)) = decide (xs = ys)
  | [], [] => by simp [PyData.eqvAll]
  | [], _ :: _ => by simp [PyData.eqvAll]
  | _ :: _, [] => by simp [PyData.eqvAll]
  | x :: xs, y :: ys => by
    rw [List.map_cons, List.map_cons, PyData.eqvAll, h, eqvAll_map h xs ys]
    by_cases a : x = y <;> by_cases b : xs = ys <;> simp [a, b]
theorem layAll_map (h : ∀ a, (py (enc a)).canLay0 = true) : ∀ xs : List α, PyData.canLayAll0 (xs.map fun a => py (enc a)) = true
  | [] => by simp [PyData.canLayAll0]
  | x :: xs => by rw [List.map_cons, PyData.canLayAll0, h, layAll_map h xs]; rfl
theorem depAll_map (h : ∀ a, (py (enc a)).depth ≤ k) : ∀ xs : List α, PyData.depthAll (xs.map fun a => py (enc a)) ≤ k
  | [] => by simp [PyData.depthAll]
  | x :: xs => by
    rw [List.map_cons, PyData.depthAll]
    have a := h x
    have b := depAll_map h xs
    omega
theorem Enc.tup (e : Enc enc k) : Enc (fun xs : List α => D.tup (xs.map enc)) (k + 1) := by
  refine ⟨fun xs => ?_, fun xs ys => ?_, fun xs => ?_, fun xs => ?_⟩
  · rw [FW.pl]; exact plL_map e.pl xs
  · rw [py, py, pyL_map, pyL_map, PyData.eqv]; exact eqvAll_map e.eq xs ys
  · rw [py, pyL_map, PyData.canLay0]; exact layAll_map e.lay xs
  · rw [py, pyL_map, PyData.depth]
    have := depAll_map e.dep xs
    omega
theorem Enc.lst (e : Enc enc k) : Enc (fun xs : List α => D.lst (xs.map enc)) (k + 1) := by
  refine ⟨fun xs => ?_, fun xs ys => ?_, fun xs => ?_, fun xs => ?_⟩
  · rw [FW.pl]; exact plL_map e.pl xs
  · rw [py, py, pyL_map, pyL_map, PyData.eqv]; exact eqvAll_map e.eq xs ys
  · rw [py, pyL_map, PyData.canLay0]; exact layAll_map e.lay xs
  · rw [py, pyL_map, PyData.depth]
    have := depAll_map e.dep xs
    omega
theorem Enc.shaped (e : Enc enc k) (hk : k ≤ 64) (a : α) : SeqAt.shaped (py (enc a)) = true := by
  unfold SeqAt.shaped
  rw [e.lay a, Bool.true_and]
  exact decide_eq_true (Nat.le_trans (e.dep a) hk)
end
abbrev dN (n : Nat) : D := .int (n : Int)
abbrev dT (ns : List Nat) : D := .tup (ns.map dN)
abbrev dH (hs : List (List Nat)) : D := .tup (hs.map dT)
abbrev dL (ns : List Nat) : D := .lst (ns.map dN)
abbrev dP (e : Nat × Nat) : D := .tup [dN e.1, dN e.2]
abbrev dPs (st : List (Nat × Nat)) : D := .lst (st.map dP)
abbrev dLT (l : List (List Nat)) : D := .lst (l.map dT)
abbrev dLH (l : List (List (List Nat))) : D := .lst (l.map dH)
abbrev iK (k : List (Nat × Nat)) : List (Int × Int) := k.map fun x => ((x.1 : Int), (x.2 : Int))
abbrev dK (k : List (Nat × Nat)) : D := .dk (iK k)
theorem encN : Enc dN 0 := by
  refine ⟨fun a => ?_, fun a b => ?_, fun a => ?_, fun a => ?_⟩
  · rw [pl]
  · rw [py, py, PyData.eqv]
    by_cases h : a = b
    · subst h; simp
    · have : ¬ (a : Int) = (b : Int) := by omega
      simp [h, this]
  · rw [py, PyData.canLay0]
  · rw [py, PyData.depth]; exact Nat.le_refl _
theorem encT : Enc dT 1 := encN.tup
theorem encH : Enc dH 2 := encT.tup
theorem encL : Enc dL 1 := encN.lst
theorem encLT : Enc dLT 2 := encT.lst
theorem encP : Enc dP 1 := by
  have key : ∀ e : Nat × Nat, dP e = dT [e.1, e.2] := fun _ => rfl
  refine ⟨fun a => by rw [key]; exact encT.pl _, fun a b => ?_, fun a => by rw [key]; exact encT.lay _, fun a => by rw [key]; exact encT.dep _⟩
  rw [key, key, encT.eq]
  obtain ⟨a1, a2⟩ := a
  obtain ⟨b1, b2⟩ := b
  by_cases h1 : a1 = b1 <;> by_cases h2 : a2 = b2 <;> simp [h1, h2]
theorem encPs : Enc dPs 2 := encP.lst

/-! ### operators -/
section
variable {K : PySem.W.Frag}
theorem rv_b {g : Int → Int → Bool} {a b : Int} : RvD (rI0 fun i j => .bl (g i j)) (.int a) (.int b) (.bl (g a b)) := fun B H x y Q hs kx ky q => by
  cases kx; cases ky
  exact ⟨a, b, rfl, rfl, q _ B H (.refl hs) (.bl _)⟩
theorem rv_i {g : Int → Int → Int} {a b : Int} : RvD (rI0 fun i j => .int (g i j)) (.int a) (.int b) (.int (g a b)) := fun B H x y Q hs kx ky q => by
  cases kx; cases ky
  exact ⟨a, b, rfl, rfl, q _ B H (.refl hs) (.int _)⟩
theorem rv_c {C : Int → Int → Prop} {g : Int → Int → Int} {a b : Int} (h : C a b) : RvD (rI C fun i j => .int (g i j)) (.int a) (.int b) (.int (g a b)) := fun B H x y Q hs kx ky q => by
  cases kx; cases ky
  exact ⟨a, b, rfl, rfl, h, q _ B H (.refl hs) (.int _)⟩
theorem rv_eqI {a b : Int} : RvD rEq (.int a) (.int b) (.bl (decide (a = b))) := fun B H x y Q hs kx ky q => by
  cases kx; cases ky
  refine ⟨rfl, ?_⟩
  have e : decide (V.int a = V.int b) = decide (a = b) := by by_cases h : a = b <;> simp [h]
  rw [e]
  exact q _ B H (.refl hs) (.bl _)
theorem rv_neI {a b : Int} : RvD rNe (.int a) (.int b) (.bl (!decide (a = b))) := fun B H x y Q hs kx ky q => by
  cases kx; cases ky
  refine ⟨rfl, ?_⟩
  have e : decide (V.int a = V.int b) = decide (a = b) := by by_cases h : a = b <;> simp [h]
  rw [e]
  exact q _ B H (.refl hs) (.bl _)
theorem rv_eqN {a b : Nat} : RvD rEq (dN a) (dN b) (.bl (decide (a = b))) := by
  have e : decide (a = b) = decide ((a : Int) = (b : Int)) := by by_cases h : a = b <;> simp [h] <;> omega
  rw [e]; exact rv_eqI
theorem rv_neN {a b : Nat} : RvD rNe (dN a) (dN b) (.bl (!decide (a = b))) := by
  have e : decide (a = b) = decide ((a : Int) = (b : Int)) := by by_cases h : a = b <;> simp [h] <;> omega
  rw [e]; exact rv_neI
theorem rv_eqD {α : Type} [DecidableEq α] {enc : α → D} {k : Nat} (e : Enc enc k) (hk : k ≤ 64 := by decide) {a b : α} : RvD (rEqD K) (enc a) (enc b) (.bl (decide (a = b))) := fun B H x y Q hs kx ky q =>
  ⟨_, _, kx.dp hs (e.pl a), ky.dp hs (e.pl b), e.shaped hk a, e.shaped hk b, by rw [e.eq]; exact q _ B H (.refl hs) (.bl _)⟩
theorem rv_neD {α : Type} [DecidableEq α] {enc : α → D} {k : Nat} (e : Enc enc k) (hk : k ≤ 64 := by decide) {a b : α} : RvD (rNeD K) (enc a) (enc b) (.bl (!decide (a = b))) := fun B H x y Q hs kx ky q =>
  ⟨_, _, kx.dp hs (e.pl a), ky.dp hs (e.pl b), e.shaped hk a, e.shaped hk b, by rw [e.eq]; exact q _ B H (.refl hs) (.bl _)⟩
theorem flat_ints : ∀ ns : List Int, (ns.map V.int).all flatV = true
  | [] => rfl
  | n :: ns => by rw [List.map_cons, List.all_cons, flat_ints ns]; rfl
theorem inV_ints (n : Int) : ∀ ns : List Int, inV (.int n) (ns.map V.int) = ns.contains n
  | [] => rfl
  | m :: ns => by
    have ih := inV_ints n ns
    unfold inV at ih ⊢
    rw [List.map_cons, List.any_cons, ih, List.contains_cons]
    show ((m == n) || _) = ((n == m) || _)
    rw [show (m == n) = (n == m) from Bool.beq_comm]
theorem contains_cast (n : Nat) : ∀ ns : List Nat, (ns.map fun (x : Nat) => (x : Int)).contains (n : Int) = ns.contains n
  | [] => rfl
  | m :: ns => by
    rw [List.map_cons, List.contains_cons, List.contains_cons, contains_cast n ns]
    have e : ((n : Int) == (m : Int)) = (n == m) := by
      by_cases h : n = m
      · subst h; simp
      · have h2 : ¬ (n : Int) = (m : Int) := by omega
        rw [beq_eq_false_iff_ne.mpr h, beq_eq_false_iff_ne.mpr h2]
    rw [e]
theorem map_dN (ns : List Nat) : ns.map dN = (ns.map fun (x : Nat) => (x : Int)).map D.int := by rw [List.map_map]; rfl
theorem KnL.nats {B : Hp} {ns : List Nat} {vs : List V} (h : KnL B (ns.map dN) vs) : vs = (ns.map fun (x : Nat) => (x : Int)).map V.int := by
  rw [map_dN] at h
  exact h.ints
theorem rv_in {neg : Bool} {n : Nat} {ns : List Nat} {d : D} (hd : d = dT ns ∨ d = dL ns) : RvD (rIn K neg) (dN n) d (.bl (if neg then !ns.contains n else ns.contains n)) := fun B H x y Q hs kx ky q => by
  cases kx
  rcases hd with rfl | rfl
  · cases ky with
    | tup hb hl =>
      rw [hl.nats] at hb
      refine ⟨_, _, rfl, .inr (SqT.of (hs _ _ hb)), rfl, flat_ints _, ?_⟩
      rw [inV_ints, contains_cast]
      exact q _ B H (.refl hs) (.bl _)
  · cases ky with
    | lst hb hl =>
      rw [hl.nats] at hb
      refine ⟨_, _, rfl, .inl (SqL.of (hs _ _ hb)), rfl, flat_ints _, ?_⟩
      rw [inV_ints, contains_cast]
      exact q _ B H (.refl hs) (.bl _)
theorem rv_inT {n : Nat} {ns : List Nat} : RvD (rIn K false) (dN n) (dT ns) (.bl (ns.contains n)) := rv_in (.inl rfl)
theorem rv_inL {n : Nat} {ns : List Nat} : RvD (rIn K false) (dN n) (dL ns) (.bl (ns.contains n)) := rv_in (.inr rfl)
theorem rv_niT {n : Nat} {ns : List Nat} : RvD (rIn K true) (dN n) (dT ns) (.bl (!ns.contains n)) := rv_in (.inl rfl)
theorem rv_niL {n : Nat} {ns : List Nat} : RvD (rIn K true) (dN n) (dL ns) (.bl (!ns.contains n)) := rv_in (.inr rfl)
theorem any_contains {α : Type} [DecidableEq α] {enc : α → D} {k : Nat} (e : Enc enc k) (a : α) : ∀ xs : List α, ((xs.map fun x => py (enc x)).any fun z => PyData.eqv z (py (enc a))) = xs.contains a
  | [] => rfl
  | x :: xs => by
    rw [List.map_cons, List.any_cons, any_contains e a xs, List.contains_cons, e.eq]
    by_cases h : x = a
    · subst h; simp
    · have h2 : ¬ a = x := fun z => h z.symm
      simp [h, h2]
theorem rv_niD {α : Type} [DecidableEq α] {enc : α → D} {k : Nat} (e : Enc enc k) (hk : k + 1 ≤ 64 := by decide) {a : α} {xs : List α} : RvD (rNotInD K) (enc a) (.lst (xs.map enc)) (.bl (!xs.contains a)) := fun B H x y Q hs kx ky q => by
  have hy := ky.dp (K := K) hs (e.lst.pl xs)
  rw [py, pyL_map] at hy
  have hsh := e.lst.shaped hk xs
  rw [py, pyL_map] at hsh
  refine ⟨_, _, kx.dp hs (e.pl a), hy, e.shaped (by omega) a, hsh, ?_⟩
  rw [any_contains e]
  exact q _ B H (.refl hs) (.bl _)
theorem rv_ixT {ds : List D} {j : Nat} {d : D} (h : ds[j]? = some d) : RvD (rIxT K) (.tup ds) (dN j) d := fun B H x y Q hs kx ky q => by
  cases ky
  cases kx with
  | tup hb hl =>
    obtain ⟨v, h1, h2⟩ := hl.get h
    exact ⟨_, _, _, v, rfl, rfl, SqT.of (hs _ _ hb), atI_nat h1, q v B H (.refl hs) h2⟩
theorem rv_ixL {ds : List D} {j : Nat} {d : D} (h : ds[j]? = some d) : RvD (rIxL K) (.lst ds) (dN j) d := fun B H x y Q hs kx ky q => by
  cases ky
  cases kx with
  | lst hb hl =>
    obtain ⟨v, h1, h2⟩ := hl.get h
    exact ⟨_, _, _, v, rfl, rfl, SqL.of (hs _ _ hb), atI_nat h1, q v B H (.refl hs) h2⟩
variable {Γ : Gm} {ta tb tc : TE}
theorem g_chain {r r' : R2} {d e f : D} {a b : Bool} (ha : EvG ta Γ d) (hb : EvG tb Γ e) (hc : EvG tc Γ f) (h1 : RvD r d e (.bl a)) (h2 : a = true → RvD r' e f (.bl b)) : EvG (tChain r r' ta tb tc) Γ (.bl (a && b)) := fun σ B en H Q hs q =>
  ha σ B en H _ hs fun v B1 H1 f1 k1 => hb σ B1 (en.mono f1.kb) H1 _ f1.kh fun w B2 H2 f2 k2 => h1 B2 H2 v w _ f2.kh (k1.mono f2.kb) k2 fun z B3 H3 f3 k3 => by
    cases k3
    refine ⟨a, rfl, ?_⟩
    have f13 := (f1.trans f2).trans f3
    cases a with
    | true =>
      rw [if_pos rfl]
      exact hc σ B3 (en.mono f13.kb) H3 _ f3.kh fun u B4 H4 f4 k4 => h2 rfl B4 H4 w u Q f4.kh ((k2.mono f3.kb).mono f4.kb) k4 fun z B5 H5 f5 k5 => q z B5 H5 ((f13.trans f4).trans f5) k5
    | false =>
      rw [if_neg Bool.false_ne_true]
      exact q _ B3 H3 f13 (.bl _)

/-! ### calls of built-ins -/
theorem rc_len {ds : List D} {d : D} (hd : d = .lst ds ∨ d = .tup ds) : RcD (fun xs H Q => ∃ p ys, xs = [.ref p] ∧ (SqL K H p ys ∨ SqT K H p ys) ∧ Q (.int ys.length) H) [d] (dN ds.length) := fun B H xs Q hs k q => by
  cases k with
  | cons k1 k2 =>
    cases k2
    rcases hd with rfl | rfl
    · cases k1 with
      | lst hb hl => exact ⟨_, _, rfl, .inl (SqL.of (hs _ _ hb)), by rw [← hl.length]; exact q _ B H (.refl hs) (.int _)⟩
    · cases k1 with
      | tup hb hl => exact ⟨_, _, rfl, .inr (SqT.of (hs _ _ hb)), by rw [← hl.length]; exact q _ B H (.refl hs) (.int _)⟩
theorem rc_tuple {ds : List D} : RcD (fun xs H Q => ∃ p ys, xs = [.ref p] ∧ ((SqL K H p ys ∧ ∀ l, H l = none → Q (.ref l) (upd H l (.tup ys))) ∨ (SqT K H p ys ∧ Q (.ref p) H))) [.lst ds] (.tup ds) := fun B H xs Q hs k q => by
  cases k with
  | cons k1 k2 =>
    cases k2
    cases k1 with
    | lst hb hl => exact ⟨_, _, rfl, .inl ⟨SqL.of (hs _ _ hb), new_tup hs hl q⟩⟩
theorem rc_list {ds : List D} {d : D} (hd : d = .lst ds ∨ d = .tup ds) : RcD (fun xs H Q => ∃ p ys, xs = [.ref p] ∧ (SqL K H p ys ∨ SqT K H p ys) ∧ ∀ l, H l = none → Q (.ref l) (upd H l (.lst ys))) [d] (.lst ds) := fun B H xs Q hs k q => by
  cases k with
  | cons k1 k2 =>
    cases k2
    rcases hd with rfl | rfl
    · cases k1 with
      | lst hb hl => exact ⟨_, _, rfl, .inl (SqL.of (hs _ _ hb)), new_lst hs hl q⟩
    · cases k1 with
      | tup hb hl => exact ⟨_, _, rfl, .inr (SqT.of (hs _ _ hb)), new_lst hs hl q⟩
theorem rc_isi {i : Int} {n : String} {b : Bool} (h : kitB "int" n = some b) : RcD (rIsi K) [.int i, .cl n] (.bl b) := fun B H xs Q hs k q => by
  cases k with
  | cons k1 k2 =>
    cases k1
    cases k2 with
    | cons k3 k4 =>
      cases k3
      cases k4
      exact ⟨_, _, _, _, b, rfl, .ty n, .base (.int i), kit_ty h, q _ B H (.refl hs) (.bl _)⟩
theorem rc_isiT {ds : List D} : RcD (rIsi K) [.tup ds, .cl "tuple"] (.bl true) := fun B H xs Q hs k q => by
  cases k with
  | cons k1 k2 =>
    cases k1 with
    | tup hb hl =>
      cases k2 with
      | cons k3 k4 =>
        cases k3
        cases k4
        exact ⟨_, _, _, _, true, rfl, .ty _, .base (.tup (hs _ _ hb)), kit_ty (by decide +kernel), q _ B H (.refl hs) (.bl _)⟩
theorem rc_any {bs : List Bool} : RcD (rAny K) [.lst (bs.map D.bl)] (.bl (bs.any id)) := fun B H xs Q hs k q => by
  cases k with
  | cons k1 k2 =>
    cases k2
    cases k1 with
    | lst hb hl =>
      rw [hl.bls] at hb
      exact ⟨_, bs, rfl, SqL.of (hs _ _ hb), q _ B H (.refl hs) (.bl _)⟩
theorem rc_all {bs : List Bool} : RcD (rAll K) [.lst (bs.map D.bl)] (.bl (bs.all id)) := fun B H xs Q hs k q => by
  cases k with
  | cons k1 k2 =>
    cases k2
    cases k1 with
    | lst hb hl =>
      rw [hl.bls] at hb
      exact ⟨_, bs, rfl, SqL.of (hs _ _ hb), q _ B H (.refl hs) (.bl _)⟩
theorem sum_cast : ∀ ns : List Nat, (ns.map fun (x : Nat) => (x : Int)).sum = ((ns.sum : Nat) : Int)
  | [] => rfl
  | n :: ns => by rw [List.map_cons, List.sum_cons, List.sum_cons, sum_cast ns]; omega
theorem rc_sum {ns : List Nat} : RcD (rSum K) [dL ns] (dN ns.sum) := fun B H xs Q hs k q => by
  cases k with
  | cons k1 k2 =>
    cases k2
    cases k1 with
    | lst hb hl =>
      rw [hl.nats] at hb
      refine ⟨_, _, rfl, SqL.of (hs _ _ hb), ?_⟩
      rw [sum_cast]
      exact q _ B H (.refl hs) (.int _)
theorem rc_max {ns : List Nat} {m : Nat} (h1 : m ∈ ns) (h2 : ∀ x ∈ ns, x ≤ m) : RcD (rMax K) [dL ns] (dN m) := fun B H xs Q hs k q => by
  cases k with
  | cons k1 k2 =>
    cases k2
    cases k1 with
    | lst hb hl =>
      rw [hl.nats] at hb
      refine ⟨_, _, rfl, SqL.of (hs _ _ hb), by rw [List.length_map]; exact List.length_pos_of_mem h1, fun m' hm hle => ?_⟩
      obtain ⟨z, hz, rfl⟩ := List.mem_map.mp hm
      have a := hle _ (List.mem_map.mpr ⟨m, h1, rfl⟩)
      have b := h2 z hz
      have e : z = m := by omega
      subst e
      exact q _ B H (.refl hs) (.int _)
theorem rc_min {ns : List Nat} {m : Nat} (h1 : m ∈ ns) (h2 : ∀ x ∈ ns, m ≤ x) : RcD (rMin K) [dL ns] (dN m) := fun B H xs Q hs k q => by
  cases k with
  | cons k1 k2 =>
    cases k2
    cases k1 with
    | lst hb hl =>
      rw [hl.nats] at hb
      refine ⟨_, _, rfl, SqL.of (hs _ _ hb), by rw [List.length_map]; exact List.length_pos_of_mem h1, fun m' hm hle => ?_⟩
      obtain ⟨z, hz, rfl⟩ := List.mem_map.mp hm
      have a := hle _ (List.mem_map.mpr ⟨m, h1, rfl⟩)
      have b := h2 z hz
      have e : z = m := by omega
      subst e
      exact q _ B H (.refl hs) (.int _)
/-- sorted of a list of different ones, told by the ascending list of the same ones -/
theorem rc_sorted {ns ms : List Nat} (ha : ms.Pairwise (· < ·)) (hn : ns.Nodup) (hm : ∀ t, t ∈ ns ↔ t ∈ ms) : RcD (rSortedI K) [dL ns] (dL ms) := fun B H xs Q hs k q => by
  cases k with
  | cons k1 k2 =>
    cases k2
    cases k1 with
    | lst hb hl =>
      rw [hl.nats] at hb
      refine ⟨_, _, rfl, SqL.of (hs _ _ hb), fun ns' p hp hw hf => ?_⟩
      have perm : ns.Perm ms := (List.perm_ext_iff_of_nodup hn (ha.imp fun z => Nat.ne_of_lt z)).mpr hm
      have e : ns' = ms.map fun (x : Nat) => (x : Int) := by
        have p2 : ns'.Perm (ms.map fun (x : Nat) => (x : Int)) := hp.trans (perm.map _)
        refine p2.eq_of_pairwise (le := (· ≤ ·)) (fun x y _ _ h1 h2 => Int.le_antisymm h1 h2) hw ?_
        rw [List.pairwise_map]
        exact ha.imp fun z => by omega
      rw [e]
      refine q _ _ _ (Frm.new hs hf) (.lst upd_same ?_)
      rw [map_dN]
      exact KnL.of_ints _
end

/-! ### dicts -/
section
variable {K : PySem.W.Frag} {Γ : Gm} {td ty tv tx : TE}
def lookI (kvs : List (Int × Int)) (k : Int) : Option Int := (kvs.find? fun kv => decide (kv.1 = k)).map (·.2)
theorem valV_dk (k : Int) : ∀ kvs : List (Int × Int), valV (kvs.map ekv) (Sum.inl k : L2.Key) = (lookI kvs k).map V.int
  | [] => rfl
  | x :: r => by
    unfold lookI
    rw [List.map_cons, List.find?_cons]
    by_cases e : x.1 = k
    · rw [valV_pos (p := ekv x) (by show (Sum.inl x.1 : L2.Key) = Sum.inl k; rw [e]), decide_eq_true e]; rfl
    · rw [valV_neg (p := ekv x) (fun z => e (Sum.inl.inj z)), valV_dk k r, decide_eq_false e]; rfl
theorem g_dget {kvs : List (Int × Int)} {k n : Int} (hd : EvG td Γ (.dk kvs)) (hk : EvG ty Γ (.int k)) (h : lookI kvs k = some n) : EvG (tDGet td ty) Γ (.int n) := fun σ B en H Q hs q =>
  hd σ B en H _ hs fun v B1 H1 f1 k1 => hk σ B1 (en.mono f1.kb) H1 _ f1.kh fun w B2 H2 f2 k2 => by
    cases k2
    cases k1 with
    | dk hb =>
      refine ⟨_, .int n, rfl, ?_, q _ B2 H2 (f1.trans f2) (.int _)⟩
      have g := DGet.k (k := (Sum.inl k : L2.Key)) (f2.kh _ _ (f2.kb _ _ hb))
      rw [valV_dk, h] at g
      exact g
theorem g_din {kvs : List (Int × Int)} {k : Int} (hk : EvG ty Γ (.int k)) (hd : EvG td Γ (.dk kvs)) : EvG (tDIn ty td) Γ (.bl (lookI kvs k).isSome) := fun σ B en H Q hs q =>
  hk σ B en H _ hs fun v B1 H1 f1 k1 => hd σ B1 (en.mono f1.kb) H1 _ f1.kh fun w B2 H2 f2 k2 => by
    cases k1
    cases k2 with
    | dk hb =>
      have g := DGet.k (k := (Sum.inl k : L2.Key)) (f2.kh _ _ hb)
      rw [valV_dk] at g
      refine ⟨_, _, rfl, g, ?_⟩
      rw [Option.isSome_map]
      exact q _ B2 H2 (f1.trans f2) (.bl _)
theorem g_dnotin {kvs : List (Int × Int)} {k : Int} (hk : EvG ty Γ (.int k)) (hd : EvG td Γ (.dk kvs)) : EvG (tDNotIn ty td) Γ (.bl (!(lookI kvs k).isSome)) := fun σ B en H Q hs q =>
  hk σ B en H _ hs fun v B1 H1 f1 k1 => hd σ B1 (en.mono f1.kb) H1 _ f1.kh fun w B2 H2 f2 k2 => by
    cases k1
    cases k2 with
    | dk hb =>
      have g := DGet.k (k := (Sum.inl k : L2.Key)) (f2.kh _ _ hb)
      rw [valV_dk] at g
      refine ⟨_, _, rfl, g, ?_⟩
      rw [Option.isSome_map]
      exact q _ B2 H2 (f1.trans f2) (.bl _)
end

/-! ### what is walked -/
/-- at turn i the i-th of the items is given; the heap may have a new tuple -/
def Yd (items : List D) (B1 : Hp) : Nat → Hp → V → Hp → Prop := fun i H x H' => ∀ B, Same B1 B → Same B H → ∃ B' d, items[i]? = some d ∧ Frm B H B' H' ∧ Kn B' d x
def EvW (wi : TI) (σ : St) (B H : Hp) (items : List D) : Prop := ∀ R : It → Hp → Prop, (∀ J B1 H1, Frm B H B1 H1 → Walk J items.length (fun H' => Same B1 H') (Yd items B1) → R J H1) → wi σ H R
def EvWH (wi : TI) (σ : St) (B H : Hp) (items : List D) : Prop := ∀ R : It → Hp → Prop, (∀ J B1 H1, Frm B H B1 H1 → Walk J items.length (fun H' => Same H1 H') (Yd items B1) → R J H1) → wi σ H R
theorem EvW.h {wi : TI} {σ : St} {B H : Hp} {items : List D} (h : EvW wi σ B H items) : EvWH wi σ B H items := fun R q => h R fun J B1 H1 f1 wk => q J B1 H1 f1 (wk.mono (fun _ s => f1.kh.trans s) fun _ _ _ _ _ _ y => y)
def WkG (wi : TI) (Γ : Gm) (items : List D) : Prop := ∀ σ B, EnvOk B σ Γ → ∀ H, Same B H → EvW wi σ B H items
section
variable {K : PySem.W.Frag} {Γ : Gm} {tl : TE}
theorem yd_at {B1 : Hp} {items : List D} {vs : List V} (k : KnL B1 items vs) {i : Nat} {H : Hp} {x : V} {H' : Hp} (h : H' = H ∧ vs[i]? = some x) : Yd items B1 i H x H' := fun B h1 h2 => by
  obtain ⟨rfl, hx⟩ := h
  obtain ⟨d, e, kd⟩ := k.getV hx
  exact ⟨B, d, e, .refl h2, kd.mono h1⟩
theorem w_list {items : List D} (h : EvG tl Γ (.lst items)) : WkG (iList K tl) Γ items := fun σ B en H hs R q => h σ B en H _ hs fun v B1 H1 f1 k1 => by
  cases k1 with
  | @lst a vs xs hb hl =>
    refine ⟨a, rfl, ⟨vs, SqL.of (f1.kh _ _ hb)⟩, q _ B1 H1 f1 ?_⟩
    rw [hl.length]
    exact (walk_list (K := K) (a := a) (xs := vs)).mono (fun H' s => SqL.of (s _ _ hb)) fun i H2 x H3 hi s y => yd_at hl y
theorem w_tup {items : List D} (h : EvG tl Γ (.tup items)) : WkG (iTup K tl) Γ items := fun σ B en H hs R q => h σ B en H _ hs fun v B1 H1 f1 k1 => by
  cases k1 with
  | @tup a vs xs hb hl =>
    refine ⟨a, rfl, ⟨vs, SqT.of (f1.kh _ _ hb)⟩, q _ B1 H1 f1 ?_⟩
    rw [hl.length]
    exact (walk_tup (K := K) (a := a) (xs := vs)).mono (fun H' s => SqT.of (s _ _ hb)) fun i H2 x H3 hi s y => yd_at hl y
theorem yd_fn {B1 : Hp} {items : List D} {f : Nat → Int} (hf : ∀ i, i < items.length → items[i]? = some (.int (f i))) {i : Nat} {H : Hp} {x : V} {H' : Hp} (hi : i < items.length) (h : H' = H ∧ x = .int (f i)) : Yd items B1 i H x H' := fun B h1 h2 => by
  obtain ⟨rfl, rfl⟩ := h
  exact ⟨B, _, hf i hi, .refl h2, .int _⟩
theorem w_range1 {ta : TA} {n : Nat} (h : ArG ta Γ [dN n]) (hn : n < 1000000) : WkG (iRng1 ta) Γ ((List.range n).map dN) := fun σ B en H hs R q => h σ B en H _ hs fun vs B1 H1 f1 k1 => by
  cases k1 with
  | cons k1 k2 =>
    cases k2
    cases k1
    refine ⟨(n : Int), rfl, by omega, by omega, ?_⟩
    have e : ((n : Int).toNat) = n := by omega
    rw [e]
    refine q _ B1 H1 f1 ?_
    rw [List.length_map, List.length_range]
    refine (walk_range (lo := 0) (n := n)).mono (fun _ _ => trivial) fun i H2 x H3 hi _ y => ?_
    refine yd_fn (f := fun i => (i : Int)) (fun j hj => ?_) (by simpa using hi) ⟨y.1, ?_⟩
    · rw [List.getElem?_map, List.getElem?_range (by simpa using hj)]; rfl
    · rw [y.2]; show V.int (0 + (i : Int)) = _; rw [Int.zero_add]
/-- range(a + 1, n) -/
theorem w_range2 {ta : TA} {a n : Nat} (h : ArG ta Γ [dN a, dN n]) (ha : a < 1000000) (hn : n < 1000000) : WkG (iRng2 ta) Γ (((List.range (n - a)).map fun i => a + i).map dN) := fun σ B en H hs R q => h σ B en H _ hs fun vs B1 H1 f1 k1 => by
  cases k1 with
  | cons k1 k2 =>
    cases k2 with
    | cons k2 k3 =>
      cases k3
      cases k1
      cases k2
      refine ⟨(a : Int), (n : Int), rfl, by omega, ?_⟩
      have e : (((n : Int) - (a : Int)).toNat) = n - a := by omega
      rw [e]
      refine q _ B1 H1 f1 ?_
      rw [List.length_map, List.length_map, List.length_range]
      refine (walk_range (lo := (a : Int)) (n := n - a)).mono (fun _ _ => trivial) fun i H2 x H3 hi _ y => ?_
      refine yd_fn (f := fun i => ((a + i : Nat) : Int)) (fun j hj => ?_) (by simpa using hi) ⟨y.1, ?_⟩
      · rw [List.getElem?_map, List.getElem?_map, List.getElem?_range (by simpa using hj)]; rfl
      · rw [y.2]; show V.int ((a : Int) + (i : Int)) = _; rw [Int.natCast_add]
end

/-! ### targets -/
def GtG (g : TG) (Γ : Gm) (d : D) (Γ' : Gm) (is : List Nat) : Prop := ∀ (σ : St) (B : Hp) (v : V) (H : Hp) (Q : St → Hp → Prop), EnvOk B σ Γ → Same B H → Kn B d v → (∀ σ', EnvOk B σ' Γ' → (∀ vs, (∀ i ∈ is, i ∈ vs) → wipe σ' vs = wipe σ vs) → (∀ j, j ∉ is → σ'[j]? = σ[j]?) → Q σ' H) → g v σ H Q
theorem gt_name {Γ : Gm} {d : D} {i : Nat} : GtG (gName i) Γ d (Γ.set i (some d)) [i] := fun σ B v H Q en hs k q =>
  q _ (en.set k) (fun vs h => wipe_set _ _ (h i (by simp))) fun j hj => List.getElem?_set_ne (by
    intro z; subst z; exact hj (by simp))
theorem gt_pair {K : PySem.W.Frag} {Γ : Gm} {d e : D} {i j : Nat} : GtG (gTup K 2 (gCons (gName i) (gCons (gName j) gNil))) Γ (.tup [d, e]) ((Γ.set i (some d)).set j (some e)) [i, j] := fun σ B v H Q en hs k q => by
  cases k with
  | tup hb hl =>
    cases hl with
    | cons k1 hl =>
      cases hl with
      | cons k2 hl =>
        cases hl
        refine ⟨_, _, rfl, SqT.of (hs _ _ hb), rfl, _, _, rfl, _, _, rfl, rfl, ?_⟩
        refine q _ ((en.set k1).set k2) (fun vs h => ?_) fun m hm => ?_
        · rw [wipe_set _ _ (h j (by simp)), wipe_set _ _ (h i (by simp))]
        · rw [List.getElem?_set_ne, List.getElem?_set_ne]
          · intro z; subst z; exact hm (by simp)
          · intro z; subst z; exact hm (by simp)

/-! ### comprehensions -/
theorem tt_yes {Γ : Gm} : TtG tYes Γ true := fun σ B en H Q hs q => q B H (.refl hs)
/-- over anything walked: the i-th item x with its own facts -/
theorem lc_at {α : Type} {xs : List α} {enc : α → D} {wi : TI} {g : TG} {tt : TT} {te : TE} {vs is : List Nat} {Γ : Gm} {Gx : α → Gm} {p : α → Bool} {f : α → D} (hz : xs.length ≤ 10000000) (hi : ∀ i ∈ is, i ∈ vs)
    (hg : ∀ x ∈ xs, GtG g (wipeG Γ vs) (enc x) (Gx x) is) (ht : ∀ x ∈ xs, TtG tt (Gx x) (p x)) (he : ∀ x ∈ xs, p x = true → EvG te (Gx x) (f x)) {σ : St} {B H : Hp} (en : EnvOk B σ Γ) (hs : Same B H) (hw : EvWH wi σ B H (xs.map enc)) (Q : VK)
    (q : ∀ v B2 H2, Frm B H B2 H2 → Kn B2 (.lst ((xs.filter p).map f)) v → Q v H2) : tLc wi g tt te vs σ H Q := by
  refine hw _ fun J B1 H1 f1 wk => fun Dl hD => ?_
  rw [List.length_map] at wk
  have bD : B1 Dl = none := f1.kh.free hD
  refine lc_it wk (fun i H' => ∃ B' acc, Frm B1 H1 B' H' ∧ H' Dl = some (.lst acc) ∧ B' Dl = none ∧ KnL B' (((xs.take i).filter p).map f) acc) ⟨B1, [], .lay f1.kh hD, upd_same, bD, by simpa using KnL.nil⟩ (fun i H' _ ⟨B', _, fr, _⟩ => fr.hh) ?_ ?_
  · rintro i x H' H'' hlt ⟨B', acc, fr, hl, hb, ka⟩ y
    obtain ⟨B2, d, ed, f2, kd⟩ := y B' fr.kb fr.kh
    rw [List.getElem?_map, List.getElem?_eq_getElem hlt] at ed
    have ed : d = enc xs[i] := (Option.some.inj ed).symm
    subst ed
    have hm : xs[i] ∈ xs := List.getElem_mem hlt
    have fr2 := fr.trans f2
    have h2 : H'' Dl = some (.lst acc) := f2.hh _ _ hl
    have b2 : B2 Dl = none := f2.hid _ hb (by rw [hl]; trivial)
    refine hg _ hm _ B2 x H'' _ ((en.mono (f1.kb.trans fr2.kb)).wipe vs) f2.kh kd fun σ2 en2 hwp _ => ⟨?_, ?_⟩
    · rw [hwp vs hi, wipe_wipe σ fun i h => h]
    · refine ht _ hm σ2 B2 en2 H'' _ f2.kh fun B3 H3 f3 => ?_
      have h3 : H3 Dl = some (.lst acc) := f3.hh _ _ h2
      have b3 : B3 Dl = none := f3.hid _ b2 (by rw [h2]; trivial)
      have eT : xs.take (i + 1) = xs.take i ++ [xs[i]] := by rw [List.take_add_one, List.getElem?_eq_getElem hlt]; rfl
      cases hp : p xs[i] with
      | true =>
        rw [if_pos rfl]
        refine he _ hm hp σ2 B3 (en2.mono f3.kb) H3 _ f3.kh fun v B4 H4 f4 k4 => ?_
        have h4 : H4 Dl = some (.lst acc) := f4.hh _ _ h3
        have b4 : B4 Dl = none := f4.hid _ b3 (by rw [h3]; trivial)
        have frA := (fr2.trans f3).trans f4
        refine ⟨acc, h4, ?_, B4, acc ++ [v], ⟨frA.kb, same_mut frA.kh b4, same_mut frA.hh hD, frA.hid⟩, upd_same, b4, ?_⟩
        · rw [← ka.length, List.length_map]
          refine sz_lt (Nat.lt_of_le_of_lt (List.length_filter_le _ _) ?_)
          rw [List.length_take]
          omega
        · rw [eT, List.filter_append, List.map_append]
          have e1 : ([xs[i]].filter p).map f = [f xs[i]] := by simp [hp]
          rw [e1]
          exact (ka.mono (f2.kb.trans (f3.kb.trans f4.kb))).append (.cons k4 .nil)
      | false =>
        rw [if_neg Bool.false_ne_true]
        refine ⟨B3, acc, fr2.trans f3, h3, b3, ?_⟩
        rw [eT, List.filter_append, List.map_append]
        have e1 : ([xs[i]].filter p).map f = [] := by simp [hp]
        rw [e1, List.append_nil]
        exact ka.mono (f2.kb.trans f3.kb)
  · rintro H' ⟨B', acc, fr, hl, hb, ka⟩
    rw [List.take_length] at ka
    have kb2 : Same B' (upd B' Dl (.lst acc)) := same_new hb
    refine q _ (upd B' Dl (.lst acc)) H' ⟨f1.kb.trans (fr.kb.trans kb2), fun a o e => ?_, f1.hh.trans fr.hh, fun a h1 h2 => ?_⟩ (.lst upd_same (ka.mono kb2))
    · by_cases z : a = Dl
      · subst z; rw [upd_same] at e; cases e; exact hl
      · rw [upd_ne z] at e; exact fr.kh a o e
    · have h3 : Hi (H1 a) := by
        cases e : H a with
        | none => rw [e] at h2; exact h2.elim
        | some o => rw [e] at h2; rw [f1.hh a o e]; exact h2
      have z : a ≠ Dl := fun z => by rw [z, hD] at h3; exact h3
      rw [upd_ne z]
      exact fr.hid a (f1.hid a h1 h2) h3
theorem g_lc {α : Type} {xs : List α} {enc : α → D} {wi : TI} {g : TG} {tt : TT} {te : TE} {vs is : List Nat} {Γ : Gm} {Gx : α → Gm} {p : α → Bool} {f : α → D} (hw : WkG wi Γ (xs.map enc)) (hz : xs.length ≤ 10000000) (hi : ∀ i ∈ is, i ∈ vs)
    (hg : ∀ x ∈ xs, GtG g (wipeG Γ vs) (enc x) (Gx x) is) (ht : ∀ x ∈ xs, TtG tt (Gx x) (p x)) (he : ∀ x ∈ xs, p x = true → EvG te (Gx x) (f x)) : EvG (tLc wi g tt te vs) Γ (.lst ((xs.filter p).map f)) := fun σ B en H Q hs q =>
  lc_at hz hi hg ht he en hs (hw σ B en H hs).h Q q
/-- without tests -/
theorem g_lc0 {α : Type} {xs : List α} {enc : α → D} {wi : TI} {g : TG} {te : TE} {vs is : List Nat} {Γ : Gm} {Gx : α → Gm} {f : α → D} (hw : WkG wi Γ (xs.map enc)) (hz : xs.length ≤ 10000000) (hi : ∀ i ∈ is, i ∈ vs)
    (hg : ∀ x ∈ xs, GtG g (wipeG Γ vs) (enc x) (Gx x) is) (he : ∀ x ∈ xs, EvG te (Gx x) (f x)) : EvG (tLc wi g tYes te vs) Γ (.lst (xs.map f)) := by
  have h := g_lc (p := fun _ => true) hw hz hi hg (fun _ _ => tt_yes) fun x hx _ => he x hx
  have e : xs.filter (fun _ => true) = xs := List.filter_eq_self.mpr fun _ _ => rfl
  rw [e] at h
  exact h
theorem g_any {K : PySem.W.Frag} {α : Type} {xs : List α} {q : α → Bool} {te : TE} {Γ : Gm} (h : EvG te Γ (.lst (xs.map fun x => .bl (q x)))) : EvG (tCB (rAny K) (tCons te tNil)) Γ (.bl (xs.any q)) := by
  have e : (xs.map fun x => D.bl (q x)) = (xs.map q).map D.bl := by rw [List.map_map]; rfl
  rw [e] at h
  refine (g_cb (a_cons h a_nil) rc_any).is ?_
  rw [List.any_map]; rfl
theorem g_all {K : PySem.W.Frag} {α : Type} {xs : List α} {q : α → Bool} {te : TE} {Γ : Gm} (h : EvG te Γ (.lst (xs.map fun x => .bl (q x)))) : EvG (tCB (rAll K) (tCons te tNil)) Γ (.bl (xs.all q)) := by
  have e : (xs.map fun x => D.bl (q x)) = (xs.map q).map D.bl := by rw [List.map_map]; rfl
  rw [e] at h
  refine (g_cb (a_cons h a_nil) rc_all).is ?_
  rw [List.all_map]; rfl
end FW

set_option Elab.async false
set_option linter.all false
set_option maxRecDepth 100000
set_option maxHeartbeats 4000000
/-! statements over what is known and what is owned -/
namespace FW
open PySem L2

structure Ctx where
  B0 : Hp
  H0 : Hp
  Bl : Hp
/-- an object of the def's own that it changes -/
inductive Ow where
  | l (ds : List D) | dk (kvs : List (Int × Int)) | dt (kvs : List (List Int × Int)) | ext (A : Addr → Hp → HO → Prop)
def Ow.d : Ow → D
  | .l ds => .lst ds
  | .dk kvs => .dk kvs
  | .dt kvs => .dt kvs
  | .ext _ => .obj
def Ow.At (B H : Hp) (p : Addr) : Ow → Prop
  | .l ds => ∃ vs, H p = some (.lst vs) ∧ KnL B ds vs
  | .dk kvs => H p = some (.dK (kvs.map ekv))
  | .dt kvs => H p = some (.dT (kvs.map etv))
  | .ext A => ∃ B1 u, Same B1 B ∧ H p = some u ∧ Hi (some u) ∧ A p B1 u
abbrev Ows := List (Nat × Ow)
inductive OwL (C : Ctx) (B : Hp) (σ : St) (H : Hp) : Ows → List Addr → Prop
  | nil : OwL C B σ H [] []
  | cons {i : Nat} {o : Ow} {M : Ows} {p : Addr} {ps : List Addr} : σ[i]? = some (some (.ref p)) → C.H0 p = none → B p = none → o.At B H p → p ∉ ps → OwL C B σ H M ps → OwL C B σ H ((i, o) :: M) (p :: ps)
structure AtB (C : Ctx) (Γ : Gm) (M : Ows) (σ : St) (B H : Hp) : Prop where
  frm : Frm C.B0 C.H0 B H
  low : Same C.Bl B
  env : EnvOk B σ Γ
  own : ∃ ps, OwL C B σ H M ps
def AtM (C : Ctx) (Γ : Gm) (M : Ows) (σ : St) (H : Hp) : Prop := ∃ B, AtB C Γ M σ B H
def Pn (C : Ctx) (Γ : Gm) (M : Ows) (P : St → Hp → Prop) : Prop := ∀ σ H, AtM C Γ M σ H → P σ H

theorem Ow.At.ne {B H : Hp} {p : Addr} {o : Ow} (h : o.At B H p) : H p ≠ none := by
  cases o with
  | l ds => obtain ⟨vs, e, _⟩ := h; rw [e]; exact fun z => nomatch z
  | dk kvs => have e : H p = _ := h; rw [e]; exact fun z => nomatch z
  | dt kvs => have e : H p = _ := h; rw [e]; exact fun z => nomatch z
  | ext A => obtain ⟨_, _, _, e, _⟩ := h; rw [e]; exact fun z => nomatch z
theorem Ow.At.hi {B H : Hp} {p : Addr} {o : Ow} (h : o.At B H p) : Hi (H p) := by
  cases o with
  | l ds => obtain ⟨vs, e, _⟩ := h; rw [e]; trivial
  | dk kvs => have e : H p = _ := h; rw [e]; trivial
  | dt kvs => have e : H p = _ := h; rw [e]; trivial
  | ext A => obtain ⟨_, _, _, e, g, _⟩ := h; rw [e]; exact g
theorem Ow.At.mono {B H B2 H2 : Hp} {p : Addr} {o : Ow} (h : o.At B H p) (kb : Same B B2) (e2 : H2 p = H p) : o.At B2 H2 p := by
  cases o with
  | l ds => obtain ⟨vs, e, k⟩ := h; exact ⟨vs, e2.trans e, k.mono kb⟩
  | dk kvs => exact e2.trans h
  | dt kvs => exact e2.trans h
  | ext A => obtain ⟨B1, u, e, g, g2, k⟩ := h; exact ⟨B1, u, e.trans kb, e2.trans g, g2, k⟩
theorem same_eq {H H2 : Hp} {p : Addr} (h : Same H H2) (hp : H p ≠ none) : H2 p = H p := by
  cases e : H p with
  | none => exact absurd e hp
  | some o => exact h p o e
section
variable {C : Ctx} {Γ : Gm} {M : Ows} {σ : St} {B H B2 H2 : Hp} {ps : List Addr}
theorem OwL.step (h : OwL C B σ H M ps) (f : Frm B H B2 H2) : OwL C B2 σ H2 M ps := by
  induction h with
  | nil => exact .nil
  | cons h1 h2 h3 h4 h5 _ ih => exact .cons h1 h2 (f.hid _ h3 h4.hi) (h4.mono f.kb (same_eq f.hh h4.ne)) h5 ih
theorem OwL.keep (h : OwL C B σ H M ps) (f : Same H H2) : OwL C B σ H2 M ps := by
  induction h with
  | nil => exact .nil
  | cons h1 h2 h3 h4 h5 _ ih => exact .cons h1 h2 h3 (h4.mono (Same.refl _) (same_eq f h4.ne)) h5 ih
/-- another object is changed or laid -/
theorem OwL.other {p : Addr} {o : HO} (h : OwL C B σ H M ps) (hp : p ∉ ps) : OwL C B σ (upd H p o) M ps := by
  induction h with
  | nil => exact .nil
  | cons h1 h2 h3 h4 h5 _ ih =>
    have ne := fun z => hp (List.mem_cons.mpr (.inl z))
    exact .cons h1 h2 h3 (h4.mono (Same.refl _) (upd_ne (fun z => ne z.symm))) h5 (ih fun z => hp (List.mem_cons_of_mem _ z))
theorem OwL.slots {σ' : St} (h : OwL C B σ H M ps) (hi : ∀ m ∈ M, σ'[m.1]? = σ[m.1]?) : OwL C B σ' H M ps := by
  induction h with
  | nil => exact .nil
  | cons h1 h2 h3 h4 h5 _ ih => exact .cons ((hi _ List.mem_cons_self).trans h1) h2 h3 h4 h5 (ih fun m hm => hi m (List.mem_cons_of_mem _ hm))
theorem OwL.tracked (h : OwL C B σ H M ps) : ∀ p ∈ ps, H p ≠ none := by
  induction h with
  | nil => intro p hp; simp at hp
  | cons h1 h2 h3 h4 h5 _ ih =>
    intro p hp
    rcases List.mem_cons.mp hp with rfl | hp
    · exact h4.ne
    · exact ih p hp
theorem AtB.step (a : AtB C Γ M σ B H) (f : Frm B H B2 H2) : AtB C Γ M σ B2 H2 :=
  ⟨a.frm.trans f, a.low.trans f.kb, a.env.mono f.kb, let ⟨ps, h⟩ := a.own; ⟨ps, h.step f⟩⟩
theorem AtB.keep (a : AtB C Γ M σ B H) (h : Same H H2) : AtB C Γ M σ B H2 :=
  ⟨⟨a.frm.kb, a.frm.kh.trans h, a.frm.hh.trans h, a.frm.hid⟩, a.low, a.env, let ⟨ps, o⟩ := a.own; ⟨ps, o.keep h⟩⟩
theorem AtB.set {i : Nat} {d : D} {v : V} (a : AtB C Γ M σ B H) (k : Kn B d v) (hi : ∀ m ∈ M, m.1 ≠ i) : AtB C (Γ.set i (some d)) M (σ.set i (some v)) B H :=
  ⟨a.frm, a.low, a.env.set k, let ⟨ps, o⟩ := a.own; ⟨ps, o.slots fun m hm => List.getElem?_set_ne (Ne.symm (hi m hm))⟩⟩
theorem AtB.sub {Γ' : Gm} (a : AtB C Γ M σ B H) (s : Sub Γ' Γ) : AtB C Γ' M σ B H := ⟨a.frm, a.low, a.env.sub s, a.own⟩
end
/-- a value, a test, where some objects are owned -/
def EvM (C : Ctx) (Γ : Gm) (M : Ows) (te : TE) (d : D) : Prop := ∀ σ B H, AtB C Γ M σ B H → ∀ Q : VK, (∀ v B2 H2, AtB C Γ M σ B2 H2 → Same B B2 → Kn B2 d v → Q v H2) → te σ H Q
def TtM (C : Ctx) (Γ : Gm) (M : Ows) (tt : TT) (b : Bool) : Prop := ∀ σ B H, AtB C Γ M σ B H → ∀ Q : Bool → Hp → Prop, (∀ B2 H2, AtB C Γ M σ B2 H2 → Same B B2 → Q b H2) → tt σ H Q
def flat : D → Bool
  | .int _ => true
  | .bl _ => true
  | .non => true
  | _ => false
theorem Kn.flat {B B' : Hp} {d : D} {v : V} (h : Kn B d v) (hf : flat d = true) : Kn B' d v := by
  cases h with
  | int i => exact .int i
  | bl b => exact .bl b
  | non => exact .non
  | tup _ _ => cases hf
  | lst _ _ => cases hf
  | dk _ => cases hf
  | dt _ => cases hf
  | cl _ => cases hf
  | obj _ => cases hf
section
variable {C : Ctx} {Γ : Gm} {M : Ows} {te : TE} {tt : TT} {d : D} {b : Bool} {D : Ends}
theorem em (h : EvG te Γ d) : EvM C Γ M te d := fun σ B H a Q q => h σ B a.env H Q a.frm.kh fun v B2 H2 f k => q v B2 H2 (a.step f) f.kb k
theorem tm (h : TtG tt Γ b) : TtM C Γ M tt b := fun σ B H a Q q => h σ B a.env H Q a.frm.kh fun B2 H2 f => q B2 H2 (a.step f) f.kb
theorem Ow.At.kn {B H : Hp} {p : Addr} {o : Ow} (h : o.At B H p) (hb : B p = none) : ∃ u, H p = some u ∧ Kn (upd B p u) o.d (.ref p) := by
  cases o with
  | l ds => obtain ⟨vs, e, k⟩ := h; exact ⟨_, e, .lst upd_same (k.mono (same_new hb))⟩
  | dk kvs => exact ⟨_, h, .dk upd_same⟩
  | dt kvs => exact ⟨_, h, .dt upd_same⟩
  | ext A => obtain ⟨_, u, _, g, _⟩ := h; exact ⟨u, g, .obj upd_same⟩
theorem same_upd_of {B H : Hp} {p : Addr} {u : HO} (h : Same B H) (hp : H p = some u) : Same (upd B p u) H := fun a o e => by
  by_cases z : a = p
  · subst z; rw [upd_same] at e; cases e; exact hp
  · rw [upd_ne z] at e; exact h a o e
/-- the first owned object is read too: for numbers and truth values -/
theorem em_own {i : Nat} {o : Ow} (h : EvG te (Γ.set i (some o.d)) d) (hf : flat d = true) : EvM C Γ ((i, o) :: M) te d := fun σ B H a Q q => by
  obtain ⟨ps, ow⟩ := a.own
  cases ow with
  | cons h1 h2 h3 h4 h5 h6 =>
    obtain ⟨u, hu, ku⟩ := h4.kn h3
    have kb := same_new (o := u) h3
    refine h σ _ ((a.env.mono kb).know h1 ku) H Q (same_upd_of a.frm.kh hu) fun v B2 H2 f k => q v B H2 (a.keep f.hh) (Same.refl _) (k.flat hf)
theorem tm_own {i : Nat} {o : Ow} (h : TtG tt (Γ.set i (some o.d)) b) : TtM C Γ ((i, o) :: M) tt b := fun σ B H a Q q => by
  obtain ⟨ps, ow⟩ := a.own
  cases ow with
  | cons h1 h2 h3 h4 h5 h6 =>
    obtain ⟨u, hu, ku⟩ := h4.kn h3
    have kb := same_new (o := u) h3
    refine h σ _ ((a.env.mono kb).know h1 ku) H Q (same_upd_of a.frm.kh hu) fun B2 H2 f => q B H2 (a.keep f.hh) (Same.refl _)
theorem Pn.sub {Γ' : Gm} {P : St → Hp → Prop} (h : Pn C Γ' M P) (s : Sub Γ' Γ) : Pn C Γ M P := fun σ H ⟨B, a⟩ => h σ H ⟨B, a.sub s⟩
theorem Pn.eqs {Γ' : Gm} {M' : Ows} {P : St → Hp → Prop} (h : Pn C Γ' M' P) (e1 : Γ' = Γ) (e2 : M' = M) : Pn C Γ M P := by subst e1 e2; exact h

/-! ### plain statements -/
theorem p_seq {t u : TS} (h : Pn C Γ M (t { D with nx := u D })) : Pn C Γ M (tSeq t u D) := h
theorem p_next (h : Pn C Γ M D.nx) : Pn C Γ M (tNext D) := h
theorem p_asg {i : Nat} (he : EvM C Γ M te d) (h : Pn C (Γ.set i (some d)) M D.nx) (hi : ∀ m ∈ M, m.1 ≠ i := by simp) : Pn C Γ M (tAsg te (gName i) D) := fun σ H ⟨B, a⟩ =>
  he σ B H a _ fun v B2 H2 a2 _ k => h _ _ ⟨B2, a2.set k hi⟩
theorem p_drop (he : EvM C Γ M te d) (h : Pn C Γ M D.nx) : Pn C Γ M (tDrop te D) := fun σ H ⟨B, a⟩ =>
  he σ B H a _ fun v B2 H2 a2 _ k => h _ _ ⟨B2, a2⟩
theorem p_ret (he : EvM C Γ M te d) (h : ∀ v B H, Frm C.B0 C.H0 B H → Kn B d v → D.rt v H) : Pn C Γ M (tRet te D) := fun σ H ⟨B, a⟩ =>
  he σ B H a _ fun v B2 H2 a2 _ k => h v B2 H2 a2.frm k
theorem p_if {t u : TS} (hc : TtM C Γ M tt b) (h1 : b = true → Pn C Γ M (t D)) (h2 : b = false → Pn C Γ M (u D)) : Pn C Γ M (tIfS tt t u D) := fun σ H ⟨B, a⟩ =>
  hc σ B H a _ fun B2 H2 a2 _ => by
    cases b with
    | true => exact h1 rfl _ _ ⟨B2, a2⟩
    | false => exact h2 rfl _ _ ⟨B2, a2⟩
/-- the owned object is given up: it is known from here on -/
theorem p_give {i : Nat} {o : Ow} {P : St → Hp → Prop} (h : Pn C (Γ.set i (some o.d)) M P) : Pn C Γ ((i, o) :: M) P := fun σ H ⟨B, a⟩ => by
  obtain ⟨ps, ow⟩ := a.own
  cases ow with
  | @cons _ _ _ p qs h1 h2 h3 h4 h5 h6 =>
    obtain ⟨u, hu, ku⟩ := h4.kn h3
    have kb := same_new (o := u) h3
    refine h σ H ⟨upd B p u, ⟨a.frm.kb.trans kb, same_upd_of a.frm.kh hu, a.frm.hh, fun c e1 e2 => ?_⟩, a.low.trans kb, (a.env.mono kb).know h1 ku, qs, ?_⟩
    · have z : c ≠ p := fun z => by rw [z, h2] at e2; exact e2
      rw [upd_ne z]
      exact a.frm.hid c e1 e2
    · -- the others are owned over the wider knowledge
      have key : ∀ {M : Ows} {ps : List Addr}, OwL C B σ H M ps → p ∉ ps → OwL C (upd B p u) σ H M ps := fun {M ps} o => by
        induction o with
        | nil => exact fun _ => .nil
        | cons g1 g2 g3 g4 g5 _ ih =>
          intro hn
          have ne := fun z => hn (List.mem_cons.mpr (.inl z))
          exact .cons g1 g2 (by rw [upd_ne (fun z => ne z.symm)]; exact g3) (g4.mono kb rfl) g5 (ih fun z => hn (List.mem_cons_of_mem _ z))
      exact key h6 h5
/-- a new list, owned -/
theorem AtB.lay {i : Nat} {o : Ow} {u : HO} {σ : St} {B H : Hp} {p : Addr} (a : AtB C Γ M σ B H) (hp : H p = none) (ho : o.At B (upd H p u) p) (hi : ∀ m ∈ M, m.1 ≠ i) (hl : i < Γ.length) : AtB C (Γ.set i none) ((i, o) :: M) (σ.set i (some (.ref p))) B (upd H p u) := by
  obtain ⟨ps, ow⟩ := a.own
  have hb := a.frm.kh.free hp
  have hn : p ∉ ps := fun z => ow.tracked p z hp
  refine ⟨⟨a.frm.kb, a.frm.kh.trans (same_new hp), a.frm.hh.trans (same_new hp), a.frm.hid⟩, a.low, a.env.setN, p :: ps, .cons (List.getElem?_set_self (by rw [a.env.len]; exact hl)) (a.frm.hh.free hp) hb ho hn ?_⟩
  exact (ow.other hn).slots fun m hm => List.getElem?_set_ne (Ne.symm (hi m hm))
theorem p_newl {i : Nat} {ta : TA} {ds : List FW.D} (ha : ArG ta Γ ds) (hz : ds.length ≤ 10000000) (h : Pn C (Γ.set i none) ((i, .l ds) :: M) D.nx) (hi : ∀ m ∈ M, m.1 ≠ i := by simp) (hl : i < Γ.length := by exact Nat.le_of_ble_eq_true rfl) : Pn C Γ M (tAsg (tLst ta) (gName i) D) := fun σ H ⟨B, a⟩ =>
  ha σ B a.env H _ a.frm.kh fun vs B1 H1 f1 k1 => ⟨by rw [← k1.length]; exact sz_le hz, fun p hp => h _ _ ⟨B1, (a.step f1).lay (o := .l ds) hp ⟨vs, upd_same, k1⟩ hi hl⟩⟩
theorem p_newk {i : Nat} (h : Pn C (Γ.set i none) ((i, .dk []) :: M) D.nx) (hi : ∀ m ∈ M, m.1 ≠ i := by simp) (hl : i < Γ.length := by exact Nat.le_of_ble_eq_true rfl) : Pn C Γ M (tAsg tDNewK (gName i) D) := fun σ H ⟨B, a⟩ p hp =>
  h _ _ ⟨B, a.lay (o := .dk []) hp (show upd H p (.dK []) p = _ from upd_same) hi hl⟩
theorem p_newt {i : Nat} (h : Pn C (Γ.set i none) ((i, .dt []) :: M) D.nx) (hi : ∀ m ∈ M, m.1 ≠ i := by simp) (hl : i < Γ.length := by exact Nat.le_of_ble_eq_true rfl) : Pn C Γ M (tAsg tDNewT (gName i) D) := fun σ H ⟨B, a⟩ p hp =>
  h _ _ ⟨B, a.lay (o := .dt []) hp (show upd H p (.dT []) p = _ from upd_same) hi hl⟩
/-- the first owned object is changed -/
theorem AtB.mut {i : Nat} {o o' : Ow} {u : HO} {σ : St} {B H : Hp} {p : Addr} {ps : List Addr} (a : AtB C Γ ((i, o) :: M) σ B H) (ow : OwL C B σ H ((i, o) :: M) (p :: ps)) (ho : o'.At B (upd H p u) p) : AtB C Γ ((i, o') :: M) σ B (upd H p u) := by
  cases ow with
  | cons h1 h2 h3 h4 h5 h6 =>
    exact ⟨⟨a.frm.kb, same_mut a.frm.kh h3, same_mut a.frm.hh h2, a.frm.hid⟩, a.low, a.env, p :: ps, .cons h1 h2 h3 ho h5 (h6.other h5)⟩
theorem p_app {K : PySem.W.Frag} {i : Nat} {ds : List FW.D} (he : EvM C Γ ((i, .l ds) :: M) te d) (hz : ds.length < 10000000) (h : Pn C Γ ((i, .l (ds ++ [d])) :: M) D.nx) : Pn C Γ ((i, .l ds) :: M) (tDrop (tBM K "list" rAppend (tVar i) (tCons te tNil)) D) := fun σ H ⟨B, a⟩ => by
  obtain ⟨ps, ow⟩ := a.own
  cases ow with
  | @cons _ _ _ p qs h1 h2 h3 h4 h5 h6 =>
    obtain ⟨vs, hv, kv⟩ := h4
    refine ⟨.ref p, h1, .inl ⟨rfl, _, SqL.of hv⟩, he σ B H a _ fun v B2 H2 a2 sb k => ?_⟩
    obtain ⟨ps2, ow2⟩ := a2.own
    have ow2' := ow2
    cases ow2 with
    | @cons _ _ _ p' qs' g1 g2 g3 g4 g5 g6 =>
      have e : p' = p := by rw [h1] at g1; cases g1; rfl
      subst e
      obtain ⟨vs2, hv2, kv2⟩ := g4
      refine ⟨p', vs2, v, rfl, rfl, hv2, by rw [← kv2.length]; exact sz_lt hz, h _ _ ⟨B2, a2.mut (o' := .l (ds ++ [d])) ow2' ⟨vs2 ++ [v], upd_same, kv2.append (.cons k .nil)⟩⟩⟩
theorem p_ext {K : PySem.W.Frag} {i : Nat} {ds es : List FW.D} (he : EvG te Γ (.lst es)) (hz : ds.length + es.length ≤ 10000000) (h : Pn C Γ ((i, .l (ds ++ es)) :: M) D.nx) : Pn C Γ ((i, .l ds) :: M) (tDrop (tBM K "list" rExtend (tVar i) (tCons te tNil)) D) := fun σ H ⟨B, a⟩ => by
  obtain ⟨ps, ow⟩ := a.own
  cases ow with
  | @cons _ _ _ p qs h1 h2 h3 h4 h5 h6 =>
    obtain ⟨vs, hv, kv⟩ := h4
    refine ⟨.ref p, h1, .inl ⟨rfl, _, SqL.of hv⟩, he σ B a.env H _ a.frm.kh fun v B2 H2 f k => ?_⟩
    have a2 := a.step f
    have ow2 : OwL C B2 σ H2 ((i, .l ds) :: M) (p :: qs) := (OwL.cons h1 h2 h3 (show Ow.At B H p (.l ds) from ⟨vs, hv, kv⟩) h5 h6).step f
    cases k with
    | @lst b zs _ hb hl =>
      refine ⟨p, b, vs, zs, rfl, rfl, f.hh _ _ hv, f.kh _ _ hb, by rw [← kv.length, ← hl.length]; exact sz_le hz, h _ _ ⟨B2, a2.mut (o' := .l (ds ++ es)) ow2 ⟨vs ++ zs, upd_same, (kv.mono f.kb).append hl⟩⟩⟩
/-- .. by what is reckoned of the owned list itself -/
theorem p_extS {K : PySem.W.Frag} {i : Nat} {ds es : List FW.D} (he : ∀ σ B H, AtB C Γ ((i, .l ds) :: M) σ B H → ∀ Q : VK, (∀ v B2 H2, Frm B H B2 H2 → Kn B2 (.lst es) v → Q v H2) → te σ H Q) (hz : ds.length + es.length ≤ 10000000) (h : Pn C Γ ((i, .l (ds ++ es)) :: M) D.nx) : Pn C Γ ((i, .l ds) :: M) (tDrop (tBM K "list" rExtend (tVar i) (tCons te tNil)) D) := fun σ H ⟨B, a⟩ => by
  obtain ⟨ps, ow⟩ := a.own
  cases ow with
  | @cons _ _ _ p qs h1 h2 h3 h4 h5 h6 =>
    obtain ⟨vs, hv, kv⟩ := h4
    refine ⟨.ref p, h1, .inl ⟨rfl, _, SqL.of hv⟩, he σ B H a _ fun v B2 H2 f k => ?_⟩
    have a2 := a.step f
    have ow2 : OwL C B2 σ H2 ((i, .l ds) :: M) (p :: qs) := (OwL.cons h1 h2 h3 (show Ow.At B H p (.l ds) from ⟨vs, hv, kv⟩) h5 h6).step f
    cases k with
    | @lst b zs _ hb hl =>
      refine ⟨p, b, vs, zs, rfl, rfl, f.hh _ _ hv, f.kh _ _ hb, by rw [← kv.length, ← hl.length]; exact sz_le hz, h _ _ ⟨B2, a2.mut (o' := .l (ds ++ es)) ow2 ⟨vs ++ zs, upd_same, (kv.mono f.kb).append hl⟩⟩⟩
/-- the first owned list, walked -/
theorem w_own {K : PySem.W.Frag} {i : Nat} {ds : List FW.D} {σ : St} {B H : Hp} (a : AtB C Γ ((i, .l ds) :: M) σ B H) : EvWH (iList K (tVar i)) σ B H ds := fun R q => by
  obtain ⟨ps, ow⟩ := a.own
  cases ow with
  | @cons _ _ _ p qs h1 h2 h3 h4 h5 h6 =>
    obtain ⟨vs, hv, kv⟩ := h4
    refine ⟨.ref p, h1, p, rfl, ⟨vs, SqL.of hv⟩, q _ B H (.refl a.frm.kh) ?_⟩
    rw [kv.length]
    exact (walk_list (K := K) (a := p) (xs := vs)).mono (fun H' s => SqL.of (s _ _ hv)) fun i H2 x H3 hi s y => yd_at kv y
theorem p_done {Γ' : Gm} {M' : Ows} (s : Sub Γ' Γ) (e : M' = M) : Pn C Γ M (AtM C Γ' M') := by
  subst e
  exact fun σ H ⟨B, a⟩ => ⟨B, a.sub s⟩
/-- d[k] = n of the first owned dict; the key and the number may be read off it -/
def putI (kvs : List (Int × Int)) (k n : Int) : List (Int × Int) := if (kvs.any fun kv => decide (kv.1 = k)) = true then kvs.map (fun kv => if kv.1 = k then (kv.1, n) else kv) else kvs ++ [(k, n)]
theorem putK_dk (kvs : List (Int × Int)) (k n : Int) : putK (kvs.map ekv) (Sum.inl k : L2.Key) (.int n) = (putI kvs k n).map ekv := by
  unfold putK putI
  have e : ((kvs.map ekv).any fun kv => decide (kv.1 = (Sum.inl k : L2.Key))) = kvs.any fun kv => decide (kv.1 = k) := by
    rw [List.any_map]
    congr 1
    funext x
    show decide ((Sum.inl x.1 : L2.Key) = Sum.inl k) = decide (x.1 = k)
    by_cases h : x.1 = k
    · rw [decide_eq_true h, h]; exact decide_eq_true rfl
    · rw [decide_eq_false h]; exact decide_eq_false fun z => h (Sum.inl.inj z)
  rw [e]
  split
  · rw [List.map_map, List.map_map]
    apply List.map_congr_left
    intro x _
    show (if (Sum.inl x.1 : L2.Key) = Sum.inl k then ((Sum.inl x.1 : L2.Key), V.int n) else ekv x) = ekv (if x.1 = k then (x.1, n) else x)
    by_cases h : x.1 = k
    · rw [if_pos h, if_pos (by rw [h])]; rfl
    · rw [if_neg h, if_neg (fun z => h (Sum.inl.inj z))]
  · rw [List.map_append]; rfl
theorem p_dput {i : Nat} {ty tv : TE} {kvs : List (Int × Int)} {k n : Int} (hv : EvM C Γ ((i, .dk kvs) :: M) tv (.int n)) (hk : EvM C Γ ((i, .dk kvs) :: M) ty (.int k)) (hz : kvs.length < 10000000) (h : Pn C Γ ((i, .dk (putI kvs k n)) :: M) D.nx) :
    Pn C Γ ((i, .dk kvs) :: M) (sDPut (tVar i) ty tv D) := fun σ H ⟨B, a⟩ => hv σ B H a _ fun v B1 H1 a1 _ k1 => by
  cases k1
  obtain ⟨ps, ow⟩ := a1.own
  cases ow with
  | @cons _ _ _ p qs h1 h2 h3 h4 h5 h6 =>
    refine ⟨.ref p, h1, hk σ B1 H1 a1 _ fun w B2 H2 a2 _ k2 => ?_⟩
    cases k2
    obtain ⟨ps2, ow2⟩ := a2.own
    have ow2' := ow2
    cases ow2 with
    | @cons _ _ _ p' qs' g1 g2 g3 g4 g5 g6 =>
      have e : p' = p := by rw [h1] at g1; cases g1; rfl
      subst e
      have g4 : H2 p' = some (.dK (kvs.map ekv)) := g4
      refine ⟨p', _, rfl, DPut.k (k := (Sum.inl k : L2.Key)) g4 (by rw [List.length_map]; exact sz_lt hz), h _ _ ⟨B2, a2.mut (o' := .dk (putI kvs k n)) ow2' ?_⟩⟩
      show upd H2 p' _ p' = some (.dK ((putI kvs k n).map ekv))
      rw [upd_same, putK_dk]

/-! ### two names at once -/
theorem p_par {i j : Nat} {ta tb : TE} {d e : FW.D} (ha : EvM C Γ M ta d) (hb : EvM C Γ M tb e) (h : Pn C ((Γ.set i (some d)).set j (some e)) M D.nx) (hi : ∀ m ∈ M, m.1 ≠ i := by simp) (hj : ∀ m ∈ M, m.1 ≠ j := by simp) : Pn C Γ M (tPar i j (tCons ta (tCons tb tNil)) D) := fun σ H ⟨B, a⟩ =>
  ha σ B H a _ fun v B1 H1 a1 _ k1 => hb σ B1 H1 a1 _ fun w B2 H2 a2 s2 k2 => ⟨v, w, rfl, h _ _ ⟨B2, (a2.set (k1.mono s2) hi).set k2 hj⟩⟩
/-- the second a new list, owned -/
theorem p_parl {i j : Nat} {ta : TE} {d : FW.D} (ha : EvM C Γ M ta d) (h : Pn C ((Γ.set i (some d)).set j none) ((j, .l []) :: M) D.nx) (hi : ∀ m ∈ M, m.1 ≠ i := by simp) (hj : ∀ m ∈ M, m.1 ≠ j := by simp) (hl : j < (Γ.set i (some d)).length := by exact Nat.le_of_ble_eq_true rfl) : Pn C Γ M (tPar i j (tCons ta (tCons (tLst tNil) tNil)) D) := fun σ H ⟨B, a⟩ =>
  ha σ B H a _ fun v B1 H1 a1 _ k1 => ⟨Nat.zero_le _, fun p hp => ⟨v, .ref p, rfl, h _ _ ⟨B1, (a1.set k1 hi).lay (o := .l []) hp ⟨[], upd_same, .nil⟩ hj hl⟩⟩⟩
/-- three names of a tuple that is made: the third a new list or dict, owned (through the tuple) -/
theorem p_tup3 {K : PySem.W.Frag} {i j l : Nat} {ta tb tc : TE} {d e : FW.D} {o : Ow} {u : HO} (ha : EvM C Γ M ta d) (hb : EvM C Γ M tb e)
    (hc : ∀ (σ : St) (H : Hp) (Q : VK), (∀ p, H p = none → Q (.ref p) (upd H p u)) → tc σ H Q) (ho : ∀ B H p, H p = some u → o.At B H p) (h : Pn C (((Γ.set i (some d)).set j (some e)).set l none) ((l, o) :: M) D.nx)
    (hi : ∀ m ∈ M, m.1 ≠ i := by simp) (hj : ∀ m ∈ M, m.1 ≠ j := by simp) (hl : ∀ m ∈ M, m.1 ≠ l := by simp) (hlen : l < ((Γ.set i (some d)).set j (some e)).length := by exact Nat.le_of_ble_eq_true rfl) :
    Pn C Γ M (tAsg (tTup (tCons ta (tCons tb (tCons tc tNil)))) (gTup K 3 (gCons (gName i) (gCons (gName j) (gCons (gName l) gNil)))) D) := fun σ H ⟨B, a⟩ =>
  ha σ B H a _ fun v B1 H1 a1 _ k1 => hb σ B1 H1 a1 _ fun w B2 H2 a2 s2 k2 => hc σ H2 _ fun p hp => ⟨by show 3 ≤ sizeLine; exact sz_le (by decide), fun q hq => by
    refine ⟨q, _, rfl, SqT.of upd_same, rfl, _, _, rfl, _, _, rfl, _, _, rfl, rfl, h _ _ ⟨B2, ?_⟩⟩
    have a3 := ((a2.set (k1.mono s2) hi).set k2 hj).lay (u := u) (o := o) (i := l) hp (ho _ _ _ upd_same) hl hlen
    exact a3.keep (same_new hq)⟩

/-! ### loops -/
theorem AtM.low {Bl : Hp} {σ : St} {H : Hp} (h : AtM { C with Bl := Bl } Γ M σ H) (hl : Same C.Bl Bl) : AtM C Γ M σ H := by
  obtain ⟨B, a⟩ := h
  refine ⟨B, a.frm, hl.trans a.low, a.env, ?_⟩
  obtain ⟨ps, o⟩ := a.own
  have key : ∀ {M : Ows} {ps : List Addr}, OwL { C with Bl := Bl } B σ H M ps → OwL C B σ H M ps := fun {M ps} o => by
    induction o with
    | nil => exact .nil
    | cons g1 g2 g3 g4 g5 _ ih => exact .cons g1 g2 g3 g4 g5 ih
  exact ⟨ps, key o⟩
theorem AtB.up {Bl : Hp} {σ : St} {B H : Hp} (a : AtB C Γ M σ B H) (hl : Same Bl B) : AtB { C with Bl := Bl } Γ M σ B H := by
  refine ⟨a.frm, hl, a.env, ?_⟩
  obtain ⟨ps, o⟩ := a.own
  have key : ∀ {M : Ows} {ps : List Addr}, OwL C B σ H M ps → OwL { C with Bl := Bl } B σ H M ps := fun {M ps} o => by
    induction o with
    | nil => exact .nil
    | cons g1 g2 g3 g4 g5 _ ih => exact .cons g1 g2 g3 g4 g5 ih
  exact ⟨ps, key o⟩
theorem p_for {α : Type} {xs : List α} {enc : α → FW.D} {wi : TI} {g : TG} {tb : TS} {is : List Nat} (G : Nat → Gm) (Ms : Nat → Ows) (Gx : Nat → α → Gm) (hw : WkG wi Γ (xs.map enc)) (h0 : Sub (G 0) Γ) (hM : Ms 0 = M)
    (hg : ∀ i x, xs[i]? = some x → GtG g (G i) (enc x) (Gx i x) is) (hdis : ∀ i, ∀ m ∈ Ms i, m.1 ∉ is)
    (hs : ∀ (Bl : Hp) (i : Nat) (x : α), xs[i]? = some x → Pn { C with Bl := Bl } (Gx i x) (Ms i) (tb { D with nx := AtM { C with Bl := Bl } (G (i + 1)) (Ms (i + 1)), ct := AtM { C with Bl := Bl } (G (i + 1)) (Ms (i + 1)), bk := D.nx }))
    (hd : Pn C (G xs.length) (Ms xs.length) D.nx) : Pn C Γ M (tFor wi g tb D) := fun σ H ⟨B, a⟩ =>
  hw σ B a.env H a.frm.kh _ fun J B1 H1 f1 wk => by
    subst hM
    rw [List.length_map] at wk
    have hl : Same C.Bl B1 := a.low.trans f1.kb
    refine for_it wk (fun i σ' H' => AtM { C with Bl := B1 } (G i) (Ms i) σ' H') ⟨B1, ((a.step f1).sub h0).up (Same.refl _)⟩ (fun i σ' H' _ ⟨B', a'⟩ => a'.low.trans a'.frm.kh) ?_ fun σ' H' h => hd _ _ (h.low hl)
    rintro i x σ' H' H'' hlt ⟨B', a'⟩ y
    obtain ⟨B2, d, ed, f2, kd⟩ := y B' a'.low a'.frm.kh
    rw [List.getElem?_map, List.getElem?_eq_getElem hlt] at ed
    have ed : d = enc xs[i] := (Option.some.inj ed).symm
    subst ed
    have a2 := a'.step f2
    have hx := List.getElem?_eq_getElem hlt
    refine hg i _ hx σ' B2 x H'' _ a2.env a2.frm.kh kd fun σ3 en3 _ hsl => ?_
    refine hs B1 i _ hx σ3 H'' ⟨B2, a2.frm, a2.low, en3, ?_⟩
    obtain ⟨ps, o⟩ := a2.own
    exact ⟨ps, o.slots fun m hm => hsl _ (hdis i m hm)⟩
theorem p_while {α : Type} {tb : TS} (G : α → Gm) (Ms : α → Ows) (I : α → Prop) (μ : α → Nat) (bb : α → Bool) (a0 : α) (hI : I a0) (h0 : Sub (G a0) Γ) (hM : Ms a0 = M) (ht : ∀ a, I a → TtM C (G a) (Ms a) tt (bb a))
    (hs : ∀ a, I a → bb a = true → Pn C (G a) (Ms a) (tb { D with nx := fun σ H => ∃ a', I a' ∧ μ a' < μ a ∧ AtM C (G a') (Ms a') σ H, ct := fun σ H => ∃ a', I a' ∧ μ a' < μ a ∧ AtM C (G a') (Ms a') σ H, bk := D.nx }))
    (hd : ∀ a, I a → bb a = false → Pn C (G a) (Ms a) D.nx) : Pn C Γ M (tWhile tt tb D) := fun σ H ⟨B, a⟩ => by
  subst hM
  refine ⟨fun m σ' H' => ∃ s, I s ∧ μ s = m ∧ AtM C (G s) (Ms s) σ' H', ⟨_, a0, hI, rfl, B, a.sub h0⟩, ?_⟩
  rintro m σ' H' ⟨s, hs1, rfl, B', a'⟩
  refine ht s hs1 σ' B' H' a' _ fun B2 H2 a2 _ => ?_
  cases hb : bb s with
  | true =>
    rw [if_pos rfl]
    exact ⟨_, fun σ3 H3 ⟨s', i', l', m'⟩ => ⟨_, l', s', i', rfl, m'⟩, hs s hs1 hb _ _ ⟨B2, a2⟩⟩
  | false =>
    rw [if_neg Bool.false_ne_true]
    exact hd s hs1 hb _ _ ⟨B2, a2⟩
end

/-! ### defs -/
def startG (n : Nat) (ds : List D) : Gm := ds.map some ++ List.replicate (n - ds.length) none
theorem env_start {B : Hp} {N : List Str} {ds : List D} {vs : List V} (k : KnL B ds vs) : EnvOk B (L2.start N vs) (startG N.length ds) := by
  have hl := k.length
  refine ⟨by simp [L2.start, startG, hl], fun i d e => ?_⟩
  unfold startG at e
  by_cases hi : i < ds.length
  · rw [List.getElem?_append_left (by simpa using hi), List.getElem?_map, List.getElem?_eq_getElem hi] at e
    have e : ds[i] = d := by simpa using e
    obtain ⟨v, h1, h2⟩ := k.get (List.getElem?_eq_getElem hi)
    refine ⟨v, ?_, by rw [← e]; exact h2⟩
    unfold L2.start
    rw [List.getElem?_append_left (by rw [List.length_map, ← hl]; exact hi), List.getElem?_map, h1]
    rfl
  · rw [List.getElem?_append_right (by simp; omega), List.getElem?_replicate] at e
    split at e <;> cases e
/-- the reading of a def's body -/
def Rdg (n : Nat) (R : List D → D → Prop) (t : TS) : Prop := ∀ ds r, R ds r → ∀ (C : Ctx) (D : Ends), C.Bl = C.B0 → (∀ v B H, Frm C.B0 C.H0 B H → Kn B r v → D.rt v H) → (∀ σ B H, Frm C.B0 C.H0 B H → Kn B r .non → D.nx σ H) → Pn C (startG n ds) [] (t D)
section
variable {P : Program} {w : World} {K : PySem.W.Frag} {mg : Str → Option Value} {base : Heap}
/-- a def as its callers know it -/
def Cl (P : Program) (w : World) (K : PySem.W.Frag) (mg : Str → Option Value) (base : Heap) (k : Nat) (x : Str) (R : List D → D → Prop) : Prop :=
  ∃ (f : Addr) (fd : FuncData) (ps : List Str), FnOk P w K mg base CX0 k f fd ps (SpR R) ∧ mg x = some (.ref f) ∧ PySem.W.keepIn K (.ref f) = true ∧ Binds K fd ps []
/-- a def of the text as it stands behind the top -/
structure Std (K : PySem.W.Frag) (mg : Str → Option Value) (x : Str) (st : Stmt) (ps : List Str) : Prop where
  ex : ∃ (f : Addr) (fd : FuncData), Fun K x x st f fd ∧ mg x = some (.ref f) ∧ Binds K fd ps []
abbrev XX (P : Program) (w : World) (K : PySem.W.Frag) (mg : Str → Option Value) (base : Heap) (N : List Str) (x : Str) (st : Stmt) (f : Addr) (cdv : Value) (A : Around) (outer : List Env) (s : Shared) (H : Hp) (E : XK) : Cx := (cxOf CX0 P w K mg base N x (defScope st) f cdv A outer s H E).nox
theorem cl_of {k : Nat} {x : Str} {st : Stmt} {N ps : List Str} {R : List D → D → Prop} (F : Std K mg x st ps) (S : FnScope N ps (defScope st)) (hl : ∀ ds r, R ds r → ds.length = ps.length)
    (hbody : ∀ (f : Addr) (cdv : Value) (A : Around) (outer : List Env) (s : Shared) (H : Hp) (E : XK), Room k (XX P w K mg base N x st f cdv A outer s H E).A → ∃ t, PSs (XX P w K mg base N x st f cdv A outer s H E) (defBody st) t ∧ Rdg N.length R t) : Cl P w K mg base (k + 1) x R := by
  obtain ⟨f, fd, F, hm, hb⟩ := F.ex
  refine ⟨f, fd, ps, F.ok S (fun vs H Q E h => ?_) (fun cdv A outer s H vs Q E hr h => ?_), hm, F.kp, hb⟩
  · obtain ⟨B, ds, r, _, hk, hR, _⟩ := h
    rw [← hk.length]; exact hl ds r hR
  · obtain ⟨B, ds, r, hs, hk, hR, q⟩ := h
    obtain ⟨t, ht, hrd⟩ := hbody f cdv A outer s H E hr
    refine ⟨t, ht, hrd ds r hR ⟨B, H, B⟩ _ rfl (fun v B2 H2 f k => q v B2 H2 f k) (fun _ B2 H2 f k => q _ B2 H2 f k) _ _ ⟨B, .refl hs, Same.refl _, env_start hk, [], .nil⟩⟩
theorem pe_cl {X : Cx} {j k : Nat} {x : Str} {R : List D → D → Prop} {p pos : Pos} {e : Expr} {es : List Expr} {t : TA} (c : Cl X.prog X.w X.K X.mg X.base k x R) (hr : Room j X.A) (hk : k ≤ j) (hg : Gl X x) (ha : PA X (e :: es) t)
    (hdb : (x == ("__debug__" : Str)) = false := by decide) (he : starEach (e :: es) X.env = (false, eval e X.env) :: starEach es X.env := by rfl) (hpl : (backTo pos (starEach es X.env)).any (·.1) = false := by rfl) :
    PE X (.Call (.Name x p) (e :: es) [] pos) (tCall (SpR R) [] E0 t) := by
  obtain ⟨f, fd, ps, F, hm, kp, hb⟩ := c
  exact pe_call F (hr.mono hk) hg hm kp hb .nil pass0 ha hdb he hpl
end
end FW

set_option Elab.async false
set_option linter.all false
set_option maxRecDepth 100000
set_option maxHeartbeats 4000000
/-! enumerate of a tuple -/
namespace FW
open PySem L2 PySem.Spec PyProof.Rows
set_option maxHeartbeats 8000000 in
theorem enumT_meets {l : Addr} {items : Array Value} :
    Meets (Builtin.«enumerate.__new__» ⟨[.type "enumerate", .ref l], []⟩) (fun _ R s => s.heap.IsTuple l items ∧
      R (.ok (.ret (.ref (s.heap.push { cls := .type "tuple_iterator", data := .fields #[.ref l, .int 0 0] }).objs.size)))
        { s with heap := (s.heap.push { cls := .type "tuple_iterator", data := .fields #[.ref l, .int 0 0] }).push { cls := .type "enumerate", data := .fields #[.none, .bool false, .ref s.heap.objs.size, rawInt 0, .none, .none] } }) :=
  Meets.of_wp fun prog w A R s hyp => by
    rcases s with ⟨hp, gs, dr, tk, os⟩
    have sub0 := sub_enumerate
    have iter0 : ∀ {A' : Around} {E : Value → Shared → Prop} {Q : Value → Shared → Prop}, Q (.ref hp.objs.size) ⟨hp.push { cls := .type "tuple_iterator", data := .fields #[.ref l, .int 0 0] }, gs, dr, tk, os⟩ → wpAny (model prog w) A' (pyIter (.ref l)) Q E ⟨hp, gs, dr, tk, os⟩ :=
      fun z => (begins_tuple l items).iter prog w _ _ ⟨hp, gs, dr, tk, os⟩ _ hyp.1 z
    obtain ⟨tupl, hyp⟩ := hyp
    wp_walk using iter0
    refine wpAny_stack_any fun _ => wpAny_pure ?_
    split
    · rename_i c _ _ _ _ _
      by_cases hc : (c == Value.type "enumerate") = true <;> simp only [hc] <;> (wp_walk using iter0) <;> exact ⟨_, rfl, hyp⟩
    · wp_walk using iter0
      exact ⟨_, rfl, hyp⟩
theorem call_enumT {prog : Program} {w : World} {A : Around} {E : Value → Shared → Prop} {s : Shared} {l : Addr} {items : Array Value} {Q : Value → Shared → Prop} (ht : s.heap.IsTuple l items)
    (q : ∀ h', IsEnum h' (s.heap.objs.size + 1) s.heap.objs.size 0 .none → h'.IsTupleIter s.heap.objs.size l 0 → (∀ b o, s.heap.get? b = some o → h'.get? b = some o) → Q (.ref (s.heap.objs.size + 1)) { s with heap := h' }) :
    wpAny (model prog w) A (call (.type "enumerate") [.ref l]) Q E s := by
  have size1 : (s.heap.push ({ cls := .type "tuple_iterator", data := .fields #[.ref l, .int 0 0] } : Obj)).objs.size = s.heap.objs.size + 1 := Heap.size_push ..
  have new1 := Heap.get?_push_size (s.heap.push ({ cls := .type "tuple_iterator", data := .fields #[.ref l, .int 0 0] } : Obj)) (o := { cls := .type "enumerate", data := .fields #[.none, .bool false, .ref s.heap.objs.size, rawInt 0, .none, .none] }) rfl
  rw [size1] at new1
  refine callType_new PySem.F.called_enumerate (by decide) (PySem.F.typeCall_enumerate_1 _) (PySem.F.newCall_enumerate_1 _) (fun obj => PySem.F.args_object_init_2 obj _) PySem.F.entry_enumerate_new enumT_meets ⟨ht, ?_⟩
  show _ ∧ _
  rw [size1]
  exact ⟨⟨_, new1, rfl⟩, q _ new1 ⟨_, Heap.get?_push_of_some _ (Heap.get?_push_size _ rfl), rfl, rfl⟩ fun b o e => Heap.get?_push_of_some _ (Heap.get?_push_of_some _ e)⟩
/-- (0, x), (1, y), .. of the tuple at a -/
def ItE (K : PySem.W.Frag) (a : Addr) : It :=
  ⟨fun i H => ∃ (xs : List V) (x : V), SqT K H a xs ∧ xs[i]? = some x, fun i H v H' => ∃ T x, v = .ref T ∧ H T = none ∧ H' = upd H T (.tup [.int (i : Nat), x]) ∧ ∀ xs, SqT K H a xs → xs[i]? = some x, fun i H => ∃ xs : List V, SqT K H a xs ∧ xs.length = i⟩
theorem turn_enumT {P : Program} {w : World} {K : PySem.W.Frag} {elts : List Expr} {kk : Nat} {tpos : Pos} (a e it : Addr) :
    Turn P w K (.Tuple elts kk tpos) (ItE K a) [e, it] e (fun i h => (∃ old, IsEnum h e it ((i : Nat) : Int) old) ∧ h.IsTupleIter it a i ∧ e ≠ it) where
  mem := by simp
  self := fun A i s Q E st h => let ⟨⟨_, he⟩, _⟩ := st; wpAny_pyIter_enum he h
  obj := by
    rintro i h ⟨⟨old, he⟩, ⟨o, ho, _, hd⟩, _⟩ b hb
    simp only [List.mem_cons, List.not_mem_nil, or_false] at hb
    rcases hb with rfl | rfl
    · exact ⟨_, he, by intro v q; cases q⟩
    · exact ⟨o, ho, by intro v q; rw [hd] at q; cases q⟩
  keep := by
    rintro i h h' ⟨⟨old, he⟩, hi, hne⟩ k
    exact ⟨⟨old, k e (by simp) _ he⟩, hi.at fun o q => k it (by simp) o q, hne⟩
  item := by
    intro X hP hw hK hc i pins s σ H E I hf st hg
    subst hP hw hK
    obtain ⟨⟨old, he⟩, hit, hne⟩ := st
    obtain ⟨xs, x, hq, hx⟩ := hg
    obtain ⟨its, rv, p, hz⟩ := I.tuple hq
    obtain ⟨u, hu, ru⟩ := rv.get hx
    have ltE : e < s.heap.objs.size := Heap.lt_size he
    have ltI : it < s.heap.objs.size := by obtain ⟨_, q, _⟩ := hit; exact Heap.lt_size q
    by_cases hai : a = it
    · exfalso
      obtain ⟨o1, g1, g2, _⟩ := hit
      obtain ⟨o2, g3, g4, _⟩ := p
      rw [hai] at g3
      rw [g1] at g3
      cases g3
      rw [g2] at g4
      exact absurd g4 (by decide)
    · by_cases hae : a = e
      · exfalso
        obtain ⟨o2, g3, g4, _⟩ := p
        rw [hae, he] at g3
        cases g3
        exact Value.noConfusion g4 (fun z => absurd z (by decide))
      · have Dr := Draws.tuple (prog := X.prog) (w := X.w) (A := X.A.in1) (I.ok.hd hc) it a hai its.toArray
        have hu2 : its.toArray[i]? = some u := by simpa using hu
        have hlt : i < its.toArray.size := (Array.getElem?_eq_some_iff.mp hu2).1
        have hef : e ∉ [it, a] := by
          simp only [List.mem_cons, List.not_mem_nil, or_false, not_or]
          exact ⟨hne, fun z => hae z.symm⟩
        refine wpAny_pyNext_enum_itemD Dr he (show s.heap.IsTupleIter it a i ∧ s.heap.IsTuple a its.toArray from ⟨hit, p⟩) hlt hne hef fun u' h' tk hP ho hst' hT hsz hk => ?_
        have eu : u' = u := by
          have hP : its.toArray[i]? = some u' := hP
          rw [hu2] at hP; cases hP; rfl
        subst eu
        refine ⟨_, rfl, wpAny_letOwnedTupleGo_enum (s := { s with heap := h', toks := tk + 1 }) ho fun h'' he' sb => ?_⟩
        have got : h''.get? s.heap.objs.size = some { cls := .type "tuple", data := .seq #[.int i tk, u'] } := (sb.2 _ (Nat.ne_of_gt ltE)).trans hT
        have new : ObjOk X.prog X.w (upd H s.heap.objs.size (.tup [.int (i : Nat), x])) h'' s.heap.objs.size (.tup [.int (i : Nat), x]) :=
          ⟨sz_le (by show 2 ≤ 10000000; decide), [.int i tk, u'], .cons ⟨_, rfl⟩ (.cons ru .nil), ⟨_, got, rfl, _, rfl⟩⟩
        have I1 := I.turnedNew (t' := tk + 1) (ch := [e, it]) (h' := h'') (fun b ob hb q => by
          simp only [List.mem_cons, List.not_mem_nil, or_false, not_or] at hb
          exact (sb.2 b hb.1).trans (hk b ob hb.1 hb.2 q)) hf (Nat.le_refl _) new
        refine ⟨.ref s.heap.objs.size, _, I1, rfl, ⟨_, x, rfl, I.hok.fresh (Nat.le_refl _), rfl, fun ys hy => by rw [I.tuple_inj hy hq]; exact hx⟩, ⟨⟨u', ?_⟩, hst'.1.at fun o q => (sb.2 it (Ne.symm hne)).trans q, hne⟩, fun b hb => ?_⟩
        · rw [show ((i + 1 : Nat) : Int) = (i : Int) + 1 by omega]; exact he'
        · have lb : b < s.heap.objs.size := by
            simp only [List.mem_cons, List.not_mem_nil, or_false] at hb
            rcases hb with rfl | rfl
            · exact ltE
            · exact ltI
          rw [upd_ne (Nat.ne_of_lt lb)]
          exact (hf b hb).1
  done := by
    intro X hP hw hK hc i pins s σ H E I hf st hg
    subst hP hw hK
    obtain ⟨⟨old, he⟩, hit, hne⟩ := st
    obtain ⟨xs, hq, hx⟩ := hg
    obtain ⟨its, rv, p, hz⟩ := I.tuple hq
    obtain ⟨f0, f1, f2, f3, f4, f5⟩ := hf it (by simp)
    have hl := rv.length
    have hai : a ≠ it := by
      intro hai
      obtain ⟨o1, g1, g2, _⟩ := hit
      obtain ⟨o2, g3, g4, _⟩ := p
      rw [hai, g1] at g3
      cases g3
      rw [g2] at g4
      exact absurd g4 (by decide)
    have Dr := Draws.tuple (prog := X.prog) (w := X.w) (A := X.A.in1) (I.ok.hd hc) it a hai its.toArray
    refine wpAny_pyNext_enum_endD Dr he (show s.heap.IsTupleIter it a its.toArray.size ∧ s.heap.IsTuple a its.toArray from ⟨?_, p⟩) fun h' eb => ⟨rfl, I.turned (t' := s.toks) (fun b o hb q => eb b o hb q) f0 f1 f3 f4 f5⟩
    rw [show its.toArray.size = i by rw [List.size_toArray]; omega]
    exact hit
def iEnumT (K : PySem.W.Frag) (ta : TA) : TI := fun σ H R => ta σ H fun vs H1 => ∃ a xs, vs = [.ref a] ∧ SqT K H1 a xs ∧ R (ItE K a) H1
theorem pi_enumT {X : Cx} {e : Expr} {ta : TA} {p pos tpos : Pos} {elts : List Expr} {kk : Nat} (hg : Gl X "enumerate") (hm : X.mg "enumerate" = none) (ha : PA X [e] ta) (hs : starEach [e] X.env = [(false, eval e X.env)] := by rfl) :
    PI X (.Tuple elts kk tpos) (.Call (.Name "enumerate" p) [e] [] pos) (iEnumT X.K ta) := ⟨fun pins s σ H R I h => by
  refine Call_ (ld_blt I hg hm boot_enumerate (PyProof.Rows.callWith_type1 (thn (ha.run pos pins s σ H _ I h) fun us s1 ⟨vs, H1, I1, r1, a, xs, ex, hq, q⟩ => ?_) hs rfl))
  subst ex
  cases r1 with
  | cons r rr =>
    cases rr
    cases r
    obtain ⟨its, rv, tupl, hz⟩ := I1.tuple hq
    refine call_enumT tupl fun h' he hit hk => wpAny_pyIter_enum he ?_
    refine ⟨s1.heap.objs.size + 1, [s1.heap.objs.size + 1, s1.heap.objs.size], _, _, H1, rfl, I1.kept (t' := s1.toks) hk, turn_enumT a (s1.heap.objs.size + 1) s1.heap.objs.size, ⟨⟨.none, he⟩, hit, Nat.succ_ne_self _⟩, fun b hb => ?_, q⟩
    have low : s1.heap.objs.size ≤ b := by
      simp only [List.mem_cons, List.not_mem_nil, or_false] at hb
      rcases hb with rfl | rfl
      · exact Nat.le_add_right _ _
      · exact Nat.le_refl _
    exact I1.fpOk low (I1.hok.fresh low)⟩
/-- the pairs of places and items -/
def dE {α : Type} (enc : α → D) (x : Nat × α) : D := .tup [dN x.1, enc x.2]
theorem w_enumT {K : PySem.W.Frag} {Γ : Gm} {ta : TA} {α : Type} {enc : α → D} {xs : List α} (h : ArG ta Γ [.tup (xs.map enc)]) : WkG (iEnumT K ta) Γ (((List.range xs.length).zip xs).map (dE enc)) := fun σ B en H hs R q => h σ B en H _ hs fun vs B1 H1 f1 k1 => by
  cases k1 with
  | cons k1 k2 =>
    cases k2
    cases k1 with
    | @tup a ws _ hb hl =>
      refine ⟨a, ws, rfl, SqT.of (f1.kh _ _ hb), q _ B1 H1 f1 ?_⟩
      have el : ws.length = xs.length := by rw [← hl.length, List.length_map]
      have en : (((List.range xs.length).zip xs).map (dE enc)).length = xs.length := by simp
      rw [en]
      refine ⟨fun i H' hi s => ⟨ws, ws[i], SqT.of (s _ _ hb), List.getElem?_eq_getElem (by omega)⟩, fun H' s => ⟨ws, SqT.of (s _ _ hb), el⟩, fun i H' x H2 hi s y => ?_⟩
      obtain ⟨T, v, rfl, hT, rfl, hv⟩ := y
      have hv := hv ws (SqT.of (s _ _ hb))
      intro B h1 h2
      obtain ⟨d, ed, kd⟩ := hl.getV hv
      rw [List.getElem?_map] at ed
      have hx : xs[i]? = some xs[i] := List.getElem?_eq_getElem hi
      rw [hx] at ed
      have ed : enc xs[i] = d := Option.some.inj ed
      subst ed
      have fr := Frm.new (o := .tup [.int (i : Nat), v]) h2 hT
      refine ⟨_, dE enc (i, xs[i]), ?_, fr, .tup upd_same (.cons (.int _) (.cons (kd.mono (h1.trans fr.kb)) .nil))⟩
      have hz : ((List.range xs.length).zip xs)[i]? = some (i, xs[i]) := List.getElem?_zip_eq_some.mpr ⟨List.getElem?_range hi, hx⟩
      rw [List.getElem?_map, hz]
      rfl
end FW

set_option Elab.async false
set_option linter.all false
set_option maxRecDepth 100000
set_option maxHeartbeats 8000000
/-! set(a list of numbers), sorted(set(..)) -/
namespace FW
open PySem L2 PySem.Spec PyProof.Rows
/-- the empty set as set() makes it -/
abbrev noneYet (w : World) : Obj := { cls := .type "set", dict := none, data := .set #[] 0 (.fresh 0 0 (!w.params.followText "set-order")) }
theorem set_of_list {P : Program} {w : World} {A : Around} {E : Value → Shared → Prop} {s : Shared} {l : Addr} {items : Array Value} (ns : List Int) {Q : Value → Shared → Prop} (calm : A.handled = none) (isl : s.heap.IsList l items) (intsA : IntsAre items.toList ns) (few : ns.length + 1 < scanBound)
    (fin : ∀ (h' : Heap) (tk c : Nat), SetR w h' s.heap.objs.size (fun j => decide (j ∈ ns)) c → (∀ b o, s.heap.get? b = some o → h'.get? b = some o) → Q (.ref s.heap.objs.size) { s with heap := h', toks := tk }) :
    wpAny (model P w) A (call (.type "set") [.ref l]) Q E s := by
  have size_ns : items.size = ns.length := by rw [← Array.length_toList]; exact IntsAre.length intsA
  have made0 := PySem.F.called_set.made
  have sub0 := PySem.F.called_set.sub
  have nty := PySem.F.called_set.notType
  have cr := PySem.F.called_set.canCreate
  have ck := PySem.F.typeCall_set_1 (.ref l)
  obtain ⟨m1, m2, mro0⟩ := PySem.F.called_set.mro
  apply wpAny_call
  apply codeAny_of_tree
  show wpAny _ _ (callAny (.type "set") _) _ _ _
  apply wpAny_pure
  refine ⟨Code.quiet_builtin _ (by decide +kernel), codeAny_builtin PySem.F.entry_type_call ?_⟩
  rw [Around.under_plain (weight_type_call_type "set" [.ref l] []) rfl]
  repeat (any_goals (first | assumption | wp_step))
  refine codeAny_mono (code_set_led1 (.ref l) (E := E) (Q₁ := fun x s1 => x = .ref s.heap.objs.size ∧ s1 = { s with heap := s.heap.push (noneYet w) }) ⟨rfl, rfl⟩) fun res s1 out => ?_
  match res, out with
  | .error _, out => exact out
  | .ok .next, out => exact out.elim
  | .ok .brk, out => exact out.elim
  | .ok .cont, out => exact out.elim
  | .ok (.ret x), ⟨ex, es⟩ =>
    subst ex es
    have at0 : (s.heap.push (noneYet w)).get? s.heap.objs.size = some (noneYet w) := Heap.get?_push_size _ rfl
    have ty0 : Shared.TypeIs { s with heap := s.heap.push (noneYet w) } (.ref s.heap.objs.size) "set" := ⟨_, at0, rfl⟩
    have i1 := PySem.F.called_set.init.lookup
    have i2 := PySem.F.called_set.init.bind (.ref s.heap.objs.size)
    repeat (any_goals (first | assumption | wp_step))
    refine codeAny_mono (codeAny_call_builtin (R := wants (fun r s2 => r = .none ∧ ∃ h' tk c, s2 = { s with heap := h', toks := tk } ∧ SetR w h' s.heap.objs.size (fun j => decide (j ∈ ns)) c ∧ (∀ b o, s.heap.get? b = some o → h'.get? b = some o)) E)
      PySem.F.called_set.init.plain PySem.F.entry_set_init (check_set_init_1 ty0 ?_)) fun res2 s2 out2 => ?_
    · obtain ⟨⟨oc, od, dat, sls⟩, at1, cl1, nn, dt1⟩ := isl
      simp only at cl1 dt1
      subst cl1 dt1
      have at2 : (s.heap.push (noneYet w)).get? l = some { cls := .type "list", dict := od, data := .seq items nn, slots := sls } := Heap.get?_push_of_some _ at1
      have s1 := PySem.F.sub_list_set
      have s2 := PySem.F.sub_list_frozenset
      have nd : (Value.type "list" == Value.type "dict") = false := by decide
      have isl2 : (s.heap.push (noneYet w)).IsList l items := ⟨_, at2, rfl, nn, rfl⟩
      have ltl : l < s.heap.objs.size := Heap.lt_size at1
      have size1 : (s.heap.push (noneYet w)).objs.size = s.heap.objs.size + 1 := Heap.size_push ..
      unfold Builtin.«set.__init__» noKeywords Builtin.Frozenset.updateFrom
      generalize its : pyIter = It0
      wp_walk
      subst its
      refine wpAny_pyIter_list isl2 (wpAny_bind (wpAny_runValue ?_))
      have calm3 : A.in1.in1.in1.handled = none := by simp [calm]
      have far : l ≠ (s.heap.push (noneYet w)).objs.size := by rw [size1]; exact Nat.ne_of_lt (Nat.lt_succ_of_lt ltl)
      have off : s.heap.objs.size ∉ [(s.heap.push (noneYet w)).objs.size, l] := by
        rw [size1]
        simp only [List.mem_cons, List.not_mem_nil, or_false, not_or]
        exact ⟨Nat.ne_of_lt (Nat.lt_succ_self _), Nat.ne_of_gt ltl⟩
      refine set_update_ints ((Walks.list calm3 _ l far items).toS) s.heap.objs.size off ns size_ns few (fun i v hv => ?_) (items.size - 0) 0 _ (by omega) (Nat.zero_le _) ⟨⟨_, Heap.get?_push_size _ rfl, rfl, rfl⟩, isl2.push _⟩ ⟨0, Nat.le_refl 0, setR_new_at (Heap.get?_push_of_some _ at0)⟩ fun s3 c mv hc hS => ?_
      · have hv : items[i]? = some v := hv
        have hi : i < ns.length := by rw [← size_ns]; exact (Array.getElem?_eq_some_iff.mp hv).1
        obtain ⟨t, e⟩ := PyProof.Rows.IntsAre.int_at intsA i v (by rw [Array.getElem?_toList]; exact hv)
        refine ⟨ns[i], t, List.getElem?_eq_getElem hi, e.trans ?_⟩
        rw [List.getD_eq_getElem?_getD, List.getElem?_eq_getElem hi]
        rfl
      · rcases s3 with ⟨h3, g3, d3, t3, o3⟩
        obtain rfl : g3 = s.gens := mv.gens
        obtain rfl : d3 = s.drawn := mv.drawn
        obtain rfl : o3 = s.os := mv.os
        show wpAny _ _ _ _ _ _
        apply wpAny_pure
        show wpAny _ _ (ret Value.none) _ _ _
        refine wpAny_pure ⟨rfl, h3, t3, c, rfl, hS, fun b o e => ?_⟩
        have lb := Heap.lt_size e
        refine mv.heap b o ?_ (Heap.get?_push_of_some _ (Heap.get?_push_of_some _ e))
        rw [size1]
        simp only [List.mem_cons, List.not_mem_nil, or_false, not_or]
        exact ⟨Nat.ne_of_lt lb, Nat.ne_of_lt (Nat.lt_succ_of_lt lb)⟩
    · match res2, out2 with
      | .error _, out2 => exact out2
      | .ok .next, out2 => exact out2.elim
      | .ok .brk, out2 => exact out2.elim
      | .ok .cont, out2 => exact out2.elim
      | .ok (.ret r), ⟨er, h', tk, c, es, hS, hk⟩ =>
        subst er es
        repeat (any_goals (first | assumption | wp_step))
        exact fin _ _ _ hS hk
end FW

set_option Elab.async false
set_option linter.all false
set_option maxRecDepth 100000
set_option maxHeartbeats 4000000
/-! sorted(set(..)) on data -/
namespace FW
open PySem L2 PySem.Spec PyProof.Rows
theorem setR_count {w : World} {h : Heap} {a : Addr} {S : Int → Bool} {n : Nat} (R : SetR w h a S n) {ms : List Int} (hn : ms.Nodup) (hm : ∀ k, S k = true ↔ k ∈ ms) : n = ms.length := by
  obtain ⟨o, es, ep, t, ho, hex, hdt, g, nd, hm2, hb, hf, hz, hr, hl2⟩ := R
  have p : (es.toList.map keyOf).Perm ms := (List.perm_ext_iff_of_nodup nd hn).mpr fun k => (hm2 k).symm.trans (hm k)
  have e := p.length_eq
  rw [List.length_map, Array.length_toList, hz] at e
  exact e
abbrev upN (ms : List Nat) : List Int := ms.map fun (x : Nat) => (x : Int)
def rSetI (K : PySem.W.Frag) (w : World) : List V → Hp → VK → Prop := fun xs H Q => ∃ (p : Addr) (ns : List Int) (ms : List Nat), xs = [.ref p] ∧ (SqL K H p (ns.map V.int) ∨ SqT K H p (ns.map V.int)) ∧ ns.length ≤ 1000 ∧ ms.Nodup ∧ (∀ i : Int, i ∈ ns ↔ i ∈ upN ms) ∧
  ∀ a, H a = none → Q (.ref a) (upd H a (SetO w a (fun j => decide (j ∈ ns)) ms.length))
theorem upN_nodup {ms : List Nat} (h : ms.Nodup) : (upN ms).Nodup := by
  unfold upN
  rw [List.Nodup, List.pairwise_map]
  exact h.imp fun z e => z (by omega)
theorem cr_setI {X : Cx} (hc : X.calm = true) : CallR X (.type "set") (rSetI X.K X.w) := by
  intro pins s σ H xs us Q I r h
  obtain ⟨p, ns, ms, rfl, hq, hl, hn, hm, q⟩ := h
  obtain ⟨u, rfl, rx⟩ := vals1 r
  cases rx
  have hd := I.ok.hd hc
  have fin : ∀ (h' : Heap) (tk c : Nat), SetR X.w h' s.heap.objs.size (fun j => decide (j ∈ ns)) c → (∀ b o, s.heap.get? b = some o → h'.get? b = some o) → EP X pins σ Q (.ref s.heap.objs.size) { s with heap := h', toks := tk } := fun h' tk c R k => by
    have ec : c = ms.length := by
      rw [setR_count R (upN_nodup hn) fun j => by rw [decide_eq_true_eq]; exact hm j, List.length_map]
    subst ec
    exact ⟨.ref _, upd H s.heap.objs.size (SetO X.w s.heap.objs.size (fun j => decide (j ∈ ns)) ms.length), I.laid (t' := tk) k (Nat.le_refl _) (setO_new R), rfl, q _ (I.hok.fresh (Nat.le_refl _))⟩
  rcases hq with hq | hq
  · obtain ⟨its, rv, pt, hz⟩ := I.list hq
    exact set_of_list (items := its.toArray) ns hd pt.isList (ints_of_vals rv) (by unfold scanBound; omega) fun h' tk c R k => fin h' tk c R k
  · obtain ⟨its, rv, pt, hz⟩ := I.tuple hq
    exact call_set_tupI (items := its.toArray) ns hd pt (ints_of_vals rv) (by unfold scanBound; omega) fun h' tk c R _ k => fin h' tk c R k
section
variable {K : PySem.W.Frag} {w : World} {Γ : Gm} {te : TE}
abbrev tSortSet (K : PySem.W.Frag) (w : World) (te : TE) : TE := tCB (rSortedSet w) (tCons (tCB (rSetI K w) (tCons te tNil)) tNil)
theorem g_sset {ns ms : List Nat} (h : EvG te Γ (dL ns) ∨ EvG te Γ (dT ns)) (ha : ms.Pairwise (· < ·)) (hm : ∀ t, t ∈ ns ↔ t ∈ ms) (hl : ns.length ≤ 1000) (h6 : ms.length < 64) : EvG (tSortSet K w te) Γ (dL ms) := fun σ B en H Q hs q => by
  have key : ∀ (a : Addr) (B1 H1 : Hp), Frm B H B1 H1 → (SqL K H1 a ((upN ns).map V.int) ∨ SqT K H1 a ((upN ns).map V.int)) → rSetI K w [.ref a] H1 fun x H2 => tNil σ H2 fun vs H3 => rSortedSet w (x :: vs) H3 Q := fun a B1 H1 f1 sq => by
    refine ⟨a, upN ns, ms, rfl, sq, by unfold upN; rw [List.length_map]; exact hl, ha.imp fun z => Nat.ne_of_lt z, fun i => ?_, fun c hc => ?_⟩
    · unfold upN
      rw [List.mem_map, List.mem_map]
      exact ⟨fun ⟨t, a, b⟩ => ⟨t, (hm t).mp a, b⟩, fun ⟨t, a, b⟩ => ⟨t, (hm t).mpr a, b⟩⟩
    · have f2 := f1.trans (Frm.lay f1.kh (o := SetO w c (fun j => decide (j ∈ upN ns)) ms.length) hc)
      refine ⟨c, _, _, rfl, upd_same, h6, fun ks p hw hk hlen hp => ?_⟩
      have e : ks = upN ms := by
        have nd2 : (upN ms).Pairwise (· < ·) := by
          unfold upN; rw [List.pairwise_map]; exact ha.imp fun z => by omega
        have perm : ks.Perm (upN ms) := (List.perm_ext_iff_of_nodup (hw.imp fun z => Int.ne_of_lt z) (nd2.imp fun z => Int.ne_of_lt z)).mpr fun i => by
          rw [hk i, decide_eq_true_eq]
          unfold upN
          rw [List.mem_map, List.mem_map]
          exact ⟨fun ⟨t, a, b⟩ => ⟨t, (hm t).mp a, b⟩, fun ⟨t, a, b⟩ => ⟨t, (hm t).mpr a, b⟩⟩
        exact perm.eq_of_pairwise (le := (· ≤ ·)) (fun x y _ _ h1 h2 => Int.le_antisymm h1 h2) (hw.imp fun z => Int.le_of_lt z) (nd2.imp fun z => Int.le_of_lt z)
      rw [e]
      refine q _ _ _ (f2.trans (Frm.new f2.kh hp)) (.lst upd_same ?_)
      rw [map_dN]
      exact KnL.of_ints _
  rcases h with h | h
  · refine h σ B en H _ hs fun v B1 H1 f1 k1 => ?_
    cases k1 with
    | lst hb hl2 =>
      rw [hl2.nats] at hb
      exact key _ B1 H1 f1 (.inl (SqL.of (f1.kh _ _ hb)))
  · refine h σ B en H _ hs fun v B1 H1 f1 k1 => ?_
    cases k1 with
    | tup hb hl2 =>
      rw [hl2.nats] at hb
      exact key _ B1 H1 f1 (.inr (SqT.of (f1.kh _ _ hb)))
end
end FW

set_option Elab.async false
set_option linter.all false
set_option maxRecDepth 100000
set_option maxHeartbeats 4000000
/-! comprehensions of two walks, one in the other -/
namespace FW
open PySem L2
theorem g_lc2 {α β : Type} {xs : List α} {ys : α → List β} {enc : α → D} {encb : β → D} {wi wi1 : TI} {g g1 : TG} {te : TE} {vs vs1 is is1 : List Nat} {Γ : Gm} {Gx : α → Gm} {Gy : α → β → Gm} {f : α → β → D} (hw : WkG wi Γ (xs.map enc)) (hz : (xs.flatMap ys).length ≤ 10000000)
    (hi : ∀ i ∈ is, i ∈ vs) (hi1 : ∀ i ∈ is1, i ∈ vs1) (hg : ∀ x ∈ xs, GtG g (wipeG Γ vs) (enc x) (Gx x) is) (hw1 : ∀ x ∈ xs, WkG wi1 (Gx x) ((ys x).map encb)) (hg1 : ∀ x ∈ xs, ∀ y ∈ ys x, GtG g1 (wipeG (Gx x) vs1) (encb y) (Gy x y) is1)
    (he : ∀ x ∈ xs, ∀ y ∈ ys x, EvG te (Gy x y) (f x y)) : EvG (tLc2 wi g tYes wi1 g1 tYes te vs vs1) Γ (.lst (xs.flatMap fun x => (ys x).map (f x))) := fun σ B en H Q hs q => by
  let F := fun x => (ys x).map (f x)
  have lenF : ∀ l : List α, (l.flatMap F).length = (l.flatMap ys).length := fun l => by
    induction l with
    | nil => rfl
    | cons x l ih =>
      rw [List.flatMap_cons, List.flatMap_cons, List.length_append, List.length_append, ih]
      show ((ys x).map (f x)).length + _ = _
      rw [List.length_map]
  refine hw σ B en H hs _ fun J B1 H1 f1 wk => fun Dl hD => ?_
  rw [List.length_map] at wk
  have bD : B1 Dl = none := f1.kh.free hD
  let Pv : Nat → Hp → Prop := fun i H' => ∃ B' acc, Frm B1 H1 B' H' ∧ H' Dl = some (.lst acc) ∧ B' Dl = none ∧ KnL B' ((xs.take i).flatMap F) acc
  refine ⟨fun i m H' => m = xs.length - i ∧ i ≤ xs.length ∧ Pv i H', ⟨xs.length, by simp, Nat.zero_le _, B1, [], .lay f1.kh hD, upd_same, bD, by simpa using KnL.nil⟩, ?_⟩
  rintro i m H' ⟨rfl, hle, pv⟩
  by_cases hlt : i < xs.length
  · obtain ⟨B', acc, fr, hl, hb, ka⟩ := pv
    refine .inr ⟨wk.goes i H' hlt (fr.kb.trans fr.kh), Pv (i + 1), fun H2 p' => ⟨xs.length - (i + 1), by omega, rfl, hlt, p'⟩, fun x H'' y => ?_⟩
    obtain ⟨B2, d, ed, f2, kd⟩ := wk.yields i H' x H'' hlt (fr.kb.trans fr.kh) y B' fr.kb fr.kh
    rw [List.getElem?_map, List.getElem?_eq_getElem hlt] at ed
    have ed : d = enc xs[i] := (Option.some.inj ed).symm
    subst ed
    have hm : xs[i] ∈ xs := List.getElem_mem hlt
    generalize ex : xs[i] = a at kd hm
    have fr2 := fr.trans f2
    have h2 : H'' Dl = some (.lst acc) := f2.hh _ _ hl
    have b2 : B2 Dl = none := f2.hid _ hb (by rw [hl]; trivial)
    have eT : xs.take (i + 1) = xs.take i ++ [a] := by rw [List.take_add_one, List.getElem?_eq_getElem hlt, ex]; rfl
    have eA : xs = xs.take i ++ a :: xs.drop (i + 1) := by
      have := List.take_append_drop i xs
      rw [← ex]
      rw [List.drop_eq_getElem_cons hlt] at this
      exact this.symm
    have total : ((xs.take i).flatMap F).length + (ys a).length ≤ 10000000 := by
      have e1 : (xs.flatMap ys).length = ((xs.take i ++ a :: xs.drop (i + 1)).flatMap ys).length := congrArg (fun l => (List.flatMap ys l).length) eA
      rw [List.flatMap_append, List.flatMap_cons, List.length_append, List.length_append] at e1
      rw [lenF]
      omega
    refine hg a hm _ B2 x H'' _ ((en.mono (f1.kb.trans fr2.kb)).wipe vs) f2.kh kd fun σ2 en2 hwp _ => ⟨by rw [hwp vs hi, wipe_wipe σ fun i h => h], ?_⟩
    unfold tYes
    dsimp only
    rw [if_pos rfl]
    refine hw1 a hm σ2 B2 en2 H'' f2.kh _ fun J1 B4 H4 f4 wk1 => ?_
    rw [List.length_map] at wk1
    have fr4 := fr2.trans f4
    have h4 : H4 Dl = some (.lst acc) := f4.hh _ _ h2
    have b4 : B4 Dl = none := f4.hid _ b2 (by rw [h2]; trivial)
    let Pw : Nat → Hp → Prop := fun j H' => ∃ B' acc, Frm B1 H1 B' H' ∧ Same B4 B' ∧ H' Dl = some (.lst acc) ∧ B' Dl = none ∧ KnL B' ((xs.take i).flatMap F ++ ((ys a).take j).map (f a)) acc
    refine ⟨fun j k H' => k = (ys a).length - j ∧ j ≤ (ys a).length ∧ Pw j H', ⟨(ys a).length, by simp, Nat.zero_le _, B4, acc, fr4, Same.refl _, h4, b4, by simpa using ka.mono (f2.kb.trans f4.kb)⟩, ?_⟩
    rintro j k H5 ⟨rfl, hle1, B5, acc5, fr5, s5, h5, b5, k5⟩
    by_cases hlt1 : j < (ys a).length
    · refine .inr ⟨wk1.goes j H5 hlt1 (s5.trans fr5.kh), Pw (j + 1), fun H2 p' => ⟨(ys a).length - (j + 1), by omega, rfl, hlt1, p'⟩, fun z H6 y1 => ?_⟩
      obtain ⟨B6, d, ed, f6, kd6⟩ := wk1.yields j H5 z H6 hlt1 (s5.trans fr5.kh) y1 B5 s5 fr5.kh
      rw [List.getElem?_map, List.getElem?_eq_getElem hlt1] at ed
      have ed : d = encb (ys a)[j] := (Option.some.inj ed).symm
      subst ed
      have hm1 : (ys a)[j] ∈ ys a := List.getElem_mem hlt1
      generalize ey : (ys a)[j] = b at kd6 hm1
      have h6 : H6 Dl = some (.lst acc5) := f6.hh _ _ h5
      have b6 : B6 Dl = none := f6.hid _ b5 (by rw [h5]; trivial)
      refine hg1 a hm b hm1 _ B6 z H6 _ ((en2.mono (f4.kb.trans (s5.trans f6.kb))).wipe vs1) f6.kh kd6 fun σ3 en3 hwp3 _ => ⟨by rw [hwp3 vs1 hi1, wipe_wipe σ2 fun i h => h], ?_⟩
      rw [if_pos rfl]
      refine he a hm b hm1 σ3 B6 en3 H6 _ f6.kh fun v B7 H7 f7 k7 => ?_
      have h7 : H7 Dl = some (.lst acc5) := f7.hh _ _ h6
      have b7 : B7 Dl = none := f7.hid _ b6 (by rw [h6]; trivial)
      have frA := (fr5.trans f6).trans f7
      refine ⟨acc5, h7, ?_, B7, acc5 ++ [v], ⟨frA.kb, same_mut frA.kh b7, same_mut frA.hh hD, frA.hid⟩, s5.trans (f6.kb.trans f7.kb), upd_same, b7, ?_⟩
      · have e := k5.length
        rw [List.length_append, List.length_map, List.length_take] at e
        exact sz_lt (by omega)
      · have eT1 : (ys a).take (j + 1) = (ys a).take j ++ [b] := by rw [List.take_add_one, List.getElem?_eq_getElem hlt1, ey]; rfl
        rw [eT1, List.map_append, ← List.append_assoc]
        exact (k5.mono (f6.kb.trans f7.kb)).append (.cons k7 .nil)
    · have ej : j = (ys a).length := by omega
      subst ej
      refine .inl ⟨wk1.stops H5 (s5.trans fr5.kh), B5, acc5, fr5, h5, b5, ?_⟩
      rw [eT, List.flatMap_append]
      rw [List.take_length] at k5
      simpa using k5
  · have ei : i = xs.length := by omega
    subst ei
    obtain ⟨B', acc, fr, hl, hb, ka⟩ := pv
    refine .inl ⟨wk.stops H' (fr.kb.trans fr.kh), ?_⟩
    rw [List.take_length] at ka
    have kb2 : Same B' (upd B' Dl (.lst acc)) := same_new hb
    refine q _ (upd B' Dl (.lst acc)) H' ⟨f1.kb.trans (fr.kb.trans kb2), fun a o e => ?_, f1.hh.trans fr.hh, fun a h1 h2 => ?_⟩ (.lst upd_same (ka.mono kb2))
    · by_cases z : a = Dl
      · subst z; rw [upd_same] at e; cases e; exact hl
      · rw [upd_ne z] at e; exact fr.kh a o e
    · have h3 : Hi (H1 a) := by
        cases e : H a with
        | none => rw [e] at h2; exact h2.elim
        | some o => rw [e] at h2; rw [f1.hh a o e]; exact h2
      have z : a ≠ Dl := fun z => by rw [z, hD] at h3; exact h3
      rw [upd_ne z]
      exact fr.hid a (f1.hid a h1 h2) h3
end FW

set_option Elab.async false
set_option linter.all false
set_option maxRecDepth 100000
set_option maxHeartbeats 4000000
/-! dicts of numbers -/
namespace FW
open PySem L2
abbrev rLnD : List V → Hp → VK → Prop := fun xs H Q => ∃ a kvs, xs = [V.ref a] ∧ H a = some (.dK kvs) ∧ Q (.int kvs.length) H
theorem rc_lenD {kvs : List (Int × Int)} : RcD rLnD [.dk kvs] (dN kvs.length) := fun B H xs Q hs k q => by
  cases k with
  | cons k1 k2 =>
    cases k2
    cases k1 with
    | dk hb =>
      refine ⟨_, _, rfl, hs _ _ hb, ?_⟩
      rw [List.length_map]
      exact q _ B H (.refl hs) (.int _)
theorem units1 {n m : Nat} (h : n + 64 < m) : n + 1 < m := by omega
theorem look_iK (k : List (Nat × Nat)) (q : Nat) : lookI (iK k) (q : Int) = (k.find? fun kv => decide (kv.1 = q)).map fun kv => (kv.2 : Int) := by
  unfold lookI iK
  induction k with
  | nil => rfl
  | cons x r ih =>
    rw [List.map_cons, List.find?_cons, List.find?_cons]
    by_cases e : x.1 = q
    · have e2 : ((x.1 : Int), (x.2 : Int)).1 = (q : Int) := by show (x.1 : Int) = q; omega
      rw [decide_eq_true e, decide_eq_true e2]; rfl
    · have e2 : ¬ ((x.1 : Int), (x.2 : Int)).1 = (q : Int) := by show ¬ (x.1 : Int) = q; omega
      rw [decide_eq_false e, decide_eq_false e2]; exact ih
theorem put_iK {k : List (Nat × Nat)} {q n : Nat} (h : (k.any fun kv => decide (kv.1 = q)) = false) : putI (iK k) (q : Int) (n : Int) = iK (k ++ [(q, n)]) := by
  unfold putI
  have e : ((iK k).any fun kv => decide (kv.1 = (q : Int))) = false := by
    rw [List.any_eq_false] at h ⊢
    intro x hx
    obtain ⟨y, hy, rfl⟩ := List.mem_map.mp hx
    have := h y hy
    simp at this ⊢
    omega
  rw [e, if_neg Bool.false_ne_true]
  unfold iK
  rw [List.map_append]; rfl
end FW

set_option Elab.async false
set_option linter.all false
set_option maxRecDepth 100000
set_option maxHeartbeats 4000000
/-! sorted(a list of data), sorted(d.items()), list(d.values()), d != {} -/
namespace FW
open PySem L2 PySem.Spec PyProof.Rows
theorem each_vals {β : Type} {R : V → β → Prop} : ∀ {us : List Value} {ws : List V} {bs : List β}, Vals ws us → PySem.W.EachIs R ws bs → PySem.W.EachIs (fun v b => ∃ w, RelV w v ∧ R w b) us bs
  | _, _, _, .nil, .nil => .nil
  | _, _, _, .cons r t, .cons e t2 => .cons ⟨_, r, e⟩ (each_vals t t2)
theorem vals_each {β : Type} {R : V → β → Prop} : ∀ {us : List Value} {bs : List β}, PySem.W.EachIs (fun v b => ∃ w, RelV w v ∧ R w b) us bs → ∃ ws, Vals ws us ∧ PySem.W.EachIs R ws bs
  | _, _, .nil => ⟨[], .nil, .nil⟩
  | _, _, .cons ⟨w, r, e⟩ t => by
    obtain ⟨ws, h1, h2⟩ := vals_each t
    exact ⟨w :: ws, .cons r h1, .cons e h2⟩
def rSortD (K : PySem.W.Frag) : List V → Hp → VK → Prop := fun vs H Q => ∃ (β : Type) (R : V → β → Prop) (enc : β → PyData) (bs : List β) (a : Addr) (ws : List V), vs = [.ref a] ∧ SqL K H a ws ∧ PySem.W.EachIs R ws bs ∧ (∀ w b, R w b → Dp K H w (enc b)) ∧
  PySem.W.AllAlike (bs.map enc) ∧ PySem.W.Sortable (bs.map enc) ∧ (∀ b ∈ bs, (enc b).depth ≤ 50) ∧ ∀ (out : List V) (p : Addr), PySem.W.EachIs R out (bs.mergeSort (PySem.W.dataLe false enc)) → H p = none → Q (.ref p) (upd H p (.lst out))
theorem cr_sortD {X : Cx} (hu : X.A.units + 64 < cLine) : CallR X (.builtin "sorted") (rSortD X.K) := by
  intro pins s σ H xs us Q I r h
  obtain ⟨β, R, enc, bs, a, ws, rfl, hq, hR, hD, hal, hk, hd, q⟩ := h
  obtain ⟨u, rfl, rx⟩ := vals1 r
  cases rx
  obtain ⟨its, rv, pl, hz⟩ := I.list hq
  have e := each_vals rv hR
  have lb : bs.length ≤ sizeLine := by rw [← hR.length]; exact hz
  refine PySem.W.sorted_data pl.isList e (e.mono fun v b ⟨w, r, rb⟩ => Dp.reads I _ _ _ (hD w b rb) r) hal hk lb (fun b hb => by have := hd b hb; omega) fun out hl ho => ?_
  obtain ⟨ws', rv', hR'⟩ := vals_each ho
  obtain ⟨ep, he'⟩ := PyProof.Rows.sortedAll_at s.heap its out.toArray
  have hlen : ws'.length ≤ sizeLine := by rw [rv'.length, hl]; exact lb
  exact ⟨.ref _, upd H (s.heap.objs.size + 1) (.lst ws'), I.laid (t' := s.toks) (fun _ _ => PyProof.Rows.sortedAll_old) (Nat.le_succ _) ⟨hlen, out, ep, rv', he'⟩, rfl, q _ _ hR' (I.hok.fresh (Nat.le_succ _))⟩

/-! ### list(d.values()) -/
section
variable {X : Cx} {e : Expr} {te : TE} {p apos cpos pos : Pos}
def tListVals (te : TE) : TE := fun σ H Q => te σ H fun x H1 => ∃ (d : Addr) (kvs : List (L2.Key × V)), x = .ref d ∧ H1 d = some (.dK kvs) ∧ ∀ p, H1 p = none → Q (.ref p) (upd H1 p (.lst (kvs.map (·.2))))
theorem vals_snd {kvs : List (L2.Key × V)} {vs : List (L2.Key × Value)} (kv : KV kvs vs) {us : List Value} (hl : us.length = vs.length) (hu : ∀ (j : Nat) (v : Value), us[j]? = some v → ∃ k, vs[j]? = some (k, v)) : Vals (kvs.map (·.2)) us := by
  refine vals_of_at (by rw [List.length_map, hl]; exact Paired.length kv) fun j x u hx hju => ?_
  obtain ⟨k, hv⟩ := hu j u hju
  obtain ⟨x', h1, h2⟩ := KV.at' kv hv
  rw [List.getElem?_map, h1] at hx
  cases hx
  exact h2
theorem pe_listVals (hc : X.calm = true) (he : PE X e te) (hg : Gl X "list") (hm : X.mg "list" = none) (hv : bootBuiltins "list" = some (.type "list")) (hbase : attributeBase e "values" X.env (eval e X.env) = eval e X.env := by rfl) (hline : (apos.endLine == cpos.line) = true := by rfl)
    (hs : starEach [.Call (.Attribute e "values" apos) [] [] cpos] X.env = (false, eval (.Call (.Attribute e "values" apos) [] [] cpos) X.env) :: starEach [] X.env := by rfl) :
    PE X (.Call (.Name "list" p) [.Call (.Attribute e "values" apos) [] [] cpos] [] pos) (tListVals te) := by
  refine ⟨fun pins s σ H Q I hq => ?_⟩
  refine wpAny_Call_Name_kw (ld_blt I hg hm hv ?_)
  refine PyProof.Rows.callWith_type1 ?_ hs rfl
  rw [hs]
  show wpAny _ _ (spliced ((false, eval (.Call (.Attribute e "values" apos) [] [] cpos) X.env) :: backTo pos (starEach [] X.env))) _ _ s
  refine Calls.spliced_cons ?_
  refine wpAny_Call_method (T := "dict") (id := "dict.values") hbase rfl hline F.plainAttrs_dict F.slot_dict_values F.type_dict_values (thn (he.run pins s σ H _ I hq) fun u s1 ⟨x, H1, I1, rx, d, kvs, ex, hd, q⟩ => ?_)
  subst ex
  obtain rfl : u = Value.ref d := rx
  obtain ⟨hz, hs0, vs, kv, hdo⟩ := I1.hok d _ hd
  obtain ⟨ep, hat⟩ := hdo.dictAt
  have lk : kvs.length = vs.length := Paired.length kv
  have I2 : Inv X pins σ H1 { s1 with heap := s1.heap.push { cls := .type "dict_values", data := .fields #[.ref d] } } := I1.kept (t' := s1.toks) fun b ob q => Heap.get?_push_of_some _ q
  refine ⟨hdo.typeIs, hdo.mapOf.noDict, ?_⟩
  show wpAny _ _ (callWith cpos (.builtin "dict.values") [.ref d] [] []) _ X.xe s1
  refine method_meetsIn F.slot_dict_values F.entry_dict_values rfl (PySem.evalArgs_none ⟨rfl, hdo.typeIs, F.args_dict_values_1 _, _, meets_dict_values (mixKind X.prog X.w) d hs0, ⟨vs, hdo⟩, ?_⟩)
  refine Calls.spliced_nil ?_
  refine PySem.W.kdl_call (PySem.W.kdl_values (knd := mixKind X.prog X.w) (kvs := vs) (ep := ep)) (I1.ok.hd hc) ⟨⟨_, Heap.get?_push_size _ rfl, rfl, rfl⟩, hat.push _⟩ (by omega) fun h' tk acc c hk hS hacc => ?_
  have rv : Vals (kvs.map (·.2)) acc.toList := vals_snd kv (by rw [Array.length_toList]; exact hacc.1) fun j v e => hacc.2 j v (by rw [← Array.getElem?_toList]; exact e)
  refine ⟨.ref _, upd H1 _ (.lst (kvs.map (·.2))), I2.laid (t' := tk) hk (Nat.le_refl _) ⟨by rw [List.length_map]; exact hz, acc.toList, c, rv, ?_⟩, rfl, q _ (I2.hok.fresh (Nat.le_refl _))⟩
  rw [Array.toArray_toList]
  exact hS
end
section
variable {Γ : Gm} {te : TE}
theorem g_listVals {k : List (Nat × Nat)} (h : EvG te Γ (dK k)) : EvG (tListVals te) Γ (dL (k.map (·.2))) := fun σ B en H Q hs q =>
  h σ B en H _ hs fun v B1 H1 f1 k1 => by
    cases k1 with
    | dk hb =>
      refine ⟨_, _, rfl, f1.kh _ _ hb, fun p hp => q _ _ _ (f1.trans (Frm.new f1.kh hp)) (.lst upd_same ?_)⟩
      have e : (((iK k).map ekv).map (·.2)) = (((k.map (·.2)).map fun (x : Nat) => (x : Int))).map V.int := by
        simp only [List.map_map]; rfl
      rw [e, map_dN]
      exact KnL.of_ints _
end

/-! ### d != {} -/
section
variable {X : Cx}
def rNeNew : R2 := fun x y H Q => ∃ a b ks, x = .ref a ∧ y = .ref b ∧ H a = some (.dK ks) ∧ H b = some (.dK []) ∧ Q (.bl (!ks.isEmpty)) H
theorem op_neNew (hu : X.A.units < cLine) : OpR X (compareOp .NotEq) rNeNew := by
  intro pins s σ H x y v u Q I rx ry h
  obtain ⟨a, b, ks, rfl, rfl, ea, eb, q⟩ := h
  obtain rfl : v = Value.ref a := rx
  obtain rfl : u = Value.ref b := ry
  obtain ⟨_, ya, va, ra, da⟩ := (show ObjOk X.prog X.w H s.heap a (.dK ks) from I.hok a _ ea)
  obtain ⟨_, yb, vb, rb, db⟩ := (show ObjOk X.prog X.w H s.heap b (.dK []) from I.hok b _ eb)
  cases rb
  cases ra with
  | nil => exact PySem.W.keq_ne (knd := mixKind X.prog X.w) (r := true) ya yb da db hu (fun _ => hits_all (kvs := []) (ks := []) .nil .nil (fun p hp => by simp at hp)) (fin_bl I q rfl)
  | cons r t => exact PySem.W.keq_ne (knd := mixKind X.prog X.w) (r := true) ya yb da db hu (fun e => by simp at e) (fin_bl I q rfl)
end
section
variable {Γ : Gm} {te : TE}
theorem t_neNew {kvs : List (Int × Int)} (h : EvG te Γ (.dk kvs)) : TtG (tTest (tOp rNeNew te tDNewK)) Γ (!kvs.isEmpty) := fun σ B en H Q hs q =>
  h σ B en H _ hs fun v B1 H1 f1 k1 => fun p hp => by
    cases k1 with
    | dk hb =>
      refine ⟨_, p, _, rfl, rfl, (same_new hp) _ _ (f1.kh _ _ hb), upd_same, _, rfl, ?_⟩
      have e : (kvs.map ekv).isEmpty = kvs.isEmpty := by cases kvs <;> rfl
      rw [e]
      exact q _ _ (f1.trans (Frm.lay f1.kh hp))
end
end FW

set_option Elab.async false
set_option linter.all false
set_option maxRecDepth 100000
set_option maxHeartbeats 4000000
/-! sorted(d.items()), d of numbers -/
namespace FW
open PySem L2 PySem.Spec PyProof.Rows
theorem tups_laid {X : Cx} {pins : List (Addr × Obj)} {σ : L2.St} {H : Hp} {s : Shared} {h' : Heap} {tk : Nat} {kvs : List (L2.Key × V)} {vs : List (L2.Key × Value)} {as : List Addr} (I : Inv X pins σ H s) (kv : KV kvs vs)
    (hk : ∀ b o, s.heap.get? b = some o → h'.get? b = some o) (hl : as.length = vs.length) (hG : PySem.W.KdxG (mixKind X.prog X.w) vs s.heap.objs.size h' as) :
    ∃ H' : Hp, Same H H' ∧ (∀ t ∈ as, H t = none) ∧ (∀ b, b ∉ as → H' b = H b) ∧ Paired (fun (t : Addr) (q : L2.Key × V) => H' t = some (.tup [kV q.1, q.2])) as kvs ∧ Inv X pins σ H' { s with heap := h', toks := tk } := by
  have lk : kvs.length = vs.length := Paired.length kv
  have nd : as.Nodup := List.Pairwise.imp (fun {a b} (h : a < b) => Nat.ne_of_lt h) hG.rise
  have new : ∀ t ∈ as, H t = none := fun t ht => I.hok.fresh (Nat.le_of_lt (hG.above t ht))
  have atP := LiI.putT_at as kvs H (by omega) nd
  have off : ∀ b, b ∉ as → LiI.putT H as kvs b = H b := fun b h1 => LiI.putT_off as kvs H h1
  have low : ∀ b o, s.heap.get? b = some o → b ∉ as := fun b o e z => absurd (Heap.lt_size e) (Nat.not_lt.mpr (Nat.le_of_lt (hG.above b z)))
  have kp : Same H (LiI.putT H as kvs) := fun b u e => by
    rw [off b (fun z => by rw [new b z] at e; cases e)]
    exact e
  refine ⟨LiI.putT H as kvs, kp, new, off, atP, ?_⟩
  refine I.call' (ch := []) rfl ⟨fun b o q _ _ _ => hk b o q, fun b o q _ _ _ => ⟨o.slots, hk b o q⟩, fun b o q n _ => ?_, fun b o q _ => ⟨o, hk b o q⟩, fun b xs q => kp b _ q, fun b o u q => kp b _ q, fun b ps q => ⟨#[], by rw [kp b _ q]; simp⟩⟩ (fun b u q => ?_) I.bare fun b z => by simp at z
  · rw [off b (low b o q)]
    exact n
  · by_cases hb : b ∈ as
    · obtain ⟨j, pk, e1, e2, e3⟩ := LiI.paired_ix atP hb
      rw [e3] at q
      cases q
      obtain ⟨key, k, x, f1, f2, f3⟩ := hG.pairs j b e1
      obtain ⟨qv, g1, g2, g3⟩ := LiI.paired_get kv e2
      rw [f1] at g1
      cases g1
      have rk : RelV (kV pk.1) key := by
        rw [g2]
        exact relV_key (show keyIs k key = true from f2)
      exact ⟨by show 2 ≤ sizeLine; decide, [key, x], .cons rk (.cons g3 .nil), ⟨_, f3, rfl, _, rfl⟩⟩
    · rw [off b hb] at q
      exact (I.hok b u q).stay (fun d v _ y => hk d v y) (fun d y => kp d _ y) fun d xs y => kp d _ y
abbrev encII (b : Int × Int) : PyData := .tuple [.int b.1, .int b.2]
theorem alikeII : ∀ b b' : Int × Int, PySem.W.alike (encII b) (encII b') = true := fun b b' => by
  simp [encII, PySem.W.alike, PySem.W.alikeAll]
def tSortItems (te : TE) : TE := fun σ H Q => te σ H fun x H1 => ∃ (d : Addr) (kvs : List (Int × Int)), x = .ref d ∧ H1 d = some (.dK (kvs.map ekv)) ∧ kvs.length ≤ 1000 ∧
  ∀ (H' : Hp) (p : Addr) (ts : List Addr), Same H1 H' → H1 p = none → (∀ t ∈ ts, H1 t = none) → H' p = some (.lst (ts.map V.ref)) → Paired (fun (t : Addr) (q : Int × Int) => H' t = some (.tup [.int q.1, .int q.2])) ts (kvs.mergeSort (PySem.W.dataLe false encII)) → Q (.ref p) H'
section
variable {X : Cx} {e : Expr} {te : TE} {p apos cpos pos : Pos}
theorem each_paired {F : Addr → Int × Int → Prop} {as : List Addr} {kvs : List (Int × Int)} (hp : Paired F as kvs) : PySem.W.EachIs (fun v q => ∃ t, v = Value.ref t ∧ F t q) (as.map Value.ref) kvs := by
  induction hp with
  | nil => exact .nil
  | cons h t ih => exact .cons ⟨_, rfl, h⟩ ih
theorem paired_each {F : Addr → Int × Int → Prop} : ∀ {out : List Value} {kvs : List (Int × Int)}, PySem.W.EachIs (fun v q => ∃ t, v = Value.ref t ∧ F t q) out kvs → ∃ ts : List Addr, out = ts.map Value.ref ∧ Paired F ts kvs
  | _, _, .nil => ⟨[], rfl, .nil⟩
  | _, _, .cons ⟨t, e, h⟩ r => by
    obtain ⟨ts, e2, h2⟩ := paired_each r
    exact ⟨t :: ts, by rw [e, e2]; rfl, .cons h h2⟩
theorem paired_all {α β : Type} {F : α → β → Prop} {S : List α} : ∀ {as : List α} {bs : List β}, Paired F as bs → (∀ t ∈ as, t ∈ S) → Paired (fun t q => t ∈ S ∧ F t q) as bs
  | _, _, .nil, _ => .nil
  | _, _, .cons a t, h => .cons ⟨h _ List.mem_cons_self, a⟩ (paired_all t fun x hx => h x (List.mem_cons_of_mem _ hx))
theorem paired_map {F : Addr → L2.Key × V → Prop} {G : Addr → Int × Int → Prop} (hFG : ∀ t q, F t (ekv q) → G t q) : ∀ {as : List Addr} {kvs : List (Int × Int)}, Paired F as (kvs.map ekv) → Paired G as kvs
  | _, [], h => by
    have h : Paired F _ [] := h
    cases h
    exact .nil
  | _, q :: kvs, h => by
    have h : Paired F _ (ekv q :: kvs.map ekv) := h
    cases h with
    | cons a t => exact .cons (hFG _ _ a) (paired_map hFG t)
theorem paired_mono {α β : Type} {F G : α → β → Prop} (hFG : ∀ t q, F t q → G t q) : ∀ {as : List α} {bs : List β}, Paired F as bs → Paired G as bs
  | _, _, .nil => .nil
  | _, _, .cons a t => .cons (hFG _ _ a) (paired_mono hFG t)
theorem pe_sortItems (hc : X.calm = true) (hu : X.A.units + 64 < cLine) (he : PE X e te) (hg : Gl X "sorted") (hm : X.mg "sorted" = none) (hv : bootBuiltins "sorted" = some (.builtin "sorted")) (hbase : attributeBase e "items" X.env (eval e X.env) = eval e X.env := by rfl) (hline : (apos.endLine == cpos.line) = true := by rfl)
    (hs : starEach [.Call (.Attribute e "items" apos) [] [] cpos] X.env = (false, eval (.Call (.Attribute e "items" apos) [] [] cpos) X.env) :: starEach [] X.env := by rfl) :
    PE X (.Call (.Name "sorted" p) [.Call (.Attribute e "items" apos) [] [] cpos] [] pos) (tSortItems te) := by
  refine ⟨fun pins s σ H Q I hq => ?_⟩
  refine wpAny_Call_Name_kw (ld_blt I hg hm hv ?_)
  refine PyProof.Rows.callWith_builtin1 ?_ hs rfl
  rw [hs]
  show wpAny _ _ (spliced ((false, eval (.Call (.Attribute e "items" apos) [] [] cpos) X.env) :: backTo pos (starEach [] X.env))) _ _ s
  refine Calls.spliced_cons ?_
  refine wpAny_Call_method (T := "dict") (id := "dict.items") hbase rfl hline F.plainAttrs_dict F.slot_dict_items F.type_dict_items (thn (he.run pins s σ H _ I hq) fun u s1 ⟨x, H1, I1, rx, d, ns, ex, hd, hlen, q⟩ => ?_)
  subst ex
  obtain rfl : u = Value.ref d := rx
  obtain ⟨hz, hs0, vs, kv, hdo⟩ := I1.hok d _ hd
  obtain ⟨ep, hat⟩ := hdo.dictAt
  have lk : (ns.map ekv).length = vs.length := Paired.length kv
  rw [List.length_map] at lk
  have I2 : Inv X pins σ H1 { s1 with heap := s1.heap.push { cls := .type "dict_items", data := .fields #[.ref d] } } := I1.kept (t' := s1.toks) fun b ob q => Heap.get?_push_of_some _ q
  refine ⟨hdo.typeIs, hdo.mapOf.noDict, ?_⟩
  show wpAny _ _ (callWith cpos (.builtin "dict.items") [.ref d] [] []) _ X.xe s1
  refine method_meetsIn F.slot_dict_items F.entry_dict_items rfl (PySem.evalArgs_none ⟨rfl, hdo.typeIs, F.args_dict_items_1 _, _, meets_dict_items (mixKind X.prog X.w) d hs0, ⟨vs, hdo⟩, ?_⟩)
  refine Calls.spliced_nil ?_
  refine Calls.call_function_entry PyProof.Rows.kind_sorted PyProof.Rows.plain_sorted PyProof.Rows.entry_sorted (PyProof.Rows.args_sorted1 _) ?_
  unfold Builtin.«sorted»
  refine wpAny_bind (m := checkCount "sorted" 1 1 _) (wpAny_pure ?_)
  refine wpAny_bind (PySem.W.kdx_collect (A := X.A.in1) (knd := mixKind X.prog X.w) (kvs := vs) (ep := ep) (I1.ok.hd hc) ⟨_, Heap.get?_push_size _ rfl, rfl, rfl⟩ (hat.push _) (by rw [sizeLine_eq]; omega) fun h' tk as hk hl hG => ?_)
  obtain ⟨H2, k1, k2, k3, k4, J⟩ := tups_laid (tk := tk) I2 kv hk hl hG
  have k5 := paired_all (S := as) (paired_map (G := fun (t : Addr) (q : Int × Int) => H2 t = some (.tup [.int q.1, .int q.2])) (fun t q h => h) k4) fun t h => h
  have hal : as.length = ns.length := by omega
  clear k4 hG hl lk hz kv hat hdo
  have ls : (as.map Value.ref).length ≤ sizeLine := by rw [List.length_map, hal, sizeLine_eq]; omega
  refine wpAny_bind (wpAny_newList ?_ ls)
  show wpAny _ _ _ _ _ { s1 with heap := h'.push (seqObj "list" (as.map Value.ref).toArray 0), toks := tk }
  have hoL : (h'.push (seqObj "list" (as.map Value.ref).toArray 0)).get? h'.objs.size = some (seqObj "list" (as.map Value.ref).toArray 0) := Heap.get?_push_size _ rfl
  have ee := each_paired k5
  have er : PySem.W.EachIs (fun v b => ∃ bs, Reads (h'.push (seqObj "list" (as.map Value.ref).toArray 0)) v (encII b) bs ∧ h'.objs.size ∉ bs) (as.map Value.ref) ns := ee.mono fun v b hv => by
    obtain ⟨t, ev, hta, ht⟩ := hv
    obtain ⟨_, its, r2, o, ho, hcl, n, hdt⟩ := J.hok _ _ ht
    obtain ⟨u1, u2, rfl, ri, rj⟩ := vals2 r2
    obtain ⟨t1, ri⟩ := ri
    obtain ⟨t2, rj⟩ := rj
    subst ri rj ev
    exact ⟨_, .tuple (Heap.get?_push_of_some _ ho) hcl hdt (.cons (.int _ _) (.cons (.int _ _) .nil)), by simp⟩
  have hdep : ∀ b : Int × Int, (encII b).depth ≤ 50 := fun b => by simp [encII, PyData.depth, PyData.depthAll]
  have hun : ∀ b, b ∈ ns → X.A.in1.units + 1 + (encII b).depth < cLine := fun b _ => by
    have e := hdep b
    have hx : X.A.in1.units ≤ X.A.units + 10 := Nat.le_trans (Nat.le_of_eq (PyProof.Rows.units_in1 X.A)) (Nat.add_le_add_left (by decide) _)
    omega
  have hL : ns.length ≤ sizeLine := by rw [← hal, ← List.length_map (f := Value.ref)]; exact ls
  refine wpAny_bind (wpAny_holding (PySem.W.list_sort_data (s := { s1 with heap := h'.push (seqObj "list" (as.map Value.ref).toArray 0), toks := tk }) (enc := encII) (bs := ns) hoL ee er (PySem.W.AllAlike.of alikeII) (PySem.W.Sortable.tuples fun b => ⟨_, _, rfl⟩) hL hun fun out hlo ho => ?_))
  obtain ⟨ts, et, hp⟩ := paired_each ho
  obtain ⟨e', he'⟩ := PyProof.Rows.sortedHeap_at (vs := as.map Value.ref) (out := out.toArray) hoL
  have hn : H2 h'.objs.size = none := J.hok.fresh (Nat.le_refl _)
  have len2 : (ts.map V.ref).length ≤ sizeLine := by
    have e1 := congrArg List.length et
    rw [List.length_map] at e1
    rw [List.length_map, ← e1, hlo]; exact hL
  have J2 : Inv X pins σ (upd H2 h'.objs.size (.lst (ts.map V.ref))) { s1 with heap := PyProof.Rows.sortedHeap (h'.push (seqObj "list" (as.map Value.ref).toArray 0)) h'.objs.size (as.map Value.ref) out.toArray, toks := tk } :=
    J.laid (t' := tk) (fun b u e => by
      have hb : b < h'.objs.size := Heap.lt_size e
      rw [PyProof.Rows.sortedHeap_old (Nat.ne_of_lt hb) (by rw [size_push']; exact Nat.lt_succ_of_lt hb)]
      exact Heap.get?_push_of_some _ e) (Nat.le_refl _)
      (show ObjOk X.prog X.w _ _ _ (.lst (ts.map V.ref)) from ⟨len2, out, e', by rw [et]; exact LiI.vals_refs ts, he'⟩)
  refine wpAny_pure ⟨_, rfl, .ref h'.objs.size, _, J2, rfl, ?_⟩
  refine q _ _ ts (k1.trans (same_new hn)) (k1.free hn) (fun t ht => ?_) upd_same (paired_mono (fun t b h => ?_) hp)
  · obtain ⟨j, b, e1, e2, e3, e4⟩ := LiI.paired_ix hp ht
    exact k2 t e3
  · exact (same_new hn) _ _ h.2
end
end FW

set_option Elab.async false
set_option linter.all false
set_option maxRecDepth 100000
set_option maxHeartbeats 4000000
/-! sorted(d.items()) on data; list(d); sorted(a list of data) -/
namespace FW
open PySem L2 PySem.Spec PyProof.Rows
theorem sort_items {k ms : List (Nat × Nat)} (hp : ms.Perm k) (ha : ms.Pairwise fun a b => a.1 < b.1) : (iK k).mergeSort (PySem.W.dataLe false encII) = iK ms := by
  have e : PySem.W.dataLe false encII = fun p q : Int × Int => decide (p.1 < q.1 ∨ (p.1 = q.1 ∧ p.2 ≤ q.2)) := PySem.W.dataLe_ii (fun b : Int × Int => b.1) (fun b => b.2)
  rw [e]
  have pm : ((iK k).mergeSort fun p q : Int × Int => decide (p.1 < q.1 ∨ (p.1 = q.1 ∧ p.2 ≤ q.2))).Perm (iK ms) := (List.mergeSort_perm _ _).trans (hp.symm.map _)
  have pw := List.pairwise_mergeSort (le := fun p q : Int × Int => decide (p.1 < q.1 ∨ (p.1 = q.1 ∧ p.2 ≤ q.2))) (fun a b c h1 h2 => by simp at h1 h2 ⊢; omega) (fun a b => by simp; omega) (iK k)
  refine pm.eq_of_pairwise (le := fun p q : Int × Int => (p.1 < q.1 ∨ (p.1 = q.1 ∧ p.2 ≤ q.2))) (fun x y _ _ h1 h2 => ?_) (pw.imp fun h => by simpa using h) ?_
  · exact Prod.ext (by omega) (by omega)
  · unfold iK
    rw [List.pairwise_map]
    exact ha.imp fun h => by left; show ((_ : Nat) : Int) < _; omega
section
variable {Γ : Gm} {te : TE}
theorem g_sortItems {k ms : List (Nat × Nat)} (h : EvG te Γ (dK k)) (hp : ms.Perm k) (ha : ms.Pairwise fun a b => a.1 < b.1) (hl : k.length ≤ 1000) : EvG (tSortItems te) Γ (.lst (ms.map dP)) := fun σ B en H Q hs q =>
  h σ B en H _ hs fun v B1 H1 f1 k1 => by
    cases k1 with
    | dk hb =>
      refine ⟨_, _, rfl, f1.kh _ _ hb, by rw [List.length_map]; exact hl, fun H' p ts s1 hpn hts hlp hpr => ?_⟩
      rw [sort_items hp ha] at hpr
      let B' : Hp := fun a => if a = p ∨ a ∈ ts then H' a else B1 a
      have at1 : ∀ a, (a = p ∨ a ∈ ts) → B' a = H' a := fun a ha => if_pos ha
      have off1 : ∀ a, ¬ (a = p ∨ a ∈ ts) → B' a = B1 a := fun a ha => if_neg ha
      have fresh : ∀ a, (a = p ∨ a ∈ ts) → H1 a = none := fun a ha => by
        rcases ha with rfl | ha
        · exact hpn
        · exact hts a ha
      have fr : Frm B1 H1 B' H' := by
        refine ⟨fun a o e => ?_, fun a o e => ?_, s1, fun a h1 h2 => ?_⟩
        · rw [off1 a fun z => by have := fresh a z; rw [f1.kh a o e] at this; cases this]; exact e
        · by_cases z : a = p ∨ a ∈ ts
          · rw [at1 a z] at e; exact e
          · rw [off1 a z] at e; exact s1 a o (f1.kh a o e)
        · rw [off1 a fun z => by rw [fresh a z] at h2; exact h2]; exact h1
      have kl : ∀ {us : List Addr} {ns : List (Nat × Nat)}, (∀ t ∈ us, t ∈ ts) → Paired (fun (t : Addr) (q : Int × Int) => H' t = some (.tup [.int q.1, .int q.2])) us (iK ns) → KnL B' (ns.map dP) (us.map V.ref) := by
        intro us ns
        induction ns generalizing us with
        | nil =>
          intro _ h
          have h : Paired _ us [] := h
          cases h
          exact .nil
        | cons n ns ih =>
          intro hu h
          have h : Paired _ us (((n.1 : Int), (n.2 : Int)) :: iK ns) := h
          cases h with
          | cons a t => exact .cons (.tup ((at1 _ (.inr (hu _ List.mem_cons_self))).trans a) (.cons (.int _) (.cons (.int _) .nil))) (ih (fun x hx => hu x (List.mem_cons_of_mem _ hx)) t)
      exact q _ B' H' (f1.trans fr) (.lst ((at1 p (.inl rfl)).trans hlp) (kl (fun t h => h) hpr))
end
/-! ### list(d) -/
theorem rc_listD {k : List (Nat × Nat)} : RcD rListD [dK k] (dL (k.map (·.1))) := fun B H xs Q hs kk q => by
  cases kk with
  | cons k1 k2 =>
    cases k2
    cases k1 with
    | dk hb =>
      refine ⟨_, _, rfl, hs _ _ hb, fun p hp => q _ _ _ (Frm.new hs hp) (.lst upd_same ?_)⟩
      have e : (((iK k).map ekv).map fun kv => kV kv.1) = (((k.map (·.1)).map fun (x : Nat) => (x : Int))).map V.int := by
        simp only [List.map_map]; rfl
      rw [e, map_dN]
      exact KnL.of_ints _
/-! ### sorted of data -/
theorem each_knl {B : Hp} {α : Type} {enc : α → D} : ∀ {xs : List α} {vs : List V}, KnL B (xs.map enc) vs → PySem.W.EachIs (fun v x => Kn B (enc x) v) vs xs
  | [], _, h => by
    have h : KnL B [] _ := h
    cases h
    exact .nil
  | x :: xs, _, h => by
    have h : KnL B (enc x :: xs.map enc) _ := h
    cases h with
    | cons a t => exact .cons a (each_knl t)
theorem knl_each {B : Hp} {α : Type} {enc : α → D} : ∀ {xs : List α} {vs : List V}, PySem.W.EachIs (fun v x => Kn B (enc x) v) vs xs → KnL B (xs.map enc) vs
  | _, _, .nil => .nil
  | _, _, .cons a t => .cons a (knl_each t)
theorem rc_sortD {K : PySem.W.Frag} {α : Type} [DecidableEq α] {enc : α → D} {k : Nat} (e : Enc enc k) (hk : k ≤ 50) {xs : List α} (hal : ∀ a b, PySem.W.alike (py (enc a)) (py (enc b)) = true) (hso : PySem.W.Sortable (xs.map fun x => py (enc x))) : RcD (rSortD K) [.lst (xs.map enc)] (.lst ((xs.mergeSort (PySem.W.dataLe false fun x => py (enc x))).map enc)) := fun B H vs Q hs kk q => by
  cases kk with
  | cons k1 k2 =>
    cases k2
    cases k1 with
    | lst hb hl =>
      refine ⟨α, fun v x => Kn B (enc x) v, fun x => py (enc x), xs, _, _, rfl, SqL.of (hs _ _ hb), each_knl hl, fun w b h => h.dp hs (e.pl b), PySem.W.AllAlike.of hal, hso, fun b _ => Nat.le_trans (e.dep b) hk, fun out p ho hp => ?_⟩
      have fr := Frm.new (o := .lst out) hs hp
      exact q _ _ _ fr (.lst upd_same ((knl_each ho).mono fr.kb))
theorem alikeT : ∀ a b : List Nat, PySem.W.alike (py (dT a)) (py (dT b)) = true := fun a b => by
  have e : ∀ ns : List Nat, py (dT ns) = .tuple ((ns.map fun (x : Nat) => (x : Int)).map .int) := fun ns => by
    show py (.tup (ns.map dN)) = _
    rw [py, pyL_map, List.map_map]
    congr 1
  rw [e, e, PySem.W.alike]
  exact PySem.W.alike_ints _ _
theorem alikeH : ∀ a b : List (List Nat), PySem.W.alike (py (dH a)) (py (dH b)) = true := fun a b => by
  show PySem.W.alike (py (.tup (a.map dT))) (py (.tup (b.map dT))) = true
  rw [py, py, pyL_map, pyL_map, PySem.W.alike]
  induction a generalizing b with
  | nil => cases b <;> simp [PySem.W.alikeAll]
  | cons x xs ih =>
    cases b with
    | nil => simp [PySem.W.alikeAll]
    | cons y ys =>
      rw [List.map_cons, List.map_cons, PySem.W.alikeAll, alikeT, ih]; rfl
end FW

set_option Elab.async false
set_option linter.all false
set_option maxRecDepth 100000
set_option maxHeartbeats 4000000
/-! a locked dict with tuple keys, walked by its items -/
namespace FW
open PySem L2 PySem.Spec PyProof.Rows
section
variable {X : Cx} {pins : List (Addr × Obj)} {σ : L2.St} {H : Hp} {s : Shared} {d : Addr} {o : Obj}
theorem frzT2 {kvs : List (List L2.Key × V)} (I : Inv X pins σ H s) (h : H d = some (.frz o (.dT kvs))) :
    (d == sysModules) = false ∧ s.heap.get? d = some o ∧ o.ExactDict ∧ ∃ (es : Array DictEntry) (ep : Nat), o.data = .dict es ep ∧ es.size = kvs.length ∧
      ∀ (i : Nat) (k : List L2.Key) (v : V), kvs[i]? = some (k, v) → ∃ (en : DictEntry) (q : Addr), es[i]? = some en ∧ en.key = .ref q ∧ RelV v en.val ∧ H q = some (.tup (k.map kV)) := by
  obtain ⟨hd, z, hs, xs, pr, o', es, ep, ho, hx, hdt, he, _⟩ := I.hok d _ h
  rw [hd] at ho
  cases ho
  refine ⟨hs, hd, hx, es, ep, hdt, ?_, fun i k v e => ?_⟩
  · have l1 : es.size = xs.length := size_of_entries he
    have l2 : kvs.length = xs.length := Paired.length pr
    omega
  · obtain ⟨b, hb, e1, e2, e3⟩ := paired_get pr e
    have q := entry_at he i
    rw [hb] at q
    exact ⟨_, b.2.1, q, rfl, e3, e2⟩
end
/-- the pairs, each a new tuple of the key's own tuple and the value -/
def ItT (d : Addr) (o : Obj) (kvs : List (List L2.Key × V)) : It :=
  ⟨fun i H => H d = some (.frz o (.dT kvs)) ∧ i < kvs.length, fun i H x H' => ∃ T q k v, kvs[i]? = some (k, v) ∧ x = .ref T ∧ H T = none ∧ H q = some (.tup (k.map kV)) ∧ H' = upd H T (.tup [.ref q, v]), fun i H => H d = some (.frz o (.dT kvs)) ∧ kvs.length ≤ i⟩
theorem self_items {prog : Program} {w : World} {A : Around} {it d : Addr} {i n ep : Nat} {ok ov : Value} {s : Shared} {Q E : Value → Shared → Prop} (e : IsItemIter s.heap it d i n ep ok ov) (h : Q (.ref it) s) : wpAny (model prog w) A (pyIter (.ref it)) Q E s := PySem.W.kcp_self e h
section
variable {P : Program} {w : World} {K : PySem.W.Frag} {d : Addr} {o : Obj} {es : Array DictEntry} {ep : Nat}
theorem turn_itemsT {kvs : List (List L2.Key × V)} {elts : List Expr} {kk : Nat} {tpos : Pos} (it : Addr) (hod : o.data = .dict es ep) :
    Turn P w K (.Tuple elts kk tpos) (ItT d o kvs) [it] it (fun i h => ∃ ok ov, IsItemIter h it d i kvs.length ep ok ov) where
  mem := by simp
  obj := fun i h st b hb => by
    have e : b = it := by simpa using hb
    subst e
    obtain ⟨ok, ov, e⟩ := st
    exact ⟨_, e, fun v z => nomatch z⟩
  keep := fun i h h' st k => let ⟨ok, ov, e⟩ := st; ⟨ok, ov, k it (by simp) _ e⟩
  item := by
    intro X hP hw hK hc i pins s σ H E I hf st hg
    subst hP hw hK
    obtain ⟨hd, hi⟩ := hg
    obtain ⟨hs, hgd, hx, es', ep', hdt, hsz, ent⟩ := frzT2 I hd
    obtain ⟨rfl, rfl⟩ := dict_ep hod hdt
    obtain ⟨⟨k, v⟩, hkv⟩ : ∃ p, kvs[i]? = some p := ⟨kvs[i], List.getElem?_eq_getElem hi⟩
    obtain ⟨en, q, hen, ekey, rval, hq⟩ := ent i k v hkv
    obtain ⟨ok, ov, he⟩ := st
    have hi2 : i < es'.size := by omega
    have een : es'[i] = en := by
      rw [Array.getElem?_eq_getElem hi2] at hen
      exact Option.some.inj hen
    rw [← hsz] at he
    have hlt : it < s.heap.objs.size := Heap.lt_size he
    refine DT.nextI he ⟨o, hgd, hx, hdt⟩ hi2 fun h' ho hT hz hk => ?_
    rw [een, ekey] at hT ho
    refine ⟨_, rfl, wpAny_letOwnedTupleGo_items (s := { s with heap := h' }) ho fun h'' he' sb => ?_⟩
    have hT2 : h''.get? s.heap.objs.size = some { cls := .type "tuple", data := .seq #[.ref q, en.val] } := (sb.2 _ (Nat.ne_of_gt hlt)).trans hT
    have new : ObjOk X.prog X.w (upd H s.heap.objs.size (.tup [.ref q, v])) h'' s.heap.objs.size (.tup [.ref q, v]) :=
      ⟨by show 2 ≤ sizeLine; decide, [.ref q, en.val], .cons rfl (.cons rval .nil), ⟨_, hT2, rfl, _, rfl⟩⟩
    have I1 : Inv X pins σ (upd H s.heap.objs.size (.tup [.ref q, v])) { s with heap := h'' } :=
      I.turnedNew (t' := s.toks) (ch := [it]) (fun b ob hb e => (sb.2 b (by simpa using hb)).trans (hk b ob (by simpa using hb) e)) hf (Nat.le_refl _) new
    refine ⟨.ref s.heap.objs.size, _, I1, rfl, ⟨_, q, k, v, hkv, rfl, I.hok.fresh (Nat.le_refl _), hq, rfl⟩, ⟨.ref q, en.val, ?_⟩, fun b hb => ?_⟩
    · rw [← hsz]; exact he'
    · have e : b = it := by simpa using hb
      rw [e, upd_ne (Nat.ne_of_lt hlt)]
      exact (hf it (by simp)).1
  done := by
    intro X hP hw hK hc i pins s σ H E I hf st hg
    subst hP hw hK
    obtain ⟨hd, hi⟩ := hg
    obtain ⟨f0, f1, f2, f3, f4, f5⟩ := hf it (by simp)
    obtain ⟨hs, hgd, hx, es', ep', hdt, hsz, ent⟩ := frzT2 I hd
    obtain ⟨rfl, rfl⟩ := dict_ep hod hdt
    obtain ⟨ok, ov, he⟩ := st
    rw [← hsz] at he
    exact DT.endI (I.ok.hd hc) he ⟨o, hgd, hx, hdt⟩ (by omega) fun h' eb => ⟨rfl, I.turned (t' := s.toks) (fun b ob hb e => eb b ob hb e) f0 f1 f3 f4 f5⟩
  self := fun A i s Q E st h => let ⟨_, _, e⟩ := st; self_items e h
end
def iItemsT (td : TE) : TI := fun σ H R => td σ H fun x H1 => ∃ d o kvs, x = .ref d ∧ H1 d = some (.frz o (.dT kvs)) ∧ R (ItT d o kvs) H1
theorem pi_itemsT {X : Cx} {e : Expr} {td : TE} {apos cpos : Pos} {elts : List Expr} {kk : Nat} {tpos : Pos} (he : PE X e td) (hbase : attributeBase e "items" X.env (eval e X.env) = eval e X.env := by rfl) (hline : (apos.endLine == cpos.line) = true := by rfl) :
    PI X (.Tuple elts kk tpos) (.Call (.Attribute e "items" apos) [] [] cpos) (iItemsT td) := by
  refine ⟨fun pins s σ H R I h => ?_⟩
  refine wpAny_Call_method (T := "dict") (id := "dict.items") hbase rfl hline F.plainAttrs_dict F.slot_dict_items F.type_dict_items (thn (he.run pins s σ H _ I h) fun u s1 ⟨x, H1, I1, rx, d, o, kvs, ex, hd, q⟩ => ?_)
  subst ex
  obtain rfl : u = Value.ref d := rx
  obtain ⟨hs, hgd, hx, es, ep, hdt, hsz, ent⟩ := frzT2 I1 hd
  have raw : DT.Raw s1.heap d es ep := ⟨o, hgd, hx, hdt⟩
  refine ⟨raw.typeIs, fun a ea => ?_, ?_⟩
  · cases ea
    exact ⟨o, hgd, hx.2.1⟩
  have I2 : Inv X pins σ H1 { s1 with heap := s1.heap.push { cls := .type "dict_items", data := .fields #[.ref d] } } := I1.kept (t' := s1.toks) fun b ob q => Heap.get?_push_of_some _ q
  have fin : wpAny (model X.prog X.w) X.A (pyIter (.ref s1.heap.objs.size)) (PIE X pins σ (.Tuple elts kk tpos) R) X.xe { s1 with heap := s1.heap.push { cls := .type "dict_items", data := .fields #[.ref d] } } := by
    refine DT.iterI (d := d) (es := es) (ep := ep) ⟨_, Heap.get?_push_size _ rfl, rfl, rfl⟩ (raw.push _) (pi_one (tk := s1.toks) I2 _ (turn_itemsT _ hdt) ⟨.none, .none, ?_⟩ q)
    rw [← hsz]
    exact Heap.get?_push_size _ rfl
  show wpAny _ _ (callWith cpos (.builtin "dict.items") [.ref d] [] []) _ X.xe s1
  exact method_meetsIn F.slot_dict_items F.entry_dict_items rfl (PySem.evalArgs_none ⟨rfl, raw.typeIs, F.args_dict_items_1 _, _, DT.meetsItems (es := es) (ep := ep) hs, raw, fin⟩)
end FW

set_option Elab.async false
set_option linter.all false
set_option maxRecDepth 100000
set_option maxHeartbeats 4000000
/-! loops over a locked dict -/
namespace FW
open PySem L2
section
mutual
theorem Kn.down {B B' : Hp} (ht : ∀ a vs, B a = some (.tup vs) → B' a = some (.tup vs)) (hl : ∀ a vs, B a = some (.lst vs) → B' a = some (.lst vs)) : ∀ {d : D} {v : V}, Kn B d v → pl d = true → Kn B' d v
  | _, _, .int i, _ => .int i
  | _, _, .bl b, _ => .bl b
  | _, _, .non, _ => .non
  | _, _, .cl n, _ => .cl n
  | _, _, .tup h hk, q => .tup (ht _ _ h) (KnL.down ht hl hk (by rw [pl] at q; exact q))
  | _, _, .lst h hk, q => .lst (hl _ _ h) (KnL.down ht hl hk (by rw [pl] at q; exact q))
  | _, _, .dk h, q => by rw [pl] at q; cases q
  | _, _, .dt h, q => by rw [pl] at q; cases q
  | _, _, .obj h, q => by rw [pl] at q; cases q
theorem KnL.down {B B' : Hp} (ht : ∀ a vs, B a = some (.tup vs) → B' a = some (.tup vs)) (hl : ∀ a vs, B a = some (.lst vs) → B' a = some (.lst vs)) : ∀ {ds : List D} {vs : List V}, KnL B ds vs → plL ds = true → KnL B' ds vs
  | _, _, .nil, _ => .nil
  | _, _, .cons h hk, q => by
    rw [plL, Bool.and_eq_true] at q
    exact .cons (Kn.down ht hl h q.1) (KnL.down ht hl hk q.2)
end
end
def plO : Ow → Bool
  | .l ds => plL ds
  | .dk _ => true
  | .dt _ => true
  | .ext _ => false
def plG : Gm → Bool
  | [] => true
  | none :: r => plG r
  | some d :: r => pl d && plG r
theorem plG_at : ∀ {Γ : Gm}, plG Γ = true → ∀ {j : Nat} {d : D}, Γ[j]? = some (some d) → pl d = true
  | [], _, j, d, e => by simp at e
  | none :: r, h, 0, d, e => by simp at e
  | none :: r, h, j + 1, d, e => plG_at (Γ := r) h (by simpa using e)
  | some x :: r, h, 0, d, e => by
    rw [plG, Bool.and_eq_true] at h
    simp at e; subst e; exact h.1
  | some x :: r, h, j + 1, d, e => by
    rw [plG, Bool.and_eq_true] at h
    exact plG_at (Γ := r) h.2 (by simpa using e)
section
variable {C : Ctx} {Γ Γ' : Gm} {M : Ows} {D : Ends}
/-- the same for, at one place, over what is walked there -/
theorem for_at {α : Type} {xs : List α} {enc : α → FW.D} {wi : TI} {g : TG} {tb : TS} {is : List Nat} (G : Nat → Gm) (Ms : Nat → Ows) (Gx : Nat → α → Gm) {σ : St} {B H : Hp} (a : AtB C Γ M σ B H)
    (hw : ∀ R : It → Hp → Prop, (∀ J B1 H1, Frm B H B1 H1 → Walk J xs.length (fun H' => Same B1 H' ∧ Same C.H0 H') (Yd (xs.map enc) B1) → R J H1) → wi σ H R) (h0 : Sub (G 0) Γ) (hM : Ms 0 = M)
    (hg : ∀ i x, xs[i]? = some x → GtG g (G i) (enc x) (Gx i x) is) (hdis : ∀ i, ∀ m ∈ Ms i, m.1 ∉ is)
    (hs : ∀ (Bl : Hp) (i : Nat) (x : α), xs[i]? = some x → Pn { C with Bl := Bl } (Gx i x) (Ms i) (tb { D with nx := AtM { C with Bl := Bl } (G (i + 1)) (Ms (i + 1)), ct := AtM { C with Bl := Bl } (G (i + 1)) (Ms (i + 1)), bk := D.nx }))
    (hd : ∀ σ H, AtM C (G xs.length) (Ms xs.length) σ H → D.nx σ H) : tFor wi g tb D σ H :=
  hw _ fun J B1 H1 f1 wk => by
    subst hM
    have hl : Same C.Bl B1 := a.low.trans f1.kb
    refine for_it wk (fun i σ' H' => AtM { C with Bl := B1 } (G i) (Ms i) σ' H') ⟨B1, ((a.step f1).sub h0).up (Same.refl _)⟩ (fun i σ' H' _ ⟨B', a'⟩ => ⟨a'.low.trans a'.frm.kh, a'.frm.hh⟩) ?_ fun σ' H' h => hd _ _ (h.low hl)
    rintro i x σ' H' H'' hlt ⟨B', a'⟩ y
    obtain ⟨B2, d, ed, f2, kd⟩ := y B' a'.low a'.frm.kh
    rw [List.getElem?_map, List.getElem?_eq_getElem hlt] at ed
    have ed : d = enc xs[i] := (Option.some.inj ed).symm
    subst ed
    have a2 := a'.step f2
    have hx := List.getElem?_eq_getElem hlt
    refine hg i _ hx σ' B2 x H'' _ a2.env a2.frm.kh kd fun σ3 en3 _ hsl => ?_
    refine hs B1 i _ hx σ3 H'' ⟨B2, a2.frm, a2.low, en3, ?_⟩
    obtain ⟨ps, o⟩ := a2.own
    exact ⟨ps, o.slots fun m hm => hsl _ (hdis i m hm)⟩
theorem OwL.all {B H B' H' : Hp} {σ : St} {C C' : Ctx} : ∀ {M : Ows} {ps : List Addr}, OwL C B σ H M ps → (∀ m ∈ M, plO m.2 = true) → (∀ p ∈ ps, C'.H0 p = none ∧ B' p = none ∧ H' p = H p) → (∀ {ds vs}, KnL B ds vs → plL ds = true → KnL B' ds vs) → OwL C' B' σ H' M ps
  | _, _, .nil, _, _, _ => .nil
  | _, _, .cons (o := o) h1 h2 h3 h4 h5 h6, hp, ha, hk => by
    obtain ⟨e1, e2, e3⟩ := ha _ List.mem_cons_self
    have hp0 := hp _ List.mem_cons_self
    refine .cons h1 e1 e2 ?_ h5 (OwL.all h6 (fun m hm => hp m (List.mem_cons_of_mem _ hm)) (fun p hp => ha p (List.mem_cons_of_mem _ hp)) hk)
    cases o with
    | l ds => obtain ⟨vs, e, k⟩ := h4; exact ⟨vs, e3.trans e, hk k hp0⟩
    | dk kvs => exact e3.trans h4
    | dt kvs => exact e3.trans h4
    | ext A => cases hp0
theorem OwL.all2 {B H B' H' : Hp} {σ : St} {C C' : Ctx} : ∀ {M : Ows} {ps : List Addr}, OwL C B σ H M ps → (∀ p ∈ ps, H p ≠ none → C.H0 p = none → B p = none → C'.H0 p = none ∧ B' p = none ∧ H' p = H p) → Same B B' → OwL C' B' σ H' M ps
  | _, _, .nil, _, _ => .nil
  | _, _, .cons h1 h2 h3 h4 h5 h6, ha, hk => by
    obtain ⟨e1, e2, e3⟩ := ha _ List.mem_cons_self h4.ne h2 h3
    exact .cons h1 e1 e2 (h4.mono hk e3) h5 (OwL.all2 h6 (fun p hp => ha p (List.mem_cons_of_mem _ hp)) hk)
theorem OwL.h0 {B H : Hp} {σ : St} {C : Ctx} : ∀ {M : Ows} {ps : List Addr}, OwL C B σ H M ps → ∀ p ∈ ps, C.H0 p = none ∧ B p = none
  | _, _, .nil, p, hp => by simp at hp
  | _, _, .cons h1 h2 h3 h4 h5 h6, p, hp => by
    rcases List.mem_cons.mp hp with rfl | hp
    · exact ⟨h2, h3⟩
    · exact OwL.h0 h6 p hp
theorem lock_gen {σ : St} {B H : Hp} {d : Addr} {u : HO} (a : AtB C Γ M σ B H) (hu : B d = some u) (hut : ∀ vs, u ≠ .tup vs) (hul : ∀ vs, u ≠ .lst vs) (s : Sub Γ' Γ) (hpl : plG Γ' = true) (hM : ∀ m ∈ M, plO m.2 = true) (od : Obj) :
    ∃ (C' : Ctx) (B' : Hp), AtB C' Γ' M σ B' (upd H d (.frz od u)) ∧ C'.H0 d = some (.frz od u) ∧ ∀ Γ2 M2 σ2 H2, AtM C' Γ2 M2 σ2 H2 → H2 d = some (.frz od u) ∧ AtM C Γ2 M2 σ2 (upd H2 d u) := by
  obtain ⟨ps, ow⟩ := a.own
  have hh0 := ow.h0
  have htr := ow.tracked
  have hHd : H d = some u := a.frm.kh _ _ hu
  have dps : d ∉ ps := fun z => by have := (hh0 d z).2; rw [hu] at this; cases this
  let Bm : Hp := fun x => if x = d then none else B x
  let Hl : Hp := upd H d (.frz od u)
  let H0 : Hp := fun x => if x ∈ ps then none else Hl x
  have Bd : Bm d = none := if_pos rfl
  have Bo : ∀ x, x ≠ d → Bm x = B x := fun x hx => if_neg hx
  have H0p : ∀ x, x ∈ ps → H0 x = none := fun x hx => if_pos hx
  have H0o : ∀ x, x ∉ ps → H0 x = Hl x := fun x hx => if_neg hx
  have Hld : Hl d = some (.frz od u) := upd_same
  have Hlo : ∀ x, x ≠ d → Hl x = H x := fun x hx => upd_ne hx
  have H0d : H0 d = some (.frz od u) := (H0o d dps).trans Hld
  have kdown : ∀ {ds vs}, KnL B ds vs → plL ds = true → KnL Bm ds vs := fun h q => h.down (fun x vs e => by
    rw [Bo x fun z => by rw [z, hu] at e; exact hut vs (Option.some.inj e)]; exact e) (fun x vs e => by
    rw [Bo x fun z => by rw [z, hu] at e; exact hul vs (Option.some.inj e)]; exact e) q
  have kdown1 : ∀ {d' v}, Kn B d' v → pl d' = true → Kn Bm d' v := fun h q => h.down (fun x vs e => by
    rw [Bo x fun z => by rw [z, hu] at e; exact hut vs (Option.some.inj e)]; exact e) (fun x vs e => by
    rw [Bo x fun z => by rw [z, hu] at e; exact hul vs (Option.some.inj e)]; exact e) q
  have sBH : Same Bm Hl := fun x o e => by
    have hx : x ≠ d := fun z => by rw [z, Bd] at e; cases e
    rw [Bo x hx] at e
    rw [Hlo x hx]
    exact a.frm.kh x o e
  have sH0 : Same H0 Hl := fun x o e => by
    have hx : x ∉ ps := fun z => by rw [H0p x z] at e; cases e
    rw [H0o x hx] at e; exact e
  refine ⟨⟨Bm, H0, Bm⟩, Bm, ⟨⟨Same.refl _, sBH, sH0, fun x h _ => h⟩, Same.refl _, ⟨(a.env.sub s).len, fun i d' e => ?_⟩, ps, ?_⟩, H0d, ?_⟩
  · obtain ⟨v, e1, k⟩ := (a.env.sub s).get i d' e
    exact ⟨v, e1, kdown1 k (plG_at hpl e)⟩
  · exact ow.all hM (fun p hp => ⟨H0p p hp, (by
      have : p ≠ d := fun z => dps (z ▸ hp)
      exact (Bo p this).trans (hh0 p hp).2), Hlo p fun z => dps (z ▸ hp)⟩) kdown
  · rintro Γ2 M2 σ2 H2 ⟨B2, a2⟩
    have fkb : Same Bm B2 := a2.frm.kb
    have fhh : Same H0 H2 := a2.frm.hh
    have fkh := a2.frm.kh
    have fhid : ∀ x, Bm x = none → Hi (H0 x) → B2 x = none := a2.frm.hid
    have H2d : H2 d = some (.frz od u) := fhh d _ H0d
    have B2d : B2 d = none := fhid d Bd (by rw [H0d]; trivial)
    refine ⟨H2d, ?_⟩
    let B3 : Hp := fun x => match B2 x with | some o => some o | none => B x
    have B3s : ∀ x o, B2 x = some o → B3 x = some o := fun x o e => by
      show (match B2 x with | some o => some o | none => B x) = some o
      rw [e]
    have B3n : ∀ x, B2 x = none → B3 x = B x := fun x e => by
      show (match B2 x with | some o => some o | none => B x) = B x
      rw [e]
    have sB : Same B B3 := fun x o e => by
      by_cases hx : x = d
      · subst hx; rw [B3n x B2d]; exact e
      · exact B3s x o (fkb x o ((Bo x hx).trans e))
    have H3d : upd H2 d u d = some u := upd_same
    have H3o : ∀ x, x ≠ d → upd H2 d u x = H2 x := fun x hx => upd_ne hx
    have hC0 : ∀ x o, C.H0 x = some o → x ∉ ps := fun x o e z => by rw [(hh0 x z).1] at e; cases e
    have kh3 : Same B3 (upd H2 d u) := fun x o e => by
      cases e2 : B2 x with
      | some o' =>
        rw [B3s x o' e2] at e
        cases e
        have hx : x ≠ d := fun z => by rw [z, B2d] at e2; cases e2
        rw [H3o x hx]
        exact fkh x _ e2
      | none =>
        rw [B3n x e2] at e
        by_cases hx : x = d
        · subst hx; rw [hu] at e; cases e; exact H3d
        · have := fkb x o ((Bo x hx).trans e)
          rw [e2] at this; cases this
    refine ⟨B3, ⟨a.frm.kb.trans sB, kh3, fun x o e => ?_, fun x h1 h2 => ?_⟩, a.low.trans sB, a2.env.mono B3s, ?_⟩
    · have e1 := a.frm.hh x o e
      by_cases hx : x = d
      · subst hx; rw [hHd] at e1; cases e1; exact H3d
      · rw [H3o x hx]
        exact fhh x o ((H0o x (hC0 x o e)).trans ((Hlo x hx).trans e1))
    · have hb := a.frm.hid x h1 h2
      have hx : x ≠ d := fun z => by rw [z, hu] at hb; cases hb
      cases e0 : C.H0 x with
      | none => rw [e0] at h2; exact h2.elim
      | some o =>
        have e1 := a.frm.hh x o e0
        have e2 : H0 x = some o := (H0o x (hC0 x o e0)).trans ((Hlo x hx).trans e1)
        rw [B3n x (fhid x ((Bo x hx).trans hb) (by rw [e2]; rw [e0] at h2; exact h2))]
        exact hb
    · obtain ⟨ps2, ow2⟩ := a2.own
      refine ⟨ps2, ow2.all2 (fun p _ hne hz hb => ?_) B3s⟩
      have hz : H0 p = none := hz
      have hpd : p ≠ d := fun z => by rw [z, H0d] at hz; cases hz
      have hCp : C.H0 p = none ∧ B p = none := by
        by_cases hp : p ∈ ps
        · exact hh0 p hp
        · rw [H0o p hp, Hlo p hpd] at hz
          exact ⟨a.frm.hh.free hz, a.frm.kh.free hz⟩
      exact ⟨hCp.1, (B3n p hb).trans hCp.2, H3o p hpd⟩
/-- for a, b in d.items(): -/
theorem p_items {kvs : List (Int × Int)} {i : Nat} {g : TG} {tb : TS} {is : List Nat} (hi : Γ[i]? = some (some (.dk kvs))) (s : Sub Γ' Γ) (hpl : plG Γ' = true) (hMp : ∀ m ∈ M, plO m.2 = true) (G : Nat → Gm) (Ms : Nat → Ows) (Gx : Nat → Int × Int → Gm)
    (h0 : Sub (G 0) Γ') (hM : Ms 0 = M) (hg : ∀ i x, kvs[i]? = some x → GtG g (G i) (.tup [.int x.1, .int x.2]) (Gx i x) is) (hdis : ∀ i, ∀ m ∈ Ms i, m.1 ∉ is)
    (hs : ∀ (C' : Ctx) (D' : Ends) (i : Nat) (x : Int × Int), kvs[i]? = some x → Pn C' (Gx i x) (Ms i) (tb { D' with nx := AtM C' (G (i + 1)) (Ms (i + 1)), ct := AtM C' (G (i + 1)) (Ms (i + 1)), bk := D'.nx }))
    (hd : Pn C (G kvs.length) (Ms kvs.length) D.nx) : Pn C Γ M (tLock (tFor (iItems (tVar i)) g tb) D) := fun σ H ⟨B, a⟩ => by
  obtain ⟨v, hv, kv⟩ := a.env.get i _ hi
  cases kv with
  | @dk d _ hb =>
    refine ⟨d, _, a.frm.kh _ _ hb, trivial, fun od => ?_⟩
    obtain ⟨C', B', a', hz, back⟩ := lock_gen (Γ' := Γ') a hb (fun _ z => nomatch z) (fun _ z => nomatch z) s hpl hMp od
    refine for_at (xs := kvs) (enc := fun x => .tup [.int x.1, .int x.2]) G Ms Gx a' (fun R q => ⟨.ref d, hv, d, od, _, rfl, upd_same, q _ B' _ (.refl a'.frm.kh) ?_⟩) h0 hM hg hdis (fun Bl i x hx => hs _ _ i x hx) fun σ2 H2 h2 => ?_
    · refine ⟨fun i H' hi s => ⟨s.2 _ _ hz, by rw [List.length_map]; exact hi⟩, fun H' s => ⟨s.2 _ _ hz, by rw [List.length_map]; exact Nat.le_refl _⟩, fun i H' x H2 hi s y => ?_⟩
      obtain ⟨T, k, w, hk, rfl, hT, rfl⟩ := y
      rw [List.getElem?_map] at hk
      have hx : kvs[i]? = some kvs[i] := List.getElem?_eq_getElem hi
      rw [hx] at hk
      have hk : ekv kvs[i] = (k, w) := Option.some.inj hk
      intro B1 h1 h2
      cases hk
      have fr := Frm.new (o := .tup [.int kvs[i].1, .int kvs[i].2]) h2 hT
      exact ⟨_, .tup [.int kvs[i].1, .int kvs[i].2], by rw [List.getElem?_map, hx]; rfl, fr, .tup upd_same (.cons (.int _) (.cons (.int _) .nil))⟩
    · obtain ⟨e, h3⟩ := back _ _ _ _ h2
      exact ⟨e, hd _ _ h3⟩
abbrev dTI (x : List Int × Int) : FW.D := .tup [.tup (x.1.map .int), .int x.2]
theorem p_itemsT {kvs : List (List Int × Int)} {i : Nat} {g : TG} {tb : TS} {is : List Nat} (hi : Γ[i]? = some (some (.dt kvs))) (s : Sub Γ' Γ) (hpl : plG Γ' = true) (hMp : ∀ m ∈ M, plO m.2 = true) (G : Nat → Gm) (Ms : Nat → Ows) (Gx : Nat → List Int × Int → Gm)
    (h0 : Sub (G 0) Γ') (hM : Ms 0 = M) (hg : ∀ i x, kvs[i]? = some x → GtG g (G i) (dTI x) (Gx i x) is) (hdis : ∀ i, ∀ m ∈ Ms i, m.1 ∉ is)
    (hs : ∀ (C' : Ctx) (D' : Ends) (i : Nat) (x : List Int × Int), kvs[i]? = some x → Pn C' (Gx i x) (Ms i) (tb { D' with nx := AtM C' (G (i + 1)) (Ms (i + 1)), ct := AtM C' (G (i + 1)) (Ms (i + 1)), bk := D'.nx }))
    (hd : Pn C (G kvs.length) (Ms kvs.length) D.nx) : Pn C Γ M (tLock (tFor (iItemsT (tVar i)) g tb) D) := fun σ H ⟨B, a⟩ => by
  obtain ⟨v, hv, kv⟩ := a.env.get i _ hi
  cases kv with
  | @dt d _ hb =>
    refine ⟨d, _, a.frm.kh _ _ hb, trivial, fun od => ?_⟩
    obtain ⟨C', B', a', hz, back⟩ := lock_gen (Γ' := Γ') a hb (fun _ z => nomatch z) (fun _ z => nomatch z) s hpl hMp od
    refine for_at (xs := kvs) (enc := dTI) G Ms Gx a' (fun R q => ⟨.ref d, hv, d, od, _, rfl, upd_same, q _ B' _ (.refl a'.frm.kh) ?_⟩) h0 hM hg hdis (fun Bl i x hx => hs _ _ i x hx) fun σ2 H2 h2 => ?_
    · refine ⟨fun i H' hi s => ⟨s.2 _ _ hz, by rw [List.length_map]; exact hi⟩, fun H' s => ⟨s.2 _ _ hz, by rw [List.length_map]; exact Nat.le_refl _⟩, fun i H' x H2 hi s y => ?_⟩
      obtain ⟨T, qa, k, w, hk, rfl, hT, hqa, rfl⟩ := y
      rw [List.getElem?_map] at hk
      have hx : kvs[i]? = some kvs[i] := List.getElem?_eq_getElem hi
      rw [hx] at hk
      have hk : etv kvs[i] = (k, w) := Option.some.inj hk
      intro B1 h1 h2
      cases hk
      have ek : ((kvs[i].1.map Sum.inl : List L2.Key).map kV) = kvs[i].1.map V.int := by rw [List.map_map]; rfl
      rw [ek] at hqa
      have hTq : qa ≠ T := fun z => by rw [z, hT] at hqa; cases hqa
      -- the key's tuple becomes known
      have s2 : Same (upd B1 qa (.tup (kvs[i].1.map V.int))) H' := fun x o e => by
        by_cases hx : x = qa
        · subst hx; rw [upd_same] at e; cases e; exact hqa
        · rw [upd_ne hx] at e; exact h2 x o e
      have fr1 : Frm B1 H' (upd B1 qa (.tup (kvs[i].1.map V.int))) H' := by
        refine ⟨fun x o e => ?_, s2, Same.refl _, fun x e1 e2 => ?_⟩
        · by_cases hx : x = qa
          · subst hx
            have e1 := h2 x o e
            rw [hqa] at e1
            cases e1
            exact upd_same
          · rw [upd_ne hx]; exact e
        · have hx : x ≠ qa := fun z => by rw [z, hqa] at e2; exact e2
          rw [upd_ne hx]; exact e1
      have fr := fr1.trans (Frm.new (o := .tup [.ref qa, .int kvs[i].2]) s2 hT)
      refine ⟨_, dTI kvs[i], by rw [List.getElem?_map, hx]; rfl, fr, .tup upd_same (.cons (.tup (vs := kvs[i].1.map V.int) ?_ ?_) (.cons (.int _) .nil))⟩
      · rw [upd_ne hTq, upd_same]
      · exact KnL.of_ints _
    · obtain ⟨e, h3⟩ := back _ _ _ _ h2
      exact ⟨e, hd _ _ h3⟩
end
end FW

set_option Elab.async false
set_option linter.all false
set_option maxRecDepth 100000
set_option maxHeartbeats 4000000
/-! a display with another dict laid out in it -/
namespace FW
open PySem L2 PySem.Spec PyProof.Rows
section
variable {prog : Program} {w : World} {K : Type} [DecidableEq K] {knd : KeyKind prog w K} {A : Around} {E : Value → Shared → Prop} {s : Shared}
theorem put_pairs {d : Addr} {kvs : List (K × Value)} {k : K} {key v : Value} {Q : Unit → Shared → Prop} (hkey : knd.is k key = true) (hm : s.heap.DictOf knd d kvs)
    (hQ : ∀ h', h'.DictOf knd d (stored kvs k v) → Heap.SameBut d s.heap h' → Q () { s with heap := h' }) (hsz : kvs.length ≤ sizeLine) :
    wpAny (model prog w) A (dictPut d (knd.hash k) key v) Q E s := by
  obtain ⟨o, es, ep, ho, hc, hd, hk, hp, hn⟩ := hm
  have hes : es.size ≤ sizeLine := by
    have e1 := hp.length
    have e2 : es.toList.length = es.size := by simp
    omega
  unfold dictPut
  refine wpAny_bind (wpAny_dictFind_of hkey ho hd hk ?_)
  have hidx : (es.findIdx? fun e => knd.is k e.key) = kvs.findIdx? fun kv => decide (kv.1 = k) := by
    rw [← hp.findIdx k]; obtain ⟨l⟩ := es; simp
  cases hi : es.findIdx? fun e => knd.is k e.key with
  | some i =>
    refine (wpAny_updateDict ho hd (hQ _ ⟨_, _, ep, Heap.get?_update_self _ ho (Obj.isFreed_of_dict (Obj.data_mapDict hd _)),
      hc.mapDict _, Obj.data_mapDict hd _, hk.modify _ _, ?_, ?_⟩ (Heap.SameBut.update ..)))
    · rw [stored, if_pos (any_of_findIdx_some (hidx ▸ hi))]
      have hl : (es.toList.findIdx? fun e => knd.is k e.key) = some i := by rw [← hi]; obtain ⟨l⟩ := es; simp
      have := hp.modify hn hl v
      obtain ⟨l⟩ := es
      simpa using this
    · rw [stored, if_pos (any_of_findIdx_some (hidx ▸ hi)), keys_map_store]; exact hn
  | none =>
    have hnot : k ∉ kvs.map (·.1) := not_mem_of_findIdx_none (hidx ▸ hi)
    have hany : ¬ (kvs.any fun kv => decide (kv.1 = k)) = true := by
      rw [List.any_eq_true]; rintro ⟨kv, hkv, he⟩
      exact hnot (List.mem_map.mpr ⟨kv, hkv, of_decide_eq_true he⟩)
    refine (wpAny_updateDictKeys (hz := hes) ho hd (hQ _ ⟨_, _, ep + 1, Heap.get?_update_self _ ho (Obj.isFreed_of_dict (Obj.data_mapDictKeys hd _)),
      hc.mapDictKeys _, Obj.data_mapDictKeys hd _, hk.push hkey _, ?_, ?_⟩ (Heap.SameBut.update ..)))
    · rw [stored, if_neg hany]
      have := hp.append hkey (knd.hash k) v
      obtain ⟨l⟩ := es
      simpa using this
    · rw [stored, if_neg hany, List.map_append, List.nodup_append]
      refine ⟨hn, by simp, ?_⟩
      intro a ha b hb
      simp only [List.map_cons, List.map_nil, List.mem_singleton] at hb
      subst hb
      exact fun e => hnot (e ▸ ha)
theorem forIn_same {α : Type} {l : List α} {f : α → PUnit → Sem (ForInStep PUnit)} {Q : PUnit → Shared → Prop} (hf : ∀ x ∈ l, f x PUnit.unit = pure (.yield PUnit.unit)) (h : Q PUnit.unit s) : wpAny (model prog w) A (forIn l PUnit.unit f) Q E s := by
  induction l with
  | nil => rw [List.forIn_nil]; exact wpAny_pure h
  | cons x l ih =>
    rw [List.forIn_cons, hf x (by simp), pure_bind]
    exact ih fun y hy => hf y (List.mem_cons_of_mem _ hy)
theorem merge_map {d o : Addr} {kvs more : List (K × Value)} {Q : Unit → Shared → Prop} (hdo : d ≠ o) (hoS : (o == sysModules) = false) (nr : ∀ k key, knd.is k key = true → ∀ a, key ≠ .ref a)
    (hd : s.heap.DictOf knd d kvs) (ho : s.heap.DictOf knd o more) (hQ : ∀ h', h'.DictOf knd d (merged kvs more) → Heap.SameBut d s.heap h' → Q () { s with heap := h' }) (hsz : kvs.length + more.length ≤ sizeLine) :
    wpAny (model prog w) A (mergeMapping d (.ref o) false) Q E s := by
  obtain ⟨od, esd, epd, hod, hcd, hdd, hkd, hpd, hnd⟩ := id hd
  obtain ⟨oo, eso, epo, hoo, hco, hdo', hko, hpo, hno⟩ := id ho
  have hlen : more.length = eso.size := by rw [← hpo.length]; simp
  have esl : eso.size ≤ sizeLine := by omega
  have rest : wpAny (model prog w) A (do
      let es ← dictEntries o
      let size := es.size
      let epoch ← dictEpoch o
      forIn (List.range size) PUnit.unit fun i (_ : PUnit) => (do
          let l' ← dictEntries o
          match l'[i]? with
            | some e => do
              holding [e.key, e.val] (dictPut d e.hash e.key e.val)
              let ep' ← dictEpoch o
              if (ep' != epoch) = true then do
                  (unsupported "dict.changed-during-merge" : Sem PUnit)
                  pure (ForInStep.yield PUnit.unit)
                else pure (ForInStep.yield PUnit.unit)
            | _ => do
              (unsupported "dict.changed-during-merge" : Sem PUnit)
              pure (ForInStep.yield PUnit.unit) : Sem (ForInStep PUnit))
      pure ()) Q E s := by
    refine wpAny_bind (wpAny_dictEntries hoo hdo' ?_)
    refine wpAny_bind (wpAny_dictEpoch hoo hdo' ?_)
    refine wpAny_bind ?_
    rw [List.range_eq_range']
    refine wpAny_forIn_list _
      (fun rest _ s' => ∃ h' i, s' = { s with heap := h' } ∧ rest = List.range' i (eso.size - i) ∧ i ≤ eso.size ∧ h'.DictOf knd d (merged kvs (more.take i)) ∧ h'.get? o = some oo ∧ Heap.SameBut d s.heap h')
      _ ?_ ?_ _ _ ⟨s.heap, 0, rfl, by simp, Nat.zero_le _, by simpa [merged] using hd, hoo, Heap.SameBut.refl _ _⟩
    · rintro x rest b s' ⟨h', i, rfl, hr, hi, hd', hoo', hs'⟩
      have hlt : i < eso.size := by
        rcases Nat.lt_or_ge i eso.size with h | h
        · exact h
        · rw [Nat.sub_eq_zero_of_le h] at hr; simp at hr
      obtain ⟨rfl, hrest⟩ : x = i ∧ rest = List.range' (i + 1) (eso.size - (i + 1)) := by
        have e : eso.size - i = (eso.size - (i + 1)) + 1 := by omega
        rw [e, List.range'_succ] at hr
        injection hr with h1 h2
        exact ⟨h1, h2⟩
      refine wpAny_bind (wpAny_dictEntries hoo' hdo' ?_)
      rw [Array.getElem?_eq_getElem hlt]
      obtain ⟨kv, hkv⟩ : ∃ kv, more[x]? = some kv := ⟨more[x]'(by rw [hlen]; exact hlt), List.getElem?_eq_getElem _⟩
      obtain ⟨k, v⟩ := kv
      obtain ⟨hkey, hval⟩ := hpo.get? (e := eso[x]) (by simp [hlt]) hkv
      obtain ⟨k', hkey', hhash⟩ := hko eso[x] (Array.getElem_mem hlt)
      obtain rfl : k' = k := knd.inj _ _ _ hkey' hkey
      show wpAny _ _ (holding [eso[x].key, eso[x].val] (dictPut d eso[x].hash eso[x].key eso[x].val) >>= _) _ _ _
      rw [hhash, hval]
      have hmx : (merged kvs (more.take x)).length ≤ sizeLine := by
        have e1 := merged_length_le kvs (more.take x)
        have e2 : (more.take x).length ≤ more.length := by rw [List.length_take]; omega
        omega
      refine wpAny_bind (wpAny_holding (put_pairs (hsz := hmx) hkey hd' fun h'' hd'' hs'' => ?_))
      have hoo'' : h''.get? o = some oo := (hs''.2 o (Ne.symm hdo)).trans hoo'
      refine wpAny_bind (wpAny_dictEpoch hoo'' hdo' ?_)
      rw [if_neg (by simp)]
      exact wpAny_pure ⟨h'', x + 1, rfl, hrest, hlt, by rw [merged_take_succ kvs more x (k', v) hkv]; exact hd'', hoo'', hs'.trans hs''⟩
    · rintro b s' ⟨h', i, rfl, hr, hi, hd', hoo', hs'⟩
      have hin : i = eso.size := by
        rcases Nat.lt_or_ge i eso.size with h | h
        · have e : eso.size - i = (eso.size - (i + 1)) + 1 := by omega
          rw [e, List.range'_succ] at hr; exact nomatch hr
        · exact Nat.le_antisymm hi h
      refine wpAny_pure (hQ h' ?_ hs')
      rw [hin, ← hlen, List.take_length] at hd'; exact hd'
  unfold mergeMapping
  refine wpAny_bind (wpAny_isInstance ho.typeIs isSubtype_dict_dict ?_)
  rw [if_pos rfl]
  refine wpAny_bind (wpAny_specialOf ho.typeIs F.slot_dict_iter.lookup (wpAny_bind (wpAny_pure ?_)))
  rw [beq_self_eq_true]
  dsimp only
  rw [hoS]
  rw [if_neg Bool.false_ne_true]
  refine wpAny_bind (wpAny_dictEntries hod hdd ?_)
  split
  · refine wpAny_bind (wpAny_dictEntries hoo hdo' (wpAny_bind ?_))
    rw [← Array.forIn_toList]
    refine forIn_same (fun e he => ?_) rest
    obtain ⟨k, hkey, _⟩ := hko e (Array.mem_toList_iff.mp he)
    have := nr k e.key hkey
    revert this
    cases e.key <;> intro nr <;> first | rfl | exact absurd rfl (nr _)
  · exact rest
end
end FW

set_option Elab.async false
set_option linter.all false
set_option maxRecDepth 100000
set_option maxHeartbeats 4000000
namespace FW
open PySem L2 PySem.Spec PyProof.Rows
def tStarD (tm tk tv : TE) : TE := fun σ H Q => ∀ p, H p = none → tm σ (upd H p (.dK [])) fun x H1 => H1 p = some (.dK []) ∧ ∃ a kvs, x = .ref a ∧ a ≠ p ∧ H1 a = some (.dK kvs) ∧ kvs.length ≤ 1000 ∧
  ∀ q, upd H1 p (.dK kvs) q = none → tk σ (upd (upd H1 p (.dK kvs)) q (.dK [])) fun y H2 => tv σ H2 fun z H3 => H3 p = some (.dK kvs) ∧ H3 q = some (.dK []) ∧ ∃ k, y = kV k ∧ Q (.ref p) (upd (upd H3 q (.dK [(k, z)])) p (.dK (putK kvs k z)))
section
variable {X : Cx} {kx mx vx : Expr} {pos : Pos} {tm tk tv : TE}
theorem pe_starD (hm : PE X mx tm) (hk : PE X kx tk) (hv : PE X vx tv) : PE X (.Dict [none, some kx] [mx, vx] pos) (tStarD tm tk tv) := by
  refine ⟨fun pins s σ H Q I h => ?_⟩
  rw [arm_eval_Dict]
  refine wpAny_bind (wpAny_standAt ?_)
  have shape : ((evalEachOpt [none, some kx] X.env).zip ((evalEach [mx, vx] X.env).map fun v => do let x ← v; standAt pos; pure x)) = [(none, do let x ← eval mx X.env; standAt pos; pure x), (some (eval kx X.env), do let x ← eval vx X.env; standAt pos; pure x)] := rfl
  rw [shape]
  unfold dictDisplay
  dsimp only
  rw [List.forIn_cons]
  refine wpAny_bind ?_
  dsimp only
  rw [if_pos (show ([] : List (Sem Value × Sem Value)).isEmpty = true from rfl)]
  refine wpAny_bind (wpAny_bind (wpAny_pure ?_))
  dsimp only
  have hn := I.hok.fresh (Nat.le_refl s.heap.objs.size)
  have I1 := I.laid (a := s.heap.objs.size) (o := .dK []) (h' := s.heap.push { cls := .type "dict", data := .dict #[] }) (t' := s.toks) (fun _ _ q => Heap.get?_push_of_some _ q) (Nat.le_refl _) (dk_empty s.heap I.big)
  refine wpAny_bind (wpAny_alloc ?_)
  refine wpAny_bind (wpAny_holding (wpAny_bind (thn (hm.run pins _ σ _ _ I1 (h _ hn)) fun u s1 ⟨x, H1, I2, rx, e1, a, kvs, ex, hap, ha, hl, q⟩ => wpAny_bind (wpAny_standAt (wpAny_pure ?_)))))
  subst ex
  obtain rfl : u = Value.ref a := rx
  obtain ⟨z1, hd1, vs0, r0, dd0⟩ := dk_of I2.hok e1
  cases r0
  obtain ⟨za, hda, vsa, ra, dda⟩ := dk_of I2.hok ha
  have la : kvs.length = vsa.length := Paired.length ra
  have nr : ∀ (k : L2.Key) (key : Value), (mixKind X.prog X.w).is k key = true → ∀ b, key ≠ .ref b := fun k key hk b e => by
    rcases keyIs_shape (show keyIs k key = true from hk) with ⟨i, t, _, e2⟩ | ⟨i, t, _, e2⟩ <;> (rw [e2] at e; cases e)
  have nda : (vsa.map (·.1)).Nodup := by obtain ⟨_, _, _, _, _, _, _, _, nd⟩ := dda; exact nd
  refine wpAny_bind (wpAny_onRaise (wpAny_tryCatch (wpAny_onRaise (wpAny_holding (merge_map (knd := mixKind X.prog X.w) (Ne.symm hap) hda nr dd0 dda (fun h' dd' sb => ?_) (by rw [sizeLine_eq]; simp; omega))))))
  rw [merged_nil_of_nodup vsa nda] at dd'
  have he : ∃ q, h'.get? s.heap.objs.size = some q := let ⟨q, _, _, hq, _⟩ := dd'; ⟨q, hq⟩
  have I3 : Inv X pins σ (upd H1 s.heap.objs.size (.dK kvs)) { s1 with heap := h' } := d_write (t' := s1.toks) I2 (by rw [e1]; exact True.intro) sb he (dk_new (by rw [la] at za; rw [la]; exact za) hd1 ra dd')
  refine wpAny_pure ?_
  dsimp only
  rw [List.forIn_cons]
  refine wpAny_bind ?_
  dsimp only
  rw [if_neg (by simp)]
  refine wpAny_pure ?_
  dsimp only
  rw [List.forIn_nil]
  refine wpAny_pure ?_
  dsimp only
  rw [if_neg (by simp)]
  generalize s.heap.objs.size = p at *
  have hn2 := I3.hok.fresh (Nat.le_refl h'.objs.size)
  have I4 := I3.laid (a := h'.objs.size) (o := .dK []) (h' := h'.push { cls := .type "dict", data := .dict #[] }) (t' := s1.toks) (fun _ _ q => Heap.get?_push_of_some _ q) (Nat.le_refl _) (dk_empty h' I3.big)
  have hpq : p ≠ h'.objs.size := fun z => by
    obtain ⟨o, ho⟩ := he
    have := Heap.lt_size ho
    rw [z] at this
    exact Nat.lt_irrefl _ this
  refine wpAny_bind (wpAny_bind (wpAny_holding (wpAny_subDict (knd := mixKind X.prog X.w) (by simp) ?_)))
  refine evalPairs_cons (thn (hk.run pins _ σ _ _ I4 (q _ hn2)) fun ku s2 ⟨y, H2, I5, ry, q2⟩ => wpAny_bind (thn (hv.run pins s2 σ H2 _ I5 q2) fun vu s3 ⟨z, H3, I6, rz, ep3, eq3, k, ey, q3⟩ => wpAny_bind (wpAny_standAt (wpAny_pure (evalPairs_nil ?_)))))
  subst ey
  dsimp only at ep3 eq3 q3 ⊢
  generalize h'.objs.size = r at *
  obtain ⟨z4, hd4, vs4, r4, dd4⟩ := dk_of I6.hok eq3
  cases r4
  refine ⟨[(k, vu)], ⟨kV_is ry, rfl, trivial⟩, dd4, fun h3 dd3 sb3 => ?_⟩
  have he3 : ∃ q, h3.get? r = some q := let ⟨q, _, _, hq, _⟩ := dd3; ⟨q, hq⟩
  have I7 : Inv X pins σ (upd H3 r (.dK [(k, z)])) { s3 with heap := h3, toks := s3.toks + 1 } := d_write (t' := s3.toks + 1) I6 (by rw [eq3]; exact True.intro) sb3 he3 (dk_new (by rw [sizeLine_eq]; simp) hd4 (.cons ⟨rfl, rz⟩ .nil) dd3)
  have ep4 : (upd H3 r (.dK [(k, z)])) p = some (.dK kvs) := (upd_ne hpq).trans ep3
  obtain ⟨z5, hd5, vs5, r5, dd5⟩ := dk_of I7.hok ep4
  have l5 : kvs.length = vs5.length := Paired.length r5
  refine wpAny_bind (wpAny_onRaise (wpAny_holding (merge_map (knd := mixKind X.prog X.w) hpq hd4 nr dd5 dd3 (fun h4 dd6 sb4 => ?_) (by rw [sizeLine_eq]; show vs5.length + 1 ≤ _; omega))))
  have he4 : ∃ q, h4.get? p = some q := let ⟨q, _, _, hq, _⟩ := dd6; ⟨q, hq⟩
  have rel6 : KV (putK kvs k z) (merged vs5 [(k, vu)]) := r5.put k rz
  have I8 : Inv X pins σ (upd (upd H3 r (.dK [(k, z)])) p (.dK (putK kvs k z))) { s3 with heap := h4, toks := s3.toks + 1 } := d_write (s := { s3 with heap := h3, toks := s3.toks + 1 }) (t' := s3.toks + 1) I7 (by rw [ep4]; exact True.intro) sb4 he4 (dk_new (by
    have := length_putK kvs k z
    rw [sizeLine_eq]; omega) hd5 rel6 dd6)
  exact wpAny_pure (wpAny_pure ⟨.ref p, _, I8, rfl, q3⟩)
end
end FW

set_option Elab.async false
set_option linter.all false
set_option maxRecDepth 100000
set_option maxHeartbeats 4000000
namespace FW
open PySem L2
theorem hi_keep {H H' : Hp} (h : Same H H') {a : Addr} (e : Hi (H a)) : Hi (H' a) := by
  cases q : H a with
  | none => rw [q] at e; exact e.elim
  | some o => rw [q] at e; rw [h a o q]; exact e
theorem hi_ne {H : Hp} {a : Addr} (e : Hi (H a)) : H a ≠ none := fun z => by rw [z] at e; exact e
section
variable {Γ : Gm} {tm tk tv : TE}
theorem g_starD {k : List (Nat × Nat)} {t p : Nat} (hm : EvG tm Γ (dK k)) (hk : EvG tk Γ (dN t)) (hv : EvG tv Γ (dN p)) (hl : k.length ≤ 1000) (hn : (k.any fun kv => decide (kv.1 = t)) = false) : EvG (tStarD tm tk tv) Γ (dK (k ++ [(t, p)])) := fun σ B en H Q hs q => fun a0 ha0 => by
  have s0 : Same H (upd H a0 (.dK [])) := same_new ha0
  refine hm σ B en _ _ (hs.trans s0) fun x B1 H1 f1 k1 => ?_
  have h1 : H1 a0 = some (.dK []) := f1.hh _ _ upd_same
  have b1 : B1 a0 = none := f1.hid _ (hs.free ha0) (by rw [upd_same]; trivial)
  cases k1 with
  | @dk a _ hb =>
    have hap : a ≠ a0 := fun z => by rw [z, b1] at hb; cases hb
    refine ⟨h1, a, _, rfl, hap, f1.kh _ _ hb, by rw [List.length_map, List.length_map]; exact hl, fun q0 hq0 => ?_⟩
    generalize eks : (iK k).map ekv = ks at *
    have s1 : Same B1 (upd H1 a0 (.dK ks)) := same_mut f1.kh b1
    have s2 : Same (upd H1 a0 (.dK ks)) (upd (upd H1 a0 (.dK ks)) q0 (.dK [])) := same_new hq0
    have b1q : B1 q0 = none := s1.free hq0
    refine hk σ B1 (en.mono f1.kb) _ _ (s1.trans s2) fun y B2 H2 f2 k2 => hv σ B2 (en.mono (f1.kb.trans f2.kb)) _ _ f2.kh fun z B3 H3 f3 k3 => ?_
    cases k2
    cases k3
    have f23 := f2.trans f3
    have h3p : H3 a0 = some (.dK ks) := f23.hh _ _ (s2 _ _ upd_same)
    have h3q : H3 q0 = some (.dK []) := f23.hh _ _ upd_same
    have b3p : B3 a0 = none := f23.hid _ b1 (by
      have := s2 a0 _ upd_same
      rw [this]; trivial)
    have b3q : B3 q0 = none := f23.hid _ b1q (by rw [upd_same]; trivial)
    have npq : a0 ≠ q0 := fun z => by rw [z, h3q] at h3p; rw [z, upd_same] at hq0; cases hq0
    refine ⟨h3p, h3q, Sum.inl (t : Int), rfl, ?_⟩
    have ep : putK ks (Sum.inl (t : Int) : L2.Key) (.int (p : Int)) = (iK (k ++ [(t, p)])).map ekv := by
      rw [← eks, putK_dk, put_iK hn]
    rw [ep]
    refine q _ (upd B3 a0 (.dK ((iK (k ++ [(t, p)])).map ekv))) _ ⟨?_, ?_, ?_, ?_⟩ (.dk upd_same)
    · exact (f1.kb.trans f23.kb).trans (same_new b3p)
    · intro x o e
      by_cases hx : x = a0
      · subst hx; rw [upd_same] at e ⊢; exact e
      · rw [upd_ne hx] at e ⊢
        have hxq : x ≠ q0 := fun z => by rw [z, b3q] at e; cases e
        rw [upd_ne hxq]
        exact f23.kh x o e
    · intro x o e
      have hx : x ≠ a0 := fun z => by rw [z, ha0] at e; cases e
      have e1 : H1 x = some o := f1.hh x o ((upd_ne hx).trans e)
      have e2 : upd H1 a0 (.dK ks) x = some o := (upd_ne hx).trans e1
      have hxq : x ≠ q0 := fun z => by rw [z, hq0] at e2; cases e2
      rw [upd_ne hx, upd_ne hxq]
      exact f23.hh x o (s2 x o e2)
    · intro x e1 e2
      have hx : x ≠ a0 := fun z => by rw [z, ha0] at e2; exact e2
      have e3 : Hi (upd H a0 (.dK []) x) := by rw [upd_ne hx]; exact e2
      have c1 : B1 x = none := f1.hid x e1 e3
      have e4 := hi_keep f1.hh e3
      have e5 : Hi (upd H1 a0 (.dK ks) x) := by rw [upd_ne hx]; exact e4
      rw [upd_ne hx]
      exact f23.hid x c1 (hi_keep s2 e5)
end
end FW

set_option Elab.async false
set_option linter.all false
set_option maxRecDepth 100000
set_option maxHeartbeats 4000000
/-! dicts whose keys are hands: a tuple of tuples of numbers -/
namespace FW
open PySem L2 PySem.Spec PyProof.Rows
abbrev Hss := List (List Nat)
def keyT (h : List Nat) : NestedKey := .tup (h.map fun (t : Nat) => .num (t : Int))
def keyH (hs : Hss) : NestedKey := .tup (hs.map keyT)
theorem num_inj : ∀ {a b : List Nat}, (a.map fun (t : Nat) => NestedKey.num (t : Int)) = (b.map fun (t : Nat) => NestedKey.num (t : Int)) → a = b
  | [], [], _ => rfl
  | [], _ :: _, h => by simp at h
  | _ :: _, [], h => by simp at h
  | x :: a, y :: b, h => by
    rw [List.map_cons, List.map_cons] at h
    have h1 := (List.cons.inj h).1
    have h2 := (List.cons.inj h).2
    have h3 : (x : Int) = (y : Int) := NestedKey.num.inj h1
    rw [num_inj h2, show x = y by omega]
theorem keyT_inj {a b : List Nat} (h : keyT a = keyT b) : a = b := num_inj (NestedKey.tup.inj h)
theorem mapT_inj : ∀ {a b : Hss}, a.map keyT = b.map keyT → a = b
  | [], [], _ => rfl
  | [], _ :: _, h => by simp at h
  | _ :: _, [], h => by simp at h
  | x :: a, y :: b, h => by
    rw [List.map_cons, List.map_cons] at h
    rw [keyT_inj (List.cons.inj h).1, mapT_inj (List.cons.inj h).2]
theorem keyH_inj {a b : Hss} (h : keyH a = keyH b) : a = b := mapT_inj (NestedKey.tup.inj h)
theorem keyT_depth (h : List Nat) : (keyT h).depth ≤ 1 := by
  unfold keyT
  rw [NestedKey.depth]
  have : ∀ l : List Nat, NestedKey.depthAll (l.map fun (t : Nat) => NestedKey.num (t : Int)) = 0 := fun l => by
    induction l with
    | nil => rw [List.map_nil, NestedKey.depthAll]
    | cons x l ih => rw [List.map_cons, NestedKey.depthAll, NestedKey.depth, ih]; rfl
  rw [this]
  omega
theorem keyH_depth (hs : Hss) : (keyH hs).depth ≤ 8 := by
  unfold keyH
  rw [NestedKey.depth]
  have : ∀ l : Hss, NestedKey.depthAll (l.map keyT) ≤ 1 := fun l => by
    induction l with
    | nil => rw [List.map_nil, NestedKey.depthAll]; omega
    | cons x l ih =>
      rw [List.map_cons, NestedKey.depthAll]
      have := keyT_depth x
      omega
  have := this hs
  omega
abbrev NX := List (Hss × Addr)
def entN (x : Hss × Addr) : NestedKey × Addr × Value := (keyH x.1, x.2, .bool true)
def NKo (P : Program) (w : World) (p : Addr) (xs : NX) : HO := .ext fun h => (p == sysModules) = false ∧ ∃ o es ep, h.get? p = some o ∧ o.ExactDict ∧ o.data = .dict es ep ∧ es.toList = (xs.map entN).map (entryOfKey (nestedKind P w)) ∧ ((xs.map entN).map (·.1)).Nodup
theorem nko_ok {P : Program} {w : World} {H : Hp} {h : Heap} {p : Addr} {xs : NX} (hs : (p == sysModules) = false) {o : Obj} {es : Array DictEntry} {ep : Nat} (h1 : h.get? p = some o) (h2 : o.ExactDict) (h3 : o.data = .dict es ep) (h4 : es.toList = (xs.map entN).map (entryOfKey (nestedKind P w))) (h5 : ((xs.map entN).map (·.1)).Nodup) :
    ObjOk P w H h p (NKo P w p xs) :=
  ⟨⟨hs, o, es, ep, h1, h2, h3, h4, h5⟩, ⟨o, h1⟩, fun a b ⟨z, o, es, ep, g1, g⟩ k => ⟨z, o, es, ep, k o g1, g⟩⟩
section
variable {X : Cx} {pins : List (Addr × Obj)} {σ : L2.St} {H : Hp} {s : Shared}
theorem nested_ints : ∀ {ns : List Nat} {vs : List V} {us : List Value} {h : Heap}, KnL H (ns.map dN) vs → Vals vs us → NestedAll h (ns.map fun (t : Nat) => NestedKey.num (t : Int)) us
  | [], _, _, _, k, r => by
    have k : KnL H [] _ := k
    cases k
    cases r
    exact .nil
  | n :: ns, _, _, _, k, r => by
    have k : KnL H (dN n :: ns.map dN) _ := k
    cases k with
    | cons k1 k2 =>
      cases k1
      cases r with
      | cons r1 r2 =>
        obtain ⟨t, e⟩ := r1
        subst e
        exact .cons (.int _ _) (nested_ints k2 r2)
theorem nested_T (I : Inv X pins σ H s) {h : List Nat} {v : V} {u : Value} (k : Kn H (dT h) v) (r : RelV v u) : NestedIs s.heap (keyT h) u := by
  have k : Kn H (.tup (h.map dN)) v := k
  cases k with
  | tup hb hl =>
    cases r
    obtain ⟨_, its, rv, o, ho, hc, n, hd⟩ := I.hok _ _ hb
    exact .tup ho hc hd (nested_ints hl rv)
theorem nested_Ts (I : Inv X pins σ H s) : ∀ {hs : Hss} {vs : List V} {us : List Value}, KnL H (hs.map dT) vs → Vals vs us → NestedAll s.heap (hs.map keyT) us
  | [], _, _, k, r => by
    have k : KnL H [] _ := k
    cases k
    cases r
    exact .nil
  | h :: hs, _, _, k, r => by
    have k : KnL H (dT h :: hs.map dT) _ := k
    cases k with
    | cons k1 k2 =>
      cases r with
      | cons r1 r2 => exact .cons (nested_T I k1 r1) (nested_Ts I k2 r2)
theorem nested_H (I : Inv X pins σ H s) {hs : Hss} {b : Addr} (k : Kn H (dH hs) (.ref b)) : (nestedKind X.prog X.w).is s.heap (keyH hs) b := by
  have k : Kn H (.tup (hs.map dT)) (.ref b) := k
  cases k with
  | tup hb hl =>
    obtain ⟨_, its, rv, o, ho, hc, n, hd⟩ := I.hok _ _ hb
    exact ⟨.tup ho hc hd (nested_Ts I hl rv), keyH_depth hs⟩
theorem nko_at (I : Inv X pins σ H s) {p : Addr} {xs : NX} (hp : H p = some (NKo X.prog X.w p xs)) (hk : ∀ z ∈ xs, Kn H (dH z.1) (.ref z.2)) : (p == sysModules) = false ∧ s.heap.DictOfH (nestedKind X.prog X.w) p (xs.map entN) := by
  obtain ⟨⟨hs, o, es, ep, h1, h2, h3, h4, h5⟩, _, _⟩ := I.hok _ _ hp
  refine ⟨hs, o, es, ep, h1, h2, h3, h4, fun x hx => ?_, h5⟩
  obtain ⟨z, hz, rfl⟩ := List.mem_map.mp hx
  exact nested_H I (hk z hz)
theorem look_nko (hs : Hss) : ∀ xs : NX, (valueAt (pairsH (xs.map entN)) (keyH hs)).isSome = (xs.map (·.1)).contains hs
  | [] => rfl
  | x :: xs => by
    have ih := look_nko hs xs
    unfold valueAt pairsH at ih ⊢
    rw [List.map_cons, List.map_cons, List.find?_cons, List.map_cons, List.contains_cons]
    by_cases h : x.1 = hs
    · have e : decide ((entN x).1 = keyH hs) = true := decide_eq_true (by rw [← h]; rfl)
      have e2 : (hs == x.1) = true := by rw [h]; simp
      rw [e2]
      show (Option.map _ (match decide ((entN x).1 = keyH hs) with | true => _ | false => _)).isSome = _
      rw [e]; rfl
    · have e : decide ((entN x).1 = keyH hs) = false := decide_eq_false fun z => h (keyH_inj z)
      have e2 : (hs == x.1) = false := by simp; exact fun z => h z.symm
      rw [e2, Bool.false_or, ← ih]
      show (Option.map _ (match decide ((entN x).1 = keyH hs) with | true => _ | false => _)).isSome = _
      rw [e]
end
def rNiN (P : Program) (w : World) : R2 := fun x y H Q => ∃ b p hs xs, x = .ref b ∧ y = .ref p ∧ H p = some (NKo P w p xs) ∧ Kn H (dH hs) (.ref b) ∧ (∀ z ∈ xs, Kn H (dH z.1) (.ref z.2)) ∧ Q (.bl (!(xs.map (·.1)).contains hs)) H
theorem op_niN {X : Cx} (hu : X.A.units + 64 < cLine) : OpR X (compareOp .NotIn) (rNiN X.prog X.w) := by
  intro pins s σ H x y v u Q I rx ry h
  obtain ⟨b, p, hs, xs, rfl, rfl, hp, kb, kz, q⟩ := h
  cases rx
  cases ry
  obtain ⟨hsy, hD⟩ := nko_at I hp kz
  refine notIn_keyed (kvs := pairsH (xs.map entN)) (show X.A.in1.units + 8 < cLine by rw [PyProof.Rows.units_in1]; omega) (nested_H I kb) hsy ⟨_, hD, rfl⟩ ?_
  rw [look_nko]
  exact ⟨.bl _, H, I.tok _, rfl, q⟩
/-- d[hands] = True -/
def sNPut (P : Program) (w : World) (td ty tv : TE) : TS := fun D σ H => tv σ H fun v H1 => td σ H1 fun x H2 => ty σ H2 fun y H3 => v = .bl true ∧ ∃ p b hs xs, x = .ref p ∧ y = .ref b ∧ H3 p = some (NKo P w p xs) ∧ Kn H3 (dH hs) (.ref b) ∧
  (∀ z ∈ xs, Kn H3 (dH z.1) (.ref z.2)) ∧ hs ∉ xs.map (·.1) ∧ xs.length ≤ 1000000 ∧ D.nx σ (upd H3 p (NKo P w p (xs ++ [(hs, b)])))
theorem atKey_none {xs : NX} {hs : Hss} (h : hs ∉ xs.map (·.1)) : atKey (xs.map entN) (keyH hs) = none := by
  unfold atKey
  rw [Option.map_eq_none_iff, List.find?_eq_none]
  intro x hx
  obtain ⟨z, hz, rfl⟩ := List.mem_map.mp hx
  have : ¬ (entN z).1 = keyH hs := fun e => h (List.mem_map.mpr ⟨z, hz, keyH_inj e⟩)
  simpa using this
section
variable {X : Cx} {o i value : Expr} {pos pos' : Pos} {td ty tv : TE}
theorem ps_nput (hu : X.A.units + 64 < cLine) (ho : PE X o td) (hi : PE X i ty) (hv : PE X value tv) (hs : swapsWith value (some (.Subscript o i pos')) pos.line X.env = pure false) :
    PS X (.Assign [.Subscript o i pos'] value pos) (sNPut X.prog X.w td ty tv) := by
  refine ⟨fun pins s σ H D I h => ?_⟩
  refine wpAny_Assign_Subscript (thn (hv.run pins s σ H _ I h) fun r s1 ⟨v, H1, I1, rv, q1⟩ => thn (ho.run pins s1 σ H1 _ I1 q1) fun u s2 ⟨x, H2, I2, rx, q2⟩ => thn (hi.run pins s2 σ H2 _ I2 q2) fun iv s3 ⟨y, H3, I3, ry, ev, p, b, hs, xs, ex, ey, hp, kb, kz, hn, hl, q3⟩ => ?_) hs
  subst ev ex ey
  obtain rfl : r = Value.bool true := rv
  obtain rfl : u = Value.ref p := rx
  obtain rfl : iv = Value.ref b := ry
  obtain ⟨hsy, hD⟩ := nko_at I3 hp kz
  refine wpAny_setItem_heap (hsz := by rw [List.length_map, sizeLine_eq]; omega) (show X.A.in1.units + 8 < cLine by rw [PyProof.Rows.units_in1]; omega) (nested_H I3 kb) hD fun h' dd' sb => ?_
  rw [storedH_new (atKey_none hn)] at dd'
  obtain ⟨o', es, ep, g1, g2, g3, g4, _, g5⟩ := dd'
  have e : xs.map entN ++ [(keyH hs, b, Value.bool true)] = (xs ++ [(hs, b)]).map entN := by rw [List.map_append]; rfl
  rw [e] at g4 g5
  have I4 : Inv X pins σ (upd H3 p (NKo X.prog X.w p (xs ++ [(hs, b)]))) { s3 with heap := h', toks := s3.toks + (nestedKind X.prog X.w).draws (keyH hs) } :=
    I3.write (x := p) (e := p) (by rw [hp]; exact True.intro) (.inl rfl) (fun b q hb z => (sb.2 b hb).trans z) ⟨o', g1⟩ (nko_ok hsy g1 g2 g3 g4 g5)
  exact ⟨σ, _, I4, q3⟩
end
/-- {hands: True} -/
def tDispN (P : Program) (w : World) (tk tv : TE) : TE := fun σ H Q => ∀ p, H p = none → tk σ (upd H p (NKo P w p [])) fun y H1 => tv σ H1 fun z H2 => H2 p = some (NKo P w p []) ∧ z = .bl true ∧ ∃ b hs, y = .ref b ∧ Kn H2 (dH hs) (.ref b) ∧ Q (.ref p) (upd H2 p (NKo P w p [(hs, b)]))
/-- {key: v}, the key a tuple -/
def tDispT (tk tv : TE) : TE := fun σ H Q => ∀ p, H p = none → tk σ (upd H p (.dT [])) fun y H1 => tv σ H1 fun z H2 => H2 p = some (.dT []) ∧ ∃ b k, y = .ref b ∧ H2 b = some (.tup (k.map kV)) ∧ Q (.ref p) (upd H2 p (.dT [(k, z)]))
section
variable {X : Cx} {kx vx : Expr} {pos : Pos} {tk tv : TE}
theorem shape1 : ((evalEachOpt [some kx] X.env).zip ((evalEach [vx] X.env).map fun v => do let x ← v; standAt pos; pure x)) = ([(eval kx X.env, do let x ← eval vx X.env; standAt pos; pure x)] : List (Sem Value × Sem Value)).map fun p => (some p.1, p.2) := rfl
theorem pe_dispN (hu : X.A.units + 64 < cLine) (hk : PE X kx tk) (hv : PE X vx tv) : PE X (.Dict [some kx] [vx] pos) (tDispN X.prog X.w tk tv) := by
  refine ⟨fun pins s σ H Q I h => ?_⟩
  rw [arm_eval_Dict, shape1, dictDisplay_pairs _ (by simp) (by simp)]
  have hn := I.hok.fresh (Nat.le_refl s.heap.objs.size)
  have hbig : (s.heap.objs.size == sysModules) = false := beq_eq_false_iff_ne.mpr (Ne.symm (Nat.ne_of_lt I.big))
  have I1 := I.laid (a := s.heap.objs.size) (o := NKo X.prog X.w s.heap.objs.size []) (h' := s.heap.push { cls := .type "dict", data := .dict #[] }) (t' := s.toks) (fun _ _ q => Heap.get?_push_of_some _ q) (Nat.le_refl _)
    (nko_ok hbig (Heap.get?_push_size _ rfl) ⟨rfl, rfl, rfl⟩ rfl rfl List.nodup_nil)
  refine wpAny_bind (wpAny_standAt (wpAny_bind (wpAny_subDictH (knd := nestedKind X.prog X.w) (Q := fun d s' => wpAny (model X.prog X.w) X.A (pure (Value.ref d)) (EP X pins σ Q) X.xe s') (show X.A.units + 8 < cLine by omega) (by simp) ?_)))
  refine evalPairs_cons (thn (hk.run pins _ σ _ _ I1 (h _ hn)) fun ku s2 ⟨y, H2, I2, ry, q2⟩ => wpAny_bind (thn (hv.run pins s2 σ H2 _ I2 q2) fun vu s3 ⟨z, H3, I3, rz, hp, ez, b, hs, ey, kb, q3⟩ => wpAny_bind (wpAny_standAt (wpAny_pure (evalPairs_nil ?_)))))
  subst ey ez
  obtain rfl : vu = Value.bool true := rz
  obtain rfl : ku = Value.ref b := ry
  obtain ⟨hsy, hD⟩ := nko_at I3 hp (fun z hz => by simp at hz)
  refine ⟨[(keyH hs, b, .bool true)], ⟨rfl, rfl, nested_H I3 kb, trivial⟩, hD, fun h' tk' dd' sb => wpAny_pure ?_⟩
  obtain ⟨o', es, ep, g1, g2, g3, g4, _, g5⟩ := dd'
  have I4 : Inv X pins σ (upd H3 s.heap.objs.size (NKo X.prog X.w s.heap.objs.size [(hs, b)])) { s3 with heap := h', toks := tk' } :=
    I3.write (x := s.heap.objs.size) (e := s.heap.objs.size) (by rw [hp]; exact True.intro) (.inl rfl) (fun b q hb z => (sb.2 b hb).trans z) ⟨o', g1⟩ (nko_ok (xs := [(hs, b)]) hsy g1 g2 g3 g4 g5)
  exact ⟨.ref s.heap.objs.size, _, I4, rfl, q3⟩
theorem pe_dispT (hu : X.A.units + 64 < cLine) (hk : PE X kx tk) (hv : PE X vx tv) : PE X (.Dict [some kx] [vx] pos) (tDispT tk tv) := by
  refine ⟨fun pins s σ H Q I h => ?_⟩
  rw [arm_eval_Dict, shape1, dictDisplay_pairs _ (by simp) (by simp)]
  have hn := I.hok.fresh (Nat.le_refl s.heap.objs.size)
  have I1 := I.laid (a := s.heap.objs.size) (o := .dT []) (h' := s.heap.push { cls := .type "dict", data := .dict #[] }) (t' := s.toks) (fun _ _ q => Heap.get?_push_of_some _ q) (Nat.le_refl _) (dt_empty s.heap I.big)
  refine wpAny_bind (wpAny_standAt (wpAny_bind (wpAny_subDictH (knd := tupleKind (mixKind X.prog X.w)) (Q := fun d s' => wpAny (model X.prog X.w) X.A (pure (Value.ref d)) (EP X pins σ Q) X.xe s') (show X.A.units < cLine by omega) (by simp) ?_)))
  refine evalPairs_cons (thn (hk.run pins _ σ _ _ I1 (h _ hn)) fun ku s2 ⟨y, H2, I2, ry, q2⟩ => wpAny_bind (thn (hv.run pins s2 σ H2 _ I2 q2) fun vu s3 ⟨z, H3, I3, rz, hp, b, k, ey, kb, q3⟩ => wpAny_bind (wpAny_standAt (wpAny_pure (evalPairs_nil ?_)))))
  subst ey
  obtain rfl : ku = Value.ref b := ry
  obtain ⟨z1, hd, xs, rel, dd⟩ := dt_of I3.hok hp
  cases rel
  refine ⟨[(k, b, vu)], ⟨rfl, rfl, key_of I3.hok kb, trivial⟩, dd, fun h' tk' dd' sb => wpAny_pure ?_⟩
  obtain ⟨o', es, ep, g1, g2, g3, g4, _, g5⟩ := dd'
  have hb : b ≠ s.heap.objs.size := fun z => by rw [z, hp] at kb; cases kb
  have I4 : Inv X pins σ (upd H3 s.heap.objs.size (.dT [(k, z)])) { s3 with heap := h', toks := tk' } :=
    I3.write (x := s.heap.objs.size) (e := s.heap.objs.size) (by rw [hp]; exact True.intro) (.inl rfl) (fun b q hb z => (sb.2 b hb).trans z) ⟨o', g1⟩
      ⟨by rw [sizeLine_eq]; simp, hd, _, .cons ⟨rfl, (upd_ne hb).trans kb, rz⟩ .nil, o', es, ep, g1, g2, g3, g4, g5⟩
  exact ⟨.ref s.heap.objs.size, _, I4, rfl, q3⟩
end
end FW

set_option Elab.async false
set_option linter.all false
set_option maxRecDepth 100000
set_option maxHeartbeats 4000000
/-! statements with a dict of hands -/
namespace FW
open PySem L2
def owN (P : Program) (w : World) (mets : List Hss) : Ow := .ext fun p B u => ∃ xs : NX, u = NKo P w p xs ∧ xs.map (·.1) = mets ∧ ∀ z ∈ xs, Kn B (dH z.1) (.ref z.2)
section
variable {P : Program} {w : World} {C : Ctx} {Γ : Gm} {M : Ows} {D : Ends}
theorem OwL.swap {B H : Hp} {σ : St} {a b : Nat × Ow} {ps : List Addr} (h : OwL C B σ H (a :: b :: M) ps) : ∃ qs, OwL C B σ H (b :: a :: M) qs := by
  cases h with
  | cons h1 h2 h3 h4 h5 h6 =>
    cases h6 with
    | @cons _ _ _ q qs g1 g2 g3 g4 g5 g6 =>
      have ne := fun z => h5 (List.mem_cons.mpr (.inl z))
      exact ⟨_, .cons g1 g2 g3 g4 (fun z => by
        rcases List.mem_cons.mp z with z | z
        · exact ne z.symm
        · exact g5 z) (.cons h1 h2 h3 h4 (fun z => h5 (List.mem_cons_of_mem _ z)) g6)⟩
theorem p_swap {a b : Nat × Ow} {Q : St → Hp → Prop} (h : Pn C Γ (b :: a :: M) Q) : Pn C Γ (a :: b :: M) Q := fun σ H ⟨B, x⟩ => by
  obtain ⟨ps, o⟩ := x.own
  exact h σ H ⟨B, x.frm, x.low, x.env, o.swap⟩
theorem p_aug {i : Nat} {te : TE} {g : Int → Int → Int} {a b : Int} (ha : Γ[i]? = some (some (.int a))) (he : EvM C Γ M te (.int b)) (h : Pn C (Γ.set i (some (.int (g a b)))) M D.nx) (hi : ∀ m ∈ M, m.1 ≠ i := by simp) : Pn C Γ M (tAug i te (ipI g) D) := fun σ H ⟨B, x⟩ => by
  obtain ⟨v, hv, kv⟩ := x.env.get i _ ha
  cases kv
  refine ⟨_, hv, he σ B H x _ fun y B2 H2 a2 _ k => ?_⟩
  cases k
  exact ⟨a, b, rfl, rfl, h _ _ ⟨B2, a2.set (.int _) hi⟩⟩
theorem t_niN {t j : Nat} {hs : Hss} {mets : List Hss} (ht : Γ[t]? = some (some (dH hs))) : TtM C Γ ((j, owN P w mets) :: M) (tTest (tOp (rNiN P w) (tVar t) (tVar j))) (!mets.contains hs) := fun σ B H a Q q => by
  obtain ⟨v, hv, kv⟩ := a.env.get t _ ht
  have kv2 : Kn B (.tup (hs.map dT)) v := kv
  obtain ⟨ps, ow⟩ := a.own
  cases ow with
  | cons h1 h2 h3 h4 h5 h6 =>
    obtain ⟨B1, u, e, hp, _, xs, rfl, hm, hz⟩ := h4
    cases kv2 with
    | tup hb hl =>
      refine ⟨_, hv, _, h1, _, _, hs, xs, rfl, rfl, hp, kv.mono a.frm.kh, fun z hz2 => (hz z hz2).mono (e.trans a.frm.kh), _, rfl, ?_⟩
      rw [hm]
      exact q B H a (Same.refl _)
theorem tm_and {t u : TT} {a b : Bool} (h1 : TtM C Γ M t a) (h2 : a = true → TtM C Γ M u b) : TtM C Γ M (tAnd t u) (a && b) := fun σ B H x Q q => h1 σ B H x _ fun B1 H1 x1 s1 => by
  cases a with
  | true => exact h2 rfl σ B1 H1 x1 Q fun B2 H2 x2 s2 => q B2 H2 x2 (s1.trans s2)
  | false => exact q B1 H1 x1 s1
theorem p_nput {t j : Nat} {hs : Hss} {mets : List Hss} (ht : Γ[t]? = some (some (dH hs))) (hn : hs ∉ mets) (hl : mets.length ≤ 1000000) (h : Pn C Γ ((j, owN P w (mets ++ [hs])) :: M) D.nx) : Pn C Γ ((j, owN P w mets) :: M) (sNPut P w (tVar j) (tVar t) (tC (.bl true)) D) := fun σ H ⟨B, a⟩ => by
  obtain ⟨v, hv, kv⟩ := a.env.get t _ ht
  have kv2 : Kn B (.tup (hs.map dT)) v := kv
  obtain ⟨ps, ow⟩ := a.own
  have ow' := ow
  cases ow with
  | cons h1 h2 h3 h4 h5 h6 =>
    obtain ⟨B1, u, e, hp, _, xs, rfl, hm, hz⟩ := h4
    cases kv2 with
    | @tup b _ _ hb hll =>
      refine ⟨_, h1, _, hv, rfl, _, _, hs, xs, rfl, rfl, hp, kv.mono a.frm.kh, fun z hz2 => (hz z hz2).mono (e.trans a.frm.kh), by rw [hm]; exact hn, ?_, ?_⟩
      · have := congrArg List.length hm
        rw [List.length_map] at this
        omega
      · refine h _ _ ⟨B, a.mut (o' := owN P w (mets ++ [hs])) ow' ⟨B, _, Same.refl _, upd_same, trivial, xs ++ [(hs, b)], rfl, ?_, fun z hz2 => ?_⟩⟩
        · rw [List.map_append, hm]; rfl
        · rcases List.mem_append.mp hz2 with hz2 | hz2
          · exact (hz z hz2).mono e
          · simp at hz2; subst hz2; exact kv
/-- last, met, many = .., {hands: True}, n -/
theorem p_newN {i j l : Nat} {ta tk : TE} {d : FW.D} {hs : Hss} {n : Int} (ha : EvM C Γ M ta d) (hk : EvG tk Γ (dH hs)) (h : Pn C (((Γ.set i (some d)).set j none).set l (some (.int n))) ((j, owN P w [hs]) :: M) D.nx)
    (hi : ∀ m ∈ M, m.1 ≠ i := by simp) (hj : ∀ m ∈ M, m.1 ≠ j := by simp) (hl : ∀ m ∈ M, m.1 ≠ l := by simp) (hjl : j ≠ l := by decide) (hlen : j < (Γ.set i (some d)).length := by exact Nat.le_of_ble_eq_true rfl) :
    Pn C Γ M (tPar3 i j l (tCons ta (tCons (tDispN P w tk (tC (.bl true))) (tCons (tC (.int n)) tNil))) D) := fun σ H ⟨B, a⟩ => ha σ B H a _ fun v1 B1 H1 a1 _ k1 => fun p hp => by
  have hb1 := a1.frm.kh.free hp
  have s1 : Same H1 (upd H1 p (NKo P w p [])) := same_new hp
  refine hk σ B1 a1.env _ _ (a1.frm.kh.trans s1) fun y B2 H2 f2 k2 => ?_
  have hp2 : H2 p = some (NKo P w p []) := f2.hh _ _ upd_same
  have hb2 : B2 p = none := f2.hid _ hb1 (by rw [upd_same]; trivial)
  have k3 : Kn B2 (.tup (hs.map dT)) y := k2
  cases k3 with
  | @tup b _ _ hb hll =>
    refine ⟨hp2, rfl, b, hs, rfl, k2.mono f2.kh, ?_⟩
    have fr : Frm B1 H1 B2 (upd H2 p (NKo P w p [(hs, b)])) := by
      refine ⟨f2.kb, same_mut f2.kh hb2, fun x o e => ?_, fun x e1 e2 => ?_⟩
      · have hx : x ≠ p := fun z => by rw [z, hp] at e; cases e
        rw [upd_ne hx]
        exact f2.hh x o (s1 x o e)
      · have hx : x ≠ p := fun z => by rw [z, hp] at e2; exact e2
        exact f2.hid x e1 (by rw [upd_ne hx]; exact e2)
    have a2 := a1.step fr
    refine ⟨v1, .ref p, .int n, rfl, h _ _ ⟨B2, a2.frm, a2.low, ((a2.env.set (k1.mono f2.kb)).setN).set (.int n), ?_⟩⟩
    obtain ⟨ps, ow⟩ := a2.own
    have hnp : p ∉ ps := fun z => by
      obtain ⟨qs, ow1⟩ := a1.own
      -- the owned ones are told by the slots
      have key : ∀ {M : Ows} {ps qs : List Addr}, OwL C B2 σ (upd H2 p (NKo P w p [(hs, b)])) M ps → OwL C B1 σ H1 M qs → ps = qs := by
        intro M ps qs o1
        induction o1 generalizing qs with
        | nil => intro o2; cases o2; rfl
        | cons g1 _ _ _ _ _ ih =>
          intro o2
          cases o2 with
          | cons g2 _ _ _ _ r2 =>
            rw [g1] at g2
            cases g2
            rw [ih r2]
      rw [key ow ow1] at z
      exact ow1.tracked p z hp
    refine ⟨p :: ps, .cons ?_ (a1.frm.hh.free hp) hb2 ⟨B2, _, Same.refl _, upd_same, trivial, [(hs, b)], rfl, rfl, fun z hz => by simp at hz; subst hz; exact k2⟩ hnp (ow.slots fun m hm => ?_)⟩
    · rw [List.getElem?_set_ne hjl.symm]
      refine List.getElem?_set_self ?_
      rw [List.length_set] at hlen ⊢
      rw [a2.env.len]; exact hlen
    · rw [List.getElem?_set_ne (Ne.symm (hl m hm)), List.getElem?_set_ne (Ne.symm (hj m hm)), List.getElem?_set_ne (Ne.symm (hi m hm))]
end
end FW

set_option Elab.async false
set_option linter.all false
set_option maxRecDepth 100000
set_option maxHeartbeats 4000000
/-! dicts from tuples of numbers to numbers -/
namespace FW
open PySem L2
abbrev iT (kvs : LH.Tab) : List (List Int × Int) := kvs.map fun x => (upN x.1, (x.2 : Int))
abbrev kT (k : List Nat) : List L2.Key := (upN k).map Sum.inl
theorem upN_inj {a b : List Nat} (h : upN a = upN b) : a = b := by
  induction a generalizing b with
  | nil => cases b with | nil => rfl | cons => simp [upN] at h
  | cons x a ih =>
    cases b with
    | nil => simp [upN] at h
    | cons y b =>
      unfold upN at h
      rw [List.map_cons, List.map_cons] at h
      have h1 := (List.cons.inj h).1
      rw [show x = y by omega, ih (List.cons.inj h).2]
theorem kT_inj {a b : List Nat} (h : kT a = kT b) : a = b := by
  refine upN_inj ?_
  have : ∀ {x y : List Int}, x.map (Sum.inl : Int → L2.Key) = y.map Sum.inl → x = y := by
    intro x
    induction x with
    | nil => intro y h; cases y with | nil => rfl | cons => simp at h
    | cons i x ih =>
      intro y h
      cases y with
      | nil => simp at h
      | cons j y =>
        rw [List.map_cons, List.map_cons] at h
        rw [Sum.inl.inj (List.cons.inj h).1, ih (List.cons.inj h).2]
  exact this h
theorem val_iT (k : List Nat) : ∀ kvs : LH.Tab, valV ((iT kvs).map etv) (kT k) = (kvs.find? fun kv => decide (kv.1 = k)).map fun kv => V.int (kv.2 : Int)
  | [] => rfl
  | x :: r => by
    show valV (etv (upN x.1, (x.2 : Int)) :: (iT r).map etv) (kT k) = _
    rw [List.find?_cons]
    by_cases e : x.1 = k
    · rw [valV_pos (p := etv (upN x.1, (x.2 : Int))) (by show kT x.1 = kT k; rw [e]), decide_eq_true e]; rfl
    · rw [valV_neg (p := etv (upN x.1, (x.2 : Int))) (fun z => e (kT_inj z)), val_iT k r, decide_eq_false e]
theorem put_iT (kvs : LH.Tab) (k : List Nat) (n : Nat) : putK ((iT kvs).map etv) (kT k) (.int (n : Int)) = (iT (LH.putN kvs k n)).map etv := by
  unfold putK LH.putN
  have e : (((iT kvs).map etv).any fun kv => decide (kv.1 = kT k)) = kvs.any fun kv => decide (kv.1 = k) := by
    rw [List.any_map, List.any_map]
    congr 1
    funext x
    show decide (kT x.1 = kT k) = decide (x.1 = k)
    by_cases h : x.1 = k
    · rw [decide_eq_true h, h]; exact decide_eq_true rfl
    · rw [decide_eq_false h]; exact decide_eq_false fun z => h (kT_inj z)
  rw [e]
  split
  · unfold iT
    rw [List.map_map, List.map_map, List.map_map, List.map_map]
    apply List.map_congr_left
    intro x _
    show (if kT x.1 = kT k then (kT x.1, V.int (n : Int)) else etv (upN x.1, (x.2 : Int))) = etv (upN (if x.1 = k then (x.1, n) else x).1, (((if x.1 = k then (x.1, n) else x).2 : Nat) : Int))
    by_cases h : x.1 = k
    · rw [if_pos (by rw [h]), if_pos h]; rfl
    · rw [if_neg (fun z => h (kT_inj z)), if_neg h]
  · unfold iT
    rw [List.map_append, List.map_append]; rfl
theorem knT {B : Hp} {k : List Nat} {v : V} (h : Kn B (dT k) v) : ∃ b, v = .ref b ∧ B b = some (.tup ((kT k).map kV)) := by
  have h : Kn B (.tup (k.map dN)) v := h
  cases h with
  | tup hb hl =>
    rw [hl.nats] at hb
    refine ⟨_, rfl, hb.trans ?_⟩
    have e : (kT k).map kV = (k.map fun (x : Nat) => (x : Int)).map V.int := by
      unfold kT upN
      rw [List.map_map]; rfl
    rw [e]
section
variable {Γ : Gm} {td ty tx tk tv : TE}
theorem g_dispT {k : List Nat} {n : Nat} (hk : EvG tk Γ (dT k)) (hv : EvG tv Γ (dN n)) : EvG (tDispT tk tv) Γ (.dt (iT [(k, n)])) := fun σ B en H Q hs q => fun p hp => by
  have s0 : Same H (upd H p (.dT [])) := same_new hp
  refine hk σ B en _ _ (hs.trans s0) fun y B1 H1 f1 k1 => hv σ B1 (en.mono f1.kb) _ _ f1.kh fun z B2 H2 f2 k2 => ?_
  have f12 := f1.trans f2
  have h2 : H2 p = some (.dT []) := f12.hh _ _ upd_same
  have b2 : B2 p = none := f12.hid _ (hs.free hp) (by rw [upd_same]; trivial)
  obtain ⟨b, rfl, hb⟩ := knT (k1.mono f2.kb)
  cases k2
  refine ⟨h2, b, kT k, rfl, f2.kh _ _ hb, ?_⟩
  refine q _ (upd B2 p (.dT ((iT [(k, n)]).map etv))) _ ⟨f12.kb.trans (same_new b2), fun x o e => ?_, fun x o e => ?_, fun x e1 e2 => ?_⟩ (.dt upd_same)
  · by_cases hx : x = p
    · subst hx; rw [upd_same] at e ⊢; exact e
    · rw [upd_ne hx] at e ⊢; exact f12.kh x o e
  · have hx : x ≠ p := fun z => by rw [z, hp] at e; cases e
    rw [upd_ne hx]
    exact f12.hh x o ((upd_ne hx).trans e)
  · have hx : x ≠ p := fun z => by rw [z, hp] at e2; exact e2
    rw [upd_ne hx]
    exact f12.hid x e1 (by rw [upd_ne hx]; exact e2)
theorem getN_find {kvs : LH.Tab} {k : List Nat} (h : k ∈ kvs.map (·.1)) : (kvs.find? fun kv => decide (kv.1 = k)).map (fun kv => V.int (kv.2 : Int)) = some (V.int ((LH.getN kvs k : Nat) : Int)) := by
  unfold LH.getN
  cases e : kvs.find? fun kv => decide (kv.1 = k) with
  | none =>
    rw [List.find?_eq_none] at e
    obtain ⟨x, hx, rfl⟩ := List.mem_map.mp h
    have := e x hx
    simp at this
  | some x => rfl
theorem getN_findD {kvs : LH.Tab} {k : List Nat} : ((kvs.find? fun kv => decide (kv.1 = k)).map fun kv => V.int (kv.2 : Int)).getD (V.int 0) = V.int ((LH.getN kvs k : Nat) : Int) := by
  unfold LH.getN
  cases e : kvs.find? fun kv => decide (kv.1 = k) with
  | none => rfl
  | some x => rfl
theorem g_dgetT {kvs : LH.Tab} {k : List Nat} (hd : EvG td Γ (.dt (iT kvs))) (hk : EvG ty Γ (dT k)) (h : k ∈ kvs.map (·.1)) : EvG (tDGet td ty) Γ (dN (LH.getN kvs k)) := fun σ B en H Q hs q =>
  hd σ B en H _ hs fun v B1 H1 f1 k1 => hk σ B1 (en.mono f1.kb) H1 _ f1.kh fun w B2 H2 f2 k2 => by
    obtain ⟨b, rfl, hb⟩ := knT k2
    cases k1 with
    | dt h1 =>
      have g := DGet.t (f2.kh _ _ (f2.kb _ _ h1)) (f2.kh _ _ hb)
      rw [val_iT, getN_find h] at g
      exact ⟨_, _, rfl, g, q _ B2 H2 (f1.trans f2) (.int _)⟩
theorem g_dget2T {kvs : LH.Tab} {k : List Nat} (hd : EvG td Γ (.dt (iT kvs))) (hk : EvG ty Γ (dT k)) : EvG (tDGet2 td ty (tC (.int 0))) Γ (dN (LH.getN kvs k)) := fun σ B en H Q hs q =>
  hd σ B en H _ hs fun v B1 H1 f1 k1 => by
    cases k1 with
    | dt h1 =>
      refine ⟨_, rfl, .inr ⟨_, .inl (f1.kh _ _ h1)⟩, hk σ B1 (en.mono f1.kb) H1 _ f1.kh fun w B2 H2 f2 k2 => ?_⟩
      obtain ⟨b, rfl, hb⟩ := knT k2
      have g := DGet.t (f2.kh _ _ (f2.kb _ _ h1)) (f2.kh _ _ hb)
      rw [val_iT] at g
      refine ⟨_, g, ?_⟩
      rw [getN_findD]
      exact q _ B2 H2 (f1.trans f2) (.int _)
end
section
variable {C : Ctx} {Γ : Gm} {M : Ows} {D : Ends}
theorem p_dputT {i : Nat} {ty tv : TE} {kvs : LH.Tab} {k : List Nat} {n : Nat} (hv : EvM C Γ ((i, .dt (iT kvs)) :: M) tv (dN n)) (hk : EvM C Γ ((i, .dt (iT kvs)) :: M) ty (dT k)) (hz : kvs.length < 10000000) (h : Pn C Γ ((i, .dt (iT (LH.putN kvs k n))) :: M) D.nx) :
    Pn C Γ ((i, .dt (iT kvs)) :: M) (sDPut (tVar i) ty tv D) := fun σ H ⟨B, a⟩ => hv σ B H a _ fun v B1 H1 a1 _ k1 => by
  cases k1
  obtain ⟨ps, ow⟩ := a1.own
  cases ow with
  | @cons _ _ _ p qs h1 h2 h3 h4 h5 h6 =>
    refine ⟨.ref p, h1, hk σ B1 H1 a1 _ fun w B2 H2 a2 _ k2 => ?_⟩
    obtain ⟨b, rfl, hb⟩ := knT k2
    obtain ⟨ps2, ow2⟩ := a2.own
    have ow2' := ow2
    cases ow2 with
    | @cons _ _ _ p' qs' g1 g2 g3 g4 g5 g6 =>
      have e : p' = p := by rw [h1] at g1; cases g1; rfl
      subst e
      have g4 : H2 p' = some (.dT ((iT kvs).map etv)) := g4
      refine ⟨p', _, rfl, DPut.t g4 (a2.frm.kh _ _ hb) (by rw [List.length_map, List.length_map]; exact sz_lt hz), h _ _ ⟨B2, a2.mut (o' := .dt (iT (LH.putN kvs k n))) ow2' ?_⟩⟩
      show upd H2 p' _ p' = some (.dT ((iT (LH.putN kvs k n)).map etv))
      rw [upd_same, put_iT]
end
end FW

set_option Elab.async false
set_option linter.all false
set_option maxRecDepth 100000
set_option maxHeartbeats 4000000
/-! the text; the first defs -/
namespace LW
open PySem PySem.Spec PyProof.Rows L2 FW
def topS (i : Nat) : Stmt := PySem.Challenge.pw_lastholders_k84_whole_stages_and_rounds.main.body.getD i (.Pass ⟨0, 0, 0, 0⟩)
/-- names of built-ins that the module leaves alone -/
structure Bt (mg : Str → Option Value) : Prop where
  isinstance : mg "isinstance" = none
  int : mg "int" = none
  bool : mg "bool" = none
  tuple : mg "tuple" = none
  len : mg "len" = none
  all : mg "all" = none
  any : mg "any" = none
  list : mg "list" = none
  sorted : mg "sorted" = none
  set : mg "set" = none
  enumerate : mg "enumerate" = none
  range : mg "range" = none
  max : mg "max" = none
  min : mg "min" = none
  sum : mg "sum" = none
abbrev gPr (K : PySem.W.Frag) (i j : Nat) : TG := gTup K 2 (gCons (gName i) (gCons (gName j) gNil))
abbrev tIn (K : PySem.W.Frag) (a b : TE) : TE := tOp (rIn K false) a b
abbrev tNi (K : PySem.W.Frag) (a b : TE) : TE := tOp (rIn K true) a b
abbrev rLn (K : PySem.W.Frag) : List V → Hp → VK → Prop := fun xs H Q => ∃ p ys, xs = [.ref p] ∧ (SqL K H p ys ∨ SqT K H p ys) ∧ Q (.int ys.length) H
abbrev tLn (K : PySem.W.Frag) (a : TE) : TE := tCB (rLn K) (tCons a tNil)
section
variable {P : Program} {w : World} {K : PySem.W.Frag} {mg : Str → Option Value} {base : Heap}
theorem sc1 : FnScope ["value"] ["value"] (defScope (topS 1)) := ⟨rfl, rfl, rfl, by decide +kernel, rfl, by decide +kernel, by decide +kernel⟩
def R_is_integer (ds : List D) (r : D) : Prop := ∃ i, ds = [.int i] ∧ r = .bl true
theorem cl_is_integer (T : Bt mg) (F : Std K mg "is_integer" (topS 1) ["value"]) : Cl P w K mg base 1 "is_integer" R_is_integer := by
  refine cl_of F sc1 (by rintro ds r ⟨i, rfl, _⟩; rfl) fun f cdv A outer s H E hr => ⟨_, pss_one (ps_ret (pe_and (pe_callB call_isi (by rfl) T.isinstance boot_isinstance (pa_cons (pv 0) (pa_cons (pe_bltn (v := .ty "int") (by rfl) T.int boot_int rfl) pa_nil)))
    (pe_one (pe_not (pe_callB call_isi (by rfl) T.isinstance boot_isinstance (pa_cons (pv 0) (pa_cons (pe_bltn (v := .ty "bool") (by rfl) T.bool boot_bool rfl) pa_nil))))))), ?_⟩
  rintro ds r ⟨i, rfl, rfl⟩ C D hC hrt hnx
  exact p_ret (em ((g_andV (g_cb (a_cons (g_var rfl) (a_cons g_cl a_nil)) (rc_isi (b := true) (by decide +kernel))) fun _ => g_notV (g_cb (a_cons (g_var rfl) (a_cons g_cl a_nil)) (rc_isi (b := false) (by decide +kernel)))).is rfl)) hrt

theorem sc2 : FnScope ["value", "least", "most"] ["value", "least", "most"] (defScope (topS 2)) := ⟨rfl, rfl, rfl, by decide +kernel, rfl, by decide +kernel, by decide +kernel⟩
def R_is_in (ds : List D) (r : D) : Prop := ∃ i l m, ds = [.int i, .int l, .int m] ∧ r = .bl (decide (l ≤ i) && decide (i ≤ m))
theorem cl_is_in (T : Bt mg) (F : Std K mg "is_in" (topS 2) ["value", "least", "most"]) (c1 : Cl P w K mg base 1 "is_integer" R_is_integer) : Cl P w K mg base 2 "is_in" R_is_in := by
  refine cl_of F sc2 (by rintro ds r ⟨i, l, m, rfl, _⟩; rfl) fun f cdv A outer s H E hr => ⟨_, pss_one (ps_ret (pe_and (pe_cl c1 hr (by decide) (by rfl) (pa_cons (pv 0) pa_nil))
    (pe_one (pe_chain op_le op_le (pv 1) (pv 0) (pv 2))))), ?_⟩
  rintro ds r ⟨i, l, m, rfl, rfl⟩ C D hC hrt hnx
  exact p_ret (em ((g_andV (g_call (a_cons (g_var rfl) a_nil) ⟨i, rfl, rfl⟩) fun _ => g_chain (g_var rfl) (g_var rfl) (g_var rfl) rv_b fun _ => rv_b).is (by rw [Bool.true_and]))) hrt
theorem sc3 : FnScope ["value", "least", "most"] ["value", "least", "most"] (defScope (topS 3)) := ⟨rfl, rfl, rfl, by decide +kernel, rfl, by decide +kernel, by decide +kernel⟩
def R_is_list (ds : List D) (r : D) : Prop := ∃ xs l m, ds = [.tup xs, .int l, .int m] ∧ r = .bl (decide (l ≤ (xs.length : Int)) && decide ((xs.length : Int) ≤ m))
theorem cl_is_list (T : Bt mg) (F : Std K mg "is_list" (topS 3) ["value", "least", "most"]) : Cl P w K mg base 1 "is_list" R_is_list := by
  refine cl_of F sc3 (by rintro ds r ⟨i, l, m, rfl, _⟩; rfl) fun f cdv A outer s H E hr => ⟨_, pss_one (ps_ret (pe_and (pe_callB call_isi (by rfl) T.isinstance boot_isinstance (pa_cons (pv 0) (pa_cons (pe_bltn (v := .ty "tuple") (by rfl) T.tuple boot_tuple rfl) pa_nil)))
    (pe_one (pe_chain op_le op_le (pv 1) (pe_callB call_len_seq (by rfl) T.len PySem.boot_len (pa_cons (pv 0) pa_nil)) (pv 2))))), ?_⟩
  rintro ds r ⟨xs, l, m, rfl, rfl⟩ C D hC hrt hnx
  exact p_ret (em ((g_andV (g_cb (a_cons (g_var rfl) (a_cons g_cl a_nil)) rc_isiT) fun _ => g_chain (g_var rfl) (g_cb (a_cons (g_var rfl) a_nil) (rc_len (.inr rfl))) (g_var rfl) rv_b fun _ => rv_b).is (by rw [Bool.true_and]))) hrt

/-! ### holders, spare things, pairs -/
theorem sc17 : FnScope ["hands", "thing", "person", "hand"] ["hands", "thing"] (defScope (topS 17)) := ⟨rfl, rfl, rfl, by decide +kernel, rfl, by decide +kernel, by decide +kernel⟩
def R_holders (ds : List D) (r : D) : Prop := ∃ hs t, ds = [dH hs, dN t] ∧ hs.length ≤ 7 ∧ r = dL (LH.holders hs t)
theorem zip_range_filter {hs : LH.Hs} {q : List Nat → Bool} : ((((List.range hs.length).zip hs).filter fun x => q x.2).map fun x => dN x.1) = ((List.range hs.length).filter fun p => q (LH.hand hs p)).map dN := by
  have e : (List.range hs.length).zip hs = (List.range hs.length).map fun p => (p, LH.hand hs p) := by
    apply List.ext_getElem (by simp)
    intro i h1 h2
    simp only [List.getElem_zip, List.getElem_range, List.getElem_map]
    have hi : i < hs.length := by simpa using h2
    unfold LH.hand
    rw [List.getD_eq_getElem?_getD, List.getElem?_eq_getElem hi]; rfl
  rw [e, List.filter_map, List.map_map]
  rfl
theorem cl_holders (T : Bt mg) (F : Std K mg "holders_in" (topS 17) ["hands", "thing"]) : Cl P w K mg base 1 "holders_in" R_holders := by
  refine cl_of F sc17 (by rintro ds r ⟨hs, t, rfl, _⟩; rfl) fun f cdv A outer s H E hr => ⟨_, pss_one (ps_ret (pe_lc (own := [("person", 2), ("hand", 3)]) (g := gPr K 2 3) (tt := tTest (tIn K (tVar 1) (tVar 3))) rfl sc17.nd (pi_enumT (by rfl) T.enumerate (pa_cons (pv 0) pa_nil))
    (blkOk_by (N := ["hands", "thing", "person", "hand"]) (sc := defScope (topS 17)) (by decide +kernel)) (fun _ _ _ _ _ => pg_tup rfl (pgs_cons (pg_name (i := 2) sc17.nd rfl (.inl rfl)) (pgs_cons (pg_name (i := 3) sc17.nd rfl (.inl rfl)) pgs_nil)))
    (fun _ _ _ _ _ => pts_one (pt_cmpR op_in_seq (pv 1) (pv 3) rfl)) (fun _ _ _ _ _ => pv 2))), ?_⟩
  rintro ds r ⟨hs, t, rfl, hl, rfl⟩ C D hC hrt hnx
  refine p_ret (em ((g_lc (xs := (List.range hs.length).zip hs) (enc := dE dT) (p := fun x => x.2.contains t) (f := fun x => dN x.1) (w_enumT (a_cons (g_var rfl) a_nil)) (by simp; omega) (is := [2, 3]) (by decide)
    (fun x _ => gt_pair) (fun x _ => t_test (g_op (g_var rfl) (g_var rfl) rv_inT)) (fun x _ _ => g_var rfl)).is ?_)) hrt
  rw [zip_range_filter (q := fun h => h.contains t)]
  rfl
end
end LW

set_option Elab.async false
set_option linter.all false
set_option maxRecDepth 100000
set_option maxHeartbeats 4000000
/-! lists of people, things and steps -/
namespace LW
open PySem PySem.Spec PyProof.Rows L2 FW
theorem hand_at {hs : LH.Hs} {p : Nat} (h : p < hs.length) : (hs.map dT)[p]? = some (dT (LH.hand hs p)) := by
  rw [List.getElem?_map, List.getElem?_eq_getElem h]
  unfold LH.hand
  rw [List.getD_eq_getElem?_getD, List.getElem?_eq_getElem h]; rfl
theorem zip_range {hs : LH.Hs} : (List.range hs.length).zip hs = (List.range hs.length).map fun p => (p, LH.hand hs p) := by
  apply List.ext_getElem (by simp)
  intro i h1 h2
  simp only [List.getElem_zip, List.getElem_range, List.getElem_map]
  have hi : i < hs.length := by simpa using h2
  unfold LH.hand
  rw [List.getD_eq_getElem?_getD, List.getElem?_eq_getElem hi]; rfl
theorem take_snoc {α : Type} {xs : List α} {i : Nat} {x : α} (h : xs[i]? = some x) : xs.take (i + 1) = xs.take i ++ [x] := by
  rw [List.take_add_one, h]; rfl
theorem take_filter {α : Type} {xs : List α} {i : Nat} {x : α} (h : xs[i]? = some x) (q : α → Bool) : (xs.take (i + 1)).filter q = (xs.take i).filter q ++ if q x then [x] else [] := by
  rw [take_snoc h, List.filter_append]
  congr 1
  by_cases hq : q x = true <;> simp [hq]
theorem take_map {α β : Type} {xs : List α} {i : Nat} {x : α} (h : xs[i]? = some x) (f : α → β) : (xs.take (i + 1)).map f = (xs.take i).map f ++ [f x] := by
  rw [take_snoc h, List.map_append]; rfl
theorem take_flat {α β : Type} {xs : List α} {i : Nat} {x : α} (h : xs[i]? = some x) (f : α → List β) : (xs.take (i + 1)).flatMap f = (xs.take i).flatMap f ++ f x := by
  rw [take_snoc h, List.flatMap_append]; simp
theorem take_all {α : Type} (xs : List α) : xs.take xs.length = xs := List.take_length
theorem range_lt {n i x : Nat} (h : (List.range n)[i]? = some x) : x < n := by
  have := List.mem_of_getElem? h
  simpa using this
theorem dN_succ {i : Nat} : D.int ((i : Int) + 1) = dN (i + 1) := congrArg D.int (by omega)
section
variable {P : Program} {w : World} {K : PySem.W.Frag} {mg : Str → Option Value} {base : Heap}
theorem sc18 : FnScope ["hands", "person", "thing"] ["hands", "person"] (defScope (topS 18)) := ⟨rfl, rfl, rfl, by decide +kernel, rfl, by decide +kernel, by decide +kernel⟩
def R_spare (ds : List D) (r : D) : Prop := ∃ hs p, ds = [dH hs, dN p] ∧ LH.Valid hs ∧ p < hs.length ∧ r = dL (LH.spare hs p)
theorem cl_spare (T : Bt mg) (F : Std K mg "spare_in" (topS 18) ["hands", "person"]) (c1 : Cl P w K mg base 1 "holders_in" R_holders) : Cl P w K mg base 2 "spare_in" R_spare := by
  refine cl_of F sc18 (by rintro ds r ⟨hs, t, rfl, _⟩; rfl) fun f cdv A outer s H E hr => ⟨_, pss_one (ps_ret (pe_lc (own := [("thing", 2)]) (g := gName 2) (tt := tTest (tOp (rI0 fun i j => .bl (decide (j < i))) (tLn K (tCall (SpR R_holders) [] E0 (tCons (tVar 0) (tCons (tVar 2) tNil)))) (tC (.int 1)))) rfl sc18.nd (pi_tup (pe_ix ix_tup (pv 0) (pv 1) (fun _ _ => rfl)))
    (blkOk_by (N := ["hands", "person", "thing"]) (sc := defScope (topS 18)) (by decide +kernel)) (fun _ _ _ _ _ => pg_name (i := 2) sc18.nd rfl (.inl rfl))
    (fun _ _ _ _ _ => pts_one (pt_cmpR op_gt (pe_callB call_len_seq (by rfl) T.len PySem.boot_len (pa_cons (pe_cl c1 hr (by decide) (by rfl) (pa_cons (pv 0) (pa_cons (pv 2) pa_nil))) pa_nil)) pe_int (nomark _))) (fun _ _ _ _ _ => pv 2))), ?_⟩
  rintro ds r ⟨hs, p, rfl, hv, hp, rfl⟩ C D hC hrt hnx
  have h7 : hs.length ≤ 7 := Nat.le_trans hv.le (by decide)
  refine p_ret (em ((g_lc (xs := LH.hand hs p) (enc := dN) (p := fun t => decide (1 < (LH.holders hs t).length)) (f := dN) (w_tup (g_op (g_var rfl) (g_var rfl) (rv_ixT (hand_at hp)))) (by have := hv.handLen p; omega) (is := [2]) (by decide)
    (fun x _ => gt_name) (fun x _ => (t_test (g_op (g_cb (a_cons (g_call (a_cons (g_var rfl) (a_cons (g_var rfl) a_nil)) ⟨hs, x, rfl, h7, rfl⟩) a_nil) (rc_len (.inl rfl))) g_int rv_b)).is ?_) (fun x _ _ => g_var rfl)).is rfl)) hrt
  rw [List.length_map]
  by_cases h : 1 < (LH.holders hs x).length <;> simp [h] <;> omega

theorem sc19 : FnScope ["hands", "found", "one", "other", "thing"] ["hands"] (defScope (topS 19)) := ⟨rfl, rfl, rfl, by decide +kernel, rfl, by decide +kernel, by decide +kernel⟩
def R_pairs (ds : List D) (r : D) : Prop := ∃ hs, ds = [dH hs] ∧ LH.Valid hs ∧ r = dPs (LH.pairsOf hs)
theorem cl_pairs (T : Bt mg) (F : Std K mg "pairs_in" (topS 19) ["hands"]) : Cl P w K mg base 1 "pairs_in" R_pairs := by
  refine cl_of F sc19 (by rintro ds r ⟨hs, rfl, _⟩; rfl) fun f cdv A outer s H E hr => ⟨_, pss_cons (ps_set (i := 1) sc19.nd rfl (.inl rfl) (pe_lst pa_nil))
    (pss_cons (ps_for PassesOwn.never rfl (pi_range1 (by rfl) T.range (pa_cons (pe_callB call_len_seq (by rfl) T.len PySem.boot_len (pa_cons (pv 0) pa_nil)) pa_nil)) (pg_name (i := 2) sc19.nd rfl (.inl rfl))
      (pss_one (ps_for PassesOwn.never rfl (pi_range2 (by rfl) T.range (pa_cons (pe_op op_add (pv 2) pe_int) (pa_cons (pe_callB call_len_seq (by rfl) T.len PySem.boot_len (pa_cons (pv 0) pa_nil)) pa_nil))) (pg_name (i := 3) sc19.nd rfl (.inr rfl))
        (pss_one (ps_if (pt_val (pe_callB (cr_any rfl) (by rfl) T.any (by decide +kernel) (pa_cons (pe_lc (own := [("thing", 4)]) (g := gName 4) (te := tIn K (tVar 4) (tOp (rIxT K) (tVar 0) (tVar 3))) rfl sc19.nd (pi_tup (pe_ix ix_tup (pv 0) (pv 2) (fun _ _ => rfl)))
            (blkOk_by (N := ["hands", "found", "one", "other", "thing"]) (sc := defScope (topS 19)) (by decide +kernel)) (fun _ _ _ _ _ => pg_name (i := 4) sc19.nd rfl (.inl rfl)) (fun _ _ _ _ _ => pts_nil) (fun _ _ _ _ _ => pe_cmpR op_in_seq (pv 4) (pe_ix ix_tup (pv 0) (pv 3) (fun _ _ => rfl)) rfl)) pa_nil)))
          (pss_one (ps_expr (pe_bm PySem.F.plainAttrs_list PySem.F.slot_list_append PySem.F.type_list_append mt_append (pv 1) (pa_cons (pe_tup (pa_cons (pv 2) (pa_cons (pv 3) pa_nil))) pa_nil)))) pss_nil)))))
    (pss_one (ps_ret (pv 1)))), ?_⟩
  rintro ds r ⟨hs, rfl, hv, rfl⟩ C D hC hrt hnx
  have h4 := hv.le
  refine p_seq (p_newl a_nil (by simp) (p_seq ?_))
  let row := fun a : Nat => (((List.range (hs.length - (a + 1))).map (fun i => a + 1 + i)).filter fun b => LH.meet hs a b).map fun b => (a, b)
  refine p_for (xs := List.range hs.length) (enc := dN) (is := [2]) (fun i => [some (dH hs), none, none, none, none]) (fun i => [(1, .l ((((List.range hs.length).take i).flatMap row).map dP))]) (fun i x => [some (dH hs), none, some (dN x), none, none])
    ((w_range1 (n := hs.length) (a_cons ((g_cb (a_cons (g_var rfl) a_nil) (rc_len (.inr rfl))).is (by rw [List.length_map])) a_nil) (by omega))) (Sub.refl _) rfl (fun i x _ => gt_name) (by simp) ?_ ?_
  · intro Bl i a ha
    have hal := range_lt ha
    refine p_for (xs := (List.range (hs.length - (a + 1))).map fun i => a + 1 + i) (enc := dN) (is := [3]) (fun j => [some (dH hs), none, some (dN a), none, none])
      (fun j => [(1, .l ((((List.range hs.length).take i).flatMap row ++ ((((List.range (hs.length - (a + 1))).map fun i => a + 1 + i).take j).filter fun b => LH.meet hs a b).map fun b => (a, b)).map dP))]) (fun j b => [some (dH hs), none, some (dN a), some (dN b), none])
      (w_range2 (a := a + 1) (n := hs.length) (a_cons ((g_op (g_var rfl) g_int rv_i).is dN_succ) (a_cons ((g_cb (a_cons (g_var rfl) a_nil) (rc_len (.inr rfl))).is (by rw [List.length_map])) a_nil)) (by omega) (by omega)) (Sub.refl _) ?_ (fun i x _ => gt_name) (by simp) ?_ ?_
    · simp
    · intro Bl j b hb
      have hbl : b < hs.length := by
        have := List.mem_of_getElem? hb
        obtain ⟨i, hi, rfl⟩ := List.mem_map.mp this
        simp at hi; omega
      refine p_if (b := LH.meet hs a b) (tm (t_B (g_any (xs := LH.hand hs a) (q := fun t => (LH.hand hs b).contains t) (g_lc0 (enc := dN) (w_tup (g_op (g_var rfl) (g_var rfl) (rv_ixT (hand_at hal)))) (by have := hv.handLen a; omega) (is := [4]) (by decide) (fun x _ => gt_name)
        (fun x _ => g_op (g_var rfl) (g_op (g_var rfl) (g_var rfl) (rv_ixT (hand_at hbl))) rv_inT))))) (fun h => ?_) (fun h => ?_)
      · refine p_app (em (g_tup (a_cons (g_var rfl) (a_cons (g_var rfl) a_nil)) (by simp))) ?_ (p_done (.keep (.keep (.keep (.drop (.keep .nil))))) ?_)
        · have z : ∀ l : List Nat, (l.flatMap row).length ≤ l.length * 8 := fun l => by
            induction l with
            | nil => simp
            | cons x l ih =>
              rw [List.flatMap_cons, List.length_append, List.length_cons]
              have : (row x).length ≤ 8 := by
                show (List.map _ (List.filter _ _)).length ≤ 8
                rw [List.length_map]
                refine Nat.le_trans (List.length_filter_le _ _) ?_
                simp; omega
              omega
          have z1 := z ((List.range hs.length).take i)
          have z2 : ((List.range hs.length).take i).length ≤ 4 := by simp; omega
          have z3 : (((((List.range (hs.length - (a + 1))).map fun i => a + 1 + i).take j).filter fun b => LH.meet hs a b).map fun b => (a, b)).length ≤ 4 := by
            rw [List.length_map]
            refine Nat.le_trans (List.length_filter_le _ _) ?_
            simp; omega
          rw [List.length_map, List.length_append]
          omega
        · rw [take_filter hb, h]
          simp
      · refine p_next (p_done (.keep (.keep (.keep (.drop (.keep .nil))))) ?_)
        rw [take_filter hb, h]
        simp
    · refine p_done (.keep (.keep (.drop (.keep (.keep .nil))))) ?_
      rw [take_all, take_flat ha]
  · refine p_give (p_ret (em (g_var rfl)) ?_)
    rw [take_all]
    exact hrt
theorem sc20 : FnScope ["hands"] ["hands"] (defScope (topS 20)) := ⟨rfl, rfl, rfl, by decide +kernel, rfl, by decide +kernel, by decide +kernel⟩
def R_end_in (ds : List D) (r : D) : Prop := ∃ hs, ds = [dH hs] ∧ LH.Valid hs ∧ r = .bl (LH.isEnd hs)
theorem cl_end_in (F : Std K mg "end_in" (topS 20) ["hands"]) (c1 : Cl P w K mg base 1 "pairs_in" R_pairs) : Cl P w K mg base 2 "end_in" R_end_in := by
  refine cl_of F sc20 (by rintro ds r ⟨hs, rfl, _⟩; rfl) fun f cdv A outer s H E hr => ⟨_, pss_one (ps_ret (pe_cmpR (op_eqD hr.units) (pe_cl c1 hr (by decide) (by rfl) (pa_cons (pv 0) pa_nil)) (pe_lst pa_nil) (nomark _))), ?_⟩
  rintro ds r ⟨hs, rfl, hv, rfl⟩ C D hC hrt hnx
  refine p_ret (em ((g_op (g_call (a_cons (g_var rfl) a_nil) ⟨hs, rfl, hv, rfl⟩) (g_lst a_nil (by simp)) (rv_eqD (a := LH.pairsOf hs) (b := []) encPs)).is ?_)) hrt
  unfold LH.isEnd
  cases LH.pairsOf hs <;> simp

/-! ### losers and steps -/
theorem sc29 : FnScope ["one", "other", "person"] ["one", "other"] (defScope (topS 29)) := ⟨rfl, rfl, rfl, by decide +kernel, rfl, by decide +kernel, by decide +kernel⟩
def R_losers_in (ds : List D) (r : D) : Prop := ∃ hs e, ds = [dH hs, dH e] ∧ LH.Valid hs ∧ e.length = hs.length ∧ r = dL (LH.losers hs e)
theorem cl_losers_in (T : Bt mg) (F : Std K mg "losers_in" (topS 29) ["one", "other"]) : Cl P w K mg base 1 "losers_in" R_losers_in := by
  refine cl_of F sc29 (by rintro ds r ⟨hs, e, rfl, _⟩; rfl) fun f cdv A outer s H E hr => ⟨_, pss_one (ps_ret (pe_lc (own := [("person", 2)]) (g := gName 2) (tt := tTest (tOp (rNeD K) (tOp (rIxT K) (tVar 0) (tVar 2)) (tOp (rIxT K) (tVar 1) (tVar 2)))) rfl sc29.nd (pi_range1 (by rfl) T.range (pa_cons (pe_callB call_len_seq (by rfl) T.len PySem.boot_len (pa_cons (pv 0) pa_nil)) pa_nil))
    (blkOk_by (N := ["one", "other", "person"]) (sc := defScope (topS 29)) (by decide +kernel)) (fun _ _ _ _ _ => pg_name (i := 2) sc29.nd rfl (.inl rfl))
    (fun _ _ _ _ _ => pts_one (pt_cmpR (op_neD hr.units) (pe_ix ix_tup (pv 0) (pv 2) (fun _ _ => rfl)) (pe_ix ix_tup (pv 1) (pv 2) (fun _ _ => rfl)) (nomark _))) (fun _ _ _ _ _ => pv 2))), ?_⟩
  rintro ds r ⟨hs, e, rfl, hv, hl, rfl⟩ C D hC hrt hnx
  have h4 := hv.le
  refine p_ret (em ((g_lc (xs := List.range hs.length) (enc := dN) (p := fun p => LH.hand hs p != LH.hand e p) (f := dN) (w_range1 (n := hs.length) (a_cons ((g_cb (a_cons (g_var rfl) a_nil) (rc_len (.inr rfl))).is (by rw [List.length_map])) a_nil) (by omega)) (by simp; omega) (is := [2]) (by decide)
    (fun x _ => gt_name) (fun x hx => (t_test (g_op (g_op (g_var rfl) (g_var rfl) (rv_ixT (hand_at (by simpa using hx)))) (g_op (g_var rfl) (g_var rfl) (rv_ixT (hand_at (by rw [hl]; simpa using hx)))) (rv_neD encT))).is ?_) (fun x _ _ => g_var rfl)).is rfl)) hrt
  by_cases h : LH.hand hs x = LH.hand e x <;> simp [h]
end
end LW

set_option Elab.async false
set_option linter.all false
set_option maxRecDepth 100000
set_option maxHeartbeats 4000000
/-! steps of two hands; calls at once; choices -/
namespace LW
open PySem PySem.Spec PyProof.Rows L2 FW
theorem flat_len {α β : Type} {f : α → List β} {k : Nat} (h : ∀ x, (f x).length ≤ k) : ∀ l : List α, (l.flatMap f).length ≤ l.length * k
  | [] => by simp
  | x :: l => by
    have a := flat_len h l
    have b := h x
    have e : (l.length + 1) * k = l.length * k + k := Nat.succ_mul _ _
    rw [List.flatMap_cons, List.length_append, List.length_cons, e]
    omega
theorem flat_len' {α β : Type} {f : α → List β} {k : Nat} : ∀ {l : List α}, (∀ x ∈ l, (f x).length ≤ k) → (l.flatMap f).length ≤ l.length * k
  | [], _ => by simp
  | x :: l, h => by
    have a := flat_len' (l := l) fun y hy => h y (List.mem_cons_of_mem _ hy)
    have b := h x (by simp)
    have e : (l.length + 1) * k = l.length * k + k := Nat.succ_mul _ _
    rw [List.flatMap_cons, List.length_append, List.length_cons, e]
    omega
theorem holders_len {hs : LH.Hs} {t : Nat} : (LH.holders hs t).length ≤ hs.length := by
  unfold LH.holders
  exact Nat.le_trans (List.length_filter_le _ _) (by simp)
section
variable {P : Program} {w : World} {K : PySem.W.Frag} {mg : Str → Option Value} {base : Heap}
theorem sc30 : FnScope ["one", "other", "some", "found", "keeper", "thing", "person"] ["one", "other"] (defScope (topS 30)) := ⟨rfl, rfl, rfl, by decide +kernel, rfl, by decide +kernel, by decide +kernel⟩
def R_steps_in (ds : List D) (r : D) : Prop := ∃ hs e, ds = [dH hs, dH e] ∧ LH.Valid hs ∧ LH.Valid e ∧ e.length = hs.length ∧ r = dPs (LH.stepsIn hs e)
theorem cl_steps_in (T : Bt mg) (F : Std K mg "steps_in" (topS 30) ["one", "other"]) (c1 : Cl P w K mg base 1 "losers_in" R_losers_in) (c2 : Cl P w K mg base 1 "holders_in" R_holders) : Cl P w K mg base 2 "steps_in" R_steps_in := by
  refine cl_of F sc30 (by rintro ds r ⟨hs, e, rfl, _⟩; rfl) fun f cdv A outer s H E hr => ⟨_, pss_cons (ps_par (i := 2) (j := 3) rfl sc30.nd rfl rfl (by decide) rfl rfl (pa_cons (pe_cl c1 hr (by decide) (by rfl) (pa_cons (pv 0) (pa_cons (pv 1) pa_nil))) (pa_cons (pe_lst pa_nil) pa_nil)) (by rfl))
    (pss_cons (ps_for PassesOwn.never rfl (pi_list (pv 2)) (pg_name (i := 4) sc30.nd rfl (.inr rfl))
      (pss_one (ps_for PassesOwn.never rfl (pi_tup (pe_ix ix_tup (pv 1) (pv 4) (fun _ _ => rfl))) (pg_name (i := 5) sc30.nd rfl (.inl rfl))
        (pss_one (ps_expr (pe_bm PySem.F.plainAttrs_list PySem.F.slot_list_extend PySem.F.type_list_extend mt_extend (pv 3) (pa_cons (pe_lc (own := [("person", 6)]) (g := gName 6) (tt := tTest (tOp rNe (tVar 6) (tVar 4))) (te := tTup (tCons (tVar 6) (tCons (tVar 4) tNil))) rfl sc30.nd (pi_list (pe_cl c2 hr (by decide) (by rfl) (pa_cons (pv 0) (pa_cons (pv 5) pa_nil))))
            (blkOk_by (N := ["one", "other", "some", "found", "keeper", "thing", "person"]) (sc := defScope (topS 30)) (by decide +kernel)) (fun _ _ _ _ _ => pg_name (i := 6) sc30.nd rfl (.inl rfl)) (fun _ _ _ _ _ => pts_one (pt_cmpR op_ne (pv 6) (pv 4) (nomark _))) (fun _ _ _ _ _ => pe_tup (pa_cons (pv 6) (pa_cons (pv 4) pa_nil)))) pa_nil)))))))
    (pss_one (ps_ret (pv 3)))), ?_⟩
  rintro ds r ⟨hs, e, rfl, hv, hve, hl, rfl⟩ C D hC hrt hnx
  have h4 := hv.le
  have h7 : hs.length ≤ 7 := by omega
  let cell := fun (k t : Nat) => ((LH.holders hs t).filter (· != k)).map fun p => (p, k)
  let row := fun k : Nat => (LH.hand e k).flatMap (cell k)
  have cl : ∀ k t, (cell k t).length ≤ 4 := fun k t => by
    show (List.map _ (List.filter _ _)).length ≤ 4
    rw [List.length_map]
    exact Nat.le_trans (List.length_filter_le _ _) (Nat.le_trans holders_len h4)
  have rl : ∀ k, (row k).length ≤ 32 := fun k => by
    have a := flat_len (cl k) (LH.hand e k)
    have b := hve.handLen k
    show ((LH.hand e k).flatMap (cell k)).length ≤ 32
    omega
  have ll := LH.losers_le (hs := hs) (e := e)
  refine p_seq (p_parl (em (g_call (a_cons (g_var rfl) (a_cons (g_var rfl) a_nil)) ⟨hs, e, rfl, hv, hl, rfl⟩)) (p_seq ?_))
  refine p_for (xs := LH.losers hs e) (enc := dN) (is := [4]) (fun i => [some (dH hs), some (dH e), some (dL (LH.losers hs e)), none, none, none, none]) (fun i => [(3, .l ((((LH.losers hs e).take i).flatMap row).map dP))]) (fun i x => [some (dH hs), some (dH e), some (dL (LH.losers hs e)), none, some (dN x), none, none])
    (w_list (g_var rfl)) (Sub.refl _) rfl (fun i x _ => gt_name) (by simp) ?_ ?_
  · intro Bl i k hk
    have hkl : k < e.length := by
      have := (LH.mem_losers.mp (List.mem_of_getElem? hk)).1
      omega
    refine p_for (xs := LH.hand e k) (enc := dN) (is := [5]) (fun j => [some (dH hs), some (dH e), some (dL (LH.losers hs e)), none, some (dN k), none, none]) (fun j => [(3, .l ((((LH.losers hs e).take i).flatMap row ++ ((LH.hand e k).take j).flatMap (cell k)).map dP))])
      (fun j t => [some (dH hs), some (dH e), some (dL (LH.losers hs e)), none, some (dN k), some (dN t), none]) (w_tup (g_op (g_var rfl) (g_var rfl) (rv_ixT (hand_at hkl)))) (Sub.refl _) ?_ (fun i x _ => gt_name) (by simp) ?_ ?_
    · simp
    · intro Bl j t ht
      have b1 := flat_len rl ((LH.losers hs e).take i)
      have b2 := flat_len (cl k) ((LH.hand e k).take j)
      have b3 : ((LH.losers hs e).take i).length ≤ 4 := by simp; omega
      have b4 : ((LH.hand e k).take j).length ≤ 8 := by have := hve.handLen k; simp; omega
      refine p_ext (es := (cell k t).map dP) ((g_lc (xs := LH.holders hs t) (enc := dN) (p := fun p => p != k) (f := fun p => dP (p, k)) (w_list (g_call (a_cons (g_var rfl) (a_cons (g_var rfl) a_nil)) ⟨hs, t, rfl, h7, rfl⟩)) (by have := holders_len (hs := hs) (t := t); omega) (is := [6]) (by decide)
        (fun x _ => gt_name) (fun x _ => (t_test (g_op (g_var rfl) (g_var rfl) rv_neN)).is ?_) (fun x _ _ => g_tup (a_cons (g_var rfl) (a_cons (g_var rfl) a_nil)) (by simp))).is ?_) ?_ (p_done (.keep (.keep (.keep (.keep (.keep (.drop (.keep .nil))))))) ?_)
      · by_cases h : x = k <;> simp [h]
      · show FW.D.lst _ = FW.D.lst (List.map dP (List.map (fun p => (p, k)) _))
        rw [List.map_map]; rfl
      · have := cl k t
        rw [List.length_map, List.length_map, List.length_append]
        omega
      · rw [take_flat ht]; simp
    · refine p_done (.keep (.keep (.keep (.keep (.drop (.keep (.keep .nil))))))) ?_
      rw [take_all, take_flat hk]
  · refine p_give (p_ret (em (g_var rfl)) ?_)
    rw [take_all]
    exact hrt

/-! ### calls at once -/
theorem sc47 : FnScope ["hands", "people", "found", "person", "hand", "away", "thing"] ["hands", "people"] (defScope (topS 47)) := ⟨rfl, rfl, rfl, by decide +kernel, rfl, by decide +kernel, by decide +kernel⟩
def R_together (ds : List D) (r : D) : Prop := ∃ hs S, ds = [dH hs, dT S] ∧ LH.Valid hs ∧ r = dH (LH.together hs S)
theorem cl_together (T : Bt mg) (F : Std K mg "together_in" (topS 47) ["hands", "people"]) (c1 : Cl P w K mg base 2 "spare_in" R_spare) : Cl P w K mg base 3 "together_in" R_together := by
  refine cl_of F sc47 (by rintro ds r ⟨hs, S, rfl, _⟩; rfl) fun f cdv A outer s H E hr => ⟨_, pss_cons (ps_set (i := 2) sc47.nd rfl (.inl rfl) (pe_lst pa_nil))
    (pss_cons (ps_for PassesOwn.never rfl (pi_enumT (by rfl) T.enumerate (pa_cons (pv 0) pa_nil)) (pg_tup rfl (pgs_cons (pg_name (i := 3) sc47.nd rfl (.inl rfl)) (pgs_cons (pg_name (i := 4) sc47.nd rfl (.inl rfl)) pgs_nil)))
      (pss_cons (ps_set (i := 5) sc47.nd rfl (.inr rfl) (pe_ifExp (pt_cmpR op_in_seq (pv 3) (pv 1) rfl) (pe_cl c1 hr (by decide) (by rfl) (pa_cons (pv 0) (pa_cons (pv 3) pa_nil))) (pe_lst pa_nil)))
        (pss_one (ps_expr (pe_bm PySem.F.plainAttrs_list PySem.F.slot_list_append PySem.F.type_list_append mt_append (pv 2) (pa_cons (pe_callTy call_tuple_of (by rfl) T.tuple boot_tuple (pa_cons (pe_lc (own := [("thing", 6)]) (g := gName 6) (tt := tTest (tNi K (tVar 6) (tVar 5))) (te := tVar 6) rfl sc47.nd (pi_tup (pv 4))
            (blkOk_by (N := ["hands", "people", "found", "person", "hand", "away", "thing"]) (sc := defScope (topS 47)) (by decide +kernel)) (fun _ _ _ _ _ => pg_name (i := 6) sc47.nd rfl (.inl rfl)) (fun _ _ _ _ _ => pts_one (pt_cmpR op_notIn_seq (pv 6) (pv 5) rfl)) (fun _ _ _ _ _ => pv 6)) pa_nil)) pa_nil))))))
    (pss_one (ps_ret (pe_callTy call_tuple_of (by rfl) T.tuple boot_tuple (pa_cons (pv 2) pa_nil))))), ?_⟩
  rintro ds r ⟨hs, S, rfl, hv, rfl⟩ C D hC hrt hnx
  have h4 := hv.le
  let away := fun p : Nat => if S.contains p then LH.spare hs p else []
  let fx := fun x : Nat × List Nat => x.2.filter fun t => !(away x.1).contains t
  refine p_seq (p_newl a_nil (by simp) (p_seq ?_))
  refine p_for (xs := (List.range hs.length).zip hs) (enc := dE dT) (is := [3, 4]) (fun i => [some (dH hs), some (dT S), none, none, none, none, none]) (fun i => [(2, .l (((((List.range hs.length).zip hs).take i).map fx).map dT))]) (fun i x => [some (dH hs), some (dT S), none, some (dN x.1), some (dT x.2), none, none])
    (w_enumT (a_cons (g_var rfl) a_nil)) (Sub.refl _) rfl (fun i x _ => gt_pair) (by simp) ?_ ?_
  · intro Bl i x hx
    have hm := List.mem_of_getElem? hx
    rw [zip_range] at hm
    obtain ⟨p, hp, rfl⟩ := List.mem_map.mp hm
    have hp : p < hs.length := by simpa using hp
    refine p_seq (p_asg (d := dL (away p)) (em (g_if (b := S.contains p) (t_test (g_op (g_var rfl) (g_var rfl) rv_inT)) (fun h => ?_) (fun h => ?_))) ?_)
    · refine (g_call (a_cons (g_var rfl) (a_cons (g_var rfl) a_nil)) ⟨hs, p, rfl, hv, hp, rfl⟩).is ?_
      show dL (LH.spare hs p) = dL (if S.contains p then LH.spare hs p else [])
      rw [h]; rfl
    · refine (g_lst a_nil (by simp)).is ?_
      show FW.D.lst [] = dL (if S.contains p then LH.spare hs p else [])
      rw [h]; rfl
    · refine p_app (d := dT (fx (p, LH.hand hs p))) (em (g_cb (a_cons (g_lc (xs := LH.hand hs p) (enc := dN) (p := fun t => !(away p).contains t) (f := dN) (w_tup (g_var rfl)) (by have := hv.handLen p; omega) (is := [6]) (by decide)
        (fun x _ => gt_name) (fun x _ => t_test (g_op (g_var rfl) (g_var rfl) rv_niL)) (fun x _ _ => g_var rfl)) a_nil) rc_tuple)) (by simp; omega) (p_done (.keep (.keep (.keep (.drop (.drop (.drop (.keep .nil))))))) ?_)
      rw [take_map hx]; simp
  · refine p_give (p_ret (em (g_cb (a_cons (g_var rfl) a_nil) rc_tuple)) ?_)
    have e : ((List.range hs.length).map fun p => (p, LH.hand hs p)).map fx = LH.together hs S := by rw [List.map_map]; rfl
    rw [take_all, zip_range, e]
    exact hrt
theorem sc44 : FnScope ["many", "found", "person", "row"] ["many"] (defScope (topS 44)) := ⟨rfl, rfl, rfl, by decide +kernel, rfl, by decide +kernel, by decide +kernel⟩
def R_choices (ds : List D) (r : D) : Prop := ∃ n, ds = [dN n] ∧ n ≤ 7 ∧ r = dLT (LH.choices n)
theorem cl_choices (T : Bt mg) (F : Std K mg "choices" (topS 44) ["many"]) : Cl P w K mg base 1 "choices" R_choices := by
  refine cl_of F sc44 (by rintro ds r ⟨n, rfl, _⟩; rfl) fun f cdv A outer s H E hr => ⟨_, pss_cons (ps_set (i := 1) sc44.nd rfl (.inl rfl) (pe_lst (pa_cons (pe_tup pa_nil) pa_nil)))
    (pss_cons (ps_for PassesOwn.never rfl (pi_range1 (by rfl) T.range (pa_cons (pv 0) pa_nil)) (pg_name (i := 2) sc44.nd rfl (.inr rfl))
      (pss_one (ps_expr (pe_bm PySem.F.plainAttrs_list PySem.F.slot_list_extend PySem.F.type_list_extend mt_extend (pv 1) (pa_cons (pe_lc (own := [("row", 3)]) (g := gName 3) (tt := tYes) (te := tTup (StX.tStar K (tVar 3) (tCons (tVar 2) tNil))) rfl sc44.nd (pi_list (pv 1))
            (blkOk_by (N := ["many", "found", "person", "row"]) (sc := defScope (topS 44)) (by decide +kernel)) (fun _ _ _ _ _ => pg_name (i := 3) sc44.nd rfl (.inl rfl)) (fun _ _ _ _ _ => pts_nil) (fun _ _ _ _ _ => pe_tup (StX.pa_star (pv 3) (pa_cons (pv 2) pa_nil)))) pa_nil)))))
    (pss_one (ps_ret (pv 1)))), ?_⟩
  rintro ds r ⟨n, rfl, hn, rfl⟩ C D hC hrt hnx
  refine p_seq (p_newl (ds := [dT []]) (a_cons (g_tup a_nil (by simp)) a_nil) (by simp) (p_seq ?_))
  refine p_for (xs := List.range n) (enc := dN) (is := [2]) (fun i => [some (dN n), none, none, none]) (fun i => [(1, .l ((LH.choices i).map dT))]) (fun i x => [some (dN n), none, some (dN x), none])
    (w_range1 (a_cons (g_var rfl) a_nil) (by omega)) (Sub.refl _) rfl (fun i x _ => gt_name) (by simp) ?_ ?_
  · intro Bl i x hx
    have hlt := range_lt hx
    have e1 : x = i := by
      have := (List.getElem?_eq_some_iff.mp hx).2
      simpa using this.symm
    subst e1
    have hc : (LH.choices x).length ≤ 128 := by
      rw [LH.choices_len]
      exact Nat.le_trans (Nat.pow_le_pow_right (by decide) (by omega : x ≤ 7)) (by decide)
    refine p_extS (es := ((LH.choices x).map (· ++ [x])).map dT) (fun σ B H a Q q => ?_) (by simp; omega) (p_done (.keep (.keep (.drop (.keep .nil)))) ?_)
    · refine lc_at (xs := LH.choices x) (enc := dT) (p := fun _ => true) (f := fun S => dT (S ++ [x])) (Gx := fun S => [some (dN n), none, some (dN x), some (dT S)]) (by omega) (is := [3]) (by decide) (fun S _ => gt_name) (fun _ _ => tt_yes) (fun S _ _ => (g_tup (a_star (.inl (g_var rfl)) (a_cons (g_var rfl) a_nil)) ?_).is ?_) a.env a.frm.kh (w_own a) Q fun v B2 H2 f2 k2 => q v B2 H2 f2 ?_
      · have : S.length ≤ 7 := by
          have := LH.mem_choices.mp ‹S ∈ LH.choices x›
          have h8 := LH.asc_len8 this.1 fun t ht => by have := this.2 t ht; omega
          have hsub := List.Nodup.length_le_of_subset (LH.asc_nodup this.1) (l₂ := List.range x) fun t ht => by simpa using this.2 t ht
          simp at hsub; omega
        simp; omega
      · show FW.D.tup _ = FW.D.tup (List.map dN (S ++ [x]))
        rw [List.map_append]; rfl
      · rw [List.filter_eq_self.mpr (fun _ _ => rfl)] at k2
        rw [List.map_map]; exact k2
    · show [(1, Ow.l ((LH.choices x ++ (LH.choices x).map (· ++ [x])).map dT))] = _
      rw [List.map_append]
  · refine p_give (p_ret (em (g_var rfl)) ?_)
    rw [List.length_range]
    exact hrt
end
end LW

set_option Elab.async false
set_option linter.all false
set_option maxRecDepth 100000
set_option maxHeartbeats 4000000
/-! hands that are right; things; rings -/
namespace LW
open PySem PySem.Spec PyProof.Rows L2 FW
structure Nm (mg : Str → Option Value) : Prop where
  people : ∃ t, mg "MOST_PEOPLE" = some (.int 7 t)
  kinds : ∃ t, mg "MOST_THINGS" = some (.int 8 t)
  plan : ∃ t, mg "MOST_PLAN" = some (.int 20 t)
def blkIn (f : Stmt → Option Scope) (i : Nat) : Scope := (f (topS i)).getD (defScope (topS i))
theorem blk_in {N : List Str} {sc scope : Scope} {own : List (Str × Nat)} (h : BlkOk N sc scope own) {env : Env} : BlkOk N (relabel sc env) scope own := by
  refine ⟨h.kind, h.uniq, h.ix, fun y hy e => ?_, h.own⟩
  have key : ∀ {names : List (Str × NameKind)} {x : Str}, (names.lookup x = some .cell ∨ names.lookup x = some .free) → (names.map fun (n, k) => if (k == NameKind.free && env.scope.kind == .function && env.kindOf n == some .cell) then (n, NameKind.cell) else (n, k)).lookup x = some .cell ∨ (names.map fun (n, k) => if (k == NameKind.free && env.scope.kind == .function && env.kindOf n == some .cell) then (n, NameKind.cell) else (n, k)).lookup x = some .free := by
    intro names x
    induction names with
    | nil => intro h; simp at h
    | cons q r ih =>
      obtain ⟨n, k⟩ := q
      intro h
      show List.lookup x ((if (k == NameKind.free && env.scope.kind == .function && env.kindOf n == some .cell) = true then (n, NameKind.cell) else (n, k)) :: _) = _ ∨ List.lookup x ((if (k == NameKind.free && env.scope.kind == .function && env.kindOf n == some .cell) = true then (n, NameKind.cell) else (n, k)) :: _) = _
      cases hx : x == n with
      | true =>
        simp only [List.lookup_cons, hx] at h
        by_cases hc : (k == NameKind.free && env.scope.kind == .function && env.kindOf n == some .cell) = true
        · rw [if_pos hc]; left; simp only [List.lookup_cons, hx]
        · rw [if_neg hc]; simp only [List.lookup_cons, hx]; exact h
      | false =>
        simp only [List.lookup_cons, hx] at h
        by_cases hc : (k == NameKind.free && env.scope.kind == .function && env.kindOf n == some .cell) = true
        · rw [if_pos hc]; simp only [List.lookup_cons, hx]; exact ih h
        · rw [if_neg hc]; simp only [List.lookup_cons, hx]; exact ih h
  exact key (h.free y hy e)
section
variable {P : Program} {w : World} {K : PySem.W.Frag} {mg : Str → Option Value} {base : Heap}
theorem sc13 : FnScope ["value", "thing"] ["value"] (defScope (topS 13)) := ⟨rfl, rfl, rfl, by decide +kernel, rfl, by decide +kernel, by decide +kernel⟩
def R_is_hand (ds : List D) (r : D) : Prop := ∃ h : List Nat, ds = [dT h] ∧ h.Pairwise (· < ·) ∧ (∀ t ∈ h, t < 8) ∧ r = .bl true
theorem cl_is_hand (T : Bt mg) (Z : Nm mg) (F : Std K mg "is_hand" (topS 13) ["value"]) (c1 : Cl P w K mg base 1 "is_list" R_is_list) (c2 : Cl P w K mg base 2 "is_in" R_is_in) : Cl P w K mg base 3 "is_hand" R_is_hand := by
  obtain ⟨tz, hz⟩ := Z.kinds
  refine cl_of F sc13 (by rintro ds r ⟨h, rfl, _⟩; rfl) fun f cdv A outer s H E hr => ⟨_, pss_cons (ps_if (PW.pt (pw_or (pt_not (pt_val (pe_cl c1 hr (by decide) (by rfl) (pa_cons (pv 0) (pa_cons pe_int (pa_cons (pe_glob (v := .int 8) (by rfl) hz ⟨tz, rfl⟩) pa_nil))))))
      (pw_or1 (pt_not (pt_val (pe_callB (cr_all rfl) (by rfl) T.all (by decide +kernel) (pa_cons (pe_lc (own := [("thing", 1)]) (g := gName 1) (tt := tYes) (te := tCall (SpR R_is_in) [] E0 (tCons (tVar 1) (tCons (tC (.int 0)) (tCons (tOp (rI0 fun i j => .int (i - j)) (tC (.int 8)) (tC (.int 1))) tNil)))) rfl sc13.nd (pi_tup (pv 0))
        (blkOk_by (N := ["value", "thing"]) (sc := defScope (topS 13)) (by decide +kernel)) (fun _ _ _ _ _ => pg_name (i := 1) sc13.nd rfl (.inl rfl)) (fun _ _ _ _ _ => pts_nil) (fun _ _ _ _ _ => pe_cl c2 hr (by decide) (by rfl) (pa_cons (pv 1) (pa_cons pe_int (pa_cons (pe_op op_sub (pe_glob (v := .int 8) (by rfl) hz ⟨tz, rfl⟩) pe_int) pa_nil))))) pa_nil)))))))
      pss_never pss_nil)
    (pss_one (ps_ret (pe_cmpR (op_eqD hr.units) (pe_callTy call_list_of (by rfl) T.list boot_list (pa_cons (pv 0) pa_nil)) (pe_callB (cr_sortedSet rfl) (by rfl) T.sorted (by decide +kernel) (pa_cons (pe_callTy (cr_setI rfl) (by rfl) T.set PyProof.Rows.boot_set (pa_cons (pv 0) pa_nil)) pa_nil)) (nomark _)))), ?_⟩
  rintro ds r ⟨h, rfl, ha, hb, rfl⟩ C D hC hrt hnx
  have h8 := LH.asc_len8 ha hb
  refine p_seq (p_if (b := false) (tm ((t_or (t_not (t_B (g_call (a_cons (g_var rfl) (a_cons g_int (a_cons g_int a_nil))) ⟨_, _, _, rfl, rfl⟩))) fun _ => t_not (t_B (g_all (xs := h) (q := fun _ => true) (g_lc0 (enc := dN) (w_tup (g_var rfl)) (by omega) (is := [1]) (by decide) (fun x _ => gt_name)
      (fun x hx => (g_call (a_cons (g_var rfl) (a_cons g_int (a_cons (g_op g_int g_int rv_i) a_nil))) ⟨_, _, _, rfl, rfl⟩).is ?_))))).is ?_)) (fun h => nomatch h) fun _ => ?_)
  · have := hb x hx
    congr 1
    rw [Bool.and_eq_true]
    exact ⟨decide_eq_true (by omega), decide_eq_true (by omega)⟩
  · rw [List.length_map]
    have e1 : (decide ((0 : Int) ≤ (h.length : Int)) && decide ((h.length : Int) ≤ 8)) = true := by rw [Bool.and_eq_true]; exact ⟨decide_eq_true (by omega), decide_eq_true (by omega)⟩
    rw [e1]
    simp
  · refine p_next (p_ret (em ((g_op (g_cb (a_cons (g_var rfl) a_nil) (rc_list (.inr rfl))) (g_sset (K := K) (w := w) (ns := h) (ms := h) (.inr (g_var rfl)) ha (fun _ => Iff.rfl) (by omega) (by omega)) (rv_eqD (a := h) (b := h) encL)).is (by rw [decide_eq_true rfl]))) hrt)
theorem sc14 : FnScope ["hands", "index", "hand"] ["hands"] (defScope (topS 14)) := ⟨rfl, rfl, rfl, by decide +kernel, rfl, by decide +kernel, by decide +kernel⟩
def R_need_hands (ds : List D) (r : D) : Prop := ∃ hs, ds = [dH hs] ∧ LH.Valid hs ∧ r = .non
theorem cl_need_hands (T : Bt mg) (Z : Nm mg) (F : Std K mg "need_hands" (topS 14) ["hands"]) (c1 : Cl P w K mg base 1 "is_list" R_is_list) (c2 : Cl P w K mg base 3 "is_hand" R_is_hand) : Cl P w K mg base 4 "need_hands" R_need_hands := by
  obtain ⟨tz, hz⟩ := Z.people
  refine cl_of F sc14 (by rintro ds r ⟨h, rfl, _⟩; rfl) fun f cdv A outer s H E hr => ⟨_, pss_cons (ps_if (pt_not (pt_val (pe_cl c1 hr (by decide) (by rfl) (pa_cons (pv 0) (pa_cons pe_int (pa_cons (pe_glob (v := .int 7) (by rfl) hz ⟨tz, rfl⟩) pa_nil)))))) pss_never pss_nil)
    (pss_one (ps_for PassesOwn.never rfl (pi_enumT (by rfl) T.enumerate (pa_cons (pv 0) pa_nil)) (pg_tup rfl (pgs_cons (pg_name (i := 1) sc14.nd rfl (.inl rfl)) (pgs_cons (pg_name (i := 2) sc14.nd rfl (.inl rfl)) pgs_nil)))
      (pss_one (ps_if (pt_not (pt_val (pe_cl c2 hr (by decide) (by rfl) (pa_cons (pv 2) pa_nil)))) pss_never pss_nil)))), ?_⟩
  rintro ds r ⟨hs, rfl, hv, rfl⟩ C D hC hrt hnx
  have h4 := hv.le
  have h1 := hv.pos
  refine p_seq (p_if (b := false) (tm ((t_not (t_B (g_call (a_cons (g_var rfl) (a_cons g_int (a_cons g_int a_nil))) ⟨_, _, _, rfl, rfl⟩))).is ?_)) (fun h => nomatch h) fun _ => p_next ?_)
  · rw [List.length_map]
    have e1 : (decide ((1 : Int) ≤ (hs.length : Int)) && decide ((hs.length : Int) ≤ 7)) = true := by rw [Bool.and_eq_true]; exact ⟨decide_eq_true (by omega), decide_eq_true (by omega)⟩
    rw [e1]
    rfl
  · refine p_for (xs := (List.range hs.length).zip hs) (enc := dE dT) (is := [1, 2]) (fun i => [some (dH hs), none, none]) (fun i => []) (fun i x => [some (dH hs), some (dN x.1), some (dT x.2)]) (w_enumT (a_cons (g_var rfl) a_nil)) (Sub.refl _) rfl (fun i x _ => gt_pair) (by simp) ?_ ?_
    · intro Bl i x hx
      have hm := List.mem_of_getElem? hx
      have hm2 : x.2 ∈ hs := (List.of_mem_zip hm).2
      exact p_if (b := false) (tm ((t_not (t_B (g_call (a_cons (g_var rfl) a_nil) ⟨x.2, rfl, hv.asc _ hm2, hv.lt _ hm2, rfl⟩))).is rfl)) (fun h => nomatch h) fun _ => p_next (p_done (.keep (.drop (.drop .nil))) rfl)
    · exact fun σ H ⟨B, a⟩ => hnx σ B H a.frm .non
theorem sc15 : FnScope ["one", "other"] ["one", "other"] (defScope (topS 15)) := ⟨rfl, rfl, rfl, by decide +kernel, rfl, by decide +kernel, by decide +kernel⟩
def R_need_two (ds : List D) (r : D) : Prop := ∃ hs e, ds = [dH hs, dH e] ∧ LH.Valid hs ∧ LH.Valid e ∧ e.length = hs.length ∧ r = .non
theorem cl_need_two (T : Bt mg) (F : Std K mg "need_two" (topS 15) ["one", "other"]) (c1 : Cl P w K mg base 4 "need_hands" R_need_hands) : Cl P w K mg base 5 "need_two" R_need_two := by
  refine cl_of F sc15 (by rintro ds r ⟨h, e, rfl, _⟩; rfl) fun f cdv A outer s H E hr => ⟨_, pss_cons (ps_expr (pe_cl c1 hr (by decide) (by rfl) (pa_cons (pv 0) pa_nil))) (pss_cons (ps_expr (pe_cl c1 hr (by decide) (by rfl) (pa_cons (pv 1) pa_nil)))
    (pss_one (ps_if (pt_cmpR op_ne (pe_callB call_len_seq (by rfl) T.len PySem.boot_len (pa_cons (pv 0) pa_nil)) (pe_callB call_len_seq (by rfl) T.len PySem.boot_len (pa_cons (pv 1) pa_nil)) (nomark _)) pss_never pss_nil))), ?_⟩
  rintro ds r ⟨hs, e, rfl, hv, hve, hl, rfl⟩ C D hC hrt hnx
  refine p_seq (p_drop (em (g_call (a_cons (g_var rfl) a_nil) ⟨hs, rfl, hv, rfl⟩)) (p_seq (p_drop (em (g_call (a_cons (g_var rfl) a_nil) ⟨e, rfl, hve, rfl⟩)) (p_if (b := false) (tm ((t_test (g_op (g_cb (a_cons (g_var rfl) a_nil) (rc_len (.inr rfl))) (g_cb (a_cons (g_var rfl) a_nil) (rc_len (.inr rfl))) rv_neN)).is ?_)) (fun h => nomatch h) fun _ => p_next ?_))))
  · rw [List.length_map, List.length_map, hl]; simp
  · exact fun σ H ⟨B, a⟩ => hnx σ B H a.frm .non
theorem sc16 : FnScope ["hands", "hand", "thing"] ["hands"] (defScope (topS 16)) := ⟨rfl, rfl, rfl, by decide +kernel, rfl, by decide +kernel, by decide +kernel⟩
def R_things (ds : List D) (r : D) : Prop := ∃ hs, ds = [dH hs] ∧ LH.Valid hs ∧ r = dL (LH.things hs)
theorem cl_things (T : Bt mg) (F : Std K mg "things_in" (topS 16) ["hands"]) : Cl P w K mg base 1 "things_in" R_things := by
  refine cl_of F sc16 (by rintro ds r ⟨hs, rfl, _⟩; rfl) fun f cdv A outer s H E hr => ⟨_, pss_one (ps_ret (pe_callB (cr_sortedSet rfl) (by rfl) T.sorted (by decide +kernel) (pa_cons (pe_callTy (cr_setI rfl) (by rfl) T.set PyProof.Rows.boot_set (pa_cons (pe_lc2 (own := [("hand", 1), ("thing", 2)]) (vs1 := [2]) (g := gName 1) (tt := tYes) (wi1 := iTup K (tVar 1)) (g1 := gName 2) (tt1 := tYes) (te := tVar 2) rfl sc16.nd (pi_tup (pv 0))
    (blkOk_by (N := ["hands", "hand", "thing"]) (sc := defScope (topS 16)) (by decide +kernel)) (by decide) (fun _ _ _ _ _ => pg_name (i := 1) sc16.nd rfl (.inl rfl)) (fun _ _ _ _ _ => pts_nil) (fun _ _ _ _ _ => pi_tup (pv 1)) (fun _ _ _ _ _ => pg_name (i := 2) sc16.nd rfl (.inl rfl)) (fun _ _ _ _ _ => pts_nil) (fun _ _ _ _ _ => pv 2)) pa_nil)) pa_nil))), ?_⟩
  rintro ds r ⟨hs, rfl, hv, rfl⟩ C D hC hrt hnx
  have h4 := hv.le
  have hl : (hs.flatMap fun h => h).length ≤ 32 := by
    have := flat_len' (l := hs) (f := fun h => h) (k := 8) fun h hh => LH.asc_len8 (hv.asc h hh) (hv.lt h hh)
    omega
  refine p_ret (em (g_sset (K := K) (w := w) (ns := hs.flatMap fun h => h) (.inl ((g_lc2 (xs := hs) (ys := fun h => h) (enc := dT) (encb := dN) (f := fun _ t => dN t) (w_tup (g_var rfl)) (by omega) (is := [1]) (is1 := [2]) (by decide) (by decide) (fun x _ => gt_name) (fun x _ => w_tup (g_var rfl)) (fun x _ y _ => gt_name) (fun x _ y _ => g_var rfl)).is ?_)) (LH.sset_asc _) (fun t => ?_) (by omega) (Nat.lt_of_le_of_lt (LH.sset_len _) (by decide)))) hrt
  · show FW.D.lst _ = FW.D.lst (List.map dN _)
    rw [List.map_flatMap]
  · show t ∈ _ ↔ t ∈ LH.sset hs.flatten
    rw [LH.mem_sset]
    have e : (hs.flatMap fun h => h) = hs.flatten := by rw [List.flatMap_id']
    rw [e]
    refine ⟨fun h => ⟨?_, h⟩, fun h => h.2⟩
    obtain ⟨l, hl, ht⟩ := List.mem_flatten.mp h
    exact hv.lt l hl t ht
end
end LW

set_option Elab.async false
set_option linter.all false
set_option maxRecDepth 100000
set_option maxHeartbeats 4000000
/-! rings; ways -/
namespace LW
open PySem PySem.Spec PyProof.Rows L2 FW
def sc22b : Scope := match defBody (topS 22) with
  | [_, .While _ (.Assign _ (.ListComp _ _ sc _) _ :: _) _ _, _] => sc
  | _ => defScope (topS 22)
section
variable {P : Program} {w : World} {K : PySem.W.Frag} {mg : Str → Option Value} {base : Heap}
theorem sc22 : FnScope ["steps", "left", "free", "person", "pair"] ["steps"] (defScope (topS 22)) := ⟨rfl, rfl, rfl, by decide +kernel, rfl, by decide +kernel, by decide +kernel⟩
def R_has_ring (ds : List D) (r : D) : Prop := ∃ st, ds = [dPs st] ∧ (∀ e ∈ st, e.1 < 8 ∧ e.2 < 8) ∧ st.length ≤ 500 ∧ r = .bl (LH.ring st)
theorem cl_has_ring (T : Bt mg) (F : Std K mg "has_ring" (topS 22) ["steps"]) : Cl P w K mg base 1 "has_ring" R_has_ring := by
  refine cl_of F sc22 (by rintro ds r ⟨h, rfl, _⟩; rfl) fun f cdv A outer s H E hr => ⟨_, pss_cons (ps_set (i := 1) sc22.nd rfl (.inr rfl) (pe_callB (cr_sortedSet rfl) (by rfl) T.sorted (by decide +kernel) (pa_cons (pe_callTy (cr_setI rfl) (by rfl) T.set PyProof.Rows.boot_set (pa_cons
      (pe_lc2 (own := [("pair", 4), ("person", 3)]) (vs1 := [3]) (g := gName 4) (tt := tYes) (wi1 := iTup K (tVar 4)) (g1 := gName 3) (tt1 := tYes) (te := tVar 3) rfl sc22.nd (pi_list (pv 0))
    (blkOk_by (N := ["steps", "left", "free", "person", "pair"]) (sc := defScope (topS 22)) (by decide +kernel)) (by decide) (fun _ _ _ _ _ => pg_name (i := 4) sc22.nd rfl (.inl rfl)) (fun _ _ _ _ _ => pts_nil) (fun _ _ _ _ _ => pi_tup (pv 4)) (fun _ _ _ _ _ => pg_name (i := 3) sc22.nd rfl (.inl rfl)) (fun _ _ _ _ _ => pts_nil) (fun _ _ _ _ _ => pv 3)) pa_nil)) pa_nil)))
    (pss_cons (ps_while PassesOwn.never (pt_cmpR (op_neD hr.units) (pv 1) (pe_lst pa_nil) (nomark _))
      (pss_cons (ps_set (i := 2) sc22.nd rfl (.inr rfl) (pe_lc (own := [("person", 3)]) (g := gName 3) (tt := tNot (tB (tCB (rAny K) (tCons (tLc (iList K (tVar 0)) (gName 4) tYes (tAndV (tOp rEq (tOp (rIxT K) (tVar 4) (tC (.int 1))) (tVar 3)) (tIn K (tOp (rIxT K) (tVar 4) (tC (.int 0))) (tVar 1))) [4]) tNil)))) (te := tVar 3) rfl sc22.nd (pi_list (pv 1))
          (blkOk_by (N := ["steps", "left", "free", "person", "pair"]) (sc := defScope (topS 22)) (by decide +kernel)) (fun _ _ _ _ _ => pg_name (i := 3) sc22.nd rfl (.inr rfl))
          (fun _ _ _ _ _ => pts_one (pt_not (pt_val (pe_callB (cr_any rfl) (by rfl) T.any (by decide +kernel) (pa_cons (pe_lc (own := [("pair", 4)]) (g := gName 4) (tt := tYes) (te := (tAndV (tOp rEq (tOp (rIxT K) (tVar 4) (tC (.int 1))) (tVar 3)) (tIn K (tOp (rIxT K) (tVar 4) (tC (.int 0))) (tVar 1)))) rfl sc22.nd (pi_list (pv 0))
            (blk_in (blkOk_by (N := ["steps", "left", "free", "person", "pair"]) (sc := sc22b) (by decide +kernel))) (fun _ _ _ _ _ => pg_name (i := 4) sc22.nd rfl (.inl rfl)) (fun _ _ _ _ _ => pts_nil)
            (fun _ _ _ _ _ => pe_and (pe_cmpR op_eq (pe_ix ix_tup (pv 4) pe_int (fun _ _ => rfl)) (pv 3) (nomark _)) (pe_one (pe_cmpR op_in_seq (pe_ix ix_tup (pv 4) pe_int (fun _ _ => rfl)) (pv 1) rfl)))) pa_nil))))) (fun _ _ _ _ _ => pv 3)))
      (pss_cons (ps_if (pt_cmpR (op_eqD hr.units) (pv 2) (pe_lst pa_nil) (nomark _)) (pss_one (ps_ret pe_bl)) pss_nil)
      (pss_one (ps_set (i := 1) sc22.nd rfl (.inr rfl) (pe_lc (own := [("person", 3)]) (g := gName 3) (tt := tTest (tNi K (tVar 3) (tVar 2))) (te := tVar 3) rfl sc22.nd (pi_list (pv 1))
          (blkOk_by (N := ["steps", "left", "free", "person", "pair"]) (sc := defScope (topS 22)) (by decide +kernel)) (fun _ _ _ _ _ => pg_name (i := 3) sc22.nd rfl (.inl rfl))
          (fun _ _ _ _ _ => pts_one (pt_cmpR op_notIn_seq (pv 3) (pv 2) rfl)) (fun _ _ _ _ _ => pv 3)))))))
    (pss_one (ps_ret pe_bl))), ?_⟩
  rintro ds r ⟨st, rfl, hb, hl, rfl⟩ C D hC hrt hnx
  let two := fun e : Nat × Nat => [e.1, e.2]
  have tl : (st.flatMap two).length ≤ 1000 := by
    have := flat_len (f := two) (k := 2) (fun x => Nat.le_refl _) st
    omega
  refine p_seq (p_asg (d := dL (LH.nodes st)) (em (g_sset (K := K) (w := w) (ns := st.flatMap two) (.inl ((g_lc2 (xs := st) (ys := two) (enc := dP) (encb := dN) (f := fun _ t => dN t) (w_list (g_var rfl)) (by omega) (is := [4]) (is1 := [3]) (by decide) (by decide) (fun x _ => gt_name) (fun x _ => w_tup (g_var rfl)) (fun x _ y _ => gt_name) (fun x _ y _ => g_var rfl)).is ?_)) (LH.sset_asc _) (fun t => ?_) tl (Nat.lt_of_le_of_lt (LH.sset_len _) (by decide)))) (p_seq ?_))
  · show FW.D.lst _ = FW.D.lst (List.map dN _)
    rw [List.map_flatMap]
  · show t ∈ _ ↔ t ∈ LH.sset (st.flatMap two)
    rw [LH.mem_sset]
    refine ⟨fun h => ⟨?_, h⟩, fun h => h.2⟩
    obtain ⟨e, he, ht⟩ := List.mem_flatMap.mp h
    have := hb e he
    simp [two] at ht
    rcases ht with rfl | rfl <;> omega
  refine p_while (α := List Nat) (fun l => [some (dPs st), some (dL l), none, none, none]) (fun _ => []) (fun l => ∃ n, l.length ≤ n ∧ n ≤ 8 ∧ LH.ring st = LH.ringF st n l) List.length (fun l => !decide (l = [])) (LH.nodes st) ⟨8, LH.sset_len _, Nat.le_refl _, rfl⟩ (Sub.refl _) rfl ?_ ?_ ?_
  · intro l _
    exact tm (t_test (g_op (g_var rfl) (g_lst a_nil (by simp)) (rv_neD (a := l) (b := []) encL)))
  · rintro l ⟨n, hn, h8, hr2⟩ hne
    have hne : l ≠ [] := by simpa using hne
    obtain ⟨n, rfl⟩ : ∃ m, n = m + 1 := ⟨n - 1, by
      have : 0 < l.length := List.length_pos_iff.mpr hne
      omega⟩
    have en : l.isEmpty = false := by cases l; exact absurd rfl hne; rfl
    unfold LH.ringF at hr2
    rw [en, if_neg Bool.false_ne_true] at hr2
    refine p_seq (p_asg (d := dL (LH.freeOf st l)) (em ((g_lc (xs := l) (enc := dN) (p := fun p => !(st.any fun e => e.2 == p && l.contains e.1)) (f := dN) (w_list (g_var rfl)) (by omega) (is := [3]) (by decide) (fun x _ => gt_name)
      (fun x _ => t_not (t_B (g_any (xs := st) (q := fun e => e.2 == x && l.contains e.1) (g_lc0 (enc := dP) (w_list (g_var rfl)) (by omega) (is := [4]) (by decide) (fun y _ => gt_name)
        (fun y _ => (g_andV (a := decide (y.2 = x)) (g_op (g_op (g_var rfl) g_int (rv_ixT (j := 1) rfl)) (g_var rfl) rv_eqN) fun _ => g_op (g_op (g_var rfl) g_int (rv_ixT (j := 0) rfl)) (g_var rfl) rv_inL).is ?_))))) (fun x _ _ => g_var rfl)).is rfl)) (p_seq (p_if (b := decide (LH.freeOf st l = [])) (tm (t_test (g_op (g_var rfl) (g_lst a_nil (by simp)) (rv_eqD (a := LH.freeOf st l) (b := []) encL)))) (fun h => ?_) fun h => p_next ?_)))
    · congr 1
    · have h : LH.freeOf st l = [] := of_decide_eq_true h
      refine p_ret (em g_bl) ?_
      rw [hr2, h] at hrt
      exact hrt
    · have h : LH.freeOf st l ≠ [] := of_decide_eq_false h
      have ef : (LH.freeOf st l).isEmpty = false := by
        cases q : LH.freeOf st l with
        | nil => exact absurd q h
        | cons => rfl
      rw [ef, if_neg Bool.false_ne_true] at hr2
      have sh := LH.left_shorter (st := st) (left := l) (List.exists_mem_of_ne_nil _ h)
      refine p_asg (d := dL (l.filter fun p => !(LH.freeOf st l).contains p)) (em ((g_lc (xs := l) (enc := dN) (p := fun p => !(LH.freeOf st l).contains p) (f := dN) (w_list (g_var rfl)) (by omega) (is := [3]) (by decide) (fun x _ => gt_name)
        (fun x _ => t_test (g_op (g_var rfl) (g_var rfl) rv_niL)) (fun x _ _ => g_var rfl)).is rfl)) ?_
      exact fun σ H ⟨B, a⟩ => ⟨_, ⟨n, by omega, by omega, hr2⟩, sh, B, a.sub (.keep (.keep (.drop (.drop (.drop .nil)))))⟩
  · rintro l ⟨n, hn, h8, hr2⟩ hne
    have hne : l = [] := by simpa using hne
    subst hne
    have e : LH.ringF st n [] = false := by
      cases n with
      | zero => rfl
      | succ n => rfl
    refine p_ret (em g_bl) ?_
    rw [hr2, e] at hrt
    exact hrt
end
end LW

set_option Elab.async false
set_option linter.all false
set_option maxRecDepth 100000
set_option maxHeartbeats 4000000
/-! ways; calls without a loss -/
namespace LH
theorem Good.single {hs e : Hs} (g : Good hs e) (t : Nat) : (holders e t).length ≤ 1 := by
  have asc : (holders e t).Pairwise (· < ·) := by
    unfold holders
    exact List.Pairwise.filter _ List.pairwise_lt_range
  rcases q : holders e t with _ | ⟨a, _ | ⟨b, l⟩⟩
  · simp
  · simp
  · rw [q] at asc
    have lt : a < b := (List.pairwise_cons.mp asc).1 b (by simp)
    have ha : a ∈ holders e t := by rw [q]; simp
    have hb : b ∈ holders e t := by rw [q]; simp
    have := g.one a b t (mem_holders.mp ha) (mem_holders.mp hb)
    omega
theorem stepsIn_len {hs e : Hs} (hv : Valid hs) (hve : Valid e) : (stepsIn hs e).length ≤ 128 := by
  have key : ∀ (k : Nat), ((hand e k).flatMap fun t => ((holders hs t).filter (· != k)).map fun p => (p, k)).length ≤ 32 := fun k => by
    have a := LW.flat_len (f := fun t => ((holders hs t).filter (· != k)).map fun p => (p, k)) (k := 4) (fun t => by
      rw [List.length_map]
      exact Nat.le_trans (List.length_filter_le _ _) (Nat.le_trans LW.holders_len hv.le)) (hand e k)
    have b := hve.handLen k
    omega
  have a := LW.flat_len key (losers hs e)
  have b := losers_le (hs := hs) (e := e)
  have c := hv.le
  unfold stepsIn
  omega
end LH
namespace LW
open PySem PySem.Spec PyProof.Rows L2 FW
section
variable {P : Program} {w : World} {K : PySem.W.Frag} {mg : Str → Option Value} {base : Heap}
theorem sc31 : FnScope ["one", "other", "person", "thing"] ["one", "other"] (defScope (topS 31)) := ⟨rfl, rfl, rfl, by decide +kernel, rfl, by decide +kernel, by decide +kernel⟩
def R_fits (ds : List D) (r : D) : Prop := ∃ hs e, ds = [dH hs, dH e] ∧ LH.Valid hs ∧ LH.Good hs e ∧ r = .bl true
theorem cl_fits (T : Bt mg) (F : Std K mg "fits" (topS 31) ["one", "other"]) (c1 : Cl P w K mg base 1 "things_in" R_things) (c2 : Cl P w K mg base 1 "losers_in" R_losers_in) (c3 : Cl P w K mg base 1 "holders_in" R_holders) (c4 : Cl P w K mg base 1 "has_ring" R_has_ring)
    (c5 : Cl P w K mg base 2 "steps_in" R_steps_in) : Cl P w K mg base 3 "fits" R_fits := by
  refine cl_of F sc31 (by rintro ds r ⟨h, e, rfl, _⟩; rfl) fun f cdv A outer s H E hr => ⟨_, pss_cons (ps_if (pt_cmpR (op_neD hr.units) (pe_cl c1 hr (by decide) (by rfl) (pa_cons (pv 0) pa_nil)) (pe_cl c1 hr (by decide) (by rfl) (pa_cons (pv 1) pa_nil)) (nomark _)) pss_never pss_nil)
    (pss_cons (ps_for PassesOwn.never rfl (pi_range1 (by rfl) T.range (pa_cons (pe_callB call_len_seq (by rfl) T.len PySem.boot_len (pa_cons (pv 0) pa_nil)) pa_nil)) (pg_name (i := 2) sc31.nd rfl (.inr rfl))
      (pss_one (ps_if (pt_val (pe_callB (cr_any rfl) (by rfl) T.any (by decide +kernel) (pa_cons (pe_lc (own := [("thing", 3)]) (g := gName 3) (te := tNi K (tVar 3) (tOp (rIxT K) (tVar 0) (tVar 2))) rfl sc31.nd (pi_tup (pe_ix ix_tup (pv 1) (pv 2) (fun _ _ => rfl)))
            (blkOk_by (N := ["one", "other", "person", "thing"]) (sc := defScope (topS 31)) (by decide +kernel)) (fun _ _ _ _ _ => pg_name (i := 3) sc31.nd rfl (.inl rfl)) (fun _ _ _ _ _ => pts_nil) (fun _ _ _ _ _ => pe_cmpR op_notIn_seq (pv 3) (pe_ix ix_tup (pv 0) (pv 2) (fun _ _ => rfl)) rfl)) pa_nil))) pss_never pss_nil)))
    (pss_cons (ps_for PassesOwn.never rfl (pi_list (pe_cl c2 hr (by decide) (by rfl) (pa_cons (pv 0) (pa_cons (pv 1) pa_nil)))) (pg_name (i := 2) sc31.nd rfl (.inr rfl))
      (pss_one (ps_if (pt_val (pe_callB (cr_any rfl) (by rfl) T.any (by decide +kernel) (pa_cons (pe_lc (own := [("thing", 3)]) (g := gName 3) (te := tOp (rI0 fun i j => .bl (decide (j < i))) (tLn K (tCall (SpR R_holders) [] E0 (tCons (tVar 1) (tCons (tVar 3) tNil)))) (tC (.int 1))) rfl sc31.nd (pi_tup (pe_ix ix_tup (pv 1) (pv 2) (fun _ _ => rfl)))
            (blkOk_by (N := ["one", "other", "person", "thing"]) (sc := defScope (topS 31)) (by decide +kernel)) (fun _ _ _ _ _ => pg_name (i := 3) sc31.nd rfl (.inl rfl)) (fun _ _ _ _ _ => pts_nil)
            (fun _ _ _ _ _ => pe_cmpR op_gt (pe_callB call_len_seq (by rfl) T.len PySem.boot_len (pa_cons (pe_cl c3 hr (by decide) (by rfl) (pa_cons (pv 1) (pa_cons (pv 3) pa_nil))) pa_nil)) pe_int (nomark _))) pa_nil))) pss_never pss_nil)))
    (pss_one (ps_ret (pe_not (pe_cl c4 hr (by decide) (by rfl) (pa_cons (pe_cl c5 hr (by decide) (by rfl) (pa_cons (pv 0) (pa_cons (pv 1) pa_nil))) pa_nil))))))), ?_⟩
  rintro ds r ⟨hs, e, rfl, hv, g, rfl⟩ C D hC hrt hnx
  have hve := g.valid hv
  have h4 := hv.le
  have hl := g.len
  refine p_seq (p_if (b := false) (tm ((t_test (g_op (g_call (a_cons (g_var rfl) a_nil) ⟨hs, rfl, hv, rfl⟩) (g_call (a_cons (g_var rfl) a_nil) ⟨e, rfl, hve, rfl⟩) (rv_neD (a := LH.things hs) (b := LH.things e) encL))).is ?_)) (fun h => nomatch h) fun _ => p_next (p_seq ?_))
  · rw [g.things]; simp
  refine p_for (xs := List.range hs.length) (enc := dN) (is := [2]) (fun i => [some (dH hs), some (dH e), none, none]) (fun i => []) (fun i x => [some (dH hs), some (dH e), some (dN x), none])
    (w_range1 (n := hs.length) (a_cons ((g_cb (a_cons (g_var rfl) a_nil) (rc_len (.inr rfl))).is (by rw [List.length_map])) a_nil) (by omega)) (Sub.refl _) rfl (fun i x _ => gt_name) (by simp) ?_ ?_
  · intro Bl i p hp
    have hp := range_lt hp
    refine p_if (b := false) (tm ((t_B (g_any (xs := LH.hand e p) (q := fun t => !(LH.hand hs p).contains t) (g_lc0 (enc := dN) (w_tup (g_op (g_var rfl) (g_var rfl) (rv_ixT (hand_at (by omega))))) (by have := hve.handLen p; omega) (is := [3]) (by decide) (fun x _ => gt_name)
        (fun x _ => g_op (g_var rfl) (g_op (g_var rfl) (g_var rfl) (rv_ixT (hand_at hp))) rv_niT)))).is ?_)) (fun h => nomatch h) fun _ => p_next (p_done (.keep (.keep (.drop (.keep .nil)))) rfl)
    rw [List.any_eq_false]
    intro t ht
    simp [g.mem ht]
  refine p_seq (p_for (xs := LH.losers hs e) (enc := dN) (is := [2]) (fun i => [some (dH hs), some (dH e), none, none]) (fun i => []) (fun i x => [some (dH hs), some (dH e), some (dN x), none])
    (w_list (g_call (a_cons (g_var rfl) (a_cons (g_var rfl) a_nil)) ⟨hs, e, rfl, hv, hl, rfl⟩)) (Sub.refl _) rfl (fun i x _ => gt_name) (by simp) ?_ ?_)
  · intro Bl i p hp
    have hp : p < hs.length := (LH.mem_losers.mp (List.mem_of_getElem? hp)).1
    refine p_if (b := false) (tm ((t_B (g_any (xs := LH.hand e p) (q := fun t => decide ((1 : Int) < ((LH.holders e t).length : Int))) (g_lc0 (enc := dN) (w_tup (g_op (g_var rfl) (g_var rfl) (rv_ixT (hand_at (by omega))))) (by have := hve.handLen p; omega) (is := [3]) (by decide) (fun x _ => gt_name)
        (fun x _ => (g_op (g_cb (a_cons (g_call (a_cons (g_var rfl) (a_cons (g_var rfl) a_nil)) ⟨e, x, rfl, by omega, rfl⟩) a_nil) (rc_len (.inl rfl))) g_int rv_b).is (by rw [List.length_map]))))).is ?_)) (fun h => nomatch h) fun _ => p_next (p_done (.keep (.keep (.drop (.keep .nil)))) rfl)
    rw [List.any_eq_false]
    intro t ht
    have := g.single t
    simp; omega
  · have sl := LH.stepsIn_len hv hve
    refine p_ret (em ((g_notV (g_call (a_cons (g_call (a_cons (g_var rfl) (a_cons (g_var rfl) a_nil)) ⟨hs, e, rfl, hv, hve, hl, rfl⟩) a_nil) ⟨LH.stepsIn hs e, rfl, LH.steps_lt hv g, by omega, rfl⟩)).is ?_)) hrt
    rw [g.ring hv]; rfl
theorem sc32 : FnScope ["one", "other"] ["one", "other"] (defScope (topS 32)) := ⟨rfl, rfl, rfl, by decide +kernel, rfl, by decide +kernel, by decide +kernel⟩
def R_way0 (ds : List D) (r : D) : Prop := ∃ hs e, ds = [dH hs, dH e] ∧ LH.Valid hs ∧ LH.Good hs e ∧ r = .non
theorem cl_need_way (F : Std K mg "need_way" (topS 32) ["one", "other"]) (c1 : Cl P w K mg base 5 "need_two" R_need_two) (c2 : Cl P w K mg base 3 "fits" R_fits) : Cl P w K mg base 6 "need_way" R_way0 := by
  refine cl_of F sc32 (by rintro ds r ⟨h, e, rfl, _⟩; rfl) fun f cdv A outer s H E hr => ⟨_, pss_cons (ps_expr (pe_cl c1 hr (by decide) (by rfl) (pa_cons (pv 0) (pa_cons (pv 1) pa_nil))))
    (pss_one (ps_if (pt_not (pt_val (pe_cl c2 hr (by decide) (by rfl) (pa_cons (pv 0) (pa_cons (pv 1) pa_nil))))) pss_never pss_nil)), ?_⟩
  rintro ds r ⟨hs, e, rfl, hv, g, rfl⟩ C D hC hrt hnx
  refine p_seq (p_drop (em (g_call (a_cons (g_var rfl) (a_cons (g_var rfl) a_nil)) ⟨hs, e, rfl, hv, g.valid hv, g.len, rfl⟩)) (p_if (b := false) (tm ((t_not (t_B (g_call (a_cons (g_var rfl) (a_cons (g_var rfl) a_nil)) ⟨hs, e, rfl, hv, g, rfl⟩))).is rfl)) (fun h => nomatch h) fun _ => p_next ?_))
  exact fun σ H ⟨B, a⟩ => hnx σ B H a.frm .non
theorem sc33 : FnScope ["one", "other"] ["one", "other"] (defScope (topS 33)) := ⟨rfl, rfl, rfl, by decide +kernel, rfl, by decide +kernel, by decide +kernel⟩
def R_losers (ds : List D) (r : D) : Prop := ∃ hs e, ds = [dH hs, dH e] ∧ LH.Valid hs ∧ LH.Good hs e ∧ r = dT (LH.losers hs e)
theorem cl_losers (T : Bt mg) (F : Std K mg "losers" (topS 33) ["one", "other"]) (c1 : Cl P w K mg base 6 "need_way" R_way0) (c2 : Cl P w K mg base 1 "losers_in" R_losers_in) : Cl P w K mg base 7 "losers" R_losers := by
  refine cl_of F sc33 (by rintro ds r ⟨h, e, rfl, _⟩; rfl) fun f cdv A outer s H E hr => ⟨_, pss_cons (ps_expr (pe_cl c1 hr (by decide) (by rfl) (pa_cons (pv 0) (pa_cons (pv 1) pa_nil))))
    (pss_one (ps_ret (pe_callTy call_tuple_of (by rfl) T.tuple boot_tuple (pa_cons (pe_cl c2 hr (by decide) (by rfl) (pa_cons (pv 0) (pa_cons (pv 1) pa_nil))) pa_nil)))), ?_⟩
  rintro ds r ⟨hs, e, rfl, hv, g, rfl⟩ C D hC hrt hnx
  exact p_seq (p_drop (em (g_call (a_cons (g_var rfl) (a_cons (g_var rfl) a_nil)) ⟨hs, e, rfl, hv, g, rfl⟩)) (p_ret (em (g_cb (a_cons (g_call (a_cons (g_var rfl) (a_cons (g_var rfl) a_nil)) ⟨hs, e, rfl, hv, g.len, rfl⟩) a_nil) rc_tuple)) hrt))
theorem sc34 : FnScope ["one", "other"] ["one", "other"] (defScope (topS 34)) := ⟨rfl, rfl, rfl, by decide +kernel, rfl, by decide +kernel, by decide +kernel⟩
def R_distance (ds : List D) (r : D) : Prop := ∃ hs e, ds = [dH hs, dH e] ∧ LH.Valid hs ∧ LH.Good hs e ∧ r = dN (LH.losers hs e).length
theorem cl_distance (T : Bt mg) (F : Std K mg "distance" (topS 34) ["one", "other"]) (c1 : Cl P w K mg base 6 "need_way" R_way0) (c2 : Cl P w K mg base 1 "losers_in" R_losers_in) : Cl P w K mg base 7 "distance" R_distance := by
  refine cl_of F sc34 (by rintro ds r ⟨h, e, rfl, _⟩; rfl) fun f cdv A outer s H E hr => ⟨_, pss_cons (ps_expr (pe_cl c1 hr (by decide) (by rfl) (pa_cons (pv 0) (pa_cons (pv 1) pa_nil))))
    (pss_one (ps_ret (pe_callB call_len_seq (by rfl) T.len PySem.boot_len (pa_cons (pe_cl c2 hr (by decide) (by rfl) (pa_cons (pv 0) (pa_cons (pv 1) pa_nil))) pa_nil)))), ?_⟩
  rintro ds r ⟨hs, e, rfl, hv, g, rfl⟩ C D hC hrt hnx
  exact p_seq (p_drop (em (g_call (a_cons (g_var rfl) (a_cons (g_var rfl) a_nil)) ⟨hs, e, rfl, hv, g, rfl⟩)) (p_ret (em ((g_cb (a_cons (g_call (a_cons (g_var rfl) (a_cons (g_var rfl) a_nil)) ⟨hs, e, rfl, hv, g.len, rfl⟩) a_nil) (rc_len (.inl rfl))).is (by rw [List.length_map]))) hrt))
theorem sc48 : FnScope ["hands", "people"] ["hands", "people"] (defScope (topS 48)) := ⟨rfl, rfl, rfl, by decide +kernel, rfl, by decide +kernel, by decide +kernel⟩
def R_safe (ds : List D) (r : D) : Prop := ∃ hs S, ds = [dH hs, dT S] ∧ LH.Valid hs ∧ r = .bl (LH.safe hs S)
theorem cl_safe (F : Std K mg "safe_in" (topS 48) ["hands", "people"]) (c1 : Cl P w K mg base 1 "things_in" R_things) (c2 : Cl P w K mg base 3 "together_in" R_together) : Cl P w K mg base 4 "safe_in" R_safe := by
  refine cl_of F sc48 (by rintro ds r ⟨h, e, rfl, _⟩; rfl) fun f cdv A outer s H E hr => ⟨_, pss_one (ps_ret (pe_cmpR (op_eqD hr.units) (pe_cl c1 hr (by decide) (by rfl) (pa_cons (pe_cl c2 hr (by decide) (by rfl) (pa_cons (pv 0) (pa_cons (pv 1) pa_nil))) pa_nil)) (pe_cl c1 hr (by decide) (by rfl) (pa_cons (pv 0) pa_nil)) (nomark _))), ?_⟩
  rintro ds r ⟨hs, S, rfl, hv, rfl⟩ C D hC hrt hnx
  refine p_ret (em ((g_op (g_call (a_cons (g_call (a_cons (g_var rfl) (a_cons (g_var rfl) a_nil)) ⟨hs, S, rfl, hv, rfl⟩) a_nil) ⟨_, rfl, LH.together_valid hv S, rfl⟩) (g_call (a_cons (g_var rfl) a_nil) ⟨hs, rfl, hv, rfl⟩) (rv_eqD (a := LH.things (LH.together hs S)) (b := LH.things hs) encL)).is ?_)) hrt
  unfold LH.safe
  by_cases h : LH.things (LH.together hs S) = LH.things hs <;> simp [h]
end
end LW

set_option Elab.async false
set_option linter.all false
set_option maxRecDepth 100000
set_option maxHeartbeats 4000000
/-! the least way; stages -/
namespace LH
theorem hasK_look (f : Kp) (q : Nat) : (FW.lookI (FW.iK f) (q : Int)).isSome = hasK f q := by
  rw [FW.look_iK, Option.isSome_map]
  unfold hasK
  induction f with
  | nil => rfl
  | cons x r ih =>
    rw [List.find?_cons, List.any_cons]
    by_cases e : x.1 = q
    · rw [decide_eq_true e]; rfl
    · rw [decide_eq_false e]; exact ih
theorem getK_look {f : Kp} {q : Nat} (h : hasK f q = true) : FW.lookI (FW.iK f) (q : Int) = some ((getK f q : Nat) : Int) := by
  have e := hasK_look f q
  rw [h, FW.look_iK] at e
  rw [FW.look_iK]
  unfold getK
  cases hf : f.find? fun kv => decide (kv.1 = q) with
  | none => rw [hf] at e; cases e
  | some x => rfl
end LH
namespace LW
open PySem PySem.Spec PyProof.Rows L2 FW
def sc35b : Scope := match defBody (topS 35) with
  | [_, _, .While _ (.Assign _ (.ListComp _ _ sc _) _ :: _) _ _, _] => sc
  | _ => defScope (topS 35)
section
variable {P : Program} {w : World} {K : PySem.W.Frag} {mg : Str → Option Value} {base : Heap}
abbrev N35 : List Str := ["one", "other", "left", "steps", "row", "free", "person", "first", "last"]
theorem sc35 : FnScope N35 ["one", "other"] (defScope (topS 35)) := ⟨rfl, rfl, rfl, by decide +kernel, rfl, by decide +kernel, by decide +kernel⟩
def R_way (ds : List D) (r : D) : Prop := ∃ hs e, ds = [dH hs, dH e] ∧ LH.Valid hs ∧ LH.Good hs e ∧ r = dT (LH.wayM hs e)
theorem cl_way (T : Bt mg) (F : Std K mg "way" (topS 35) ["one", "other"]) (c1 : Cl P w K mg base 6 "need_way" R_way0) (c2 : Cl P w K mg base 1 "losers_in" R_losers_in) (c3 : Cl P w K mg base 2 "steps_in" R_steps_in) : Cl P w K mg base 7 "way" R_way := by
  refine cl_of F sc35 (by rintro ds r ⟨h, e, rfl, _⟩; rfl) fun f cdv A outer s H E hr => ⟨_, pss_cons (ps_expr (pe_cl c1 hr (by decide) (by rfl) (pa_cons (pv 0) (pa_cons (pv 1) pa_nil))))
    (pss_cons (ps_asg (pe_tup (pa_cons (pe_cl c2 hr (by decide) (by rfl) (pa_cons (pv 0) (pa_cons (pv 1) pa_nil))) (pa_cons (pe_cl c3 hr (by decide) (by rfl) (pa_cons (pv 0) (pa_cons (pv 1) pa_nil))) (pa_cons (pe_lst pa_nil) pa_nil))))
      (pg_tup rfl (pgs_cons (pg_name (i := 2) sc35.nd rfl (by first | exact .inl rfl | exact .inr rfl)) (pgs_cons (pg_name (i := 3) sc35.nd rfl (by first | exact .inl rfl | exact .inr rfl)) (pgs_cons (pg_name (i := 4) sc35.nd rfl (by first | exact .inl rfl | exact .inr rfl)) pgs_nil)))))
    (pss_cons (ps_while PassesOwn.never (pt_cmpR (op_neD hr.units) (pv 2) (pe_lst pa_nil) (nomark _))
      (pss_cons (ps_set (i := 5) sc35.nd rfl (by first | exact .inl rfl | exact .inr rfl) (pe_lc (own := [("person", 6)]) (g := gName 6) (tt := tNot (tB (tCB (rAny K) (tCons (tLc (iList K (tVar 3)) (gPr K 7 8) tYes (tAndV (tOp rEq (tVar 8) (tVar 6)) (tIn K (tVar 7) (tVar 2))) [7, 8]) tNil)))) (te := tVar 6) rfl sc35.nd (pi_list (pv 2))
          (blkOk_by (N := N35) (sc := defScope (topS 35)) (by decide +kernel)) (fun _ _ _ _ _ => pg_name (i := 6) sc35.nd rfl (by first | exact .inl rfl | exact .inr rfl))
          (fun _ _ _ _ _ => pts_one (pt_not (pt_val (pe_callB (cr_any rfl) (by rfl) T.any (by decide +kernel) (pa_cons (pe_lc (own := [("first", 7), ("last", 8)]) (g := gPr K 7 8) (tt := tYes) (te := (tAndV (tOp rEq (tVar 8) (tVar 6)) (tIn K (tVar 7) (tVar 2)))) rfl sc35.nd (pi_list (pv 3))
            (blk_in (blkOk_by (N := N35) (sc := sc35b) (by decide +kernel))) (fun _ _ _ _ _ => pg_tup rfl (pgs_cons (pg_name (i := 7) sc35.nd rfl (by first | exact .inl rfl | exact .inr rfl)) (pgs_cons (pg_name (i := 8) sc35.nd rfl (by first | exact .inl rfl | exact .inr rfl)) pgs_nil))) (fun _ _ _ _ _ => pts_nil)
            (fun _ _ _ _ _ => pe_and (pe_cmpR op_eq (pv 8) (pv 6) (nomark _)) (pe_one (pe_cmpR op_in_seq (pv 7) (pv 2) rfl)))) pa_nil))))) (fun _ _ _ _ _ => pv 6)))
      (pss_cons (ps_expr (pe_bm PySem.F.plainAttrs_list PySem.F.slot_list_append PySem.F.type_list_append mt_append (pv 4) (pa_cons (pe_ix ix_list (pv 5) pe_int (fun _ _ => rfl)) pa_nil)))
      (pss_one (ps_set (i := 2) sc35.nd rfl (by first | exact .inl rfl | exact .inr rfl) (pe_lc (own := [("person", 6)]) (g := gName 6) (tt := tTest (tOp rNe (tVar 6) (tOp (rIxL K) (tVar 5) (tC (.int 0))))) (te := tVar 6) rfl sc35.nd (pi_list (pv 2))
          (blkOk_by (N := N35) (sc := defScope (topS 35)) (by decide +kernel)) (fun _ _ _ _ _ => pg_name (i := 6) sc35.nd rfl (by first | exact .inl rfl | exact .inr rfl))
          (fun _ _ _ _ _ => pts_one (pt_cmpR op_ne (pv 6) (pe_ix ix_list (pv 5) pe_int (fun _ _ => rfl)) (nomark _))) (fun _ _ _ _ _ => pv 6)))))))
    (pss_one (ps_ret (pe_callTy call_tuple_of (by rfl) T.tuple boot_tuple (pa_cons (pv 4) pa_nil)))))), ?_⟩
  rintro ds r ⟨hs, e, rfl, hv, g, rfl⟩ C D hC hrt hnx
  have hve := g.valid hv
  have sl := LH.stepsIn_len hv hve
  have h4 := hv.le
  have ll := LH.losers_le (hs := hs) (e := e)
  generalize est : LH.stepsIn hs e = st at sl
  have ac : LH.Acyc st := by rw [← est]; exact g.acyc
  refine p_seq (p_drop (em (g_call (a_cons (g_var rfl) (a_cons (g_var rfl) a_nil)) ⟨hs, e, rfl, hv, g, rfl⟩)) (p_seq (p_tup3 (o := .l []) (u := .lst []) (em (g_call (a_cons (g_var rfl) (a_cons (g_var rfl) a_nil)) ⟨hs, e, rfl, hv, g.len, rfl⟩)) (em (g_call (f := dPs st) (a_cons (g_var rfl) (a_cons (g_var rfl) a_nil)) ⟨hs, e, rfl, hv, hve, g.len, by rw [est]⟩))
    (fun σ H Q q => ⟨Nat.zero_le _, q⟩) (fun B H p h => ⟨[], h, .nil⟩) (p_seq ?_))))
  refine p_while (α := List Nat × List Nat) (fun l => [some (dH hs), some (dH e), some (dL l.1), some (dPs st), none, none, none, none, none]) (fun l => [(4, .l (l.2.map dN))]) (fun l => ∃ n, l.1.length ≤ n ∧ l.2.length + n ≤ 8 ∧ LH.wayM hs e = LH.wayF st n l.1 l.2) (fun l => l.1.length) (fun l => !decide (l.1 = [])) (LH.losers hs e, [])
    ⟨8, by show (LH.losers hs e).length ≤ 8; omega, Nat.le_refl _, by rw [← est]; rfl⟩ (Sub.refl _) rfl ?_ ?_ ?_
  · intro l _
    exact tm (t_test (g_op (g_var rfl) (g_lst a_nil (by simp)) (rv_neD (a := l.1) (b := []) encL)))
  · rintro ⟨l, row⟩ ⟨n, hn, h8, hr2⟩ hne
    have hne : l ≠ [] := by simpa using hne
    have hn : l.length ≤ n := hn
    have h8 : row.length + n ≤ 8 := h8
    obtain ⟨n, rfl⟩ : ∃ m, n = m + 1 := ⟨n - 1, by
      have : 0 < l.length := List.length_pos_iff.mpr hne
      omega⟩
    have en : l.isEmpty = false := by cases l; exact absurd rfl hne; rfl
    obtain ⟨f0, rest, ef, hfl, hsh⟩ := LH.way_shorter (LH.free_some ac hne)
    unfold LH.wayF at hr2
    have hr2 : LH.wayM hs e = LH.wayF st n (l.filter fun p => p != f0) (row ++ [f0]) := by
      rw [hr2]
      show (if l.isEmpty = true then _ else _) = _
      rw [en, if_neg Bool.false_ne_true, ef]; rfl
    refine p_seq (p_asg (d := dL (LH.freeOf st l)) (em ((g_lc (xs := l) (enc := dN) (p := fun p => !(st.any fun e => e.2 == p && l.contains e.1)) (f := dN) (w_list (g_var rfl)) (by omega) (is := [6]) (by decide) (fun x _ => gt_name)
      (fun x _ => t_not (t_B (g_any (xs := st) (q := fun e => e.2 == x && l.contains e.1) (g_lc0 (enc := dP) (w_list (g_var rfl)) (by omega) (is := [7, 8]) (by decide) (fun y _ => gt_pair)
        (fun y _ => (g_andV (a := decide (y.2 = x)) (g_op (g_var rfl) (g_var rfl) rv_eqN) fun _ => g_op (g_var rfl) (g_var rfl) rv_inL).is ?_))))) (fun x _ _ => g_var rfl)).is rfl)) (p_seq ?_))
    · congr 1
    · rw [ef]
      refine p_app (d := dN f0) (em (g_op (g_var rfl) g_int (rv_ixL (j := 0) rfl))) (by rw [List.length_map]; omega) ?_
      refine p_asg (d := dL (l.filter fun p => p != f0)) (em ((g_lc (xs := l) (enc := dN) (p := fun p => p != f0) (f := dN) (w_list (g_var rfl)) (by omega) (is := [6]) (by decide) (fun x _ => gt_name)
        (fun x _ => (t_test (g_op (g_var rfl) (g_op (g_var rfl) g_int (rv_ixL (j := 0) (d := dN f0) rfl)) rv_neN)).is ?_) (fun x _ _ => g_var rfl)).is rfl)) ?_
      · by_cases h : x = f0 <;> simp [h]
      · refine fun σ H ⟨B, a⟩ => ⟨(l.filter fun p => p != f0, row ++ [f0]), ⟨n, ?_, ?_, hr2⟩, hsh, ?_⟩
        · show (l.filter fun p => p != f0).length ≤ n; omega
        · show (row ++ [f0]).length + n ≤ 8; rw [List.length_append]; simp; omega
        · refine ⟨B, ?_⟩
          have e2 : (row ++ [f0]).map dN = row.map dN ++ [dN f0] := by rw [List.map_append]; rfl
          show AtB C _ [(4, .l ((row ++ [f0]).map dN))] σ B H
          rw [e2]
          exact a.sub (.keep (.keep (.keep (.keep (.drop (.drop (.drop (.drop (.drop .nil)))))))))
  · rintro ⟨l, row⟩ ⟨n, hn, h8, hr2⟩ hne
    have hne : l = [] := by simpa using hne
    subst hne
    have e2 : LH.wayF st n [] row = row := by
      cases n with
      | zero => rfl
      | succ n => rfl
    refine p_give (p_ret (em (g_cb (a_cons (g_var rfl) a_nil) rc_tuple)) ?_)
    rw [hr2, e2] at hrt
    exact hrt
abbrev N38 : List Str := ["one", "other", "left", "steps", "found", "person", "some", "first", "last"]
theorem sc38 : FnScope N38 ["one", "other"] (defScope (topS 38)) := ⟨rfl, rfl, rfl, by decide +kernel, rfl, by decide +kernel, by decide +kernel⟩
def R_stages_in (ds : List D) (r : D) : Prop := ∃ hs e, ds = [dH hs, dH e] ∧ LH.Valid hs ∧ LH.Good hs e ∧ r = dK (LH.stagesM hs e)
abbrev tAll38 (K : PySem.W.Frag) : TE := tCB (rAll K) (tCons (tLc (iList K (tVar 6)) (gName 7) tYes (tDIn (tVar 7) (tVar 4)) [7]) tNil)
theorem cl_stages_in (T : Bt mg) (F : Std K mg "stages_in" (topS 38) ["one", "other"]) (c2 : Cl P w K mg base 1 "losers_in" R_losers_in) (c3 : Cl P w K mg base 2 "steps_in" R_steps_in) : Cl P w K mg base 3 "stages_in" R_stages_in := by
  refine cl_of F sc38 (by rintro ds r ⟨h, e, rfl, _⟩; rfl) fun f cdv A outer s H E hr => ⟨_, 
    pss_cons (ps_asg (pe_tup (pa_cons (pe_cl c2 hr (by decide) (by rfl) (pa_cons (pv 0) (pa_cons (pv 1) pa_nil))) (pa_cons (pe_cl c3 hr (by decide) (by rfl) (pa_cons (pv 0) (pa_cons (pv 1) pa_nil))) (pa_cons pe_dnewK pa_nil))))
      (pg_tup rfl (pgs_cons (pg_name (i := 2) sc38.nd rfl (by first | exact .inl rfl | exact .inr rfl)) (pgs_cons (pg_name (i := 3) sc38.nd rfl (by first | exact .inl rfl | exact .inr rfl)) (pgs_cons (pg_name (i := 4) sc38.nd rfl (by first | exact .inl rfl | exact .inr rfl)) pgs_nil)))))
    (pss_cons (ps_while PassesOwn.never (pt_cmpR op_lt (pe_callB call_lenD (by rfl) T.len PySem.boot_len (pa_cons (pv 4) pa_nil)) (pe_callB call_len_seq (by rfl) T.len PySem.boot_len (pa_cons (pv 2) pa_nil)) (nomark _))
      (pss_one (ps_for PassesOwn.never rfl (pi_list (pv 2)) (pg_name (i := 5) sc38.nd rfl (by first | exact .inl rfl | exact .inr rfl))
        (pss_cons (ps_setLc (i := 6) (own := [("first", 7), ("last", 8)]) (g := gPr K 7 8) (tt := tTest (tOp rEq (tVar 8) (tVar 5))) (te := tVar 7) rfl sc38.nd rfl rfl rfl (pi_list (pv 3))
            (blkOk_by (N := N38) (sc := defScope (topS 38)) (by decide +kernel)) (fun _ _ _ _ _ => pg_tup rfl (pgs_cons (pg_name (i := 7) sc38.nd rfl (by first | exact .inl rfl | exact .inr rfl)) (pgs_cons (pg_name (i := 8) sc38.nd rfl (by first | exact .inl rfl | exact .inr rfl)) pgs_nil)))
            (fun _ _ _ _ _ => pts_one (pt_cmpR op_eq (pv 8) (pv 5) (nomark _))) (fun _ _ _ _ _ => pv 7))
        (pss_one (ps_if (PW.pt (pw_and (pt_cmp (pc_dnotin (units1 hr.units) (pv 5) (pv 4))) (pw_and1 (pt_val (pe_callB (cr_all rfl) (by rfl) T.all (by decide +kernel) (pa_cons (pe_lc (own := [("first", 7)]) (g := gName 7) (tt := tYes) (te := tDIn (tVar 7) (tVar 4)) rfl sc38.nd (pi_list (pv 6))
            (blkOk_by (N := N38) (sc := defScope (topS 38)) (by decide +kernel)) (fun _ _ _ _ _ => pg_name (i := 7) sc38.nd rfl (by first | exact .inl rfl | exact .inr rfl)) (fun _ _ _ _ _ => pts_nil) (fun _ _ _ _ _ => pe_cmp (pc_din (units1 hr.units) (pv 7) (pv 4)))) pa_nil))))))
          (pss_one (ps_dput (units1 hr.units) (pv 4) (pv 5) (pe_ifExp (pt_cmpR (op_neD hr.units) (pv 6) (pe_lst pa_nil) (nomark _)) (pe_op op_add pe_int (pe_callB (cr_max rfl) (by rfl) T.max (by decide +kernel) (pa_cons (pe_lc (own := [("first", 7)]) (g := gName 7) (tt := tYes) (te := tDGet (tVar 4) (tVar 7)) rfl sc38.nd (pi_list (pv 6))
            (blkOk_by (N := N38) (sc := defScope (topS 38)) (by decide +kernel)) (fun _ _ _ _ _ => pg_name (i := 7) sc38.nd rfl (by first | exact .inl rfl | exact .inr rfl)) (fun _ _ _ _ _ => pts_nil) (fun _ _ _ _ _ => pe_dget (units1 hr.units) (pv 4) (pv 7) (fun _ _ => rfl))) pa_nil))) pe_int) rfl)) pss_nil))))))
    (pss_one (ps_ret (pv 4)))), ?_⟩
  rintro ds r ⟨hs, e, rfl, hv, g, rfl⟩ C D hC hrt hnx
  have hve := g.valid hv
  have sl := LH.stepsIn_len hv hve
  have h4 := hv.le
  have ll := LH.losers_le (hs := hs) (e := e)
  have hL := g.lev
  have hnd := LH.asc_nodup (LH.losers_asc (hs := hs) (e := e))
  have hcl : ∀ x ∈ LH.stepsIn hs e, x.2 ∈ LH.losers hs e → x.1 ∈ LH.losers hs e := fun x hx _ => (g.step hx).1
  have eM : LH.stagesM hs e = LH.stF (LH.stepsIn hs e) (LH.losers hs e) 8 [] := rfl
  refine p_seq (p_tup3 (o := .dk []) (u := .dK []) (em (g_call (a_cons (g_var rfl) (a_cons (g_var rfl) a_nil)) ⟨hs, e, rfl, hv, g.len, rfl⟩)) (em (g_call (a_cons (g_var rfl) (a_cons (g_var rfl) a_nil)) ⟨hs, e, rfl, hv, hve, g.len, rfl⟩))
    (fun σ H Q q => q) (fun B H p h => h) (p_seq ?_))
  generalize LH.stepsIn hs e = st at *
  generalize LH.losers hs e = left at *
  generalize LH.Lv st = L at hL
  refine p_while (α := LH.Kp) (fun f => [some (dH hs), some (dH e), some (dL left), some (dPs st), none, none, none, none, none]) (fun f => [(4, .dk (iK f))]) (fun f => ∃ n, LH.StOk L left f ∧ left.length ≤ f.length + n ∧ LH.stagesM hs e = LH.stF st left n f) (fun f => left.length - f.length) (fun f => decide (f.length < left.length)) []
    ⟨8, ⟨by simp, by simp⟩, by simp; omega, eM⟩ (Sub.refl _) rfl ?_ ?_ ?_
  · intro f _
    refine tm_own ((t_test (g_op (g_cb (a_cons (g_var rfl) a_nil) rc_lenD) (g_cb (a_cons (g_var rfl) a_nil) (rc_len (.inl rfl))) rv_b)).is ?_)
    rw [List.length_map, List.length_map]
    by_cases h : f.length < left.length
    · rw [decide_eq_true h]; exact decide_eq_true (by omega)
    · rw [decide_eq_false h]; exact decide_eq_false (by omega)
  · rintro f ⟨n, ok, hn, hr2⟩ hlt
    have hlt : f.length < left.length := of_decide_eq_true hlt
    obtain ⟨n, rfl⟩ : ∃ m, n = m + 1 := ⟨n - 1, by omega⟩
    unfold LH.stF at hr2
    rw [if_pos hlt] at hr2
    have more := LH.pass_more hL hnd hcl ok hlt
    have ok2 : LH.StOk L left (LH.stPass st left f) := LH.fold_ok hL (fun p hp => hp) ok
    refine p_for (xs := left) (enc := dN) (is := [5]) (fun i => [some (dH hs), some (dH e), some (dL left), some (dPs st), none, none, none, none, none]) (fun i => [(4, .dk (iK ((left.take i).foldl (LH.stIn st) f)))]) (fun i x => [some (dH hs), some (dH e), some (dL left), some (dPs st), none, some (dN x), none, none, none])
      (w_list (g_var rfl)) (Sub.refl _) rfl (fun i x _ => gt_name) (by simp) ?_ ?_
    · intro Bl i x hx
      have okI : LH.StOk L left ((left.take i).foldl (LH.stIn st) f) := LH.fold_ok hL (fun p hp => List.mem_of_mem_take hp) ok
      have lenI := okI.len hnd
      have eF : (left.take (i + 1)).foldl (LH.stIn st) f = LH.stIn st ((left.take i).foldl (LH.stIn st) f) x := by rw [take_snoc hx, List.foldl_append]; rfl
      generalize (left.take i).foldl (LH.stIn st) f = fi at *
      have pl : (LH.preds st x).length ≤ 128 := by
        unfold LH.preds
        rw [List.length_map]
        exact Nat.le_trans (List.length_filter_le _ _) sl
      refine p_seq (p_asg (d := dL (LH.preds st x)) (em ((g_lc (xs := st) (enc := dP) (p := fun e => e.2 == x) (f := fun e => dN e.1) (w_list (g_var rfl)) (by omega) (is := [7, 8]) (by decide) (fun y _ => gt_pair)
        (fun y _ => (t_test (g_op (g_var rfl) (g_var rfl) rv_eqN)).is rfl) (fun y _ _ => g_var rfl)).is ?_)) ?_)
      · show FW.D.lst _ = FW.D.lst (List.map dN (List.map _ _))
        rw [List.map_map]; rfl
      refine p_if (b := !(LH.hasK fi x) && (LH.preds st x).all (LH.hasK fi)) (tm_own (t_and (t_B ((g_dnotin (g_var rfl) (g_var rfl)).is (by rw [LH.hasK_look]))) fun _ => t_B (g_all (xs := LH.preds st x) (q := LH.hasK fi) (g_lc0 (enc := dN) (w_list (g_var rfl)) (by omega) (is := [7]) (by decide) (fun y _ => gt_name)
        (fun y _ => (g_din (g_var rfl) (g_var rfl)).is (by rw [LH.hasK_look])))))) (fun h => ?_) fun h => ?_
      · have hh : LH.hasK fi x = false ∧ ∀ y ∈ LH.preds st x, LH.hasK fi y = true := by simpa using h
        have eI : LH.stIn st fi x = fi ++ [(x, LH.stVal st fi x)] := by unfold LH.stIn; rw [if_pos h]
        refine p_dput (k := (x : Int)) (n := ((LH.stVal st fi x : Nat) : Int)) (em_own (g_if (b := !decide (LH.preds st x = [])) (t_test (g_op (g_var rfl) (g_lst a_nil (by simp)) (rv_neD (a := LH.preds st x) (b := []) encL))) (fun hp => ?_) (fun hp => ?_)) rfl) (em (g_var rfl)) (by rw [List.length_map]; omega) (p_done (.keep (.keep (.keep (.keep (.keep (.drop (.drop (.keep (.keep .nil))))))))) ?_)
        · have hp : LH.preds st x ≠ [] := by simpa using hp
          have nem : (LH.preds st x).map (LH.getK fi) ≠ [] := fun z => hp (List.map_eq_nil_iff.mp z)
          refine (g_op (d := FW.D.int 1) (e := dN (LH.mx ((LH.preds st x).map (LH.getK fi)))) g_int (g_cb (a_cons ((g_lc0 (xs := LH.preds st x) (enc := dN) (f := fun y => dN (LH.getK fi y)) (w_list (g_var rfl)) (by omega) (is := [7]) (by decide) (fun y _ => gt_name)
            (fun y hy => g_dget (g_var rfl) (g_var rfl) (LH.getK_look (hh.2 y hy)))).is (e := dL ((LH.preds st x).map (LH.getK fi))) ?_) a_nil) (rc_max (LH.mx_mem nem) fun z hz => LH.le_mx hz)) rv_i).is ?_
          · show FW.D.lst _ = FW.D.lst (List.map dN (List.map _ _))
            rw [List.map_map]; rfl
          · unfold LH.stVal
            have ep : (LH.preds st x).isEmpty = false := by
              cases q : LH.preds st x with
              | nil => exact absurd q hp
              | cons => rfl
            rw [ep, if_neg Bool.false_ne_true]
            exact congrArg FW.D.int (by omega)
        · have hp : LH.preds st x = [] := by simpa using hp
          refine g_int.is ?_
          unfold LH.stVal
          rw [hp]; rfl
        · rw [eF, eI, put_iK hh.1]
      · refine p_next (p_done (.keep (.keep (.keep (.keep (.keep (.drop (.drop (.keep (.keep .nil))))))))) ?_)
        rw [eF]
        unfold LH.stIn
        rw [h, if_neg Bool.false_ne_true]
    · rw [take_all]
      refine fun σ H a => ⟨LH.stPass st left f, ⟨n, ok2, by omega, hr2⟩, by have := ok2.len hnd; omega, a⟩
  · rintro f ⟨n, ok, hn, hr2⟩ hlt
    have hlt : ¬ f.length < left.length := of_decide_eq_false hlt
    have e2 : LH.stF st left n f = f := by
      cases n with
      | zero => rfl
      | succ n => unfold LH.stF; rw [if_neg hlt]
    refine p_give (p_ret (em (g_var rfl)) ?_)
    rw [hr2, e2] at hrt
    exact hrt
end
end LW

set_option Elab.async false
set_option linter.all false
set_option maxRecDepth 100000
set_option maxHeartbeats 4000000
/-! stages, their number, their people -/
namespace LW
open PySem PySem.Spec PyProof.Rows L2 FW
def sc41b : Scope := match defBody (topS 41) with
  | [_, _, _, .Return (some (.Call _ [.ListComp _ _ sc _] _ _)) _] => sc
  | _ => defScope (topS 41)
section
variable {P : Program} {w : World} {K : PySem.W.Frag} {mg : Str → Option Value} {base : Heap}
theorem losers_len {hs e : LH.Hs} (hv : LH.Valid hs) : (LH.losers hs e).length ≤ 4 := Nat.le_trans LH.losers_le hv.le
noncomputable abbrev stL (hs e : LH.Hs) : List (Nat × Nat) := (LH.losers hs e).map fun p => (p, LH.Lv (LH.stepsIn hs e) p)
theorem sc39 : FnScope ["one", "other"] ["one", "other"] (defScope (topS 39)) := ⟨rfl, rfl, rfl, by decide +kernel, rfl, by decide +kernel, by decide +kernel⟩
def R_stages (ds : List D) (r : D) : Prop := ∃ hs e, ds = [dH hs, dH e] ∧ LH.Valid hs ∧ LH.Good hs e ∧ r = .tup ((stL hs e).map dP)
theorem cl_stages (T : Bt mg) (F : Std K mg "stages" (topS 39) ["one", "other"]) (c1 : Cl P w K mg base 6 "need_way" R_way0) (c2 : Cl P w K mg base 3 "stages_in" R_stages_in) : Cl P w K mg base 7 "stages" R_stages := by
  refine cl_of F sc39 (by rintro ds r ⟨h, e, rfl, _⟩; rfl) fun f cdv A outer s H E hr => ⟨_, pss_cons (ps_expr (pe_cl c1 hr (by decide) (by rfl) (pa_cons (pv 0) (pa_cons (pv 1) pa_nil))))
    (pss_one (ps_ret (pe_callTy call_tuple_of (by rfl) T.tuple boot_tuple (pa_cons (pe_sortItems rfl hr.units (pe_cl c2 hr (by decide) (by rfl) (pa_cons (pv 0) (pa_cons (pv 1) pa_nil))) (by rfl) T.sorted (by decide +kernel)) pa_nil)))), ?_⟩
  rintro ds r ⟨hs, e, rfl, hv, g, rfl⟩ C D hC hrt hnx
  have ll := losers_len (e := e) hv
  have sk := (LH.stages_ok hv g).2
  refine p_seq (p_drop (em (g_call (a_cons (g_var rfl) (a_cons (g_var rfl) a_nil)) ⟨hs, e, rfl, hv, g, rfl⟩)) (p_ret (em (g_cb (a_cons (g_sortItems (g_call (a_cons (g_var rfl) (a_cons (g_var rfl) a_nil)) ⟨hs, e, rfl, hv, g, rfl⟩) (LH.stages_perm hv g).symm ?_ (by omega)) a_nil) rc_tuple)) hrt))
  rw [List.pairwise_map]
  exact LH.losers_asc
theorem sc40 : FnScope ["one", "other", "found"] ["one", "other"] (defScope (topS 40)) := ⟨rfl, rfl, rfl, by decide +kernel, rfl, by decide +kernel, by decide +kernel⟩
def R_count_stages (ds : List D) (r : D) : Prop := ∃ hs e, ds = [dH hs, dH e] ∧ LH.Valid hs ∧ LH.Good hs e ∧ r = dN (LH.cs hs e)
theorem g_many {Γ : Gm} {hs e : LH.Hs} (hv : LH.Valid hs) (g : LH.Good hs e) {te : TE} (h : EvG te Γ (dK (LH.stagesM hs e))) : EvG (tIf (tTest (tOp rNeNew te tDNewK)) (tOp (rI0 fun i j => .int (i + j)) (tCB (rMax K) (tCons (tListVals te) tNil)) (tC (.int 1))) (tC (.int 0))) Γ (dN (LH.cs hs e)) := by
  have en : (iK (LH.stagesM hs e)).isEmpty = (LH.stagesM hs e).isEmpty := by cases LH.stagesM hs e <;> rfl
  refine g_if (b := !(LH.stagesM hs e).isEmpty) ((t_neNew h).is (by rw [en])) (fun hb => ?_) (fun hb => ?_)
  · have ne : LH.stagesM hs e ≠ [] := fun z => by rw [z] at hb; cases hb
    have nl : LH.losers hs e ≠ [] := fun z => ne ((LH.stages_nil hv g).mpr z)
    have nm : (LH.stagesM hs e).map (·.2) ≠ [] := fun z => ne (List.map_eq_nil_iff.mp z)
    refine (g_op (d := dN (LH.mx ((LH.stagesM hs e).map (·.2)))) (e := FW.D.int 1) (g_cb (a_cons (g_listVals h) a_nil) (rc_max (LH.mx_mem nm) fun z hz => LH.le_mx hz)) g_int rv_i).is ?_
    unfold LH.cs
    rw [if_neg nl, LH.stages_mx hv g]
    exact congrArg FW.D.int (by omega)
  · have e0 : LH.stagesM hs e = [] := by
      cases q : LH.stagesM hs e with
      | nil => rfl
      | cons => rw [q] at hb; cases hb
    refine g_int.is ?_
    unfold LH.cs
    rw [if_pos ((LH.stages_nil hv g).mp e0)]; rfl
theorem cl_count_stages (T : Bt mg) (F : Std K mg "count_stages" (topS 40) ["one", "other"]) (c1 : Cl P w K mg base 6 "need_way" R_way0) (c2 : Cl P w K mg base 3 "stages_in" R_stages_in) : Cl P w K mg base 7 "count_stages" R_count_stages := by
  refine cl_of F sc40 (by rintro ds r ⟨h, e, rfl, _⟩; rfl) fun f cdv A outer s H E hr => ⟨_, pss_cons (ps_expr (pe_cl c1 hr (by decide) (by rfl) (pa_cons (pv 0) (pa_cons (pv 1) pa_nil))))
    (pss_cons (ps_set (i := 2) sc40.nd rfl (by first | exact .inl rfl | exact .inr rfl) (pe_cl c2 hr (by decide) (by rfl) (pa_cons (pv 0) (pa_cons (pv 1) pa_nil))))
    (pss_one (ps_ret (pe_ifExp (pt_cmpR (op_neNew hr.units0) (pv 2) pe_dnewK (nomark _)) (pe_op op_add (pe_callB (cr_max rfl) (by rfl) T.max (by decide +kernel) (pa_cons (pe_listVals rfl (pv 2) (by rfl) T.list boot_list) pa_nil)) pe_int) pe_int)))), ?_⟩
  rintro ds r ⟨hs, e, rfl, hv, g, rfl⟩ C D hC hrt hnx
  exact p_seq (p_drop (em (g_call (a_cons (g_var rfl) (a_cons (g_var rfl) a_nil)) ⟨hs, e, rfl, hv, g, rfl⟩)) (p_seq (p_asg (em (g_call (a_cons (g_var rfl) (a_cons (g_var rfl) a_nil)) ⟨hs, e, rfl, hv, g, rfl⟩)) (p_ret (em (g_many hv g (g_var rfl))) hrt))))
abbrev N41 : List Str := ["one", "other", "found", "many", "stage", "person"]
theorem sc41 : FnScope N41 ["one", "other"] (defScope (topS 41)) := ⟨rfl, rfl, rfl, by decide +kernel, rfl, by decide +kernel, by decide +kernel⟩
def R_by_stages (ds : List D) (r : D) : Prop := ∃ hs e, ds = [dH hs, dH e] ∧ LH.Valid hs ∧ LH.Good hs e ∧ r = .tup ((LH.parts hs e).map dT)
theorem cl_by_stages (T : Bt mg) (F : Std K mg "by_stages" (topS 41) ["one", "other"]) (c1 : Cl P w K mg base 6 "need_way" R_way0) (c2 : Cl P w K mg base 3 "stages_in" R_stages_in) : Cl P w K mg base 7 "by_stages" R_by_stages := by
  refine cl_of F sc41 (by rintro ds r ⟨h, e, rfl, _⟩; rfl) fun f cdv A outer s H E hr => ⟨_, pss_cons (ps_expr (pe_cl c1 hr (by decide) (by rfl) (pa_cons (pv 0) (pa_cons (pv 1) pa_nil))))
    (pss_cons (ps_set (i := 2) sc41.nd rfl (by first | exact .inl rfl | exact .inr rfl) (pe_cl c2 hr (by decide) (by rfl) (pa_cons (pv 0) (pa_cons (pv 1) pa_nil))))
    (pss_cons (ps_set (i := 3) sc41.nd rfl (by first | exact .inl rfl | exact .inr rfl) (pe_ifExp (pt_cmpR (op_neNew hr.units0) (pv 2) pe_dnewK (nomark _)) (pe_op op_add (pe_callB (cr_max rfl) (by rfl) T.max (by decide +kernel) (pa_cons (pe_listVals rfl (pv 2) (by rfl) T.list boot_list) pa_nil)) pe_int) pe_int))
    (pss_one (ps_ret (pe_callTy call_tuple_of (by rfl) T.tuple boot_tuple (pa_cons (pe_lc (own := [("stage", 4)]) (g := gName 4) (tt := tYes)
        (te := tCB (fun xs H Q => ∃ p ys, xs = [.ref p] ∧ ((SqL K H p ys ∧ ∀ l, H l = none → Q (.ref l) (upd H l (.tup ys))) ∨ (SqT K H p ys ∧ Q (.ref p) H))) (tCons (tLc (iList K (tCB (rSortedI K) (tCons (tCB rListD (tCons (tVar 2) tNil)) tNil))) (gName 5) (tTest (tOp rEq (tDGet (tVar 2) (tVar 5)) (tVar 4))) (tVar 5) [5]) tNil))
        rfl sc41.nd (pi_range1 (by rfl) T.range (pa_cons (pv 3) pa_nil))
      (blkOk_by (N := N41) (sc := defScope (topS 41)) (by decide +kernel)) (fun _ _ _ _ _ => pg_name (i := 4) sc41.nd rfl (by first | exact .inl rfl | exact .inr rfl)) (fun _ _ _ _ _ => pts_nil)
      (fun _ _ _ _ _ => pe_callTy call_tuple_of (by rfl) T.tuple boot_tuple (pa_cons (pe_lc (own := [("person", 5)]) (g := gName 5) (tt := tTest (tOp rEq (tDGet (tVar 2) (tVar 5)) (tVar 4))) (te := tVar 5) rfl sc41.nd
        (pi_list (pe_callB cr_sortedI (by rfl) T.sorted (by decide +kernel) (pa_cons (pe_callTy (call_list_dK rfl) (by rfl) T.list boot_list (pa_cons (pv 2) pa_nil)) pa_nil)))
        (blk_in (blkOk_by (N := N41) (sc := sc41b) (by decide +kernel))) (fun _ _ _ _ _ => pg_name (i := 5) sc41.nd rfl (by first | exact .inl rfl | exact .inr rfl))
        (fun _ _ _ _ _ => pts_one (pt_cmpR op_eq (pe_dget (units1 hr.units) (pv 2) (pv 5) (fun _ _ => rfl)) (pv 4) (nomark _))) (fun _ _ _ _ _ => pv 5)) pa_nil))) pa_nil)))))), ?_⟩
  rintro ds r ⟨hs, e, rfl, hv, g, rfl⟩ C D hC hrt hnx
  have ll := losers_len (e := e) hv
  have sk := (LH.stages_ok hv g).2
  have keys := LH.stages_keys hv g
  have hnd := LH.asc_nodup (LH.losers_asc (hs := hs) (e := e))
  have cl := LH.cs_le g
  refine p_seq (p_drop (em (g_call (a_cons (g_var rfl) (a_cons (g_var rfl) a_nil)) ⟨hs, e, rfl, hv, g, rfl⟩)) (p_seq (p_asg (em (g_call (a_cons (g_var rfl) (a_cons (g_var rfl) a_nil)) ⟨hs, e, rfl, hv, g, rfl⟩)) (p_seq (p_asg (em (g_many hv g (g_var rfl))) ?_)))))
  refine p_ret (em ((g_cb (a_cons (g_lc0 (xs := List.range (LH.cs hs e)) (enc := dN) (f := fun k => dT (LH.part hs e k)) (w_range1 (a_cons (g_var rfl) a_nil) (by omega)) (by simp; omega) (is := [4]) (by decide) (fun x _ => gt_name)
    (fun k _ => (g_cb (a_cons (g_lc (xs := LH.losers hs e) (enc := dN) (p := fun p => LH.Lv (LH.stepsIn hs e) p == k) (f := dN) (w_list (g_cb (a_cons (g_cb (a_cons (g_var rfl) a_nil) rc_listD) a_nil) (rc_sorted LH.losers_asc (keys.nodup_iff.mpr hnd) fun t => keys.mem_iff))) (by omega) (is := [5]) (by decide) (fun x _ => gt_name)
      (fun x hx => (t_test (g_op (d := dN (LH.Lv (LH.stepsIn hs e) x)) (e := dN k) ((g_dget (g_var rfl) (g_var rfl) (LH.getK_look (LH.hasK_iff.mpr (keys.mem_iff.mpr hx)))).is ?_) (g_var rfl) rv_eqN)).is ?_) (fun x _ _ => g_var rfl)) a_nil) rc_tuple).is rfl)) a_nil) rc_tuple).is ?_)) hrt
  · rw [LH.stages_get hv g hx]
  · by_cases h : LH.Lv (LH.stepsIn hs e) x = k <;> simp [h]
  · unfold LH.parts
    rw [List.map_map]; rfl
end
end LW

set_option Elab.async false
set_option linter.all false
set_option maxRecDepth 100000
set_option maxHeartbeats 4000000
/-! keepers; ends -/
namespace LH
section
variable {hs : Hs}
theorem fold_len : ∀ (ts : List Nat) (found : List Kp), hs.length ≤ 4 → (ts.foldl (keepStep hs) found).length ≤ found.length * 4 ^ ts.length
  | [], found, _ => by simp
  | t :: ts, found, h4 => by
    rw [List.foldl_cons]
    have a := fold_len ts (keepStep hs found t) h4
    have b : (keepStep hs found t).length ≤ found.length * 4 := by
      unfold keepStep
      refine LW.flat_len (fun k => ?_) found
      rw [List.length_map]
      exact Nat.le_trans (List.length_filter_le _ _) (Nat.le_trans LW.holders_len h4)
    have e : found.length * 4 ^ (ts.length + 1) = found.length * 4 * 4 ^ ts.length := by rw [Nat.pow_succ, Nat.mul_comm (4 ^ ts.length) 4, Nat.mul_assoc]
    rw [List.length_cons, e]
    exact Nat.le_trans a (Nat.mul_le_mul_right _ b)
theorem fold_facts (hv : Valid hs) {ts : List Nat} {k : Kp} (h : k ∈ ts.foldl (keepStep hs) [[]]) : k.map (·.1) = ts ∧ KpOk hs k := by
  obtain ⟨k0, h0, ext, rfl, h2, h3, _⟩ := (mem_fold hv ts [[]] k (fun k0 h0 => by simp at h0; subst h0; intro x hx; simp at hx)).mp h
  simp at h0
  subst h0
  exact ⟨h2, h3⟩
theorem stepsOf_len (h4 : hs.length ≤ 7) (k : Kp) : (stepsOf hs k).length ≤ k.length * 7 := by
  unfold stepsOf
  refine LW.flat_len (fun tp => ?_) k
  rw [List.length_map]
  exact Nat.le_trans (List.length_filter_le _ _) (Nat.le_trans LW.holders_len h4)
end
end LH
namespace LW
open PySem PySem.Spec PyProof.Rows L2 FW
section
variable {P : Program} {w : World} {K : PySem.W.Frag} {mg : Str → Option Value} {base : Heap}
abbrev N23 : List Str := ["hands", "keeper", "found", "thing", "person", "other"]
theorem sc23 : FnScope N23 ["hands", "keeper"] (defScope (topS 23)) := ⟨rfl, rfl, rfl, by decide +kernel, rfl, by decide +kernel, by decide +kernel⟩
def R_steps_of (ds : List D) (r : D) : Prop := ∃ hs k, ds = [dH hs, dK k] ∧ hs.length ≤ 7 ∧ k.length ≤ 100 ∧ r = dPs (LH.stepsOf hs k)
theorem cl_steps_of (T : Bt mg) (F : Std K mg "steps_of" (topS 23) ["hands", "keeper"]) (c1 : Cl P w K mg base 1 "holders_in" R_holders) : Cl P w K mg base 2 "steps_of" R_steps_of := by
  refine cl_of F sc23 (by rintro ds r ⟨h, k, rfl, _⟩; rfl) fun f cdv A outer s H E hr => ⟨_, pss_cons (ps_set (i := 2) sc23.nd rfl (by first | exact .inl rfl | exact .inr rfl) (pe_lst pa_nil))
    (pss_cons (ps_lock (ps_for PassesOwn.never rfl (pi_items (pv 1)) (pg_tup rfl (pgs_cons (pg_name (i := 3) sc23.nd rfl (by first | exact .inl rfl | exact .inr rfl)) (pgs_cons (pg_name (i := 4) sc23.nd rfl (by first | exact .inl rfl | exact .inr rfl)) pgs_nil)))
      (pss_one (ps_expr (pe_bm PySem.F.plainAttrs_list PySem.F.slot_list_extend PySem.F.type_list_extend mt_extend (pv 2) (pa_cons (pe_lc (own := [("other", 5)]) (g := gName 5) (tt := tTest (tOp rNe (tVar 5) (tVar 4))) (te := tTup (tCons (tVar 5) (tCons (tVar 4) tNil))) rfl sc23.nd (pi_list (pe_cl c1 hr (by decide) (by rfl) (pa_cons (pv 0) (pa_cons (pv 3) pa_nil))))
            (blkOk_by (N := N23) (sc := defScope (topS 23)) (by decide +kernel)) (fun _ _ _ _ _ => pg_name (i := 5) sc23.nd rfl (by first | exact .inl rfl | exact .inr rfl)) (fun _ _ _ _ _ => pts_one (pt_cmpR op_ne (pv 5) (pv 4) (nomark _))) (fun _ _ _ _ _ => pe_tup (pa_cons (pv 5) (pa_cons (pv 4) pa_nil)))) pa_nil))))))
    (pss_one (ps_ret (pv 2)))), ?_⟩
  rintro ds r ⟨hs, k, rfl, h7, hk, rfl⟩ C D hC hrt hnx
  let cell := fun tp : Nat × Nat => ((LH.holders hs tp.1).filter (· != tp.2)).map fun p => (p, tp.2)
  refine p_seq (p_newl a_nil (by simp) (p_seq ?_))
  have at_i : ∀ {i : Nat} {x : Int × Int}, (iK k)[i]? = some x → ∃ tp, k[i]? = some tp ∧ x = ((tp.1 : Int), (tp.2 : Int)) := fun {i x} h => by
    unfold iK at h
    rw [List.getElem?_map] at h
    cases e : k[i]? with
    | none => rw [e] at h; cases h
    | some tp => rw [e] at h; exact ⟨tp, rfl, (Option.some.inj h).symm⟩
  refine p_items (kvs := iK k) (i := 1) (is := [3, 4]) (Γ' := [some (dH hs), none, none, none, none, none]) rfl (.keep (.drop (.keep (.keep (.keep (.keep .nil)))))) ?_ ?_ (fun i => [some (dH hs), none, none, none, none, none]) (fun i => [(2, .l (((k.take i).flatMap cell).map dP))])
    (fun i x => [some (dH hs), none, none, some (.int x.1), some (.int x.2), none]) (Sub.refl _) rfl (fun i x _ => gt_pair) (by simp) ?_ ?_
  · show (pl (dH hs) && true) = true
    rw [encH.pl]; rfl
  · simp [plO, plL]
  · intro C' D' i x hx
    obtain ⟨tp, htp, rfl⟩ := at_i hx
    have hl1 : (cell tp).length ≤ 7 := by
      show (List.map _ (List.filter _ _)).length ≤ 7
      rw [List.length_map]
      exact Nat.le_trans (List.length_filter_le _ _) (Nat.le_trans holders_len h7)
    have hl2 := flat_len' (l := k.take i) (f := cell) (k := 7) fun y _ => by
      show (List.map _ (List.filter _ _)).length ≤ 7
      rw [List.length_map]
      exact Nat.le_trans (List.length_filter_le _ _) (Nat.le_trans holders_len h7)
    have hl3 : (k.take i).length ≤ 100 := by rw [List.length_take]; omega
    refine p_ext (es := (cell tp).map dP) ((g_lc (xs := LH.holders hs tp.1) (enc := dN) (p := fun p => p != tp.2) (f := fun p => dP (p, tp.2)) (w_list (g_call (a_cons (g_var rfl) (a_cons (g_var rfl) a_nil)) ⟨hs, tp.1, rfl, h7, rfl⟩)) (by have := holders_len (hs := hs) (t := tp.1); omega) (is := [5]) (by decide)
      (fun x _ => gt_name) (fun x _ => (t_test (g_op (g_var rfl) (g_var rfl) (rv_neN (a := x) (b := tp.2)))).is ?_) (fun x _ _ => g_tup (a_cons (g_var rfl) (a_cons (g_var rfl) a_nil)) (by simp))).is ?_) ?_ (p_done (.keep (.keep (.keep (.drop (.drop (.keep .nil)))))) ?_)
    · by_cases h : x = tp.2 <;> simp [h]
    · show FW.D.lst _ = FW.D.lst (List.map dP (List.map _ _))
      rw [List.map_map]; rfl
    · rw [List.length_map, List.length_map]; omega
    · rw [take_flat htp, List.map_append]
  · have e : (iK k).length = k.length := by unfold iK; rw [List.length_map]
    refine p_give (p_ret (em (g_var rfl)) ?_)
    rw [e, take_all]
    exact hrt
theorem g_dnewK {Γ : Gm} : EvG tDNewK Γ (dK []) := fun σ B en H Q hs q p hp => q _ _ _ (Frm.new hs hp) (.dk upd_same)
abbrev N24 : List Str := ["hands", "found", "thing", "later", "keeper", "person", "longer"]
theorem sc24 : FnScope N24 ["hands"] (defScope (topS 24)) := ⟨rfl, rfl, rfl, by decide +kernel, rfl, by decide +kernel, by decide +kernel⟩
def R_keepers (ds : List D) (r : D) : Prop := ∃ hs, ds = [dH hs] ∧ LH.Valid hs ∧ r = .lst ((LH.keepersM hs).map dK)
theorem cl_keepers (T : Bt mg) (F : Std K mg "keepers_in" (topS 24) ["hands"]) (c1 : Cl P w K mg base 1 "holders_in" R_holders) (c2 : Cl P w K mg base 1 "things_in" R_things) (c3 : Cl P w K mg base 1 "has_ring" R_has_ring) (c4 : Cl P w K mg base 2 "steps_of" R_steps_of) :
    Cl P w K mg base 3 "keepers_in" R_keepers := by
  refine cl_of F sc24 (by rintro ds r ⟨h, rfl, _⟩; rfl) fun f cdv A outer s H E hr => ⟨_, pss_cons (ps_set (i := 1) sc24.nd rfl (by first | exact .inl rfl | exact .inr rfl) (pe_lst (pa_cons pe_dnewK pa_nil)))
    (pss_cons (ps_for PassesOwn.never rfl (pi_list (pe_cl c2 hr (by decide) (by rfl) (pa_cons (pv 0) pa_nil))) (pg_name (i := 2) sc24.nd rfl (by first | exact .inl rfl | exact .inr rfl))
      (pss_cons (ps_set (i := 3) sc24.nd rfl (by first | exact .inl rfl | exact .inr rfl) (pe_lst pa_nil))
      (pss_cons (ps_for PassesOwn.never rfl (pi_list (pv 1)) (pg_name (i := 4) sc24.nd rfl (by first | exact .inl rfl | exact .inr rfl))
        (pss_one (ps_for PassesOwn.never rfl (pi_list (pe_cl c1 hr (by decide) (by rfl) (pa_cons (pv 0) (pa_cons (pv 2) pa_nil)))) (pg_name (i := 5) sc24.nd rfl (by first | exact .inl rfl | exact .inr rfl))
          (pss_cons (ps_set (i := 6) sc24.nd rfl (by first | exact .inl rfl | exact .inr rfl) (pe_starD (pv 4) (pv 2) (pv 5)))
          (pss_one (ps_if (pt_not (pt_val (pe_cl c3 hr (by decide) (by rfl) (pa_cons (pe_cl c4 hr (by decide) (by rfl) (pa_cons (pv 0) (pa_cons (pv 6) pa_nil))) pa_nil))))
            (pss_one (ps_expr (pe_bm PySem.F.plainAttrs_list PySem.F.slot_list_append PySem.F.type_list_append mt_append (pv 3) (pa_cons (pv 6) pa_nil)))) pss_nil))))))
      (pss_one (ps_set (i := 1) sc24.nd rfl (by first | exact .inl rfl | exact .inr rfl) (pv 3))))))
    (pss_one (ps_ret (pv 1)))), ?_⟩
  rintro ds r ⟨hs, rfl, hv, rfl⟩ C D hC hrt hnx
  have h4 := hv.le
  have h7 : hs.length ≤ 7 := by omega
  have t8 : (LH.things hs).length ≤ 8 := LH.sset_len _
  have tasc : (LH.things hs).Pairwise (· < ·) := LH.sset_asc _
  let fnd := fun i : Nat => ((LH.things hs).take i).foldl (LH.keepStep hs) [[]]
  have fl : ∀ i, (fnd i).length ≤ 65536 := fun i => by
    have a := LH.fold_len (hs := hs) ((LH.things hs).take i) [[]] h4
    have b : ((LH.things hs).take i).length ≤ 8 := by rw [List.length_take]; omega
    have c := Nat.pow_le_pow_right (n := 4) (by decide) b
    simp only [List.length_cons, List.length_nil] at a
    have e : fnd i = ((LH.things hs).take i).foldl (LH.keepStep hs) [[]] := rfl
    rw [e]
    omega
  refine p_seq (p_asg (d := .lst ([([] : LH.Kp)].map dK)) (em (g_lst (a_cons g_dnewK a_nil) (by simp))) (p_seq ?_))
  refine p_for (xs := LH.things hs) (enc := dN) (is := [2]) (fun i => [some (dH hs), some (.lst ((fnd i).map dK)), none, none, none, none, none]) (fun i => []) (fun i x => [some (dH hs), some (.lst ((fnd i).map dK)), some (dN x), none, none, none, none])
    (w_list (g_call (a_cons (g_var rfl) a_nil) ⟨hs, rfl, hv, rfl⟩)) (Sub.refl _) rfl (fun i x _ => gt_name) (by simp) ?_ ?_
  · intro Bl i t ht
    have eF : fnd (i + 1) = LH.keepStep hs (fnd i) t := by
      show List.foldl _ _ _ = _
      rw [take_snoc ht, List.foldl_append]; rfl
    have hfacts : ∀ k ∈ fnd i, k.map (·.1) = (LH.things hs).take i ∧ LH.KpOk hs k := fun k hk => LH.fold_facts hv hk
    have htn : t ∉ (LH.things hs).take i := fun hm => by
      have e1 := take_snoc ht
      have pw : ((LH.things hs).take (i + 1)).Pairwise (· < ·) := tasc.sublist (List.take_sublist _ _)
      rw [e1, List.pairwise_append] at pw
      have := pw.2.2 t hm t (by simp)
      omega
    have fli := fl i
    have fls := fl (i + 1)
    rw [eF] at fls
    generalize fnd i = fi at *
    let cell := fun k : LH.Kp => ((LH.holders hs t).filter fun p => !LH.ring (LH.stepsOf hs (k ++ [(t, p)]))).map fun p => k ++ [(t, p)]
    have cl4 : ∀ k, (cell k).length ≤ 4 := fun k => by
      show (List.map _ (List.filter _ _)).length ≤ 4
      rw [List.length_map]
      exact Nat.le_trans (List.length_filter_le _ _) (Nat.le_trans holders_len h4)
    refine p_seq (p_newl a_nil (by simp) (p_seq ?_))
    refine p_for (xs := fi) (enc := dK) (is := [4]) (fun j => [some (dH hs), some (.lst (fi.map dK)), some (dN t), none, none, none, none]) (fun j => [(3, .l (((fi.take j).flatMap cell).map dK))]) (fun j k => [some (dH hs), some (.lst (fi.map dK)), some (dN t), none, some (dK k), none, none])
      (w_list (g_var rfl)) (Sub.refl _) rfl (fun i x _ => gt_name) (by simp) ?_ ?_
    · intro Bl j k hk
      have hkm := List.mem_of_getElem? hk
      obtain ⟨kk, kok⟩ := hfacts k hkm
      have kl : k.length ≤ 8 := by
        have := congrArg List.length kk
        rw [List.length_map, List.length_take] at this
        omega
      have kfree : (k.any fun kv => decide (kv.1 = t)) = false := by
        rw [List.any_eq_false]
        intro x hx
        have : x.1 ≠ t := fun z => htn (by rw [← kk, ← z]; exact List.mem_map_of_mem hx)
        simpa using this
      refine p_for (xs := LH.holders hs t) (enc := dN) (is := [5]) (fun l => [some (dH hs), some (.lst (fi.map dK)), some (dN t), none, some (dK k), none, none])
        (fun l => [(3, .l (((fi.take j).flatMap cell ++ (((LH.holders hs t).take l).filter fun p => !LH.ring (LH.stepsOf hs (k ++ [(t, p)]))).map fun p => k ++ [(t, p)]).map dK))]) (fun l p => [some (dH hs), some (.lst (fi.map dK)), some (dN t), none, some (dK k), some (dN p), none])
        (w_list (g_call (a_cons (g_var rfl) (a_cons (g_var rfl) a_nil)) ⟨hs, t, rfl, h7, rfl⟩)) (Sub.refl _) ?_ (fun i x _ => gt_name) (by simp) ?_ ?_
      · simp
      · intro Bl l p hp
        have hpm := LH.mem_holders.mp (List.mem_of_getElem? hp)
        have kok2 : LH.KpOk hs (k ++ [(t, p)]) := fun x hx => by
          rcases List.mem_append.mp hx with hx | hx
          · exact kok x hx
          · simp at hx; subst hx; exact hpm
        have sl := LH.stepsOf_len h7 (k ++ [(t, p)])
        have len2 : (k ++ [(t, p)]).length ≤ 9 := by rw [List.length_append]; simp; omega
        refine p_seq (p_asg (d := dK (k ++ [(t, p)])) (em (g_starD (g_var rfl) (g_var rfl) (g_var rfl) (by omega) kfree)) ?_)
        refine p_if (b := !LH.ring (LH.stepsOf hs (k ++ [(t, p)]))) (tm (t_not (t_B (g_call (a_cons (g_call (a_cons (g_var rfl) (a_cons (g_var rfl) a_nil)) ⟨hs, k ++ [(t, p)], rfl, h7, by omega, rfl⟩) a_nil) ⟨_, rfl, LH.stepsOf_lt hv kok2, by omega, rfl⟩)))) (fun h => ?_) (fun h => ?_)
        · refine p_app (em (g_var rfl)) ?_ (p_done (.keep (.keep (.keep (.keep (.keep (.drop (.drop .nil))))))) ?_)
          · have a1 := flat_len cl4 (fi.take j)
            have a2 : (fi.take j).length ≤ 65536 := by rw [List.length_take]; omega
            have a3 : ((((LH.holders hs t).take l).filter fun p => !LH.ring (LH.stepsOf hs (k ++ [(t, p)]))).map fun p => k ++ [(t, p)]).length ≤ 4 := by
              rw [List.length_map]
              refine Nat.le_trans (List.length_filter_le _ _) ?_
              rw [List.length_take]
              have := holders_len (hs := hs) (t := t)
              omega
            rw [List.length_map, List.length_append]
            omega
          · rw [take_filter hp, h]
            simp
        · refine p_next (p_done (.keep (.keep (.keep (.keep (.keep (.drop (.drop .nil))))))) ?_)
          rw [take_filter hp, h]
          simp
      · refine p_done (.keep (.keep (.keep (.keep (.drop (.keep (.keep .nil))))))) ?_
        rw [take_all, take_flat hk]
    · refine p_give (p_asg (em (g_var rfl)) (p_done (.keep ?_) rfl))
      rw [take_all, eF]
      exact .keep (.drop (.drop (.keep (.keep (.keep .nil)))))
  · refine p_ret (em (g_var rfl)) ?_
    show ∀ v B H, Frm C.B0 C.H0 B H → Kn B (.lst ((fnd (LH.things hs).length).map dK)) v → D.rt v H
    have e : fnd (LH.things hs).length = LH.keepersM hs := by
      show List.foldl _ _ _ = _
      rw [take_all]; rfl
    rw [e]
    exact hrt
abbrev N25 : List Str := ["hands", "keeper", "found", "person", "thing"]
theorem sc25 : FnScope N25 ["hands", "keeper"] (defScope (topS 25)) := ⟨rfl, rfl, rfl, by decide +kernel, rfl, by decide +kernel, by decide +kernel⟩
def R_end_by (ds : List D) (r : D) : Prop := ∃ hs k, ds = [dH hs, dK k] ∧ LH.Valid hs ∧ k ∈ LH.keepersM hs ∧ r = dH (LH.endBy hs k)
theorem cl_end_by (T : Bt mg) (F : Std K mg "end_by" (topS 25) ["hands", "keeper"]) : Cl P w K mg base 1 "end_by" R_end_by := by
  refine cl_of F sc25 (by rintro ds r ⟨h, k, rfl, _⟩; rfl) fun f cdv A outer s H E hr => ⟨_, pss_cons (ps_set (i := 2) sc25.nd rfl (by first | exact .inl rfl | exact .inr rfl) (pe_lst pa_nil))
    (pss_cons (ps_for PassesOwn.never rfl (pi_range1 (by rfl) T.range (pa_cons (pe_callB call_len_seq (by rfl) T.len PySem.boot_len (pa_cons (pv 0) pa_nil)) pa_nil)) (pg_name (i := 3) sc25.nd rfl (by first | exact .inl rfl | exact .inr rfl))
      (pss_one (ps_expr (pe_bm PySem.F.plainAttrs_list PySem.F.slot_list_append PySem.F.type_list_append mt_append (pv 2) (pa_cons (pe_callTy call_tuple_of (by rfl) T.tuple boot_tuple (pa_cons (pe_lc (own := [("thing", 4)]) (g := gName 4) (tt := tTest (tOp rEq (tDGet (tVar 1) (tVar 4)) (tVar 3))) (te := tVar 4) rfl sc25.nd (pi_tup (pe_ix ix_tup (pv 0) (pv 3) (fun _ _ => rfl)))
            (blkOk_by (N := N25) (sc := defScope (topS 25)) (by decide +kernel)) (fun _ _ _ _ _ => pg_name (i := 4) sc25.nd rfl (by first | exact .inl rfl | exact .inr rfl)) (fun _ _ _ _ _ => pts_one (pt_cmpR op_eq (pe_dget (units1 hr.units) (pv 1) (pv 4) (fun _ _ => rfl)) (pv 3) (nomark _))) (fun _ _ _ _ _ => pv 4)) pa_nil)) pa_nil)))))
    (pss_one (ps_ret (pe_callTy call_tuple_of (by rfl) T.tuple boot_tuple (pa_cons (pv 2) pa_nil))))), ?_⟩
  rintro ds r ⟨hs, k, rfl, hv, hk, rfl⟩ C D hC hrt hnx
  have h4 := hv.le
  obtain ⟨kk, kok, _⟩ := (LH.mem_keepers hv).mp hk
  let fx := fun p : Nat => (LH.hand hs p).filter fun t => LH.getK k t == p
  refine p_seq (p_newl a_nil (by simp) (p_seq ?_))
  refine p_for (xs := List.range hs.length) (enc := dN) (is := [3]) (fun i => [some (dH hs), some (dK k), none, none, none]) (fun i => [(2, .l ((((List.range hs.length).take i).map fx).map dT))]) (fun i x => [some (dH hs), some (dK k), none, some (dN x), none])
    (w_range1 (n := hs.length) (a_cons ((g_cb (a_cons (g_var rfl) a_nil) (rc_len (.inr rfl))).is (by rw [List.length_map])) a_nil) (by omega)) (Sub.refl _) rfl (fun i x _ => gt_name) (by simp) ?_ ?_
  · intro Bl i p hp
    have hpl := range_lt hp
    refine p_app (d := dT (fx p)) (em (g_cb (a_cons (g_lc (xs := LH.hand hs p) (enc := dN) (p := fun t => LH.getK k t == p) (f := dN) (w_tup (g_op (g_var rfl) (g_var rfl) (rv_ixT (hand_at hpl)))) (by have := hv.handLen p; omega) (is := [4]) (by decide)
      (fun x _ => gt_name) (fun x hx => (t_test (g_op (d := dN (LH.getK k x)) (e := dN p) (g_dget (g_var rfl) (g_var rfl) (LH.getK_look (LH.hasK_iff.mpr ?_))) (g_var rfl) rv_eqN)).is ?_) (fun x _ _ => g_var rfl)) a_nil) rc_tuple)) ?_ (p_done (.keep (.keep (.keep (.drop (.keep .nil))))) ?_)
    · rw [kk]
      refine LH.mem_sset.mpr ⟨?_, ?_⟩
      · exact hv.handLt hx
      · exact List.mem_flatten.mpr ⟨LH.hand hs p, LH.hand_in hpl, hx⟩
    · by_cases h : LH.getK k x = p <;> simp [h]
    · rw [List.length_map, List.length_map, List.length_take, List.length_range]; omega
    · rw [take_map hp]; simp
  · refine p_give (p_ret (em (g_cb (a_cons (g_var rfl) a_nil) rc_tuple)) ?_)
    rw [take_all]
    exact hrt
def endsS (hs : LH.Hs) : List LH.Hs := (LH.endsM hs).mergeSort (PySem.W.dataLe false fun h => py (dH h))
theorem mem_endsS {hs e : LH.Hs} (hv : LH.Valid hs) : e ∈ endsS hs ↔ LH.Good hs e := by
  unfold endsS
  rw [(List.mergeSort_perm _ _).mem_iff]
  exact LH.mem_endsM hv
theorem sc26 : FnScope ["hands", "keeper"] ["hands"] (defScope (topS 26)) := ⟨rfl, rfl, rfl, by decide +kernel, rfl, by decide +kernel, by decide +kernel⟩
def R_ends (ds : List D) (r : D) : Prop := ∃ hs, ds = [dH hs] ∧ LH.Valid hs ∧ r = dLH (endsS hs)
theorem cl_ends_in (T : Bt mg) (F : Std K mg "ends_in" (topS 26) ["hands"]) (c1 : Cl P w K mg base 3 "keepers_in" R_keepers) (c2 : Cl P w K mg base 1 "end_by" R_end_by) : Cl P w K mg base 4 "ends_in" R_ends := by
  refine cl_of F sc26 (by rintro ds r ⟨h, rfl, _⟩; rfl) fun f cdv A outer s H E hr => ⟨_, pss_one (ps_ret (pe_callB (cr_sortD hr.units) (by rfl) T.sorted (by decide +kernel) (pa_cons (pe_lc (own := [("keeper", 1)]) (g := gName 1) (tt := tYes) (te := tCall (SpR R_end_by) [] E0 (tCons (tVar 0) (tCons (tVar 1) tNil))) rfl sc26.nd
    (pi_list (pe_cl c1 hr (by decide) (by rfl) (pa_cons (pv 0) pa_nil)))
    (blkOk_by (N := ["hands", "keeper"]) (sc := defScope (topS 26)) (by decide +kernel)) (fun _ _ _ _ _ => pg_name (i := 1) sc26.nd rfl (by first | exact .inl rfl | exact .inr rfl)) (fun _ _ _ _ _ => pts_nil) (fun _ _ _ _ _ => pe_cl c2 hr (by decide) (by rfl) (pa_cons (pv 0) (pa_cons (pv 1) pa_nil)))) pa_nil))), ?_⟩
  rintro ds r ⟨hs, rfl, hv, rfl⟩ C D hC hrt hnx
  have kl : (LH.keepersM hs).length ≤ 65536 := by
    have a := LH.fold_len (hs := hs) (LH.things hs) [[]] hv.le
    have b : (LH.things hs).length ≤ 8 := LH.sset_len _
    have c := Nat.pow_le_pow_right (n := 4) (by decide) b
    simp only [List.length_cons, List.length_nil] at a
    unfold LH.keepersM
    omega
  refine p_ret (em (g_cb (a_cons ((g_lc0 (xs := LH.keepersM hs) (enc := dK) (f := fun k => dH (LH.endBy hs k)) (w_list (g_call (a_cons (g_var rfl) a_nil) ⟨hs, rfl, hv, rfl⟩)) (by omega) (is := [1]) (by decide) (fun x _ => gt_name)
    (fun x hx => g_call (a_cons (g_var rfl) (a_cons (g_var rfl) a_nil)) ⟨hs, x, rfl, hv, hx, rfl⟩)).is (e := .lst ((LH.endsM hs).map dH)) ?_) a_nil) (rc_sortD encH (by decide) alikeH ?_))) hrt
  · unfold LH.endsM
    rw [List.map_map]; rfl
  · refine .inl fun d hd => ?_
    obtain ⟨h, hm, rfl⟩ := List.mem_map.mp hd
    have g := (LH.mem_endsM hv).mp hm
    have hl := g.len
    have h1 := hv.pos
    cases h with
    | nil => simp at hl; omega
    | cons x r =>
      show ∃ a b, py (.tup ((x :: r).map dT)) = .tuple (a :: b)
      rw [py, List.map_cons, pyL]
      exact ⟨_, _, rfl⟩
theorem sc27 : FnScope ["hands"] ["hands"] (defScope (topS 27)) := ⟨rfl, rfl, rfl, by decide +kernel, rfl, by decide +kernel, by decide +kernel⟩
theorem cl_ends (F : Std K mg "ends" (topS 27) ["hands"]) (c1 : Cl P w K mg base 4 "need_hands" R_need_hands) (c2 : Cl P w K mg base 4 "ends_in" R_ends) : Cl P w K mg base 5 "ends" R_ends := by
  refine cl_of F sc27 (by rintro ds r ⟨h, rfl, _⟩; rfl) fun f cdv A outer s H E hr => ⟨_, pss_cons (ps_expr (pe_cl c1 hr (by decide) (by rfl) (pa_cons (pv 0) pa_nil))) (pss_one (ps_ret (pe_cl c2 hr (by decide) (by rfl) (pa_cons (pv 0) pa_nil)))), ?_⟩
  rintro ds r ⟨hs, rfl, hv, rfl⟩ C D hC hrt hnx
  exact p_seq (p_drop (em (g_call (a_cons (g_var rfl) a_nil) ⟨hs, rfl, hv, rfl⟩)) (p_ret (em (g_call (a_cons (g_var rfl) a_nil) ⟨hs, rfl, hv, rfl⟩)) hrt))
end
end LW

set_option Elab.async false
set_option linter.all false
set_option maxRecDepth 100000
set_option maxHeartbeats 4000000
/-! plans; one round -/
namespace LH
theorem together_nil {hs : Hs} : together hs [] = hs := by
  refine hs_ext together_len fun p hp => ?_
  rw [hand_together]
  simp
theorem losers_of_end {hs e : Hs} (g : Good hs e) (h : isEnd hs = true) : losers hs e = [] := by
  have he := isEnd_iff.mp h
  unfold losers
  rw [List.filter_eq_nil_iff]
  intro p hp
  have : hand e p = hand hs p := by
    have k : (hand hs p).filter (fun t => (hand e p).contains t) = hand hs p := List.filter_eq_self.mpr fun t ht => by
      obtain ⟨q, hq⟩ := g.keep p t ht
      have := he p q t ht (g.mem hq)
      subst this
      simpa using hq
    exact (g.sub p).trans k
  simp [this]
end LH
namespace LW
open PySem PySem.Spec PyProof.Rows L2 FW
section
variable {P : Program} {w : World} {K : PySem.W.Frag} {mg : Str → Option Value} {base : Heap}
abbrev N43 : List Str := ["hands", "people", "many", "person"]
theorem sc43 : FnScope N43 ["hands", "people"] (defScope (topS 43)) := ⟨rfl, rfl, rfl, by decide +kernel, rfl, by decide +kernel, by decide +kernel⟩
def R_need_people (ds : List D) (r : D) : Prop := ∃ hs S, ds = [dH hs, dT S] ∧ hs.length ≤ 7 ∧ S ∈ LH.choices hs.length ∧ r = .non
theorem cl_need_people (T : Bt mg) (F : Std K mg "need_people" (topS 43) ["hands", "people"]) (c1 : Cl P w K mg base 1 "is_list" R_is_list) (c2 : Cl P w K mg base 2 "is_in" R_is_in) : Cl P w K mg base 3 "need_people" R_need_people := by
  refine cl_of F sc43 (by rintro ds r ⟨h, S, rfl, _⟩; rfl) fun f cdv A outer s H E hr => ⟨_, pss_cons (ps_set (i := 2) sc43.nd rfl (by first | exact .inl rfl | exact .inr rfl) (pe_callB call_len_seq (by rfl) T.len PySem.boot_len (pa_cons (pv 0) pa_nil)))
    (pss_cons (ps_if (PW.pt (pw_or (pt_not (pt_val (pe_cl c1 hr (by decide) (by rfl) (pa_cons (pv 1) (pa_cons pe_int (pa_cons (pv 2) pa_nil))))))
      (pw_or1 (pt_not (pt_val (pe_callB (cr_all rfl) (by rfl) T.all (by decide +kernel) (pa_cons (pe_lc (own := [("person", 3)]) (g := gName 3) (tt := tYes) (te := tCall (SpR R_is_in) [] E0 (tCons (tVar 3) (tCons (tC (.int 0)) (tCons (tOp (rI0 fun i j => .int (i - j)) (tVar 2) (tC (.int 1))) tNil)))) rfl sc43.nd (pi_tup (pv 1))
        (blkOk_by (N := N43) (sc := defScope (topS 43)) (by decide +kernel)) (fun _ _ _ _ _ => pg_name (i := 3) sc43.nd rfl (by first | exact .inl rfl | exact .inr rfl)) (fun _ _ _ _ _ => pts_nil) (fun _ _ _ _ _ => pe_cl c2 hr (by decide) (by rfl) (pa_cons (pv 3) (pa_cons pe_int (pa_cons (pe_op op_sub (pv 2) pe_int) pa_nil))))) pa_nil)))))))
      pss_never pss_nil)
    (pss_one (ps_if (pt_cmpR (op_neD hr.units) (pe_callTy call_list_of (by rfl) T.list boot_list (pa_cons (pv 1) pa_nil)) (pe_callB (cr_sortedSet rfl) (by rfl) T.sorted (by decide +kernel) (pa_cons (pe_callTy (cr_setI rfl) (by rfl) T.set PyProof.Rows.boot_set (pa_cons (pv 1) pa_nil)) pa_nil)) (nomark _)) pss_never pss_nil))), ?_⟩
  rintro ds r ⟨hs, S, rfl, h7, hS, rfl⟩ C D hC hrt hnx
  obtain ⟨ha, hb⟩ := LH.mem_choices.mp hS
  have h8 := LH.asc_len8 ha fun t ht => by have := hb t ht; omega
  have hsl : S.length ≤ hs.length := by
    have hsub := List.Nodup.length_le_of_subset (LH.asc_nodup ha) (l₂ := List.range hs.length) fun t ht => by simpa using hb t ht
    simpa using hsub
  refine p_seq (p_asg (d := dN hs.length) (em ((g_cb (a_cons (g_var rfl) a_nil) (rc_len (.inr rfl))).is (by rw [List.length_map]))) (p_seq (p_if (b := false) (tm ((t_or (t_not (t_B (g_call (a_cons (g_var rfl) (a_cons g_int (a_cons (g_var rfl) a_nil))) ⟨_, _, _, rfl, rfl⟩))) fun _ => t_not (t_B (g_all (xs := S) (q := fun _ => true) (g_lc0 (enc := dN) (w_tup (g_var rfl)) (by omega) (is := [3]) (by decide) (fun x _ => gt_name)
      (fun x hx => (g_call (a_cons (g_var rfl) (a_cons g_int (a_cons (g_op (g_var rfl) g_int rv_i) a_nil))) ⟨_, _, _, rfl, rfl⟩).is ?_))))).is ?_)) (fun h => nomatch h) fun _ => p_next ?_)))
  · have := hb x hx
    congr 1
    rw [Bool.and_eq_true]
    exact ⟨decide_eq_true (by omega), decide_eq_true (by omega)⟩
  · rw [List.length_map]
    have e1 : (decide ((0 : Int) ≤ (S.length : Int)) && decide ((S.length : Int) ≤ (hs.length : Int))) = true := by rw [Bool.and_eq_true]; exact ⟨decide_eq_true (by omega), decide_eq_true (by omega)⟩
    rw [e1]
    simp
  · refine p_if (b := false) (tm ((t_test (g_op (g_cb (a_cons (g_var rfl) a_nil) (rc_list (.inr rfl))) (g_sset (K := K) (w := w) (ns := S) (ms := S) (.inr (g_var rfl)) ha (fun _ => Iff.rfl) (by omega) (by omega)) (rv_neD (a := S) (b := S) encL))).is (by simp))) (fun h => nomatch h) fun _ => p_next ?_
    exact fun σ H ⟨B, a⟩ => hnx σ B H a.frm .non
abbrev N51 : List Str := ["hands", "plan", "people"]
theorem sc51 : FnScope N51 ["hands", "plan"] (defScope (topS 51)) := ⟨rfl, rfl, rfl, by decide +kernel, rfl, by decide +kernel, by decide +kernel⟩
def R_rounds_by (ds : List D) (r : D) : Prop := ∃ hs e, ds = [dH hs, .tup ((LH.parts hs e).map dT)] ∧ LH.Valid hs ∧ LH.Good hs e ∧ r = dH e
theorem cl_rounds_by (Z : Nm mg) (F : Std K mg "rounds_by" (topS 51) ["hands", "plan"]) (c1 : Cl P w K mg base 4 "need_hands" R_need_hands) (c2 : Cl P w K mg base 1 "is_list" R_is_list) (c3 : Cl P w K mg base 3 "need_people" R_need_people) (c4 : Cl P w K mg base 4 "safe_in" R_safe)
    (c5 : Cl P w K mg base 3 "together_in" R_together) : Cl P w K mg base 5 "rounds_by" R_rounds_by := by
  obtain ⟨tz, hz⟩ := Z.plan
  refine cl_of F sc51 (by rintro ds r ⟨h, e, rfl, _⟩; rfl) fun f cdv A outer s H E hr => ⟨_, pss_cons (ps_expr (pe_cl c1 hr (by decide) (by rfl) (pa_cons (pv 0) pa_nil)))
    (pss_cons (ps_if (pt_not (pt_val (pe_cl c2 hr (by decide) (by rfl) (pa_cons (pv 1) (pa_cons pe_int (pa_cons (pe_glob (v := .int 20) (by rfl) hz ⟨tz, rfl⟩) pa_nil)))))) pss_never pss_nil)
    (pss_cons (ps_for PassesOwn.never rfl (pi_tup (pv 1)) (pg_name (i := 2) sc51.nd rfl (by first | exact .inl rfl | exact .inr rfl)) (pss_one (ps_expr (pe_cl c3 hr (by decide) (by rfl) (pa_cons (pv 0) (pa_cons (pv 2) pa_nil))))))
    (pss_cons (ps_for PassesOwn.never rfl (pi_tup (pv 1)) (pg_name (i := 2) sc51.nd rfl (by first | exact .inl rfl | exact .inr rfl))
      (pss_cons (ps_if (pt_not (pt_val (pe_cl c4 hr (by decide) (by rfl) (pa_cons (pv 0) (pa_cons (pv 2) pa_nil))))) pss_never pss_nil)
      (pss_one (ps_set (i := 0) sc51.nd rfl (by first | exact .inl rfl | exact .inr rfl) (pe_cl c5 hr (by decide) (by rfl) (pa_cons (pv 0) (pa_cons (pv 2) pa_nil)))))))
    (pss_one (ps_ret (pv 0)))))), ?_⟩
  rintro ds r ⟨hs, e, rfl, hv, g, rfl⟩ C D hC hrt hnx
  have h4 := hv.le
  have pl := LH.parts_len (hs := hs) (e := e)
  have cl := LH.cs_le g
  have ll := losers_len (e := e) hv
  have at_i : ∀ {i : Nat} {S : List Nat}, (LH.parts hs e)[i]? = some S → S = LH.part hs e i := fun {i S} h => by
    unfold LH.parts at h
    rw [List.getElem?_map] at h
    by_cases hi : i < LH.cs hs e
    · rw [List.getElem?_range hi] at h; exact (Option.some.inj h).symm
    · rw [List.getElem?_eq_none (by simpa using hi)] at h; cases h
  refine p_seq (p_drop (em (g_call (a_cons (g_var rfl) a_nil) ⟨hs, rfl, hv, rfl⟩)) (p_seq (p_if (b := false) (tm ((t_not (t_B (g_call (a_cons (g_var rfl) (a_cons g_int (a_cons g_int a_nil))) ⟨_, _, _, rfl, rfl⟩))).is ?_)) (fun h => nomatch h) fun _ => p_next (p_seq ?_))))
  · rw [List.length_map, pl]
    have e1 : (decide ((0 : Int) ≤ (LH.cs hs e : Int)) && decide ((LH.cs hs e : Int) ≤ 20)) = true := by rw [Bool.and_eq_true]; exact ⟨decide_eq_true (by omega), decide_eq_true (by omega)⟩
    rw [e1]; rfl
  refine p_for (xs := LH.parts hs e) (enc := dT) (is := [2]) (fun i => [some (dH hs), some (.tup ((LH.parts hs e).map dT)), none]) (fun i => []) (fun i x => [some (dH hs), some (.tup ((LH.parts hs e).map dT)), some (dT x)])
    (w_tup (g_var rfl)) (Sub.refl _) rfl (fun i x _ => gt_name) (by simp) ?_ ?_
  · intro Bl i S hS
    have e1 := at_i hS
    subst e1
    exact p_drop (em (g_call (a_cons (g_var rfl) (a_cons (g_var rfl) a_nil)) ⟨hs, _, rfl, by omega, LH.part_choice, rfl⟩)) (p_done (.keep (.keep (.drop .nil))) rfl)
  refine p_seq (p_for (xs := LH.parts hs e) (enc := dT) (is := [2]) (fun i => [some (dH (LH.mid hs e i)), some (.tup ((LH.parts hs e).map dT)), none]) (fun i => []) (fun i x => [some (dH (LH.mid hs e i)), some (.tup ((LH.parts hs e).map dT)), some (dT x)])
    (w_tup (g_var rfl)) ?_ rfl (fun i x _ => gt_name) (by simp) ?_ ?_)
  · rw [LH.mid_zero g]; exact Sub.refl _
  · intro Bl i S hS
    have e1 := at_i hS
    subst e1
    refine p_seq (p_if (b := false) (tm ((t_not (t_B (g_call (a_cons (g_var rfl) (a_cons (g_var rfl) a_nil)) ⟨LH.mid hs e i, _, rfl, LH.mid_valid hv g i, rfl⟩))).is (by rw [LH.stage_safe g i]; rfl))) (fun h => nomatch h) fun _ => p_next ?_)
    refine p_asg (d := dH (LH.mid hs e (i + 1))) (em ((g_call (a_cons (g_var rfl) (a_cons (g_var rfl) a_nil)) ⟨LH.mid hs e i, _, rfl, LH.mid_valid hv g i, rfl⟩).is (by rw [LH.stage_step g i]))) (p_done (.keep (.keep (.drop .nil))) rfl)
  · refine p_ret (em (g_var rfl)) ?_
    rw [pl, LH.mid_end g (Nat.le_refl _)]
    exact hrt
def ones (hs : LH.Hs) : List (List Nat) := (LH.choices hs.length).filter fun S => LH.isEnd (LH.together hs S) && decide (LH.things (LH.together hs S) = LH.things hs)
def onesS (hs : LH.Hs) : List (List Nat) := (ones hs).mergeSort (PySem.W.dataLe false fun h => py (dT h))
theorem mem_onesS {hs : LH.Hs} {S : List Nat} : S ∈ onesS hs ↔ S ∈ LH.choices hs.length ∧ LH.isEnd (LH.together hs S) = true ∧ LH.things (LH.together hs S) = LH.things hs := by
  unfold onesS
  rw [(List.mergeSort_perm _ _).mem_iff]
  unfold ones
  rw [List.mem_filter, Bool.and_eq_true, decide_eq_true_eq]
abbrev N49 : List Str := ["hands", "found", "people", "there"]
theorem sc49 : FnScope N49 ["hands"] (defScope (topS 49)) := ⟨rfl, rfl, rfl, by decide +kernel, rfl, by decide +kernel, by decide +kernel⟩
def R_one_round (ds : List D) (r : D) : Prop := ∃ hs, ds = [dH hs] ∧ LH.Valid hs ∧ LH.isEnd hs = false ∧ r = dLT (onesS hs)
theorem cl_one_round (T : Bt mg) (F : Std K mg "one_round" (topS 49) ["hands"]) (c1 : Cl P w K mg base 4 "need_hands" R_need_hands) (c2 : Cl P w K mg base 1 "choices" R_choices) (c3 : Cl P w K mg base 3 "together_in" R_together) (c4 : Cl P w K mg base 2 "end_in" R_end_in)
    (c5 : Cl P w K mg base 1 "things_in" R_things) : Cl P w K mg base 5 "one_round" R_one_round := by
  refine cl_of F sc49 (by rintro ds r ⟨h, rfl, _⟩; rfl) fun f cdv A outer s H E hr => ⟨_, pss_cons (ps_expr (pe_cl c1 hr (by decide) (by rfl) (pa_cons (pv 0) pa_nil)))
    (pss_cons (ps_set (i := 1) sc49.nd rfl (by first | exact .inl rfl | exact .inr rfl) (pe_lst pa_nil))
    (pss_cons (ps_for PassesOwn.never rfl (pi_list (pe_cl c2 hr (by decide) (by rfl) (pa_cons (pe_callB call_len_seq (by rfl) T.len PySem.boot_len (pa_cons (pv 0) pa_nil)) pa_nil))) (pg_name (i := 2) sc49.nd rfl (by first | exact .inl rfl | exact .inr rfl))
      (pss_cons (ps_set (i := 3) sc49.nd rfl (by first | exact .inl rfl | exact .inr rfl) (pe_cl c3 hr (by decide) (by rfl) (pa_cons (pv 0) (pa_cons (pv 2) pa_nil))))
      (pss_one (ps_if (PW.pt (pw_and (pt_val (pe_cl c4 hr (by decide) (by rfl) (pa_cons (pv 3) pa_nil))) (pw_and1 (pt_cmpR (op_eqD hr.units) (pe_cl c5 hr (by decide) (by rfl) (pa_cons (pv 3) pa_nil)) (pe_cl c5 hr (by decide) (by rfl) (pa_cons (pv 0) pa_nil)) (nomark _)))))
        (pss_one (ps_expr (pe_bm PySem.F.plainAttrs_list PySem.F.slot_list_append PySem.F.type_list_append mt_append (pv 1) (pa_cons (pv 2) pa_nil)))) pss_nil))))
    (pss_one (ps_ret (pe_callB (cr_sortD hr.units) (by rfl) T.sorted (by decide +kernel) (pa_cons (pv 1) pa_nil)))))), ?_⟩
  rintro ds r ⟨hs, rfl, hv, hne, rfl⟩ C D hC hrt hnx
  have h4 := hv.le
  have hc : (LH.choices hs.length).length ≤ 128 := by
    rw [LH.choices_len]
    exact Nat.le_trans (Nat.pow_le_pow_right (by decide) (by omega : hs.length ≤ 7)) (by decide)
  let q := fun S => LH.isEnd (LH.together hs S) && decide (LH.things (LH.together hs S) = LH.things hs)
  refine p_seq (p_drop (em (g_call (a_cons (g_var rfl) a_nil) ⟨hs, rfl, hv, rfl⟩)) (p_seq (p_newl a_nil (by simp) (p_seq ?_))))
  refine p_for (xs := LH.choices hs.length) (enc := dT) (is := [2]) (fun i => [some (dH hs), none, none, none]) (fun i => [(1, .l ((((LH.choices hs.length).take i).filter q).map dT))]) (fun i x => [some (dH hs), none, some (dT x), none])
    (w_list (g_call (a_cons ((g_cb (a_cons (g_var rfl) a_nil) (rc_len (.inr rfl))).is (by rw [List.length_map])) a_nil) ⟨hs.length, rfl, by omega, rfl⟩)) (Sub.refl _) rfl (fun i x _ => gt_name) (by simp) ?_ ?_
  · intro Bl i S hS
    have tv := LH.together_valid hv S
    refine p_seq (p_asg (em (g_call (a_cons (g_var rfl) (a_cons (g_var rfl) a_nil)) ⟨hs, S, rfl, hv, rfl⟩)) ?_)
    refine p_if (b := q S) (tm (t_and (t_B (g_call (a_cons (g_var rfl) a_nil) ⟨_, rfl, tv, rfl⟩)) fun _ => t_test (g_op (g_call (a_cons (g_var rfl) a_nil) ⟨_, rfl, tv, rfl⟩) (g_call (a_cons (g_var rfl) a_nil) ⟨hs, rfl, hv, rfl⟩) (rv_eqD (a := LH.things (LH.together hs S)) (b := LH.things hs) encL)))) (fun h => ?_) (fun h => ?_)
    · refine p_app (em (g_var rfl)) ?_ (p_done (.keep (.keep (.drop (.drop .nil)))) ?_)
      · rw [List.length_map]
        have a := List.length_filter_le q ((LH.choices hs.length).take i)
        have b : ((LH.choices hs.length).take i).length ≤ 128 := by rw [List.length_take]; omega
        omega
      · rw [take_filter hS, h]; simp
    · refine p_next (p_done (.keep (.keep (.drop (.drop .nil)))) ?_)
      rw [take_filter hS, h]; simp
  · refine p_give (p_ret (em (g_cb (a_cons (g_var rfl) a_nil) (rc_sortD encT (by decide) alikeT ?_))) ?_)
    · refine .inl fun d hd => ?_
      obtain ⟨S, hm, rfl⟩ := List.mem_map.mp hd
      rw [take_all] at hm
      have hq := (List.mem_filter.mp hm).2
      cases S with
      | nil =>
        have hq : (LH.isEnd (LH.together hs []) && _) = true := hq
        rw [LH.together_nil, hne] at hq
        cases hq
      | cons x r =>
        show ∃ a b, py (.tup ((x :: r).map dN)) = .tuple (a :: b)
        rw [py, List.map_cons, pyL]
        exact ⟨_, _, rfl⟩
    · rw [take_all]
      exact hrt
end
end LW

set_option Elab.async false
set_option linter.all false
set_option maxRecDepth 100000
set_option maxHeartbeats 4000000
/-! the fewest rounds -/
namespace LW
open PySem PySem.Spec PyProof.Rows L2 FW
section
variable {P : Program} {w : World} {K : PySem.W.Frag} {mg : Str → Option Value} {base : Heap}
abbrev N50 : List Str := ["hands", "last", "met", "many", "fresh", "here", "people", "there"]
theorem sc50 : FnScope N50 ["hands"] (defScope (topS 50)) := ⟨rfl, rfl, rfl, by decide +kernel, rfl, by decide +kernel, by decide +kernel⟩
def R_fewest (ds : List D) (r : D) : Prop := ∃ hs, ds = [dH hs] ∧ LH.Valid hs ∧ r = dN (LH.few hs)
theorem cl_fewest (T : Bt mg) (F : Std K mg "fewest_rounds" (topS 50) ["hands"]) (c1 : Cl P w K mg base 4 "need_hands" R_need_hands) (c2 : Cl P w K mg base 1 "choices" R_choices) (c3 : Cl P w K mg base 3 "together_in" R_together) (c4 : Cl P w K mg base 2 "end_in" R_end_in)
    (c5 : Cl P w K mg base 1 "things_in" R_things) : Cl P w K mg base 5 "fewest_rounds" R_fewest := by
  refine cl_of F sc50 (by rintro ds r ⟨h, rfl, _⟩; rfl) fun f cdv A outer s H E hr => ⟨_, pss_cons (ps_expr (pe_cl c1 hr (by decide) (by rfl) (pa_cons (pv 0) pa_nil)))
    (pss_cons (ps_par3 (i := 1) (j := 2) (l := 3) rfl sc50.nd rfl rfl rfl (by decide) (by decide) (by decide) rfl rfl rfl (pa_cons (pe_lst (pa_cons (pv 0) pa_nil)) (pa_cons (pe_dispN hr.units (pv 0) pe_bl) (pa_cons pe_int pa_nil))) (by rfl))
    (pss_cons (ps_while PassesOwn.never (pt_not (pt_val (pe_callB (cr_any rfl) (by rfl) T.any (by decide +kernel) (pa_cons (pe_lc (own := [("here", 5)]) (g := gName 5) (tt := tYes) (te := tCall (SpR R_end_in) [] E0 (tCons (tVar 5) tNil)) rfl sc50.nd (pi_list (pv 1))
          (blkOk_by (N := N50) (sc := defScope (topS 50)) (by decide +kernel)) (fun _ _ _ _ _ => pg_name (i := 5) sc50.nd rfl (by first | exact .inl rfl | exact .inr rfl)) (fun _ _ _ _ _ => pts_nil) (fun _ _ _ _ _ => pe_cl c4 hr (by decide) (by rfl) (pa_cons (pv 5) pa_nil))) pa_nil))))
      (pss_cons (ps_aug (i := 3) sc50.nd rfl (by first | exact .inl rfl | exact .inr rfl) pe_int ip_add)
      (pss_cons (ps_set (i := 4) sc50.nd rfl (by first | exact .inl rfl | exact .inr rfl) (pe_lst pa_nil))
      (pss_cons (ps_for PassesOwn.never rfl (pi_list (pv 1)) (pg_name (i := 5) sc50.nd rfl (by first | exact .inl rfl | exact .inr rfl))
        (pss_one (ps_for PassesOwn.never rfl (pi_list (pe_cl c2 hr (by decide) (by rfl) (pa_cons (pe_callB call_len_seq (by rfl) T.len PySem.boot_len (pa_cons (pv 0) pa_nil)) pa_nil))) (pg_name (i := 6) sc50.nd rfl (by first | exact .inl rfl | exact .inr rfl))
          (pss_cons (ps_set (i := 7) sc50.nd rfl (by first | exact .inl rfl | exact .inr rfl) (pe_cl c3 hr (by decide) (by rfl) (pa_cons (pv 5) (pa_cons (pv 6) pa_nil))))
          (pss_one (ps_if (PW.pt (pw_and (pt_cmpR (op_niN hr.units) (pv 7) (pv 2) rfl) (pw_and1 (pt_cmpR (op_eqD hr.units) (pe_cl c5 hr (by decide) (by rfl) (pa_cons (pv 7) pa_nil)) (pe_cl c5 hr (by decide) (by rfl) (pa_cons (pv 0) pa_nil)) (nomark _)))))
            (pss_cons (ps_nput hr.units (pv 2) (pv 7) pe_bl rfl)
            (pss_one (ps_expr (pe_bm PySem.F.plainAttrs_list PySem.F.slot_list_append PySem.F.type_list_append mt_append (pv 4) (pa_cons (pv 7) pa_nil))))) pss_nil))))))
      (pss_one (ps_set (i := 1) sc50.nd rfl (by first | exact .inl rfl | exact .inr rfl) (pv 4)))))))
    (pss_one (ps_ret (pv 3))))), ?_⟩
  rintro ds r ⟨hs, rfl, hv, rfl⟩ C D hC hrt hnx
  have h4 := hv.le
  obtain ⟨few4, fewE, fewN⟩ := LH.few_ok hv
  have hc16 : (LH.choices hs.length).length ≤ 16 := by
    rw [LH.choices_len]
    exact Nat.le_trans (Nat.pow_le_pow_right (by decide) h4) (by decide)
  refine p_seq (p_drop (em (g_call (a_cons (g_var rfl) a_nil) ⟨hs, rfl, hv, rfl⟩)) (p_seq (p_newN (P := P) (w := w) (d := dLH [hs]) (em (g_lst (a_cons (g_var rfl) a_nil) (by simp))) (g_var rfl) (p_seq ?_))))
  refine p_while (α := Nat) (fun k => [some (dH hs), some (dLH (LH.bfs hs k).1), none, some (dN k), none, none, none, none]) (fun k => [(2, owN P w (LH.bfs hs k).2)]) (fun k => k ≤ LH.few hs) (fun k => LH.few hs - k) (fun k => !(LH.bfs hs k).1.any LH.isEnd) 0 (Nat.zero_le _) (Sub.refl _) rfl ?_ ?_ ?_
  · intro k hk
    have bl := (LH.bfs_len hv k).1
    have k4 : k ≤ 4 := by omega
    have b2 := Nat.pow_le_pow_right (n := 16) (by decide) k4
    exact tm (t_not (t_B (g_any (xs := (LH.bfs hs k).1) (q := LH.isEnd) (g_lc0 (enc := dH) (w_list (g_var rfl)) (by omega) (is := [5]) (by decide) (fun x _ => gt_name) (fun x hx => g_call (a_cons (g_var rfl) a_nil) ⟨x, rfl, (LH.bfs_valid1 hv hx).1, rfl⟩)))))
  · intro k hk hb
    have hb : (LH.bfs hs k).1.any LH.isEnd = false := by simpa using hb
    have hlt : k < LH.few hs := by
      rcases Nat.lt_or_ge k (LH.few hs) with z | z
      · exact z
      · have : k = LH.few hs := by omega
        rw [this, fewE] at hb; cases hb
    have k3 : k ≤ 3 := by omega
    have b2 := Nat.pow_le_pow_right (n := 16) (by decide) k3
    obtain ⟨bl1, bl2⟩ := LH.bfs_len hv k
    have val : ∀ x ∈ (LH.bfs hs k).1, LH.Valid x ∧ x.length = hs.length := fun x hx => LH.bfs_valid1 hv hx
    have eB : LH.bfs hs (k + 1) = (((LH.childs hs.length (LH.bfs hs k).1).foldl (LH.bfsIn hs) ((LH.bfs hs k).2, [])).2, ((LH.childs hs.length (LH.bfs hs k).1).foldl (LH.bfsIn hs) ((LH.bfs hs k).2, [])).1) := rfl
    refine p_seq (p_aug (g := fun i j => i + j) rfl (em g_int) (p_seq (p_newl a_nil (by simp) ?_)))
    generalize (LH.bfs hs k).1 = last at *
    generalize (LH.bfs hs k).2 = mets at *
    let kid := fun h : LH.Hs => (LH.choices hs.length).map (LH.together h)
    let F := fun l : List LH.Hs => l.foldl (LH.bfsIn hs) (mets, [])
    have Fl : ∀ l : List LH.Hs, l.length ≤ 100000 → (F l).1.length ≤ 1000000 ∧ (F l).2.length ≤ 1000000 := fun l hl => by
      obtain ⟨new, e1, e2, _, _⟩ := LH.bfsIn_ok (hs := hs) l (mets, [])
      have e1 : F l = (mets ++ new, [] ++ new) := e1
      rw [e1]
      simp only [List.length_append, List.nil_append]
      omega
    have Fs : ∀ (l : List LH.Hs) (x : LH.Hs), F (l ++ [x]) = LH.bfsIn hs (F l) x := fun l x => by
      show List.foldl _ _ _ = _
      rw [List.foldl_append]; rfl
    refine p_seq ?_
    refine p_for (xs := last) (enc := dH) (is := [5]) (fun i => [some (dH hs), some (dLH last), none, some (.int ((k : Int) + 1)), none, none, none, none]) (fun i => [(4, .l ((F ((last.take i).flatMap kid)).2.map dH)), (2, owN P w (F ((last.take i).flatMap kid)).1)])
      (fun i h => [some (dH hs), some (dLH last), none, some (.int ((k : Int) + 1)), none, some (dH h), none, none]) (w_list (g_var rfl)) (Sub.refl _) rfl (fun i x _ => gt_name) (by simp) ?_ ?_
    · intro Bl i h hh
      obtain ⟨vh, lh⟩ := val h (List.mem_of_getElem? hh)
      refine p_for (xs := LH.choices hs.length) (enc := dT) (is := [6]) (fun j => [some (dH hs), some (dLH last), none, some (.int ((k : Int) + 1)), none, some (dH h), none, none])
        (fun j => [(4, .l ((F ((last.take i).flatMap kid ++ ((LH.choices hs.length).take j).map (LH.together h))).2.map dH)), (2, owN P w (F ((last.take i).flatMap kid ++ ((LH.choices hs.length).take j).map (LH.together h))).1)])
        (fun j S => [some (dH hs), some (dLH last), none, some (.int ((k : Int) + 1)), none, some (dH h), some (dT S), none])
        (w_list (g_call (a_cons ((g_cb (a_cons (g_var rfl) a_nil) (rc_len (.inr rfl))).is (by rw [List.length_map])) a_nil) ⟨hs.length, rfl, by omega, rfl⟩)) (Sub.refl _) (by simp) (fun i x _ => gt_name) (by simp) ?_ ?_
      · intro Bl j S hS
        have tv := LH.together_valid vh S
        have eF : F ((last.take i).flatMap kid ++ ((LH.choices hs.length).take (j + 1)).map (LH.together h)) = LH.bfsIn hs (F ((last.take i).flatMap kid ++ ((LH.choices hs.length).take j).map (LH.together h))) (LH.together h S) := by
          rw [take_map hS, ← List.append_assoc, Fs]
        have ln : ((last.take i).flatMap kid ++ ((LH.choices hs.length).take j).map (LH.together h)).length ≤ 100000 := by
          have a1 := flat_len (f := kid) (k := 16) (fun x => by show (List.map _ _).length ≤ 16; rw [List.length_map]; exact hc16) (last.take i)
          have a2 : (last.take i).length ≤ 4096 := by rw [List.length_take]; omega
          have a3 : ((LH.choices hs.length).take j).length ≤ 16 := by rw [List.length_take]; omega
          rw [List.length_append, List.length_map]
          omega
        have fl := Fl _ ln
        generalize F ((last.take i).flatMap kid ++ ((LH.choices hs.length).take j).map (LH.together h)) = mf at *
        refine p_seq (p_asg (d := dH (LH.together h S)) (em (g_call (a_cons (g_var rfl) (a_cons (g_var rfl) a_nil)) ⟨h, S, rfl, vh, rfl⟩)) ?_)
        generalize LH.together h S = there at *
        refine p_swap (p_if (b := !mf.1.contains there && decide (LH.things there = LH.things hs)) (tm_and (t_niN rfl) fun _ => tm (t_test (g_op (g_call (a_cons (g_var rfl) a_nil) ⟨there, rfl, tv, rfl⟩) (g_call (a_cons (g_var rfl) a_nil) ⟨hs, rfl, hv, rfl⟩) (rv_eqD (a := LH.things there) (b := LH.things hs) encL)))) (fun hq => ?_) (fun hq => ?_))
        · have hq2 : (!mf.1.contains there && LH.things there == LH.things hs) = true := by
            rw [Bool.and_eq_true] at hq ⊢
            exact ⟨hq.1, by simpa using hq.2⟩
          have eN : LH.bfsIn hs mf there = (mf.1 ++ [there], mf.2 ++ [there]) := by unfold LH.bfsIn; rw [if_pos hq2]
          have hn : there ∉ mf.1 := by
            rw [Bool.and_eq_true] at hq
            simpa using hq.1
          refine p_seq (p_nput rfl hn fl.1 (p_swap (p_app (em (g_var rfl)) (by rw [List.length_map]; omega) (p_done (.keep (.keep (.keep (.keep (.keep (.keep (.drop (.drop .nil)))))))) ?_))))
          rw [eF, eN]
          simp
        · have hq2 : (!mf.1.contains there && LH.things there == LH.things hs) = false := by
            rw [← hq]
            congr 1
            by_cases z : LH.things there = LH.things hs <;> simp [z]
          have eN : LH.bfsIn hs mf there = mf := by unfold LH.bfsIn; rw [hq2, if_neg Bool.false_ne_true]
          refine p_swap (p_next (p_done (.keep (.keep (.keep (.keep (.keep (.keep (.drop (.drop .nil)))))))) ?_))
          rw [eF, eN]
      · refine p_done (.keep (.keep (.keep (.keep (.keep (.drop (.keep (.keep .nil)))))))) ?_
        rw [take_all, take_flat hh]
    · refine p_give (p_asg (em (g_var rfl)) ?_)
      rw [take_all]
      refine fun σ H ⟨B, a⟩ => ⟨k + 1, hlt, by omega, B, ?_⟩
      rw [eB]
      have ek : (FW.D.int ((k : Int) + 1)) = dN (k + 1) := dN_succ
      rw [← ek]
      exact a.sub (.keep (.keep (.keep (.keep (.drop (.keep (.keep (.keep .nil))))))))
  · intro k hk hb
    have hb : (LH.bfs hs k).1.any LH.isEnd = true := by simpa using hb
    have hke : k = LH.few hs := by
      rcases Nat.lt_or_ge k (LH.few hs) with z | z
      · rw [fewN k z] at hb; cases hb
      · omega
    subst hke
    exact p_ret (em (g_var rfl)) hrt
end
end LW

set_option Elab.async false
set_option linter.all false
set_option maxRecDepth 100000
set_option maxHeartbeats 4000000
/-! the number of ways -/
namespace LH
theorem putN_len (kvs : Tab) (k : List Nat) (v : Nat) : (putN kvs k v).length ≤ kvs.length + 1 := by
  unfold putN
  split
  · rw [List.length_map]; omega
  · rw [List.length_append]; simp
def dpAt (st : List (Nat × Nat)) (d : List Nat) (m : Nat) (later : Tab) (p : Nat) : Tab := if okp st d p then addN later (sset (d ++ [p])) m else later
theorem dpAt_len {st : List (Nat × Nat)} {d : List Nat} {m : Nat} : ∀ (l : List Nat) (later : Tab), (l.foldl (dpAt st d m) later).length ≤ later.length + l.length
  | [], later => by simp
  | p :: l, later => by
    rw [List.foldl_cons]
    have a := dpAt_len (st := st) (d := d) (m := m) l (dpAt st d m later p)
    have b : (dpAt st d m later p).length ≤ later.length + 1 := by
      unfold dpAt
      split
      · exact putN_len _ _ _
      · omega
    rw [List.length_cons]; omega
theorem dpIn_at {people : List Nat} {st : List (Nat × Nat)} {later : Tab} {dm : List Nat × Nat} : dpIn people st later dm = people.foldl (dpAt st dm.1 dm.2) later := rfl
theorem dpFold_len {people : List Nat} {st : List (Nat × Nat)} : ∀ (l : Tab) (later : Tab), (l.foldl (dpIn people st) later).length ≤ later.length + l.length * people.length
  | [], later => by simp
  | x :: l, later => by
    rw [List.foldl_cons]
    have a := dpFold_len (people := people) (st := st) l (dpIn people st later x)
    have b : (dpIn people st later x).length ≤ later.length + people.length := by rw [dpIn_at]; exact dpAt_len _ _
    have e : (l.length + 1) * people.length = l.length * people.length + people.length := Nat.succ_mul _ _
    rw [List.length_cons, e]; omega
theorem dp_len {people : List Nat} {st : List (Nat × Nat)} (h : people.length ≤ 4) : ∀ k, (dp people st k).length ≤ 4 ^ k
  | 0 => by simp [dp]
  | k + 1 => by
    have a := dpFold_len (people := people) (st := st) (dp people st k) []
    have b := dp_len (st := st) h k
    have c := Nat.mul_le_mul b h
    have e : dp people st (k + 1) = (dp people st k).foldl (dpIn people st) [] := rfl
    rw [Nat.pow_succ, e]
    simp only [List.length_nil] at a
    omega
end LH
namespace LW
open PySem PySem.Spec PyProof.Rows L2 FW
section
variable {P : Program} {w : World} {K : PySem.W.Frag} {mg : Str → Option Value} {base : Heap}
abbrev N36 : List Str := ["one", "other", "people", "steps", "found", "turn", "later", "done", "many", "person", "key", "first", "last"]
theorem sc36 : FnScope N36 ["one", "other"] (defScope (topS 36)) := ⟨rfl, rfl, rfl, by decide +kernel, rfl, by decide +kernel, by decide +kernel⟩
def R_count_ways (ds : List D) (r : D) : Prop := ∃ hs e, ds = [dH hs, dH e] ∧ LH.Valid hs ∧ LH.Good hs e ∧ r = dN (LH.ways hs e)
theorem cl_count_ways (T : Bt mg) (F : Std K mg "count_ways" (topS 36) ["one", "other"]) (c1 : Cl P w K mg base 6 "need_way" R_way0) (c2 : Cl P w K mg base 1 "losers_in" R_losers_in) (c3 : Cl P w K mg base 2 "steps_in" R_steps_in) : Cl P w K mg base 7 "count_ways" R_count_ways := by
  refine cl_of F sc36 (by rintro ds r ⟨h, e, rfl, _⟩; rfl) fun f cdv A outer s H E hr => ⟨_, pss_cons (ps_expr (pe_cl c1 hr (by decide) (by rfl) (pa_cons (pv 0) (pa_cons (pv 1) pa_nil))))
    (pss_cons (ps_par (i := 2) (j := 3) rfl sc36.nd rfl rfl (by decide) rfl rfl (pa_cons (pe_cl c2 hr (by decide) (by rfl) (pa_cons (pv 0) (pa_cons (pv 1) pa_nil))) (pa_cons (pe_cl c3 hr (by decide) (by rfl) (pa_cons (pv 0) (pa_cons (pv 1) pa_nil))) pa_nil)) (by rfl))
    (pss_cons (ps_set (i := 4) sc36.nd rfl (by first | exact .inl rfl | exact .inr rfl) (pe_dispT hr.units (pe_tup pa_nil) pe_int))
    (pss_cons (ps_for PassesOwn.never rfl (pi_range1 (by rfl) T.range (pa_cons (pe_callB call_len_seq (by rfl) T.len PySem.boot_len (pa_cons (pv 2) pa_nil)) pa_nil)) (pg_name (i := 5) sc36.nd rfl (by first | exact .inl rfl | exact .inr rfl))
      (pss_cons (ps_set (i := 6) sc36.nd rfl (by first | exact .inl rfl | exact .inr rfl) pe_dnewT)
      (pss_cons (ps_lock (ps_for PassesOwn.never rfl (pi_itemsT (pv 4)) (pg_tup rfl (pgs_cons (pg_name (i := 7) sc36.nd rfl (by first | exact .inl rfl | exact .inr rfl)) (pgs_cons (pg_name (i := 8) sc36.nd rfl (by first | exact .inl rfl | exact .inr rfl)) pgs_nil)))
        (pss_one (ps_for PassesOwn.never rfl (pi_list (pv 2)) (pg_name (i := 9) sc36.nd rfl (by first | exact .inl rfl | exact .inr rfl))
          (pss_one (ps_if (PW.pt (pw_and (pt_cmpR op_notIn_seq (pv 9) (pv 7) rfl) (pw_and1 (pt_val (pe_callB (cr_all rfl) (by rfl) T.all (by decide +kernel) (pa_cons (pe_lc (own := [("first", 11), ("last", 12)]) (g := gPr K 11 12) (tt := tTest (tOp rEq (tVar 12) (tVar 9))) (te := tIn K (tVar 11) (tVar 7)) rfl sc36.nd (pi_list (pv 3))
              (blkOk_by (N := N36) (sc := defScope (topS 36)) (by decide +kernel)) (fun _ _ _ _ _ => pg_tup rfl (pgs_cons (pg_name (i := 11) sc36.nd rfl (by first | exact .inl rfl | exact .inr rfl)) (pgs_cons (pg_name (i := 12) sc36.nd rfl (by first | exact .inl rfl | exact .inr rfl)) pgs_nil)))
              (fun _ _ _ _ _ => pts_one (pt_cmpR op_eq (pv 12) (pv 9) (nomark _))) (fun _ _ _ _ _ => pe_cmpR op_in_seq (pv 11) (pv 7) rfl)) pa_nil))))))
            (pss_cons (ps_set (i := 10) sc36.nd rfl (by first | exact .inl rfl | exact .inr rfl) (pe_callTy call_tuple_of (by rfl) T.tuple boot_tuple (pa_cons (pe_callB cr_sortedI (by rfl) T.sorted (by decide +kernel) (pa_cons (pe_lst (StX.pa_star (pv 7) (pa_cons (pv 9) pa_nil))) pa_nil)) pa_nil)))
            (pss_one (ps_dput (units1 hr.units) (pv 6) (pv 10) (pe_op op_add (pe_dget2 (units1 hr.units) (pv 6) (pv 10) pe_int ⟨rfl, rfl, rfl, rfl⟩) (pv 8)) rfl))) pss_nil))))))
      (pss_one (ps_set (i := 4) sc36.nd rfl (by first | exact .inl rfl | exact .inr rfl) (pv 6))))))
    (pss_one (ps_ret (pe_dget (units1 hr.units) (pv 4) (pe_callTy call_tuple_of (by rfl) T.tuple boot_tuple (pa_cons (pv 2) pa_nil)) (fun _ _ => rfl))))))), ?_⟩
  rintro ds r ⟨hs, e, rfl, hv, g, rfl⟩ C D hC hrt hnx
  have hve := g.valid hv
  have sl := LH.stepsIn_len hv hve
  have ll := losers_len (e := e) hv
  have wk := LH.ways_key hv g
  have l8 := LH.losers_lt8 (e := e) hv
  have eW : LH.ways hs e = LH.getN (LH.dp (LH.losers hs e) (LH.stepsIn hs e) (LH.losers hs e).length) (LH.losers hs e) := rfl
  refine p_seq (p_drop (em (g_call (a_cons (g_var rfl) (a_cons (g_var rfl) a_nil)) ⟨hs, e, rfl, hv, g, rfl⟩)) (p_seq (p_par (em (g_call (a_cons (g_var rfl) (a_cons (g_var rfl) a_nil)) ⟨hs, e, rfl, hv, g.len, rfl⟩)) (em (g_call (a_cons (g_var rfl) (a_cons (g_var rfl) a_nil)) ⟨hs, e, rfl, hv, hve, g.len, rfl⟩)) (p_seq ?_))))
  generalize LH.stepsIn hs e = st at *
  generalize LH.losers hs e = ppl at *
  refine p_asg (d := .dt (iT (LH.dp ppl st 0))) (em (g_dispT (k := []) (n := 1) (g_tup a_nil (by simp)) g_int)) (p_seq ?_)
  refine p_for (xs := List.range ppl.length) (enc := dN) (is := [5]) (fun i => [some (dH hs), some (dH e), some (dL ppl), some (dPs st), some (.dt (iT (LH.dp ppl st i))), none, none, none, none, none, none, none, none]) (fun i => []) (fun i x => [some (dH hs), some (dH e), some (dL ppl), some (dPs st), some (.dt (iT (LH.dp ppl st i))), some (dN x), none, none, none, none, none, none, none])
    (w_range1 (n := ppl.length) (a_cons ((g_cb (a_cons (g_var rfl) a_nil) (rc_len (.inl rfl))).is (by rw [List.length_map])) a_nil) (by omega)) (Sub.refl _) rfl (fun i x _ => gt_name) (by simp) ?_ ?_
  · intro Bl i x hx
    have hi := (List.getElem?_eq_some_iff.mp hx).1
    rw [List.length_range] at hi
    have dl := LH.dp_len (people := ppl) (st := st) ll i
    have d4 : 4 ^ i ≤ 256 := Nat.le_trans (Nat.pow_le_pow_right (by decide) (by omega : i ≤ 4)) (by decide)
    have keys := (LH.dp_ok (people := ppl) (st := st) l8 i).2.2
    have eS : LH.dp ppl st (i + 1) = (LH.dp ppl st i).foldl (LH.dpIn ppl st) [] := rfl
    generalize LH.dp ppl st i = tab at *
    refine p_seq (p_newt (p_seq ?_))
    have e_len : (iT tab).length = tab.length := by unfold iT; rw [List.length_map]
    refine p_itemsT (kvs := iT tab) (i := 4) (is := [7, 8]) (Γ' := [some (dH hs), some (dH e), some (dL ppl), some (dPs st), none, none, none, none, none, none, none, none, none]) rfl (.keep (.keep (.keep (.keep (.drop (.drop (.keep (.keep (.keep (.keep (.keep (.keep (.keep .nil))))))))))))) ?_ ?_
      (fun j => [some (dH hs), some (dH e), some (dL ppl), some (dPs st), none, none, none, none, none, none, none, none, none]) (fun j => [(6, .dt (iT ((tab.take j).foldl (LH.dpIn ppl st) [])))])
      (fun j x => [some (dH hs), some (dH e), some (dL ppl), some (dPs st), none, none, none, some (.tup (x.1.map .int)), some (.int x.2), none, none, none, none]) (Sub.refl _) rfl (fun i x _ => gt_pair) (by simp) ?_ ?_
    · show (pl (dH hs) && (pl (dH e) && (pl (dL ppl) && (pl (dPs st) && true)))) = true
      rw [encH.pl, encH.pl, encL.pl, encPs.pl]; rfl
    · simp [plO]
    · intro C' D' j y hy
      unfold iT at hy
      rw [List.getElem?_map] at hy
      obtain ⟨⟨d, m⟩, hdm, rfl⟩ : ∃ dm : List Nat × Nat, tab[j]? = some dm ∧ y = (upN dm.1, (dm.2 : Int)) := by
        cases q : tab[j]? with
        | none => rw [q] at hy; cases hy
        | some dm => rw [q] at hy; exact ⟨dm, rfl, (Option.some.inj hy).symm⟩
      obtain ⟨s0, _, hds⟩ := keys d (List.mem_map.mpr ⟨_, List.mem_of_getElem? hdm, rfl⟩)
      have dasc : d.Pairwise (· < ·) := by rw [hds]; exact LH.sset_asc _
      have dlt : ∀ t ∈ d, t < 8 := fun t ht => by rw [hds] at ht; exact (LH.mem_sset.mp ht).1
      have dl8 := LH.asc_len8 dasc dlt
      have tl : (tab.take j).length ≤ 256 := by rw [List.length_take]; omega
      have fl := LH.dpFold_len (people := ppl) (st := st) (tab.take j) []
      have fl2 : (tab.take j).length * ppl.length ≤ 256 * 4 := Nat.mul_le_mul tl ll
      simp only [List.length_nil] at fl
      have eT : (tab.take (j + 1)).foldl (LH.dpIn ppl st) [] = ppl.foldl (LH.dpAt st d m) ((tab.take j).foldl (LH.dpIn ppl st) []) := by
        rw [take_snoc hdm, List.foldl_append]; rfl
      generalize (tab.take j).foldl (LH.dpIn ppl st) [] = lat at *
      refine Pn.eqs (Γ' := [some (dH hs), some (dH e), some (dL ppl), some (dPs st), none, none, none, some (dT d), some (dN m), none, none, none, none]) (M' := [(6, .dt (iT lat))]) ?_ (by rw [← map_dN]) rfl
      refine p_for (xs := ppl) (enc := dN) (is := [9]) (fun l => [some (dH hs), some (dH e), some (dL ppl), some (dPs st), none, none, none, some (dT d), some (dN m), none, none, none, none]) (fun l => [(6, .dt (iT ((ppl.take l).foldl (LH.dpAt st d m) lat)))])
        (fun l p => [some (dH hs), some (dH e), some (dL ppl), some (dPs st), none, none, none, some (dT d), some (dN m), some (dN p), none, none, none]) (w_list (g_var rfl)) (Sub.refl _) rfl (fun i x _ => gt_name) (by simp) ?_ ?_
      · intro Bl l p hp
        have p8 := l8 p (List.mem_of_getElem? hp)
        have al := LH.dpAt_len (st := st) (d := d) (m := m) (ppl.take l) lat
        have al2 : (ppl.take l).length ≤ 4 := by rw [List.length_take]; omega
        have eA : (ppl.take (l + 1)).foldl (LH.dpAt st d m) lat = LH.dpAt st d m ((ppl.take l).foldl (LH.dpAt st d m) lat) p := by rw [take_snoc hp, List.foldl_append]; rfl
        generalize (ppl.take l).foldl (LH.dpAt st d m) lat = la at *
        refine p_if (b := LH.okp st d p) (tm ((t_and (t_test (g_op (g_var rfl) (g_var rfl) rv_niT)) fun _ => t_B (g_all (xs := LH.preds st p) (q := fun q => d.contains q) ((g_lc (xs := st) (enc := dP) (p := fun e => e.2 == p) (f := fun e => .bl (d.contains e.1)) (w_list (g_var rfl)) (by omega) (is := [11, 12]) (by decide) (fun y _ => gt_pair)
          (fun y _ => (t_test (g_op (g_var rfl) (g_var rfl) rv_eqN)).is rfl) (fun y _ _ => g_op (g_var rfl) (g_var rfl) rv_inT)).is ?_))).is rfl)) (fun h => ?_) (fun h => ?_)
        · unfold LH.preds
          rw [List.map_map]; rfl
        · obtain ⟨hnd, _⟩ := LH.okp_iff.mp h
          have eI : LH.dpAt st d m la p = LH.putN la (LH.sset (d ++ [p])) (LH.getN la (LH.sset (d ++ [p])) + m) := by
            unfold LH.dpAt
            rw [if_pos h]; rfl
          refine p_seq (p_asg (d := dT (LH.sset (d ++ [p]))) (em (g_cb (a_cons (g_cb (a_cons ((g_lst (a_star (.inl (g_var rfl)) (a_cons (g_var rfl) a_nil)) ?_).is (e := dL (d ++ [p])) ?_) a_nil) (rc_sorted (LH.sset_asc _) ?_ fun t => ?_)) a_nil) rc_tuple)) ?_)
          · rw [List.length_append, List.length_map]; simp; omega
          · show FW.D.lst _ = FW.D.lst (List.map dN (d ++ [p]))
            rw [List.map_append]; rfl
          · rw [List.nodup_append]
            exact ⟨LH.asc_nodup dasc, by simp, fun a ha b hb => by simp at hb; subst hb; exact fun z => hnd (z ▸ ha)⟩
          · rw [LH.mem_sset]
            refine ⟨fun ht => ⟨?_, ht⟩, fun ht => ht.2⟩
            rcases List.mem_append.mp ht with z | z
            · exact dlt t z
            · simp at z; subst z; exact p8
          · refine p_dputT (n := LH.getN la (LH.sset (d ++ [p])) + m) (em_own ((g_op (g_dget2T (g_var rfl) (g_var rfl)) (g_var rfl) rv_i).is ?_) rfl) (em (g_var rfl)) (by omega) (p_done (.keep (.keep (.keep (.keep (.keep (.keep (.keep (.keep (.keep (.drop (.drop (.keep (.keep .nil))))))))))))) ?_)
            · rfl
            · rw [eA, eI]
        · refine p_next (p_done (.keep (.keep (.keep (.keep (.keep (.keep (.keep (.keep (.keep (.drop (.keep (.keep (.keep .nil))))))))))))) ?_)
          rw [eA]
          unfold LH.dpAt
          rw [h, if_neg Bool.false_ne_true]
      · refine p_done (.keep (.keep (.keep (.keep (.keep (.keep (.keep (.drop (.drop (.keep (.keep (.keep (.keep .nil))))))))))))) ?_
        rw [take_all, eT]
    · rw [e_len, take_all]
      refine p_give (p_asg (em (g_var rfl)) (p_done ?_ rfl))
      rw [eS]
      exact .keep (.keep (.keep (.keep (.keep (.keep (.drop (.keep (.keep (.keep (.keep (.keep (.keep .nil))))))))))))
  · rw [List.length_range]
    refine p_ret (em (g_dgetT (g_var rfl) (g_cb (a_cons (g_var rfl) a_nil) rc_tuple) wk)) ?_
    rw [eW] at hrt
    exact hrt
end
end LW

set_option Elab.async false
set_option linter.all false
set_option maxRecDepth 100000
set_option maxHeartbeats 4000000
/-! what the law draws -/
namespace LW
open PySem PySem.Spec PyProof.Rows L2 FW
section
variable {P : Program} {w : World} {K : PySem.W.Frag} {mg : Str → Option Value} {base : Heap}
/-- a def with a promise of its own -/
def ClS (P : Program) (w : World) (K : PySem.W.Frag) (mg : Str → Option Value) (base : Heap) (k : Nat) (x : Str) (sp : Sp) : Prop :=
  ∃ (f : Addr) (fd : FuncData) (ps : List Str), FnOk P w K mg base CX0 k f fd ps sp ∧ mg x = some (.ref f) ∧ PySem.W.keepIn K (.ref f) = true ∧ Binds K fd ps []
theorem pe_clS {X : Cx} {j k : Nat} {x : Str} {sp : Sp} {p pos : Pos} {e : Expr} {es : List Expr} {t : TA} (c : ClS X.prog X.w X.K X.mg X.base k x sp) (hr : Room j X.A) (hk : k ≤ j) (hg : Gl X x) (ha : PA X (e :: es) t)
    (hdb : (x == ("__debug__" : Str)) = false := by decide) (he : starEach (e :: es) X.env = (false, eval e X.env) :: starEach es X.env := by rfl) (hpl : (backTo pos (starEach es X.env)).any (·.1) = false := by rfl) :
    PE X (.Call (.Name x p) (e :: es) [] pos) (tCall sp [] E0 t) := by
  obtain ⟨f, fd, ps, F, hm, kp, hb⟩ := c
  exact pe_call F (hr.mono hk) hg hm kp hb .nil pass0 ha hdb he hpl
theorem clS_of {k : Nat} {x : Str} {st : Stmt} {N ps : List Str} {sp : Sp} (F : Std K mg x st ps) (S : FnScope N ps (defScope st)) (hl : ∀ vs H Q E, sp vs H Q E → vs.length = ps.length)
    (hbody : ∀ (f : Addr) (cdv : Value) (A : Around) (outer : List Env) (s : Shared) (H : Hp) (vs : List V) (Q : VK) (E : XK), Room k (XX P w K mg base N x st f cdv A outer s H E).A → sp vs H Q E → ∃ t, PSs (XX P w K mg base N x st f cdv A outer s H E) (defBody st) t ∧ t { nx := fun _ H' => Q .non H', rt := Q } (L2.start N vs) H) : ClS P w K mg base (k + 1) x sp := by
  obtain ⟨f, fd, F, hm, hb⟩ := F.ex
  exact ⟨f, fd, ps, F.ok S hl fun cdv A outer s H vs Q E hr h => hbody f cdv A outer s H vs Q E hr h, hm, F.kp, hb⟩
theorem sq_at {H H' : Hp} {a : Addr} {xs : List V} (h : SqL K H a xs) (e : H' a = H a) : SqL K H' a xs := by
  rcases h with (h | ⟨o, h⟩) | h
  · exact .inl (.inl (e.trans h))
  · exact .inl (.inr ⟨o, e.trans h⟩)
  · exact .inr h
theorem sq_upd {H : Hp} {a p : Addr} {xs : List V} {u : HO} (h : SqL K H a xs) (hp : p ≠ a ∨ ∀ H' : Hp, SqL K H' a xs) : SqL K (upd H p u) a xs := by
  rcases hp with hp | hp
  · exact sq_at h (upd_ne (Ne.symm hp))
  · exact hp _
def Row (K : PySem.W.Frag) (r a : Addr) (ns : List Int) (H : Hp) : Prop := ∃ (i z c : Int), H r = some (.lst [.ref a, .int i, .int z, .int c]) ∧ 0 ≤ i ∧ SqL K H a (ns.map V.int) ∧ (r ≠ a ∨ ∀ H' : Hp, SqL K H' a (ns.map V.int))
def spTaken (K : PySem.W.Frag) : Sp := fun vs H Q _ => ∃ (r a : Addr) (ns : List Int) (m : Nat), vs = [.ref r, .int (m : Int)] ∧ Row K r a ns H ∧ 0 < m ∧ m < 1000 ∧ ∀ (k : Nat) (H' : Hp), k < m → (∀ b, b ≠ r → H' b = H b) → Row K r a ns H' → Q (.int (k : Int)) H'
theorem modN (x : Int) {m : Nat} (h : 0 < m) : ∃ k : Nat, k < m ∧ x % (m : Int) = (k : Int) := by
  have h1 : 0 ≤ x % (m : Int) := Int.emod_nonneg _ (by omega)
  have h2 : x % (m : Int) < (m : Int) := Int.emod_lt_of_pos _ (by omega)
  exact ⟨(x % (m : Int)).toNat, by omega, by omega⟩
abbrev N53 : List Str := ["_law_row", "_law_many", "_law_found", "_law_cell"]
theorem sc53 : FnScope N53 ["_law_row", "_law_many"] (defScope (topS 53)) := ⟨rfl, rfl, rfl, by decide +kernel, rfl, by decide +kernel, by decide +kernel⟩
theorem cl_taken (T : Bt mg) (F : Std K mg "_law_taken" (topS 53) ["_law_row", "_law_many"]) : ClS P w K mg base 1 "_law_taken" (spTaken K) := by
  refine clS_of F sc53 (fun vs H Q E h => ?_) fun f cdv A outer s H vs Q E hr h => ?_
  · obtain ⟨r, a, ns, m, rfl, _⟩ := h; rfl
  obtain ⟨r, a, ns, m, rfl, ⟨i, z, c, hR, hi, hS, har⟩, h0, hm, q⟩ := h
  refine ⟨_, pss_cons (ps_if (pt_cmpR op_gt (pe_ix ix_list (pv 0) pe_int (fun _ _ => rfl)) pe_int (nomark _))
      (pss_cons (ps_set (i := 2) sc53.nd rfl (by first | exact .inl rfl | exact .inr rfl) (pe_op op_mod (pe_callTy call_int1 (by rfl) T.int boot_int (pa_cons (pe_ix ix_list (pv 0) pe_int (fun _ _ => rfl)) pa_nil)) (pv 1)))
      (pss_cons (ps_asg (pe_op op_fdiv (pe_ix ix_list (pv 0) pe_int (fun _ _ => rfl)) (pv 1)) (pg_sub (pv 0) pe_int set_list))
      (pss_one (ps_ret (pv 2))))) pss_nil)
    (pss_cons (ps_asg (pe_op op_add (pe_ix ix_list (pv 0) pe_int (fun _ _ => rfl)) pe_int) (pg_sub (pv 0) pe_int set_list))
    (pss_cons (ps_if (pt_cmpR op_gt (pe_ix ix_list (pv 0) pe_int (fun _ _ => rfl)) (pe_callB call_len_seq (by rfl) T.len PySem.boot_len (pa_cons (pe_ix ix_list (pv 0) pe_int (fun _ _ => rfl)) pa_nil)) (nomark _))
      (pss_cons (ps_asg (pe_op op_mod (pe_callTy call_int1 (by rfl) T.int boot_int (pa_cons (pe_op op_add (pe_op op_mul (pe_ix ix_list (pv 0) pe_int (fun _ _ => rfl)) pe_int) pe_int) pa_nil)) pe_int) (pg_sub (pv 0) pe_int set_list))
      (pss_one (ps_ret (pe_op op_mod (pe_callTy call_int1 (by rfl) T.int boot_int (pa_cons (pe_op op_fdiv (pe_ix ix_list (pv 0) pe_int (fun _ _ => rfl)) pe_int) pa_nil)) (pv 1))))) pss_nil)
    (pss_cons (ps_set (i := 3) sc53.nd rfl (by first | exact .inl rfl | exact .inr rfl) (pe_ix ix_list (pe_ix ix_list (pv 0) pe_int (fun _ _ => rfl)) (pe_op op_sub (pe_ix ix_list (pv 0) pe_int (fun _ _ => rfl)) pe_int) (fun _ _ => rfl)))
    (pss_cons (ps_asg (pe_op op_mod (pe_callTy call_int1 (by rfl) T.int boot_int (pa_cons (pe_op op_add (pe_op op_add (pe_op op_mul (pe_ix ix_list (pv 0) pe_int (fun _ _ => rfl)) pe_int) (pv 3)) pe_int) pa_nil)) pe_int) (pg_sub (pv 0) pe_int set_list))
    (pss_cons (ps_if (pt_cmpR op_ge (pv 3) (pe_op op_pow pe_int pe_int) (nomark _)) (pss_one (ps_asg (pe_op op_fdiv (pv 3) (pv 1)) (pg_sub (pv 0) pe_int set_list))) pss_nil)
    (pss_one (ps_ret (pe_op op_mod (pe_callTy call_int1 (by rfl) T.int boot_int (pa_cons (pv 3) pa_nil)) (pv 1))))))))), ?_⟩
  have set4 : ∀ {H1 : Hp} {x0 x1 x2 x3 y : V} {j : Nat} {k : Int} {Q1 : Hp → Prop}, H1 r = some (.lst [x0, x1, x2, x3]) → ixN 4 k = some j → Q1 (upd H1 r (.lst ([x0, x1, x2, x3].set j y))) → rSetL (.ref r) (.int k) y H1 Q1 := fun h e q => ⟨r, _, _, _, rfl, rfl, h, e, q⟩
  have m0 : (0 : Int) < (m : Int) := by omega
  have m1 : (m : Int) < 1073741824 := by omega
  refine ⟨_, rfl, r, _, 3, _, rfl, rfl, SqL.of hR, rfl, c, 0, rfl, rfl, _, rfl, ?_⟩
  refine ite2 (fun hc => ?_) (fun hc => ?_)
  · obtain ⟨k, hk, ek⟩ := modN c h0
    refine ⟨_, rfl, r, _, 3, _, rfl, rfl, SqL.of hR, rfl, .inl ⟨c, rfl, ⟨_, rfl, c, m, rfl, rfl, m0, ?_⟩⟩⟩
    refine ⟨_, rfl, r, _, 3, _, rfl, rfl, SqL.of hR, rfl, ⟨_, rfl, c, m, rfl, rfl, ⟨m0, m1⟩, _, rfl, set4 hR rfl ?_⟩⟩
    refine ⟨_, rfl, ?_⟩
    show Q (V.int _) _
    rw [ek]
    exact q k _ hk (fun b hb => upd_ne hb) ⟨i, z, _, upd_same, hi, sq_upd hS har, har⟩
  · refine ⟨_, rfl, r, _, 1, _, rfl, rfl, SqL.of hR, rfl, ⟨i, 1, rfl, rfl, _, rfl, set4 hR rfl ?_⟩⟩
    have hR1 : upd H r (.lst [.ref a, .int (i + 1), .int z, .int c]) r = some (.lst [.ref a, .int (i + 1), .int z, .int c]) := upd_same
    have hS1 : SqL K (upd H r (.lst [.ref a, .int (i + 1), .int z, .int c])) a (ns.map V.int) := sq_upd hS har
    have oth1 : ∀ b, b ≠ r → upd H r (.lst [.ref a, .int (i + 1), .int z, .int c]) b = H b := fun b hb => upd_ne hb
    show tSeq _ _ _ _ (upd H r (.lst [.ref a, .int (i + 1), .int z, .int c]))
    generalize upd H r (.lst [.ref a, .int (i + 1), .int z, .int c]) = H1 at *
    refine ⟨_, rfl, r, _, 1, _, rfl, rfl, SqL.of hR1, rfl, ⟨_, rfl, r, _, 0, _, rfl, rfl, SqL.of hR1, rfl, ⟨a, _, rfl, .inl hS1, ⟨i + 1, _, rfl, rfl, _, rfl, ?_⟩⟩⟩⟩
    refine ite2 (fun hl => ?_) (fun hl => ?_)
    · refine ⟨_, rfl, r, _, 2, _, rfl, rfl, SqL.of hR1, rfl, ⟨z, 48271, rfl, rfl, .inr ⟨by decide, by decide⟩, ⟨_, 11, rfl, rfl, .inl ⟨_, rfl, ⟨_, 2147483647, rfl, rfl, (show (0 : Int) < 2147483647 by decide), _, rfl, set4 hR1 rfl ?_⟩⟩⟩⟩⟩
      refine ⟨_, rfl, r, _, 2, _, rfl, rfl, SqL.of upd_same, rfl, ⟨_, 7, rfl, rfl, ⟨by decide, by decide⟩, .inl ⟨_, rfl, ⟨_, rfl, _, m, rfl, rfl, m0, ?_⟩⟩⟩⟩
      obtain ⟨k, hk, ek⟩ := modN ((z * 48271 + 11) % 2147483647 / 7) h0
      show Q (V.int _) _
      rw [ek]
      exact q k _ hk (fun b hb => (upd_ne hb).trans (oth1 b hb)) ⟨_, _, _, upd_same, by omega, sq_upd hS1 har, har⟩
    · have hlt : i < (ns.length : Int) := by
        rw [List.length_map] at hl
        have hl : ¬ (ns.length : Int) < i + 1 := fun z => hl (decide_eq_true z)
        omega
      have hn : i.toNat < ns.length := by omega
      have atc : atI (ns.map V.int) (i + 1 - 1) = some (.int ns[i.toNat]) := by
        unfold atI ixN
        rw [show i + 1 - 1 = i by omega, if_pos hi, List.length_map, if_pos hlt]
        show (ns.map V.int)[i.toNat]? = _
        rw [List.getElem?_map, List.getElem?_eq_getElem hn]; rfl
      generalize ns[i.toNat] = cell at atc
      refine ⟨_, rfl, r, _, 0, _, rfl, rfl, SqL.of hR1, rfl, ⟨_, rfl, r, _, 1, _, rfl, rfl, SqL.of hR1, rfl, ⟨i + 1, 1, rfl, rfl, ⟨a, _, i + 1 - 1, _, rfl, rfl, hS1, atc, ?_⟩⟩⟩⟩
      refine ⟨_, rfl, r, _, 2, _, rfl, rfl, SqL.of hR1, rfl, ⟨z, 48271, rfl, rfl, .inr ⟨by decide, by decide⟩, ⟨_, rfl, _, cell, rfl, rfl, ⟨_, 11, rfl, rfl, .inl ⟨_, rfl, ⟨_, 2147483647, rfl, rfl, (show (0 : Int) < 2147483647 by decide), _, rfl, set4 hR1 rfl ?_⟩⟩⟩⟩⟩⟩
      have hS2 : ∀ u, SqL K (upd H1 r u) a (ns.map V.int) := fun u => sq_upd hS1 har
      obtain ⟨k, hk, ek⟩ := modN cell h0
      refine ⟨_, rfl, ⟨10, 18, rfl, rfl, ⟨by decide, by decide, by decide⟩, ⟨cell, _, rfl, rfl, _, rfl, ?_⟩⟩⟩
      refine ite2 (fun _ => ?_) (fun _ => ?_)
      · refine ⟨_, rfl, ⟨_, rfl, cell, m, rfl, rfl, ⟨m0, m1⟩, _, rfl, set4 upd_same rfl ?_⟩⟩
        refine ⟨_, rfl, .inl ⟨cell, rfl, ⟨_, rfl, cell, m, rfl, rfl, m0, ?_⟩⟩⟩
        show Q (V.int _) _
        rw [ek]
        exact q k _ hk (fun b hb => (upd_ne hb).trans ((upd_ne hb).trans (oth1 b hb))) ⟨_, _, _, upd_same, by omega, sq_upd (hS2 _) har, har⟩
      · refine ⟨_, rfl, .inl ⟨cell, rfl, ⟨_, rfl, cell, m, rfl, rfl, m0, ?_⟩⟩⟩
        show Q (V.int _) _
        rw [ek]
        exact q k _ hk (fun b hb => (upd_ne hb).trans (oth1 b hb)) ⟨_, _, _, upd_same, by omega, hS2 _, har⟩
end
end LW

set_option Elab.async false
set_option linter.all false
set_option maxRecDepth 100000
set_option maxHeartbeats 4000000
/-! the hands of the law -/
namespace LW
open PySem PySem.Spec PyProof.Rows L2 FW
section
variable {P : Program} {w : World} {K : PySem.W.Frag} {mg : Str → Option Value} {base : Heap}
theorem sq_fresh {H : Hp} {a p : Addr} {xs : List V} (h : SqL K H a xs) (hp : H p = none) : p ≠ a ∨ ∀ H' : Hp, SqL K H' a xs := by
  rcases h with (h | ⟨o, h⟩) | h
  · exact .inl fun z => by rw [← z, hp] at h; cases h
  · exact .inl fun z => by rw [← z, hp] at h; cases h
  · exact .inr fun H' => .inr h
theorem row_upd {r a p : Addr} {ns : List Int} {H : Hp} {u : HO} (h : Row K r a ns H) (hr : p ≠ r) (hp : p ≠ a ∨ ∀ H' : Hp, SqL K H' a (ns.map V.int)) : Row K r a ns (upd H p u) := by
  obtain ⟨i, z, c, h1, h2, h3, h4⟩ := h
  exact ⟨i, z, c, (upd_ne (Ne.symm hr)).trans h1, h2, sq_upd h3 hp, h4⟩
theorem row_sq {r a : Addr} {ns : List Int} {H : Hp} (h : Row K r a ns H) : SqL K H a (ns.map V.int) := let ⟨_, _, _, _, _, h3, _⟩ := h; h3
theorem row_ne {r a p : Addr} {ns : List Int} {H : Hp} (h : Row K r a ns H) (hp : H p = none) : p ≠ r := fun z => by
  obtain ⟨i, _, c, h1, _⟩ := h
  rw [z, h1] at hp; cases hp
def spHands (K : PySem.W.Frag) : Sp := fun vs H Q _ => ∃ (r a : Addr) (ns : List Int), vs = [.ref r, .int 4, .int 6] ∧ Row K r a ns H ∧
  ∀ (v : V) (H' B2 : Hp) (hs : LH.Hs), LH.Valid hs → Same B2 H' → Kn B2 (dH hs) v → Q v H'
abbrev N54 : List Str := ["_law_row", "_law_people", "_law_kinds", "_law_many", "_law_size", "_law_found", "_law_rare", "_law_person", "_law_thing"]
theorem sc54 : FnScope N54 ["_law_row", "_law_people", "_law_kinds"] (defScope (topS 54)) := ⟨rfl, rfl, rfl, by decide +kernel, rfl, by decide +kernel, by decide +kernel⟩
theorem cl_law_hands (T : Bt mg) (F : Std K mg "_law_hands" (topS 54) ["_law_row", "_law_people", "_law_kinds"]) (c1 : ClS P w K mg base 1 "_law_taken" (spTaken K)) : ClS P w K mg base 2 "_law_hands" (spHands K) := by
  refine clS_of F sc54 (fun vs H Q E h => ?_) fun f cdv A outer s H vs Q E hr h => ?_
  · obtain ⟨r, a, ns, rfl, _⟩ := h; rfl
  obtain ⟨r, a, ns, rfl, hR, q⟩ := h
  refine ⟨_, pss_cons (ps_par3 (i := 3) (j := 4) (l := 5) rfl sc54.nd rfl rfl rfl (by decide) (by decide) (by decide) rfl rfl rfl (pa_cons (pe_op op_add pe_int (pe_clS c1 hr (by decide) (by rfl) (pa_cons (pv 0) (pa_cons (pv 1) pa_nil)))) (pa_cons (pe_clS c1 hr (by decide) (by rfl) (pa_cons (pv 0) (pa_cons (pe_op op_add (pv 2) pe_int) pa_nil))) (pa_cons (pe_lst pa_nil) pa_nil))) (by rfl))
    (pss_cons (ps_set (i := 6) sc54.nd rfl (by first | exact .inl rfl | exact .inr rfl) (pe_op op_add pe_int (pe_clS c1 hr (by decide) (by rfl) (pa_cons (pv 0) (pa_cons pe_int pa_nil)))))
    (pss_cons (ps_for PassesOwn.never rfl (pi_range1 (by rfl) T.range (pa_cons (pv 3) pa_nil)) (pg_name (i := 7) sc54.nd rfl (by first | exact .inl rfl | exact .inr rfl))
      (pss_one (ps_expr (pe_bm PySem.F.plainAttrs_list PySem.F.slot_list_append PySem.F.type_list_append mt_append (pv 5) (pa_cons (pe_callTy call_tuple_of (by rfl) T.tuple boot_tuple (pa_cons (pe_lc (own := [("_law_thing", 8)]) (g := gName 8) (tt := tTest (tOp rEq (tCall (spTaken K) [] E0 (tCons (tVar 0) (tCons (tOp (rI0 fun i j => .int (i + j)) (tVar 6) (tC (.int 1))) tNil))) (tC (.int 0)))) (te := tVar 8) rfl sc54.nd (pi_range1 (by rfl) T.range (pa_cons (pv 4) pa_nil))
            (blkOk_by (N := N54) (sc := defScope (topS 54)) (by decide +kernel)) (fun _ _ _ _ _ => pg_name (i := 8) sc54.nd rfl (by first | exact .inl rfl | exact .inr rfl))
            (fun _ _ _ _ _ => pts_one (pt_cmpR op_eq (pe_clS c1 hr (by decide) (by rfl) (pa_cons (pv 0) (pa_cons (pe_op op_add (pv 6) pe_int) pa_nil))) pe_int (nomark _))) (fun _ _ _ _ _ => pv 8)) pa_nil)) pa_nil)))))
    (pss_one (ps_ret (pe_callTy call_tuple_of (by rfl) T.tuple boot_tuple (pa_cons (pv 5) pa_nil)))))), ?_⟩
  -- many and size, drawn
  refine ⟨_, rfl, _, rfl, r, a, ns, 4, rfl, hR, by decide, by decide, fun k1 H1 hk1 e1 R1 => ⟨1, k1, rfl, rfl, ?_⟩⟩
  refine ⟨_, rfl, _, rfl, 6, 1, rfl, rfl, r, a, ns, 7, rfl, R1, by decide, by decide, fun k2 H2 hk2 e2 R2 => ?_⟩
  refine ⟨Nat.zero_le _, fun pF hF => ?_⟩
  have hFr := row_ne R2 hF
  have hFa := sq_fresh (row_sq R2) hF
  have R3 : Row K r a ns (upd H2 pF (.lst [])) := row_upd R2 hFr hFa
  refine ⟨_, _, _, rfl, ?_⟩
  refine ⟨_, rfl, r, a, ns, 3, rfl, R3, by decide, by decide, fun k3 H3 hk3 e3 R4 => ⟨1, k3, rfl, rfl, ?_⟩⟩
  have h3F : H3 pF = some (.lst []) := (e3 pF hFr).trans upd_same
  have em : (1 : Int) + (k1 : Int) = ((1 + k1 : Nat) : Int) := by omega
  refine ⟨_, rfl, _, rfl, by omega, by omega, ?_⟩
  rw [em, Int.toNat_natCast]
  let st := fun (v7 v8 : Option V) => ([some (.ref r), some (.int 4), some (.int 6), some (.int (1 + (k1 : Int))), some (.int (k2 : Int)), some (.ref pF), some (.int (1 + (k3 : Int))), v7, v8] : FW.St)
  refine for_it (walk_range (lo := 0) (n := 1 + k1)) (fun i σ' H' => ∃ (v7 v8 : Option V) (hs : LH.Hs) (vs : List V) (B2 : Hp), σ' = st v7 v8 ∧ hs.length = i ∧ (∀ h ∈ hs, h.Pairwise (· < ·) ∧ ∀ t ∈ h, t < 8) ∧ H' pF = some (.lst vs) ∧ KnL B2 (hs.map dT) vs ∧ Same B2 H' ∧ B2 pF = none ∧ B2 r = none ∧ Row K r a ns H')
    ⟨none, none, [], [], fun _ => none, rfl, rfl, by simp, h3F, .nil, fun _ _ e => (nomatch e), rfl, rfl, R4⟩ (fun _ _ _ _ _ => trivial) ?_ ?_
  · rintro i x σ' H4 H5 hlt ⟨v7, v8, hs, vs, B2, rfl, hlen, hval, hF4, hk, sB, bF, bR, R5⟩ ⟨rfl, rfl⟩
    refine ⟨_, rfl, .inl ⟨rfl, _, SqL.of hF4⟩, ?_⟩
    refine ⟨_, rfl, (k2 : Int), rfl, by omega, by omega, fun Dl hD => ?_⟩
    rw [Int.toNat_natCast]
    have hDr := row_ne R5 hD
    have hDa := sq_fresh (row_sq R5) hD
    have hFD : pF ≠ Dl := fun z => by rw [z, hD] at hF4; cases hF4
    refine lc_it (walk_range (lo := 0) (n := k2)) (fun j H' => ∃ zs : List Nat, H' Dl = some (.lst (zs.map fun (t : Nat) => V.int (t : Int))) ∧ zs.length ≤ j ∧ zs.Pairwise (· < ·) ∧ (∀ t ∈ zs, t < j) ∧ Row K r a ns H' ∧ ∀ b, b ≠ r → b ≠ Dl → H' b = H5 b)
      ⟨[], upd_same, Nat.le_refl _, .nil, by simp, row_upd R5 hDr hDa, fun b _ hb => upd_ne hb⟩ (fun _ _ _ _ => trivial) ?_ ?_
    · rintro j y H6 H7 hj ⟨zs, hz, hzn, hzp, hzl, hzR, hzO⟩ ⟨rfl, rfl⟩
      refine ⟨rfl, _, rfl, _, rfl, 1 + (k3 : Int), 1, rfl, rfl, r, a, ns, 2 + k3, ?_, hzR, by omega, by omega, fun k H8 hk8 e8 R8 => ⟨rfl, _, rfl, ?_⟩⟩
      · show [V.ref r, V.int (1 + (k3 : Int) + 1)] = [V.ref r, V.int ((2 + k3 : Nat) : Int)]
        rw [show (1 + (k3 : Int) + 1) = ((2 + k3 : Nat) : Int) by omega]
      · have h8D : H8 Dl = some (.lst (zs.map fun (t : Nat) => V.int (t : Int))) := (e8 Dl hDr).trans hz
        refine ite2 (fun _ => ?_) (fun _ => ?_)
        · refine ⟨_, rfl, _, h8D, sz_lt (by rw [List.length_map]; omega), zs ++ [j], ?_, ?_, ?_, ?_, row_upd R8 hDr hDa, fun b h1 h2 => (upd_ne h2).trans ((e8 b h1).trans (hzO b h1 h2))⟩
          · rw [upd_same, List.map_append]
            show some (HO.lst (_ ++ [V.int (0 + (j : Int))])) = _
            rw [Int.zero_add]; rfl
          · rw [List.length_append]; simp; omega
          · rw [List.pairwise_append]
            exact ⟨hzp, by simp, fun a ha b hb => by simp at hb; subst hb; exact hzl a ha⟩
          · intro t ht
            rcases List.mem_append.mp ht with z | z
            · have := hzl t z; omega
            · simp at z; omega
        · exact ⟨zs, h8D, by omega, hzp, fun t ht => by have := hzl t ht; omega, R8, fun b h1 h2 => (e8 b h1).trans (hzO b h1 h2)⟩
    · rintro H9 ⟨zs, hz, hzn, hzp, hzl, hzR, hzO⟩
      refine ⟨Dl, _, rfl, .inl ⟨SqL.of hz, fun l hl => ?_⟩⟩
      have hlr := row_ne hzR hl
      have hla := sq_fresh (row_sq hzR) hl
      have hlD : l ≠ Dl := fun z => by rw [z, hz] at hl; cases hl
      have h5l : H5 l = none := (hzO l hlr hlD).symm.trans hl
      have hb2l : B2 l = none := sB.free h5l
      have hlF : l ≠ pF := fun z => by rw [z, hF4] at h5l; cases h5l
      have h9F : H9 pF = some (.lst vs) := (hzO pF hFr hFD).trans hF4
      have hvl : vs.length = i := by rw [← hk.length, List.length_map, hlen]
      refine ⟨pF, vs, .ref l, rfl, rfl, (upd_ne hlF.symm).trans h9F, sz_lt (by omega), ?_⟩
      have sN := same_new (o := .tup (zs.map fun (t : Nat) => V.int (t : Int))) hb2l
      refine ⟨_, v8, hs ++ [zs], vs ++ [.ref l], upd B2 l (.tup (zs.map fun (t : Nat) => V.int (t : Int))), rfl, by rw [List.length_append, hlen]; rfl, ?_, upd_same, ?_, ?_, (upd_ne hlF.symm).trans bF, (upd_ne hlr.symm).trans bR, row_upd (row_upd hzR hlr hla) hFr hFa⟩
      · intro h hh
        rcases List.mem_append.mp hh with z | z
        · exact hval h z
        · simp at z; subst z
          exact ⟨hzp, fun t ht => by have := hzl t ht; omega⟩
      · rw [List.map_append]
        refine (hk.mono sN).append (.cons (.tup upd_same ?_) .nil)
        rw [map_dN]
        have e : (zs.map fun (t : Nat) => V.int (t : Int)) = (zs.map fun (x : Nat) => (x : Int)).map V.int := by rw [List.map_map]; rfl
        rw [e]
        exact KnL.of_ints _
      · intro x o e
        by_cases hx : x = l
        · subst hx
          rw [upd_same] at e
          rw [upd_ne hlF, upd_same]; exact e
        · rw [upd_ne hx] at e
          have e5 := sB x o e
          have hxF : x ≠ pF := fun z => by rw [z, bF] at e; cases e
          have hxr : x ≠ r := fun z => by rw [z, bR] at e; cases e
          have hxD : x ≠ Dl := fun z => by rw [z, hD] at e5; cases e5
          rw [upd_ne hxF, upd_ne hx, hzO x hxr hxD]
          exact e5
  · rintro σ' H9 ⟨v7, v8, hs, vs, B2, rfl, hlen, hval, hF4, hk, sB, bF, bR, R5⟩
    refine ⟨_, rfl, pF, _, rfl, .inl ⟨SqL.of hF4, fun l hl => ?_⟩⟩
    have hb2l : B2 l = none := sB.free hl
    have sN := same_new (o := .tup vs) hb2l
    refine q _ _ (upd B2 l (.tup vs)) hs ⟨by omega, by omega, fun h hh => (hval h hh).1, fun h hh => (hval h hh).2⟩ (fun x o e => ?_) (.tup upd_same (hk.mono sN))
    by_cases hx : x = l
    · subst hx; rw [upd_same] at e ⊢; exact e
    · rw [upd_ne hx] at e ⊢; exact sB x o e
end
end LW

set_option Elab.async false
set_option linter.all false
set_option maxRecDepth 100000
set_option maxHeartbeats 4000000
/-! the law -/
namespace LW
open PySem PySem.Spec PyProof.Rows L2 FW
section
variable {P : Program} {w : World} {K : PySem.W.Frag} {mg : Str → Option Value} {base : Heap}
theorem least {ns : List Nat} (h : ns ≠ []) : ∃ m ∈ ns, ∀ y ∈ ns, m ≤ y := by
  induction ns with
  | nil => exact absurd rfl h
  | cons x l ih =>
    cases l with
    | nil => exact ⟨x, by simp, fun y hy => by simp at hy; omega⟩
    | cons z l =>
      obtain ⟨m, hm, hl⟩ := ih (by simp)
      by_cases hx : x ≤ m
      · exact ⟨x, by simp, fun y hy => by
          rcases List.mem_cons.mp hy with e | hy
          · omega
          · have := hl y hy; omega⟩
      · exact ⟨m, List.mem_cons_of_mem _ hm, fun y hy => by
          rcases List.mem_cons.mp hy with e | hy
          · omega
          · exact hl y hy⟩
theorem okS_of {k : Nat} {x : Str} {st : Stmt} {N ps : List Str} {sp : Sp} {f0 : Addr} {fd0 : FuncData} (F : Fun K x x st f0 fd0) (S : FnScope N ps (defScope st)) (hl : ∀ vs H Q E, sp vs H Q E → vs.length = ps.length)
    (hbody : ∀ (f : Addr) (cdv : Value) (A : Around) (outer : List Env) (s : Shared) (H : Hp) (vs : List V) (Q : VK) (E : XK), Room k (XX P w K mg base N x st f cdv A outer s H E).A → sp vs H Q E → ∃ t, PSs (XX P w K mg base N x st f cdv A outer s H E) (defBody st) t ∧ t { nx := fun _ H' => Q .non H', rt := Q } (L2.start N vs) H) : FnOk P w K mg base CX0 (k + 1) f0 fd0 ps sp :=
  F.ok S hl fun cdv A outer s H vs Q E hr h => hbody f0 cdv A outer s H vs Q E hr h
theorem gset {i : Nat} {v : V} {σ : FW.St} {H : Hp} {Q : FW.St → Hp → Prop} {C : FW.Ctx} {Γ : Gm} {M : Ows} (a : AtM C Γ M (σ.set i (some v)) H) (h : Pn C Γ M Q) : gName i v σ H Q := h _ _ a
def spLaw (K : PySem.W.Frag) : Sp := fun vs H Q _ => ∃ (a : Addr) (ns : List Int), vs = [.ref a] ∧ SqL K H a (ns.map V.int) ∧ ∀ H', Q (.bl true) H'
abbrev N55 : List Str := ["_law_script", "_law_row", "_law_hands_here", "_law_some", "_law_few", "_law_end", "_law_parts", "_law_many", "_law_part", "_law_person", "_law_stage"]
theorem sc55 : FnScope N55 ["_law_script"] (defScope (topS 55)) := ⟨rfl, rfl, rfl, by decide +kernel, rfl, by decide +kernel, by decide +kernel⟩
theorem ok_law {f0 : Addr} {fd0 : FuncData} (T : Bt mg) (F : Fun K "law" "law" (topS 55) f0 fd0) (c1 : ClS P w K mg base 2 "_law_hands" (spHands K)) (c2 : Cl P w K mg base 5 "ends" R_ends) (c3 : Cl P w K mg base 7 "by_stages" R_by_stages) (c4 : Cl P w K mg base 7 "count_stages" R_count_stages) (c5 : Cl P w K mg base 7 "distance" R_distance)
    (c6 : Cl P w K mg base 5 "rounds_by" R_rounds_by) (c7 : Cl P w K mg base 7 "stages" R_stages) (c8 : Cl P w K mg base 7 "losers" R_losers) (c9 : Cl P w K mg base 5 "one_round" R_one_round) (c10 : Cl P w K mg base 7 "count_ways" R_count_ways) (c11 : Cl P w K mg base 7 "way" R_way) (c12 : Cl P w K mg base 5 "fewest_rounds" R_fewest) :
    FnOk P w K mg base CX0 8 f0 fd0 ["_law_script"] (spLaw K) := by
  refine okS_of F sc55 (fun vs H Q E h => ?_) fun f cdv A outer s H vs Q E hr h => ?_
  · obtain ⟨a, ns, rfl, _⟩ := h; rfl
  obtain ⟨a, ns, rfl, hS, q⟩ := h
  refine ⟨_, pss_cons (ps_set (i := 1) sc55.nd rfl (by first | exact .inl rfl | exact .inr rfl) (pe_lst (pa_cons (pv 0) (pa_cons pe_int (pa_cons pe_int (pa_cons pe_int pa_nil))))))
    (pss_cons (ps_set (i := 2) sc55.nd rfl (by first | exact .inl rfl | exact .inr rfl) (pe_clS c1 hr (by decide) (by rfl) (pa_cons (pv 1) (pa_cons pe_int (pa_cons pe_int pa_nil)))))
    (pss_cons (ps_par (i := 3) (j := 4) rfl sc55.nd rfl rfl (by decide) rfl rfl (pa_cons (pe_cl c2 hr (by decide) (by rfl) (pa_cons (pv 2) pa_nil)) (pa_cons (pe_lst pa_nil) pa_nil)) (by rfl))
    (pss_cons (ps_for PassesOwn.never rfl (pi_list (pv 3)) (pg_name (i := 5) sc55.nd rfl (by first | exact .inl rfl | exact .inr rfl))
      (pss_cons (ps_par (i := 6) (j := 7) rfl sc55.nd rfl rfl (by decide) rfl rfl (pa_cons (pe_cl c3 hr (by decide) (by rfl) (pa_cons (pv 2) (pa_cons (pv 5) pa_nil))) (pa_cons (pe_cl c4 hr (by decide) (by rfl) (pa_cons (pv 2) (pa_cons (pv 5) pa_nil))) pa_nil)) (by rfl))
      (pss_cons (ps_expr (pe_bm PySem.F.plainAttrs_list PySem.F.slot_list_append PySem.F.type_list_append mt_append (pv 4) (pa_cons (pv 7) pa_nil)))
      (pss_cons (ps_if (PW.pt (pw_or (pt_cmpR op_ne (pe_callB call_len_seq (by rfl) T.len PySem.boot_len (pa_cons (pv 6) pa_nil)) (pv 7) (nomark _)) (pw_or1 (pt_cmpR op_ne (pe_callB (cr_sum rfl) (by rfl) T.sum (by decide +kernel) (pa_cons (pe_lc (own := [("_law_part", 8)]) (g := gName 8) (tt := tYes) (te := tLn K (tVar 8)) rfl sc55.nd (pi_tup (pv 6))
          (blkOk_by (N := N55) (sc := defScope (topS 55)) (by decide +kernel)) (fun _ _ _ _ _ => pg_name (i := 8) sc55.nd rfl (by first | exact .inl rfl | exact .inr rfl)) (fun _ _ _ _ _ => pts_nil) (fun _ _ _ _ _ => pe_callB call_len_seq (by rfl) T.len PySem.boot_len (pa_cons (pv 8) pa_nil))) pa_nil)) (pe_cl c5 hr (by decide) (by rfl) (pa_cons (pv 2) (pa_cons (pv 5) pa_nil))) (nomark _))))) (pss_one (ps_ret pe_bl)) pss_nil)
      (pss_cons (ps_if (pt_cmpR (op_neD hr.units) (pe_cl c6 hr (by decide) (by rfl) (pa_cons (pv 2) (pa_cons (pv 6) pa_nil))) (pv 5) (nomark _)) (pss_one (ps_ret pe_bl)) pss_nil)
      (pss_cons (ps_if (pt_cmpR (op_neD hr.units) (pe_callTy call_tuple_of (by rfl) T.tuple boot_tuple (pa_cons (pe_lc (own := [("_law_person", 9), ("_law_stage", 10)]) (g := gPr K 9 10) (tt := tYes) (te := tVar 9) rfl sc55.nd (pi_tup (pe_cl c7 hr (by decide) (by rfl) (pa_cons (pv 2) (pa_cons (pv 5) pa_nil))))
          (blkOk_by (N := N55) (sc := defScope (topS 55)) (by decide +kernel)) (fun _ _ _ _ _ => pg_tup rfl (pgs_cons (pg_name (i := 9) sc55.nd rfl (by first | exact .inl rfl | exact .inr rfl)) (pgs_cons (pg_name (i := 10) sc55.nd rfl (by first | exact .inl rfl | exact .inr rfl)) pgs_nil))) (fun _ _ _ _ _ => pts_nil) (fun _ _ _ _ _ => pv 9)) pa_nil)) (pe_cl c8 hr (by decide) (by rfl) (pa_cons (pv 2) (pa_cons (pv 5) pa_nil))) (nomark _)) (pss_one (ps_ret pe_bl)) pss_nil)
      (pss_cons (ps_if (pt_cmpR op_gt (pv 7) (pe_cl c5 hr (by decide) (by rfl) (pa_cons (pv 2) (pa_cons (pv 5) pa_nil))) (nomark _)) (pss_one (ps_ret pe_bl)) pss_nil)
      (pss_cons (ps_if (PW.pt (pw_and (pt_cmpR op_lt (pv 7) pe_int (nomark _)) (pw_and (pt_cmpR op_gt (pe_cl c5 hr (by decide) (by rfl) (pa_cons (pv 2) (pa_cons (pv 5) pa_nil))) pe_int (nomark _)) (pw_and1 (pt_cmpR (op_notInD (by have := hr.un; omega)) (pe_ix ix_tup (pv 6) pe_int (fun _ _ => rfl)) (pe_cl c9 hr (by decide) (by rfl) (pa_cons (pv 2) pa_nil)) rfl))))) (pss_one (ps_ret pe_bl)) pss_nil)
      (pss_cons (ps_if (PW.pt (pw_and (pt_cmpR op_eq (pv 7) (pe_cl c5 hr (by decide) (by rfl) (pa_cons (pv 2) (pa_cons (pv 5) pa_nil))) (nomark _)) (pw_and1 (pt_cmpR op_ne (pe_cl c10 hr (by decide) (by rfl) (pa_cons (pv 2) (pa_cons (pv 5) pa_nil))) pe_int (nomark _))))) (pss_one (ps_ret pe_bl)) pss_nil)
      (pss_one (ps_if (PW.pt (pw_and (pt_cmpR op_eq (pe_cl c10 hr (by decide) (by rfl) (pa_cons (pv 2) (pa_cons (pv 5) pa_nil))) pe_int (nomark _)) (pw_and (pt_cmpR (op_neD hr.units) (pe_cl c11 hr (by decide) (by rfl) (pa_cons (pv 2) (pa_cons (pv 5) pa_nil))) (pe_tup pa_nil) (nomark _)) (pw_and1 (pt_cmpR op_ne (pv 7) (pe_cl c5 hr (by decide) (by rfl) (pa_cons (pv 2) (pa_cons (pv 5) pa_nil))) (nomark _)))))) (pss_one (ps_ret pe_bl)) pss_nil)))))))))))
    (pss_one (ps_ret (pe_cmpR op_eq (pe_cl c12 hr (by decide) (by rfl) (pa_cons (pv 2) pa_nil)) (pe_callB (cr_min rfl) (by rfl) T.min (by decide +kernel) (pa_cons (pv 4) pa_nil)) (nomark _))))))), ?_⟩
  refine ⟨_, rfl, (by show 4 ≤ sizeLine; exact sz_le (by decide)), fun r hrn => ?_⟩
  have har := sq_fresh hS hrn
  refine ⟨_, rfl, r, a, ns, rfl, ⟨0, 9784, 0, upd_same, Int.le_refl _, sq_upd hS har, har⟩, fun v H' B2 hs hv sB kB => ?_⟩
  have env0 : EnvOk B2 [some (V.ref a), some (.ref r), some v, none, none, none, none, none, none, none, none] [none, none, some (dH hs), none, none, none, none, none, none, none, none] := by
    refine ⟨rfl, fun i d e => ?_⟩
    match i, e with
    | 0, e => cases e
    | 1, e => cases e
    | 2, e => cases e; exact ⟨v, rfl, kB⟩
    | 3, e => cases e
    | 4, e => cases e
    | 5, e => cases e
    | 6, e => cases e
    | 7, e => cases e
    | 8, e => cases e
    | 9, e => cases e
    | 10, e => cases e
    | n + 11, e => simp at e
  have start : AtM ⟨B2, H', B2⟩ [none, none, some (dH hs), none, none, none, none, none, none, none, none] [] [some (V.ref a), some (.ref r), some v, none, none, none, none, none, none, none, none] H' := ⟨B2, .refl sB, Same.refl _, env0, [], .nil⟩
  refine gset (C := ⟨B2, H', B2⟩) (Γ := [none, none, some (dH hs), none, none, none, none, none, none, none, none]) (M := []) start ?_
  have h4 := hv.le
  have memE : ∀ {e}, e ∈ endsS hs ↔ LH.Good hs e := fun {e} => mem_endsS hv
  have elen : (endsS hs).length ≤ 65536 := by
    unfold endsS
    rw [(List.mergeSort_perm _ _).length_eq]
    unfold LH.endsM
    rw [List.length_map]
    have a := LH.fold_len (hs := hs) (LH.things hs) [[]] hv.le
    have b : (LH.things hs).length ≤ 8 := LH.sset_len _
    have c := Nat.pow_le_pow_right (n := 4) (by decide) b
    simp only [List.length_cons, List.length_nil] at a
    unfold LH.keepersM
    omega
  refine p_seq (p_parl (em (g_call (a_cons (g_var rfl) a_nil) ⟨hs, rfl, hv, rfl⟩)) (p_seq ?_))
  refine p_for (xs := endsS hs) (enc := dH) (is := [5]) (fun i => [none, none, some (dH hs), some (dLH (endsS hs)), none, none, none, none, none, none, none]) (fun i => [(4, .l ((((endsS hs).take i).map (LH.cs hs)).map dN))]) (fun i e => [none, none, some (dH hs), some (dLH (endsS hs)), none, some (dH e), none, none, none, none, none])
    (w_list (g_var rfl)) (Sub.refl _) rfl (fun i x _ => gt_name) (by simp) ?_ ?_
  · intro Bl i e he
    have g := memE.mp (List.mem_of_getElem? he)
    have pl := LH.parts_len (hs := hs) (e := e)
    have sp := LH.sum_parts (hs := hs) (e := e)
    have cl := LH.cs_le g
    have ll := losers_len (e := e) hv
    have wo := LH.ways_one hv g
    have cE : ∀ {Γ : Gm} {R : List FW.D → FW.D → Prop} {d : FW.D}, Γ[2]? = some (some (dH hs)) → Γ[5]? = some (some (dH e)) → R [dH hs, dH e] d → EvG (tCall (SpR R) [] E0 (tCons (tVar 2) (tCons (tVar 5) tNil))) Γ d := fun h1 h2 h3 => g_call (a_cons (g_var h1) (a_cons (g_var h2) a_nil)) h3
    have rD : R_distance [dH hs, dH e] (dN (LH.losers hs e).length) := ⟨hs, e, rfl, hv, g, rfl⟩
    have rW : R_count_ways [dH hs, dH e] (dN (LH.ways hs e)) := ⟨hs, e, rfl, hv, g, rfl⟩
    refine p_seq (p_par (em (cE rfl rfl ⟨hs, e, rfl, hv, g, rfl⟩)) (em (cE rfl rfl ⟨hs, e, rfl, hv, g, rfl⟩)) (p_seq (p_app (em (g_var rfl)) ?_ ?_)))
    · rw [List.length_map, List.length_map, List.length_take]; omega
    refine p_seq (p_if (b := false) (tm ((t_or (t_test (g_op (e := dN (LH.cs hs e)) (g_cb (a_cons (g_var rfl) a_nil) (rc_len (.inr rfl))) (g_var rfl) rv_neN)) fun _ => t_test (g_op (g_cb (a_cons ((g_lc0 (xs := LH.parts hs e) (enc := dT) (f := fun S => dN S.length) (w_tup (g_var rfl)) (by omega) (is := [8]) (by decide) (fun x _ => gt_name)
      (fun x _ => (g_cb (a_cons (g_var rfl) a_nil) (rc_len (.inr rfl))).is (by rw [List.length_map]))).is (e := dL ((LH.parts hs e).map List.length)) ?_) a_nil) rc_sum) (cE rfl rfl rD) rv_neN)).is ?_)) (fun h => nomatch h) fun _ => p_next (p_seq ?_))
    · show FW.D.lst _ = FW.D.lst (List.map dN (List.map _ _))
      rw [List.map_map]; rfl
    · rw [List.length_map, pl, sp]; simp
    refine p_if (b := false) (tm ((t_test (g_op (g_call (a_cons (g_var rfl) (a_cons (g_var rfl) a_nil)) ⟨hs, e, rfl, hv, g, rfl⟩) (g_var rfl) (rv_neD (a := e) (b := e) encH))).is (by simp))) (fun h => nomatch h) fun _ => p_next (p_seq ?_)
    refine p_if (b := false) (tm ((t_test (g_op (g_cb (a_cons ((g_lc0 (xs := stL hs e) (enc := dP) (f := fun x => dN x.1) (w_tup (cE rfl rfl ⟨hs, e, rfl, hv, g, rfl⟩)) (by rw [List.length_map]; omega) (is := [9, 10]) (by decide) (fun x _ => gt_pair) (fun x _ => g_var rfl)).is (e := dL (LH.losers hs e)) ?_) a_nil) rc_tuple)
      (cE rfl rfl ⟨hs, e, rfl, hv, g, rfl⟩) (rv_neD (a := LH.losers hs e) (b := LH.losers hs e) encT))).is (by simp))) (fun h => nomatch h) fun _ => p_next (p_seq ?_)
    · show FW.D.lst _ = FW.D.lst (List.map dN _)
      rw [List.map_map]; rfl
    refine p_if (b := false) (tm ((t_test (g_op (g_var rfl) (cE rfl rfl rD) rv_b)).is (decide_eq_false (by omega)))) (fun h => nomatch h) fun _ => p_next (p_seq ?_)
    refine p_if (b := false) (tm ((t_and (b := decide ((0 : Int) < ((LH.losers hs e).length : Int)) && false) (t_test (g_op (g_var rfl) g_int rv_b)) fun hA => t_and (t_test (g_op (cE rfl rfl rD) g_int rv_b)) fun hB => ?_).is (by simp))) (fun h => nomatch h) fun _ => p_next (p_seq ?_)
    · have hA : (LH.cs hs e : Int) < 2 := of_decide_eq_true hA
      have hB : (0 : Int) < ((LH.losers hs e).length : Int) := of_decide_eq_true hB
      have hne : LH.losers hs e ≠ [] := fun z => by rw [z] at hB; simp at hB
      obtain ⟨S, hS0, hSc, hSt⟩ := LH.one_stage g (by omega) hne
      have hNE : LH.isEnd hs = false := by
        cases z : LH.isEnd hs with
        | false => rfl
        | true => exact absurd (LH.losers_of_end g z) hne
      have hm : S ∈ onesS hs := mem_onesS.mpr ⟨hSc, by rw [hSt]; exact g.isEnd, by rw [hSt, g.things]⟩
      refine (t_test (g_op (g_op (g_var rfl) g_int (rv_ixT (j := 0) (d := dT S) (by rw [List.getElem?_map, hS0]; rfl))) (g_call (a_cons (g_var rfl) a_nil) ⟨hs, rfl, hv, hNE, rfl⟩) (rv_niD (a := S) (xs := onesS hs) encT))).is ?_
      simpa using hm
    refine p_if (b := false) (tm ((t_and (b := false) (t_test (g_op (g_var rfl) (cE rfl rfl rD) rv_eqN)) fun hA => (t_test (g_op (cE rfl rfl rW) g_int rv_neI)).is ?_).is (by simp))) (fun h => nomatch h) fun _ => p_next ?_
    · have hA : LH.cs hs e = (LH.losers hs e).length := of_decide_eq_true hA
      have := wo.mpr hA
      rw [this]; rfl
    refine p_if (b := false) (tm ((t_and (b := (!decide (LH.wayM hs e = [])) && false) (t_test (g_op (cE rfl rfl rW) g_int rv_eqI)) fun hA => t_and (t_test (g_op (cE rfl rfl ⟨hs, e, rfl, hv, g, rfl⟩) (g_tup a_nil (by simp)) (rv_neD (a := LH.wayM hs e) (b := []) encT))) fun _ => (t_test (g_op (g_var rfl) (cE rfl rfl rD) rv_neN)).is ?_).is (by simp))) (fun h => nomatch h) fun _ => p_next (p_done (.keep (.keep (.keep (.keep (.keep (.drop (.drop (.drop (.keep (.keep (.keep .nil))))))))))) ?_)
    · have hA : ((LH.ways hs e : Nat) : Int) = 1 := of_decide_eq_true hA
      have := wo.mp (by omega)
      rw [this]; simp
    · rw [take_map he, List.map_append]; rfl
  · rw [take_all]
    have hne : (endsS hs).map (LH.cs hs) ≠ [] := fun z => by
      have z := List.map_eq_nil_iff.mp z
      obtain ⟨e, he⟩ := LH.good_exists hs
      have := memE.mpr he
      rw [z] at this; simp at this
    obtain ⟨m, hm, hl⟩ := least hne
    have few : LH.few hs = m := LH.few_min hv (few' := (endsS hs).map (LH.cs hs)) (fun y => by
      rw [List.mem_map]
      exact ⟨fun ⟨e, h1, h2⟩ => ⟨e, memE.mp h1, h2⟩, fun ⟨e, h1, h2⟩ => ⟨e, memE.mpr h1, h2⟩⟩) hm hl
    refine p_give (p_ret (em ((g_op (d := dN (LH.few hs)) (e := dN m) (g_call (a_cons (g_var rfl) a_nil) ⟨hs, rfl, hv, rfl⟩) (g_cb (a_cons (g_var rfl) a_nil) (rc_min hm hl)) rv_eqN).is (e := FW.D.bl true) (by rw [few]; simp))) fun v B H _ k => ?_)
    cases k
    exact q H
end
end LW

set_option Elab.async false
set_option linter.all false
set_option maxRecDepth 100000
set_option maxHeartbeats 4000000
/-! the text gathered -/
namespace LW
open PySem PySem.Spec PyProof.Rows L2 FW
def BindsOf (x : Str) (st : Stmt) (ps : List Str) : Prop := ∀ (kV doc pm : Value) (an : Option Addr) (cdv ct : Value) (us : List Value), us.length = ps.length → bindArgs (PySem.W.fnOf x x (defArgs st) (defBody st) (defScope st) .none kV doc pm an cdv ct) ⟨us, []⟩ = pure (ps.zip us)
theorem bd1 : BindsOf "is_integer" (topS 1) ["value"] := fun _ _ _ _ _ _ us hl => match us, hl with | [_], _ => rfl
theorem bd2 : BindsOf "is_in" (topS 2) ["value", "least", "most"] := fun _ _ _ _ _ _ us hl => match us, hl with | [_, _, _], _ => rfl
theorem bd3 : BindsOf "is_list" (topS 3) ["value", "least", "most"] := fun _ _ _ _ _ _ us hl => match us, hl with | [_, _, _], _ => rfl
theorem bd13 : BindsOf "is_hand" (topS 13) ["value"] := fun _ _ _ _ _ _ us hl => match us, hl with | [_], _ => rfl
theorem bd14 : BindsOf "need_hands" (topS 14) ["hands"] := fun _ _ _ _ _ _ us hl => match us, hl with | [_], _ => rfl
theorem bd15 : BindsOf "need_two" (topS 15) ["one", "other"] := fun _ _ _ _ _ _ us hl => match us, hl with | [_, _], _ => rfl
theorem bd16 : BindsOf "things_in" (topS 16) ["hands"] := fun _ _ _ _ _ _ us hl => match us, hl with | [_], _ => rfl
theorem bd17 : BindsOf "holders_in" (topS 17) ["hands", "thing"] := fun _ _ _ _ _ _ us hl => match us, hl with | [_, _], _ => rfl
theorem bd18 : BindsOf "spare_in" (topS 18) ["hands", "person"] := fun _ _ _ _ _ _ us hl => match us, hl with | [_, _], _ => rfl
theorem bd19 : BindsOf "pairs_in" (topS 19) ["hands"] := fun _ _ _ _ _ _ us hl => match us, hl with | [_], _ => rfl
theorem bd20 : BindsOf "end_in" (topS 20) ["hands"] := fun _ _ _ _ _ _ us hl => match us, hl with | [_], _ => rfl
theorem bd22 : BindsOf "has_ring" (topS 22) ["steps"] := fun _ _ _ _ _ _ us hl => match us, hl with | [_], _ => rfl
theorem bd23 : BindsOf "steps_of" (topS 23) ["hands", "keeper"] := fun _ _ _ _ _ _ us hl => match us, hl with | [_, _], _ => rfl
theorem bd24 : BindsOf "keepers_in" (topS 24) ["hands"] := fun _ _ _ _ _ _ us hl => match us, hl with | [_], _ => rfl
theorem bd25 : BindsOf "end_by" (topS 25) ["hands", "keeper"] := fun _ _ _ _ _ _ us hl => match us, hl with | [_, _], _ => rfl
theorem bd26 : BindsOf "ends_in" (topS 26) ["hands"] := fun _ _ _ _ _ _ us hl => match us, hl with | [_], _ => rfl
theorem bd27 : BindsOf "ends" (topS 27) ["hands"] := fun _ _ _ _ _ _ us hl => match us, hl with | [_], _ => rfl
theorem bd29 : BindsOf "losers_in" (topS 29) ["one", "other"] := fun _ _ _ _ _ _ us hl => match us, hl with | [_, _], _ => rfl
theorem bd30 : BindsOf "steps_in" (topS 30) ["one", "other"] := fun _ _ _ _ _ _ us hl => match us, hl with | [_, _], _ => rfl
theorem bd31 : BindsOf "fits" (topS 31) ["one", "other"] := fun _ _ _ _ _ _ us hl => match us, hl with | [_, _], _ => rfl
theorem bd32 : BindsOf "need_way" (topS 32) ["one", "other"] := fun _ _ _ _ _ _ us hl => match us, hl with | [_, _], _ => rfl
theorem bd33 : BindsOf "losers" (topS 33) ["one", "other"] := fun _ _ _ _ _ _ us hl => match us, hl with | [_, _], _ => rfl
theorem bd34 : BindsOf "distance" (topS 34) ["one", "other"] := fun _ _ _ _ _ _ us hl => match us, hl with | [_, _], _ => rfl
theorem bd35 : BindsOf "way" (topS 35) ["one", "other"] := fun _ _ _ _ _ _ us hl => match us, hl with | [_, _], _ => rfl
theorem bd36 : BindsOf "count_ways" (topS 36) ["one", "other"] := fun _ _ _ _ _ _ us hl => match us, hl with | [_, _], _ => rfl
theorem bd38 : BindsOf "stages_in" (topS 38) ["one", "other"] := fun _ _ _ _ _ _ us hl => match us, hl with | [_, _], _ => rfl
theorem bd39 : BindsOf "stages" (topS 39) ["one", "other"] := fun _ _ _ _ _ _ us hl => match us, hl with | [_, _], _ => rfl
theorem bd40 : BindsOf "count_stages" (topS 40) ["one", "other"] := fun _ _ _ _ _ _ us hl => match us, hl with | [_, _], _ => rfl
theorem bd41 : BindsOf "by_stages" (topS 41) ["one", "other"] := fun _ _ _ _ _ _ us hl => match us, hl with | [_, _], _ => rfl
theorem bd43 : BindsOf "need_people" (topS 43) ["hands", "people"] := fun _ _ _ _ _ _ us hl => match us, hl with | [_, _], _ => rfl
theorem bd44 : BindsOf "choices" (topS 44) ["many"] := fun _ _ _ _ _ _ us hl => match us, hl with | [_], _ => rfl
theorem bd47 : BindsOf "together_in" (topS 47) ["hands", "people"] := fun _ _ _ _ _ _ us hl => match us, hl with | [_, _], _ => rfl
theorem bd48 : BindsOf "safe_in" (topS 48) ["hands", "people"] := fun _ _ _ _ _ _ us hl => match us, hl with | [_, _], _ => rfl
theorem bd49 : BindsOf "one_round" (topS 49) ["hands"] := fun _ _ _ _ _ _ us hl => match us, hl with | [_], _ => rfl
theorem bd50 : BindsOf "fewest_rounds" (topS 50) ["hands"] := fun _ _ _ _ _ _ us hl => match us, hl with | [_], _ => rfl
theorem bd51 : BindsOf "rounds_by" (topS 51) ["hands", "plan"] := fun _ _ _ _ _ _ us hl => match us, hl with | [_, _], _ => rfl
theorem bd53 : BindsOf "_law_taken" (topS 53) ["_law_row", "_law_many"] := fun _ _ _ _ _ _ us hl => match us, hl with | [_, _], _ => rfl
theorem bd54 : BindsOf "_law_hands" (topS 54) ["_law_row", "_law_people", "_law_kinds"] := fun _ _ _ _ _ _ us hl => match us, hl with | [_, _, _], _ => rfl
theorem bd55 : BindsOf "law" (topS 55) ["_law_script"] := fun _ _ _ _ _ _ us hl => match us, hl with | [_], _ => rfl
theorem std_mk {K : PySem.W.Frag} {h : Heap} {mg : Str → Option Value} (X : K.In h) (G : h.Ns mainGlobals mg) {x : Str} {st : Stmt} {ps : List Str} (b : BindsOf x st ps) {f : Addr} {od an : Option Addr} {sl : Array (Option Value)} {oc kV dc pm cd ct : Value}
    (a : PySem.W.nsIn K mainGlobals x = some (some (.ref f))) (l : K.lookup f = some ⟨oc, od, .func (PySem.W.fnOf x x (defArgs st) (defBody st) (defScope st) .none kV dc pm an cd ct), sl⟩) (c : PySem.W.codeIn K cd x = true) (k : PySem.W.keepIn K (.ref f) = true) : Std K mg x st ps := by
  have F := fun_mk (st := st) l c k
  exact ⟨f, _, F, PySem.W.mg_of X G a, F.binds (ps := ps) b⟩
theorem nm_mk {K : PySem.W.Frag} {h : Heap} {mg : Str → Option Value} (X : K.In h) (G : h.Ns mainGlobals mg) {t1 t2 t3 : Tok} (a : PySem.W.nsIn K mainGlobals "MOST_PEOPLE" = some (some (.int 7 t1))) (b : PySem.W.nsIn K mainGlobals "MOST_THINGS" = some (some (.int 8 t2))) (c : PySem.W.nsIn K mainGlobals "MOST_PLAN" = some (some (.int 20 t3))) : Nm mg :=
  ⟨⟨t1, PySem.W.mg_of X G a⟩, ⟨t2, PySem.W.mg_of X G b⟩, ⟨t3, PySem.W.mg_of X G c⟩⟩
theorem bt_mk {K : PySem.W.Frag} {h : Heap} {mg : Str → Option Value} (X : K.In h) (G : h.Ns mainGlobals mg) (b0 : PySem.W.nsIn K mainGlobals "isinstance" = some none) (b1 : PySem.W.nsIn K mainGlobals "int" = some none) (b2 : PySem.W.nsIn K mainGlobals "bool" = some none) (b3 : PySem.W.nsIn K mainGlobals "tuple" = some none) (b4 : PySem.W.nsIn K mainGlobals "len" = some none) (b5 : PySem.W.nsIn K mainGlobals "all" = some none) (b6 : PySem.W.nsIn K mainGlobals "any" = some none) (b7 : PySem.W.nsIn K mainGlobals "list" = some none) (b8 : PySem.W.nsIn K mainGlobals "sorted" = some none) (b9 : PySem.W.nsIn K mainGlobals "set" = some none) (b10 : PySem.W.nsIn K mainGlobals "enumerate" = some none) (b11 : PySem.W.nsIn K mainGlobals "range" = some none) (b12 : PySem.W.nsIn K mainGlobals "max" = some none) (b13 : PySem.W.nsIn K mainGlobals "min" = some none) (b14 : PySem.W.nsIn K mainGlobals "sum" = some none) : Bt mg :=
  ⟨PySem.W.mg_none_of X G b0, PySem.W.mg_none_of X G b1, PySem.W.mg_none_of X G b2, PySem.W.mg_none_of X G b3, PySem.W.mg_none_of X G b4, PySem.W.mg_none_of X G b5, PySem.W.mg_none_of X G b6, PySem.W.mg_none_of X G b7, PySem.W.mg_none_of X G b8, PySem.W.mg_none_of X G b9, PySem.W.mg_none_of X G b10, PySem.W.mg_none_of X G b11, PySem.W.mg_none_of X G b12, PySem.W.mg_none_of X G b13, PySem.W.mg_none_of X G b14⟩
structure All (K : PySem.W.Frag) (mg : Str → Option Value) : Prop where
  s1 : Std K mg "is_integer" (topS 1) ["value"]
  s2 : Std K mg "is_in" (topS 2) ["value", "least", "most"]
  s3 : Std K mg "is_list" (topS 3) ["value", "least", "most"]
  s13 : Std K mg "is_hand" (topS 13) ["value"]
  s14 : Std K mg "need_hands" (topS 14) ["hands"]
  s15 : Std K mg "need_two" (topS 15) ["one", "other"]
  s16 : Std K mg "things_in" (topS 16) ["hands"]
  s17 : Std K mg "holders_in" (topS 17) ["hands", "thing"]
  s18 : Std K mg "spare_in" (topS 18) ["hands", "person"]
  s19 : Std K mg "pairs_in" (topS 19) ["hands"]
  s20 : Std K mg "end_in" (topS 20) ["hands"]
  s22 : Std K mg "has_ring" (topS 22) ["steps"]
  s23 : Std K mg "steps_of" (topS 23) ["hands", "keeper"]
  s24 : Std K mg "keepers_in" (topS 24) ["hands"]
  s25 : Std K mg "end_by" (topS 25) ["hands", "keeper"]
  s26 : Std K mg "ends_in" (topS 26) ["hands"]
  s27 : Std K mg "ends" (topS 27) ["hands"]
  s29 : Std K mg "losers_in" (topS 29) ["one", "other"]
  s30 : Std K mg "steps_in" (topS 30) ["one", "other"]
  s31 : Std K mg "fits" (topS 31) ["one", "other"]
  s32 : Std K mg "need_way" (topS 32) ["one", "other"]
  s33 : Std K mg "losers" (topS 33) ["one", "other"]
  s34 : Std K mg "distance" (topS 34) ["one", "other"]
  s35 : Std K mg "way" (topS 35) ["one", "other"]
  s36 : Std K mg "count_ways" (topS 36) ["one", "other"]
  s38 : Std K mg "stages_in" (topS 38) ["one", "other"]
  s39 : Std K mg "stages" (topS 39) ["one", "other"]
  s40 : Std K mg "count_stages" (topS 40) ["one", "other"]
  s41 : Std K mg "by_stages" (topS 41) ["one", "other"]
  s43 : Std K mg "need_people" (topS 43) ["hands", "people"]
  s44 : Std K mg "choices" (topS 44) ["many"]
  s47 : Std K mg "together_in" (topS 47) ["hands", "people"]
  s48 : Std K mg "safe_in" (topS 48) ["hands", "people"]
  s49 : Std K mg "one_round" (topS 49) ["hands"]
  s50 : Std K mg "fewest_rounds" (topS 50) ["hands"]
  s51 : Std K mg "rounds_by" (topS 51) ["hands", "plan"]
  s53 : Std K mg "_law_taken" (topS 53) ["_law_row", "_law_many"]
  s54 : Std K mg "_law_hands" (topS 54) ["_law_row", "_law_people", "_law_kinds"]
  bt : Bt mg
  nm : Nm mg
theorem law_all {P : Program} {w : World} {K : PySem.W.Frag} {mg : Str → Option Value} {base : Heap} (Z : All K mg) {f0 : Addr} {fd0 : FuncData} (F : Fun K "law" "law" (topS 55) f0 fd0) : FnOk P w K mg base CX0 8 f0 fd0 ["_law_script"] (spLaw K) := by
  have T := Z.bt
  have N := Z.nm
  have d1 : Cl P w K mg base 1 "is_integer" R_is_integer := cl_is_integer T Z.s1
  have d2 : Cl P w K mg base 2 "is_in" R_is_in := cl_is_in T Z.s2 d1
  have d3 : Cl P w K mg base 1 "is_list" R_is_list := cl_is_list T Z.s3
  have d13 : Cl P w K mg base 3 "is_hand" R_is_hand := cl_is_hand T N Z.s13 d3 d2
  have d14 : Cl P w K mg base 4 "need_hands" R_need_hands := cl_need_hands T N Z.s14 d3 d13
  have d15 : Cl P w K mg base 5 "need_two" R_need_two := cl_need_two T Z.s15 d14
  have d16 : Cl P w K mg base 1 "things_in" R_things := cl_things T Z.s16
  have d17 : Cl P w K mg base 1 "holders_in" R_holders := cl_holders T Z.s17
  have d18 : Cl P w K mg base 2 "spare_in" R_spare := cl_spare T Z.s18 d17
  have d19 : Cl P w K mg base 1 "pairs_in" R_pairs := cl_pairs T Z.s19
  have d20 : Cl P w K mg base 2 "end_in" R_end_in := cl_end_in Z.s20 d19
  have d22 : Cl P w K mg base 1 "has_ring" R_has_ring := cl_has_ring T Z.s22
  have d23 : Cl P w K mg base 2 "steps_of" R_steps_of := cl_steps_of T Z.s23 d17
  have d24 : Cl P w K mg base 3 "keepers_in" R_keepers := cl_keepers T Z.s24 d17 d16 d22 d23
  have d25 : Cl P w K mg base 1 "end_by" R_end_by := cl_end_by T Z.s25
  have d26 : Cl P w K mg base 4 "ends_in" R_ends := cl_ends_in T Z.s26 d24 d25
  have d27 : Cl P w K mg base 5 "ends" R_ends := cl_ends Z.s27 d14 d26
  have d29 : Cl P w K mg base 1 "losers_in" R_losers_in := cl_losers_in T Z.s29
  have d30 : Cl P w K mg base 2 "steps_in" R_steps_in := cl_steps_in T Z.s30 d29 d17
  have d31 : Cl P w K mg base 3 "fits" R_fits := cl_fits T Z.s31 d16 d29 d17 d22 d30
  have d32 : Cl P w K mg base 6 "need_way" R_way0 := cl_need_way Z.s32 d15 d31
  have d33 : Cl P w K mg base 7 "losers" R_losers := cl_losers T Z.s33 d32 d29
  have d34 : Cl P w K mg base 7 "distance" R_distance := cl_distance T Z.s34 d32 d29
  have d35 : Cl P w K mg base 7 "way" R_way := cl_way T Z.s35 d32 d29 d30
  have d36 : Cl P w K mg base 7 "count_ways" R_count_ways := cl_count_ways T Z.s36 d32 d29 d30
  have d38 : Cl P w K mg base 3 "stages_in" R_stages_in := cl_stages_in T Z.s38 d29 d30
  have d39 : Cl P w K mg base 7 "stages" R_stages := cl_stages T Z.s39 d32 d38
  have d40 : Cl P w K mg base 7 "count_stages" R_count_stages := cl_count_stages T Z.s40 d32 d38
  have d41 : Cl P w K mg base 7 "by_stages" R_by_stages := cl_by_stages T Z.s41 d32 d38
  have d43 : Cl P w K mg base 3 "need_people" R_need_people := cl_need_people T Z.s43 d3 d2
  have d44 : Cl P w K mg base 1 "choices" R_choices := cl_choices T Z.s44
  have d47 : Cl P w K mg base 3 "together_in" R_together := cl_together T Z.s47 d18
  have d48 : Cl P w K mg base 4 "safe_in" R_safe := cl_safe Z.s48 d16 d47
  have d49 : Cl P w K mg base 5 "one_round" R_one_round := cl_one_round T Z.s49 d14 d44 d47 d20 d16
  have d50 : Cl P w K mg base 5 "fewest_rounds" R_fewest := cl_fewest T Z.s50 d14 d44 d47 d20 d16
  have d51 : Cl P w K mg base 5 "rounds_by" R_rounds_by := cl_rounds_by N Z.s51 d14 d3 d43 d48 d47
  have d53 : ClS P w K mg base 1 "_law_taken" (spTaken K) := cl_taken T Z.s53
  have d54 : ClS P w K mg base 2 "_law_hands" (spHands K) := cl_law_hands T Z.s54 d53
  exact ok_law T F d54 d27 d41 d40 d34 d51 d39 d33 d49 d36 d35 d50
theorem all_mk {l : PySem.W.OpenLaw} {w : World} {K : PySem.W.Frag} {h : Heap} {mg : Str → Option Value} {fa : Addr} (X : K.In h) (G : h.Ns mainGlobals mg) (hfa : mg "law" = some (.ref fa)) (Z : All K mg)
    {f : Addr} {od an : Option Addr} {sl : Array (Option Value)} {oc kV dc pm cd ct : Value}
    (a : PySem.W.nsIn K mainGlobals "law" = some (some (.ref f))) (ll : K.lookup f = some ⟨oc, od, .func (PySem.W.fnOf "law" "law" (defArgs (topS 55)) (defBody (topS 55)) (defScope (topS 55)) .none kV dc pm an cd ct), sl⟩) (c : PySem.W.codeIn K cd "law" = true) (k : PySem.W.keepIn K (.ref f) = true) :
    ∃ fd : FuncData, (∀ (s : Shared) (v : Value), BindsTo s fd ⟨[v], []⟩ [("_law_script", v)]) ∧ ∀ base : Heap, K.In base → base.Ns mainGlobals mg → FnOk l.prog w K mg base CX0 8 fa fd ["_law_script"] (spLaw K) := by
  have e := hfa.symm.trans (PySem.W.mg_of X G a)
  cases e
  exact ⟨PySem.W.fnOf "law" "law" (defArgs (topS 55)) (defBody (topS 55)) (defScope (topS 55)) .none kV dc pm an cd ct, fun s v => .of_eq rfl, fun base _ _ => law_all Z (fun_mk (st := topS 55) ll c k)⟩
theorem walk {l : PySem.W.OpenLaw} {q : Program} {loose : List Str} {XP : (Str → Option Value) → Heap → Prop} {YP : World → Heap → Prop} {d : DefRec} {K : Params → PySem.W.Frag} (hn : l.most = some 63) (hdf : d.params.defaults = [])
    (hY : ∀ (w : World) (h : Heap), YP w h → (K w.params).In h)
    (F : ∀ (w : World) (mg : Str → Option Value) (fa : Addr) (h : Heap), (K w.params).In h → h.Ns mainGlobals mg → mg d.name = some (.ref fa) →
      ∃ fd : FuncData, (∀ (s : Shared) (u : Value), BindsTo s fd ⟨[u], []⟩ [("_law_script", u)]) ∧ ∀ base : Heap, (K w.params).In base → base.Ns mainGlobals mg → FnOk l.prog w (K w.params) mg base CX0 8 fa fd ["_law_script"] (spLaw (K w.params))) :
    PySem.W.WalkO q loose XP YP l.row.toRowW d [] (fun f vs => PySem.call f vs) :=
  L2.walk_of (n := 63) (k := 8) (x := "_law_script") (CX := fun _ => CX0) (sp := fun w => spLaw (K w.params)) hn (by decide) hdf ⟨rfl, by decide, by decide⟩ hY F (fun _ _ a ns hl _ hS => ⟨a, ns, rfl, hS, fun _ => rfl⟩) fun _ _ _ _ _ z => z
end LW

set_option Elab.async false
set_option linter.all false
open PySem PySem.W PyProof.Rows in
set_option maxRecDepth 100000 in
set_option maxHeartbeats 0 in
theorem PySem.Challenge.cw_lastholders_k84_whole_stages_and_rounds_holds : PySem.Challenge.rw_lastholders_k84_whole_stages_and_rounds.Holds := by
  w_on; o_law; k_head; (case hw => w_witness2)
  k_fill
  refine LW.walk (l := PySem.Challenge.rw_lastholders_k84_whole_stages_and_rounds) rfl rfl (fun w h Y => PySem.W.kIn_of Y) ?F
  case F =>
    intro w mg fa h KX G hmg
    refine' LW.all_mk KX G hmg ⟨?s1, ?s2, ?s3, ?s13, ?s14, ?s15, ?s16, ?s17, ?s18, ?s19, ?s20, ?s22, ?s23, ?s24, ?s25, ?s26, ?s27, ?s29, ?s30, ?s31, ?s32, ?s33, ?s34, ?s35, ?s36, ?s38, ?s39, ?s40, ?s41, ?s43, ?s44, ?s47, ?s48, ?s49, ?s50, ?s51, ?s53, ?s54, ?bt, ?nm⟩ ?la ?ll ?lc ?lk
    (case la => k_is)
    (case ll => k_is)
    (case lc => k_is)
    (case lk => k_is)
    (case s1 =>
      refine' LW.std_mk KX G LW.bd1 ?a1 ?l1 ?c1 ?k1
      (case a1 => k_is)
      (case l1 => k_is)
      (case c1 => k_is)
      (case k1 => k_is))
    (case s2 =>
      refine' LW.std_mk KX G LW.bd2 ?a2 ?l2 ?c2 ?k2
      (case a2 => k_is)
      (case l2 => k_is)
      (case c2 => k_is)
      (case k2 => k_is))
    (case s3 =>
      refine' LW.std_mk KX G LW.bd3 ?a3 ?l3 ?c3 ?k3
      (case a3 => k_is)
      (case l3 => k_is)
      (case c3 => k_is)
      (case k3 => k_is))
    (case s13 =>
      refine' LW.std_mk KX G LW.bd13 ?a13 ?l13 ?c13 ?k13
      (case a13 => k_is)
      (case l13 => k_is)
      (case c13 => k_is)
      (case k13 => k_is))
    (case s14 =>
      refine' LW.std_mk KX G LW.bd14 ?a14 ?l14 ?c14 ?k14
      (case a14 => k_is)
      (case l14 => k_is)
      (case c14 => k_is)
      (case k14 => k_is))
    (case s15 =>
      refine' LW.std_mk KX G LW.bd15 ?a15 ?l15 ?c15 ?k15
      (case a15 => k_is)
      (case l15 => k_is)
      (case c15 => k_is)
      (case k15 => k_is))
    (case s16 =>
      refine' LW.std_mk KX G LW.bd16 ?a16 ?l16 ?c16 ?k16
      (case a16 => k_is)
      (case l16 => k_is)
      (case c16 => k_is)
      (case k16 => k_is))
    (case s17 =>
      refine' LW.std_mk KX G LW.bd17 ?a17 ?l17 ?c17 ?k17
      (case a17 => k_is)
      (case l17 => k_is)
      (case c17 => k_is)
      (case k17 => k_is))
    (case s18 =>
      refine' LW.std_mk KX G LW.bd18 ?a18 ?l18 ?c18 ?k18
      (case a18 => k_is)
      (case l18 => k_is)
      (case c18 => k_is)
      (case k18 => k_is))
    (case s19 =>
      refine' LW.std_mk KX G LW.bd19 ?a19 ?l19 ?c19 ?k19
      (case a19 => k_is)
      (case l19 => k_is)
      (case c19 => k_is)
      (case k19 => k_is))
    (case s20 =>
      refine' LW.std_mk KX G LW.bd20 ?a20 ?l20 ?c20 ?k20
      (case a20 => k_is)
      (case l20 => k_is)
      (case c20 => k_is)
      (case k20 => k_is))
    (case s22 =>
      refine' LW.std_mk KX G LW.bd22 ?a22 ?l22 ?c22 ?k22
      (case a22 => k_is)
      (case l22 => k_is)
      (case c22 => k_is)
      (case k22 => k_is))
    (case s23 =>
      refine' LW.std_mk KX G LW.bd23 ?a23 ?l23 ?c23 ?k23
      (case a23 => k_is)
      (case l23 => k_is)
      (case c23 => k_is)
      (case k23 => k_is))
    (case s24 =>
      refine' LW.std_mk KX G LW.bd24 ?a24 ?l24 ?c24 ?k24
      (case a24 => k_is)
      (case l24 => k_is)
      (case c24 => k_is)
      (case k24 => k_is))
    (case s25 =>
      refine' LW.std_mk KX G LW.bd25 ?a25 ?l25 ?c25 ?k25
      (case a25 => k_is)
      (case l25 => k_is)
      (case c25 => k_is)
      (case k25 => k_is))
    (case s26 =>
      refine' LW.std_mk KX G LW.bd26 ?a26 ?l26 ?c26 ?k26
      (case a26 => k_is)
      (case l26 => k_is)
      (case c26 => k_is)
      (case k26 => k_is))
    (case s27 =>
      refine' LW.std_mk KX G LW.bd27 ?a27 ?l27 ?c27 ?k27
      (case a27 => k_is)
      (case l27 => k_is)
      (case c27 => k_is)
      (case k27 => k_is))
    (case s29 =>
      refine' LW.std_mk KX G LW.bd29 ?a29 ?l29 ?c29 ?k29
      (case a29 => k_is)
      (case l29 => k_is)
      (case c29 => k_is)
      (case k29 => k_is))
    (case s30 =>
      refine' LW.std_mk KX G LW.bd30 ?a30 ?l30 ?c30 ?k30
      (case a30 => k_is)
      (case l30 => k_is)
      (case c30 => k_is)
      (case k30 => k_is))
    (case s31 =>
      refine' LW.std_mk KX G LW.bd31 ?a31 ?l31 ?c31 ?k31
      (case a31 => k_is)
      (case l31 => k_is)
      (case c31 => k_is)
      (case k31 => k_is))
    (case s32 =>
      refine' LW.std_mk KX G LW.bd32 ?a32 ?l32 ?c32 ?k32
      (case a32 => k_is)
      (case l32 => k_is)
      (case c32 => k_is)
      (case k32 => k_is))
    (case s33 =>
      refine' LW.std_mk KX G LW.bd33 ?a33 ?l33 ?c33 ?k33
      (case a33 => k_is)
      (case l33 => k_is)
      (case c33 => k_is)
      (case k33 => k_is))
    (case s34 =>
      refine' LW.std_mk KX G LW.bd34 ?a34 ?l34 ?c34 ?k34
      (case a34 => k_is)
      (case l34 => k_is)
      (case c34 => k_is)
      (case k34 => k_is))
    (case s35 =>
      refine' LW.std_mk KX G LW.bd35 ?a35 ?l35 ?c35 ?k35
      (case a35 => k_is)
      (case l35 => k_is)
      (case c35 => k_is)
      (case k35 => k_is))
    (case s36 =>
      refine' LW.std_mk KX G LW.bd36 ?a36 ?l36 ?c36 ?k36
      (case a36 => k_is)
      (case l36 => k_is)
      (case c36 => k_is)
      (case k36 => k_is))
    (case s38 =>
      refine' LW.std_mk KX G LW.bd38 ?a38 ?l38 ?c38 ?k38
      (case a38 => k_is)
      (case l38 => k_is)
      (case c38 => k_is)
      (case k38 => k_is))
    (case s39 =>
      refine' LW.std_mk KX G LW.bd39 ?a39 ?l39 ?c39 ?k39
      (case a39 => k_is)
      (case l39 => k_is)
      (case c39 => k_is)
      (case k39 => k_is))
    (case s40 =>
      refine' LW.std_mk KX G LW.bd40 ?a40 ?l40 ?c40 ?k40
      (case a40 => k_is)
      (case l40 => k_is)
      (case c40 => k_is)
      (case k40 => k_is))
    (case s41 =>
      refine' LW.std_mk KX G LW.bd41 ?a41 ?l41 ?c41 ?k41
      (case a41 => k_is)
      (case l41 => k_is)
      (case c41 => k_is)
      (case k41 => k_is))
    (case s43 =>
      refine' LW.std_mk KX G LW.bd43 ?a43 ?l43 ?c43 ?k43
      (case a43 => k_is)
      (case l43 => k_is)
      (case c43 => k_is)
      (case k43 => k_is))
    (case s44 =>
      refine' LW.std_mk KX G LW.bd44 ?a44 ?l44 ?c44 ?k44
      (case a44 => k_is)
      (case l44 => k_is)
      (case c44 => k_is)
      (case k44 => k_is))
    (case s47 =>
      refine' LW.std_mk KX G LW.bd47 ?a47 ?l47 ?c47 ?k47
      (case a47 => k_is)
      (case l47 => k_is)
      (case c47 => k_is)
      (case k47 => k_is))
    (case s48 =>
      refine' LW.std_mk KX G LW.bd48 ?a48 ?l48 ?c48 ?k48
      (case a48 => k_is)
      (case l48 => k_is)
      (case c48 => k_is)
      (case k48 => k_is))
    (case s49 =>
      refine' LW.std_mk KX G LW.bd49 ?a49 ?l49 ?c49 ?k49
      (case a49 => k_is)
      (case l49 => k_is)
      (case c49 => k_is)
      (case k49 => k_is))
    (case s50 =>
      refine' LW.std_mk KX G LW.bd50 ?a50 ?l50 ?c50 ?k50
      (case a50 => k_is)
      (case l50 => k_is)
      (case c50 => k_is)
      (case k50 => k_is))
    (case s51 =>
      refine' LW.std_mk KX G LW.bd51 ?a51 ?l51 ?c51 ?k51
      (case a51 => k_is)
      (case l51 => k_is)
      (case c51 => k_is)
      (case k51 => k_is))
    (case s53 =>
      refine' LW.std_mk KX G LW.bd53 ?a53 ?l53 ?c53 ?k53
      (case a53 => k_is)
      (case l53 => k_is)
      (case c53 => k_is)
      (case k53 => k_is))
    (case s54 =>
      refine' LW.std_mk KX G LW.bd54 ?a54 ?l54 ?c54 ?k54
      (case a54 => k_is)
      (case l54 => k_is)
      (case c54 => k_is)
      (case k54 => k_is))
    (case bt =>
      refine' LW.bt_mk KX G ?b0 ?b1 ?b2 ?b3 ?b4 ?b5 ?b6 ?b7 ?b8 ?b9 ?b10 ?b11 ?b12 ?b13 ?b14
      (case b0 => k_is)
      (case b1 => k_is)
      (case b2 => k_is)
      (case b3 => k_is)
      (case b4 => k_is)
      (case b5 => k_is)
      (case b6 => k_is)
      (case b7 => k_is)
      (case b8 => k_is)
      (case b9 => k_is)
      (case b10 => k_is)
      (case b11 => k_is)
      (case b12 => k_is)
      (case b13 => k_is)
      (case b14 => k_is))
    (case nm =>
      refine' LW.nm_mk KX G ?na ?nb ?nc
      (case na => k_is)
      (case nb => k_is)
      (case nc => k_is))
