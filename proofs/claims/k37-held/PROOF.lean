import PyProof.Rows.All
import Wide.All
import OpenK.AllK
import Wide.FinOn
import HandS.ForMost
import HandS.Evl
import HandS.Walk
import HandS.Style
import HandS.TupLe
import HandS.TupAny
import HandS.TupSets
import HandS.SetFor
import HandS.SortInts
import HandS.IsInst
import HandS.Deep
import HandS.Flow
import HandS.Defaults
import HandS.Conv
import HandS.NamedTupSort
import KE.GoesMore
import KE.GoesEnum
import KE.KSortTup
import KE.LtData
import KE.DataCmp
import KE.DataMinMax
import HandS.Strs
import KE.KDictDisplayH
import KE.KDictSum
import KE.KDictCopyH
import KE.KDictWalk
import HandS.SortOrd
import HandS.Dict
import HandS.DictTup
import HandS.Words
import HandS.Steps
import KE.KStateDown
import Lean
import HandS.Base
import HandS.Call
import HandS.Ends
import HandS.More
import HandS.WordsExc
import HandS.Head0
import HandS.Head1
import HandS.Head2
import HandS.HeadEnd
import HandS.HeadHook1
import HandS.HeadHook2
import PySem.Challenge.RW_latchdoors_k37_whole_held_doors
set_option Elab.async false
set_option linter.all false
set_option maxRecDepth 100000
/-! Latchdoors, law k37: the mirror (plain lists of ints) and the mathematics. No program in sight. -/
namespace Ld
abbrev IL := List Int
abbrev Arr := List (Int × Int)

/-! ### ascending lists -/
def rng (n : Nat) : IL := (List.range n).map fun (k : Nat) => (k : Int)
def Asc (l : IL) : Prop := l.Pairwise (· < ·)
theorem mem_rng {n : Nat} {x : Int} : x ∈ rng n ↔ 0 ≤ x ∧ x < n := by
  unfold rng
  rw [List.mem_map]
  constructor
  · rintro ⟨k, hk, rfl⟩
    have := List.mem_range.mp hk
    omega
  · rintro ⟨h0, h1⟩
    exact ⟨x.toNat, List.mem_range.mpr (by omega), by omega⟩
theorem asc_rng (n : Nat) : Asc (rng n) := by
  unfold Asc rng
  rw [List.pairwise_map]
  exact List.pairwise_lt_range.imp fun h => by omega
theorem Asc.nodup {l : IL} (h : Asc l) : l.Nodup := List.Pairwise.imp (fun h => Int.ne_of_lt h) h
theorem asc_ext {l m : IL} (hl : Asc l) (hm : Asc m) (h : ∀ x, x ∈ l ↔ x ∈ m) : l = m :=
  List.Perm.eq_of_pairwise (le := fun a b : Int => a < b) (fun a b _ _ h1 h2 => absurd h1 (by omega)) hl hm ((List.perm_ext_iff_of_nodup hl.nodup hm.nodup).mpr h)
theorem Asc.filter {l : IL} (h : Asc l) (p : Int → Bool) : Asc (l.filter p) := List.Pairwise.filter p h
theorem Asc.sub {l m : IL} (h : Asc m) (s : l.Sublist m) : Asc l := List.Pairwise.sublist s h
theorem asc_nil : Asc [] := List.Pairwise.nil
theorem asc_of {l : IL} (h : l.Pairwise (· ≤ ·)) (n : l.Nodup) : Asc l := by
  have := List.Pairwise.and h n
  exact this.imp fun {a b} h => by
    obtain ⟨h1, h2⟩ := h
    have h2 : a ≠ b := h2
    omega
/-- a part of an ascending list, ascending, is a sublist -/
theorem asc_sublist {l m : IL} (hl : Asc l) (hm : Asc m) (h : ∀ x ∈ l, x ∈ m) : l.Sublist m := by
  have e : l = m.filter fun x => decide (x ∈ l) := asc_ext hl (hm.filter _) fun x => by
    rw [List.mem_filter, decide_eq_true_eq]
    exact ⟨fun hx => ⟨h x hx, hx⟩, fun hx => hx.2⟩
  rw [e]
  exact List.filter_sublist

/-! ### standings of n doors -/
structure Vd (n : Nat) (s : IL) : Prop where
  asc : Asc s
  bd : ∀ x ∈ s, 0 ≤ x ∧ x < n
/-- all sets of some doors, as the programs build them -/
def subs (ds : IL) : List IL := ds.foldl (fun f d => f ++ f.map fun one => one ++ [d]) [[]]
theorem subs_step (ds : IL) (d : Int) : subs (ds ++ [d]) = subs ds ++ (subs ds).map fun one => one ++ [d] := by
  unfold subs
  rw [List.foldl_append] <;> rfl
theorem subs_len : ∀ ds : IL, (subs ds).length = 2 ^ ds.length := by
  intro ds
  have key : ∀ (m : Nat) (ds : IL), ds.length = m → (subs ds).length = 2 ^ m := by
    intro m
    induction m with
    | zero =>
      intro ds h
      rw [List.length_eq_zero_iff.mp h] <;> rfl
    | succ m ih =>
      intro ds h
      have hne : ds ≠ [] := by
        intro e
        rw [e] at h
        simp at h
      have e := List.dropLast_concat_getLast hne
      have hl : ds.dropLast.length = m := by
        rw [List.length_dropLast]
        omega
      rw [← e, subs_step, List.length_append, List.length_map, ih _ hl, Nat.pow_succ]
      omega
  exact key _ ds rfl
theorem sublist_snoc {s ds : IL} {d : Int} : s.Sublist (ds ++ [d]) ↔ s.Sublist ds ∨ ∃ r, r.Sublist ds ∧ s = r ++ [d] := by
  rw [List.sublist_append_iff]
  constructor
  · rintro ⟨l1, l2, rfl, h1, h2⟩
    rcases List.sublist_cons_iff.mp h2 with h | ⟨r, rfl, h⟩
    · rw [List.sublist_nil.mp h, List.append_nil]
      exact .inl h1
    · rw [List.sublist_nil.mp h]
      exact .inr ⟨l1, h1, rfl⟩
  · rintro (h | ⟨r, h, rfl⟩)
    · exact ⟨s, [], (List.append_nil s).symm, h, List.nil_sublist _⟩
    · exact ⟨r, [d], rfl, h, List.Sublist.refl _⟩
theorem snoc_ind {P : IL → Prop} (h0 : P []) (h1 : ∀ l d, P l → P (l ++ [d])) : ∀ l, P l := by
  intro l
  have key : ∀ m : Nat, ∀ l : IL, l.length = m → P l := by
    intro m
    induction m with
    | zero =>
      intro l h
      rw [List.length_eq_zero_iff.mp h]
      exact h0
    | succ m ih =>
      intro l h
      have hne : l ≠ [] := by
        intro e
        rw [e] at h
        simp at h
      rw [← List.dropLast_concat_getLast hne]
      exact h1 _ _ (ih _ (by rw [List.length_dropLast]; omega))
  exact key _ l rfl
theorem mem_subs : ∀ (ds s : IL), s ∈ subs ds ↔ s.Sublist ds := by
  refine snoc_ind (fun s => ?_) fun ds d ih s => ?_
  · show s ∈ [[]] ↔ _
    rw [List.mem_singleton, List.sublist_nil]
  · rw [subs_step, List.mem_append, ih s, sublist_snoc, List.mem_map]
    constructor
    · rintro (h | ⟨r, h, rfl⟩)
      · exact .inl h
      · exact .inr ⟨r, (ih r).mp h, rfl⟩
    · rintro (h | ⟨r, h, rfl⟩)
      · exact .inl h
      · exact .inr ⟨r, (ih r).mpr h, rfl⟩
theorem subs_nodup : ∀ ds : IL, ds.Nodup → (subs ds).Nodup := by
  refine snoc_ind (fun _ => ?_) fun ds d ih h => ?_
  · exact List.pairwise_singleton _ _
  · have hd := List.nodup_append.mp h
    have hn : d ∉ ds := fun hm => hd.2.2 d hm d (by simp) rfl
    rw [subs_step]
    refine List.nodup_append.mpr ⟨ih hd.1, ?_, ?_⟩
    · exact List.pairwise_map.mpr ((ih hd.1).imp fun {a b} hab e => hab (List.append_cancel_right e))
    · rintro a ha b hb e
      obtain ⟨r, hr, rfl⟩ := List.mem_map.mp hb
      subst e
      exact hn (((mem_subs ds _).mp ha).subset (by simp))
theorem Vd.in_subs {n : Nat} {s : IL} (h : Vd n s) : s ∈ subs (rng n) :=
  (mem_subs _ _).mpr (asc_sublist h.asc (asc_rng n) fun x hx => mem_rng.mpr (h.bd x hx))
theorem rng_len (n : Nat) : (rng n).length = n := by
  unfold rng
  rw [List.length_map, List.length_range]
theorem vd_len {n : Nat} {S : List IL} (hn : S.Nodup) (h : ∀ s ∈ S, Vd n s) : S.length ≤ 2 ^ n := by
  have := hn.length_le_of_subset (l₂ := subs (rng n)) fun s hs => (h s hs).in_subs
  rw [subs_len, rng_len] at this
  exact this
theorem pow6 {n : Nat} (h : n ≤ 6) : 2 ^ n ≤ 64 := Nat.pow_le_pow_right (by decide) h
theorem Vd.len {n : Nat} {s : IL} (h : Vd n s) : s.length ≤ n := by
  have := h.asc.nodup.length_le_of_subset (l₂ := rng n) fun x hx => mem_rng.mpr (h.bd x hx)
  rw [rng_len] at this
  exact this
theorem Vd.filter {n : Nat} {s : IL} (h : Vd n s) (p : Int → Bool) : Vd n (s.filter p) := ⟨h.asc.filter p, fun x hx => h.bd x (List.mem_filter.mp hx).1⟩
theorem vd_rng (n : Nat) : Vd n (rng n) := ⟨asc_rng n, fun _ hx => mem_rng.mp hx⟩
theorem vd_nil (n : Nat) : Vd n [] := ⟨asc_nil, fun _ h => absurd h (by simp)⟩

/-! ### rings -/
/-- the doors of a set with an arrow to one of the set -/
def outs (E : Arr) (left : IL) (k : Int) : IL := (E.filter fun p => decide (p.1 = k) && decide (p.2 ∈ left)).map (·.2)
def peel (E : Arr) (left : IL) : IL := left.filter fun k => !decide (outs E left k = [])
theorem outs_ne {E : Arr} {left : IL} {k : Int} : outs E left k ≠ [] ↔ ∃ z ∈ left, (k, z) ∈ E := by
  unfold outs
  rw [ne_eq, List.map_eq_nil_iff, List.filter_eq_nil_iff]
  constructor
  · intro h
    have h' := Classical.not_forall.mp h
    obtain ⟨p, hp⟩ := h'
    have hp := Classical.not_imp.mp hp
    obtain ⟨hm, hc⟩ := hp
    have hc : (decide (p.1 = k) && decide (p.2 ∈ left)) = true := by
      cases q : (decide (p.1 = k) && decide (p.2 ∈ left)) with
      | true => rfl
      | false => exact absurd (by rw [q]; exact Bool.false_ne_true) hc
    rw [Bool.and_eq_true, decide_eq_true_eq, decide_eq_true_eq] at hc
    exact ⟨p.2, hc.2, by rw [← hc.1]; exact hm⟩
  · rintro ⟨z, hz, he⟩ h
    exact h (k, z) he (by simp [hz])
theorem mem_peel {E : Arr} {left : IL} {k : Int} : k ∈ peel E left ↔ k ∈ left ∧ ∃ z ∈ left, (k, z) ∈ E := by
  unfold peel
  rw [List.mem_filter, ← outs_ne]
  simp
theorem peel_le (E : Arr) (l : IL) : (peel E l).length ≤ l.length := List.length_filter_le _ _
theorem peel_sub (E : Arr) (l : IL) : (peel E l).Sublist l := List.filter_sublist
theorem peel_fix {E : Arr} {l : IL} (h : (peel E l).length = l.length) : peel E l = l := (peel_sub E l).eq_of_length h
def ringless (E : Arr) (l : IL) : Bool :=
  if l = [] then true else if _h : (peel E l).length = l.length then false else ringless E (peel E l)
termination_by l.length
decreasing_by
  have := peel_le E l
  omega
/-- no core: each non-empty set within X has a door without an arrow into the set -/
def Acyc (E : Arr) (X : Int → Prop) : Prop := ∀ Y : Int → Prop, (∃ y, Y y) → (∀ y, Y y → X y) → ∃ y, Y y ∧ ∀ z, Y z → (y, z) ∉ E
theorem Acyc.mono {E : Arr} {X X' : Int → Prop} (h : Acyc E X) (hs : ∀ x, X' x → X x) : Acyc E X' := fun Y hy hY => h Y hy fun y q => hs y (hY y q)
theorem ringless_iff {E : Arr} : ∀ (m : Nat) (l : IL), l.length ≤ m → (ringless E l = true ↔ Acyc E (· ∈ l)) := by
  intro m
  induction m with
  | zero =>
    intro l hl
    have : l = [] := List.length_eq_zero_iff.mp (by omega)
    subst this
    refine ⟨fun _ Y ⟨y, hy⟩ hY => absurd (hY y hy) (by simp), fun _ => ?_⟩
    rw [ringless, if_pos rfl]
  | succ m ih =>
    intro l hl
    rw [ringless]
    by_cases he : l = []
    · rw [if_pos he]
      subst he
      exact ⟨fun _ Y ⟨y, hy⟩ hY => absurd (hY y hy) (by simp), fun _ => rfl⟩
    · rw [if_neg he]
      by_cases hp : (peel E l).length = l.length
      · rw [dif_pos hp]
        have e := peel_fix hp
        refine ⟨fun h => absurd h Bool.false_ne_true, fun h => ?_⟩
        obtain ⟨y, hy, hz⟩ := h (· ∈ l) (List.exists_mem_of_ne_nil l he) fun y q => q
        have hy' : y ∈ peel E l := by
          rw [e]
          exact hy
        obtain ⟨_, z, hzl, hza⟩ := mem_peel.mp hy'
        exact absurd hza (hz z hzl)
      · rw [dif_neg hp, ih (peel E l) (by have := peel_le E l; omega)]
        constructor
        · intro h Y hne hY
          by_cases hq : ∀ y, Y y → y ∈ peel E l
          · exact h Y hne hq
          · obtain ⟨y, hy⟩ := Classical.not_forall.mp hq
            obtain ⟨hy, hn⟩ := Classical.not_imp.mp hy
            exact ⟨y, hy, fun z hz ha => hn (mem_peel.mpr ⟨hY y hy, z, hY z hz, ha⟩)⟩
        · exact fun h => h.mono fun x hx => (mem_peel.mp hx).1
theorem ringless_acyc {E : Arr} {l : IL} : ringless E l = true ↔ Acyc E (· ∈ l) := ringless_iff l.length l (Nat.le_refl _)
theorem ringless_congr {E : Arr} {l m : IL} (h : ∀ x, x ∈ l ↔ x ∈ m) : ringless E l = ringless E m := by
  have : (fun x => x ∈ l) = (fun x => x ∈ m) := funext fun x => propext (h x)
  rw [Bool.eq_iff_iff, ringless_acyc, ringless_acyc, this]
/-- the law's way: as many turns as there are doors -/
def turns (E : Arr) : Nat → IL → IL
  | 0, l => l
  | m + 1, l => turns E m (peel E l)
theorem turns_nil (E : Arr) : ∀ m, turns E m [] = []
  | 0 => rfl
  | m + 1 => turns_nil E m
theorem turns_fix {E : Arr} {l : IL} (h : peel E l = l) : ∀ m, turns E m l = l
  | 0 => rfl
  | m + 1 => by
    show turns E m (peel E l) = l
    rw [h]
    exact turns_fix h m
theorem turns_iff {E : Arr} : ∀ (m : Nat) (l : IL), l.length ≤ m → (turns E m l = [] ↔ ringless E l = true) := by
  intro m
  induction m with
  | zero =>
    intro l hl
    have : l = [] := List.length_eq_zero_iff.mp (by omega)
    subst this
    rw [ringless, if_pos rfl]
    exact ⟨fun _ => rfl, fun _ => rfl⟩
  | succ m ih =>
    intro l hl
    rw [ringless]
    by_cases he : l = []
    · rw [if_pos he]
      subst he
      exact ⟨fun _ => rfl, fun _ => turns_nil E _⟩
    · rw [if_neg he]
      by_cases hp : (peel E l).length = l.length
      · rw [dif_pos hp, turns_fix (peel_fix hp)]
        exact ⟨fun h => absurd h he, fun h => absurd h Bool.false_ne_true⟩
      · rw [dif_neg hp]
        exact ih (peel E l) (by have := peel_le E l; omega)
theorem turns_back (E : Arr) : ∀ (m : Nat) (l : IL), turns E (m + 1) l = peel E (turns E m l)
  | 0, _ => rfl
  | m + 1, l => turns_back E m (peel E l)

/-! ### arrows, frozen doors -/
structure Web (n : Nat) (E : Arr) : Prop where
  ne : ∀ p ∈ E, p.1 ≠ p.2
  bd : ∀ p ∈ E, (0 ≤ p.1 ∧ p.1 < n) ∧ (0 ≤ p.2 ∧ p.2 < n)
/-- frozen: on an arrow from an open door to a shut one -/
def Frz (E : Arr) (o : IL) (k : Int) : Prop := ∃ p ∈ E, p.1 ∈ o ∧ p.2 ∉ o ∧ (k = p.1 ∨ k = p.2)
/-- a deed on a door, what it leads to by membership -/
structure Deed (E : Arr) (s : IL) (k : Int) : Prop where
  up : k ∉ s → ∀ i, (i, k) ∈ E → i ∉ s
  dn : k ∈ s → ∀ j, (k, j) ∈ E → j ∈ s
def flip (s : IL) (k : Int) (t : IL) : Prop := ∀ x, x ∈ t ↔ (if x = k then k ∉ s else x ∈ s)
/-- what can come by deeds on doors that are not held -/
inductive Reach (n : Nat) (E : Arr) (held o : IL) : IL → Prop
  | refl : Reach n E held o o
  | step {s t : IL} {k : Int} : Reach n E held o s → Deed E s k → k ∉ held → (0 ≤ k ∧ k < n) → Vd n t → flip s k t → Reach n E held o t
/-- the closed form -/
structure Can (E : Arr) (held o t : IL) : Prop where
  loose : ∀ x, (x ∈ t ↔ x ∉ o) → ¬ Frz E o x ∧ x ∉ held
  up : Acyc E fun x => x ∈ t ∧ x ∉ o
  dn : Acyc E fun x => x ∈ o ∧ x ∉ t
theorem Acyc.empty {E : Arr} {X : Int → Prop} (h : ∀ x, ¬ X x) : Acyc E X := fun _ ⟨y, hy⟩ hY => absurd (hY y hy) (h y)
/-- a new door none of the set leads to -/
theorem Acyc.add_src {E : Arr} {X X' : Int → Prop} {k : Int} (h : Acyc E X) (hk : (k, k) ∉ E) (hn : ∀ x, X x → (x, k) ∉ E) (hX : ∀ x, X' x → X x ∨ x = k) : Acyc E X' := by
  intro Y hne hY
  by_cases hq : ∃ y, Y y ∧ y ≠ k
  · obtain ⟨y, ⟨hy, hyk⟩, hz⟩ := h (fun y => Y y ∧ y ≠ k) hq fun y ⟨hy, hyk⟩ => (hX y (hY y hy)).resolve_right hyk
    refine ⟨y, hy, fun z hz' => ?_⟩
    by_cases e : z = k
    · rw [e]
      exact hn y ((hX y (hY y hy)).resolve_right hyk)
    · exact hz z ⟨hz', e⟩
  · obtain ⟨y, hy⟩ := hne
    have all : ∀ z, Y z → z = k := fun z hz => Classical.byContradiction fun c => hq ⟨z, hz, c⟩
    refine ⟨y, hy, fun z hz => ?_⟩
    rw [all y hy, all z hz]
    exact hk
/-- a new door that leads to none of the set -/
theorem Acyc.add_sink {E : Arr} {X X' : Int → Prop} {k : Int} (h : Acyc E X) (hk : (k, k) ∉ E) (hn : ∀ x, X x → (k, x) ∉ E) (hX : ∀ x, X' x → X x ∨ x = k) : Acyc E X' := by
  intro Y hne hY
  by_cases hq : Y k
  · refine ⟨k, hq, fun z hz => ?_⟩
    rcases hX z (hY z hz) with r | r
    · exact hn z r
    · rw [r]
      exact hk
  · exact h Y hne fun y hy => (hX y (hY y hy)).resolve_right fun e => hq (e ▸ hy)
theorem Reach.vd {n : Nat} {E : Arr} {held o t : IL} (ho : Vd n o) (r : Reach n E held o t) : Vd n t := by
  cases r with
  | refl => exact ho
  | step _ _ _ _ h _ => exact h
theorem Reach.can {n : Nat} {E : Arr} {held o t : IL} (W : Web n E) (r : Reach n E held o t) : Can E held o t := by
  have irr : ∀ k, (k, k) ∉ E := fun k h => W.ne _ h rfl
  induction r with
  | refl => exact ⟨fun x h => absurd h (by simp), .empty fun x h => h.2 h.1, .empty fun x h => h.2 h.1⟩
  | @step s t k _ d hk hb hv f ih =>
    -- k is not frozen
    have nf : ¬ Frz E o k := by
      rintro ⟨p, hp, h1, h2, e⟩
      have in1 : p.1 ∈ s := Classical.byContradiction fun c => (ih.loose p.1 (by simp [c, h1])).1 ⟨p, hp, h1, h2, .inl rfl⟩
      have out2 : p.2 ∉ s := fun c => (ih.loose p.2 (by simp [c, h2])).1 ⟨p, hp, h1, h2, .inr rfl⟩
      rcases e with rfl | rfl
      · exact out2 (d.dn in1 p.2 hp)
      · exact d.up out2 p.1 hp in1
    by_cases hs : k ∈ s
    · -- shut
      have ft : ∀ x, x ∈ t ↔ x ≠ k ∧ x ∈ s := fun x => by
        rw [f x]
        by_cases e : x = k
        · simp [e, hs]
        · simp [e]
      refine ⟨fun x hx => ?_, ?_, ?_⟩
      · by_cases e : x = k
        · rw [e]
          exact ⟨nf, hk⟩
        · refine ih.loose x ?_
          rw [← hx, ft x]
          simp [e]
      · exact ih.up.mono fun x ⟨h1, h2⟩ => ⟨((ft x).mp h1).2, h2⟩
      · refine Acyc.add_sink (k := k) ih.dn (irr k) (fun x hx he => hx.2 (d.dn hs x he)) fun x ⟨h1, h2⟩ => ?_
        by_cases e : x = k
        · exact .inr e
        · exact .inl ⟨h1, fun c => h2 ((ft x).mpr ⟨e, c⟩)⟩
    · -- opened
      have ft : ∀ x, x ∈ t ↔ x = k ∨ x ∈ s := fun x => by
        rw [f x]
        by_cases e : x = k
        · simp [e, hs]
        · simp [e]
      refine ⟨fun x hx => ?_, ?_, ?_⟩
      · by_cases e : x = k
        · rw [e]
          exact ⟨nf, hk⟩
        · refine ih.loose x ?_
          rw [← hx, ft x]
          simp [e]
      · refine Acyc.add_src (k := k) ih.up (irr k) (fun x hx he => d.up hs x he hx.1) fun x ⟨h1, h2⟩ => ?_
        rcases (ft x).mp h1 with e | h
        · exact .inr e
        · exact .inl ⟨h, h2⟩
      · exact ih.dn.mono fun x ⟨h1, h2⟩ => ⟨h1, fun c => h2 ((ft x).mpr (.inr c))⟩
theorem vd_filter_rng (n : Nat) (p : Int → Bool) : Vd n ((rng n).filter p) := (vd_rng n).filter p
theorem mem_filter_rng {n : Nat} {p : Int → Bool} {x : Int} : x ∈ (rng n).filter p ↔ (0 ≤ x ∧ x < n) ∧ p x = true := by
  rw [List.mem_filter, mem_rng]
theorem reach_up {n : Nat} {E : Arr} {held o : IL} (W : Web n E) : ∀ (m : Nat) (s t : IL), Vd n s → Vd n t → (∀ x ∈ s, x ∈ t) → (t.filter fun x => !decide (x ∈ s)).length = m → (∀ x ∈ t, x ∉ s → (∀ i ∈ s, (i, x) ∉ E) ∧ x ∉ held) →
    Acyc E (fun x => x ∈ t ∧ x ∉ s) → Reach n E held o s → Reach n E held o t := by
  intro m
  induction m with
  | zero =>
    intro s t hs ht hst hm _ _ r
    have e : s = t := asc_ext hs.asc ht.asc fun x => ⟨hst x, fun hx => Classical.byContradiction fun c => by
      have : x ∈ t.filter fun x => !decide (x ∈ s) := List.mem_filter.mpr ⟨hx, by simp [c]⟩
      rw [List.length_eq_zero_iff.mp hm] at this
      simp at this⟩
    rw [← e]
    exact r
  | succ m ih =>
    intro s t hs ht hst hm hc ac r
    have hne : ∃ x, x ∈ t ∧ x ∉ s := by
      have : (t.filter fun x => !decide (x ∈ s)) ≠ [] := by
        intro e
        rw [e] at hm
        simp at hm
      obtain ⟨x, hx⟩ := List.exists_mem_of_ne_nil _ this
      obtain ⟨h1, h2⟩ := List.mem_filter.mp hx
      exact ⟨x, h1, by simpa using h2⟩
    obtain ⟨k, ⟨hk1, hk2⟩, hk3⟩ := ac _ hne fun y h => h
    let s' := (rng n).filter fun x => decide (x ∈ s) || decide (x = k)
    have hs' : ∀ x, x ∈ s' ↔ x ∈ s ∨ x = k := fun x => by
      show x ∈ (rng n).filter _ ↔ _
      rw [mem_filter_rng, Bool.or_eq_true, decide_eq_true_eq, decide_eq_true_eq]
      exact ⟨fun h => h.2, fun h => ⟨h.elim (fun h => hs.bd x h) (fun h => h ▸ ht.bd k hk1), h⟩⟩
    have vs' : Vd n s' := vd_filter_rng n _
    have st : Reach n E held o s' := by
      refine .step r ⟨fun _ i hi hm => (hc k hk1 hk2).1 i hm hi, fun h => absurd h hk2⟩ (hc k hk1 hk2).2 (ht.bd k hk1) vs' fun x => ?_
      rw [hs']
      by_cases e : x = k
      · simp [e, hk2]
      · simp [e]
    refine ih s' t vs' ht (fun x hx => ?_) ?_ (fun x hx hn => ?_) (ac.mono fun x ⟨h1, h2⟩ => ⟨h1, fun h => h2 ((hs' x).mpr (.inl h))⟩) st
    · rcases (hs' x).mp hx with h | h
      · exact hst x h
      · rw [h]
        exact hk1
    · have e : (t.filter fun x => !decide (x ∈ s')) = (t.filter fun x => !decide (x ∈ s)).filter fun x => !decide (x = k) := by
        rw [List.filter_filter]
        refine List.filter_congr fun x _ => ?_
        by_cases h1 : x = k <;> by_cases h2 : x ∈ s <;> simp [hs', h1, h2]
      have q : (t.filter fun x => !decide (x ∈ s)).Perm (k :: ((t.filter fun x => !decide (x ∈ s)).filter fun x => !decide (x = k))) := by
        refine (List.perm_ext_iff_of_nodup (ht.filter _).asc.nodup (List.nodup_cons.mpr ⟨by simp, ((ht.filter _).filter _).asc.nodup⟩)).mpr fun x => ?_
        rw [List.mem_cons, List.mem_filter, List.mem_filter, List.mem_filter]
        by_cases h1 : x = k
        · simp [h1, hk1, hk2]
        · simp [h1]
      have := q.length_eq
      rw [List.length_cons, hm] at this
      rw [e]
      omega
    · have hn' : x ∉ s ∧ x ≠ k := ⟨fun h => hn ((hs' x).mpr (.inl h)), fun h => hn ((hs' x).mpr (.inr h))⟩
      refine ⟨fun i hi he => ?_, (hc x hx hn'.1).2⟩
      rcases (hs' i).mp hi with h | h
      · exact (hc x hx hn'.1).1 i h he
      · rw [h] at he
        exact hk3 x ⟨hx, hn'.1⟩ he
theorem reach_dn {n : Nat} {E : Arr} {held o s : IL} (W : Web n E) (hs : Vd n s) (r : Reach n E held o s) : ∀ (m : Nat) (u : IL), Vd n u → (∀ x ∈ u, x ∈ s) → (s.filter fun x => !decide (x ∈ u)).length = m →
    (∀ x ∈ s, x ∉ u → (∀ j, (x, j) ∈ E → j ∈ s) ∧ x ∉ held) → Acyc E (fun x => x ∈ s ∧ x ∉ u) → Reach n E held o u := by
  intro m
  induction m with
  | zero =>
    intro u hu hus hm _ _
    have e : s = u := asc_ext hs.asc hu.asc fun x => ⟨fun hx => Classical.byContradiction fun c => by
      have : x ∈ s.filter fun x => !decide (x ∈ u) := List.mem_filter.mpr ⟨hx, by simp [c]⟩
      rw [List.length_eq_zero_iff.mp hm] at this
      simp at this, hus x⟩
    rw [← e]
    exact r
  | succ m ih =>
    intro u hu hus hm hc ac
    have hne : ∃ x, x ∈ s ∧ x ∉ u := by
      have : (s.filter fun x => !decide (x ∈ u)) ≠ [] := by
        intro e
        rw [e] at hm
        simp at hm
      obtain ⟨x, hx⟩ := List.exists_mem_of_ne_nil _ this
      obtain ⟨h1, h2⟩ := List.mem_filter.mp hx
      exact ⟨x, h1, by simpa using h2⟩
    obtain ⟨k, ⟨hk1, hk2⟩, hk3⟩ := ac _ hne fun y h => h
    let u' := (rng n).filter fun x => decide (x ∈ u) || decide (x = k)
    have hu' : ∀ x, x ∈ u' ↔ x ∈ u ∨ x = k := fun x => by
      show x ∈ (rng n).filter _ ↔ _
      rw [mem_filter_rng, Bool.or_eq_true, decide_eq_true_eq, decide_eq_true_eq]
      exact ⟨fun h => h.2, fun h => ⟨h.elim (fun h => hu.bd x h) (fun h => h ▸ hs.bd k hk1), h⟩⟩
    have vu' : Vd n u' := vd_filter_rng n _
    have st : Reach n E held o u' := by
      refine ih u' vu' (fun x hx => ?_) ?_ (fun x hx hn => hc x hx fun h => hn ((hu' x).mpr (.inl h))) (ac.mono fun x ⟨h1, h2⟩ => ⟨h1, fun h => h2 ((hu' x).mpr (.inl h))⟩)
      · rcases (hu' x).mp hx with h | h
        · exact hus x h
        · rw [h]
          exact hk1
      · have e : (s.filter fun x => !decide (x ∈ u')) = (s.filter fun x => !decide (x ∈ u)).filter fun x => !decide (x = k) := by
          rw [List.filter_filter]
          refine List.filter_congr fun x _ => ?_
          by_cases h1 : x = k <;> by_cases h2 : x ∈ u <;> simp [hu', h1, h2]
        have q : (s.filter fun x => !decide (x ∈ u)).Perm (k :: ((s.filter fun x => !decide (x ∈ u)).filter fun x => !decide (x = k))) := by
          refine (List.perm_ext_iff_of_nodup (hs.filter _).asc.nodup (List.nodup_cons.mpr ⟨by simp, ((hs.filter _).filter _).asc.nodup⟩)).mpr fun x => ?_
          rw [List.mem_cons, List.mem_filter, List.mem_filter, List.mem_filter]
          by_cases h1 : x = k
          · simp [h1, hk1, hk2]
          · simp [h1]
        have := q.length_eq
        rw [List.length_cons, hm] at this
        rw [e]
        omega
    refine .step st ⟨fun h => absurd ((hu' k).mpr (.inr rfl)) h, fun _ j hj => ?_⟩ (hc k hk1 hk2).2 (hs.bd k hk1) hu fun x => ?_
    · have js := (hc k hk1 hk2).1 j hj
      refine (hu' j).mpr (.inl (Classical.byContradiction fun c => hk3 j ⟨js, c⟩ hj))
    · by_cases e : x = k
      · simp [e, hu', hk2]
      · simp [e, hu']
theorem Can.reach {n : Nat} {E : Arr} {held o t : IL} (W : Web n E) (ho : Vd n o) (ht : Vd n t) (c : Can E held o t) : Reach n E held o t := by
  let s := (rng n).filter fun x => decide (x ∈ o) || decide (x ∈ t)
  have hs : ∀ x, x ∈ s ↔ x ∈ o ∨ x ∈ t := fun x => by
    show x ∈ (rng n).filter _ ↔ _
    rw [mem_filter_rng, Bool.or_eq_true, decide_eq_true_eq, decide_eq_true_eq]
    exact ⟨fun h => h.2, fun h => ⟨h.elim (fun h => ho.bd x h) (fun h => ht.bd x h), h⟩⟩
  have vs : Vd n s := vd_filter_rng n _
  have r1 : Reach n E held o s := by
    refine reach_up W _ o s ho vs (fun x h => (hs x).mpr (.inl h)) rfl (fun x hx hn => ?_) (c.up.mono fun x ⟨h1, h2⟩ => ⟨((hs x).mp h1).resolve_left h2, h2⟩) .refl
    have hx' := ((hs x).mp hx).resolve_left hn
    have l := c.loose x (by simp [hx', hn])
    exact ⟨fun i hi he => l.1 ⟨(i, x), he, hi, hn, .inr rfl⟩, l.2⟩
  refine reach_dn W vs r1 _ t ht (fun x h => (hs x).mpr (.inr h)) rfl (fun x hx hn => ?_) (c.dn.mono fun x ⟨h1, h2⟩ => ⟨((hs x).mp h1).resolve_right h2, h2⟩)
  have hx' := ((hs x).mp hx).resolve_right hn
  have l := c.loose x (by simp [hx', hn])
  exact ⟨fun j he => (hs j).mpr (.inl (Classical.byContradiction fun h => l.1 ⟨(x, j), he, hx', h, .inl rfl⟩)), l.2⟩

/-! ### sorts -/
def isort (l : IL) : IL := l.mergeSort fun a b => decide (a ≤ b)
theorem isort_perm (l : IL) : (isort l).Perm l := List.mergeSort_perm _ _
theorem isort_le (l : IL) : (isort l).Pairwise (· ≤ ·) :=
  (List.pairwise_mergeSort (le := fun a b : Int => decide (a ≤ b)) (fun a b c h1 h2 => by simp at *; omega) (fun a b => by simp; omega) l).imp fun h => of_decide_eq_true h
theorem isort_uniq {l m : IL} (h1 : m.Perm l) (h2 : m.Pairwise (· ≤ ·)) : m = isort l :=
  List.Perm.eq_of_pairwise (le := fun a b : Int => a ≤ b) (fun a b _ _ h1 h2 => by omega) h2 (isort_le l) (h1.trans (isort_perm l).symm)
theorem mem_isort {l : IL} {x : Int} : x ∈ isort l ↔ x ∈ l := (isort_perm l).mem_iff
theorem asc_isort {l : IL} (h : l.Nodup) : Asc (isort l) := asc_of (isort_le l) ((isort_perm l).nodup_iff.mpr h)
theorem isort_len (l : IL) : (isort l).length = l.length := (isort_perm l).length_eq
def lexLt : IL → IL → Bool
  | [], [] => false
  | [], _ :: _ => true
  | _ :: _, [] => false
  | x :: xs, y :: ys => if x = y then lexLt xs ys else decide (x < y)
theorem lex_irr : ∀ x : IL, lexLt x x = false
  | [] => rfl
  | x :: xs => by
    show (if x = x then lexLt xs xs else _) = false
    rw [if_pos rfl]
    exact lex_irr xs
theorem lex_anti : ∀ x y : IL, lexLt x y = false → lexLt y x = false → x = y
  | [], [], _, _ => rfl
  | [], _ :: _, h, _ => by cases h
  | _ :: _, [], _, h => by cases h
  | x :: xs, y :: ys, h, h' => by
    simp only [lexLt] at h h'
    by_cases e : x = y
    · rw [if_pos e] at h
      rw [if_pos e.symm] at h'
      rw [e, lex_anti xs ys h h']
    · rw [if_neg e] at h
      rw [if_neg (Ne.symm e)] at h'
      have := of_decide_eq_false h
      have := of_decide_eq_false h'
      omega
def lsort (l : List IL) : List IL := l.mergeSort fun a b => !lexLt b a
theorem lsort_perm (l : List IL) : (lsort l).Perm l := List.mergeSort_perm _ _
theorem lex_trans : ∀ x y z : IL, lexLt y x = false → lexLt z y = false → lexLt z x = false
  | [], _, [], _, _ => rfl
  | [], _, _ :: _, _, _ => rfl
  | _ :: _, [], _, h, _ => by cases h
  | _ :: _, _ :: _, [], _, h => by cases h
  | x :: xs, y :: ys, z :: zs, h, h' => by
    simp only [lexLt] at h h' ⊢
    by_cases e1 : y = x <;> by_cases e2 : z = y <;> by_cases e3 : z = x <;> simp only [e1, e2, e3, if_true, if_false] at h h' ⊢ <;> try (simp only [decide_eq_false_iff_not] at h h' ⊢; omega)
    all_goals first
      | exact lex_trans xs ys zs (by simpa [e1] using h) (by simpa [e2] using h')
      | (simp_all; done)
      | (simp_all; omega)
theorem lsort_le (l : List IL) : (lsort l).Pairwise fun a b => lexLt b a = false :=
  (List.pairwise_mergeSort (le := fun a b : IL => !lexLt b a) (fun a b c h1 h2 => by
    rw [Bool.not_eq_true'] at h1 h2 ⊢
    exact lex_trans a b c h1 h2) (fun a b => by
    cases h : lexLt b a with
    | false => rfl
    | true =>
      cases h' : lexLt a b with
      | false => rfl
      | true =>
        exfalso
        have key : ∀ x y : IL, lexLt x y = true → lexLt y x = true → False := by
          intro x
          induction x with
          | nil =>
            intro y h h'
            cases y with
            | nil => cases h
            | cons _ _ => cases h'
          | cons x xs ih =>
            intro y h h'
            cases y with
            | nil => cases h
            | cons y ys =>
              simp only [lexLt] at h h'
              by_cases e : x = y
              · rw [if_pos e] at h
                rw [if_pos e.symm] at h'
                exact ih ys h h'
              · rw [if_neg e] at h
                rw [if_neg (Ne.symm e)] at h'
                have := of_decide_eq_true h
                have := of_decide_eq_true h'
                omega
        exact key b a h h') l).imp fun h => by simpa using h
theorem lsort_uniq {l m : List IL} (h1 : m.Perm l) (h2 : m.Pairwise fun a b => lexLt b a = false) : m = lsort l :=
  List.Perm.eq_of_pairwise (le := fun a b : IL => lexLt b a = false) (fun a b _ _ h1 h2 => (lex_anti b a h1 h2).symm) h2 (lsort_le l) (h1.trans (lsort_perm l).symm)
/-- without the second of two -/
def ddp (l : IL) : IL := l.foldr (fun x a => if x ∈ a then a else x :: a) []
theorem mem_ddp {x : Int} : ∀ l : IL, x ∈ ddp l ↔ x ∈ l
  | [] => Iff.rfl
  | y :: l => by
    have ih := mem_ddp (x := x) l
    show x ∈ (if y ∈ ddp l then ddp l else y :: ddp l) ↔ _
    by_cases h : y ∈ ddp l
    · rw [if_pos h, ih, List.mem_cons]
      exact ⟨.inr, fun c => c.elim (fun e => e ▸ (mem_ddp l).mp h) id⟩
    · rw [if_neg h, List.mem_cons, List.mem_cons, ih]
theorem ddp_nodup : ∀ l : IL, (ddp l).Nodup
  | [] => List.nodup_nil
  | y :: l => by
    show (if y ∈ ddp l then ddp l else y :: ddp l).Nodup
    by_cases h : y ∈ ddp l
    · rw [if_pos h]
      exact ddp_nodup l
    · rw [if_neg h]
      exact List.nodup_cons.mpr ⟨h, ddp_nodup l⟩
/-- sorted(set(l)) -/
def sset (l : IL) : IL := isort (ddp l)
theorem mem_sset {l : IL} {x : Int} : x ∈ sset l ↔ x ∈ l := by
  unfold sset
  rw [mem_isort, mem_ddp]
theorem asc_sset (l : IL) : Asc (sset l) := asc_isort (ddp_nodup l)
theorem sset_uniq {l m : IL} (h : Asc m) (hm : ∀ x, x ∈ m ↔ x ∈ l) : m = sset l := asc_ext h (asc_sset l) fun x => by rw [hm, mem_sset]

/-! ### the mirror -/
def pairsIn (E : Arr) (o : IL) : Arr := E.filter fun p => decide (p.1 ∈ o) && !decide (p.2 ∈ o)
def frozenL (E : Arr) (o : IL) : IL := sset ((pairsIn E o).flatMap fun p => [p.1, p.2])
def looseL (n : Nat) (E : Arr) (o : IL) : IL := (rng n).filter fun k => !decide (k ∈ frozenL E o)
def freshIn (one other : IL) : IL := other.filter fun k => !decide (k ∈ one)
def freshS (n : Nat) (E : Arr) (o : IL) : IL := (looseL n E o).filter fun k => !decide (k ∈ o)
def oldS (n : Nat) (E : Arr) (o : IL) : IL := (looseL n E o).filter fun k => decide (k ∈ o)
def without (some held : IL) : IL := some.filter fun k => !decide (k ∈ held)
def stands (ds : IL) : List IL := lsort (subs ds)
def setsIn (E : Arr) (some : IL) : List IL := (stands some).filter fun one => ringless E one
def comesIn (E : Arr) (o t : IL) : Bool :=
  if (freshIn o t ++ freshIn t o).filter (fun k => decide (k ∈ frozenL E o)) = [] then ringless E (freshIn o t) && ringless E (freshIn t o) else false
def comesHeld (E : Arr) (o t held : IL) : Bool := decide (held.filter (fun k => decide (k ∈ freshIn o t ++ freshIn t o)) = []) && comesIn E o t
def heldCount (n : Nat) (E : Arr) (o held : IL) : Nat := (setsIn E (without (freshS n E o) held)).length * (setsIn E (without (oldS n E o) held)).length
def lawChanged (s : IL) (k : Int) : IL := if k ∈ s then s.filter fun x => !decide (x = k) else isort (s ++ [k])
def lawOpen (n : Nat) (E : Arr) (s : IL) : IL := (rng n).filter fun k => !decide (k ∈ s) && decide ((s.filter fun i => decide ((i, k) ∈ E)) = [])
def lawShut (n : Nat) (E : Arr) (s : IL) : IL := s.filter fun k => decide (((rng n).filter fun j => !decide (j ∈ s) && decide ((k, j) ∈ E)) = [])
def lawDo (n : Nat) (E : Arr) (s : IL) : IL := isort (lawOpen n E s ++ lawShut n E s)
def lawCold (n : Nat) (E : Arr) (o : IL) : IL := (rng n).filter fun k => !decide (((pairsIn E o).filter fun p => decide (k ∈ [p.1, p.2])) = [])
def lawSome (n : Nat) (E : Arr) (o : IL) (side : Bool) : IL := (rng n).filter fun k => !decide (k ∈ lawCold n E o) && (decide (k ∈ o) == side)
def lawRing (E : Arr) (some : IL) : Bool := !decide (turns E some.length some = [])
def choices (E : Arr) (some : IL) : List IL := (stands some).filter fun one => !lawRing E (without some one)

/-! ### the mirror, by membership -/
theorem mem_pairs {E : Arr} {o : IL} {p : Int × Int} : p ∈ pairsIn E o ↔ p ∈ E ∧ p.1 ∈ o ∧ p.2 ∉ o := by
  unfold pairsIn
  rw [List.mem_filter]
  simp
theorem mem_frozen {E : Arr} {o : IL} {k : Int} : k ∈ frozenL E o ↔ Frz E o k := by
  unfold frozenL
  rw [mem_sset, List.mem_flatMap]
  constructor
  · rintro ⟨p, hp, hk⟩
    obtain ⟨h1, h2, h3⟩ := mem_pairs.mp hp
    exact ⟨p, h1, h2, h3, by simpa using hk⟩
  · rintro ⟨p, h1, h2, h3, h4⟩
    exact ⟨p, mem_pairs.mpr ⟨h1, h2, h3⟩, by simpa using h4⟩
theorem Frz.bd {n : Nat} {E : Arr} {o : IL} {k : Int} (W : Web n E) (f : Frz E o k) : 0 ≤ k ∧ k < n := by
  obtain ⟨p, hp, _, _, e⟩ := f
  rcases e with rfl | rfl
  · exact (W.bd p hp).1
  · exact (W.bd p hp).2
theorem mem_cold {n : Nat} {E : Arr} {o : IL} {k : Int} (W : Web n E) : k ∈ lawCold n E o ↔ Frz E o k := by
  unfold lawCold
  rw [mem_filter_rng, Bool.not_eq_true', decide_eq_false_iff_not, List.filter_eq_nil_iff]
  constructor
  · rintro ⟨_, h⟩
    obtain ⟨p, hp⟩ := Classical.not_forall.mp h
    obtain ⟨hm, hc⟩ := Classical.not_imp.mp hp
    obtain ⟨h1, h2, h3⟩ := mem_pairs.mp hm
    have : k ∈ [p.1, p.2] := of_decide_eq_true (Classical.not_not.mp hc)
    exact ⟨p, h1, h2, h3, by simpa using this⟩
  · intro f
    refine ⟨f.bd W, fun h => ?_⟩
    obtain ⟨p, h1, h2, h3, h4⟩ := f
    exact h p (mem_pairs.mpr ⟨h1, h2, h3⟩) (by simp; exact h4)
theorem mem_fresh {n : Nat} {E : Arr} {o : IL} {k : Int} : k ∈ freshS n E o ↔ (0 ≤ k ∧ k < n) ∧ ¬ Frz E o k ∧ k ∉ o := by
  unfold freshS looseL
  rw [List.mem_filter, mem_filter_rng]
  simp only [Bool.not_eq_true', decide_eq_false_iff_not, mem_frozen]
  exact ⟨fun ⟨⟨a, b⟩, c⟩ => ⟨a, b, c⟩, fun ⟨a, b, c⟩ => ⟨⟨a, b⟩, c⟩⟩
theorem mem_old {n : Nat} {E : Arr} {o : IL} {k : Int} : k ∈ oldS n E o ↔ (0 ≤ k ∧ k < n) ∧ ¬ Frz E o k ∧ k ∈ o := by
  unfold oldS looseL
  rw [List.mem_filter, mem_filter_rng]
  simp only [Bool.not_eq_true', decide_eq_false_iff_not, decide_eq_true_eq, mem_frozen]
  exact ⟨fun ⟨⟨a, b⟩, c⟩ => ⟨a, b, c⟩, fun ⟨a, b, c⟩ => ⟨⟨a, b⟩, c⟩⟩
theorem vd_fresh (n : Nat) (E : Arr) (o : IL) : Vd n (freshS n E o) := (vd_filter_rng n _).filter _
theorem vd_old (n : Nat) (E : Arr) (o : IL) : Vd n (oldS n E o) := (vd_filter_rng n _).filter _
theorem lawSome_fresh {n : Nat} {E : Arr} {o : IL} (W : Web n E) : lawSome n E o false = freshS n E o :=
  asc_ext ((asc_rng n).filter _) (vd_fresh n E o).asc fun x => by
    rw [mem_fresh]
    unfold lawSome
    rw [mem_filter_rng]
    simp [mem_cold W]
theorem lawSome_old {n : Nat} {E : Arr} {o : IL} (W : Web n E) : lawSome n E o true = oldS n E o :=
  asc_ext ((asc_rng n).filter _) (vd_old n E o).asc fun x => by
    rw [mem_old]
    unfold lawSome
    rw [mem_filter_rng]
    simp [mem_cold W]
theorem mem_without {some held : IL} {k : Int} : k ∈ without some held ↔ k ∈ some ∧ k ∉ held := by
  unfold without
  rw [List.mem_filter]
  simp
theorem mem_stands {ds s : IL} : s ∈ stands ds ↔ s.Sublist ds := by
  unfold stands
  rw [(lsort_perm _).mem_iff, mem_subs]
theorem stands_nodup {ds : IL} (h : ds.Nodup) : (stands ds).Nodup := (lsort_perm _).nodup_iff.mpr (subs_nodup ds h)
theorem stands_len (ds : IL) : (stands ds).length = 2 ^ ds.length := by
  unfold stands
  rw [(lsort_perm _).length_eq, subs_len]
theorem mem_sets {E : Arr} {some s : IL} : s ∈ setsIn E some ↔ s.Sublist some ∧ ringless E s = true := by
  unfold setsIn
  rw [List.mem_filter, mem_stands]
theorem mem_freshIn {one other : IL} {k : Int} : k ∈ freshIn one other ↔ k ∈ other ∧ k ∉ one := by
  unfold freshIn
  rw [List.mem_filter]
  simp

/-! ### deeds as the law does them -/
theorem mem_lawOpen {n : Nat} {E : Arr} {s : IL} {k : Int} : k ∈ lawOpen n E s ↔ (0 ≤ k ∧ k < n) ∧ k ∉ s ∧ ∀ i, (i, k) ∈ E → i ∉ s := by
  unfold lawOpen
  rw [mem_filter_rng, Bool.and_eq_true, Bool.not_eq_true', decide_eq_false_iff_not, decide_eq_true_eq, List.filter_eq_nil_iff]
  simp only [decide_eq_true_eq]
  exact ⟨fun ⟨a, b, c⟩ => ⟨a, b, fun i he hi => c i hi he⟩, fun ⟨a, b, c⟩ => ⟨a, b, fun i hi he => c i he hi⟩⟩
theorem mem_lawShut {n : Nat} {E : Arr} {s : IL} (W : Web n E) {k : Int} : k ∈ lawShut n E s ↔ k ∈ s ∧ ∀ j, (k, j) ∈ E → j ∈ s := by
  unfold lawShut
  rw [List.mem_filter, decide_eq_true_eq, List.filter_eq_nil_iff]
  simp only [Bool.and_eq_true, Bool.not_eq_true', decide_eq_false_iff_not, decide_eq_true_eq, mem_rng]
  exact ⟨fun ⟨a, b⟩ => ⟨a, fun j he => Classical.byContradiction fun c => b j (W.bd _ he).2 ⟨c, he⟩⟩, fun ⟨a, b⟩ => ⟨a, fun j _ h => h.1 (b j h.2)⟩⟩
theorem mem_lawDo {n : Nat} {E : Arr} {s : IL} (W : Web n E) (hs : Vd n s) {k : Int} : k ∈ lawDo n E s ↔ (0 ≤ k ∧ k < n) ∧ Deed E s k := by
  unfold lawDo
  rw [mem_isort, List.mem_append, mem_lawOpen, mem_lawShut W]
  constructor
  · rintro (⟨a, b, c⟩ | ⟨a, b⟩)
    · exact ⟨a, fun _ => c, fun h => absurd h b⟩
    · exact ⟨hs.bd k a, fun h => absurd a h, fun _ => b⟩
  · rintro ⟨a, b⟩
    by_cases h : k ∈ s
    · exact .inr ⟨h, b.dn h⟩
    · exact .inl ⟨a, h, b.up h⟩
theorem lawDo_len (n : Nat) (E : Arr) (s : IL) (hs : Vd n s) : (lawDo n E s).length ≤ 2 * n := by
  unfold lawDo
  rw [isort_len, List.length_append]
  have h1 : (lawOpen n E s).length ≤ n := by
    have := List.length_filter_le (fun k => !decide (k ∈ s) && decide ((s.filter fun i => decide ((i, k) ∈ E)) = [])) (rng n)
    rw [rng_len] at this
    exact this
  have h2 : (lawShut n E s).length ≤ n := Nat.le_trans (List.length_filter_le _ _) hs.len
  omega
theorem flip_changed {n : Nat} {s : IL} (hs : Vd n s) {k : Int} (hk : 0 ≤ k ∧ k < n) : Vd n (lawChanged s k) ∧ flip s k (lawChanged s k) := by
  unfold lawChanged
  by_cases h : k ∈ s
  · rw [if_pos h]
    refine ⟨hs.filter _, fun x => ?_⟩
    rw [List.mem_filter]
    by_cases e : x = k
    · simp [e, h]
    · simp [e]
  · rw [if_neg h]
    refine ⟨⟨asc_isort ?_, fun x hx => ?_⟩, fun x => ?_⟩
    · refine List.nodup_append.mpr ⟨hs.asc.nodup, List.pairwise_singleton _ _, ?_⟩
      rintro a ha b hb e
      rw [List.mem_singleton] at hb
      exact h (by rw [← hb, ← e]; exact ha)
    · rcases List.mem_append.mp (mem_isort.mp hx) with r | r
      · exact hs.bd x r
      · rw [List.mem_singleton.mp r]
        exact hk
    · rw [mem_isort, List.mem_append, List.mem_singleton]
      by_cases e : x = k
      · simp [e, h]
      · simp [e]
theorem flip_uniq {n : Nat} {s t u : IL} {k : Int} (ht : Vd n t) (hu : Vd n u) (f : flip s k t) (g : flip s k u) : t = u := asc_ext ht.asc hu.asc fun x => by rw [f x, g x]
/-- what the law's search ends with -/
structure Known (n : Nat) (E : Arr) (held o : IL) (S : List IL) : Prop where
  nodup : S.Nodup
  all : ∀ s, s ∈ S ↔ Reach n E held o s
theorem known_of {n : Nat} {E : Arr} {held o : IL} {S : List IL} (W : Web n E) (ho : Vd n o) (hn : S.Nodup) (h0 : o ∈ S) (hr : ∀ s ∈ S, Reach n E held o s) (hc : ∀ s ∈ S, ∀ k ∈ lawDo n E s, k ∉ held → lawChanged s k ∈ S) : Known n E held o S := by
  refine ⟨hn, fun s => ⟨hr s, fun r => ?_⟩⟩
  induction r with
  | refl => exact h0
  | @step s t k rs d hk hb hv f ih =>
    have vs := rs.vd ho
    have q := flip_changed vs hb
    rw [flip_uniq hv q.1 f q.2]
    exact hc s ih k ((mem_lawDo W vs).mpr ⟨hb, d⟩) hk

/-! ### M2 -/
theorem can_iff {n : Nat} {E : Arr} {o t held : IL} (W : Web n E) (ho : Vd n o) (ht : Vd n t) : comesHeld E o t held = true ↔ Can E held o t := by
  have dif : ∀ x, x ∈ freshIn o t ++ freshIn t o ↔ ¬ (x ∈ t ↔ x ∈ o) := fun x => by
    rw [List.mem_append, mem_freshIn, mem_freshIn]
    by_cases a : x ∈ t <;> by_cases b : x ∈ o <;> simp [a, b]
  have a1 : (fun x => x ∈ freshIn o t) = fun x => x ∈ t ∧ x ∉ o := funext fun x => propext mem_freshIn
  have a2 : (fun x => x ∈ freshIn t o) = fun x => x ∈ o ∧ x ∉ t := funext fun x => propext mem_freshIn
  unfold comesHeld comesIn
  rw [Bool.and_eq_true, decide_eq_true_eq, List.filter_eq_nil_iff]
  simp only [decide_eq_true_eq, dif]
  constructor
  · rintro ⟨h1, h2⟩
    by_cases c : (freshIn o t ++ freshIn t o).filter (fun k => decide (k ∈ frozenL E o)) = []
    · rw [if_pos c, Bool.and_eq_true, ringless_acyc, ringless_acyc, a1, a2] at h2
      rw [List.filter_eq_nil_iff] at c
      refine ⟨fun x hx => ?_, h2.1, h2.2⟩
      have hd : ¬ (x ∈ t ↔ x ∈ o) := by
        intro e
        rw [e] at hx
        by_cases b : x ∈ o <;> simp [b] at hx
      exact ⟨fun f => c x ((dif x).mpr hd) (decide_eq_true (mem_frozen.mpr f)), fun f => h1 x f hd⟩
    · rw [if_neg c] at h2
      exact absurd h2 Bool.false_ne_true
  · intro h
    have hx : ∀ x, ¬ (x ∈ t ↔ x ∈ o) → ¬ Frz E o x ∧ x ∉ held := fun x hd => h.loose x (by
      by_cases a : x ∈ t <;> by_cases b : x ∈ o <;> simp [a, b] at hd ⊢)
    have c : (freshIn o t ++ freshIn t o).filter (fun k => decide (k ∈ frozenL E o)) = [] := by
      rw [List.filter_eq_nil_iff]
      intro x hm hf
      exact (hx x ((dif x).mp hm)).1 (mem_frozen.mp (of_decide_eq_true hf))
    refine ⟨fun x hm hd => (hx x hd).2 hm, ?_⟩
    rw [if_pos c, Bool.and_eq_true, ringless_acyc, ringless_acyc, a1, a2]
    exact ⟨h.up, h.dn⟩
theorem can_reach {n : Nat} {E : Arr} {o t held : IL} (W : Web n E) (ho : Vd n o) (ht : Vd n t) : Can E held o t ↔ Reach n E held o t := ⟨fun c => c.reach W ho ht, fun r => r.can W⟩
theorem M2 {n : Nat} {E : Arr} {o t held : IL} {S : List IL} (W : Web n E) (ho : Vd n o) (ht : Vd n t) (K : Known n E held o S) : comesHeld E o t held = decide (t ∈ S) := by
  rw [Bool.eq_iff_iff, can_iff W ho ht, can_reach W ho ht, decide_eq_true_eq, K.all]

/-! ### M1 -/
def pairsOf (A B : List IL) : List (IL × IL) := A.flatMap fun a => B.map fun b => (a, b)
theorem pairsOf_len (B : List IL) : ∀ A : List IL, (pairsOf A B).length = A.length * B.length
  | [] => by simp [pairsOf]
  | a :: A => by
    have ih := pairsOf_len B A
    show (B.map (fun b => (a, b)) ++ pairsOf A B).length = (A.length + 1) * B.length
    rw [List.length_append, List.length_map, ih, Nat.add_mul, Nat.one_mul, Nat.add_comm]
theorem mem_pairsOf {A B : List IL} {a b : IL} : (a, b) ∈ pairsOf A B ↔ a ∈ A ∧ b ∈ B := by
  unfold pairsOf
  rw [List.mem_flatMap]
  constructor
  · rintro ⟨x, hx, h⟩
    obtain ⟨y, hy, e⟩ := List.mem_map.mp h
    cases e
    exact ⟨hx, hy⟩
  · rintro ⟨h1, h2⟩
    exact ⟨a, h1, List.mem_map.mpr ⟨b, h2, rfl⟩⟩
theorem pairsOf_nodup {A B : List IL} (hA : A.Nodup) (hB : B.Nodup) : (pairsOf A B).Nodup := by
  unfold pairsOf
  refine List.pairwise_flatMap.mpr ⟨fun a _ => List.pairwise_map.mpr (hB.imp fun h e => h (Prod.mk.inj e).2), hA.imp fun {a1 a2} h x hx y hy e => ?_⟩
  obtain ⟨b1, _, rfl⟩ := List.mem_map.mp hx
  obtain ⟨b2, _, rfl⟩ := List.mem_map.mp hy
  exact h (Prod.mk.inj e).1
theorem vd_without {n : Nat} {s : IL} (h : Vd n s) (held : IL) : Vd n (without s held) := h.filter _
theorem M1 {n : Nat} {E : Arr} {o held : IL} {S : List IL} (W : Web n E) (ho : Vd n o) (K : Known n E held o S) : heldCount n E o held = S.length := by
  let A := setsIn E (without (freshS n E o) held)
  let B := setsIn E (without (oldS n E o) held)
  let f : IL → IL × IL := fun s => (freshIn o s, freshIn s o)
  have vA := vd_without (vd_fresh n E o) held
  have vB := vd_without (vd_old n E o) held
  have nA : A.Nodup := (stands_nodup vA.asc.nodup).filter _
  have nB : B.Nodup := (stands_nodup vB.asc.nodup).filter _
  have vS : ∀ s ∈ S, Vd n s := fun s hs => ((K.all s).mp hs).vd ho
  have nS : (S.map f).Nodup := by
    refine List.pairwise_map.mpr ?_
    refine List.Pairwise.imp_of_mem (fun {a b} ha hb h e => h ?_) K.nodup
    obtain ⟨e1, e2⟩ := Prod.mk.inj e
    refine asc_ext (vS a ha).asc (vS b hb).asc fun x => ?_
    have q1 : x ∈ freshIn o a ↔ x ∈ freshIn o b := by rw [e1]
    have q2 : x ∈ freshIn a o ↔ x ∈ freshIn b o := by rw [e2]
    rw [mem_freshIn, mem_freshIn] at q1 q2
    by_cases c : x ∈ o
    · simp [c] at q2
      by_cases c1 : x ∈ a <;> by_cases c2 : x ∈ b <;> simp [c1, c2] at q2 ⊢
    · simpa [c] using q1
  have mem : ∀ p, p ∈ S.map f ↔ p ∈ pairsOf A B := by
    rintro ⟨a, b⟩
    rw [mem_pairsOf, List.mem_map]
    constructor
    · rintro ⟨s, hs, e⟩
      obtain ⟨rfl, rfl⟩ := Prod.mk.inj e
      have r := (K.all s).mp hs
      have c := r.can W
      have vs := r.vd ho
      have a1 : (fun x => x ∈ freshIn o s) = fun x => x ∈ s ∧ x ∉ o := funext fun x => propext mem_freshIn
      have a2 : (fun x => x ∈ freshIn s o) = fun x => x ∈ o ∧ x ∉ s := funext fun x => propext mem_freshIn
      refine ⟨mem_sets.mpr ⟨asc_sublist (vs.filter _).asc vA.asc fun x hx => ?_, ringless_acyc.mpr (by rw [a1]; exact c.up)⟩, mem_sets.mpr ⟨asc_sublist (ho.filter _).asc vB.asc fun x hx => ?_, ringless_acyc.mpr (by rw [a2]; exact c.dn)⟩⟩
      · have h := mem_freshIn.mp hx
        have l := c.loose x (by simp [h.1, h.2])
        exact mem_without.mpr ⟨mem_fresh.mpr ⟨vs.bd x h.1, l.1, h.2⟩, l.2⟩
      · have h := mem_freshIn.mp hx
        have l := c.loose x (by simp [h.1, h.2])
        exact mem_without.mpr ⟨mem_old.mpr ⟨ho.bd x h.1, l.1, h.1⟩, l.2⟩
    · rintro ⟨ha, hb⟩
      obtain ⟨sa, ra⟩ := mem_sets.mp ha
      obtain ⟨sb, rb⟩ := mem_sets.mp hb
      have fa : ∀ x ∈ a, ((0 ≤ x ∧ x < n) ∧ ¬ Frz E o x ∧ x ∉ o) ∧ x ∉ held := fun x hx => by
        have := mem_without.mp (sa.subset hx)
        exact ⟨mem_fresh.mp this.1, this.2⟩
      have fb : ∀ x ∈ b, ((0 ≤ x ∧ x < n) ∧ ¬ Frz E o x ∧ x ∈ o) ∧ x ∉ held := fun x hx => by
        have := mem_without.mp (sb.subset hx)
        exact ⟨mem_old.mp this.1, this.2⟩
      let s := (rng n).filter fun x => decide (x ∈ a) || (decide (x ∈ o) && !decide (x ∈ b))
      have hs : ∀ x, x ∈ s ↔ x ∈ a ∨ (x ∈ o ∧ x ∉ b) := fun x => by
        show x ∈ (rng n).filter _ ↔ _
        rw [mem_filter_rng]
        simp only [Bool.or_eq_true, Bool.and_eq_true, Bool.not_eq_true', decide_eq_true_eq, decide_eq_false_iff_not]
        exact ⟨fun h => h.2, fun h => ⟨h.elim (fun h => (fa x h).1.1) (fun h => ho.bd x h.1), h⟩⟩
      have vs : Vd n s := vd_filter_rng n _
      have e1 : ∀ x, (x ∈ s ∧ x ∉ o) ↔ x ∈ a := fun x => by
        rw [hs]
        constructor
        · rintro ⟨h | h, h2⟩
          · exact h
          · exact absurd h.1 h2
        · exact fun h => ⟨.inl h, (fa x h).1.2.2⟩
      have e2 : ∀ x, (x ∈ o ∧ x ∉ s) ↔ x ∈ b := fun x => by
        rw [hs]
        constructor
        · rintro ⟨h, h2⟩
          exact Classical.byContradiction fun c => h2 (.inr ⟨h, c⟩)
        · exact fun h => ⟨(fb x h).1.2.2, fun c => c.elim (fun c => (fa x c).1.2.2 (fb x h).1.2.2) fun c => c.2 h⟩
      have c : Can E held o s := by
        refine ⟨fun x hx => ?_, ?_, ?_⟩
        · by_cases h : x ∈ o
          · have : x ∈ b := (e2 x).mp ⟨h, by
              intro c
              exact (hx.mp c) h⟩
            exact ⟨(fb x this).1.2.1, (fb x this).2⟩
          · have : x ∈ a := (e1 x).mp ⟨hx.mpr h, h⟩
            exact ⟨(fa x this).1.2.1, (fa x this).2⟩
        · exact (ringless_acyc.mp ra).mono fun x h => (e1 x).mp h
        · exact (ringless_acyc.mp rb).mono fun x h => (e2 x).mp h
      refine ⟨s, (K.all s).mpr (c.reach W ho vs), ?_⟩
      have q1 : freshIn o s = a := asc_ext (vs.filter _).asc (vA.asc.sub sa) fun x => by rw [mem_freshIn, e1]
      have q2 : freshIn s o = b := asc_ext (ho.filter _).asc (vB.asc.sub sb) fun x => by rw [mem_freshIn, e2]
      show (freshIn o s, freshIn s o) = (a, b)
      rw [q1, q2]
  have := ((List.perm_ext_iff_of_nodup nS (pairsOf_nodup nA nB)).mpr mem).length_eq
  rw [List.length_map, pairsOf_len] at this
  exact this.symm

/-! ### M3 -/
theorem lawRing_eq (E : Arr) (some : IL) : lawRing E some = !ringless E some := by
  unfold lawRing
  congr 1
  rw [Bool.eq_iff_iff, decide_eq_true_eq]
  exact turns_iff some.length some (Nat.le_refl _)
theorem mem_choices {E : Arr} {some c : IL} : c ∈ choices E some ↔ c.Sublist some ∧ ringless E (without some c) = true := by
  unfold choices
  rw [List.mem_filter, mem_stands, lawRing_eq, Bool.not_not]
theorem without_twice {some c : IL} (hs : Asc some) (h : c.Sublist some) : without some (without some c) = c :=
  asc_ext (hs.filter _) (hs.sub h) fun x => by
    rw [mem_without, mem_without]
    constructor
    · rintro ⟨h1, h2⟩
      exact Classical.byContradiction fun c => h2 ⟨h1, c⟩
    · exact fun hx => ⟨h.subset hx, fun h2 => h2.2 hx⟩
theorem without_sub (some c : IL) : (without some c).Sublist some := List.filter_sublist
theorem without_len {some c : IL} (hs : Asc some) (h : c.Sublist some) : (without some c).length + c.length = some.length := by
  have p : (c ++ without some c).Perm some := by
    refine (List.perm_ext_iff_of_nodup ?_ hs.nodup).mpr fun x => ?_
    · refine List.nodup_append.mpr ⟨(hs.sub h).nodup, (hs.filter _).nodup, ?_⟩
      rintro a ha b hb e
      exact (mem_without.mp hb).2 (e ▸ ha)
    · rw [List.mem_append, mem_without]
      constructor
      · rintro (h' | h')
        · exact h.subset h'
        · exact h'.1
      · intro hx
        by_cases c' : x ∈ c
        · exact .inl c'
        · exact .inr ⟨hx, c'⟩
  have := p.length_eq
  rw [List.length_append] at this
  omega
/-- the program's order of pairs (minus size, list) -/
def pLt (p q : Int × IL) : Bool := if p.1 = q.1 then lexLt p.2 q.2 else decide (p.1 < q.1)
/-- the least smallest set of held doors, both ways -/
theorem M3 {E : Arr} {some one c : IL} {few : Nat} (hs : Asc some) (h1 : one ∈ setsIn E some) (hmin : ∀ x ∈ setsIn E some, pLt (-(x.length : Int), without some x) (-(one.length : Int), without some one) = false)
    (h2 : c ∈ choices E some) (hc : c.length = few) (hf : ∀ x ∈ choices E some, few ≤ x.length) (hl : ∀ x ∈ choices E some, x.length = few → lexLt x c = false) : without some one = c := by
  obtain ⟨s1, r1⟩ := mem_sets.mp h1
  obtain ⟨s2, r2⟩ := mem_choices.mp h2
  -- the complements
  have k1 : without some one ∈ choices E some := mem_choices.mpr ⟨without_sub _ _, by rw [without_twice hs s1]; exact r1⟩
  have k2 : without some c ∈ setsIn E some := mem_sets.mpr ⟨without_sub _ _, r2⟩
  have l1 := without_len hs s1
  have l2 := without_len hs s2
  have f1 := hf _ k1
  have m := hmin _ k2
  rw [without_twice hs s2] at m
  unfold pLt at m
  by_cases e : -((without some c).length : Int) = -(one.length : Int)
  · rw [if_pos e] at m
    have e' : (without some one).length = few := by omega
    exact lex_anti _ _ (hl _ k1 e') m
  · rw [if_neg e] at m
    have := of_decide_eq_false m
    omega
end Ld
set_option maxHeartbeats 4000000
/-! Latchdoors, law k37: a small layer of our own: what an expression evaluates to as plain data, in slots told by plain data. -/
namespace Ld
open PySem PySem.Spec PyProof.Rows L2
open Evl (Ex ex_l ex_t sq_of st_of fresh_back)
abbrev PD := PyData
abbrev DS := List (Option PD)

/-! ### data stands when the heap grows -/
mutual
theorem dp_ex {K : PySem.W.Frag} {H H' : Hp} (e : Ex H H') : ∀ (d : PD) (v : V), Dp K H v d → Dp K H' v d
  | .none, _, h => by cases h; exact .non
  | .bool b, _, h => by cases h; exact .bl b
  | .int i, _, h => by cases h; exact .int i
  | .str x, _, h => by cases h; exact .str x
  | .list ds, _, h => by
    cases h with
    | lst hs ha => exact .lst (ex_l e hs) (dpAll_ex e ds _ ha)
  | .tuple ds, _, h => by
    cases h with
    | tup hs ha => exact .tup (ex_t e hs) (dpAll_ex e ds _ ha)
  | .dict _, _, h => by cases h
theorem dpAll_ex {K : PySem.W.Frag} {H H' : Hp} (e : Ex H H') : ∀ (ds : List PD) (vs : List V), DpAll K H vs ds → DpAll K H' vs ds
  | [], _, h => by cases h; exact .nil
  | d :: ds, _, h => by
    cases h with
    | cons h1 h2 => exact .cons (dp_ex e d _ h1) (dpAll_ex e ds _ h2)
end
theorem dpAll_len {K : PySem.W.Frag} {H : Hp} : ∀ {ds : List PD} {vs : List V}, DpAll K H vs ds → vs.length = ds.length
  | _, _, .nil => rfl
  | _, _, .cons _ h => congrArg Nat.succ (dpAll_len h)
theorem dpAll_get {K : PySem.W.Frag} {H : Hp} : ∀ {ds : List PD} {vs : List V} {i : Nat} {v : V}, DpAll K H vs ds → vs[i]? = some v → ∃ d, ds[i]? = some d ∧ Dp K H v d
  | _, _, _, _, .nil, h => by simp at h
  | _, _, 0, _, .cons h _, e => by
    simp at e
    subst e
    exact ⟨_, rfl, h⟩
  | _, _, i + 1, v, .cons _ h, e => by
    obtain ⟨d, e1, e2⟩ := dpAll_get (i := i) (v := v) h (by simpa using e)
    exact ⟨d, by simpa using e1, e2⟩
theorem dpAll_at {K : PySem.W.Frag} {H : Hp} : ∀ {ds : List PD} {vs : List V} {i : Nat} {d : PD}, DpAll K H vs ds → ds[i]? = some d → ∃ v, vs[i]? = some v ∧ Dp K H v d
  | _, _, _, _, .nil, h => by simp at h
  | _, _, 0, _, .cons h _, e => by
    simp at e
    subst e
    exact ⟨_, rfl, h⟩
  | _, _, i + 1, v, .cons _ h, e => by
    obtain ⟨d, e1, e2⟩ := dpAll_at (i := i) (d := v) h (by simpa using e)
    exact ⟨d, by simpa using e1, e2⟩
theorem dpAll_app {K : PySem.W.Frag} {H : Hp} : ∀ {ds es : List PD} {vs ws : List V}, DpAll K H vs ds → DpAll K H ws es → DpAll K H (vs ++ ws) (ds ++ es)
  | _, _, _, _, .nil, h => h
  | _, _, _, _, .cons a r, h => .cons a (dpAll_app r h)
theorem dpAll_ints {K : PySem.W.Frag} {H : Hp} : ∀ {ns : IL} {vs : List V}, DpAll K H vs (ns.map PyData.int) → vs = ns.map V.int
  | [], _, h => by cases h; rfl
  | n :: ns, _, h => by
    cases h with
    | cons h1 h2 =>
      cases h1
      rw [dpAll_ints h2] <;> rfl
theorem ints_dpAll {K : PySem.W.Frag} {H : Hp} : ∀ ns : IL, DpAll K H (ns.map V.int) (ns.map PyData.int)
  | [] => .nil
  | n :: ns => .cons (.int n) (ints_dpAll ns)

/-! ### slots by data -/
structure Sl (K : PySem.W.Frag) (H : Hp) (σ : L2.St) (δ : DS) : Prop where
  len : σ.length = δ.length
  at_ : ∀ (i : Nat) (d : PD), δ[i]? = some (some d) → ∃ v, σ[i]? = some (some v) ∧ Dp K H v d
theorem Sl.ex {K : PySem.W.Frag} {H H' : Hp} {σ : L2.St} {δ : DS} (h : Sl K H σ δ) (e : Ex H H') : Sl K H' σ δ :=
  ⟨h.len, fun i d q => let ⟨v, a, b⟩ := h.at_ i d q; ⟨v, a, dp_ex e d v b⟩⟩
theorem Sl.set {K : PySem.W.Frag} {H : Hp} {σ : L2.St} {δ : DS} (h : Sl K H σ δ) {v : V} {d : PD} (q : Dp K H v d) (j : Nat) : Sl K H (σ.set j (some v)) (δ.set j (some d)) := by
  refine ⟨by rw [List.length_set, List.length_set, h.len], fun i d' e => ?_⟩
  by_cases c : j = i
  · subst c
    by_cases l : j < δ.length
    · rw [List.getElem?_set_self l] at e
      cases e
      exact ⟨v, by rw [List.getElem?_set_self (by rw [h.len]; exact l)], q⟩
    · rw [List.getElem?_eq_none (by rw [List.length_set]; omega)] at e
      cases e
  · rw [List.getElem?_set_ne c] at e ⊢
    exact h.at_ i d' e
/-- a slot of which nothing is told -/
theorem Sl.hide {K : PySem.W.Frag} {H : Hp} {σ : L2.St} {δ : DS} (h : Sl K H σ δ) (o : Option V) (j : Nat) : Sl K H (σ.set j o) (δ.set j none) := by
  refine ⟨by rw [List.length_set, List.length_set, h.len], fun i d' e => ?_⟩
  by_cases c : j = i
  · subst c
    by_cases l : j < δ.length
    · rw [List.getElem?_set_self l] at e
      cases e
    · rw [List.getElem?_eq_none (by rw [List.length_set]; omega)] at e
      cases e
  · rw [List.getElem?_set_ne c] at e ⊢
    exact h.at_ i d' e
def wipeD (δ : DS) : List Nat → DS
  | [] => δ
  | v :: vs => (wipeD δ vs).set v none
theorem Sl.wipe {K : PySem.W.Frag} {H : Hp} {σ : L2.St} {δ : DS} (h : Sl K H σ δ) : ∀ vs, Sl K H (L2.wipe σ vs) (wipeD δ vs)
  | [] => h
  | v :: vs => (Sl.wipe h vs).hide none v
theorem wipe_swap (σ : L2.St) : ∀ (vs : List Nat) (j : Nat) (x : Option V), j ∈ vs → wipe (σ.set j x) vs = wipe σ vs
  | [], _, _, h => absurd h (by simp)
  | v :: vs, j, x, h => by
    show (wipe (σ.set j x) vs).set v none = (wipe σ vs).set v none
    by_cases c : j ∈ vs
    · rw [wipe_swap σ vs j x c]
    · have e : j = v := by
        rcases List.mem_cons.mp h with e | e
        · exact e
        · exact absurd e c
      subst e
      have key : ∀ us : List Nat, j ∉ us → wipe (σ.set j x) us = (wipe σ us).set j x := by
        intro us
        induction us with
        | nil => intro _; rfl
        | cons u us ih =>
          intro hn
          have h1 : j ≠ u := fun e => hn (e ▸ List.mem_cons_self)
          have h2 : j ∉ us := fun e => hn (List.mem_cons_of_mem _ e)
          show (wipe (σ.set j x) us).set u none = ((wipe σ us).set u none).set j x
          rw [ih h2, List.set_comm _ _ h1]
      rw [key vs c, List.set_set]
theorem wipe_wipe (σ : L2.St) (vs : List Nat) : wipe (wipe σ vs) vs = wipe σ vs := by
  have key : ∀ us : List Nat, (∀ u ∈ us, u ∈ vs) → wipe (wipe σ us) vs = wipe σ vs := by
    intro us
    induction us with
    | nil => intro _; rfl
    | cons u us ih =>
      intro h
      show wipe ((wipe σ us).set u none) vs = wipe σ vs
      rw [wipe_swap _ _ _ _ (h u List.mem_cons_self), ih fun x hx => h x (List.mem_cons_of_mem _ hx)]
  exact key vs fun _ h => h

/-! ### two heaps: H is what is known (it never changes), G all that is tracked (lists that change stand in G alone) -/
structure Gr (H G H' G' : Hp) : Prop where
  g : Ex G G'
  h : Ex H H'
  hg : Ex H' G'
  old : ∀ a, G a ≠ none → H' a = H a
theorem Gr.refl {H G : Hp} (e : Ex H G) : Gr H G H G := ⟨Ex.refl G, Ex.refl H, e, fun _ _ => rfl⟩
theorem ex_some {G G' : Hp} (e : Ex G G') {a : Addr} (h : G a ≠ none) : G' a ≠ none := fun c => by
  cases q : G a with
  | none => exact h q
  | some o =>
    rw [e a o q] at c
    cases c
theorem ex_none {G G' : Hp} (e : Ex G G') {a : Addr} (h : G' a = none) : G a = none := fresh_back e h
theorem Gr.trans {H G H1 G1 H2 G2 : Hp} (a : Gr H G H1 G1) (b : Gr H1 G1 H2 G2) : Gr H G H2 G2 :=
  ⟨a.g.trans b.g, a.h.trans b.h, b.hg, fun x hx => (b.old x (ex_some a.g hx)).trans (a.old x hx)⟩
theorem Gr.new {H G : Hp} {p : Addr} {o : HO} (e : Ex H G) (hp : G p = none) : Gr H G (upd H p o) (upd G p o) := by
  have hn := ex_none e hp
  refine ⟨Ex.new hp, Ex.new hn, fun a u h => ?_, fun a ha => ?_⟩
  · by_cases c : a = p
    · subst c
      rw [upd_same] at h ⊢
      exact h
    · rw [upd_ne c] at h ⊢
      exact e a u h
  · exact upd_ne fun c : a = p => ha (by rw [c]; exact hp)
/-- a list that is not known is changed -/
theorem Ex.chg {H G : Hp} {p : Addr} {o : HO} (e : Ex H G) (hp : H p = none) : Ex H (upd G p o) := Evl.Ex.mut e hp

/-! ### what evaluates to which data -/
def Ev (K : PySem.W.Frag) (te : TE) (δ : DS) (d : PD) : Prop := ∀ (σ : L2.St) (H G : Hp), Sl K H σ δ → Ex H G → ∀ Q : VK, (∀ v H' G', Gr H G H' G' → Dp K H' v d → Q v G') → te σ G Q
def EvB (K : PySem.W.Frag) (tt : TT) (δ : DS) (b : Bool) : Prop := ∀ (σ : L2.St) (H G : Hp), Sl K H σ δ → Ex H G → ∀ Q : Bool → Hp → Prop, (∀ H' G', Gr H G H' G' → Q b G') → tt σ G Q
def EvA (K : PySem.W.Frag) (ta : TA) (δ : DS) (ds : List PD) : Prop := ∀ (σ : L2.St) (H G : Hp), Sl K H σ δ → Ex H G → ∀ Q : List V → Hp → Prop, (∀ vs H' G', Gr H G H' G' → DpAll K H' vs ds → Q vs G') → ta σ G Q
section
variable {K : PySem.W.Frag} {δ : DS} {ta tb tc te : TE} {t u : TT} {tr : TA} {d e : PD} {ds es : List PD}
theorem ev_is {d' : PD} (h : Ev K te δ d) (e : d = d') : Ev K te δ d' := by
  rw [← e]
  exact h
theorem eb_is {b b' : Bool} (h : EvB K t δ b) (e : b = b') : EvB K t δ b' := by
  rw [← e]
  exact h
theorem ev_var {i : Nat} (h : δ[i]? = some (some d)) : Ev K (tVar i) δ d := fun σ H G s x Q q =>
  let ⟨v, a, b⟩ := s.at_ i d h
  ⟨v, a, q v H G (Gr.refl x) b⟩
theorem ev_int {i : Int} : Ev K (tC (.int i)) δ (.int i) := fun _ H G _ x Q q => q _ H G (Gr.refl x) (.int i)
theorem ev_bl {b : Bool} : Ev K (tC (.bl b)) δ (.bool b) := fun _ H G _ x Q q => q _ H G (Gr.refl x) (.bl b)
theorem ev_non : Ev K (tC .non) δ .none := fun _ H G _ x Q q => q _ H G (Gr.refl x) .non
theorem ea_nil : EvA K tNil δ [] := fun _ H G _ x Q q => q _ H G (Gr.refl x) .nil
theorem ea_cons (h : Ev K ta δ d) (hr : EvA K tr δ ds) : EvA K (tCons ta tr) δ (d :: ds) := fun σ H G s x Q q =>
  h σ H G s x _ fun v H1 G1 e1 h1 => hr σ H1 G1 (s.ex e1.h) e1.hg _ fun vs H2 G2 e2 h2 => q _ H2 G2 (e1.trans e2) (.cons (dp_ex e2.h d v h1) h2)
/-- an operator of two values -/
def RvD (K : PySem.W.Frag) (r : R2) (d e z : PD) : Prop := ∀ (x y : V) (H G : Hp), Ex H G → Dp K H x d → Dp K H y e → ∀ Q : VK, (∀ v H' G', Gr H G H' G' → Dp K H' v z → Q v G') → r x y G Q
theorem ev_op {r : R2} {z : PD} (h : RvD K r d e z) (ha : Ev K ta δ d) (hb : Ev K tb δ e) : Ev K (tOp r ta tb) δ z := fun σ H G s x Q q =>
  ha σ H G s x _ fun v H1 G1 e1 h1 => hb σ H1 G1 (s.ex e1.h) e1.hg _ fun y H2 G2 e2 h2 => h v y H2 G2 e2.hg (dp_ex e2.h d v h1) h2 Q fun v H3 G3 e3 h3 => q v H3 G3 ((e1.trans e2).trans e3) h3
theorem int_inv {H : Hp} {x : V} {i : Int} (h : Dp K H x (.int i)) : x = .int i := by cases h; rfl
theorem bl_inv {H : Hp} {x : V} {b : Bool} (h : Dp K H x (.bool b)) : x = .bl b := by cases h; rfl
theorem rv_int {f : Int → Int → Int} {i j : Int} : RvD K (rI0 fun a b => .int (f a b)) (.int i) (.int j) (.int (f i j)) := fun x y H G e h1 h2 Q q => by
  rw [int_inv h1, int_inv h2]
  exact ⟨i, j, rfl, rfl, q _ H G (Gr.refl e) (.int _)⟩
theorem rv_intC {C : Int → Int → Prop} {f : Int → Int → Int} {i j : Int} (hc : C i j) : RvD K (rI C fun a b => .int (f a b)) (.int i) (.int j) (.int (f i j)) := fun x y H G e h1 h2 Q q => by
  rw [int_inv h1, int_inv h2]
  exact ⟨i, j, rfl, rfl, hc, q _ H G (Gr.refl e) (.int _)⟩
theorem rv_cmp {f : Int → Int → Bool} {i j : Int} : RvD K (rI0 fun a b => .bl (f a b)) (.int i) (.int j) (.bool (f i j)) := fun x y H G e h1 h2 Q q => by
  rw [int_inv h1, int_inv h2]
  exact ⟨i, j, rfl, rfl, q _ H G (Gr.refl e) (.bl _)⟩
theorem dec_i {i j : Int} : decide (V.int i = V.int j) = decide (i = j) := decide_eq_decide.mpr ⟨fun h => V.int.inj h, fun h => by rw [h]⟩
theorem dec_b {i j : Bool} : decide (V.bl i = V.bl j) = (i == j) := by cases i <;> cases j <;> decide
theorem rv_eqI {i j : Int} : RvD K rEq (.int i) (.int j) (.bool (decide (i = j))) := fun x y H G e h1 h2 Q q => by
  rw [int_inv h1, int_inv h2]
  refine ⟨rfl, ?_⟩
  rw [dec_i]
  exact q _ H G (Gr.refl e) (.bl _)
theorem rv_neI {i j : Int} : RvD K rNe (.int i) (.int j) (.bool (!decide (i = j))) := fun x y H G e h1 h2 Q q => by
  rw [int_inv h1, int_inv h2]
  refine ⟨rfl, ?_⟩
  rw [dec_i]
  exact q _ H G (Gr.refl e) (.bl _)
theorem rv_eqB {i j : Bool} : RvD K rEq (.bool i) (.bool j) (.bool (i == j)) := fun x y H G e h1 h2 Q q => by
  rw [bl_inv h1, bl_inv h2]
  refine ⟨rfl, ?_⟩
  rw [dec_b]
  exact q _ H G (Gr.refl e) (.bl _)
theorem rv_neB {i j : Bool} : RvD K rNe (.bool i) (.bool j) (.bool (!(i == j))) := fun x y H G e h1 h2 Q q => by
  rw [bl_inv h1, bl_inv h2]
  refine ⟨rfl, ?_⟩
  rw [dec_b]
  exact q _ H G (Gr.refl e) (.bl _)
theorem rv_eqD (h1 : SeqAt.shaped d = true) (h2 : SeqAt.shaped e = true) : RvD K (rEqD K) d e (.bool (PyData.eqv d e)) := fun x y H G w a b Q q => ⟨d, e, dp_ex w _ _ a, dp_ex w _ _ b, h1, h2, q _ H G (Gr.refl w) (.bl _)⟩
theorem rv_neD (h1 : SeqAt.shaped d = true) (h2 : SeqAt.shaped e = true) : RvD K (rNeD K) d e (.bool (!PyData.eqv d e)) := fun x y H G w a b Q q => ⟨d, e, dp_ex w _ _ a, dp_ex w _ _ b, h1, h2, q _ H G (Gr.refl w) (.bl _)⟩
/-- in a list or tuple of ints -/
theorem inV_ints {k : Int} : ∀ l : IL, inV (.int k) (l.map V.int) = decide (k ∈ l)
  | [] => by simp [inV]
  | x :: l => by
    have ih := inV_ints (k := k) l
    unfold inV at ih ⊢
    rw [List.map_cons, List.any_cons, ih]
    show ((x == k) || _) = _
    by_cases h : x = k
    · simp [h]
    · simp [h, Ne.symm h]
theorem flat_ints : ∀ l : IL, (l.map V.int).all flatV = true
  | [] => rfl
  | x :: l => by
    rw [List.map_cons, List.all_cons, flat_ints l] <;> rfl
theorem ints_of {H : Hp} {x : V} {l : IL} (h : Dp K H x (.list (l.map PyData.int))) : ∃ p, x = .ref p ∧ SqL K H p (l.map V.int) := by
  cases h with
  | lst hs ha => exact ⟨_, rfl, by rw [← dpAll_ints ha]; exact hs⟩
theorem intsT_of {H : Hp} {x : V} {l : IL} (h : Dp K H x (.tuple (l.map PyData.int))) : ∃ p, x = .ref p ∧ SqT K H p (l.map V.int) := by
  cases h with
  | tup hs ha => exact ⟨_, rfl, by rw [← dpAll_ints ha]; exact hs⟩
theorem rv_inL {neg : Bool} {k : Int} {l : IL} : RvD K (rIn K neg) (.int k) (.list (l.map PyData.int)) (.bool (if neg then !decide (k ∈ l) else decide (k ∈ l))) := fun x y H G w h1 h2 Q q => by
  obtain ⟨p, rfl, hs⟩ := ints_of h2
  rw [int_inv h1]
  refine ⟨p, _, rfl, .inl (ex_l w hs), rfl, flat_ints l, ?_⟩
  rw [inV_ints]
  exact q _ H G (Gr.refl w) (.bl _)
theorem rv_inT {neg : Bool} {k : Int} {l : IL} : RvD K (rIn K neg) (.int k) (.tuple (l.map PyData.int)) (.bool (if neg then !decide (k ∈ l) else decide (k ∈ l))) := fun x y H G w h1 h2 Q q => by
  obtain ⟨p, rfl, hs⟩ := intsT_of h2
  rw [int_inv h1]
  refine ⟨p, _, rfl, .inr (ex_t w hs), rfl, flat_ints l, ?_⟩
  rw [inV_ints]
  exact q _ H G (Gr.refl w) (.bl _)
theorem rv_isL {k : Int} {l : IL} : RvD K (rIn K false) (.int k) (.list (l.map PyData.int)) (.bool (decide (k ∈ l))) := rv_inL
theorem rv_isT {k : Int} {l : IL} : RvD K (rIn K false) (.int k) (.tuple (l.map PyData.int)) (.bool (decide (k ∈ l))) := rv_inT
theorem rv_niL {k : Int} {l : IL} : RvD K (rIn K true) (.int k) (.list (l.map PyData.int)) (.bool (!decide (k ∈ l))) := rv_inL
theorem rv_niT {k : Int} {l : IL} : RvD K (rIn K true) (.int k) (.tuple (l.map PyData.int)) (.bool (!decide (k ∈ l))) := rv_inT
/-- subscripts -/
theorem rv_ixL {i : Int} {j : Nat} (hi : i = (j : Int)) (h : ds[j]? = some d) : RvD K (rIxL K) (.list ds) (.int i) d := fun x y H G w a b Q q => by
  rw [int_inv b, hi]
  cases a with
  | lst hs ha =>
    obtain ⟨v, h1, h2⟩ := dpAll_at ha h
    exact ⟨_, _, _, v, rfl, rfl, ex_l w hs, atI_nat h1, q v H G (Gr.refl w) h2⟩
theorem rv_ixT {i : Int} {j : Nat} (hi : i = (j : Int)) (h : ds[j]? = some d) : RvD K (rIxT K) (.tuple ds) (.int i) d := fun x y H G w a b Q q => by
  rw [int_inv b, hi]
  cases a with
  | tup hs ha =>
    obtain ⟨v, h1, h2⟩ := dpAll_at ha h
    exact ⟨_, _, _, v, rfl, rfl, ex_t w hs, atI_nat h1, q v H G (Gr.refl w) h2⟩
/-- displays -/
theorem ev_tup (h : EvA K tr δ ds) (hl : ds.length ≤ 1000) : Ev K (tTup tr) δ (.tuple ds) := fun σ H G s x Q q =>
  h σ H G s x _ fun vs H1 G1 e1 h1 => ⟨by
    rw [dpAll_len h1]
    exact Nat.le_of_lt (small1000 hl), fun p hp => q _ _ _ (e1.trans (Gr.new e1.hg hp)) (.tup (st_of upd_same) (dpAll_ex (Gr.new e1.hg hp).h ds vs h1))⟩
theorem ev_lst (h : EvA K tr δ ds) (hl : ds.length ≤ 1000) : Ev K (tLst tr) δ (.list ds) := fun σ H G s x Q q =>
  h σ H G s x _ fun vs H1 G1 e1 h1 => ⟨by
    rw [dpAll_len h1]
    exact Nat.le_of_lt (small1000 hl), fun p hp => q _ _ _ (e1.trans (Gr.new e1.hg hp)) (.lst (sq_of upd_same) (dpAll_ex (Gr.new e1.hg hp).h ds vs h1))⟩
/-- a new list, a new tuple of values that stand -/
theorem new_lst {H G : Hp} {vs : List V} {Q : VK} (w : Ex H G) (h : DpAll K H vs ds) (q : ∀ v H' G', Gr H G H' G' → Dp K H' v (.list ds) → Q v G') (p : Addr) (hp : G p = none) : Q (.ref p) (upd G p (.lst vs)) :=
  q _ _ _ (Gr.new w hp) (.lst (sq_of upd_same) (dpAll_ex (Gr.new w hp).h ds vs h))
theorem new_tup {H G : Hp} {vs : List V} {Q : VK} (w : Ex H G) (h : DpAll K H vs ds) (q : ∀ v H' G', Gr H G H' G' → Dp K H' v (.tuple ds) → Q v G') (p : Addr) (hp : G p = none) : Q (.ref p) (upd G p (.tup vs)) :=
  q _ _ _ (Gr.new w hp) (.tup (st_of upd_same) (dpAll_ex (Gr.new w hp).h ds vs h))
end

/-! ### lists, tuples laid together -/
def rCatL (K : PySem.W.Frag) : R2 := fun x y H Q => ∃ a b xs ys, x = .ref a ∧ y = .ref b ∧ SqL K H a xs ∧ SqL K H b ys ∧ xs.length + ys.length ≤ sizeLine ∧ ∀ p, H p = none → Q (.ref p) (upd H p (.lst (xs ++ ys)))
theorem op_catL {X : Cx} : OpR X (binaryOp .Add) (rCatL X.K) := by
  intro pins s σ H x y v u Q I rx ry h
  obtain ⟨a, b, xs, ys, rfl, rfl, ha, hb, hz, q⟩ := h
  cases rx
  cases ry
  obtain ⟨us, r1, p1, _⟩ := I.list ha
  obtain ⟨ws, r2, p2, _⟩ := I.list hb
  obtain ⟨⟨c1, d1, dt1, sl1⟩, g1, k1, n1, e1⟩ := id p1.isList
  obtain ⟨⟨c2, d2, dt2, sl2⟩, g2, k2, n2, e2⟩ := id p2.isList
  simp only at k1 e1 k2 e2
  subst k1 e1 k2 e2
  have hl : us.length + ws.length ≤ sizeLine := by rw [← r1.length, ← r2.length]; exact hz
  refine concat_meets ⟨_, g1, rfl⟩ ⟨_, g2, rfl⟩ noFill_list_add seq_list_add PySem.F.slot_list_add PySem.F.entry_list_add (PySem.F.args_list_add_2 _ _) (list_addW a b us.toArray ws.toArray n1 n2 d1 d2 sl1 sl2 (by simpa using hl)) ⟨g1, g2, ?_⟩
  have e : us.toArray ++ ws.toArray = (us ++ ws).toArray := by simp
  rw [e]
  exact ⟨.ref _, _, I.lnew (t' := s.toks) (r1.append r2) (by rw [List.length_append]; exact hz), rfl, q _ I.fresh⟩
section
variable {K : PySem.W.Frag} {δ : DS} {ta tb tc te : TE} {t u : TT} {tr : TA} {d e : PD} {ds es : List PD}
theorem rv_catL (h : ds.length + es.length ≤ 100000) : RvD K (rCatL K) (.list ds) (.list es) (.list (ds ++ es)) := fun x y H G w a b Q q => by
  cases a with
  | lst ha qa =>
    cases b with
    | lst hb qb =>
      refine ⟨_, _, _, _, rfl, rfl, ex_l w ha, ex_l w hb, ?_, new_lst w (dpAll_app qa qb) q⟩
      rw [dpAll_len qa, dpAll_len qb]
      exact Nat.le_trans h (by decide)
theorem rv_catT (h : ds.length + es.length ≤ 100000) : RvD K (rCatA K) (.tuple ds) (.tuple es) (.tuple (ds ++ es)) := fun x y H G w a b Q q => by
  cases a with
  | tup ha qa =>
    cases b with
    | tup hb qb =>
      rename_i a xs b ys
      have l1 := dpAll_len qa
      have l2 := dpAll_len qb
      have hz : xs.length + ys.length ≤ sizeLine := Nat.le_trans (by omega) (show 100000 ≤ sizeLine by decide)
      refine ⟨a, b, xs, ys, rfl, rfl, ex_t w ha, ex_t w hb, hz, fun e => ?_, fun _ e => ?_, fun _ _ => new_tup w (dpAll_app qa qb) q⟩
      · subst e
        cases qa
        exact q _ H G (Gr.refl w) (.tup hb qb)
      · subst e
        cases qb
        refine q _ H G (Gr.refl w) ?_
        rw [List.append_nil]
        exact .tup ha qa
/-! ### calls of what is built in -/
def RcD (K : PySem.W.Frag) (r : List V → Hp → VK → Prop) (ds : List PD) (z : PD) : Prop := ∀ (xs : List V) (H G : Hp), Ex H G → DpAll K H xs ds → ∀ Q : VK, (∀ v H' G', Gr H G H' G' → Dp K H' v z → Q v G') → r xs G Q
theorem ev_cb {r : List V → Hp → VK → Prop} {z : PD} (h : RcD K r ds z) (ha : EvA K tr δ ds) : Ev K (tCB r tr) δ z := fun σ H G s x Q q =>
  ha σ H G s x _ fun vs H1 G1 e1 h1 => h vs H1 G1 e1.hg h1 Q fun v H2 G2 e2 h2 => q v H2 G2 (e1.trans e2) h2
abbrev rLenS (K : PySem.W.Frag) : List V → Hp → VK → Prop := fun xs H Q => ∃ p ys, xs = [.ref p] ∧ (SqL K H p ys ∨ SqT K H p ys) ∧ Q (.int ys.length) H
theorem rc_lenL : RcD K (rLenS K) [.list ds] (.int ds.length) := fun xs H G w h Q q => by
  cases h with
  | cons a r =>
    cases r
    cases a with
    | lst ha qa => exact ⟨_, _, rfl, .inl (ex_l w ha), by rw [dpAll_len qa]; exact q _ H G (Gr.refl w) (.int _)⟩
theorem rc_lenT : RcD K (rLenS K) [.tuple ds] (.int ds.length) := fun xs H G w h Q q => by
  cases h with
  | cons a r =>
    cases r
    cases a with
    | tup ha qa => exact ⟨_, _, rfl, .inr (ex_t w ha), by rw [dpAll_len qa]; exact q _ H G (Gr.refl w) (.int _)⟩
abbrev rListS (K : PySem.W.Frag) : List V → Hp → VK → Prop := fun xs H Q => ∃ p ys, xs = [.ref p] ∧ (SqL K H p ys ∨ SqT K H p ys) ∧ ∀ l, H l = none → Q (.ref l) (upd H l (.lst ys))
theorem rc_listL : RcD K (rListS K) [.list ds] (.list ds) := fun xs H G w h Q q => by
  cases h with
  | cons a r =>
    cases r
    cases a with
    | lst ha qa => exact ⟨_, _, rfl, .inl (ex_l w ha), new_lst w qa q⟩
theorem rc_listT : RcD K (rListS K) [.tuple ds] (.list ds) := fun xs H G w h Q q => by
  cases h with
  | cons a r =>
    cases r
    cases a with
    | tup ha qa => exact ⟨_, _, rfl, .inr (ex_t w ha), new_lst w qa q⟩
abbrev rTupS (K : PySem.W.Frag) : List V → Hp → VK → Prop := fun xs H Q => ∃ p ys, xs = [.ref p] ∧ ((SqL K H p ys ∧ ∀ l, H l = none → Q (.ref l) (upd H l (.tup ys))) ∨ (SqT K H p ys ∧ Q (.ref p) H))
theorem rc_tupL : RcD K (rTupS K) [.list ds] (.tuple ds) := fun xs H G w h Q q => by
  cases h with
  | cons a r =>
    cases r
    cases a with
    | lst ha qa => exact ⟨_, _, rfl, .inl ⟨ex_l w ha, new_tup w qa q⟩⟩
theorem rc_sortedI {l : IL} : RcD K (rSortedI K) [.list (l.map PyData.int)] (.list ((isort l).map PyData.int)) := fun xs H G w h Q q => by
  cases h with
  | cons a r =>
    cases r
    obtain ⟨p, rfl, hs⟩ := ints_of a
    exact ⟨p, l, rfl, ex_l w hs, fun ns' o h1 h2 ho => by
      rw [isort_uniq h1 h2]
      exact new_lst w (ints_dpAll _) q o ho⟩
/-! ### a chain of comparisons, and, or, not, if -/
theorem ev_chain {f g : Int → Int → Bool} {i j k : Int} (ha : Ev K ta δ (.int i)) (hb : Ev K tb δ (.int j)) (hc : Ev K tc δ (.int k)) :
    Ev K (tChain (rI0 fun a b => .bl (f a b)) (rI0 fun a b => .bl (g a b)) ta tb tc) δ (.bool (f i j && g j k)) := fun σ H G s x Q q =>
  ha σ H G s x _ fun v H1 G1 e1 h1 => hb σ H1 G1 (s.ex e1.h) e1.hg _ fun y H2 G2 e2 h2 => by
    rw [int_inv h1, int_inv h2]
    refine ⟨i, j, rfl, rfl, f i j, rfl, ?_⟩
    cases hf : f i j with
    | false =>
      rw [hf] at q
      exact q _ H2 G2 (e1.trans e2) (.bl _)
    | true =>
      rw [hf] at q
      refine hc σ H2 G2 (s.ex (e1.trans e2).h) e2.hg _ fun z H3 G3 e3 h3 => ?_
      rw [int_inv h3]
      exact ⟨j, k, rfl, rfl, q _ H3 G3 ((e1.trans e2).trans e3) (.bl _)⟩
theorem eb_test {b : Bool} (h : Ev K te δ (.bool b)) : EvB K (tTest te) δ b := fun σ H G s x Q q => h σ H G s x _ fun v H1 G1 e1 h1 => ⟨b, bl_inv h1, q H1 G1 e1⟩
theorem eb_B {b : Bool} (h : Ev K te δ (.bool b)) : EvB K (tB te) δ b := fun σ H G s x Q q => h σ H G s x _ fun v H1 G1 e1 h1 => ⟨b, bl_inv h1, q H1 G1 e1⟩
theorem eb_and {a b : Bool} (h1 : EvB K t δ a) (h2 : a = true → EvB K u δ b) : EvB K (tAnd t u) δ (a && b) := fun σ H G s x Q q => h1 σ H G s x _ fun H1 G1 e1 => by
  cases a with
  | true => exact h2 rfl σ H1 G1 (s.ex e1.h) e1.hg Q fun H2 G2 e2 => q H2 G2 (e1.trans e2)
  | false => exact q H1 G1 e1
theorem eb_or {a b : Bool} (h1 : EvB K t δ a) (h2 : a = false → EvB K u δ b) : EvB K (tOr t u) δ (a || b) := fun σ H G s x Q q => h1 σ H G s x _ fun H1 G1 e1 => by
  cases a with
  | false => exact h2 rfl σ H1 G1 (s.ex e1.h) e1.hg Q fun H2 G2 e2 => q H2 G2 (e1.trans e2)
  | true => exact q H1 G1 e1
theorem eb_not {a : Bool} (h1 : EvB K t δ a) : EvB K (tNot t) δ (!a) := fun σ H G s x Q q => h1 σ H G s x _ fun H1 G1 e1 => q H1 G1 e1
theorem ev_and {a b : Bool} (h1 : Ev K ta δ (.bool a)) (h2 : a = true → Ev K tb δ (.bool b)) : Ev K (tAndV ta tb) δ (.bool (a && b)) := fun σ H G s x Q q => h1 σ H G s x _ fun v H1 G1 e1 g1 => ⟨a, bl_inv g1, by
  cases a with
  | true => exact h2 rfl σ H1 G1 (s.ex e1.h) e1.hg Q fun v2 H2 G2 e2 g2 => q v2 H2 G2 (e1.trans e2) g2
  | false => exact q _ H1 G1 e1 (.bl _)⟩
theorem ev_or {a b : Bool} (h1 : Ev K ta δ (.bool a)) (h2 : a = false → Ev K tb δ (.bool b)) : Ev K (tOrV ta tb) δ (.bool (a || b)) := fun σ H G s x Q q => h1 σ H G s x _ fun v H1 G1 e1 g1 => ⟨a, bl_inv g1, by
  cases a with
  | false => exact h2 rfl σ H1 G1 (s.ex e1.h) e1.hg Q fun v2 H2 G2 e2 g2 => q v2 H2 G2 (e1.trans e2) g2
  | true => exact q _ H1 G1 e1 (.bl _)⟩
theorem ev_not {a : Bool} (h1 : Ev K ta δ (.bool a)) : Ev K (tNotV ta) δ (.bool (!a)) := fun σ H G s x Q q => h1 σ H G s x _ fun v H1 G1 e1 g1 => ⟨a, bl_inv g1, q _ H1 G1 e1 (.bl _)⟩
theorem ev_if {b : Bool} (h : EvB K t δ b) (h1 : b = true → Ev K ta δ d) (h2 : b = false → Ev K tb δ d) : Ev K (tIf t ta tb) δ d := fun σ H G s x Q q => h σ H G s x _ fun H1 G1 e1 => by
  cases b with
  | true => exact h1 rfl σ H1 G1 (s.ex e1.h) e1.hg Q fun v H2 G2 e2 g => q v H2 G2 (e1.trans e2) g
  | false => exact h2 rfl σ H1 G1 (s.ex e1.h) e1.hg Q fun v H2 G2 e2 g => q v H2 G2 (e1.trans e2) g
theorem ev_neg {i : Int} (h : Ev K ta δ (.int i)) : Ev K (tUn (rU fun i => .int (-i)) ta) δ (.int (-i)) := fun σ H G s x Q q => h σ H G s x _ fun v H1 G1 e1 g => ⟨i, int_inv g, q _ H1 G1 e1 (.int _)⟩
/-! ### targets -/
/-- the target takes d, from slots told by δ to slots told by δ'; js are its places -/
def EvG (K : PySem.W.Frag) (js : List Nat) (g : TG) (d : PD) (δ δ' : DS) : Prop := ∀ (σ : L2.St) (H G : Hp) (v : V), Sl K H σ δ → Ex H G → Dp K H v d → ∀ Q : L2.St → Hp → Prop,
  (∀ σ', Sl K H σ' δ' → (∀ vs : List Nat, (∀ j ∈ js, j ∈ vs) → wipe σ' vs = wipe σ vs) → Q σ' G) → g v σ G Q
theorem eg_name {j : Nat} : EvG K [j] (gName j) d δ (δ.set j (some d)) := fun σ H G v s w h Q q => q _ (s.set h j) fun vs hv => wipe_swap σ vs j _ (hv j (by simp))
theorem eg_pair {i j : Nat} {a b : PD} : EvG K [i, j] (gTup K 2 (gCons (gName i) (gCons (gName j) gNil))) (.tuple [a, b]) δ ((δ.set i (some a)).set j (some b)) := fun σ H G v s w h Q q => by
  cases h with
  | tup hs ha =>
    cases ha with
    | cons h1 r =>
      cases r with
      | cons h2 r2 =>
        cases r2
        refine ⟨_, _, rfl, ex_t w hs, rfl, _, _, rfl, _, _, rfl, rfl, q _ ((s.set h1 i).set h2 j) fun vs hv => ?_⟩
        rw [wipe_swap _ vs j _ (hv j (by simp)), wipe_swap _ vs i _ (hv i (by simp))]
theorem eg_three {i j k : Nat} {a b c : PD} : EvG K [i, j, k] (gTup K 3 (gCons (gName i) (gCons (gName j) (gCons (gName k) gNil)))) (.tuple [a, b, c]) δ (((δ.set i (some a)).set j (some b)).set k (some c)) := fun σ H G v s w h Q q => by
  cases h with
  | tup hs ha =>
    cases ha with
    | cons h1 r =>
      cases r with
      | cons h2 r2 =>
        cases r2 with
        | cons h3 r3 =>
          cases r3
          refine ⟨_, _, rfl, ex_t w hs, rfl, _, _, rfl, _, _, rfl, _, _, rfl, rfl, q _ (((s.set h1 i).set h2 j).set h3 k) fun vs hv => ?_⟩
          rw [wipe_swap _ vs k _ (hv k (by simp)), wipe_swap _ vs j _ (hv j (by simp)), wipe_swap _ vs i _ (hv i (by simp))]
/-! ### what is walked -/
def WkD (K : PySem.W.Frag) (J : It) (H : Hp) (ds : List PD) : Prop := Walk J ds.length (fun G => Ex H G) fun i G x G' => ∀ Hk, Ex H Hk → Ex Hk G → ∃ Hk' d, Gr Hk G Hk' G' ∧ ds[i]? = some d ∧ Dp K Hk' x d
def EvI (K : PySem.W.Frag) (wi : TI) (δ : DS) (ds : List PD) : Prop := ∀ (σ : L2.St) (H G : Hp), Sl K H σ δ → Ex H G → ∀ R : It → Hp → Prop, (∀ J H' G', Gr H G H' G' → WkD K J H' ds → R J G') → wi σ G R
theorem ei_list (h : Ev K te δ (.list ds)) : EvI K (iList K te) δ ds := fun σ H G s w R q => h σ H G s w _ fun v H1 G1 e1 g => by
  cases g with
  | lst hs ha =>
    rename_i a xs
    refine ⟨a, rfl, ⟨_, ex_l e1.hg hs⟩, q _ H1 G1 e1 ?_⟩
    unfold WkD
    rw [← dpAll_len ha]
    refine walk_list.mono (fun G2 e2 => ex_l e2 hs) fun i G2 x G' _ e2 y Hk k1 k2 => ?_
    obtain ⟨rfl, y⟩ := y
    obtain ⟨d, h1, h2⟩ := dpAll_get ha y
    exact ⟨Hk, d, Gr.refl k2, h1, dp_ex k1 d x h2⟩
theorem ei_tup (h : Ev K te δ (.tuple ds)) : EvI K (iTup K te) δ ds := fun σ H G s w R q => h σ H G s w _ fun v H1 G1 e1 g => by
  cases g with
  | tup hs ha =>
    rename_i a xs
    refine ⟨a, rfl, ⟨_, ex_t e1.hg hs⟩, q _ H1 G1 e1 ?_⟩
    unfold WkD
    rw [← dpAll_len ha]
    refine walk_tup.mono (fun G2 e2 => ex_t e2 hs) fun i G2 x G' _ e2 y Hk k1 k2 => ?_
    obtain ⟨rfl, y⟩ := y
    obtain ⟨d, h1, h2⟩ := dpAll_get ha y
    exact ⟨Hk, d, Gr.refl k2, h1, dp_ex k1 d x h2⟩
theorem ei_rng {n : Nat} (h : EvA K tr δ [.int (n : Int)]) (hn : n ≤ 100000) : EvI K (iRng1 tr) δ ((rng n).map PyData.int) := fun σ H G s w R q => h σ H G s w _ fun vs H1 G1 e1 g => by
  cases g with
  | cons g1 r =>
    cases r
    rw [int_inv g1]
    refine ⟨n, rfl, by omega, by omega, q _ H1 G1 e1 ?_⟩
    unfold WkD
    rw [List.length_map, rng_len, Int.toNat_natCast]
    refine walk_range.mono (fun _ _ => trivial) fun i G2 x G' hi _ y Hk k1 k2 => ?_
    obtain ⟨rfl, rfl⟩ := y
    refine ⟨Hk, .int (i : Int), Gr.refl k2, ?_, ?_⟩
    · unfold rng
      rw [List.map_map, List.getElem?_map, List.getElem?_range hi] <;> rfl
    · show Dp K Hk (V.int (0 + (i : Int))) _
      rw [Int.zero_add]
      exact .int _
/-! ### comprehensions -/
theorem ev_lc {α : Type} {emb : α → PD} {l : List α} {wi : TI} {g : TG} {tt : TT} {vs js : List Nat} {δ' : α → DS} (f : α → Bool) (m : α → PD) (hi : EvI K wi δ (l.map emb)) (hg : ∀ a ∈ l, EvG K js g (emb a) (wipeD δ vs) (δ' a)) (hj : ∀ j ∈ js, j ∈ vs)
    (hl : l.length ≤ 100000) (ht : ∀ a ∈ l, EvB K tt (δ' a) (f a)) (he : ∀ a ∈ l, f a = true → Ev K te (δ' a) (m a)) : Ev K (tLc wi g tt te vs) δ (.list ((l.filter f).map m)) := fun σ H G s w Q q => hi σ H G s w _ fun J H1 G1 e1 W D hD => by
  unfold WkD at W
  rw [List.length_map] at W
  have hD1 : H1 D = none := ex_none e1.hg hD
  refine lc_it W (fun i G2 => ∃ Hk acc, Ex G1 G2 ∧ Ex H1 Hk ∧ Ex Hk G2 ∧ Hk D = none ∧ (∀ a, G1 a ≠ none → Hk a = H1 a) ∧ G2 D = some (.lst acc) ∧ DpAll K Hk acc (((l.take i).filter f).map m) ∧ acc.length ≤ i)
    ⟨H1, [], Ex.new hD, Ex.refl H1, Ex.chg e1.hg hD1, hD1, fun _ _ => rfl, upd_same, .nil, Nat.le_refl _⟩ (fun i G2 _ p => ?_) (fun i x G2 G3 hi p y => ?_) fun G2 p => ?_
  · obtain ⟨Hk, acc, _, a, b, _⟩ := p
    exact a.trans b
  · obtain ⟨Hk, acc, e2, k1, k2, kD, kold, hacc, dacc, lacc⟩ := p
    obtain ⟨Hk2, d, g2, hd, hx⟩ := y Hk k1 k2
    rw [List.getElem?_map] at hd
    obtain ⟨a, ha, rfl⟩ := Option.map_eq_some_iff.mp hd
    have hm : a ∈ l := List.mem_of_getElem? ha
    have tk : l.take (i + 1) = l.take i ++ [a] := by rw [List.take_add_one, ha] <;> rfl
    have GD : G2 D ≠ none := by
      rw [hacc]
      exact fun c => by cases c
    refine hg a hm _ Hk2 G3 x ((s.ex (e1.h.trans (k1.trans g2.h))).wipe vs) g2.hg hx _ fun σ2 s2 hw => ⟨by rw [hw vs hj, wipe_wipe], ?_⟩
    refine ht a hm σ2 Hk2 G3 s2 g2.hg _ fun Hk4 G4 g4 => ?_
    have g24 := g2.trans g4
    cases hf : f a with
    | false =>
      rw [if_neg Bool.false_ne_true]
      refine ⟨Hk4, acc, e2.trans g24.g, k1.trans g24.h, g24.hg, (g24.old D GD).trans kD, fun b hb => (g24.old b (ex_some e2 hb)).trans (kold b hb), g24.g _ _ hacc, ?_, by omega⟩
      rw [tk, List.filter_append, List.filter_cons_of_neg (by rw [hf]; exact Bool.false_ne_true)]
      show DpAll K Hk4 acc ((List.filter f (List.take i l) ++ []).map m)
      rw [List.append_nil]
      exact dpAll_ex g24.h _ _ dacc
    | true =>
      rw [if_pos rfl]
      refine he a hm hf σ2 Hk4 G4 (s2.ex g4.h) g4.hg _ fun v Hk5 G5 g5 hv => ?_
      have g25 := g24.trans g5
      have kD5 : Hk5 D = none := (g25.old D GD).trans kD
      refine ⟨acc, g25.g _ _ hacc, Nat.lt_of_le_of_lt lacc (Nat.lt_of_lt_of_le (Nat.lt_of_lt_of_le hi hl) (by decide)), Hk5, acc ++ [v], Ex.chg (e2.trans g25.g) hD, k1.trans g25.h, Ex.chg g25.hg kD5, kD5, fun b hb => (g25.old b (ex_some e2 hb)).trans (kold b hb), upd_same, ?_, ?_⟩
      · rw [tk, List.filter_append, List.map_append, List.filter_cons_of_pos hf]
        exact dpAll_app (dpAll_ex g25.h _ _ dacc) (.cons hv .nil)
      · rw [List.length_append]
        exact Nat.succ_le_succ lacc
  · obtain ⟨Hk, acc, e2, k1, k2, kD, kold, hacc, dacc, lacc⟩ := p
    rw [List.take_length] at dacc
    refine q _ (upd Hk D (.lst acc)) G2 (e1.trans ⟨e2, fun a o h => ?_, fun a o h => ?_, fun a ha => ?_⟩) (.lst (sq_of upd_same) (dpAll_ex (Ex.new kD) _ _ dacc))
    · rw [upd_ne (ne_of_none h hD1)]
      exact k1 a o h
    · by_cases c : a = D
      · subst c
        rw [upd_same] at h
        rw [← h]
        exact hacc
      · rw [upd_ne c] at h
        exact k2 a o h
    · rw [upd_ne fun c : a = D => ha (by rw [c]; exact hD)]
      exact kold a ha
end

/-! ### statements -/
/-- run in slots told by δ: it goes on with N, or hands back what Rt says; it changes nothing that is known or tracked -/
def WS (K : PySem.W.Frag) (t : TS) (δ : DS) (N : DS → Prop) (Rt : PD → Prop) : Prop := ∀ (D : Ends) (σ : L2.St) (H G : Hp), Sl K H σ δ → Ex H G →
  (∀ δ' σ' H' G', Gr H G H' G' → Sl K H' σ' δ' → N δ' → D.nx σ' G') → (∀ v d H' G', Gr H G H' G' → Dp K H' v d → Rt d → D.rt v G') → t D σ G
section
variable {K : PySem.W.Frag} {δ : DS} {ta tb tc te : TE} {c : TT} {t u : TS} {tr : TA} {d e : PD} {ds es : List PD} {N M : DS → Prop} {Rt : PD → Prop}
theorem ws_nx (h : N δ) : WS K tNext δ N Rt := fun D σ H G s w q _ => q δ σ H G (Gr.refl w) s h
theorem ws_seq (h : WS K t δ M Rt) (k : ∀ δ', M δ' → WS K u δ' N Rt) : WS K (tSeq t u) δ N Rt := fun D σ H G s w q r =>
  h { D with nx := u D } σ H G s w (fun δ' σ' H' G' g s' m => k δ' m D σ' H' G' s' g.hg (fun δ2 σ2 H2 G2 g2 => q δ2 σ2 H2 G2 (g.trans g2)) fun v d H2 G2 g2 => r v d H2 G2 (g.trans g2)) r
theorem ws_set {i : Nat} (h : Ev K te δ d) (k : WS K u (δ.set i (some d)) N Rt) : WS K (tSeq (tAsg te (gName i)) u) δ N Rt := fun D σ H G s w q r =>
  h σ H G s w _ fun v H1 G1 g1 hv => k D _ H1 G1 ((s.ex g1.h).set hv i) g1.hg (fun δ2 σ2 H2 G2 g2 => q δ2 σ2 H2 G2 (g1.trans g2)) fun v d H2 G2 g2 => r v d H2 G2 (g1.trans g2)
theorem ws_asg {i : Nat} (h : Ev K te δ d) (k : N (δ.set i (some d))) : WS K (tAsg te (gName i)) δ N Rt := fun D σ H G s w q r =>
  h σ H G s w _ fun v H1 G1 g1 hv => q _ _ H1 G1 g1 ((s.ex g1.h).set hv i) k
theorem ws_asgG {js : List Nat} {g : TG} {δ' : DS} (h : Ev K te δ d) (hg : EvG K js g d δ δ') (k : WS K u δ' N Rt) : WS K (tSeq (tAsg te g) u) δ N Rt := fun D σ H G s w q r =>
  h σ H G s w _ fun v H1 G1 g1 hv => hg σ H1 G1 v (s.ex g1.h) g1.hg hv _ fun σ' s' _ => k D σ' H1 G1 s' g1.hg (fun δ2 σ2 H2 G2 g2 => q δ2 σ2 H2 G2 (g1.trans g2)) fun v d H2 G2 g2 => r v d H2 G2 (g1.trans g2)
theorem ws_par {i j : Nat} {a b : PD} (h : EvA K tr δ [a, b]) (k : WS K u ((δ.set i (some a)).set j (some b)) N Rt) : WS K (tSeq (tPar i j tr) u) δ N Rt := fun D σ H G s w q r =>
  h σ H G s w _ fun vs H1 G1 g1 hv => by
    cases hv with
    | cons h1 hv =>
      cases hv with
      | cons h2 hv =>
        cases hv
        exact ⟨_, _, rfl, k D _ H1 G1 (((s.ex g1.h).set h1 i).set h2 j) g1.hg (fun δ2 σ2 H2 G2 g2 => q δ2 σ2 H2 G2 (g1.trans g2)) fun v d H2 G2 g2 => r v d H2 G2 (g1.trans g2)⟩
theorem ws_par3 {i j l : Nat} {a b c : PD} (h : EvA K tr δ [a, b, c]) (k : WS K u (((δ.set i (some a)).set j (some b)).set l (some c)) N Rt) : WS K (tSeq (tPar3 i j l tr) u) δ N Rt := fun D σ H G s w q r =>
  h σ H G s w _ fun vs H1 G1 g1 hv => by
    cases hv with
    | cons h1 hv =>
      cases hv with
      | cons h2 hv =>
        cases hv with
        | cons h3 hv =>
          cases hv
          exact ⟨_, _, _, rfl, k D _ H1 G1 ((((s.ex g1.h).set h1 i).set h2 j).set h3 l) g1.hg (fun δ2 σ2 H2 G2 g2 => q δ2 σ2 H2 G2 (g1.trans g2)) fun v d H2 G2 g2 => r v d H2 G2 (g1.trans g2)⟩
theorem ws_drop (h : Ev K te δ d) (k : WS K u δ N Rt) : WS K (tSeq (tDrop te) u) δ N Rt := fun D σ H G s w q r =>
  h σ H G s w _ fun v H1 G1 g1 hv => k D σ H1 G1 (s.ex g1.h) g1.hg (fun δ2 σ2 H2 G2 g2 => q δ2 σ2 H2 G2 (g1.trans g2)) fun v d H2 G2 g2 => r v d H2 G2 (g1.trans g2)
theorem ws_drop1 (h : Ev K te δ d) (k : N δ) : WS K (tDrop te) δ N Rt := fun D σ H G s w q r =>
  h σ H G s w _ fun v H1 G1 g1 hv => q δ σ H1 G1 g1 (s.ex g1.h) k
theorem ws_ret (h : Ev K te δ d) (k : Rt d) : WS K (tRet te) δ N Rt := fun D σ H G s w q r => h σ H G s w _ fun v H1 G1 g1 hv => r v d H1 G1 g1 hv k
theorem ws_if {b : Bool} (h : EvB K c δ b) (h1 : b = true → WS K t δ N Rt) (h2 : b = false → WS K u δ N Rt) : WS K (tIfS c t u) δ N Rt := fun D σ H G s w q r =>
  h σ H G s w _ fun H1 G1 g1 => by
    cases b with
    | true => exact h1 rfl D σ H1 G1 (s.ex g1.h) g1.hg (fun δ2 σ2 H2 G2 g2 => q δ2 σ2 H2 G2 (g1.trans g2)) fun v d H2 G2 g2 => r v d H2 G2 (g1.trans g2)
    | false => exact h2 rfl D σ H1 G1 (s.ex g1.h) g1.hg (fun δ2 σ2 H2 G2 g2 => q δ2 σ2 H2 G2 (g1.trans g2)) fun v d H2 G2 g2 => r v d H2 G2 (g1.trans g2)
/-- an if that is not taken, without else: the rest -/
theorem ws_skip (h : EvB K c δ false) (k : WS K u δ N Rt) : WS K (tSeq (tIfS c t tNext) u) δ N Rt :=
  ws_seq (M := fun δ' => δ' = δ) (ws_if h (fun e => by cases e) fun _ => ws_nx rfl) fun δ' e => by
    rw [e]
    exact k
/-- a for: Inv by the turn -/
theorem ws_for {wi : TI} {g : TG} {tb : TS} {js : List Nat} {l : List PD} {δ' : DS → PD → DS} (Pv : Nat → DS → Prop) (hi : EvI K wi δ l) (h0 : Pv 0 δ) (hg : ∀ δ1 d, d ∈ l → EvG K js g d δ1 (δ' δ1 d))
    (hs : ∀ (i : Nat) d δ1, l[i]? = some d → Pv i δ1 → WS K tb (δ' δ1 d) (Pv (i + 1)) Rt) (hd : ∀ δ1, Pv l.length δ1 → N δ1) : WS K (tFor wi g tb) δ N Rt := fun D σ H G s w q r =>
  hi σ H G s w _ fun J H1 G1 g1 W => by
    refine for_it W (fun i σ2 G2 => ∃ Hk δ2, Gr H1 G1 Hk G2 ∧ Sl K Hk σ2 δ2 ∧ Pv i δ2) ⟨H1, δ, Gr.refl g1.hg, s.ex g1.h, h0⟩ (fun i σ2 G2 _ p => ?_) (fun i x σ2 G2 G3 hi p y => ?_) fun σ2 G2 p => ?_
    · obtain ⟨Hk, δ2, g2, _⟩ := p
      exact g2.h.trans g2.hg
    · obtain ⟨Hk, δ2, g2, s2, hp⟩ := p
      obtain ⟨Hk2, d, g3, hd', hx⟩ := y Hk g2.h g2.hg
      have hm : d ∈ l := List.mem_of_getElem? hd'
      refine hg δ2 d hm σ2 Hk2 G3 x (s2.ex g3.h) g3.hg hx _ fun σ3 s3 _ => ?_
      exact hs i d δ2 hd' hp _ σ3 Hk2 G3 s3 g3.hg (fun δ4 σ4 H4 G4 g4 s4 p4 => ⟨H4, δ4, g2.trans (g3.trans g4), s4, p4⟩) fun v d H4 G4 g4 => r v d H4 G4 (g1.trans (g2.trans (g3.trans g4)))
    · obtain ⟨Hk, δ2, g2, s2, hp⟩ := p
      exact q δ2 σ2 Hk G2 (g1.trans g2) s2 (hd δ2 hp)
/-- a while -/
theorem ws_while (Pv : DS → Prop) (μ : DS → Nat) (f : DS → Bool) (h0 : Pv δ) (hc : ∀ δ1, Pv δ1 → EvB K c δ1 (f δ1)) (hs : ∀ δ1, Pv δ1 → f δ1 = true → WS K t δ1 (fun δ2 => Pv δ2 ∧ μ δ2 < μ δ1) Rt) (hd : ∀ δ1, Pv δ1 → f δ1 = false → N δ1) :
    WS K (tWhile c t) δ N Rt := fun D σ H G s w q r => by
  refine ⟨fun m σ1 G1 => ∃ Hk δ1, Gr H G Hk G1 ∧ Sl K Hk σ1 δ1 ∧ Pv δ1 ∧ μ δ1 = m, ⟨μ δ, H, δ, Gr.refl w, s, h0, rfl⟩, ?_⟩
  rintro m σ1 G1 ⟨Hk, δ1, g1, s1, p1, rfl⟩
  refine hc δ1 p1 σ1 Hk G1 s1 g1.hg _ fun H2 G2 g2 => ?_
  cases hf : f δ1 with
  | true =>
    rw [if_pos rfl]
    refine ⟨fun σ2 G3 => ∃ Hk2 δ2, Gr H G Hk2 G3 ∧ Sl K Hk2 σ2 δ2 ∧ Pv δ2 ∧ μ δ2 < μ δ1, fun σ2 G3 ⟨Hk2, δ2, a, b, c, e⟩ => ⟨μ δ2, e, Hk2, δ2, a, b, c, rfl⟩, ?_⟩
    exact hs δ1 p1 hf _ σ1 H2 G2 (s1.ex g2.h) g2.hg (fun δ3 σ3 H3 G3 g3 s3 p3 => ⟨H3, δ3, g1.trans (g2.trans g3), s3, p3.1, p3.2⟩) fun v d H3 G3 g3 => r v d H3 G3 (g1.trans (g2.trans g3))
  | false =>
    rw [if_neg Bool.false_ne_true]
    exact q δ1 σ1 H2 G2 (g1.trans g2) (s1.ex g2.h) (hd δ1 p1 hf)
end

/-! ### defs -/
/-- the promise of a def that only reckons: R says what it hands back -/
def spR (K : PySem.W.Frag) (R : List PD → PD → Prop) : Sp := fun vs G Q _ => ∃ H ds d, Ex H G ∧ DpAll K H vs ds ∧ R ds d ∧ ∀ v H' G', Gr H G H' G' → Dp K H' v d → Q v G'
theorem ev_call {K : PySem.W.Frag} {δ : DS} {R : List PD → PD → Prop} {E : XK} {tr : TA} {ds : List PD} {d : PD} (ha : EvA K tr δ ds) (h : R ds d) : Ev K (tCall (spR K R) [] E tr) δ d := fun σ H G s w Q q =>
  ha σ H G s w _ fun vs H1 G1 g1 h1 => by
    rw [List.append_nil]
    exact ⟨H1, ds, d, g1.hg, h1, h, fun v H2 G2 g2 => q v H2 G2 (g1.trans g2)⟩
def startD (N : List Str) (ds : List PD) : DS := ds.map some ++ List.replicate (N.length - ds.length) none
theorem sl_start {K : PySem.W.Frag} {H : Hp} {N : List Str} : ∀ {ds : List PD} {vs : List V}, DpAll K H vs ds → Sl K H (L2.start N vs) (startD N ds) := fun {ds vs} h => by
  have hl := dpAll_len h
  refine ⟨by unfold L2.start startD; simp [hl], fun i d e => ?_⟩
  unfold startD at e
  unfold L2.start
  by_cases c : i < ds.length
  · rw [List.getElem?_append_left (by rw [List.length_map]; exact c), List.getElem?_map] at e
    rw [List.getElem?_append_left (by rw [List.length_map, hl]; exact c), List.getElem?_map]
    obtain ⟨d', h1, h2⟩ := Option.map_eq_some_iff.mp e
    cases h2
    obtain ⟨v, h3, h4⟩ := dpAll_at h h1
    exact ⟨v, by rw [h3] <;> rfl, h4⟩
  · rw [List.getElem?_append_right (by rw [List.length_map]; omega), List.getElem?_replicate] at e
    split at e <;> cases e
section
variable {P : Program} {w : World} {K : PySem.W.Frag} {mg : Str → Option Value} {base : Heap}
/-- a def of the text -/
abbrev FnP (K : PySem.W.Frag) (x : Str) (st : Stmt) (f : Addr) (fd : FuncData) : Prop := FunD K x x (defArgs st) (defBody st) (defScope st) [] [] f fd
/-- THE RULE for a def that only reckons -/
theorem fn_ok {x : Str} {st : Stmt} {f : Addr} {fd : FuncData} {N ps : List Str} {k : Nat} {R : List PD → PD → Prop} (F : FnP K x st f fd) (S : FnScope N ps (defScope st)) (len : ∀ ds d, R ds d → ds.length = ps.length)
    (hb : ∀ (cdv : Value) (A : Around) (outer : List Env) (s : Shared) (H : Hp) (E : XK), Room k (A.deeper (envOfC x (defScope st) s.heap.objs.size f cdv)) →
      ∃ t, PSs (cxOf CX0 P w K mg base N x (defScope st) f cdv A outer s H E).nox (defBody st) t ∧ ∀ ds d, R ds d → WS K t (startD N ds) (fun _ => d = .none) (fun d' => d' = d)) : FnOk P w K mg base CX0 (k + 1) f fd ps (spR K R) := by
  refine F.ok S (fun vs H Q E h => ?_) (fun cdv A outer s H vs Q E hr h => ?_)
  · obtain ⟨H1, ds, d, _, h1, h2, _⟩ := h
    rw [dpAll_len h1]
    exact len ds d h2
  · obtain ⟨H1, ds, d, w1, h1, h2, q⟩ := h
    obtain ⟨t, ht, hw⟩ := hb cdv A outer s H E hr
    refine ⟨t, ht.nox, hw ds d h2 _ _ H1 H (sl_start h1) w1 (fun δ' σ' H' G' g _ e => ?_) fun v d' H' G' g hv e => ?_⟩
    · subst e
      exact q .non H' G' g .non
    · subst e
      exact q v H' G' g hv
end
end Ld
set_option maxHeartbeats 4000000
namespace Ld
open PySem PySem.Spec PyProof.Rows L2
open Evl (Ex ex_l ex_t sq_of st_of fresh_back)
/-- the module's names that are still built in -/
structure Tx (mg : Str → Option Value) : Prop where
  isi : mg "isinstance" = none
  int : mg "int" = none
  bool : mg "bool" = none
  tuple : mg "tuple" = none
  list : mg "list" = none
  str : mg "str" = none
  len : mg "len" = none
  range : mg "range" = none
  sorted : mg "sorted" = none
  set : mg "set" = none
  enumerate : mg "enumerate" = none
  min : mg "min" = none
  most : ∃ t, mg "MOST_DOORS" = some (.int 9 t)
/-- a def that may be called -/
structure Cal (P : Program) (w : World) (K : PySem.W.Frag) (mg : Str → Option Value) (base : Heap) (x : Str) (ps : List Str) (k : Nat) (sp : Sp) : Prop where
  ex : ∃ f fd, FnOk P w K mg base CX0 k f fd ps sp ∧ mg x = some (.ref f) ∧ PySem.W.keepIn K (.ref f) = true ∧ Binds K fd ps []
theorem cal_of {P : Program} {w : World} {K : PySem.W.Frag} {mg : Str → Option Value} {base : Heap} {x : Str} {ps : List Str} {k : Nat} {sp : Sp} {st : Stmt} {f : Addr} {fd : FuncData} (F : FnP K x st f fd) (h : FnOk P w K mg base CX0 k f fd ps sp) (g : mg x = some (.ref f))
    (b : Binds K fd ps []) : Cal P w K mg base x ps k sp := ⟨f, fd, h, g, F.kp, b⟩
section
variable {X : Cx} {x : Str} {ps : List Str} {k j : Nat} {sp : Sp} {e : Expr} {es : List Expr} {t : TA} {p pos : Pos}
theorem pc (c : Cal X.prog X.w X.K X.mg X.base x ps k sp) (hr : Room j X.A) (hk : k ≤ j) (hg : Gl X x) (ha : PA X (e :: es) t) (hdb : (x == ("__debug__" : Str)) = false := by decide) (he : starEach (e :: es) X.env = (false, eval e X.env) :: starEach es X.env := by rfl)
    (hpl : (backTo pos (starEach es X.env)).any (·.1) = false := by rfl) : PE X (.Call (.Name x p) (e :: es) [] pos) (tCall sp [] E0 t) := by
  obtain ⟨f, fd, h1, h2, h3, h4⟩ := c.ex
  exact pe_call h1 (hr.mono hk) hg h2 h3 h4 .nil pass0 ha hdb he hpl
end

/-! ### isinstance -/
section
variable {K : PySem.W.Frag} {δ : DS} {ta : TE} {d : PD} {ds : List PD}
theorem ty_tup {H G : Hp} {v : V} (w : Ex H G) (h : Dp K H v (.tuple ds)) : TyX K G v (.type "tuple") := by
  cases h with
  | tup hs ha =>
    rcases hs with (h | ⟨o, h⟩) | ⟨o, its, n, h1, h2, _⟩
    · exact .base (.tup (w _ _ h))
    · exact .fTuple (w _ _ h)
    · exact .kTuple h1 h2
theorem ty_int {H G : Hp} {v : V} {i : Int} (h : Dp K H v (.int i)) : TyX K G v (.type "int") := by
  rw [int_inv h]
  exact .base (.int i)
theorem ty_bl {H G : Hp} {v : V} {i : Bool} (h : Dp K H v (.bool i)) : TyX K G v (.type "bool") := by
  rw [bl_inv h]
  exact .base (.bl i)
theorem ev_isi {T : String} {b : Bool} (ha : Ev K ta δ d) (h : ∀ v H G, Ex H G → Dp K H v d → ∃ t, TyX K G v t ∧ PySem.W.kitOne K t (.type T) = some b) : Ev K (tCB (rIsi K) (tCons ta (tCons (tC (.ty T)) tNil))) δ (.bool b) := fun σ H G s w Q q =>
  ha σ H G s w _ fun v H1 G1 g1 h1 => by
    obtain ⟨t, h2, h3⟩ := h v H1 G1 g1.hg h1
    exact ⟨v, .ty T, t, .type T, b, rfl, .ty T, h2, h3, q _ H1 G1 g1 (.bl b)⟩
theorem isi_int_int {i : Int} (ha : Ev K ta δ (.int i)) : Ev K (tCB (rIsi K) (tCons ta (tCons (tC (.ty "int")) tNil))) δ (.bool true) :=
  ev_isi ha fun v H G _ h => ⟨.type "int", ty_int h, kit_ty (by decide +kernel)⟩
theorem isi_int_bool {i : Int} (ha : Ev K ta δ (.int i)) : Ev K (tCB (rIsi K) (tCons ta (tCons (tC (.ty "bool")) tNil))) δ (.bool false) :=
  ev_isi ha fun v H G _ h => ⟨.type "int", ty_int h, kit_ty (by decide +kernel)⟩
theorem isi_int_str {i : Int} (ha : Ev K ta δ (.int i)) : Ev K (tCB (rIsi K) (tCons ta (tCons (tC (.ty "str")) tNil))) δ (.bool false) :=
  ev_isi ha fun v H G _ h => ⟨.type "int", ty_int h, kit_ty (by decide +kernel)⟩
theorem isi_bl_int {b : Bool} (ha : Ev K ta δ (.bool b)) : Ev K (tCB (rIsi K) (tCons ta (tCons (tC (.ty "int")) tNil))) δ (.bool true) :=
  ev_isi ha fun v H G _ h => ⟨.type "bool", ty_bl h, kit_ty (by decide +kernel)⟩
theorem isi_bl_bool {b : Bool} (ha : Ev K ta δ (.bool b)) : Ev K (tCB (rIsi K) (tCons ta (tCons (tC (.ty "bool")) tNil))) δ (.bool true) :=
  ev_isi ha fun v H G _ h => ⟨.type "bool", ty_bl h, kit_ty (by decide +kernel)⟩
theorem isi_bl_str {b : Bool} (ha : Ev K ta δ (.bool b)) : Ev K (tCB (rIsi K) (tCons ta (tCons (tC (.ty "str")) tNil))) δ (.bool false) :=
  ev_isi ha fun v H G _ h => ⟨.type "bool", ty_bl h, kit_ty (by decide +kernel)⟩
theorem isi_tup_tuple (ha : Ev K ta δ (.tuple ds)) : Ev K (tCB (rIsi K) (tCons ta (tCons (tC (.ty "tuple")) tNil))) δ (.bool true) :=
  ev_isi ha fun v H G w h => ⟨.type "tuple", ty_tup w h, kit_ty (by decide +kernel)⟩
theorem isi_tup_list (ha : Ev K ta δ (.tuple ds)) : Ev K (tCB (rIsi K) (tCons ta (tCons (tC (.ty "list")) tNil))) δ (.bool false) :=
  ev_isi ha fun v H G w h => ⟨.type "tuple", ty_tup w h, kit_ty (by decide +kernel)⟩
/-- isinstance(x, (tuple, list)) -/
theorem ev_isiT {b : Bool} (ha : Ev K ta δ d) (h : ∀ v H G, Ex H G → Dp K H v d → ∃ t, TyX K G v t ∧ PySem.W.kitAny K t [.type "tuple", .type "list"] = some b) :
    Ev K (tCB (rIsiT K) (tCons ta (tCons (tTup (tCons (tC (.ty "tuple")) (tCons (tC (.ty "list")) tNil))) tNil))) δ (.bool b) := fun σ H G s w Q q =>
  ha σ H G s w _ fun v H1 G1 g1 h1 => ⟨by show 2 ≤ sizeLine; decide, fun p hp => by
    have g2 : Gr H1 G1 (upd H1 p _) (upd G1 p (.tup [.ty "tuple", .ty "list"])) := Gr.new g1.hg hp
    obtain ⟨t, h2, h3⟩ := h v _ _ g2.hg (dp_ex g2.h _ _ h1)
    exact ⟨v, p, [.ty "tuple", .ty "list"], t, [.type "tuple", .type "list"], b, rfl, upd_same, .cons (.ty "tuple") (.cons (.ty "list") .nil), h2, h3, q _ _ _ (g1.trans g2) (.bl b)⟩⟩
theorem isiT_int {i : Int} (ha : Ev K ta δ (.int i)) : Ev K (tCB (rIsiT K) (tCons ta (tCons (tTup (tCons (tC (.ty "tuple")) (tCons (tC (.ty "list")) tNil))) tNil))) δ (.bool false) :=
  ev_isiT ha fun v H G _ h => ⟨.type "int", ty_int h, kitAny_cons (b := false) (kit_ty (by decide +kernel)) (fun _ => kitAny_cons (b := false) (kit_ty (by decide +kernel)) (fun _ => kitAny_nil) fun e => by cases e) fun e => by cases e⟩
theorem isiT_bl {i : Bool} (ha : Ev K ta δ (.bool i)) : Ev K (tCB (rIsiT K) (tCons ta (tCons (tTup (tCons (tC (.ty "tuple")) (tCons (tC (.ty "list")) tNil))) tNil))) δ (.bool false) :=
  ev_isiT ha fun v H G _ h => ⟨.type "bool", ty_bl h, kitAny_cons (b := false) (kit_ty (by decide +kernel)) (fun _ => kitAny_cons (b := false) (kit_ty (by decide +kernel)) (fun _ => kitAny_nil) fun e => by cases e) fun e => by cases e⟩
theorem isiT_tup (ha : Ev K ta δ (.tuple ds)) : Ev K (tCB (rIsiT K) (tCons ta (tCons (tTup (tCons (tC (.ty "tuple")) (tCons (tC (.ty "list")) tNil))) tNil))) δ (.bool true) :=
  ev_isiT ha fun v H G w h => ⟨.type "tuple", ty_tup w h, kitAny_cons (b := true) (kit_ty (by decide +kernel)) (fun e => by cases e) fun _ => rfl⟩
end

/-! ### the rules with the written part told -/
section
variable {X : Cx} (K : PySem.W.Frag)
theorem o_in (h : X.K = K := by rfl) : OpR X (compareOp .In) (rIn K false) := by rw [← h]; exact op_in_seq
theorem o_ni (h : X.K = K := by rfl) : OpR X (compareOp .NotIn) (rIn K true) := by rw [← h]; exact op_notIn_seq
theorem o_eqD {k : Nat} (hr : Room k X.A) (h : X.K = K := by rfl) : OpR X (compareOp .Eq) (rEqD K) := by rw [← h]; exact op_eqD hr.units
theorem o_neD {k : Nat} (hr : Room k X.A) (h : X.K = K := by rfl) : OpR X (compareOp .NotEq) (rNeD K) := by rw [← h]; exact op_neD hr.units
theorem units65 {k : Nat} {A : Around} (hr : Room k A) : A.units + 65 < cLine := by have := hr.un; omega
theorem o_inD {k : Nat} (hr : Room k X.A) (h : X.K = K := by rfl) : OpR X (compareOp .In) (rInD K) := by rw [← h]; exact op_inD (units65 hr)
theorem o_niD {k : Nat} (hr : Room k X.A) (h : X.K = K := by rfl) : OpR X (compareOp .NotIn) (rNotInD K) := by rw [← h]; exact op_notInD (units65 hr)
theorem i_l (h : X.K = K := by rfl) : IxR X (rIxL K) := by rw [← h]; exact ix_list
theorem i_t (h : X.K = K := by rfl) : IxR X (rIxT K) := by rw [← h]; exact ix_tup
theorem c_len (h : X.K = K := by rfl) : CallR X (.builtin "len") (rLenS K) := by rw [← h]; exact call_len_seq
theorem c_list (h : X.K = K := by rfl) : CallR X (.type "list") (rListS K) := by rw [← h]; exact call_list_of
theorem c_tup (h : X.K = K := by rfl) : CallR X (.type "tuple") (rTupS K) := by rw [← h]; exact call_tuple_of
theorem c_srt (h : X.K = K := by rfl) : CallR X (.builtin "sorted") (rSortedI K) := by rw [← h]; exact cr_sortedI
theorem c_isi (h : X.K = K := by rfl) : CallR X (.builtin "isinstance") (rIsi K) := by rw [← h]; exact call_isi
theorem c_isiT (h : X.K = K := by rfl) : CallR X (.builtin "isinstance") (rIsiT K) := by rw [← h]; exact call_isiT
theorem o_cat (h : X.K = K := by rfl) : OpR X (binaryOp .Add) (rCatL K) := by rw [← h]; exact op_catL
theorem o_catA (h : X.K = K := by rfl) : OpR X (binaryOp .Add) (rCatA K) := by rw [← h]; exact op_catA
theorem pi_l {tg l : Expr} {tl : TE} (hl : PE X l tl) (h : X.K = K := by rfl) : PI X tg l (iList K tl) := by rw [← h]; exact pi_list hl
theorem pi_t {tg l : Expr} {tl : TE} (hl : PE X l tl) (h : X.K = K := by rfl) : PI X tg l (iTup K tl) := by rw [← h]; exact pi_tup hl
theorem pg_t {es : List Expr} {kk : Nat} {t : TGs} {n : Nat} {pos : Pos} (hc : X.calm = true) (h1 : PGs X es t) (hn : (assignEach es X.env).length = n := by rfl) (hst : (assignEach es X.env).findIdx? (·.1) = none := by rfl) (h : X.K = K := by rfl) :
    PG X (.Tuple es kk pos) (gTup K n t) := by
  rw [← h]
  exact pg_tup hc h1 hn hst
/-- x in t, a tuple of data -/
def rInTD (K : PySem.W.Frag) : R2 := fun x y H Q => ∃ d ds, Dp K H x d ∧ Dp K H y (.tuple ds) ∧ SeqAt.shaped d = true ∧ SeqAt.shaped (.tuple ds) = true ∧ Q (.bl (ds.any fun z => PyData.eqv z d)) H
theorem o_inTD {k : Nat} (hr : Room k X.A) (h : X.K = K := by rfl) : OpR X (compareOp .In) (rInTD K) := by
  subst h
  intro pins s σ H x y v u Q I rx ry h
  obtain ⟨d, ds, hd, he, sd, se, q⟩ := h
  obtain ⟨as, r1⟩ := Dp.reads I d x v hd rx
  obtain ⟨bs, r2⟩ := Dp.reads I (.tuple ds) y u he ry
  have z : PyData.canLay0 (.tuple ds) = true := SeqAt.canLay_of_shaped se
  have z2 : PyData.canLayAll0 ds = true := by simpa only [PyData.canLay0] using z
  exact SeqAt.in_tuple_reads r2 r1 z2 (SeqAt.canLay_of_shaped sd) (room_in_shaped sd (units65 hr)) ⟨.bl _, H, I, rfl, q⟩
end
/-! ### data in short -/
def tI (l : IL) : PD := .tuple (l.map PyData.int)
def lI (l : IL) : PD := .list (l.map PyData.int)
def prD (p : Int × Int) : PD := .tuple [.int p.1, .int p.2]
def arD (E : Arr) : PD := .tuple (E.map prD)
def webD (n : Nat) (E : Arr) : PD := .tuple [.int n, arD E]
def lT (S : List IL) : PD := .list (S.map tI)

theorem layAll_map {α : Type} {f : α → PD} (h : ∀ a, (f a).canLay0 = true) : ∀ l : List α, PyData.canLayAll0 (l.map f) = true
  | [] => by simp [PyData.canLayAll0]
  | a :: l => by simp [PyData.canLayAll0, h a, layAll_map h l]
theorem depthAll_map {α : Type} {f : α → PD} {n : Nat} (h : ∀ a, (f a).depth ≤ n) : ∀ l : List α, PyData.depthAll (l.map f) ≤ n
  | [] => by simp [PyData.depthAll]
  | a :: l => by
    have h1 := h a
    have h2 := depthAll_map h l
    simp only [List.map_cons, PyData.depthAll]
    omega
theorem shp {d : PD} (h1 : d.canLay0 = true) (h2 : d.depth ≤ 64) : SeqAt.shaped d = true := by
  show (d.canLay0 && decide (d.depth ≤ 64)) = true
  rw [Bool.and_eq_true]
  exact ⟨h1, decide_eq_true h2⟩
theorem lay_int (i : Int) : (PyData.int i).canLay0 = true := by simp [PyData.canLay0]
theorem dep_int (i : Int) : (PyData.int i).depth ≤ 0 := by simp [PyData.depth]
theorem lay_tI (l : IL) : (tI l).canLay0 = true := by
  unfold tI
  simp only [PyData.canLay0]
  exact layAll_map lay_int l
theorem dep_tI (l : IL) : (tI l).depth ≤ 1 := by
  unfold tI
  simp only [PyData.depth]
  have := depthAll_map dep_int l
  omega
theorem lay_prD (p : Int × Int) : (prD p).canLay0 = true := by
  unfold prD
  simp [PyData.canLay0, PyData.canLayAll0]
theorem dep_prD (p : Int × Int) : (prD p).depth ≤ 1 := by
  unfold prD
  simp [PyData.depth, PyData.depthAll]
theorem shp_int (i : Int) : SeqAt.shaped (.int i) = true := shp (lay_int i) (Nat.le_trans (dep_int i) (by decide))
theorem shp_tI (l : IL) : SeqAt.shaped (tI l) = true := shp (lay_tI l) (Nat.le_trans (dep_tI l) (by decide))
theorem shp_prD (p : Int × Int) : SeqAt.shaped (prD p) = true := shp (lay_prD p) (Nat.le_trans (dep_prD p) (by decide))
theorem shp_list {α : Type} {f : α → PD} {n : Nat} (h : ∀ a, (f a).canLay0 = true) (h2 : ∀ a, (f a).depth ≤ n) (hn : n ≤ 60) (l : List α) : SeqAt.shaped (.list (l.map f)) = true := by
  refine shp ?_ ?_
  · simp only [PyData.canLay0]
    exact layAll_map h l
  · simp only [PyData.depth]
    have := depthAll_map h2 l
    omega
theorem shp_tuple {α : Type} {f : α → PD} {n : Nat} (h : ∀ a, (f a).canLay0 = true) (h2 : ∀ a, (f a).depth ≤ n) (hn : n ≤ 60) (l : List α) : SeqAt.shaped (.tuple (l.map f)) = true := by
  refine shp ?_ ?_
  · simp only [PyData.canLay0]
    exact layAll_map h l
  · simp only [PyData.depth]
    have := depthAll_map h2 l
    omega
theorem shp_lI (l : IL) : SeqAt.shaped (lI l) = true := shp_list lay_int dep_int (by decide) l
theorem shp_ar (E : Arr) : SeqAt.shaped (arD E) = true := shp_tuple lay_prD dep_prD (by decide) E
theorem shp_lP (E : Arr) : SeqAt.shaped (.list (E.map prD)) = true := shp_list lay_prD dep_prD (by decide) E
theorem shp_lT (S : List IL) : SeqAt.shaped (lT S) = true := shp_list lay_tI dep_tI (by decide) S
theorem shp_nil : SeqAt.shaped (.list []) = true := shp_list (f := PyData.int) lay_int dep_int (by decide) []
/-- == [] -/
theorem eqv_nil {α : Type} (f : α → PD) (l : List α) : PyData.eqv (.list (l.map f)) (.list []) = decide (l = []) := by
  cases l with
  | nil => simp [PyData.eqv, PyData.eqvAll]
  | cons a l => simp [PyData.eqv, PyData.eqvAll]
theorem eqvAll_ints : ∀ a b : IL, PyData.eqvAll (a.map PyData.int) (b.map PyData.int) = decide (a = b)
  | [], [] => by simp [PyData.eqvAll]
  | [], _ :: _ => by simp [PyData.eqvAll]
  | _ :: _, [] => by simp [PyData.eqvAll]
  | x :: a, y :: b => by
    have ih := eqvAll_ints a b
    simp only [List.map_cons, PyData.eqvAll, PyData.eqv, ih]
    by_cases h : x = y
    · simp [h]
    · simp [h]
theorem eqv_tI (a b : IL) : PyData.eqv (tI a) (tI b) = decide (a = b) := by
  unfold tI
  simp only [PyData.eqv]
  exact eqvAll_ints a b
theorem eqv_lI (a b : IL) : PyData.eqv (lI a) (lI b) = decide (a = b) := by
  unfold lI
  simp only [PyData.eqv]
  exact eqvAll_ints a b
theorem eqv_prD (p q : Int × Int) : PyData.eqv (prD p) (prD q) = decide (p = q) := by
  obtain ⟨a, b⟩ := p
  obtain ⟨c, d⟩ := q
  unfold prD
  simp only [PyData.eqv, PyData.eqvAll, Bool.and_true]
  by_cases h1 : a = c <;> by_cases h2 : b = d <;> simp [h1, h2]
theorem any_eqv {α : Type} [DecidableEq α] {f : α → PD} (h : ∀ a b, PyData.eqv (f a) (f b) = decide (a = b)) (x : α) : ∀ l : List α, ((l.map f).any fun z => PyData.eqv z (f x)) = decide (x ∈ l)
  | [] => by simp
  | y :: l => by
    rw [List.map_cons, List.any_cons, any_eqv h x l, h]
    by_cases e : y = x
    · simp [e]
    · simp [e, Ne.symm e]
section
variable {K : PySem.W.Frag}
theorem rv_eqNil {α : Type} {f : α → PD} {l : List α} (h : SeqAt.shaped (.list (l.map f)) = true) : RvD K (rEqD K) (.list (l.map f)) (.list []) (.bool (decide (l = []))) := by
  rw [← eqv_nil f l]
  exact rv_eqD h shp_nil
theorem rv_neNil {α : Type} {f : α → PD} {l : List α} (h : SeqAt.shaped (.list (l.map f)) = true) : RvD K (rNeD K) (.list (l.map f)) (.list []) (.bool (!decide (l = []))) := by
  rw [← eqv_nil f l]
  exact rv_neD h shp_nil
theorem rv_inP {p : Int × Int} {E : Arr} : RvD K (rInTD K) (prD p) (arD E) (.bool (decide (p ∈ E))) := fun x y H G w a b Q q => by
  have e : ((E.map prD).any fun z => PyData.eqv z (prD p)) = decide (p ∈ E) := (any_eqv eqv_prD p E).trans (decide_eq_decide.mpr Iff.rfl)
  refine ⟨prD p, E.map prD, dp_ex w _ _ a, dp_ex w _ _ b, shp_prD p, shp_ar E, ?_⟩
  rw [e]
  exact q _ H G (Gr.refl w) (.bl _)
theorem rv_inT2 {s : IL} {S : List IL} : RvD K (rInD K) (tI s) (lT S) (.bool (decide (s ∈ S))) := fun x y H G w a b Q q => by
  have e : ((S.map tI).any fun z => PyData.eqv z (tI s)) = decide (s ∈ S) := (any_eqv eqv_tI s S).trans (decide_eq_decide.mpr Iff.rfl)
  refine ⟨tI s, S.map tI, dp_ex w _ _ a, dp_ex w _ _ b, shp_tI s, shp_lT S, ?_⟩
  rw [e]
  exact q _ H G (Gr.refl w) (.bl _)
theorem rv_niT2 {s : IL} {S : List IL} : RvD K (rNotInD K) (tI s) (lT S) (.bool (!decide (s ∈ S))) := fun x y H G w a b Q q => by
  have e : ((S.map tI).any fun z => PyData.eqv z (tI s)) = decide (s ∈ S) := (any_eqv eqv_tI s S).trans (decide_eq_decide.mpr Iff.rfl)
  refine ⟨tI s, S.map tI, dp_ex w _ _ a, dp_ex w _ _ b, shp_tI s, shp_lT S, ?_⟩
  rw [e]
  exact q _ H G (Gr.refl w) (.bl _)
end

/-! ### a while, its measure within its word -/
theorem ws_whileM {K : PySem.W.Frag} {δ : DS} {c : TT} {t : TS} {N : DS → Prop} {Rt : PD → Prop} (Pv : Nat → DS → Prop) (m0 : Nat) (h0 : Pv m0 δ)
    (hs : ∀ m δ1, Pv m δ1 → ∃ b, EvB K c δ1 b ∧ (b = true → WS K t δ1 (fun δ2 => ∃ m', m' < m ∧ Pv m' δ2) Rt) ∧ (b = false → N δ1)) : WS K (tWhile c t) δ N Rt := fun D σ H G s w q r => by
  refine ⟨fun m σ1 G1 => ∃ Hk δ1, Gr H G Hk G1 ∧ Sl K Hk σ1 δ1 ∧ Pv m δ1, ⟨m0, H, δ, Gr.refl w, s, h0⟩, ?_⟩
  rintro m σ1 G1 ⟨Hk, δ1, g1, s1, p1⟩
  obtain ⟨b, hb, h1, h2⟩ := hs m δ1 p1
  refine hb σ1 Hk G1 s1 g1.hg _ fun H2 G2 g2 => ?_
  cases b with
  | true =>
    rw [if_pos rfl]
    refine ⟨fun σ2 G3 => ∃ Hk2 δ2, Gr H G Hk2 G3 ∧ Sl K Hk2 σ2 δ2 ∧ ∃ m', m' < m ∧ Pv m' δ2, fun σ2 G3 ⟨Hk2, δ2, a, b, m', c, e⟩ => ⟨m', c, Hk2, δ2, a, b, e⟩, ?_⟩
    exact h1 rfl _ σ1 H2 G2 (s1.ex g2.h) g2.hg (fun δ3 σ3 H3 G3 g3 s3 p3 => ⟨H3, δ3, g1.trans (g2.trans g3), s3, p3⟩) fun v d H3 G3 g3 => r v d H3 G3 (g1.trans (g2.trans g3))
  | false =>
    rw [if_neg Bool.false_ne_true]
    exact q δ1 σ1 H2 G2 (g1.trans g2) (s1.ex g2.h) (h2 rfl)
/-- a for over data of one kind, its items by places -/
theorem ws_forM {α : Type} {emb : α → PD} {l : List α} {K : PySem.W.Frag} {δ : DS} {wi : TI} {g : TG} {tb : TS} {N : DS → Prop} {Rt : PD → Prop} {js : List Nat} {δ' : DS → α → DS} (Pv : Nat → DS → Prop) (hi : EvI K wi δ (l.map emb)) (h0 : Pv 0 δ) (hg : ∀ δ1 a, a ∈ l → EvG K js g (emb a) δ1 (δ' δ1 a))
    (hs : ∀ (i : Nat) a δ1, l[i]? = some a → Pv i δ1 → WS K tb (δ' δ1 a) (Pv (i + 1)) Rt) (hd : ∀ δ1, Pv l.length δ1 → N δ1) : WS K (tFor wi g tb) δ N Rt := fun D σ H G s w q r =>
  hi σ H G s w _ fun J H1 G1 g1 W => by
    unfold WkD at W
    rw [List.length_map] at W
    refine for_it W (fun i σ2 G2 => ∃ Hk δ2, Gr H1 G1 Hk G2 ∧ Sl K Hk σ2 δ2 ∧ Pv i δ2) ⟨H1, δ, Gr.refl g1.hg, s.ex g1.h, h0⟩ (fun i σ2 G2 _ p => ?_) (fun i x σ2 G2 G3 hi p y => ?_) fun σ2 G2 p => ?_
    · obtain ⟨Hk, δ2, g2, _⟩ := p
      exact g2.h.trans g2.hg
    · obtain ⟨Hk, δ2, g2, s2, hp⟩ := p
      obtain ⟨Hk2, d, g3, hd', hx⟩ := y Hk g2.h g2.hg
      rw [List.getElem?_map] at hd'
      obtain ⟨a, ha, rfl⟩ := Option.map_eq_some_iff.mp hd'
      refine hg δ2 a (List.mem_of_getElem? ha) σ2 Hk2 G3 x (s2.ex g3.h) g3.hg hx _ fun σ3 s3 _ => ?_
      exact hs i a δ2 ha hp _ σ3 Hk2 G3 s3 g3.hg (fun δ4 σ4 H4 G4 g4 s4 p4 => ⟨H4, δ4, g2.trans (g3.trans g4), s4, p4⟩) fun v d H4 G4 g4 => r v d H4 G4 (g1.trans (g2.trans (g3.trans g4)))
    · obtain ⟨Hk, δ2, g2, s2, hp⟩ := p
      exact q δ2 σ2 Hk G2 (g1.trans g2) s2 (hd δ2 hp)
theorem take_next {α : Type} {l : List α} {i : Nat} {a : α} (h : l[i]? = some a) : l.take (i + 1) = l.take i ++ [a] := by
  rw [List.take_add_one, h] <;> rfl
end Ld
set_option maxHeartbeats 4000000
namespace Ld
open PySem PySem.Spec PyProof.Rows L2
open Evl (Ex ex_l ex_t sq_of st_of fresh_back)
/-! ### enumerate(t), t a tuple -/
section
open AutoSeq1 (wpAny_loadPart')
set_option maxHeartbeats 2000000 in
theorem enum1_new {v : Value} {o : Obj} {S : Heap → Prop} (B : Begins v o S) :
    Meets (Builtin.«enumerate.__new__» ⟨[.type "enumerate", v], []⟩) (fun _ R s => S s.heap ∧
      R (.ok (.ret (.ref (s.heap.push o).objs.size))) { s with heap := (s.heap.push o).push { cls := .type "enumerate", data := .fields #[.none, .bool false, .ref s.heap.objs.size, rawInt 0, .none, .none] } }) :=
  .of_wp fun prog w A R s h => by
    obtain ⟨hp, g, d, tk, os⟩ := s
    obtain ⟨h1, h⟩ := h
    have es := sub_enumerate
    have it1 : ∀ {A' : Around} {E : Value → Shared → Prop} {Q : Value → Shared → Prop}, Q (.ref hp.objs.size) ⟨hp.push o, g, d, tk, os⟩ → wpAny (model prog w) A' (pyIter v) Q E ⟨hp, g, d, tk, os⟩ := fun q => B.iter prog w _ _ ⟨hp, g, d, tk, os⟩ _ h1 q
    wp_walk using it1
    refine wpAny_stack_any fun st => wpAny_pure ?_
    split
    · rename_i c _ _ _ _ _
      cases (c == Value.type "enumerate") <;> (wp_walk using it1; exact ⟨_, rfl, h⟩)
    · wp_walk using it1
      exact ⟨_, rfl, h⟩
end
section
variable {prog : Program} {w : World} {A : Around} {E : Value → Shared → Prop} {s : Shared}
theorem call_enum1 {v : Value} {o : Obj} {S : Heap → Prop} {Q : Value → Shared → Prop} (B : Begins v o S) (h1 : S s.heap)
    (h : ∀ h', IsEnum h' (s.heap.objs.size + 1) s.heap.objs.size 0 .none → h'.get? s.heap.objs.size = some o → (∀ b u, s.heap.get? b = some u → h'.get? b = some u) → Q (.ref (s.heap.objs.size + 1)) { s with heap := h' }) :
    wpAny (model prog w) A (call (.type "enumerate") [v]) Q E s := by
  refine callType_new F.called_enumerate (by decide) (F.typeCall_enumerate_1 _) (F.newCall_enumerate_1 _) (fun obj => F.args_object_init_2 obj _) F.entry_enumerate_new (enum1_new B) ⟨h1, ?_⟩
  have z1 : (s.heap.push o).objs.size = s.heap.objs.size + 1 := Heap.size_push ..
  show _ ∧ _
  rw [z1]
  have q := Heap.get?_push_size (s.heap.push o) (o := { cls := .type "enumerate", data := .fields #[.none, .bool false, .ref s.heap.objs.size, rawInt 0, .none, .none] }) rfl
  rw [z1] at q
  exact ⟨⟨_, q, rfl⟩, h _ q (Heap.get?_push_of_some _ (Heap.get?_push_size _ B.free)) fun b u e => Heap.get?_push_of_some _ (Heap.get?_push_of_some _ e)⟩
end
/-- the tuple at a, each item in a new pair -/
def Itu (K : PySem.W.Frag) (a : Addr) : It :=
  ⟨fun i G => ∃ (xs : List V) (x : V), SqT K G a xs ∧ xs[i]? = some x, fun i G v G' => ∃ T x, v = .ref T ∧ G T = none ∧ G' = upd G T (.tup [.int (i : Nat), x]) ∧ ∀ xs, SqT K G a xs → xs[i]? = some x, fun i G => ∃ xs : List V, SqT K G a xs ∧ xs.length = i⟩
theorem turn_enumT {P : Program} {w : World} {K : PySem.W.Frag} {elts : List Expr} {kk : Nat} {tpos : Pos} {a e it : Addr} {its : Array Value} (hne : e ≠ it) (hai : a ≠ it) (hae : a ≠ e) :
    Turn P w K (.Tuple elts kk tpos) (Itu K a) [e, it] e (fun i h => (∃ old, IsEnum h e it ((i : Nat) : Int) old) ∧ h.IsTupleIter it a i) where
  mem := List.mem_cons_self
  obj := fun i h st b hb => by
    obtain ⟨⟨old, h1⟩, ⟨o, h2, _, h3⟩⟩ := st
    rcases List.mem_cons.mp hb with c | c
    · exact ⟨_, by rw [c]; exact h1, fun v q => by cases q⟩
    · exact ⟨o, by rw [List.mem_singleton.mp c]; exact h2, fun v q => by rw [h3] at q; cases q⟩
  keep := fun i h h' st k => by
    obtain ⟨⟨old, h1⟩, h2⟩ := st
    exact ⟨⟨old, k e (by simp) _ h1⟩, h2.at fun o q => k it (by simp) o q⟩
  item := by
    intro X hP hw hK hc i pins s σ H E I hf st hg
    subst hP hw hK
    obtain ⟨⟨old, h1⟩, h2⟩ := st
    obtain ⟨xs, x, hq, hx⟩ := hg
    obtain ⟨us, rv, p, hz⟩ := I.tuple hq
    obtain ⟨u, hu, ru⟩ := rv.get hx
    have le : e < s.heap.objs.size := Heap.lt_size h1
    have li : it < s.heap.objs.size := by
      obtain ⟨_, q, _⟩ := h2
      exact Heap.lt_size q
    have hh : X.A.in1.handled = none := by simp [I.ok.hd hc]
    have hi : i < us.toArray.size := by
      rw [List.size_toArray, ← rv.length]
      exact (List.getElem?_eq_some_iff.mp hx).1
    refine wpAny_pyNext_enum_itemD (Draws.tuple hh it a hai us.toArray) h1 ⟨h2, p⟩ hi hne (by simp only [List.mem_cons, List.mem_singleton, List.not_mem_nil, or_false, not_or]; exact ⟨hne, Ne.symm hae⟩) fun y h' tk hy ho hst hT hsz hk => ?_
    have ey : y = u := by
      have : us.toArray[i]? = some u := by simpa using hu
      rw [this] at hy
      exact (Option.some.inj hy).symm
    subst ey
    refine ⟨_, rfl, wpAny_letOwnedTupleGo_enum (s := { s with heap := h', toks := tk + 1 }) ho fun h'' he' sb => ?_⟩
    have hT2 : h''.get? s.heap.objs.size = some { cls := .type "tuple", data := .seq #[.int i tk, y] } := (sb.2 _ (Nat.ne_of_gt le)).trans hT
    have new : ObjOk X.prog X.w (upd H s.heap.objs.size (.tup [.int (i : Nat), x])) h'' s.heap.objs.size (.tup [.int (i : Nat), x]) :=
      ⟨by show 2 ≤ sizeLine; decide, [.int i tk, y], .cons ⟨_, rfl⟩ (.cons ru .nil), ⟨_, hT2, rfl, _, rfl⟩⟩
    have I1 : Inv X pins σ (upd H s.heap.objs.size (.tup [.int (i : Nat), x])) { s with heap := h'', toks := tk + 1 } :=
      I.turnedNew (ch := [e, it]) (fun b ob hb q => (sb.2 b (fun z => hb (by simp [z]))).trans (hk b ob (fun z => hb (by simp [z])) (fun z => hb (by simp [z])) q)) hf (Nat.le_refl _) new
    refine ⟨.ref s.heap.objs.size, _, I1, rfl, ⟨_, x, rfl, I.hok.fresh (Nat.le_refl _), rfl, fun ys hy => by rw [I.tuple_inj hy hq]; exact hx⟩, ⟨⟨y, ?_⟩, hst.1.at fun o q => (sb.2 it (Ne.symm hne)).trans q⟩, fun b hb => ?_⟩
    · rw [show ((i + 1 : Nat) : Int) = (i : Int) + 1 by omega]
      exact he'
    · have hb' : b < s.heap.objs.size := by
        rcases List.mem_cons.mp hb with c | c
        · rw [c]; exact le
        · rw [List.mem_singleton.mp c]; exact li
      rw [upd_ne (Nat.ne_of_lt hb')]
      exact (hf b hb).1
  done := by
    intro X hP hw hK hc i pins s σ H E I hf st hg
    subst hP hw hK
    obtain ⟨⟨old, h1⟩, h2⟩ := st
    obtain ⟨xs, hq, hx⟩ := hg
    obtain ⟨us, rv, p, hz⟩ := I.tuple hq
    have hh : X.A.in1.handled = none := by simp [I.ok.hd hc]
    obtain ⟨f0, f1, f2, f3, f4, f5⟩ := hf it (by simp)
    have en : i = us.toArray.size := by rw [List.size_toArray, ← rv.length, hx]
    rw [en] at h2
    exact wpAny_pyNext_enum_endD (Draws.tuple hh it a hai us.toArray) h1 ⟨h2, p⟩ fun h' eb => ⟨rfl, I.turned (t' := s.toks) (fun b o hb q => eb b o hb q) f0 f1 f3 f4 f5⟩
  self := fun A i s Q E st h => by
    obtain ⟨⟨_, h1⟩, _⟩ := st
    exact wpAny_pyIter_enum h1 h
def iEnumT (K : PySem.W.Frag) (ta : TA) : TI := fun σ H R => ta σ H fun vs H1 => ∃ a xs, vs = [.ref a] ∧ SqT K H1 a xs ∧ R (Itu K a) H1
theorem pi_enumT {X : Cx} (K : PySem.W.Frag) {e : Expr} {ta : TA} {p pos tpos : Pos} {elts : List Expr} {kk : Nat} (hg : Gl X "enumerate") (hm : X.mg "enumerate" = none) (ha : PA X [e] ta) (hs : starEach [e] X.env = [(false, eval e X.env)] := by rfl) (hk : X.K = K := by rfl) :
    PI X (.Tuple elts kk tpos) (.Call (.Name "enumerate" p) [e] [] pos) (iEnumT K ta) := by
  subst hk
  refine ⟨fun pins s σ H R I h => ?_⟩
  refine Call_ (ld_blt I hg hm boot_enumerate (PyProof.Rows.callWith_type1 (thn (ha.run pos pins s σ H _ I h) fun us s1 ⟨vs, H1, I1, r1, q1⟩ => ?_) hs rfl))
  obtain ⟨a, xs, ex, hq, q⟩ := q1
  subst ex
  rw [Vals.ref1 r1]
  obtain ⟨its, rv, p', hz⟩ := I1.tuple hq
  have la := p'.lt
  refine call_enum1 (begins_tuple a its.toArray) p' fun h' he hit hk => wpAny_pyIter_enum he ?_
  have I2 : Inv X pins σ H1 { s1 with heap := h' } := I1.kept (t' := s1.toks) hk
  refine ⟨s1.heap.objs.size + 1, [s1.heap.objs.size + 1, s1.heap.objs.size], _, _, H1, rfl, I2, turn_enumT (its := its.toArray) (a := a) (Nat.succ_ne_self _) (Nat.ne_of_lt la) (Nat.ne_of_lt (Nat.lt_succ_of_lt la)), ⟨⟨.none, he⟩, ⟨_, hit, rfl, rfl⟩⟩, fun b hb => ?_, q⟩
  have hle : s1.heap.objs.size ≤ b := by
    rcases List.mem_cons.mp hb with c | c
    · rw [c]; exact Nat.le_add_right _ _
    · rw [List.mem_singleton.mp c]; exact Nat.le_refl _
  exact I1.fpOk hle (I1.hok.fresh hle)
theorem walk_enumT {K : PySem.W.Frag} {a : Addr} {xs : List V} : Walk (Itu K a) xs.length (fun H => SqT K H a xs) (YPair (fun i => some (.int (i : Nat))) (fun i => xs[i]?)) := by
  refine ⟨fun i _ hi q => ⟨xs, xs[i], q, by simp [hi]⟩, fun _ q => ⟨xs, q, rfl⟩, fun i H v H' _ q y => ?_⟩
  obtain ⟨T, x, h1, h2, h3, h4⟩ := y
  exact ⟨T, .int (i : Nat), x, h1, h2, h3, rfl, h4 xs q⟩
def enD (ds : List PD) : List PD := ds.zipIdx.map fun p => .tuple [.int (p.2 : Int), p.1]
theorem ei_enumT {K : PySem.W.Frag} {δ : DS} {tr : TA} {ds : List PD} (h : EvA K tr δ [.tuple ds]) : EvI K (iEnumT K tr) δ (enD ds) := fun σ H G s w R q => h σ H G s w _ fun vs H1 G1 e1 g => by
  cases g with
  | cons g r =>
    cases r
    cases g with
    | tup hs ha =>
      rename_i a xs
      refine ⟨a, xs, rfl, ex_t e1.hg hs, q _ H1 G1 e1 ?_⟩
      have el : (enD ds).length = xs.length := by
        unfold enD
        rw [List.length_map, List.length_zipIdx, dpAll_len ha]
      unfold WkD
      rw [el]
      refine walk_enumT.mono (fun G2 e2 => ex_t e2 hs) fun i G2 x G' _ e2 y Hk k1 k2 => ?_
      obtain ⟨T, u, v, rfl, hT, rfl, hu, hv⟩ := y
      cases hu
      obtain ⟨d, h1, h2⟩ := dpAll_get ha hv
      have g2 := Gr.new (o := .tup [.int (i : Nat), v]) k2 hT
      refine ⟨_, .tuple [.int (i : Int), d], g2, ?_, .tup (st_of upd_same) (.cons (.int _) (.cons (dp_ex (k1.trans g2.h) _ _ h2) .nil))⟩
      unfold enD
      rw [List.getElem?_map, List.getElem?_zipIdx, h1]
      simp
end Ld
set_option maxHeartbeats 4000000
namespace Ld
open PySem PySem.Spec PyProof.Rows L2
open Evl (Ex ex_l ex_t sq_of st_of fresh_back)
theorem lex_same : ∀ a b : IL, HT.lexLt a b = lexLt a b
  | [], [] => rfl
  | [], _ :: _ => rfl
  | _ :: _, [] => rfl
  | x :: a, y :: b => by
    rw [HT.lexLt_cons]
    show _ = (if x = y then lexLt a b else decide (x < y))
    rw [lex_same a b]
/-! ### two tuples of ints, of any lengths, compared as the sort does -/
section
variable {prog : Program} {w : World} {A : Around} {E : Value → Shared → Prop} {s : Shared} {Q : Bool → Shared → Prop}
theorem lex_any {b : Bool} {us : List Value} {ns : IL} (hx : IntsAre us ns) : ∀ {ws : List Value} {ms : IL} (i : Nat), IntsAre ws ms → Q (HT.lexLt ns ms) s → PySem.W.KatLex prog w A b (decide (us.length < ws.length)) Q (us.zip ws) i s := by
  induction hx with
  | nil =>
    intro ws ms i hy h
    cases hy with
    | nil => exact PySem.W.kat_nil h
    | cons q u hy => exact PySem.W.kat_nil h
  | @cons p t us ns hx ih =>
    intro ws ms i hy h
    cases hy with
    | nil => exact PySem.W.kat_nil h
    | @cons q u ws ms hy =>
      have el : decide ((Value.int p t :: us).length < (Value.int q u :: ws).length) = decide (us.length < ws.length) := decide_eq_decide.mpr (by simp)
      rw [el]
      rw [HT.lexLt_cons] at h
      refine PySem.W.kat_cons (wpAny_eqBool_int ?_)
      by_cases e : p = q
      · rw [if_pos e] at h
        rw [show (p == q) = true from beq_iff_eq.mpr e]
        exact PySem.W.kat_yes (ih (i + 1) hy h)
      · rw [if_neg e] at h
        rw [show (p == q) = false from beq_eq_false_iff_ne.mpr e]
        exact PySem.W.kat_no (TS.oneLt_ints _ h)
theorem lt_one {c : Bool} {u v : Value} {ns ms : IL} (hu : A.units < cLine) (h1 : TS.TupInts s.heap u ns) (h2 : TS.TupInts s.heap v ms) (h : Q (HT.lexLt ns ms) s) : wpAny (model prog w) A (oneLt' c u v) Q E s := by
  obtain ⟨a, xs, rfl, ⟨⟨c1, d1, t1, s1⟩, g1, k1, n1, e1⟩, i1⟩ := h1
  obtain ⟨b, ys, rfl, ⟨⟨c2, d2, t2, s2⟩, g2, k2, n2, e2⟩, i2⟩ := h2
  simp only at k1 e1 k2 e2
  subst k1 e1 k2 e2
  cases c with
  | false => exact PySem.W.kat_one _ _ (HT.lt_tupInts (Q := PySem.W.BoolBack Q) ⟨_, g1, rfl, _, rfl⟩ ⟨_, g2, rfl, _, rfl⟩ i1 i2 hu h)
  | true =>
    rw [oneLt'_eq]
    simp only [if_true]
    refine wpAny_bind (wpAny_cRoomFor hu ?_)
    have sp : PySem.W.Looks (model prog w) s.heap (specialOf (.ref a) "__lt__") (some (.builtin "tuple.__lt__")) := ((PySem.W.Looks.ld g1).andThen .now).andThen (.of_pure PySem.F.slot_tuple_lt.lookup)
    refine wpAny_bind (NtL.csib (E := E) sp (PySem.F.slot_tuple_lt.bind _) (call_meets PySem.F.slot_tuple_lt ⟨_, g1, rfl⟩ PySem.F.entry_tuple_lt (PySem.F.args_tuple_lt_2 _ _) (HT.tuple_lt_ints a b xs ys n1 n2 d1 d2 s1 s2 ns ms i1 i2) ⟨g1, g2, ?_⟩))
    exact wpAny_truthy_bool h
theorem lt_kind {κ : SortKind} (hk : κ = general' ∨ κ = oneType' ∨ κ = tuples' true) {u v : Value} {ns ms : IL} (hu : A.units < cLine) (h1 : TS.TupInts s.heap u ns) (h2 : TS.TupInts s.heap v ms) (h : Q (HT.lexLt ns ms) s) : wpAny (model prog w) A (keyLt' κ u v) Q E s := by
  rcases hk with rfl | rfl | rfl
  · exact lt_one (c := false) hu h1 h2 h
  · exact lt_one (c := true) hu h1 h2 h
  · obtain ⟨a, xs, rfl, ⟨o1, g1, k1, n1, e1⟩, i1⟩ := h1
    obtain ⟨b, ys, rfl, ⟨o2, g2, k2, n2, e2⟩, i2⟩ := h2
    refine PySem.W.kat_lt g1 e1 g2 e2 ?_
    have q := lex_any (prog := prog) (w := w) (A := A) (b := true) i1 0 i2 h
    rw [Array.length_toList, Array.length_toList] at q
    exact q
end
/-! ### which way the sort takes -/
section
variable {prog : Program} {w : World} {A : Around} {s : Shared}
open PySem.W (kas_first_eq kas_mapM)
theorem firsts_any : ∀ (vs : List Value), (∀ v ∈ vs, ∃ ns, TS.TupInts s.heap v ns) → ∃ fs : List (Option Value), (∀ f ∈ fs, ∀ x, f = some x → ∃ n t, x = Value.int n t) ∧ fs.length = vs.length ∧
    ∀ (Q : List (Option Value) → Shared → Prop) (E : Value → Shared → Prop), Q fs s → wpAny (model prog w) A (vs.mapM firstOfTuple') Q E s
  | [], _ => ⟨[], fun f hf => absurd hf (by simp), rfl, fun Q E h => by
    rw [List.mapM_nil]
    exact wpAny_pure h⟩
  | v :: vs, hv => by
    obtain ⟨ns, a, xs, rfl, ⟨o, g, k, n, e⟩, i⟩ := hv v List.mem_cons_self
    obtain ⟨fs, h1, h2, h3⟩ := firsts_any vs fun u hu => hv u (List.mem_cons_of_mem _ hu)
    refine ⟨xs[0]? :: fs, fun f hf x hx => ?_, by simp [h2], fun Q E h => ?_⟩
    · rcases List.mem_cons.mp hf with c | c
      · have hm : x ∈ xs.toList := by
          rw [c] at hx
          exact Array.mem_toList_iff.mpr (Array.mem_of_getElem? hx)
        obtain ⟨m, t, hm⟩ := i.all x hm
        exact ⟨m, t, hm⟩
      · exact h1 f c x hx
    · rw [List.mapM_cons]
      refine wpAny_bind ?_
      rw [kas_first_eq]
      refine wpAny_bind (PySem.W.Looks.here (show PySem.W.Looks (model prog w) s.heap (typeOf (.ref a)) o.cls from (PySem.W.Looks.ld g).andThen .now) ?_)
      rw [k, if_neg (by decide)]
      exact wpAny_bind (listItems_at g e (wpAny_pure (wpAny_bind (h3 _ _ (wpAny_pure h)))))
theorem kind_any {vs : List Value} (h2 : 2 ≤ vs.length) (hv : ∀ v ∈ vs, ∃ ns, TS.TupInts s.heap v ns) : ∃ κ, (κ = general' ∨ κ = oneType' ∨ κ = tuples' true) ∧
    ∀ (Q : SortKind → Shared → Prop) (E : Value → Shared → Prop), Q κ s → wpAny (model prog w) A (keyKind' vs.toArray) Q E s := by
  obtain ⟨fs, h1, hl, hm⟩ := firsts_any (prog := prog) (w := w) (A := A) vs hv
  by_cases c : (fs.toArray.all fun x => x.isSome) = true
  · refine ⟨tuples' true, .inr (.inr rfl), fun Q E h => ?_⟩
    rw [keyKind'_eq, List.mapM_toArray, map_eq_pure_bind]
    refine wpAny_bind (wpAny_bind (hm _ _ (wpAny_pure ?_)))
    rw [if_pos c]
    refine wpAny_bind (wpAny_rule ?_)
    have hall : ∀ f ∈ fs, f.isSome = true := by
      rw [List.all_toArray] at c
      exact List.all_eq_true.mp c
    obtain ⟨gs, rfl, hg⟩ : ∃ gs : List Value, fs = gs.map some ∧ ∀ g ∈ gs, ∃ n t, g = Value.int n t := by
      clear hl c hm
      induction fs with
      | nil => exact ⟨[], rfl, fun g hg => absurd hg (by simp)⟩
      | cons f fs ih =>
        obtain ⟨gs, e1, e2⟩ := ih (fun f hf => h1 f (List.mem_cons_of_mem _ hf)) (fun f hf => hall f (List.mem_cons_of_mem _ hf))
        have hs := hall f List.mem_cons_self
        cases f with
        | none => cases hs
        | some x =>
          refine ⟨x :: gs, by rw [e1] <;> rfl, fun g hg => ?_⟩
          rcases List.mem_cons.mp hg with q | q
          · rw [q]
            exact h1 (some x) List.mem_cons_self x rfl
          · exact e2 g q
    have ef : (gs.map some).toArray.filterMap id = gs.toArray := by simp
    have hne : 0 < gs.length := by
      rw [List.length_map] at hl
      omega
    obtain ⟨g0, gr, rfl⟩ : ∃ g0 gr, gs = g0 :: gr := by
      cases gs with
      | nil => simp at hne
      | cons g0 gr => exact ⟨g0, gr, rfl⟩
    rw [ef, oneTypeOnly'_eq, List.mapM_toArray, map_eq_pure_bind]
    refine wpAny_bind (wpAny_bind (wpAny_bind (kas_mapM (r := Value.type "int") _ (fun g hg' Q' hq => ?_) (wpAny_pure ?_))))
    · obtain ⟨n, t, rfl⟩ := hg g hg'
      exact (PySem.W.Looks.of_pure (h := s.heap) (M := model prog w) (show typeOf (.int n t) = pure (.type "int") from rfl)).here hq
    · have a1 : (List.map (fun _ => Value.type "int") (g0 :: gr)).toArray.all (fun x => x == Value.type "int") = true := by
        simp only [List.all_toArray, List.all_map, List.all_eq_true]
        intro _ _
        rfl
      have a2 : (List.map (fun _ => Value.type "int") (g0 :: gr)).toArray[0]? = some (Value.type "int") := by simp
      rw [a2]
      simp only [a1, if_true]
      exact wpAny_pure (wpAny_pure h)
  · by_cases c2 : ((fs.toArray[0]?.bind id).isSome) = true
    · refine ⟨general', .inl rfl, fun Q E h => ?_⟩
      rw [keyKind'_eq, List.mapM_toArray, map_eq_pure_bind]
      refine wpAny_bind (wpAny_bind (hm _ _ (wpAny_pure ?_)))
      rw [if_neg c, if_pos c2]
      exact wpAny_pure h
    · refine ⟨oneType', .inr (.inl rfl), fun Q E h => ?_⟩
      rw [keyKind'_eq, List.mapM_toArray, map_eq_pure_bind]
      refine wpAny_bind (wpAny_bind (hm _ _ (wpAny_pure ?_)))
      rw [if_neg c, if_neg c2, oneTypeOnly'_eq, List.mapM_toArray, map_eq_pure_bind]
      refine wpAny_bind (wpAny_bind (wpAny_bind (kas_mapM (r := Value.type "tuple") _ (fun v hv' Q' hq => ?_) (wpAny_pure ?_))))
      · obtain ⟨ns, a, xs, rfl, ⟨o, g, k, n, e⟩, i⟩ := hv v hv'
        have q : PySem.W.Looks (model prog w) s.heap (typeOf (.ref a)) o.cls := (PySem.W.Looks.ld g).andThen .now
        rw [k] at q
        exact q.here hq
      · obtain ⟨v0, vr, rfl⟩ : ∃ v0 vr, vs = v0 :: vr := by
          cases vs with
          | nil => simp at h2
          | cons v0 vr => exact ⟨v0, vr, rfl⟩
        have a1 : (List.map (fun _ => Value.type "tuple") (v0 :: vr)).toArray.all (fun x => x == Value.type "tuple") = true := by
          simp only [List.all_toArray, List.all_map, List.all_eq_true]
          intro _ _
          rfl
        have a2 : (List.map (fun _ => Value.type "tuple") (v0 :: vr)).toArray[0]? = some (Value.type "tuple") := by simp
        rw [a2]
        simp only [a1, if_true]
        exact wpAny_pure (wpAny_pure h)
theorem sortable_any {a : Addr} {vs : List Value} {k : Value → IL} (h2 : 2 ≤ vs.length) (hu : A.units < cLine) (hv : ∀ v ∈ vs, TS.TupInts s.heap v (k v)) (ha : ∀ o, s.heap.get? a = some o → o.cls ≠ .type "tuple") :
    SrtO.SortableO prog w A s a vs fun v u => HT.lexLt (k v) (k u) := by
  intro h' keep
  have hv' : ∀ v ∈ vs, TS.TupInts h' v (k v) := fun v hm => (hv v hm).keeps fun b o e c => keep b o (fun z => by subst z; exact ha o e c) e
  obtain ⟨κ, hk, h⟩ := kind_any (prog := prog) (w := w) (A := A) (s := { s with heap := h' }) h2 fun v hm => ⟨_, hv' v hm⟩
  refine ⟨κ, h, fun p q hp hq => ?_⟩
  exact lt_kind (Q := fun r s' => s' = { s with heap := h' } ∧ r = HT.lexLt (k p.1) (k q.1)) hk hu (hv' p.1 hp) (hv' q.1 hq) ⟨rfl, rfl⟩
end

/-! ### sorted(xs), xs a list of tuples of ints of any lengths -/
/-- x is a tuple of these ints -/
def TpI (K : PySem.W.Frag) (H : Hp) (x : V) (s : IL) : Prop := ∃ t, x = .ref t ∧ SqT K H t (s.map V.int)
theorem tpi_all {K : PySem.W.Frag} {H : Hp} : ∀ {S : List IL} {xs : List V}, DpAll K H xs (S.map tI) → Paired (TpI K H) xs S
  | [], _, h => by cases h; exact .nil
  | s :: S, _, h => by
    cases h with
    | cons h1 h2 =>
      obtain ⟨t, e, q⟩ := intsT_of h1
      exact .cons ⟨t, e, q⟩ (tpi_all h2)
theorem all_tpi {K : PySem.W.Frag} {H : Hp} : ∀ {S : List IL} {xs : List V}, Paired (TpI K H) xs S → DpAll K H xs (S.map tI)
  | _, _, .nil => .nil
  | _, _, .cons ⟨t, e, q⟩ r => .cons (by rw [e]; exact .tup q (ints_dpAll _)) (all_tpi r)
theorem paired_of {α β : Type} {F : α → β → Prop} (f : α → β) : ∀ {xs : List α}, (∀ x ∈ xs, F x (f x)) → Paired F xs (xs.map f)
  | [], _ => .nil
  | x :: xs, h => .cons (h x List.mem_cons_self) (paired_of f fun y hy => h y (List.mem_cons_of_mem _ hy))
theorem paired_map {α β : Type} {F : α → β → Prop} {f : α → β} (hu : ∀ x y, F x y → y = f x) : ∀ {xs : List α} {ys : List β}, Paired F xs ys → ys = xs.map f ∧ ∀ x ∈ xs, F x (f x)
  | _, _, .nil => ⟨rfl, fun x h => absurd h (by simp)⟩
  | _, _, .cons h r => by
    obtain ⟨e1, e2⟩ := paired_map hu r
    have e := hu _ _ h
    refine ⟨by rw [e1, e] <;> rfl, fun x hx => ?_⟩
    rcases List.mem_cons.mp hx with c | c
    · rw [c, ← e]
      exact h
    · exact e2 x c
def rSortV (K : PySem.W.Frag) : List V → Hp → VK → Prop := fun vs H Q => ∃ (a : Addr) (xs : List V) (S : List IL) (F : V → IL → Prop), vs = [V.ref a] ∧ SqL K H a xs ∧ (∀ x s, F x s → TpI K H x s) ∧ Paired F xs S ∧
  ∀ (ys : List V) (p : Addr), Paired F ys (lsort S) → H p = none → Q (.ref p) (upd H p (.lst ys))
section
variable {X : Cx}
theorem c_sortV (K : PySem.W.Frag) {k : Nat} (hr : Room k X.A) (hk : X.K = K := by rfl) : CallR X (.builtin "sorted") (rSortV K) := by
  subst hk
  intro pins s σ H vs us Q I r h
  obtain ⟨a, xs, S, F, rfl, hs, hF, hx, q⟩ := h
  obtain ⟨its, rv, hl, hz⟩ := I.list hs
  rw [Vals.ref1 r]
  -- the key of a value
  let kx : V → IL := fun x => Classical.epsilon fun s => F x s
  have uq : ∀ x s, F x s → s = kx x := fun x s hxs => by
    have hy : F x (kx x) := Classical.epsilon_spec (p := fun s => F x s) ⟨s, hxs⟩
    obtain ⟨t, e1, h1⟩ := hF _ _ hxs
    obtain ⟨t2, e2, h2⟩ := hF _ _ hy
    rw [e1] at e2
    cases e2
    have e3 := I.tuple_inj h1 h2
    have inj : ∀ a b : IL, a.map V.int = b.map V.int → a = b := fun a b e => List.map_inj_right (fun x y h => V.int.inj h) |>.mp e
    exact inj _ _ e3
  obtain ⟨eS, hall⟩ := paired_map uq hx
  have hrefs : ∀ x ∈ xs, ∃ t, x = V.ref t := fun x m => by
    obtain ⟨t, e, _⟩ := hF _ _ (hall x m)
    exact ⟨t, e⟩
  obtain ⟨e1, e2⟩ := refs_back rv hrefs
  have ku : ∀ v ∈ its, TS.TupInts s.heap v (kx (backV v)) := fun v hv => by
    obtain ⟨t, rfl⟩ := e2 v hv
    have hm : V.ref t ∈ xs := by rw [e1]; exact List.mem_map.mpr ⟨_, hv, rfl⟩
    obtain ⟨t', e, ht⟩ := hF _ _ (hall _ hm)
    cases e
    exact tupI_raw I ht
  have hin : X.A.in1.in1.units < cLine := by
    have := hr.un
    show X.A.units + 1 + 1 < cLine
    omega
  refine SrtO.sorted_ord (ltv := fun v u => HT.lexLt (kx (backV v)) (kx (backV u))) (NtL.swo_lexL fun v => kx (backV v)) hl.isList (by rw [← rv.length]; exact hz) (fun h2 h₁ a' ha' kk => ?_) fun out h1 h2 => ?_
  · refine sortable_any (s := { s with heap := h₁ }) (k := fun v => kx (backV v)) h2 hin (fun v hm => (ku v hm).keeps fun b o e _ => (kk b o e).2) fun o e => ?_
    have e' : some o = some (seqObj "list" its.toArray 0) := e.symm.trans ha'
    cases e'
    intro c
    exact absurd (Value.type.inj c) (by decide)
  · obtain ⟨ep, he'⟩ := PyProof.Rows.sortedAll_at s.heap its out.toArray
    have h3 : ∀ u ∈ out, ∃ a, u = Value.ref a := fun u hu => e2 u (h2.perm.mem_iff.mp hu)
    have hlen : (out.map backV).length ≤ sizeLine := by
      rw [List.length_map, h2.perm.length_eq, ← rv.length]
      exact hz
    have hn := I.hok.fresh (Nat.le_succ s.heap.objs.size)
    refine ⟨.ref _, upd H (s.heap.objs.size + 1) (.lst (out.map backV)), I.laid (t' := s.toks) (fun _ _ => PyProof.Rows.sortedAll_old) (Nat.le_succ _) ⟨hlen, out, ep, vals_back h3, he'⟩, rfl, q _ _ ?_ hn⟩
    have es : (out.map backV).map kx = lsort S := by
      refine lsort_uniq ?_ ?_
      · rw [eS, e1]
        exact (h2.perm.map backV).map kx
      · rw [List.map_map]
        exact List.pairwise_map.mpr (h1.imp fun {x y} h => by rw [← lex_same]; exact h)
    rw [← es]
    refine paired_of kx fun x hx => ?_
    obtain ⟨v, hv, rfl⟩ := List.mem_map.mp hx
    have hm : backV v ∈ xs := by
      rw [e1]
      exact List.mem_map.mpr ⟨v, h2.perm.mem_iff.mp hv, rfl⟩
    exact hall _ hm
end
theorem rc_sortV {K : PySem.W.Frag} {S : List IL} : RcD K (rSortV K) [lT S] (lT (lsort S)) := fun xs H G w h Q q => by
  cases h with
  | cons a r =>
    cases r
    cases a with
    | lst hs ha =>
      rename_i b vs
      refine ⟨b, vs, S, TpI K H, rfl, ex_l w hs, fun x s ⟨t, e, q⟩ => ⟨t, e, ex_t w q⟩, tpi_all ha, fun ys p hy hp => ?_⟩
      exact new_lst w (all_tpi hy) q p hp
end Ld
set_option maxHeartbeats 4000000
namespace Ld
open PySem PySem.Spec PyProof.Rows L2
open Evl (Ex ex_l ex_t sq_of st_of fresh_back)
open PySem.W (alike alikeAll dataLt keyToksAll AlikeAll minD)
/-! ### the order of data -/
theorem toks_lt : ∀ a b : IL, PyProof.Rows.lexLt itemOrd (keyToksAll (a.map PyData.int)) (keyToksAll (b.map PyData.int)) = lexLt a b
  | [], [] => by
    show PyProof.Rows.lexLt itemOrd (keyToksAll []) (keyToksAll []) = false
    rw [show keyToksAll [] = [Sum.inl 0] by rw [keyToksAll], PySem.W.lex_one]
    rfl
  | [], y :: b => by
    rw [List.map_cons, PySem.W.toks_all_cons]
    show PyProof.Rows.lexLt itemOrd (keyToksAll []) _ = true
    rw [show keyToksAll [] = [Sum.inl 0] by rw [keyToksAll], PySem.W.lex_atom (by decide), PySem.W.lex_one]
    rfl
  | x :: a, [] => by
    rw [List.map_cons, PySem.W.toks_all_cons]
    show PyProof.Rows.lexLt itemOrd _ (keyToksAll []) = false
    rw [show keyToksAll [] = [Sum.inl 0] by rw [keyToksAll], PySem.W.lex_atom (by decide), PySem.W.lex_one]
    rfl
  | x :: a, y :: b => by
    have al : alike (.int x) (.int y) = true := by simp [alike]
    have ee : PyData.eqv (.int x) (.int y) = decide (x = y) := by
      simp only [PyData.eqv]
      by_cases h : x = y <;> simp [h]
    rw [List.map_cons, List.map_cons]
    show _ = (if x = y then lexLt a b else decide (x < y))
    by_cases h : x = y
    · rw [if_pos h, PySem.W.dataLt_all_yes al (by rw [ee]; exact decide_eq_true h)]
      exact toks_lt a b
    · rw [if_neg h, PySem.W.dataLt_all_no al (by rw [ee]; exact decide_eq_false h), PySem.W.dataLt_int]
theorem alike_ints : ∀ a b : IL, alikeAll (a.map PyData.int) (b.map PyData.int) = true
  | [], _ => by simp [alikeAll]
  | _ :: _, [] => by simp [alikeAll]
  | x :: a, y :: b => by
    simp [alikeAll, alike, alike_ints a b]
theorem lt_tI (a b : IL) : dataLt (tI a) (tI b) = lexLt a b := (PySem.W.dataLt_tuple _ _).trans (toks_lt a b)
theorem lt_lI (a b : IL) : dataLt (lI a) (lI b) = lexLt a b := (PySem.W.dataLt_list _ _).trans (toks_lt a b)
theorem alike_tI (a b : IL) : alike (tI a) (tI b) = true := by
  unfold tI
  rw [alike]
  exact alike_ints a b
theorem alike_lI (a b : IL) : alike (lI a) (lI b) = true := by
  unfold lI
  rw [alike]
  exact alike_ints a b
theorem alike_prD (p q : Int × Int) : alike (prD p) (prD q) = true := by
  unfold prD
  simp [alike, alikeAll]
/-- (minus size, list) -/
def kpD (p : Int × IL) : PD := .tuple [.int p.1, lI p.2]
theorem alike_kpD (p q : Int × IL) : alike (kpD p) (kpD q) = true := by
  unfold kpD
  simp only [alike, alikeAll, Bool.true_and, Bool.and_true]
  exact alike_lI _ _
theorem lt_kpD (p q : Int × IL) : dataLt (kpD p) (kpD q) = pLt p q := by
  unfold kpD pLt
  rw [PySem.W.dataLt_tuple]
  have al : alike (.int p.1) (.int q.1) = true := by simp [alike]
  have ee : PyData.eqv (.int p.1) (.int q.1) = decide (p.1 = q.1) := by
    simp only [PyData.eqv]
    by_cases h : p.1 = q.1 <;> simp [h]
  by_cases h : p.1 = q.1
  · rw [if_pos h, PySem.W.dataLt_all_yes al (by rw [ee]; exact decide_eq_true h)]
    by_cases h2 : p.2 = q.2
    · rw [h2, PySem.W.dataLt_all_yes (alike_lI _ _) (by rw [eqv_lI]; exact decide_eq_true rfl), lex_irr]
      rw [show keyToksAll [] = [Sum.inl 0] by rw [keyToksAll], PySem.W.lex_one]
      rfl
    · rw [PySem.W.dataLt_all_no (alike_lI _ _) (by rw [eqv_lI]; exact decide_eq_false h2), lt_lI]
  · rw [if_neg h, PySem.W.dataLt_all_no al (by rw [ee]; exact decide_eq_false h), PySem.W.dataLt_int]
theorem lt_prD (p q : Int × Int) : dataLt (prD p) (prD q) = lexLt [p.1, p.2] [q.1, q.2] := by
  have e : ∀ p : Int × Int, prD p = tI [p.1, p.2] := fun _ => rfl
  rw [e, e, lt_tI]
/-! ### the least -/
def minF {α : Type} (lt : α → α → Bool) (a : α) (l : List α) : α := l.foldl (fun m y => if lt y m then y else m) a
theorem minD_map {α : Type} {emb : α → PD} {lt : α → α → Bool} (h : ∀ x y, dataLt (emb x) (emb y) = lt x y) : ∀ (l : List α) (a : α), minD (emb a) (l.map emb) = emb (minF lt a l)
  | [], _ => rfl
  | x :: l, a => by
    unfold minD minF
    rw [List.map_cons, List.foldl_cons, List.foldl_cons, h]
    have ih := minD_map h l
    unfold minD minF at ih
    cases lt x a with
    | true =>
      rw [if_pos rfl, if_pos rfl]
      exact ih x
    | false =>
      rw [if_neg Bool.false_ne_true, if_neg Bool.false_ne_true]
      exact ih a
theorem minF_spec {α : Type} {lt : α → α → Bool} (O : SrtO.Swo lt) : ∀ (l : List α) (a : α), minF lt a l ∈ a :: l ∧ ∀ y ∈ a :: l, lt y (minF lt a l) = false
  | [], a => ⟨List.mem_cons_self, fun y hy => by
    rw [List.mem_singleton.mp hy]
    exact O.refl a⟩
  | x :: l, a => by
    have e : minF lt a (x :: l) = minF lt (if lt x a then x else a) l := rfl
    rw [e]
    cases h : lt x a with
    | true =>
      rw [if_pos rfl]
      obtain ⟨h1, h2⟩ := minF_spec O l x
      refine ⟨List.mem_cons_of_mem _ h1, fun y hy => ?_⟩
      rcases List.mem_cons.mp hy with c | c
      · rw [c]
        exact O.tr _ x a (h2 x List.mem_cons_self) (O.asym _ _ h)
      · exact h2 y c
    | false =>
      rw [if_neg Bool.false_ne_true]
      obtain ⟨h1, h2⟩ := minF_spec O l a
      refine ⟨?_, fun y hy => ?_⟩
      · rcases List.mem_cons.mp h1 with c | c
        · rw [c]
          exact List.mem_cons_self
        · exact List.mem_cons_of_mem _ (List.mem_cons_of_mem _ c)
      · rcases List.mem_cons.mp hy with c | c
        · rw [c]
          exact h2 a List.mem_cons_self
        · rcases List.mem_cons.mp c with c | c
          · rw [c]
            exact O.tr _ a x (h2 a List.mem_cons_self) h
          · exact h2 y (List.mem_cons_of_mem _ c)
theorem swo_lex : SrtO.Swo lexLt := by
  have q := NtL.swo_lexL (α := IL) id
  exact ⟨fun x y h => by
    have := q.asym x y
    simp only [id, lex_same] at this
    exact this h, fun x y z h1 h2 => lex_trans x y z h1 h2⟩
theorem swo_pLt : SrtO.Swo pLt := by
  refine ⟨fun x y h => ?_, fun x y z h1 h2 => ?_⟩
  · unfold pLt at h ⊢
    by_cases e : x.1 = y.1
    · rw [if_pos e] at h
      rw [if_pos e.symm]
      exact swo_lex.asym _ _ h
    · rw [if_neg e] at h
      rw [if_neg (Ne.symm e)]
      have := of_decide_eq_true h
      exact decide_eq_false (by omega)
  · unfold pLt at h1 h2 ⊢
    by_cases e1 : y.1 = x.1 <;> by_cases e2 : z.1 = y.1
    · rw [if_pos e1] at h1
      rw [if_pos e2] at h2
      rw [if_pos (e2.trans e1)]
      exact swo_lex.tr _ _ _ h1 h2
    · rw [if_neg e2] at h2
      have := of_decide_eq_false h2
      rw [if_neg (by omega)]
      exact decide_eq_false (by omega)
    · rw [if_neg e1] at h1
      have := of_decide_eq_false h1
      rw [if_neg (by omega)]
      exact decide_eq_false (by omega)
    · rw [if_neg e1] at h1
      rw [if_neg e2] at h2
      have := of_decide_eq_false h1
      have := of_decide_eq_false h2
      rw [if_neg (by omega)]
      exact decide_eq_false (by omega)
/-! ### min(xs) of alike data -/
def rMinD (K : PySem.W.Frag) : List V → Hp → VK → Prop := fun vs H Q => ∃ (a : Addr) (xs : List V) (d : PD) (ds : List PD), vs = [V.ref a] ∧ SqL K H a xs ∧ DpAll K H xs (d :: ds) ∧ AlikeAll (d :: ds) ∧ PyData.depthAll (d :: ds) ≤ 60 ∧
  ∀ (i : Nat) (v : V), xs[i]? = some v → (d :: ds)[i]? = some (minD d ds) → Q v H
theorem readsAll_get {h : Heap} : ∀ {vs : List Value} {xs : List PD} {as : List Addr}, ReadsAll h vs xs as → ∀ {i : Nat} {v : Value}, vs[i]? = some v → ∃ d bs, xs[i]? = some d ∧ Reads h v d bs
  | _, _, _, .nil, _, _, e => by simp at e
  | _, _, _, .cons r _, 0, v, e => by
    simp at e
    subst e
    exact ⟨_, _, rfl, r⟩
  | _, _, _, .cons _ rs, i + 1, v, e => by
    obtain ⟨d, bs, e1, e2⟩ := readsAll_get rs (i := i) (v := v) (by simpa using e)
    exact ⟨d, bs, by simpa using e1, e2⟩
theorem minD_mem (d : PD) : ∀ (ds : List PD) , minD d ds ∈ d :: ds := by
  intro ds
  induction ds generalizing d with
  | nil => exact List.mem_cons_self
  | cons x ds ih =>
    have e : minD d (x :: ds) = minD (if dataLt x d then x else d) ds := rfl
    rw [e]
    cases dataLt x d with
    | true =>
      rw [if_pos rfl]
      exact List.mem_cons_of_mem _ (ih x)
    | false =>
      rw [if_neg Bool.false_ne_true]
      rcases List.mem_cons.mp (ih d) with c | c
      · rw [c]
        exact List.mem_cons_self
      · exact List.mem_cons_of_mem _ (List.mem_cons_of_mem _ c)
section
variable {X : Cx}
theorem c_min (K : PySem.W.Frag) {k : Nat} (hr : Room k X.A) (hc : X.calm = true) (hk : X.K = K := by rfl) : CallR X (.builtin "min") (rMinD K) := by
  subst hk
  intro pins s σ H vs us Q I r h
  obtain ⟨a, xs, d, ds, rfl, hs, hd, al, dp, q⟩ := h
  obtain ⟨its, rv, hl, hz⟩ := I.list hs
  rw [Vals.ref1 r]
  obtain ⟨as, rd⟩ := Dp.readsAll I (d :: ds) _ _ hd rv
  have hu : X.A.units + 1 + PyData.depthAll (d :: ds) < cLine := by
    have := hr.un
    omega
  refine PySem.W.min_list_data (I.ok.hd hc) hl.isList (show ReadsAll s.heap its.toArray.toList (d :: ds) as from rd) al hu fun i v h' tk bs hv hb hk => ?_
  have hv' : its[i]? = some v := by simpa using hv
  obtain ⟨e, cs, he, hr'⟩ := readsAll_get rd hv'
  have ee : e = minD d ds := PySem.W.alike_unique e (minD d ds) v cs bs (al.1 _ (List.mem_of_getElem? he) _ (minD_mem d ds)) (PySem.W.reads_keeps hk hr') hb
  have hi : i < xs.length := by
    rw [rv.length]
    exact (List.getElem?_eq_some_iff.mp hv').1
  obtain ⟨u, hu1, hu2⟩ := rv.get (List.getElem?_eq_getElem hi)
  rw [hv'] at hu1
  cases hu1
  exact ⟨xs[i], H, I.kept hk, hu2, q i _ (List.getElem?_eq_getElem hi) (by rw [he, ee])⟩
end
theorem rc_min {K : PySem.W.Frag} {α : Type} {emb : α → PD} {lt : α → α → Bool} {a : α} {l : List α} (h : ∀ x y, dataLt (emb x) (emb y) = lt x y) (al : ∀ x y, alike (emb x) (emb y) = true) (hn : ∀ x, emb x ≠ .none) (hd : ∀ x, (emb x).depth ≤ 50) :
    RcD K (rMinD K) [.list ((a :: l).map emb)] (emb (minF lt a l)) := fun xs H G w g Q q => by
  cases g with
  | cons g r =>
    cases r
    cases g with
    | lst hs ha =>
      rename_i b vs
      refine ⟨b, vs, emb a, l.map emb, rfl, ex_l w hs, dpAll_ex w _ _ ha, ⟨fun x hx y hy => ?_, fun x hx => ?_⟩, ?_, fun i v hv hi => ?_⟩
      · obtain ⟨x', _, rfl⟩ := List.mem_map.mp (show x ∈ (a :: l).map emb from hx)
        obtain ⟨y', _, rfl⟩ := List.mem_map.mp (show y ∈ (a :: l).map emb from hy)
        exact al _ _
      · obtain ⟨x', _, rfl⟩ := List.mem_map.mp (show x ∈ (a :: l).map emb from hx)
        exact hn _
      · exact Nat.le_trans (depthAll_map hd (a :: l)) (by decide)
      · rw [minD_map h] at hi
        obtain ⟨v', e1, e2⟩ := dpAll_at ha hi
        rw [hv] at e1
        cases e1
        exact q v H G (Gr.refl w) e2
/-! ### <= of pairs -/
def rLeD (K : PySem.W.Frag) : R2 := fun x y H Q => ∃ d e, Dp K H x d ∧ Dp K H y e ∧ alike d e = true ∧ d ≠ .none ∧ d.depth ≤ 60 ∧ Q (.bl (!dataLt e d)) H
theorem o_leD {X : Cx} (K : PySem.W.Frag) {k : Nat} (hr : Room k X.A) (h : X.K = K := by rfl) : OpR X (compareOp .LtE) (rLeD K) := by
  subst h
  intro pins s σ H x y v u Q I rx ry h
  obtain ⟨d, e, hd, he, al, hn, dp, q⟩ := h
  obtain ⟨as, r1⟩ := Dp.reads I d x v hd rx
  obtain ⟨bs, r2⟩ := Dp.reads I e y u he ry
  have hu : X.A.units + min d.depth e.depth < cLine := by
    have := hr.un
    have := Nat.min_le_left d.depth e.depth
    omega
  exact PySem.W.le_data r1 r2 al hn hu ⟨.bl _, H, I, rfl, q⟩
theorem rv_leP {K : PySem.W.Frag} {p q : Int × Int} : RvD K (rLeD K) (prD p) (prD q) (.bool (!lexLt [q.1, q.2] [p.1, p.2])) := fun x y H G w a b Q k => by
  refine ⟨prD p, prD q, dp_ex w _ _ a, dp_ex w _ _ b, alike_prD p q, (fun h => by cases h), Nat.le_trans (dep_prD p) (by decide), ?_⟩
  rw [lt_prD]
  exact k _ H G (Gr.refl w) (.bl _)
end Ld
set_option maxHeartbeats 4000000
/-! set(xs) of a list of ints, in the form whose order is told; sorted of it -/
namespace L2
open PySem PySem.Spec PyProof.Rows
section
variable {P : Program} {w : World} {A : Around} {E : Value → Shared → Prop} {s : Shared}
/-- the new set ahead of its filling -/
abbrev set0 (w : World) : Obj := { cls := .type "set", dict := none, data := .set #[] 0 (.fresh 0 0 (!w.params.followText "set-order")) }
set_option maxHeartbeats 6400000 in
theorem fill_list {l : Addr} {items : Array Value} (ns : List Int) {Q : Value → Shared → Prop} (hh : A.handled = none) (hl : s.heap.IsList l items) (hit : IntsAre items.toList ns) (hb : ns.length + 1 < scanBound)
    (h : ∀ (h' : Heap) (tk c : Nat), SetR w h' s.heap.objs.size (fun j => decide (j ∈ ns)) c → c ≤ ns.length → (∀ b o, s.heap.get? b = some o → h'.get? b = some o) → Q (.ref s.heap.objs.size) { s with heap := h', toks := tk }) :
    wpAny (model P w) A (call (.type "set") [.ref l]) Q E s := by
  have en : items.size = ns.length := by
    have q := IntsAre.length hit
    rwa [Array.length_toList] at q
  have ll : l < s.heap.objs.size := by
    obtain ⟨_, q, _⟩ := hl
    exact Heap.lt_size q
  obtain ⟨c, tl, m1⟩ := F.called_set.mro
  have m2 := F.called_set.made
  have m3 := F.called_set.sub
  refine wpAny_call (codeAny_of_tree ?_)
  show wpAny _ _ (callAny (.type "set") _) _ _ _
  refine wpAny_pure ⟨Code.quiet_builtin _ (by decide +kernel), codeAny_builtin F.entry_type_call ?_⟩
  rw [Around.under_plain (weight_type_call_type "set" [.ref l] []) rfl]
  have m4 := F.called_set.notType
  have m5 := F.called_set.canCreate
  have m6 := F.typeCall_set_1 (.ref l)
  repeat (any_goals (first | assumption | wp_step))
  refine codeAny_mono (code_set_led1 (.ref l) (E := E) (Q₁ := fun ob s1 => ob = .ref s.heap.objs.size ∧ s1 = { s with heap := s.heap.push (set0 w) }) ⟨rfl, rfl⟩) fun r s1 hr => ?_
  cases r with
  | error e => exact hr
  | ok fl =>
    cases fl with
    | ret ob =>
      obtain ⟨rfl, rfl⟩ := hr
      have g0 : (s.heap.push (set0 w)).get? s.heap.objs.size = some (set0 w) := Heap.get?_push_size _ rfl
      have zT : Shared.TypeIs { s with heap := s.heap.push (set0 w) } (.ref s.heap.objs.size) "set" := ⟨_, g0, rfl⟩
      have m7 := F.called_set.init.lookup
      have m8 := F.called_set.init.bind (.ref s.heap.objs.size)
      repeat (any_goals (first | assumption | wp_step))
      refine codeAny_mono (codeAny_call_builtin (R := wants (fun r s2 => r = .none ∧ ∃ h' tk c, s2 = { s with heap := h', toks := tk } ∧ SetR w h' s.heap.objs.size (fun j => decide (j ∈ ns)) c ∧ c ≤ ns.length ∧ (∀ b o, s.heap.get? b = some o → h'.get? b = some o)) E)
        F.called_set.init.plain F.entry_set_init (check_set_init_1 zT ?_)) fun r2 s2 hr2 => ?_
      · obtain ⟨⟨k1, k2, k3, k4⟩, g1, e1, n1, e2⟩ := hl
        simp only at e1 e2
        subst e1 e2
        have g2 : (s.heap.push (set0 w)).get? l = some { cls := .type "list", dict := k2, data := .seq items n1, slots := k4 } := Heap.get?_push_of_some _ g1
        have n2 := F.sub_list_set
        have n3 := F.sub_list_frozenset
        have n4 : (Value.type "list" == Value.type "dict") = false := by decide
        have hl1 : (s.heap.push (set0 w)).IsList l items := ⟨_, g2, rfl, n1, rfl⟩
        unfold Builtin.«set.__init__» noKeywords Builtin.Frozenset.updateFrom
        generalize hPI : pyIter = PI
        wp_walk
        subst hPI
        refine wpAny_pyIter_list hl1 (wpAny_bind (wpAny_runValue ?_))
        have hh3 : A.in1.in1.in1.handled = none := by simp [hh]
        have z1 : (s.heap.push (set0 w)).objs.size = s.heap.objs.size + 1 := Heap.size_push ..
        have l1 : l ≠ (s.heap.push (set0 w)).objs.size := by
          rw [z1]
          exact Nat.ne_of_lt (Nat.lt_succ_of_lt ll)
        have l2 : s.heap.objs.size ∉ [(s.heap.push (set0 w)).objs.size, l] := by
          rw [z1]
          simp only [List.mem_cons, List.mem_singleton, List.not_mem_nil, or_false, not_or]
          exact ⟨Nat.ne_of_lt (Nat.lt_succ_self _), Nat.ne_of_gt ll⟩
        have hv : ∀ (i : Nat) (v : Value), items[i]? = some v → ∃ k t, ns[i]? = some k ∧ v = .int k t := fun i v q => by
          have hi : i < ns.length := by
            rw [← en]
            exact (Array.getElem?_eq_some_iff.mp q).1
          obtain ⟨t, e⟩ := PyProof.Rows.IntsAre.int_at hit i v (by rw [Array.getElem?_toList]; exact q)
          exact ⟨ns[i], t, List.getElem?_eq_getElem hi, by rw [e, List.getD_eq_getElem?_getD, List.getElem?_eq_getElem hi] <;> rfl⟩
        refine set_update_ints ((Walks.list hh3 _ l l1 items).toS) s.heap.objs.size l2 ns en hb hv (items.size - 0) 0 _ (by omega) (Nat.zero_le _) ⟨⟨_, Heap.get?_push_size _ rfl, rfl, rfl⟩, (hl1.push _)⟩ ⟨0, Nat.le_refl 0, setR_new_at (Heap.get?_push_of_some _ g0)⟩ ?_
        intro s' c' hm hc' hS'
        obtain ⟨h', g', d', tk', o'⟩ := s'
        obtain rfl : g' = s.gens := hm.gens
        obtain rfl : d' = s.drawn := hm.drawn
        obtain rfl : o' = s.os := hm.os
        show wpAny _ _ _ _ _ _
        refine wpAny_pure ?_
        show wpAny _ _ (ret Value.none) _ _ _
        rw [en] at hc'
        refine wpAny_pure ⟨rfl, h', tk', c', rfl, hS', hc', fun b o e => ?_⟩
        have b0 : b < s.heap.objs.size := Heap.lt_size e
        refine hm.heap b o ?_ (Heap.get?_push_of_some _ (Heap.get?_push_of_some _ e))
        rw [z1]
        simp only [List.mem_cons, List.mem_singleton, List.not_mem_nil, or_false, not_or]
        exact ⟨Nat.ne_of_lt b0, Nat.ne_of_lt (Nat.lt_succ_of_lt b0)⟩
      · cases r2 with
        | error e => exact hr2
        | ok f2 =>
          cases f2 with
          | ret r =>
            obtain ⟨rfl, h', tk, c', rfl, hS', hc', hk'⟩ := hr2
            repeat (any_goals (first | assumption | wp_step))
            exact h _ _ _ hS' hc' hk'
          | _ => exact hr2.elim
    | _ => exact hr.elim
end
end L2
namespace Ld
open PySem PySem.Spec PyProof.Rows L2
open Evl (Ex ex_l ex_t sq_of st_of fresh_back)
def rSetI (K : PySem.W.Frag) (w : World) : List V → Hp → VK → Prop := fun xs H Q => ∃ (l : Addr) (ns : IL), xs = [V.ref l] ∧ (SqL K H l (ns.map V.int) ∨ SqT K H l (ns.map V.int)) ∧ ns.length < 64 ∧
  ∀ a c, H a = none → c ≤ ns.length → Q (.ref a) (upd H a (SetO w a (fun j => decide (j ∈ ns)) c))
section
variable {X : Cx}
theorem c_set (K : PySem.W.Frag) (w : World) (hc : X.calm = true) (hk : X.K = K := by rfl) (hw : X.w = w := by rfl) : CallR X (.type "set") (rSetI K w) := by
  subst hk hw
  intro pins s σ H xs us Q I r h
  obtain ⟨l, ns, rfl, hl, hf, q⟩ := h
  rw [Vals.ref1 r]
  have hn := I.hok.fresh (Nat.le_refl s.heap.objs.size)
  have hb : ns.length + 1 < scanBound := by unfold scanBound; omega
  rcases hl with hl | hl
  · obtain ⟨its, rv, pl, hz⟩ := I.list hl
    refine fill_list (P := X.prog) (w := X.w) ns (I.ok.hd hc) pl.isList (by simpa using rv.ints) hb fun h' tk c hS hle k => ?_
    exact ⟨.ref s.heap.objs.size, _, I.laid (t' := tk) k (Nat.le_refl _) (setO_new hS), rfl, q _ c hn hle⟩
  · obtain ⟨its, rv, pl, hz⟩ := I.tuple hl
    refine call_set_tupI (P := X.prog) (w := X.w) ns (I.ok.hd hc) pl (by simpa using rv.ints) hb fun h' tk c hS hle k => ?_
    exact ⟨.ref s.heap.objs.size, _, I.laid (t' := tk) k (Nat.le_refl _) (setO_new hS), rfl, q _ c hn hle⟩
theorem c_sset (w : World) (hc : X.calm = true) (hw : X.w = w := by rfl) : CallR X (.builtin "sorted") (rSortedSet w) := by
  subst hw
  exact cr_sortedSet hc
end
/-- sorted(set(xs)) -/
theorem ev_sset {K : PySem.W.Frag} {w : World} {δ : DS} {te : TE} {l : IL} (h : Ev K te δ (.list (l.map PyData.int)) ∨ Ev K te δ (.tuple (l.map PyData.int))) (hl : l.length < 64) :
    Ev K (tCB (rSortedSet w) (tCons (tCB (rSetI K w) (tCons te tNil)) tNil)) δ (.list ((sset l).map PyData.int)) := by
  have key : ∀ (H G : Hp) (p : Addr), Ex H G → (SqL K G p (l.map V.int) ∨ SqT K G p (l.map V.int)) → ∀ Q : VK, (∀ v H' G', Gr H G H' G' → Dp K H' v (.list ((sset l).map PyData.int)) → Q v G') →
      rSetI K w [.ref p] G fun x G1 => rSortedSet w [x] G1 Q := fun H G p e hp Q q =>
    ⟨p, l, rfl, hp, hl, fun a c ha hc => ⟨a, _, c, rfl, upd_same, by omega, fun ns b h1 h2 _ hb => by
      have g1 : Gr H G _ _ := Gr.new (o := SetO w a (fun j => decide (j ∈ l)) c) e ha
      rw [sset_uniq (l := l) h1 fun x => by rw [h2 x, decide_eq_true_eq]]
      exact new_lst g1.hg (ints_dpAll _) (fun v H' G' g2 hv => q v H' G' (g1.trans g2) hv) b hb⟩⟩
  rcases h with h | h
  · intro σ H G s x Q q
    refine h σ H G s x _ fun v H1 G1 g1 h1 => ?_
    obtain ⟨p, rfl, hs⟩ := ints_of h1
    exact key H1 G1 p g1.hg (.inl (ex_l g1.hg hs)) Q fun v H' G' g2 hv => q v H' G' (g1.trans g2) hv
  · intro σ H G s x Q q
    refine h σ H G s x _ fun v H1 G1 g1 h1 => ?_
    obtain ⟨p, rfl, hs⟩ := intsT_of h1
    exact key H1 G1 p g1.hg (.inr (ex_t g1.hg hs)) Q fun v H' G' g2 hv => q v H' G' (g1.trans g2) hv
end Ld
set_option maxHeartbeats 4000000
namespace Ld
open PySem PySem.Spec PyProof.Rows L2
open Evl (Ex ex_l ex_t sq_of st_of fresh_back)
/-! ### lists that change -/
structure Mu (K : PySem.W.Frag) (r : Addr) (ds : List PD) (H G : Hp) : Prop where
  hr : H r = none
  at_ : ∃ vs, G r = some (.lst vs) ∧ DpAll K H vs ds
section
variable {K : PySem.W.Frag} {r : Addr} {ds : List PD} {H G H' G' H2 G2 : Hp}
theorem Mu.some (m : Mu K r ds H G) : G r ≠ none := by
  obtain ⟨vs, h, _⟩ := m.at_
  rw [h]
  exact fun c => by cases c
theorem Mu.gr (m : Mu K r ds H G) (g : Gr H G H' G') : Mu K r ds H' G' := by
  obtain ⟨vs, h1, h2⟩ := m.at_
  exact ⟨(g.old r m.some).trans m.hr, vs, g.g _ _ h1, dpAll_ex g.h _ _ h2⟩
theorem Mu.grow (m : Mu K r ds H G) (e : Ex G G') : Mu K r ds H G' := by
  obtain ⟨vs, h1, h2⟩ := m.at_
  exact ⟨m.hr, vs, e _ _ h1, h2⟩
/-- what changes is known for the while -/
theorem Mu.read (m : Mu K r ds H G) (x : Ex H G) : ∃ Hp, Ex H Hp ∧ Ex Hp G ∧ Dp K Hp (.ref r) (.list ds) := by
  obtain ⟨vs, h1, h2⟩ := m.at_
  refine ⟨upd H r (.lst vs), Ex.new m.hr, fun a o h => ?_, .lst (sq_of upd_same) (dpAll_ex (Ex.new m.hr) _ _ h2)⟩
  by_cases c : a = r
  · subst c
    rw [upd_same] at h
    rw [← h]
    exact h1
  · rw [upd_ne c] at h
    exact x a o h
theorem Mu.put (m : Mu K r ds H G) {vs : List V} {es : List PD} (h : DpAll K H vs es) : Mu K r es H (upd G r (.lst vs)) := ⟨m.hr, vs, upd_same, h⟩
theorem Mu.other (m : Mu K r ds H G) {b : Addr} {o : HO} (hb : b ≠ r) : Mu K r ds H (upd G b o) := by
  obtain ⟨vs, h1, h2⟩ := m.at_
  exact ⟨m.hr, vs, by rw [upd_ne (Ne.symm hb)]; exact h1, h2⟩
theorem sl_read {σ : L2.St} {δ : DS} {i : Nat} (s : Sl K H σ δ) (e : Ex H H') (hi : σ[i]? = .some (.some (.ref r))) (h : Dp K H' (.ref r) (.list ds)) : Sl K H' σ (δ.set i (.some (.list ds))) := by
  refine ⟨by rw [List.length_set, s.len], fun j d q => ?_⟩
  by_cases c : i = j
  · subst c
    by_cases l : i < δ.length
    · rw [List.getElem?_set_self l] at q
      cases q
      exact ⟨_, hi, h⟩
    · rw [List.getElem?_eq_none (by rw [List.length_set]; omega)] at q
      cases q
  · rw [List.getElem?_set_ne c] at q
    obtain ⟨v, a, b⟩ := s.at_ j d q
    exact ⟨v, a, dp_ex e d v b⟩
theorem rd_int {σ : L2.St} {δ : DS} {i : Nat} {te : TE} {z : Int} (h : Ev K te (δ.set i (.some (.list ds))) (.int z)) (s : Sl K H σ δ) (x : Ex H G) (hi : σ[i]? = .some (.some (.ref r))) (m : Mu K r ds H G) {Q : VK} (q : ∀ G', Ex G G' → Q (.int z) G') : te σ G Q := by
  obtain ⟨Hp, e1, e2, e3⟩ := m.read x
  refine h σ Hp G (sl_read s e1 hi e3) e2 _ fun v H' G' g hv => ?_
  rw [int_inv hv]
  exact q G' g.g
theorem rd_test {σ : L2.St} {δ : DS} {i : Nat} {tt : TT} {b : Bool} (h : EvB K tt (δ.set i (.some (.list ds))) b) (s : Sl K H σ δ) (x : Ex H G) (hi : σ[i]? = .some (.some (.ref r))) (m : Mu K r ds H G) {Q : Bool → Hp → Prop} (q : ∀ G', Ex G G' → Q b G') : tt σ G Q := by
  obtain ⟨Hp, e1, e2, e3⟩ := m.read x
  exact h σ Hp G (sl_read s e1 hi e3) e2 _ fun H' G' g => q G' g.g
end
/-- two heaps, a list at r changes -/
structure GM (r : Addr) (H G H' G' : Hp) : Prop where
  g : ∀ a o, a ≠ r → G a = some o → G' a = some o
  al : G r ≠ none → G' r ≠ none
  h : Ex H H'
  hg : Ex H' G'
  old : ∀ a, G a ≠ none → H' a = H a
section
variable {r : Addr} {H G H' G' H2 G2 : Hp}
theorem GM.refl (e : Ex H G) : GM r H G H G := ⟨fun _ _ _ h => h, id, Ex.refl H, e, fun _ _ => rfl⟩
theorem Gr.gm (g : Gr H G H' G') : GM r H G H' G' := ⟨fun a o _ h => g.g a o h, ex_some g.g, g.h, g.hg, g.old⟩
theorem GM.some (g : GM r H G H' G') {a : Addr} (h : G a ≠ none) : G' a ≠ none := by
  by_cases c : a = r
  · subst c
    exact g.al h
  · cases q : G a with
    | none => exact absurd q h
    | some o =>
      rw [g.g a o c q]
      exact fun c => by cases c
theorem GM.trans (a : GM r H G H' G') (b : GM r H' G' H2 G2) : GM r H G H2 G2 :=
  ⟨fun x o n h => b.g x o n (a.g x o n h), fun h => b.al (a.al h), a.h.trans b.h, b.hg, fun x hx => (b.old x (a.some hx)).trans (a.old x hx)⟩
end
/-! ### the row of the script -/
def rowD (S : IL) (p sd re : Int) : List PD := [lI S, .int p, .int sd, .int re]
def Rw (K : PySem.W.Frag) (r : Addr) (H G : Hp) : Prop := ∃ (S : IL) (p sd re : Int), 0 ≤ p ∧ Mu K r (rowD S p sd re) H G
theorem Rw.gr {K : PySem.W.Frag} {r : Addr} {H G H' G' : Hp} (m : Rw K r H G) (g : Gr H G H' G') : Rw K r H' G' := by
  obtain ⟨S, p, sd, re, h, m⟩ := m
  exact ⟨S, p, sd, re, h, m.gr g⟩
theorem Rw.other {K : PySem.W.Frag} {r : Addr} {H G : Hp} (m : Rw K r H G) {b : Addr} {o : HO} (hb : b ≠ r) : Rw K r H (upd G b o) := by
  obtain ⟨S, p, sd, re, h, m⟩ := m
  exact ⟨S, p, sd, re, h, m.other hb⟩
theorem Rw.some {K : PySem.W.Frag} {r : Addr} {H G : Hp} (m : Rw K r H G) : G r ≠ none := by
  obtain ⟨S, p, sd, re, h, m⟩ := m
  exact m.some
theorem Rw.hr {K : PySem.W.Frag} {r : Addr} {H G : Hp} (m : Rw K r H G) : H r = none := by
  obtain ⟨S, p, sd, re, h, m⟩ := m
  exact m.hr
theorem Rw.known {K : PySem.W.Frag} {r : Addr} {H H' G : Hp} (m : Rw K r H G) (e : Ex H H') (hr : H' r = none) : Rw K r H' G := by
  obtain ⟨S, p, sd, re, h, m⟩ := m
  obtain ⟨vs, h1, h2⟩ := m.at_
  exact ⟨S, p, sd, re, h, hr, vs, h1, dpAll_ex e _ _ h2⟩
def spM (K : PySem.W.Frag) (Pre : List PD → Prop) (Post : List PD → PD → Prop) : Sp := fun vs G Q _ => ∃ H r vs' ds, vs = .ref r :: vs' ∧ Ex H G ∧ Rw K r H G ∧ DpAll K H vs' ds ∧ Pre ds ∧ ∀ v d H' G', Post ds d → GM r H G H' G' → Rw K r H' G' → Dp K H' v d → Q v G'

section
variable {K : PySem.W.Frag} {i : Nat} {δ : DS} {D Da Db Dz : PD → Prop} {te ta tb : TE} {tt tu : TT}
def EM (K : PySem.W.Frag) (i : Nat) (te : TE) (δ : DS) (D : PD → Prop) : Prop := ∀ (r : Addr) (σ : L2.St) (H G : Hp), Sl K H σ δ → Ex H G → σ[i]? = some (some (.ref r)) → Rw K r H G →
  ∀ Q : VK, (∀ v d H' G', GM r H G H' G' → Rw K r H' G' → Dp K H' v d → D d → Q v G') → te σ G Q
def EMB (K : PySem.W.Frag) (i : Nat) (tt : TT) (δ : DS) (P : Bool → Prop) : Prop := ∀ (r : Addr) (σ : L2.St) (H G : Hp), Sl K H σ δ → Ex H G → σ[i]? = some (some (.ref r)) → Rw K r H G →
  ∀ Q : Bool → Hp → Prop, (∀ b H' G', GM r H G H' G' → Rw K r H' G' → P b → Q b G') → tt σ G Q
theorem em_pure {d : PD} (h : Ev K te δ d) (hd : D d) : EM K i te δ D := fun r σ H G s x hi m Q q => h σ H G s x _ fun v H' G' g hv => q v d H' G' g.gm (m.gr g) hv hd
theorem em_mono (h : EM K i te δ Da) (k : ∀ d, Da d → D d) : EM K i te δ D := fun r σ H G s x hi m Q q => h r σ H G s x hi m _ fun v d H' G' g m' hv hd => q v d H' G' g m' hv (k d hd)
theorem emb_pure {b : Bool} {P : Bool → Prop} (h : EvB K tt δ b) (hd : P b) : EMB K i tt δ P := fun r σ H G s x hi m Q q => h σ H G s x _ fun H' G' g => q b H' G' g.gm (m.gr g) hd
theorem em_call {Pre : List PD → Prop} {Post : List PD → PD → Prop} {E : XK} (h : EM K i ta δ Da) (hp : ∀ d, Da d → Pre [d]) : EM K i (tCall (spM K Pre Post) [] E (tCons (tVar i) (tCons ta tNil))) δ (fun z => ∃ d, Da d ∧ Post [d] z) := fun r σ H G s x hi m Q q =>
  ⟨.ref r, hi, h r σ H G s x hi m _ fun v d H1 G1 g1 m1 h1 hd => ⟨H1, r, [v], [d], rfl, g1.hg, m1, .cons h1 .nil, hp d hd, fun v2 d2 H2 G2 p2 g2 m2 h2 => q v2 d2 H2 G2 (g1.trans g2) m2 h2 ⟨d, hd, p2⟩⟩⟩
theorem em_op {rr : R2} (hr : ∀ a b, Da a → Db b → ∃ z, RvD K rr a b z ∧ Dz z) (ha : EM K i ta δ Da) (hb : EM K i tb δ Db) : EM K i (tOp rr ta tb) δ Dz := fun r σ H G s x hi m Q q =>
  ha r σ H G s x hi m _ fun v d H1 G1 g1 m1 h1 hd => hb r σ H1 G1 (s.ex g1.h) g1.hg hi m1 _ fun v2 d2 H2 G2 g2 m2 h2 hd2 => by
    obtain ⟨z, rv, hz⟩ := hr d d2 hd hd2
    exact rv v v2 H2 G2 g2.hg (dp_ex g2.h _ _ h1) h2 _ fun v3 H3 G3 g3 h3 => q v3 z H3 G3 (g1.trans (g2.trans g3.gm)) (m2.gr g3) h3 hz
theorem em_cb {rr : List V → Hp → VK → Prop} (hr : ∀ a, Da a → ∃ z, RcD K rr [a] z ∧ Dz z) (ha : EM K i ta δ Da) : EM K i (tCB rr (tCons ta tNil)) δ Dz := fun r σ H G s x hi m Q q =>
  ha r σ H G s x hi m _ fun v d H1 G1 g1 m1 h1 hd => by
    obtain ⟨z, rv, hz⟩ := hr d hd
    exact rv [v] H1 G1 g1.hg (.cons h1 .nil) _ fun v3 H3 G3 g3 h3 => q v3 z H3 G3 (g1.trans g3.gm) (m1.gr g3) h3 hz
theorem em_tup2 (ha : EM K i ta δ Da) (hb : EM K i tb δ Db) : EM K i (tTup (tCons ta (tCons tb tNil))) δ (fun z => ∃ a b, Da a ∧ Db b ∧ z = .tuple [a, b]) := fun r σ H G s x hi m Q q =>
  ha r σ H G s x hi m _ fun v d H1 G1 g1 m1 h1 hd => hb r σ H1 G1 (s.ex g1.h) g1.hg hi m1 _ fun v2 d2 H2 G2 g2 m2 h2 hd2 => ⟨by show 2 ≤ sizeLine; decide, fun p hp => by
    have g3 : Gr H2 G2 (upd H2 p _) (upd G2 p (.tup [v, v2])) := Gr.new g2.hg hp
    exact q _ _ _ _ (g1.trans (g2.trans g3.gm)) (m2.gr g3) (.tup (st_of upd_same) (.cons (dp_ex (g2.h.trans g3.h) _ _ h1) (.cons (dp_ex g3.h _ _ h2) .nil))) ⟨d, d2, hd, hd2, rfl⟩⟩
theorem em_lst3 {tc : TE} {Dc : PD → Prop} (ha : EM K i ta δ Da) (hb : EM K i tb δ Db) (hc : EM K i tc δ Dc) : EM K i (tLst (tCons ta (tCons tb (tCons tc tNil)))) δ (fun z => ∃ a b c, Da a ∧ Db b ∧ Dc c ∧ z = .list [a, b, c]) := fun r σ H G s x hi m Q q =>
  ha r σ H G s x hi m _ fun v d H1 G1 g1 m1 h1 hd => hb r σ H1 G1 (s.ex g1.h) g1.hg hi m1 _ fun v2 d2 H2 G2 g2 m2 h2 hd2 => hc r σ H2 G2 (s.ex (g1.h.trans g2.h)) g2.hg hi m2 _ fun v3 d3 H3 G3 g3 m3 h3 hd3 => ⟨by show 3 ≤ sizeLine; decide, fun p hp => by
    have g4 : Gr H3 G3 (upd H3 p _) (upd G3 p (.lst [v, v2, v3])) := Gr.new g3.hg hp
    exact q _ _ _ _ (g1.trans (g2.trans (g3.trans g4.gm))) (m3.gr g4) (.lst (sq_of upd_same) (.cons (dp_ex (g2.h.trans (g3.h.trans g4.h)) _ _ h1) (.cons (dp_ex (g3.h.trans g4.h) _ _ h2) (.cons (dp_ex g4.h _ _ h3) .nil)))) ⟨d, d2, d3, hd, hd2, hd3, rfl⟩⟩
theorem emb_test {P : Bool → Prop} (h : EM K i te δ (fun d => ∃ b, d = .bool b ∧ P b)) : EMB K i (tTest te) δ P := fun r σ H G s x hi m Q q => h r σ H G s x hi m _ fun v d H1 G1 g1 m1 h1 hd => by
  obtain ⟨b, rfl, hp⟩ := hd
  exact ⟨b, bl_inv h1, q b H1 G1 g1 m1 hp⟩
theorem emb_and {P P2 : Bool → Prop} (h1 : EMB K i tt δ P) (h2 : P true → EMB K i tu δ P2) : EMB K i (tAnd tt tu) δ (fun b => b = true → P true) := fun r σ H G s x hi m Q q => h1 r σ H G s x hi m _ fun b H1 G1 g1 m1 hp => by
  cases b with
  | true =>
    rw [if_pos rfl]
    exact h2 hp r σ H1 G1 (s.ex g1.h) g1.hg hi m1 _ fun b2 H2 G2 g2 m2 _ => q b2 H2 G2 (g1.trans g2) m2 fun _ => hp
  | false =>
    rw [if_neg Bool.false_ne_true]
    exact q false H1 G1 g1 m1 fun c => by cases c
theorem emb_or {P P2 : Bool → Prop} (h1 : EMB K i tt δ P) (h2 : EMB K i tu δ P2) : EMB K i (tOr tt tu) δ (fun _ => True) := fun r σ H G s x hi m Q q => h1 r σ H G s x hi m _ fun b H1 G1 g1 m1 hp => by
  cases b with
  | true =>
    rw [if_pos rfl]
    exact q true H1 G1 g1 m1 trivial
  | false =>
    rw [if_neg Bool.false_ne_true]
    exact h2 r σ H1 G1 (s.ex g1.h) g1.hg hi m1 _ fun b2 H2 G2 g2 m2 _ => q b2 H2 G2 (g1.trans g2) m2 trivial
theorem emb_any {P : Bool → Prop} (h : EMB K i tt δ P) : EMB K i tt δ (fun _ => True) := fun r σ H G s x hi m Q q => h r σ H G s x hi m _ fun b H1 G1 g1 m1 _ => q b H1 G1 g1 m1 trivial
theorem wipe_get {σ : L2.St} {i : Nat} : ∀ {vs : List Nat}, i ∉ vs → (wipe σ vs)[i]? = σ[i]?
  | [], _ => rfl
  | v :: vs, h => by
    show ((wipe σ vs).set v none)[i]? = _
    rw [List.getElem?_set_ne fun c => h (by rw [c]; exact List.mem_cons_self ..)]
    exact wipe_get fun c => h (List.mem_cons_of_mem _ c)
theorem keeps_of {σ σ' : L2.St} {i : Nat} {js : List Nat} (h : ∀ vs : List Nat, (∀ j ∈ js, j ∈ vs) → wipe σ' vs = wipe σ vs) (hn : i ∉ js) : σ'[i]? = σ[i]? := by
  rw [← wipe_get (σ := σ') hn, h js fun _ a => a, wipe_get hn]
/-- a comprehension whose tests draw -/
theorem em_lc {α : Type} {emb : α → PD} {l : List α} {wi : TI} {g : TG} {vs js : List Nat} {δ' : α → DS} (m : α → PD) (hin : i ∉ vs) (hi : EvI K wi δ (l.map emb)) (hg : ∀ a ∈ l, EvG K js g (emb a) (wipeD δ vs) (δ' a)) (hj : ∀ j ∈ js, j ∈ vs)
    (hl : l.length ≤ 100000) (ht : ∀ a ∈ l, EMB K i tt (δ' a) (fun _ => True)) (he : ∀ a ∈ l, Ev K te (δ' a) (m a)) : EM K i (tLc wi g tt te vs) δ (fun d => ∃ l' : List α, l'.Sublist l ∧ d = .list (l'.map m)) := fun r σ H G s w hri mr Q q => hi σ H G s w _ fun J H1 G1 e1 W D hD => by
  unfold WkD at W
  rw [List.length_map] at W
  have hD1 : H1 D = none := ex_none e1.hg hD
  have mr1 := mr.gr e1
  have hDr : D ≠ r := fun c => mr1.some (by rw [← c]; exact hD)
  refine lc_it W (fun i' G2 => ∃ Hk acc l', (∀ a o, a ≠ r → G1 a = some o → G2 a = some o) ∧ (G2 r ≠ none) ∧ Ex H1 Hk ∧ Ex Hk G2 ∧ Hk D = none ∧ (∀ a, G1 a ≠ none → Hk a = H1 a) ∧ G2 D = some (.lst acc) ∧ List.Sublist l' (l.take i') ∧ DpAll K Hk acc (l'.map m) ∧ acc.length ≤ i' ∧ Rw K r Hk G2)
    ⟨H1, [], [], fun a o _ h => Ex.new hD a o h, (mr1.other hDr).some, Ex.refl H1, Ex.chg e1.hg hD1, hD1, fun _ _ => rfl, upd_same, List.nil_sublist _, .nil, Nat.le_refl _, mr1.other hDr⟩ (fun i G2 _ p => ?_) (fun i' x G2 G3 hi p y => ?_) fun G2 p => ?_
  · obtain ⟨Hk, acc, l', _, _, a, b, _⟩ := p
    exact a.trans b
  · obtain ⟨Hk, acc, l', e2, er, k1, k2, kD, kold, hacc, hsub, dacc, lacc, mk⟩ := p
    obtain ⟨Hk2, d, g2, hd, hx⟩ := y Hk k1 k2
    rw [List.getElem?_map] at hd
    obtain ⟨a, ha, rfl⟩ := Option.map_eq_some_iff.mp hd
    have hm : a ∈ l := List.mem_of_getElem? ha
    have tk : l.take (i' + 1) = l.take i' ++ [a] := by rw [List.take_add_one, ha] <;> rfl
    have GD : G2 D ≠ none := by
      rw [hacc]
      exact fun c => by cases c
    have old1 : ∀ b, G1 b ≠ none → G2 b ≠ none := fun b hb => by
      by_cases c : b = r
      · rw [c]
        exact er
      · cases h : G1 b with
        | none => exact absurd h hb
        | some o =>
          rw [e2 b o c h]
          exact fun c => by cases c
    refine hg a hm _ Hk2 G3 x ((s.ex (e1.h.trans (k1.trans g2.h))).wipe vs) g2.hg hx _ fun σ2 s2 hw => ⟨by rw [hw vs hj, wipe_wipe], ?_⟩
    have hri2 : σ2[i]? = some (some (.ref r)) := by rw [keeps_of hw fun c => hin (hj i c), wipe_get hin, hri]
    refine ht a hm r σ2 Hk2 G3 s2 g2.hg hri2 (mk.gr g2) _ fun b Hk4 G4 g4 mk4 _ => ?_
    have g24 := (g2.gm (r := r)).trans g4
    have kD4 : Hk4 D = none := (g24.old D GD).trans kD
    cases b with
    | false =>
      rw [if_neg Bool.false_ne_true]
      refine ⟨Hk4, acc, l', fun b o n h => g24.g b o n (e2 b o n h), mk4.some, k1.trans g24.h, g24.hg, kD4, fun b hb => (g24.old b (old1 b hb)).trans (kold b hb), g24.g _ _ hDr hacc, ?_, dpAll_ex g24.h _ _ dacc, by omega, mk4⟩
      rw [tk]
      exact hsub.trans (List.sublist_append_left _ _)
    | true =>
      rw [if_pos rfl]
      refine he a hm σ2 Hk4 G4 (s2.ex g4.h) g4.hg _ fun v Hk5 G5 g5 hv => ?_
      have g25 := g24.trans (g5.gm (r := r))
      have mk5 := mk4.gr g5
      have kD5 : Hk5 D = none := (g25.old D GD).trans kD
      refine ⟨acc, g25.g _ _ hDr hacc, Nat.lt_of_le_of_lt lacc (Nat.lt_of_lt_of_le (Nat.lt_of_lt_of_le hi hl) (by decide)), Hk5, acc ++ [v], l' ++ [a], fun b o n h => ?_, (mk5.other hDr).some, k1.trans g25.h, Ex.chg g25.hg kD5, kD5, fun b hb => (g25.old b (old1 b hb)).trans (kold b hb), upd_same, ?_, ?_, ?_, mk5.other hDr⟩
      · have : b ≠ D := fun c => by
          rw [c, hD] at h
          cases h
        rw [upd_ne this]
        exact g25.g b o n (e2 b o n h)
      · rw [tk]
        exact hsub.append (List.Sublist.refl _)
      · rw [List.map_append]
        exact dpAll_app (dpAll_ex g25.h _ _ dacc) (.cons hv .nil)
      · rw [List.length_append]
        exact Nat.succ_le_succ lacc
  · obtain ⟨Hk, acc, l', e2, er, k1, k2, kD, kold, hacc, hsub, dacc, lacc, mk⟩ := p
    rw [List.take_length] at hsub
    have hf : Ex Hk (upd Hk D (.lst acc)) := Ex.new kD
    refine q _ (.list (l'.map m)) (upd Hk D (.lst acc)) G2 ((e1.gm (r := r)).trans ⟨fun a o n h => e2 a o n h, fun _ => er, k1.trans hf, fun a o h => ?_, fun a ha => ?_⟩) (mk.known hf (by rw [upd_ne (Ne.symm hDr)]; exact mk.hr)) (.lst (sq_of upd_same) (dpAll_ex hf _ _ dacc)) ⟨l', hsub, rfl⟩
    · by_cases c : a = D
      · subst c
        rw [upd_same] at h
        rw [← h]
        exact hacc
      · rw [upd_ne c] at h
        exact k2 a o h
    · rw [upd_ne fun c : a = D => ha (by rw [c]; exact hD)]
      exact kold a ha
/-! ### statements -/
def WM (K : PySem.W.Frag) (i : Nat) (t : TS) (δ : DS) (N : DS → Prop) (Rt : PD → Prop) : Prop := ∀ (D : Ends) (r : Addr) (σ : L2.St) (H G : Hp), Sl K H σ δ → Ex H G → σ[i]? = some (some (.ref r)) → Rw K r H G →
  (∀ δ' σ' H' G', GM r H G H' G' → Sl K H' σ' δ' → σ'[i]? = some (some (.ref r)) → Rw K r H' G' → N δ' → D.nx σ' G') → (∀ v d H' G', GM r H G H' G' → Rw K r H' G' → Dp K H' v d → Rt d → D.rt v G') → t D σ G
variable {N M : DS → Prop} {Rt : PD → Prop} {t u : TS}
theorem wm_nx (h : N δ) : WM K i tNext δ N Rt := fun D r σ H G s x hi m q _ => q δ σ H G (GM.refl x) s hi m h
theorem wm_seq (h : WM K i t δ M Rt) (k : ∀ δ', M δ' → WM K i u δ' N Rt) : WM K i (tSeq t u) δ N Rt := fun D r σ H G s x hi m q qr =>
  h _ r σ H G s x hi m (fun δ' σ' H' G' g s' hi' m' hm => k δ' hm D r σ' H' G' s' g.hg hi' m' (fun δ2 σ2 H2 G2 g2 => q δ2 σ2 H2 G2 (g.trans g2)) fun v d H2 G2 g2 => qr v d H2 G2 (g.trans g2)) fun v d H' G' g => qr v d H' G' g
theorem wm_asg {g : TG} {js : List Nat} {δ' : PD → DS} (hn : i ∉ js) (h : EM K i te δ D) (hg : ∀ d, D d → EvG K js g d δ (δ' d)) (k : ∀ d, D d → N (δ' d)) : WM K i (tAsg te g) δ N Rt := fun Dn r σ H G s x hi m q qr =>
  h r σ H G s x hi m _ fun v d H1 G1 g1 m1 hv hd => hg d hd σ H1 G1 v (s.ex g1.h) g1.hg hv _ fun σ' s' hw => q (δ' d) σ' H1 G1 g1 s' (by rw [keeps_of hw hn, hi]) m1 (k d hd)
theorem wm_set {j : Nat} (hn : i ≠ j) (h : EM K i te δ D) (k : ∀ d, D d → WM K i u (δ.set j (some d)) N Rt) : WM K i (tSeq (tAsg te (gName j)) u) δ N Rt :=
  wm_seq (M := fun δ' => ∃ d, D d ∧ δ' = δ.set j (some d)) (wm_asg (js := [j]) (by simpa using hn) h (fun d _ => eg_name) fun d hd => ⟨d, hd, rfl⟩) fun δ' ⟨d, hd, e⟩ => by
    subst e
    exact k d hd
theorem wm_setP {j : Nat} {d : PD} (hn : i ≠ j) (h : Ev K te δ d) (k : WM K i u (δ.set j (some d)) N Rt) : WM K i (tSeq (tAsg te (gName j)) u) δ N Rt :=
  wm_set (D := (· = d)) hn (em_pure h rfl) fun d' e => by
    subst e
    exact k
theorem wm_ret (h : EM K i te δ D) (k : ∀ d, D d → Rt d) : WM K i (tRet te) δ N Rt := fun Dn r σ H G s x hi m q qr => h r σ H G s x hi m _ fun v d H1 G1 g1 m1 hv hd => qr v d H1 G1 g1 m1 hv (k d hd)
theorem wm_if {P : Bool → Prop} (h : EMB K i tt δ P) (h1 : P true → WM K i t δ N Rt) (h2 : P false → WM K i u δ N Rt) : WM K i (tIfS tt t u) δ N Rt := fun D r σ H G s x hi m q qr => h r σ H G s x hi m _ fun b H1 G1 g1 m1 hp => by
  cases b with
  | true =>
    rw [if_pos rfl]
    exact h1 hp D r σ H1 G1 (s.ex g1.h) g1.hg hi m1 (fun δ2 σ2 H2 G2 g2 => q δ2 σ2 H2 G2 (g1.trans g2)) fun v d H2 G2 g2 => qr v d H2 G2 (g1.trans g2)
  | false =>
    rw [if_neg Bool.false_ne_true]
    exact h2 hp D r σ H1 G1 (s.ex g1.h) g1.hg hi m1 (fun δ2 σ2 H2 G2 g2 => q δ2 σ2 H2 G2 (g1.trans g2)) fun v d H2 G2 g2 => qr v d H2 G2 (g1.trans g2)
theorem wm_skip (h : EvB K tt δ false) (k : WM K i u δ N Rt) : WM K i (tSeq (tIfS tt t tNext) u) δ N Rt :=
  wm_seq (M := fun δ' => δ' = δ) (wm_if (P := (· = false)) (emb_pure h rfl) (fun c => by cases c) fun _ => wm_nx rfl) fun δ' e => by
    subst e
    exact k
/-- what is walked, drawn meanwhile -/
def EMI (K : PySem.W.Frag) (i : Nat) (wi : TI) (δ : DS) (D : List PD → Prop) : Prop := ∀ (r : Addr) (σ : L2.St) (H G : Hp), Sl K H σ δ → Ex H G → σ[i]? = some (some (.ref r)) → Rw K r H G →
  ∀ R : It → Hp → Prop, (∀ J ds H' G', GM r H G H' G' → Rw K r H' G' → D ds → WkD K J H' ds → R J G') → wi σ G R
theorem emi_pure {wi : TI} {ds : List PD} (h : EvI K wi δ ds) : EMI K i wi δ (· = ds) := fun r σ H G s x hi m R q => h σ H G s x _ fun J H' G' g W => q J ds H' G' g.gm (m.gr g) rfl W
theorem wk_list {K : PySem.W.Frag} {H : Hp} {v : V} {ds : List PD} (g : Dp K H v (.list ds)) : ∃ a xs, v = .ref a ∧ SqL K H a xs ∧ WkD K (Itl K a) H ds := by
  cases g with
  | lst hs ha =>
    rename_i a xs
    refine ⟨a, xs, rfl, hs, ?_⟩
    unfold WkD
    rw [← dpAll_len ha]
    refine walk_list.mono (fun G2 e2 => ex_l e2 hs) fun i G2 x G' _ e2 y Hk k1 k2 => ?_
    obtain ⟨rfl, y⟩ := y
    obtain ⟨d, h1, h2⟩ := dpAll_get ha y
    exact ⟨Hk, d, Gr.refl k2, h1, dp_ex k1 d x h2⟩
theorem emi_list {Dl : List PD → Prop} (h : EM K i te δ (fun d => ∃ ds, d = .list ds ∧ Dl ds)) : EMI K i (iList K te) δ Dl := fun r σ H G s x hi m R q => h r σ H G s x hi m _ fun v d H1 G1 g1 m1 hv hd => by
  obtain ⟨ds, rfl, hds⟩ := hd
  obtain ⟨a, xs, rfl, hs, W⟩ := wk_list hv
  exact ⟨a, rfl, ⟨xs, ex_l g1.hg hs⟩, q _ ds H1 G1 g1 m1 hds W⟩
theorem wm_for {wi : TI} {g : TG} {tb : TS} {js : List Nat} {δ' : DS → PD → DS} {Dl : List PD → Prop} (Pv : Nat → DS → Prop) (hn : i ∉ js) (hi : EMI K i wi δ Dl) (h0 : Pv 0 δ) (hg : ∀ l, Dl l → ∀ δ1 d, d ∈ l → EvG K js g d δ1 (δ' δ1 d))
    (hs : ∀ l, Dl l → ∀ (i' : Nat) d δ1, l[i']? = some d → Pv i' δ1 → WM K i tb (δ' δ1 d) (Pv (i' + 1)) Rt) (hd : ∀ l, Dl l → ∀ δ1, Pv l.length δ1 → N δ1) : WM K i (tFor wi g tb) δ N Rt := fun D r σ H G s w hri mr q qr =>
  hi r σ H G s w hri mr _ fun J l H1 G1 g1 m1 hl W => by
    unfold WkD at W
    refine for_it W (fun i' σ2 G2 => ∃ Hk δ2, GM r H1 G1 Hk G2 ∧ Sl K Hk σ2 δ2 ∧ σ2[i]? = some (some (.ref r)) ∧ Rw K r Hk G2 ∧ Pv i' δ2) ⟨H1, δ, GM.refl g1.hg, s.ex g1.h, hri, m1, h0⟩ (fun i σ2 G2 _ p => ?_) (fun i' x σ2 G2 G3 hi p y => ?_) fun σ2 G2 p => ?_
    · obtain ⟨Hk, δ2, g2, _⟩ := p
      exact g2.h.trans g2.hg
    · obtain ⟨Hk, δ2, g2, s2, hri2, m2, hp⟩ := p
      obtain ⟨Hk2, d, g3, hd', hx⟩ := y Hk g2.h g2.hg
      refine hg l hl δ2 d (List.mem_of_getElem? hd') σ2 Hk2 G3 x (s2.ex g3.h) g3.hg hx _ fun σ3 s3 hw => ?_
      refine hs l hl i' d δ2 hd' hp _ r σ3 Hk2 G3 s3 g3.hg (by rw [keeps_of hw hn, hri2]) (m2.gr g3) (fun δ4 σ4 H4 G4 g4 s4 hri4 m4 p4 => ⟨H4, δ4, g2.trans (g3.gm.trans g4), s4, hri4, m4, p4⟩) fun v d H4 G4 g4 => qr v d H4 G4 (g1.trans (g2.trans (g3.gm.trans g4)))
    · obtain ⟨Hk, δ2, g2, s2, hri2, m2, hp⟩ := p
      exact q δ2 σ2 Hk G2 (g1.trans g2) s2 hri2 m2 (hd l hl δ2 hp)
theorem wm_par {j k : Nat} (hj : i ≠ j) (hk : i ≠ k) (ha : EM K i ta δ Da) (hb : EM K i tb δ Db) (kk : ∀ a b, Da a → Db b → WM K i u ((δ.set j (some a)).set k (some b)) N Rt) : WM K i (tSeq (tPar j k (tCons ta (tCons tb tNil))) u) δ N Rt := fun D r σ H G s x hi m q qr =>
  ha r σ H G s x hi m _ fun v d H1 G1 g1 m1 h1 hd => hb r σ H1 G1 (s.ex g1.h) g1.hg hi m1 _ fun v2 d2 H2 G2 g2 m2 h2 hd2 => by
    refine ⟨v, v2, rfl, ?_⟩
    have g12 := g1.trans g2
    refine kk d d2 hd hd2 D r _ H2 G2 (((s.ex g12.h).set (dp_ex g2.h _ _ h1) j).set h2 k) g12.hg ?_ m2 (fun δ3 σ3 H3 G3 g3 => q δ3 σ3 H3 G3 (g12.trans g3)) fun v d H3 G3 g3 => qr v d H3 G3 (g12.trans g3)
    rw [List.getElem?_set_ne (Ne.symm hk), List.getElem?_set_ne (Ne.symm hj), hi]
end
/-! ### defs that draw: the row first -/
section
variable {P : Program} {w : World} {K : PySem.W.Frag} {mg : Str → Option Value} {base : Heap}
def startM (N : List Str) (ds : List PD) : DS := none :: (ds.map some ++ List.replicate (N.length - (ds.length + 1)) none)
theorem sl_startM {N : List Str} {H : Hp} {r : Addr} {ds : List PD} {vs : List V} (h : DpAll K H vs ds) : Sl K H (L2.start N (.ref r :: vs)) (startM N ds) := by
  have hl := dpAll_len h
  refine ⟨by unfold L2.start startM; simp [hl], fun j d e => ?_⟩
  unfold startM at e
  unfold L2.start
  cases j with
  | zero => cases e
  | succ j =>
    rw [List.getElem?_cons_succ] at e
    by_cases c : j < ds.length
    · rw [List.getElem?_append_left (by rw [List.length_map]; exact c), List.getElem?_map] at e
      rw [List.map_cons, List.cons_append, List.getElem?_cons_succ, List.getElem?_append_left (by rw [List.length_map, hl]; exact c), List.getElem?_map]
      obtain ⟨d', h1, h2⟩ := Option.map_eq_some_iff.mp e
      cases h2
      obtain ⟨v, h3, h4⟩ := dpAll_at h h1
      exact ⟨v, by rw [h3] <;> rfl, h4⟩
    · rw [List.getElem?_append_right (by rw [List.length_map]; omega), List.getElem?_replicate] at e
      split at e <;> cases e
theorem fnM_ok {x : Str} {st : Stmt} {f : Addr} {fd : FuncData} {N ps : List Str} {k : Nat} {Pre : List PD → Prop} {Post : List PD → PD → Prop} (F : FnP K x st f fd) (S : FnScope N ps (defScope st)) (len : ∀ ds, Pre ds → ds.length + 1 = ps.length)
    (hb : ∀ (cdv : Value) (A : Around) (outer : List Env) (s : Shared) (H : Hp) (E : XK), Room k (A.deeper (envOfC x (defScope st) s.heap.objs.size f cdv)) →
      ∃ t, PSs (cxOf CX0 P w K mg base N x (defScope st) f cdv A outer s H E).nox (defBody st) t ∧ ∀ ds, Pre ds → WM K 0 t (startM N ds) (fun _ => False) (Post ds)) : FnOk P w K mg base CX0 (k + 1) f fd ps (spM K Pre Post) := by
  refine F.ok S (fun vs H Q E h => ?_) (fun cdv A outer s H vs Q E hr h => ?_)
  · obtain ⟨H1, r, vs', ds, rfl, _, _, h1, h2, _⟩ := h
    rw [List.length_cons, dpAll_len h1]
    exact len ds h2
  · obtain ⟨H1, r, vs', ds, rfl, x1, m, h1, h2, q⟩ := h
    obtain ⟨t, ht, hw⟩ := hb cdv A outer s H E hr
    exact ⟨t, ht.nox, hw ds h2 _ r _ H1 H (sl_startM h1) x1 rfl m (fun δ' σ' H' G' _ _ _ _ c => c.elim) fun v d H' G' g m' hv hp => q v d H' G' hp g m' hv⟩
end
end Ld
set_option maxHeartbeats 4000000
namespace Ld
open PySem PySem.Spec PyProof.Rows L2
open Evl (Ex ex_l ex_t sq_of st_of fresh_back)
/-! ### sorted(set(pairs)) -/
section
variable {X : Cx}
theorem c_setP (K : PySem.W.Frag) (P : Program) (w : World) {k : Nat} (hr : Room k X.A) (hc : X.calm = true) (hk : X.K = K := by rfl) (hp : X.prog = P := by rfl) (hw : X.w = w := by rfl) : CallR X (.type "set") (rSetOfT K P w) := by
  subst hk hp hw
  exact cr_setOfT hc hr.units
theorem c_ssetP (K : PySem.W.Frag) (P : Program) (w : World) (hc : X.calm = true) (hk : X.K = K := by rfl) (hp : X.prog = P := by rfl) (hw : X.w = w := by rfl) : CallR X (.builtin "sorted") (rSortedT K P w) := by
  subst hk hp hw
  exact cr_sortedT hc
end
section
variable {K : PySem.W.Frag}
theorem pairs_refs {H : Hp} : ∀ {l : Arr} {vs : List V}, DpAll K H vs (l.map prD) → ∃ ks : List (Addr × IL), vs = ks.map (fun p => V.ref p.1) ∧ (∀ p ∈ ks, SqT K H p.1 (p.2.map V.int)) ∧ ks.map (·.2) = l.map (fun p => [p.1, p.2])
  | [], _, .nil => ⟨[], rfl, (fun _ h => nomatch h), rfl⟩
  | q :: l, _, .cons h1 h2 => by
    obtain ⟨ks, e1, e2, e3⟩ := pairs_refs h2
    obtain ⟨a, rfl, ha⟩ := intsT_of (l := [q.1, q.2]) h1
    refine ⟨(a, [q.1, q.2]) :: ks, by rw [e1] <;> rfl, fun p hp => ?_, by rw [List.map_cons, List.map_cons, e3]⟩
    rcases List.mem_cons.mp hp with rfl | hp
    · exact ha
    · exact e2 p hp
def unP (s : IL) : Int × Int := (s.getD 0 0, s.getD 1 0)
theorem refs_pairs {H : Hp} : ∀ {L : List (Addr × IL)}, (∀ q ∈ L, SqT K H q.1 (q.2.map V.int) ∧ q.2 = [(unP q.2).1, (unP q.2).2]) → DpAll K H (L.map fun q => V.ref q.1) ((L.map fun q => unP q.2).map prD)
  | [], _ => .nil
  | q :: L, h => by
    obtain ⟨h1, h2⟩ := h q (List.mem_cons_self ..)
    refine .cons ?_ (refs_pairs fun q' hq => h q' (List.mem_cons_of_mem _ hq))
    rw [h2] at h1
    exact .tup h1 (.cons (.int _) (.cons (.int _) .nil))
theorem em_ssetP {P : Program} {w : World} {i : Nat} {δ : DS} {te : TE} {l : Arr} (h : Ev K te δ (.list (l.map prD))) (hl : l.length < 64) (hb : ∀ p ∈ l, (0 ≤ p.1 ∧ p.1 < 64) ∧ (0 ≤ p.2 ∧ p.2 < 64)) :
    EM K i (tCB (rSortedT K P w) (tCons (tCB (rSetOfT K P w) (tCons te tNil)) tNil)) δ (fun d => ∃ l' : Arr, d = .list (l'.map prD) ∧ (l'.Pairwise fun p q => lexLt [p.1, p.2] [q.1, q.2] = true) ∧ ∀ p, p ∈ l' → p ∈ l) := fun r σ H G s x hi m Q q =>
  h σ H G s x _ fun v H1 G1 g1 h1 => by
    cases h1 with
    | lst hs ha =>
      rename_i a vs
      obtain ⟨ks, rfl, hk, e3⟩ := pairs_refs ha
      have hkl : ks.length = l.length := by
        have := congrArg List.length e3
        simpa using this
      have kin : ∀ p ∈ ks, ∃ z ∈ l, p.2 = [z.1, z.2] := fun p hp => by
        have : p.2 ∈ ks.map (·.2) := List.mem_map.mpr ⟨p, hp, rfl⟩
        rw [e3] at this
        obtain ⟨z, hz, e⟩ := List.mem_map.mp this
        exact ⟨z, hz, e.symm⟩
      refine ⟨a, ks, rfl, ex_l g1.hg hs, fun p hp => ex_t g1.hg (hk p hp), by omega, fun b L hbn hL _ => ?_⟩
      have g2 : Gr H1 G1 (upd H1 b (SetTO P w b L)) (upd G1 b (SetTO P w b L)) := Gr.new g1.hg hbn
      refine ⟨b, L, 2, 64, rfl, upd_same, fun p hp => ex_t g2.g (ex_t g1.hg (hk p (hL p hp))), by decide, fun p hp => ?_, fun L' c pm nd _ pw hc => ?_⟩
      · obtain ⟨z, hz, e⟩ := kin p (hL p hp)
        rw [e]
        obtain ⟨b1, b2⟩ := hb z hz
        refine ⟨rfl, fun y hy => ?_⟩
        rcases List.mem_cons.mp hy with rfl | hy
        · exact b1
        · rw [List.mem_singleton.mp hy]
          exact b2
      · have Lin : ∀ q ∈ L', ∃ z ∈ l, q.2 = [z.1, z.2] := fun q hq => kin q (hL q (pm.mem_iff.mp hq))
        have Lsq : ∀ q ∈ L', SqT K (upd H1 b (SetTO P w b L)) q.1 (q.2.map V.int) := fun q hq => ex_t g2.h (hk q (hL q (pm.mem_iff.mp hq)))
        have g3 : Gr (upd H1 b (SetTO P w b L)) (upd G1 b (SetTO P w b L)) (upd (upd H1 b (SetTO P w b L)) c (.lst (L'.map fun q => V.ref q.1))) (upd (upd G1 b (SetTO P w b L)) c (.lst (L'.map fun q => V.ref q.1))) := Gr.new g2.hg hc
        have g := g1.trans (g2.trans g3)
        have un : ∀ q ∈ L', q.2 = [(unP q.2).1, (unP q.2).2] := fun q hq => by
          obtain ⟨z, _, e⟩ := Lin q hq
          rw [e] <;> rfl
        refine q _ _ _ _ g.gm (m.gr g) (.lst (sq_of upd_same) (refs_pairs (L := L') fun q hq => ⟨ex_t g3.h (Lsq q hq), un q hq⟩)) ⟨L'.map fun q => unP q.2, rfl, ?_, fun p hp => ?_⟩
        · rw [List.pairwise_map]
          have nd' : L'.Pairwise fun q r => q.2 ≠ r.2 := List.pairwise_map.mp nd
          refine (pw.and nd').imp_of_mem fun {q r} hq hr hh => ?_
          obtain ⟨z, hz, e⟩ := Lin q hq
          obtain ⟨z2, hz2, e2⟩ := Lin r hr
          obtain ⟨c1, c2⟩ := hh
          rw [e, e2] at c1 c2 ⊢
          show lexLt [z.1, z.2] [z2.1, z2.2] = true
          have := pair_lt c1 c2 (hb z hz).1 (hb z hz).2 (hb z2 hz2).1 (hb z2 hz2).2
          rcases this with hlt | ⟨he, hlt⟩
          · have hne : z.1 ≠ z2.1 := by omega
            simp [lexLt, hlt, hne]
          · have hne : z.2 ≠ z2.2 := by omega
            simp [lexLt, he, hlt, hne]
        · obtain ⟨q, hq, rfl⟩ := List.mem_map.mp hp
          obtain ⟨z, hz, e⟩ := Lin q hq
          rw [e]
          exact hz
end
end Ld
set_option maxHeartbeats 4000000
namespace Ld
open PySem PySem.Spec PyProof.Rows L2
open Evl (Ex ex_l ex_t sq_of st_of fresh_back)
/-! ### a dict whose keys are tuples of ints, its keys told beside it -/
abbrev TK (P : Program) (w : World) := tupleKind (mixKind P w)
abbrev KL := List (List L2.Key × Addr × Value)
def kl (s : IL) : List L2.Key := s.map Sum.inl
theorem kl_inj {a b : IL} (h : kl a = kl b) : a = b := by
  unfold kl at h
  exact List.map_inj_right (fun x y h => Sum.inl.inj h) |>.mp h
theorem kl_kV (s : IL) : (kl s).map kV = s.map V.int := by
  unfold kl
  rw [List.map_map] <;> rfl
structure DT0 (P : Program) (w : World) (h : Heap) (a : Addr) (L : KL) : Prop where
  ex : ∃ o es ep, h.get? a = some o ∧ o.ExactDict ∧ o.data = .dict es ep ∧ es.toList = L.map (entryOfKey (TK P w)) ∧ (L.map (·.1)).Nodup
  lo : (a == sysModules) = false
  sz : L.length ≤ sizeLine
def DtO (P : Program) (w : World) (a : Addr) (L : KL) : HO := .ext fun h => DT0 P w h a L
theorem dtO_new {P : Program} {w : World} {H : Hp} {h : Heap} {a : Addr} {L : KL} (R : DT0 P w h a L) : ObjOk P w H h a (DtO P w a L) := by
  have ⟨o, es, ep, ho, q⟩ := R.ex
  refine ⟨R, ⟨o, ho⟩, fun h1 h2 p k => ?_⟩
  have ⟨o', es', ep', ho', q'⟩ := DT0.ex p
  exact ⟨⟨o', es', ep', k o' ho', q'⟩, p.lo, p.sz⟩
def keysO (p d : Addr) : HO := .ext fun h => PySem.W.KdlKeysView h p d
theorem keysO_ok {P : Program} {w : World} {H : Hp} {h : Heap} {p d : Addr} (e : h.get? p = some { cls := .type "dict_keys", data := .fields #[.ref d] }) : ObjOk P w H h p (keysO p d) :=
  ⟨⟨_, e, rfl, rfl⟩, ⟨_, e⟩, fun h1 h2 x k => let ⟨o, ho, r⟩ := x; ⟨o, k o ho, r⟩⟩
/-- the keys of L are the tuples S, the values ints -/
def KeysOf (K : PySem.W.Frag) (H : Hp) (L : KL) (S : List IL) : Prop := Paired (fun x s => x.1 = kl s ∧ SqT K H x.2.1 (s.map V.int) ∧ ∃ n t, x.2.2 = Value.int n t) L S
theorem KeysOf.ex {K : PySem.W.Frag} {H H' : Hp} {L : KL} {S : List IL} (h : KeysOf K H L S) (e : Ex H H') : KeysOf K H' L S := Paired.mapP h fun _ _ z => ⟨z.1, ex_t e z.2.1, z.2.2⟩
theorem KeysOf.at_none {K : PySem.W.Frag} {H : Hp} {L : KL} {S : List IL} (h : KeysOf K H L S) (s : IL) : (atKey L (kl s)).isSome = decide (s ∈ S) := by
  unfold KeysOf at h
  unfold atKey
  rw [Option.isSome_map]
  induction h with
  | nil => rfl
  | @cons p q ps qs hq t ih =>
    rw [List.find?_cons]
    by_cases e : p.1 = kl s
    · have : q = s := kl_inj (by rw [← hq.1, e])
      simp [e, this]
    · have hne : ¬ s = q := fun c => e (by rw [hq.1, c])
      rw [decide_eq_false e]
      simp only []
      rw [ih]
      simp [hne]
theorem KeysOf.at_some {K : PySem.W.Frag} {H : Hp} {L : KL} {S : List IL} (h : KeysOf K H L S) {s : IL} (hs : s ∈ S) : ∃ p n t, atKey L (kl s) = some p ∧ p.2 = Value.int n t := by
  have h1 := h.at_none s
  rw [decide_eq_true hs] at h1
  obtain ⟨p, hp⟩ := Option.isSome_iff_exists.mp h1
  unfold atKey at hp
  obtain ⟨x, hx, rfl⟩ := Option.map_eq_some_iff.mp hp
  have hm := List.mem_of_find?_eq_some hx
  have all : ∀ x ∈ L, ∃ n t, x.2.2 = Value.int n t := by
    unfold KeysOf at h
    clear hx hp h1 hs hm
    induction h with
    | nil => intro x hx; cases hx
    | @cons p q ps qs hq t ih =>
      intro x hx
      rcases List.mem_cons.mp hx with rfl | hx
      · exact hq.2.2
      · exact ih x hx
  obtain ⟨n, t, e⟩ := all x hm
  exact ⟨x.2, n, t, by unfold atKey; rw [hx] <;> rfl, e⟩
section
variable {X : Cx} {pins : List (Addr × Obj)} {σ : L2.St} {H : Hp} {s : Shared} {a b : Addr} {L : KL} {S : List IL}
theorem key_is {k : IL} (I : Inv X pins σ H s) (h : SqT X.K H b (k.map V.int)) : (TK X.prog X.w).is s.heap (kl k) b := by
  obtain ⟨its, r, ⟨o, h1, h2, n, h3⟩, _⟩ := I.tuple h
  rw [← kl_kV] at r
  exact ⟨o, its.toArray, n, h1, h2, h3, by simpa using items_are r⟩
theorem dtO_full (I : Inv X pins σ H s) (h : H a = some (DtO X.prog X.w a L)) (hk : KeysOf X.K H L S) : s.heap.DictOfH (TK X.prog X.w) a L ∧ (a == sysModules) = false ∧ L.length ≤ sizeLine := by
  have R : DT0 X.prog X.w s.heap a L := (I.hok a _ h).1
  obtain ⟨o, es, ep, h1, h2, h3, h4, h5⟩ := R.ex
  refine ⟨⟨o, es, ep, h1, h2, h3, h4, ?_, h5⟩, R.lo, R.sz⟩
  clear h4 h5 R h
  unfold KeysOf at hk
  induction hk with
  | nil => intro x hx; cases hx
  | @cons p q ps qs hq t ih =>
    intro x hx
    rcases List.mem_cons.mp hx with rfl | hx
    · rw [hq.1]
      exact key_is I hq.2.1
    · exact ih x hx
end
def rNiDt (K : PySem.W.Frag) (P : Program) (w : World) : R2 := fun x y H Q => ∃ b k a L S, x = .ref b ∧ y = .ref a ∧ SqT K H b (k.map V.int) ∧ H a = some (DtO P w a L) ∧ KeysOf K H L S ∧ Q (.bl (!decide (k ∈ S))) H
def rIxDt (K : PySem.W.Frag) (P : Program) (w : World) : R2 := fun x y H Q => ∃ b k a L S, x = .ref a ∧ y = .ref b ∧ SqT K H b (k.map V.int) ∧ H a = some (DtO P w a L) ∧ KeysOf K H L S ∧ k ∈ S ∧ ∀ n, Q (.int n) H
def rSetDt (K : PySem.W.Frag) (P : Program) (w : World) : V → V → V → Hp → (Hp → Prop) → Prop := fun o i v H Q => ∃ b k a L S n, o = .ref a ∧ i = .ref b ∧ v = .int n ∧ SqT K H b (k.map V.int) ∧ H a = some (DtO P w a L) ∧ KeysOf K H L S ∧ k ∉ S ∧ L.length < sizeLine ∧
  ∀ t, Q (upd H a (DtO P w a (L ++ [(kl k, b, Value.int n t)])))
section
variable {X : Cx} (K : PySem.W.Frag) (P : Program) (w : World)
theorem un1 {k : Nat} {A : Around} (hr : Room k A) : A.units + 1 < cLine := by
  have := hr.un
  omega
theorem o_niDt {k : Nat} (hr : Room k X.A) (hk : X.K = K := by rfl) (hp : X.prog = P := by rfl) (hw : X.w = w := by rfl) : OpR X (compareOp .NotIn) (rNiDt K P w) := by
  subst hk hp hw
  intro pins s σ H x y v u Q I rx ry h
  obtain ⟨b, k, a, L, S, rfl, rfl, hb, ha, hk, q⟩ := h
  cases rx
  cases ry
  obtain ⟨dd, lo, _⟩ := dtO_full I ha hk
  refine wpAny_notIn_heap (tupleKind_room_in1 (un1 hr)) (key_is I hb) lo dd ?_
  rw [hk.at_none k]
  exact ⟨.bl _, H, I.tok _, rfl, q⟩
theorem i_dt {k : Nat} (hr : Room k X.A) (hk : X.K = K := by rfl) (hp : X.prog = P := by rfl) (hw : X.w = w := by rfl) : IxR X (rIxDt K P w) := by
  subst hk hp hw
  intro value slice pins s σ H x y v u Q I rx ry h hs
  obtain ⟨b, k, a, L, S, rfl, rfl, hb, ha, hk, hmem, q⟩ := h
  cases rx
  cases ry
  obtain ⟨dd, lo, _⟩ := dtO_full I ha hk
  obtain ⟨p, n, t, hp, he⟩ := hk.at_some hmem
  refine subscriptTail_builtinR (x := p.2) dd.typeIs PySem.F.slot_dict_getitem.lookup (wpAny_getItem_heap (tupleKind_room_in1 (un1 hr)) (key_is I hb) dd hp ⟨rfl, ?_⟩) hs
  exact ⟨.int n, H, I.tok _, by rw [he]; exact ⟨_, rfl⟩, q n⟩
theorem set_dt {k : Nat} (hr : Room k X.A) (hk : X.K = K := by rfl) (hp : X.prog = P := by rfl) (hw : X.w = w := by rfl) : PSet X (rSetDt K P w) := by
  subst hk hp hw
  intro pins s σ H o i v ov iv u Q I ro ri rv h
  obtain ⟨b, k, a, L, S, n, rfl, rfl, rfl, hb, ha, hk, hnot, hlen, q⟩ := h
  cases ro
  cases ri
  obtain ⟨t, rfl⟩ := rv
  obtain ⟨dd, lo, hz⟩ := dtO_full I ha hk
  refine wpAny_setItem_heap (hsz := hz) (tupleKind_room_in1 (un1 hr)) (key_is I hb) dd fun h' dd' hs => ?_
  have hn : atKey L (kl k) = none := by
    have := hk.at_none k
    rw [decide_eq_false hnot] at this
    exact Option.not_isSome_iff_eq_none.mp (by rw [this]; exact Bool.false_ne_true)
  rw [storedH_new hn] at dd'
  obtain ⟨o, es, ep, h1, h2, h3, h4, _, h5⟩ := dd'
  refine ⟨_, d_write I (by rw [ha]; exact True.intro) hs ⟨o, h1⟩ (dtO_new ⟨⟨o, es, ep, h1, h2, h3, h4, h5⟩, lo, ?_⟩), q t⟩
  rw [List.length_append, List.length_singleton]
  omega
/-- {key: value} -/
def tDispDt (K : PySem.W.Frag) (P : Program) (w : World) (tk tv : TE) : TE := fun σ H Q => ∀ p, H p = none → tk σ (upd H p (DtO P w p [])) fun x H1 => tv σ H1 fun y H2 => H2 p = some (DtO P w p []) ∧ ∃ b k n, x = .ref b ∧ y = .int n ∧ SqT K H2 b (k.map V.int) ∧
  ∀ t, Q (.ref p) (upd H2 p (DtO P w p [(kl k, b, Value.int n t)]))
theorem pe_dispDt {j : Nat} {k v : Expr} {tk tv : TE} {pos : Pos} (hr : Room j X.A) (h1 : PE X k tk) (h2 : PE X v tv) (hk : X.K = K := by rfl) (hp : X.prog = P := by rfl) (hw : X.w = w := by rfl) : PE X (.Dict [some k] [v] pos) (tDispDt K P w tk tv) := by
  subst hk hp hw
  refine ⟨fun pins s σ H Q I q => ?_⟩
  have hn := I.hok.fresh (Nat.le_refl s.heap.objs.size)
  have lo : (s.heap.objs.size == sysModules) = false := beq_eq_false_iff_ne.mpr (Ne.symm (Nat.ne_of_lt I.big))
  have I1 : Inv X pins σ (upd H s.heap.objs.size (DtO X.prog X.w s.heap.objs.size [])) { s with heap := s.heap.push { cls := .type "dict", data := .dict #[] } } := I.laid (a := s.heap.objs.size) (o := DtO X.prog X.w s.heap.objs.size []) (t' := s.toks) (fun _ _ q => Heap.get?_push_of_some _ q) (Nat.le_refl _)
    (dtO_new ⟨⟨_, #[], 0, Heap.get?_push_size _ rfl, ⟨rfl, rfl, rfl⟩, rfl, rfl, List.nodup_nil⟩, lo, Nat.zero_le _⟩)
  rw [arm_eval_Dict, zip_pairTrees [some k] [v] X.env pos rfl rfl, dictDisplay_pairs _ (by intro c; cases c) (by show 1 < 17; decide)]
  refine wpAny_bind (wpAny_standAt (wpAny_bind (wpAny_subDictH (knd := TK X.prog X.w) (Q := fun d s' => wpAny (model X.prog X.w) X.A (pure (Value.ref d)) (EP X pins σ Q) X.xe s') (show X.A.units < cLine by have := un1 hr; omega) (by show 1 ≤ 15; decide) ?_)))
  refine pairTrees_cons_walk (thn (h1.run pins _ σ _ _ I1 (q _ hn)) fun u s1 ⟨x, H1, I1, rx, q1⟩ => thn (h2.run pins s1 σ H1 _ I1 q1) fun w2 s2 ⟨y, H2, I2, ry, q2⟩ => pairTrees_nil_walk ?_)
  obtain ⟨hd, b, kk, n, rfl, rfl, hb, q2⟩ := q2
  cases rx
  obtain ⟨t, rfl⟩ := ry
  obtain ⟨dd, _, _⟩ := dtO_full (S := []) I2 hd Paired.nil
  refine ⟨[(kl kk, b, Value.int n t)], ⟨rfl, rfl, key_is I2 hb, trivial⟩, dd, fun h' tk dd' hs => wpAny_pure ?_⟩
  have e : storedAllH [] [(kl kk, b, Value.int n t)] = ([(kl kk, b, Value.int n t)] : KL) := by
    show storedH [] (kl kk) b (Value.int n t) = _
    rw [storedH_new (by rfl)] <;> rfl
  rw [e] at dd'
  obtain ⟨o, es, ep, g1, g2, g3, g4, _, g5⟩ := dd'
  exact ⟨.ref s.heap.objs.size, _, d_write I2 (by rw [hd]; exact True.intro) hs ⟨o, g1⟩ (dtO_new ⟨⟨o, es, ep, g1, g2, g3, g4, g5⟩, lo, by rw [List.length_singleton, sizeLine_eq]; omega⟩), rfl, q2 t⟩
/-- d.keys() -/
def tKeysDt (K : PySem.W.Frag) (P : Program) (w : World) (td : TE) : TE := fun σ H Q => td σ H fun x H1 => ∃ a L S, x = .ref a ∧ H1 a = some (DtO P w a L) ∧ KeysOf K H1 L S ∧ ∀ p, H1 p = none → Q (.ref p) (upd H1 p (keysO p a))
theorem pe_keysDt {o : Expr} {td : TE} {apos cpos : Pos} (ho : PE X o td) (hbase : attributeBase o "keys" X.env (eval o X.env) = eval o X.env := by rfl) (hline : (apos.endLine == cpos.line) = true := by rfl) (hk : X.K = K := by rfl) (hp : X.prog = P := by rfl) (hw : X.w = w := by rfl) :
    PE X (.Call (.Attribute o "keys" apos) [] [] cpos) (tKeysDt K P w td) := by
  subst hk hp hw
  refine ⟨fun pins s σ H Q I h => ?_⟩
  refine wpAny_Call_method0_late hbase hline (thn (ho.run pins s σ H _ I h) fun v s1 ⟨x, H1, I1, r1, q1⟩ => ?_)
  obtain ⟨a, L, S, rfl, ha, hk, q⟩ := q1
  cases r1
  obtain ⟨dd, lo, _⟩ := dtO_full I1 ha hk
  obtain ⟨ob, es, ep, g1, g2, g3, _⟩ := id dd
  refine ⟨"dict", "dict.keys", PySem.F.plainAttrs_dict, PySem.F.slot_dict_keys, PySem.F.type_dict_keys, dd.typeIs, fun b e => ?_, Calls.callWith_builtin rfl (PySem.evalArgs_none ?_)⟩
  · cases e
    exact ⟨ob, g1, g2.2.1⟩
  · refine call_meetsIn PySem.F.slot_dict_keys dd.typeIs PySem.F.entry_dict_keys (PySem.F.args_dict_keys_1 _) (meets_dict_keys_raw a lo) ⟨⟨es, ep, ob, g1, g2, g3⟩, ?_⟩
    exact ⟨.ref s1.heap.objs.size, upd H1 s1.heap.objs.size (keysO s1.heap.objs.size a), I1.laid (t' := s1.toks) (fun b u e => Heap.get?_push_of_some _ e) (Nat.le_refl _) (keysO_ok (Heap.get?_push_size _ rfl)), rfl, q _ (I1.hok.fresh (Nat.le_refl _))⟩
/-- sorted(d.keys()) -/
def rSortDt (K : PySem.W.Frag) (P : Program) (w : World) : List V → Hp → VK → Prop := fun vs H Q => ∃ (p a : Addr) (L : KL) (S : List IL), vs = [V.ref p] ∧ H p = some (keysO p a) ∧ H a = some (DtO P w a L) ∧ KeysOf K H L S ∧ L.length ≤ 1000 ∧
  ∀ (bs : List (Addr × IL)) (q : Addr), (bs.map (·.2)).Perm S → (∀ z ∈ bs, ∃ x ∈ L, x.2.1 = z.1 ∧ x.1 = kl z.2) → H q = none → Q (.ref q) (upd H q (.lst (bs.map fun z => V.ref z.1)))
theorem keys_zip {K : PySem.W.Frag} {H : Hp} {L : KL} {S : List IL} (h : KeysOf K H L S) : ∃ zs : List (Addr × IL), (L.map fun x => x.2.1) = zs.map (·.1) ∧ zs.map (·.2) = S ∧ (∀ z ∈ zs, SqT K H z.1 (z.2.map V.int)) ∧ ∀ z ∈ zs, ∃ x ∈ L, x.2.1 = z.1 ∧ x.1 = kl z.2 := by
  unfold KeysOf at h
  induction h with
  | nil => exact ⟨[], rfl, rfl, (fun _ c => nomatch c), (fun _ c => nomatch c)⟩
  | @cons p q ps qs hq t ih =>
    obtain ⟨zs, e1, e2, e3, e4⟩ := ih
    refine ⟨(p.2.1, q) :: zs, by rw [List.map_cons, e1] <;> rfl, by rw [List.map_cons, e2], fun z hz => ?_, fun z hz => ?_⟩
    · rcases List.mem_cons.mp hz with rfl | hz
      · exact hq.2.1
      · exact e3 z hz
    · rcases List.mem_cons.mp hz with rfl | hz
      · exact ⟨p, List.mem_cons_self .., rfl, hq.1⟩
      · obtain ⟨x, h1, h2⟩ := e4 z hz
        exact ⟨x, List.mem_cons_of_mem _ h1, h2⟩
theorem perm_up {α β : Type} (f : α → β) {m n : List β} (h : m.Perm n) : ∀ l : List α, l.map f = n → ∃ l' : List α, l'.Perm l ∧ l'.map f = m := by
  induction h with
  | nil => intro l e; exact ⟨[], by rw [List.map_eq_nil_iff.mp e], rfl⟩
  | cons x _ ih =>
    intro l e
    cases l with
    | nil => cases e
    | cons a l =>
      rw [List.map_cons] at e
      injection e with e1 e2
      obtain ⟨l', p, q⟩ := ih l e2
      exact ⟨a :: l', p.cons a, by rw [List.map_cons, q, e1]⟩
  | swap x y t =>
    intro l e
    match l, e with
    | a :: b :: l, e =>
      rw [List.map_cons, List.map_cons] at e
      injection e with e1 e2
      injection e2 with e2 e3
      exact ⟨b :: a :: l, List.Perm.swap a b l, by rw [List.map_cons, List.map_cons, e1, e2, e3]⟩
  | trans _ _ ih1 ih2 =>
    intro l e
    obtain ⟨l1, p1, q1⟩ := ih2 l e
    obtain ⟨l2, p2, q2⟩ := ih1 l1 q1
    exact ⟨l2, p2.trans p1, q2⟩
section
open PySem.Calls PySem.W
theorem c_sortDt {k : Nat} (hr : Room k X.A) (hc : X.calm = true) (hk : X.K = K := by rfl) (hp : X.prog = P := by rfl) (hw : X.w = w := by rfl) : CallR X (.builtin "sorted") (rSortDt K P w) := by
  subst hk hp hw
  intro pins s σ H vs us Q I r h
  obtain ⟨p, a, L, S, rfl, hp, ha, hk, hlen, q⟩ := h
  obtain rfl := Vals.ref1 r
  have view : KdlKeysView s.heap p a := (show ObjOk X.prog X.w H s.heap p (keysO p a) from I.hok p _ hp).1
  obtain ⟨dd, lo, hz⟩ := dtO_full I ha hk
  obtain ⟨o, es, ep, ho, hx, hdat, hes, his, hn⟩ := id dd
  obtain ⟨zs, z1, z2, z3, z4⟩ := keys_zip hk
  have l1 : es.size = L.length := size_of_entries hes
  have hh : X.A.in1.handled = none := I.ok.hd hc
  refine call_function_entry PyProof.Rows.kind_sorted PyProof.Rows.plain_sorted PyProof.Rows.entry_sorted (PyProof.Rows.args_sorted1 _) ?_
  unfold Builtin.«sorted»
  refine wpAny_bind (m := checkCount "sorted" 1 1 _) (wpAny_pure ?_)
  refine wpAny_bind (kdu_collect (A := X.A.in1) (KdlSrc.rawKeys (es := es) (ep := ep)) hh ⟨view, o, ho, hx, hdat⟩ (by rw [sizeLine_eq]; omega) fun h' tk acc hkeep hacc => ?_)
  have hal : acc.toList.length = L.length := by rw [Array.length_toList, hacc.1, l1]
  have ea : acc.toList = zs.map fun z => Value.ref z.1 := by
    have e1 : acc.toList = L.map fun x => Value.ref x.2.1 := by
      apply List.ext_getElem?
      intro j
      rw [List.getElem?_map]
      cases hj : acc.toList[j]? with
      | none =>
        have h1 := List.getElem?_eq_none_iff.mp hj
        rw [List.getElem?_eq_none (by omega)]
        rfl
      | some v =>
        obtain ⟨hi, hv⟩ := hacc.2 j v (by rw [← Array.getElem?_toList]; exact hj)
        have qe := entry_at hes j
        rw [Array.getElem?_eq_getElem hi] at qe
        cases hb : L[j]? with
        | none =>
          rw [hb] at qe
          exact nomatch (show some es[j] = none from qe)
        | some b =>
          rw [hb] at qe
          have e2 : es[j] = entryOfKey (TK X.prog X.w) b := Option.some.inj qe
          rw [hv, e2]
          rfl
    rw [e1, show (L.map fun x => Value.ref x.2.1) = (L.map fun x => x.2.1).map Value.ref by rw [List.map_map] <;> rfl, z1, List.map_map]
    rfl
  have I1 : Inv X pins σ H { s with heap := h', toks := tk } := I.kept (t' := tk) hkeep
  refine wpAny_bind (wpAny_newList ?_ (by rw [hal]; exact hz))
  have hoL : (h'.push (seqObj "list" acc.toList.toArray 0)).get? h'.objs.size = some (seqObj "list" acc.toList.toArray 0) := Heap.get?_push_size _ rfl
  have keep : ∀ b o, s.heap.get? b = some o → b ≠ h'.objs.size ∧ (h'.push (seqObj "list" acc.toList.toArray 0)).get? b = some o := fun b o e => ⟨Nat.ne_of_lt (Heap.lt_size (hkeep b o e)), Heap.get?_push_of_some _ (hkeep b o e)⟩
  let kx : Value → IL := fun v => Classical.epsilon fun s' => TS.TupInts s.heap v s'
  have ku : ∀ v ∈ acc.toList, TS.TupInts s.heap v (kx v) := fun v hv => by
    rw [ea] at hv
    obtain ⟨z, hz, rfl⟩ := List.mem_map.mp hv
    exact Classical.epsilon_spec (p := fun s' => TS.TupInts s.heap (Value.ref z.1) s') ⟨z.2, tupI_raw I (z3 z hz)⟩
  have hin : X.A.in1.in1.units < cLine := by
    have := hr.un
    show X.A.units + 1 + 1 < cLine
    omega
  refine wpAny_bind (wpAny_holding (wpAny_call_entry PyProof.Rows.slot_list_sort ⟨_, hoL, rfl⟩ PyProof.Rows.entry_list_sort (SrtO.list_sort_ord (ltv := fun v u => HT.lexLt (kx v) (kx u)) (NtL.swo_lexL fun v => kx v) hoL (by rw [hal]; exact hz) (fun h2 => ?_) fun out h1 h2 => ⟨_, rfl, ?_⟩) (PyProof.Rows.args_list_sort _)))
  · refine sortable_any (k := kx) h2 hin (fun v hm => (ku v hm).keeps fun b o e _ => (keep b o e).2) fun o e => ?_
    have e' : some o = some (seqObj "list" acc.toList.toArray 0) := e.symm.trans hoL
    cases e'
    intro c
    exact absurd (Value.type.inj c) (by decide)
  · obtain ⟨bs, b1, b2⟩ := perm_up (fun z : Addr × IL => Value.ref z.1) (h2.perm.trans (by rw [ea])) zs rfl
    obtain ⟨c, hcc⟩ := sortedHeap_at (vs := acc.toList) (out := out.toArray) hoL
    have hfr : H h'.objs.size = none := I1.hok.fresh (Nat.le_refl _)
    refine wpAny_pure ⟨_, rfl, .ref h'.objs.size, upd H h'.objs.size (.lst (bs.map fun z => V.ref z.1)), I1.laid (t' := tk) (fun b o e => ?_) (Nat.le_refl _) ⟨?_, out, c, ?_, hcc⟩, rfl, q bs _ ((b1.map (·.2)).trans (by rw [z2])) (fun z hz => z4 z (b1.mem_iff.mp hz)) hfr⟩
    · have hb : b < h'.objs.size := Heap.lt_size e
      have n2 : (h'.push (seqObj "list" acc.toList.toArray 0)).get? b = some o := Heap.get?_push_of_some _ e
      exact (sortedHeap_old (Nat.ne_of_lt hb) (Heap.lt_size n2)).trans n2
    · rw [List.length_map, b1.length_eq]
      have := congrArg List.length z1
      simp only [List.length_map] at this
      rw [sizeLine_eq]
      omega
    · rw [← b2]
      clear b1 b2
      induction bs with
      | nil => exact .nil
      | cons z bs ih => exact .cons rfl ih
end
end
end Ld
set_option maxHeartbeats 4000000
namespace Ld
open PySem PySem.Spec PyProof.Rows L2
/-! ### the text: the defs of the row's top -/
def top (i : Nat) : Stmt := PySem.Challenge.pw_latchdoors_k37_whole_held_doors.main.body.getD i (.Pass ⟨0, 0, 0, 0⟩)

abbrev sis_in : Stmt := top 6
abbrev sis_arrow : Stmt := top 9
abbrev sneed_web : Stmt := top 10
abbrev sneed_opened : Stmt := top 11
abbrev sneed_both : Stmt := top 12
abbrev spairs_in : Stmt := top 14
abbrev sfrozen_in : Stmt := top 15
abbrev sloose_in : Stmt := top 16
abbrev sstandings : Stmt := top 17
abbrev sringless : Stmt := top 19
abbrev ssets_in : Stmt := top 20
abbrev sfresh_in : Stmt := top 22
abbrev scomes_in : Stmt := top 23
abbrev ssides_in : Stmt := top 24
abbrev sneed_held : Stmt := top 26
abbrev scomes_held : Stmt := top 27
abbrev sheld_can_come : Stmt := top 28
abbrev sheld_count : Stmt := top 29
abbrev sring_breakers : Stmt := top 30
abbrev s_law_changed : Stmt := top 32
abbrev s_law_open : Stmt := top 33
abbrev s_law_shut : Stmt := top 34
abbrev s_law_after : Stmt := top 35
abbrev s_law_taken : Stmt := top 36
abbrev s_law_pick : Stmt := top 37
abbrev s_law_web : Stmt := top 38
abbrev s_law_standing : Stmt := top 39
abbrev s_law_frozen : Stmt := top 40
abbrev s_law_alike : Stmt := top 41
abbrev s_law_from : Stmt := top 42
abbrev s_law_sets : Stmt := top 43
abbrev s_law_ring : Stmt := top 44
abbrev s_law_held_from : Stmt := top 45
abbrev slaw : Stmt := top 46
end Ld
set_option maxHeartbeats 4000000
namespace Ld
open PySem PySem.Spec PyProof.Rows L2
open Evl (Ex ex_l ex_t sq_of st_of fresh_back)
section
variable {P : Program} {w : World} {K : PySem.W.Frag} {mg : Str → Option Value} {base : Heap} {f : Addr} {fd : FuncData}
/-! ### is_in -/
theorem sc_is_in : FnScope ["value", "least", "most"] ["value", "least", "most"] (defScope sis_in) := ⟨rfl, rfl, rfl, by decide +kernel, rfl, by decide +kernel, by decide +kernel⟩
def R_is_in (ds : List PD) (d : PD) : Prop := ∃ v a b : Int, ds = [.int v, .int a, .int b] ∧ d = .bool (decide (a ≤ v) && decide (v ≤ b))
theorem ok_is_in (T : Tx mg) (F : FnP K "is_in" sis_in f fd) : FnOk P w K mg base CX0 1 f fd ["value", "least", "most"] (spR K R_is_in) := by
  refine fn_ok F sc_is_in (fun ds d h => by obtain ⟨_, _, _, rfl, _⟩ := h; rfl) fun cdv A outer s H E hr => ⟨_,
    pss_one (ps_ret (pe_and (pe_callB call_isi (by rfl) T.isi (by decide +kernel) (pa_cons (pv 0) (pa_cons (pe_bltn (v := .ty "int") (by rfl) T.int (by decide +kernel) rfl) pa_nil)))
      (pe_and (pe_not (pe_callB call_isi (by rfl) T.isi (by decide +kernel) (pa_cons (pv 0) (pa_cons (pe_bltn (v := .ty "bool") (by rfl) T.bool (by decide +kernel) rfl) pa_nil))))
        (pe_one (pe_chain op_le op_le (pv 1) (pv 0) (pv 2)))))), fun ds d h => ?_⟩
  obtain ⟨v, a, b, rfl, rfl⟩ := h
  refine ws_ret (ev_and (isi_int_int (ev_var rfl)) fun _ => ev_and (ev_not (isi_int_bool (ev_var rfl))) fun _ => ev_chain (ev_var rfl) (ev_var rfl) (ev_var rfl)) ?_
  simp
/-! ### fresh_in -/
theorem sc_fresh_in : FnScope ["one", "other", "k"] ["one", "other"] (defScope sfresh_in) := ⟨rfl, rfl, rfl, by decide +kernel, rfl, by decide +kernel, by decide +kernel⟩
def R_fresh_in (ds : List PD) (d : PD) : Prop := ∃ a b : IL, ds = [.tuple (a.map .int), .tuple (b.map .int)] ∧ b.length ≤ 1000 ∧ d = .list ((freshIn a b).map .int)
theorem ok_fresh_in (T : Tx mg) (F : FnP K "fresh_in" sfresh_in f fd) : FnOk P w K mg base CX0 1 f fd ["one", "other"] (spR K R_fresh_in) := by
  refine fn_ok F sc_fresh_in (fun ds d h => by obtain ⟨_, _, rfl, _⟩ := h; rfl) fun cdv A outer s H E hr => ⟨_,
    pss_one (ps_ret (pe_lc (own := [("k", 2)]) (g := gName 2) rfl sc_fresh_in.nd (pi_t K (pv 1)) (blkOk_by (own := [("k", 2)]) (N := ["one", "other", "k"]) (sc := defScope sfresh_in) (by decide +kernel)) (fun _ _ _ _ _ => pg_name (i := 2) sc_fresh_in.nd rfl (Or.inl rfl))
      (fun _ _ _ _ _ => pts_one (pt_cmpR (o_ni K) (pv 2) (pv 0) rfl)) (fun _ _ _ _ _ => pv 2))), fun ds d h => ?_⟩
  obtain ⟨a, b, rfl, hl, rfl⟩ := h
  exact ws_ret (ev_lc (fun k => !decide (k ∈ a)) PyData.int (ei_tup (ev_var rfl)) (fun _ _ => eg_name) (by simp) (by omega) (fun _ _ => eb_test (ev_op rv_niT (ev_var rfl) (ev_var rfl))) (fun _ _ _ => ev_var rfl)) rfl
/-! ### is_arrow -/
theorem sc_is_arrow : FnScope ["value", "many", "one"] ["value", "many"] (defScope sis_arrow) := ⟨rfl, rfl, rfl, by decide +kernel, rfl, by decide +kernel, by decide +kernel⟩
def R_is_arrow (ds : List PD) (d : PD) : Prop := ∃ (p : Int × Int) (n : Nat), ds = [prD p, .int n] ∧ ((0 ≤ p.1 ∧ p.1 < n) ∧ (0 ≤ p.2 ∧ p.2 < n)) ∧ p.1 ≠ p.2 ∧ d = .bool true
theorem ok_is_arrow (T : Tx mg) (c1 : Cal P w K mg base "is_in" ["value", "least", "most"] 1 (spR K R_is_in)) (F : FnP K "is_arrow" sis_arrow f fd) : FnOk P w K mg base CX0 2 f fd ["value", "many"] (spR K R_is_arrow) := by
  refine fn_ok F sc_is_arrow (fun ds d h => by obtain ⟨_, _, rfl, _⟩ := h; rfl) fun cdv A outer s H E hr => ⟨_,
    pss_cons (ps_if (PW.pt (pw_or (pt_not (pt_val (pe_callB (c_isi K) (by rfl) T.isi (by decide +kernel) (pa_cons (pv 0) (pa_cons (pe_bltn (v := .ty "tuple") (by rfl) T.tuple (by decide +kernel) rfl) pa_nil)))))
        (pw_or1 (pt_cmpR op_ne (pe_callB (c_len K) (by rfl) T.len PySem.boot_len (pa_cons (pv 0) pa_nil)) pe_int (nomark _))))) (pss_one (ps_ret pe_bl)) pss_nil)
    (pss_one (ps_ret (pe_and (pe_cmpR (o_eqD K hr) (pe_lc (own := [("one", 2)]) (g := gName 2) rfl sc_is_arrow.nd (pi_t K (pv 0)) (blkOk_by (by kernel_rfl)) (fun _ _ _ _ _ => pg_name (i := 2) sc_is_arrow.nd rfl (Or.inl rfl))
        (fun _ _ _ _ _ => pts_one (pt_not (pt_val (pc c1 hr (by decide) (by rfl) (pa_cons (pv 2) (pa_cons pe_int (pa_cons (pe_op op_sub (pv 1) pe_int) pa_nil))))))) (fun _ _ _ _ _ => pv 2)) (pe_lst pa_nil) (nomark _))
      (pe_one (pe_cmpR op_ne (pe_ix (i_t K) (pv 0) pe_int (fun _ _ => rfl)) (pe_ix (i_t K) (pv 0) pe_int (fun _ _ => rfl)) (nomark _)))))), fun ds d h => ?_⟩
  obtain ⟨p, n, rfl, hb, hne, rfl⟩ := h
  refine ws_skip (eb_is (eb_or (eb_not (eb_B (isi_tup_tuple (ev_var rfl)))) fun _ => eb_test (ev_op rv_neI (ev_cb rc_lenT (ea_cons (ev_var rfl) ea_nil)) ev_int)) (by rfl)) ?_
  refine ws_ret (ev_and (b := true) (ev_is (ev_op (rv_eqNil (f := PyData.int) (l := []) (by exact shp_nil)) (ev_is (ev_lc (emb := PyData.int) (l := [p.1, p.2]) (fun _ => false) PyData.int (ei_tup (ev_var rfl)) (fun _ _ => eg_name) (by simp) (by simp) (fun a ha => ?_) (fun _ _ h => by cases h)) (by simp)) (ev_lst ea_nil (by decide))) (by rfl)) fun _ => ?_) ?_
  · have q : 0 ≤ a ∧ a ≤ (n : Int) - 1 := by
      rcases List.mem_cons.mp ha with c | c
      · rw [c]
        omega
      · rw [List.mem_singleton.mp c]
        omega
    refine eb_is (eb_not (eb_B (ev_call (ea_cons (ev_var rfl) (ea_cons ev_int (ea_cons (ev_op rv_int (ev_var rfl) ev_int) ea_nil))) ⟨a, 0, (n : Int) - 1, rfl, rfl⟩))) ?_
    simp [q]
  · refine ev_is (ev_op rv_neI (ev_op (rv_ixT (j := 0) rfl rfl) (ev_var rfl) ev_int) (ev_op (rv_ixT (j := 1) rfl rfl) (ev_var rfl) ev_int)) ?_
    simp [hne]
  · simp
/-! ### need_web -/
structure WebOk (n : Nat) (E : Arr) : Prop where
  web : Web n E
  lo : 1 ≤ n
  hi : n ≤ 6
  asc : E.Pairwise fun p q => lexLt [p.1, p.2] [q.1, q.2] = true
def allP (n : Nat) : Arr := (rng n).flatMap fun i => ((rng n).filter fun j => !decide (j = i)).map fun j => (i, j)
theorem WebOk.len {n : Nat} {E : Arr} (ok : WebOk n E) : E.length ≤ 30 := by
  have nd : E.Nodup := ok.asc.imp fun {p q} h e => by
    rw [e, lex_irr] at h
    cases h
  have sub : E ⊆ allP n := fun p hp => by
    obtain ⟨⟨h1, h2⟩, h3, h4⟩ := ok.web.bd p hp
    refine List.mem_flatMap.mpr ⟨p.1, mem_rng.mpr ⟨h1, h2⟩, List.mem_map.mpr ⟨p.2, List.mem_filter.mpr ⟨mem_rng.mpr ⟨h3, h4⟩, ?_⟩, rfl⟩⟩
    simp [Ne.symm (ok.web.ne p hp)]
  have all : ∀ m : Fin 7, (allP m).length ≤ 30 := by decide
  exact Nat.le_trans (nd.length_le_of_subset sub) (all ⟨n, by have := ok.hi; omega⟩)
theorem sc_need_web : FnScope ["web", "index", "one"] ["web"] (defScope sneed_web) := ⟨rfl, rfl, rfl, by decide +kernel, rfl, by decide +kernel, by decide +kernel⟩
def R_need_web (ds : List PD) (d : PD) : Prop := ∃ (n : Nat) (E : Arr), ds = [webD n E] ∧ WebOk n E ∧ d = .none
theorem ok_need_web (T : Tx mg) (c1 : Cal P w K mg base "is_in" ["value", "least", "most"] 1 (spR K R_is_in)) (c2 : Cal P w K mg base "is_arrow" ["value", "many"] 2 (spR K R_is_arrow)) (F : FnP K "need_web" sneed_web f fd) :
    FnOk P w K mg base CX0 3 f fd ["web"] (spR K R_need_web) := by
  obtain ⟨tk, hmost⟩ := T.most
  refine fn_ok F sc_need_web (fun ds d h => by obtain ⟨_, _, rfl, _⟩ := h; rfl) fun cdv A outer s H E hr => ⟨_,
    pss_cons (ps_if (PW.pt (pw_or (pt_not (pt_val (pe_callB (c_isi K) (by rfl) T.isi (by decide +kernel) (pa_cons (pv 0) (pa_cons (pe_bltn (v := .ty "tuple") (by rfl) T.tuple (by decide +kernel) rfl) pa_nil)))))
        (pw_or (pt_cmpR op_ne (pe_callB (c_len K) (by rfl) T.len PySem.boot_len (pa_cons (pv 0) pa_nil)) pe_int (nomark _))
          (pw_or1 (pt_not (pt_val (pe_callB (c_isi K) (by rfl) T.isi (by decide +kernel) (pa_cons (pe_ix (i_t K) (pv 0) pe_int (fun _ _ => rfl)) (pa_cons (pe_bltn (v := .ty "tuple") (by rfl) T.tuple (by decide +kernel) rfl) pa_nil))))))))) (pss_one ps_never) pss_nil)
    (pss_cons (ps_if (pt_not (pt_val (pc c1 hr (by decide) (by rfl) (pa_cons (pe_ix (i_t K) (pv 0) pe_int (fun _ _ => rfl)) (pa_cons pe_int (pa_cons (pe_glob (v := .int 9) (by rfl) hmost ⟨_, rfl⟩) pa_nil)))))) (pss_one ps_never) pss_nil)
    (pss_one (ps_for PassesOwn.never rfl (pi_enumT K (by rfl) T.enumerate (pa_cons (pe_ix (i_t K) (pv 0) pe_int (fun _ _ => rfl)) pa_nil)) (pg_t K (n := 2) rfl (pgs_cons (pg_name (i := 1) sc_need_web.nd rfl (.inl rfl)) (pgs_cons (pg_name (i := 2) sc_need_web.nd rfl (.inl rfl)) pgs_nil)))
      (pss_one (ps_if (PW.pt (pw_or (pt_not (pt_val (pc c2 hr (by decide) (by rfl) (pa_cons (pv 2) (pa_cons (pe_ix (i_t K) (pv 0) pe_int (fun _ _ => rfl)) pa_nil)))))
        (pw_or1 (PW.pt (pw_and (pt_cmpR op_gt (pv 1) pe_int (nomark _)) (pw_and1 (pt_cmpR (o_leD K hr) (pv 2) (pe_ix (i_t K) (pe_ix (i_t K) (pv 0) pe_int (fun _ _ => rfl)) (pe_op op_sub (pv 1) pe_int) (fun _ _ => rfl)) (nomark _))))))) ) (pss_one ps_never) pss_nil))))), fun ds d h => ?_⟩
  obtain ⟨n, Ar, rfl, ok, rfl⟩ := h
  have dW : ∀ {i j : Nat} {a b : Option PD}, Ev K (tVar 0) [some (webD n Ar), a, b] (webD n Ar) := fun {i j a b} => ev_var rfl
  refine ws_skip (eb_is (eb_or (eb_not (eb_B (isi_tup_tuple (ev_var rfl)))) fun _ => eb_or (eb_test (ev_op rv_neI (ev_cb rc_lenT (ea_cons (ev_var rfl) ea_nil)) ev_int)) fun _ => eb_not (eb_B (isi_tup_tuple (ev_op (rv_ixT (j := 1) rfl rfl) (ev_var rfl) ev_int)))) (by rfl)) ?_
  refine ws_skip (eb_is (eb_not (eb_B (ev_call (ea_cons (ev_op (rv_ixT (j := 0) rfl rfl) (ev_var rfl) ev_int) (ea_cons ev_int (ea_cons ev_int ea_nil))) ⟨n, 1, 9, rfl, rfl⟩))) ?_) ?_
  · have := ok.lo
    have := ok.hi
    simp
    omega
  refine ws_for (l := enD (Ar.map prD)) (js := [1, 2]) (δ' := fun δ1 d => match d with | .tuple [a, b] => (δ1.set 1 (some a)).set 2 (some b) | _ => δ1) (fun _ δ1 => ∃ a b, δ1 = [some (webD n Ar), a, b]) (ei_enumT (ea_cons (ev_op (rv_ixT (j := 1) rfl rfl) (ev_var rfl) ev_int) ea_nil)) ⟨_, _, rfl⟩ (fun δ1 d hd => ?_) (fun i d δ1 hd hp => ?_) (fun δ1 hp => rfl)
  · unfold enD at hd
    obtain ⟨q, _, rfl⟩ := List.mem_map.mp hd
    exact eg_pair
  · obtain ⟨a, b, rfl⟩ := hp
    unfold enD at hd
    rw [List.getElem?_map, List.getElem?_zipIdx, List.getElem?_map] at hd
    cases hq : Ar[i]? with
    | none =>
      rw [hq] at hd
      cases hd
    | some p =>
      rw [hq] at hd
      have ed : d = .tuple [.int ((i : Nat) : Int), prD p] := by
        have := Option.some.inj hd
        rw [← this]
        simp
      subst ed
      have hm := List.mem_of_getElem? hq
      refine ws_if (b := false) (eb_is (eb_or (eb_not (eb_B (ev_call (ea_cons (ev_var rfl) (ea_cons (ev_op (rv_ixT (j := 0) rfl rfl) (ev_var rfl) ev_int) ea_nil)) ⟨p, n, rfl, ok.web.bd p hm, ok.web.ne p hm, rfl⟩))) fun _ => eb_and (b := false) (eb_test (ev_op rv_cmp (ev_var rfl) ev_int)) fun hi => ?_) (by simp)) (fun h => by cases h) fun _ => ws_nx ⟨_, _, rfl⟩
      have hi' : 0 < i := by
        have := of_decide_eq_true hi
        omega
      have hlt : i - 1 < Ar.length := by
        have := (List.getElem?_eq_some_iff.mp hq).1
        omega
      have hprev := List.getElem?_eq_getElem hlt
      refine eb_is (eb_test (ev_op rv_leP (ev_var rfl) (ev_op (rv_ixT (j := i - 1) (by omega) (show (Ar.map prD)[i - 1]? = some (prD Ar[i - 1]) by rw [List.getElem?_map, hprev] <;> rfl)) (ev_op (rv_ixT (j := 1) rfl rfl) (ev_var rfl) ev_int) (ev_op rv_int (ev_var rfl) ev_int)))) ?_
      have hlt2 := (List.getElem?_eq_some_iff.mp hq).1
      have hp := List.pairwise_iff_getElem.mp ok.asc (i - 1) i hlt hlt2 (by omega)
      rw [(List.getElem?_eq_some_iff.mp hq).2] at hp
      rw [hp]
      rfl
end
end Ld
set_option maxHeartbeats 4000000
namespace Ld
open PySem PySem.Spec PyProof.Rows L2
open Evl (Ex ex_l ex_t sq_of st_of fresh_back)
section
variable {P : Program} {w : World} {K : PySem.W.Frag} {mg : Str → Option Value} {base : Heap} {f : Addr} {fd : FuncData}
/-! ### need_opened -/
theorem sc_need_opened : FnScope ["web", "opened", "index", "one"] ["web", "opened"] (defScope sneed_opened) := ⟨rfl, rfl, rfl, by decide +kernel, rfl, by decide +kernel, by decide +kernel⟩
def R_need_opened (ds : List PD) (d : PD) : Prop := ∃ (n : Nat) (E : Arr) (o : IL), ds = [webD n E, tI o] ∧ Vd n o ∧ d = .none
theorem rv_leI {i j : Int} : RvD K (rI0 fun i j => .bl (decide (i ≤ j))) (.int i) (.int j) (.bool (decide (i ≤ j))) := rv_cmp
theorem ok_need_opened (T : Tx mg) (c1 : Cal P w K mg base "is_in" ["value", "least", "most"] 1 (spR K R_is_in)) (F : FnP K "need_opened" sneed_opened f fd) : FnOk P w K mg base CX0 2 f fd ["web", "opened"] (spR K R_need_opened) := by
  refine fn_ok F sc_need_opened (fun ds d h => by obtain ⟨_, _, _, rfl, _⟩ := h; rfl) fun cdv A outer s H E hr => ⟨_,
    pss_cons (ps_if (pt_not (pt_val (pe_callB (c_isi K) (by rfl) T.isi (by decide +kernel) (pa_cons (pv 1) (pa_cons (pe_bltn (v := .ty "tuple") (by rfl) T.tuple (by decide +kernel) rfl) pa_nil))))) (pss_one ps_never) pss_nil)
    (pss_one (ps_for PassesOwn.never rfl (pi_enumT K (by rfl) T.enumerate (pa_cons (pv 1) pa_nil)) (pg_t K (n := 2) rfl (pgs_cons (pg_name (i := 2) sc_need_opened.nd rfl (.inl rfl)) (pgs_cons (pg_name (i := 3) sc_need_opened.nd rfl (.inl rfl)) pgs_nil)))
      (pss_one (ps_if (PW.pt (pw_or (pt_not (pt_val (pc c1 hr (by decide) (by rfl) (pa_cons (pv 3) (pa_cons pe_int (pa_cons (pe_op op_sub (pe_ix (i_t K) (pv 0) pe_int (fun _ _ => rfl)) pe_int) pa_nil))))))
        (pw_or1 (PW.pt (pw_and (pt_cmpR op_gt (pv 2) pe_int (nomark _)) (pw_and1 (pt_cmpR op_le (pv 3) (pe_ix (i_t K) (pv 1) (pe_op op_sub (pv 2) pe_int) (fun _ _ => rfl)) (nomark _)))))))) (pss_one ps_never) pss_nil)))), fun ds d h => ?_⟩
  obtain ⟨n, Ar, o, rfl, ok, rfl⟩ := h
  refine ws_skip (eb_is (eb_not (eb_B (isi_tup_tuple (ev_var rfl)))) (by rfl)) ?_
  refine ws_for (l := enD (o.map PyData.int)) (js := [2, 3]) (δ' := fun δ1 d => match d with | .tuple [a, b] => (δ1.set 2 (some a)).set 3 (some b) | _ => δ1) (fun _ δ1 => ∃ a b, δ1 = [some (webD n Ar), some (tI o), a, b]) (ei_enumT (ea_cons (ev_var rfl) ea_nil)) ⟨_, _, rfl⟩ (fun δ1 d hd => ?_) (fun i d δ1 hd hp => ?_) (fun δ1 hp => rfl)
  · unfold enD at hd
    obtain ⟨q, _, rfl⟩ := List.mem_map.mp hd
    exact eg_pair
  · obtain ⟨a, b, rfl⟩ := hp
    unfold enD at hd
    rw [List.getElem?_map, List.getElem?_zipIdx, List.getElem?_map] at hd
    cases hq : o[i]? with
    | none =>
      rw [hq] at hd
      cases hd
    | some p =>
      rw [hq] at hd
      have ed : d = .tuple [.int ((i : Nat) : Int), .int p] := by
        have := Option.some.inj hd
        rw [← this]
        simp
      subst ed
      have hb := ok.bd p (List.mem_of_getElem? hq)
      refine ws_if (b := false) (eb_is (eb_or (b := false) (eb_not (eb_B (ev_call (ea_cons (ev_var rfl) (ea_cons ev_int (ea_cons (ev_op rv_int (ev_op (rv_ixT (j := 0) rfl rfl) (ev_var rfl) ev_int) ev_int) ea_nil))) ⟨p, 0, (n : Int) - 1, rfl, rfl⟩))) fun _ => eb_is (eb_and (b := false) (eb_test (ev_op rv_cmp (ev_var rfl) ev_int)) fun hi => ?_) (by simp)) ?_) (fun h => by cases h) fun _ => ws_nx ⟨_, _, rfl⟩
      · have hi' : 0 < i := by
          have := of_decide_eq_true hi
          omega
        have hlt2 := (List.getElem?_eq_some_iff.mp hq).1
        have hlt : i - 1 < o.length := by omega
        have hprev := List.getElem?_eq_getElem hlt
        refine eb_is (eb_test (ev_op rv_leI (ev_var rfl) (ev_op (rv_ixT (j := i - 1) (by omega) (show (o.map PyData.int)[i - 1]? = some (PyData.int o[i - 1]) by rw [List.getElem?_map, hprev] <;> rfl)) (ev_var rfl) (ev_op rv_int (ev_var rfl) ev_int)))) ?_
        have hp := List.pairwise_iff_getElem.mp ok.asc (i - 1) i hlt hlt2 (by omega)
        rw [(List.getElem?_eq_some_iff.mp hq).2] at hp
        exact decide_eq_false (by omega)
      · have : 0 ≤ p ∧ p ≤ (n : Int) - 1 := by omega
        simp [this]
/-! ### need_both -/
theorem sc_need_both : FnScope ["web", "opened"] ["web", "opened"] (defScope sneed_both) := ⟨rfl, rfl, rfl, by decide +kernel, rfl, by decide +kernel, by decide +kernel⟩
def R_need_both (ds : List PD) (d : PD) : Prop := ∃ (n : Nat) (E : Arr) (o : IL), ds = [webD n E, tI o] ∧ WebOk n E ∧ Vd n o ∧ d = .none
theorem ok_need_both (c1 : Cal P w K mg base "need_web" ["web"] 3 (spR K R_need_web)) (c2 : Cal P w K mg base "need_opened" ["web", "opened"] 2 (spR K R_need_opened)) (F : FnP K "need_both" sneed_both f fd) : FnOk P w K mg base CX0 4 f fd ["web", "opened"] (spR K R_need_both) := by
  refine fn_ok F sc_need_both (fun ds d h => by obtain ⟨_, _, _, rfl, _⟩ := h; rfl) fun cdv A outer s H E hr => ⟨_,
    pss_cons (ps_expr (pc c1 hr (by decide) (by rfl) (pa_cons (pv 0) pa_nil))) (pss_one (ps_expr (pc c2 hr (by decide) (by rfl) (pa_cons (pv 0) (pa_cons (pv 1) pa_nil))))), fun ds d h => ?_⟩
  obtain ⟨n, Ar, o, rfl, ok, vo, rfl⟩ := h
  exact ws_drop (ev_call (ea_cons (ev_var rfl) ea_nil) ⟨n, Ar, rfl, ok, rfl⟩) (ws_drop1 (ev_call (ea_cons (ev_var rfl) (ea_cons (ev_var rfl) ea_nil)) ⟨n, Ar, o, rfl, vo, rfl⟩) rfl)
/-! ### pairs_in -/
theorem sc_pairs_in : FnScope ["web", "opened", "arrow"] ["web", "opened"] (defScope spairs_in) := ⟨rfl, rfl, rfl, by decide +kernel, rfl, by decide +kernel, by decide +kernel⟩
def R_pairs_in (ds : List PD) (d : PD) : Prop := ∃ (n : Nat) (E : Arr) (o : IL), ds = [webD n E, tI o] ∧ E.length ≤ 1000 ∧ d = .list ((pairsIn E o).map prD)
theorem ok_pairs_in (F : FnP K "pairs_in" spairs_in f fd) : FnOk P w K mg base CX0 1 f fd ["web", "opened"] (spR K R_pairs_in) := by
  refine fn_ok F sc_pairs_in (fun ds d h => by obtain ⟨_, _, _, rfl, _⟩ := h; rfl) fun cdv A outer s H E hr => ⟨_,
    pss_one (ps_ret (pe_lc (own := [("arrow", 2)]) (g := gName 2) rfl sc_pairs_in.nd (pi_t K (pe_ix (i_t K) (pv 0) pe_int (fun _ _ => rfl))) (blkOk_by (by kernel_rfl)) (fun _ _ _ _ _ => pg_name (i := 2) sc_pairs_in.nd rfl (Or.inl rfl))
      (fun _ _ _ _ _ => pts_one (PW.pt (pw_and (pt_cmpR (o_in K) (pe_ix (i_t K) (pv 2) pe_int (fun _ _ => rfl)) (pv 1) rfl) (pw_and1 (pt_cmpR (o_ni K) (pe_ix (i_t K) (pv 2) pe_int (fun _ _ => rfl)) (pv 1) rfl))))) (fun _ _ _ _ _ => pv 2))), fun ds d h => ?_⟩
  obtain ⟨n, Ar, o, rfl, hl, rfl⟩ := h
  exact ws_ret (ev_lc (fun p => decide (p.1 ∈ o) && !decide (p.2 ∈ o)) prD (ei_tup (ev_op (rv_ixT (j := 1) rfl rfl) (ev_var rfl) ev_int)) (fun _ _ => eg_name) (by simp) (by omega)
    (fun p _ => eb_and (eb_test (ev_op rv_isT (ev_op (rv_ixT (j := 0) rfl rfl) (ev_var rfl) ev_int) (ev_var rfl))) fun _ => eb_test (ev_op rv_niT (ev_op (rv_ixT (j := 1) rfl rfl) (ev_var rfl) ev_int) (ev_var rfl))) (fun _ _ _ => ev_var rfl)) rfl
/-! ### frozen_in -/
theorem sc_frozen_in : FnScope ["web", "opened", "found", "one", "other"] ["web", "opened"] (defScope sfrozen_in) := ⟨rfl, rfl, rfl, by decide +kernel, rfl, by decide +kernel, by decide +kernel⟩
def R_frozen_in (ds : List PD) (d : PD) : Prop := ∃ (n : Nat) (E : Arr) (o : IL), ds = [webD n E, tI o] ∧ E.length ≤ 30 ∧ d = lI (frozenL E o)
theorem ok_frozen_in (T : Tx mg) (c1 : Cal P w K mg base "pairs_in" ["web", "opened"] 1 (spR K R_pairs_in)) (F : FnP K "frozen_in" sfrozen_in f fd) : FnOk P w K mg base CX0 2 f fd ["web", "opened"] (spR K R_frozen_in) := by
  refine fn_ok F sc_frozen_in (fun ds d h => by obtain ⟨_, _, _, rfl, _⟩ := h; rfl) fun cdv A outer s H E hr => ⟨_,
    pss_cons (ps_set (i := 2) sc_frozen_in.nd rfl (.inl rfl) (pe_lst pa_nil))
    (pss_cons (ps_for PassesOwn.never rfl (pi_l K (pc c1 hr (by decide) (by rfl) (pa_cons (pv 0) (pa_cons (pv 1) pa_nil)))) (pg_t K (n := 2) rfl (pgs_cons (pg_name (i := 3) sc_frozen_in.nd rfl (.inl rfl)) (pgs_cons (pg_name (i := 4) sc_frozen_in.nd rfl (.inl rfl)) pgs_nil)))
      (pss_one (ps_set (i := 2) sc_frozen_in.nd rfl (.inl rfl) (pe_op (o_cat K) (pv 2) (pe_lst (pa_cons (pv 3) (pa_cons (pv 4) pa_nil)))))))
    (pss_one (ps_ret (pe_callB (c_sset w rfl) (by rfl) T.sorted (by decide +kernel) (pa_cons (pe_callTy (c_set K w rfl) (by rfl) T.set (by decide +kernel) (pa_cons (pv 2) pa_nil)) pa_nil))))), fun ds d h => ?_⟩
  obtain ⟨n, Ar, o, rfl, hl, rfl⟩ := h
  have fl : ∀ (E : Arr), (E.flatMap fun p => [p.1, p.2]).length = 2 * E.length := fun E => by
    induction E with
    | nil => rfl
    | cons p E ih =>
      show ([p.1, p.2] ++ E.flatMap fun p => [p.1, p.2]).length = 2 * (E.length + 1)
      rw [List.length_append, ih]
      show 2 + 2 * E.length = _
      omega
  have pl : (pairsIn Ar o).length ≤ 30 := Nat.le_trans (List.length_filter_le _ _) hl
  refine ws_set (ev_lst ea_nil (by decide)) (ws_seq (M := fun δ => ∃ a b, δ = [some (webD n Ar), some (tI o), some (lI ((pairsIn Ar o).flatMap fun p => [p.1, p.2])), a, b])
    (ws_forM (emb := prD) (l := pairsIn Ar o) (js := [3, 4]) (δ' := fun δ1 p => (δ1.set 3 (some (.int p.1))).set 4 (some (.int p.2))) (fun i δ => ∃ a b, δ = [some (webD n Ar), some (tI o), some (lI (((pairsIn Ar o).take i).flatMap fun p => [p.1, p.2])), a, b])
      (ei_list (ev_call (ea_cons (ev_var rfl) (ea_cons (ev_var rfl) ea_nil)) ⟨n, Ar, o, rfl, by omega, rfl⟩)) ⟨_, _, rfl⟩ (fun δ1 p _ => eg_pair) (fun i p δ1 hp hv => ?_) (fun δ1 hv => ?_)) fun δ hv => ?_)
  · obtain ⟨a, b, rfl⟩ := hv
    refine ws_asg (d := lI (((pairsIn Ar o).take (i + 1)).flatMap fun p => [p.1, p.2])) (ev_is (ev_op (rv_catL ?_) (ev_var rfl) (ev_lst (ea_cons (ev_var rfl) (ea_cons (ev_var rfl) ea_nil)) (by simp))) ?_) ⟨_, _, rfl⟩
    · have := fl ((pairsIn Ar o).take i)
      have : ((pairsIn Ar o).take i).length ≤ (pairsIn Ar o).length := by rw [List.length_take]; omega
      simp only [List.length_map, List.length_cons, List.length_nil]
      omega
    · rw [take_next hp, List.flatMap_append]
      unfold lI
      simp
  · rw [List.take_length] at hv
    exact hv
  · obtain ⟨a, b, rfl⟩ := hv
    exact ws_ret (ev_sset (.inl (ev_var rfl)) (by rw [fl]; omega)) rfl
/-! ### loose_in -/
theorem sc_loose_in : FnScope ["web", "opened", "some", "k"] ["web", "opened"] (defScope sloose_in) := ⟨rfl, rfl, rfl, by decide +kernel, rfl, by decide +kernel, by decide +kernel⟩
def R_loose_in (ds : List PD) (d : PD) : Prop := ∃ (n : Nat) (E : Arr) (o : IL), ds = [webD n E, tI o] ∧ E.length ≤ 30 ∧ n ≤ 1000 ∧ d = lI (looseL n E o)
theorem ok_loose_in (T : Tx mg) (c1 : Cal P w K mg base "frozen_in" ["web", "opened"] 2 (spR K R_frozen_in)) (F : FnP K "loose_in" sloose_in f fd) : FnOk P w K mg base CX0 3 f fd ["web", "opened"] (spR K R_loose_in) := by
  refine fn_ok F sc_loose_in (fun ds d h => by obtain ⟨_, _, _, rfl, _⟩ := h; rfl) fun cdv A outer s H E hr => ⟨_,
    pss_cons (ps_set (i := 2) sc_loose_in.nd rfl (.inr rfl) (pc c1 hr (by decide) (by rfl) (pa_cons (pv 0) (pa_cons (pv 1) pa_nil))))
    (pss_one (ps_ret (pe_lc (own := [("k", 3)]) (g := gName 3) rfl sc_loose_in.nd (pi_range1 (by rfl) T.range (pa_cons (pe_ix (i_t K) (pv 0) pe_int (fun _ _ => rfl)) pa_nil)) (blkOk_by (by kernel_rfl)) (fun _ _ _ _ _ => pg_name (i := 3) sc_loose_in.nd rfl (Or.inl rfl))
      (fun _ _ _ _ _ => pts_one (pt_cmpR (o_ni K) (pv 3) (pv 2) rfl)) (fun _ _ _ _ _ => pv 3)))), fun ds d h => ?_⟩
  obtain ⟨n, Ar, o, rfl, hl, hn, rfl⟩ := h
  refine ws_set (ev_call (ea_cons (ev_var rfl) (ea_cons (ev_var rfl) ea_nil)) ⟨n, Ar, o, rfl, hl, rfl⟩) ?_
  exact ws_ret (ev_lc (fun k => !decide (k ∈ frozenL Ar o)) PyData.int (ei_rng (ea_cons (ev_op (rv_ixT (j := 0) rfl rfl) (ev_var rfl) ev_int) ea_nil) (by omega)) (fun _ _ => eg_name) (by simp) (by rw [rng_len]; omega) (fun _ _ => eb_test (ev_op rv_niL (ev_var rfl) (ev_var rfl))) (fun _ _ _ => ev_var rfl)) rfl
end
end Ld
set_option maxHeartbeats 4000000
namespace Ld
open PySem PySem.Spec PyProof.Rows L2
open Evl (Ex ex_l ex_t sq_of st_of fresh_back)
section
variable {P : Program} {w : World} {K : PySem.W.Frag} {mg : Str → Option Value} {base : Heap} {f : Addr} {fd : FuncData}

theorem eb_yes {δ : DS} : EvB K tYes δ true := fun σ H G s x Q q => q H G (Gr.refl x)
theorem filter_true {α : Type} (l : List α) : l.filter (fun _ => true) = l := by simp
/-! ### standings -/
theorem sc_standings : FnScope ["doors", "found", "door", "one"] ["doors"] (defScope sstandings) := ⟨rfl, rfl, rfl, by decide +kernel, rfl, by decide +kernel, by decide +kernel⟩
def R_standings (ds : List PD) (d : PD) : Prop := ∃ l : IL, ds = [lI l] ∧ l.length ≤ 10 ∧ d = lT (stands l)
theorem ok_standings (T : Tx mg) (F : FnP K "standings" sstandings f fd) : FnOk P w K mg base CX0 1 f fd ["doors"] (spR K R_standings) := by
  refine fn_ok F sc_standings (fun ds d h => by obtain ⟨_, rfl, _⟩ := h; rfl) fun cdv A outer s H E hr => ⟨_,
    pss_cons (ps_set (i := 1) sc_standings.nd rfl (.inl rfl) (pe_lst (pa_cons (pe_tup pa_nil) pa_nil)))
    (pss_cons (ps_for PassesOwn.never rfl (pi_l K (pv 0)) (pg_name (i := 2) sc_standings.nd rfl (.inr rfl))
      (pss_one (ps_set (i := 1) sc_standings.nd rfl (.inl rfl) (pe_op (o_cat K) (pv 1) (pe_lc (own := [("one", 3)]) (g := gName 3) rfl sc_standings.nd (pi_l K (pv 1)) (blkOk_by (by kernel_rfl)) (fun _ _ _ _ _ => pg_name (i := 3) sc_standings.nd rfl (Or.inl rfl))
        (fun _ _ _ _ _ => pts_nil) (fun _ _ _ _ _ => pe_op (o_catA K) (pv 3) (pe_tup (pa_cons (pv 2) pa_nil))))))))
    (pss_one (ps_ret (pe_callB (c_sortV K hr) (by rfl) T.sorted (by decide +kernel) (pa_cons (pv 1) pa_nil))))), fun ds d h => ?_⟩
  obtain ⟨l, rfl, hl, rfl⟩ := h
  have sl : ∀ i, (subs (l.take i)).length ≤ 1024 := fun i => by
    rw [subs_len]
    have : (l.take i).length ≤ 10 := by
      rw [List.length_take]
      omega
    exact Nat.le_trans (Nat.pow_le_pow_right (by decide) this) (by decide)
  refine ws_set (ev_lst (ea_cons (ev_tup ea_nil (by decide)) ea_nil) (by decide)) (ws_seq (M := fun δ => ∃ a b, δ = [some (lI l), some (lT (subs l)), a, b])
    (ws_forM (emb := PyData.int) (l := l) (js := [2]) (δ' := fun δ1 p => δ1.set 2 (some (.int p))) (fun i δ => ∃ a b, δ = [some (lI l), some (lT (subs (l.take i))), a, b])
      (ei_list (ev_var rfl)) ⟨_, _, rfl⟩ (fun δ1 p _ => eg_name) (fun i p δ1 hp hv => ?_) (fun δ1 hv => ?_)) fun δ hv => ?_)
  · obtain ⟨a, b, rfl⟩ := hv
    refine ws_asg (d := lT (subs (l.take (i + 1)))) (ev_is (ev_op (rv_catL ?_) (ev_var rfl) (ev_lc (emb := tI) (l := subs (l.take i)) (fun _ => true) (fun one => tI (one ++ [p])) (ei_list (ev_var rfl)) (fun _ _ => eg_name) (by simp) (Nat.le_trans (sl i) (by decide)) (fun _ _ => eb_yes)
      (fun one h1 _ => ev_is (ev_op (rv_catT (ds := one.map PyData.int) (es := [.int p]) ?_) (ev_var rfl) (ev_tup (ea_cons (ev_var rfl) ea_nil) (by simp))) ?_))) ?_) ⟨_, _, rfl⟩
    · have := sl i
      rw [filter_true]
      simp only [List.length_map]
      omega
    · have := ((mem_subs _ _).mp h1).length_le
      rw [List.length_take] at this
      simp only [List.length_map, List.length_cons, List.length_nil]
      omega
    · unfold tI
      rw [List.map_append] <;> rfl
    · rw [take_next hp, subs_step, filter_true]
      unfold lT
      rw [List.map_append, List.map_map] <;> rfl
  · rw [List.take_length] at hv
    exact hv
  · obtain ⟨a, b, rfl⟩ := hv
    exact ws_ret (ev_cb rc_sortV (ea_cons (ev_var rfl) ea_nil)) rfl
/-! ### ringless -/
theorem sc_ringless : FnScope ["web", "some", "left", "more", "k", "other", "one"] ["web", "some"] (defScope sringless) := ⟨rfl, rfl, rfl, by decide +kernel, rfl, by decide +kernel, by decide +kernel⟩
def R_ringless (ds : List PD) (d : PD) : Prop := ∃ (n : Nat) (E : Arr) (l : IL), (ds = [webD n E, tI l] ∨ ds = [webD n E, lI l]) ∧ E.length ≤ 1000 ∧ l.length ≤ 1000 ∧ d = .bool (ringless E l)
theorem ok_ringless (T : Tx mg) (F : FnP K "ringless" sringless f fd) : FnOk P w K mg base CX0 1 f fd ["web", "some"] (spR K R_ringless) := by
  refine fn_ok F sc_ringless (fun ds d h => by obtain ⟨_, _, _, h, _⟩ := h; rcases h with rfl | rfl <;> rfl) fun cdv A outer s H E hr => ⟨_,
    pss_cons (ps_set (i := 2) sc_ringless.nd rfl (.inr rfl) (pe_callTy (c_list K) (by rfl) T.list (by decide +kernel) (pa_cons (pv 1) pa_nil)))
    (pss_cons (ps_while PassesOwn.never (pt_cmpR (o_neD K hr) (pv 2) (pe_lst pa_nil) (nomark _))
      (pss_cons (ps_setLc (i := 3) (own := [("k", 4)]) (g := gName 4) rfl sc_ringless.nd rfl rfl (sw_true rfl rfl rfl (by decide +kernel)) (pi_l K (pv 2)) (blkOk_by (by kernel_rfl)) (fun _ _ _ _ _ => pg_name (i := 4) sc_ringless.nd rfl (Or.inr rfl))
          (fun _ _ _ _ _ => pts_one (pt_cmpR (o_neD K hr) (pe_lc (own := [("other", 5), ("one", 6)]) (g := gTup K 2 (gCons (gName 6) (gCons (gName 5) gNil))) rfl sc_ringless.nd (pi_t K (pe_ix (i_t K) (pv 0) pe_int (fun _ _ => rfl))) (blkOk_by (by kernel_rfl))
            (fun _ _ _ _ _ => pg_t K (n := 2) rfl (pgs_cons (pg_name (i := 6) sc_ringless.nd rfl (Or.inl rfl)) (pgs_cons (pg_name (i := 5) sc_ringless.nd rfl (Or.inl rfl)) pgs_nil)))
            (fun _ _ _ _ _ => pts_one (PW.pt (pw_and (pt_cmpR op_eq (pv 6) (pv 4) (nomark _)) (pw_and1 (pt_cmpR (o_in K) (pv 5) (pv 2) rfl))))) (fun _ _ _ _ _ => pv 5)) (pe_lst pa_nil) (nomark _)))
          (fun _ _ _ _ _ => pv 4))
      (pss_cons (ps_if (pt_cmpR op_eq (pe_callB (c_len K) (by rfl) T.len PySem.boot_len (pa_cons (pv 3) pa_nil)) (pe_callB (c_len K) (by rfl) T.len PySem.boot_len (pa_cons (pv 2) pa_nil)) (nomark _)) (pss_one (ps_ret pe_bl)) pss_nil)
      (pss_one (ps_set (i := 2) sc_ringless.nd rfl (.inr rfl) (pv 3))))))
    (pss_one (ps_ret pe_bl))), fun ds d h => ?_⟩
  obtain ⟨n, Ar, l, hds, hE, hl, rfl⟩ := h
  obtain ⟨sd, rfl, hev⟩ : ∃ sd : PD, ds = [webD n Ar, sd] ∧ Ev K (tCB (rListS K) (tCons (tVar 1) tNil)) [some (webD n Ar), some sd, none, none, none, none, none] (lI l) := by
    rcases hds with rfl | rfl
    · exact ⟨_, rfl, ev_cb rc_listT (ea_cons (ev_var rfl) ea_nil)⟩
    · exact ⟨_, rfl, ev_cb rc_listL (ea_cons (ev_var rfl) ea_nil)⟩
  show WS K _ [some (webD n Ar), some sd, none, none, none, none, none] _ _
  · refine ws_set hev (ws_seq (M := fun _ => ringless Ar l = true)
      (ws_whileM (fun m δ => ∃ left a b c e, δ = [some (webD n Ar), some sd, some (lI left), a, b, c, e] ∧ left.length = m ∧ ringless Ar left = ringless Ar l ∧ left.length ≤ 1000) l.length ⟨l, _, _, _, _, rfl, rfl, rfl, hl⟩ fun m δ1 hv => ?_) fun δ hv => ?_)
    · obtain ⟨left, a, b, c, e, rfl, hm, hr2, hl2⟩ := hv
      refine ⟨_, eb_test (ev_op (rv_neNil (f := PyData.int) (shp_lI left)) (ev_var rfl) (ev_lst ea_nil (by decide))), fun hb => ?_, fun hb => ?_⟩
      · have hne : left ≠ [] := by
          intro c
          rw [c] at hb
          simp at hb
        have un : ringless Ar left = if _h : (peel Ar left).length = left.length then false else ringless Ar (peel Ar left) := by
          rw [ringless]
          rw [if_neg hne]
        refine ws_set (d := lI (peel Ar left)) (ev_is (ev_lc (emb := PyData.int) (l := left) (fun k => !decide (outs Ar left k = [])) PyData.int (ei_list (ev_var rfl)) (fun _ _ => eg_name) (by simp) (by omega)
          (fun k hk => eb_test (ev_op (rv_neNil (f := PyData.int) (shp_lI _)) (ev_is (ev_lc (emb := prD) (l := Ar) (fun p => decide (p.1 = k) && decide (p.2 ∈ left)) (fun p => PyData.int p.2) (ei_tup (ev_op (rv_ixT (j := 1) rfl rfl) (ev_var rfl) ev_int)) (fun _ _ => eg_pair) (by simp) (by omega)
            (fun p _ => eb_and (eb_test (ev_op rv_eqI (ev_var rfl) (ev_var rfl))) fun _ => eb_test (ev_op rv_isL (ev_var rfl) (ev_var rfl))) (fun _ _ _ => ev_var rfl)) ?_) (ev_lst ea_nil (by decide)))) (fun _ _ _ => ev_var rfl)) rfl) ?_
        · unfold outs
          rw [List.map_map]
          rfl
        refine ws_seq (M := fun δ => ∃ c e f, δ = [some (webD n Ar), some sd, some (lI left), some (lI (peel Ar left)), c, e, f] ∧ ¬ (peel Ar left).length = left.length) (ws_if (eb_test (ev_op rv_eqI (ev_cb rc_lenL (ea_cons (ev_var rfl) ea_nil)) (ev_cb rc_lenL (ea_cons (ev_var rfl) ea_nil)))) (fun hb2 => ?_) fun hb2 => ?_) fun δ hv => ?_
        · refine ws_ret ev_bl ?_
          have hb3 := of_decide_eq_true hb2
          simp only [List.length_map] at hb3
          rw [← hr2, un, dif_pos (by omega)]
        · refine ws_nx ⟨_, _, _, rfl, fun q => ?_⟩
          have hb3 := of_decide_eq_false hb2
          simp only [List.length_map] at hb3
          omega
        · obtain ⟨c, e, f, rfl, hne2⟩ := hv
          have hle := peel_le Ar left
          refine ws_asg (ev_var rfl) ⟨(peel Ar left).length, by omega, peel Ar left, _, _, _, _, rfl, rfl, ?_, by omega⟩
          rw [← hr2, un, dif_neg hne2]
      · have he : left = [] := by simpa using hb
        rw [← hr2, he, ringless]
        simp
    · exact ws_ret ev_bl (by rw [hv])
/-! ### sets_in -/
theorem sc_sets_in : FnScope ["web", "some", "one"] ["web", "some"] (defScope ssets_in) := ⟨rfl, rfl, rfl, by decide +kernel, rfl, by decide +kernel, by decide +kernel⟩
def R_sets_in (ds : List PD) (d : PD) : Prop := ∃ (n : Nat) (E : Arr) (l : IL), ds = [webD n E, lI l] ∧ E.length ≤ 1000 ∧ l.length ≤ 10 ∧ d = lT (setsIn E l)
theorem ok_sets_in (T : Tx mg) (c1 : Cal P w K mg base "standings" ["doors"] 1 (spR K R_standings)) (c2 : Cal P w K mg base "ringless" ["web", "some"] 1 (spR K R_ringless)) (F : FnP K "sets_in" ssets_in f fd) : FnOk P w K mg base CX0 2 f fd ["web", "some"] (spR K R_sets_in) := by
  refine fn_ok F sc_sets_in (fun ds d h => by obtain ⟨_, _, _, rfl, _⟩ := h; rfl) fun cdv A outer s H E hr => ⟨_,
    pss_one (ps_ret (pe_lc (own := [("one", 2)]) (g := gName 2) rfl sc_sets_in.nd (pi_l K (pc c1 hr (by decide) (by rfl) (pa_cons (pe_callTy (c_list K) (by rfl) T.list (by decide +kernel) (pa_cons (pv 1) pa_nil)) pa_nil))) (blkOk_by (by kernel_rfl)) (fun _ _ _ _ _ => pg_name (i := 2) sc_sets_in.nd rfl (Or.inl rfl))
      (fun _ _ _ _ _ => pts_one (pt_val (pc c2 hr (by decide) (by rfl) (pa_cons (pv 0) (pa_cons (pv 2) pa_nil))))) (fun _ _ _ _ _ => pv 2))), fun ds d h => ?_⟩
  obtain ⟨n, Ar, l, rfl, hE, hl, rfl⟩ := h
  have sl : (stands l).length ≤ 1024 := by
    rw [stands_len]
    exact Nat.le_trans (Nat.pow_le_pow_right (by decide) hl) (by decide)
  exact ws_ret (ev_lc (emb := tI) (l := stands l) (fun one => ringless Ar one) tI (ei_list (ev_call (ea_cons (ev_cb rc_listL (ea_cons (ev_var rfl) ea_nil)) ea_nil) ⟨l, rfl, hl, rfl⟩)) (fun _ _ => eg_name) (by simp) (by omega)
    (fun one h1 => eb_B (ev_call (ea_cons (ev_var rfl) (ea_cons (ev_var rfl) ea_nil)) ⟨n, Ar, one, .inl rfl, hE, by have := (mem_stands.mp h1).length_le; omega, rfl⟩)) (fun _ _ _ => ev_var rfl)) rfl
end
end Ld
set_option maxHeartbeats 4000000
namespace Ld
open PySem PySem.Spec PyProof.Rows L2
open Evl (Ex ex_l ex_t sq_of st_of fresh_back)
section
variable {P : Program} {w : World} {K : PySem.W.Frag} {mg : Str → Option Value} {base : Heap} {f : Addr} {fd : FuncData}

/-! ### comes_in -/
theorem sc_comes_in : FnScope ["web", "one", "other", "some", "fresh", "old", "k"] ["web", "one", "other"] (defScope scomes_in) := ⟨rfl, rfl, rfl, by decide +kernel, rfl, by decide +kernel, by decide +kernel⟩
def R_comes_in (ds : List PD) (d : PD) : Prop := ∃ (n : Nat) (E : Arr) (o t : IL), ds = [webD n E, tI o, tI t] ∧ E.length ≤ 30 ∧ o.length ≤ 100 ∧ t.length ≤ 100 ∧ d = .bool (comesIn E o t)
theorem ok_comes_in (T : Tx mg) (c1 : Cal P w K mg base "frozen_in" ["web", "opened"] 2 (spR K R_frozen_in)) (c2 : Cal P w K mg base "fresh_in" ["one", "other"] 1 (spR K R_fresh_in)) (c3 : Cal P w K mg base "ringless" ["web", "some"] 1 (spR K R_ringless)) (F : FnP K "comes_in" scomes_in f fd) :
    FnOk P w K mg base CX0 3 f fd ["web", "one", "other"] (spR K R_comes_in) := by
  refine fn_ok F sc_comes_in (fun ds d h => by obtain ⟨_, _, _, _, rfl, _⟩ := h; rfl) fun cdv A outer s H E hr => ⟨_,
    pss_cons (ps_asg (pe_tup (pa_cons (pc c1 hr (by decide) (by rfl) (pa_cons (pv 0) (pa_cons (pv 1) pa_nil))) (pa_cons (pc c2 hr (by decide) (by rfl) (pa_cons (pv 1) (pa_cons (pv 2) pa_nil))) (pa_cons (pc c2 hr (by decide) (by rfl) (pa_cons (pv 2) (pa_cons (pv 1) pa_nil))) pa_nil))))
        (pg_t K (n := 3) rfl (pgs_cons (pg_name (i := 3) sc_comes_in.nd rfl (.inr rfl)) (pgs_cons (pg_name (i := 4) sc_comes_in.nd rfl (.inl rfl)) (pgs_cons (pg_name (i := 5) sc_comes_in.nd rfl (.inl rfl)) pgs_nil)))))
    (pss_cons (ps_if (pt_cmpR (o_neD K hr) (pe_lc (own := [("k", 6)]) (g := gName 6) rfl sc_comes_in.nd (pi_l K (pe_op (o_cat K) (pv 4) (pv 5))) (blkOk_by (by kernel_rfl)) (fun _ _ _ _ _ => pg_name (i := 6) sc_comes_in.nd rfl (Or.inl rfl))
        (fun _ _ _ _ _ => pts_one (pt_cmpR (o_in K) (pv 6) (pv 3) rfl)) (fun _ _ _ _ _ => pv 6)) (pe_lst pa_nil) (nomark _)) (pss_one (ps_ret pe_bl)) pss_nil)
    (pss_one (ps_ret (pe_and (pc c3 hr (by decide) (by rfl) (pa_cons (pv 0) (pa_cons (pv 4) pa_nil))) (pe_one (pc c3 hr (by decide) (by rfl) (pa_cons (pv 0) (pa_cons (pv 5) pa_nil)))))))), fun ds d h => ?_⟩
  obtain ⟨n, Ar, o, t, rfl, hE, ho, ht, rfl⟩ := h
  have l1 : (freshIn o t).length ≤ 100 := Nat.le_trans (List.length_filter_le _ _) ht
  have l2 : (freshIn t o).length ≤ 100 := Nat.le_trans (List.length_filter_le _ _) ho
  refine ws_asgG (ev_tup (ea_cons (ev_call (ea_cons (ev_var rfl) (ea_cons (ev_var rfl) ea_nil)) ⟨n, Ar, o, rfl, hE, rfl⟩) (ea_cons (ev_call (ea_cons (ev_var rfl) (ea_cons (ev_var rfl) ea_nil)) ⟨o, t, rfl, by omega, rfl⟩) (ea_cons (ev_call (ea_cons (ev_var rfl) (ea_cons (ev_var rfl) ea_nil)) ⟨t, o, rfl, by omega, rfl⟩) ea_nil))) (by simp)) eg_three ?_
  refine ws_seq (M := fun δ => δ = [some (webD n Ar), some (tI o), some (tI t), some (lI (frozenL Ar o)), some (lI (freshIn o t)), some (lI (freshIn t o)), none] ∧ ((freshIn o t ++ freshIn t o).filter fun k => decide (k ∈ frozenL Ar o)) = [])
    (ws_if (eb_test (ev_op (rv_neNil (f := PyData.int) (shp_lI _)) (ev_lc (emb := PyData.int) (l := freshIn o t ++ freshIn t o) (fun k => decide (k ∈ frozenL Ar o)) PyData.int (ei_list (ev_is (ev_op (rv_catL ?_) (ev_var rfl) (ev_var rfl)) ?_)) (fun _ _ => eg_name) (by simp) ?_
      (fun _ _ => eb_test (ev_op rv_isL (ev_var rfl) (ev_var rfl))) (fun _ _ _ => ev_var rfl)) (ev_lst ea_nil (by decide)))) (fun hb => ?_) fun hb => ?_) fun δ hv => ?_
  · simp only [List.length_map]
    omega
  · rw [List.map_append]
  · rw [List.length_append]
    omega
  · refine ws_ret ev_bl ?_
    unfold comesIn
    rw [if_neg (by simp only [Bool.not_eq_true', decide_eq_false_iff_not] at hb; exact hb)]
  · exact ws_nx ⟨rfl, by simpa using hb⟩
  · obtain ⟨rfl, hz⟩ := hv
    refine ws_ret (ev_and (ev_call (ea_cons (ev_var rfl) (ea_cons (ev_var rfl) ea_nil)) ⟨n, Ar, freshIn o t, .inr rfl, by omega, by omega, rfl⟩) fun _ => ev_call (ea_cons (ev_var rfl) (ea_cons (ev_var rfl) ea_nil)) ⟨n, Ar, freshIn t o, .inr rfl, by omega, by omega, rfl⟩) ?_
    unfold comesIn
    rw [if_pos hz]
/-! ### sides_in -/
theorem sc_sides_in : FnScope ["web", "opened", "some", "k"] ["web", "opened"] (defScope ssides_in) := ⟨rfl, rfl, rfl, by decide +kernel, rfl, by decide +kernel, by decide +kernel⟩
def R_sides_in (ds : List PD) (d : PD) : Prop := ∃ (n : Nat) (E : Arr) (o : IL), ds = [webD n E, tI o] ∧ E.length ≤ 30 ∧ n ≤ 1000 ∧ d = .tuple [lI (freshS n E o), lI (oldS n E o)]
theorem loose_len (n : Nat) (E : Arr) (o : IL) : (looseL n E o).length ≤ n := by
  have := List.length_filter_le (fun k => !decide (k ∈ frozenL E o)) (rng n)
  rw [rng_len] at this
  exact this
theorem ok_sides_in (c1 : Cal P w K mg base "loose_in" ["web", "opened"] 3 (spR K R_loose_in)) (F : FnP K "sides_in" ssides_in f fd) : FnOk P w K mg base CX0 4 f fd ["web", "opened"] (spR K R_sides_in) := by
  refine fn_ok F sc_sides_in (fun ds d h => by obtain ⟨_, _, _, rfl, _⟩ := h; rfl) fun cdv A outer s H E hr => ⟨_,
    pss_cons (ps_set (i := 2) sc_sides_in.nd rfl (.inl rfl) (pc c1 hr (by decide) (by rfl) (pa_cons (pv 0) (pa_cons (pv 1) pa_nil))))
    (pss_one (ps_ret (pe_tup (pa_cons
      (pe_lc (own := [("k", 3)]) (g := gName 3) rfl sc_sides_in.nd (pi_l K (pv 2)) (blkOk_by (by kernel_rfl)) (fun _ _ _ _ _ => pg_name (i := 3) sc_sides_in.nd rfl (Or.inl rfl)) (fun _ _ _ _ _ => pts_one (pt_cmpR (o_ni K) (pv 3) (pv 1) rfl)) (fun _ _ _ _ _ => pv 3)) (pa_cons
      (pe_lc (own := [("k", 3)]) (g := gName 3) rfl sc_sides_in.nd (pi_l K (pv 2)) (blkOk_by (by kernel_rfl)) (fun _ _ _ _ _ => pg_name (i := 3) sc_sides_in.nd rfl (Or.inl rfl)) (fun _ _ _ _ _ => pts_one (pt_cmpR (o_in K) (pv 3) (pv 1) rfl)) (fun _ _ _ _ _ => pv 3)) pa_nil))))), fun ds d h => ?_⟩
  obtain ⟨n, Ar, o, rfl, hl, hn, rfl⟩ := h
  have := loose_len n Ar o
  refine ws_set (ev_call (ea_cons (ev_var rfl) (ea_cons (ev_var rfl) ea_nil)) ⟨n, Ar, o, rfl, hl, hn, rfl⟩) ?_
  refine ws_ret (ev_tup (ea_cons (ev_lc (emb := PyData.int) (l := looseL n Ar o) (fun k => !decide (k ∈ o)) PyData.int (ei_list (ev_var rfl)) (fun _ _ => eg_name) (by simp) (by omega) (fun _ _ => eb_test (ev_op rv_niT (ev_var rfl) (ev_var rfl))) (fun _ _ _ => ev_var rfl))
    (ea_cons (ev_lc (emb := PyData.int) (l := looseL n Ar o) (fun k => decide (k ∈ o)) PyData.int (ei_list (ev_var rfl)) (fun _ _ => eg_name) (by simp) (by omega) (fun _ _ => eb_test (ev_op rv_isT (ev_var rfl) (ev_var rfl))) (fun _ _ _ => ev_var rfl)) ea_nil)) (by simp)) rfl
/-! ### need_held -/
theorem sc_need_held : FnScope ["web", "held", "one"] ["web", "held"] (defScope sneed_held) := ⟨rfl, rfl, rfl, by decide +kernel, rfl, by decide +kernel, by decide +kernel⟩
def R_need_held (ds : List PD) (d : PD) : Prop := ∃ (n : Nat) (E : Arr) (o : IL), ds = [webD n E, tI o] ∧ Vd n o ∧ n ≤ 6 ∧ d = .none
theorem ok_need_held (T : Tx mg) (c1 : Cal P w K mg base "is_in" ["value", "least", "most"] 1 (spR K R_is_in)) (F : FnP K "need_held" sneed_held f fd) : FnOk P w K mg base CX0 2 f fd ["web", "held"] (spR K R_need_held) := by
  refine fn_ok F sc_need_held (fun ds d h => by obtain ⟨_, _, _, rfl, _⟩ := h; rfl) fun cdv A outer s H E hr => ⟨_,
    pss_cons (ps_if (PW.pt (pw_or (pt_not (pt_val (pe_callB (c_isi K) (by rfl) T.isi (by decide +kernel) (pa_cons (pv 1) (pa_cons (pe_bltn (v := .ty "tuple") (by rfl) T.tuple (by decide +kernel) rfl) pa_nil)))))
      (pw_or1 (pt_cmpR (o_neD K hr) (pe_lc (own := [("one", 2)]) (g := gName 2) rfl sc_need_held.nd (pi_t K (pv 1)) (blkOk_by (by kernel_rfl)) (fun _ _ _ _ _ => pg_name (i := 2) sc_need_held.nd rfl (Or.inl rfl))
        (fun _ _ _ _ _ => pts_one (pt_not (pt_val (pc c1 hr (by decide) (by rfl) (pa_cons (pv 2) (pa_cons pe_int (pa_cons (pe_op op_sub (pe_ix (i_t K) (pv 0) pe_int (fun _ _ => rfl)) pe_int) pa_nil))))))) (fun _ _ _ _ _ => pv 2)) (pe_lst pa_nil) (nomark _))))) (pss_one ps_never) pss_nil)
    (pss_one (ps_if (pt_cmpR (o_neD K hr) (pe_callTy (c_list K) (by rfl) T.list (by decide +kernel) (pa_cons (pv 1) pa_nil))
      (pe_callB (c_sset w rfl) (by rfl) T.sorted (by decide +kernel) (pa_cons (pe_callTy (c_set K w rfl) (by rfl) T.set (by decide +kernel) (pa_cons (pv 1) pa_nil)) pa_nil)) (nomark _)) (pss_one ps_never) pss_nil)), fun ds d h => ?_⟩
  obtain ⟨n, Ar, o, rfl, ok, hn, rfl⟩ := h
  have hl := ok.len
  refine ws_skip (eb_is (eb_or (b := false) (eb_not (eb_B (isi_tup_tuple (ev_var rfl)))) fun _ => eb_is (eb_test (ev_op (rv_neNil (f := PyData.int) (l := []) shp_nil) (ev_is (ev_lc (emb := PyData.int) (l := o) (fun _ => false) PyData.int (ei_tup (ev_var rfl)) (fun _ _ => eg_name) (by simp) (by omega) (fun a ha => ?_) (fun _ _ h => by cases h)) ?_) (ev_lst ea_nil (by decide)))) (by simp)) (by rfl)) ?_
  · have hb := ok.bd a ha
    have q : 0 ≤ a ∧ a ≤ (n : Int) - 1 := by omega
    refine eb_is (eb_not (eb_B (ev_call (ea_cons (ev_var rfl) (ea_cons ev_int (ea_cons (ev_op rv_int (ev_op (rv_ixT (j := 0) rfl rfl) (ev_var rfl) ev_int) ev_int) ea_nil))) ⟨a, 0, (n : Int) - 1, rfl, rfl⟩))) ?_
    simp [q]
  · simp
  · refine ws_if (b := false) (eb_is (eb_test (ev_op (rv_neD (d := lI o) (e := lI (sset o)) (shp_lI _) (shp_lI _)) (ev_cb rc_listT (ea_cons (ev_var rfl) ea_nil)) (ev_sset (.inr (ev_var rfl)) (by omega)))) ?_) (fun h => by cases h) fun _ => ws_nx rfl
    rw [eqv_lI, ← sset_uniq ok.asc fun x => Iff.rfl]
    simp
/-! ### comes_held -/
theorem sc_comes_held : FnScope ["web", "one", "other", "held", "differ", "k"] ["web", "one", "other", "held"] (defScope scomes_held) := ⟨rfl, rfl, rfl, by decide +kernel, rfl, by decide +kernel, by decide +kernel⟩
def R_comes_held (ds : List PD) (d : PD) : Prop := ∃ (n : Nat) (E : Arr) (o t held : IL), ds = [webD n E, tI o, tI t, tI held] ∧ E.length ≤ 30 ∧ o.length ≤ 100 ∧ t.length ≤ 100 ∧ held.length ≤ 100 ∧ d = .bool (comesHeld E o t held)
theorem ok_comes_held (c1 : Cal P w K mg base "fresh_in" ["one", "other"] 1 (spR K R_fresh_in)) (c2 : Cal P w K mg base "comes_in" ["web", "one", "other"] 3 (spR K R_comes_in)) (F : FnP K "comes_held" scomes_held f fd) :
    FnOk P w K mg base CX0 4 f fd ["web", "one", "other", "held"] (spR K R_comes_held) := by
  refine fn_ok F sc_comes_held (fun ds d h => by obtain ⟨_, _, _, _, _, rfl, _⟩ := h; rfl) fun cdv A outer s H E hr => ⟨_,
    pss_cons (ps_set (i := 4) sc_comes_held.nd rfl (.inr rfl) (pe_op (o_cat K) (pc c1 hr (by decide) (by rfl) (pa_cons (pv 1) (pa_cons (pv 2) pa_nil))) (pc c1 hr (by decide) (by rfl) (pa_cons (pv 2) (pa_cons (pv 1) pa_nil)))))
    (pss_one (ps_ret (pe_and (pe_cmpR (o_eqD K hr) (pe_lc (own := [("k", 5)]) (g := gName 5) rfl sc_comes_held.nd (pi_t K (pv 3)) (blkOk_by (by kernel_rfl)) (fun _ _ _ _ _ => pg_name (i := 5) sc_comes_held.nd rfl (Or.inl rfl)) (fun _ _ _ _ _ => pts_one (pt_cmpR (o_in K) (pv 5) (pv 4) rfl)) (fun _ _ _ _ _ => pv 5)) (pe_lst pa_nil) (nomark _))
      (pe_one (pc c2 hr (by decide) (by rfl) (pa_cons (pv 0) (pa_cons (pv 1) (pa_cons (pv 2) pa_nil)))))))), fun ds d h => ?_⟩
  obtain ⟨n, Ar, o, t, held, rfl, hE, ho, ht, hh, rfl⟩ := h
  have l1 : (freshIn o t).length ≤ 100 := Nat.le_trans (List.length_filter_le _ _) ht
  have l2 : (freshIn t o).length ≤ 100 := Nat.le_trans (List.length_filter_le _ _) ho
  refine ws_set (d := lI (freshIn o t ++ freshIn t o)) (ev_is (ev_op (rv_catL ?_) (ev_call (ea_cons (ev_var rfl) (ea_cons (ev_var rfl) ea_nil)) ⟨o, t, rfl, by omega, rfl⟩) (ev_call (ea_cons (ev_var rfl) (ea_cons (ev_var rfl) ea_nil)) ⟨t, o, rfl, by omega, rfl⟩)) ?_) ?_
  · simp only [List.length_map]
    omega
  · unfold lI
    rw [List.map_append]
  · exact ws_ret (ev_and (ev_op (rv_eqNil (f := PyData.int) (shp_lI _)) (ev_lc (emb := PyData.int) (l := held) (fun k => decide (k ∈ freshIn o t ++ freshIn t o)) PyData.int (ei_tup (ev_var rfl)) (fun _ _ => eg_name) (by simp) (by omega) (fun _ _ => eb_test (ev_op rv_isL (ev_var rfl) (ev_var rfl))) (fun _ _ _ => ev_var rfl)) (ev_lst ea_nil (by decide)))
      fun _ => ev_call (ea_cons (ev_var rfl) (ea_cons (ev_var rfl) (ea_cons (ev_var rfl) ea_nil))) ⟨n, Ar, o, t, rfl, hE, ho, ht, rfl⟩) rfl
/-! ### held_can_come -/
theorem sc_held_can_come : FnScope ["web", "one", "other", "held"] ["web", "one", "other", "held"] (defScope sheld_can_come) := ⟨rfl, rfl, rfl, by decide +kernel, rfl, by decide +kernel, by decide +kernel⟩
def R_held_can_come (ds : List PD) (d : PD) : Prop := ∃ (n : Nat) (E : Arr) (o t held : IL), ds = [webD n E, tI o, tI t, tI held] ∧ WebOk n E ∧ Vd n o ∧ Vd n t ∧ Vd n held ∧ d = .bool (comesHeld E o t held)
theorem ok_held_can_come (c1 : Cal P w K mg base "need_both" ["web", "opened"] 4 (spR K R_need_both)) (c2 : Cal P w K mg base "need_opened" ["web", "opened"] 2 (spR K R_need_opened)) (c3 : Cal P w K mg base "need_held" ["web", "held"] 2 (spR K R_need_held))
    (c4 : Cal P w K mg base "comes_held" ["web", "one", "other", "held"] 4 (spR K R_comes_held)) (F : FnP K "held_can_come" sheld_can_come f fd) : FnOk P w K mg base CX0 5 f fd ["web", "one", "other", "held"] (spR K R_held_can_come) := by
  refine fn_ok F sc_held_can_come (fun ds d h => by obtain ⟨_, _, _, _, _, rfl, _⟩ := h; rfl) fun cdv A outer s H E hr => ⟨_,
    pss_cons (ps_expr (pc c1 hr (by decide) (by rfl) (pa_cons (pv 0) (pa_cons (pv 1) pa_nil)))) (pss_cons (ps_expr (pc c2 hr (by decide) (by rfl) (pa_cons (pv 0) (pa_cons (pv 2) pa_nil))))
      (pss_cons (ps_expr (pc c3 hr (by decide) (by rfl) (pa_cons (pv 0) (pa_cons (pv 3) pa_nil)))) (pss_one (ps_ret (pc c4 hr (by decide) (by rfl) (pa_cons (pv 0) (pa_cons (pv 1) (pa_cons (pv 2) (pa_cons (pv 3) pa_nil))))))))), fun ds d h => ?_⟩
  obtain ⟨n, Ar, o, t, held, rfl, ok, vo, vt, vh, rfl⟩ := h
  have h6 := ok.hi
  have a1 := vo.len
  have a2 := vt.len
  have a3 := vh.len
  exact ws_drop (ev_call (ea_cons (ev_var rfl) (ea_cons (ev_var rfl) ea_nil)) ⟨n, Ar, o, rfl, ok, vo, rfl⟩) (ws_drop (ev_call (ea_cons (ev_var rfl) (ea_cons (ev_var rfl) ea_nil)) ⟨n, Ar, t, rfl, vt, rfl⟩)
    (ws_drop (ev_call (ea_cons (ev_var rfl) (ea_cons (ev_var rfl) ea_nil)) ⟨n, Ar, held, rfl, vh, h6, rfl⟩) (ws_ret (ev_call (ea_cons (ev_var rfl) (ea_cons (ev_var rfl) (ea_cons (ev_var rfl) (ea_cons (ev_var rfl) ea_nil)))) ⟨n, Ar, o, t, held, rfl, ok.len, by omega, by omega, by omega, rfl⟩) rfl)))
/-! ### held_count -/
theorem sc_held_count : FnScope ["web", "opened", "held", "fresh", "old", "first", "k"] ["web", "opened", "held"] (defScope sheld_count) := ⟨rfl, rfl, rfl, by decide +kernel, rfl, by decide +kernel, by decide +kernel⟩
def R_held_count (ds : List PD) (d : PD) : Prop := ∃ (n : Nat) (E : Arr) (o held : IL), ds = [webD n E, tI o, tI held] ∧ WebOk n E ∧ Vd n o ∧ Vd n held ∧ d = .int (heldCount n E o held)
theorem sets_len {E : Arr} {l : IL} (h : l.length ≤ 6) : (setsIn E l).length ≤ 64 := by
  refine Nat.le_trans (List.length_filter_le _ _) ?_
  rw [stands_len]
  exact pow6 h
theorem ok_held_count (T : Tx mg) (c1 : Cal P w K mg base "need_both" ["web", "opened"] 4 (spR K R_need_both)) (c3 : Cal P w K mg base "need_held" ["web", "held"] 2 (spR K R_need_held)) (c4 : Cal P w K mg base "sides_in" ["web", "opened"] 4 (spR K R_sides_in))
    (c5 : Cal P w K mg base "sets_in" ["web", "some"] 2 (spR K R_sets_in)) (F : FnP K "held_count" sheld_count f fd) : FnOk P w K mg base CX0 5 f fd ["web", "opened", "held"] (spR K R_held_count) := by
  refine fn_ok F sc_held_count (fun ds d h => by obtain ⟨_, _, _, _, rfl, _⟩ := h; rfl) fun cdv A outer s H E hr => ⟨_,
    pss_cons (ps_expr (pc c1 hr (by decide) (by rfl) (pa_cons (pv 0) (pa_cons (pv 1) pa_nil)))) (pss_cons (ps_expr (pc c3 hr (by decide) (by rfl) (pa_cons (pv 0) (pa_cons (pv 2) pa_nil))))
      (pss_cons (ps_asg (pc c4 hr (by decide) (by rfl) (pa_cons (pv 0) (pa_cons (pv 1) pa_nil))) (pg_t K (n := 2) rfl (pgs_cons (pg_name (i := 3) sc_held_count.nd rfl (.inl rfl)) (pgs_cons (pg_name (i := 4) sc_held_count.nd rfl (.inl rfl)) pgs_nil))))
      (pss_cons (ps_set (i := 5) sc_held_count.nd rfl (.inl rfl) (pc c5 hr (by decide) (by rfl) (pa_cons (pv 0) (pa_cons (pe_lc (own := [("k", 6)]) (g := gName 6) rfl sc_held_count.nd (pi_l K (pv 3)) (blkOk_by (by kernel_rfl)) (fun _ _ _ _ _ => pg_name (i := 6) sc_held_count.nd rfl (Or.inl rfl)) (fun _ _ _ _ _ => pts_one (pt_cmpR (o_ni K) (pv 6) (pv 2) rfl)) (fun _ _ _ _ _ => pv 6)) pa_nil))))
      (pss_one (ps_ret (pe_op op_mul (pe_callB (c_len K) (by rfl) T.len PySem.boot_len (pa_cons (pv 5) pa_nil)) (pe_callB (c_len K) (by rfl) T.len PySem.boot_len (pa_cons
        (pc c5 hr (by decide) (by rfl) (pa_cons (pv 0) (pa_cons (pe_lc (own := [("k", 6)]) (g := gName 6) rfl sc_held_count.nd (pi_l K (pv 4)) (blkOk_by (by kernel_rfl)) (fun _ _ _ _ _ => pg_name (i := 6) sc_held_count.nd rfl (Or.inl rfl)) (fun _ _ _ _ _ => pts_one (pt_cmpR (o_ni K) (pv 6) (pv 2) rfl)) (fun _ _ _ _ _ => pv 6)) pa_nil))) pa_nil)))))))), fun ds d h => ?_⟩
  obtain ⟨n, Ar, o, held, rfl, ok, vo, vh, rfl⟩ := h
  have h6 := ok.hi
  have hE := ok.len
  have l1 := (vd_fresh n Ar o).len
  have l2 := (vd_old n Ar o).len
  have l3 := (vd_without (vd_fresh n Ar o) held).len
  have l4 := (vd_without (vd_old n Ar o) held).len
  refine ws_drop (ev_call (ea_cons (ev_var rfl) (ea_cons (ev_var rfl) ea_nil)) ⟨n, Ar, o, rfl, ok, vo, rfl⟩) (ws_drop (ev_call (ea_cons (ev_var rfl) (ea_cons (ev_var rfl) ea_nil)) ⟨n, Ar, held, rfl, vh, h6, rfl⟩)
    (ws_asgG (ev_call (ea_cons (ev_var rfl) (ea_cons (ev_var rfl) ea_nil)) ⟨n, Ar, o, rfl, hE, by omega, rfl⟩) eg_pair ?_))
  refine ws_set (ev_call (ea_cons (ev_var rfl) (ea_cons (ev_lc (emb := PyData.int) (l := freshS n Ar o) (fun k => !decide (k ∈ held)) PyData.int (ei_list (ev_var rfl)) (fun _ _ => eg_name) (by simp) (by omega) (fun _ _ => eb_test (ev_op rv_niT (ev_var rfl) (ev_var rfl))) (fun _ _ _ => ev_var rfl)) ea_nil)) ⟨n, Ar, without (freshS n Ar o) held, rfl, by omega, by omega, rfl⟩) ?_
  refine ws_ret (ev_op (rv_intC ?_) (ev_cb rc_lenL (ea_cons (ev_var rfl) ea_nil)) (ev_cb rc_lenL (ea_cons (ev_call (ea_cons (ev_var rfl) (ea_cons (ev_lc (emb := PyData.int) (l := oldS n Ar o) (fun k => !decide (k ∈ held)) PyData.int (ei_list (ev_var rfl)) (fun _ _ => eg_name) (by simp) (by omega) (fun _ _ => eb_test (ev_op rv_niT (ev_var rfl) (ev_var rfl))) (fun _ _ _ => ev_var rfl)) ea_nil)) ⟨n, Ar, without (oldS n Ar o) held, rfl, by omega, by omega, rfl⟩) ea_nil))) ?_
  · have := sets_len (E := Ar) (l := without (freshS n Ar o) held) (by omega)
    refine .inl ⟨?_, ?_⟩
    · rw [List.length_map]
      omega
    · rw [List.length_map]
      omega
  · unfold heldCount
    rw [List.length_map, List.length_map]
    push_cast
    rfl
end
end Ld
set_option maxHeartbeats 4000000
namespace Ld
open PySem PySem.Spec PyProof.Rows L2
open Evl (Ex ex_l ex_t sq_of st_of fresh_back)
section
variable {P : Program} {w : World} {K : PySem.W.Frag} {mg : Str → Option Value} {base : Heap} {f : Addr} {fd : FuncData}

/-! ### ring_breakers -/
theorem sc_ring_breakers : FnScope ["web", "opened", "fresh", "old", "found", "some", "keep", "k", "one"] ["web", "opened"] (defScope sring_breakers) := ⟨rfl, rfl, rfl, by decide +kernel, rfl, by decide +kernel, by decide +kernel⟩
structure Least (E : Arr) (some c : IL) : Prop where
  mem : c ∈ choices E some
  few : ∀ x ∈ choices E some, c.length ≤ x.length
  lex : ∀ x ∈ choices E some, x.length = c.length → lexLt x c = false
def R_ring_breakers (ds : List PD) (d : PD) : Prop := ∃ (n : Nat) (E : Arr) (o c1 c2 : IL), ds = [webD n E, tI o] ∧ WebOk n E ∧ Vd n o ∧ Least E (freshS n E o) c1 ∧ Least E (oldS n E o) c2 ∧ d = tI (isort (c1 ++ c2))
theorem ok_ring_breakers (T : Tx mg) (c1 : Cal P w K mg base "need_both" ["web", "opened"] 4 (spR K R_need_both)) (c4 : Cal P w K mg base "sides_in" ["web", "opened"] 4 (spR K R_sides_in))
    (c5 : Cal P w K mg base "sets_in" ["web", "some"] 2 (spR K R_sets_in)) (F : FnP K "ring_breakers" sring_breakers f fd) : FnOk P w K mg base CX0 5 f fd ["web", "opened"] (spR K R_ring_breakers) := by
  refine fn_ok F sc_ring_breakers (fun ds d h => by obtain ⟨_, _, _, _, _, rfl, _⟩ := h; rfl) fun cdv A outer s H E hr => ⟨_,
    pss_cons (ps_expr (pc c1 hr (by decide) (by rfl) (pa_cons (pv 0) (pa_cons (pv 1) pa_nil))))
      (pss_cons (ps_asg (pc c4 hr (by decide) (by rfl) (pa_cons (pv 0) (pa_cons (pv 1) pa_nil))) (pg_t K (n := 2) rfl (pgs_cons (pg_name (i := 2) sc_ring_breakers.nd rfl (.inl rfl)) (pgs_cons (pg_name (i := 3) sc_ring_breakers.nd rfl (.inl rfl)) pgs_nil))))
      (pss_cons (ps_set (i := 4) sc_ring_breakers.nd rfl (.inl rfl) (pe_lst pa_nil))
      (pss_cons (ps_for PassesOwn.never rfl (pi_l K (pe_lst (pa_cons (pv 2) (pa_cons (pv 3) pa_nil)))) (pg_name (i := 5) sc_ring_breakers.nd rfl (.inr rfl))
        (pss_cons (ps_set (i := 6) sc_ring_breakers.nd rfl (.inl rfl) (pe_ix (i_t K) (pe_callB (c_min K hr rfl) (by rfl) T.min (by decide +kernel) (pa_cons
            (pe_lc (own := [("one", 8)]) (g := gName 8) rfl sc_ring_breakers.nd (pi_l K (pc c5 hr (by decide) (by rfl) (pa_cons (pv 0) (pa_cons (pv 5) pa_nil)))) (blkOk_by (by kernel_rfl)) (fun _ _ _ _ _ => pg_name (i := 8) sc_ring_breakers.nd rfl (Or.inr rfl)) (fun _ _ _ _ _ => pts_nil)
              (fun _ _ _ _ _ => pe_tup (pa_cons (pe_un un_neg (pe_callB (c_len K) (by rfl) T.len PySem.boot_len (pa_cons (pv 8) pa_nil))) (pa_cons
                (pe_lc (own := [("k", 7)]) (g := gName 7) rfl sc_ring_breakers.nd (pi_l K (pv 5)) (blkOk_by (by kernel_rfl)) (fun _ _ _ _ _ => pg_name (i := 7) sc_ring_breakers.nd rfl (Or.inl rfl)) (fun _ _ _ _ _ => pts_one (pt_cmpR (o_ni K) (pv 7) (pv 8) rfl)) (fun _ _ _ _ _ => pv 7)) pa_nil)))) pa_nil)) pe_int (fun _ _ => rfl)))
          (pss_one (ps_set (i := 4) sc_ring_breakers.nd rfl (.inl rfl) (pe_op (o_cat K) (pv 4) (pv 6))))))
      (pss_one (ps_ret (pe_callTy (c_tup K) (by rfl) T.tuple (by decide +kernel) (pa_cons (pe_callB (c_srt K) (by rfl) T.sorted (by decide +kernel) (pa_cons (pv 4) pa_nil)) pa_nil))))))), fun ds d h => ?_⟩
  obtain ⟨n, Ar, o, b1, b2, rfl, ok, vo, L1, L2, rfl⟩ := h
  have h6 := ok.hi
  have hE := ok.len
  have l1 := (vd_fresh n Ar o).len
  have l2 := (vd_old n Ar o).len
  refine ws_drop (ev_call (ea_cons (ev_var rfl) (ea_cons (ev_var rfl) ea_nil)) ⟨n, Ar, o, rfl, ok, vo, rfl⟩) 
    (ws_asgG (ev_call (ea_cons (ev_var rfl) (ea_cons (ev_var rfl) ea_nil)) ⟨n, Ar, o, rfl, hE, by omega, rfl⟩) eg_pair ?_)
  have le1 : ∀ {S c : IL}, Least Ar S c → c.length ≤ S.length := fun L => (mem_choices.mp L.mem).1.length_le
  have q1 := le1 L1
  have q2 := le1 L2
  refine ws_set (ev_lst ea_nil (by decide)) (ws_seq (M := fun δ => ∃ a b c e, δ = [some (webD n Ar), some (tI o), some (lI (freshS n Ar o)), some (lI (oldS n Ar o)), some (lI (b1 ++ b2)), a, b, c, e])
    (ws_forM (emb := fun p : IL × IL => lI p.1) (l := [(freshS n Ar o, b1), (oldS n Ar o, b2)]) (js := [5]) (δ' := fun δ1 p => δ1.set 5 (some (lI p.1))) (fun i δ => ∃ a b c e, δ = [some (webD n Ar), some (tI o), some (lI (freshS n Ar o)), some (lI (oldS n Ar o)), some (lI (([(freshS n Ar o, b1), (oldS n Ar o, b2)].take i).flatMap (·.2))), a, b, c, e])
      (ei_list (ev_lst (ea_cons (ev_var rfl) (ea_cons (ev_var rfl) ea_nil)) (by simp))) ⟨_, _, _, _, rfl⟩ (fun δ1 p _ => eg_name) (fun i p δ1 hp hv => ?_) (fun δ1 hv => ?_)) fun δ hv => ?_)
  · obtain ⟨a, b, c, e, rfl⟩ := hv
    have hpm : p ∈ [(freshS n Ar o, b1), (oldS n Ar o, b2)] := List.mem_of_getElem? hp
    have hp3 : Least Ar p.1 p.2 ∧ Asc p.1 ∧ p.1.length ≤ 6 ∧ p.2.length ≤ 6 := by
      rcases List.mem_cons.mp hpm with rfl | hpm
      · exact ⟨L1, (vd_fresh n Ar o).asc, by show (freshS n Ar o).length ≤ 6; omega, by show b1.length ≤ 6; omega⟩
      · have := List.mem_singleton.mp hpm
        subst this
        exact ⟨L2, (vd_old n Ar o).asc, by show (oldS n Ar o).length ≤ 6; omega, by show b2.length ≤ 6; omega⟩
    obtain ⟨L, hasc, hp6, hb6⟩ := hp3
    have hsl := sets_len (E := Ar) hp6
    -- the sets are not empty
    have hmem : ([] : IL) ∈ setsIn Ar p.1 := mem_sets.mpr ⟨List.nil_sublist _, by rw [ringless]; simp⟩
    obtain ⟨x0, xs0, hx⟩ : ∃ x0 xs0, setsIn Ar p.1 = x0 :: xs0 := by
      cases hq : setsIn Ar p.1 with
      | nil =>
        rw [hq] at hmem
        cases hmem
      | cons x xs => exact ⟨x, xs, rfl⟩
    let key : IL → Int × IL := fun one => (-(one.length : Int), without p.1 one)
    have hmin : minF pLt (key x0) (xs0.map key) = (-(((minF pLt (key x0) (xs0.map key))).1 * -1), p.2) ∧ True := by
      obtain ⟨m1, m2⟩ := minF_spec swo_pLt (xs0.map key) (key x0)
      rw [← List.map_cons, ← hx] at m1 m2
      obtain ⟨one, h1, h2⟩ := List.mem_map.mp m1
      refine ⟨?_, trivial⟩
      have := M3 (E := Ar) (some := p.1) (one := one) (c := p.2) (few := p.2.length) hasc h1 (fun x hx => ?_) L.mem rfl L.few L.lex
      · rw [← h2]
        show (-(one.length : Int), without p.1 one) = (-(-(one.length : Int) * -1), p.2)
        rw [this]
        congr 1
        omega
      · have := m2 _ (List.mem_map.mpr ⟨x, hx, rfl⟩)
        rw [← h2] at this
        exact this
    refine ws_set (d := lI p.2) (ev_op (rv_ixT (j := 1) (ds := [.int (minF pLt (key x0) (xs0.map key)).1, lI p.2]) rfl rfl) (ev_is (ev_cb (rc_min (emb := kpD) (lt := pLt) (a := key x0) (l := xs0.map key) lt_kpD alike_kpD (fun _ => by unfold kpD; simp) (fun q => ?_))
      (ea_cons (ev_is (ev_lc (emb := tI) (l := setsIn Ar p.1) (fun _ => true) (fun one => kpD (key one)) (ei_list (ev_call (ea_cons (ev_var rfl) (ea_cons (ev_var rfl) ea_nil)) ⟨n, Ar, p.1, rfl, by omega, by omega, rfl⟩)) (fun _ _ => eg_name) (by simp) (by omega) (fun _ _ => eb_yes)
        (fun one h1 _ => ev_tup (ea_cons (ev_is (ev_neg (ev_cb rc_lenT (ea_cons (ev_var rfl) ea_nil))) ?_) (ea_cons (ev_lc (emb := PyData.int) (l := p.1) (fun k => !decide (k ∈ one)) PyData.int (ei_list (ev_var rfl)) (fun _ _ => eg_name) (by simp) (by omega) (fun _ _ => eb_test (ev_op rv_niT (ev_var rfl) (ev_var rfl))) (fun _ _ _ => ev_var rfl)) ea_nil)) (by simp))) ?_) ea_nil)) ?_) ev_int) ?_
    · unfold kpD lI
      simp only [PyData.depth, PyData.depthAll]
      have := depthAll_map dep_int q.2
      omega
    · rw [List.length_map]
    · rw [filter_true, hx, ← List.map_cons (f := key), List.map_map] <;> rfl
    · rw [hmin.1]
      unfold kpD
      simp
    · refine ws_asg (d := lI ((([(freshS n Ar o, b1), (oldS n Ar o, b2)].take (i + 1)).flatMap (·.2)))) (ev_is (ev_op (rv_catL ?_) (ev_var rfl) (ev_var rfl)) ?_) ⟨_, _, _, _, rfl⟩
      · have hi2 : ((([(freshS n Ar o, b1), (oldS n Ar o, b2)].take i).flatMap (·.2))).length ≤ 12 := by
          match i with
          | 0 => simp
          | 1 =>
            simp
            omega
          | k + 2 =>
            simp
            omega
        rw [List.length_map, List.length_map]
        omega
      · rw [take_next hp, List.flatMap_append]
        unfold lI
        simp
  · obtain ⟨a, b, c, e, rfl⟩ := hv
    exact ⟨a, b, c, e, by simp⟩
  · obtain ⟨a, b, c, e, rfl⟩ := hv
    exact ws_ret (ev_cb rc_tupL (ea_cons (ev_cb rc_sortedI (ea_cons (ev_var rfl) ea_nil)) ea_nil)) rfl
end
end Ld
set_option maxHeartbeats 4000000
namespace Ld
open PySem PySem.Spec PyProof.Rows L2
open Evl (Ex ex_l ex_t sq_of st_of fresh_back)
section
variable {P : Program} {w : World} {K : PySem.W.Frag} {mg : Str → Option Value} {base : Heap} {f : Addr} {fd : FuncData}

/-! ### _law_changed -/
theorem sc_law_changed : FnScope ["_law_opened", "_law_door", "_law_k"] ["_law_opened", "_law_door"] (defScope s_law_changed) := ⟨rfl, rfl, rfl, by decide +kernel, rfl, by decide +kernel, by decide +kernel⟩
def R_law_changed (ds : List PD) (d : PD) : Prop := ∃ (s : IL) (k : Int), ds = [tI s, .int k] ∧ s.length ≤ 1000 ∧ d = tI (lawChanged s k)
theorem ok_law_changed (T : Tx mg) (F : FnP K "_law_changed" s_law_changed f fd) : FnOk P w K mg base CX0 1 f fd ["_law_opened", "_law_door"] (spR K R_law_changed) := by
  refine fn_ok F sc_law_changed (fun ds d h => by obtain ⟨_, _, rfl, _⟩ := h; rfl) fun cdv A outer s H E hr => ⟨_,
    pss_cons (ps_if (pt_cmpR (o_in K) (pv 1) (pv 0) rfl) (pss_one (ps_ret (pe_callTy (c_tup K) (by rfl) T.tuple (by decide +kernel) (pa_cons
      (pe_lc (own := [("_law_k", 2)]) (g := gName 2) rfl sc_law_changed.nd (pi_t K (pv 0)) (blkOk_by (by kernel_rfl)) (fun _ _ _ _ _ => pg_name (i := 2) sc_law_changed.nd rfl (Or.inl rfl)) (fun _ _ _ _ _ => pts_one (pt_cmpR op_ne (pv 2) (pv 1) (nomark _))) (fun _ _ _ _ _ => pv 2)) pa_nil)))) pss_nil)
    (pss_one (ps_ret (pe_callTy (c_tup K) (by rfl) T.tuple (by decide +kernel) (pa_cons (pe_callB (c_srt K) (by rfl) T.sorted (by decide +kernel) (pa_cons (pe_op (o_cat K) (pe_callTy (c_list K) (by rfl) T.list (by decide +kernel) (pa_cons (pv 0) pa_nil)) (pe_lst (pa_cons (pv 1) pa_nil))) pa_nil)) pa_nil)))), fun ds d h => ?_⟩
  obtain ⟨o, k, rfl, hl, rfl⟩ := h
  refine ws_seq (M := fun δ => δ = [some (tI o), some (.int k), none] ∧ k ∉ o) (ws_if (eb_test (ev_op rv_isT (ev_var rfl) (ev_var rfl))) (fun hb => ?_) fun hb => ws_nx ⟨rfl, of_decide_eq_false hb⟩) fun δ hv => ?_
  · have hk := of_decide_eq_true hb
    refine ws_ret (ev_cb rc_tupL (ea_cons (ev_lc (emb := PyData.int) (l := o) (fun x => !decide (x = k)) PyData.int (ei_tup (ev_var rfl)) (fun _ _ => eg_name) (by simp) (by omega) (fun _ _ => eb_test (ev_op rv_neI (ev_var rfl) (ev_var rfl))) (fun _ _ _ => ev_var rfl)) ea_nil)) ?_
    unfold lawChanged
    rw [if_pos hk]
    rfl
  · obtain ⟨rfl, hk⟩ := hv
    refine ws_ret (ev_cb rc_tupL (ea_cons (ev_cb (rc_sortedI (l := o ++ [k])) (ea_cons (ev_is (ev_op (rv_catL ?_) (ev_cb rc_listT (ea_cons (ev_var rfl) ea_nil)) (ev_lst (ea_cons (ev_var rfl) ea_nil) (by simp))) ?_) ea_nil)) ea_nil)) ?_
    · simp only [List.length_map, List.length_cons, List.length_nil]
      omega
    · rw [List.map_append] <;> rfl
    · unfold lawChanged
      rw [if_neg hk]
      rfl
/-! ### _law_open -/
theorem sc_law_open : FnScope ["_law_web_here", "_law_opened", "_law_k", "_law_one"] ["_law_web_here", "_law_opened"] (defScope s_law_open) := ⟨rfl, rfl, rfl, by decide +kernel, rfl, by decide +kernel, by decide +kernel⟩
def R_law_open (ds : List PD) (d : PD) : Prop := ∃ (n : Nat) (E : Arr) (s : IL), ds = [webD n E, tI s] ∧ n ≤ 1000 ∧ s.length ≤ 1000 ∧ d = lI (lawOpen n E s)
theorem ok_law_open (T : Tx mg) (F : FnP K "_law_open" s_law_open f fd) : FnOk P w K mg base CX0 1 f fd ["_law_web_here", "_law_opened"] (spR K R_law_open) := by
  refine fn_ok F sc_law_open (fun ds d h => by obtain ⟨_, _, _, rfl, _⟩ := h; rfl) fun cdv A outer s H E hr => ⟨_,
    pss_one (ps_ret (pe_lc (own := [("_law_k", 2)]) (g := gName 2) rfl sc_law_open.nd (pi_range1 (by rfl) T.range (pa_cons (pe_ix (i_t K) (pv 0) pe_int (fun _ _ => rfl)) pa_nil)) (blkOk_by (by kernel_rfl)) (fun _ _ _ _ _ => pg_name (i := 2) sc_law_open.nd rfl (Or.inr rfl))
      (fun _ _ _ _ _ => pts_one (PW.pt (pw_and (pt_cmpR (o_ni K) (pv 2) (pv 1) rfl) (pw_and1 (pt_cmpR (o_eqD K hr) (pe_lc (own := [("_law_one", 3)]) (g := gName 3) rfl sc_law_open.nd (pi_t K (pv 1)) (blkOk_by (by kernel_rfl)) (fun _ _ _ _ _ => pg_name (i := 3) sc_law_open.nd rfl (Or.inl rfl))
        (fun _ _ _ _ _ => pts_one (pt_cmpR (o_inTD K hr) (pe_tup (pa_cons (pv 3) (pa_cons (pv 2) pa_nil))) (pe_ix (i_t K) (pv 0) pe_int (fun _ _ => rfl)) rfl)) (fun _ _ _ _ _ => pv 3)) (pe_lst pa_nil) (nomark _)))))) (fun _ _ _ _ _ => pv 2))), fun ds d h => ?_⟩
  obtain ⟨n, Ar, o, rfl, hn, hl, rfl⟩ := h
  exact ws_ret (ev_lc (emb := PyData.int) (l := rng n) (fun k => !decide (k ∈ o) && decide ((o.filter fun i => decide ((i, k) ∈ Ar)) = [])) PyData.int (ei_rng (ea_cons (ev_op (rv_ixT (j := 0) rfl rfl) (ev_var rfl) ev_int) ea_nil) (by omega)) (fun _ _ => eg_name) (by simp) (by rw [rng_len]; omega)
    (fun k _ => eb_and (eb_test (ev_op rv_niT (ev_var rfl) (ev_var rfl))) fun _ => eb_test (ev_op (rv_eqNil (f := PyData.int) (shp_lI _)) (ev_lc (emb := PyData.int) (l := o) (fun i => decide ((i, k) ∈ Ar)) PyData.int (ei_tup (ev_var rfl)) (fun _ _ => eg_name) (by simp) (by omega)
      (fun i _ => eb_test (ev_op (rv_inP (p := (i, k))) (ev_tup (ea_cons (ev_var rfl) (ea_cons (ev_var rfl) ea_nil)) (by simp)) (ev_op (rv_ixT (j := 1) rfl rfl) (ev_var rfl) ev_int))) (fun _ _ _ => ev_var rfl)) (ev_lst ea_nil (by decide)))) (fun _ _ _ => ev_var rfl)) rfl
/-! ### _law_shut -/
theorem sc_law_shut : FnScope ["_law_web_here", "_law_opened", "_law_k", "_law_j"] ["_law_web_here", "_law_opened"] (defScope s_law_shut) := ⟨rfl, rfl, rfl, by decide +kernel, rfl, by decide +kernel, by decide +kernel⟩
def R_law_shut (ds : List PD) (d : PD) : Prop := ∃ (n : Nat) (E : Arr) (s : IL), ds = [webD n E, tI s] ∧ n ≤ 1000 ∧ s.length ≤ 1000 ∧ d = lI (lawShut n E s)
theorem ok_law_shut (T : Tx mg) (F : FnP K "_law_shut" s_law_shut f fd) : FnOk P w K mg base CX0 1 f fd ["_law_web_here", "_law_opened"] (spR K R_law_shut) := by
  refine fn_ok F sc_law_shut (fun ds d h => by obtain ⟨_, _, _, rfl, _⟩ := h; rfl) fun cdv A outer s H E hr => ⟨_,
    pss_one (ps_ret (pe_lc (own := [("_law_k", 2)]) (g := gName 2) rfl sc_law_shut.nd (pi_t K (pv 1)) (blkOk_by (by kernel_rfl)) (fun _ _ _ _ _ => pg_name (i := 2) sc_law_shut.nd rfl (Or.inr rfl))
      (fun _ _ _ _ _ => pts_one (pt_cmpR (o_eqD K hr) (pe_lc (own := [("_law_j", 3)]) (g := gName 3) rfl sc_law_shut.nd (pi_range1 (by rfl) T.range (pa_cons (pe_ix (i_t K) (pv 0) pe_int (fun _ _ => rfl)) pa_nil)) (blkOk_by (by kernel_rfl)) (fun _ _ _ _ _ => pg_name (i := 3) sc_law_shut.nd rfl (Or.inl rfl))
        (fun _ _ _ _ _ => pts_one (PW.pt (pw_and (pt_cmpR (o_ni K) (pv 3) (pv 1) rfl) (pw_and1 (pt_cmpR (o_inTD K hr) (pe_tup (pa_cons (pv 2) (pa_cons (pv 3) pa_nil))) (pe_ix (i_t K) (pv 0) pe_int (fun _ _ => rfl)) rfl))))) (fun _ _ _ _ _ => pv 3)) (pe_lst pa_nil) (nomark _))) (fun _ _ _ _ _ => pv 2))), fun ds d h => ?_⟩
  obtain ⟨n, Ar, o, rfl, hn, hl, rfl⟩ := h
  exact ws_ret (ev_lc (emb := PyData.int) (l := o) (fun k => decide (((rng n).filter fun j => !decide (j ∈ o) && decide ((k, j) ∈ Ar)) = [])) PyData.int (ei_tup (ev_var rfl)) (fun _ _ => eg_name) (by simp) (by omega)
    (fun k _ => eb_test (ev_op (rv_eqNil (f := PyData.int) (shp_lI _)) (ev_lc (emb := PyData.int) (l := rng n) (fun j => !decide (j ∈ o) && decide ((k, j) ∈ Ar)) PyData.int (ei_rng (ea_cons (ev_op (rv_ixT (j := 0) rfl rfl) (ev_var rfl) ev_int) ea_nil) (by omega)) (fun _ _ => eg_name) (by simp) (by rw [rng_len]; omega)
      (fun j _ => eb_and (eb_test (ev_op rv_niT (ev_var rfl) (ev_var rfl))) fun _ => eb_test (ev_op (rv_inP (p := (k, j))) (ev_tup (ea_cons (ev_var rfl) (ea_cons (ev_var rfl) ea_nil)) (by simp)) (ev_op (rv_ixT (j := 1) rfl rfl) (ev_var rfl) ev_int))) (fun _ _ _ => ev_var rfl)) (ev_lst ea_nil (by decide)))) (fun _ _ _ => ev_var rfl)) rfl
/-! ### _law_after -/
theorem sc_law_after : FnScope ["_law_web_here", "_law_opened", "_law_k"] ["_law_web_here", "_law_opened"] (defScope s_law_after) := ⟨rfl, rfl, rfl, by decide +kernel, rfl, by decide +kernel, by decide +kernel⟩
def afD (s : IL) (k : Int) : PD := .tuple [.int k, tI (lawChanged s k)]
def R_law_after (ds : List PD) (d : PD) : Prop := ∃ (n : Nat) (E : Arr) (s : IL), ds = [webD n E, tI s] ∧ n ≤ 1000 ∧ Vd n s ∧ d = .list ((lawDo n E s).map (afD s))
theorem ok_law_after (T : Tx mg) (c1 : Cal P w K mg base "_law_changed" ["_law_opened", "_law_door"] 1 (spR K R_law_changed)) (c2 : Cal P w K mg base "_law_open" ["_law_web_here", "_law_opened"] 1 (spR K R_law_open)) (c3 : Cal P w K mg base "_law_shut" ["_law_web_here", "_law_opened"] 1 (spR K R_law_shut))
    (F : FnP K "_law_after" s_law_after f fd) : FnOk P w K mg base CX0 2 f fd ["_law_web_here", "_law_opened"] (spR K R_law_after) := by
  refine fn_ok F sc_law_after (fun ds d h => by obtain ⟨_, _, _, rfl, _⟩ := h; rfl) fun cdv A outer s H E hr => ⟨_,
    pss_one (ps_ret (pe_lc (own := [("_law_k", 2)]) (g := gName 2) rfl sc_law_after.nd (pi_l K (pe_callB (c_srt K) (by rfl) T.sorted (by decide +kernel) (pa_cons (pe_op (o_cat K) (pc c2 hr (by decide) (by rfl) (pa_cons (pv 0) (pa_cons (pv 1) pa_nil))) (pc c3 hr (by decide) (by rfl) (pa_cons (pv 0) (pa_cons (pv 1) pa_nil)))) pa_nil))) (blkOk_by (by kernel_rfl)) (fun _ _ _ _ _ => pg_name (i := 2) sc_law_after.nd rfl (Or.inl rfl))
      (fun _ _ _ _ _ => pts_nil) (fun _ _ _ _ _ => pe_tup (pa_cons (pv 2) (pa_cons (pc c1 hr (by decide) (by rfl) (pa_cons (pv 1) (pa_cons (pv 2) pa_nil))) pa_nil))))), fun ds d h => ?_⟩
  obtain ⟨n, Ar, o, rfl, hn, vo, rfl⟩ := h
  have hl := vo.len
  have l1 : (lawOpen n Ar o).length ≤ 1000 := Nat.le_trans (List.length_filter_le _ _) (by rw [rng_len]; omega)
  have l2 : (lawShut n Ar o).length ≤ 1000 := Nat.le_trans (List.length_filter_le _ _) (by omega)
  have l3 := lawDo_len n Ar o vo
  refine ws_ret (ev_is (ev_lc (emb := PyData.int) (l := lawDo n Ar o) (fun _ => true) (afD o) (ei_list (ev_cb (rc_sortedI (l := lawOpen n Ar o ++ lawShut n Ar o)) (ea_cons (ev_is (ev_op (rv_catL ?_) (ev_call (ea_cons (ev_var rfl) (ea_cons (ev_var rfl) ea_nil)) ⟨n, Ar, o, rfl, by omega, by omega, rfl⟩) (ev_call (ea_cons (ev_var rfl) (ea_cons (ev_var rfl) ea_nil)) ⟨n, Ar, o, rfl, by omega, by omega, rfl⟩)) ?_) ea_nil))) (fun _ _ => eg_name) (by simp) (by omega) (fun _ _ => eb_yes)
    (fun k _ _ => ev_tup (ea_cons (ev_var rfl) (ea_cons (ev_call (ea_cons (ev_var rfl) (ea_cons (ev_var rfl) ea_nil)) ⟨o, k, rfl, by omega, rfl⟩) ea_nil)) (by simp))) ?_) rfl
  · simp only [List.length_map]
    omega
  · rw [List.map_append]
  · rw [filter_true]
/-! ### _law_frozen -/
theorem sc_law_frozen : FnScope ["_law_web_here", "_law_opened", "_law_some", "_law_arrow", "_law_k"] ["_law_web_here", "_law_opened"] (defScope s_law_frozen) := ⟨rfl, rfl, rfl, by decide +kernel, rfl, by decide +kernel, by decide +kernel⟩
def R_law_frozen (ds : List PD) (d : PD) : Prop := ∃ (n : Nat) (E : Arr) (s : IL), ds = [webD n E, tI s] ∧ n ≤ 1000 ∧ E.length ≤ 30 ∧ d = lI (lawCold n E s)
theorem ok_law_frozen (T : Tx mg) (F : FnP K "_law_frozen" s_law_frozen f fd) : FnOk P w K mg base CX0 1 f fd ["_law_web_here", "_law_opened"] (spR K R_law_frozen) := by
  refine fn_ok F sc_law_frozen (fun ds d h => by obtain ⟨_, _, _, rfl, _⟩ := h; rfl) fun cdv A outer s H E hr => ⟨_,
    pss_cons (ps_set (i := 2) sc_law_frozen.nd rfl (.inr rfl) (pe_lc (own := [("_law_arrow", 3)]) (g := gName 3) rfl sc_law_frozen.nd (pi_t K (pe_ix (i_t K) (pv 0) pe_int (fun _ _ => rfl))) (blkOk_by (by kernel_rfl)) (fun _ _ _ _ _ => pg_name (i := 3) sc_law_frozen.nd rfl (Or.inl rfl))
        (fun _ _ _ _ _ => pts_one (PW.pt (pw_and (pt_cmpR (o_in K) (pe_ix (i_t K) (pv 3) pe_int (fun _ _ => rfl)) (pv 1) rfl) (pw_and1 (pt_cmpR (o_ni K) (pe_ix (i_t K) (pv 3) pe_int (fun _ _ => rfl)) (pv 1) rfl))))) (fun _ _ _ _ _ => pv 3)))
    (pss_one (ps_ret (pe_lc (own := [("_law_k", 4)]) (g := gName 4) rfl sc_law_frozen.nd (pi_range1 (by rfl) T.range (pa_cons (pe_ix (i_t K) (pv 0) pe_int (fun _ _ => rfl)) pa_nil)) (blkOk_by (by kernel_rfl)) (fun _ _ _ _ _ => pg_name (i := 4) sc_law_frozen.nd rfl (Or.inr rfl))
      (fun _ _ _ _ _ => pts_one (pt_cmpR (o_neD K hr) (pe_lc (own := [("_law_arrow", 3)]) (g := gName 3) rfl sc_law_frozen.nd (pi_l K (pv 2)) (blkOk_by (by kernel_rfl)) (fun _ _ _ _ _ => pg_name (i := 3) sc_law_frozen.nd rfl (Or.inl rfl))
        (fun _ _ _ _ _ => pts_one (pt_cmpR (o_in K) (pv 4) (pv 3) rfl)) (fun _ _ _ _ _ => pv 3)) (pe_lst pa_nil) (nomark _))) (fun _ _ _ _ _ => pv 4)))), fun ds d h => ?_⟩
  obtain ⟨n, Ar, o, rfl, hn, hE, rfl⟩ := h
  have pl : (pairsIn Ar o).length ≤ 30 := Nat.le_trans (List.length_filter_le _ _) hE
  refine ws_set (d := .list ((pairsIn Ar o).map prD)) (ev_lc (fun p => decide (p.1 ∈ o) && !decide (p.2 ∈ o)) prD (ei_tup (ev_op (rv_ixT (j := 1) rfl rfl) (ev_var rfl) ev_int)) (fun _ _ => eg_name) (by simp) (by omega)
    (fun p _ => eb_and (eb_test (ev_op rv_isT (ev_op (rv_ixT (ds := [.int p.1, .int p.2]) (j := 0) rfl rfl) (ev_var rfl) ev_int) (ev_var rfl))) fun _ => eb_test (ev_op rv_niT (ev_op (rv_ixT (ds := [.int p.1, .int p.2]) (j := 1) rfl rfl) (ev_var rfl) ev_int) (ev_var rfl))) (fun _ _ _ => ev_var rfl)) ?_
  exact ws_ret (ev_lc (emb := PyData.int) (l := rng n) (fun k => !decide (((pairsIn Ar o).filter fun p => decide (k ∈ [p.1, p.2])) = [])) PyData.int (ei_rng (ea_cons (ev_op (rv_ixT (j := 0) rfl rfl) (ev_var rfl) ev_int) ea_nil) (by omega)) (fun _ _ => eg_name) (by simp) (by rw [rng_len]; omega)
    (fun k _ => eb_test (ev_op (rv_neNil (f := prD) (shp_lP _)) (ev_lc (emb := prD) (l := pairsIn Ar o) (fun p => decide (k ∈ [p.1, p.2])) prD (ei_list (ev_var rfl)) (fun _ _ => eg_name) (by simp) (by omega) (fun p _ => eb_test (ev_op (rv_isT (l := [p.1, p.2])) (ev_var rfl) (ev_var rfl))) (fun _ _ _ => ev_var rfl)) (ev_lst ea_nil (by decide)))) (fun _ _ _ => ev_var rfl)) rfl
end
end Ld
set_option maxHeartbeats 4000000
namespace Ld
open PySem PySem.Spec PyProof.Rows L2
open Evl (Ex ex_l ex_t sq_of st_of fresh_back)
section
variable {P : Program} {w : World} {K : PySem.W.Frag} {mg : Str → Option Value} {base : Heap} {f : Addr} {fd : FuncData}

/-! ### _law_sets -/
theorem sc_law_sets : FnScope ["_law_some", "_law_found", "_law_k", "_law_one"] ["_law_some"] (defScope s_law_sets) := ⟨rfl, rfl, rfl, by decide +kernel, rfl, by decide +kernel, by decide +kernel⟩
theorem ok_law_sets (T : Tx mg) (F : FnP K "_law_sets" s_law_sets f fd) : FnOk P w K mg base CX0 1 f fd ["_law_some"] (spR K R_standings) := by
  refine fn_ok F sc_law_sets (fun ds d h => by obtain ⟨_, rfl, _⟩ := h; rfl) fun cdv A outer s H E hr => ⟨_,
    pss_cons (ps_set (i := 1) sc_law_sets.nd rfl (.inl rfl) (pe_lst (pa_cons (pe_tup pa_nil) pa_nil)))
    (pss_cons (ps_for PassesOwn.never rfl (pi_l K (pv 0)) (pg_name (i := 2) sc_law_sets.nd rfl (.inr rfl))
      (pss_one (ps_set (i := 1) sc_law_sets.nd rfl (.inl rfl) (pe_op (o_cat K) (pv 1) (pe_lc (own := [("_law_one", 3)]) (g := gName 3) rfl sc_law_sets.nd (pi_l K (pv 1)) (blkOk_by (by kernel_rfl)) (fun _ _ _ _ _ => pg_name (i := 3) sc_law_sets.nd rfl (Or.inl rfl))
        (fun _ _ _ _ _ => pts_nil) (fun _ _ _ _ _ => pe_op (o_catA K) (pv 3) (pe_tup (pa_cons (pv 2) pa_nil))))))))
    (pss_one (ps_ret (pe_callB (c_sortV K hr) (by rfl) T.sorted (by decide +kernel) (pa_cons (pv 1) pa_nil))))), fun ds d h => ?_⟩
  obtain ⟨l, rfl, hl, rfl⟩ := h
  have sl : ∀ i, (subs (l.take i)).length ≤ 1024 := fun i => by
    rw [subs_len]
    have : (l.take i).length ≤ 10 := by
      rw [List.length_take]
      omega
    exact Nat.le_trans (Nat.pow_le_pow_right (by decide) this) (by decide)
  refine ws_set (ev_lst (ea_cons (ev_tup ea_nil (by decide)) ea_nil) (by decide)) (ws_seq (M := fun δ => ∃ a b, δ = [some (lI l), some (lT (subs l)), a, b])
    (ws_forM (emb := PyData.int) (l := l) (js := [2]) (δ' := fun δ1 p => δ1.set 2 (some (.int p))) (fun i δ => ∃ a b, δ = [some (lI l), some (lT (subs (l.take i))), a, b])
      (ei_list (ev_var rfl)) ⟨_, _, rfl⟩ (fun δ1 p _ => eg_name) (fun i p δ1 hp hv => ?_) (fun δ1 hv => ?_)) fun δ hv => ?_)
  · obtain ⟨a, b, rfl⟩ := hv
    refine ws_asg (d := lT (subs (l.take (i + 1)))) (ev_is (ev_op (rv_catL ?_) (ev_var rfl) (ev_lc (emb := tI) (l := subs (l.take i)) (fun _ => true) (fun one => tI (one ++ [p])) (ei_list (ev_var rfl)) (fun _ _ => eg_name) (by simp) (Nat.le_trans (sl i) (by decide)) (fun _ _ => eb_yes)
      (fun one h1 _ => ev_is (ev_op (rv_catT (ds := one.map PyData.int) (es := [.int p]) ?_) (ev_var rfl) (ev_tup (ea_cons (ev_var rfl) ea_nil) (by simp))) ?_))) ?_) ⟨_, _, rfl⟩
    · have := sl i
      rw [filter_true]
      simp only [List.length_map]
      omega
    · have := ((mem_subs _ _).mp h1).length_le
      rw [List.length_take] at this
      simp only [List.length_map, List.length_cons, List.length_nil]
      omega
    · unfold tI
      rw [List.map_append] <;> rfl
    · rw [take_next hp, subs_step, filter_true]
      unfold lT
      rw [List.map_append, List.map_map] <;> rfl
  · rw [List.take_length] at hv
    exact hv
  · obtain ⟨a, b, rfl⟩ := hv
    exact ws_ret (ev_cb rc_sortV (ea_cons (ev_var rfl) ea_nil)) rfl
/-! ### _law_ring -/
theorem sc_law_ring : FnScope ["_law_web_here", "_law_some", "_law_left", "_law_turn", "_law_k", "_law_j"] ["_law_web_here", "_law_some"] (defScope s_law_ring) := ⟨rfl, rfl, rfl, by decide +kernel, rfl, by decide +kernel, by decide +kernel⟩
def R_law_ring (ds : List PD) (d : PD) : Prop := ∃ (n : Nat) (E : Arr) (l : IL), ds = [webD n E, lI l] ∧ l.length ≤ 1000 ∧ d = .bool (lawRing E l)
theorem peel_law (E : Arr) (left : IL) : left.filter (fun k => !decide ((left.filter fun j => decide ((k, j) ∈ E)) = [])) = peel E left := by
  unfold peel
  refine List.filter_congr fun k hk => ?_
  congr 1
  refine decide_eq_decide.mpr ?_
  refine Decidable.not_iff_not.mp ?_
  rw [show ¬ outs E left k = [] ↔ outs E left k ≠ [] from Iff.rfl, outs_ne]
  constructor
  · intro h
    obtain ⟨z, hz⟩ := List.exists_mem_of_ne_nil _ h
    obtain ⟨h1, h2⟩ := List.mem_filter.mp hz
    exact ⟨z, h1, of_decide_eq_true h2⟩
  · rintro ⟨z, h1, h2⟩ c
    have : z ∈ left.filter fun j => decide ((k, j) ∈ E) := List.mem_filter.mpr ⟨h1, decide_eq_true h2⟩
    rw [c] at this
    cases this
theorem turns_len (E : Arr) : ∀ (m : Nat) (l : IL), (turns E m l).length ≤ l.length
  | 0, _ => Nat.le_refl _
  | m + 1, l => by
    rw [turns_back]
    exact Nat.le_trans (peel_le _ _) (turns_len E m l)
theorem ok_law_ring (T : Tx mg) (F : FnP K "_law_ring" s_law_ring f fd) : FnOk P w K mg base CX0 1 f fd ["_law_web_here", "_law_some"] (spR K R_law_ring) := by
  refine fn_ok F sc_law_ring (fun ds d h => by obtain ⟨_, _, _, rfl, _⟩ := h; rfl) fun cdv A outer s H E hr => ⟨_,
    pss_cons (ps_set (i := 2) sc_law_ring.nd rfl (.inr rfl) (pe_callTy (c_list K) (by rfl) T.list (by decide +kernel) (pa_cons (pv 1) pa_nil)))
    (pss_cons (ps_for PassesOwn.never rfl (pi_range1 (by rfl) T.range (pa_cons (pe_callB (c_len K) (by rfl) T.len PySem.boot_len (pa_cons (pv 1) pa_nil)) pa_nil)) (pg_name (i := 3) sc_law_ring.nd rfl (.inl rfl))
      (pss_one (ps_set (i := 2) sc_law_ring.nd rfl (.inr rfl) (pe_lc (own := [("_law_k", 4)]) (g := gName 4) rfl sc_law_ring.nd (pi_l K (pv 2)) (blkOk_by (by kernel_rfl)) (fun _ _ _ _ _ => pg_name (i := 4) sc_law_ring.nd rfl (Or.inr rfl))
          (fun _ _ _ _ _ => pts_one (pt_cmpR (o_neD K hr) (pe_lc (own := [("_law_j", 5)]) (g := gName 5) rfl sc_law_ring.nd (pi_l K (pv 2)) (blkOk_by (by kernel_rfl)) (fun _ _ _ _ _ => pg_name (i := 5) sc_law_ring.nd rfl (Or.inl rfl))
            (fun _ _ _ _ _ => pts_one (pt_cmpR (o_inTD K hr) (pe_tup (pa_cons (pv 4) (pa_cons (pv 5) pa_nil))) (pe_ix (i_t K) (pv 0) pe_int (fun _ _ => rfl)) rfl)) (fun _ _ _ _ _ => pv 5)) (pe_lst pa_nil) (nomark _))) (fun _ _ _ _ _ => pv 4)))))
    (pss_one (ps_ret (pe_cmpR (o_neD K hr) (pv 2) (pe_lst pa_nil) (nomark _))))), fun ds d h => ?_⟩
  obtain ⟨n, Ar, l, rfl, hl, rfl⟩ := h
  refine ws_set (ev_cb rc_listL (ea_cons (ev_var rfl) ea_nil)) (ws_seq (M := fun δ => ∃ a b c, δ = [some (webD n Ar), some (lI l), some (lI (turns Ar l.length l)), a, b, c])
    (ws_forM (emb := PyData.int) (l := rng l.length) (js := [3]) (δ' := fun δ1 p => δ1.set 3 (some (.int p))) (fun i δ => ∃ a b c, δ = [some (webD n Ar), some (lI l), some (lI (turns Ar i l)), a, b, c])
      (ei_rng (n := l.length) (ea_cons (ev_is (ev_cb rc_lenL (ea_cons (ev_var rfl) ea_nil)) (by rw [List.length_map])) ea_nil) (by omega)) ⟨_, _, _, rfl⟩ (fun δ1 p _ => eg_name) (fun i p δ1 hp hv => ?_) (fun δ1 hv => ?_)) fun δ hv => ?_)
  · obtain ⟨a, b, c, rfl⟩ := hv
    have := turns_len Ar i l
    refine ws_asg (d := lI (turns Ar (i + 1) l)) (ev_is (ev_lc (emb := PyData.int) (l := turns Ar i l) (fun k => !decide (((turns Ar i l).filter fun j => decide ((k, j) ∈ Ar)) = [])) PyData.int (ei_list (ev_var rfl)) (fun _ _ => eg_name) (by simp) (by omega)
      (fun k _ => eb_test (ev_op (rv_neNil (f := PyData.int) (shp_lI _)) (ev_lc (emb := PyData.int) (l := turns Ar i l) (fun j => decide ((k, j) ∈ Ar)) PyData.int (ei_list (ev_var rfl)) (fun _ _ => eg_name) (by simp) (by omega)
        (fun j _ => eb_test (ev_op (rv_inP (p := (k, j))) (ev_tup (ea_cons (ev_var rfl) (ea_cons (ev_var rfl) ea_nil)) (by simp)) (ev_op (rv_ixT (j := 1) rfl rfl) (ev_var rfl) ev_int))) (fun _ _ _ => ev_var rfl)) (ev_lst ea_nil (by decide)))) (fun _ _ _ => ev_var rfl)) ?_) ⟨_, _, _, rfl⟩
    rw [turns_back, peel_law]
    rfl
  · rw [rng_len] at hv
    exact hv
  · obtain ⟨a, b, c, rfl⟩ := hv
    exact ws_ret (ev_op (rv_neNil (f := PyData.int) (shp_lI _)) (ev_var rfl) (ev_lst ea_nil (by decide))) rfl
/-! ### _law_alike -/
theorem sc_law_alike : FnScope ["_law_found", "_law_due", "_law_k"] ["_law_found", "_law_due"] (defScope s_law_alike) := ⟨rfl, rfl, rfl, by decide +kernel, rfl, by decide +kernel, by decide +kernel⟩
def R_alike0 (ds : List PD) (d : PD) : Prop := (∃ i j : Int, ds = [.int i, .int j] ∧ d = .bool (decide (i = j))) ∨ (∃ i j : Bool, ds = [.bool i, .bool j] ∧ d = .bool (i == j))
theorem rv_isNone {d : PD} (h : (∃ i, d = .int i) ∨ ∃ b, d = .bool b) : RvD K rIsN d .none (.bool false) := fun x y H G e h1 h2 Q q => by
  have hy : y = .non := by cases h2; rfl
  subst hy
  refine ⟨rfl, ?_⟩
  rcases h with ⟨i, rfl⟩ | ⟨b, rfl⟩
  · rw [int_inv h1]
    exact q (.bl false) H G (Gr.refl e) (.bl _)
  · rw [bl_inv h1]
    exact q (.bl false) H G (Gr.refl e) (.bl _)
theorem ok_law_alike0 (T : Tx mg) (F : FnP K "_law_alike" s_law_alike f fd) : FnOk P w K mg base CX0 1 f fd ["_law_found", "_law_due"] (spR K R_alike0) := by
  refine fn_ok F sc_law_alike (fun ds d h => by rcases h with ⟨_, _, rfl, _⟩ | ⟨_, _, rfl, _⟩ <;> rfl) fun cdv A outer s H E hr => ⟨_,
    pss_cons (ps_if (pt_val (pe_callB (c_isiT K) (by rfl) T.isi (by decide +kernel) (pa_cons (pv 1) (pa_cons (pe_tup (pa_cons (pe_bltn (v := .ty "tuple") (by rfl) T.tuple (by decide +kernel) rfl) (pa_cons (pe_bltn (v := .ty "list") (by rfl) T.list (by decide +kernel) rfl) pa_nil))) pa_nil)))) pss_never pss_nil)
    (pss_cons (ps_if (PW.pt (pw_or (pt_cmpR op_isN1 (pv 1) pe_non (nomark _)) (pw_or1 (pt_val (pe_callB (c_isi K) (by rfl) T.isi (by decide +kernel) (pa_cons (pv 1) (pa_cons (pe_bltn (v := .ty "str") (by rfl) T.str (by decide +kernel) rfl) pa_nil))))))) pss_never pss_nil)
    (pss_one (ps_ret (pe_and (pe_callB (c_isi K) (by rfl) T.isi (by decide +kernel) (pa_cons (pv 0) (pa_cons (pe_bltn (v := .ty "int") (by rfl) T.int (by decide +kernel) rfl) pa_nil)))
      (pe_and (pe_cmpR op_eq (pe_callB (c_isi K) (by rfl) T.isi (by decide +kernel) (pa_cons (pv 0) (pa_cons (pe_bltn (v := .ty "bool") (by rfl) T.bool (by decide +kernel) rfl) pa_nil))) (pe_callB (c_isi K) (by rfl) T.isi (by decide +kernel) (pa_cons (pv 1) (pa_cons (pe_bltn (v := .ty "bool") (by rfl) T.bool (by decide +kernel) rfl) pa_nil))) (nomark _))
        (pe_one (pe_cmpR op_eq (pv 0) (pv 1) (nomark _)))))))), fun ds d h => ?_⟩
  rcases h with ⟨i, j, rfl, rfl⟩ | ⟨i, j, rfl, rfl⟩
  · refine ws_skip (eb_B (isiT_int (ev_var rfl))) (ws_skip (eb_is (eb_or (eb_test (ev_op (rv_isNone (.inl ⟨j, rfl⟩)) (ev_var rfl) ev_non)) fun _ => eb_B (isi_int_str (ev_var rfl))) rfl) ?_)
    exact ws_ret (ev_is (ev_and (isi_int_int (ev_var rfl)) fun _ => ev_and (ev_op rv_eqB (isi_int_bool (ev_var rfl)) (isi_int_bool (ev_var rfl))) fun _ => ev_op rv_eqI (ev_var rfl) (ev_var rfl)) (by simp)) rfl
  · refine ws_skip (eb_B (isiT_bl (ev_var rfl))) (ws_skip (eb_is (eb_or (eb_test (ev_op (rv_isNone (.inr ⟨j, rfl⟩)) (ev_var rfl) ev_non)) fun _ => eb_B (isi_bl_str (ev_var rfl))) rfl) ?_)
    exact ws_ret (ev_is (ev_and (isi_bl_int (ev_var rfl)) fun _ => ev_and (ev_op rv_eqB (isi_bl_bool (ev_var rfl)) (isi_bl_bool (ev_var rfl))) fun _ => ev_op rv_eqB (ev_var rfl) (ev_var rfl)) (by simp)) rfl
def R_alike1 (ds : List PD) (d : PD) : Prop := ∃ a : IL, ds = [tI a, tI a] ∧ a.length ≤ 1000 ∧ d = .bool true
theorem ok_law_alike1 (T : Tx mg) (c1 : Cal P w K mg base "_law_alike" ["_law_found", "_law_due"] 1 (spR K R_alike0)) (F : FnP K "_law_alike" s_law_alike f fd) : FnOk P w K mg base CX0 2 f fd ["_law_found", "_law_due"] (spR K R_alike1) := by
  refine fn_ok F sc_law_alike (fun ds d h => by obtain ⟨_, rfl, _⟩ := h; rfl) fun cdv A outer s H E hr => ⟨_,
    pss_cons (ps_if (pt_val (pe_callB (c_isiT K) (by rfl) T.isi (by decide +kernel) (pa_cons (pv 1) (pa_cons (pe_tup (pa_cons (pe_bltn (v := .ty "tuple") (by rfl) T.tuple (by decide +kernel) rfl) (pa_cons (pe_bltn (v := .ty "list") (by rfl) T.list (by decide +kernel) rfl) pa_nil))) pa_nil))))
      (pss_cons (ps_if (PW.pt (pw_or (pt_not (pt_val (pe_callB (c_isiT K) (by rfl) T.isi (by decide +kernel) (pa_cons (pv 0) (pa_cons (pe_tup (pa_cons (pe_bltn (v := .ty "tuple") (by rfl) T.tuple (by decide +kernel) rfl) (pa_cons (pe_bltn (v := .ty "list") (by rfl) T.list (by decide +kernel) rfl) pa_nil))) pa_nil)))))
          (pw_or1 (pt_cmpR op_ne (pe_callB (c_isi K) (by rfl) T.isi (by decide +kernel) (pa_cons (pv 0) (pa_cons (pe_bltn (v := .ty "list") (by rfl) T.list (by decide +kernel) rfl) pa_nil))) (pe_callB (c_isi K) (by rfl) T.isi (by decide +kernel) (pa_cons (pv 1) (pa_cons (pe_bltn (v := .ty "list") (by rfl) T.list (by decide +kernel) rfl) pa_nil))) (nomark _))))) pss_never pss_nil)
      (pss_cons (ps_if (pt_cmpR op_ne (pe_callB (c_len K) (by rfl) T.len PySem.boot_len (pa_cons (pv 0) pa_nil)) (pe_callB (c_len K) (by rfl) T.len PySem.boot_len (pa_cons (pv 1) pa_nil)) (nomark _)) pss_never pss_nil)
      (pss_one (ps_ret (pe_cmpR (o_eqD K hr) (pe_lc (own := [("_law_k", 2)]) (g := gName 2) rfl sc_law_alike.nd (pi_range1 (by rfl) T.range (pa_cons (pe_callB (c_len K) (by rfl) T.len PySem.boot_len (pa_cons (pv 1) pa_nil)) pa_nil)) (blkOk_by (by kernel_rfl)) (fun _ _ _ _ _ => pg_name (i := 2) sc_law_alike.nd rfl (Or.inl rfl))
        (fun _ _ _ _ _ => pts_one (pt_not (pt_val (pc c1 hr (by decide) (by rfl) (pa_cons (pe_ix (i_t K) (pv 0) (pv 2) (fun _ _ => rfl)) (pa_cons (pe_ix (i_t K) (pv 1) (pv 2) (fun _ _ => rfl)) pa_nil)))))) (fun _ _ _ _ _ => pv 2)) (pe_lst pa_nil) (nomark _)))))) pss_nil)
    pss_never, fun ds d h => ?_⟩
  obtain ⟨a, rfl, hl, rfl⟩ := h
  refine ws_seq (M := fun _ => False) (ws_if (b := true) (eb_B (isiT_tup (ev_var rfl))) (fun _ => ?_) fun h => by cases h) fun δ hv => hv.elim
  refine ws_skip (eb_is (eb_or (eb_not (eb_B (isiT_tup (ev_var rfl)))) fun _ => eb_test (ev_op rv_neB (isi_tup_list (ev_var rfl)) (isi_tup_list (ev_var rfl)))) rfl) ?_
  refine ws_skip (eb_is (eb_test (ev_op rv_neI (ev_cb rc_lenT (ea_cons (ev_var rfl) ea_nil)) (ev_cb rc_lenT (ea_cons (ev_var rfl) ea_nil)))) (by simp)) ?_
  refine ws_ret (ev_is (ev_op (rv_eqNil (f := PyData.int) (l := []) shp_nil) (ev_is (ev_lc (emb := PyData.int) (l := rng a.length) (fun _ => false) PyData.int (ei_rng (n := a.length) (ea_cons (ev_is (ev_cb rc_lenT (ea_cons (ev_var rfl) ea_nil)) (by rw [List.length_map])) ea_nil) (by omega)) (fun _ _ => eg_name) (by simp) (by rw [rng_len]; omega)
    (fun k hk => ?_) (fun _ _ h => by cases h)) ?_) (ev_lst ea_nil (by decide))) (by simp)) rfl
  · obtain ⟨h0, h1⟩ := mem_rng.mp hk
    have hlt : k.toNat < a.length := by omega
    have hx : (a.map PyData.int)[k.toNat]? = some (.int a[k.toNat]) := by
      rw [List.getElem?_map, List.getElem?_eq_getElem hlt] <;> rfl
    refine eb_is (eb_not (eb_B (ev_call (d := .bool true) (ea_cons (ev_op (rv_ixT (j := k.toNat) (by omega) hx) (ev_var rfl) (ev_var rfl)) (ea_cons (ev_op (rv_ixT (j := k.toNat) (by omega) hx) (ev_var rfl) (ev_var rfl)) ea_nil)) (.inl ⟨_, _, rfl, by simp⟩)))) rfl
  · simp
end
end Ld
set_option maxHeartbeats 4000000
namespace Ld
open PySem PySem.Spec PyProof.Rows L2
open Evl (Ex ex_l ex_t sq_of st_of fresh_back)
section
variable {P : Program} {w : World} {K : PySem.W.Frag} {mg : Str → Option Value} {base : Heap} {f : Addr} {fd : FuncData}

/-! ### _law_taken -/
def GT (r : Addr) (G G' : Hp) : Prop := ∀ a o, a ≠ r → G a = some o → G' a = some o
theorem GT.trans {r : Addr} {G G' G2 : Hp} (a : GT r G G') (b : GT r G' G2) : GT r G G2 := fun x o n h => b x o n (a x o n h)
theorem GT.ofEx {r : Addr} {G G' : Hp} (e : Ex G G') : GT r G G' := fun a o _ h => e a o h
theorem dpAll_set {H : Hp} : ∀ {ds : List PD} {vs : List V} {j : Nat} {v : V} {d : PD}, DpAll K H vs ds → Dp K H v d → DpAll K H (vs.set j v) (ds.set j d)
  | [], _, _, _, _, .nil, _ => .nil
  | _ :: _, _ :: _, 0, _, _, .cons a b, h => .cons h b
  | _ :: _, _ :: _, j + 1, _, _, .cons a b, h => .cons a (dpAll_set b h)
def WT (K : PySem.W.Frag) (r : Addr) (H : Hp) (t : TS) (ds : List PD) (δ : DS) (N : List PD → DS → Prop) (Rt : List PD → Int → Prop) : Prop := ∀ (D : Ends) (σ : L2.St) (G : Hp), Sl K H σ δ → Ex H G → σ[0]? = some (some (.ref r)) → Mu K r ds H G →
  (∀ ds' δ' σ' G', GT r G G' → Ex H G' → Sl K H σ' δ' → σ'[0]? = some (some (.ref r)) → Mu K r ds' H G' → N ds' δ' → D.nx σ' G') → (∀ ds' z G', GT r G G' → Ex H G' → Mu K r ds' H G' → Rt ds' z → D.rt (.int z) G') → t D σ G
section
variable {r : Addr} {H : Hp} {t u : TS} {ds : List PD} {δ : DS} {N M : List PD → DS → Prop} {Rt : List PD → Int → Prop} {te : TE} {tt : TT} {z : Int}
theorem wt_nx (h : N ds δ) : WT K r H tNext ds δ N Rt := fun D σ G s x hi m q _ => q ds δ σ G (fun _ _ _ h => h) x s hi m h
theorem wt_seq (h : WT K r H t ds δ M Rt) (k : ∀ ds' δ', M ds' δ' → WT K r H u ds' δ' N Rt) : WT K r H (tSeq t u) ds δ N Rt := fun D σ G s x hi m q qr =>
  h _ σ G s x hi m (fun ds' δ' σ' G' g x' s' hi' m' hm => k ds' δ' hm D σ' G' s' x' hi' m' (fun d2 δ2 σ2 G2 g2 => q d2 δ2 σ2 G2 (g.trans g2)) fun d2 z2 G2 g2 => qr d2 z2 G2 (g.trans g2)) qr
theorem wt_set {j : Nat} (hj : 0 ≠ j) (h : Ev K te (δ.set 0 (some (.list ds))) (.int z)) (k : WT K r H u ds (δ.set j (some (.int z))) N Rt) : WT K r H (tSeq (tAsg te (gName j)) u) ds δ N Rt := fun D σ G s x hi m q qr =>
  rd_int h s x hi m fun G1 e1 => k D _ G1 (s.set (.int z) j) (x.trans e1) (by rw [List.getElem?_set_ne (Ne.symm hj), hi]) (m.grow e1) (fun d2 δ2 σ2 G2 g2 => q d2 δ2 σ2 G2 (GT.trans (GT.ofEx e1) g2)) fun d2 z2 G2 g2 => qr d2 z2 G2 (GT.trans (GT.ofEx e1) g2)
theorem wt_row1 {j : Nat} {k : Int} (h : Ev K te (δ.set 0 (some (.list ds))) (.int z)) (hj : ixN ds.length k = some j) (kk : N (ds.set j (.int z)) δ) : WT K r H (tAsg te (gSub (tVar 0) (tC (.int k)) rSetL)) ds δ N Rt := fun D σ G s x hi m q qr =>
  rd_int h s x hi m fun G1 e1 => by
    have m1 := m.grow e1
    obtain ⟨vs, h1, h2⟩ := id m1.at_
    refine ⟨.ref r, hi, r, vs, k, j, rfl, rfl, h1, by rw [dpAll_len h2]; exact hj, ?_⟩
    refine q _ δ σ _ (fun a o n ha => ?_) (Ex.chg (x.trans e1) m.hr) s hi (m1.put (dpAll_set h2 (.int z))) kk
    rw [upd_ne n]
    exact e1 a o ha
theorem wt_row {j : Nat} {k : Int} (h : Ev K te (δ.set 0 (some (.list ds))) (.int z)) (hj : ixN ds.length k = some j) (kk : WT K r H u (ds.set j (.int z)) δ N Rt) : WT K r H (tSeq (tAsg te (gSub (tVar 0) (tC (.int k)) rSetL)) u) ds δ N Rt :=
  wt_seq (M := fun ds' δ' => ds' = ds.set j (.int z) ∧ δ' = δ) (wt_row1 h hj ⟨rfl, rfl⟩) fun ds' δ' e => by
    rw [e.1, e.2]
    exact kk
theorem wt_ret (h : Ev K te (δ.set 0 (some (.list ds))) (.int z)) (k : Rt ds z) : WT K r H (tRet te) ds δ N Rt := fun D σ G s x hi m q qr =>
  rd_int h s x hi m fun G1 e1 => qr ds z G1 (GT.ofEx e1) (x.trans e1) (m.grow e1) k
theorem wt_if {b : Bool} (h : EvB K tt (δ.set 0 (some (.list ds))) b) (h1 : b = true → WT K r H t ds δ N Rt) (h2 : b = false → WT K r H u ds δ N Rt) : WT K r H (tIfS tt t u) ds δ N Rt := fun D σ G s x hi m q qr =>
  rd_test h s x hi m fun G1 e1 => by
    cases b with
    | true =>
      rw [if_pos rfl]
      exact h1 rfl D σ G1 s (x.trans e1) hi (m.grow e1) (fun d2 δ2 σ2 G2 g2 => q d2 δ2 σ2 G2 (GT.trans (GT.ofEx e1) g2)) fun d2 z2 G2 g2 => qr d2 z2 G2 (GT.trans (GT.ofEx e1) g2)
    | false =>
      rw [if_neg Bool.false_ne_true]
      exact h2 rfl D σ G1 s (x.trans e1) hi (m.grow e1) (fun d2 δ2 σ2 G2 g2 => q d2 δ2 σ2 G2 (GT.trans (GT.ofEx e1) g2)) fun d2 z2 G2 g2 => qr d2 z2 G2 (GT.trans (GT.ofEx e1) g2)
end
theorem wt_run {K : PySem.W.Frag} {r : Addr} {H : Hp} {t : TS} {ds : List PD} {δ : DS} {Rt : List PD → Int → Prop} {D : Ends} {σ : L2.St} {G : Hp} (key : WT K r H t ds δ (fun _ _ => False) Rt) (s : Sl K H σ δ) (x : Ex H G) (hi : σ[0]? = some (some (.ref r))) (m : Mu K r ds H G)
    (q : ∀ ds' z G', GT r G G' → Ex H G' → Mu K r ds' H G' → Rt ds' z → D.rt (.int z) G') : t D σ G := key D σ G s x hi m (fun _ _ _ _ _ _ _ _ _ c => c.elim) q
abbrev rInt1 : List V → Hp → VK → Prop := fun xs H Q => (∃ i, xs = [.int i] ∧ Q (.int i) H) ∨ ∃ k, xs = [.bl k] ∧ Q (.int (if k then 1 else 0)) H
theorem rc_int1 {i : Int} : RcD K rInt1 [.int i] (.int i) := fun xs H G w h Q q => by
  cases h with
  | cons h r =>
    cases r
    exact .inl ⟨i, by rw [int_inv h], q _ H G (Gr.refl w) (.int i)⟩
theorem sc_law_taken : FnScope ["_law_row", "_law_many", "_law_found", "_law_cell"] ["_law_row", "_law_many"] (defScope s_law_taken) := ⟨rfl, rfl, rfl, by decide +kernel, rfl, by decide +kernel, by decide +kernel⟩
def PreT (ds : List PD) : Prop := ∃ m : Int, ds = [.int m] ∧ 0 < m ∧ m < 1073741824
def PostT (ds : List PD) (d : PD) : Prop := ∃ m x : Int, ds = [.int m] ∧ d = .int x ∧ 0 ≤ x ∧ x < m
theorem ok_law_taken (T : Tx mg) (F : FnP K "_law_taken" s_law_taken f fd) : FnOk P w K mg base CX0 1 f fd ["_law_row", "_law_many"] (spM K PreT PostT) := by
  refine F.ok sc_law_taken (fun vs H Q E h => ?_) (fun cdv A outer s H vs Q E hr h => ⟨_, PSs.nox
    (pss_cons (ps_if (pt_cmpR op_gt (pe_ix (i_l K) (pv 0) pe_int (fun _ _ => rfl)) pe_int (nomark _))
      (pss_cons (ps_set (i := 2) sc_law_taken.nd rfl (.inl rfl) (pe_op op_mod (pe_callTy (r := rInt1) call_int1 (by rfl) T.int (by decide +kernel) (pa_cons (pe_ix (i_l K) (pv 0) pe_int (fun _ _ => rfl)) pa_nil)) (pv 1)))
      (pss_cons (ps_asg (pe_op op_fdiv (pe_ix (i_l K) (pv 0) pe_int (fun _ _ => rfl)) (pv 1)) (pg_sub (pv 0) pe_int set_list)) (pss_one (ps_ret (pv 2))))) pss_nil)
    (pss_cons (ps_asg (pe_op op_add (pe_ix (i_l K) (pv 0) pe_int (fun _ _ => rfl)) pe_int) (pg_sub (pv 0) pe_int set_list))
    (pss_cons (ps_if (pt_cmpR op_gt (pe_ix (i_l K) (pv 0) pe_int (fun _ _ => rfl)) (pe_callB (c_len K) (by rfl) T.len PySem.boot_len (pa_cons (pe_ix (i_l K) (pv 0) pe_int (fun _ _ => rfl)) pa_nil)) (nomark _))
      (pss_cons (ps_asg (pe_op op_mod (pe_callTy (r := rInt1) call_int1 (by rfl) T.int (by decide +kernel) (pa_cons (pe_op op_add (pe_op op_mul (pe_ix (i_l K) (pv 0) pe_int (fun _ _ => rfl)) pe_int) pe_int) pa_nil)) pe_int) (pg_sub (pv 0) pe_int set_list))
      (pss_one (ps_ret (pe_op op_mod (pe_callTy (r := rInt1) call_int1 (by rfl) T.int (by decide +kernel) (pa_cons (pe_op op_fdiv (pe_ix (i_l K) (pv 0) pe_int (fun _ _ => rfl)) pe_int) pa_nil)) (pv 1))))) pss_nil)
    (pss_cons (ps_set (i := 3) sc_law_taken.nd rfl (.inl rfl) (pe_ix (i_l K) (pe_ix (i_l K) (pv 0) pe_int (fun _ _ => rfl)) (pe_op op_sub (pe_ix (i_l K) (pv 0) pe_int (fun _ _ => rfl)) pe_int) (fun _ _ => rfl)))
    (pss_cons (ps_asg (pe_op op_mod (pe_callTy (r := rInt1) call_int1 (by rfl) T.int (by decide +kernel) (pa_cons (pe_op op_add (pe_op op_add (pe_op op_mul (pe_ix (i_l K) (pv 0) pe_int (fun _ _ => rfl)) pe_int) (pv 3)) pe_int) pa_nil)) pe_int) (pg_sub (pv 0) pe_int set_list))
    (pss_cons (ps_if (pt_cmpR op_ge (pv 3) (pe_op op_pow pe_int pe_int) (nomark _)) (pss_one (ps_asg (pe_op op_fdiv (pv 3) (pv 1)) (pg_sub (pv 0) pe_int set_list))) pss_nil)
    (pss_one (ps_ret (pe_op op_mod (pe_callTy (r := rInt1) call_int1 (by rfl) T.int (by decide +kernel) (pa_cons (pv 3) pa_nil)) (pv 1)))))))))), ?_⟩)
  · obtain ⟨H1, r, vs', ds, rfl, _, _, h1, ⟨m, rfl, _⟩, _⟩ := h
    rw [List.length_cons, dpAll_len h1]
    rfl
  · obtain ⟨H1, r, vs', ds, rfl, x1, ⟨S, p, sd, re, hp, mu⟩, h1, ⟨m, rfl, hm1, hm2⟩, q⟩ := h
    refine wt_run (ds := rowD S p sd re) (δ := [none, some (.int m), none, none]) (Rt := fun ds' z => ∃ p sd re, 0 ≤ p ∧ ds' = rowD S p sd re ∧ 0 ≤ z ∧ z < m) ?_ (sl_startM (N := ["_law_row", "_law_many", "_law_found", "_law_cell"]) h1) x1 rfl mu fun ds' z G' g x' mu' hz => ?_
    · skip
      refine wt_seq (M := fun ds' δ' => ds' = rowD S p sd re ∧ δ' = [none, some (.int m), none, none]) (wt_if (eb_test (ev_op rv_cmp (ev_op (rv_ixL (ds := rowD S p sd re) (j := 3) rfl rfl) (ev_var rfl) ev_int) ev_int)) (fun _ => ?_) fun _ => wt_nx ⟨rfl, rfl⟩) fun ds' δ' e => ?_
      · refine wt_set (by decide) (ev_op (rv_intC hm1) (ev_cb rc_int1 (ea_cons (ev_op (rv_ixL (ds := rowD S p sd re) (j := 3) rfl rfl) (ev_var rfl) ev_int) ea_nil)) (ev_var rfl)) ?_
        refine wt_row (j := 3) (ev_op (rv_intC ⟨hm1, hm2⟩) (ev_op (rv_ixL (ds := rowD S p sd re) (j := 3) rfl rfl) (ev_var rfl) ev_int) (ev_var rfl)) rfl ?_
        exact wt_ret (ev_var rfl) ⟨p, sd, _, hp, rfl, Int.emod_nonneg _ (by omega), Int.emod_lt_of_pos _ hm1⟩
      · obtain ⟨rfl, rfl⟩ := e
        refine wt_row (j := 1) (ev_op rv_int (ev_op (rv_ixL (ds := rowD S p sd re) (j := 1) rfl rfl) (ev_var rfl) ev_int) ev_int) rfl ?_
        show WT K r H1 _ (rowD S (p + 1) sd re) _ _ _
        refine wt_seq (M := fun ds' δ' => ds' = rowD S (p + 1) sd re ∧ δ' = [none, some (.int m), none, none] ∧ p < S.length) (wt_if (eb_test (ev_op rv_cmp (ev_op (rv_ixL (ds := rowD S (p + 1) sd re) (j := 1) rfl rfl) (ev_var rfl) ev_int) (ev_cb (rc_lenL (ds := S.map PyData.int)) (ea_cons (ev_op (rv_ixL (ds := rowD S (p + 1) sd re) (j := 0) rfl rfl) (ev_var rfl) ev_int) ea_nil)))) (fun _ => ?_) fun hb => wt_nx ⟨rfl, rfl, ?_⟩) fun ds' δ' e => ?_
        · refine wt_row (j := 2) (ev_op (rv_intC (by decide)) (ev_cb rc_int1 (ea_cons (ev_op rv_int (ev_op (rv_intC (.inr (by decide))) (ev_op (rv_ixL (ds := rowD S (p + 1) sd re) (j := 2) rfl rfl) (ev_var rfl) ev_int) ev_int) ev_int) ea_nil)) ev_int) rfl ?_
          refine wt_ret (ev_op (rv_intC hm1) (ev_cb rc_int1 (ea_cons (ev_op (rv_intC (C := CDiv) ⟨by decide, by decide⟩) (ev_op (rv_ixL (ds := rowD S (p + 1) _ re) (j := 2) rfl rfl) (ev_var rfl) ev_int) ev_int) ea_nil)) (ev_var rfl)) ⟨p + 1, _, re, by omega, rfl, Int.emod_nonneg _ (by omega), Int.emod_lt_of_pos _ hm1⟩
        · have := of_decide_eq_false hb
          rw [List.length_map] at this
          omega
        · obtain ⟨rfl, rfl, hlt⟩ := e
          have hlt2 : p.toNat < S.length := by omega
          have hx : (S.map PyData.int)[p.toNat]? = some (.int S[p.toNat]) := by
            rw [List.getElem?_map, List.getElem?_eq_getElem hlt2] <;> rfl
          generalize S[p.toNat] = c at hx
          refine wt_set (by decide) (ev_op (rv_ixL (ds := S.map PyData.int) (j := p.toNat) (by omega) hx) (ev_op (rv_ixL (ds := rowD S (p + 1) sd re) (j := 0) rfl rfl) (ev_var rfl) ev_int) (ev_op rv_int (ev_op (rv_ixL (ds := rowD S (p + 1) sd re) (j := 1) rfl rfl) (ev_var rfl) ev_int) ev_int)) ?_
          refine wt_row (j := 2) (ev_op (rv_intC (by decide)) (ev_cb rc_int1 (ea_cons (ev_op rv_int (ev_op rv_int (ev_op (rv_intC (.inr (by decide))) (ev_op (rv_ixL (ds := rowD S (p + 1) sd re) (j := 2) rfl rfl) (ev_var rfl) ev_int) ev_int) (ev_var rfl)) ev_int) ea_nil)) ev_int) rfl ?_
          refine wt_seq (M := fun ds' δ' => ∃ sd re, ds' = rowD S (p + 1) sd re ∧ δ' = [none, some (.int m), none, some (.int c)]) (wt_if (eb_test (ev_op rv_cmp (ev_var rfl) (ev_op (rv_intC (C := CPow) ⟨by decide, by decide, by decide⟩) ev_int ev_int))) (fun _ => wt_row1 (j := 3) (ev_op (rv_intC ⟨hm1, hm2⟩) (ev_var rfl) (ev_var rfl)) rfl ⟨_, _, rfl, rfl⟩) fun _ => wt_nx ⟨_, _, rfl, rfl⟩) fun ds' δ' e => ?_
          obtain ⟨sd2, re2, rfl, rfl⟩ := e
          exact wt_ret (ev_op (rv_intC hm1) (ev_cb rc_int1 (ea_cons (ev_var rfl) ea_nil)) (ev_var rfl)) ⟨p + 1, _, _, by omega, rfl, Int.emod_nonneg _ (by omega), Int.emod_lt_of_pos _ hm1⟩
    · obtain ⟨p', sd', re', hp', rfl, z1, z2⟩ := hz
      exact q _ (.int z) H1 G' ⟨m, z, rfl, rfl, z1, z2⟩ ⟨g, fun _ => mu'.some, Ex.refl H1, x', fun _ _ => rfl⟩ ⟨S, p', sd', re', hp', mu'⟩ (.int z)
/-! ### _law_pick -/
theorem sc_law_pick : FnScope ["_law_row", "_law_things"] ["_law_row", "_law_things"] (defScope s_law_pick) := ⟨rfl, rfl, rfl, by decide +kernel, rfl, by decide +kernel, by decide +kernel⟩
def PreP (ds : List PD) : Prop := ∃ l : List PD, ds = [.list l] ∧ l ≠ [] ∧ l.length ≤ 1000000
def PostP (ds : List PD) (d : PD) : Prop := ∃ l : List PD, ds = [.list l] ∧ d ∈ l
theorem ok_law_pick (T : Tx mg) (c1 : Cal P w K mg base "_law_taken" ["_law_row", "_law_many"] 1 (spM K PreT PostT)) (F : FnP K "_law_pick" s_law_pick f fd) : FnOk P w K mg base CX0 2 f fd ["_law_row", "_law_things"] (spM K PreP PostP) := by
  refine fnM_ok F sc_law_pick (fun ds h => by obtain ⟨_, rfl, _⟩ := h; rfl) fun cdv A outer s H E hr => ⟨_,
    pss_one (ps_ret (pe_ix (i_l K) (pv 1) (pc c1 hr (by decide) (by rfl) (pa_cons (pv 0) (pa_cons (pe_callB (c_len K) (by rfl) T.len PySem.boot_len (pa_cons (pv 1) pa_nil)) pa_nil))) (fun _ _ => rfl))), fun ds h => ?_⟩
  obtain ⟨l, rfl, hne, hl⟩ := h
  have hpos : 0 < l.length := List.length_pos_iff.mpr hne
  refine wm_ret (em_op (Da := (· = .list l)) (Db := fun z => ∃ x : Int, z = .int x ∧ 0 ≤ x ∧ x < l.length) (Dz := fun d => d ∈ l) (fun a b ha hb => ?_) (em_pure (ev_var rfl) rfl)
    (em_mono (em_call (Da := (· = .int l.length)) (em_pure (ev_cb rc_lenL (ea_cons (ev_var rfl) ea_nil)) rfl) fun d e => ⟨l.length, by rw [e], by omega, by omega⟩) fun d hd => ?_)) fun d hd => ⟨l, rfl, hd⟩
  · subst ha
    obtain ⟨x, rfl, h0, h1⟩ := hb
    have hlt : x.toNat < l.length := by omega
    exact ⟨l[x.toNat], rv_ixL (j := x.toNat) (by omega) (List.getElem?_eq_getElem hlt), List.getElem_mem hlt⟩
  · obtain ⟨_, rfl, m, x, e, rfl, h0, h1⟩ := hd
    cases e
    exact ⟨x, rfl, h0, h1⟩
end
end Ld
set_option maxHeartbeats 4000000
namespace Ld
open PySem PySem.Spec PyProof.Rows L2
open Evl (Ex ex_l ex_t sq_of st_of fresh_back)
section
variable {P : Program} {w : World} {K : PySem.W.Frag} {mg : Str → Option Value} {base : Heap} {f : Addr} {fd : FuncData}

theorem vd_sub {n : Nat} {l l' : IL} (h : Vd n l) (s : l'.Sublist l) : Vd n l' := ⟨h.asc.sub s, fun x hx => h.bd x (s.subset hx)⟩
section
variable {i : Nat} {δ : DS} {ta tb te : TE} {Da Db : PD → Prop} {N : DS → Prop} {Rt : PD → Prop} {u : TS}
theorem wm_pair {j k : Nat} (hj : i ≠ j) (hk : i ≠ k) (ha : EM K i ta δ Da) (hb : EM K i tb δ Db) (kk : ∀ a b, Da a → Db b → WM K i u ((δ.set j (some a)).set k (some b)) N Rt) :
    WM K i (tSeq (tAsg (tTup (tCons ta (tCons tb tNil))) (gTup K 2 (gCons (gName j) (gCons (gName k) gNil)))) u) δ N Rt :=
  wm_seq (M := fun δ' => ∃ a b, Da a ∧ Db b ∧ δ' = (δ.set j (some a)).set k (some b)) (wm_asg (js := [j, k]) (δ' := fun d => match d with | .tuple [a, b] => (δ.set j (some a)).set k (some b) | _ => δ) (by simp [hj, hk]) (em_tup2 ha hb)
    (fun d ⟨a, b, _, _, e⟩ => by
      subst e
      exact eg_pair) fun d ⟨a, b, h1, h2, e⟩ => by
        subst e
        exact ⟨a, b, h1, h2, rfl⟩) fun δ' ⟨a, b, h1, h2, e⟩ => by
          subst e
          exact kk a b h1 h2
def TakenD (m : Int) (d : PD) : Prop := ∃ x : Int, d = .int x ∧ 0 ≤ x ∧ x < m
theorem em_taken {m : Int} {E : XK} (h : Ev K te δ (.int m)) (h0 : 0 < m) (h1 : m < 1073741824) : EM K i (tCall (spM K PreT PostT) [] E (tCons (tVar i) (tCons te tNil))) δ (TakenD m) :=
  em_mono (em_call (Da := (· = .int m)) (em_pure h rfl) fun d e => ⟨m, by rw [e], h0, h1⟩) fun d hd => by
    obtain ⟨_, rfl, m', x, e, rfl, h0, h1⟩ := hd
    cases e
    exact ⟨x, rfl, h0, h1⟩
theorem emb_draw {m z : Int} {E : XK} (h : Ev K te δ (.int m)) (h0 : 0 < m) (h1 : m < 1073741824) : EMB K i (tTest (tOp rEq (tCall (spM K PreT PostT) [] E (tCons (tVar i) (tCons te tNil))) (tC (.int z)))) δ (fun _ => True) :=
  emb_test (em_op (Da := TakenD m) (Db := (· = .int z)) (fun a b ha hb => by
    obtain ⟨x, rfl, _⟩ := ha
    subst hb
    exact ⟨_, rv_eqI, _, rfl, trivial⟩) (em_taken h h0 h1) (em_pure ev_int rfl))
end
/-! ### _law_standing -/
theorem sc_law_standing : FnScope ["_law_row", "_law_web_here", "_law_way", "_law_found", "_law_k", "_law_turn", "_law_other", "_law_one"] ["_law_row", "_law_web_here"] (defScope s_law_standing) := ⟨rfl, rfl, rfl, by decide +kernel, rfl, by decide +kernel, by decide +kernel⟩
def PreS (ds : List PD) : Prop := ∃ (n : Nat) (E : Arr), ds = [webD n E] ∧ WebOk n E
def PostS (ds : List PD) (d : PD) : Prop := ∀ (n : Nat) (E : Arr), ds = [webD n E] → ∃ s, d = tI s ∧ Vd n s
theorem web_inj {n n' : Nat} {E E' : Arr} (h : ([webD n E] : List PD) = [webD n' E']) : n = n' := by
  unfold webD at h
  injection h with h1
  injection h1 with h2
  injection h2 with h3
  injection h3 with h4
  omega
theorem step_vd {n : Nat} {E : Arr} {s : IL} (W : Web n E) (v : Vd n s) : Vd n (sset (s ++ (E.filter fun p => decide (p.1 ∈ s)).map (·.2))) := by
  refine ⟨asc_sset _, fun x hx => ?_⟩
  rw [mem_sset, List.mem_append] at hx
  rcases hx with hx | hx
  · exact v.bd x hx
  · obtain ⟨p, hp, rfl⟩ := List.mem_map.mp hx
    exact (W.bd p (List.mem_filter.mp hp).1).2
theorem ok_law_standing (T : Tx mg) (c1 : Cal P w K mg base "_law_taken" ["_law_row", "_law_many"] 1 (spM K PreT PostT)) (F : FnP K "_law_standing" s_law_standing f fd) : FnOk P w K mg base CX0 2 f fd ["_law_row", "_law_web_here"] (spM K PreS PostS) := by
  refine fnM_ok F sc_law_standing (fun ds h => by obtain ⟨_, _, rfl, _⟩ := h; rfl) fun cdv A outer s H E hr => ⟨_,
    pss_cons (ps_asg (pe_tup (pa_cons (pc c1 hr (by decide) (by rfl) (pa_cons (pv 0) (pa_cons pe_int pa_nil))) (pa_cons
        (pe_lc (own := [("_law_k", 4)]) (g := gName 4) rfl sc_law_standing.nd (pi_range1 (by rfl) T.range (pa_cons (pe_ix (i_t K) (pv 1) pe_int (fun _ _ => rfl)) pa_nil)) (blkOk_by (by kernel_rfl)) (fun _ _ _ _ _ => pg_name (i := 4) sc_law_standing.nd rfl (Or.inl rfl))
          (fun _ _ _ _ _ => pts_one (pt_cmpR op_eq (pc c1 hr (by decide) (by rfl) (pa_cons (pv 0) (pa_cons pe_int pa_nil))) pe_int (nomark _))) (fun _ _ _ _ _ => pv 4)) pa_nil)))
      (pg_t K (n := 2) rfl (pgs_cons (pg_name (i := 2) sc_law_standing.nd rfl (.inl rfl)) (pgs_cons (pg_name (i := 3) sc_law_standing.nd rfl (.inr rfl)) pgs_nil))))
    (pss_cons (ps_if (pt_cmpR op_eq (pv 2) pe_int (nomark _)) (pss_one (ps_set (i := 3) sc_law_standing.nd rfl (.inr rfl)
        (pe_lc (own := [("_law_k", 4)]) (g := gName 4) rfl sc_law_standing.nd (pi_l K (pv 3)) (blkOk_by (by kernel_rfl)) (fun _ _ _ _ _ => pg_name (i := 4) sc_law_standing.nd rfl (Or.inl rfl))
          (fun _ _ _ _ _ => pts_one (pt_cmpR op_eq (pc c1 hr (by decide) (by rfl) (pa_cons (pv 0) (pa_cons pe_int pa_nil))) pe_int (nomark _))) (fun _ _ _ _ _ => pv 4)))) pss_nil)
    (pss_cons (ps_for PassesOwn.never rfl (pi_range1 (by rfl) T.range (pa_cons (pe_ifExp (pt_cmpR op_eq (pv 2) pe_int (nomark _)) (pe_ix (i_t K) (pv 1) pe_int (fun _ _ => rfl)) pe_int) pa_nil)) (pg_name (i := 5) sc_law_standing.nd rfl (.inl rfl))
      (pss_one (ps_set (i := 3) sc_law_standing.nd rfl (.inr rfl) (pe_callB (c_sset w rfl) (by rfl) T.sorted (by decide +kernel) (pa_cons (pe_callTy (c_set K w rfl) (by rfl) T.set (by decide +kernel) (pa_cons (pe_op (o_cat K) (pv 3)
        (pe_lc (own := [("_law_other", 6), ("_law_one", 7)]) (g := gTup K 2 (gCons (gName 7) (gCons (gName 6) gNil))) rfl sc_law_standing.nd (pi_t K (pe_ix (i_t K) (pv 1) pe_int (fun _ _ => rfl))) (blkOk_by (by kernel_rfl))
          (fun _ _ _ _ _ => pg_t K (n := 2) rfl (pgs_cons (pg_name (i := 7) sc_law_standing.nd rfl (Or.inl rfl)) (pgs_cons (pg_name (i := 6) sc_law_standing.nd rfl (Or.inl rfl)) pgs_nil)))
          (fun _ _ _ _ _ => pts_one (pt_cmpR (o_in K) (pv 7) (pv 3) rfl)) (fun _ _ _ _ _ => pv 6))) pa_nil)) pa_nil)))))
    (pss_one (ps_ret (pe_callTy (c_tup K) (by rfl) T.tuple (by decide +kernel) (pa_cons (pv 3) pa_nil)))))), fun ds h => ?_⟩
  obtain ⟨n, Ar, rfl, ok⟩ := h
  have h6 := ok.hi
  have hE := ok.len
  refine wm_pair (Da := TakenD 3) (Db := fun d => ∃ s, d = lI s ∧ Vd n s) (by decide) (by decide) (em_taken ev_int (by decide) (by decide))
    (em_mono (em_lc (emb := PyData.int) (l := rng n) (δ' := fun k => _) PyData.int (by decide) (ei_rng (ea_cons (ev_op (rv_ixT (j := 0) rfl rfl) (ev_var rfl) ev_int) ea_nil) (by omega)) (fun _ _ => eg_name) (by simp) (by rw [rng_len]; omega) (fun _ _ => emb_draw ev_int (by decide) (by decide)) (fun _ _ => ev_var rfl))
      fun d ⟨l', hs, e⟩ => ⟨l', e, vd_sub (vd_rng n) hs⟩) fun a b ha hb => ?_
  obtain ⟨x, rfl, _, _⟩ := ha
  obtain ⟨s0, rfl, v0⟩ := hb
  refine wm_seq (M := fun δ => ∃ s, δ = [none, some (webD n Ar), some (.int x), some (lI s), none, none, none, none] ∧ Vd n s) (wm_if (P := fun _ => True) (emb_pure (eb_test (ev_op rv_eqI (ev_var rfl) ev_int)) trivial) (fun _ => ?_) fun _ => wm_nx ⟨s0, rfl, v0⟩) fun δ hv => ?_
  · have hl0 := v0.len
    refine wm_asg (js := [3]) (D := fun d => ∃ s, d = lI s ∧ Vd n s) (by decide) (em_mono (em_lc (emb := PyData.int) (l := s0) (δ' := fun k => _) PyData.int (by decide) (ei_list (ev_var rfl)) (fun _ _ => eg_name) (by simp) (by omega) (fun _ _ => emb_draw ev_int (by decide) (by decide)) (fun _ _ => ev_var rfl))
      fun d ⟨l', hs, e⟩ => ⟨l', e, vd_sub v0 hs⟩) (fun d _ => eg_name) fun d hd => ?_
    obtain ⟨s1, rfl, v1⟩ := hd
    exact ⟨s1, rfl, v1⟩
  · obtain ⟨s1, rfl, v1⟩ := hv
    refine wm_seq (M := fun δ => ∃ s a b c e, δ = [none, some (webD n Ar), some (.int x), some (lI s), a, b, c, e] ∧ Vd n s) (wm_for (Dl := (· = (rng (if x = 1 then n else 0)).map PyData.int)) (js := [5]) (δ' := fun δ1 d => δ1.set 5 (some d)) (fun _ δ => ∃ s a b c e, δ = [none, some (webD n Ar), some (.int x), some (lI s), a, b, c, e] ∧ Vd n s) (by decide)
      (emi_pure (ei_rng (ea_cons (ev_if (eb_test (ev_op rv_eqI (ev_var rfl) ev_int)) (fun hb => ?_) fun hb => ?_) ea_nil) ?_)) ⟨s1, _, _, _, _, rfl, v1⟩ (fun _ _ _ _ _ => eg_name) (fun l hl i' d δ1 hd hv => ?_) (fun l hl δ1 hv => hv)) fun δ hv => ?_
    · refine ev_is (ev_op (rv_ixT (j := 0) rfl rfl) (ev_var rfl) ev_int) ?_
      rw [if_pos (of_decide_eq_true hb)]
    · refine ev_is ev_int ?_
      rw [if_neg (of_decide_eq_false hb)] <;> rfl
    · split <;> omega
    · obtain ⟨s2, a, b, c, e, rfl, v2⟩ := hv
      have hl2 := v2.len
      have fl : ((Ar.filter fun p => decide (p.1 ∈ s2)).map (·.2)).length ≤ 30 := by
        rw [List.length_map]
        exact Nat.le_trans (List.length_filter_le _ _) hE
      refine wm_asg (js := [3]) (D := (· = lI (sset (s2 ++ (Ar.filter fun p => decide (p.1 ∈ s2)).map (·.2))))) (by decide) (em_pure (ev_sset (l := s2 ++ (Ar.filter fun p => decide (p.1 ∈ s2)).map (·.2)) (.inl (ev_is (ev_op (rv_catL (ds := s2.map PyData.int) (es := ((Ar.filter fun p => decide (p.1 ∈ s2)).map (·.2)).map PyData.int) ?_) (ev_var rfl)
        (ev_is (ev_lc (emb := prD) (l := Ar) (fun p => decide (p.1 ∈ s2)) (fun p => PyData.int p.2) (ei_tup (ev_op (rv_ixT (j := 1) rfl rfl) (ev_var rfl) ev_int)) (fun _ _ => eg_pair) (by simp) (by omega) (fun p _ => eb_test (ev_op rv_isL (ev_var rfl) (ev_var rfl))) (fun _ _ _ => ev_var rfl)) ?_)) ?_)) ?_) rfl) (fun d _ => eg_name) fun d hd => ?_
      · rw [List.length_map, List.length_map]
        omega
      · rw [List.map_map] <;> rfl
      · rw [List.map_append]
      · rw [List.length_append]
        omega
      · subst hd
        exact ⟨_, _, _, _, _, rfl, step_vd ok.web v2⟩
    · obtain ⟨s2, a, b, c, e, rfl, v2⟩ := hv
      exact wm_ret (em_pure (D := (· = tI s2)) (ev_cb rc_tupL (ea_cons (ev_var rfl) ea_nil)) rfl) fun d hd n' E' e => ⟨s2, hd, by rw [← web_inj e]; exact v2⟩
end
end Ld
set_option maxHeartbeats 4000000
namespace Ld
open PySem PySem.Spec PyProof.Rows L2
open Evl (Ex ex_l ex_t sq_of st_of fresh_back)
section
variable {P : Program} {w : World} {K : PySem.W.Frag} {mg : Str → Option Value} {base : Heap} {f : Addr} {fd : FuncData}

/-! ### _law_web -/
structure SL (K : PySem.W.Frag) (r l : Addr) (H0 G0 : Hp) (σ : L2.St) (H G : Hp) (δ : DS) (ps : Arr) : Prop where
  s : Sl K H σ δ
  x : Ex H G
  hi : σ[0]? = some (some (.ref r))
  hl : σ[5]? = some (some (.ref l))
  m : Rw K r H G
  mu : Mu K l (ps.map prD) H G
  ne : l ≠ r
  g : ∀ a o, a ≠ r → a ≠ l → G0 a = some o → G a = some o
  h : Ex H0 H
  old : ∀ a, G0 a ≠ none → H a = H0 a
  al : ∀ a, G0 a ≠ none → G a ≠ none
section
variable {r l : Addr} {H0 G0 H G H' G' : Hp} {σ : L2.St} {δ : DS} {ps : Arr} {N : DS → Arr → Prop} {c : TT} {te : TE}
theorem SL.gm (S : SL K r l H0 G0 σ H G δ ps) (g : GM r H G H' G') (m' : Rw K r H' G') : SL K r l H0 G0 σ H' G' δ ps := by
  obtain ⟨vs, h1, h2⟩ := S.mu.at_
  exact ⟨S.s.ex g.h, g.hg, S.hi, S.hl, m', ⟨(g.old l S.mu.some).trans S.mu.hr, vs, g.g l _ S.ne h1, dpAll_ex g.h _ _ h2⟩, S.ne, fun a o n1 n2 e => g.g a o n1 (S.g a o n1 n2 e), S.h.trans g.h, fun a ha => (g.old a (S.al a ha)).trans (S.old a ha), fun a ha => g.some (S.al a ha)⟩
def WL (K : PySem.W.Frag) (r l : Addr) (H0 G0 : Hp) (t : TS) (δ : DS) (ps : Arr) (N : DS → Arr → Prop) : Prop := ∀ (D : Ends) (σ : L2.St) (H G : Hp), SL K r l H0 G0 σ H G δ ps → (∀ σ' H' G' δ' ps', Ex H H' → SL K r l H0 G0 σ' H' G' δ' ps' → N δ' ps' → D.nx σ' G') → t D σ G
theorem wl_ifapp {P : Bool → Prop} {p : Int × Int} (hc : EMB K 0 c δ P) (he : Ev K te δ (prD p)) (k1 : P true → N δ (ps ++ [p])) (k0 : N δ ps) (hlen : ps.length < 1000) : WL K r l H0 G0 (tIfS c (tDrop (tBM K "list" rAppend (tVar 5) (tCons te tNil))) tNext) δ ps N := fun D σ H G S q =>
  hc r σ H G S.s S.x S.hi S.m _ fun b H1 G1 g1 m1 hp => by
    have S1 := S.gm g1 m1
    cases b with
    | false =>
      rw [if_neg Bool.false_ne_true]
      exact q σ H1 G1 δ ps g1.h S1 k0
    | true =>
      rw [if_pos rfl]
      obtain ⟨vs0, a0, _⟩ := id S1.mu.at_
      refine ⟨.ref l, S1.hl, .inl ⟨rfl, vs0, sq_of a0⟩, ?_⟩
      refine he σ H1 G1 S1.s S1.x _ fun v H2 G2 g2 hv => ?_
      have S2 := S1.gm g2.gm (S1.m.gr g2)
      obtain ⟨vs, h1, h2⟩ := S2.mu.at_
      refine ⟨l, vs, v, rfl, rfl, h1, ?_, ?_⟩
      · rw [dpAll_len h2, List.length_map]
        exact Nat.lt_of_lt_of_le hlen (by decide)
      · refine q σ H2 _ δ (ps ++ [p]) (g1.h.trans g2.h) ⟨S2.s, Ex.chg S2.x S2.mu.hr, S2.hi, S2.hl, S2.m.other S2.ne, ?_, S2.ne, fun a o n1 n2 e => by rw [upd_ne n2]; exact S2.g a o n1 n2 e, S2.h, S2.old, fun a ha => ?_⟩ (k1 hp)
        · rw [List.map_append]
          exact S2.mu.put (dpAll_app h2 (.cons hv .nil))
        · by_cases e : a = l
          · rw [e, upd_same]
            exact fun c => by cases c
          · rw [upd_ne e]
            exact S2.al a ha
theorem wl_for {wi : TI} {j : Nat} {tb : TS} {dl : List PD} (Pv : Nat → DS → Arr → Prop) (h0j : 0 ≠ j) (h5j : 5 ≠ j) (hi : EvI K wi δ dl) (h0 : Pv 0 δ ps) (hs : ∀ i d δ1 ps1, dl[i]? = some d → Pv i δ1 ps1 → WL K r l H0 G0 tb (δ1.set j (some d)) ps1 (Pv (i + 1)))
    (hd : ∀ δ1 ps1, Pv dl.length δ1 ps1 → N δ1 ps1) : WL K r l H0 G0 (tFor wi (gName j) tb) δ ps N := fun D σ H G S q =>
  hi σ H G S.s S.x _ fun J H1 G1 g1 W => by
    unfold WkD at W
    have S1 := S.gm g1.gm (S.m.gr g1)
    refine for_it W (fun i σ2 G2 => ∃ Hk δ2 ps2, Ex H1 Hk ∧ SL K r l H0 G0 σ2 Hk G2 δ2 ps2 ∧ Pv i δ2 ps2) ⟨H1, δ, ps, Ex.refl H1, S1, h0⟩ (fun i σ2 G2 _ p => ?_) (fun i x σ2 G2 G3 hi p y => ?_) fun σ2 G2 p => ?_
    · obtain ⟨Hk, δ2, ps2, e, S2, _⟩ := p
      exact e.trans S2.x
    · obtain ⟨Hk, δ2, ps2, e, S2, hp⟩ := p
      obtain ⟨Hk2, d, g3, hd', hx⟩ := y Hk e S2.x
      have S3 := S2.gm g3.gm (S2.m.gr g3)
      refine hs i d δ2 ps2 hd' hp _ _ Hk2 G3 ⟨S3.s.set hx j, S3.x, by rw [List.getElem?_set_ne (Ne.symm h0j)]; exact S3.hi, by rw [List.getElem?_set_ne (Ne.symm h5j)]; exact S3.hl, S3.m, S3.mu, S3.ne, S3.g, S3.h, S3.old, S3.al⟩ fun σ4 H4 G4 δ4 ps4 e4 S4 p4 => ⟨H4, δ4, ps4, e.trans (g3.h.trans e4), S4, p4⟩
    · obtain ⟨Hk, δ2, ps2, e, S2, hp⟩ := p
      exact q σ2 Hk G2 δ2 ps2 (g1.h.trans e) S2 (hd δ2 ps2 hp)
end
theorem wl_run {r l : Addr} {H0 G0 H G : Hp} {σ : L2.St} {δ : DS} {ps : Arr} {N : DS → Arr → Prop} {t u : TS} {D : Ends} (k : WL K r l H0 G0 t δ ps N) (S : SL K r l H0 G0 σ H G δ ps) (q : ∀ σ' H' G' δ' ps', Ex H H' → SL K r l H0 G0 σ' H' G' δ' ps' → N δ' ps' → u D σ' G') : tSeq t u D σ G := k { D with nx := u D } σ H G S q
theorem wm_run {i : Nat} {r : Addr} {H G : Hp} {σ : L2.St} {δ : DS} {Rt : PD → Prop} {t : TS} {D : Ends} (k : WM K i t δ (fun _ => False) Rt) (s : Sl K H σ δ) (x : Ex H G) (hi : σ[i]? = some (some (.ref r))) (m : Rw K r H G)
    (qr : ∀ v d H' G', GM r H G H' G' → Rw K r H' G' → Dp K H' v d → Rt d → D.rt v G') : t D σ G := k D r σ H G s x hi m (fun _ _ _ _ _ _ _ _ c => c.elim) qr
theorem sc_law_web : FnScope ["_law_row", "_law_most", "_law_many", "_law_way", "_law_thin", "_law_arrows", "_law_k", "_law_j"] ["_law_row", "_law_most"] (defScope s_law_web) := ⟨rfl, rfl, rfl, by decide +kernel, rfl, by decide +kernel, by decide +kernel⟩
def PreW (ds : List PD) : Prop := ds = [.int 6]
def PostW (ds : List PD) (d : PD) : Prop := ∃ (n : Nat) (E : Arr), d = webD n E ∧ WebOk n E
def Okp (n : Nat) (ps : Arr) : Prop := ∀ p ∈ ps, (0 ≤ p.1 ∧ p.1 < n) ∧ (0 ≤ p.2 ∧ p.2 < n) ∧ p.1 ≠ p.2
theorem rng_get {n i : Nat} {d : PD} (h : ((rng n).map PyData.int)[i]? = some d) : d = .int (i : Int) ∧ i < n := by
  unfold rng at h
  rw [List.map_map, List.getElem?_map] at h
  obtain ⟨k, h1, h2⟩ := Option.map_eq_some_iff.mp h
  obtain ⟨h3, h4⟩ := List.getElem?_eq_some_iff.mp h1
  rw [List.length_range] at h3
  rw [List.getElem_range] at h4
  subst h4
  exact ⟨h2.symm, h3⟩
theorem ok_law_web (T : Tx mg) (c1 : Cal P w K mg base "_law_taken" ["_law_row", "_law_many"] 1 (spM K PreT PostT)) (c2 : Cal P w K mg base "_law_pick" ["_law_row", "_law_things"] 2 (spM K PreP PostP)) (F : FnP K "_law_web" s_law_web f fd) : FnOk P w K mg base CX0 3 f fd ["_law_row", "_law_most"] (spM K PreW PostW) := by
  refine fnM_ok F sc_law_web (fun ds h => by rw [show ds = [.int 6] from h] <;> rfl) fun cdv A outer s H E hr => ⟨_,
    pss_cons (ps_par (i := 2) (j := 3) rfl sc_law_web.nd rfl rfl (by decide) rfl rfl (pa_cons (pe_op op_add pe_int (pc c1 hr (by decide) (by rfl) (pa_cons (pv 0) (pa_cons (pv 1) pa_nil)))) (pa_cons (pc c1 hr (by decide) (by rfl) (pa_cons (pv 0) (pa_cons pe_int pa_nil))) pa_nil)) (by rfl))
    (pss_cons (ps_par (i := 4) (j := 5) rfl sc_law_web.nd rfl rfl (by decide) rfl rfl (pa_cons (pc c2 hr (by decide) (by rfl) (pa_cons (pv 0) (pa_cons (pe_lst (pa_cons pe_int (pa_cons pe_int (pa_cons pe_int pa_nil)))) pa_nil))) (pa_cons (pe_lst pa_nil) pa_nil)) (by rfl))
    (pss_cons (ps_for PassesOwn.never rfl (pi_range1 (by rfl) T.range (pa_cons (pv 2) pa_nil)) (pg_name (i := 6) sc_law_web.nd rfl (.inl rfl))
      (pss_one (ps_for PassesOwn.never rfl (pi_range1 (by rfl) T.range (pa_cons (pv 2) pa_nil)) (pg_name (i := 7) sc_law_web.nd rfl (.inl rfl))
        (pss_one (ps_if (PW.pt (pw_and (pt_cmpR op_ne (pv 6) (pv 7) (nomark _)) (pw_and1 (PW.pt (pw_or (PW.pt (pw_and (pt_cmpR op_lt (pv 3) pe_int (nomark _)) (pw_and1 (pt_cmpR op_eq (pc c1 hr (by decide) (by rfl) (pa_cons (pv 0) (pa_cons (pv 4) pa_nil))) pe_int (nomark _)))))
            (pw_or1 (PW.pt (pw_and (pt_cmpR op_eq (pv 3) pe_int (nomark _)) (pw_and (pt_cmpR op_lt (pv 6) (pv 7) (nomark _)) (pw_and1 (pt_cmpR op_eq (pc c1 hr (by decide) (by rfl) (pa_cons (pv 0) (pa_cons pe_int pa_nil))) pe_int (nomark _)))))))))))) 
          (pss_one (ps_expr (pe_bm PySem.F.plainAttrs_list PySem.F.slot_list_append PySem.F.type_list_append mt_append (pv 5) (pa_cons (pe_tup (pa_cons (pv 6) (pa_cons (pv 7) pa_nil))) pa_nil)))) pss_nil)))))
    (pss_cons (ps_if (pt_cmpR op_gt (pv 3) pe_int (nomark _)) (pss_one (ps_set (i := 5) sc_law_web.nd rfl (.inl rfl) (pe_op (o_cat K)
        (pe_lc (own := [("_law_k", 6)]) (g := gName 6) rfl sc_law_web.nd (pi_range1 (by rfl) T.range (pa_cons (pe_op op_sub (pv 2) pe_int) pa_nil)) (blkOk_by (by kernel_rfl)) (fun _ _ _ _ _ => pg_name (i := 6) sc_law_web.nd rfl (Or.inl rfl)) (fun _ _ _ _ _ => pts_nil) (fun _ _ _ _ _ => pe_tup (pa_cons (pv 6) (pa_cons (pe_op op_add (pv 6) pe_int) pa_nil))))
        (pe_ifExp (PW.pt (pw_and (pt_cmpR op_eq (pv 3) pe_int (nomark _)) (pw_and1 (pt_cmpR op_gt (pv 2) pe_int (nomark _))))) (pe_lst (pa_cons (pe_tup (pa_cons (pe_op op_sub (pv 2) pe_int) (pa_cons pe_int pa_nil))) pa_nil)) (pe_lst pa_nil))))) pss_nil)
    (pss_one (ps_ret (pe_tup (pa_cons (pv 2) (pa_cons (pe_callTy (c_tup K) (by rfl) T.tuple (by decide +kernel) (pa_cons (pe_callB (c_ssetP K P w rfl) (by rfl) T.sorted (by decide +kernel) (pa_cons (pe_callTy (c_setP K P w hr rfl) (by rfl) T.set (by decide +kernel) (pa_cons (pv 5) pa_nil)) pa_nil)) pa_nil)) pa_nil)))))))), fun ds h => ?_⟩
  have hds : ds = [.int 6] := h
  subst hds
  refine wm_par (Da := fun d => ∃ n : Nat, d = .int n ∧ 1 ≤ n ∧ n ≤ 6) (Db := TakenD 6) (by decide) (by decide) (em_op (Da := (· = .int 1)) (Db := TakenD 6) (fun a b ha hb => ?_) (em_pure ev_int rfl) (em_taken (ev_var rfl) (by decide) (by decide))) (em_taken ev_int (by decide) (by decide)) fun a b ha hb => ?_
  · subst ha
    obtain ⟨x, rfl, h0, h1⟩ := hb
    exact ⟨.int (1 + x), rv_int, (1 + x).toNat, by congr 1; omega, by omega, by omega⟩
  obtain ⟨n, rfl, n1, n6⟩ := ha
  obtain ⟨way, rfl, w0, w1⟩ := hb
  intro D r σ H G s x hi m q qr
  refine em_call (Da := (· = .list [.int 2, .int 3, .int 5])) (em_pure (ev_lst (ea_cons ev_int (ea_cons ev_int (ea_cons ev_int ea_nil))) (by decide)) rfl) (fun d e => ⟨_, by rw [e], by simp, by decide⟩) r σ H G s x hi m _ fun v d H1 G1 g1 m1 h1 hd => ⟨by decide, fun l hl => ⟨v, .ref l, rfl, ?_⟩⟩
  have ht : ∃ t : Int, d = .int t ∧ 0 < t ∧ t < 1073741824 := by
    obtain ⟨_, rfl, lst, e, hm⟩ := hd
    cases e
    rcases List.mem_cons.mp hm with rfl | hm
    · exact ⟨2, rfl, by decide, by decide⟩
    · rcases List.mem_cons.mp hm with rfl | hm
      · exact ⟨3, rfl, by decide, by decide⟩
      · rw [List.mem_singleton.mp hm]
        exact ⟨5, rfl, by decide, by decide⟩
  obtain ⟨t, rfl, t0, t1⟩ := ht
  have hlr : l ≠ r := fun c => m1.some (by rw [← c]; exact hl)
  have hl1 : H1 l = none := ex_none g1.hg hl
  have x2 : Ex H1 (upd G1 l (.lst [])) := Ex.chg g1.hg hl1
  have S0 : SL K r l H1 (upd G1 l (.lst [])) ((σ.set 4 (some v)).set 5 (some (.ref l))) H1 (upd G1 l (.lst [])) [none, some (.int 6), some (.int n), some (.int way), some (.int t), none, none, none] [] :=
    ⟨((s.ex g1.h).set h1 4).hide _ 5, x2, by rw [List.getElem?_set_ne (by decide), List.getElem?_set_ne (by decide), hi], List.getElem?_set_self (by rw [List.length_set, s.len]; show 5 < 8; decide), m1.other hlr, ⟨hl1, [], upd_same, .nil⟩, hlr, fun a o _ _ h => h, Ex.refl H1, fun _ _ => rfl, fun _ h => h⟩
  dsimp only
  refine wl_run (δ := [none, some (.int 6), some (.int n), some (.int way), some (.int t), none, none, none]) (ps := []) (N := fun δ ps => ∃ a b, δ = [none, some (.int 6), some (.int n), some (.int way), some (.int t), none, a, b] ∧ Okp n ps ∧ ps.length ≤ 36) ?_ S0 fun σ' H' G' δ' ps' e' S' hv => ?_
  · skip
    exact wl_for (dl := (rng n).map PyData.int) (j := 6) (fun i δ ps => ∃ a b, δ = [none, some (.int 6), some (.int n), some (.int way), some (.int t), none, a, b] ∧ Okp n ps ∧ ps.length ≤ i * n) (by decide) (by decide) (ei_rng (ea_cons (ev_var rfl) ea_nil) (by omega)) ⟨_, _, rfl, (fun p h => nomatch h), by simp⟩ (fun i d δ1 ps1 hd hv => by
      obtain ⟨a, b, rfl, ok, hl⟩ := hv
      obtain ⟨rfl, hin⟩ := rng_get hd
      exact wl_for (dl := (rng n).map PyData.int) (j := 7) (fun j δ ps => ∃ b, δ = [none, some (.int 6), some (.int n), some (.int way), some (.int t), none, some (.int (i : Int)), b] ∧ Okp n ps ∧ ps.length ≤ i * n + j) (by decide) (by decide) (ei_rng (ea_cons (ev_var rfl) ea_nil) (by omega)) ⟨_, rfl, ok, by omega⟩ (fun j d δ1 ps1 hd hv => by
        obtain ⟨b, rfl, ok, hl⟩ := hv
        obtain ⟨rfl, hjn⟩ := rng_get hd
        have hin6 : i * n ≤ 36 := Nat.le_trans (Nat.mul_le_mul (Nat.le_of_lt (Nat.lt_of_lt_of_le hin n6)) n6) (by decide)
        exact wl_ifapp (p := ((i : Int), (j : Int))) (emb_and (P := fun b => b = true → i ≠ j) (emb_pure (eb_test (ev_op rv_neI (ev_var rfl) (ev_var rfl))) fun hb => by
              have h2 : ¬ ((i : Int) = (j : Int)) := by simpa using hb
              omega) fun _ =>
            emb_or (emb_and (P := fun _ => True) (emb_pure (eb_test (ev_op rv_cmp (ev_var rfl) ev_int)) trivial) fun _ => emb_draw (ev_var rfl) t0 t1)
              (emb_and (P := fun _ => True) (emb_pure (eb_test (ev_op rv_eqI (ev_var rfl) ev_int)) trivial) fun _ => emb_and (P := fun _ => True) (emb_pure (eb_test (ev_op rv_cmp (ev_var rfl) (ev_var rfl))) trivial) fun _ => emb_draw ev_int (by decide) (by decide)))
          (ev_tup (ea_cons (ev_var rfl) (ea_cons (ev_var rfl) ea_nil)) (by simp))
          (fun hp => ⟨_, rfl, fun p hp2 => by
            rcases List.mem_append.mp hp2 with h | h
            · exact ok p h
            · rw [List.mem_singleton.mp h]
              have := hp rfl rfl
              refine ⟨⟨?_, ?_⟩, ⟨?_, ?_⟩, ?_⟩ <;> show _ <;> omega, by rw [List.length_append, List.length_singleton]; omega⟩) ⟨_, rfl, ok, by omega⟩ (by omega)) fun δ1 ps1 hv => by
        obtain ⟨b, rfl, ok, hl⟩ := hv
        rw [List.length_map, rng_len] at hl
        exact ⟨_, _, rfl, ok, by rw [Nat.add_mul, Nat.one_mul]; exact hl⟩) fun δ1 ps1 hv => by
      obtain ⟨a, b, rfl, ok, hl⟩ := hv
      rw [List.length_map, rng_len] at hl
      exact ⟨a, b, rfl, ok, Nat.le_trans hl (Nat.mul_le_mul n6 n6)⟩
  obtain ⟨a, b, rfl, okp, hlen⟩ := hv
  obtain ⟨vs, v1, v2⟩ := S'.mu.at_
  have hl' : H' l = none := S'.mu.hr
  have eH : Ex H' (upd H' l (.lst vs)) := Ex.new hl'
  have dl : Dp K (upd H' l (.lst vs)) (.ref l) (.list (ps'.map prD)) := .lst (sq_of upd_same) (dpAll_ex eH _ _ v2)
  have xG : Ex (upd H' l (.lst vs)) G' := fun y o h => by
    by_cases c : y = l
    · subst c
      rw [upd_same] at h
      rw [← h]
      exact v1
    · rw [upd_ne c] at h
      exact S'.x y o h
  have hG : ∀ y, G y ≠ none → y ≠ l := fun y hy c => g1.some hy (by rw [c]; exact hl)
  have gm : GM r H G (upd H' l (.lst vs)) G' := ⟨fun y o n h => S'.g y o n (hG y (by rw [h]; exact fun c => by cases c)) (by rw [upd_ne (hG y (by rw [h]; exact fun c => by cases c))]; exact g1.g y o n h), fun _ => S'.m.some, (g1.h.trans S'.h).trans eH, xG, fun y hy => by
    rw [upd_ne (hG y hy), S'.old y (by rw [upd_ne (hG y hy)]; exact g1.some hy), g1.old y hy]⟩
  refine wm_run (i := 0) (δ := [none, some (.int 6), some (.int n), some (.int way), some (.int t), some (.list (ps'.map prD)), a, b]) (Rt := PostW [.int 6]) ?_ (sl_read S'.s eH S'.hl dl) xG S'.hi (S'.m.known eH (by rw [upd_ne (Ne.symm hlr)]; exact S'.m.hr)) fun v d H2 G2 g2 m2 hv hp => qr v d H2 G2 (gm.trans g2) m2 hv hp
  · skip
    refine wm_seq (M := fun δ => ∃ ps a b, δ = [none, some (.int 6), some (.int n), some (.int way), some (.int t), some (.list (ps.map prD)), a, b] ∧ Okp n ps ∧ ps.length ≤ 36) (wm_if (P := fun _ => True) (emb_pure (eb_test (ev_op rv_cmp (ev_var rfl) ev_int)) trivial) (fun _ => ?_) fun _ => wm_nx ⟨ps', a, b, rfl, okp, hlen⟩) fun δ hv => ?_
    · refine wm_asg (js := [5]) (D := (· = .list ((((rng (n - 1)).map fun k => ((k, k + 1) : Int × Int)) ++ (if (decide (way = 5) && decide (1 < (n : Int))) = true then [((n : Int) - 1, 0)] else [])).map prD))) (by decide) (em_pure (ev_is (ev_op (rv_catL (ds := ((rng (n - 1)).map fun k => ((k, k + 1) : Int × Int)).map prD) (es := (if (decide (way = 5) && decide (1 < (n : Int))) = true then [((n : Int) - 1, 0)] else []).map prD) ?_)
        (ev_is (ev_lc (emb := PyData.int) (l := rng (n - 1)) (fun _ => true) (fun k => prD (k, k + 1)) (ei_rng (n := n - 1) (ea_cons (ev_is (ev_op rv_int (ev_var rfl) ev_int) ?_) ea_nil) (by omega)) (fun _ _ => eg_name) (by simp) (by rw [rng_len]; omega) (fun _ _ => eb_yes) (fun k _ _ => ev_tup (ea_cons (ev_var rfl) (ea_cons (ev_op rv_int (ev_var rfl) ev_int) ea_nil)) (by simp))) ?_)
        (ev_if (eb_and (eb_test (ev_op rv_eqI (ev_var rfl) ev_int)) fun _ => eb_test (ev_op rv_cmp (ev_var rfl) ev_int)) (fun hb => ?_) fun hb => ?_)) ?_) rfl) (fun d _ => eg_name) fun d hd => ?_
      · have : ((if (decide (way = 5) && decide (1 < (n : Int))) = true then [((n : Int) - 1, 0)] else [] : Arr)).length ≤ 1 := by split <;> simp
        rw [List.length_map, List.length_map, List.length_map, rng_len]
        omega
      · congr 1
        omega
      · rw [filter_true, List.map_map] <;> rfl
      · rw [if_pos hb]
        exact ev_lst (ea_cons (ev_tup (ea_cons (ev_op rv_int (ev_var rfl) ev_int) (ea_cons ev_int ea_nil)) (by simp)) ea_nil) (by simp)
      · rw [if_neg (by rw [hb]; exact Bool.false_ne_true)]
        exact ev_lst ea_nil (by decide)
      · rw [List.map_append]
      · subst hd
        refine ⟨_, a, b, rfl, fun p hp => ?_, ?_⟩
        · rcases List.mem_append.mp hp with h | h
          · obtain ⟨k, hk, rfl⟩ := List.mem_map.mp h
            obtain ⟨k0, k1⟩ := mem_rng.mp hk
            refine ⟨⟨?_, ?_⟩, ⟨?_, ?_⟩, ?_⟩ <;> show _ <;> omega
          · split at h
            · rename_i hc
              rw [List.mem_singleton.mp h]
              have hn : 1 < (n : Int) := by
                have := (Bool.and_eq_true _ _ ▸ hc).2
                exact of_decide_eq_true this
              refine ⟨⟨?_, ?_⟩, ⟨?_, ?_⟩, ?_⟩ <;> show _ <;> omega
            · cases h
        · have : ((if (decide (way = 5) && decide (1 < (n : Int))) = true then [((n : Int) - 1, 0)] else [] : Arr)).length ≤ 1 := by split <;> simp
          rw [List.length_append, List.length_map, rng_len]
          omega
    · obtain ⟨ps, a, b, rfl, ok, hl⟩ := hv
      refine wm_ret (em_tup2 (Da := (· = .int n)) (em_pure (ev_var rfl) rfl) (em_cb (Dz := fun d => ∃ l', d = arD l' ∧ (l'.Pairwise fun p q => lexLt [p.1, p.2] [q.1, q.2] = true) ∧ ∀ p, p ∈ l' → p ∈ ps) (fun z hz => ?_) (em_ssetP (l := ps) (ev_var rfl) (by omega) fun p hp => ?_))) fun d hd => ?_
      · obtain ⟨l', rfl, h1, h2⟩ := hz
        exact ⟨_, rc_tupL, l', rfl, h1, h2⟩
      · obtain ⟨h1, h2, _⟩ := ok p hp
        omega
      · obtain ⟨_, _, rfl, ⟨l', rfl, h1, h2⟩, rfl⟩ := hd
        exact ⟨n, l', rfl, ⟨⟨fun p hp => (ok p (h2 p hp)).2.2, fun p hp => ⟨(ok p (h2 p hp)).1, (ok p (h2 p hp)).2.1⟩⟩, n1, n6, h1⟩⟩
end
end Ld
set_option maxHeartbeats 4000000
namespace Ld
open PySem PySem.Spec PyProof.Rows L2
open Evl (Ex ex_l ex_t sq_of st_of fresh_back)
section
variable {P : Program} {w : World} {K : PySem.W.Frag} {mg : Str → Option Value} {base : Heap} {f : Addr} {fd : FuncData}

def spN (K : PySem.W.Frag) (Pre : List PD → Prop) (Post : List PD → PD → Prop) : Sp := fun vs G Q _ => ∃ H ds, Ex H G ∧ DpAll K H vs ds ∧ Pre ds ∧ ∀ v d H' G', Post ds d → Gr H G H' G' → Dp K H' v d → Q v G'
theorem em_callN {i : Nat} {δ : DS} {tr : TA} {ds : List PD} {Pre : List PD → Prop} {Post : List PD → PD → Prop} {E : XK} (ha : EvA K tr δ ds) (hp : Pre ds) : EM K i (tCall (spN K Pre Post) [] E tr) δ (Post ds) := fun r σ H G s x hi m Q q =>
  ha σ H G s x _ fun vs H1 G1 g1 h1 => by
    rw [List.append_nil]
    exact ⟨H1, ds, g1.hg, h1, hp, fun v d H2 G2 p2 g2 h2 => q v d H2 G2 (g1.trans g2).gm ((m.gr g1).gr g2) h2 p2⟩
theorem while_run {c : TT} {tb u : TS} {D : Ends} {σ : L2.St} {G : Hp} (W : Nat → L2.St → Hp → Prop) (m : Nat) (h0 : W m σ G)
    (hs : ∀ m σ G, W m σ G → c σ G fun b G1 => if b = true then ∃ N : L2.St → Hp → Prop, (∀ σ' G', N σ' G' → ∃ m', m' < m ∧ W m' σ' G') ∧ tb { nx := N, rt := D.rt, bk := u D, ct := N } σ G1 else u D σ G1) : tSeq (tWhile c tb) u D σ G := ⟨W, ⟨m, h0⟩, hs⟩
theorem Mu.freeze {l : Addr} {ds : List PD} {H0 G0 H G : Hp} (m : Mu K l ds H G) (b : Gr H0 G0 H G) (n : G0 l = none) : ∃ H', Gr H0 G0 H' G ∧ Ex H H' ∧ Dp K H' (.ref l) (.list ds) ∧ ∀ a, a ≠ l → H' a = H a := by
  obtain ⟨vs, h1, h2⟩ := m.at_
  have e := Ex.new (o := HO.lst vs) m.hr
  refine ⟨upd H l (.lst vs), ⟨b.g, b.h.trans e, fun a o h => ?_, fun a ha => ?_⟩, e, .lst (sq_of upd_same) (dpAll_ex e _ _ h2), fun a ha => upd_ne ha⟩
  · by_cases c : a = l
    · subst c
      rw [upd_same] at h
      rw [← h]
      exact h1
    · rw [upd_ne c] at h
      exact b.hg a o h
  · rw [upd_ne fun c => ha (by rw [c]; exact n)]
    exact b.old a ha
/-! ### _law_held_from: the search -/
structure Inv1 (n : Nat) (E : Arr) (held o : IL) (S R : List IL) : Prop where
  nd : S.Nodup
  h0 : o ∈ S
  vd : ∀ s ∈ S, Vd n s
  re : ∀ s ∈ S, Reach n E held o s
  sub : ∀ r ∈ R, r ∈ S
  cl : ∀ x ∈ S, x ∉ R → ∀ k ∈ lawDo n E x, k ∉ held → lawChanged x k ∈ S
structure Inv2 (n : Nat) (E : Arr) (held o : IL) (S R : List IL) (s : IL) (i : Nat) : Prop where
  nd : S.Nodup
  h0 : o ∈ S
  vd : ∀ s ∈ S, Vd n s
  re : ∀ s ∈ S, Reach n E held o s
  sub : ∀ r ∈ R, r ∈ S
  hs : s ∈ S
  cl : ∀ x ∈ S, x ∉ R → x ≠ s → ∀ k ∈ lawDo n E x, k ∉ held → lawChanged x k ∈ S
  dn : ∀ k ∈ (lawDo n E s).take i, k ∉ held → lawChanged s k ∈ S
theorem Inv1.pop {n : Nat} {E : Arr} {held o : IL} {S R : List IL} {s : IL} (h : Inv1 n E held o S (R ++ [s])) : Inv2 n E held o S R s 0 :=
  ⟨h.nd, h.h0, h.vd, h.re, fun r hr => h.sub r (List.mem_append_left _ hr), h.sub s (by simp), fun x hx hn hne => h.cl x hx fun c => by
    rcases List.mem_append.mp c with c | c
    · exact hn c
    · exact hne (List.mem_singleton.mp c), fun k hk => absurd hk (by simp)⟩
theorem Inv2.fin {n : Nat} {E : Arr} {held o : IL} {S R : List IL} {s : IL} (h : Inv2 n E held o S R s (lawDo n E s).length) : Inv1 n E held o S R := by
  refine ⟨h.nd, h.h0, h.vd, h.re, h.sub, fun x hx hn k hk hh => ?_⟩
  by_cases e : x = s
  · subst e
    exact h.dn k (by rw [List.take_length]; exact hk) hh
  · exact h.cl x hx hn e k hk hh
theorem Inv2.keep {n : Nat} {E : Arr} {held o : IL} {S R : List IL} {s : IL} {i : Nat} {k : Int} (h : Inv2 n E held o S R s i) (hk : (lawDo n E s)[i]? = some k) (hc : k ∉ held → lawChanged s k ∈ S) : Inv2 n E held o S R s (i + 1) := by
  refine ⟨h.nd, h.h0, h.vd, h.re, h.sub, h.hs, h.cl, fun k' hk' => ?_⟩
  rw [take_next hk] at hk'
  rcases List.mem_append.mp hk' with c | c
  · exact h.dn k' c
  · rw [List.mem_singleton.mp c]
    exact hc
theorem Inv2.add {n : Nat} {E : Arr} {held o : IL} {S R : List IL} {s : IL} {i : Nat} {k : Int} (W : Web n E) (h : Inv2 n E held o S R s i) (hk : (lawDo n E s)[i]? = some k) (hh : k ∉ held) (hn : lawChanged s k ∉ S) : Inv2 n E held o (S ++ [lawChanged s k]) (R ++ [lawChanged s k]) s (i + 1) := by
  have vs := h.vd s h.hs
  obtain ⟨hb, hd⟩ := (mem_lawDo W vs).mp (List.mem_of_getElem? hk)
  obtain ⟨v, f⟩ := flip_changed vs hb
  refine ⟨?_, List.mem_append_left _ h.h0, fun x hx => ?_, fun x hx => ?_, fun x hx => ?_, List.mem_append_left _ h.hs, fun x hx hnx hne k' hk' hh' => ?_, fun k' hk' hh' => ?_⟩
  · refine List.nodup_append.mpr ⟨h.nd, List.pairwise_singleton _ _, fun a ha b hb e => ?_⟩
    rw [List.mem_singleton] at hb
    exact hn (by rw [← hb, ← e]; exact ha)
  · rcases List.mem_append.mp hx with c | c
    · exact h.vd x c
    · rw [List.mem_singleton.mp c]
      exact v
  · rcases List.mem_append.mp hx with c | c
    · exact h.re x c
    · rw [List.mem_singleton.mp c]
      exact .step (h.re s h.hs) hd hh hb v f
  · rcases List.mem_append.mp hx with c | c
    · exact List.mem_append_left _ (h.sub x c)
    · exact List.mem_append_right _ c
  · rcases List.mem_append.mp hx with c | c
    · exact List.mem_append_left _ (h.cl x c (fun d => hnx (List.mem_append_left _ d)) hne k' hk' hh')
    · exact absurd (List.mem_append_right _ c) hnx
  · rw [take_next hk] at hk'
    rcases List.mem_append.mp hk' with c | c
    · exact List.mem_append_left _ (h.dn k' c hh')
    · rw [List.mem_singleton.mp c]
      exact List.mem_append_right _ (List.mem_singleton.mpr rfl)
structure SH (K : PySem.W.Frag) (l1 l2 : Addr) (H0 G0 : Hp) (σ : L2.St) (H G : Hp) (δ : DS) (S R : List IL) : Prop where
  s : Sl K H σ δ
  h3 : σ[3]? = some (some (.ref l1))
  h4 : σ[4]? = some (some (.ref l2))
  m1 : Mu K l1 (S.map tI) H G
  m2 : Mu K l2 (R.map tI) H G
  ne : l1 ≠ l2
  b : Gr H0 G0 H G
  n1 : G0 l1 = none
  n2 : G0 l2 = none
section
variable {l1 l2 : Addr} {H0 G0 H G H' G' : Hp} {σ : L2.St} {δ : DS} {S R : List IL}
theorem SH.gr (h : SH K l1 l2 H0 G0 σ H G δ S R) (g : Gr H G H' G') : SH K l1 l2 H0 G0 σ H' G' δ S R := ⟨h.s.ex g.h, h.h3, h.h4, h.m1.gr g, h.m2.gr g, h.ne, h.b.trans g, h.n1, h.n2⟩
theorem SH.growG (h : SH K l1 l2 H0 G0 σ H G δ S R) (e : Ex G G') : SH K l1 l2 H0 G0 σ H G' δ S R := h.gr ⟨e, Ex.refl H, h.b.hg.trans e, fun _ _ => rfl⟩
theorem gr_put {l : Addr} {o : HO} (b : Gr H0 G0 H G) (hl : H l = none) (n : G0 l = none) : Gr H0 G0 H (upd G l o) := ⟨fun a u e => by
  have : a ≠ l := fun c => by
    rw [c, n] at e
    cases e
  rw [upd_ne this]
  exact b.g a u e, b.h, Ex.chg b.hg hl, b.old⟩
theorem SH.put1 (h : SH K l1 l2 H0 G0 σ H G δ S R) {vs : List V} {S' : List IL} (hv : DpAll K H vs (S'.map tI)) : SH K l1 l2 H0 G0 σ H (upd G l1 (.lst vs)) δ S' R :=
  ⟨h.s, h.h3, h.h4, h.m1.put hv, h.m2.other h.ne, h.ne, gr_put h.b h.m1.hr h.n1, h.n1, h.n2⟩
theorem SH.put2 (h : SH K l1 l2 H0 G0 σ H G δ S R) {vs : List V} {R' : List IL} (hv : DpAll K H vs (R'.map tI)) : SH K l1 l2 H0 G0 σ H (upd G l2 (.lst vs)) δ S R' :=
  ⟨h.s, h.h3, h.h4, h.m1.other (Ne.symm h.ne), h.m2.put hv, h.ne, gr_put h.b h.m2.hr h.n2, h.n1, h.n2⟩
end
theorem dpAll_last {H : Hp} : ∀ {ds : List PD} {vs : List V} {d : PD}, DpAll K H vs (ds ++ [d]) → ∃ y, vs[vs.length - 1]? = some y ∧ Dp K H y d ∧ DpAll K H vs.dropLast ds
  | [], vs, d, h => by
    cases h with
    | cons h1 h2 =>
      cases h2
      exact ⟨_, rfl, h1, .nil⟩
  | e :: ds, vs, d, h => by
    cases h with
    | cons h1 h2 =>
      rename_i v vs
      obtain ⟨y, e1, e2, e3⟩ := dpAll_last h2
      have hl : vs.length = (ds ++ [d]).length := dpAll_len h2
      rw [List.length_append, List.length_singleton] at hl
      cases vs with
      | nil => cases hl
      | cons w ws => exact ⟨y, e1, e2, .cons h1 e3⟩
theorem sc_law_held_from : FnScope ["_law_web_here", "_law_opened", "_law_held", "_law_found", "_law_rows", "_law_door", "_law_there"] ["_law_web_here", "_law_opened", "_law_held"] (defScope s_law_held_from) := ⟨rfl, rfl, rfl, by decide +kernel, rfl, by decide +kernel, by decide +kernel⟩
def PreH (ds : List PD) : Prop := ∃ (n : Nat) (E : Arr) (o held : IL), ds = [webD n E, tI o, tI held] ∧ WebOk n E ∧ Vd n o
def PostH (ds : List PD) (d : PD) : Prop := ∃ (n : Nat) (E : Arr) (o held : IL) (S : List IL), ds = [webD n E, tI o, tI held] ∧ d = lT S ∧ Known n E held o S ∧ (∀ s ∈ S, Vd n s) ∧ S ≠ []
theorem sl_start3 {N : List Str} {H : Hp} {ds : List PD} {vs : List V} (h : DpAll K H vs ds) : Sl K H (L2.start N vs) (startD N ds) := sl_start h
theorem ok_law_held_from (c1 : Cal P w K mg base "_law_after" ["_law_web_here", "_law_opened"] 2 (spR K R_law_after)) (F : FnP K "_law_held_from" s_law_held_from f fd) : FnOk P w K mg base CX0 3 f fd ["_law_web_here", "_law_opened", "_law_held"] (spN K PreH PostH) := by
  refine F.ok sc_law_held_from (fun vs H Q E h => ?_) (fun cdv A outer s H vs Q E hr h => ⟨_, PSs.nox
    (pss_cons (ps_par (i := 3) (j := 4) rfl sc_law_held_from.nd rfl rfl (by decide) rfl rfl (pa_cons (pe_lst (pa_cons (pv 1) pa_nil)) (pa_cons (pe_lst (pa_cons (pv 1) pa_nil)) pa_nil)) (by rfl))
    (pss_cons (ps_while PassesOwn.never (pt_cmpR (o_neD K hr) (pv 4) (pe_lst pa_nil) (nomark _))
      (pss_one (ps_for PassesOwn.never rfl (pi_l K (pc c1 hr (by decide) (by rfl) (pa_cons (pv 0) (pa_cons (pe_bm0 PySem.F.plainAttrs_list PySem.F.slot_list_pop PySem.F.type_list_pop mt_pop (pv 4)) pa_nil)))) (pg_t K (n := 2) rfl (pgs_cons (pg_name (i := 5) sc_law_held_from.nd rfl (.inl rfl)) (pgs_cons (pg_name (i := 6) sc_law_held_from.nd rfl (.inl rfl)) pgs_nil)))
        (pss_one (ps_if (PW.pt (pw_and (pt_cmpR (o_ni K) (pv 5) (pv 2) rfl) (pw_and1 (pt_cmpR (o_niD K hr) (pv 6) (pv 3) rfl))))
          (pss_cons (ps_expr (pe_bm PySem.F.plainAttrs_list PySem.F.slot_list_append PySem.F.type_list_append mt_append (pv 3) (pa_cons (pv 6) pa_nil)))
          (pss_one (ps_expr (pe_bm PySem.F.plainAttrs_list PySem.F.slot_list_append PySem.F.type_list_append mt_append (pv 4) (pa_cons (pv 6) pa_nil))))) pss_nil)))))
    (pss_one (ps_ret (pv 3))))), ?_⟩)
  · obtain ⟨H1, ds, _, h1, ⟨_, _, _, _, rfl, _⟩, _⟩ := h
    rw [dpAll_len h1]
    rfl
  · obtain ⟨H1, ds, x1, h1, ⟨n, Ar, o, held, rfl, ok, vo⟩, q⟩ := h
    have h6 := ok.hi
    have s0 := sl_start (N := ["_law_web_here", "_law_opened", "_law_held", "_law_found", "_law_rows", "_law_door", "_law_there"]) h1
    have hl := dpAll_len h1
    obtain ⟨v1, e1, hv1⟩ := s0.at_ 1 (tI o) rfl
    refine ⟨v1, e1, by show 1 ≤ sizeLine; decide, fun l1 hl1 => ⟨v1, e1, by show 1 ≤ sizeLine; decide, fun l2 hl2 => ⟨.ref l1, .ref l2, rfl, ?_⟩⟩⟩
    have ne : l1 ≠ l2 := fun c => by
      rw [← c, upd_same] at hl2
      cases hl2
    have n2 : H l2 = none := by
      rw [upd_ne (Ne.symm ne)] at hl2
      exact hl2
    have k1 : H1 l1 = none := ex_none x1 hl1
    have k2 : H1 l2 = none := ex_none x1 n2
    have b1 : Gr H1 H H1 (upd H l1 (.lst [v1])) := gr_put (Gr.refl x1) k1 hl1
    have b2 : Gr H1 H H1 (upd (upd H l1 (.lst [v1])) l2 (.lst [v1])) := gr_put b1 k2 n2
    have lenσ : (L2.start ["_law_web_here", "_law_opened", "_law_held", "_law_found", "_law_rows", "_law_door", "_law_there"] vs).length = 7 := s0.len
    have S0 : SH K l1 l2 H1 H (((L2.start ["_law_web_here", "_law_opened", "_law_held", "_law_found", "_law_rows", "_law_door", "_law_there"] vs).set 3 (some (.ref l1))).set 4 (some (.ref l2))) H1 (upd (upd H l1 (.lst [v1])) l2 (.lst [v1])) [some (webD n Ar), some (tI o), some (tI held), none, none, none, none] [o] [o] :=
      ⟨(s0.hide _ 3).hide _ 4, by rw [List.getElem?_set_ne (by decide), List.getElem?_set_self (by rw [lenσ]; decide)], List.getElem?_set_self (by rw [List.length_set, lenσ]; decide), ⟨k1, [v1], by rw [upd_ne ne, upd_same], .cons hv1 .nil⟩, ⟨k2, [v1], upd_same, .cons hv1 .nil⟩, ne, b2, hl1, n2⟩
    have i0 : Inv1 n Ar held o [o] [o] := ⟨List.pairwise_singleton _ _, by simp, fun s hs => by rw [List.mem_singleton.mp hs]; exact vo, fun s hs => by rw [List.mem_singleton.mp hs]; exact .refl, fun r hr => hr, fun x hx hn => absurd hx hn⟩
    dsimp only
    refine while_run (fun m σ G => ∃ Hk a b S R, SH K l1 l2 H1 H σ Hk G [some (webD n Ar), some (tI o), some (tI held), none, none, a, b] S R ∧ Inv1 n Ar held o S R ∧ R.length ≤ S.length ∧ 2 * (64 - S.length) + R.length = m) (2 * (64 - 1) + 1) ⟨H1, _, _, _, _, S0, i0, Nat.le_refl _, rfl⟩ fun m σ G hw => ?_
    obtain ⟨Hk, a, b, S, R, sh, iv, hRS, hm⟩ := hw
    refine rd_test (i := 4) (δ := [some (webD n Ar), some (tI o), some (tI held), none, none, a, b]) (ds := R.map tI) (b := !decide (R = [])) (eb_test (ev_op (rv_neNil (f := tI) (shp_lT R)) (ev_var rfl) (ev_lst ea_nil (by decide)))) sh.s sh.b.hg sh.h4 sh.m2 fun G1 e1 => ?_
    have sh1 := sh.growG e1
    by_cases hR : R = []
    · rw [show (!decide (R = [])) = false by simp [hR], if_neg Bool.false_ne_true]
      obtain ⟨Hf, gf, _, df, _⟩ := sh1.m1.freeze sh1.b sh1.n1
      refine ⟨.ref l1, sh1.h3, q (.ref l1) (lT S) Hf G1 ⟨n, Ar, o, held, S, rfl, rfl, known_of ok.web vo iv.nd iv.h0 iv.re fun s hs => iv.cl s hs (by rw [hR]; simp), iv.vd, fun c => ?_⟩ gf df⟩
      have := iv.h0
      rw [c] at this
      cases this
    · rw [show (!decide (R = [])) = true by simp [hR], if_pos rfl]
      refine ⟨_, fun σ' G' h => h, ?_⟩
      obtain ⟨R0, s0', rfl⟩ : ∃ R0 s0', R = R0 ++ [s0'] := ⟨R.dropLast, R.getLast hR, (List.dropLast_concat_getLast hR).symm⟩
      obtain ⟨vs2, a2, d2⟩ := sh1.m2.at_
      rw [List.map_append] at d2
      obtain ⟨y, yl, hy, hdrop⟩ := dpAll_last d2
      obtain ⟨v0, ev0, hv0⟩ := sh1.s.at_ 0 (webD n Ar) rfl
      have sh2 := sh1.put2 (R' := R0) hdrop
      have vs0 : Vd n s0' := iv.vd s0' (iv.sub s0' (by simp))
      have hlR : (R0 ++ [s0']).length = R0.length + 1 := by simp
      refine ⟨v0, ev0, .ref l2, sh1.h4, .inl ⟨rfl, vs2, sq_of a2⟩, l2, vs2, y, rfl, rfl, a2, yl, ?_⟩
      refine ⟨Hk, [webD n Ar, tI s0'], .list ((lawDo n Ar s0').map (afD s0')), sh2.b.hg, .cons hv0 (.cons hy .nil), ⟨n, Ar, s0', rfl, by omega, vs0, rfl⟩, fun v H3 G3 g3 hv => ?_⟩
      obtain ⟨aa, xs, rfl, hsq, Wk⟩ := wk_list hv
      refine ⟨aa, rfl, ⟨xs, ex_l g3.hg hsq⟩, ?_⟩
      have sh3 := sh2.gr g3
      unfold WkD at Wk
      rw [List.length_map] at Wk
      refine for_it Wk (fun i σ G => ∃ Hk a b S R, Ex H3 Hk ∧ SH K l1 l2 H1 H σ Hk G [some (webD n Ar), some (tI o), some (tI held), none, none, a, b] S R ∧ Inv2 n Ar held o S R s0' i ∧ R.length ≤ S.length ∧ 2 * (64 - S.length) + R.length < m) ⟨H3, a, b, S, R0, Ex.refl H3, sh3, iv.pop, by omega, by omega⟩ (fun i σ G _ p => ?_) (fun i x σ G G4 hi p yy => ?_) fun σ G p => ?_
      · obtain ⟨Hk, a, b, S, R, ex, sh, _⟩ := p
        exact ex.trans sh.b.hg
      · obtain ⟨Hk, a, b, S, R, ex, sh, iv, hRS, hm⟩ := p
        obtain ⟨Hk4, d, g4, hd', hx⟩ := yy Hk ex sh.b.hg
        rw [List.getElem?_map] at hd'
        obtain ⟨k, hk, rfl⟩ := Option.map_eq_some_iff.mp hd'
        have sh4 := sh.gr g4
        refine eg_pair (a := .int k) (b := tI (lawChanged s0' k)) σ Hk4 G4 x sh4.s sh4.b.hg hx _ fun σ5 s5 hw5 => ?_
        have sh5 : SH K l1 l2 H1 H σ5 Hk4 G4 [some (webD n Ar), some (tI o), some (tI held), none, none, some (.int k), some (tI (lawChanged s0' k))] S R := ⟨s5, by rw [keeps_of hw5 (by decide)]; exact sh4.h3, by rw [keeps_of hw5 (by decide)]; exact sh4.h4, sh4.m1, sh4.m2, sh4.ne, sh4.b, sh4.n1, sh4.n2⟩
        refine rd_test (i := 3) (δ := [some (webD n Ar), some (tI o), some (tI held), none, none, some (.int k), some (tI (lawChanged s0' k))]) (ds := S.map tI) (b := !decide (k ∈ held) && !decide (lawChanged s0' k ∈ S)) (eb_and (eb_test (ev_op rv_niT (ev_var rfl) (ev_var rfl))) fun _ => eb_test (ev_op rv_niT2 (ev_var rfl) (ev_var rfl))) sh5.s sh5.b.hg sh5.h3 sh5.m1 fun G6 e6 => ?_
        have sh6 := sh5.growG e6
        by_cases hc : k ∉ held ∧ lawChanged s0' k ∉ S
        · rw [show (!decide (k ∈ held) && !decide (lawChanged s0' k ∈ S)) = true by simp [hc.1, hc.2], if_pos rfl]
          obtain ⟨v6, ev6, hv6⟩ := sh6.s.at_ 6 (tI (lawChanged s0' k)) rfl
          have iv' := iv.add ok.web hk hc.1 hc.2
          have hS : (S ++ [lawChanged s0' k]).length ≤ 64 := Nat.le_trans (vd_len iv'.nd iv'.vd) (pow6 h6)
          rw [List.length_append, List.length_singleton] at hS
          obtain ⟨vs1, a1, d1⟩ := sh6.m1.at_
          have sh7 := sh6.put1 (S' := S ++ [lawChanged s0' k]) (vs := vs1 ++ [v6]) (by rw [List.map_append]; exact dpAll_app d1 (.cons hv6 .nil))
          obtain ⟨ws2, b2', c2⟩ := sh7.m2.at_
          have sh8 := sh7.put2 (R' := R ++ [lawChanged s0' k]) (vs := ws2 ++ [v6]) (by rw [List.map_append]; exact dpAll_app c2 (.cons hv6 .nil))
          refine ⟨.ref l1, sh6.h3, .inl ⟨rfl, vs1, sq_of a1⟩, v6, ev6, l1, vs1, v6, rfl, rfl, a1, ?_, ?_⟩
          · rw [dpAll_len d1, List.length_map, sizeLine_eq]
            omega
          refine ⟨.ref l2, sh7.h4, .inl ⟨rfl, ws2, sq_of b2'⟩, v6, ev6, l2, ws2, v6, rfl, rfl, b2', ?_, ?_⟩
          · rw [dpAll_len c2, List.length_map, sizeLine_eq]
            omega
          refine ⟨Hk4, _, _, _, _, ex.trans g4.h, sh8, iv', ?_, ?_⟩ <;> simp only [List.length_append, List.length_singleton] <;> omega
        · rw [show (!decide (k ∈ held) && !decide (lawChanged s0' k ∈ S)) = false by
            by_cases h1 : k ∈ held
            · simp [h1]
            · by_cases h2 : lawChanged s0' k ∈ S
              · simp [h2]
              · exact absurd ⟨h1, h2⟩ hc, if_neg Bool.false_ne_true]
          exact ⟨Hk4, _, _, _, _, ex.trans g4.h, sh6, iv.keep hk fun h1 => Classical.byContradiction fun h2 => hc ⟨h1, h2⟩, hRS, hm⟩
      · obtain ⟨Hk, a, b, S, R, ex, sh, iv, hRS, hm⟩ := p
        exact ⟨_, hm, Hk, a, b, S, R, sh, iv.fin, hRS, rfl⟩
end
end Ld
set_option maxHeartbeats 4000000
namespace Ld
open PySem PySem.Spec PyProof.Rows L2
open Evl (Ex ex_l ex_t sq_of st_of fresh_back)
section
variable {P : Program} {w : World} {K : PySem.W.Frag} {mg : Str → Option Value} {base : Heap} {f : Addr} {fd : FuncData}

/-! ### _law_from -/
structure SF (P : Program) (w : World) (K : PySem.W.Frag) (d : Addr) (H0 G0 : Hp) (σ : L2.St) (H G : Hp) (δ : DS) (S : List IL) : Prop where
  s : Sl K H σ δ
  h2 : σ[2]? = some (some (.ref d))
  hd : H d = none
  fd : ∃ L, G d = some (DtO P w d L) ∧ KeysOf K H L S
  b : Gr H0 G0 H G
  n1 : G0 d = none
structure SM (K : PySem.W.Frag) (lm : Addr) (G0 : Hp) (σ : L2.St) (H G : Hp) (M : List IL) : Prop where
  h4 : σ[4]? = some (some (.ref lm))
  mm : Mu K lm (M.map tI) H G
  n2 : G0 lm = none
section
variable {d lm : Addr} {H0 G0 H G H' G' : Hp} {σ : L2.St} {δ : DS} {S M : List IL}
theorem SF.gr (h : SF P w K d H0 G0 σ H G δ S) (g : Gr H G H' G') : SF P w K d H0 G0 σ H' G' δ S := by
  obtain ⟨L, e1, e2⟩ := h.fd
  exact ⟨h.s.ex g.h, h.h2, (g.old d (by rw [e1]; exact fun c => by cases c)).trans h.hd, ⟨L, g.g d _ e1, e2.ex g.h⟩, h.b.trans g, h.n1⟩
theorem SM.gr (h : SM K lm G0 σ H G M) (g : Gr H G H' G') : SM K lm G0 σ H' G' M := ⟨h.h4, h.mm.gr g, h.n2⟩
theorem keys_len {L : KL} (h : KeysOf K H L S) : L.length = S.length := by
  unfold KeysOf at h
  exact Paired.length h
theorem keys_snoc {L : KL} (h : KeysOf K H L S) {s : IL} {b : Addr} {n : Int} {t : Tok} (hb : SqT K H b (s.map V.int)) : KeysOf K H (L ++ [(kl s, b, Value.int n t)]) (S ++ [s]) := Paired.snoc h ⟨rfl, hb, n, t, rfl⟩
end
def spF (P : Program) (w : World) (K : PySem.W.Frag) : Sp := fun vs G Q _ => ∃ (H : Hp) (n : Nat) (E : Arr) (o : IL), Ex H G ∧ DpAll K H vs [webD n E, tI o] ∧ WebOk n E ∧ Vd n o ∧
  ∀ (a : Addr) (L : KL) (S : List IL) (H' G' : Hp), Gr H G H' G' → H' a = none → G' a = some (DtO P w a L) → KeysOf K H' L S → S ≠ [] → (∀ s ∈ S, Vd n s) → S.length ≤ 64 → Q (.ref a) G'
theorem sc_law_from : FnScope ["_law_web_here", "_law_opened", "_law_found", "_law_rows", "_law_more", "_law_here", "_law_door", "_law_there"] ["_law_web_here", "_law_opened"] (defScope s_law_from) := ⟨rfl, rfl, rfl, by decide +kernel, rfl, by decide +kernel, by decide +kernel⟩
theorem ok_law_from (c1 : Cal P w K mg base "_law_after" ["_law_web_here", "_law_opened"] 2 (spR K R_law_after)) (F : FnP K "_law_from" s_law_from f fd) : FnOk P w K mg base CX0 3 f fd ["_law_web_here", "_law_opened"] (spF P w K) := by
  refine F.ok sc_law_from (fun vs H Q E h => ?_) (fun cdv A outer s H vs Q E hr h => ⟨_, PSs.nox
    (pss_cons (ps_par (i := 2) (j := 3) rfl sc_law_from.nd rfl rfl (by decide) rfl rfl (pa_cons (pe_dispDt K P w hr (pv 1) pe_int) (pa_cons (pe_lst (pa_cons (pv 1) pa_nil)) pa_nil)) (by rfl))
    (pss_cons (ps_while PassesOwn.never (pt_cmpR (o_neD K hr) (pv 3) (pe_lst pa_nil) (nomark _))
      (pss_cons (ps_set (i := 4) sc_law_from.nd rfl (.inl rfl) (pe_lst pa_nil))
      (pss_cons (ps_for PassesOwn.never rfl (pi_l K (pv 3)) (pg_name (i := 5) sc_law_from.nd rfl (.inl rfl))
        (pss_one (ps_for PassesOwn.never rfl (pi_l K (pc c1 hr (by decide) (by rfl) (pa_cons (pv 0) (pa_cons (pv 5) pa_nil)))) (pg_t K (n := 2) rfl (pgs_cons (pg_name (i := 6) sc_law_from.nd rfl (.inl rfl)) (pgs_cons (pg_name (i := 7) sc_law_from.nd rfl (.inl rfl)) pgs_nil)))
          (pss_one (ps_if (pt_cmpR (o_niDt K P w hr) (pv 7) (pv 2) rfl)
            (pss_cons (ps_asg (pe_op op_add (pe_ix (i_dt K P w hr) (pv 2) (pv 5) (fun _ _ => rfl)) pe_int) (pg_sub (pv 2) (pv 7) (set_dt K P w hr)))
            (pss_one (ps_expr (pe_bm PySem.F.plainAttrs_list PySem.F.slot_list_append PySem.F.type_list_append mt_append (pv 4) (pa_cons (pv 7) pa_nil))))) pss_nil)))))
      (pss_one (ps_set (i := 3) sc_law_from.nd rfl (.inl rfl) (pv 4))))))
    (pss_one (ps_ret (pv 2))))), ?_⟩)
  · obtain ⟨H1, n, E, o, _, h1, _⟩ := h
    rw [dpAll_len h1]
    rfl
  · obtain ⟨H1, n, Ar, o, x1, h1, ok, vo, q⟩ := h
    have h6 := ok.hi
    have s0 := sl_start (N := ["_law_web_here", "_law_opened", "_law_found", "_law_rows", "_law_more", "_law_here", "_law_door", "_law_there"]) h1
    obtain ⟨v1, e1, hv1⟩ := s0.at_ 1 (tI o) rfl
    obtain ⟨bo, rfl, hbo⟩ := intsT_of (l := o) hv1
    have lenσ : (L2.start ["_law_web_here", "_law_opened", "_law_found", "_law_rows", "_law_more", "_law_here", "_law_door", "_law_there"] vs).length = 8 := s0.len
    intro d hd
    have kd : H1 d = none := ex_none x1 hd
    have x2 : Ex H (upd H d (DtO P w d [])) := Ex.new hd
    refine ⟨.ref bo, e1, upd_same, bo, o, 0, rfl, rfl, ex_t x2 (ex_t x1 hbo), fun t => ⟨.ref bo, e1, by show 1 ≤ sizeLine; decide, fun l2 hl2 => ⟨.ref d, .ref l2, rfl, ?_⟩⟩⟩
    have b1 : Gr H1 H H1 (upd (upd H d (DtO P w d [])) d (DtO P w d [(kl o, bo, Value.int 0 t)])) := gr_put (gr_put (Gr.refl x1) kd hd) kd hd
    have b2 : Gr H1 (upd (upd H d (DtO P w d [])) d (DtO P w d [(kl o, bo, Value.int 0 t)])) (upd H1 l2 (.lst [.ref bo])) (upd (upd (upd H d (DtO P w d [])) d (DtO P w d [(kl o, bo, Value.int 0 t)])) l2 (.lst [.ref bo])) := Gr.new b1.hg hl2
    have nd : d ≠ l2 := fun c => by
      rw [← c, upd_same] at hl2
      cases hl2
    have S0 : SF P w K d H1 H (((L2.start ["_law_web_here", "_law_opened", "_law_found", "_law_rows", "_law_more", "_law_here", "_law_door", "_law_there"] vs).set 2 (some (.ref d))).set 3 (some (.ref l2))) (upd H1 l2 (.lst [.ref bo])) (upd (upd (upd H d (DtO P w d [])) d (DtO P w d [(kl o, bo, Value.int 0 t)])) l2 (.lst [.ref bo]))
        [some (webD n Ar), some (tI o), none, some (lT [o]), none, none, none, none] [o] :=
      ⟨((s0.ex b2.h).hide _ 2).set (d := lT [o]) (.lst (sq_of upd_same) (.cons (dp_ex b2.h _ _ hv1) .nil)) 3, by rw [List.getElem?_set_ne (by decide), List.getElem?_set_self (by rw [lenσ]; decide)], by rw [upd_ne nd]; exact kd, ⟨_, by rw [upd_ne nd, upd_same], .cons ⟨rfl, ex_t b2.h hbo, 0, t, rfl⟩ .nil⟩, b1.trans b2, hd⟩
    dsimp only
    refine while_run (fun m σ G => ∃ Hk a b c e S R, SF P w K d H1 H σ Hk G [some (webD n Ar), some (tI o), none, some (lT R), a, b, c, e] S ∧ S.Nodup ∧ S ≠ [] ∧ (∀ s ∈ S, Vd n s) ∧ (∀ r ∈ R, r ∈ S) ∧ 2 * (64 - S.length) + (if R = [] then 0 else 1) = m) (2 * (64 - 1) + 1)
      ⟨_, _, _, _, _, [o], [o], S0, List.pairwise_singleton _ _, by simp, fun s hs => by rw [List.mem_singleton.mp hs]; exact vo, fun r hr => hr, by simp⟩ fun m σ G hw => ?_
    obtain ⟨Hk, a, b, c, e, S, R, sf, nds, hne, hvd, hsub, hm⟩ := hw
    refine eb_test (ev_op (rv_neNil (f := tI) (shp_lT R)) (ev_var rfl) (ev_lst ea_nil (by decide))) σ Hk G sf.s sf.b.hg _ fun H2 G2 g2 => ?_
    have sf2 := sf.gr g2
    have hS64 : S.length ≤ 64 := Nat.le_trans (vd_len nds hvd) (pow6 h6)
    by_cases hR : R = []
    · rw [show (!decide (R = [])) = false by simp [hR], if_neg Bool.false_ne_true]
      obtain ⟨L, f1, f2⟩ := sf2.fd
      exact ⟨.ref d, sf2.h2, q d L S H2 G2 sf2.b sf2.hd f1 f2 hne hvd hS64⟩
    · rw [show (!decide (R = [])) = true by simp [hR], if_pos rfl]
      rw [if_neg hR] at hm
      refine ⟨_, fun σ' G' h => h, ?_⟩
      -- more = []
      refine ⟨by show 0 ≤ sizeLine; decide, fun lm hlm => ?_⟩
      obtain ⟨L2, f1, f2⟩ := sf2.fd
      have ndl : d ≠ lm := fun c => by
        rw [← c, f1] at hlm
        cases hlm
      have n2 : H lm = none := ex_none sf2.b.g hlm
      have klm : H2 lm = none := ex_none sf2.b.hg hlm
      have sm : SM K lm H (σ.set 4 (some (.ref lm))) H2 (upd G2 lm (.lst [])) [] := ⟨List.getElem?_set_self (by rw [sf2.s.len]; show 4 < 8; decide), ⟨klm, [], upd_same, .nil⟩, n2⟩
      have sf3 : SF P w K d H1 H (σ.set 4 (some (.ref lm))) H2 (upd G2 lm (.lst [])) [some (webD n Ar), some (tI o), none, some (lT R), none, b, c, e] S :=
        ⟨sf2.s.hide _ 4, by rw [List.getElem?_set_ne (by decide)]; exact sf2.h2, sf2.hd, ⟨L2, by rw [upd_ne ndl]; exact f1, f2⟩, gr_put sf2.b klm n2, sf2.n1⟩
      -- for here in rows
      obtain ⟨v3, ev3, hv3⟩ := sf3.s.at_ 3 (lT R) rfl
      obtain ⟨ar, xr, rfl, hsq, Wk⟩ := wk_list hv3
      refine ⟨.ref ar, ev3, ar, rfl, ⟨xr, ex_l sf3.b.hg hsq⟩, ?_⟩
      unfold WkD at Wk
      rw [List.length_map] at Wk
      refine for_it Wk (fun i σ G => ∃ Hk b c e M, Ex H2 Hk ∧ SF P w K d H1 H σ Hk G [some (webD n Ar), some (tI o), none, some (lT R), none, b, c, e] (S ++ M) ∧ SM K lm H σ Hk G M ∧ (S ++ M).Nodup ∧ ∀ s ∈ S ++ M, Vd n s) ⟨H2, b, c, e, [], Ex.refl H2, by rw [List.append_nil]; exact sf3, sm, by rw [List.append_nil]; exact nds, by rw [List.append_nil]; exact hvd⟩ (fun i σ G _ p => ?_) (fun i x σ G G4 hi p yy => ?_) fun σ G p => ?_
      · obtain ⟨Hk, b, c, e, M, ex, sf, _⟩ := p
        exact ex.trans sf.b.hg
      · obtain ⟨Hk, b, c, e, M, ex, sf, sm, nd2, vd2⟩ := p
        obtain ⟨Hk4, dd, g4, hd', hx⟩ := yy Hk ex sf.b.hg
        rw [List.getElem?_map] at hd'
        obtain ⟨here, hk, rfl⟩ := Option.map_eq_some_iff.mp hd'
        have hmem : here ∈ S := hsub here (List.mem_of_getElem? hk)
        have vh : Vd n here := hvd here hmem
        have sf4 := sf.gr g4
        have sm4 := sm.gr g4
        obtain ⟨bh, rfl, hbh⟩ := intsT_of (l := here) hx
        show tFor _ _ _ _ (σ.set 5 (some (V.ref bh))) G4
        have sf5 : SF P w K d H1 H (σ.set 5 (some (V.ref bh))) Hk4 G4 [some (webD n Ar), some (tI o), none, some (lT R), none, some (tI here), c, e] (S ++ M) := ⟨sf4.s.set (d := tI here) hx 5, by rw [List.getElem?_set_ne (by decide)]; exact sf4.h2, sf4.hd, sf4.fd, sf4.b, sf4.n1⟩
        have sm5 : SM K lm H (σ.set 5 (some (V.ref bh))) Hk4 G4 M := ⟨by rw [List.getElem?_set_ne (by decide)]; exact sm4.h4, sm4.mm, sm4.n2⟩
        obtain ⟨v0, ev0, hv0⟩ := sf5.s.at_ 0 (webD n Ar) rfl
        obtain ⟨v5, ev5, hv5⟩ := sf5.s.at_ 5 (tI here) rfl
        refine ⟨v0, ev0, v5, ev5, Hk4, [webD n Ar, tI here], .list ((lawDo n Ar here).map (afD here)), sf5.b.hg, .cons hv0 (.cons hv5 .nil), ⟨n, Ar, here, rfl, by omega, vh, rfl⟩, fun v H6 G6 g6 hv => ?_⟩
        obtain ⟨aa, xs, rfl, hsq6, Wk6⟩ := wk_list hv
        refine ⟨aa, rfl, ⟨xs, ex_l g6.hg hsq6⟩, ?_⟩
        have sf6 := sf5.gr g6
        have sm6 := sm5.gr g6
        unfold WkD at Wk6
        rw [List.length_map] at Wk6
        refine for_it Wk6 (fun i σ G => ∃ Hk c e M, Ex H6 Hk ∧ SF P w K d H1 H σ Hk G [some (webD n Ar), some (tI o), none, some (lT R), none, some (tI here), c, e] (S ++ M) ∧ SM K lm H σ Hk G M ∧ (S ++ M).Nodup ∧ ∀ s ∈ S ++ M, Vd n s) ⟨H6, c, e, M, Ex.refl H6, sf6, sm6, nd2, vd2⟩ (fun i σ G _ p => ?_) (fun i x σ G G7 hi p yy => ?_) fun σ G p => ?_
        · obtain ⟨Hk, c, e, M, ex, sf, _⟩ := p
          exact ex.trans sf.b.hg
        · obtain ⟨Hk7, c, e, M, ex, sf, sm, nd2, vd2⟩ := p
          obtain ⟨Hk8, dd, g8, hd', hx⟩ := yy Hk7 ex sf.b.hg
          rw [List.getElem?_map] at hd'
          obtain ⟨k, hk, rfl⟩ := Option.map_eq_some_iff.mp hd'
          have sf8 := sf.gr g8
          have sm8 := sm.gr g8
          obtain ⟨hbk, _⟩ := (mem_lawDo ok.web vh).mp (List.mem_of_getElem? hk)
          have vt := (flip_changed vh hbk).1
          refine eg_pair (a := .int k) (b := tI (lawChanged here k)) σ Hk8 G7 x sf8.s sf8.b.hg hx _ fun σ9 s9 hw9 => ?_
          have sf9 : SF P w K d H1 H σ9 Hk8 G7 [some (webD n Ar), some (tI o), none, some (lT R), none, some (tI here), some (.int k), some (tI (lawChanged here k))] (S ++ M) := ⟨s9, by rw [keeps_of hw9 (by decide)]; exact sf8.h2, sf8.hd, sf8.fd, sf8.b, sf8.n1⟩
          have sm9 : SM K lm H σ9 Hk8 G7 M := ⟨by rw [keeps_of hw9 (by decide)]; exact sm8.h4, sm8.mm, sm8.n2⟩
          obtain ⟨v7, ev7, hv7⟩ := sf9.s.at_ 7 (tI (lawChanged here k)) rfl
          obtain ⟨bt, rfl, hbt⟩ := intsT_of (l := lawChanged here k) hv7
          obtain ⟨v5, ev5, hv5⟩ := sf9.s.at_ 5 (tI here) rfl
          obtain ⟨bh5, rfl, hbh5⟩ := intsT_of (l := here) hv5
          obtain ⟨L, f1, f2⟩ := sf9.fd
          have xg := sf9.b.hg
          refine ⟨.ref bt, ev7, .ref d, sf9.h2, bt, lawChanged here k, d, L, S ++ M, rfl, rfl, ex_t xg hbt, f1, f2.ex xg, _, rfl, ?_⟩
          show if (!decide (lawChanged here k ∈ S ++ M)) = true then _ else _
          by_cases hc : lawChanged here k ∈ S ++ M
          · rw [show (!decide (lawChanged here k ∈ S ++ M)) = false by simp only [decide_eq_true hc, Bool.not_true], if_neg Bool.false_ne_true]
            exact ⟨Hk8, _, _, M, ex.trans g8.h, sf9, sm9, nd2, vd2⟩
          · rw [show (!decide (lawChanged here k ∈ S ++ M)) = true by simp only [decide_eq_false hc, Bool.not_false], if_pos rfl]
            have nd3 : (S ++ (M ++ [lawChanged here k])).Nodup := by
              rw [← List.append_assoc]
              refine List.nodup_append.mpr ⟨nd2, List.pairwise_singleton _ _, fun a ha b hb e => ?_⟩
              rw [List.mem_singleton] at hb
              exact hc (by rw [← hb, ← e]; exact ha)
            have vd3 : ∀ s ∈ S ++ (M ++ [lawChanged here k]), Vd n s := fun s hs => by
              rw [← List.append_assoc] at hs
              rcases List.mem_append.mp hs with h | h
              · exact vd2 s h
              · rw [List.mem_singleton.mp h]
                exact vt
            have h64 : (S ++ (M ++ [lawChanged here k])).length ≤ 64 := Nat.le_trans (vd_len nd3 vd3) (pow6 h6)
            simp only [List.length_append, List.length_singleton] at h64
            have hLl := keys_len f2
            rw [List.length_append] at hLl
            refine ⟨.ref d, sf9.h2, .ref bh5, ev5, bh5, here, d, L, S ++ M, rfl, rfl, ex_t xg hbh5, f1, f2.ex xg, List.mem_append_left _ hmem, fun nn => ⟨nn, 1, rfl, rfl, .ref d, sf9.h2, .ref bt, ev7, bt, lawChanged here k, d, L, S ++ M, nn + 1, rfl, rfl, rfl, ex_t xg hbt, f1, f2.ex xg, hc, ?_, fun t => ?_⟩⟩
            · rw [hLl, sizeLine_eq]
              omega
            have hdm : d ≠ lm := fun c => by
              obtain ⟨vs, q1, _⟩ := sm9.mm.at_
              rw [← c, f1] at q1
              cases q1
            have sf10 : SF P w K d H1 H σ9 Hk8 (upd G7 d (DtO P w d (L ++ [(kl (lawChanged here k), bt, Value.int (nn + 1) t)]))) [some (webD n Ar), some (tI o), none, some (lT R), none, some (tI here), some (.int k), some (tI (lawChanged here k))] (S ++ (M ++ [lawChanged here k])) :=
              ⟨sf9.s, sf9.h2, sf9.hd, ⟨_, upd_same, by rw [← List.append_assoc]; exact keys_snoc f2 hbt⟩, gr_put sf9.b sf9.hd sf9.n1, sf9.n1⟩
            obtain ⟨ws, m1, m2⟩ := (sm9.mm.other (o := DtO P w d (L ++ [(kl (lawChanged here k), bt, Value.int (nn + 1) t)])) hdm).at_
            refine ⟨.ref lm, sm9.h4, .inl ⟨rfl, ws, sq_of m1⟩, .ref bt, ev7, lm, ws, .ref bt, rfl, rfl, m1, ?_, ?_⟩
            · rw [dpAll_len m2, List.length_map, sizeLine_eq]
              omega
            have mm11 : Mu K lm ((M ++ [lawChanged here k]).map tI) Hk8 (upd (upd G7 d (DtO P w d (L ++ [(kl (lawChanged here k), bt, Value.int (nn + 1) t)]))) lm (.lst (ws ++ [V.ref bt]))) := ⟨sm9.mm.hr, _, upd_same, by rw [List.map_append]; exact dpAll_app m2 (.cons hv7 .nil)⟩
            exact ⟨Hk8, _, _, M ++ [lawChanged here k], ex.trans g8.h, ⟨sf10.s, sf10.h2, sf10.hd, by
              obtain ⟨L', u1, u2⟩ := sf10.fd
              exact ⟨L', by rw [upd_ne hdm]; exact u1, u2⟩, gr_put sf10.b sm9.mm.hr sm9.n2, sf10.n1⟩, ⟨sm9.h4, mm11, sm9.n2⟩, nd3, vd3⟩
        · obtain ⟨Hk7, c, e, M, ex7, sf, sm, nd2, vd2⟩ := p
          exact ⟨Hk7, _, c, e, M, ex.trans (g4.h.trans (g6.h.trans ex7)), sf, sm, nd2, vd2⟩
      · obtain ⟨Hk, b, c, e, M, ex, sf, sm, nd2, vd2⟩ := p
        obtain ⟨Hf, gf, ef, df, kf⟩ := sm.mm.freeze sf.b sm.n2
        refine ⟨.ref lm, sm.h4, ?_⟩
        obtain ⟨L, f1, f2⟩ := sf.fd
        have hdm : d ≠ lm := fun c => by
          obtain ⟨vs, q1, _⟩ := sm.mm.at_
          rw [← c, f1] at q1
          cases q1
        have hSM : (S ++ M).length ≤ 64 := Nat.le_trans (vd_len nd2 vd2) (pow6 h6)
        rw [List.length_append] at hSM
        refine ⟨_, ?_, Hf, none, b, c, e, S ++ M, M, ⟨(sf.s.ex ef).set (d := lT M) df 3, by rw [List.getElem?_set_ne (by decide)]; exact sf.h2, by rw [kf d hdm]; exact sf.hd, ⟨L, f1, f2.ex ef⟩, gf, sf.n1⟩, nd2, fun h => hne (List.append_eq_nil_iff.mp h).1, vd2, fun r hr => List.mem_append_right _ hr, rfl⟩
        rw [List.length_append]
        split
        · omega
        · rename_i hM
          have := List.length_pos_iff.mpr hM
          omega
end
end Ld
set_option maxHeartbeats 4000000
namespace Ld
open PySem PySem.Spec PyProof.Rows L2
open Evl (Ex ex_l ex_t sq_of st_of fresh_back)
section
variable {P : Program} {w : World} {K : PySem.W.Frag} {mg : Str → Option Value} {base : Heap} {f : Addr} {fd : FuncData}

/-! ### law: the plain part -/
def ltI (a b : Int) : Bool := decide (a < b)
theorem swo_int : SrtO.Swo ltI := by
  refine ⟨fun x y h => ?_, fun x y z h1 h2 => ?_⟩
  · have := of_decide_eq_true h
    exact decide_eq_false (by omega)
  · have a := of_decide_eq_false h1
    have b := of_decide_eq_false h2
    exact decide_eq_false (by omega)
def minOr {α : Type} (lt : α → α → Bool) (z : α) : List α → α
  | [] => z
  | x :: xs => minF lt x xs
def fewOf (E : Arr) (some : IL) : Int := minOr ltI 0 ((choices E some).map fun x => (x.length : Int))
def cOf (E : Arr) (some : IL) : IL := minOr lexLt [] ((choices E some).filter fun one => decide ((one.length : Int) = fewOf E some))
theorem minOr_spec {α : Type} {lt : α → α → Bool} (O : SrtO.Swo lt) {z : α} {l : List α} (h : l ≠ []) : minOr lt z l ∈ l ∧ ∀ y ∈ l, lt y (minOr lt z l) = false := by
  cases l with
  | nil => exact absurd rfl h
  | cons x xs => exact minF_spec O xs x
theorem choices_ne (E : Arr) (some : IL) : choices E some ≠ [] := fun c => by
  have : some ∈ choices E some := mem_choices.mpr ⟨List.Sublist.refl _, by
    have e : without some some = [] := List.filter_eq_nil_iff.mpr fun k hk => by simp [hk]
    rw [e, ringless]
    simp⟩
  rw [c] at this
  cases this
theorem filt_ne (E : Arr) (some : IL) : ((choices E some).filter fun one => decide ((one.length : Int) = fewOf E some)) ≠ [] := fun c => by
  have h := (minOr_spec swo_int (z := 0) (l := (choices E some).map fun x => (x.length : Int)) (by simpa using choices_ne E some)).1
  obtain ⟨x, hx, e⟩ := List.mem_map.mp h
  have : x ∈ (choices E some).filter fun one => decide ((one.length : Int) = fewOf E some) := List.mem_filter.mpr ⟨hx, decide_eq_true e⟩
  rw [c] at this
  cases this
theorem least_cOf (E : Arr) (some : IL) : Least E some (cOf E some) := by
  have h1 := minOr_spec swo_lex (z := []) (filt_ne E some)
  have h2 := minOr_spec swo_int (z := 0) (l := (choices E some).map fun x => (x.length : Int)) (by simpa using choices_ne E some)
  obtain ⟨m1, m2⟩ := List.mem_filter.mp h1.1
  have hl : ((cOf E some).length : Int) = fewOf E some := of_decide_eq_true m2
  refine ⟨m1, fun x hx => ?_, fun x hx hxl => h1.2 x (List.mem_filter.mpr ⟨hx, decide_eq_true (by rw [hxl]; exact hl)⟩)⟩
  have := of_decide_eq_false (h2.2 _ (List.mem_map.mpr ⟨x, hx, rfl⟩))
  have e : fewOf E some = minOr ltI 0 ((choices E some).map fun x => (x.length : Int)) := rfl
  omega
/-! ### law: rules -/
section
variable {i : Nat} {δ : DS} {ta tb tc te : TE} {Da Db Dc : PD → Prop} {N : DS → Prop} {Rt : PD → Prop} {u : TS}
theorem em_tup3 (ha : EM K i ta δ Da) (hb : EM K i tb δ Db) (hc : EM K i tc δ Dc) : EM K i (tTup (tCons ta (tCons tb (tCons tc tNil)))) δ (fun z => ∃ a b c, Da a ∧ Db b ∧ Dc c ∧ z = .tuple [a, b, c]) := fun r σ H G s x hi m Q q =>
  ha r σ H G s x hi m _ fun v d H1 G1 g1 m1 h1 hd => hb r σ H1 G1 (s.ex g1.h) g1.hg hi m1 _ fun v2 d2 H2 G2 g2 m2 h2 hd2 => hc r σ H2 G2 (s.ex (g1.h.trans g2.h)) g2.hg hi m2 _ fun v3 d3 H3 G3 g3 m3 h3 hd3 => ⟨by show 3 ≤ sizeLine; decide, fun p hp => by
    have g4 : Gr H3 G3 (upd H3 p _) (upd G3 p (.tup [v, v2, v3])) := Gr.new g3.hg hp
    exact q _ _ _ _ (g1.trans (g2.trans (g3.trans g4.gm))) (m3.gr g4) (.tup (st_of upd_same) (.cons (dp_ex (g2.h.trans (g3.h.trans g4.h)) _ _ h1) (.cons (dp_ex (g3.h.trans g4.h) _ _ h2) (.cons (dp_ex g4.h _ _ h3) .nil)))) ⟨d, d2, d3, hd, hd2, hd3, rfl⟩⟩
theorem wm_triple {j k l : Nat} (hj : i ≠ j) (hk : i ≠ k) (hl : i ≠ l) (ha : EM K i ta δ Da) (hb : EM K i tb δ Db) (hc : EM K i tc δ Dc) (kk : ∀ a b c, Da a → Db b → Dc c → WM K i u (((δ.set j (some a)).set k (some b)).set l (some c)) N Rt) :
    WM K i (tSeq (tAsg (tTup (tCons ta (tCons tb (tCons tc tNil)))) (gTup K 3 (gCons (gName j) (gCons (gName k) (gCons (gName l) gNil))))) u) δ N Rt :=
  wm_seq (M := fun δ' => ∃ a b c, Da a ∧ Db b ∧ Dc c ∧ δ' = ((δ.set j (some a)).set k (some b)).set l (some c)) (wm_asg (js := [j, k, l]) (δ' := fun d => match d with | .tuple [a, b, c] => ((δ.set j (some a)).set k (some b)).set l (some c) | _ => δ) (by simp [hj, hk, hl]) (em_tup3 ha hb hc)
    (fun d ⟨a, b, c, _, _, _, e⟩ => by
      subst e
      exact eg_three) fun d ⟨a, b, c, h1, h2, h3, e⟩ => by
        subst e
        exact ⟨a, b, c, h1, h2, h3, rfl⟩) fun δ' ⟨a, b, c, h1, h2, h3, e⟩ => by
          subst e
          exact kk a b c h1 h2 h3
theorem em_sortedKeys {n : Nat} {E : Arr} {o : IL} {tr : TA} {X : XK} (ha : EvA K tr δ [webD n E, tI o]) (ok : WebOk n E) (vo : Vd n o) : EM K i (tCB (rSortDt K P w) (tCons (tKeysDt K P w (tCall (spF P w K) [] X tr)) tNil)) δ (fun d => ∃ S : List IL, d = lT S ∧ S ≠ [] ∧ (∀ s ∈ S, Vd n s) ∧ S.length ≤ 64) := fun r σ H G s x hi m Q q =>
  ha σ H G s x _ fun vs H1 G1 g1 h1 => by
    rw [List.append_nil]
    refine ⟨H1, n, E, o, g1.hg, h1, ok, vo, fun a L S H2 G2 g2 ha2 hG2 hk hne hvd hlen => ?_⟩
    refine ⟨a, L, S, rfl, hG2, hk.ex g2.hg, fun p hp => ?_⟩
    have hap : a ≠ p := fun c => by
      rw [← c, hG2] at hp
      cases hp
    have g3 : Gr H2 G2 (upd H2 p (keysO p a)) (upd G2 p (keysO p a)) := Gr.new g2.hg hp
    refine ⟨p, a, L, S, rfl, upd_same, by rw [upd_ne hap]; exact hG2, (hk.ex g3.h).ex g3.hg, by rw [keys_len hk]; omega, fun bs b hb hx hq => ?_⟩
    have hsq : ∀ z ∈ bs, SqT K (upd H2 p (keysO p a)) z.1 (z.2.map V.int) := fun z hz => by
      obtain ⟨y, hy, e1, e2⟩ := hx z hz
      have : ∀ {L : KL} {S : List IL}, KeysOf K H2 L S → ∀ y ∈ L, ∃ s, y.1 = kl s ∧ SqT K H2 y.2.1 (s.map V.int) := fun {L S} h => by
        unfold KeysOf at h
        induction h with
        | nil => intro y hy; cases hy
        | @cons p q ps qs hq t ih =>
          intro y hy
          rcases List.mem_cons.mp hy with rfl | hy
          · exact ⟨q, hq.1, hq.2.1⟩
          · exact ih y hy
      obtain ⟨s', u1, u2⟩ := this hk y hy
      rw [e2] at u1
      rw [kl_inj u1, ← e1]
      exact ex_t g3.h u2
    have g4 : Gr (upd H2 p (keysO p a)) (upd G2 p (keysO p a)) (upd (upd H2 p (keysO p a)) b (.lst (bs.map fun z => V.ref z.1))) (upd (upd G2 p (keysO p a)) b (.lst (bs.map fun z => V.ref z.1))) := Gr.new g3.hg hq
    have g := g1.trans (g2.trans (g3.trans g4))
    have dd : ∀ (bs : List (Addr × IL)), (∀ z ∈ bs, SqT K (upd H2 p (keysO p a)) z.1 (z.2.map V.int)) → DpAll K (upd (upd H2 p (keysO p a)) b (.lst (bs.map fun z => V.ref z.1))) (bs.map fun z => V.ref z.1) ((bs.map (·.2)).map tI) := fun bs hb => by
      generalize hh : upd (upd H2 p (keysO p a)) b (.lst (bs.map fun z => V.ref z.1)) = Hh
      have ee : ∀ z ∈ bs, SqT K Hh z.1 (z.2.map V.int) := fun z hz => by
        rw [← hh]
        exact ex_t (Ex.new (by exact ex_none g3.hg hq)) (hb z hz)
      clear hh hb
      induction bs with
      | nil => exact .nil
      | cons z bs ih => exact .cons (.tup (ee z (List.mem_cons_self ..)) (ints_dpAll _)) (ih fun z' hz' => ee z' (List.mem_cons_of_mem _ hz'))
    refine q _ (lT (bs.map (·.2))) _ _ g.gm (m.gr g) (.lst (sq_of upd_same) (dd bs hsq)) ⟨bs.map (·.2), rfl, fun c => ?_, fun s hs => hvd s (hb.mem_iff.mp hs), by rw [hb.length_eq]; exact hlen⟩
    rw [c] at hb
    exact hne hb.nil_eq.symm
end
theorem row_run {δ : DS} {u : TS} {D : Ends} {σ : L2.St} {G H : Hp} {v0 : V} {S : IL} {Rt : PD → Prop} (x : Ex H G) (s : Sl K H σ δ) (e0 : σ[0]? = some (some v0)) (hv0 : Dp K H v0 (lI S)) (hl : 1 < σ.length) (k : WM K 1 u (δ.set 1 none) (fun _ => False) Rt)
    (qr : ∀ v d H' G', Rt d → Dp K H' v d → D.rt v G') : tSeq (tAsg (tLst (tCons (tVar 0) (tCons (tC (.int 0)) (tCons (tC (.int 9537)) (tCons (tC (.int 0)) tNil))))) (gName 1)) u D σ G :=
  ⟨v0, e0, by show 4 ≤ sizeLine; decide, fun r hr => k D r _ H _ (s.hide _ 1) (Ex.chg x (ex_none x hr)) (List.getElem?_set_self hl) ⟨S, 0, 9537, 0, Int.le_refl 0, ex_none x hr, _, upd_same, .cons hv0 (.cons (.int 0) (.cons (.int 9537) (.cons (.int 0) .nil)))⟩ (fun _ _ _ _ _ _ _ _ c => c.elim) fun v d H' G' _ _ hv hd => qr v d H' G' hd hv⟩
/-! ### law -/
theorem sc_law : FnScope ["_law_script", "_law_row", "_law_web_here", "_law_opened", "_law_held", "_law_known", "_law_cold", "_law_due", "_law_other", "_law_side", "_law_some", "_law_choices", "_law_few", "_law_k", "_law_one"] ["_law_script"] (defScope slaw) := ⟨rfl, rfl, rfl, by decide +kernel, rfl, by decide +kernel, by decide +kernel⟩
def spLaw (K : PySem.W.Frag) : Sp := fun vs G Q _ => ∃ (H : Hp) (S : IL), Ex H G ∧ DpAll K H vs [lI S] ∧ ∀ G', Q (.bl true) G'
structure Cs (P : Program) (w : World) (K : PySem.W.Frag) (mg : Str → Option Value) (base : Heap) : Prop where
  taken : Cal P w K mg base "_law_taken" ["_law_row", "_law_many"] 1 (spM K PreT PostT)
  pick : Cal P w K mg base "_law_pick" ["_law_row", "_law_things"] 2 (spM K PreP PostP)
  web : Cal P w K mg base "_law_web" ["_law_row", "_law_most"] 3 (spM K PreW PostW)
  standing : Cal P w K mg base "_law_standing" ["_law_row", "_law_web_here"] 2 (spM K PreS PostS)
  heldFrom : Cal P w K mg base "_law_held_from" ["_law_web_here", "_law_opened", "_law_held"] 3 (spN K PreH PostH)
  frozen : Cal P w K mg base "_law_frozen" ["_law_web_here", "_law_opened"] 1 (spR K R_law_frozen)
  alike0 : Cal P w K mg base "_law_alike" ["_law_found", "_law_due"] 1 (spR K R_alike0)
  alike1 : Cal P w K mg base "_law_alike" ["_law_found", "_law_due"] 2 (spR K R_alike1)
  fromm : Cal P w K mg base "_law_from" ["_law_web_here", "_law_opened"] 3 (spF P w K)
  sets : Cal P w K mg base "_law_sets" ["_law_some"] 1 (spR K R_standings)
  ring : Cal P w K mg base "_law_ring" ["_law_web_here", "_law_some"] 1 (spR K R_law_ring)
  count : Cal P w K mg base "held_count" ["web", "opened", "held"] 5 (spR K R_held_count)
  can : Cal P w K mg base "held_can_come" ["web", "one", "other", "held"] 5 (spR K R_held_can_come)
  breakers : Cal P w K mg base "ring_breakers" ["web", "opened"] 5 (spR K R_ring_breakers)
def OtherD (n : Nat) (z : PD) : Prop := ∃ t, z = tI t ∧ Vd n t
theorem ok_law (T : Tx mg) (c : Cs P w K mg base) (F : FnP K "law" slaw f fd) : FnOk P w K mg base CX0 6 f fd ["_law_script"] (spLaw K) := by
  refine F.ok sc_law (fun vs H Q E h => ?_) (fun cdv A outer s H vs Q E hr h => ⟨_, PSs.nox
    (pss_cons (ps_set (i := 1) sc_law.nd rfl (.inr rfl) (pe_lst (pa_cons (pv 0) (pa_cons pe_int (pa_cons pe_int (pa_cons pe_int pa_nil))))))
    (pss_cons (ps_set (i := 2) sc_law.nd rfl (.inr rfl) (pc c.web hr (by decide) (by rfl) (pa_cons (pv 1) (pa_cons pe_int pa_nil))))
    (pss_cons (ps_asg (pe_tup (pa_cons (pc c.standing hr (by decide) (by rfl) (pa_cons (pv 1) (pa_cons (pv 2) pa_nil))) (pa_cons (pe_callTy (c_tup K) (by rfl) T.tuple (by decide +kernel) (pa_cons
        (pe_lc (own := [("_law_k", 13)]) (g := gName 13) rfl sc_law.nd (pi_range1 (by rfl) T.range (pa_cons (pe_ix (i_t K) (pv 2) pe_int (fun _ _ => rfl)) pa_nil)) (blkOk_by (by kernel_rfl)) (fun _ _ _ _ _ => pg_name (i := 13) sc_law.nd rfl (Or.inl rfl))
          (fun _ _ _ _ _ => pts_one (pt_cmpR op_eq (pc c.taken hr (by decide) (by rfl) (pa_cons (pv 1) (pa_cons pe_int pa_nil))) pe_int (nomark _))) (fun _ _ _ _ _ => pv 13)) pa_nil)) pa_nil)))
      (pg_t K (n := 2) rfl (pgs_cons (pg_name (i := 3) sc_law.nd rfl (.inr rfl)) (pgs_cons (pg_name (i := 4) sc_law.nd rfl (.inl rfl)) pgs_nil))))
    (pss_cons (ps_asg (pe_tup (pa_cons (pc c.heldFrom hr (by decide) (by rfl) (pa_cons (pv 2) (pa_cons (pv 3) (pa_cons (pv 4) pa_nil)))) (pa_cons (pc c.frozen hr (by decide) (by rfl) (pa_cons (pv 2) (pa_cons (pv 3) pa_nil))) (pa_cons (pe_lst pa_nil) pa_nil))))
      (pg_t K (n := 3) rfl (pgs_cons (pg_name (i := 5) sc_law.nd rfl (.inl rfl)) (pgs_cons (pg_name (i := 6) sc_law.nd rfl (.inr rfl)) (pgs_cons (pg_name (i := 7) sc_law.nd rfl (.inl rfl)) pgs_nil)))))
    (pss_cons (ps_if (pt_not (pt_val (pc c.alike0 hr (by decide) (by rfl) (pa_cons (pc c.count hr (by decide) (by rfl) (pa_cons (pv 2) (pa_cons (pv 3) (pa_cons (pv 4) pa_nil)))) (pa_cons (pe_callB (c_len K) (by rfl) T.len PySem.boot_len (pa_cons (pv 5) pa_nil)) pa_nil))))) (pss_one (ps_ret pe_bl)) pss_nil)
    (pss_cons (ps_for PassesOwn.never rfl (pi_l K (pe_lst (pa_cons (pc c.standing hr (by decide) (by rfl) (pa_cons (pv 1) (pa_cons (pv 2) pa_nil))) (pa_cons (pc c.pick hr (by decide) (by rfl) (pa_cons (pv 1) (pa_cons (pe_callB (c_sortV K hr) (by rfl) T.sorted (by decide +kernel) (pa_cons (pv 5) pa_nil)) pa_nil)))
        (pa_cons (pc c.pick hr (by decide) (by rfl) (pa_cons (pv 1) (pa_cons (pe_callB (c_sortDt K P w hr rfl) (by rfl) T.sorted (by decide +kernel) (pa_cons (pe_keysDt K P w (pc c.fromm hr (by decide) (by rfl) (pa_cons (pv 2) (pa_cons (pv 3) pa_nil)))) pa_nil)) pa_nil))) pa_nil))))) (pg_name (i := 8) sc_law.nd rfl (.inl rfl))
      (pss_one (ps_if (pt_not (pt_val (pc c.alike0 hr (by decide) (by rfl) (pa_cons (pc c.can hr (by decide) (by rfl) (pa_cons (pv 2) (pa_cons (pv 3) (pa_cons (pv 8) (pa_cons (pv 4) pa_nil))))) (pa_cons (pe_cmpR (o_inD K hr) (pv 8) (pv 5) rfl) pa_nil))))) (pss_one (ps_ret pe_bl)) pss_nil)))
    (pss_cons (ps_for PassesOwn.never rfl (pi_l K (pe_lst (pa_cons pe_bl (pa_cons pe_bl pa_nil)))) (pg_name (i := 9) sc_law.nd rfl (.inr rfl))
      (pss_cons (ps_set (i := 10) sc_law.nd rfl (.inr rfl) (pe_lc (own := [("_law_k", 13)]) (g := gName 13) rfl sc_law.nd (pi_range1 (by rfl) T.range (pa_cons (pe_ix (i_t K) (pv 2) pe_int (fun _ _ => rfl)) pa_nil)) (blkOk_by (by kernel_rfl)) (fun _ _ _ _ _ => pg_name (i := 13) sc_law.nd rfl (Or.inl rfl))
          (fun _ _ _ _ _ => pts_one (PW.pt (pw_and (pt_cmpR (o_ni K) (pv 13) (pv 6) rfl) (pw_and1 (pt_cmpR op_eq (pe_cmpR (o_in K) (pv 13) (pv 3) rfl) (pv 9) (nomark _)))))) (fun _ _ _ _ _ => pv 13)))
      (pss_cons (ps_setLc (i := 11) (own := [("_law_one", 14)]) (g := gName 14) rfl sc_law.nd rfl rfl (sw_true rfl rfl rfl (by decide +kernel)) (pi_l K (pc c.sets hr (by decide) (by rfl) (pa_cons (pv 10) pa_nil))) (blkOk_by (by kernel_rfl)) (fun _ _ _ _ _ => pg_name (i := 14) sc_law.nd rfl (Or.inr rfl))
          (fun _ _ _ _ _ => pts_one (pt_not (pt_val (pc c.ring hr (by decide) (by rfl) (pa_cons (pv 2) (pa_cons (pe_lc (own := [("_law_k", 13)]) (g := gName 13) rfl sc_law.nd (pi_l K (pv 10)) (blkOk_by (by kernel_rfl)) (fun _ _ _ _ _ => pg_name (i := 13) sc_law.nd rfl (Or.inl rfl)) (fun _ _ _ _ _ => pts_one (pt_cmpR (o_ni K) (pv 13) (pv 14) rfl)) (fun _ _ _ _ _ => pv 13)) pa_nil)))))) (fun _ _ _ _ _ => pv 14))
      (pss_cons (ps_set (i := 12) sc_law.nd rfl (.inr rfl) (pe_callB (c_min K hr rfl) (by rfl) T.min (by decide +kernel) (pa_cons (pe_lc (own := [("_law_one", 14)]) (g := gName 14) rfl sc_law.nd (pi_l K (pv 11)) (blkOk_by (by kernel_rfl)) (fun _ _ _ _ _ => pg_name (i := 14) sc_law.nd rfl (Or.inl rfl)) (fun _ _ _ _ _ => pts_nil) (fun _ _ _ _ _ => pe_callB (c_len K) (by rfl) T.len PySem.boot_len (pa_cons (pv 14) pa_nil))) pa_nil)))
      (pss_one (ps_set (i := 7) sc_law.nd rfl (.inl rfl) (pe_op (o_cat K) (pv 7) (pe_callTy (c_list K) (by rfl) T.list (by decide +kernel) (pa_cons (pe_callB (c_min K hr rfl) (by rfl) T.min (by decide +kernel) (pa_cons
          (pe_lc (own := [("_law_one", 14)]) (g := gName 14) rfl sc_law.nd (pi_l K (pv 11)) (blkOk_by (by kernel_rfl)) (fun _ _ _ _ _ => pg_name (i := 14) sc_law.nd rfl (Or.inl rfl)) (fun _ _ _ _ _ => pts_one (pt_cmpR op_eq (pe_callB (c_len K) (by rfl) T.len PySem.boot_len (pa_cons (pv 14) pa_nil)) (pv 12) (nomark _))) (fun _ _ _ _ _ => pv 14)) pa_nil)) pa_nil)))))))))
    (pss_one (ps_ret (pc c.alike1 hr (by decide) (by rfl) (pa_cons (pc c.breakers hr (by decide) (by rfl) (pa_cons (pv 2) (pa_cons (pv 3) pa_nil))) (pa_cons (pe_callTy (c_tup K) (by rfl) T.tuple (by decide +kernel) (pa_cons (pe_callB (c_srt K) (by rfl) T.sorted (by decide +kernel) (pa_cons (pv 7) pa_nil)) pa_nil)) pa_nil)))))))))))), ?_⟩)
  · obtain ⟨H1, S, _, h1, _⟩ := h
    rw [dpAll_len h1]
    rfl
  · obtain ⟨H1, Sc, x1, h1, q⟩ := h
    have s0 := sl_start (N := ["_law_script", "_law_row", "_law_web_here", "_law_opened", "_law_held", "_law_known", "_law_cold", "_law_due", "_law_other", "_law_side", "_law_some", "_law_choices", "_law_few", "_law_k", "_law_one"]) h1
    obtain ⟨v0, e0, hv0⟩ := s0.at_ 0 (lI Sc) rfl
    refine row_run (Rt := (· = .bool true)) x1 s0 e0 hv0 (by rw [s0.len]; show 1 < 15; decide) ?_ fun v d H' G' hd hv => by
      subst hd
      rw [bl_inv hv]
      exact q G'
    -- the web
    refine wm_set (j := 2) (D := fun d => ∃ n E, d = webD n E ∧ WebOk n E) (by decide) (em_mono (em_call (Da := (· = .int 6)) (em_pure ev_int rfl) fun d e => by rw [e]; rfl) fun d ⟨_, _, hd⟩ => hd) fun d hd => ?_
    obtain ⟨n, Ar, rfl, ok⟩ := hd
    have h6 := ok.hi
    have hE := ok.len
    -- opened, held
    refine wm_pair (Da := OtherD n) (Db := OtherD n) (by decide) (by decide) (em_mono (em_call (Da := (· = webD n Ar)) (em_pure (ev_var rfl) rfl) fun d e => ⟨n, Ar, by rw [e], ok⟩) fun d ⟨_, e, hd⟩ => hd n Ar (by rw [e]))
      (em_cb (Da := fun d => ∃ s, d = lI s ∧ Vd n s) (fun a ⟨s, e, vs⟩ => by
        subst e
        exact ⟨tI s, rc_tupL, s, rfl, vs⟩) (em_mono (em_lc (emb := PyData.int) (l := rng n) (δ' := fun k => _) PyData.int (by decide) (ei_rng (ea_cons (ev_op (rv_ixT (j := 0) rfl rfl) (ev_var rfl) ev_int) ea_nil) (by omega)) (fun _ _ => eg_name) (by simp) (by rw [rng_len]; omega) (fun _ _ => emb_draw ev_int (by decide) (by decide)) (fun _ _ => ev_var rfl))
          fun d ⟨l', hs, e⟩ => ⟨l', e, vd_sub (vd_rng n) hs⟩)) fun a b ha hb => ?_
    obtain ⟨o, rfl, vo⟩ := ha
    obtain ⟨held, rfl, vh⟩ := hb
    -- known, cold, due
    refine wm_triple (Da := fun d => ∃ S, d = lT S ∧ Known n Ar held o S ∧ (∀ s ∈ S, Vd n s) ∧ S ≠ []) (Db := (· = lI (lawCold n Ar o))) (Dc := (· = lI [])) (by decide) (by decide) (by decide)
      (em_mono (em_callN (ds := [webD n Ar, tI o, tI held]) (ea_cons (ev_var rfl) (ea_cons (ev_var rfl) (ea_cons (ev_var rfl) ea_nil))) ⟨n, Ar, o, held, rfl, ok, vo⟩) fun d hd => ?_)
      (em_pure (ev_call (ea_cons (ev_var rfl) (ea_cons (ev_var rfl) ea_nil)) ⟨n, Ar, o, rfl, by omega, hE, rfl⟩) rfl) (em_pure (ev_lst ea_nil (by decide)) rfl) fun a b cc ha hb hc => ?_
    · obtain ⟨n', E', o', held', S, e, rfl, hK, hv, hne⟩ := hd
      unfold webD tI at e
      injection e with e1 e2
      injection e2 with e2 e3
      injection e3 with e3 _
      injection e1 with e1
      injection e1 with e4 e5
      injection e5 with e5 _
      injection e4 with e4
      have q1 : n = n' := by omega
      have inj : ∀ a b : IL, PyData.tuple (a.map PyData.int) = PyData.tuple (b.map PyData.int) → a = b := fun a b e => by
        injection e with e
        exact List.map_inj_right (fun x y h => PyData.int.inj h) |>.mp e
      have q2 := inj _ _ e2
      have q3 := inj _ _ e3
      have q4 : Ar = E' := by
        unfold arD at e5
        injection e5 with e5
        exact List.map_inj_right (fun x y h => by
          unfold prD at h
          injection h with h
          injection h with h1 h
          injection h with h2 _
          exact Prod.ext (PyData.int.inj h1) (PyData.int.inj h2)) |>.mp e5
      subst q1 q2 q3 q4
      exact ⟨S, rfl, hK, hv, hne⟩
    obtain ⟨S, rfl, hK, hSv, hSne⟩ := ha
    subst hb hc
    have hS64 : S.length ≤ 64 := Nat.le_trans (vd_len hK.nodup hSv) (pow6 h6)
    -- the count
    refine wm_skip (eb_is (eb_not (eb_B (ev_call (d := .bool true) (ea_cons (ev_call (ea_cons (ev_var rfl) (ea_cons (ev_var rfl) (ea_cons (ev_var rfl) ea_nil))) ⟨n, Ar, o, held, rfl, ok, vo, vh, rfl⟩) (ea_cons (ev_cb rc_lenL (ea_cons (ev_var rfl) ea_nil)) ea_nil)) (.inl ⟨_, _, rfl, ?_⟩)))) rfl) ?_
    · rw [M1 ok.web vo hK, List.length_map]
      simp
    -- the others
    refine wm_seq (M := fun δ => ∃ a, δ = [some (lI Sc), none, some (webD n Ar), some (tI o), some (tI held), some (lT S), some (lI (lawCold n Ar o)), some (lI []), a, none, none, none, none, none, none])
      (wm_for (Dl := fun ds => ∀ d ∈ ds, OtherD n d) (js := [8]) (δ' := fun δ1 d => δ1.set 8 (some d)) (fun _ δ => ∃ a, δ = [some (lI Sc), none, some (webD n Ar), some (tI o), some (tI held), some (lT S), some (lI (lawCold n Ar o)), some (lI []), a, none, none, none, none, none, none]) (by decide)
        (emi_list (em_mono (em_lst3 (Da := OtherD n) (Db := OtherD n) (Dc := OtherD n) (em_mono (em_call (Da := (· = webD n Ar)) (em_pure (ev_var rfl) rfl) fun d e => ⟨n, Ar, by rw [e], ok⟩) fun d ⟨_, e, hd⟩ => hd n Ar (by rw [e]))
          (em_mono (em_call (Da := (· = lT (lsort S))) (em_pure (ev_cb rc_sortV (ea_cons (ev_var rfl) ea_nil)) rfl) fun d e => ⟨(lsort S).map tI, by rw [e] <;> rfl, fun c => ?_, ?_⟩) fun d ⟨_, e, l, e2, hd⟩ => ?_)
          (em_mono (em_call (em_sortedKeys (ea_cons (ev_var rfl) (ea_cons (ev_var rfl) ea_nil)) ok vo) fun d ⟨S', e, hne, _, hl⟩ => ⟨S'.map tI, by rw [e] <;> rfl, fun c => hne (List.map_eq_nil_iff.mp c), by rw [List.length_map]; omega⟩) fun d ⟨_, ⟨S', e, _, hv, _⟩, l, e2, hd⟩ => ?_))
          fun d ⟨a, b, c, ha, hb, hc, e⟩ => ⟨[a, b, c], e, fun d hd => ?_⟩)) ⟨_, rfl⟩ (fun l hl δ1 d hd => eg_name) (fun l hl i' d δ1 hd hv => ?_) (fun l hl δ1 hv => hv)) fun δ hv => ?_
    · exact hSne (by
        have h := List.map_eq_nil_iff.mp c
        have p := lsort_perm S
        rw [h] at p
        exact p.nil_eq.symm)
    · rw [List.length_map, (lsort_perm S).length_eq]
      omega
    · rw [e] at e2
      injection e2 with e2 _
      injection e2 with e2
      rw [← e2] at hd
      obtain ⟨t, ht, rfl⟩ := List.mem_map.mp hd
      exact ⟨t, rfl, hSv t ((lsort_perm S).mem_iff.mp ht)⟩
    · rw [e] at e2
      injection e2 with e2 _
      injection e2 with e2
      rw [← e2] at hd
      obtain ⟨t, ht, rfl⟩ := List.mem_map.mp hd
      exact ⟨t, rfl, hv t ht⟩
    · rcases List.mem_cons.mp hd with rfl | hd
      · exact ha
      · rcases List.mem_cons.mp hd with rfl | hd
        · exact hb
        · rw [List.mem_singleton.mp hd]
          exact hc
    · obtain ⟨a, rfl⟩ := hv
      obtain ⟨t, rfl, vt⟩ := hl d (List.mem_of_getElem? hd)
      refine wm_if (P := (· = false)) (emb_pure (eb_is (eb_not (eb_B (ev_call (d := .bool true) (ea_cons (ev_call (ea_cons (ev_var rfl) (ea_cons (ev_var rfl) (ea_cons (ev_var rfl) (ea_cons (ev_var rfl) ea_nil)))) ⟨n, Ar, o, t, held, rfl, ok, vo, vt, vh, rfl⟩) (ea_cons (ev_op rv_inT2 (ev_var rfl) (ev_var rfl)) ea_nil)) (.inr ⟨_, _, rfl, ?_⟩)))) rfl) rfl) (fun c => by cases c) fun _ => wm_nx ⟨_, rfl⟩
      rw [M2 ok.web vo vt hK]
      simp
    obtain ⟨a8, rfl⟩ := hv
    -- the breakers
    refine wm_seq (M := fun δ => ∃ b c e f, δ = [some (lI Sc), none, some (webD n Ar), some (tI o), some (tI held), some (lT S), some (lI (lawCold n Ar o)), some (lI (cOf Ar (lawSome n Ar o false) ++ cOf Ar (lawSome n Ar o true))), a8, b, c, e, f, none, none])
      (wm_for (Dl := (· = ([false, true].map PyData.bool))) (js := [9]) (δ' := fun δ1 d => δ1.set 9 (some d)) (fun i δ => ∃ b c e f, δ = [some (lI Sc), none, some (webD n Ar), some (tI o), some (tI held), some (lT S), some (lI (lawCold n Ar o)), some (lI (([false, true].take i).flatMap fun side => cOf Ar (lawSome n Ar o side))), a8, b, c, e, f, none, none]) (by decide)
        (emi_pure (ei_list (ev_lst (ea_cons ev_bl (ea_cons ev_bl ea_nil)) (by simp)))) ⟨_, _, _, _, rfl⟩ (fun l hl δ1 d hd => eg_name) (fun l hl i' d δ1 hd hv => ?_) (fun l hl δ1 hv => ?_)) fun δ hv => ?_
    · subst hl
      rw [List.getElem?_map] at hd
      obtain ⟨side, hside, rfl⟩ := Option.map_eq_some_iff.mp hd
      obtain ⟨b, c1, e, f1, rfl⟩ := hv
      have hsl : (lawSome n Ar o side).length ≤ n := by
        have := List.length_filter_le (fun k => !decide (k ∈ lawCold n Ar o) && (decide (k ∈ o) == side)) (rng n)
        rw [rng_len] at this
        exact this
      have hcl : (choices Ar (lawSome n Ar o side)).length ≤ 64 := by
        refine Nat.le_trans (List.length_filter_le _ _) ?_
        rw [stands_len]
        exact pow6 (by omega)
      have hstl : (stands (lawSome n Ar o side)).length ≤ 64 := by
        rw [stands_len]
        exact pow6 (by omega)
      have sub6 : ∀ x ∈ choices Ar (lawSome n Ar o side), x.length ≤ 6 := fun x hx => by
        have := (mem_choices.mp hx).1.length_le
        omega
      refine wm_setP (d := lI (lawSome n Ar o side)) (by decide) (ev_lc (emb := PyData.int) (l := rng n) (fun k => !decide (k ∈ lawCold n Ar o) && (decide (k ∈ o) == side)) PyData.int (ei_rng (ea_cons (ev_op (rv_ixT (j := 0) rfl rfl) (ev_var rfl) ev_int) ea_nil) (by omega)) (fun _ _ => eg_name) (by simp) (by rw [rng_len]; omega)
        (fun k _ => eb_and (eb_test (ev_op rv_niL (ev_var rfl) (ev_var rfl))) fun _ => eb_test (ev_op rv_eqB (ev_op rv_isT (ev_var rfl) (ev_var rfl)) (ev_var rfl))) (fun _ _ _ => ev_var rfl)) ?_
      refine wm_setP (d := lT (choices Ar (lawSome n Ar o side))) (by decide) (ev_lc (emb := tI) (l := stands (lawSome n Ar o side)) (fun one => !lawRing Ar (without (lawSome n Ar o side) one)) tI (ei_list (ev_call (ea_cons (ev_var rfl) ea_nil) ⟨lawSome n Ar o side, rfl, by omega, rfl⟩)) (fun _ _ => eg_name) (by simp) (by omega)
        (fun one _ => eb_not (eb_B (ev_call (ea_cons (ev_var rfl) (ea_cons (ev_lc (emb := PyData.int) (l := lawSome n Ar o side) (fun k => !decide (k ∈ one)) PyData.int (ei_list (ev_var rfl)) (fun _ _ => eg_name) (by simp) (by omega) (fun _ _ => eb_test (ev_op rv_niT (ev_var rfl) (ev_var rfl))) (fun _ _ _ => ev_var rfl)) ea_nil))
          ⟨n, Ar, without (lawSome n Ar o side) one, rfl, Nat.le_trans (List.length_filter_le _ _) (by omega), rfl⟩))) (fun _ _ _ => ev_var rfl)) ?_
      have min_any : ∀ {α : Type} {emb : α → PD} {lt : α → α → Bool} {z : α} {l : List α} {te : TE} {δ : DS}, (∀ x y, PySem.W.dataLt (emb x) (emb y) = lt x y) → (∀ x y, PySem.W.alike (emb x) (emb y) = true) → (∀ x, emb x ≠ .none) → (∀ x, (emb x).depth ≤ 50) → l ≠ [] → Ev K te δ (.list (l.map emb)) → Ev K (tCB (rMinD K) (tCons te tNil)) δ (emb (minOr lt z l)) := fun {α emb lt z l te δ} a1 a2 a3 a4 hne h => by
        cases l with
        | nil => exact absurd rfl hne
        | cons x xs => exact ev_cb (rc_min a1 a2 a3 a4) (ea_cons h ea_nil)
      refine wm_setP (d := .int (fewOf Ar (lawSome n Ar o side))) (by decide) (min_any (emb := PyData.int) (lt := ltI) (z := 0) (l := (choices Ar (lawSome n Ar o side)).map fun x => (x.length : Int)) (fun x y => PySem.W.dataLt_int ..) (fun x y => by simp [PySem.W.alike]) (fun x => by simp) (fun x => by simp [PyData.depth]) (by simpa using choices_ne Ar (lawSome n Ar o side))
        (ev_is (ev_lc (emb := tI) (l := choices Ar (lawSome n Ar o side)) (fun _ => true) (fun one => PyData.int one.length) (ei_list (ev_var rfl)) (fun _ _ => eg_name) (by simp) (by omega) (fun _ _ => eb_yes) (fun one _ _ => ev_is (ev_cb rc_lenT (ea_cons (ev_var rfl) ea_nil)) (by rw [List.length_map]))) (by rw [filter_true, List.map_map] <;> rfl))) ?_
      refine wm_asg (js := [7]) (D := (· = lI (([false, true].take (i' + 1)).flatMap fun side => cOf Ar (lawSome n Ar o side)))) (by decide) (em_pure (ev_is (ev_op (rv_catL (ds := (([false, true].take i').flatMap fun side => cOf Ar (lawSome n Ar o side)).map PyData.int) (es := (cOf Ar (lawSome n Ar o side)).map PyData.int) ?_) (ev_var rfl)
        (ev_cb rc_listT (ea_cons (min_any (emb := tI) (lt := lexLt) (z := []) (l := (choices Ar (lawSome n Ar o side)).filter fun one => decide ((one.length : Int) = fewOf Ar (lawSome n Ar o side))) lt_tI alike_tI (fun x => by unfold tI; simp) (fun x => Nat.le_trans (dep_tI x) (by decide)) (filt_ne Ar (lawSome n Ar o side))
          (ev_lc (emb := tI) (l := choices Ar (lawSome n Ar o side)) (fun one => decide ((one.length : Int) = fewOf Ar (lawSome n Ar o side))) tI (ei_list (ev_var rfl)) (fun _ _ => eg_name) (by simp) (by omega) (fun one _ => eb_test (ev_op rv_eqI (ev_is (ev_cb rc_lenT (ea_cons (ev_var rfl) ea_nil)) (by rw [List.length_map])) (ev_var rfl))) (fun _ _ _ => ev_var rfl))) ea_nil))) ?_) rfl) (fun d _ => eg_name) fun d hd => ?_
      · have c6 : ∀ side', side' ∈ [false, true] → (cOf Ar (lawSome n Ar o side')).length ≤ 6 := fun side' _ => by
          have h1 := (mem_choices.mp (least_cOf Ar (lawSome n Ar o side')).mem).1.length_le
          have h2 : (lawSome n Ar o side').length ≤ n := by
            have := List.length_filter_le (fun k => !decide (k ∈ lawCold n Ar o) && (decide (k ∈ o) == side')) (rng n)
            rw [rng_len] at this
            exact this
          omega
        have f6 := c6 false (by simp)
        have t6 := c6 true (by simp)
        have s6 := c6 side (List.mem_of_getElem? hside)
        have : ((([false, true].take i').flatMap fun side => cOf Ar (lawSome n Ar o side))).length ≤ 12 := by
          match i' with
          | 0 => simp
          | 1 =>
            simp
            omega
          | k + 2 =>
            simp
            omega
        rw [List.length_map, List.length_map]
        omega
      · rw [take_next hside, List.flatMap_append]
        unfold lI
        simp
      · subst hd
        exact ⟨_, _, _, _, rfl⟩
    · subst hl
      obtain ⟨b, c1, e, f1, rfl⟩ := hv
      exact ⟨b, c1, e, f1, by simp⟩
    · obtain ⟨b, c1, e, f1, rfl⟩ := hv
      have L1 := least_cOf Ar (lawSome n Ar o false)
      have L2 := least_cOf Ar (lawSome n Ar o true)
      have h1 := (mem_choices.mp L1.mem).1.length_le
      have h2 := (mem_choices.mp L2.mem).1.length_le
      have k1 := (vd_fresh n Ar o).len
      have k2 := (vd_old n Ar o).len
      rw [lawSome_fresh ok.web] at L1 h1 ⊢
      rw [lawSome_old ok.web] at L2 h2 ⊢
      refine wm_ret (em_pure (ev_call (ea_cons (ev_call (ea_cons (ev_var rfl) (ea_cons (ev_var rfl) ea_nil)) ⟨n, Ar, o, _, _, rfl, ok, vo, L1, L2, rfl⟩) (ea_cons (ev_cb rc_tupL (ea_cons (ev_cb rc_sortedI (ea_cons (ev_var rfl) ea_nil)) ea_nil)) ea_nil)) ⟨_, rfl, ?_, rfl⟩) rfl) fun d hd => hd.symm
      rw [isort_len, List.length_append]
      omega
end
end Ld
set_option maxHeartbeats 0
namespace Ld
open PySem PySem.Spec PyProof.Rows L2
/-! ### the head: facts by names, the run -/
def dis_in : He.DefD := ⟨("is_in", none), "is_in", "is_in", defArgs sis_in, defBody sis_in, defScope sis_in, [], []⟩
def dis_arrow : He.DefD := ⟨("is_arrow", none), "is_arrow", "is_arrow", defArgs sis_arrow, defBody sis_arrow, defScope sis_arrow, [], []⟩
def dneed_web : He.DefD := ⟨("need_web", none), "need_web", "need_web", defArgs sneed_web, defBody sneed_web, defScope sneed_web, [], []⟩
def dneed_opened : He.DefD := ⟨("need_opened", none), "need_opened", "need_opened", defArgs sneed_opened, defBody sneed_opened, defScope sneed_opened, [], []⟩
def dneed_both : He.DefD := ⟨("need_both", none), "need_both", "need_both", defArgs sneed_both, defBody sneed_both, defScope sneed_both, [], []⟩
def dpairs_in : He.DefD := ⟨("pairs_in", none), "pairs_in", "pairs_in", defArgs spairs_in, defBody spairs_in, defScope spairs_in, [], []⟩
def dfrozen_in : He.DefD := ⟨("frozen_in", none), "frozen_in", "frozen_in", defArgs sfrozen_in, defBody sfrozen_in, defScope sfrozen_in, [], []⟩
def dloose_in : He.DefD := ⟨("loose_in", none), "loose_in", "loose_in", defArgs sloose_in, defBody sloose_in, defScope sloose_in, [], []⟩
def dstandings : He.DefD := ⟨("standings", none), "standings", "standings", defArgs sstandings, defBody sstandings, defScope sstandings, [], []⟩
def dringless : He.DefD := ⟨("ringless", none), "ringless", "ringless", defArgs sringless, defBody sringless, defScope sringless, [], []⟩
def dsets_in : He.DefD := ⟨("sets_in", none), "sets_in", "sets_in", defArgs ssets_in, defBody ssets_in, defScope ssets_in, [], []⟩
def dfresh_in : He.DefD := ⟨("fresh_in", none), "fresh_in", "fresh_in", defArgs sfresh_in, defBody sfresh_in, defScope sfresh_in, [], []⟩
def dcomes_in : He.DefD := ⟨("comes_in", none), "comes_in", "comes_in", defArgs scomes_in, defBody scomes_in, defScope scomes_in, [], []⟩
def dsides_in : He.DefD := ⟨("sides_in", none), "sides_in", "sides_in", defArgs ssides_in, defBody ssides_in, defScope ssides_in, [], []⟩
def dneed_held : He.DefD := ⟨("need_held", none), "need_held", "need_held", defArgs sneed_held, defBody sneed_held, defScope sneed_held, [], []⟩
def dcomes_held : He.DefD := ⟨("comes_held", none), "comes_held", "comes_held", defArgs scomes_held, defBody scomes_held, defScope scomes_held, [], []⟩
def dheld_can_come : He.DefD := ⟨("held_can_come", none), "held_can_come", "held_can_come", defArgs sheld_can_come, defBody sheld_can_come, defScope sheld_can_come, [], []⟩
def dheld_count : He.DefD := ⟨("held_count", none), "held_count", "held_count", defArgs sheld_count, defBody sheld_count, defScope sheld_count, [], []⟩
def dring_breakers : He.DefD := ⟨("ring_breakers", none), "ring_breakers", "ring_breakers", defArgs sring_breakers, defBody sring_breakers, defScope sring_breakers, [], []⟩
def d_law_changed : He.DefD := ⟨("_law_changed", none), "_law_changed", "_law_changed", defArgs s_law_changed, defBody s_law_changed, defScope s_law_changed, [], []⟩
def d_law_open : He.DefD := ⟨("_law_open", none), "_law_open", "_law_open", defArgs s_law_open, defBody s_law_open, defScope s_law_open, [], []⟩
def d_law_shut : He.DefD := ⟨("_law_shut", none), "_law_shut", "_law_shut", defArgs s_law_shut, defBody s_law_shut, defScope s_law_shut, [], []⟩
def d_law_after : He.DefD := ⟨("_law_after", none), "_law_after", "_law_after", defArgs s_law_after, defBody s_law_after, defScope s_law_after, [], []⟩
def d_law_taken : He.DefD := ⟨("_law_taken", none), "_law_taken", "_law_taken", defArgs s_law_taken, defBody s_law_taken, defScope s_law_taken, [], []⟩
def d_law_pick : He.DefD := ⟨("_law_pick", none), "_law_pick", "_law_pick", defArgs s_law_pick, defBody s_law_pick, defScope s_law_pick, [], []⟩
def d_law_web : He.DefD := ⟨("_law_web", none), "_law_web", "_law_web", defArgs s_law_web, defBody s_law_web, defScope s_law_web, [], []⟩
def d_law_standing : He.DefD := ⟨("_law_standing", none), "_law_standing", "_law_standing", defArgs s_law_standing, defBody s_law_standing, defScope s_law_standing, [], []⟩
def d_law_frozen : He.DefD := ⟨("_law_frozen", none), "_law_frozen", "_law_frozen", defArgs s_law_frozen, defBody s_law_frozen, defScope s_law_frozen, [], []⟩
def d_law_alike : He.DefD := ⟨("_law_alike", none), "_law_alike", "_law_alike", defArgs s_law_alike, defBody s_law_alike, defScope s_law_alike, [], []⟩
def d_law_from : He.DefD := ⟨("_law_from", none), "_law_from", "_law_from", defArgs s_law_from, defBody s_law_from, defScope s_law_from, [], []⟩
def d_law_sets : He.DefD := ⟨("_law_sets", none), "_law_sets", "_law_sets", defArgs s_law_sets, defBody s_law_sets, defScope s_law_sets, [], []⟩
def d_law_ring : He.DefD := ⟨("_law_ring", none), "_law_ring", "_law_ring", defArgs s_law_ring, defBody s_law_ring, defScope s_law_ring, [], []⟩
def d_law_held_from : He.DefD := ⟨("_law_held_from", none), "_law_held_from", "_law_held_from", defArgs s_law_held_from, defBody s_law_held_from, defScope s_law_held_from, [], []⟩
def dlaw : He.DefD := ⟨("law", none), "law", "law", defArgs slaw, defBody slaw, defScope slaw, [], []⟩
def fn : List He.DefD := [dis_in, dis_arrow, dneed_web, dneed_opened, dneed_both, dpairs_in, dfrozen_in, dloose_in, dstandings, dringless, dsets_in, dfresh_in, dcomes_in, dsides_in, dneed_held, dcomes_held, dheld_can_come, dheld_count, dring_breakers, d_law_changed, d_law_open, d_law_shut, d_law_after, d_law_taken, d_law_pick, d_law_web, d_law_standing, d_law_frozen, d_law_alike, d_law_from, d_law_sets, d_law_ring, d_law_held_from, dlaw]
def fa : List He.Fa := [.glo "is_in", .glo "is_arrow", .glo "need_web", .glo "need_opened", .glo "need_both", .glo "pairs_in", .glo "frozen_in", .glo "loose_in", .glo "standings", .glo "ringless", .glo "sets_in", .glo "fresh_in", .glo "comes_in", .glo "sides_in", .glo "need_held", .glo "comes_held", .glo "held_can_come", .glo "held_count", .glo "ring_breakers", .glo "_law_changed", .glo "_law_open", .glo "_law_shut", .glo "_law_after", .glo "_law_taken", .glo "_law_pick", .glo "_law_web", .glo "_law_standing", .glo "_law_frozen", .glo "_law_alike", .glo "_law_from", .glo "_law_sets", .glo "_law_ring", .glo "_law_held_from", .glo "law", .free "isinstance", .free "int", .free "bool", .free "tuple", .free "list", .free "str", .free "len", .free "range", .free "sorted", .free "set", .free "enumerate", .free "min", .int "MOST_DOORS" 9]
def loose : List PySem.Str := (["DoorError", "BadWeb", "BadOpened", "BadHeld", "MOST_DOORS", "is_in", "is_arrow", "need_web", "need_opened", "need_both", "pairs_in", "frozen_in"] : List PySem.Str) ++ (["loose_in", "standings", "ringless", "sets_in", "fresh_in", "comes_in", "sides_in", "need_held", "comes_held", "held_can_come", "held_count", "ring_breakers"] : List PySem.Str) ++ (["_law_changed", "_law_open", "_law_shut", "_law_after", "_law_taken", "_law_pick", "_law_web", "_law_standing", "_law_frozen", "_law_alike", "_law_from", "_law_sets"] : List PySem.Str) ++ (["_law_ring", "_law_held_from"] : List PySem.Str)
abbrev R : PySem.W.OpenRow := PySem.W.OpenLaw.row PySem.Challenge.rw_latchdoors_k37_whole_held_doors
abbrev hk : PySem.W.Hook := He.hookD 4 fa fn
def ob (s : PySem.W.SharedT) : He.AlD := He.obsDG 4 fa fn (HandSHeadRun.getT s)
theorem ob_eq (s : PySem.W.SharedT) : ob s = hk.obs s.abs := He.obsDG_eq (HandSHeadRun.getT_eq s)
theorem run (w : World) : HandSHeadRun.RunEq R (PySem.W.view R.prog [46]) hk ob 4000 loose w := by
  intro os
  kernel_rfl
end Ld
set_option maxHeartbeats 0
namespace Ld
open PySem PySem.Spec PyProof.Rows L2
theorem facts {P : Program} {w : World} {K : PySem.W.Frag} {h : Heap} {mg : Str → Option Value} {f : Addr} (X : K.In h) (G : h.Ns mainGlobals mg) (hfa : mg ("law" : Str) = some (.ref f)) (c : He.SaysD fa fn K) :
    ∃ fd : FuncData, (∀ (s : Shared) (v : Value), BindsTo s fd ⟨[v], []⟩ [("_law_script", v)]) ∧ ∀ base : Heap, K.In base → base.Ns mainGlobals mg → FnOk P w K mg base CX0 6 f fd ["_law_script"] (spLaw K) := by
  have T : Tx mg := ⟨He.free_ok X G (c.fact 34 (f := .free "isinstance") rfl), He.free_ok X G (c.fact 35 (f := .free "int") rfl), He.free_ok X G (c.fact 36 (f := .free "bool") rfl), He.free_ok X G (c.fact 37 (f := .free "tuple") rfl), He.free_ok X G (c.fact 38 (f := .free "list") rfl), He.free_ok X G (c.fact 39 (f := .free "str") rfl), He.free_ok X G (c.fact 40 (f := .free "len") rfl), He.free_ok X G (c.fact 41 (f := .free "range") rfl), He.free_ok X G (c.fact 42 (f := .free "sorted") rfl), He.free_ok X G (c.fact 43 (f := .free "set") rfl), He.free_ok X G (c.fact 44 (f := .free "enumerate") rfl), He.free_ok X G (c.fact 45 (f := .free "min") rfl), He.int_ok X G (c.fact 46 (f := .int "MOST_DOORS" 9) rfl)⟩
  obtain ⟨fd0, F0⟩ := c.def_ 0 (d := dis_in) rfl
  have g0 := He.glo_ok X G (c.fact 0 (f := .glo "is_in") rfl)
  have b0 : Binds K fd0 ["value", "least", "most"] [] := F0.bindsN fun _ _ _ _ _ _ us hl => match us, hl with | [_, _, _], _ => rfl
  obtain ⟨fd1, F1⟩ := c.def_ 1 (d := dis_arrow) rfl
  have g1 := He.glo_ok X G (c.fact 1 (f := .glo "is_arrow") rfl)
  have b1 : Binds K fd1 ["value", "many"] [] := F1.bindsN fun _ _ _ _ _ _ us hl => match us, hl with | [_, _], _ => rfl
  obtain ⟨fd2, F2⟩ := c.def_ 2 (d := dneed_web) rfl
  have g2 := He.glo_ok X G (c.fact 2 (f := .glo "need_web") rfl)
  have b2 : Binds K fd2 ["web"] [] := F2.bindsN fun _ _ _ _ _ _ us hl => match us, hl with | [_], _ => rfl
  obtain ⟨fd3, F3⟩ := c.def_ 3 (d := dneed_opened) rfl
  have g3 := He.glo_ok X G (c.fact 3 (f := .glo "need_opened") rfl)
  have b3 : Binds K fd3 ["web", "opened"] [] := F3.bindsN fun _ _ _ _ _ _ us hl => match us, hl with | [_, _], _ => rfl
  obtain ⟨fd4, F4⟩ := c.def_ 4 (d := dneed_both) rfl
  have g4 := He.glo_ok X G (c.fact 4 (f := .glo "need_both") rfl)
  have b4 : Binds K fd4 ["web", "opened"] [] := F4.bindsN fun _ _ _ _ _ _ us hl => match us, hl with | [_, _], _ => rfl
  obtain ⟨fd5, F5⟩ := c.def_ 5 (d := dpairs_in) rfl
  have g5 := He.glo_ok X G (c.fact 5 (f := .glo "pairs_in") rfl)
  have b5 : Binds K fd5 ["web", "opened"] [] := F5.bindsN fun _ _ _ _ _ _ us hl => match us, hl with | [_, _], _ => rfl
  obtain ⟨fd6, F6⟩ := c.def_ 6 (d := dfrozen_in) rfl
  have g6 := He.glo_ok X G (c.fact 6 (f := .glo "frozen_in") rfl)
  have b6 : Binds K fd6 ["web", "opened"] [] := F6.bindsN fun _ _ _ _ _ _ us hl => match us, hl with | [_, _], _ => rfl
  obtain ⟨fd7, F7⟩ := c.def_ 7 (d := dloose_in) rfl
  have g7 := He.glo_ok X G (c.fact 7 (f := .glo "loose_in") rfl)
  have b7 : Binds K fd7 ["web", "opened"] [] := F7.bindsN fun _ _ _ _ _ _ us hl => match us, hl with | [_, _], _ => rfl
  obtain ⟨fd8, F8⟩ := c.def_ 8 (d := dstandings) rfl
  have g8 := He.glo_ok X G (c.fact 8 (f := .glo "standings") rfl)
  have b8 : Binds K fd8 ["doors"] [] := F8.bindsN fun _ _ _ _ _ _ us hl => match us, hl with | [_], _ => rfl
  obtain ⟨fd9, F9⟩ := c.def_ 9 (d := dringless) rfl
  have g9 := He.glo_ok X G (c.fact 9 (f := .glo "ringless") rfl)
  have b9 : Binds K fd9 ["web", "some"] [] := F9.bindsN fun _ _ _ _ _ _ us hl => match us, hl with | [_, _], _ => rfl
  obtain ⟨fd10, F10⟩ := c.def_ 10 (d := dsets_in) rfl
  have g10 := He.glo_ok X G (c.fact 10 (f := .glo "sets_in") rfl)
  have b10 : Binds K fd10 ["web", "some"] [] := F10.bindsN fun _ _ _ _ _ _ us hl => match us, hl with | [_, _], _ => rfl
  obtain ⟨fd11, F11⟩ := c.def_ 11 (d := dfresh_in) rfl
  have g11 := He.glo_ok X G (c.fact 11 (f := .glo "fresh_in") rfl)
  have b11 : Binds K fd11 ["one", "other"] [] := F11.bindsN fun _ _ _ _ _ _ us hl => match us, hl with | [_, _], _ => rfl
  obtain ⟨fd12, F12⟩ := c.def_ 12 (d := dcomes_in) rfl
  have g12 := He.glo_ok X G (c.fact 12 (f := .glo "comes_in") rfl)
  have b12 : Binds K fd12 ["web", "one", "other"] [] := F12.bindsN fun _ _ _ _ _ _ us hl => match us, hl with | [_, _, _], _ => rfl
  obtain ⟨fd13, F13⟩ := c.def_ 13 (d := dsides_in) rfl
  have g13 := He.glo_ok X G (c.fact 13 (f := .glo "sides_in") rfl)
  have b13 : Binds K fd13 ["web", "opened"] [] := F13.bindsN fun _ _ _ _ _ _ us hl => match us, hl with | [_, _], _ => rfl
  obtain ⟨fd14, F14⟩ := c.def_ 14 (d := dneed_held) rfl
  have g14 := He.glo_ok X G (c.fact 14 (f := .glo "need_held") rfl)
  have b14 : Binds K fd14 ["web", "held"] [] := F14.bindsN fun _ _ _ _ _ _ us hl => match us, hl with | [_, _], _ => rfl
  obtain ⟨fd15, F15⟩ := c.def_ 15 (d := dcomes_held) rfl
  have g15 := He.glo_ok X G (c.fact 15 (f := .glo "comes_held") rfl)
  have b15 : Binds K fd15 ["web", "one", "other", "held"] [] := F15.bindsN fun _ _ _ _ _ _ us hl => match us, hl with | [_, _, _, _], _ => rfl
  obtain ⟨fd16, F16⟩ := c.def_ 16 (d := dheld_can_come) rfl
  have g16 := He.glo_ok X G (c.fact 16 (f := .glo "held_can_come") rfl)
  have b16 : Binds K fd16 ["web", "one", "other", "held"] [] := F16.bindsN fun _ _ _ _ _ _ us hl => match us, hl with | [_, _, _, _], _ => rfl
  obtain ⟨fd17, F17⟩ := c.def_ 17 (d := dheld_count) rfl
  have g17 := He.glo_ok X G (c.fact 17 (f := .glo "held_count") rfl)
  have b17 : Binds K fd17 ["web", "opened", "held"] [] := F17.bindsN fun _ _ _ _ _ _ us hl => match us, hl with | [_, _, _], _ => rfl
  obtain ⟨fd18, F18⟩ := c.def_ 18 (d := dring_breakers) rfl
  have g18 := He.glo_ok X G (c.fact 18 (f := .glo "ring_breakers") rfl)
  have b18 : Binds K fd18 ["web", "opened"] [] := F18.bindsN fun _ _ _ _ _ _ us hl => match us, hl with | [_, _], _ => rfl
  obtain ⟨fd19, F19⟩ := c.def_ 19 (d := d_law_changed) rfl
  have g19 := He.glo_ok X G (c.fact 19 (f := .glo "_law_changed") rfl)
  have b19 : Binds K fd19 ["_law_opened", "_law_door"] [] := F19.bindsN fun _ _ _ _ _ _ us hl => match us, hl with | [_, _], _ => rfl
  obtain ⟨fd20, F20⟩ := c.def_ 20 (d := d_law_open) rfl
  have g20 := He.glo_ok X G (c.fact 20 (f := .glo "_law_open") rfl)
  have b20 : Binds K fd20 ["_law_web_here", "_law_opened"] [] := F20.bindsN fun _ _ _ _ _ _ us hl => match us, hl with | [_, _], _ => rfl
  obtain ⟨fd21, F21⟩ := c.def_ 21 (d := d_law_shut) rfl
  have g21 := He.glo_ok X G (c.fact 21 (f := .glo "_law_shut") rfl)
  have b21 : Binds K fd21 ["_law_web_here", "_law_opened"] [] := F21.bindsN fun _ _ _ _ _ _ us hl => match us, hl with | [_, _], _ => rfl
  obtain ⟨fd22, F22⟩ := c.def_ 22 (d := d_law_after) rfl
  have g22 := He.glo_ok X G (c.fact 22 (f := .glo "_law_after") rfl)
  have b22 : Binds K fd22 ["_law_web_here", "_law_opened"] [] := F22.bindsN fun _ _ _ _ _ _ us hl => match us, hl with | [_, _], _ => rfl
  obtain ⟨fd23, F23⟩ := c.def_ 23 (d := d_law_taken) rfl
  have g23 := He.glo_ok X G (c.fact 23 (f := .glo "_law_taken") rfl)
  have b23 : Binds K fd23 ["_law_row", "_law_many"] [] := F23.bindsN fun _ _ _ _ _ _ us hl => match us, hl with | [_, _], _ => rfl
  obtain ⟨fd24, F24⟩ := c.def_ 24 (d := d_law_pick) rfl
  have g24 := He.glo_ok X G (c.fact 24 (f := .glo "_law_pick") rfl)
  have b24 : Binds K fd24 ["_law_row", "_law_things"] [] := F24.bindsN fun _ _ _ _ _ _ us hl => match us, hl with | [_, _], _ => rfl
  obtain ⟨fd25, F25⟩ := c.def_ 25 (d := d_law_web) rfl
  have g25 := He.glo_ok X G (c.fact 25 (f := .glo "_law_web") rfl)
  have b25 : Binds K fd25 ["_law_row", "_law_most"] [] := F25.bindsN fun _ _ _ _ _ _ us hl => match us, hl with | [_, _], _ => rfl
  obtain ⟨fd26, F26⟩ := c.def_ 26 (d := d_law_standing) rfl
  have g26 := He.glo_ok X G (c.fact 26 (f := .glo "_law_standing") rfl)
  have b26 : Binds K fd26 ["_law_row", "_law_web_here"] [] := F26.bindsN fun _ _ _ _ _ _ us hl => match us, hl with | [_, _], _ => rfl
  obtain ⟨fd27, F27⟩ := c.def_ 27 (d := d_law_frozen) rfl
  have g27 := He.glo_ok X G (c.fact 27 (f := .glo "_law_frozen") rfl)
  have b27 : Binds K fd27 ["_law_web_here", "_law_opened"] [] := F27.bindsN fun _ _ _ _ _ _ us hl => match us, hl with | [_, _], _ => rfl
  obtain ⟨fd28, F28⟩ := c.def_ 28 (d := d_law_alike) rfl
  have g28 := He.glo_ok X G (c.fact 28 (f := .glo "_law_alike") rfl)
  have b28 : Binds K fd28 ["_law_found", "_law_due"] [] := F28.bindsN fun _ _ _ _ _ _ us hl => match us, hl with | [_, _], _ => rfl
  obtain ⟨fd29, F29⟩ := c.def_ 29 (d := d_law_from) rfl
  have g29 := He.glo_ok X G (c.fact 29 (f := .glo "_law_from") rfl)
  have b29 : Binds K fd29 ["_law_web_here", "_law_opened"] [] := F29.bindsN fun _ _ _ _ _ _ us hl => match us, hl with | [_, _], _ => rfl
  obtain ⟨fd30, F30⟩ := c.def_ 30 (d := d_law_sets) rfl
  have g30 := He.glo_ok X G (c.fact 30 (f := .glo "_law_sets") rfl)
  have b30 : Binds K fd30 ["_law_some"] [] := F30.bindsN fun _ _ _ _ _ _ us hl => match us, hl with | [_], _ => rfl
  obtain ⟨fd31, F31⟩ := c.def_ 31 (d := d_law_ring) rfl
  have g31 := He.glo_ok X G (c.fact 31 (f := .glo "_law_ring") rfl)
  have b31 : Binds K fd31 ["_law_web_here", "_law_some"] [] := F31.bindsN fun _ _ _ _ _ _ us hl => match us, hl with | [_, _], _ => rfl
  obtain ⟨fd32, F32⟩ := c.def_ 32 (d := d_law_held_from) rfl
  have g32 := He.glo_ok X G (c.fact 32 (f := .glo "_law_held_from") rfl)
  have b32 : Binds K fd32 ["_law_web_here", "_law_opened", "_law_held"] [] := F32.bindsN fun _ _ _ _ _ _ us hl => match us, hl with | [_, _, _], _ => rfl
  obtain ⟨fd, F⟩ := c.def_ 33 (d := dlaw) rfl
  have e := hfa.symm.trans (He.glo_ok X G (c.fact 33 (f := .glo "law") rfl))
  cases e
  have b := FunD.bindsA (ps := ["_law_script"]) F fun _ _ _ _ _ _ us hl => match us, hl with | [_], _ => rfl
  refine ⟨fd, fun s v => b s [v] rfl, fun base _ _ => ?_⟩
  have C0 : Cal P w K mg base "is_in" ["value", "least", "most"] 1 (spR K R_is_in) := cal_of (st := sis_in) F0 (ok_is_in T F0) g0 b0
  have C1 : Cal P w K mg base "is_arrow" ["value", "many"] 2 (spR K R_is_arrow) := cal_of (st := sis_arrow) F1 (ok_is_arrow T C0 F1) g1 b1
  have C2 : Cal P w K mg base "need_web" ["web"] 3 (spR K R_need_web) := cal_of (st := sneed_web) F2 (ok_need_web T C0 C1 F2) g2 b2
  have C3 : Cal P w K mg base "need_opened" ["web", "opened"] 2 (spR K R_need_opened) := cal_of (st := sneed_opened) F3 (ok_need_opened T C0 F3) g3 b3
  have C4 : Cal P w K mg base "need_both" ["web", "opened"] 4 (spR K R_need_both) := cal_of (st := sneed_both) F4 (ok_need_both C2 C3 F4) g4 b4
  have C5 : Cal P w K mg base "pairs_in" ["web", "opened"] 1 (spR K R_pairs_in) := cal_of (st := spairs_in) F5 (ok_pairs_in F5) g5 b5
  have C6 : Cal P w K mg base "frozen_in" ["web", "opened"] 2 (spR K R_frozen_in) := cal_of (st := sfrozen_in) F6 (ok_frozen_in T C5 F6) g6 b6
  have C7 : Cal P w K mg base "loose_in" ["web", "opened"] 3 (spR K R_loose_in) := cal_of (st := sloose_in) F7 (ok_loose_in T C6 F7) g7 b7
  have C8 : Cal P w K mg base "standings" ["doors"] 1 (spR K R_standings) := cal_of (st := sstandings) F8 (ok_standings T F8) g8 b8
  have C9 : Cal P w K mg base "ringless" ["web", "some"] 1 (spR K R_ringless) := cal_of (st := sringless) F9 (ok_ringless T F9) g9 b9
  have C10 : Cal P w K mg base "sets_in" ["web", "some"] 2 (spR K R_sets_in) := cal_of (st := ssets_in) F10 (ok_sets_in T C8 C9 F10) g10 b10
  have C11 : Cal P w K mg base "fresh_in" ["one", "other"] 1 (spR K R_fresh_in) := cal_of (st := sfresh_in) F11 (ok_fresh_in T F11) g11 b11
  have C12 : Cal P w K mg base "comes_in" ["web", "one", "other"] 3 (spR K R_comes_in) := cal_of (st := scomes_in) F12 (ok_comes_in T C6 C11 C9 F12) g12 b12
  have C13 : Cal P w K mg base "sides_in" ["web", "opened"] 4 (spR K R_sides_in) := cal_of (st := ssides_in) F13 (ok_sides_in C7 F13) g13 b13
  have C14 : Cal P w K mg base "need_held" ["web", "held"] 2 (spR K R_need_held) := cal_of (st := sneed_held) F14 (ok_need_held T C0 F14) g14 b14
  have C15 : Cal P w K mg base "comes_held" ["web", "one", "other", "held"] 4 (spR K R_comes_held) := cal_of (st := scomes_held) F15 (ok_comes_held C11 C12 F15) g15 b15
  have C16 : Cal P w K mg base "held_can_come" ["web", "one", "other", "held"] 5 (spR K R_held_can_come) := cal_of (st := sheld_can_come) F16 (ok_held_can_come C4 C3 C14 C15 F16) g16 b16
  have C17 : Cal P w K mg base "held_count" ["web", "opened", "held"] 5 (spR K R_held_count) := cal_of (st := sheld_count) F17 (ok_held_count T C4 C14 C13 C10 F17) g17 b17
  have C18 : Cal P w K mg base "ring_breakers" ["web", "opened"] 5 (spR K R_ring_breakers) := cal_of (st := sring_breakers) F18 (ok_ring_breakers T C4 C13 C10 F18) g18 b18
  have C19 : Cal P w K mg base "_law_changed" ["_law_opened", "_law_door"] 1 (spR K R_law_changed) := cal_of (st := s_law_changed) F19 (ok_law_changed T F19) g19 b19
  have C20 : Cal P w K mg base "_law_open" ["_law_web_here", "_law_opened"] 1 (spR K R_law_open) := cal_of (st := s_law_open) F20 (ok_law_open T F20) g20 b20
  have C21 : Cal P w K mg base "_law_shut" ["_law_web_here", "_law_opened"] 1 (spR K R_law_shut) := cal_of (st := s_law_shut) F21 (ok_law_shut T F21) g21 b21
  have C22 : Cal P w K mg base "_law_after" ["_law_web_here", "_law_opened"] 2 (spR K R_law_after) := cal_of (st := s_law_after) F22 (ok_law_after T C19 C20 C21 F22) g22 b22
  have C23 : Cal P w K mg base "_law_taken" ["_law_row", "_law_many"] 1 (spM K PreT PostT) := cal_of (st := s_law_taken) F23 (ok_law_taken T F23) g23 b23
  have C24 : Cal P w K mg base "_law_pick" ["_law_row", "_law_things"] 2 (spM K PreP PostP) := cal_of (st := s_law_pick) F24 (ok_law_pick T C23 F24) g24 b24
  have C25 : Cal P w K mg base "_law_web" ["_law_row", "_law_most"] 3 (spM K PreW PostW) := cal_of (st := s_law_web) F25 (ok_law_web T C23 C24 F25) g25 b25
  have C26 : Cal P w K mg base "_law_standing" ["_law_row", "_law_web_here"] 2 (spM K PreS PostS) := cal_of (st := s_law_standing) F26 (ok_law_standing T C23 F26) g26 b26
  have C27 : Cal P w K mg base "_law_frozen" ["_law_web_here", "_law_opened"] 1 (spR K R_law_frozen) := cal_of (st := s_law_frozen) F27 (ok_law_frozen T F27) g27 b27
  have C28 : Cal P w K mg base "_law_alike" ["_law_found", "_law_due"] 1 (spR K R_alike0) := cal_of (st := s_law_alike) F28 (ok_law_alike0 T F28) g28 b28
  have C29 : Cal P w K mg base "_law_from" ["_law_web_here", "_law_opened"] 3 (spF P w K) := cal_of (st := s_law_from) F29 (ok_law_from C22 F29) g29 b29
  have C30 : Cal P w K mg base "_law_sets" ["_law_some"] 1 (spR K R_standings) := cal_of (st := s_law_sets) F30 (ok_law_sets T F30) g30 b30
  have C31 : Cal P w K mg base "_law_ring" ["_law_web_here", "_law_some"] 1 (spR K R_law_ring) := cal_of (st := s_law_ring) F31 (ok_law_ring T F31) g31 b31
  have C32 : Cal P w K mg base "_law_held_from" ["_law_web_here", "_law_opened", "_law_held"] 3 (spN K PreH PostH) := cal_of (st := s_law_held_from) F32 (ok_law_held_from C22 F32) g32 b32
  have D28 : Cal P w K mg base "_law_alike" ["_law_found", "_law_due"] 2 (spR K R_alike1) := cal_of (st := s_law_alike) F28 (ok_law_alike1 T C28 F28) g28 b28
  exact ok_law T ⟨C23, C24, C25, C26, C32, C27, C28, D28, C29, C30, C31, C17, C16, C18⟩ F
end Ld
open PySem PySem.W PySem.Calls PyProof.Rows
theorem PySem.Challenge.cw_latchdoors_k37_whole_held_doors_holds : PySem.Challenge.rw_latchdoors_k37_whole_held_doors.Holds := by
  w_on; o_law
  refine HandSHeadRun.head_any (r := OpenLaw.row PySem.Challenge.rw_latchdoors_k37_whole_held_doors) (q := view (OpenLaw.row PySem.Challenge.rw_latchdoors_k37_whole_held_doors).prog [46]) (H := Ld.hk) (ob := Ld.ob) (M := 4000) (loose := Ld.loose) (d := HandSHeadRun.topDef (OpenLaw.row PySem.Challenge.rw_latchdoors_k37_whole_held_doors).prog 46) (kwd := []) Ld.ob_eq
    (by kernel_rfl) (fun s => by kernel_rfl) Ld.run (by kernel_rfl) (by kernel_rfl) (by kernel_rfl) (by rfl) (by first | assumption | decide +kernel) (by decide +kernel) ⟨rfl, rfl, rfl, rfl, rfl, by decide +kernel⟩ ?hw ?hc
  case hw => w_witness2
  case hc =>
    refine L2.walk_ofE (l := PySem.Challenge.rw_latchdoors_k37_whole_held_doors) (n := 63) (k := 6) (x := "_law_script") (CX := L2.CX0) rfl (by decide) (by kernel_rfl) ⟨rfl, by decide, by decide⟩ ?F (fun _ _ _ _ z => z)
    intro w mg fa h Y G hmg0
    obtain ⟨K, KX, c⟩ := Y
    have hmg : mg ("law" : PySem.Str) = some (.ref fa) := by
      have e : (HandSHeadRun.topDef (OpenLaw.row PySem.Challenge.rw_latchdoors_k37_whole_held_doors).prog 46).name = ("law" : PySem.Str) := by kernel_rfl
      rw [← e]
      exact hmg0
    obtain ⟨fd, hb, hF⟩ := Ld.facts (P := (PySem.Challenge.rw_latchdoors_k37_whole_held_doors).prog) (w := w) KX G hmg c
    exact ⟨K, fd, Ld.spLaw K, KX, hb, fun H a ns hl _ hS => ⟨H, ns, Evl.Ex.refl H, .cons (.lst hS (Ld.ints_dpAll ns)) .nil, fun _ => rfl⟩, hF⟩
