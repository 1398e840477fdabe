import PyProof.Rows.All
import HandS.ForMost
import HandS.ForExc
import HandS.Deep
import HandS.TupAny
import HandS.TupMul
import HandS.IsInst
import HandS.Conv
import HandS.Walk
import KE.DataCmp
import KE.SortData
import KE.DatumOrd
import HandS.Iter
import KE.KDictKeyed
import KE.KDictDisplayH
import KE.KDictWalk
import Wide.All
import OpenK.AllK
import Wide.FinOn
import KE.KStateDown
import Lean
import HandS.More
import HandS.Defaults
import HandS.Head0
import HandS.Head1
import HandS.Head2
import HandS.HeadEnd
import HandS.HeadHook1
import HandS.HeadHook2
import HandS.HeadHook3
import HandS.HeadHook4
import HandS.ExcCtx
import HandS.ExcIs
import HandS.ExcField
import HandS.ExcInit
import HandS.Style
import KE.GoesMore
import KE.GoesEnum
import HandS.HotCalls
import PySem.Challenge.RW_narrowahead_k15_whole_seats_put_to_the_e
set_option Elab.async false
set_option linter.all false
set_option maxRecDepth 100000
set_option maxHeartbeats 0
/-! The mathematics: free seats, pairs that rows come to, the search, its bounds. No program in sight. -/
namespace K15
open PySem

/-! ### lists without doubles -/
theorem len_le_of_sub {α : Type} [DecidableEq α] : ∀ {l m : List α}, l.Nodup → (∀ x ∈ l, x ∈ m) → l.length ≤ m.length
  | [], m, _, _ => Nat.zero_le _
  | a :: l, m, hn, hs => by
    have ha : a ∈ m := hs a List.mem_cons_self
    obtain ⟨hal, hn'⟩ := List.nodup_cons.mp hn
    have h1 : l.length ≤ (m.erase a).length := len_le_of_sub hn' fun x hx => (List.mem_erase_of_ne (show x ≠ a from fun e => hal (by rw [← e]; exact hx))).mpr (hs x (List.mem_cons_of_mem _ hx))
    have h2 : (m.erase a).length = m.length - 1 := List.length_erase_of_mem ha
    have h3 : 0 < m.length := List.length_pos_of_mem ha
    simp only [List.length_cons]
    omega
def subs {α : Type} : List α → List (List α)
  | [] => [[]]
  | a :: l => subs l ++ (subs l).map (a :: ·)
theorem subs_len {α : Type} : ∀ l : List α, (subs l).length = 2 ^ l.length
  | [] => rfl
  | a :: l => by
    show (subs l ++ (subs l).map (a :: ·)).length = _
    rw [List.length_append, List.length_map, subs_len l, List.length_cons, Nat.pow_succ]
    omega
theorem mem_subs {α : Type} {s l : List α} (h : List.Sublist s l) : s ∈ subs l := by
  induction h with
  | slnil => exact List.mem_singleton.mpr rfl
  | cons a _ ih => exact List.mem_append_left _ ih
  | cons_cons a _ ih => exact List.mem_append_right _ (List.mem_map.mpr ⟨_, ih, rfl⟩)
theorem of_mem_subs {α : Type} : ∀ {l s : List α}, s ∈ subs l → List.Sublist s l
  | [], s, h => by
    have e : s = [] := List.mem_singleton.mp h
    subst e
    exact List.Sublist.refl _
  | a :: l, s, h => by
    rcases List.mem_append.mp h with h | h
    · exact List.Sublist.cons _ (of_mem_subs h)
    · obtain ⟨t, ht, e⟩ := List.mem_map.mp h
      subst e
      exact List.Sublist.cons_cons _ (of_mem_subs ht)
theorem subs_nodup {α : Type} : ∀ {l : List α}, l.Nodup → (subs l).Nodup
  | [], _ => by
    show ([[]] : List (List α)).Nodup
    exact List.nodup_cons.mpr ⟨by simp, List.nodup_nil⟩
  | a :: l, h => by
    obtain ⟨ha, hl⟩ := List.nodup_cons.mp h
    have ih := subs_nodup hl
    refine List.nodup_append.mpr ⟨ih, List.Pairwise.map _ (fun x y hxy e => hxy (List.cons.inj e).2) ih, fun x hx y hy e => ?_⟩
    obtain ⟨t, ht, e2⟩ := List.mem_map.mp hy
    subst e
    subst e2
    exact ha ((of_mem_subs hx).subset List.mem_cons_self)

/-! ### free seats -/
abbrev Lot := List Str
abbrev Lots := List (List Str)
abbrev Free := List Nat
abbrev Pr := List Nat × List Nat
def fits (L : Lots) (k : Str) (i : Nat) : Bool := decide (k ∈ L.getD i [])
def firstS (L : Lots) (f : Free) (k : Str) : Option Nat := f.find? (fits L k)
def without (f : Free) (i : Nat) : Free := f.filter fun j => decide (j ≠ i)
def behindS (L : Lots) (f : Free) (k : Str) : Free := match firstS L f k with
  | none => f
  | some i => without f i
def stepS (L M : Lots) (p : Pr) (k : Str) : Pr := (behindS L p.1 k, behindS M p.2 k)
def startS (L M : Lots) : Pr := (List.range L.length, List.range M.length)
def leadS (L M : Lots) (p : Pr) : Int := (L.length : Int) - (p.1.length : Int) - ((M.length : Int) - (p.2.length : Int))
inductive Reach (L M : Lots) (E : List Str) : Pr → Prop
  | start : Reach L M E (startS L M)
  | step {p : Pr} {k : Str} : Reach L M E p → k ∈ E → Reach L M E (stepS L M p k)
/-- the one never takes fewer -/
def Never (L M : Lots) (E : List Str) : Prop := ∀ p, Reach L M E p → 0 ≤ leadS L M p
/-- at most n pairs are come to -/
def Bound (L M : Lots) (E : List Str) (n : Nat) : Prop := ∀ F : List Pr, F.Nodup → (∀ p ∈ F, Reach L M E p) → F.length ≤ n

section
variable {L M : Lots} {E : List Str} {F : List Pr} {n m : Nat}
theorem Bound.mono (h : Bound L M E n) (e : n ≤ m) : Bound L M E m := fun F a b => Nat.le_trans (h F a b) e
theorem reach_in (h0 : startS L M ∈ F) (hc : ∀ p ∈ F, ∀ k ∈ E, stepS L M p k ∈ F) : ∀ p, Reach L M E p → p ∈ F := by
  intro p h
  induction h with
  | start => exact h0
  | step _ hk ih => exact hc _ ih _ hk
/-- a list that has all of them bounds them -/
theorem bound_of (h : ∀ p, Reach L M E p → p ∈ F) : Bound L M E F.length := fun G hn hr => len_le_of_sub hn fun p hp => h p (hr p hp)
theorem without_sub (f : Free) (i : Nat) : List.Sublist (without f i) f := List.filter_sublist
theorem behind_sub (L : Lots) (f : Free) (k : Str) : List.Sublist (behindS L f k) f := by
  unfold behindS
  split
  · exact List.Sublist.refl _
  · exact without_sub _ _
theorem reach_sub {p : Pr} (h : Reach L M E p) : List.Sublist p.1 (List.range L.length) ∧ List.Sublist p.2 (List.range M.length) := by
  induction h with
  | start => exact ⟨List.Sublist.refl _, List.Sublist.refl _⟩
  | step _ _ ih => exact ⟨(behind_sub _ _ _).trans ih.1, (behind_sub _ _ _).trans ih.2⟩
/-- all pairs of two lists -/
def pairsOf {α : Type} (a b : List α) : List (α × α) := a.flatMap fun x => b.map fun y => (x, y)
theorem pairsOf_len {α : Type} (a b : List α) : (pairsOf a b).length = a.length * b.length := by
  unfold pairsOf
  induction a with
  | nil => simp
  | cons x a ih => rw [List.flatMap_cons, List.length_append, ih, List.length_map, List.length_cons, Nat.succ_mul, Nat.add_comm]
theorem mem_pairsOf {α : Type} {a b : List α} {x y : α} (hx : x ∈ a) (hy : y ∈ b) : (x, y) ∈ pairsOf a b := List.mem_flatMap.mpr ⟨x, hx, List.mem_map.mpr ⟨y, hy, rfl⟩⟩
theorem bound_small : Bound L M E (2 ^ L.length * 2 ^ M.length) := by
  intro F hn hr
  have h := len_le_of_sub hn (m := pairsOf (subs (List.range L.length)) (subs (List.range M.length))) fun p hp => by
    obtain ⟨a, b⟩ := reach_sub (hr p hp)
    exact mem_pairsOf (mem_subs a) (mem_subs b)
  rw [pairsOf_len, subs_len, subs_len, List.length_range, List.length_range] at h
  exact h
theorem bound_le {a b : Nat} (ha : L.length ≤ a) (hb : M.length ≤ b) : Bound L M E (2 ^ a * 2 ^ b) :=
  bound_small.mono (Nat.mul_le_mul (Nat.pow_le_pow_right (by decide) ha) (Nat.pow_le_pow_right (by decide) hb))

/-! ### lists whose seats are all alike -/
theorem fits_rep {n i : Nat} {lot : Lot} {k : Str} (h : i < n) : fits (List.replicate n lot) k i = decide (k ∈ lot) := by
  unfold fits
  rw [List.getD_eq_getElem?_getD, List.getElem?_replicate, if_pos h]
  rfl
theorem drop_range (n i : Nat) (h : i < n) : (List.range n).drop i = i :: (List.range n).drop (i + 1) := by
  rw [List.drop_eq_getElem_cons (by simpa using h)]
  simp
theorem mem_drop_range {n i j : Nat} (h : j ∈ (List.range n).drop i) : i ≤ j ∧ j < n := by
  rw [List.mem_iff_getElem?] at h
  obtain ⟨t, ht⟩ := h
  rw [List.getElem?_drop] at ht
  obtain ⟨h1, h2⟩ := List.getElem?_eq_some_iff.mp ht
  rw [List.getElem_range] at h2
  rw [List.length_range] at h1
  omega
theorem behind_rep (n i : Nat) (lot : Lot) (k : Str) : behindS (List.replicate n lot) ((List.range n).drop i) k = if k ∈ lot then (List.range n).drop (i + 1) else (List.range n).drop i := by
  by_cases hk : k ∈ lot
  · rw [if_pos hk]
    by_cases hi : i < n
    · have h1 : firstS (List.replicate n lot) ((List.range n).drop i) k = some i := by
        unfold firstS
        rw [drop_range n i hi, List.find?_cons_of_pos]
        rw [fits_rep hi]
        exact decide_eq_true hk
      have h2 : without ((List.range n).drop i) i = (List.range n).drop (i + 1) := by
        unfold without
        rw [drop_range n i hi, List.filter_cons_of_neg (by simp), List.filter_eq_self]
        intro j hj
        obtain ⟨a, b⟩ := mem_drop_range hj
        exact decide_eq_true (by omega)
      unfold behindS
      rw [h1]
      exact h2
    · have e : (List.range n).drop i = [] := List.drop_eq_nil_of_le (by rw [List.length_range]; omega)
      have e2 : (List.range n).drop (i + 1) = [] := List.drop_eq_nil_of_le (by rw [List.length_range]; omega)
      rw [e, e2]
      rfl
  · rw [if_neg hk]
    have h1 : firstS (List.replicate n lot) ((List.range n).drop i) k = none := by
      unfold firstS
      rw [List.find?_eq_none]
      intro j hj
      obtain ⟨a, b⟩ := mem_drop_range hj
      rw [fits_rep b, decide_eq_true_eq]
      exact hk
    unfold behindS
    rw [h1]
theorem reach_rep {n m : Nat} {a b : Lot} {p : Pr} (h : Reach (List.replicate n a) (List.replicate m b) E p) : ∃ i j, i ≤ n ∧ j ≤ m ∧ p = ((List.range n).drop i, (List.range m).drop j) := by
  induction h with
  | start =>
    refine ⟨0, 0, Nat.zero_le _, Nat.zero_le _, ?_⟩
    unfold startS
    rw [List.length_replicate, List.length_replicate, List.drop_zero, List.drop_zero]
  | step h hk ih =>
    obtain ⟨i, j, hi, hj, rfl⟩ := ih
    have one : ∀ (n i : Nat) (a : Lot) (k : Str), i ≤ n → ∃ i', i' ≤ n ∧ behindS (List.replicate n a) ((List.range n).drop i) k = (List.range n).drop i' := by
      intro n i a k hi
      rw [behind_rep]
      by_cases hk : k ∈ a
      · rw [if_pos hk]
        by_cases h : i < n
        · exact ⟨i + 1, h, rfl⟩
        · refine ⟨n, Nat.le_refl _, ?_⟩
          rw [List.drop_eq_nil_of_le (by rw [List.length_range]; omega), List.drop_eq_nil_of_le (by rw [List.length_range]; omega)]
      · rw [if_neg hk]
        exact ⟨i, hi, rfl⟩
    obtain ⟨i', h1, e1⟩ := one _ i a _ hi
    obtain ⟨j', h2, e2⟩ := one _ j b _ hj
    refine ⟨i', j', h1, h2, ?_⟩
    unfold stepS
    dsimp only
    rw [e1, e2]
theorem bound_rep {n m : Nat} {a b : Lot} : Bound (List.replicate n a) (List.replicate m b) E ((n + 1) * (m + 1)) := by
  intro F hn hr
  have h := len_le_of_sub hn (m := pairsOf ((List.range (n + 1)).map fun i => (List.range n).drop i) ((List.range (m + 1)).map fun i => (List.range m).drop i)) fun p hp => by
    obtain ⟨i, j, hi, hj, e⟩ := reach_rep (hr p hp)
    subst e
    exact mem_pairsOf (List.mem_map.mpr ⟨i, List.mem_range.mpr (by omega), rfl⟩) (List.mem_map.mpr ⟨j, List.mem_range.mpr (by omega), rfl⟩)
  rw [pairsOf_len, List.length_map, List.length_map, List.length_range, List.length_range] at h
  exact h
theorem reach_rep_both {n m : Nat} {a b : Lot} {k : Str} (ha : k ∈ a) (hb : k ∈ b) (hE : k ∈ E) : ∀ i, Reach (List.replicate n a) (List.replicate m b) E ((List.range n).drop i, (List.range m).drop i)
  | 0 => by
    have h := Reach.start (L := List.replicate n a) (M := List.replicate m b) (E := E)
    unfold startS at h
    rw [List.length_replicate, List.length_replicate] at h
    exact h
  | i + 1 => by
    have h := Reach.step (reach_rep_both (n := n) (m := m) ha hb hE i) hE
    unfold stepS at h
    dsimp only at h
    rw [behind_rep, behind_rep, if_pos ha, if_pos hb] at h
    exact h
theorem not_never_rep {n m : Nat} {a b : Lot} {k : Str} (ha : k ∈ a) (hb : k ∈ b) (hE : k ∈ E) (h : n < m) : ¬ Never (List.replicate n a) (List.replicate m b) E := fun hv => by
  have q := hv _ (reach_rep_both (n := n) (m := m) ha hb hE m)
  unfold leadS at q
  rw [List.drop_eq_nil_of_le (by rw [List.length_range]; omega), List.drop_eq_nil_of_le (by rw [List.length_range]; omega), List.length_replicate, List.length_replicate] at q
  simp only [List.length_nil] at q
  omega

/-! ### the same list twice; nothing to be taken -/
theorem never_self : Never L L E := by
  intro p h
  have e : p.1 = p.2 := by
    induction h with
    | start => rfl
    | step _ _ ih =>
      unfold stepS
      dsimp only
      rw [ih]
  unfold leadS
  rw [e]
  omega
theorem never_nil : Never L [] E := by
  intro p h
  obtain ⟨a, b⟩ := reach_sub h
  have h1 := a.length_le
  have h2 := b.length_le
  rw [List.length_range] at h1 h2
  unfold leadS
  simp only [List.length_nil] at h2 ⊢
  omega

/-! ### seats of one kind each, all unlike: every set of free seats is come to -/
theorem reach_sets {ks : List Str} (hn : ks.Nodup) (hE : ∀ k ∈ ks, k ∈ E) (L : Lots) (hL : L = ks.map fun k => [k]) (R : List Nat) :
    Reach L L E ((List.range L.length).filter (fun j => decide (j ∉ R)), (List.range L.length).filter (fun j => decide (j ∉ R))) := by
  subst hL
  induction R with
  | nil =>
    have e : (List.range (ks.map fun k => [k]).length).filter (fun j => decide (j ∉ ([] : List Nat))) = List.range (ks.map fun k => [k]).length := by
      rw [List.filter_eq_self]
      intro j _
      simp
    rw [e]
    exact Reach.start
  | cons r R ih =>
    by_cases hr : r < ks.length
    · have hk : ks[r] ∈ E := hE _ (List.getElem_mem hr)
      have h := Reach.step ih hk
      have hfit : ∀ j, j < ks.length → (fits (ks.map fun k => [k]) ks[r] j = true ↔ j = r) := by
        intro j hj
        unfold fits
        rw [decide_eq_true_eq, List.getD_eq_getElem?_getD, List.getElem?_map, List.getElem?_eq_getElem hj, Option.map_some, Option.getD_some, List.mem_singleton]
        constructor
        · intro e
          exact ((List.getElem_inj hn).mp e).symm
        · intro e
          subst e
          rfl
      have key : behindS (ks.map fun k => [k]) ((List.range (ks.map fun k => [k]).length).filter (fun j => decide (j ∉ R))) ks[r] = (List.range (ks.map fun k => [k]).length).filter (fun j => decide (j ∉ r :: R)) := by
        rw [List.length_map]
        by_cases hR : r ∈ R
        · have h1 : firstS (ks.map fun k => [k]) ((List.range ks.length).filter (fun j => decide (j ∉ R))) ks[r] = none := by
            unfold firstS
            rw [List.find?_eq_none]
            intro j hj hf
            obtain ⟨h2, h3⟩ := List.mem_filter.mp hj
            have e := (hfit j (List.mem_range.mp h2)).mp hf
            subst e
            exact (of_decide_eq_true h3) hR
          unfold behindS
          rw [h1]
          refine List.filter_congr fun j hj => ?_
          by_cases e : j = r
          · subst e
            simp [hR]
          · simp [e]
        · have hmem : r ∈ (List.range ks.length).filter (fun j => decide (j ∉ R)) := List.mem_filter.mpr ⟨List.mem_range.mpr hr, decide_eq_true hR⟩
          have h1 : firstS (ks.map fun k => [k]) ((List.range ks.length).filter (fun j => decide (j ∉ R))) ks[r] = some r := by
            unfold firstS
            cases hf : ((List.range ks.length).filter (fun j => decide (j ∉ R))).find? (fits (ks.map fun k => [k]) ks[r]) with
            | none =>
              rw [List.find?_eq_none] at hf
              exact absurd ((hfit r hr).mpr rfl) (hf r hmem)
            | some i =>
              have h2 := List.find?_some hf
              have h3 := List.mem_of_find?_eq_some hf
              obtain ⟨h4, _⟩ := List.mem_filter.mp h3
              rw [(hfit i (List.mem_range.mp h4)).mp h2]
          unfold behindS
          rw [h1]
          show without _ r = _
          unfold without
          rw [List.filter_filter]
          refine List.filter_congr fun j hj => ?_
          by_cases e : j = r
          · subst e
            simp
          · simp [e]
      unfold stepS at h
      dsimp only at h
      rw [key] at h
      exact h
    · have e : (List.range (ks.map fun k => [k]).length).filter (fun j => decide (j ∉ r :: R)) = (List.range (ks.map fun k => [k]).length).filter (fun j => decide (j ∉ R)) := by
        refine List.filter_congr fun j hj => ?_
        rw [List.length_map] at hj
        have hj' := List.mem_range.mp hj
        have ne : j ≠ r := by omega
        simp [ne]
      rw [e]
      exact ih
theorem filter_mem_sub {α : Type} [DecidableEq α] {s l : List α} (h : List.Sublist s l) (hn : l.Nodup) : l.filter (fun x => decide (x ∈ s)) = s := by
  induction h with
  | slnil => rfl
  | @cons s l a h ih =>
    obtain ⟨ha, hl⟩ := List.nodup_cons.mp hn
    rw [List.filter_cons_of_neg]
    · exact ih hl
    · intro q
      exact ha (h.subset (of_decide_eq_true q))
  | @cons_cons s l a h ih =>
    obtain ⟨ha, hl⟩ := List.nodup_cons.mp hn
    rw [List.filter_cons_of_pos (by simp)]
    congr 1
    rw [← ih hl]
    refine (List.filter_congr fun x hx => ?_)
    have ne : x ≠ a := fun e => ha (by rw [← e]; exact hx)
    rw [ih hl]
    simp [ne]
theorem reach_sub_set {ks : List Str} (hn : ks.Nodup) (hE : ∀ k ∈ ks, k ∈ E) (L : Lots) (hL : L = ks.map fun k => [k]) {S : List Nat} (hS : List.Sublist S (List.range L.length)) : Reach L L E (S, S) := by
  have h := reach_sets (E := E) hn hE L hL ((List.range L.length).filter fun j => decide (j ∉ S))
  have e : (List.range L.length).filter (fun j => decide (j ∉ (List.range L.length).filter fun j => decide (j ∉ S))) = S := by
    have e1 : (List.range L.length).filter (fun j => decide (j ∉ (List.range L.length).filter fun j => decide (j ∉ S))) = (List.range L.length).filter (fun j => decide (j ∈ S)) := by
      refine List.filter_congr fun j hj => ?_
      by_cases hs : j ∈ S
      · simp [hs]
      · simp [hs, List.mem_filter, List.mem_range.mp hj]
    rw [e1]
    exact filter_mem_sub hS List.nodup_range
  rw [e] at h
  exact h
theorem not_bound {ks : List Str} (hn : ks.Nodup) (hE : ∀ k ∈ ks, k ∈ E) (L : Lots) (hL : L = ks.map fun k => [k]) {n : Nat} (h : n < 2 ^ ks.length) : ¬ Bound L L E n := fun hb => by
  have q := hb ((subs (List.range L.length)).map fun S => (S, S)) (List.Pairwise.map _ (fun x y hxy e => hxy (Prod.mk.inj e).1) (subs_nodup List.nodup_range)) fun p hp => by
    obtain ⟨S, hS, e⟩ := List.mem_map.mp hp
    subst e
    exact reach_sub_set hn hE L hL (of_mem_subs hS)
  rw [List.length_map, subs_len, List.length_range, hL, List.length_map] at q
  omega
end
end K15

/-! Readings told by data: a value that reads as d stays so while what was tracked stands; what a reading gives, as data. -/
namespace K15
open PySem PySem.Spec PyProof.Rows L2
abbrev St := L2.St
abbrev Frag := PySem.W.Frag

/-! ### what stands -/
theorem same_rd {H H' : Hp} {a : Addr} {u : HO} (e : Same H H') (h : Rd H a u) : Rd H' a u := by
  rcases h with h | ⟨o, h⟩
  · exact .inl (e _ _ h)
  · exact .inr ⟨o, e _ _ h⟩
theorem same_t {K : Frag} {H H' : Hp} {a : Addr} {xs : List V} (e : Same H H') (h : SqT K H a xs) : SqT K H' a xs := by
  rcases h with h | h
  · exact .inl (same_rd e h)
  · exact .inr h
theorem same_new {H : Hp} {p : Addr} {o : HO} (h : H p = none) : Same H (upd H p o) := fun a u e => by
  rw [upd_ne (ne_of_none e h)]
  exact e
/-- what H does not know may change -/
theorem same_mut {H H' : Hp} {p : Addr} {o : HO} (e : Same H H') (h : H p = none) : Same H (upd H' p o) := fun a u ha => by
  rw [upd_ne (ne_of_none ha h)]
  exact e a u ha
/-- the tuples stand -/
def Ts (K : Frag) (H H' : Hp) : Prop := ∀ (a : Addr) (xs : List V), SqT K H a xs → SqT K H' a xs
theorem Ts.refl (K : Frag) (H : Hp) : Ts K H H := fun _ _ h => h
theorem Ts.trans {K : Frag} {H H1 H2 : Hp} (a : Ts K H H1) (b : Ts K H1 H2) : Ts K H H2 := fun x xs h => b x xs (a x xs h)
theorem Ts.same {K : Frag} {H H' : Hp} (e : Same H H') : Ts K H H' := fun _ _ h => same_t e h
/-- what changes is no tuple -/
theorem Ts.chg {K : Frag} {H : Hp} {p : Addr} {o u : HO} (h : H p = some u) (hu : ∀ xs, u ≠ .tup xs) (hf : ∀ ob xs, u ≠ .frz ob (.tup xs)) : Ts K H (upd H p o) := fun a xs e => by
  rcases e with (e | ⟨ob, e⟩) | e
  · refine .inl (.inl ?_)
    rw [upd_ne (fun z => hu xs (by rw [z, h] at e; exact Option.some.inj e))]
    exact e
  · refine .inl (.inr ⟨ob, ?_⟩)
    rw [upd_ne (fun z => hf ob xs (by rw [z, h] at e; exact Option.some.inj e))]
    exact e
  · exact .inr e
theorem Ts.lst {K : Frag} {H : Hp} {p : Addr} {o : HO} {ys : List V} (h : H p = some (.lst ys)) : Ts K H (upd H p o) := Ts.chg h (fun _ z => nomatch z) fun _ _ z => nomatch z

/-! ### data -/
mutual
/-- no list, no dict within -/
def noL : PyData → Bool
  | .none => true
  | .bool _ => true
  | .int _ => true
  | .str _ => true
  | .list _ => false
  | .tuple xs => noLs xs
  | .dict _ => false
def noLs : List PyData → Bool
  | [] => true
  | x :: xs => noL x && noLs xs
end
mutual
/-- its texts, lists and tuples are of a thousand items at most -/
def short : PyData → Bool
  | .none => true
  | .bool _ => true
  | .int _ => true
  | .str x => decide (x.length ≤ 1000)
  | .list xs => decide (xs.length ≤ 1000) && shorts xs
  | .tuple xs => decide (xs.length ≤ 1000) && shorts xs
  | .dict _ => false
def shorts : List PyData → Bool
  | [] => true
  | x :: xs => short x && shorts xs
end
theorem noLs_mem : ∀ {xs : List PyData}, noLs xs = true → ∀ x ∈ xs, noL x = true
  | [], _, x, h => nomatch h
  | y :: ys, e, x, h => by
    rw [noLs, Bool.and_eq_true] at e
    rcases List.mem_cons.mp h with z | z
    · rw [z]
      exact e.1
    · exact noLs_mem e.2 x z
theorem noLs_of : ∀ {xs : List PyData}, (∀ x ∈ xs, noL x = true) → noLs xs = true
  | [], _ => rfl
  | y :: ys, e => by
    rw [noLs, e y List.mem_cons_self, noLs_of fun x h => e x (List.mem_cons_of_mem _ h)]
    rfl
theorem shorts_mem : ∀ {xs : List PyData}, shorts xs = true → ∀ x ∈ xs, short x = true
  | [], _, x, h => nomatch h
  | y :: ys, e, x, h => by
    rw [shorts, Bool.and_eq_true] at e
    rcases List.mem_cons.mp h with z | z
    · rw [z]
      exact e.1
    · exact shorts_mem e.2 x z
theorem shorts_of : ∀ {xs : List PyData}, (∀ x ∈ xs, short x = true) → shorts xs = true
  | [], _ => rfl
  | y :: ys, e => by
    rw [shorts, e y List.mem_cons_self, shorts_of fun x h => e x (List.mem_cons_of_mem _ h)]
    rfl
section
variable {K : Frag} {H H' : Hp}
mutual
theorem dp_same (e : Same H H') : ∀ (d : PyData) (v : V), Dp K H v d → Dp K H' v d
  | .none, _, h => by cases h; exact .non
  | .bool b, _, h => by cases h; exact .bl b
  | .int i, _, h => by cases h; exact .int i
  | .str x, _, h => by cases h; exact .str x
  | .list ds, _, h => by
    cases h with
    | lst hs ha => exact .lst (e.seq hs) (dps_same e ds _ ha)
  | .tuple ds, _, h => by
    cases h with
    | tup hs ha => exact .tup (same_t e hs) (dps_same e ds _ ha)
  | .dict _, _, h => by cases h
theorem dps_same (e : Same H H') : ∀ (ds : List PyData) (vs : List V), DpAll K H vs ds → DpAll K H' vs ds
  | [], _, h => by cases h; exact .nil
  | d :: ds, _, h => by
    cases h with
    | cons h1 h2 => exact .cons (dp_same e d _ h1) (dps_same e ds _ h2)
end
mutual
theorem dp_ts (e : Ts K H H') : ∀ (d : PyData) (v : V), noL d = true → Dp K H v d → Dp K H' v d
  | .none, _, _, h => by cases h; exact .non
  | .bool b, _, _, h => by cases h; exact .bl b
  | .int i, _, _, h => by cases h; exact .int i
  | .str x, _, _, h => by cases h; exact .str x
  | .list ds, _, n, h => by simp [noL] at n
  | .tuple ds, _, n, h => by
    cases h with
    | tup hs ha => exact .tup (e _ _ hs) (dps_ts e ds _ (by rw [noL] at n; exact n) ha)
  | .dict _, _, _, h => by cases h
theorem dps_ts (e : Ts K H H') : ∀ (ds : List PyData) (vs : List V), noLs ds = true → DpAll K H vs ds → DpAll K H' vs ds
  | [], _, _, h => by cases h; exact .nil
  | d :: ds, _, n, h => by
    rw [noLs, Bool.and_eq_true] at n
    cases h with
    | cons h1 h2 => exact .cons (dp_ts e d _ n.1 h1) (dps_ts e ds _ n.2 h2)
end
end
section
variable {K : Frag} {H H' : Hp} {v : V} {vs : List V} {d : PyData} {ds : List PyData}
theorem dp_bool {b : Bool} (h : Dp K H v (.bool b)) : v = .bl b := by cases h; rfl
theorem dp_int {i : Int} (h : Dp K H v (.int i)) : v = .int i := by cases h; rfl
theorem dp_str {x : Str} (h : Dp K H v (.str x)) : v = .str x := by cases h; rfl
theorem dp_none (h : Dp K H v .none) : v = .non := by cases h; rfl
theorem dp_tup (h : Dp K H v (.tuple ds)) : ∃ a xs, v = .ref a ∧ SqT K H a xs ∧ DpAll K H xs ds := by
  cases h with
  | tup hs ha => exact ⟨_, _, rfl, hs, ha⟩
theorem dp_lst (h : Dp K H v (.list ds)) : ∃ a xs, v = .ref a ∧ SqL K H a xs ∧ DpAll K H xs ds := by
  cases h with
  | lst hs ha => exact ⟨_, _, rfl, hs, ha⟩
theorem dps_len : ∀ {vs : List V} {ds : List PyData}, DpAll K H vs ds → vs.length = ds.length
  | [], [], _ => rfl
  | _ :: _, _ :: _, .cons _ h => by rw [List.length_cons, List.length_cons, dps_len h]
theorem dps_get : ∀ {vs : List V} {ds : List PyData} {i : Nat} {v : V}, DpAll K H vs ds → vs[i]? = some v → ∃ d, ds[i]? = some d ∧ Dp K H v d
  | [], [], i, v, _, e => by simp at e
  | w :: _, d :: _, 0, v, .cons h _, e => by
    have e' : w = v := by simpa using e
    subst e'
    exact ⟨d, rfl, h⟩
  | _ :: vs, _ :: ds, i + 1, v, .cons _ h, e => by
    obtain ⟨d, h1, h2⟩ := dps_get (i := i) h (by simpa using e)
    exact ⟨d, by simpa using h1, h2⟩
theorem dps_at : ∀ {vs : List V} {ds : List PyData} {i : Nat} {d : PyData}, DpAll K H vs ds → ds[i]? = some d → ∃ v, vs[i]? = some v ∧ Dp K H v d
  | [], [], i, d, _, e => by simp at e
  | v :: _, c :: _, 0, d, .cons h _, e => by
    have e' : c = d := by simpa using e
    subst e'
    exact ⟨v, rfl, h⟩
  | _ :: vs, _ :: ds, i + 1, d, .cons _ h, e => by
    obtain ⟨v, h1, h2⟩ := dps_at (i := i) h (by simpa using e)
    exact ⟨v, by simpa using h1, h2⟩
theorem dps_app : ∀ {vs ws : List V} {ds es : List PyData}, DpAll K H vs ds → DpAll K H ws es → DpAll K H (vs ++ ws) (ds ++ es)
  | [], _, [], _, _, h => h
  | _ :: _, _, _ :: _, _, .cons a b, h => .cons a (dps_app b h)
theorem dps_take : ∀ {vs : List V} {ds : List PyData} (n : Nat), DpAll K H vs ds → DpAll K H (vs.take n) (ds.take n)
  | _, _, 0, _ => .nil
  | [], [], _ + 1, _ => .nil
  | _ :: _, _ :: _, n + 1, .cons a b => .cons a (dps_take n b)
theorem dps_drop : ∀ {vs : List V} {ds : List PyData} (n : Nat), DpAll K H vs ds → DpAll K H (vs.drop n) (ds.drop n)
  | _, _, 0, h => h
  | [], [], _ + 1, _ => .nil
  | _ :: _, _ :: _, n + 1, .cons _ b => dps_drop n b
theorem dps_map {α : Type} (f : α → V) (g : α → PyData) (h : ∀ a, Dp K H (f a) (g a)) : ∀ l : List α, DpAll K H (l.map f) (l.map g)
  | [] => .nil
  | a :: l => .cons (h a) (dps_map f g h l)
theorem dps_ints : ∀ {vs : List V} {ns : List Int}, DpAll K H vs (ns.map .int) → vs = ns.map V.int
  | [], [], _ => rfl
  | _ :: _, _ :: _, .cons a b => by rw [dp_int a, dps_ints b]; rfl
theorem dps_strs : ∀ {vs : List V} {xs : List Str}, DpAll K H vs (xs.map .str) → vs = xs.map V.str
  | [], [], _ => rfl
  | _ :: _, _ :: _, .cons a b => by rw [dp_str a, dps_strs b]; rfl
theorem dps_bls : ∀ {vs : List V} {xs : List Bool}, DpAll K H vs (xs.map .bool) → vs = xs.map V.bl
  | [], [], _ => rfl
  | _ :: _, _ :: _, .cons a b => by rw [dp_bool a, dps_bls b]; rfl
theorem dp_newT {p : Addr} (h : DpAll K H vs ds) (hp : H p = none) : Dp K (upd H p (.tup vs)) (.ref p) (.tuple ds) := .tup (SqT.of upd_same) (dps_same (same_new hp) _ _ h)
theorem dp_newL {p : Addr} (h : DpAll K H vs ds) (hp : H p = none) : Dp K (upd H p (.lst vs)) (.ref p) (.list ds) := .lst (SqL.of upd_same) (dps_same (same_new hp) _ _ h)
end

/-! ### what a reading gives -/
/-- data d, what was tracked standing -/
def Yd (K : Frag) (t : TE) (σ : St) (H : Hp) (d : PyData) : Prop := ∀ H1, Same H H1 → ∀ Q : VK, (∀ v H2, Same H1 H2 → Dp K H2 v d → Q v H2) → t σ H1 Q
def YdA (K : Frag) (t : TA) (σ : St) (H : Hp) (ds : List PyData) : Prop := ∀ H1, Same H H1 → ∀ Q : List V → Hp → Prop, (∀ vs H2, Same H1 H2 → DpAll K H2 vs ds → Q vs H2) → t σ H1 Q
def YdT (t : TT) (σ : St) (H : Hp) (b : Bool) : Prop := ∀ H1, Same H H1 → ∀ Q : Bool → Hp → Prop, (∀ H2, Same H1 H2 → Q b H2) → t σ H1 Q
section
variable {K : Frag} {σ : St} {H H' : Hp} {ta tb te : TE} {t u : TT} {d e r : PyData} {ds : List PyData}
theorem small1 {n : Nat} (h : n ≤ 1000) : n ≤ sizeLine := Nat.le_of_lt (small1000 h)
theorem Yd.mono (s : Same H H') (h : Yd K te σ H d) : Yd K te σ H' d := fun H1 a Q q => h H1 (s.trans a) Q q
theorem YdA.mono {ta : TA} (s : Same H H') (h : YdA K ta σ H ds) : YdA K ta σ H' ds := fun H1 a Q q => h H1 (s.trans a) Q q
theorem YdT.mono {b : Bool} (s : Same H H') (h : YdT t σ H b) : YdT t σ H' b := fun H1 a Q q => h H1 (s.trans a) Q q
theorem Yd.is (h : Yd K te σ H d) (q : d = e) : Yd K te σ H e := q ▸ h
theorem YdT.is {b c : Bool} (h : YdT t σ H b) (q : b = c) : YdT t σ H c := q ▸ h
theorem yd_var {i : Nat} {v : V} (h : σ[i]? = some (some v)) (hd : Dp K H v d) : Yd K (tVar i) σ H d := fun H1 s _ q => ⟨v, h, q v H1 (Same.refl _) (dp_same s d v hd)⟩
theorem yd_str {x : Str} : Yd K (tC (.str x)) σ H (.str x) := fun H1 _ _ q => q _ H1 (Same.refl _) (.str x)
theorem yd_int {i : Int} : Yd K (tC (.int i)) σ H (.int i) := fun H1 _ _ q => q _ H1 (Same.refl _) (.int i)
theorem yd_bl {b : Bool} : Yd K (tC (.bl b)) σ H (.bool b) := fun H1 _ _ q => q _ H1 (Same.refl _) (.bl b)
theorem yd_non : Yd K (tC .non) σ H .none := fun H1 _ _ q => q _ H1 (Same.refl _) .non
theorem ya_nil : YdA K tNil σ H [] := fun H1 _ _ q => q [] H1 (Same.refl _) .nil
theorem ya_cons {tr : TA} (h : Yd K te σ H d) (hr : YdA K tr σ H ds) : YdA K (tCons te tr) σ H (d :: ds) := fun H1 s _ q =>
  h H1 s _ fun v H2 s2 hv => hr H2 (s.trans s2) _ fun vs H3 s3 hvs => q _ H3 (s2.trans s3) (.cons (dp_same s3 d v hv) hvs)
theorem yd_tup {ta : TA} (h : YdA K ta σ H ds) (hl : ds.length ≤ 1000) : Yd K (tTup ta) σ H (.tuple ds) := fun H1 s _ q =>
  h H1 s _ fun vs H2 s2 hvs => ⟨by rw [dps_len hvs]; exact small1 hl, fun p hp => q _ _ (s2.trans (same_new hp)) (dp_newT hvs hp)⟩
theorem yd_lst {ta : TA} (h : YdA K ta σ H ds) (hl : ds.length ≤ 1000) : Yd K (tLst ta) σ H (.list ds) := fun H1 s _ q =>
  h H1 s _ fun vs H2 s2 hvs => ⟨by rw [dps_len hvs]; exact small1 hl, fun p hp => q _ _ (s2.trans (same_new hp)) (dp_newL hvs hp)⟩
/-- two operands, an operation on values -/
theorem yd_op {r : R2} (ha : Yd K ta σ H d) (hb : Yd K tb σ H e) {z : PyData} (hr : ∀ v w H1, Same H H1 → Dp K H1 v d → Dp K H1 w e → ∀ Q : VK, (∀ x H2, Same H1 H2 → Dp K H2 x z → Q x H2) → r v w H1 Q) : Yd K (tOp r ta tb) σ H z := fun H1 s Q q =>
  ha H1 s _ fun v H2 s2 hv => hb H2 (s.trans s2) _ fun w H3 s3 hw => hr v w H3 ((s.trans s2).trans s3) (dp_same s3 d v hv) hw Q fun x H4 s4 hx => q x H4 ((s2.trans s3).trans s4) hx
theorem yd_add {i j : Int} (ha : Yd K ta σ H (.int i)) (hb : Yd K tb σ H (.int j)) : Yd K (tOp (rI0 fun i j => .int (i + j)) ta tb) σ H (.int (i + j)) :=
  yd_op ha hb fun v w H1 _ hv hw Q q => ⟨i, j, dp_int hv, dp_int hw, q _ H1 (Same.refl _) (.int _)⟩
theorem yd_sub {i j : Int} (ha : Yd K ta σ H (.int i)) (hb : Yd K tb σ H (.int j)) : Yd K (tOp (rI0 fun i j => .int (i - j)) ta tb) σ H (.int (i - j)) :=
  yd_op ha hb fun v w H1 _ hv hw Q q => ⟨i, j, dp_int hv, dp_int hw, q _ H1 (Same.refl _) (.int _)⟩
/-- a comparison of ints -/
theorem yd_cmpI {i j : Int} {f : Int → Int → Bool} (ha : Yd K ta σ H (.int i)) (hb : Yd K tb σ H (.int j)) : Yd K (tOp (rI0 fun i j => .bl (f i j)) ta tb) σ H (.bool (f i j)) :=
  yd_op ha hb fun v w H1 _ hv hw Q q => ⟨i, j, dp_int hv, dp_int hw, q _ H1 (Same.refl _) (.bl _)⟩
theorem yd_eqI {i j : Int} (ha : Yd K ta σ H (.int i)) (hb : Yd K tb σ H (.int j)) : Yd K (tOp rEq ta tb) σ H (.bool (decide (i = j))) :=
  yd_op ha hb fun v w H1 _ hv hw Q q => by
    rw [dp_int hv, dp_int hw]
    refine ⟨rfl, ?_⟩
    rw [dec_int, Bool.beq_eq_decide_eq]
    exact q _ H1 (Same.refl _) (.bl _)
theorem yd_neI {i j : Int} (ha : Yd K ta σ H (.int i)) (hb : Yd K tb σ H (.int j)) : Yd K (tOp rNe ta tb) σ H (.bool (!decide (i = j))) :=
  yd_op ha hb fun v w H1 _ hv hw Q q => by
    rw [dp_int hv, dp_int hw]
    refine ⟨rfl, ?_⟩
    rw [dec_int, Bool.beq_eq_decide_eq]
    exact q _ H1 (Same.refl _) (.bl _)
theorem yd_eqB {i j : Bool} (ha : Yd K ta σ H (.bool i)) (hb : Yd K tb σ H (.bool j)) : Yd K (tOp rEq ta tb) σ H (.bool (decide (i = j))) :=
  yd_op ha hb fun v w H1 _ hv hw Q q => by
    rw [dp_bool hv, dp_bool hw]
    refine ⟨rfl, ?_⟩
    rw [dec_bl, Bool.beq_eq_decide_eq]
    exact q _ H1 (Same.refl _) (.bl _)
theorem yd_neB {i j : Bool} (ha : Yd K ta σ H (.bool i)) (hb : Yd K tb σ H (.bool j)) : Yd K (tOp rNe ta tb) σ H (.bool (!decide (i = j))) :=
  yd_op ha hb fun v w H1 _ hv hw Q q => by
    rw [dp_bool hv, dp_bool hw]
    refine ⟨rfl, ?_⟩
    rw [dec_bl, Bool.beq_eq_decide_eq]
    exact q _ H1 (Same.refl _) (.bl _)
theorem yd_neS {i j : Str} (ha : Yd K ta σ H (.str i)) (hb : Yd K tb σ H (.str j)) : Yd K (tOp rNe ta tb) σ H (.bool (!decide (i = j))) :=
  yd_op ha hb fun v w H1 _ hv hw Q q => by
    rw [dp_str hv, dp_str hw]
    refine ⟨rfl, ?_⟩
    rw [dec_str, Bool.beq_eq_decide_eq]
    exact q _ H1 (Same.refl _) (.bl _)
theorem yd_eqS {i j : Str} (ha : Yd K ta σ H (.str i)) (hb : Yd K tb σ H (.str j)) : Yd K (tOp rEq ta tb) σ H (.bool (decide (i = j))) :=
  yd_op ha hb fun v w H1 _ hv hw Q q => by
    rw [dp_str hv, dp_str hw]
    refine ⟨rfl, ?_⟩
    rw [dec_str, Bool.beq_eq_decide_eq]
    exact q _ H1 (Same.refl _) (.bl _)
/-- == and != of data at any depth -/
theorem yd_eqD (ha : Yd K ta σ H d) (hb : Yd K tb σ H e) (sd : SeqAt.shaped d = true) (se : SeqAt.shaped e = true) : Yd K (tOp (rEqD K) ta tb) σ H (.bool (PyData.eqv d e)) :=
  yd_op ha hb fun v w H1 _ hv hw Q q => ⟨d, e, hv, hw, sd, se, q _ H1 (Same.refl _) (.bl _)⟩
theorem yd_neD (ha : Yd K ta σ H d) (hb : Yd K tb σ H e) (sd : SeqAt.shaped d = true) (se : SeqAt.shaped e = true) : Yd K (tOp (rNeD K) ta tb) σ H (.bool (!PyData.eqv d e)) :=
  yd_op ha hb fun v w H1 _ hv hw Q q => ⟨d, e, hv, hw, sd, se, q _ H1 (Same.refl _) (.bl _)⟩
/-- one sign in a text -/
theorem yd_inS {c : Nat} {z : Str} {r : R2} (hr : r = fun x y H Q => ∃ (c : Nat) (z : Str), x = .str ⟨#[c]⟩ ∧ y = .str z ∧ Q (.bl (decide (c ∈ z.cps.toList))) H) (ha : Yd K ta σ H (.str ⟨#[c]⟩)) (hb : Yd K tb σ H (.str z)) : Yd K (tOp r ta tb) σ H (.bool (decide (c ∈ z.cps.toList))) := by
  subst hr
  exact yd_op ha hb fun v w H1 _ hv hw Q q => ⟨c, z, dp_str hv, dp_str hw, q _ H1 (Same.refl _) (.bl _)⟩
/-- a text + a text -/
theorem yd_addS {i j : Str} {r : R2} (hr : r = fun x y H Q => ∃ i j, x = .str i ∧ y = .str j ∧ i.length + j.length ≤ sizeLine ∧ Q (.str (i ++ j)) H) (ha : Yd K ta σ H (.str i)) (hb : Yd K tb σ H (.str j)) (hl : i.length + j.length ≤ 1000) :
    Yd K (tOp r ta tb) σ H (.str (i ++ j)) := by
  subst hr
  exact yd_op ha hb fun v w H1 _ hv hw Q q => ⟨i, j, dp_str hv, dp_str hw, small1 hl, q _ H1 (Same.refl _) (.str _)⟩
/-- a tuple + a tuple -/
theorem yd_catT {xs ys : List PyData} (ha : Yd K ta σ H (.tuple xs)) (hb : Yd K tb σ H (.tuple ys)) (hl : xs.length + ys.length ≤ 1000) : Yd K (tOp (rCatA K) ta tb) σ H (.tuple (xs ++ ys)) :=
  yd_op ha hb fun v w H1 _ hv hw Q q => by
    obtain ⟨a, vs, rfl, h1, h2⟩ := dp_tup hv
    obtain ⟨b, ws, rfl, h3, h4⟩ := dp_tup hw
    refine ⟨a, b, vs, ws, rfl, rfl, h1, h3, by rw [dps_len h2, dps_len h4]; exact small1 hl, fun z => ?_, fun _ z => ?_, fun _ _ p hp => q _ _ (same_new hp) (dp_newT (dps_app h2 h4) hp)⟩
    · have hx : xs = [] := List.eq_nil_of_length_eq_zero (by rw [← dps_len h2, z]; rfl)
      rw [hx, List.nil_append] at q
      exact q _ H1 (Same.refl _) hw
    · have hy : ys = [] := List.eq_nil_of_length_eq_zero (by rw [← dps_len h4, z]; rfl)
      rw [hy, List.append_nil] at q
      exact q _ H1 (Same.refl _) hv
/-- a list + a list -/
theorem yd_catL {xs ys : List PyData} (hL : ∀ (a : Addr) H1 vs, Same H H1 → SqL K H1 a vs → DpAll K H1 vs xs ∨ DpAll K H1 vs ys → H1 a = some (.lst vs)) (ha : Yd K ta σ H (.list xs)) (hb : Yd K tb σ H (.list ys)) (hl : xs.length + ys.length ≤ 1000) : Yd K (tOp rCat ta tb) σ H (.list (xs ++ ys)) :=
  yd_op ha hb fun v w H1 s hv hw Q q => by
    obtain ⟨a, vs, rfl, h1, h2⟩ := dp_lst hv
    obtain ⟨b, ws, rfl, h3, h4⟩ := dp_lst hw
    exact ⟨a, b, vs, ws, rfl, rfl, hL a H1 vs s h1 (.inl h2), hL b H1 ws s h3 (.inr h4), by rw [dps_len h2, dps_len h4]; exact small1 hl, fun p hp => q _ _ (same_new hp) (dp_newL (dps_app h2 h4) hp)⟩
/-- an item of a list, a tuple -/
theorem yd_ixT {xs : List PyData} {i : Int} (ha : Yd K ta σ H (.tuple xs)) (hb : Yd K tb σ H (.int i)) (hi : atI xs i = some e) : Yd K (tOp (rIxT K) ta tb) σ H e :=
  yd_op ha hb fun v w H1 _ hv hw Q q => by
    obtain ⟨a, vs, rfl, h1, h2⟩ := dp_tup hv
    obtain ⟨j, hj, hx⟩ := Option.bind_eq_some_iff.mp hi
    obtain ⟨x, hx2, hd⟩ := dps_at h2 hx
    refine ⟨a, vs, i, x, rfl, dp_int hw, h1, ?_, q _ H1 (Same.refl _) hd⟩
    show (ixN vs.length i).bind _ = _
    rw [dps_len h2, hj]
    exact hx2
theorem yd_ixL {xs : List PyData} {i : Int} (ha : Yd K ta σ H (.list xs)) (hb : Yd K tb σ H (.int i)) (hi : atI xs i = some e) : Yd K (tOp (rIxL K) ta tb) σ H e :=
  yd_op ha hb fun v w H1 _ hv hw Q q => by
    obtain ⟨a, vs, rfl, h1, h2⟩ := dp_lst hv
    obtain ⟨j, hj, hx⟩ := Option.bind_eq_some_iff.mp hi
    obtain ⟨x, hx2, hd⟩ := dps_at h2 hx
    refine ⟨a, vs, i, x, rfl, dp_int hw, h1, ?_, q _ H1 (Same.refl _) hd⟩
    show (ixN vs.length i).bind _ = _
    rw [dps_len h2, hj]
    exact hx2
theorem yd_ixS {z : Str} {i : Int} {c : Nat} (ha : Yd K ta σ H (.str z)) (hb : Yd K tb σ H (.int i)) (hl : z.length ≤ 1000) (hi : atI z.cps.toList i = some c) : Yd K (tOp rIxS ta tb) σ H (.str ⟨#[c]⟩) :=
  yd_op ha hb fun v w H1 _ hv hw Q q => ⟨z, i, c, dp_str hv, dp_int hw, small1 hl, hi, q _ H1 (Same.refl _) (.str _)⟩
/-- the items of a text (its signs), of a list, a tuple -/
def itemsD : PyData → Option (List PyData)
  | .str x => some (x.cps.toList.map fun c => .str ⟨#[c]⟩)
  | .list xs => some xs
  | .tuple xs => some xs
  | _ => none
theorem atI_map {α β : Type} (f : α → β) (xs : List α) (i : Int) : atI (xs.map f) i = (atI xs i).map f := by
  unfold atI
  rw [List.length_map]
  cases ixN xs.length i with
  | none => rfl
  | some j =>
    show (xs.map f)[j]? = (xs[j]?).map f
    rw [List.getElem?_map]
theorem yd_ix {xs : List PyData} {i : Int} (hx : itemsD d = some xs) (hs : short d = true) (ha : Yd K ta σ H d) (hb : Yd K tb σ H (.int i)) (hi : atI xs i = some e) : Yd K (tOp (rIx K) ta tb) σ H e := by
  refine yd_op ha hb fun v w H1 s1 hv hw Q q => ?_
  have one : ∀ {x : V}, Yd K (fun _ H Q => Q x H) σ H1 (.int i) → True := fun _ => trivial
  cases d with
  | str z =>
    have e1 : (z.cps.toList.map fun c => PyData.str ⟨#[c]⟩) = xs := Option.some.inj hx
    subst e1
    rw [atI_map] at hi
    obtain ⟨c, hc, e2⟩ := Option.map_eq_some_iff.mp hi
    subst e2
    have hl : z.length ≤ 1000 := by simpa [short] using hs
    exact .inr (.inr ⟨z, i, c, dp_str hv, dp_int hw, small1 hl, hc, q _ H1 (Same.refl _) (.str _)⟩)
  | list ys =>
    have e1 : ys = xs := Option.some.inj hx
    subst e1
    obtain ⟨a, vs, rfl, h1, h2⟩ := dp_lst hv
    obtain ⟨j, hj, hx'⟩ := Option.bind_eq_some_iff.mp hi
    obtain ⟨x, hx2, hd⟩ := dps_at h2 hx'
    refine .inl ⟨a, vs, i, x, rfl, dp_int hw, h1, ?_, q _ H1 (Same.refl _) hd⟩
    show (ixN vs.length i).bind _ = _
    rw [dps_len h2, hj]
    exact hx2
  | tuple ys =>
    have e1 : ys = xs := Option.some.inj hx
    subst e1
    obtain ⟨a, vs, rfl, h1, h2⟩ := dp_tup hv
    obtain ⟨j, hj, hx'⟩ := Option.bind_eq_some_iff.mp hi
    obtain ⟨x, hx2, hd⟩ := dps_at h2 hx'
    refine .inr (.inl ⟨a, vs, i, x, rfl, dp_int hw, h1, ?_, q _ H1 (Same.refl _) hd⟩)
    show (ixN vs.length i).bind _ = _
    rw [dps_len h2, hj]
    exact hx2
  | none => cases hx
  | bool b => cases hx
  | int b => cases hx
  | dict b => cases hx
/-- len -/
theorem yd_len {xs : List PyData} (hx : itemsD d = some xs) (hs : short d = true) {r : List V → Hp → VK → Prop} (hr : r = fun xs H Q => ∃ x n, xs = [x] ∧ LenV K x H n ∧ Q (.int (n : Nat)) H) (ha : Yd K ta σ H d) : Yd K (tCB r (tCons ta tNil)) σ H (.int xs.length) := by
  subst hr
  intro H1 s Q q
  refine ha H1 s _ fun v H2 s2 hv => ⟨v, xs.length, rfl, ?_, q _ H2 s2 (.int _)⟩
  cases d with
  | str z =>
    have e1 : (z.cps.toList.map fun c => PyData.str ⟨#[c]⟩) = xs := Option.some.inj hx
    rw [dp_str hv]
    refine ⟨small1 (by simpa [short] using hs), ?_⟩
    rw [← e1, List.length_map]
    simp [Str.length]
  | list ys =>
    have e1 : ys = xs := Option.some.inj hx
    subst e1
    obtain ⟨a, vs, rfl, h1, h2⟩ := dp_lst hv
    exact .inl ⟨vs, h1, (dps_len h2).symm⟩
  | tuple ys =>
    have e1 : ys = xs := Option.some.inj hx
    subst e1
    obtain ⟨a, vs, rfl, h1, h2⟩ := dp_tup hv
    exact .inr ⟨vs, h1, (dps_len h2).symm⟩
  | none => cases hx
  | bool b => cases hx
  | int b => cases hx
  | dict b => cases hx
/-- tests -/
theorem yt_test {b : Bool} (h : Yd K te σ H (.bool b)) : YdT (tTest te) σ H b := fun H1 s _ q => h H1 s _ fun v H2 s2 hv => ⟨b, dp_bool hv, q H2 s2⟩
theorem yt_B {b : Bool} (h : Yd K te σ H (.bool b)) : YdT (tB te) σ H b := fun H1 s _ q => h H1 s _ fun v H2 s2 hv => ⟨b, dp_bool hv, q H2 s2⟩
theorem yt_and {a b : Bool} (h1 : YdT t σ H a) (h2 : a = true → YdT u σ H b) : YdT (tAnd t u) σ H (a && b) := fun H1 s Q q => h1 H1 s _ fun H2 s2 => by
  cases a with
  | true => exact h2 rfl H2 (s.trans s2) Q fun H3 s3 => q H3 (s2.trans s3)
  | false => exact q H2 s2
theorem yt_or {a b : Bool} (h1 : YdT t σ H a) (h2 : a = false → YdT u σ H b) : YdT (tOr t u) σ H (a || b) := fun H1 s Q q => h1 H1 s _ fun H2 s2 => by
  cases a with
  | true => exact q H2 s2
  | false => exact h2 rfl H2 (s.trans s2) Q fun H3 s3 => q H3 (s2.trans s3)
theorem yt_not {a : Bool} (h1 : YdT t σ H a) : YdT (tNot t) σ H (!a) := fun H1 s _ q => h1 H1 s _ fun H2 s2 => q H2 s2
theorem yd_and {a b : Bool} (h1 : Yd K ta σ H (.bool a)) (h2 : a = true → Yd K tb σ H (.bool b)) : Yd K (tAndV ta tb) σ H (.bool (a && b)) := fun H1 s Q q => h1 H1 s _ fun v H2 s2 hv => ⟨a, dp_bool hv, by
  cases a with
  | true => exact h2 rfl H2 (s.trans s2) Q fun x H3 s3 hx => q x H3 (s2.trans s3) hx
  | false => exact q _ H2 s2 (.bl _)⟩
theorem yd_or {a b : Bool} (h1 : Yd K ta σ H (.bool a)) (h2 : a = false → Yd K tb σ H (.bool b)) : Yd K (tOrV ta tb) σ H (.bool (a || b)) := fun H1 s Q q => h1 H1 s _ fun v H2 s2 hv => ⟨a, dp_bool hv, by
  cases a with
  | true => exact q _ H2 s2 (.bl _)
  | false => exact h2 rfl H2 (s.trans s2) Q fun x H3 s3 hx => q x H3 (s2.trans s3) hx⟩
theorem yd_not {a : Bool} (h1 : Yd K ta σ H (.bool a)) : Yd K (tNotV ta) σ H (.bool (!a)) := fun H1 s Q q => h1 H1 s _ fun v H2 s2 hv => ⟨a, dp_bool hv, q _ H2 s2 (.bl _)⟩
/-- a chain a < b < c of ints -/
theorem yt_chain {i j l : Int} {f g : Int → Int → Bool} {tc : TE} (ha : Yd K ta σ H (.int i)) (hb : Yd K tb σ H (.int j)) (hc : Yd K tc σ H (.int l)) : YdT (tTest (tChain (rI0 fun i j => .bl (f i j)) (rI0 fun i j => .bl (g i j)) ta tb tc)) σ H (f i j && g j l) := fun H1 s Q q =>
  ha H1 s _ fun v H2 s2 hv => hb H2 (s.trans s2) _ fun w H3 s3 hw => ⟨i, j, dp_int hv, dp_int hw, f i j, rfl, by
    cases e : f i j with
    | true =>
      rw [e, Bool.true_and] at q
      exact hc H3 ((s.trans s2).trans s3) _ fun x H4 s4 hx => ⟨j, l, dp_int hw, dp_int hx, g j l, rfl, q H4 ((s2.trans s3).trans s4)⟩
    | false =>
      rw [e, Bool.false_and] at q
      exact ⟨false, rfl, q H3 (s2.trans s3)⟩⟩
/-! ### defs whose promise is told by data -/
def spD (K : Frag) (R : List PyData → PyData → Prop) : Sp := fun vs H Q _ => ∃ ds r, DpAll K H vs ds ∧ R ds r ∧ ∀ v H', Same H H' → Dp K H' v r → Q v H'
theorem yd_call {R : List PyData → PyData → Prop} {ta : TA} {E : XK} (ha : YdA K ta σ H ds) (hr : R ds r) : Yd K (tCall (spD K R) [] E ta) σ H r := fun H1 s Q q =>
  ha H1 s _ fun vs H2 s2 hvs => ⟨ds, r, by rw [List.append_nil]; exact hvs, hr, fun v H3 s3 hv => q v H3 (s2.trans s3) hv⟩
/-! ### statements -/
variable {D : Ends} {tu tw : TS}
theorem y_ret (h : Yd K te σ H d) (k : ∀ v H1, Same H H1 → Dp K H1 v d → D.rt v H1) : tRet te D σ H := h H (Same.refl _) _ k
theorem y_asg {i : Nat} (h : Yd K te σ H d) (k : ∀ v H1, Same H H1 → Dp K H1 v d → D.nx (σ.set i (some v)) H1) : tAsg te (gName i) D σ H := h H (Same.refl _) _ fun v H1 s hv => k v H1 s hv
theorem y_if {b : Bool} (h : YdT t σ H b) (h1 : b = true → ∀ H1, Same H H1 → tu D σ H1) (h2 : b = false → ∀ H1, Same H H1 → tw D σ H1) : tIfS t tu tw D σ H := h H (Same.refl _) _ fun H1 s => by
  cases b with
  | true => exact h1 rfl H1 s
  | false => exact h2 rfl H1 s
end
end K15

/-! What is walked, told by data; comprehensions; further operations told by data. -/
namespace K15
open PySem PySem.Spec PyProof.Rows L2

/-- what is walked: these data, the heap growing at most -/
def YdI (K : Frag) (wi : TI) (σ : St) (H : Hp) (ds : List PyData) : Prop := ∀ H1, Same H H1 → ∀ R : It → Hp → Prop,
  (∀ (J : It) (G : Hp → Prop) (Y : Nat → Hp → V → Hp → Prop) (H2 : Hp), Same H1 H2 → Walk J ds.length G Y → (∀ H3, Same H2 H3 → G H3) →
    (∀ i H3 x H4, Same H2 H3 → i < ds.length → Y i H3 x H4 → Same H3 H4 ∧ ∃ d, ds[i]? = some d ∧ Dp K H4 x d) → R J H2) → wi σ H1 R
section
variable {K : Frag} {σ : St} {H H' : Hp} {ta tb te tl : TE} {t u tt : TT} {d e r : PyData} {ds : List PyData}
theorem ydi_tup (h : Yd K tl σ H (.tuple ds)) : YdI K (iTup K tl) σ H ds := fun H1 s R q => h H1 s _ fun v H2 s2 hv => by
  obtain ⟨a, xs, rfl, hx, hd⟩ := dp_tup hv
  have hl := dps_len hd
  refine ⟨a, rfl, ⟨xs, hx⟩, q (Itt K a) _ _ H2 s2 (by rw [← hl]; exact walk_tup) (fun H3 s3 => same_t s3 hx) fun i H3 x H4 s3 hi y => ?_⟩
  obtain ⟨e1, e2⟩ := y
  subst e1
  obtain ⟨d, h1, h2⟩ := dps_get hd e2
  exact ⟨Same.refl _, d, h1, dp_same s3 d x h2⟩
theorem ydi_lst (h : Yd K tl σ H (.list ds)) : YdI K (iList K tl) σ H ds := fun H1 s R q => h H1 s _ fun v H2 s2 hv => by
  obtain ⟨a, xs, rfl, hx, hd⟩ := dp_lst hv
  have hl := dps_len hd
  refine ⟨a, rfl, ⟨xs, hx⟩, q (Itl K a) _ _ H2 s2 (by rw [← hl]; exact walk_list) (fun H3 s3 => s3.seq hx) fun i H3 x H4 s3 hi y => ?_⟩
  obtain ⟨e1, e2⟩ := y
  subst e1
  obtain ⟨d, h1, h2⟩ := dps_get hd e2
  exact ⟨Same.refl _, d, h1, dp_same s3 d x h2⟩
theorem ydi_str {z : Str} (h : Yd K tl σ H (.str z)) : YdI K (iStr tl) σ H (z.cps.toList.map fun c => .str ⟨#[c]⟩) := fun H1 s R q => h H1 s _ fun v H2 s2 hv => by
  refine ⟨z, dp_str hv, q (Its z) _ _ H2 s2 (by rw [List.length_map, Array.length_toList]; exact walk_str) (fun H3 s3 => trivial) fun i H3 x H4 s3 hi y => ?_⟩
  obtain ⟨e1, c, e2, e3⟩ := y
  subst e1
  refine ⟨Same.refl _, .str ⟨#[c]⟩, ?_, by rw [e3]; exact .str _⟩
  rw [List.getElem?_map, Array.getElem?_toList, e2]
  rfl
theorem ydi_rng1 {ta : TA} {n : Int} (h : YdA K ta σ H [.int n]) (h0 : n ≤ 1000000) (h1 : 0 ≤ n) : YdI K (iRng1 ta) σ H ((List.range n.toNat).map fun i => .int (i : Nat)) := fun H1 s R q => h H1 s _ fun vs H2 s2 hv => by
  have e : vs = [V.int n] := dps_ints (ns := [n]) hv
  subst e
  refine ⟨n, rfl, by omega, by omega, q (Itr 0 n.toNat) _ _ H2 s2 (by rw [List.length_map, List.length_range]; exact walk_range) (fun H3 s3 => trivial) fun i H3 x H4 s3 hi y => ?_⟩
  obtain ⟨e1, e2⟩ := y
  subst e1
  rw [List.length_map, List.length_range] at hi
  refine ⟨Same.refl _, .int (i : Nat), ?_, by rw [e2]; show Dp K H4 (V.int ((0 : Int) + (i : Nat))) _; rw [Int.zero_add]; exact .int _⟩
  rw [List.getElem?_map, List.getElem?_range hi]
  rfl
theorem ydi_rng2 {ta : TA} {a b : Int} (h : YdA K ta σ H [.int a, .int b]) (h0 : -1000000 ≤ a ∧ a ≤ 1000000) (h1 : -1000000 ≤ b ∧ b ≤ 1000000) : YdI K (iRng2 ta) σ H ((List.range (b - a).toNat).map fun i => .int (a + (i : Nat))) := fun H1 s R q => h H1 s _ fun vs H2 s2 hv => by
  have e : vs = [V.int a, V.int b] := dps_ints (ns := [a, b]) hv
  subst e
  refine ⟨a, b, rfl, ⟨by omega, by omega, by omega, by omega⟩, q (Itr a (b - a).toNat) _ _ H2 s2 (by rw [List.length_map, List.length_range]; exact walk_range) (fun H3 s3 => trivial) fun i H3 x H4 s3 hi y => ?_⟩
  obtain ⟨e1, e2⟩ := y
  subst e1
  rw [List.length_map, List.length_range] at hi
  refine ⟨Same.refl _, .int (a + (i : Nat)), ?_, by rw [e2]; exact .int _⟩
  rw [List.getElem?_map, List.getElem?_range hi]
  rfl

theorem wipe1 {i : Nat} : wipe σ [i] = σ.set i none := rfl
theorem set1 {i : Nat} {v : V} : (wipe σ [i]).set i (some v) = σ.set i (some v) := by rw [wipe1, List.set_set]
theorem wipe_set1 {i : Nat} {v : V} : wipe ((wipe σ [i]).set i (some v)) [i] = wipe σ [i] := by rw [set1, wipe1, wipe1, List.set_set]
theorem take_succ_some {α : Type} {l : List α} {i : Nat} {a : α} (h : l[i]? = some a) : l.take (i + 1) = l.take i ++ [a] := by
  rw [List.take_add_one, h]
  rfl
/-- a list that nobody else holds frozen -/
def YdL (K : Frag) (t : TE) (σ : St) (H : Hp) (ds : List PyData) : Prop := ∀ H1, Same H H1 → ∀ Q : VK, (∀ a vs H2, Same H1 H2 → H2 a = some (.lst vs) → DpAll K H2 vs ds → Q (.ref a) H2) → t σ H1 Q
theorem YdL.yd (h : YdL K te σ H ds) : Yd K te σ H (.list ds) := fun H1 s Q q => h H1 s Q fun a vs H2 s2 e hv => q _ H2 s2 (.lst (SqL.of e) hv)
theorem YdL.is {es : List PyData} (h : YdL K te σ H ds) (q : ds = es) : YdL K te σ H es := q ▸ h
theorem yl_var {i : Nat} {a : Addr} {vs : List V} (h : σ[i]? = some (some (.ref a))) (ha : H a = some (.lst vs)) (hd : DpAll K H vs ds) : YdL K (tVar i) σ H ds := fun H1 s _ q => ⟨.ref a, h, q a vs H1 (Same.refl _) (s _ _ ha) (dps_same s _ _ hd)⟩
theorem yl_lst {ta : TA} (h : YdA K ta σ H ds) (hl : ds.length ≤ 1000) : YdL K (tLst ta) σ H ds := fun H1 s _ q =>
  h H1 s _ fun vs H2 s2 hvs => ⟨by rw [dps_len hvs]; exact small1 hl, fun p hp => q p vs _ (s2.trans (same_new hp)) upd_same (dps_same (same_new hp) _ _ hvs)⟩
theorem yl_cat {es : List PyData} (ha : YdL K ta σ H ds) (hb : YdL K tb σ H es) (hl : ds.length + es.length ≤ 1000) : YdL K (tOp rCat ta tb) σ H (ds ++ es) := fun H1 s Q q =>
  ha H1 s _ fun a vs H2 s2 e2 h2 => hb H2 (s.trans s2) _ fun b ws H3 s3 e3 h3 => ⟨a, b, vs, ws, rfl, rfl, s3 _ _ e2, e3, by rw [dps_len h2, dps_len h3]; exact small1 hl, fun p hp =>
    q p _ _ ((s2.trans s3).trans (same_new hp)) upd_same (dps_same (same_new hp) _ _ (dps_app (dps_same s3 _ _ h2) h3))⟩
/-- [f x for x in .. if p x] -/
theorem yl_lc {i : Nat} {wi : TI} {p : PyData → Bool} {f : PyData → PyData} (hi : YdI K wi σ H ds) (hl : ds.length ≤ 1000) (hn : ∀ d ∈ ds, p d = true → noL (f d) = true)
    (hs : ∀ H2 v d, Same H H2 → d ∈ ds → Dp K H2 v d → YdT tt (σ.set i (some v)) H2 (p d) ∧ (p d = true → Yd K te (σ.set i (some v)) H2 (f d))) :
    YdL K (tLc wi (gName i) tt te [i]) σ H ((ds.filter p).map f) := fun H1 s Q q => hi H1 s _ fun J G Y H2 s2 w hG hY D hD => by
  refine lc_it w (fun j Hc => Same H2 Hc ∧ ∃ ys, Hc D = some (.lst ys) ∧ DpAll K Hc ys (((ds.take j).filter p).map f))
    ⟨same_new hD, [], upd_same, .nil⟩ (fun j Hc _ h => hG Hc h.1) (fun j x Hc Hx hj ⟨s3, ys, h1, h2⟩ y => ?_) fun Hc ⟨s3, ys, h1, h2⟩ => ?_
  · obtain ⟨s4, d, hd, hx⟩ := hY j Hc x Hx s3 hj y
    have hmem : d ∈ ds := List.mem_of_getElem? hd
    show wipe ((wipe σ [i]).set i (some x)) [i] = wipe σ [i] ∧ tt ((wipe σ [i]).set i (some x)) Hx _
    refine ⟨wipe_set1, ?_⟩
    rw [set1]
    have s5 : Same H Hx := ((s.trans s2).trans s3).trans s4
    obtain ⟨g1, g2⟩ := hs Hx x d s5 hmem hx
    have st := take_succ_some hd
    refine g1 Hx (Same.refl _) _ fun H5 s6 => ?_
    have hn1 : noLs (((ds.take j).filter p).map f) = true := noLs_of fun z hz => by
      obtain ⟨c, hc, e⟩ := List.mem_map.mp hz
      obtain ⟨hc1, hc2⟩ := List.mem_filter.mp hc
      rw [← e]
      exact hn c (List.mem_of_mem_take hc1) hc2
    cases hp : p d with
    | true =>
      refine iteT (g2 hp H5 s6 _ fun y2 H6 s7 hy => ?_)
      have s8 : Same Hc H6 := (s4.trans s6).trans s7
      have hD6 : H6 D = some (.lst ys) := s8 D _ h1
      refine ⟨ys, hD6, ?_, same_mut (s3.trans s8) hD, ys ++ [y2], upd_same, ?_⟩
      · rw [dps_len h2, List.length_map]
        have := List.length_filter_le p (ds.take j)
        rw [List.length_take] at this
        exact small1000 (by omega)
      · rw [st, List.filter_append, List.map_append]
        have e1 : ([d].filter p).map f = [f d] := by rw [List.filter_cons_of_pos hp]; rfl
        rw [e1]
        exact dps_ts (Ts.lst hD6) _ _ (noLs_of fun z hz => by
          rcases List.mem_append.mp hz with hz | hz
          · exact noLs_mem hn1 z hz
          · rw [List.mem_singleton.mp hz]
            exact hn d hmem hp) (dps_app (dps_same s8 _ _ h2) (.cons hy .nil))
    | false =>
      refine iteF ⟨(s3.trans s4).trans s6, ys, (s4.trans s6) D _ h1, ?_⟩
      rw [st, List.filter_append, List.map_append]
      have e1 : ([d].filter p).map f = [] := by rw [List.filter_cons_of_neg (by rw [hp]; exact Bool.false_ne_true)]; rfl
      rw [e1, List.append_nil]
      exact dps_same (s4.trans s6) _ _ h2
  · rw [List.take_length] at h2
    exact q D ys Hc (s2.trans s3) h1 h2
theorem yd_lc {i : Nat} {wi : TI} {p : PyData → Bool} {f : PyData → PyData} (hi : YdI K wi σ H ds) (hl : ds.length ≤ 1000) (hn : ∀ d ∈ ds, p d = true → noL (f d) = true)
    (hs : ∀ H2 v d, Same H H2 → d ∈ ds → Dp K H2 v d → YdT tt (σ.set i (some v)) H2 (p d) ∧ (p d = true → Yd K te (σ.set i (some v)) H2 (f d))) :
    Yd K (tLc wi (gName i) tt te [i]) σ H (.list ((ds.filter p).map f)) := (yl_lc hi hl hn hs).yd
/-- .. without a test -/
theorem yl_lcm {i : Nat} {wi : TI} {f : PyData → PyData} (hi : YdI K wi σ H ds) (hl : ds.length ≤ 1000) (hn : ∀ d ∈ ds, noL (f d) = true)
    (hs : ∀ H2 v d, Same H H2 → d ∈ ds → Dp K H2 v d → Yd K te (σ.set i (some v)) H2 (f d)) :
    YdL K (tLc wi (gName i) tYes te [i]) σ H (ds.map f) := by
  have h := yl_lc (tt := tYes) (te := te) (i := i) (p := fun _ => true) (f := f) hi hl (fun d hd _ => hn d hd) fun H2 v d s hd hv => ⟨fun H3 _ Q q => q H3 (Same.refl _), fun _ => hs H2 v d s hd hv⟩
  rwa [List.filter_eq_self.mpr (fun _ _ => rfl)] at h
theorem yd_lcm {i : Nat} {wi : TI} {f : PyData → PyData} (hi : YdI K wi σ H ds) (hl : ds.length ≤ 1000) (hn : ∀ d ∈ ds, noL (f d) = true)
    (hs : ∀ H2 v d, Same H H2 → d ∈ ds → Dp K H2 v d → Yd K te (σ.set i (some v)) H2 (f d)) :
    Yd K (tLc wi (gName i) tYes te [i]) σ H (.list (ds.map f)) := by
  have h := yd_lc (tt := tYes) (te := te) (i := i) (p := fun _ => true) (f := f) hi hl (fun d hd _ => hn d hd) fun H2 v d s hd hv => ⟨fun H3 _ Q q => q H3 (Same.refl _), fun _ => hs H2 v d s hd hv⟩
  rwa [List.filter_eq_self.mpr (fun _ _ => rfl)] at h
/-! ### more operations -/
theorem yd_all {bs : List Bool} {r : List V → Hp → VK → Prop} (hr : r = rAll K) (ha : Yd K ta σ H (.list (bs.map .bool))) : Yd K (tCB r (tCons ta tNil)) σ H (.bool (bs.all id)) := by
  subst hr
  exact fun H1 s Q q => ha H1 s _ fun v H2 s2 hv => by
    obtain ⟨a, xs, rfl, hx, hd⟩ := dp_lst hv
    rw [dps_bls hd] at hx
    exact ⟨a, bs, rfl, hx, q _ H2 s2 (.bl _)⟩
def tyD : PyData → String
  | .none => "NoneType"
  | .bool _ => "bool"
  | .int _ => "int"
  | .str _ => "str"
  | .list _ => "list"
  | .tuple _ => "tuple"
  | .dict _ => "dict"
theorem tyD_is {H : Hp} : ∀ {v : V} {d : PyData}, Dp K H v d → TyX K H v (.type (tyD d)) := fun {v d} h => by
  cases h with
  | non => exact .base .non
  | bl b => exact .base (.bl b)
  | int i => exact .base (.int i)
  | str x => exact .base (.str x)
  | lst hs _ =>
    rcases hs with (hs | ⟨o, hs⟩) | ⟨o, its, n, h1, h2, _⟩
    · exact .base (.lst hs)
    · exact .base (.frz hs)
    · exact .kList h1 h2
  | tup hs _ =>
    rcases hs with (hs | ⟨o, hs⟩) | ⟨o, its, n, h1, h2, _⟩
    · exact .base (.tup hs)
    · exact .fTuple hs
    · exact .kTuple h1 h2
/-- isinstance(x, T), T a built-in type -/
theorem yd_isi {T : String} {b : Bool} {r : List V → Hp → VK → Prop} (hr : r = rIsi K) (hk : kitB (tyD d) T = some b) (ha : Yd K ta σ H d) : Yd K (tCB r (tCons ta (tCons (tC (.ty T)) tNil))) σ H (.bool b) := by
  subst hr
  exact fun H1 s Q q => ha H1 s _ fun v H2 s2 hv => ⟨v, .ty T, .type (tyD d), .type T, b, rfl, .ty T, tyD_is hv, kit_ty hk, q _ H2 s2 (.bl _)⟩
end

/-! ### < and <= of data -/
def rLtD (K : Frag) : R2 := fun x y H Q => ∃ d e, Dp K H x d ∧ Dp K H y e ∧ PySem.W.alike d e = true ∧ d ≠ .none ∧ d.depth ≤ 60 ∧ Q (.bl (PySem.W.dataLt d e)) H
def rLeD (K : Frag) : R2 := fun x y H Q => ∃ d e, Dp K H x d ∧ Dp K H y e ∧ PySem.W.alike d e = true ∧ d ≠ .none ∧ d.depth ≤ 60 ∧ Q (.bl (!PySem.W.dataLt e d)) H
section
variable {X : Cx}
theorem op_ltD (hu : X.A.units + 64 < cLine) : OpR X (compareOp .Lt) (rLtD X.K) := by
  intro pins s σ H x y v u Q I rx ry h
  obtain ⟨d, e, hd, he, ha, hn, hk, q⟩ := h
  obtain ⟨as, r1⟩ := Dp.reads I d x v hd rx
  obtain ⟨bs, r2⟩ := Dp.reads I e y u he ry
  exact PySem.W.lt_data r1 r2 ha hn (by have := Nat.min_le_left d.depth e.depth; omega) ⟨.bl _, H, I, rfl, q⟩
theorem op_leD (hu : X.A.units + 64 < cLine) : OpR X (compareOp .LtE) (rLeD X.K) := by
  intro pins s σ H x y v u Q I rx ry h
  obtain ⟨d, e, hd, he, ha, hn, hk, q⟩ := h
  obtain ⟨as, r1⟩ := Dp.reads I d x v hd rx
  obtain ⟨bs, r2⟩ := Dp.reads I e y u he ry
  exact PySem.W.le_data r1 r2 ha hn (by have := Nat.min_le_left d.depth e.depth; omega) ⟨.bl _, H, I, rfl, q⟩
end
section
variable {K : Frag} {σ : St} {H H' : Hp} {ta tb te tl : TE} {t u tt : TT} {d e r : PyData} {ds : List PyData}
theorem yd_lt (ha : Yd K ta σ H d) (hb : Yd K tb σ H e) (hk : PySem.W.alike d e = true) (hn : d ≠ .none) (hz : d.depth ≤ 60) : Yd K (tOp (rLtD K) ta tb) σ H (.bool (PySem.W.dataLt d e)) :=
  yd_op ha hb fun v w H1 _ hv hw Q q => ⟨d, e, hv, hw, hk, hn, hz, q _ H1 (Same.refl _) (.bl _)⟩
theorem yd_le (ha : Yd K ta σ H d) (hb : Yd K tb σ H e) (hk : PySem.W.alike d e = true) (hn : d ≠ .none) (hz : d.depth ≤ 60) : Yd K (tOp (rLeD K) ta tb) σ H (.bool (!PySem.W.dataLt e d)) :=
  yd_op ha hb fun v w H1 _ hv hw Q q => ⟨d, e, hv, hw, hk, hn, hz, q _ H1 (Same.refl _) (.bl _)⟩
end

/-! ### sorted of data -/
def rSortD (K : Frag) : List V → Hp → VK → Prop := fun vs H Q => ∃ (v : V) (ds : List PyData), vs = [v] ∧ Dp K H v (.list ds) ∧ noLs ds = true ∧ ds.length ≤ 1000 ∧ PySem.W.AllAlike ds ∧ PySem.W.Sortable ds ∧ (∀ d ∈ ds, d.depth ≤ 60) ∧
  ∀ w H', Same H H' → Dp K H' w (.list (ds.mergeSort (PySem.W.dataLe false id))) → Q w H'
end K15

/-! A dict whose keys are pairs of tuples of ints: its promise, its operations, the walk over its items. -/
namespace K15
open PySem PySem.Spec PyProof.Rows L2

def encF (f : Free) : PyData := .tuple (f.map fun i => .int ((i : Nat) : Int))
def encP (p : Pr) : PyData := .tuple [encF p.1, encF p.2]
def keyF (f : Free) : NestedKey := .tup (f.map fun i => .num ((i : Nat) : Int))
def keyP (p : Pr) : NestedKey := .tup [keyF p.1, keyF p.2]
theorem map_num_inj : ∀ {a b : List Nat}, (a.map fun i => NestedKey.num ((i : Nat) : Int)) = (b.map fun i => NestedKey.num ((i : Nat) : Int)) → a = b
  | [], [], _ => rfl
  | [], _ :: _, h => by simp at h
  | _ :: _, [], h => by simp at h
  | x :: a, y :: b, h => by
    rw [List.map_cons, List.map_cons] at h
    obtain ⟨h1, h2⟩ := List.cons.inj h
    injection h1 with h1
    have e : x = y := by omega
    rw [e, map_num_inj h2]
theorem keyF_inj {a b : Free} (h : keyF a = keyF b) : a = b := by
  unfold keyF at h
  injection h with h
  exact map_num_inj h
theorem keyP_inj {p q : Pr} (h : keyP p = keyP q) : p = q := by
  unfold keyP at h
  injection h with h
  obtain ⟨h1, h2⟩ := List.cons.inj h
  obtain ⟨h3, _⟩ := List.cons.inj h2
  exact Prod.ext (keyF_inj h1) (keyF_inj h3)
theorem nums_depth : ∀ f : List Nat, NestedKey.depthAll (f.map fun i => NestedKey.num ((i : Nat) : Int)) = 0
  | [] => rfl
  | x :: f => by
    rw [List.map_cons, NestedKey.depthAll, nums_depth f]
    rfl
theorem keyF_depth (f : Free) : (keyF f).depth = 1 := by
  unfold keyF
  rw [NestedKey.depth, nums_depth]
theorem keyP_depth (p : Pr) : (keyP p).depth ≤ 8 := by
  unfold keyP
  rw [NestedKey.depth, NestedKey.depthAll, NestedKey.depthAll, NestedKey.depthAll, keyF_depth, keyF_depth]
  decide
section
variable {X : Cx} {pins : List (Addr × Obj)} {σ : St} {H : Hp} {s : Shared}
theorem nums_are {h : Heap} : ∀ {f : List Nat} {us : List Value}, Vals (f.map fun i => V.int ((i : Nat) : Int)) us → NestedAll h (f.map fun i => NestedKey.num ((i : Nat) : Int)) us
  | [], _, r => by cases r; exact .nil
  | x :: f, _, r => by
    rw [List.map_cons] at r
    cases r with
    | cons r1 r2 =>
      obtain ⟨t, rfl⟩ := r1
      exact .cons (.int _ t) (nums_are r2)
theorem ints_of {K : Frag} {xs : List V} {f : Free} (h : DpAll K H xs (f.map fun i => PyData.int ((i : Nat) : Int))) : xs = f.map fun i => V.int ((i : Nat) : Int) := by
  have e : (f.map fun i => PyData.int ((i : Nat) : Int)) = (f.map fun i => ((i : Nat) : Int)).map PyData.int := by rw [List.map_map]; rfl
  rw [e] at h
  rw [dps_ints h, List.map_map]
  rfl
theorem keyF_is (I : Inv X pins σ H s) {v : V} {u : Value} {f : Free} (h : Dp X.K H v (encF f)) (r : RelV v u) : NestedIs s.heap (keyF f) u := by
  obtain ⟨b, ys, rfl, h1, h2⟩ := dp_tup h
  obtain rfl : u = Value.ref b := r
  rw [ints_of h2] at h1
  obtain ⟨its, rv, ⟨o, g1, g2, n, g3⟩, _⟩ := I.tuple h1
  exact .tup g1 g2 g3 (by simpa using nums_are rv)
theorem keyP_is (I : Inv X pins σ H s) {a : Addr} {p : Pr} (h : Dp X.K H (.ref a) (encP p)) : (nestedKind X.prog X.w).is s.heap (keyP p) a := by
  obtain ⟨b, ys, e, h1, h2⟩ := dp_tup h
  cases e
  cases h2 with
  | cons d1 h2 =>
    cases h2 with
    | cons d2 h2 =>
      cases h2
      obtain ⟨its, rv, ⟨o, g1, g2, n, g3⟩, _⟩ := I.tuple h1
      cases rv with
      | cons r1 rv =>
        cases rv with
        | cons r2 rv =>
          cases rv
          exact ⟨.tup g1 g2 g3 (by simpa using NestedAll.cons (keyF_is I d1 r1) (NestedAll.cons (keyF_is I d2 r2) .nil)), keyP_depth p⟩
end

/-! ### the dict -/
abbrev Ent := Pr × Addr × V
def RelE (p : Ent) (q : NestedKey × Addr × Value) : Prop := q.1 = keyP p.1 ∧ q.2.1 = p.2.1 ∧ RelV p.2.2 q.2.2
def dRaw (P : Program) (w : World) (d : Addr) (ys : List (NestedKey × Addr × Value)) (h : Heap) : Prop :=
  ∃ o es ep, h.get? d = some o ∧ o.ExactDict ∧ o.data = .dict es ep ∧ es.toList = ys.map (entryOfKey (nestedKind P w)) ∧ (ys.map (·.1)).Nodup
def dPhi (P : Program) (w : World) (d : Addr) (xs : List Ent) (h : Heap) : Prop := (d == sysModules) = false ∧ ∃ ys, Paired RelE xs ys ∧ dRaw P w d ys h
def dPr (P : Program) (w : World) (d : Addr) (xs : List Ent) : HO := .ext (dPhi P w d xs)
def KeysAt (K : Frag) (H : Hp) (xs : List Ent) : Prop := ∀ x ∈ xs, Dp K H (.ref x.2.1) (encP x.1)
theorem KeysAt.ts {K : Frag} {H H' : Hp} {xs : List Ent} (h : KeysAt K H xs) (e : Ts K H H') : KeysAt K H' xs := fun x hx => dp_ts e _ _ (by
  have z : ∀ f : List Nat, noLs (f.map fun i => PyData.int ((i : Nat) : Int)) = true := fun f => noLs_of fun d hd => by
    obtain ⟨i, _, q⟩ := List.mem_map.mp hd
    rw [← q]
    rfl
  show noLs [encF x.1.1, encF x.1.2] = true
  rw [noLs, noLs, noLs]
  show (noLs _ && (noLs _ && true)) = true
  rw [z, z]
  rfl) (h x hx)
theorem dPhi_keep {P : Program} {w : World} {d : Addr} {xs : List Ent} {h1 h2 : Heap} (x : dPhi P w d xs h1) (k : ∀ o, h1.get? d = some o → h2.get? d = some o) : dPhi P w d xs h2 := by
  obtain ⟨a, ys, b, o, es, ep, c, r⟩ := x
  exact ⟨a, ys, b, o, es, ep, k o c, r⟩
theorem dPr_mk {P : Program} {w : World} {H : Hp} {h : Heap} {d : Addr} {xs : List Ent} (x : dPhi P w d xs h) : ObjOk P w H h d (dPr P w d xs) := by
  refine ⟨x, ?_, fun h1 h2 a k => dPhi_keep a k⟩
  obtain ⟨_, _, _, o, _, _, c, _⟩ := x
  exact ⟨o, c⟩
/-- what the dict holds at p: the key's tuple, the value -/
def getE (xs : List Ent) (p : Pr) : Option (Addr × V) := (xs.find? fun x => decide (x.1 = p)).map (·.2)
theorem getE_rel {xs : List Ent} {ys : List (NestedKey × Addr × Value)} (r : Paired RelE xs ys) (p : Pr) :
    (getE xs p = none ∧ atKey ys (keyP p) = none) ∨ ∃ a v u, getE xs p = some (a, v) ∧ atKey ys (keyP p) = some (a, u) ∧ RelV v u := by
  induction r with
  | nil => exact .inl ⟨rfl, rfl⟩
  | @cons x y xs ys h t ih =>
    obtain ⟨h1, h2, h3⟩ := h
    by_cases e : x.1 = p
    · refine .inr ⟨x.2.1, x.2.2, y.2.2, ?_, ?_, h3⟩
      · simp [getE, List.find?_cons, e]
      · have e2 : y.1 = keyP p := by rw [h1, e]
        simp [atKey, List.find?_cons, e2, ← h2]
    · have e2 : ¬ y.1 = keyP p := fun q => e (keyP_inj (h1.symm.trans q))
      have g1 : getE (x :: xs) p = getE xs p := by simp [getE, List.find?_cons, e]
      have g2 : atKey (y :: ys) (keyP p) = atKey ys (keyP p) := by simp [atKey, List.find?_cons, e2]
      rw [g1, g2]
      exact ih
theorem getE_mem {xs : List Ent} {p : Pr} {a : Addr} {v : V} (h : getE xs p = some (a, v)) : (p, a, v) ∈ xs := by
  unfold getE at h
  obtain ⟨x, h1, h2⟩ := Option.map_eq_some_iff.mp h
  have e : x.1 = p := by simpa using List.find?_some h1
  have m := List.mem_of_find?_eq_some h1
  have e2 : x = (p, a, v) := Prod.ext e h2
  rw [← e2]
  exact m
theorem getE_isSome {xs : List Ent} {p : Pr} : (getE xs p).isSome = decide (p ∈ xs.map (·.1)) := by
  unfold getE
  rw [Option.isSome_map]
  by_cases h : p ∈ xs.map (·.1)
  · rw [decide_eq_true h]
    obtain ⟨x, hx, e⟩ := List.mem_map.mp h
    rw [List.find?_isSome]
    exact ⟨x, hx, decide_eq_true e⟩
  · rw [decide_eq_false h]
    cases q : xs.find? fun x => decide (x.1 = p) with
    | none => rfl
    | some x => exact absurd (List.mem_map.mpr ⟨x, List.mem_of_find?_eq_some q, by simpa using List.find?_some q⟩) h
theorem getE_none {xs : List Ent} {p : Pr} (h : p ∉ xs.map (·.1)) : getE xs p = none := by
  have q := getE_isSome (xs := xs) (p := p)
  rw [decide_eq_false h] at q
  cases e : getE xs p with
  | none => rfl
  | some z =>
    rw [e] at q
    cases q
section
variable {X : Cx} {pins : List (Addr × Obj)} {σ : St} {H : Hp} {s : Shared} {d a : Addr} {xs : List Ent} {p : Pr}
theorem dPr_of (I : Inv X pins σ H s) (e : H d = some (dPr X.prog X.w d xs)) (hk : KeysAt X.K H xs) : (d == sysModules) = false ∧ ∃ ys, Paired RelE xs ys ∧ s.heap.DictOfH (nestedKind X.prog X.w) d ys := by
  obtain ⟨⟨h1, ys, h2, o, es, ep, g1, g2, g3, g4, g5⟩, _⟩ := (show ObjOk X.prog X.w H s.heap d (.ext (dPhi X.prog X.w d xs)) from I.hok d _ e)
  refine ⟨h1, ys, h2, o, es, ep, g1, g2, g3, g4, fun y hy => ?_, g5⟩
  have all : ∀ {l : List Ent} {m : List (NestedKey × Addr × Value)}, Paired RelE l m → KeysAt X.K H l → ∀ y ∈ m, (nestedKind X.prog X.w).is s.heap y.1 y.2.1 := by
    intro l m q
    induction q with
    | nil => intro _ y hy; exact nomatch hy
    | @cons b c bs cs h t ih =>
      intro hk y hy
      rcases List.mem_cons.mp hy with z | z
      · subst z
        obtain ⟨z1, z2, _⟩ := h
        rw [z1, z2]
        exact keyP_is I (hk b List.mem_cons_self)
      · exact ih (fun x hx => hk x (List.mem_cons_of_mem _ hx)) y z
  exact all h2 hk y hy
theorem room_nk {A : Around} (hu : A.units + 9 < cLine) : (nestedKind X.prog X.w).room A.in1 := by
  show A.units + 1 + 8 < cLine
  omega
def rPNotIn (P : Program) (w : World) (K : Frag) : R2 := fun y x H Q => ∃ d a xs p, x = .ref d ∧ y = .ref a ∧ H d = some (dPr P w d xs) ∧ KeysAt K H xs ∧ Dp K H (.ref a) (encP p) ∧ Q (.bl (!decide (p ∈ xs.map (·.1)))) H
theorem op_pNotIn (hu : X.A.units + 9 < cLine) : OpR X (compareOp .NotIn) (rPNotIn X.prog X.w X.K) := by
  intro pins s σ H y x u v Q I ry rx h
  obtain ⟨d, a, xs, p, rfl, rfl, e, hk, hp, q⟩ := h
  obtain rfl : v = Value.ref d := rx
  obtain rfl : u = Value.ref a := ry
  obtain ⟨hs, ys, rel, dd⟩ := dPr_of I e hk
  refine notIn_keyed (knd := nestedKind X.prog X.w) (kvs := pairsH ys) (room_nk hu) (keyP_is I hp) hs ⟨ys, dd, rfl⟩ ?_
  rw [valueAt_pairsH, Option.isSome_map]
  have e2 : (atKey ys (keyP p)).isSome = decide (p ∈ xs.map (·.1)) := by
    rw [← getE_isSome]
    rcases getE_rel rel p with ⟨h1, h2⟩ | ⟨a, v, u, h1, h2, _⟩
    · rw [h1, h2]
      rfl
    · rw [h1, h2]
      rfl
  rw [e2]
  exact ⟨.bl _, H, I.tok _, rfl, q⟩
def rPGet (P : Program) (w : World) (K : Frag) : R2 := fun x y H Q => ∃ d a xs p b v, x = .ref d ∧ y = .ref a ∧ H d = some (dPr P w d xs) ∧ KeysAt K H xs ∧ Dp K H (.ref a) (encP p) ∧ getE xs p = some (b, v) ∧ Q v H
theorem ix_pGet (hu : X.A.units + 9 < cLine) : IxR X (rPGet X.prog X.w X.K) := by
  intro value slice pins s σ H x y v u Q I rx ry h hsub
  obtain ⟨d, a, xs, p, b, z, rfl, rfl, e, hk, hp, hg, q⟩ := h
  obtain rfl : v = Value.ref d := rx
  obtain rfl : u = Value.ref a := ry
  obtain ⟨hs, ys, rel, dd⟩ := dPr_of I e hk
  rcases getE_rel rel p with ⟨h1, _⟩ | ⟨a', v', u', h1, h2, h3⟩
  · rw [h1] at hg
    cases hg
  · rw [h1] at hg
    cases hg
    refine tail_any dd.typeIs PySem.F.slot_dict_getitem.lookup (wpAny_getItem_heap (room_nk hu) (keyP_is I hp) dd h2 ?_) hsub
    exact ⟨_, H, I.tok _, h3, q⟩
def rPSet (P : Program) (w : World) (K : Frag) : TSet := fun o i v H Q => ∃ d a xs p, o = .ref d ∧ i = .ref a ∧ H d = some (dPr P w d xs) ∧ KeysAt K H xs ∧ Dp K H (.ref a) (encP p) ∧ p ∉ xs.map (·.1) ∧ xs.length ≤ 10000 ∧
  Q (upd H d (dPr P w d (xs ++ [(p, a, v)])))
theorem paired_app {α β : Type} {F : α → β → Prop} : ∀ {l : List α} {m : List β} {a : α} {b : β}, Paired F l m → F a b → Paired F (l ++ [a]) (m ++ [b])
  | _, _, _, _, .nil, h => .cons h .nil
  | _, _, _, _, .cons r t, h => .cons r (paired_app t h)
theorem set_p (hu : X.A.units + 9 < cLine) : PSet X (rPSet X.prog X.w X.K) := by
  intro pins s σ H o i v ov iv u Q I ro ri rv h
  obtain ⟨d, a, xs, p, rfl, rfl, e, hk, hp, hn, hl, q⟩ := h
  obtain rfl : ov = Value.ref d := ro
  obtain rfl : iv = Value.ref a := ri
  obtain ⟨hs, ys, rel, dd⟩ := dPr_of I e hk
  have hz : ys.length ≤ sizeLine := by
    rw [← Paired.length rel, sizeLine_eq]
    omega
  refine wpAny_setItem_heap (hsz := hz) (room_nk hu) (keyP_is I hp) dd fun h' dd' hs' => ?_
  have hat : atKey ys (keyP p) = none := by
    rcases getE_rel rel p with ⟨_, h2⟩ | ⟨a', v', u', h1, _, _⟩
    · exact h2
    · rw [getE_none hn] at h1
      cases h1
  rw [storedH_new hat] at dd'
  obtain ⟨o, es, ep, g1, g2, g3, g4, _, g5⟩ := dd'
  refine ⟨_, I.write (t' := _) (x := d) (e := d) (o := dPr X.prog X.w d (xs ++ [(p, a, v)])) (by rw [e]; exact True.intro) (.inl rfl) (fun b z hb q => (hs'.2 b hb).trans q) ⟨o, g1⟩ ?_, q⟩
  exact dPr_mk ⟨hs, _, paired_app rel ⟨rfl, rfl, rv⟩, o, es, ep, g1, g2, g3, g4, g5⟩
def rPLen (P : Program) (w : World) (K : Frag) : List V → Hp → VK → Prop := fun vs H Q => ∃ d xs, vs = [.ref d] ∧ H d = some (dPr P w d xs) ∧ KeysAt K H xs ∧ xs.length ≤ 10001 ∧ Q (.int (xs.length : Nat)) H
theorem call_pLen : CallR X (.builtin "len") (rPLen X.prog X.w X.K) := by
  intro pins s σ H vs us Q I r h
  obtain ⟨d, xs, rfl, e, hk, hl, q⟩ := h
  obtain ⟨u, rfl, ru⟩ := vals1 r
  obtain rfl : u = Value.ref d := ru
  obtain ⟨hs, ys, rel, dd⟩ := dPr_of I e hk
  have hlen : (pairsH ys).length = xs.length := by rw [pairsH_length, Paired.length rel]
  refine PyProof.Rows.call_len_slot (n := ((pairsH ys).length : Nat)) dd.typeIs PySem.F.slot_dict_len (fun Q' hq => len_keyed (knd := nestedKind X.prog X.w) hs ⟨ys, dd, rfl⟩ hq) (by omega) (by omega) ?_
  exact ⟨.int (xs.length : Nat), H, I.tok _, ⟨_, by rw [hlen]⟩, q⟩
/-- {} -/
def tPNew (P : Program) (w : World) : TE := fun _ H Q => ∀ d, H d = none → Q (.ref d) (upd H d (dPr P w d []))
theorem pe_pNew {pos : Pos} : PE X (.Dict [] [] pos) (tPNew X.prog X.w) := ⟨fun pins s σ H Q I h =>
  wpAny_Dict_empty ⟨.ref s.heap.objs.size, _, I.laid (a := s.heap.objs.size) (o := dPr X.prog X.w s.heap.objs.size []) (t' := s.toks) (fun _ _ q => Heap.get?_push_of_some _ q) (Nat.le_refl _)
    (dPr_mk ⟨beq_eq_false_iff_ne.mpr (Ne.symm (Nat.ne_of_lt I.big)), [], .nil, _, #[], 0, Heap.get?_push_size _ rfl, ⟨rfl, rfl, rfl⟩, rfl, rfl, List.nodup_nil⟩), rfl, h _ (I.hok.fresh (Nat.le_refl _))⟩⟩
/-- {k: v} -/
def tPOne (P : Program) (w : World) (K : Frag) (tk tv : TE) : TE := fun σ H Q => ∀ d, H d = none → tk σ (upd H d (dPr P w d [])) fun x H1 => tv σ H1 fun y H2 => H2 d = some (dPr P w d []) ∧ ∃ a p, x = .ref a ∧ Dp K H2 (.ref a) (encP p) ∧
  Q (.ref d) (upd H2 d (dPr P w d [(p, a, y)]))
theorem pe_pOne {k v : Expr} {tk tv : TE} {pos : Pos} (hu : X.A.units + 9 < cLine) (hk : PE X k tk) (hv : PE X v tv) : PE X (.Dict [some k] [v] pos) (tPOne X.prog X.w X.K tk tv) := by
  refine ⟨fun pins s σ H Q I h => ?_⟩
  have hn := I.hok.fresh (Nat.le_refl s.heap.objs.size)
  have I1 := I.laid (a := s.heap.objs.size) (o := dPr X.prog X.w s.heap.objs.size []) (h' := s.heap.push { cls := .type "dict", data := .dict #[] }) (t' := s.toks) (fun _ _ q => Heap.get?_push_of_some _ q) (Nat.le_refl _)
    (dPr_mk ⟨beq_eq_false_iff_ne.mpr (Ne.symm (Nat.ne_of_lt I.big)), [], .nil, _, #[], 0, Heap.get?_push_size _ rfl, ⟨rfl, rfl, rfl⟩, rfl, rfl, List.nodup_nil⟩)
  rw [arm_eval_Dict, zip_pairTrees [some k] [v] X.env pos rfl rfl, dictDisplay_pairs (pairTrees [some k] [v] X.env pos) (fun z => nomatch z) (show 1 < 17 by decide)]
  refine wpAny_bind (wpAny_standAt (wpAny_bind (wpAny_subDictH (knd := nestedKind X.prog X.w) (by show X.A.units + 8 < cLine; omega) (show 1 ≤ 15 by decide)
    (pairTrees_cons_walk (thn (hk.run pins _ σ _ _ I1 (h _ hn)) fun u s1 ⟨x, H1, I2, rx, q1⟩ => thn (hv.run pins s1 σ H1 _ I2 q1) fun w2 s2 ⟨y, H2, I3, ry, hd, a, p, ex, hp, q2⟩ => pairTrees_nil_walk ?_)))))
  subst ex
  obtain rfl : u = Value.ref a := rx
  obtain ⟨hs, ys, rel, dd⟩ := dPr_of I3 hd (fun x hx => nomatch hx)
  cases rel
  refine ⟨[(keyP p, a, w2)], ⟨rfl, rfl, keyP_is I3 hp, trivial⟩, dd, fun h' tk' dd' hs' => wpAny_pure ?_⟩
  have e2 : storedAllH [] [(keyP p, a, w2)] = [(keyP p, a, w2)] := rfl
  rw [e2] at dd'
  obtain ⟨o, es, ep, g1, g2, g3, g4, _, g5⟩ := dd'
  refine ⟨.ref s.heap.objs.size, _, I3.write (t' := tk') (x := s.heap.objs.size) (e := s.heap.objs.size) (o := dPr X.prog X.w s.heap.objs.size [(p, a, y)]) (by rw [hd]; exact True.intro) (.inl rfl) (fun b z hb q => (hs'.2 b hb).trans q) ⟨o, g1⟩ ?_, rfl, q2⟩
  exact dPr_mk ⟨hs, _, .cons ⟨rfl, rfl, ry⟩ .nil, o, es, ep, g1, g2, g3, g4, g5⟩
end

/-! ### the walk over the items: the dict known -/
def ItiP (K : Frag) (P : Program) (w : World) (d : Addr) (o : Obj) (xs : List Ent) : It :=
  ⟨fun i H => H d = some (.frz o (dPr P w d xs)) ∧ KeysAt K H xs ∧ i < xs.length, fun i H x H' => ∃ T p a v, xs[i]? = some (p, a, v) ∧ x = .ref T ∧ H T = none ∧ H' = upd H T (.tup [.ref a, v]), fun i H => H d = some (.frz o (dPr P w d xs)) ∧ KeysAt K H xs ∧ xs.length ≤ i⟩
section
variable {X : Cx} {pins : List (Addr × Obj)} {σ : St} {H : Hp} {s : Shared} {d a : Addr} {xs : List Ent} {p : Pr} {o : Obj}
theorem frzP (I : Inv X pins σ H s) (e : H d = some (.frz o (dPr X.prog X.w d xs))) : s.heap.get? d = some o ∧ (d == sysModules) = false ∧ ∃ ys es ep, Paired RelE xs ys ∧ o.ExactDict ∧ o.data = .dict es ep ∧ es.toList = ys.map (entryOfKey (nestedKind X.prog X.w)) := by
  obtain ⟨h0, x⟩ := (show ObjOk X.prog X.w H s.heap d (.frz o (dPr X.prog X.w d xs)) from I.hok d _ e)
  obtain ⟨⟨h1, ys, h2, o2, es, ep, g1, g2, g3, g4, g5⟩, _⟩ := (show ObjOk X.prog X.w H s.heap d (.ext (dPhi X.prog X.w d xs)) from x)
  rw [h0] at g1
  cases g1
  exact ⟨h0, h1, ys, es, ep, h2, g2, g3, g4⟩
theorem paired_at {α β : Type} {F : α → β → Prop} : ∀ {l : List α} {m : List β} {i : Nat} {a : α}, Paired F l m → l[i]? = some a → ∃ b, m[i]? = some b ∧ F a b
  | _, _, _, _, .nil, h => by simp at h
  | c :: _, _, 0, a, .cons r _, h => by
    have e : c = a := by simpa using h
    subst e
    exact ⟨_, rfl, r⟩
  | _, _, i + 1, a, .cons _ t, h => by
    obtain ⟨b, h1, h2⟩ := paired_at (i := i) t (by simpa using h)
    exact ⟨b, by simpa using h1, h2⟩
theorem ent_at {ys : List (NestedKey × Addr × Value)} {es : Array DictEntry} (rel : Paired RelE xs ys) (he : es.toList = ys.map (entryOfKey (nestedKind X.prog X.w))) {i : Nat} {e : Ent} (hx : xs[i]? = some e) :
    ∃ (hi : i < es.size) (u : Value), es[i].key = .ref e.2.1 ∧ es[i].val = u ∧ RelV e.2.2 u := by
  obtain ⟨q, h1, h2, h3, h4⟩ := paired_at rel hx
  have h5 : es.toList[i]? = some (entryOfKey (nestedKind X.prog X.w) q) := by
    rw [he, List.getElem?_map, h1]
    rfl
  rw [Array.getElem?_toList] at h5
  obtain ⟨hi, h6⟩ := Array.getElem?_eq_some_iff.mp h5
  refine ⟨hi, q.2.2, ?_, ?_, h4⟩
  · rw [h6, ← h3]
    rfl
  · rw [h6]
    rfl
theorem size_of {ys : List (NestedKey × Addr × Value)} {es : Array DictEntry} (rel : Paired RelE xs ys) (he : es.toList = ys.map (entryOfKey (nestedKind X.prog X.w))) : es.size = xs.length := by
  rw [← Array.length_toList, he, List.length_map, Paired.length rel]
theorem turn_itemsP {P : Program} {w : World} {K : Frag} {elts : List Expr} {kk : Nat} {tpos : Pos} {es : Array DictEntry} {ep : Nat} (it : Addr) (hod : o.data = .dict es ep) :
    Turn P w K (.Tuple elts kk tpos) (ItiP K P w d o xs) [it] it (fun i h => ∃ ok ov, IsItemIter h it d i es.size ep ok ov) where
  mem := by simp
  obj := fun i h st b hb => by
    have e : b = it := by simpa using hb
    subst e
    obtain ⟨_, _, e⟩ := st
    exact ⟨_, e, fun v z => nomatch z⟩
  keep := fun i h h' st k => let ⟨ok, ov, e⟩ := st; ⟨ok, ov, k it (by simp) _ e⟩
  item := by
    intro X hP hw hK hc i pins s σ H E I hf st hg
    subst hP hw hK
    obtain ⟨hd, hka, hi⟩ := hg
    obtain ⟨hgd, hs, ys, es', ep', rel, hx, hdt, he⟩ := frzP I hd
    rw [hod] at hdt
    cases hdt
    have hxi : xs[i]? = some xs[i] := List.getElem?_eq_getElem hi
    obtain ⟨hie, u, k1, k2, k3⟩ := ent_at rel he hxi
    obtain ⟨ok, ov, hit⟩ := st
    have hlt : it < s.heap.objs.size := Heap.lt_size hit
    refine wpAny_pyNext_items_item_raw hit ⟨o, hgd, hx, hod⟩ hie fun h' ho hT hz hk => ?_
    refine ⟨_, rfl, wpAny_letOwnedTupleGo_items (s := { s with heap := h' }) ho fun h'' he' sb => ?_⟩
    have hT2 : h''.get? s.heap.objs.size = some { cls := .type "tuple", data := .seq #[es[i].key, es[i].val] } := (sb.2 _ (Nat.ne_of_gt hlt)).trans hT
    have new : ObjOk X.prog X.w (upd H s.heap.objs.size (.tup [.ref xs[i].2.1, xs[i].2.2])) h'' s.heap.objs.size (.tup [.ref xs[i].2.1, xs[i].2.2]) :=
      ⟨by show 2 ≤ sizeLine; decide, [es[i].key, es[i].val], .cons k1 (.cons (by rw [k2]; exact k3) .nil), ⟨_, hT2, rfl, _, rfl⟩⟩
    have J : Inv X pins σ (upd H s.heap.objs.size (.tup [.ref xs[i].2.1, xs[i].2.2])) { s with heap := h'' } :=
      I.turnedNew (t' := s.toks) (ch := [it]) (fun b ob hb e => (sb.2 b (by simpa using hb)).trans (hk b ob (by simpa using hb) e)) hf (Nat.le_refl _) new
    refine ⟨.ref s.heap.objs.size, _, J, rfl, ⟨_, xs[i].1, xs[i].2.1, xs[i].2.2, hxi, rfl, I.hok.fresh (Nat.le_refl _), rfl⟩, ⟨_, _, he'⟩, fun b hb => ?_⟩
    have e : b = it := by simpa using hb
    rw [e, upd_ne (Nat.ne_of_lt hlt)]
    exact (hf it (by simp)).1
  done := by
    intro X hP hw hK hc i pins s σ H E I hf st hg
    subst hP hw hK
    obtain ⟨hd, hka, hi⟩ := hg
    obtain ⟨hgd, hs, ys, es', ep', rel, hx, hdt, he⟩ := frzP I hd
    rw [hod] at hdt
    cases hdt
    obtain ⟨f0, f1, f2, f3, f4, f5⟩ := hf it (by simp)
    obtain ⟨ok, ov, hit⟩ := st
    exact wpAny_pyNext_items_end_raw (I.ok.hd hc) hit ⟨o, hgd, hx, hod⟩ (by rw [size_of rel he]; exact hi) fun h' eb => ⟨rfl, I.turned (t' := s.toks) (fun b o hb e => eb b o hb e) f0 f1 f3 f4 f5⟩
  self := fun A i s Q E st h => let ⟨_, _, e⟩ := st; wpAny_pyIter_itemiter e h
/-- d.items(), d a new dict that nobody else holds: it is known from here on -/
def iItemsP (P : Program) (w : World) (K : Frag) (td : TE) : TI := fun σ H R => td σ H fun x H1 => ∃ d xs, x = .ref d ∧ H1 d = some (dPr P w d xs) ∧ ∀ o, R (ItiP K P w d o xs) (upd H1 d (.frz o (dPr P w d xs)))
theorem pi_itemsP {e : Expr} {td : TE} {elts : List Expr} {kk : Nat} {tpos apos cpos : Pos} (he : PE X e td) (hbase : attributeBase e "items" X.env (eval e X.env) = eval e X.env := by rfl) (hline : (apos.endLine == cpos.line) = true := by rfl) :
    PI X (.Tuple elts kk tpos) (.Call (.Attribute e "items" apos) [] [] cpos) (iItemsP X.prog X.w X.K td) := by
  refine ⟨fun pins s σ H R I h => ?_⟩
  refine wpAny_Call_method (T := "dict") (id := "dict.items") hbase rfl hline PySem.F.plainAttrs_dict PySem.F.slot_dict_items PySem.F.type_dict_items (thn (he.run pins s σ H _ I h) fun u s1 ⟨x, H1, I1, rx, d, xs, ex, hd, q⟩ => ?_)
  subst ex
  obtain rfl : u = Value.ref d := rx
  obtain ⟨o, I2⟩ := I1.lock hd (by trivial)
  obtain ⟨hgd, hs, ys, es, ep, rel, hx, hdt, hes⟩ := frzP (X := X) I2 upd_same
  have hr : s1.heap.DictRaw d es ep := ⟨o, hgd, hx, hdt⟩
  have I3 : Inv X pins σ (upd H1 d (.frz o (dPr X.prog X.w d xs))) { s1 with heap := s1.heap.push { cls := .type "dict_items", data := .fields #[.ref d] } } := I2.kept (t' := s1.toks) fun b ob q => Heap.get?_push_of_some _ q
  have fin : wpAny (model X.prog X.w) X.A (pyIter (.ref s1.heap.objs.size)) (PIE X pins σ (.Tuple elts kk tpos) R) X.xe { s1 with heap := s1.heap.push { cls := .type "dict_items", data := .fields #[.ref d] } } := by
    refine wpAny_pyIter_items_raw (d := d) (es := es) (ep := ep) ⟨_, Heap.get?_push_size _ rfl, rfl, rfl⟩ (hr.at fun z q => Heap.get?_push_of_some _ q) (pi_one (tk := s1.toks) I3 _ (turn_itemsP _ hdt) ⟨.none, .none, ?_⟩ (q o))
    exact Heap.get?_push_size _ rfl
  refine ⟨hr.typeIs, fun b z => ?_, ?_⟩
  · cases z
    exact ⟨o, hgd, hx.2.1⟩
  show wpAny _ _ (callWith cpos (.builtin "dict.items") [.ref d] [] []) _ X.xe s1
  exact method_meetsIn PySem.F.slot_dict_items PySem.F.entry_dict_items rfl (PySem.evalArgs_none ⟨rfl, hr.typeIs, PySem.F.args_dict_items_1 _, _, meets_dict_items_raw d hs, ⟨⟨es, ep, hr⟩, fin⟩⟩)
theorem walk_itemsP {P : Program} {w : World} {K : Frag} : Walk (ItiP K P w d o xs) xs.length (fun H => H d = some (.frz o (dPr P w d xs)) ∧ KeysAt K H xs) (YPair (fun i => xs[i]?.map fun e => V.ref e.2.1) (fun i => xs[i]?.map fun e => e.2.2)) := by
  refine ⟨fun _ _ hi q => ⟨q.1, q.2, hi⟩, fun _ q => ⟨q.1, q.2, Nat.le_refl _⟩, fun i H x H' _ _ y => ?_⟩
  obtain ⟨T, p, a, v, h1, h2, h3, h4⟩ := y
  exact ⟨T, .ref a, v, h2, h3, h4, by simp [h1], by simp [h1]⟩
end
end K15

/-! The text by places: each def a datum. -/
namespace K15
open PySem PySem.Spec PyProof.Rows L2
def top (i : Nat) : Stmt := PySem.Challenge.pw_narrowahead_k15_whole_seats_put_to_the_e.main.body.getD i (.Pass ⟨0, 0, 0, 0⟩)
abbrev s_is_ascending : Stmt := top 11
abbrev s_is_marks : Stmt := top 12
abbrev s_is_kind : Stmt := top 13
abbrev s_is_lot : Stmt := top 14
abbrev s_check_same_marks : Stmt := top 15
abbrev s_all_kinds : Stmt := top 17
abbrev s_first_no_lot : Stmt := top 19
abbrev s_first_seat : Stmt := top 22
abbrev s_behind : Stmt := top 25
abbrev s_pair_behind : Stmt := top 26
abbrev s_start_of : Stmt := top 27
abbrev s_lead_of : Stmt := top 28
abbrev s_all_pairs : Stmt := top 29
abbrev s_row_of_fewer : Stmt := top 30
abbrev s_never_fewer : Stmt := top 31
abbrev s_check_lots : Stmt := top 35
abbrev s_tuples_of : Stmt := top 36
abbrev s_more_seats : Stmt := top 37
abbrev s_law_tape : Stmt := top 39
abbrev s_law_pick : Stmt := top 40
abbrev s_law_kinds : Stmt := top 41
abbrev s_law_lot : Stmt := top 43
abbrev s_law_lots : Stmt := top 44
abbrev s_law_odd : Stmt := top 46
abbrev s_law_is_up : Stmt := top 48
abbrev s_law_is_kind : Stmt := top 50
abbrev s_law_is_lot : Stmt := top 51
abbrev s_law_behind : Stmt := top 53
abbrev s_law_never_fewer : Stmt := top 54
abbrev s_law_due : Stmt := top 55
abbrev s_law_tried : Stmt := top 56
abbrev s_law_are_lots : Stmt := top 57
abbrev s_law_refuses : Stmt := top 58
abbrev s_law_four : Stmt := top 59
abbrev s_law_many_pairs : Stmt := top 60
abbrev s_law : Stmt := top 61
abbrev s_seats_init : Stmt := inClass (top 20) 0
abbrev s_many_init : Stmt := inClass (top 6) 0
abbrev FnP (K : PySem.W.Frag) (x : Str) (st : Stmt) (f : Addr) (fd : FuncData) : Prop := FunD K x x (defArgs st) (defBody st) (defScope st) [] [] f fd
def d_is_ascending : He.DefD := ⟨("is_ascending", none), "is_ascending", "is_ascending", defArgs s_is_ascending, defBody s_is_ascending, defScope s_is_ascending, [], []⟩
def d_is_marks : He.DefD := ⟨("is_marks", none), "is_marks", "is_marks", defArgs s_is_marks, defBody s_is_marks, defScope s_is_marks, [], []⟩
def d_is_kind : He.DefD := ⟨("is_kind", none), "is_kind", "is_kind", defArgs s_is_kind, defBody s_is_kind, defScope s_is_kind, [], []⟩
def d_is_lot : He.DefD := ⟨("is_lot", none), "is_lot", "is_lot", defArgs s_is_lot, defBody s_is_lot, defScope s_is_lot, [], []⟩
def d_check_same_marks : He.DefD := ⟨("check_same_marks", none), "check_same_marks", "check_same_marks", defArgs s_check_same_marks, defBody s_check_same_marks, defScope s_check_same_marks, [], []⟩
def d_all_kinds : He.DefD := ⟨("all_kinds", none), "all_kinds", "all_kinds", defArgs s_all_kinds, defBody s_all_kinds, defScope s_all_kinds, [], []⟩
def d_first_no_lot : He.DefD := ⟨("first_no_lot", none), "first_no_lot", "first_no_lot", defArgs s_first_no_lot, defBody s_first_no_lot, defScope s_first_no_lot, [], []⟩
def d_first_seat : He.DefD := ⟨("first_seat", none), "first_seat", "first_seat", defArgs s_first_seat, defBody s_first_seat, defScope s_first_seat, [], []⟩
def d_behind : He.DefD := ⟨("behind", none), "behind", "behind", defArgs s_behind, defBody s_behind, defScope s_behind, [], []⟩
def d_pair_behind : He.DefD := ⟨("pair_behind", none), "pair_behind", "pair_behind", defArgs s_pair_behind, defBody s_pair_behind, defScope s_pair_behind, [], []⟩
def d_start_of : He.DefD := ⟨("start_of", none), "start_of", "start_of", defArgs s_start_of, defBody s_start_of, defScope s_start_of, [], []⟩
def d_lead_of : He.DefD := ⟨("lead_of", none), "lead_of", "lead_of", defArgs s_lead_of, defBody s_lead_of, defScope s_lead_of, [], []⟩
def d_all_pairs : He.DefD := ⟨("all_pairs", none), "all_pairs", "all_pairs", defArgs s_all_pairs, defBody s_all_pairs, defScope s_all_pairs, [], []⟩
def d_row_of_fewer : He.DefD := ⟨("row_of_fewer", none), "row_of_fewer", "row_of_fewer", defArgs s_row_of_fewer, defBody s_row_of_fewer, defScope s_row_of_fewer, [], []⟩
def d_never_fewer : He.DefD := ⟨("never_fewer", none), "never_fewer", "never_fewer", defArgs s_never_fewer, defBody s_never_fewer, defScope s_never_fewer, [], []⟩
def d_check_lots : He.DefD := ⟨("check_lots", none), "check_lots", "check_lots", defArgs s_check_lots, defBody s_check_lots, defScope s_check_lots, [], []⟩
def d_tuples_of : He.DefD := ⟨("tuples_of", none), "tuples_of", "tuples_of", defArgs s_tuples_of, defBody s_tuples_of, defScope s_tuples_of, [], []⟩
def d_more_seats : He.DefD := ⟨("more_seats", none), "more_seats", "more_seats", defArgs s_more_seats, defBody s_more_seats, defScope s_more_seats, [], []⟩
def d_law_tape : He.DefD := ⟨("_law_tape", none), "_law_tape", "_law_tape", defArgs s_law_tape, defBody s_law_tape, defScope s_law_tape, [], []⟩
def d_law_pick : He.DefD := ⟨("_law_pick", none), "_law_pick", "_law_pick", defArgs s_law_pick, defBody s_law_pick, defScope s_law_pick, [], []⟩
def d_law_kinds : He.DefD := ⟨("_law_kinds", none), "_law_kinds", "_law_kinds", defArgs s_law_kinds, defBody s_law_kinds, defScope s_law_kinds, [], []⟩
def d_law_lot : He.DefD := ⟨("_law_lot", none), "_law_lot", "_law_lot", defArgs s_law_lot, defBody s_law_lot, defScope s_law_lot, [], []⟩
def d_law_lots : He.DefD := ⟨("_law_lots", none), "_law_lots", "_law_lots", defArgs s_law_lots, defBody s_law_lots, defScope s_law_lots, [], []⟩
def d_law_odd : He.DefD := ⟨("_law_odd", none), "_law_odd", "_law_odd", defArgs s_law_odd, defBody s_law_odd, defScope s_law_odd, [], []⟩
def d_law_is_up : He.DefD := ⟨("_law_is_up", none), "_law_is_up", "_law_is_up", defArgs s_law_is_up, defBody s_law_is_up, defScope s_law_is_up, [], []⟩
def d_law_is_kind : He.DefD := ⟨("_law_is_kind", none), "_law_is_kind", "_law_is_kind", defArgs s_law_is_kind, defBody s_law_is_kind, defScope s_law_is_kind, [], []⟩
def d_law_is_lot : He.DefD := ⟨("_law_is_lot", none), "_law_is_lot", "_law_is_lot", defArgs s_law_is_lot, defBody s_law_is_lot, defScope s_law_is_lot, [], []⟩
def d_law_behind : He.DefD := ⟨("_law_behind", none), "_law_behind", "_law_behind", defArgs s_law_behind, defBody s_law_behind, defScope s_law_behind, [], []⟩
def d_law_never_fewer : He.DefD := ⟨("_law_never_fewer", none), "_law_never_fewer", "_law_never_fewer", defArgs s_law_never_fewer, defBody s_law_never_fewer, defScope s_law_never_fewer, [], []⟩
def d_law_due : He.DefD := ⟨("_law_due", none), "_law_due", "_law_due", defArgs s_law_due, defBody s_law_due, defScope s_law_due, [], []⟩
def d_law_tried : He.DefD := ⟨("_law_tried", none), "_law_tried", "_law_tried", defArgs s_law_tried, defBody s_law_tried, defScope s_law_tried, [], []⟩
def d_law_are_lots : He.DefD := ⟨("_law_are_lots", none), "_law_are_lots", "_law_are_lots", defArgs s_law_are_lots, defBody s_law_are_lots, defScope s_law_are_lots, [], []⟩
def d_law_refuses : He.DefD := ⟨("_law_refuses", none), "_law_refuses", "_law_refuses", defArgs s_law_refuses, defBody s_law_refuses, defScope s_law_refuses, [], []⟩
def d_law_four : He.DefD := ⟨("_law_four", none), "_law_four", "_law_four", defArgs s_law_four, defBody s_law_four, defScope s_law_four, [], []⟩
def d_law_many_pairs : He.DefD := ⟨("_law_many_pairs", none), "_law_many_pairs", "_law_many_pairs", defArgs s_law_many_pairs, defBody s_law_many_pairs, defScope s_law_many_pairs, [], []⟩
def d_law : He.DefD := ⟨("law", none), "law", "law", defArgs s_law, defBody s_law, defScope s_law, [], []⟩
def d_seats_init : He.DefD := ⟨("Seats", some "__init__"), "__init__", "Seats.__init__", defArgs s_seats_init, defBody s_seats_init, defScope s_seats_init, [], []⟩
def d_many_init : He.DefD := ⟨("TooMany", some "__init__"), "__init__", "TooMany.__init__", defArgs s_many_init, defBody s_many_init, defScope s_many_init, [], []⟩
def fn : List He.DefD := [d_is_ascending, d_is_marks, d_is_kind, d_is_lot, d_check_same_marks, d_all_kinds, d_first_no_lot, d_first_seat, d_behind, d_pair_behind, d_start_of, d_lead_of, d_all_pairs, d_row_of_fewer, d_never_fewer, d_check_lots, d_tuples_of, d_more_seats, d_law_tape, d_law_pick, d_law_kinds, d_law_lot, d_law_lots, d_law_odd, d_law_is_up, d_law_is_kind, d_law_is_lot, d_law_behind, d_law_never_fewer, d_law_due, d_law_tried, d_law_are_lots, d_law_refuses, d_law_four, d_law_many_pairs, d_law, d_seats_init, d_many_init]
def fa1 : List He.Fa := [.glo "is_ascending", .glo "is_marks", .glo "is_kind", .glo "is_lot", .glo "check_same_marks", .glo "all_kinds", .glo "first_no_lot", .glo "first_seat", .glo "behind", .glo "pair_behind", .glo "start_of", .glo "lead_of", .glo "all_pairs", .glo "row_of_fewer", .glo "never_fewer", .glo "check_lots", .glo "tuples_of", .glo "more_seats", .glo "_law_tape", .glo "_law_pick", .glo "_law_kinds", .glo "_law_lot", .glo "_law_lots", .glo "_law_odd", .glo "_law_is_up", .glo "_law_is_kind", .glo "_law_is_lot", .glo "_law_behind", .glo "_law_never_fewer", .glo "_law_due", .glo "_law_tried", .glo "_law_are_lots", .glo "_law_refuses", .glo "_law_four", .glo "_law_many_pairs", .glo "law"]
def fa2 : List He.Fa := [.free "len", .free "range", .free "all", .free "isinstance", .free "str", .free "tuple", .free "list", .free "int", .free "sorted", .free "enumerate", .str "SMALL" "abcdefghijklmnopqrstuvwxyz", .int "MOST_MARKS" 5, .int "MOST_SEATS" 40, .int "MOST_PAIRS" 3000, .int "MOST_TOLD" 4, .int "MOST_MORE" 3,
  .glo "Seats", .cls "Seats", .mkr "Seats", .noat "Seats" "marks", .noat "Seats" "lots", .glo "SeatError", .glo "NoLot", .glo "NoLots", .glo "OtherMarks", .glo "TooMany", .exc "NoLots", .exc "OtherMarks", .exm "NoLots" "SeatError" true, .exm "OtherMarks" "SeatError" true, .exm "TooMany" "SeatError" true, .exm "TooMany" "TooMany" true]
def fa : List He.Fa := fa1 ++ fa2
def loose0 : List Str := [("__name__" : Str), ("SeatError" : Str), ("NoLot" : Str), ("NoLots" : Str), ("OtherMarks" : Str), ("BadSeats" : Str), ("TooMany" : Str), ("SMALL" : Str), ("MOST_MARKS" : Str), ("MOST_SEATS" : Str), ("is_ascending" : Str), ("is_marks" : Str), ("is_kind" : Str), ("is_lot" : Str), ("check_same_marks" : Str)]
def loose1 : List Str := [("all_kinds" : Str), ("first_no_lot" : Str), ("Seats" : Str), ("first_seat" : Str), ("MOST_PAIRS" : Str), ("behind" : Str), ("pair_behind" : Str), ("start_of" : Str), ("lead_of" : Str), ("all_pairs" : Str), ("row_of_fewer" : Str), ("never_fewer" : Str), ("MOST_TOLD" : Str), ("MOST_MORE" : Str), ("check_lots" : Str)]
def loose2 : List Str := [("tuples_of" : Str), ("more_seats" : Str), ("_law_tape" : Str), ("_law_pick" : Str), ("_law_kinds" : Str), ("_law_marks" : Str), ("_law_lot" : Str), ("_law_lots" : Str), ("_law_row" : Str), ("_law_odd" : Str), ("_law_is_int" : Str), ("_law_is_up" : Str), ("_law_is_marks" : Str), ("_law_is_kind" : Str), ("_law_is_lot" : Str)]
def loose3 : List Str := [("_law_is_row" : Str), ("_law_behind" : Str), ("_law_never_fewer" : Str), ("_law_due" : Str), ("_law_tried" : Str), ("_law_are_lots" : Str), ("_law_refuses" : Str), ("_law_four" : Str), ("_law_many_pairs" : Str)]
def loose : List Str := loose0 ++ loose1 ++ loose2 ++ loose3
end K15

/-! sorted of data; enumerate of a tuple; a tuple's reverse. -/
namespace K15
open PySem PySem.Spec PyProof.Rows L2 HT

section
variable {X : Cx}
theorem pickEach {K : Frag} {H : Hp} : ∀ {us : List Value} {ds : List PyData}, PySem.W.EachIs (fun (u : Value) (d : PyData) => ∃ x, RelV x u ∧ Dp K H x d) us ds → ∃ xs, Vals xs us ∧ DpAll K H xs ds
  | _, _, .nil => ⟨[], .nil, .nil⟩
  | _, _, .cons h t => by
    obtain ⟨x, h1, h2⟩ := h
    obtain ⟨xs, h3, h4⟩ := pickEach t
    exact ⟨x :: xs, .cons h1 h3, .cons h2 h4⟩
theorem eachPick {K : Frag} {H : Hp} : ∀ {xs : List V} {us : List Value} {ds : List PyData}, Vals xs us → DpAll K H xs ds → PySem.W.EachIs (fun (u : Value) (d : PyData) => ∃ x, RelV x u ∧ Dp K H x d) us ds
  | _, _, _, .nil, .nil => .nil
  | _, _, _, .cons r t, .cons h g => .cons ⟨_, r, h⟩ (eachPick t g)
theorem cr_sortD (hu : X.A.units + 64 < cLine) : CallR X (.builtin "sorted") (rSortD X.K) := by
  intro pins s σ H vs us Q I r h
  obtain ⟨v, ds, rfl, hd, hn, hl, h1, h2, h3, q⟩ := h
  obtain ⟨a, xs, rfl, hs, ha⟩ := dp_lst hd
  obtain ⟨its, rv, hl', _⟩ := I.list hs
  rw [Vals.ref1 r]
  have e := eachPick rv ha
  have er : PySem.W.EachIs (fun v b => ∃ as, Reads s.heap v (id b) as) its ds := e.mono fun u d ⟨x, g1, g2⟩ => Dp.reads I d x u g2 g1
  have hm : ds.map id = ds := List.map_id ds
  refine PySem.W.sorted_data (enc := id) hl'.isList e er (by rw [hm]; exact h1) (by rw [hm]; exact h2) (small1 hl) (fun d hd => by have := h3 d hd; show X.A.units + 2 + d.depth < cLine; omega) fun out ho g => ?_
  obtain ⟨zs, g1, g2⟩ := pickEach g
  obtain ⟨ep, he'⟩ := PyProof.Rows.sortedAll_at s.heap its out.toArray
  have hp := I.hok.fresh (Nat.le_succ s.heap.objs.size)
  have hlen : zs.length ≤ sizeLine := by rw [g1.length, ho]; exact small1 hl
  exact ⟨.ref _, upd H (s.heap.objs.size + 1) (.lst zs), I.laid (t' := s.toks) (fun _ _ => PyProof.Rows.sortedAll_old) (Nat.le_succ _) ⟨hlen, out, ep, g1, he'⟩, rfl, q _ _ (same_new hp) (dp_newL g2 hp)⟩
end

/-! ### enumerate of a tuple -/
theorem meets_enum1 {v : Value} {o : Obj} {H : Heap → Prop} (B : Begins v o H) :
    Meets (Builtin.«enumerate.__new__» ⟨[.type "enumerate", v], []⟩) (fun _ R s => H s.heap ∧
      R (.ok (.ret (.ref (s.heap.push o).objs.size))) { s with heap := (s.heap.push o).push { cls := .type "enumerate", data := .fields #[.none, .bool false, .ref s.heap.objs.size, rawInt 0, .none, .none] } }) :=
  .of_wp fun prog w A R s h => by
    obtain ⟨hp, g, d, tk, os⟩ := s
    obtain ⟨h1, h⟩ := h
    have hsub := sub_enumerate
    have q1 : ∀ {A' : Around} {E : Value → Shared → Prop} {Q : Value → Shared → Prop}, Q (.ref hp.objs.size) ⟨hp.push o, g, d, tk, os⟩ → wpAny (model prog w) A' (pyIter v) Q E ⟨hp, g, d, tk, os⟩ :=
      fun q => B.iter prog w _ _ ⟨hp, g, d, tk, os⟩ _ h1 q
    wp_walk using q1
    refine wpAny_stack_any fun st => wpAny_pure ?_
    split
    · rename_i c _ _ _ _ _
      cases (c == Value.type "enumerate")
      · wp_walk using q1
        exact ⟨_, rfl, h⟩
      · wp_walk using q1
        exact ⟨_, rfl, h⟩
    · wp_walk using q1
      exact ⟨_, rfl, h⟩
section
variable {prog : Program} {w : World} {A : Around} {E : Value → Shared → Prop} {s : Shared}
theorem enum_begins1 {v : Value} {o : Obj} {H : Heap → Prop} {Q : Value → Shared → Prop} (B : Begins v o H) (h1 : H s.heap)
    (h : ∀ h', IsEnum h' (s.heap.objs.size + 1) s.heap.objs.size 0 .none → h'.get? s.heap.objs.size = some o → (∀ b o, s.heap.get? b = some o → h'.get? b = some o) → Q (.ref (s.heap.objs.size + 1)) { s with heap := h' }) :
    wpAny (model prog w) A (call (.type "enumerate") [v]) Q E s := by
  refine callType_new PySem.F.called_enumerate (by decide) (PySem.F.typeCall_enumerate_1 _) (PySem.F.newCall_enumerate_1 _) (fun obj => PySem.F.args_object_init_2 obj _) PySem.F.entry_enumerate_new (meets_enum1 B) ⟨h1, ?_⟩
  have hz : (s.heap.push o).objs.size = s.heap.objs.size + 1 := Heap.size_push ..
  show _ ∧ _
  rw [hz]
  have he : IsEnum ((s.heap.push o).push { cls := .type "enumerate", data := .fields #[.none, .bool false, .ref s.heap.objs.size, rawInt 0, .none, .none] }) (s.heap.objs.size + 1) s.heap.objs.size 0 .none := by
    have q := Heap.get?_push_size (s.heap.push o) (o := { cls := .type "enumerate", data := .fields #[.none, .bool false, .ref s.heap.objs.size, rawInt 0, .none, .none] }) rfl
    rw [hz] at q
    exact q
  exact ⟨⟨_, he, rfl⟩, h _ he (Heap.get?_push_of_some _ (Heap.get?_push_size _ B.free)) fun b o x => Heap.get?_push_of_some _ (Heap.get?_push_of_some _ x)⟩
end
/-- the tuple at a, each item in a new pair -/
def ItE (K : Frag) (a : Addr) (n : Nat) : It :=
  ⟨fun i H => ∃ (xs : List V) (x : V), SqT K H a xs ∧ xs.length = n ∧ xs[i]? = some x, fun i H v H' => ∃ T x, v = .ref T ∧ H T = none ∧ H' = upd H T (.tup [.int (i : Nat), x]) ∧ ∀ xs, SqT K H a xs → xs[i]? = some x, fun i H => ∃ xs : List V, SqT K H a xs ∧ xs.length = n ∧ i = n⟩
theorem turn_enumT {P : Program} {w : World} {K : Frag} {elts : List Expr} {kk : Nat} {tpos : Pos} (a e it : Addr) (items : Array Value) (hai : a ≠ it) :
    Turn P w K (.Tuple elts kk tpos) (ItE K a items.size) [e, it] e (fun i h => (∃ old, IsEnum h e it ((i : Nat) : Int) old) ∧ h.IsTupleIter it a i ∧ e ≠ it ∧ e ≠ a ∧ ∀ h' : Heap, True) where
  mem := by simp
  obj := fun i h st b hb => by
    obtain ⟨⟨old, he⟩, ⟨o, ho, hc, hd⟩, _⟩ := st
    have e' : b = e ∨ b = it := by simpa using hb
    rcases e' with z | z
    · rw [z]
      exact ⟨_, he, fun v q => nomatch q⟩
    · rw [z]
      exact ⟨o, ho, fun v q => by rw [hd] at q; cases q⟩
  keep := fun i h h' st k => let ⟨⟨old, he⟩, hi, hne⟩ := st; ⟨⟨old, k e (by simp) _ he⟩, hi.at fun o q => k it (by simp) o q, hne⟩
  item := by
    intro X hP hw hK hc i pins s σ H E I hf st hg
    subst hP hw hK
    obtain ⟨⟨old, he⟩, hit, hne, hea, _⟩ := st
    obtain ⟨xs, x, hq, hn, hx⟩ := hg
    obtain ⟨its, rv, p, hz⟩ := I.tuple hq
    obtain ⟨u, hu, ru⟩ := rv.get hx
    have hel : e < s.heap.objs.size := Heap.lt_size he
    have hil : it < s.heap.objs.size := by
      obtain ⟨_, q, _⟩ := hit
      exact Heap.lt_size q
    have hlt : i < its.toArray.size := by
      have := (List.getElem?_eq_some_iff.mp hu).1
      simpa using this
    refine wpAny_pyNext_enum_itemD (Draws.tuple (A := X.A.in1) (I.ok.hd hc) it a hai its.toArray) he ⟨hit, (show s.heap.IsTuple a its.toArray from p)⟩ hlt hne (by simp [hne, hea]) fun y h' tk hy ho hs' hT hsz hk => ?_
    have ey : y = u := by
      have e1 : its.toArray[i]? = some u := by simpa using hu
      rw [e1] at hy
      exact (Option.some.inj hy).symm
    subst ey
    refine ⟨_, rfl, wpAny_letOwnedTupleGo_enum (s := { s with heap := h', toks := tk + 1 }) ho fun h'' he' sb => ?_⟩
    have hT2 : h''.get? s.heap.objs.size = some { cls := .type "tuple", data := .seq #[.int i tk, y] } := (sb.2 _ (Nat.ne_of_gt hel)).trans hT
    have new : ObjOk X.prog X.w (upd H s.heap.objs.size (.tup [.int (i : Nat), x])) h'' s.heap.objs.size (.tup [.int (i : Nat), x]) :=
      ⟨by show 2 ≤ sizeLine; decide, [.int i tk, y], .cons ⟨_, rfl⟩ (.cons ru .nil), ⟨_, hT2, rfl, _, rfl⟩⟩
    have I1 : Inv X pins σ (upd H s.heap.objs.size (.tup [.int (i : Nat), x])) { s with heap := h'', toks := tk + 1 } :=
      I.turnedNew (ch := [e, it]) (fun b ob hb q => (sb.2 b (fun z => hb (by simp [z]))).trans (hk b ob (fun z => hb (by simp [z])) (fun z => hb (by simp [z])) q)) hf (Nat.le_refl _) new
    refine ⟨.ref s.heap.objs.size, _, I1, rfl, ⟨_, x, rfl, I.hok.fresh (Nat.le_refl _), rfl, fun ys hy => by rw [I.tuple_inj hy hq]; exact hx⟩, ⟨⟨y, ?_⟩, hs'.1.at fun o q => (sb.2 it (Ne.symm hne)).trans q, hne, hea, fun _ => trivial⟩, fun b hb => ?_⟩
    · have e1 : ((i + 1 : Nat) : Int) = (i : Int) + 1 := by omega
      rw [e1]
      exact he'
    · have hb' : b < s.heap.objs.size := by
        have e' : b = e ∨ b = it := by simpa using hb
        rcases e' with z | z
        · rw [z]
          exact hel
        · rw [z]
          exact hil
      rw [upd_ne (Nat.ne_of_lt hb')]
      exact (hf b hb).1
  done := by
    intro X hP hw hK hc i pins s σ H E I hf st hg
    subst hP hw hK
    obtain ⟨⟨old, he⟩, hit, hne, hea, _⟩ := st
    obtain ⟨xs, hq, hn, hx⟩ := hg
    obtain ⟨its, rv, p, hz⟩ := I.tuple hq
    obtain ⟨f0, f1, f2, f3, f4, f5⟩ := hf it (by simp)
    have hl := rv.length
    have hsz : its.toArray.size = i := by
      rw [List.size_toArray, ← hl]
      omega
    have hit2 : s.heap.IsTupleIter it a its.toArray.size := by rw [hsz]; exact hit
    exact wpAny_pyNext_enum_endD (Draws.tuple (A := X.A.in1) (I.ok.hd hc) it a hai its.toArray) he ⟨hit2, (show s.heap.IsTuple a its.toArray from p)⟩ fun h' eb => ⟨rfl, I.turned (t' := s.toks) (fun b o hb q => eb b o hb q) f0 f1 f3 f4 f5⟩
  self := fun A i s Q E st h => let ⟨⟨_, he⟩, _⟩ := st; wpAny_pyIter_enum he h
def iEnumT (K : Frag) (ta : TA) : TI := fun σ H R => ta σ H fun vs H1 => ∃ a xs, vs = [.ref a] ∧ SqT K H1 a xs ∧ R (ItE K a xs.length) H1
theorem pi_enumT {X : Cx} {e : Expr} {ta : TA} {p pos tpos : Pos} {elts : List Expr} {kk : Nat} (hg : Gl X "enumerate") (hm : X.mg "enumerate" = none) (ha : PA X [e] ta) (hs : starEach [e] X.env = [(false, eval e X.env)] := by rfl) :
    PI X (.Tuple elts kk tpos) (.Call (.Name "enumerate" p) [e] [] pos) (iEnumT X.K ta) := by
  refine ⟨fun pins s σ H R I h => ?_⟩
  refine Call_ (ld_blt I hg hm boot_enumerate (PyProof.Rows.callWith_type1 (thn (ha.run pos pins s σ H _ I h) fun us s1 ⟨vs, H1, I1, r1, q1⟩ => ?_) hs rfl))
  obtain ⟨a, xs, ex, hq, q⟩ := q1
  subst ex
  cases r1 with
  | cons r rr =>
    cases rr
    cases r
    obtain ⟨its, rv, p', hz⟩ := I1.tuple hq
    have hl := rv.length
    have hal : a < s1.heap.objs.size := by
      obtain ⟨o, g, _⟩ := p'
      exact Heap.lt_size g
    refine enum_begins1 (begins_tuple a its.toArray) (show s1.heap.IsTuple a its.toArray from p') fun h' he hit hk => wpAny_pyIter_enum he ?_
    have I2 : Inv X pins σ H1 { s1 with heap := h' } := I1.kept (t' := s1.toks) hk
    have hsz : its.toArray.size = xs.length := by rw [List.size_toArray, hl]
    rw [← hsz] at q
    refine ⟨s1.heap.objs.size + 1, [s1.heap.objs.size + 1, s1.heap.objs.size], _, _, H1, rfl, I2, turn_enumT a (s1.heap.objs.size + 1) s1.heap.objs.size its.toArray (Nat.ne_of_lt hal), ⟨⟨.none, he⟩, ⟨_, hit, rfl, rfl⟩, Nat.succ_ne_self _, Ne.symm (Nat.ne_of_lt (Nat.lt_succ_of_lt hal)), fun _ => trivial⟩, fun b hb => ?_, q⟩
    have e' : b = s1.heap.objs.size + 1 ∨ b = s1.heap.objs.size := by simpa using hb
    have hle : s1.heap.objs.size ≤ b := by
      rcases e' with z | z
      · rw [z]
        exact Nat.le_add_right _ _
      · rw [z]
        exact Nat.le_refl _
    exact I1.fpOk hle (I1.hok.fresh hle)
theorem walk_enumT {K : Frag} {a : Addr} {xs : List V} : Walk (ItE K a xs.length) xs.length (fun H => SqT K H a xs) (YPair (fun i => some (.int (i : Nat))) (fun i => xs[i]?)) := by
  refine ⟨fun i _ hi q => ⟨xs, xs[i], q, rfl, by simp [hi]⟩, fun _ q => ⟨xs, q, rfl, rfl⟩, fun i H v H' _ q y => ?_⟩
  obtain ⟨T, x, h1, h2, h3, h4⟩ := y
  exact ⟨T, .int (i : Nat), x, h1, h2, h3, rfl, h4 xs q⟩

/-! ### a tuple's reverse -/
theorem places_rev (n : Nat) : Builtin.Slice.slicePlaces ((n : Int) - 1) (-1) (-1) = n := by
  unfold Builtin.Slice.slicePlaces
  have h1 : ¬ ((-1 : Int) > 0) := by decide
  simp only [h1, if_false]
  by_cases h : (n : Int) - 1 > -1
  · rw [if_pos h, show (- -1 : Int) = 1 by decide, Int.ediv_one]
    omega
  · rw [if_neg h]
    omega
theorem pick_rev (xs : Array Value) : ((List.range xs.size).filterMap fun (m : Nat) => xs[((xs.size : Int) - 1 + (m : Int) * (-1)).toNat]?) = xs.toList.reverse := by
  have e : (List.range xs.size).filterMap (fun (m : Nat) => xs[((xs.size : Int) - 1 + (m : Int) * (-1)).toNat]?) = ((List.range xs.size).map fun k => xs.size - 1 - k).filterMap (xs[·]?) := by
    rw [List.filterMap_map]
    congr 1
    funext m
    show xs[((xs.size : Int) - 1 + (m : Int) * (-1)).toNat]? = xs[xs.size - 1 - m]?
    congr 1
    omega
  rw [e, PySem.W.krv_range, List.filterMap_reverse, PySem.W.krv_all]
section
variable {prog : Program} {w : World} {A : Around} {E : Value → Shared → Prop} {s : Shared}
theorem sliceApplied_rev {sl : Addr} {vl vu vs : Value} {n : Nat} {Q : Int × Int × Nat → Shared → Prop} (hs : s.heap.IsSliceOf sl vl vu vs) (pl : IsPart vl none) (pu : IsPart vu none) (ps : IsPart vs (some (-1)))
    (h : Q ((n : Int) - 1, -1, n) s) : wpAny (model prog w) A (Builtin.Slice.sliceApplied (.ref sl) (pure (n : Int))) Q E s := by
  obtain ⟨os, hos, hcs, hds⟩ := id hs
  unfold Builtin.Slice.sliceApplied Builtin.Slice.sliceFields
  refine wpAny_bind (wpAny_bind (wpAny_field hos hds (x := vl) rfl (wpAny_bind (wpAny_field hos hds (x := vu) rfl (wpAny_bind (wpAny_field hos hds (x := vs) rfl (wpAny_pure ?_)))))))
  refine wpAny_bind (slicePart_ ps ?_)
  show wpAny _ _ (if ((-1 : Int) == 0) = true then _ else _) _ _ s
  rw [if_neg (by decide)]
  refine wpAny_bind (slicePart_ pl (wpAny_bind (slicePart_ pu (wpAny_bind (wpAny_pure ?_)))))
  show wpAny _ _ (pure ((n : Int) - 1, (-1 : Int), Builtin.Slice.slicePlaces ((n : Int) - 1) (-1) (-1))) _ _ s
  rw [places_rev]
  exact wpAny_pure h
theorem getItem_tuple_rev {t sl : Addr} {items : Array Value} {vl vu vs : Value} {Q : Value → Shared → Prop} (ht : IsTup s.heap t items) (hs : s.heap.IsSliceOf sl vl vu vs) (pl : IsPart vl none) (pu : IsPart vu none) (ps : IsPart vs (some (-1)))
    (h : Q (.ref s.heap.objs.size) { s with heap := s.heap.push { cls := .type "tuple", data := .seq items.toList.reverse.toArray } })
    (hsz : items.size ≤ sizeLine) : wpAny (model prog w) A (getItem (.ref t) (.ref sl)) Q E s := by
  have htake : sizeOk (.seq items.toList.reverse.toArray) := by
    show items.toList.reverse.toArray.size ≤ sizeLine
    rw [List.size_toArray, List.length_reverse, Array.length_toList]
    exact hsz
  obtain ⟨os, hos, hcs, hds⟩ := id hs
  have hTs : s.TypeIs (.ref sl) "slice" := ⟨os, hos, hcs⟩
  unfold getItem
  try with_reducible refine wpAny_holding ?_
  first | refine wpAny_bind (wpAny_pure ?_) | skip
  refine wpAny_bind (wpAny_sequenceKey ht.typeIs (by decide) ?_)
  refine wpAny_bind (wpAny_callSpecial?_slot (name := Str.ofString "__getitem__") ht.typeIs PyProof.Rows.slot_tuple_getitem
    (wpAny_call_entry PyProof.Rows.slot_tuple_getitem ht.typeIs entry_tuple_getitem ?_ (args_tuple_getitem _ _)))
  show wpAny _ _ (Builtin.Tuple.tupleItemsOf (.ref t) >>= _) _ _ s
  refine wpAny_bind (tupleItemsOf_ ht ?_)
  refine wpAny_bind (wpAny_typeOf hTs ?_)
  rw [if_pos (by decide)]
  refine wpAny_bind (sliceApplied_rev hs pl pu ps ?_)
  have hno : ¬ (((items.size : Int) - 1 == 0 && (-1 : Int) == 1 && items.size == items.size) = true) := by
    intro q
    rw [Bool.and_eq_true, Bool.and_eq_true] at q
    exact absurd q.1.2 (by decide)
  show wpAny _ _ (if ((items.size : Int) - 1 == 0 && (-1 : Int) == 1 && items.size == items.size) = true then _ else _) _ _ s
  rw [if_neg hno, pick_rev]
  first
    | exact wpAny_bind (m := Builtin.Tuple.tupleExact _) (wpAny_newObj_type (wpAny_pure ⟨_, rfl, wpAny_pure h⟩) htake)
    | exact wpAny_bind (m := Builtin.Tuple.tupleExact _) (wpAny_newObj_type (wpAny_bind (wpAny_pure (wpAny_pure ⟨_, rfl, wpAny_pure h⟩))) htake)
    | exact wpAny_bind (wpAny_bind (m := Builtin.Tuple.tupleExact _) (wpAny_newObj_type (wpAny_pure (wpAny_pure ⟨_, rfl, wpAny_pure h⟩)) htake))
    | exact wpAny_bind (wpAny_bind (m := Builtin.Tuple.tupleExact _) (wpAny_newObj_type (wpAny_pure ⟨_, rfl, wpAny_pure h⟩) htake))
end
def tRevT (K : Frag) (te : TE) : TE := fun σ H Q => te σ H fun x H1 => ∃ a xs, x = .ref a ∧ SqT K H1 a xs ∧ ∀ p, H1 p = none → Q (.ref p) (upd H1 p (.tup xs.reverse))
theorem pe_revT {X : Cx} {e : Expr} {te : TE} {k : Nat} {p1 p2 p3 pos : Pos} (he : PE X e te) : PE X (.Subscript e (.Slice none none (some (.UnaryOp .USub (.Constant (.int 1) k p1) p2)) p3) pos) (tRevT X.K te) := by
  refine ⟨fun pins s σ H Q I h => ?_⟩
  refine Subscript_ (thn (he.run pins s σ H _ I h) fun v s1 ⟨x, H1, I1, r1, q1⟩ => ?_)
  obtain ⟨a, xs, ex, hx, q⟩ := q1
  subst ex
  cases r1
  have hst : PO X (some (.UnaryOp .USub (.Constant (.int 1) k p1) p2)) (tPart (tUn (rU fun i => .int (-i)) (tC (.int 1)))) := po_some (pe_un un_neg pe_int)
  refine wpAny_Slice (thn (po_none.run pins s1 σ H1 (fun o H2 => o = none ∧ H2 = H1) I1 ⟨rfl, rfl⟩) fun vl s2 ⟨l, H2, I2, pl, el, e2⟩ => ?_)
  subst el e2
  refine thn (po_none.run pins s2 σ H2 (fun o H3 => o = none ∧ H3 = H2) I2 ⟨rfl, rfl⟩) fun vu s3 ⟨u, H3, I3, pu, eu, e3⟩ => ?_
  subst eu e3
  refine thn (hst.run pins s3 σ H3 (fun o H4 => o = some (-1) ∧ H4 = H3) I3 ⟨1, rfl, -1, rfl, rfl, rfl⟩) fun vs s4 ⟨o, H4, I4, ps, eo, e4⟩ => ?_
  subst eo e4
  have I5 : Inv X pins σ H4 { s4 with heap := s4.heap.push { cls := .type "slice", data := .fields #[vl, vu, vs] } } := I4.kept (t' := s4.toks) fun b ob q => Heap.get?_push_of_some _ q
  obtain ⟨its, r, ht, hz⟩ := I5.tuple hx
  have hlen := r.length
  show wpAny (model X.prog X.w) X.A (subscriptTail e (.Slice none none (some (.UnaryOp .USub (.Constant (.int 1) k p1) p2)) p3) (.ref a) (.ref s4.heap.objs.size)) (EP X pins σ Q) X.xe { s4 with heap := s4.heap.push { cls := .type "slice", data := .fields #[vl, vu, vs] } }
  refine tail_any (ops := [.ref a, .ref s4.heap.objs.size]) ht.typeIs PyProof.Rows.slot_tuple_getitem.lookup ?_ (by with_unfolding_all rfl)
  refine getItem_tuple_rev ht (Heap.IsSliceOf.new _ vl vu vs) pl pu ps ?_ (by rw [List.size_toArray]; omega)
  refine ⟨.ref _, _, I5.laid (t' := s4.toks) (o := .tup xs.reverse) (fun b ob q => Heap.get?_push_of_some _ q) (Nat.le_refl _) ?_, rfl, q _ (I5.hok.fresh (Nat.le_refl _))⟩
  exact ⟨by rw [List.length_reverse]; exact hz, _, r.reverse, IsTup.new _ _⟩
end K15

/-! The checks: what is ascending, marks, a kind, a lot. -/
namespace K15
open PySem PySem.Spec PyProof.Rows L2

/-! ### how defs stand, how they are called -/
abbrev Mg := Str → Option Value
structure Blt (mg : Mg) : Prop where
  len : mg "len" = none
  range : mg "range" = none
  all : mg "all" = none
  isinstance : mg "isinstance" = none
  str : mg "str" = none
  tuple : mg "tuple" = none
  list : mg "list" = none
  int : mg "int" = none
  sorted : mg "sorted" = none
  enumerate : mg "enumerate" = none
def DefAt (K : Frag) (mg : Mg) (x : Str) (st : Stmt) (ps : List Str) : Prop := ∃ f fd, FnP K x st f fd ∧ mg x = some (.ref f) ∧ Binds K fd ps []
def Has (P : Program) (w : World) (K : Frag) (mg : Mg) (base : Heap) (CX : CXT) (k : Nat) (x : Str) (ps : List Str) (sp : Sp) : Prop :=
  ∃ f fd, FnOk P w K mg base CX k f fd ps sp ∧ mg x = some (.ref f) ∧ PySem.W.keepIn K (.ref f) = true ∧ Binds K fd ps []
theorem room9 {A : Around} {k : Nat} (h : Room k A) : A.units + 9 < cLine := by
  have := h.un
  omega
theorem room65 {A : Around} {k : Nat} (h : Room k A) : A.units + 65 < cLine := by
  have := h.un
  omega

/-! ### what the checks say -/
/-- items that can be ordered -/
def Cmp (xs : List PyData) : Prop := PySem.W.AllAlike xs ∧ ∀ d ∈ xs, d ≠ .none ∧ d.depth ≤ 60
def ascD (xs : List PyData) : Bool := (List.range (xs.length - 1)).all fun i => PySem.W.dataLt (xs.getD i .none) (xs.getD (i + 1) .none)
def signs (z : Str) : List PyData := z.cps.toList.map fun c => .str ⟨#[c]⟩
def headC : PyData → Nat
  | .str z => z.cps.getD 0 0
  | _ => 0
def kindB (m z : Str) : Bool := z.cps.toList.all (fun c => decide (c ∈ m.cps.toList)) && ascD (signs z)
def kindD (m : Str) : PyData → Bool
  | .str z => kindB m z
  | _ => false
def lotD (m : Str) : PyData → Bool
  | .tuple xs => !xs.isEmpty && (xs.all (kindD m) && ascD xs)
  | _ => false
def lotsD (m : Str) : PyData → Bool
  | .tuple xs => decide (1 ≤ xs.length) && decide (xs.length ≤ 4) && (xs.all (lotD m) && ascD xs)
  | _ => false
def SMALL : Str := "abcdefghijklmnopqrstuvwxyz"
def marksB (z : Str) : Bool := decide (z.length ≤ 5) && kindB SMALL z
def marksD : PyData → Bool
  | .str z => marksB z
  | _ => false
theorem strs_cmp {xs : List PyData} (h : ∀ d ∈ xs, ∃ z, d = .str z) : Cmp xs := by
  refine ⟨fun d hd e he => ?_, fun d hd => ?_⟩
  · obtain ⟨a, rfl⟩ := h d hd
    obtain ⟨b, rfl⟩ := h e he
    simp [PySem.W.alike]
  · obtain ⟨a, rfl⟩ := h d hd
    exact ⟨(fun z => nomatch z), by simp [PyData.depth]⟩
theorem signs_cmp (z : Str) : Cmp (signs z) := strs_cmp fun d hd => by
  obtain ⟨c, _, e⟩ := List.mem_map.mp hd
  exact ⟨_, e.symm⟩
theorem strs_alike : ∀ {xs ys : List PyData}, (∀ d ∈ xs, ∃ z, d = .str z) → (∀ d ∈ ys, ∃ z, d = .str z) → PySem.W.alikeAll xs ys = true
  | [], _, _, _ => by simp [PySem.W.alikeAll]
  | _ :: _, [], _, _ => by simp [PySem.W.alikeAll]
  | x :: xs, y :: ys, h1, h2 => by
    obtain ⟨a, rfl⟩ := h1 x List.mem_cons_self
    obtain ⟨b, rfl⟩ := h2 y List.mem_cons_self
    rw [PySem.W.alikeAll, strs_alike (fun d hd => h1 d (List.mem_cons_of_mem _ hd)) (fun d hd => h2 d (List.mem_cons_of_mem _ hd))]
    simp [PySem.W.alike]
theorem strs_depth : ∀ {xs : List PyData}, (∀ d ∈ xs, ∃ z, d = .str z) → PyData.depthAll xs = 0
  | [], _ => by simp [PyData.depthAll]
  | x :: xs, h => by
    obtain ⟨a, rfl⟩ := h x List.mem_cons_self
    rw [PyData.depthAll, strs_depth fun d hd => h d (List.mem_cons_of_mem _ hd)]
    simp [PyData.depth]
theorem kinds_strs {m : Str} {xs : List PyData} (h : xs.all (kindD m) = true) : ∀ d ∈ xs, ∃ z, d = .str z := fun d hd => by
  have q := List.all_eq_true.mp h d hd
  cases d with
  | str z => exact ⟨z, rfl⟩
  | none => cases q
  | bool b => cases q
  | int b => cases q
  | list b => cases q
  | tuple b => cases q
  | dict b => cases q
theorem kinds_cmp {m : Str} {xs : List PyData} (h : xs.all (kindD m) = true) : Cmp xs := strs_cmp (kinds_strs h)
theorem lots_tups {m : Str} {xs : List PyData} (h : xs.all (lotD m) = true) : ∀ d ∈ xs, ∃ ys, d = .tuple ys ∧ ∀ e ∈ ys, ∃ z, e = .str z := fun d hd => by
  have q := List.all_eq_true.mp h d hd
  cases d with
  | tuple ys =>
    refine ⟨ys, rfl, ?_⟩
    simp only [lotD, Bool.and_eq_true] at q
    exact kinds_strs q.2.1
  | none => cases q
  | bool b => cases q
  | int b => cases q
  | list b => cases q
  | str b => cases q
  | dict b => cases q
theorem lots_cmp {m : Str} {xs : List PyData} (h : xs.all (lotD m) = true) : Cmp xs := by
  refine ⟨fun d hd e he => ?_, fun d hd => ?_⟩
  · obtain ⟨a, rfl, ha⟩ := lots_tups h d hd
    obtain ⟨b, rfl, hb⟩ := lots_tups h e he
    simp only [PySem.W.alike]
    exact strs_alike ha hb
  · obtain ⟨a, rfl, ha⟩ := lots_tups h d hd
    refine ⟨(fun z => nomatch z), ?_⟩
    rw [PyData.depth, strs_depth ha]
    decide
theorem short_items {d : PyData} {xs : List PyData} (hx : itemsD d = some xs) (hs : short d = true) : xs.length ≤ 1000 := by
  cases d with
  | str z =>
    have e : signs z = xs := Option.some.inj hx
    rw [← e]
    have q := of_decide_eq_true hs
    simpa [signs, Str.length] using q
  | list ys =>
    have e : ys = xs := Option.some.inj hx
    subst e
    simp only [short, Bool.and_eq_true, decide_eq_true_eq] at hs
    exact hs.1
  | tuple ys =>
    have e : ys = xs := Option.some.inj hx
    subst e
    simp only [short, Bool.and_eq_true, decide_eq_true_eq] at hs
    exact hs.1
  | none => cases hx
  | bool b => cases hx
  | int b => cases hx
  | dict b => cases hx
theorem short_mem {xs : List PyData} (hs : short (.tuple xs) = true) : ∀ d ∈ xs, short d = true := by
  simp only [short, Bool.and_eq_true] at hs
  exact shorts_mem hs.2
/-- the turns' comparison, by the int that the turn has -/
def stepLt (xs : List PyData) : PyData → Bool
  | .int i => PySem.W.dataLt (xs.getD (i.toNat - 1) .none) (xs.getD i.toNat .none)
  | _ => false
theorem asc_all (xs : List PyData) : ((List.range ((xs.length : Int) - 1).toNat).map fun i => PyData.int (1 + (i : Nat))).all (stepLt xs) = ascD xs := by
  unfold ascD
  rw [List.all_map]
  have e : ((xs.length : Int) - 1).toNat = xs.length - 1 := by omega
  rw [e]
  congr 1
  funext i
  show PySem.W.dataLt (xs.getD ((1 + (i : Int)).toNat - 1) .none) (xs.getD (1 + (i : Int)).toNat .none) = _
  have e1 : (1 + (i : Int)).toNat - 1 = i := by omega
  have e2 : (1 + (i : Int)).toNat = i + 1 := by omega
  rw [e1, e2]
theorem at_getD {xs : List PyData} {i : Nat} (h : i < xs.length) : atI xs (i : Nat) = some (xs.getD i .none) := by
  rw [List.getD_eq_getElem?_getD, List.getElem?_eq_getElem h]
  exact atI_nat (List.getElem?_eq_getElem h)

theorem yd_alls {K : Frag} {σ : St} {H : Hp} {ta : TE} {p : PyData → Bool} {ds : List PyData} {r : List V → Hp → VK → Prop} (hr : r = rAll K) (ha : Yd K ta σ H (.list (ds.map fun d => .bool (p d)))) : Yd K (tCB r (tCons ta tNil)) σ H (.bool (ds.all p)) := by
  have h := yd_all (bs := ds.map p) hr (ha.is (by rw [List.map_map]; rfl))
  rw [List.all_map] at h
  exact h
/-- len([.. if p]) == 0 -/
theorem yd_nones {K : Frag} {σ : St} {H : Hp} {ta : TE} {p : PyData → Bool} {f : PyData → PyData} {ds : List PyData} {r : List V → Hp → VK → Prop} (hr : r = fun xs H Q => ∃ x n, xs = [x] ∧ LenV K x H n ∧ Q (.int (n : Nat)) H)
    (ha : Yd K ta σ H (.list ((ds.filter p).map f))) : Yd K (tOp rEq (tCB r (tCons ta tNil)) (tC (.int 0))) σ H (.bool (ds.all fun d => !p d)) := by
  subst hr
  have h : Yd K (tCB (fun xs H Q => ∃ x n, xs = [x] ∧ LenV K x H n ∧ Q (.int (n : Nat)) H) (tCons ta tNil)) σ H (.int (((ds.filter p).map f).length : Nat)) := fun H1 s Q q => ha H1 s _ fun v H2 s2 hv => by
    obtain ⟨a, vs, rfl, h1, h2⟩ := dp_lst hv
    exact ⟨_, _, rfl, .inl ⟨vs, h1, (dps_len h2).symm⟩, q _ H2 s2 (.int _)⟩
  refine (yd_eqI h yd_int).is ?_
  congr 1
  rw [List.length_map]
  by_cases e : ds.all (fun d => !p d) = true
  · rw [e]
    have e2 : ds.filter p = [] := List.filter_eq_nil_iff.mpr fun d hd => by
      have := List.all_eq_true.mp e d hd
      simpa using this
    rw [e2]
    rfl
  · rw [Bool.not_eq_true] at e
    rw [e]
    refine decide_eq_false fun z => ?_
    have e2 : ds.filter p = [] := List.eq_nil_of_length_eq_zero (by omega)
    rw [List.filter_eq_nil_iff] at e2
    have : ds.all (fun d => !p d) = true := List.all_eq_true.mpr fun d hd => by
      have := e2 d hd
      simpa using this
    rw [this] at e
    cases e

section
variable {P : Program} {w : World} {K : Frag} {mg : Mg} {base : Heap}
/-- items[at - 1] < items[at], told by data -/
theorem y_step {σ : St} {H : Hp} {d : PyData} {xs : List PyData} {i : Nat} {va vb : Nat} {v w : V} (hx : itemsD d = some xs) (hs : short d = true) (hc : Cmp xs) (hi : i + 1 < xs.length) (hv : σ[va]? = some (some v)) (hd : Dp K H v d) (hw : σ[vb]? = some (some w)) (hwd : Dp K H w (.int (1 + (i : Nat)))) :
    Yd K (tOp (rLtD K) (tOp (rIx K) (tVar va) (tOp (rI0 fun i j => .int (i - j)) (tVar vb) (tC (.int 1)))) (tOp (rIx K) (tVar va) (tVar vb))) σ H (.bool (stepLt xs (.int (1 + (i : Nat))))) := by
  have e1 : ((1 : Int) + (i : Nat)) - 1 = ((i : Nat) : Int) := by omega
  have e2 : ((1 : Int) + (i : Nat)) = ((i + 1 : Nat) : Int) := by omega
  have h0 : i < xs.length := by omega
  have m0 : xs.getD i .none ∈ xs := by
    rw [List.getD_eq_getElem?_getD, List.getElem?_eq_getElem h0]
    exact List.getElem_mem h0
  have m1 : xs.getD (i + 1) .none ∈ xs := by
    rw [List.getD_eq_getElem?_getD, List.getElem?_eq_getElem hi]
    exact List.getElem_mem hi
  refine (yd_lt (d := xs.getD i .none) (e := xs.getD (i + 1) .none) (yd_ix hx hs (yd_var hv hd) (yd_sub (yd_var hw hwd) yd_int) ?_) (yd_ix hx hs (yd_var hv hd) (yd_var hw hwd) ?_) (hc.1 _ m0 _ m1) (hc.2 _ m0).1 (hc.2 _ m0).2).is ?_
  · rw [e1]
    exact at_getD h0
  · rw [e2]
    exact at_getD hi
  · rw [e2]
    rfl

/-! ### is_ascending -/
def R_asc (ds : List PyData) (r : PyData) : Prop := ∃ d xs, ds = [d] ∧ itemsD d = some xs ∧ short d = true ∧ Cmp xs ∧ r = .bool (ascD xs)
theorem sc_is_ascending : FnScope ["items", "at"] ["items"] (defScope s_is_ascending) := ⟨rfl, rfl, rfl, by decide +kernel, rfl, by decide +kernel, by decide +kernel⟩
theorem len_spD {R : List PyData → PyData → Prop} {n : Nat} {H : Hp} {Q : VK} {E : XK} {vs : List V} (hR : ∀ ds r, R ds r → ds.length = n) (h : spD K R vs H Q E) : vs.length = n := by
  obtain ⟨ds, r, hv, h, _⟩ := h
  rw [dps_len hv]
  exact hR ds r h
theorem ok_is_ascending (D : DefAt K mg "is_ascending" s_is_ascending ["items"]) (B : Blt mg) : Has P w K mg base CX0 1 "is_ascending" ["items"] (spD K R_asc) := by
  obtain ⟨f, fd, F, g, b⟩ := D
  refine ⟨f, fd, F.ok sc_is_ascending (fun vs H Q E h => len_spD (fun ds r ⟨d, xs, e, _⟩ => by rw [e]; rfl) h) (fun cdv A outer s H vs Q E hr h => ?_), g, F.kp, b⟩
  obtain ⟨ds, r, hv, ⟨d, xs, rfl, hx, hs, hc, rfl⟩, q⟩ := h
  cases hv with
  | cons hd hn =>
    cases hn
    refine ⟨_, pss_one (ps_ret (pe_callB (cr_all rfl) (by rfl) B.all PyProof.Rows.boot_all (pa_cons (pe_lc (own := [("at", 1)]) (g := gName 1) (tt := tYes) rfl sc_is_ascending.nd
      (pi_range2 (by rfl) B.range (pa_cons pe_int (pa_cons (pe_callB call_len (by rfl) B.len PySem.boot_len (pa_cons (pv 0) pa_nil)) pa_nil)))
      (blkOk_by (N := ["items", "at"]) (sc := defScope s_is_ascending) (by decide +kernel)) (fun _ _ _ _ _ => pg_name (i := 1) sc_is_ascending.nd rfl (Or.inl rfl)) (fun _ _ _ _ _ => pts_nil)
      (fun _ _ _ _ _ => pe_cmpR (r := rLtD K) (op_ltD hr.units) (pe_ix (r := rIx K) ix_seq (pv 0) (pe_op op_sub (pv 1) pe_int) (fun _ _ => rfl)) (pe_ix (r := rIx K) ix_seq (pv 0) (pv 1) (fun _ _ => rfl)) (nomark _))) pa_nil))), ?_⟩
    have hl := short_items hx hs
    refine y_ret ((yd_alls rfl (yd_lcm (f := fun d => .bool (stepLt xs d)) (ydi_rng2 (ya_cons yd_int (ya_cons (yd_len hx hs rfl (yd_var rfl hd)) ya_nil)) (by omega) (by omega)) ?_ (fun _ _ => rfl) (fun H2 v2 d2 s2 hm hd2 => ?_))).is ?_) fun v H1 s1 hv => q v H1 s1 hv
    · rw [List.length_map, List.length_range]
      omega
    · obtain ⟨i, hi, rfl⟩ := List.mem_map.mp hm
      have hi' := List.mem_range.mp hi
      exact y_step hx hs hc (by omega) rfl (dp_same s2 _ _ hd) rfl hd2
    · rw [asc_all]

/-! ### what is asked of a datum -/
def isStr : PyData → Bool
  | .str _ => true
  | _ => false
def isTup : PyData → Bool
  | .tuple _ => true
  | _ => false
theorem kit_str : ∀ d : PyData, kitB (tyD d) "str" = some (isStr d)
  | .none => (by decide +kernel : kitB "NoneType" "str" = some false)
  | .bool _ => (by decide +kernel : kitB "bool" "str" = some false)
  | .int _ => (by decide +kernel : kitB "int" "str" = some false)
  | .str _ => (by decide +kernel : kitB "str" "str" = some true)
  | .list _ => (by decide +kernel : kitB "list" "str" = some false)
  | .tuple _ => (by decide +kernel : kitB "tuple" "str" = some false)
  | .dict _ => (by decide +kernel : kitB "dict" "str" = some false)
theorem kit_tup : ∀ d : PyData, kitB (tyD d) "tuple" = some (isTup d)
  | .none => (by decide +kernel : kitB "NoneType" "tuple" = some false)
  | .bool _ => (by decide +kernel : kitB "bool" "tuple" = some false)
  | .int _ => (by decide +kernel : kitB "int" "tuple" = some false)
  | .str _ => (by decide +kernel : kitB "str" "tuple" = some false)
  | .list _ => (by decide +kernel : kitB "list" "tuple" = some false)
  | .tuple _ => (by decide +kernel : kitB "tuple" "tuple" = some true)
  | .dict _ => (by decide +kernel : kitB "dict" "tuple" = some false)
theorem is_str_of : ∀ {d : PyData}, isStr d = true → ∃ z, d = .str z
  | .str z, _ => ⟨z, rfl⟩
theorem is_tup_of : ∀ {d : PyData}, isTup d = true → ∃ z, d = .tuple z
  | .tuple z, _ => ⟨z, rfl⟩
theorem not_str_marks : ∀ {d : PyData}, isStr d = false → marksD d = false ∧ ∀ m, kindD m d = false
  | .none, _ => ⟨rfl, fun _ => rfl⟩
  | .bool _, _ => ⟨rfl, fun _ => rfl⟩
  | .int _, _ => ⟨rfl, fun _ => rfl⟩
  | .list _, _ => ⟨rfl, fun _ => rfl⟩
  | .tuple _, _ => ⟨rfl, fun _ => rfl⟩
  | .dict _, _ => ⟨rfl, fun _ => rfl⟩
theorem not_tup_lot : ∀ {d : PyData}, isTup d = false → (∀ m, lotD m d = false) ∧ ∀ m, lotsD m d = false
  | .none, _ => ⟨fun _ => rfl, fun _ => rfl⟩
  | .bool _, _ => ⟨fun _ => rfl, fun _ => rfl⟩
  | .int _, _ => ⟨fun _ => rfl, fun _ => rfl⟩
  | .list _, _ => ⟨fun _ => rfl, fun _ => rfl⟩
  | .str _, _ => ⟨fun _ => rfl, fun _ => rfl⟩
  | .dict _, _ => ⟨fun _ => rfl, fun _ => rfl⟩
theorem boot_str : bootBuiltins "str" = some (.type "str") := by decide +kernel
theorem boot_tuple : bootBuiltins "tuple" = some (.type "tuple") := by decide +kernel
def sgnIn (m : Str) (d : PyData) : Bool := decide (headC d ∈ m.cps.toList)
theorem signs_mem {z : Str} {d : PyData} (h : d ∈ signs z) : ∃ c, d = .str ⟨#[c]⟩ ∧ headC d = c := by
  obtain ⟨c, _, e⟩ := List.mem_map.mp h
  subst e
  exact ⟨c, rfl, rfl⟩
theorem signs_all (z m : Str) : (signs z).all (sgnIn m) = z.cps.toList.all fun c => decide (c ∈ m.cps.toList) := by
  unfold signs
  rw [List.all_map]
  rfl
theorem signs_len (z : Str) : (signs z).length = z.length := by simp [signs, Str.length]
theorem y_in {σ : St} {H : Hp} {i j : Nat} {v u : V} {m : Str} {d : PyData} {z : Str} (hm : d ∈ signs z) (hv : σ[i]? = some (some v)) (hd : Dp K H v d) (hu : σ[j]? = some (some u)) (hj : Dp K H u (.str m)) :
    Yd K (tOp (fun x y H Q => ∃ (c : Nat) (z : Str), x = .str ⟨#[c]⟩ ∧ y = .str z ∧ Q (.bl (decide (c ∈ z.cps.toList))) H) (tVar i) (tVar j)) σ H (.bool (sgnIn m d)) := by
  obtain ⟨c, rfl, hc⟩ := signs_mem hm
  exact (yd_inS rfl (yd_var hv hd) (yd_var hu hj)).is (by unfold sgnIn; rw [hc])
theorem y_inC {σ : St} {H : Hp} {i : Nat} {v : V} {m : Str} {d : PyData} {z : Str} (hm : d ∈ signs z) (hv : σ[i]? = some (some v)) (hd : Dp K H v d) :
    Yd K (tOp (fun x y H Q => ∃ (c : Nat) (z : Str), x = .str ⟨#[c]⟩ ∧ y = .str z ∧ Q (.bl (decide (c ∈ z.cps.toList))) H) (tVar i) (tC (.str m))) σ H (.bool (sgnIn m d)) := by
  obtain ⟨c, rfl, hc⟩ := signs_mem hm
  exact (yd_inS rfl (yd_var hv hd) yd_str).is (by unfold sgnIn; rw [hc])
theorem y_notin {σ : St} {H : Hp} {i j : Nat} {v u : V} {m : Str} {d : PyData} {z : Str} (hm : d ∈ signs z) (hv : σ[i]? = some (some v)) (hd : Dp K H v d) (hu : σ[j]? = some (some u)) (hj : Dp K H u (.str m)) :
    Yd K (tOp (fun x y H Q => ∃ (c : Nat) (z : Str), x = .str ⟨#[c]⟩ ∧ y = .str z ∧ Q (.bl (!decide (c ∈ z.cps.toList))) H) (tVar i) (tVar j)) σ H (.bool (!sgnIn m d)) := by
  obtain ⟨c, rfl, hc⟩ := signs_mem hm
  exact yd_op (yd_var hv hd) (yd_var hu hj) fun v w H1 _ hv hw Q q => ⟨c, m, dp_str hv, dp_str hw, by
    unfold sgnIn at q
    rw [hc] at q
    exact q _ H1 (Same.refl _) (.bl _)⟩
theorem signs_items (z : Str) : itemsD (.str z) = some (signs z) := rfl

/-! ### is_marks -/
def R_marks (ds : List PyData) (r : PyData) : Prop := ∃ d, ds = [d] ∧ short d = true ∧ r = .bool (marksD d)
theorem sc_is_marks : FnScope ["thing", "sign"] ["thing"] (defScope s_is_marks) := ⟨rfl, rfl, rfl, by decide +kernel, rfl, by decide +kernel, by decide +kernel⟩
theorem ok_is_marks (D : DefAt K mg "is_marks" s_is_marks ["thing"]) (B : Blt mg) (A1 : Has P w K mg base CX0 1 "is_ascending" ["items"] (spD K R_asc)) (tm : ∃ t, mg "MOST_MARKS" = some (.int 5 t)) (ts : ∃ t, mg "SMALL" = some (.str SMALL t)) :
    Has P w K mg base CX0 2 "is_marks" ["thing"] (spD K R_marks) := by
  obtain ⟨f, fd, F, g, b⟩ := D
  obtain ⟨f1, fd1, G1, g1, k1, b1⟩ := A1
  obtain ⟨tm, hm⟩ := tm
  obtain ⟨ts, hsm⟩ := ts
  refine ⟨f, fd, F.ok sc_is_marks (fun vs H Q E h => len_spD (fun ds r ⟨d, e, _⟩ => by rw [e]; rfl) h) (fun cdv A outer s H vs Q E hr h => ?_), g, F.kp, b⟩
  obtain ⟨ds, r, hv, ⟨d, rfl, hs, rfl⟩, q⟩ := h
  cases hv with
  | cons hd hn =>
    cases hn
    refine ⟨_, pss_cons (ps_if (PW.pt (pw_or (pt_not (pt_val (pe_callB call_isi (by rfl) B.isinstance PyProof.Rows.boot_isinstance (pa_cons (pv 0) (pa_cons (pe_bltn (v := .ty "str") (by rfl) B.str boot_str rfl) pa_nil)))))
        (pw_or1 (pt_cmpR op_gt (pe_callB call_len (by rfl) B.len PySem.boot_len (pa_cons (pv 0) pa_nil)) (pe_glob (v := .int 5) (by rfl) hm ⟨_, rfl⟩) (nomark _)))))
        (pss_one (ps_ret pe_bl)) pss_nil)
      (pss_one (ps_ret (pe_and (pe_callB (cr_all rfl) (by rfl) B.all PyProof.Rows.boot_all (pa_cons (pe_lc (own := [("sign", 1)]) (g := gName 1) (tt := tYes) rfl sc_is_marks.nd
        (pi_str (pv 0)) (blkOk_by (N := ["thing", "sign"]) (sc := defScope s_is_marks) (by decide +kernel)) (fun _ _ _ _ _ => pg_name (i := 1) sc_is_marks.nd rfl (Or.inl rfl)) (fun _ _ _ _ _ => pts_nil)
        (fun _ _ _ _ _ => pe_cmpR op_in_sign (pv 1) (pe_glob (v := .str SMALL) (by rfl) hsm ⟨_, rfl⟩) rfl)) pa_nil))
        (pe_one (pe_call G1 hr (by rfl) g1 k1 b1 .nil pass0 (pa_cons (pv 0) pa_nil)))))), ?_⟩
    cases hz : isStr d with
    | false =>
      refine y_if (b := true) ((yt_or (b := false) (yt_not (yt_B (yd_isi rfl (kit_str d) (yd_var rfl hd)))) (fun e => absurd e (by rw [hz]; decide))).is (by rw [hz]; rfl)) (fun _ H1 s1 => y_ret (K := K) yd_bl fun v H2 s2 hv => q v H2 (s1.trans s2) ?_) (fun e => nomatch e)
      rw [(not_str_marks hz).1]
      exact hv
    | true =>
      obtain ⟨z, rfl⟩ := is_str_of hz
      have hl : z.length ≤ 1000 := of_decide_eq_true hs
      refine y_if (yt_or (yt_not (yt_B (yd_isi rfl (kit_str (.str z)) (yd_var rfl hd)))) (fun _ => yt_test (yd_cmpI (yd_len (signs_items z) hs rfl (yd_var rfl hd)) yd_int))) (fun e H1 s1 => y_ret (K := K) yd_bl fun v H2 s2 hv => q v H2 (s1.trans s2) ?_) (fun e H1 s1 => ?_)
      · have e2 : 5 < z.length := by
          have e3 : (decide ((5 : Int) < ((signs z).length : Nat))) = true := by simpa [isStr] using e
          have := of_decide_eq_true e3
          rw [signs_len] at this
          omega
        have e4 : marksD (.str z) = false := by
          show (decide (z.length ≤ 5) && _) = false
          rw [decide_eq_false (by omega)]
          rfl
        rw [e4]
        exact hv
      · have e2 : z.length ≤ 5 := by
          have e3 : (decide ((5 : Int) < ((signs z).length : Nat))) = false := by simpa [isStr] using e
          have := of_decide_eq_false e3
          rw [signs_len] at this
          omega
        have hd1 := dp_same s1 _ _ hd
        refine y_ret ((yd_and (yd_alls (p := sgnIn SMALL) rfl (yd_lcm (f := fun d => .bool (sgnIn SMALL d)) (ydi_str (yd_var rfl hd1)) (by rw [← signs, signs_len]; exact hl) (fun _ _ => rfl) (fun H2 v2 d2 s2 hm hd2 => y_inC hm rfl hd2))) (fun _ => yd_call (ya_cons (yd_var rfl hd1) ya_nil) ⟨_, _, rfl, signs_items z, hs, signs_cmp z, rfl⟩)).is ?_) fun v H2 s2 hv => q v H2 (s1.trans s2) hv
        rw [← signs, signs_all]
        show _ = PyData.bool (decide (z.length ≤ 5) && _)
        rw [decide_eq_true e2]
        rfl
end
end K15

/-! A kind, a lot; the law's own checks. -/
namespace K15
open PySem PySem.Spec PyProof.Rows L2
section
variable {P : Program} {w : World} {K : Frag} {mg : Mg} {base : Heap}

/-! ### is_kind -/
def R_kind (ds : List PyData) (r : PyData) : Prop := ∃ m d, ds = [.str m, d] ∧ short d = true ∧ r = .bool (kindD m d)
theorem sc_is_kind : FnScope ["marks", "thing", "sign"] ["marks", "thing"] (defScope s_is_kind) := ⟨rfl, rfl, rfl, by decide +kernel, rfl, by decide +kernel, by decide +kernel⟩
theorem ok_is_kind (D : DefAt K mg "is_kind" s_is_kind ["marks", "thing"]) (B : Blt mg) (A1 : Has P w K mg base CX0 1 "is_ascending" ["items"] (spD K R_asc)) :
    Has P w K mg base CX0 2 "is_kind" ["marks", "thing"] (spD K R_kind) := by
  obtain ⟨f, fd, F, g, b⟩ := D
  obtain ⟨f1, fd1, G1, g1, k1, b1⟩ := A1
  refine ⟨f, fd, F.ok sc_is_kind (fun vs H Q E h => len_spD (fun ds r ⟨m, d, e, _⟩ => by rw [e]; rfl) h) (fun cdv A outer s H vs Q E hr h => ?_), g, F.kp, b⟩
  obtain ⟨ds, r, hv, ⟨m, d, rfl, hs, rfl⟩, q⟩ := h
  cases hv with
  | cons hm hn =>
    cases hn with
    | cons hd hn =>
      cases hn
      refine ⟨_, pss_one (ps_ret (pe_and (pe_callB call_isi (by rfl) B.isinstance PyProof.Rows.boot_isinstance (pa_cons (pv 1) (pa_cons (pe_bltn (v := .ty "str") (by rfl) B.str boot_str rfl) pa_nil)))
        (pe_and (pe_callB (cr_all rfl) (by rfl) B.all PyProof.Rows.boot_all (pa_cons (pe_lc (own := [("sign", 2)]) (g := gName 2) (tt := tYes) rfl sc_is_kind.nd
          (pi_str (pv 1)) (blkOk_by (N := ["marks", "thing", "sign"]) (sc := defScope s_is_kind) (by decide +kernel)) (fun _ _ _ _ _ => pg_name (i := 2) sc_is_kind.nd rfl (Or.inl rfl)) (fun _ _ _ _ _ => pts_nil)
          (fun _ _ _ _ _ => pe_cmpR op_in_sign (pv 2) (pv 0) rfl)) pa_nil))
        (pe_one (pe_call G1 hr (by rfl) g1 k1 b1 .nil pass0 (pa_cons (pv 1) pa_nil)))))), ?_⟩
      cases hz : isStr d with
      | false =>
        refine y_ret ((yd_and (b := false) (yd_isi rfl (kit_str d) (yd_var rfl hd)) (fun e => absurd e (by rw [hz]; decide))).is (by rw [hz, (not_str_marks hz).2]; rfl)) fun v H2 s2 hv => q v H2 s2 hv
      | true =>
        obtain ⟨z, rfl⟩ := is_str_of hz
        have hl : z.length ≤ 1000 := of_decide_eq_true hs
        refine y_ret ((yd_and (yd_isi rfl (kit_str (.str z)) (yd_var rfl hd)) fun _ => yd_and (yd_alls (p := sgnIn m) rfl (yd_lcm (f := fun d => .bool (sgnIn m d)) (ydi_str (yd_var rfl hd)) (by rw [← signs, signs_len]; exact hl) (fun _ _ => rfl)
            (fun H2 v2 d2 s2 hmem hd2 => y_in hmem rfl hd2 rfl (dp_same s2 _ _ hm)))) (fun _ => yd_call (ya_cons (yd_var rfl hd) ya_nil) ⟨_, _, rfl, signs_items z, hs, signs_cmp z, rfl⟩)).is ?_) fun v H2 s2 hv => q v H2 s2 hv
        rw [← signs, signs_all]
        rfl

/-! ### is_lot -/
def R_lot (ds : List PyData) (r : PyData) : Prop := ∃ m d, ds = [.str m, d] ∧ short d = true ∧ r = .bool (lotD m d)
theorem sc_is_lot : FnScope ["marks", "thing", "kind"] ["marks", "thing"] (defScope s_is_lot) := ⟨rfl, rfl, rfl, by decide +kernel, rfl, by decide +kernel, by decide +kernel⟩
theorem isEmpty_len (xs : List PyData) : decide ((xs.length : Int) = 0) = xs.isEmpty := by
  cases xs with
  | nil => rfl
  | cons x xs =>
    refine decide_eq_false fun z => ?_
    rw [List.length_cons] at z
    omega
theorem tup_items (xs : List PyData) : itemsD (.tuple xs) = some xs := rfl
theorem ok_is_lot (D : DefAt K mg "is_lot" s_is_lot ["marks", "thing"]) (B : Blt mg) (A1 : Has P w K mg base CX0 1 "is_ascending" ["items"] (spD K R_asc)) (A2 : Has P w K mg base CX0 2 "is_kind" ["marks", "thing"] (spD K R_kind)) :
    Has P w K mg base CX0 3 "is_lot" ["marks", "thing"] (spD K R_lot) := by
  obtain ⟨f, fd, F, g, b⟩ := D
  obtain ⟨f1, fd1, G1, g1, k1, b1⟩ := A1
  obtain ⟨f2, fd2, G2, g2, k2, b2⟩ := A2
  refine ⟨f, fd, F.ok sc_is_lot (fun vs H Q E h => len_spD (fun ds r ⟨m, d, e, _⟩ => by rw [e]; rfl) h) (fun cdv A outer s H vs Q E hr h => ?_), g, F.kp, b⟩
  obtain ⟨ds, r, hv, ⟨m, d, rfl, hs, rfl⟩, q⟩ := h
  cases hv with
  | cons hm hn =>
    cases hn with
    | cons hd hn =>
      cases hn
      refine ⟨_, pss_cons (ps_if (PW.pt (pw_or (pt_not (pt_val (pe_callB call_isi (by rfl) B.isinstance PyProof.Rows.boot_isinstance (pa_cons (pv 1) (pa_cons (pe_bltn (v := .ty "tuple") (by rfl) B.tuple boot_tuple rfl) pa_nil)))))
          (pw_or1 (pt_cmpR op_eq (pe_callB call_len (by rfl) B.len PySem.boot_len (pa_cons (pv 1) pa_nil)) pe_int (nomark _)))))
          (pss_one (ps_ret pe_bl)) pss_nil)
        (pss_one (ps_ret (pe_and (pe_callB (cr_all rfl) (by rfl) B.all PyProof.Rows.boot_all (pa_cons (pe_lc (own := [("kind", 2)]) (g := gName 2) (tt := tYes) rfl sc_is_lot.nd
          (pi_tup (pv 1)) (blkOk_by (N := ["marks", "thing", "kind"]) (sc := defScope s_is_lot) (by decide +kernel)) (fun _ _ _ _ _ => pg_name (i := 2) sc_is_lot.nd rfl (Or.inl rfl)) (fun _ _ _ _ _ => pts_nil)
          (fun _ _ _ _ _ => pe_call G2 hr (by rfl) g2 k2 b2 .nil pass0 (pa_cons (pv 0) (pa_cons (pv 2) pa_nil)))) pa_nil))
        (pe_one (pe_call G1 (hr.mono (by decide)) (by rfl) g1 k1 b1 .nil pass0 (pa_cons (pv 1) pa_nil)))))), ?_⟩
      cases hz : isTup d with
      | false =>
        refine y_if (b := true) ((yt_or (b := false) (yt_not (yt_B (yd_isi rfl (kit_tup d) (yd_var rfl hd)))) (fun e => absurd e (by rw [hz]; decide))).is (by rw [hz]; rfl)) (fun _ H1 s1 => y_ret (K := K) yd_bl fun v H2 s2 hv => q v H2 (s1.trans s2) ?_) (fun e => nomatch e)
        rw [(not_tup_lot hz).1]
        exact hv
      | true =>
        obtain ⟨xs, rfl⟩ := is_tup_of hz
        have hl : xs.length ≤ 1000 := short_items (tup_items xs) hs
        refine y_if (b := xs.isEmpty) ((yt_or (yt_not (yt_B (yd_isi rfl (kit_tup (.tuple xs)) (yd_var rfl hd)))) (fun _ => yt_test (yd_eqI (yd_len (tup_items xs) hs rfl (yd_var rfl hd)) yd_int))).is (by rw [isEmpty_len]; rfl)) (fun e H1 s1 => y_ret (K := K) yd_bl fun v H2 s2 hv => q v H2 (s1.trans s2) ?_) (fun e H1 s1 => ?_)
        · have e4 : lotD m (.tuple xs) = false := by
            show (!xs.isEmpty && _) = false
            rw [e]
            rfl
          rw [e4]
          exact hv
        · have hd1 := dp_same s1 _ _ hd
          have hm1 := dp_same s1 _ _ hm
          refine y_ret ((yd_and (yd_alls (p := kindD m) rfl (yd_lcm (f := fun d => .bool (kindD m d)) (ydi_tup (yd_var rfl hd1)) hl (fun _ _ => rfl)
            (fun H2 v2 d2 s2 hmem hd2 => yd_call (ya_cons (yd_var rfl (dp_same s2 _ _ hm1)) (ya_cons (yd_var rfl hd2) ya_nil)) ⟨m, d2, rfl, short_mem hs d2 hmem, rfl⟩)))
            (fun hk => yd_call (ya_cons (yd_var rfl hd1) ya_nil) ⟨_, _, rfl, tup_items xs, hs, kinds_cmp hk, rfl⟩)).is ?_) fun v H2 s2 hv => q v H2 (s1.trans s2) hv
          show _ = PyData.bool (!xs.isEmpty && _)
          rw [e]
          rfl

/-! ### the law's own -/
/-- len([x for x in .. if p]) == 0, whatever the items are -/
theorem yd_cnt {σ : St} {H : Hp} {tt : TT} {ds : List PyData} {i : Nat} {wi : TI} {p : PyData → Bool} {r : List V → Hp → VK → Prop} (hr : r = fun xs H Q => ∃ x n, xs = [x] ∧ LenV K x H n ∧ Q (.int (n : Nat)) H) (hi : YdI K wi σ H ds) (hl : ds.length ≤ 1000) (hσ : i < σ.length)
    (hs : ∀ H2 v d, Same H H2 → d ∈ ds → Dp K H2 v d → YdT tt (σ.set i (some v)) H2 (p d)) :
    Yd K (tOp rEq (tCB r (tCons (tLc wi (gName i) tt (tVar i) [i]) tNil)) (tC (.int 0))) σ H (.bool (ds.all fun d => !p d)) := by
  subst hr
  have h : Yd K (tCB (fun xs H Q => ∃ x n, xs = [x] ∧ LenV K x H n ∧ Q (.int (n : Nat)) H) (tCons (tLc wi (gName i) tt (tVar i) [i]) tNil)) σ H (.int ((ds.filter p).length : Nat)) := fun H1 s Q q => hi H1 s _ fun J G Y H2 s2 w hG hY D hD => by
    refine lc_it w (fun j Hc => Same H2 Hc ∧ ∃ ys : List V, Hc D = some (.lst ys) ∧ ys.length = ((ds.take j).filter p).length)
      ⟨same_new hD, [], upd_same, rfl⟩ (fun j Hc _ h => hG Hc h.1) (fun j x Hc Hx hj ⟨s3, ys, h1, h2⟩ y => ?_) fun Hc ⟨s3, ys, h1, h2⟩ => ?_
    · obtain ⟨s4, d, hd, hx⟩ := hY j Hc x Hx s3 hj y
      have hmem : d ∈ ds := List.mem_of_getElem? hd
      show wipe ((wipe σ [i]).set i (some x)) [i] = wipe σ [i] ∧ tt ((wipe σ [i]).set i (some x)) Hx _
      refine ⟨wipe_set1, ?_⟩
      rw [set1]
      have s5 : Same H Hx := ((s.trans s2).trans s3).trans s4
      have st := take_succ_some hd
      refine hs Hx x d s5 hmem hx Hx (Same.refl _) _ fun H5 s6 => ?_
      cases hp : p d with
      | true =>
        refine iteT ⟨x, List.getElem?_set_self hσ, ?_⟩
        have hD6 : H5 D = some (.lst ys) := (s4.trans s6) D _ h1
        refine ⟨ys, hD6, ?_, same_mut ((s3.trans s4).trans s6) hD, ys ++ [x], upd_same, ?_⟩
        · rw [h2]
          have := List.length_filter_le p (ds.take j)
          rw [List.length_take] at this
          exact small1000 (by omega)
        · rw [st, List.filter_append, List.length_append, List.length_append, h2, List.filter_cons_of_pos hp]
          rfl
      | false =>
        refine iteF ⟨(s3.trans s4).trans s6, ys, (s4.trans s6) D _ h1, ?_⟩
        rw [st, List.filter_append, List.length_append, h2, List.filter_cons_of_neg (by rw [hp]; exact Bool.false_ne_true)]
        rfl
    · rw [List.take_length] at h2
      exact ⟨.ref D, (ds.filter p).length, rfl, .inl ⟨ys, SqL.of h1, h2.symm⟩, q _ Hc (s2.trans s3) (.int _)⟩
  refine (yd_eqI h yd_int).is ?_
  congr 1
  by_cases e : ds.all (fun d => !p d) = true
  · rw [e]
    have e2 : ds.filter p = [] := List.filter_eq_nil_iff.mpr fun d hd => by
      have := List.all_eq_true.mp e d hd
      simpa using this
    rw [e2]
    rfl
  · rw [Bool.not_eq_true] at e
    rw [e]
    refine decide_eq_false fun z => ?_
    have e2 : ds.filter p = [] := List.eq_nil_of_length_eq_zero (by omega)
    rw [List.filter_eq_nil_iff] at e2
    have : ds.all (fun d => !p d) = true := List.all_eq_true.mpr fun d hd => by
      have := e2 d hd
      simpa using this
    rw [this] at e
    cases e
theorem sc_law_is_up : FnScope ["_law_items", "_law_at"] ["_law_items"] (defScope s_law_is_up) := ⟨rfl, rfl, rfl, by decide +kernel, rfl, by decide +kernel, by decide +kernel⟩
theorem ok_law_is_up (D : DefAt K mg "_law_is_up" s_law_is_up ["_law_items"]) (B : Blt mg) : Has P w K mg base CX0 1 "_law_is_up" ["_law_items"] (spD K R_asc) := by
  obtain ⟨f, fd, F, g, b⟩ := D
  refine ⟨f, fd, F.ok sc_law_is_up (fun vs H Q E h => len_spD (fun ds r ⟨d, xs, e, _⟩ => by rw [e]; rfl) h) (fun cdv A outer s H vs Q E hr h => ?_), g, F.kp, b⟩
  obtain ⟨ds, r, hv, ⟨d, xs, rfl, hx, hs, hc, rfl⟩, q⟩ := h
  cases hv with
  | cons hd hn =>
    cases hn
    refine ⟨_, pss_one (ps_ret (pe_cmpR op_eq (pe_callB call_len (by rfl) B.len PySem.boot_len (pa_cons (pe_lc (own := [("_law_at", 1)]) (g := gName 1) rfl sc_law_is_up.nd
      (pi_range2 (by rfl) B.range (pa_cons pe_int (pa_cons (pe_callB call_len (by rfl) B.len PySem.boot_len (pa_cons (pv 0) pa_nil)) pa_nil)))
      (blkOk_by (N := ["_law_items", "_law_at"]) (sc := defScope s_law_is_up) (by decide +kernel)) (fun _ _ _ _ _ => pg_name (i := 1) sc_law_is_up.nd rfl (Or.inl rfl))
      (fun _ _ _ _ _ => pts_one (pt_not (pt_cmpR (r := rLtD K) (op_ltD hr.units) (pe_ix (r := rIx K) ix_seq (pv 0) (pe_op op_sub (pv 1) pe_int) (fun _ _ => rfl)) (pe_ix (r := rIx K) ix_seq (pv 0) (pv 1) (fun _ _ => rfl)) (nomark _))))
      (fun _ _ _ _ _ => pv 1)) pa_nil)) pe_int (nomark _))), ?_⟩
    have hl := short_items hx hs
    refine y_ret ((yd_nones (p := fun d => !stepLt xs d) (f := id) rfl (yd_lc (p := fun d => !stepLt xs d) (f := id) (ydi_rng2 (ya_cons yd_int (ya_cons (yd_len hx hs rfl (yd_var rfl hd)) ya_nil)) (by omega) (by omega)) ?_ (fun d2 hm _ => ?_) (fun H2 v2 d2 s2 hm hd2 => ⟨?_, fun _ => yd_var rfl hd2⟩))).is ?_) fun v H1 s1 hv => q v H1 s1 hv
    · rw [List.length_map, List.length_range]
      omega
    · obtain ⟨i, hi, rfl⟩ := List.mem_map.mp hm
      rfl
    · obtain ⟨i, hi, rfl⟩ := List.mem_map.mp hm
      have hi' := List.mem_range.mp hi
      exact yt_not (yt_test (y_step hx hs hc (by omega) rfl (dp_same s2 _ _ hd) rfl hd2))
    · simp only [Bool.not_not]
      rw [asc_all]
theorem sc_law_is_kind : FnScope ["_law_marks_here", "_law_thing", "_law_sign"] ["_law_marks_here", "_law_thing"] (defScope s_law_is_kind) := ⟨rfl, rfl, rfl, by decide +kernel, rfl, by decide +kernel, by decide +kernel⟩
theorem ok_law_is_kind (D : DefAt K mg "_law_is_kind" s_law_is_kind ["_law_marks_here", "_law_thing"]) (B : Blt mg) (A1 : Has P w K mg base CX0 1 "_law_is_up" ["_law_items"] (spD K R_asc)) :
    Has P w K mg base CX0 2 "_law_is_kind" ["_law_marks_here", "_law_thing"] (spD K R_kind) := by
  obtain ⟨f, fd, F, g, b⟩ := D
  obtain ⟨f1, fd1, G1, g1, k1, b1⟩ := A1
  refine ⟨f, fd, F.ok sc_law_is_kind (fun vs H Q E h => len_spD (fun ds r ⟨m, d, e, _⟩ => by rw [e]; rfl) h) (fun cdv A outer s H vs Q E hr h => ?_), g, F.kp, b⟩
  obtain ⟨ds, r, hv, ⟨m, d, rfl, hs, rfl⟩, q⟩ := h
  cases hv with
  | cons hm hn =>
    cases hn with
    | cons hd hn =>
      cases hn
      refine ⟨_, pss_one (ps_ret (pe_and (pe_callB call_isi (by rfl) B.isinstance PyProof.Rows.boot_isinstance (pa_cons (pv 1) (pa_cons (pe_bltn (v := .ty "str") (by rfl) B.str boot_str rfl) pa_nil)))
        (pe_and (pe_cmpR op_eq (pe_callB call_len (by rfl) B.len PySem.boot_len (pa_cons (pe_lc (own := [("_law_sign", 2)]) (g := gName 2) rfl sc_law_is_kind.nd
          (pi_str (pv 1)) (blkOk_by (N := ["_law_marks_here", "_law_thing", "_law_sign"]) (sc := defScope s_law_is_kind) (by decide +kernel)) (fun _ _ _ _ _ => pg_name (i := 2) sc_law_is_kind.nd rfl (Or.inl rfl))
          (fun _ _ _ _ _ => pts_one (pt_cmpR op_notIn_sign (pv 2) (pv 0) rfl)) (fun _ _ _ _ _ => pv 2)) pa_nil)) pe_int (nomark _))
        (pe_one (pe_call G1 hr (by rfl) g1 k1 b1 .nil pass0 (pa_cons (pv 1) pa_nil)))))), ?_⟩
      cases hz : isStr d with
      | false =>
        refine y_ret ((yd_and (b := false) (yd_isi rfl (kit_str d) (yd_var rfl hd)) (fun e => absurd e (by rw [hz]; decide))).is (by rw [hz, (not_str_marks hz).2]; rfl)) fun v H2 s2 hv => q v H2 s2 hv
      | true =>
        obtain ⟨z, rfl⟩ := is_str_of hz
        have hl : z.length ≤ 1000 := of_decide_eq_true hs
        refine y_ret ((yd_and (yd_isi rfl (kit_str (.str z)) (yd_var rfl hd)) fun _ => yd_and (yd_nones (p := fun d => !sgnIn m d) (f := id) rfl (yd_lc (p := fun d => !sgnIn m d) (f := id) (ydi_str (yd_var rfl hd)) (by rw [← signs, signs_len]; exact hl)
            (fun d2 hmem _ => by obtain ⟨c, rfl, _⟩ := signs_mem (z := z) hmem; rfl) (fun H2 v2 d2 s2 hmem hd2 => ⟨yt_test (y_notin hmem rfl hd2 rfl (dp_same s2 _ _ hm)), fun _ => yd_var rfl hd2⟩)))
            (fun _ => yd_call (ya_cons (yd_var rfl hd) ya_nil) ⟨_, _, rfl, signs_items z, hs, signs_cmp z, rfl⟩)).is ?_) fun v H2 s2 hv => q v H2 s2 hv
        simp only [Bool.not_not]
        rw [← signs, signs_all]
        rfl
theorem sc_law_is_lot : FnScope ["_law_marks_here", "_law_thing", "_law_kind"] ["_law_marks_here", "_law_thing"] (defScope s_law_is_lot) := ⟨rfl, rfl, rfl, by decide +kernel, rfl, by decide +kernel, by decide +kernel⟩
theorem ok_law_is_lot (D : DefAt K mg "_law_is_lot" s_law_is_lot ["_law_marks_here", "_law_thing"]) (B : Blt mg) (A1 : Has P w K mg base CX0 1 "_law_is_up" ["_law_items"] (spD K R_asc)) (A2 : Has P w K mg base CX0 2 "_law_is_kind" ["_law_marks_here", "_law_thing"] (spD K R_kind)) :
    Has P w K mg base CX0 3 "_law_is_lot" ["_law_marks_here", "_law_thing"] (spD K R_lot) := by
  obtain ⟨f, fd, F, g, b⟩ := D
  obtain ⟨f1, fd1, G1, g1, k1, b1⟩ := A1
  obtain ⟨f2, fd2, G2, g2, k2, b2⟩ := A2
  refine ⟨f, fd, F.ok sc_law_is_lot (fun vs H Q E h => len_spD (fun ds r ⟨m, d, e, _⟩ => by rw [e]; rfl) h) (fun cdv A outer s H vs Q E hr h => ?_), g, F.kp, b⟩
  obtain ⟨ds, r, hv, ⟨m, d, rfl, hs, rfl⟩, q⟩ := h
  cases hv with
  | cons hm hn =>
    cases hn with
    | cons hd hn =>
      cases hn
      refine ⟨_, pss_cons (ps_if (PW.pt (pw_or (pt_not (pt_val (pe_callB call_isi (by rfl) B.isinstance PyProof.Rows.boot_isinstance (pa_cons (pv 1) (pa_cons (pe_bltn (v := .ty "tuple") (by rfl) B.tuple boot_tuple rfl) pa_nil)))))
          (pw_or1 (pt_cmpR op_eq (pe_callB call_len (by rfl) B.len PySem.boot_len (pa_cons (pv 1) pa_nil)) pe_int (nomark _)))))
          (pss_one (ps_ret pe_bl)) pss_nil)
        (pss_one (ps_ret (pe_and (pe_cmpR op_eq (pe_callB call_len (by rfl) B.len PySem.boot_len (pa_cons (pe_lc (own := [("_law_kind", 2)]) (g := gName 2) rfl sc_law_is_lot.nd
          (pi_tup (pv 1)) (blkOk_by (N := ["_law_marks_here", "_law_thing", "_law_kind"]) (sc := defScope s_law_is_lot) (by decide +kernel)) (fun _ _ _ _ _ => pg_name (i := 2) sc_law_is_lot.nd rfl (Or.inl rfl))
          (fun _ _ _ _ _ => pts_one (pt_not (pt_val (pe_call G2 hr (by rfl) g2 k2 b2 .nil pass0 (pa_cons (pv 0) (pa_cons (pv 2) pa_nil)))))) (fun _ _ _ _ _ => pv 2)) pa_nil)) pe_int (nomark _))
        (pe_one (pe_call G1 (hr.mono (by decide)) (by rfl) g1 k1 b1 .nil pass0 (pa_cons (pv 1) pa_nil)))))), ?_⟩
      cases hz : isTup d with
      | false =>
        refine y_if (b := true) ((yt_or (b := false) (yt_not (yt_B (yd_isi rfl (kit_tup d) (yd_var rfl hd)))) (fun e => absurd e (by rw [hz]; decide))).is (by rw [hz]; rfl)) (fun _ H1 s1 => y_ret (K := K) yd_bl fun v H2 s2 hv => q v H2 (s1.trans s2) ?_) (fun e => nomatch e)
        rw [(not_tup_lot hz).1]
        exact hv
      | true =>
        obtain ⟨xs, rfl⟩ := is_tup_of hz
        have hl : xs.length ≤ 1000 := short_items (tup_items xs) hs
        refine y_if (b := xs.isEmpty) ((yt_or (yt_not (yt_B (yd_isi rfl (kit_tup (.tuple xs)) (yd_var rfl hd)))) (fun _ => yt_test (yd_eqI (yd_len (tup_items xs) hs rfl (yd_var rfl hd)) yd_int))).is (by rw [isEmpty_len]; rfl)) (fun e H1 s1 => y_ret (K := K) yd_bl fun v H2 s2 hv => q v H2 (s1.trans s2) ?_) (fun e H1 s1 => ?_)
        · have e4 : lotD m (.tuple xs) = false := by
            show (!xs.isEmpty && _) = false
            rw [e]
            rfl
          rw [e4]
          exact hv
        · have hd1 := dp_same s1 _ _ hd
          have hm1 := dp_same s1 _ _ hm
          refine y_ret ((yd_and (yd_cnt (p := fun d => !kindD m d) rfl (ydi_tup (yd_var rfl hd1)) hl (show (2 : Nat) < 3 by decide)
            (fun H2 v2 d2 s2 hmem hd2 => yt_not (yt_B (yd_call (ya_cons (yd_var rfl (dp_same s2 _ _ hm1)) (ya_cons (yd_var rfl hd2) ya_nil)) ⟨m, d2, rfl, short_mem hs d2 hmem, rfl⟩))))
            (fun hk => yd_call (ya_cons (yd_var rfl hd1) ya_nil) ⟨_, _, rfl, tup_items xs, hs, kinds_cmp (m := m) (by simpa only [Bool.not_not] using hk), rfl⟩)).is ?_) fun v H2 s2 hv => q v H2 (s1.trans s2) hv
          simp only [Bool.not_not]
          show _ = PyData.bool (!xs.isEmpty && _)
          rw [e]
          rfl
end
end K15

/-! The errors: how they are made (context None), what is raised; the checks that raise. -/
namespace K15
open PySem PySem.Spec PyProof.Rows L2

section
variable {X : Cx} {C : Addr} {bmB : List Value} {B newId initId : String} {x : Str} {p pos : Pos}
/-- X(), an own class without __init__ -/
theorem pmk_nil (F : ExcBaseFacts B newId initId bmB) (q : PySem.W.excIn X.K C bmB newId = true) (gC : X.mg x = some (.ref C)) (kC : PySem.W.keepIn X.K (.ref C) = true) (r : Raises X (.ref C)) (hg : Gl X x)
    (hdb : (x == ("__debug__" : Str)) = false := by decide) : L2N.PMk X (.Call (.Name x p) [] [] pos) (fun _ H Q => Q (.ref C) none H) := by
  intro pins s σ H Q I h
  refine wpAny_Call_Name_kw (ld_glob I hg gC ?_ hdb)
  refine PySem.W.callWith_K0 I.kIn kC ?_
  show wpAny _ _ (call (.ref C) []) _ _ _
  obtain ⟨bm, N, nm, qn, bs, hdct, sn, sub, ab, col, dd, k0, k1, k2, k3, k5, mN, hC, hN, hni, T⟩ := exc_obj I.kIn q
  refine wpAny_call_exc_subT F T hC hN hni (fun h' e hm => ?_) (by show 0 ≤ sizeLine; exact Nat.zero_le _)
  exact L2N.mk_of I hm r h (I.hok.gone hm.new)
variable {e : Expr} {es : List Expr} {ta : TA}
/-- X(e), X's own __init__ keeping sp -/
theorem pmk_init {CX : CXT} {fI : Addr} {k : Nat} {fd : FuncData} {ps : List Str} {sp : Sp} {ds : List Value} {dvs : List V} (T : OexC X.K C) (iC : PySem.W.findIn X.K (.ref C) "__init__" = some (some (.ref fI))) (tI : PySem.W.typeIn X.K (.ref fI) = some (.type "function"))
    (F1 : FnOk X.prog X.w X.K X.mg X.base CX k fI fd ps sp) (hr : Room (k + 1) X.A) (hb : Binds X.K fd ps ds) (hd : Vals dvs ds) (hx : Passes CX X (fun _ _ _ => False)) (hg : Gl X x) (hm : X.mg x = some (.ref C)) (ha : PA X (e :: es) ta)
    (hdb : (x == ("__debug__" : Str)) = false := by decide) (he : starEach (e :: es) X.env = (false, eval e X.env) :: starEach es X.env := by rfl) (hpl : (backTo pos (starEach es X.env)).any (·.1) = false := by rfl) :
    L2N.PMk X (.Call (.Name x p) (e :: es) [] pos) (tMkO C sp dvs ta) := by
  intro pins s σ H Q I h
  obtain ⟨nm, q, N, bs, bm, sn, sub, ab, col, dd, k0, k1, k2, k3, k5, hC, hbm⟩ := T.cls
  refine wpAny_Call_Name_kw (ld_glob I hg hm ?_ hdb)
  refine PySem.W.callWith_K (h₀ := X.base) I.ok.mod.kin T.kC (thn (ha.run pos pins s σ H _ I h) fun us s1 ⟨vs, H1, I1, r1, hz, q1⟩ => ⟨I1.kIn, ?_⟩) he hpl
  show wpAny _ _ (call (.ref C) us) _ _ _
  obtain ⟨hp, g, dr, tk, os⟩ := s1
  have hsz : hp.objs.size ≤ hp.objs.size + 1 := Nat.le_succ _
  have hn : H1 (hp.objs.size + 1) = none := I1.hok.fresh hsz
  have hq := q1 (hp.objs.size + 1) hn
  have kk : ∀ b o, hp.get? b = some o → ((hp.push (PySem.W.kdv_tup us)).push (PySem.HandSPX.excO C hp.objs.size)).get? b = some o := fun b o e => Heap.get?_push_of_some _ (Heap.get?_push_of_some _ e)
  have hget : ((hp.push (PySem.W.kdv_tup us)).push (PySem.HandSPX.excO C hp.objs.size)).get? (hp.objs.size + 1) = some (PySem.HandSPX.excO C hp.objs.size) := by heap_get
  have I2 : Inv X pins σ (upd H1 (hp.objs.size + 1) (exo (hp.objs.size + 1) C none)) ⟨(hp.push (PySem.W.kdv_tup us)).push (PySem.HandSPX.excO C hp.objs.size), g, dr, tk, os⟩ :=
    I1.laid (t' := tk) (a := hp.objs.size + 1) (o := exo (hp.objs.size + 1) C none) (h' := (hp.push (PySem.W.kdv_tup us)).push (PySem.HandSPX.excO C hp.objs.size)) kk hsz (exo_ok hget)
  have r2 : Vals (V.ref (hp.objs.size + 1) :: (vs ++ dvs)) (Value.ref (hp.objs.size + 1) :: (us ++ ds)) := .cons rfl (r1.append hd)
  have hl : (Value.ref (hp.objs.size + 1) :: us ++ ds).length = ps.length := by
    have e := r2.length
    rw [F1.len _ _ _ _ hq] at e
    exact e.symm
  have hus : us.length ≤ sizeLine := by
    rw [← Paired.length r1, sizeLine_eq]
    omega
  refine wpAny_call (PySem.HandSPX.call_own PySem.F.excBase_ValueError (fun Y => PySem.HandSPX.refsVE_contains Y bm hbm) (I1.kIn _ _ hC) (PySem.W.looks_findIn I1.kIn iC) (fun self => PySem.W.bind_fn I1.kIn self tI) hus
    (codeAny_mono (F1.run _ X.stack _ _ ⟨Value.ref (hp.objs.size + 1) :: us, []⟩ (Value.ref (hp.objs.size + 1) :: (us ++ ds)) _ _ (fun _ _ _ => False) (hr.make C us []) (I2.env0.make C us []) (hb _ (Value.ref (hp.objs.size + 1) :: us) I2.kIn hl) r2 hq) fun r s' hq' => ?_))
  cases r with
  | error er => exact hx pins σ _ _ er s' I2 hq'
  | ok fl =>
    cases fl with
    | ret u =>
      obtain ⟨v, H2, os2, bare2, un2, hok2, rv, ev, d, fs, ea, ed, hd1, q2⟩ := hq'
      subst ev
      obtain ⟨h2, g2, d2, t2, os'⟩ := s'
      obtain ⟨t0, G, J, kG, ge, hoe, na⟩ := mk_end0 (d2 := d2) (t2 := t2) I1 hsz kk un2 hok2 os2 bare2 ea ed hd1
      exact ⟨rv, ⟨_, _, _, ⟨G, g2, d2, t2, os'⟩, _, .ref C, some d, rfl, J, kG, ge, hoe, ⟨rfl, rfl, fun vs e => by cases e; rfl⟩, rfl, rfl, na, rfl, bare2, raises_own T.exC T.tyC, q2⟩⟩
    | next => exact False.elim hq'
    | brk => exact False.elim hq'
    | cont => exact False.elim hq'
end

/-! ### what is raised -/
inductive Bad
  | marks
  | lots
  | many (n : Int)
structure ExcF (K : Frag) (mg : Mg) (x : Str) (C : Addr) : Prop where
  g : mg x = some (.ref C)
  ex : PySem.W.excIn K C He.veBase "ValueError.__new__" = true
  kp : PySem.W.keepIn K (.ref C) = true
  sub : PySem.W.subIn K (.ref C) (.type "BaseException") = some true
  ty : PySem.W.typeIn K (.ref C) = some (.type "type")
structure ManyF (K : Frag) (mg : Mg) (C fI : Addr) : Prop where
  g : mg "TooMany" = some (.ref C)
  o : OexC K C
  init : PySem.W.findIn K (.ref C) "__init__" = some (some (.ref fI))
  tyI : PySem.W.typeIn K (.ref fI) = some (.type "function")
  no : PySem.W.findIn K (.ref C) "most" = some none
/-- the classes' places -/
structure Cls3 where
  cN : Addr
  cO : Addr
  cT : Addr
def XP (c : Cls3) : Bad → XK
  | .marks => fun cls d _ => cls = .ref c.cO ∧ d = none
  | .lots => fun cls d _ => cls = .ref c.cN ∧ d = none
  | .many n => fun cls d H => cls = .ref c.cT ∧ ∃ dx, d = some dx ∧ H dx = some (.xd [("most", .int n)])
/-- what a def that may raise ends by -/
def Ends2 (K : Frag) (c : Cls3) (H : Hp) (Q : VK) (E : XK) : Bad ⊕ PyData → Prop
  | .inl b => ∀ cls d H', Same H H' → XP c b cls d H' → E cls d H'
  | .inr r => ∀ v H', Same H H' → Dp K H' v r → Q v H'
section
variable {P : Program} {w : World} {K : Frag} {mg : Mg} {base : Heap}
theorem ps_bad0 {X : Cx} {W : WX} {x : Str} {C : Addr} {p pos pos' : Pos} (F : ExcF X.K X.mg x C) (hc : X.calm = true) (tk : L2N.Takes X W) (hg : Gl X x) (hdb : (x == ("__debug__" : Str)) = false := by decide) :
    PS X (.Raise (some (.Call (.Name x p) [] [] pos)) none pos') (fun _ σ H => W (.ref C) none σ H) :=
  L2N.ps_raise hc tk (pmk_nil PySem.F.excBase_ValueError F.ex F.g F.kp (raises_own F.sub F.ty) hg hdb)

/-! ### TooMany.__init__ -/
def spMI (K : Frag) : Sp := fun vs H Q _ => ∃ a C v, vs = [.ref a, v] ∧ OexC K C ∧ PySem.W.findIn K (.ref C) "most" = some none ∧ H a = some (exo a C none) ∧ ∀ dx, H dx = none → dx ≠ a → Q .non (upd (upd H dx (exd dx [("most", v)])) a (exo a C (some dx)))
theorem sc_many_init : FnScope ["self", "most"] ["self", "most"] (defScope s_many_init) := ⟨rfl, rfl, rfl, by decide +kernel, rfl, by decide +kernel, by decide +kernel⟩
def HasI (P : Program) (w : World) (K : Frag) (mg : Mg) (base : Heap) (k : Nat) (f : Addr) (ps : List Str) (sp : Sp) : Prop := ∃ fd, FnOk P w K mg base CX0 k f fd ps sp ∧ Binds K fd ps []
theorem ok_many_init {f : Addr} {fd : FuncData} (F : FunD K "__init__" "TooMany.__init__" (defArgs s_many_init) (defBody s_many_init) (defScope s_many_init) [] [] f fd) (b : Binds K fd ["self", "most"] []) : HasI P w K mg base 1 f ["self", "most"] (spMI K) := by
  refine ⟨fd, F.ok sc_many_init (fun vs H Q E h => ?_) (fun cdv A outer s H vs Q E hr h => ?_), b⟩
  · obtain ⟨a, C, v, rfl, _⟩ := h
    rfl
  · obtain ⟨a, C, v, rfl, T, hno, e, q⟩ := h
    refine ⟨_, pss_one (ps_ost (pv 0) (pv 1)), ?_⟩
    exact ⟨v, rfl, .ref a, rfl, a, C, rfl, T, hno, .inl ⟨e, fun dx hx hne => q dx hx hne⟩⟩
/-- raise TooMany(e) -/
theorem ps_many {X : Cx} {W : WX} {C fI : Addr} {e : Expr} {te : TE} {p pos pos' : Pos} (F : ManyF X.K X.mg C fI) (G : HasI X.prog X.w X.K X.mg X.base 1 fI ["self", "most"] (spMI X.K)) (hr : Room 2 X.A) (hc : X.calm = true) (tk : L2N.Takes X W) (hg : Gl X "TooMany") (he : PE X e te)
    (hs : starEach [e] X.env = (false, eval e X.env) :: starEach [] X.env := by rfl) (hpl : (backTo pos (starEach [] X.env)).any (·.1) = false := by rfl) :
    PS X (.Raise (some (.Call (.Name "TooMany" p) [e] [] pos)) none pos') (fun _ σ H => tMkO C (spMI X.K) [] (tCons te tNil) σ H fun cls d H' => W cls d σ H') := by
  obtain ⟨fd, G, b⟩ := G
  exact L2N.ps_raise (pos := pos') hc tk (pmk_init (p := p) (pos := pos) F.o F.init F.tyI G hr b .nil pass0 hg F.g (pa_cons he pa_nil hs) (by decide) hs hpl)
theorem y_many {C fI : Addr} {te : TE} {σ : St} {H : Hp} {n : Int} {W : WX} (F : ManyF K mg C fI) (he : Yd K te σ H (.int n)) (k : ∀ dx H2, Same H H2 → H2 dx = some (.xd [("most", .int n)]) → W (.ref C) (some dx) σ H2) :
    tMkO C (spMI K) [] (tCons te tNil) σ H fun cls d H' => W cls d σ H' := by
  refine he H (Same.refl _) _ fun v H1 s1 hv => ?_
  have e := dp_int hv
  subst e
  refine ⟨by show 1 ≤ 1000; decide, fun a ha => ⟨a, C, .int n, rfl, F.o, F.no, upd_same, fun dx hx hne => ⟨rfl, dx, _, upd_same, by rw [upd_ne hne, upd_same], ?_, k dx _ ?_ upd_same⟩⟩⟩
  · rw [upd_ne hne] at hx
    exact hx
  · rw [upd_ne hne] at hx
    intro b u hb
    have hb1 := s1 b u hb
    have n1 : b ≠ dx := ne_of_none hb1 hx
    have n2 : b ≠ a := ne_of_none hb1 ha
    rw [upd_ne n1, del_ne n2, upd_ne n2, upd_ne n1, upd_ne n2]
    exact hb1
/-! ### things that may be no data: {} -/
def Thing (K : Frag) (H : Hp) (v : V) : Option PyData → Prop
  | some d => Dp K H v d ∧ short d = true
  | none => ∃ a, v = .ref a ∧ H a = some (.dK [])
theorem Thing.same {H H' : Hp} {v : V} (s : Same H H') : ∀ {o : Option PyData}, Thing K H v o → Thing K H' v o
  | some _, h => ⟨dp_same s _ _ h.1, h.2⟩
  | none, h => let ⟨a, e, q⟩ := h; ⟨a, e, s _ _ q⟩
def oTup : Option PyData → Bool
  | some d => isTup d
  | none => false
def oLots (m : Str) : Option PyData → Bool
  | some d => lotsD m d
  | none => false
theorem not_otup {m : Str} : ∀ {o : Option PyData}, oTup o = false → oLots m o = false
  | some d, h => (not_tup_lot h).2 m
  | none, _ => rfl
theorem of_otup : ∀ {o : Option PyData}, oTup o = true → ∃ xs, o = some (.tuple xs)
  | some d, h => let ⟨xs, e⟩ := is_tup_of h; ⟨xs, by rw [e]⟩
theorem yd_thing {σ : St} {H : Hp} {i : Nat} {v : V} {r : List V → Hp → VK → Prop} (hr : r = rIsi K) (hv : σ[i]? = some (some v)) : ∀ {o : Option PyData}, Thing K H v o → Yd K (tCB r (tCons (tVar i) (tCons (tC (.ty "tuple")) tNil))) σ H (.bool (oTup o))
  | some d, h => yd_isi hr (kit_tup d) (yd_var hv h.1)
  | none, h => by
    subst hr
    obtain ⟨a, rfl, e⟩ := h
    exact fun H1 s Q q => ⟨.ref a, hv, .ref a, .ty "tuple", .type "dict", .type "tuple", false, rfl, .ty "tuple", .base (.dK (s _ _ e)), kit_ty (by decide +kernel), q _ H1 (Same.refl _) (.bl _)⟩

/-! ### the law's _law_are_lots -/
def spAreLots (K : Frag) : Sp := fun vs H Q _ => ∃ m vm vt o, vs = [vm, vt] ∧ Dp K H vm (.str m) ∧ Thing K H vt o ∧ ∀ H', Same H H' → Q (.bl (oLots m o)) H'
theorem sc_law_are_lots : FnScope ["_law_marks_here", "_law_thing", "_law_lot_here"] ["_law_marks_here", "_law_thing"] (defScope s_law_are_lots) := ⟨rfl, rfl, rfl, by decide +kernel, rfl, by decide +kernel, by decide +kernel⟩
theorem ok_law_are_lots (D : DefAt K mg "_law_are_lots" s_law_are_lots ["_law_marks_here", "_law_thing"]) (B : Blt mg) (A1 : Has P w K mg base CX0 1 "_law_is_up" ["_law_items"] (spD K R_asc)) (A2 : Has P w K mg base CX0 3 "_law_is_lot" ["_law_marks_here", "_law_thing"] (spD K R_lot)) :
    Has P w K mg base CX0 4 "_law_are_lots" ["_law_marks_here", "_law_thing"] (spAreLots K) := by
  obtain ⟨f, fd, F, g, b⟩ := D
  obtain ⟨f1, fd1, G1, g1, k1, b1⟩ := A1
  obtain ⟨f2, fd2, G2, g2, k2, b2⟩ := A2
  refine ⟨f, fd, F.ok sc_law_are_lots (fun vs H Q E h => by obtain ⟨m, vm, vt, o, rfl, _⟩ := h; rfl) (fun cdv A outer s H vs Q E hr h => ?_), g, F.kp, b⟩
  obtain ⟨m, vm, vt, o, rfl, hm, hd, q⟩ := h
  refine ⟨_, pss_cons (ps_if (PW.pt (pw_or (pt_not (pt_val (pe_callB call_isi (by rfl) B.isinstance PyProof.Rows.boot_isinstance (pa_cons (pv 1) (pa_cons (pe_bltn (v := .ty "tuple") (by rfl) B.tuple boot_tuple rfl) pa_nil)))))
      (pw_or (pt_cmpR op_lt (pe_callB call_len (by rfl) B.len PySem.boot_len (pa_cons (pv 1) pa_nil)) pe_int (nomark _))
      (pw_or1 (pt_cmpR op_gt (pe_callB call_len (by rfl) B.len PySem.boot_len (pa_cons (pv 1) pa_nil)) pe_int (nomark _))))))
      (pss_one (ps_ret pe_bl)) pss_nil)
    (pss_one (ps_ret (pe_and (pe_cmpR op_eq (pe_callB call_len (by rfl) B.len PySem.boot_len (pa_cons (pe_lc (own := [("_law_lot_here", 2)]) (g := gName 2) rfl sc_law_are_lots.nd
      (pi_tup (pv 1)) (blkOk_by (N := ["_law_marks_here", "_law_thing", "_law_lot_here"]) (sc := defScope s_law_are_lots) (by decide +kernel)) (fun _ _ _ _ _ => pg_name (i := 2) sc_law_are_lots.nd rfl (Or.inl rfl))
      (fun _ _ _ _ _ => pts_one (pt_not (pt_val (pe_call G2 hr (by rfl) g2 k2 b2 .nil pass0 (pa_cons (pv 0) (pa_cons (pv 2) pa_nil)))))) (fun _ _ _ _ _ => pv 2)) pa_nil)) pe_int (nomark _))
    (pe_one (pe_call G1 (hr.mono (by decide)) (by rfl) g1 k1 b1 .nil pass0 (pa_cons (pv 1) pa_nil)))))), ?_⟩
  cases hz : oTup o with
  | false =>
    refine y_if (b := true) ((yt_or (b := false) (yt_not (yt_B (yd_thing rfl rfl hd))) (fun e => absurd e (by rw [hz]; decide))).is (by rw [hz]; rfl)) (fun _ H1 s1 => y_ret (K := K) yd_bl fun v H2 s2 hv => ?_) (fun e => nomatch e)
    have q2 := q H2 (s1.trans s2)
    rw [not_otup hz] at q2
    rw [dp_bool hv]
    exact q2
  | true =>
    obtain ⟨xs, rfl⟩ := of_otup hz
    obtain ⟨hd, hs⟩ := hd
    have hl : xs.length ≤ 1000 := short_items (tup_items xs) hs
    have hlen : ∀ {H1 : Hp}, Same H H1 → Yd K (tCB (fun xs H Q => ∃ x n, xs = [x] ∧ LenV K x H n ∧ Q (.int (n : Nat)) H) (tCons (tVar 1) tNil)) (L2.start ["_law_marks_here", "_law_thing", "_law_lot_here"] [vm, vt]) H1 (.int xs.length) := fun s1 => yd_len (tup_items xs) hs rfl (yd_var rfl (dp_same s1 _ _ hd))
    refine y_if (b := !(decide (1 ≤ xs.length) && decide (xs.length ≤ 4))) ((yt_or (yt_not (yt_B (yd_thing (o := some (.tuple xs)) rfl rfl ⟨hd, hs⟩))) (fun _ => yt_or (yt_test (yd_cmpI (hlen (Same.refl _)) yd_int)) (fun _ => yt_test (yd_cmpI (hlen (Same.refl _)) yd_int)))).is ?_) (fun e H1 s1 => y_ret (K := K) yd_bl fun v H2 s2 hv => ?_) (fun e H1 s1 => ?_)
    · show (false || (decide ((xs.length : Int) < 1) || decide ((4 : Int) < xs.length))) = _
      rw [Bool.false_or, Bool.not_and, ← decide_not, ← decide_not]
      congr 1
      · exact decide_eq_decide.mpr (by omega)
      · exact decide_eq_decide.mpr (by omega)
    · have q2 := q H2 (s1.trans s2)
      have e4 : oLots m (some (.tuple xs)) = false := by
        show (decide (1 ≤ xs.length) && decide (xs.length ≤ 4) && _) = false
        rw [Bool.not_eq_true'] at e
        rw [e]
        rfl
      rw [e4] at q2
      rw [dp_bool hv]
      exact q2
    · have hd1 := dp_same s1 _ _ hd
      have hm1 := dp_same s1 _ _ hm
      refine y_ret ((yd_and (yd_cnt (p := fun d => !lotD m d) rfl (ydi_tup (yd_var rfl hd1)) hl (show (2 : Nat) < 3 by decide)
        (fun H2 v2 d2 s2 hmem hd2 => yt_not (yt_B (yd_call (ya_cons (yd_var rfl (dp_same s2 _ _ hm1)) (ya_cons (yd_var rfl hd2) ya_nil)) ⟨m, d2, rfl, short_mem hs d2 hmem, rfl⟩))))
        (fun hk => yd_call (ya_cons (yd_var rfl hd1) ya_nil) ⟨_, _, rfl, tup_items xs, hs, lots_cmp (m := m) (by simpa only [Bool.not_not] using hk), rfl⟩))) fun v H2 s2 hv => ?_
      have q2 := q H2 (s1.trans s2)
      have e4 : oLots m (some (.tuple xs)) = (xs.all (lotD m) && ascD xs) := by
        show (decide (1 ≤ xs.length) && decide (xs.length ≤ 4) && _) = _
        rw [Bool.not_eq_false'] at e
        rw [e]
        rfl
      rw [e4] at q2
      rw [dp_bool hv]
      simp only [Bool.not_not]
      exact q2
end
end K15

/-! Lots as data; seats as instances; the checks that raise. -/
namespace K15
open PySem PySem.Spec PyProof.Rows L2

/-! ### lots as data -/
def encLot (l : Lot) : PyData := .tuple (l.map .str)
def encLots (L : Lots) : PyData := .tuple (L.map encLot)
def lotB (m : Str) (l : Lot) : Bool := lotD m (encLot l)
theorem lot_dec {m : Str} : ∀ {d : PyData}, lotD m d = true → ∃ l, d = encLot l ∧ lotB m l = true := fun {d} h => by
  cases ht : isTup d with
  | false =>
    rw [(not_tup_lot ht).1] at h
    cases h
  | true =>
    obtain ⟨xs, rfl⟩ := is_tup_of ht
    have hx := h
    simp only [lotD, Bool.and_eq_true] at hx
    have key : ∀ {xs : List PyData}, (∀ d ∈ xs, ∃ z, d = .str z) → ∃ l : List Str, xs = l.map .str := by
      intro xs
      induction xs with
      | nil => exact fun _ => ⟨[], rfl⟩
      | cons x xs ih =>
        intro hs
        obtain ⟨z, rfl⟩ := hs x List.mem_cons_self
        obtain ⟨l, rfl⟩ := ih fun d hd => hs d (List.mem_cons_of_mem _ hd)
        exact ⟨z :: l, rfl⟩
    obtain ⟨l, rfl⟩ := key (kinds_strs hx.2.1)
    exact ⟨l, rfl, h⟩
theorem lots_dec {m : Str} : ∀ {xs : List PyData}, xs.all (lotD m) = true → ∃ L : Lots, xs = L.map encLot ∧ L.all (lotB m) = true
  | [], _ => ⟨[], rfl, rfl⟩
  | x :: xs, h => by
    rw [List.all_cons, Bool.and_eq_true] at h
    obtain ⟨l, rfl, h1⟩ := lot_dec h.1
    obtain ⟨L, rfl, h2⟩ := lots_dec h.2
    exact ⟨l :: L, rfl, by rw [List.all_cons, h1, h2]; rfl⟩
theorem lots_all {m : Str} {L : Lots} (h : L.all (lotB m) = true) : (L.map encLot).all (lotD m) = true := by
  rw [List.all_map]
  exact h
theorem noL_lot (l : Lot) : noL (encLot l) = true := noLs_of fun d hd => by
  obtain ⟨z, _, rfl⟩ := List.mem_map.mp hd
  rfl
theorem noL_lots (L : Lots) : noL (encLots L) = true := noLs_of fun d hd => by
  obtain ⟨z, _, rfl⟩ := List.mem_map.mp hd
  exact noL_lot z
/-- lots and their kinds are few and short -/
def Few (L : Lots) : Prop := L.length ≤ 1000 ∧ ∀ l ∈ L, l.length ≤ 1000 ∧ ∀ k ∈ l, k.length ≤ 1000
theorem short_lot {l : Lot} (h : l.length ≤ 1000 ∧ ∀ k ∈ l, k.length ≤ 1000) : short (encLot l) = true := by
  show (decide ((l.map PyData.str).length ≤ 1000) && shorts _) = true
  rw [Bool.and_eq_true]
  exact ⟨decide_eq_true (by rw [List.length_map]; exact h.1), shorts_of fun d hd => by
    obtain ⟨z, hz, rfl⟩ := List.mem_map.mp hd
    exact decide_eq_true (h.2 z hz)⟩
theorem short_lots {L : Lots} (h : Few L) : short (encLots L) = true := by
  show (decide ((L.map encLot).length ≤ 1000) && shorts _) = true
  rw [Bool.and_eq_true]
  exact ⟨decide_eq_true (by rw [List.length_map]; exact h.1), shorts_of fun d hd => by
    obtain ⟨z, hz, rfl⟩ := List.mem_map.mp hd
    exact short_lot (h.2 z hz)⟩
theorem Few.app {L M : Lots} (h : Few L) (g : Few M) (hl : L.length + M.length ≤ 1000) : Few (L ++ M) :=
  ⟨by rw [List.length_append]; exact hl, fun l hl => by
    rcases List.mem_append.mp hl with h1 | h1
    · exact h.2 l h1
    · exact g.2 l h1⟩

/-! ### a loop over data, the heap growing -/
section
variable {P : Program} {w : World} {K : Frag} {mg : Mg} {base : Heap}
theorem y_for {wi : TI} {σ : St} {H : Hp} {ds : List PyData} {g : TG} {tb : TS} {D : Ends} (hi : YdI K wi σ H ds) (Pv : Nat → St → Hp → Prop) (h0 : ∀ H1, Same H H1 → Pv 0 σ H1)
    (hs : ∀ H2, Same H H2 → ∀ i d σ' H3 H4 x, Same H2 H3 → Same H3 H4 → ds[i]? = some d → Pv i σ' H3 → Dp K H4 x d →
      g x σ' H4 fun σ2 H5 => tb { D with nx := fun σ3 H6 => Same H2 H6 ∧ Pv (i + 1) σ3 H6, ct := fun σ3 H6 => Same H2 H6 ∧ Pv (i + 1) σ3 H6, bk := D.nx } σ2 H5)
    (hd : ∀ σ' H', Same H H' → Pv ds.length σ' H' → D.nx σ' H') : tFor wi g tb D σ H := by
  refine hi H (Same.refl _) _ fun J G Y H2 s2 w hG hY => ?_
  refine for_it w (fun i σ' H' => Same H2 H' ∧ Pv i σ' H') ⟨Same.refl _, h0 H2 s2⟩ (fun i σ' H' _ h => hG H' h.1) (fun i x σ' H3 H4 hlt h y => ?_) fun σ' H' h => hd σ' H' (s2.trans h.1) h.2
  obtain ⟨s4, d, hd2, hx⟩ := hY i H3 x H4 h.1 hlt y
  exact hs H2 s2 i d σ' H3 H4 x h.1 s4 hd2 h.2 hx

/-! ### first_no_lot, where all are lots -/
def R_fnl (ds : List PyData) (r : PyData) : Prop := ∃ m L, ds = [.str m, encLots L] ∧ Few L ∧ L.all (lotB m) = true ∧ r = .none
theorem sc_first_no_lot : FnScope ["marks", "lots", "at", "lot"] ["marks", "lots"] (defScope s_first_no_lot) := ⟨rfl, rfl, rfl, by decide +kernel, rfl, by decide +kernel, by decide +kernel⟩
theorem ok_first_no_lot (D : DefAt K mg "first_no_lot" s_first_no_lot ["marks", "lots"]) (B : Blt mg) (A3 : Has P w K mg base CX0 3 "is_lot" ["marks", "thing"] (spD K R_lot)) :
    Has P w K mg base CX0 4 "first_no_lot" ["marks", "lots"] (spD K R_fnl) := by
  obtain ⟨f, fd, F, g, b⟩ := D
  obtain ⟨f3, fd3, G3, g3, k3, b3⟩ := A3
  refine ⟨f, fd, F.ok sc_first_no_lot (fun vs H Q E h => len_spD (fun ds r ⟨m, d, e, _⟩ => by rw [e]; rfl) h) (fun cdv A outer s H vs Q E hr h => ?_), g, F.kp, b⟩
  obtain ⟨ds, r, hv, ⟨m, L, rfl, hF, hL, rfl⟩, q⟩ := h
  cases hv with
  | cons hm hn =>
    cases hn with
    | cons hd hn =>
      cases hn
      refine ⟨_, pss_cons (ps_for (passes_of rfl) rfl (pi_enumT (by rfl) B.enumerate (pa_cons (pv 1) pa_nil)) (pg_tup rfl (pgs_cons (pg_name (i := 2) sc_first_no_lot.nd rfl (.inl rfl)) (pgs_cons (pg_name (i := 3) sc_first_no_lot.nd rfl (.inl rfl)) pgs_nil)))
          (pss_one (ps_if (pt_not (pt_val (pe_call G3 hr (by rfl) g3 k3 b3 .nil pass0 (pa_cons (pv 0) (pa_cons (pv 3) pa_nil))))) (pss_one (ps_ret (pv 2))) pss_nil)))
        (pss_one (ps_ret pe_non)), ?_⟩
      obtain ⟨a, xs, rfl, hx, ha⟩ := dp_tup hd
      have hlen := dps_len ha
      rw [List.length_map] at hlen
      refine ⟨.ref a, rfl, a, xs, rfl, hx, for_it walk_enumT (fun i σ H' => Same H H' ∧ ∃ u2 u3, σ = [some _, some (.ref a), u2, u3]) ⟨Same.refl _, none, none, rfl⟩ (fun i σ H' _ h => same_t h.1 hx) (fun i x σ H3 H4 hlt h y => ?_) fun σ H' h => ?_⟩
      · obtain ⟨s3, u2, u3, rfl⟩ := h
        obtain ⟨T, x1, x2, rfl, hT, rfl, e1, e2⟩ := y
        have e1' : V.int (i : Nat) = x1 := Option.some.inj e1
        subst e1'
        have s4 := same_new (o := .tup [.int (i : Nat), x2]) hT
        obtain ⟨d, hd1, hd2⟩ := dps_get (dps_same s3 _ _ ha) e2
        rw [List.getElem?_map] at hd1
        obtain ⟨l, hl1, rfl⟩ := Option.map_eq_some_iff.mp hd1
        have hmem : l ∈ L := List.mem_of_getElem? hl1
        refine ⟨T, [.int (i : Nat), x2], rfl, .inl (.inl upd_same), rfl, .int (i : Nat), [x2], rfl, x2, [], rfl, rfl, ?_⟩
        refine y_if (b := false) ((yt_not (yt_B (yd_call (ya_cons (yd_var rfl (dp_same (s3.trans s4) _ _ hm)) (ya_cons (yd_var rfl (dp_same s4 _ _ hd2)) ya_nil)) ⟨m, encLot l, rfl, short_lot (hF.2 l hmem), rfl⟩))).is ?_) (fun e => nomatch e) (fun _ H5 s5 => ?_)
        · have := List.all_eq_true.mp hL l hmem
          rw [show lotD m (encLot l) = true from this]
          rfl
        · exact ⟨(s3.trans s4).trans s5, some (.int (i : Nat)), some x2, rfl⟩
      · obtain ⟨s3, u2, u3, rfl⟩ := h
        dsimp only
        refine y_ret (K := K) yd_non ?_
        exact fun v H2 s2 hv => q v H2 (s3.trans s2) hv
/-! ### Seats.__init__, with what is right -/
/-- seats as they stand -/
def SeatAt (K : Frag) (H : Hp) (C p : Addr) (m : Str) (L : Lots) : Prop := ∃ dx vl, H p = some (.ins C dx [("marks", .str m), ("lots", vl)]) ∧ Dp K H vl (encLots L)
theorem SeatAt.same {H H' : Hp} {C p : Addr} {m : Str} {L : Lots} (s : Same H H') (h : SeatAt K H C p m L) : SeatAt K H' C p m L := by
  obtain ⟨dx, vl, h1, h2⟩ := h
  exact ⟨dx, vl, s _ _ h1, dp_same s _ _ h2⟩
structure SeatF (K : Frag) (mg : Mg) (C fI : Addr) : Prop where
  g : mg "Seats" = some (.ref C)
  cl : Cls K C
  mks : Mk K C fI
  nm : NoAttr K C "marks"
  nl : NoAttr K C "lots"
def spSI (K : Frag) : Sp := fun vs H Q _ => ∃ p C dx m vl L, vs = [.ref p, .str m, vl] ∧ H p = some (.ins C dx []) ∧ Dp K H vl (encLots L) ∧ marksB m = true ∧ Few L ∧ L.length ≤ 40 ∧ L.all (lotB m) = true ∧ Cls K C ∧ NoAttr K C "marks" ∧ NoAttr K C "lots" ∧
  ∀ H', (∀ b o, b ≠ p → H b = some o → H' b = some o) → H' p = some (.ins C dx [("marks", .str m), ("lots", vl)]) → Q .non H'
theorem sc_seats_init : FnScope ["self", "marks", "lots", "at"] ["self", "marks", "lots"] (defScope s_seats_init) := ⟨rfl, rfl, rfl, by decide +kernel, rfl, by decide +kernel, by decide +kernel⟩
theorem marks_len {m : Str} (h : marksB m = true) : m.length ≤ 5 := by
  simp only [marksB, Bool.and_eq_true, decide_eq_true_eq] at h
  exact h.1
theorem ok_seats_init {f : Addr} {fd : FuncData} (F : FunD K "__init__" "Seats.__init__" (defArgs s_seats_init) (defBody s_seats_init) (defScope s_seats_init) [] [] f fd) (b : Binds K fd ["self", "marks", "lots"] []) (B : Blt mg)
    (A2 : Has P w K mg base CX0 2 "is_marks" ["thing"] (spD K R_marks)) (A4 : Has P w K mg base CX0 4 "first_no_lot" ["marks", "lots"] (spD K R_fnl)) (tm : ∃ t, mg "MOST_SEATS" = some (.int 40 t)) : HasI P w K mg base 5 f ["self", "marks", "lots"] (spSI K) := by
  obtain ⟨f2, fd2, G2, g2, k2, b2⟩ := A2
  obtain ⟨f4, fd4, G4, g4, k4, b4⟩ := A4
  obtain ⟨tm, hmm⟩ := tm
  refine ⟨fd, F.ok sc_seats_init (fun vs H Q E h => by obtain ⟨p, C, dx, m, vl, L, rfl, _⟩ := h; rfl) (fun cdv A outer s H vs Q E hr h => ?_), b⟩
  obtain ⟨p, C, dx, m, vl, L, rfl, hp, hd, hm, hF, hl, hL, cl, nm, nl, q⟩ := h
  refine ⟨_, pss_cons (ps_if (pt_not (pt_val (pe_call G2 (hr.mono (by decide)) (by rfl) g2 k2 b2 .nil pass0 (pa_cons (pv 1) pa_nil)))) (pss_one ps_never) pss_nil)
    (pss_cons (ps_if (PW.pt (pw_or (pt_not (pt_val (pe_callB call_isi (by rfl) B.isinstance PyProof.Rows.boot_isinstance (pa_cons (pv 2) (pa_cons (pe_bltn (v := .ty "tuple") (by rfl) B.tuple boot_tuple rfl) pa_nil)))))
        (pw_or1 (pt_cmpR op_gt (pe_callB call_len (by rfl) B.len PySem.boot_len (pa_cons (pv 2) pa_nil)) (pe_glob (v := .int 40) (by rfl) hmm ⟨_, rfl⟩) (nomark _))))) (pss_one ps_never) pss_nil)
    (pss_cons (ps_set (i := 3) sc_seats_init.nd rfl (.inl rfl) (pe_call G4 hr (by rfl) g4 k4 b4 .nil pass0 (pa_cons (pv 1) (pa_cons (pv 2) pa_nil))))
    (pss_cons (ps_if (pt_cmpR op_notN (pv 3) pe_non (nomark _)) (pss_one ps_never) pss_nil)
    (pss_cons (ps_fld (pv 0) (pv 1) rfl) (pss_one (ps_fld (pv 0) (pv 2) rfl)))))), ?_⟩
  have hs := short_lots hF
  have hlm := marks_len hm
  refine y_if (b := false) ((yt_not (yt_B (yd_call (ya_cons (yd_var (K := K) rfl (.str m)) ya_nil) ⟨.str m, rfl, decide_eq_true (by omega), rfl⟩))).is ?_) (fun e => nomatch e) (fun _ H1 s1 => ?_)
  · rw [show marksD (.str m) = true from hm]
    rfl
  refine y_if (b := false) ((yt_or (yt_not (yt_B (yd_isi rfl (kit_tup (encLots L)) (yd_var rfl (dp_same s1 _ _ hd))))) (fun _ => yt_test (yd_cmpI (yd_len (tup_items _) hs rfl (yd_var rfl (dp_same s1 _ _ hd))) yd_int))).is ?_) (fun e => nomatch e) (fun _ H2 s2 => ?_)
  · show (false || decide ((40 : Int) < ((L.map encLot).length : Nat))) = false
    rw [Bool.false_or, List.length_map]
    exact decide_eq_false (by omega)
  refine y_asg (yd_call (ya_cons (yd_var (K := K) rfl (.str m)) (ya_cons (yd_var rfl (dp_same (s1.trans s2) _ _ hd)) ya_nil)) ⟨m, L, rfl, hF, hL, rfl⟩) fun v H3 s3 hv => ?_
  have e := dp_none hv
  subst e
  refine ⟨.non, rfl, rfl, false, rfl, iteF ?_⟩
  have s4 := (s1.trans s2).trans s3
  refine ⟨.str m, rfl, .ref p, rfl, p, C, dx, [], rfl, s4 _ _ hp, cl, nm, by decide, ?_⟩
  refine ⟨vl, rfl, .ref p, rfl, p, C, dx, [("marks", .str m)], rfl, upd_same, cl, nl, by show 1 < 1000; decide, ?_⟩
  refine q _ (fun b o hb e => ?_) upd_same
  rw [upd_ne hb, upd_ne hb]
  exact s4 _ _ e
end
end K15

/-! The checks that raise. -/
namespace K15
open PySem PySem.Spec PyProof.Rows L2
section
variable {P : Program} {w : World} {K : Frag} {mg : Mg} {base : Heap} {C fI : Addr} {cs : Cls3}
theorem yd_marks (S : SeatF K mg C fI) {σ : St} {H : Hp} {i : Nat} {p : Addr} {m : Str} {L : Lots} (hv : σ[i]? = some (some (.ref p))) (h : SeatAt K H C p m L) : Yd K (tFld K (tVar i) "marks") σ H (.str m) := fun H1 s Q q => by
  obtain ⟨dx, vl, h1, h2⟩ := h.same s
  exact ⟨.ref p, hv, p, C, dx, _, .str m, rfl, h1, S.cl, S.nm, rfl, q _ H1 (Same.refl _) (.str m)⟩
theorem yd_lots (S : SeatF K mg C fI) {σ : St} {H : Hp} {i : Nat} {p : Addr} {m : Str} {L : Lots} (hv : σ[i]? = some (some (.ref p))) (h : SeatAt K H C p m L) : Yd K (tFld K (tVar i) "lots") σ H (encLots L) := fun H1 s Q q => by
  obtain ⟨dx, vl, h1, h2⟩ := h.same s
  exact ⟨.ref p, hv, p, C, dx, _, vl, rfl, h1, S.cl, S.nl, rfl, q _ H1 (Same.refl _) h2⟩

/-! ### check_same_marks -/
def outSame (m m' : Str) : Bad ⊕ PyData := if m = m' then .inr .none else .inl .marks
def spSame (K : Frag) (C : Addr) (cs : Cls3) : Sp := fun vs H Q E => ∃ p q m m' L M, vs = [.ref p, .ref q] ∧ SeatAt K H C p m L ∧ SeatAt K H C q m' M ∧ Ends2 K cs H Q E (outSame m m')
theorem sc_check_same_marks : FnScope ["one", "other"] ["one", "other"] (defScope s_check_same_marks) := ⟨rfl, rfl, rfl, by decide +kernel, rfl, by decide +kernel, by decide +kernel⟩
theorem ok_check_same_marks (D : DefAt K mg "check_same_marks" s_check_same_marks ["one", "other"]) (S : SeatF K mg C fI) (EO : ExcF K mg "OtherMarks" cs.cO) : Has P w K mg base (L2N.CX P w) 1 "check_same_marks" ["one", "other"] (spSame K C cs) := by
  obtain ⟨f, fd, F, g, b⟩ := D
  refine ⟨f, fd, F.ok sc_check_same_marks (fun vs H Q E h => by obtain ⟨p, q, m, m', L, M, rfl, _⟩ := h; rfl) (fun cdv A outer s H vs Q E hr h => ?_), g, F.kp, b⟩
  obtain ⟨p, q, m, m', L, M, rfl, h1, h2, k⟩ := h
  refine ⟨_, pss_one (ps_if (pt_cmpR op_ne (pe_fld (pv 0) rfl) (pe_fld (pv 1) rfl) (nomark _)) (pss_one (ps_bad0 (C := cs.cO) EO rfl (L2N.takes_of rfl rfl rfl rfl) (by rfl))) pss_nil), ?_⟩
  refine y_if (yt_test (yd_neS (yd_marks S rfl h1) (yd_marks S rfl h2))) (fun e H1 s1 => ?_) (fun e H1 s1 => ?_)
  · have e2 : ¬ m = m' := by simpa using e
    unfold outSame at k
    rw [if_neg e2] at k
    exact k _ _ _ s1 ⟨rfl, rfl⟩
  · have e2 : m = m' := by simpa using e
    unfold outSame at k
    rw [if_pos e2] at k
    exact k _ _ s1 .non

/-! ### check_lots -/
def outLots (m : Str) (o : Option PyData) : Bad ⊕ PyData := if oLots m o = true then .inr .none else .inl .lots
def spLots (K : Frag) (cs : Cls3) : Sp := fun vs H Q E => ∃ m vm vt o, vs = [vm, vt] ∧ Dp K H vm (.str m) ∧ Thing K H vt o ∧ Ends2 K cs H Q E (outLots m o)
theorem sc_check_lots : FnScope ["marks", "thing", "lot"] ["marks", "thing"] (defScope s_check_lots) := ⟨rfl, rfl, rfl, by decide +kernel, rfl, by decide +kernel, by decide +kernel⟩
theorem ok_check_lots (D : DefAt K mg "check_lots" s_check_lots ["marks", "thing"]) (B : Blt mg) (A1 : Has P w K mg base CX0 1 "is_ascending" ["items"] (spD K R_asc)) (A3 : Has P w K mg base CX0 3 "is_lot" ["marks", "thing"] (spD K R_lot))
    (EN : ExcF K mg "NoLots" cs.cN) (tm : ∃ t, mg "MOST_TOLD" = some (.int 4 t)) : Has P w K mg base (L2N.CX P w) 4 "check_lots" ["marks", "thing"] (spLots K cs) := by
  obtain ⟨f, fd, F, g, b⟩ := D
  obtain ⟨f1, fd1, G1, g1, k1, b1⟩ := A1
  obtain ⟨f3, fd3, G3, g3, k3, b3⟩ := A3
  obtain ⟨tm, hmm⟩ := tm
  refine ⟨f, fd, F.ok sc_check_lots (fun vs H Q E h => by obtain ⟨m, vm, vt, o, rfl, _⟩ := h; rfl) (fun cdv A outer s H vs Q E hr h => ?_), g, F.kp, b⟩
  obtain ⟨m, vm, vt, o, rfl, hm, hd, q⟩ := h
  refine ⟨_, pss_cons (ps_if (PW.pt (pw_or (pt_not (pt_val (pe_callB call_isi (by rfl) B.isinstance PyProof.Rows.boot_isinstance (pa_cons (pv 1) (pa_cons (pe_bltn (v := .ty "tuple") (by rfl) B.tuple boot_tuple rfl) pa_nil)))))
      (pw_or1 (pt_not (pt_chain op_le op_le pe_int (pe_callB call_len (by rfl) B.len PySem.boot_len (pa_cons (pv 1) pa_nil)) (pe_glob (v := .int 4) (by rfl) hmm ⟨_, rfl⟩))))))
      (pss_one (ps_bad0 (C := cs.cN) EN rfl (L2N.takes_of rfl rfl rfl rfl) (by rfl))) pss_nil)
    (pss_one (ps_if (PW.pt (pw_or (pt_not (pt_val (pe_callB (cr_all rfl) (by rfl) B.all PyProof.Rows.boot_all (pa_cons (pe_lc (own := [("lot", 2)]) (g := gName 2) (tt := tYes) rfl sc_check_lots.nd
        (pi_tup (pv 1)) (blkOk_by (N := ["marks", "thing", "lot"]) (sc := defScope s_check_lots) (by decide +kernel)) (fun _ _ _ _ _ => pg_name (i := 2) sc_check_lots.nd rfl (Or.inl rfl)) (fun _ _ _ _ _ => pts_nil)
        (fun _ _ _ _ _ => pe_call G3 hr (by rfl) g3 k3 b3 .nil pass0 (pa_cons (pv 0) (pa_cons (pv 2) pa_nil)))) pa_nil))))
      (pw_or1 (pt_not (pt_val (pe_call G1 (hr.mono (by decide)) (by rfl) g1 k1 b1 .nil pass0 (pa_cons (pv 1) pa_nil)))))))
      (pss_one (ps_bad0 (C := cs.cN) EN rfl (L2N.takes_of rfl rfl rfl rfl) (by rfl))) pss_nil)), ?_⟩
  have bad : oLots m o = false → ∀ H1, Same H H1 → E (.ref cs.cN) none H1 := fun e H1 s1 => by
    unfold outLots at q
    rw [e] at q
    exact q _ _ _ s1 ⟨rfl, rfl⟩
  cases hz : oTup o with
  | false =>
    exact y_if (b := true) ((yt_or (b := false) (yt_not (yt_B (yd_thing rfl rfl hd))) (fun e => absurd e (by rw [hz]; decide))).is (by rw [hz]; rfl)) (fun _ H1 s1 => bad (not_otup hz) H1 s1) (fun e => nomatch e)
  | true =>
    obtain ⟨xs, rfl⟩ := of_otup hz
    obtain ⟨hd, hs⟩ := hd
    have hl : xs.length ≤ 1000 := short_items (tup_items xs) hs
    refine y_if (b := !(decide (1 ≤ xs.length) && decide (xs.length ≤ 4))) ((yt_or (yt_not (yt_B (yd_thing (o := some (.tuple xs)) rfl rfl ⟨hd, hs⟩))) (fun _ => yt_not (yt_chain yd_int (yd_len (tup_items xs) hs rfl (yd_var rfl hd)) yd_int))).is ?_) (fun e H1 s1 => bad ?_ H1 s1) (fun e H1 s1 => ?_)
    · show (false || !(decide ((1 : Int) ≤ (xs.length : Nat)) && decide (((xs.length : Nat) : Int) ≤ 4))) = _
      rw [Bool.false_or]
      congr 2
      · exact decide_eq_decide.mpr (by omega)
      · exact decide_eq_decide.mpr (by omega)
    · show (decide (1 ≤ xs.length) && decide (xs.length ≤ 4) && _) = false
      rw [Bool.not_eq_true'] at e
      rw [e]
      rfl
    · have hd1 := dp_same s1 _ _ hd
      have hm1 := dp_same s1 _ _ hm
      have e4 : oLots m (some (.tuple xs)) = (xs.all (lotD m) && ascD xs) := by
        show (decide (1 ≤ xs.length) && decide (xs.length ≤ 4) && _) = _
        rw [Bool.not_eq_false'] at e
        rw [e]
        rfl
      dsimp only [tNext]
      refine y_if (b := !(xs.all (lotD m) && ascD xs)) ((yt_or (yt_not (yt_B (yd_alls (p := lotD m) rfl (yd_lcm (f := fun d => .bool (lotD m d)) (ydi_tup (yd_var rfl hd1)) hl (fun _ _ => rfl)
          (fun H2 v2 d2 s2 hmem hd2 => yd_call (R := R_lot) (ya_cons (yd_var rfl (dp_same s2 _ _ hm1)) (ya_cons (yd_var rfl hd2) ya_nil)) ⟨m, d2, rfl, short_mem hs d2 hmem, rfl⟩)))))
          (b := !ascD xs) (fun hk => yt_not (yt_B (yd_call (R := R_asc) (ya_cons (yd_var rfl hd1) ya_nil) ⟨_, _, rfl, tup_items xs, hs, lots_cmp (m := m) (by simpa only [Bool.not_eq_false'] using hk), rfl⟩)))).is (by rw [Bool.not_and])) (fun e2 H2 s2 => ?_) (fun e2 H2 s2 => ?_)
      · exact bad (by rw [e4]; simpa only [Bool.not_eq_true'] using e2) H2 (s1.trans s2)
      unfold outLots at q
      have e3 : (xs.all (lotD m) && ascD xs) = true := by simpa only [Bool.not_eq_false'] using e2
      rw [e4, e3] at q
      exact q _ _ (s1.trans s2) .non
end
end K15

/-! The kinds of some marks. -/
namespace K15
open PySem PySem.Spec PyProof.Rows L2

/-! ### the mathematics -/
def grow (fs : List Str) (c : Nat) : List Str := fs ++ fs.map (· ++ ⟨#[c]⟩)
def foundAt (m : Str) (i : Nat) : List Str := (m.cps.toList.take i).foldl grow [("" : Str)]
def unS : PyData → Str
  | .str z => z
  | _ => ⟨#[]⟩
def sortD (ds : List PyData) : List PyData := ds.mergeSort (PySem.W.dataLe false id)
def kindsOf (m : Str) : List Str := (sortD ((foundAt m m.length).map .str)).map unS
theorem unS_strs : ∀ {ds : List PyData}, (∀ d ∈ ds, ∃ z, d = .str z) → (ds.map unS).map PyData.str = ds
  | [], _ => rfl
  | d :: ds, h => by
    obtain ⟨z, rfl⟩ := h d List.mem_cons_self
    rw [List.map_cons, List.map_cons, unS_strs fun e he => h e (List.mem_cons_of_mem _ he)]
    rfl
theorem strs_of_map {l : List Str} : ∀ d ∈ l.map PyData.str, ∃ z, d = .str z := fun d hd => by
  obtain ⟨z, _, rfl⟩ := List.mem_map.mp hd
  exact ⟨z, rfl⟩
theorem sort_strs (l : List Str) : ((sortD (l.map .str)).map unS).map PyData.str = sortD (l.map .str) :=
  unS_strs fun d hd => strs_of_map d ((List.mergeSort_perm _ _).mem_iff.mp hd)
theorem kinds_back (m : Str) : (kindsOf m).map PyData.str = sortD ((foundAt m m.length).map .str) := sort_strs _
theorem str_len_app (a b : Str) : (a ++ b).length = a.length + b.length := by
  show (a.cps ++ b.cps).size = _
  rw [Array.size_append]
  rfl
theorem grow_len (fs : List Str) (c : Nat) : (grow fs c).length = 2 * fs.length := by
  unfold grow
  rw [List.length_append, List.length_map]
  omega
theorem fold_len : ∀ (cs : List Nat) (fs : List Str), (cs.foldl grow fs).length = 2 ^ cs.length * fs.length
  | [], fs => by simp
  | c :: cs, fs => by
    rw [List.foldl_cons, fold_len cs, grow_len, List.length_cons, Nat.pow_succ, Nat.mul_assoc]
theorem fold_small : ∀ (cs : List Nat) (fs : List Str) (n : Nat), (∀ z ∈ fs, z.length ≤ n) → ∀ z ∈ cs.foldl grow fs, z.length ≤ n + cs.length
  | [], fs, n, h, z, hz => h z hz
  | c :: cs, fs, n, h, z, hz => by
    rw [List.foldl_cons] at hz
    have q := fold_small cs (grow fs c) (n + 1) (fun y hy => by
      rcases List.mem_append.mp hy with hy | hy
      · have := h y hy
        omega
      · obtain ⟨x, hx, rfl⟩ := List.mem_map.mp hy
        rw [str_len_app]
        have := h x hx
        show x.length + 1 ≤ n + 1
        omega) z hz
    rw [List.length_cons]
    omega
theorem found_len {m : Str} {i : Nat} (h : i ≤ 5) : (foundAt m i).length ≤ 32 := by
  unfold foundAt
  rw [fold_len]
  have h1 : (m.cps.toList.take i).length ≤ 5 := by
    rw [List.length_take]
    omega
  have h2 := Nat.pow_le_pow_right (show 0 < 2 by decide) h1
  show 2 ^ _ * 1 ≤ 32
  omega
theorem found_small {m : Str} {i : Nat} (h : i ≤ 5) : ∀ z ∈ foundAt m i, z.length ≤ 5 := fun z hz => by
  have q := fold_small (m.cps.toList.take i) [("" : Str)] 0 (fun y hy => by
    rw [List.mem_singleton.mp hy]
    decide) z hz
  have h1 : (m.cps.toList.take i).length ≤ 5 := by
    rw [List.length_take]
    omega
  omega
theorem found_step {m : Str} {i c : Nat} (h : m.cps.toList[i]? = some c) : foundAt m (i + 1) = grow (foundAt m i) c := by
  unfold foundAt
  rw [take_succ_some h, List.foldl_append]
  rfl
/-! ### order -/
theorem le_total : PySem.W.TotalLe (PySem.W.dataLe (β := PyData) false id) := PySem.W.sortLe_total (listOrd itemOrd) false fun b : PyData => PySem.W.keyToks (id b)
theorem le_eq (a b : PyData) : PySem.W.dataLe false id a b = !PySem.W.dataLt b a := rfl
theorem lt_asymm {a b : PyData} (h : PySem.W.dataLt a b = true) : PySem.W.dataLt b a = false := by
  cases q : PySem.W.dataLt b a with
  | false => rfl
  | true =>
    have := lex_trans (O := itemOrd) _ _ _ h q
    rw [show lexLt itemOrd (PySem.W.keyToks a) (PySem.W.keyToks a) = false from lex_irrefl _] at this
    cases this
theorem lt_anti {a b : PyData} (ha : PySem.W.alike a b = true) (h1 : PySem.W.dataLt a b = false) (h2 : PySem.W.dataLt b a = false) : PyData.eqv a b = true := by
  have e : PySem.W.keyToks a = PySem.W.keyToks b := lex_total (O := itemOrd) _ _ h1 h2
  cases q : PyData.eqv a b with
  | true => rfl
  | false =>
    have := (PySem.W.toks_eqv a b ha).2 q [] [.inl 0]
    rw [e, List.append_nil] at this
    have t1 : lexLt itemOrd (PySem.W.keyToks b) (PySem.W.keyToks b ++ [.inl 0]) = true := by
      have := PySem.W.lex_pre (PySem.W.keyToks b) [] [.inl 0]
      rw [List.append_nil] at this
      rw [this]
      rfl
    rw [t1, show lexLt itemOrd (PySem.W.keyToks b) (PySem.W.keyToks b) = false from lex_irrefl _] at this
    cases this
abbrev Asc (ds : List PyData) : Prop := ds.Pairwise fun a b => PySem.W.dataLt a b = true
/-- alike, and no two look the same -/
def Sharp (ds : List PyData) : Prop := PySem.W.AllAlike ds ∧ ∀ a ∈ ds, ∀ b ∈ ds, PyData.eqv a b = true → a = b
theorem Sharp.sub {ds es : List PyData} (h : Sharp ds) (s : ∀ d ∈ es, d ∈ ds) : Sharp es := ⟨fun a ha b hb => h.1 a (s a ha) b (s b hb), fun a ha b hb => h.2 a (s a ha) b (s b hb)⟩
theorem sort_perm (ds : List PyData) : (sortD ds).Perm ds := List.mergeSort_perm _ _
theorem sort_le (ds : List PyData) : (sortD ds).Pairwise fun a b => PySem.W.dataLe false id a b = true := List.pairwise_mergeSort le_total.trans (fun a b => by
  rcases le_total.total a b with h | h
  · rw [h]
    rfl
  · rw [h, Bool.or_true]) ds
/-- a list that is in order and has the same members is the sorted one -/
theorem sort_is {ds es : List PyData} (hp : es.Perm ds) (hs : Asc es) (h : Sharp ds) : sortD ds = es := by
  refine List.Perm.eq_of_pairwise (le := fun a b => PySem.W.dataLe false id a b = true) (fun a b ha hb h1 h2 => ?_) (sort_le ds) (hs.imp fun {a b} q => ?_) ((sort_perm ds).trans hp.symm)
  · have ha' := (sort_perm ds).mem_iff.mp ha
    have hb' := hp.mem_iff.mp hb
    rw [le_eq] at h1 h2
    exact h.2 a ha' b hb' (lt_anti (h.1 a ha' b hb') (by simpa using h2) (by simpa using h1))
  · show PySem.W.dataLe false id a b = true
    rw [le_eq, lt_asymm q]
    rfl
theorem sort_asc {ds : List PyData} (h : Sharp ds) (hn : ds.Nodup) : Asc (sortD ds) := by
  have hn2 : (sortD ds).Nodup := (sort_perm ds).nodup_iff.mpr hn
  have h2 := h.sub fun d hd => (sort_perm ds).mem_iff.mp hd
  have key : ∀ l : List PyData, (l.Pairwise fun a b => PySem.W.dataLe false id a b = true) → l.Nodup → Sharp l → Asc l := by
    intro l
    induction l with
    | nil => exact fun _ _ _ => List.Pairwise.nil
    | cons a l ih =>
      intro h1 h2 h3
      obtain ⟨p1, p2⟩ := List.pairwise_cons.mp h1
      obtain ⟨n1, n2⟩ := List.nodup_cons.mp h2
      refine List.pairwise_cons.mpr ⟨fun b hb => ?_, ih p2 n2 (h3.sub fun d hd => List.mem_cons_of_mem _ hd)⟩
      have q := p1 b hb
      rw [le_eq] at q
      cases e : PySem.W.dataLt a b with
      | true => rfl
      | false =>
        have ea := h3.2 a List.mem_cons_self b (List.mem_cons_of_mem _ hb) (lt_anti (h3.1 a List.mem_cons_self b (List.mem_cons_of_mem _ hb)) e (by simpa using q))
        exact absurd (ea ▸ hb) n1
  exact key _ (sort_le ds) hn2 h2
theorem asc_of {xs : List PyData} (h : Asc xs) : ascD xs = true := by
  unfold ascD
  refine List.all_eq_true.mpr fun i hi => ?_
  have hi' := List.mem_range.mp hi
  have h0 : i < xs.length := by omega
  have h1 : i + 1 < xs.length := by omega
  rw [List.getD_eq_getElem?_getD, List.getD_eq_getElem?_getD, List.getElem?_eq_getElem h0, List.getElem?_eq_getElem h1]
  exact List.pairwise_iff_getElem.mp h i (i + 1) h0 h1 (by omega)
theorem sharp_strs (l : List Str) : Sharp (l.map .str) := ⟨(strs_cmp strs_of_map).1, fun a ha b hb e => by
  obtain ⟨x, _, rfl⟩ := List.mem_map.mp ha
  obtain ⟨y, _, rfl⟩ := List.mem_map.mp hb
  have e2 : x = y := by simpa [PyData.eqv] using e
  rw [e2]⟩
theorem eqv_lot (l k : Lot) : PyData.eqv (encLot l) (encLot k) = decide (l = k) := by
  have h := PySem.W.Datum.eqv (α := PySem.W.Tup Str) ⟨l⟩ ⟨k⟩
  refine Eq.trans h (decide_eq_decide.mpr ⟨fun e => ?_, fun e => by rw [e]⟩)
  injection e
theorem alike_lot (l k : Lot) : PySem.W.alike (encLot l) (encLot k) = true := PySem.W.DatumOrd.alike (α := PySem.W.Tup Str) ⟨l⟩ ⟨k⟩
theorem sharp_lots (L : Lots) : Sharp (L.map encLot) := ⟨fun a ha b hb => by
  obtain ⟨x, _, rfl⟩ := List.mem_map.mp ha
  obtain ⟨y, _, rfl⟩ := List.mem_map.mp hb
  exact alike_lot x y, fun a ha b hb e => by
  obtain ⟨x, _, rfl⟩ := List.mem_map.mp ha
  obtain ⟨y, _, rfl⟩ := List.mem_map.mp hb
  rw [eqv_lot] at e
  rw [of_decide_eq_true e]⟩
/-! ### the kinds, written -/
abbrev AscS (l : List Str) : Prop := l.Pairwise fun a b => a.cps.toList < b.cps.toList
theorem asc_strs {l : List Str} (h : AscS l) : Asc (l.map .str) := by
  refine List.pairwise_map.mpr (h.imp fun {a b} q => ?_)
  rw [show PySem.W.dataLt (.str a) (.str b) = _ from PySem.W.dataLt_str a b]
  exact decide_eq_true q
theorem kinds_is {m : Str} {l : List Str} (hp : l.Perm (foundAt m m.length)) (hs : AscS l) : kindsOf m = l := by
  unfold kindsOf
  rw [sort_is (hp.map _) (asc_strs hs) (sharp_strs _), List.map_map]
  exact List.map_id l
def kA : List Str := [("" : Str), ("a" : Str)]
def kB : List Str := [("" : Str), ("b" : Str)]
def kAB : List Str := [("" : Str), ("a" : Str), ("ab" : Str), ("b" : Str)]
def kABC : List Str := [("" : Str), ("a" : Str), ("ab" : Str), ("abc" : Str), ("ac" : Str), ("b" : Str), ("bc" : Str), ("c" : Str)]
def kABCD : List Str := [("" : Str), ("a" : Str), ("ab" : Str), ("abc" : Str), ("abcd" : Str), ("abd" : Str), ("ac" : Str), ("acd" : Str)] ++ [("ad" : Str), ("b" : Str), ("bc" : Str), ("bcd" : Str), ("bd" : Str), ("c" : Str), ("cd" : Str), ("d" : Str)]
theorem kinds_e : kindsOf ("" : Str) = [("" : Str)] := kinds_is (by decide +kernel) (by decide +kernel)
theorem kinds_a : kindsOf ("a" : Str) = kA := kinds_is (by decide +kernel) (by decide +kernel)
theorem kinds_b : kindsOf ("b" : Str) = kB := kinds_is (by decide +kernel) (by decide +kernel)
theorem kinds_ab : kindsOf ("ab" : Str) = kAB := kinds_is (by decide +kernel) (by decide +kernel)
theorem kinds_abc : kindsOf ("abc" : Str) = kABC := kinds_is (by decide +kernel) (by decide +kernel)
theorem kinds_abcd : kindsOf ("abcd" : Str) = kABCD := kinds_is (by decide +kernel) (by decide +kernel)
end K15

/-! all_kinds and the law's own. -/
namespace K15
open PySem PySem.Spec PyProof.Rows L2
section
variable {P : Program} {w : World} {K : Frag} {mg : Mg} {base : Heap}
theorem y_asgL {σ : St} {H : Hp} {te : TE} {ds : List PyData} {D : Ends} {i : Nat} (h : YdL K te σ H ds) (k : ∀ a vs H1, Same H H1 → H1 a = some (.lst vs) → DpAll K H1 vs ds → D.nx (σ.set i (some (.ref a))) H1) : tAsg te (gName i) D σ H := h H (Same.refl _) _ fun a vs H1 s e hv => k a vs H1 s e hv
theorem ydi_lstL {σ : St} {H : Hp} {tl : TE} {ds : List PyData} (h : YdL K tl σ H ds) : YdI K (iList K tl) σ H ds := ydi_lst h.yd
theorem noL_strs (l : List Str) : noLs (l.map .str) = true := noLs_of fun d hd => by
  obtain ⟨z, rfl⟩ := strs_of_map d hd
  rfl
def appS (c : Nat) : PyData → PyData
  | .str z => .str (z ++ ⟨#[c]⟩)
  | d => d
def R_kinds (ds : List PyData) (r : PyData) : Prop := ∃ m, ds = [.str m] ∧ m.length ≤ 5 ∧ r = .list ((kindsOf m).map .str)
theorem sort_ok {m : Str} (hm : m.length ≤ 5) {σ : St} {H : Hp} {te : TE} {r : List V → Hp → VK → Prop} (hr : r = rSortD K) (h : Yd K te σ H (.list ((foundAt m m.length).map .str))) : Yd K (tCB r (tCons te tNil)) σ H (.list ((kindsOf m).map .str)) := by
  subst hr
  refine fun H1 s Q q => h H1 s _ fun v H2 s2 hv => ⟨v, _, rfl, hv, noL_strs _, ?_, (sharp_strs _).1, .inr fun d hd => ?_, fun d hd => ?_, fun w H' s3 hw => q w H' (s2.trans s3) ?_⟩
  · rw [List.length_map]
    have := found_len (m := m) hm
    omega
  · obtain ⟨z, rfl⟩ := strs_of_map d hd
    exact ⟨(fun z => nomatch z), fun _ z => nomatch z⟩
  · obtain ⟨z, rfl⟩ := strs_of_map d hd
    simp [PyData.depth]
  · rw [kinds_back]
    exact hw
theorem kinds_loop {m : Str} {i c : Nat} (hm : m.length ≤ 5) (hi : m.cps.toList[i]? = some c) : ((foundAt m i).map PyData.str) ++ ((foundAt m i).map PyData.str).map (appS c) = (foundAt m (i + 1)).map .str ∧ ((foundAt m i).map PyData.str).length ≤ 32 ∧ ∀ d ∈ (foundAt m i).map PyData.str, ∃ z, d = .str z ∧ z.length ≤ 5 := by
  have hlt : i < m.length := by
    have := (List.getElem?_eq_some_iff.mp hi).1
    simpa [Str.length] using this
  refine ⟨?_, ?_, fun d hd => ?_⟩
  · rw [found_step hi, grow, List.map_append, List.map_map, List.map_map]
    rfl
  · rw [List.length_map]
    exact found_len (by omega)
  · obtain ⟨z, hz, rfl⟩ := List.mem_map.mp hd
    exact ⟨z, rfl, found_small (by omega) z hz⟩
theorem sc_all_kinds : FnScope ["marks", "found", "mark", "kind"] ["marks"] (defScope s_all_kinds) := ⟨rfl, rfl, rfl, by decide +kernel, rfl, by decide +kernel, by decide +kernel⟩
theorem ok_all_kinds (D : DefAt K mg "all_kinds" s_all_kinds ["marks"]) (B : Blt mg) : Has P w K mg base CX0 1 "all_kinds" ["marks"] (spD K R_kinds) := by
  obtain ⟨f, fd, F, g, b⟩ := D
  refine ⟨f, fd, F.ok sc_all_kinds (fun vs H Q E h => len_spD (fun ds r ⟨d, e, _⟩ => by rw [e]; rfl) h) (fun cdv A outer s H vs Q E hr h => ?_), g, F.kp, b⟩
  obtain ⟨ds, r, hv, ⟨m, rfl, hm, rfl⟩, q⟩ := h
  cases hv with
  | cons hd hn =>
    cases hn
    have e := dp_str hd
    subst e
    refine ⟨_, pss_cons (ps_set (i := 1) sc_all_kinds.nd rfl (.inl rfl) (pe_lst (pa_cons pe_str pa_nil)))
      (pss_cons (ps_for (passes_of rfl) rfl (pi_str (pv 0)) (pg_name (i := 2) sc_all_kinds.nd rfl (.inr rfl))
        (pss_one (ps_set (i := 1) sc_all_kinds.nd rfl (.inl rfl) (pe_op op_cat (pv 1) (pe_lc (own := [("kind", 3)]) (g := gName 3) (tt := tYes) rfl sc_all_kinds.nd
          (pi_list (pv 1)) (blkOk_by (N := ["marks", "found", "mark", "kind"]) (sc := defScope s_all_kinds) (by decide +kernel)) (fun _ _ _ _ _ => pg_name (i := 3) sc_all_kinds.nd rfl (Or.inl rfl)) (fun _ _ _ _ _ => pts_nil)
          (fun _ _ _ _ _ => pe_op op_add_str (pv 3) (pv 2)))))))
      (pss_one (ps_ret (pe_callB (cr_sortD hr.units) (by rfl) B.sorted PyProof.Rows.boot_sorted (pa_cons (pv 1) pa_nil))))), ?_⟩
    refine y_asgL (K := K) (yl_lst (ya_cons yd_str ya_nil) (by decide)) fun a0 vs0 H1 s1 e1 h1 => ?_
    refine y_for (K := K) (ydi_str (yd_var rfl (.str m))) (fun i σ' H' => ∃ a vs u, σ' = [some (.str m), some (.ref a), u, none] ∧ H' a = some (.lst vs) ∧ DpAll K H' vs ((foundAt m i).map .str)) (fun H2 s2 => ⟨a0, vs0, none, rfl, s2 _ _ e1, dps_same s2 _ _ h1⟩)
      (fun H2 s2 i d σ' H3 H4 x s3 s4 hi hp hx => ?_) (fun σ' H' s2 hp => ?_)
    · obtain ⟨a, vs, u, rfl, ea, ha⟩ := hp
      rw [List.getElem?_map] at hi
      obtain ⟨c, hc, rfl⟩ := Option.map_eq_some_iff.mp hi
      have ex := dp_str hx
      subst ex
      obtain ⟨k1, k2, k3⟩ := kinds_loop hm hc
      have ea4 := s4 _ _ ea
      have ha4 := dps_same s4 _ _ ha
      refine y_asgL (K := K) (ds := (foundAt m (i + 1)).map .str) ((yl_cat (yl_var rfl ea4 ha4) (yl_lcm (f := appS c) (ydi_lstL (yl_var rfl ea4 ha4)) (by omega) (fun d hd => ?_) (fun H5 v d s5 hd hv => ?_)) ?_).is k1) fun a' vs' H5 s5 e5 h5 => ⟨(s3.trans s4).trans s5, a', vs', some (.str ⟨#[c]⟩), rfl, e5, h5⟩
      · obtain ⟨z, rfl, _⟩ := k3 d hd
        rfl
      · obtain ⟨z, rfl, hz⟩ := k3 d hd
        exact yd_addS rfl (yd_var rfl hv) (yd_var rfl (.str ⟨#[c]⟩)) (by show z.length + 1 ≤ 1000; omega)
      · simp only [List.length_map] at k2 ⊢
        omega
    · obtain ⟨a, vs, u, rfl, ea, ha⟩ := hp
      have el : (m.cps.toList.map fun c => PyData.str ⟨#[c]⟩).length = m.length := signs_len m
      rw [el] at ha
      dsimp only
      refine y_ret (sort_ok hm rfl (yl_var rfl ea ha).yd) ?_
      exact fun v H3 s3 hv => q v H3 ((s1.trans s2).trans s3) hv
theorem sc_law_kinds : FnScope ["_law_marks_here", "_law_found", "_law_mark", "_law_kind"] ["_law_marks_here"] (defScope s_law_kinds) := ⟨rfl, rfl, rfl, by decide +kernel, rfl, by decide +kernel, by decide +kernel⟩
theorem ok_law_kinds (D : DefAt K mg "_law_kinds" s_law_kinds ["_law_marks_here"]) (B : Blt mg) : Has P w K mg base CX0 1 "_law_kinds" ["_law_marks_here"] (spD K R_kinds) := by
  obtain ⟨f, fd, F, g, b⟩ := D
  refine ⟨f, fd, F.ok sc_law_kinds (fun vs H Q E h => len_spD (fun ds r ⟨d, e, _⟩ => by rw [e]; rfl) h) (fun cdv A outer s H vs Q E hr h => ?_), g, F.kp, b⟩
  obtain ⟨ds, r, hv, ⟨m, rfl, hm, rfl⟩, q⟩ := h
  cases hv with
  | cons hd hn =>
    cases hn
    have e := dp_str hd
    subst e
    refine ⟨_, pss_cons (ps_set (i := 1) sc_law_kinds.nd rfl (.inl rfl) (pe_lst (pa_cons pe_str pa_nil)))
      (pss_cons (ps_for (passes_of rfl) rfl (pi_str (pv 0)) (pg_name (i := 2) sc_law_kinds.nd rfl (.inr rfl))
        (pss_one (ps_set (i := 1) sc_law_kinds.nd rfl (.inl rfl) (pe_op op_cat (pv 1) (pe_lc (own := [("_law_kind", 3)]) (g := gName 3) (tt := tYes) rfl sc_law_kinds.nd
          (pi_list (pv 1)) (blkOk_by (N := ["_law_marks_here", "_law_found", "_law_mark", "_law_kind"]) (sc := defScope s_law_kinds) (by decide +kernel)) (fun _ _ _ _ _ => pg_name (i := 3) sc_law_kinds.nd rfl (Or.inl rfl)) (fun _ _ _ _ _ => pts_nil)
          (fun _ _ _ _ _ => pe_op op_add_str (pv 3) (pv 2)))))))
      (pss_one (ps_ret (pe_callB (cr_sortD hr.units) (by rfl) B.sorted PyProof.Rows.boot_sorted (pa_cons (pv 1) pa_nil))))), ?_⟩
    refine y_asgL (K := K) (yl_lst (ya_cons yd_str ya_nil) (by decide)) fun a0 vs0 H1 s1 e1 h1 => ?_
    refine y_for (K := K) (ydi_str (yd_var rfl (.str m))) (fun i σ' H' => ∃ a vs u, σ' = [some (.str m), some (.ref a), u, none] ∧ H' a = some (.lst vs) ∧ DpAll K H' vs ((foundAt m i).map .str)) (fun H2 s2 => ⟨a0, vs0, none, rfl, s2 _ _ e1, dps_same s2 _ _ h1⟩)
      (fun H2 s2 i d σ' H3 H4 x s3 s4 hi hp hx => ?_) (fun σ' H' s2 hp => ?_)
    · obtain ⟨a, vs, u, rfl, ea, ha⟩ := hp
      rw [List.getElem?_map] at hi
      obtain ⟨c, hc, rfl⟩ := Option.map_eq_some_iff.mp hi
      have ex := dp_str hx
      subst ex
      obtain ⟨k1, k2, k3⟩ := kinds_loop hm hc
      have ea4 := s4 _ _ ea
      have ha4 := dps_same s4 _ _ ha
      refine y_asgL (K := K) (ds := (foundAt m (i + 1)).map .str) ((yl_cat (yl_var rfl ea4 ha4) (yl_lcm (f := appS c) (ydi_lstL (yl_var rfl ea4 ha4)) (by omega) (fun d hd => ?_) (fun H5 v d s5 hd hv => ?_)) ?_).is k1) fun a' vs' H5 s5 e5 h5 => ⟨(s3.trans s4).trans s5, a', vs', some (.str ⟨#[c]⟩), rfl, e5, h5⟩
      · obtain ⟨z, rfl, _⟩ := k3 d hd
        rfl
      · obtain ⟨z, rfl, hz⟩ := k3 d hd
        exact yd_addS rfl (yd_var rfl hv) (yd_var rfl (.str ⟨#[c]⟩)) (by show z.length + 1 ≤ 1000; omega)
      · simp only [List.length_map] at k2 ⊢
        omega
    · obtain ⟨a, vs, u, rfl, ea, ha⟩ := hp
      have el : (m.cps.toList.map fun c => PyData.str ⟨#[c]⟩).length = m.length := signs_len m
      rw [el] at ha
      dsimp only
      refine y_ret (sort_ok hm rfl (yl_var rfl ea ha).yd) ?_
      exact fun v H3 s3 hv => q v H3 ((s1.trans s2).trans s3) hv
end
end K15

/-! Free seats: who takes, what is left behind. -/
namespace K15
open PySem PySem.Spec PyProof.Rows L2
section
variable {P : Program} {w : World} {K : Frag} {mg : Mg} {base : Heap} {C fI : Addr} {cs : Cls3}
variable {σ : St} {H : Hp} {ta tb te : TE} {d : PyData}
def noneD : PyData → Bool
  | .none => true
  | _ => false
theorem dp_isNon {v : V} (h : Dp K H v d) : decide (v = V.non) = noneD d := by
  cases h with
  | non => rfl
  | bl b => rfl
  | int i => rfl
  | str x => rfl
  | lst _ _ => rfl
  | tup _ _ => rfl
theorem yd_isN (ha : Yd K ta σ H d) {r : R2} (hr : r = fun x y H Q => y = .non ∧ Q (.bl (decide (x = .non))) H) : Yd K (tOp r ta (tC .non)) σ H (.bool (noneD d)) := by
  subst hr
  exact fun H1 s Q q => ha H1 s _ fun v H2 s2 hv => ⟨rfl, by
    rw [dp_isNon hv]
    exact q _ H2 s2 (.bl _)⟩
theorem yd_notN (ha : Yd K ta σ H d) {r : R2} (hr : r = fun x y H Q => y = .non ∧ Q (.bl (!decide (x = .non))) H) : Yd K (tOp r ta (tC .non)) σ H (.bool (!noneD d)) := by
  subst hr
  exact fun H1 s Q q => ha H1 s _ fun v H2 s2 hv => ⟨rfl, by
    rw [dp_isNon hv]
    exact q _ H2 s2 (.bl _)⟩
theorem yd_tupOf {xs : List PyData} {r : List V → Hp → VK → Prop} (hr : r = fun xs H Q => ∃ p ys, xs = [.ref p] ∧ ((SqL K H p ys ∧ ∀ l, H l = none → Q (.ref l) (upd H l (.tup ys))) ∨ (SqT K H p ys ∧ Q (.ref p) H))) (ha : Yd K ta σ H (.list xs)) : Yd K (tCB r (tCons ta tNil)) σ H (.tuple xs) := by
  subst hr
  exact fun H1 s Q q => ha H1 s _ fun v H2 s2 hv => by
    obtain ⟨a, vs, rfl, h1, h2⟩ := dp_lst hv
    exact ⟨a, vs, rfl, .inl ⟨h1, fun l hl => q _ _ (s2.trans (same_new hl)) (dp_newT h2 hl)⟩⟩
theorem yd_tupSame {xs : List PyData} {r : List V → Hp → VK → Prop} (hr : r = fun xs H Q => ∃ p ys, xs = [.ref p] ∧ ((SqL K H p ys ∧ ∀ l, H l = none → Q (.ref l) (upd H l (.tup ys))) ∨ (SqT K H p ys ∧ Q (.ref p) H))) (ha : Yd K ta σ H (.tuple xs)) : Yd K (tCB r (tCons ta tNil)) σ H (.tuple xs) := by
  subst hr
  exact fun H1 s Q q => ha H1 s _ fun v H2 s2 hv => by
    obtain ⟨a, vs, rfl, h1, h2⟩ := dp_tup hv
    exact ⟨a, vs, rfl, .inr ⟨h1, q _ _ s2 hv⟩⟩
theorem inV_strs (k : Str) : ∀ l : List Str, inV (.str k) (l.map V.str) = decide (k ∈ l)
  | [] => rfl
  | x :: l => by
    show (eqV (.str x) (.str k) || inV (.str k) (l.map V.str)) = _
    rw [inV_strs k l]
    show ((x == k) || _) = _
    by_cases e : x = k
    · subst e
      simp
    · have e2 : ¬ k = x := fun z => e z.symm
      simp [e, e2]
theorem flat_strs : ∀ l : List Str, (l.map V.str).all flatV = true
  | [] => rfl
  | x :: l => by
    rw [List.map_cons, List.all_cons, flat_strs l]
    rfl
/-- kind in lot -/
theorem yd_inLot {k : Str} {l : Lot} (ha : Yd K ta σ H (.str k)) (hb : Yd K tb σ H (encLot l)) : Yd K (tOp (rIn K false) ta tb) σ H (.bool (decide (k ∈ l))) := yd_op ha hb fun v w H1 _ hv hw Q q => by
  have e := dp_str hv
  subst e
  obtain ⟨a, xs, rfl, h1, h2⟩ := dp_tup hw
  rw [dps_strs h2] at h1
  refine ⟨a, _, rfl, .inr h1, rfl, flat_strs l, ?_⟩
  show Q (.bl (inV (.str k) (l.map V.str))) H1
  rw [inV_strs]
  exact q _ H1 (Same.refl _) (.bl _)
theorem lot_at {L : Lots} {i : Nat} (h : i < L.length) : atI (L.map encLot) (i : Nat) = some (encLot (L.getD i [])) := by
  rw [atI_map, atI_nat (List.getElem?_eq_getElem h)]
  show some (encLot L[i]) = _
  rw [List.getD_eq_getElem?_getD, List.getElem?_eq_getElem h]
  rfl
theorem short_encF {f : Free} (h : f.length ≤ 1000) : short (encF f) = true := by
  show (decide ((f.map fun i => PyData.int ((i : Nat) : Int)).length ≤ 1000) && shorts _) = true
  rw [Bool.and_eq_true]
  exact ⟨decide_eq_true (by rw [List.length_map]; exact h), shorts_of fun d hd => by
    obtain ⟨z, hz, rfl⟩ := List.mem_map.mp hd
    rfl⟩
/-- free seats of L -/
def FreeOf (L : Lots) (f : Free) : Prop := f.length ≤ 1000 ∧ ∀ i ∈ f, i < L.length
theorem behind_free {L : Lots} {f : Free} {k : Str} (h : FreeOf L f) : FreeOf L (behindS L f k) :=
  ⟨Nat.le_trans (behind_sub L f k).length_le h.1, fun i hi => h.2 i ((behind_sub L f k).subset hi)⟩

/-! ### first_seat -/
def optD : Option Nat → PyData
  | some i => .int ((i : Nat) : Int)
  | none => .none
def R_first (ds : List PyData) (r : PyData) : Prop := ∃ L f k, ds = [encLots L, encF f, .str k] ∧ Few L ∧ FreeOf L f ∧ r = optD (firstS L f k)
theorem sc_first_seat : FnScope ["lots", "free", "kind", "seat"] ["lots", "free", "kind"] (defScope s_first_seat) := ⟨rfl, rfl, rfl, by decide +kernel, rfl, by decide +kernel, by decide +kernel⟩
theorem find_take {f : Free} {p : Nat → Bool} {i : Nat} {j : Nat} (h : ∀ t < i, ∀ x, f[t]? = some x → p x = false) (hi : f[i]? = some j) (hp : p j = true) : f.find? p = some j := by
  induction f generalizing i with
  | nil => simp at hi
  | cons x f ih =>
    cases i with
    | zero =>
      have e : x = j := by simpa using hi
      subst e
      exact List.find?_cons_of_pos hp
    | succ i =>
      rw [List.find?_cons_of_neg (by rw [h 0 (by omega) x rfl]; exact Bool.false_ne_true)]
      exact ih (i := i) (fun t ht y hy => h (t + 1) (by omega) y (by simpa using hy)) (by simpa using hi)
theorem find_all {f : Free} {p : Nat → Bool} (h : ∀ t < f.length, ∀ x, f[t]? = some x → p x = false) : f.find? p = none := by
  rw [List.find?_eq_none]
  intro x hx
  obtain ⟨t, ht, e⟩ := List.mem_iff_getElem.mp hx
  rw [h t ht x (by rw [List.getElem?_eq_getElem ht, e])]
  exact Bool.false_ne_true
theorem ok_first_seat (D : DefAt K mg "first_seat" s_first_seat ["lots", "free", "kind"]) : Has P w K mg base CX0 1 "first_seat" ["lots", "free", "kind"] (spD K R_first) := by
  obtain ⟨f, fd, F, g, b⟩ := D
  refine ⟨f, fd, F.ok sc_first_seat (fun vs H Q E h => len_spD (fun ds r ⟨L, f, k, e, _⟩ => by rw [e]; rfl) h) (fun cdv A outer s H vs Q E hr h => ?_), g, F.kp, b⟩
  obtain ⟨ds, r, hv, ⟨L, fr, k, rfl, hF, hf, rfl⟩, q⟩ := h
  cases hv with
  | cons h1 hn =>
    cases hn with
    | cons h2 hn =>
      cases hn with
      | cons h3 hn =>
        cases hn
        have e := dp_str h3
        subst e
        refine ⟨_, pss_cons (ps_for (passes_of rfl) rfl (pi_tup (pv 1)) (pg_name (i := 3) sc_first_seat.nd rfl (.inl rfl))
            (pss_one (ps_if (pt_cmpR op_in_seq (pv 2) (pe_ix (r := rIx K) ix_seq (pv 0) (pv 3) (fun _ _ => rfl)) rfl) (pss_one (ps_ret (pv 3))) pss_nil)))
          (pss_one (ps_ret pe_non)), ?_⟩
        refine y_for (K := K) (ydi_tup (yd_var rfl h2)) (fun i σ' H' => (∃ u, σ' = [some _, some _, some (.str k), u]) ∧ ∀ t < i, ∀ x, fr[t]? = some x → fits L k x = false) (fun H2 s2 => ⟨⟨none, rfl⟩, fun t ht => by omega⟩)
          (fun H2 s2 i d σ' H3 H4 x s3 s4 hi hp hx => ?_) (fun σ' H' s2 hp => ?_)
        · obtain ⟨⟨u, rfl⟩, hno⟩ := hp
          rw [List.getElem?_map] at hi
          obtain ⟨j, hj, rfl⟩ := Option.map_eq_some_iff.mp hi
          have ex := dp_int hx
          subst ex
          have s34 := (s2.trans s3).trans s4
          have hjl : j < L.length := hf.2 j (List.mem_of_getElem? hj)
          refine y_if (b := fits L k j) (yt_test (yd_inLot (yd_var (K := K) rfl (.str k)) (yd_ix (tup_items _) (short_lots hF) (yd_var rfl (dp_same s34 _ _ h1)) (yd_var rfl (.int _)) (lot_at hjl)))) (fun e H5 s5 => ?_) (fun e H5 s5 => ?_)
          · refine y_ret (K := K) (yd_var rfl (.int ((j : Nat) : Int))) ?_
            intro v H6 s6 hv
            refine q v H6 ((s34.trans s5).trans s6) ?_
            have e2 : firstS L fr k = some j := find_take hno hj e
            rw [e2]
            exact hv
          · refine ⟨(s3.trans s4).trans s5, ⟨_, rfl⟩, fun t ht y hy => ?_⟩
            by_cases ht2 : t < i
            · exact hno t ht2 y hy
            · have et : t = i := by omega
              subst et
              rw [hj] at hy
              have ey : j = y := Option.some.inj hy
              rw [← ey]
              exact e
        · obtain ⟨⟨u, rfl⟩, hno⟩ := hp
          dsimp only
          refine y_ret (K := K) yd_non ?_
          intro v H6 s6 hv
          refine q v H6 (s2.trans s6) ?_
          have e2 : firstS L fr k = none := find_all (by rw [List.length_map] at hno; exact hno)
          rw [e2]
          exact hv

/-! ### behind -/
def R_behind (ds : List PyData) (r : PyData) : Prop := ∃ L f k, ds = [encLots L, encF f, .str k] ∧ Few L ∧ FreeOf L f ∧ r = encF (behindS L f k)
def neI (i : Int) : PyData → Bool
  | .int j => !decide (j = i)
  | _ => false
theorem without_map (f : Free) (i : Nat) : (f.map fun i => PyData.int ((i : Nat) : Int)).filter (neI ((i : Nat) : Int)) = (without f i).map fun i => PyData.int ((i : Nat) : Int) := by
  unfold without
  rw [List.filter_map]
  congr 1
  refine List.filter_congr fun j _ => ?_
  show (!decide (((j : Nat) : Int) = ((i : Nat) : Int))) = decide (j ≠ i)
  rw [← decide_not]
  exact decide_eq_decide.mpr (by omega)
theorem sc_behind : FnScope ["lots", "free", "kind", "seat", "other"] ["lots", "free", "kind"] (defScope s_behind) := ⟨rfl, rfl, rfl, by decide +kernel, rfl, by decide +kernel, by decide +kernel⟩
theorem ok_behind (D : DefAt K mg "behind" s_behind ["lots", "free", "kind"]) (B : Blt mg) (A1 : Has P w K mg base CX0 1 "first_seat" ["lots", "free", "kind"] (spD K R_first)) : Has P w K mg base CX0 2 "behind" ["lots", "free", "kind"] (spD K R_behind) := by
  obtain ⟨f, fd, F, g, b⟩ := D
  obtain ⟨f1, fd1, G1, g1, k1, b1⟩ := A1
  refine ⟨f, fd, F.ok sc_behind (fun vs H Q E h => len_spD (fun ds r ⟨L, f, k, e, _⟩ => by rw [e]; rfl) h) (fun cdv A outer s H vs Q E hr h => ?_), g, F.kp, b⟩
  obtain ⟨ds, r, hv, ⟨L, fr, k, rfl, hF, hf, rfl⟩, q⟩ := h
  cases hv with
  | cons h1 hn =>
    cases hn with
    | cons h2 hn =>
      cases hn with
      | cons h3 hn =>
        cases hn
        refine ⟨_, pss_cons (ps_set (i := 3) sc_behind.nd rfl (.inr rfl) (pe_call G1 hr (by rfl) g1 k1 b1 .nil pass0 (pa_cons (pv 0) (pa_cons (pv 1) (pa_cons (pv 2) pa_nil)))))
          (pss_cons (ps_if (pt_cmpR op_isN (pv 3) pe_non (nomark _)) (pss_one (ps_ret (pv 1))) pss_nil)
          (pss_one (ps_ret (pe_callTy call_tuple_of (by rfl) B.tuple boot_tuple (pa_cons (pe_lc (own := [("other", 4)]) (g := gName 4) rfl sc_behind.nd
            (pi_tup (pv 1)) (blkOk_by (N := ["lots", "free", "kind", "seat", "other"]) (sc := defScope s_behind) (by decide +kernel)) (fun _ _ _ _ _ => pg_name (i := 4) sc_behind.nd rfl (Or.inl rfl))
            (fun _ _ _ _ _ => pts_one (pt_cmpR op_ne (pv 4) (pv 3) (nomark _))) (fun _ _ _ _ _ => pv 4)) pa_nil))))), ?_⟩
        refine y_asg (yd_call (ya_cons (yd_var rfl h1) (ya_cons (yd_var rfl h2) (ya_cons (yd_var rfl h3) ya_nil))) ⟨L, fr, k, rfl, hF, hf, rfl⟩) fun v H1 s1 hv => ?_
        refine y_if (yt_test (yd_isN (yd_var rfl hv) rfl)) (fun e H2 s2 => ?_) (fun e H2 s2 => ?_)
        · refine y_ret (yd_var rfl (dp_same (s1.trans s2) _ _ h2)) ?_
          intro v H3 s3 hv3
          refine q v H3 ((s1.trans s2).trans s3) ?_
          have e2 : behindS L fr k = fr := by
            unfold behindS
            cases z : firstS L fr k with
            | none => rfl
            | some i =>
              rw [z] at e
              cases e
          rw [e2]
          exact hv3
        · dsimp only [tNext]
          cases z : firstS L fr k with
          | none =>
            rw [z] at e
            cases e
          | some i =>
            rw [z] at hv
            have ev := dp_int hv
            subst ev
            have hb : behindS L fr k = without fr i := by
              unfold behindS
              rw [z]
            refine y_ret (d := encF (without fr i)) ((yd_tupOf rfl (yd_lc (p := neI ((i : Nat) : Int)) (f := id) (ydi_tup (yd_var rfl (dp_same (s1.trans s2) _ _ h2))) (by rw [List.length_map]; exact hf.1) (fun d hd _ => ?_) (fun H3 v d s3 hd hv3 => ⟨?_, fun _ => yd_var rfl hv3⟩))).is ?_) ?_
            · obtain ⟨j, _, rfl⟩ := List.mem_map.mp hd
              rfl
            · obtain ⟨j, _, rfl⟩ := List.mem_map.mp hd
              exact yt_test (yd_neI (yd_var rfl hv3) (yd_var rfl (.int _)))
            · rw [List.map_id, without_map]
              rfl
            · intro v H3 s3 hv3
              refine q v H3 ((s1.trans s2).trans s3) ?_
              rw [hb]
              exact hv3

/-! ### the law's own -/
def fitD (L : Lots) (k : Str) : PyData → Bool
  | .int i => fits L k i.toNat
  | _ => false
theorem fitting_map (L : Lots) (f : Free) (k : Str) : (f.map fun i => PyData.int ((i : Nat) : Int)).filter (fitD L k) = (f.filter (fits L k)).map fun i => PyData.int ((i : Nat) : Int) := by
  rw [List.filter_map]
  rfl
theorem first_filter (L : Lots) (f : Free) (k : Str) : firstS L f k = (f.filter (fits L k)).head? := by
  unfold firstS
  rw [List.head?_filter]
theorem sc_law_behind : FnScope ["_law_lots_here", "_law_free", "_law_kind", "_law_fitting", "_law_seat"] ["_law_lots_here", "_law_free", "_law_kind"] (defScope s_law_behind) := ⟨rfl, rfl, rfl, by decide +kernel, rfl, by decide +kernel, by decide +kernel⟩
theorem ok_law_behind (D : DefAt K mg "_law_behind" s_law_behind ["_law_lots_here", "_law_free", "_law_kind"]) (B : Blt mg) : Has P w K mg base CX0 1 "_law_behind" ["_law_lots_here", "_law_free", "_law_kind"] (spD K R_behind) := by
  obtain ⟨f, fd, F, g, b⟩ := D
  refine ⟨f, fd, F.ok sc_law_behind (fun vs H Q E h => len_spD (fun ds r ⟨L, f, k, e, _⟩ => by rw [e]; rfl) h) (fun cdv A outer s H vs Q E hr h => ?_), g, F.kp, b⟩
  obtain ⟨ds, r, hv, ⟨L, fr, k, rfl, hF, hf, rfl⟩, q⟩ := h
  cases hv with
  | cons h1 hn =>
    cases hn with
    | cons h2 hn =>
      cases hn with
      | cons h3 hn =>
        cases hn
        refine ⟨_, pss_cons (ps_set (i := 3) sc_law_behind.nd rfl (.inr rfl) (pe_lc (own := [("_law_seat", 4)]) (g := gName 4) rfl sc_law_behind.nd
            (pi_tup (pv 1)) (blkOk_by (N := ["_law_lots_here", "_law_free", "_law_kind", "_law_fitting", "_law_seat"]) (sc := defScope s_law_behind) (by decide +kernel)) (fun _ _ _ _ _ => pg_name (i := 4) sc_law_behind.nd rfl (Or.inl rfl))
            (fun _ _ _ _ _ => pts_one (pt_cmpR (r := rIn K false) op_in_seq (pv 2) (pe_ix (r := rIx K) ix_seq (pv 0) (pv 4) (fun _ _ => rfl)) rfl)) (fun _ _ _ _ _ => pv 4)))
          (pss_cons (ps_if (pt_cmpR op_eq (pe_callB call_len (by rfl) B.len PySem.boot_len (pa_cons (pv 3) pa_nil)) pe_int (nomark _)) (pss_one (ps_ret (pv 1))) pss_nil)
          (pss_one (ps_ret (pe_callTy call_tuple_of (by rfl) B.tuple boot_tuple (pa_cons (pe_lc (own := [("_law_seat", 4)]) (g := gName 4) rfl sc_law_behind.nd
            (pi_tup (pv 1)) (blkOk_by (N := ["_law_lots_here", "_law_free", "_law_kind", "_law_fitting", "_law_seat"]) (sc := defScope s_law_behind) (by decide +kernel)) (fun _ _ _ _ _ => pg_name (i := 4) sc_law_behind.nd rfl (Or.inl rfl))
            (fun _ _ _ _ _ => pts_one (pt_cmpR op_ne (pv 4) (pe_ix (r := rIx K) ix_seq (pv 3) pe_int (fun _ _ => rfl)) (nomark _))) (fun _ _ _ _ _ => pv 4)) pa_nil))))), ?_⟩
        have h2' : (fr.map fun i => PyData.int ((i : Nat) : Int)).length ≤ 1000 := by
          rw [List.length_map]
          exact hf.1
        refine y_asg (K := K) (d := .list ((fr.filter (fits L k)).map fun i => PyData.int ((i : Nat) : Int))) ((yd_lc (p := fitD L k) (f := id) (ydi_tup (yd_var rfl h2)) h2' (fun d hd _ => ?_) (fun H3 v d s3 hd hv3 => ⟨?_, fun _ => yd_var rfl hv3⟩)).is ?_) fun v H1 s1 hv => ?_
        · obtain ⟨j, _, rfl⟩ := List.mem_map.mp hd
          rfl
        · obtain ⟨j, hj, rfl⟩ := List.mem_map.mp hd
          exact yt_test (yd_inLot (yd_var rfl (dp_same s3 _ _ h3)) (yd_ix (tup_items _) (short_lots hF) (yd_var rfl (dp_same s3 _ _ h1)) (yd_var rfl hv3) (lot_at (hf.2 j hj))))
        · rw [List.map_id, fitting_map]
        · have hshort : short (.list ((fr.filter (fits L k)).map fun i => PyData.int ((i : Nat) : Int))) = true := by
            have hq := List.length_filter_le (fits L k) fr
            exact short_encF (f := fr.filter (fits L k)) (Nat.le_trans hq hf.1)
          refine y_if (b := (fr.filter (fits L k)).isEmpty) ((yt_test (yd_eqI (yd_len (xs := (fr.filter (fits L k)).map fun i => PyData.int ((i : Nat) : Int)) rfl hshort rfl (yd_var rfl hv)) yd_int)).is ?_) (fun e H2 s2 => ?_) (fun e H2 s2 => ?_)
          · rw [isEmpty_len]
            cases fr.filter (fits L k) <;> rfl
          · refine y_ret (yd_var rfl (dp_same (s1.trans s2) _ _ h2)) ?_
            intro v H3 s3 hv3
            refine q v H3 ((s1.trans s2).trans s3) ?_
            have e2 : behindS L fr k = fr := by
              unfold behindS
              rw [first_filter, List.isEmpty_iff.mp e]
              rfl
            rw [e2]
            exact hv3
          · dsimp only [tNext]
            cases z : fr.filter (fits L k) with
            | nil =>
              rw [z] at e
              cases e
            | cons i rest =>
              rw [z] at hv hshort
              have hb : behindS L fr k = without fr i := by
                unfold behindS
                rw [first_filter, z]
                rfl
              have hix : atI ((i :: rest).map fun i => PyData.int ((i : Nat) : Int)) (0 : Int) = some (.int ((i : Nat) : Int)) := atI_nat (j := 0) rfl
              refine y_ret (d := encF (without fr i)) ((yd_tupOf rfl (yd_lc (p := neI ((i : Nat) : Int)) (f := id) (ydi_tup (yd_var rfl (dp_same (s1.trans s2) _ _ h2))) h2' (fun d hd _ => ?_) (fun H3 v d s3 hd hv3 => ⟨?_, fun _ => yd_var rfl hv3⟩))).is ?_) ?_
              · obtain ⟨j, _, rfl⟩ := List.mem_map.mp hd
                rfl
              · obtain ⟨j, _, rfl⟩ := List.mem_map.mp hd
                exact yt_test (yd_neI (yd_var rfl hv3) (yd_ix rfl hshort (yd_var rfl (dp_same (s2.trans s3) _ _ hv)) yd_int hix))
              · rw [List.map_id, without_map]
                rfl
              · intro v H3 s3 hv3
                refine q v H3 ((s1.trans s2).trans s3) ?_
                rw [hb]
                exact hv3
end
end K15

/-! Pairs of free seats. -/
namespace K15
open PySem PySem.Spec PyProof.Rows L2
section
variable {P : Program} {w : World} {K : Frag} {mg : Mg} {base : Heap} {C fI : Addr} {cs : Cls3}
/-- two seats and data -/
def spS (K : Frag) (C : Addr) (R : Lots → Lots → List PyData → PyData → Prop) : Sp := fun vs H Q _ => ∃ p q m m' L M rest ds r, vs = .ref p :: .ref q :: rest ∧ SeatAt K H C p m L ∧ SeatAt K H C q m' M ∧ DpAll K H rest ds ∧ R L M ds r ∧ ∀ v H', Same H H' → Dp K H' v r → Q v H'
theorem yd_callS {R : Lots → Lots → List PyData → PyData → Prop} {ta : TA} {E : XK} {σ : St} {H : Hp} {i j : Nat} {p q : Addr} {m m' : Str} {L M : Lots} {ds : List PyData} {r : PyData} (hi : σ[i]? = some (some (.ref p))) (hj : σ[j]? = some (some (.ref q))) (h1 : SeatAt K H C p m L) (h2 : SeatAt K H C q m' M)
    (ha : YdA K ta σ H ds) (hr : R L M ds r) : Yd K (tCall (spS K C R) [] E (tCons (tVar i) (tCons (tVar j) ta))) σ H r := fun H1 s Q k =>
  ⟨.ref p, hi, .ref q, hj, ha H1 s _ fun vs H2 s2 hvs => ⟨p, q, m, m', L, M, vs, ds, r, by rw [List.append_nil], (h1.same s).same s2, (h2.same s).same s2, hvs, hr, fun v H3 s3 hv => k v H3 (s2.trans s3) hv⟩⟩
def OkP (L M : Lots) (pr : Pr) : Prop := FreeOf L pr.1 ∧ FreeOf M pr.2
theorem step_ok {L M : Lots} {pr : Pr} {k : Str} (h : OkP L M pr) : OkP L M (stepS L M pr k) := ⟨behind_free h.1, behind_free h.2⟩
theorem short_encP {L M : Lots} {pr : Pr} (h : OkP L M pr) : short (encP pr) = true := by
  show (decide (2 ≤ 1000) && (short (encF pr.1) && (short (encF pr.2) && true))) = true
  rw [short_encF h.1.1, short_encF h.2.1]
  rfl
theorem yd_pair0 {σ : St} {H : Hp} {L M : Lots} {pr : Pr} {te : TE} (h : OkP L M pr) (ha : Yd K te σ H (encP pr)) : Yd K (tOp (rIx K) te (tC (.int 0))) σ H (encF pr.1) := yd_ix (tup_items _) (short_encP h) ha yd_int (atI_nat (j := 0) rfl)
theorem yd_pair1 {σ : St} {H : Hp} {L M : Lots} {pr : Pr} {te : TE} (h : OkP L M pr) (ha : Yd K te σ H (encP pr)) : Yd K (tOp (rIx K) te (tC (.int 1))) σ H (encF pr.2) := yd_ix (tup_items _) (short_encP h) ha yd_int (atI_nat (j := 1) rfl)

/-! ### pair_behind -/
def R_pb (L M : Lots) (ds : List PyData) (r : PyData) : Prop := ∃ pr k, ds = [encP pr, .str k] ∧ Few L ∧ Few M ∧ OkP L M pr ∧ r = encP (stepS L M pr k)
theorem sc_pair_behind : FnScope ["one", "other", "pair", "kind"] ["one", "other", "pair", "kind"] (defScope s_pair_behind) := ⟨rfl, rfl, rfl, by decide +kernel, rfl, by decide +kernel, by decide +kernel⟩
theorem len_spS {R : Lots → Lots → List PyData → PyData → Prop} {n : Nat} {H : Hp} {Q : VK} {E : XK} {vs : List V} (hR : ∀ L M ds r, R L M ds r → ds.length = n) (h : spS K C R vs H Q E) : vs.length = n + 2 := by
  obtain ⟨p, q, m, m', L, M, rest, ds, r, rfl, _, _, hv, h, _⟩ := h
  rw [List.length_cons, List.length_cons, dps_len hv, hR L M ds r h]
theorem ok_pair_behind (D : DefAt K mg "pair_behind" s_pair_behind ["one", "other", "pair", "kind"]) (S : SeatF K mg C fI) (A2 : Has P w K mg base CX0 2 "behind" ["lots", "free", "kind"] (spD K R_behind)) :
    Has P w K mg base CX0 3 "pair_behind" ["one", "other", "pair", "kind"] (spS K C R_pb) := by
  obtain ⟨f, fd, F, g, b⟩ := D
  obtain ⟨f2, fd2, G2, g2, k2, b2⟩ := A2
  refine ⟨f, fd, F.ok sc_pair_behind (fun vs H Q E h => len_spS (fun L M ds r ⟨pr, k, e, _⟩ => by rw [e]; rfl) h) (fun cdv A outer s H vs Q E hr h => ?_), g, F.kp, b⟩
  obtain ⟨p, q, m, m', L, M, rest, ds, r, rfl, h1, h2, hv, ⟨pr, k, rfl, hF, hG, ho, rfl⟩, kk⟩ := h
  cases hv with
  | cons h3 hn =>
    cases hn with
    | cons h4 hn =>
      cases hn
      refine ⟨_, pss_one (ps_ret (pe_tup (pa_cons (pe_call G2 hr (by rfl) g2 k2 b2 .nil pass0 (pa_cons (pe_fld (pv 0) rfl) (pa_cons (pe_ix (r := rIx K) ix_seq (pv 2) pe_int (fun _ _ => rfl)) (pa_cons (pv 3) pa_nil))))
        (pa_cons (pe_call G2 hr (by rfl) g2 k2 b2 .nil pass0 (pa_cons (pe_fld (pv 1) rfl) (pa_cons (pe_ix (r := rIx K) ix_seq (pv 2) pe_int (fun _ _ => rfl)) (pa_cons (pv 3) pa_nil)))) pa_nil)))), ?_⟩
      refine y_ret (d := encP (stepS L M pr k)) (yd_tup (ya_cons (yd_call (R := R_behind) (ya_cons (yd_lots S rfl h1) (ya_cons (yd_pair0 ho (yd_var rfl h3)) (ya_cons (yd_var rfl h4) ya_nil))) ⟨L, pr.1, k, rfl, hF, ho.1, rfl⟩)
        (ya_cons (yd_call (R := R_behind) (ya_cons (yd_lots S rfl h2) (ya_cons (yd_pair1 ho (yd_var rfl h3)) (ya_cons (yd_var rfl h4) ya_nil))) ⟨M, pr.2, k, rfl, hG, ho.2, rfl⟩) ya_nil)) (show 2 ≤ 1000 by decide)) fun v H1 s1 hv => kk v H1 s1 hv

/-! ### start_of -/
def R_start (L M : Lots) (ds : List PyData) (r : PyData) : Prop := ds = [] ∧ Few L ∧ Few M ∧ r = encP (startS L M)
theorem sc_start_of : FnScope ["one", "other"] ["one", "other"] (defScope s_start_of) := ⟨rfl, rfl, rfl, by decide +kernel, rfl, by decide +kernel, by decide +kernel⟩
theorem lots_items (L : Lots) : itemsD (encLots L) = some (L.map encLot) := rfl
theorem yd_range {σ : St} {H : Hp} {te : TE} {n : Nat} (hn : n ≤ 1000) (h : Yd K te σ H (.int ((n : Nat) : Int))) : Yd K (tTupRg (tRg1 te)) σ H (encF (List.range n)) := fun H1 s Q q => h H1 s _ fun v H2 s2 hv => by
  refine ⟨_, dp_int hv, .of_le (by omega) (by omega) (by omega) (by omega), fun p hp => q _ _ (s2.trans (same_new hp)) ?_⟩
  refine dp_newT ?_ hp
  unfold rgV
  have e : (((n : Nat) : Int) - 0).toNat = n := by omega
  rw [e]
  exact dps_map _ _ (fun i => by
    rw [Int.zero_add]
    exact .int _) _
theorem start_ok {L M : Lots} (hF : Few L) (hG : Few M) : OkP L M (startS L M) := by
  refine ⟨⟨?_, fun i hi => ?_⟩, ⟨?_, fun i hi => ?_⟩⟩
  · show (List.range L.length).length ≤ 1000
    rw [List.length_range]
    exact hF.1
  · exact List.mem_range.mp hi
  · show (List.range M.length).length ≤ 1000
    rw [List.length_range]
    exact hG.1
  · exact List.mem_range.mp hi
theorem yd_lenLots (S : SeatF K mg C fI) {σ : St} {H : Hp} {i : Nat} {p : Addr} {m : Str} {L : Lots} {r : List V → Hp → VK → Prop} (hr : r = fun xs H Q => ∃ x n, xs = [x] ∧ LenV K x H n ∧ Q (.int (n : Nat)) H) (hF : Few L) (hv : σ[i]? = some (some (.ref p))) (h : SeatAt K H C p m L) :
    Yd K (tCB r (tCons (tFld K (tVar i) "lots") tNil)) σ H (.int ((L.length : Nat) : Int)) := (yd_len (lots_items L) (short_lots hF) hr (yd_lots S hv h)).is (by rw [List.length_map])
theorem ok_start_of (D : DefAt K mg "start_of" s_start_of ["one", "other"]) (S : SeatF K mg C fI) (B : Blt mg) : Has P w K mg base CX0 1 "start_of" ["one", "other"] (spS K C R_start) := by
  obtain ⟨f, fd, F, g, b⟩ := D
  refine ⟨f, fd, F.ok sc_start_of (fun vs H Q E h => len_spS (fun L M ds r ⟨e, _⟩ => by rw [e]; rfl) h) (fun cdv A outer s H vs Q E hr h => ?_), g, F.kp, b⟩
  obtain ⟨p, q, m, m', L, M, rest, ds, r, rfl, h1, h2, hv, ⟨rfl, hF, hG, rfl⟩, kk⟩ := h
  cases hv
  refine ⟨_, pss_one (ps_ret (pe_tup (pa_cons (pe_tupRg rfl (by rfl) B.tuple (prg_1 (by rfl) B.range (pe_callB call_len (by rfl) B.len PySem.boot_len (pa_cons (pe_fld (pv 0) rfl) pa_nil))))
    (pa_cons (pe_tupRg rfl (by rfl) B.tuple (prg_1 (by rfl) B.range (pe_callB call_len (by rfl) B.len PySem.boot_len (pa_cons (pe_fld (pv 1) rfl) pa_nil)))) pa_nil)))), ?_⟩
  exact y_ret (d := encP (startS L M)) (yd_tup (ya_cons (yd_range hF.1 (yd_lenLots S rfl hF rfl h1)) (ya_cons (yd_range hG.1 (yd_lenLots S rfl hG rfl h2)) ya_nil)) (show 2 ≤ 1000 by decide)) fun v H1 s1 hv => kk v H1 s1 hv

/-! ### lead_of -/
def R_lead (L M : Lots) (ds : List PyData) (r : PyData) : Prop := ∃ pr, ds = [encP pr] ∧ Few L ∧ Few M ∧ OkP L M pr ∧ r = .int (leadS L M pr)
theorem sc_lead_of : FnScope ["one", "other", "pair"] ["one", "other", "pair"] (defScope s_lead_of) := ⟨rfl, rfl, rfl, by decide +kernel, rfl, by decide +kernel, by decide +kernel⟩
theorem yd_lenF {σ : St} {H : Hp} {te : TE} {f : Free} {r : List V → Hp → VK → Prop} (hr : r = fun xs H Q => ∃ x n, xs = [x] ∧ LenV K x H n ∧ Q (.int (n : Nat)) H) (hf : f.length ≤ 1000) (h : Yd K te σ H (encF f)) : Yd K (tCB r (tCons te tNil)) σ H (.int ((f.length : Nat) : Int)) :=
  (yd_len (tup_items _) (short_encF hf) hr h).is (by rw [List.length_map])
theorem ok_lead_of (D : DefAt K mg "lead_of" s_lead_of ["one", "other", "pair"]) (S : SeatF K mg C fI) (B : Blt mg) : Has P w K mg base CX0 1 "lead_of" ["one", "other", "pair"] (spS K C R_lead) := by
  obtain ⟨f, fd, F, g, b⟩ := D
  refine ⟨f, fd, F.ok sc_lead_of (fun vs H Q E h => len_spS (fun L M ds r ⟨pr, e, _⟩ => by rw [e]; rfl) h) (fun cdv A outer s H vs Q E hr h => ?_), g, F.kp, b⟩
  obtain ⟨p, q, m, m', L, M, rest, ds, r, rfl, h1, h2, hv, ⟨pr, rfl, hF, hG, ho, rfl⟩, kk⟩ := h
  cases hv with
  | cons h3 hn =>
    cases hn
    refine ⟨_, pss_one (ps_ret (pe_op op_sub (pe_op op_sub (pe_callB call_len (by rfl) B.len PySem.boot_len (pa_cons (pe_fld (pv 0) rfl) pa_nil)) (pe_callB call_len (by rfl) B.len PySem.boot_len (pa_cons (pe_ix (r := rIx K) ix_seq (pv 2) pe_int (fun _ _ => rfl)) pa_nil)))
      (pe_op op_sub (pe_callB call_len (by rfl) B.len PySem.boot_len (pa_cons (pe_fld (pv 1) rfl) pa_nil)) (pe_callB call_len (by rfl) B.len PySem.boot_len (pa_cons (pe_ix (r := rIx K) ix_seq (pv 2) pe_int (fun _ _ => rfl)) pa_nil))))), ?_⟩
    exact y_ret (d := .int (leadS L M pr)) (yd_sub (yd_sub (yd_lenLots S rfl hF rfl h1) (yd_lenF rfl ho.1.1 (yd_pair0 ho (yd_var rfl h3)))) (yd_sub (yd_lenLots S rfl hG rfl h2) (yd_lenF rfl ho.2.1 (yd_pair1 ho (yd_var rfl h3))))) fun v H1 s1 hv => kk v H1 s1 hv
end
end K15

/-! The search over pairs: the loop's state, its mathematics. -/
namespace K15
open PySem PySem.Spec PyProof.Rows L2

/-! ### the mathematics of the loop -/
section
variable {L M : Lots} {E : List Str} {F Wt Lt : List Pr} {pr g : Pr} {k : Str}
theorem filter_len {f : Free} {p : Nat → Bool} {i : Nat} (hi : i ∈ f) (hp : p i = false) : (f.filter p).length < f.length := by
  induction f with
  | nil => cases hi
  | cons x f ih =>
    rcases List.mem_cons.mp hi with e | e
    · subst e
      rw [List.filter_cons_of_neg (by rw [hp]; exact Bool.false_ne_true), List.length_cons]
      have := List.length_filter_le p f
      omega
    · have := ih e
      rw [List.filter_cons]
      split
      · rw [List.length_cons, List.length_cons]
        omega
      · rw [List.length_cons]
        omega
theorem behind_len (L : Lots) (f : Free) (k : Str) : behindS L f k = f ∨ (behindS L f k).length < f.length := by
  unfold behindS
  cases h : firstS L f k with
  | none => exact .inl rfl
  | some i =>
    have hm : i ∈ f := List.mem_of_find?_eq_some h
    exact .inr (filter_len hm (by simp))
theorem step_len (L M : Lots) (p : Pr) (k : Str) : stepS L M p k = p ∨ (stepS L M p k).1.length + (stepS L M p k).2.length < p.1.length + p.2.length := by
  have s1 := (behind_sub L p.1 k).length_le
  have s2 := (behind_sub M p.2 k).length_le
  rcases behind_len L p.1 k with h1 | h1
  · rcases behind_len M p.2 k with h2 | h2
    · exact .inl (Prod.ext h1 h2)
    · right
      show (behindS L p.1 k).length + (behindS M p.2 k).length < _
      omega
  · right
    show (behindS L p.1 k).length + (behindS M p.2 k).length < _
    omega
theorem reach_ok (hF : Few L) (hG : Few M) {p : Pr} (h : Reach L M E p) : OkP L M p := by
  induction h with
  | start => exact start_ok hF hG
  | step _ _ ih => exact step_ok ih
/-- what is found: each but once, each come to, the start among them -/
structure Fd (L M : Lots) (E : List Str) (F : List Pr) : Prop where
  nd : F.Nodup
  reach : ∀ p ∈ F, Reach L M E p
  start : startS L M ∈ F
abbrev Closed (L M : Lots) (E : List Str) (F : List Pr) (p : Pr) : Prop := ∀ k ∈ E, stepS L M p k ∈ F
/-- at the head of the loop -/
structure A0 (L M : Lots) (E : List Str) (F Wt : List Pr) : Prop where
  fd : Fd L M E F
  wt : ∀ p ∈ Wt, p ∈ F
  cl : ∀ p ∈ F, p ∈ Wt ∨ Closed L M E F p
  few : F.length ≤ 3000
/-- at the i-th of the waiting -/
structure A1 (L M : Lots) (E : List Str) (F Wt Lt : List Pr) (i n0 : Nat) : Prop where
  fd : Fd L M E F
  wt : ∀ p ∈ Wt, p ∈ F
  lt : ∀ p ∈ Lt, p ∈ F
  cl : ∀ p ∈ F, p ∈ Wt.drop i ∨ p ∈ Lt ∨ Closed L M E F p
  few : F.length ≤ 3000
  len : F.length = n0 + Lt.length
/-- .. at the j-th kind -/
structure A2 (L M : Lots) (E : List Str) (F Wt Lt : List Pr) (i n0 : Nat) (pr : Pr) (j : Nat) : Prop where
  fd : Fd L M E F
  wt : ∀ p ∈ Wt, p ∈ F
  lt : ∀ p ∈ Lt, p ∈ F
  cl : ∀ p ∈ F, p ∈ Wt.drop (i + 1) ∨ p ∈ Lt ∨ Closed L M E F p ∨ p = pr
  few : F.length ≤ 3000
  len : F.length = n0 + Lt.length
  inF : pr ∈ F
  done : ∀ k ∈ E.take j, stepS L M pr k ∈ F
theorem A0.into (h : A0 L M E F Wt) : A1 L M E F Wt [] 0 F.length := ⟨h.fd, h.wt, (fun _ z => nomatch z), fun p hp => by
  rcases h.cl p hp with q | q
  · exact .inl (by rw [List.drop_zero]; exact q)
  · exact .inr (.inr q), h.few, rfl⟩
theorem A1.into {i n0 : Nat} (h : A1 L M E F Wt Lt i n0) (hi : Wt[i]? = some pr) : A2 L M E F Wt Lt i n0 pr 0 := by
  refine ⟨h.fd, h.wt, h.lt, fun p hp => ?_, h.few, h.len, h.wt pr (List.mem_of_getElem? hi), fun k hk => by simp at hk⟩
  rcases h.cl p hp with q | q | q
  · obtain ⟨hlt, e⟩ := List.getElem?_eq_some_iff.mp hi
    rw [List.drop_eq_getElem_cons hlt, e] at q
    rcases List.mem_cons.mp q with q | q
    · exact .inr (.inr (.inr q))
    · exact .inl q
  · exact .inr (.inl q)
  · exact .inr (.inr (.inl q))
theorem A2.out {i n0 : Nat} (h : A2 L M E F Wt Lt i n0 pr E.length) : A1 L M E F Wt Lt (i + 1) n0 := by
  refine ⟨h.fd, h.wt, h.lt, fun p hp => ?_, h.few, h.len⟩
  rcases h.cl p hp with q | q | q | q
  · exact .inl q
  · exact .inr (.inl q)
  · exact .inr (.inr q)
  · subst q
    exact .inr (.inr fun k hk => h.done k (by rw [List.take_length]; exact hk))
theorem A1.out {n0 : Nat} (h : A1 L M E F Wt Lt Wt.length n0) : A0 L M E F Lt := by
  refine ⟨h.fd, h.lt, fun p hp => ?_, h.few⟩
  rcases h.cl p hp with q | q | q
  · rw [List.drop_length] at q
    cases q
  · exact .inl q
  · exact .inr q
theorem A2.same {i n0 j : Nat} (h : A2 L M E F Wt Lt i n0 pr j) (hk : E[j]? = some k) (hg : stepS L M pr k ∈ F) : A2 L M E F Wt Lt i n0 pr (j + 1) :=
  ⟨h.fd, h.wt, h.lt, h.cl, h.few, h.len, h.inF, fun k' hk' => by
    rw [take_succ_some hk] at hk'
    rcases List.mem_append.mp hk' with q | q
    · exact h.done k' q
    · rw [List.mem_singleton.mp q]
      exact hg⟩
theorem A2.put {i n0 j : Nat} (h : A2 L M E F Wt Lt i n0 pr j) (hk : E[j]? = some k) (hg : stepS L M pr k ∉ F) (hf : (F ++ [stepS L M pr k]).length ≤ 3000) : A2 L M E (F ++ [stepS L M pr k]) Wt (Lt ++ [stepS L M pr k]) i n0 pr (j + 1) := by
  have up : ∀ p ∈ F, p ∈ F ++ [stepS L M pr k] := fun p hp => List.mem_append_left _ hp
  have hkE : k ∈ E := List.mem_of_getElem? hk
  refine ⟨⟨?_, fun p hp => ?_, up _ h.fd.start⟩, fun p hp => up p (h.wt p hp), fun p hp => ?_, fun p hp => ?_, hf, ?_, up _ h.inF, fun k' hk' => ?_⟩
  · refine List.nodup_append.mpr ⟨h.fd.nd, List.nodup_cons.mpr ⟨by simp, List.nodup_nil⟩, fun a ha b hb e => hg ?_⟩
    rw [← List.mem_singleton.mp hb, ← e]
    exact ha
  · rcases List.mem_append.mp hp with q | q
    · exact h.fd.reach p q
    · rw [List.mem_singleton.mp q]
      exact .step (h.fd.reach _ h.inF) hkE
  · rcases List.mem_append.mp hp with q | q
    · exact up p (h.lt p q)
    · exact List.mem_append_right _ q
  · rcases List.mem_append.mp hp with q | q
    · rcases h.cl p q with z | z | z | z
      · exact .inl z
      · exact .inr (.inl (List.mem_append_left _ z))
      · exact .inr (.inr (.inl fun k hk => up _ (z k hk)))
      · exact .inr (.inr (.inr z))
    · exact .inr (.inl (List.mem_append_right _ q))
  · rw [List.length_append, List.length_append, h.len]
    omega
  · rw [take_succ_some hk] at hk'
    rcases List.mem_append.mp hk' with q | q
    · exact up _ (h.done k' q)
    · rw [List.mem_singleton.mp q]
      exact List.mem_append_right _ (List.mem_singleton.mpr rfl)
theorem A0.full (h : A0 L M E F []) : (∀ p, Reach L M E p → p ∈ F) ∧ Bound L M E 3000 := by
  have q := reach_in (E := E) h.fd.start fun p hp k hk => by
    rcases h.cl p hp with z | z
    · cases z
    · exact z k hk
  exact ⟨q, (bound_of q).mono h.few⟩
theorem A2.burst {i n0 j : Nat} (h : A2 L M E F Wt Lt i n0 pr j) (hk : E[j]? = some k) (hg : stepS L M pr k ∉ F) (hf : ¬ (F ++ [stepS L M pr k]).length ≤ 3000) : ¬ Bound L M E 3000 := fun b => hf (b _ (List.nodup_append.mpr ⟨h.fd.nd, List.nodup_cons.mpr ⟨by simp, List.nodup_nil⟩, fun a ha b hb e => hg (by
    rw [← List.mem_singleton.mp hb, ← e]
    exact ha)⟩) fun p hp => by
    rcases List.mem_append.mp hp with q | q
    · exact h.fd.reach p q
    · rw [List.mem_singleton.mp q]
      exact .step (h.fd.reach _ h.inF) (List.mem_of_getElem? hk))
end

/-! ### the loop's state -/
def RowsAt (K : Frag) (H : Hp) (n : Nat) (xs : List Ent) : Prop := ∀ x ∈ xs, ∃ row : List Str, Dp K H x.2.2 (.tuple (row.map .str)) ∧ row.length + x.1.1.length + x.1.2.length ≤ n
theorem noL_row (row : List Str) : noL (.tuple (row.map .str)) = true := noL_strs row
theorem noL_pair (p : Pr) : noL (encP p) = true := by
  have z : ∀ f : List Nat, noLs (f.map fun i => PyData.int ((i : Nat) : Int)) = true := fun f => noLs_of fun d hd => by
    obtain ⟨i, _, q⟩ := List.mem_map.mp hd
    rw [← q]
    rfl
  show (noLs _ && (noLs _ && true)) = true
  rw [z, z]
  rfl
theorem noL_pairs (ps : List Pr) : noLs (ps.map encP) = true := noLs_of fun d hd => by
  obtain ⟨p, _, rfl⟩ := List.mem_map.mp hd
  exact noL_pair p
theorem RowsAt.ts {K : Frag} {H H' : Hp} {n : Nat} {xs : List Ent} (h : RowsAt K H n xs) (e : Ts K H H') : RowsAt K H' n xs := fun x hx => by
  obtain ⟨row, h1, h2⟩ := h x hx
  exact ⟨row, dp_ts e _ _ (noL_row row) h1, h2⟩
structure LS (K : Frag) (P : Program) (w : World) (n : Nat) (H1 H : Hp) (d al aw : Addr) (ws ls : List V) (xs : List Ent) (Wt Lt : List Pr) : Prop where
  same : Same H1 H
  d1 : H1 d = none
  l1 : H1 al = none
  w1 : H1 aw = none
  hd : H d = some (dPr P w d xs)
  hl : H al = some (.lst ls)
  hw : H aw = some (.lst ws)
  ne : al ≠ aw
  keys : KeysAt K H xs
  rows : RowsAt K H n xs
  wt : DpAll K H ws (Wt.map encP)
  lt : DpAll K H ls (Lt.map encP)
section
variable {K : Frag} {P : Program} {w : World} {n : Nat} {H1 H H' : Hp} {d al aw : Addr} {ws ls : List V} {xs : List Ent} {Wt Lt : List Pr}
theorem dPr_lst {d : Addr} {xs : List Ent} {ys : List V} : dPr P w d xs ≠ .lst ys := fun z => by
  have z' : HO.ext _ = HO.lst ys := z
  cases z'
theorem dPr_tup {d : Addr} {xs : List Ent} {ys : List V} : dPr P w d xs ≠ .tup ys := fun z => by
  have z' : HO.ext _ = HO.tup ys := z
  cases z'
theorem dPr_frz {d : Addr} {xs : List Ent} {o : Obj} {u : HO} : dPr P w d xs ≠ .frz o u := fun z => by
  have z' : HO.ext _ = HO.frz o u := z
  cases z'
theorem LS.grow (h : LS K P w n H1 H d al aw ws ls xs Wt Lt) (s : Same H H') : LS K P w n H1 H' d al aw ws ls xs Wt Lt :=
  ⟨h.same.trans s, h.d1, h.l1, h.w1, s _ _ h.hd, s _ _ h.hl, s _ _ h.hw, h.ne, h.keys.ts (Ts.same s), h.rows.ts (Ts.same s), dps_same s _ _ h.wt, dps_same s _ _ h.lt⟩
theorem ts_dict {o : HO} (h : H d = some (dPr P w d xs)) : Ts K H (upd H d o) := Ts.chg h (fun _ => dPr_tup) fun _ _ => dPr_frz
theorem LS.put (h : LS K P w n H1 H d al aw ws ls xs Wt Lt) {g : Pr} {ag : Addr} {v : V} {row : List Str} (hg : Dp K H (.ref ag) (encP g)) (hv : Dp K H v (.tuple (row.map .str))) (hr : row.length + g.1.length + g.2.length ≤ n) :
    LS K P w n H1 (upd (upd H d (dPr P w d (xs ++ [(g, ag, v)]))) al (.lst (ls ++ [.ref ag]))) d al aw ws (ls ++ [.ref ag]) (xs ++ [(g, ag, v)]) Wt (Lt ++ [g]) := by
  have nda : d ≠ al := fun z => dPr_lst (Option.some.inj (h.hd.symm.trans (z ▸ h.hl)))
  have ndw : aw ≠ d := fun z => dPr_lst (Option.some.inj (h.hd.symm.trans (z ▸ h.hw)))
  have t1 : Ts K H (upd H d (dPr P w d (xs ++ [(g, ag, v)]))) := ts_dict h.hd
  have t2 : Ts K (upd H d (dPr P w d (xs ++ [(g, ag, v)]))) (upd (upd H d (dPr P w d (xs ++ [(g, ag, v)]))) al (.lst (ls ++ [.ref ag]))) := Ts.lst (by rw [upd_ne (Ne.symm nda)]; exact h.hl)
  have t := t1.trans t2
  refine ⟨same_mut (same_mut h.same h.d1) h.l1, h.d1, h.l1, h.w1, by rw [upd_ne nda, upd_same], upd_same, by rw [upd_ne (Ne.symm h.ne), upd_ne ndw]; exact h.hw, h.ne, fun x hx => ?_, fun x hx => ?_, dps_ts t _ _ (noL_pairs Wt) h.wt, ?_⟩
  · rcases List.mem_append.mp hx with q | q
    · exact h.keys.ts t x q
    · rw [List.mem_singleton.mp q]
      exact dp_ts t _ _ (noL_pair g) hg
  · rcases List.mem_append.mp hx with q | q
    · exact h.rows.ts t x q
    · rw [List.mem_singleton.mp q]
      exact ⟨row, dp_ts t _ _ (noL_row row) hv, hr⟩
  · rw [List.map_append]
    exact dps_ts t _ _ (by rw [← List.map_append]; exact noL_pairs _) (dps_app h.lt (.cons hg .nil))
end
end K15

/-! all_pairs. -/
namespace K15
open PySem PySem.Spec PyProof.Rows L2
section
variable {P : Program} {w : World} {K : Frag} {mg : Mg} {base : Heap} {C fI fT : Addr} {cs : Cls3}
theorem none_of_same {H H' : Hp} {a : Addr} (s : Same H H') (h : H' a = none) : H a = none := by
  cases e : H a with
  | none => rfl
  | some o =>
    rw [s a o e] at h
    cases h
structure HS (K : Frag) (P : Program) (w : World) (n : Nat) (H1 H : Hp) (d aw : Addr) (ws : List V) (xs : List Ent) (Wt : List Pr) : Prop where
  same : Same H1 H
  d1 : H1 d = none
  w1 : H1 aw = none
  hd : H d = some (dPr P w d xs)
  hw : H aw = some (.lst ws)
  keys : KeysAt K H xs
  rows : RowsAt K H n xs
  wt : DpAll K H ws (Wt.map encP)
theorem HS.into {n : Nat} {H1 H : Hp} {d aw al : Addr} {ws : List V} {xs : List Ent} {Wt : List Pr} (h : HS K P w n H1 H d aw ws xs Wt) (hn : H al = none) : LS K P w n H1 (upd H al (.lst [])) d al aw ws [] xs Wt [] := by
  have s := same_new (o := .lst []) hn
  exact ⟨h.same.trans s, h.d1, none_of_same h.same hn, h.w1, s _ _ h.hd, upd_same, s _ _ h.hw, (fun z => by rw [z, h.hw] at hn; cases hn), h.keys.ts (Ts.same s), h.rows.ts (Ts.same s), dps_same s _ _ h.wt, .nil⟩
theorem LS.out {n : Nat} {H1 H : Hp} {d al aw : Addr} {ws ls : List V} {xs : List Ent} {Wt Lt : List Pr} (h : LS K P w n H1 H d al aw ws ls xs Wt Lt) : HS K P w n H1 H d al ls xs Lt := ⟨h.same, h.d1, h.l1, h.hd, h.hl, h.keys, h.rows, h.lt⟩
abbrev keysOf (xs : List Ent) : List Pr := xs.map (·.1)
def spAP (K : Frag) (P : Program) (w : World) (C : Addr) (cs : Cls3) : Sp := fun vs H Q E => ∃ p q m m' L M, vs = [.ref p, .ref q] ∧ SeatAt K H C p m L ∧ SeatAt K H C q m' M ∧ m.length ≤ 5 ∧ Few L ∧ Few M ∧ L.length ≤ 100 ∧ M.length ≤ 100 ∧
  (∀ d xs H', Same H H' → H d = none → H' d = some (dPr P w d xs) → KeysAt K H' xs → RowsAt K H' 200 xs → Fd L M (kindsOf m) (keysOf xs) → (∀ pr, Reach L M (kindsOf m) pr → pr ∈ keysOf xs) → Bound L M (kindsOf m) 3000 → xs.length ≤ 3000 → Q (.ref d) H') ∧
  (¬ Bound L M (kindsOf m) 3000 → ∀ cls d H', Same H H' → XP cs (.many 3000) cls d H' → E cls d H')
theorem sc_all_pairs : FnScope ["one", "other", "every", "start", "found", "waiting", "later", "pair", "kind", "goal"] ["one", "other"] (defScope s_all_pairs) := ⟨rfl, rfl, rfl, by decide +kernel, rfl, by decide +kernel, by decide +kernel⟩
/-- found[pair] -/
theorem yd_pget {σ : St} {H : Hp} {i j : Nat} {d a b : Addr} {xs : List Ent} {p : Pr} {v : V} {r : PyData} (hi : σ[i]? = some (some (.ref d))) (hj : σ[j]? = some (some (.ref a))) (hd : H d = some (dPr P w d xs)) (hk : KeysAt K H xs) (hp : Dp K H (.ref a) (encP p)) (hg : getE xs p = some (b, v)) (hv : Dp K H v r) :
    Yd K (tOp (rPGet P w K) (tVar i) (tVar j)) σ H r := fun H1 s Q q => ⟨.ref d, hi, .ref a, hj, d, a, xs, p, b, v, rfl, rfl, s _ _ hd, hk.ts (Ts.same s), dp_same s _ _ hp, hg, q v H1 (Same.refl _) (dp_same s _ _ hv)⟩
theorem getE_some {xs : List Ent} {p : Pr} (h : p ∈ keysOf xs) : ∃ a v, getE xs p = some (a, v) := by
  have q := getE_isSome (xs := xs) (p := p)
  rw [decide_eq_true h] at q
  obtain ⟨z, hz⟩ := Option.isSome_iff_exists.mp q
  exact ⟨z.1, z.2, hz⟩
theorem ok_all_pairs (D : DefAt K mg "all_pairs" s_all_pairs ["one", "other"]) (S : SeatF K mg C fI) (B : Blt mg) (AK : Has P w K mg base CX0 1 "all_kinds" ["marks"] (spD K R_kinds)) (AS : Has P w K mg base CX0 1 "start_of" ["one", "other"] (spS K C R_start))
    (AP : Has P w K mg base CX0 3 "pair_behind" ["one", "other", "pair", "kind"] (spS K C R_pb)) (T : ManyF K mg cs.cT fT) (GI : HasI P w K mg base 1 fT ["self", "most"] (spMI K)) (tm : ∃ t, mg "MOST_PAIRS" = some (.int 3000 t)) :
    Has P w K mg base (L2N.CX P w) 4 "all_pairs" ["one", "other"] (spAP K P w C cs) := by
  obtain ⟨f, fd, F, g, b⟩ := D
  obtain ⟨fk, fdk, Gk, gk, kk, bk⟩ := AK
  obtain ⟨fs, fds, Gs, gs, ks, bs⟩ := AS
  obtain ⟨fp, fdp, Gp, gp, kp, bp⟩ := AP
  obtain ⟨tm, hmm⟩ := tm
  refine ⟨f, fd, F.ok sc_all_pairs (fun vs H Q E h => by obtain ⟨p, q, m, m', L, M, rfl, _⟩ := h; rfl) (fun cdv A outer s H vs Q E hr h => ?_), g, F.kp, b⟩
  obtain ⟨p, q, m, m', L, M, rfl, h1, h2, hm, hF, hG, hl1, hl2, kQ, kE⟩ := h
  have hu := room9 hr
  refine ⟨_, pss_cons (ps_set (i := 2) sc_all_pairs.nd rfl (.inl rfl) (pe_call Gk (hr.mono (by decide)) (by rfl) gk kk bk .nil pass0 (pa_cons (pe_fld (pv 0) rfl) pa_nil)))
    (pss_cons (ps_set (i := 3) sc_all_pairs.nd rfl (.inl rfl) (pe_call Gs (hr.mono (by decide)) (by rfl) gs ks bs .nil pass0 (pa_cons (pv 0) (pa_cons (pv 1) pa_nil))))
    (pss_cons (ps_set (i := 4) sc_all_pairs.nd rfl (.inl rfl) (pe_pOne hu (pv 3) (pe_tup pa_nil)))
    (pss_cons (ps_set (i := 5) sc_all_pairs.nd rfl (.inl rfl) (pe_lst (pa_cons (pv 3) pa_nil)))
    (pss_cons (ps_while (passes_of rfl) (pt_cmpR op_gt (pe_callB call_len (by rfl) B.len PySem.boot_len (pa_cons (pv 5) pa_nil)) pe_int (nomark _))
      (pss_cons (ps_set (i := 6) sc_all_pairs.nd rfl (.inl rfl) (pe_lst pa_nil))
      (pss_cons (ps_for (passes_of rfl) rfl (pi_list (pv 5)) (pg_name (i := 7) sc_all_pairs.nd rfl (.inl rfl))
        (pss_one (ps_for (passes_of rfl) rfl (pi_list (pv 2)) (pg_name (i := 8) sc_all_pairs.nd rfl (.inl rfl))
          (pss_cons (ps_set (i := 9) sc_all_pairs.nd rfl (.inl rfl) (pe_call Gp hr (by rfl) gp kp bp .nil pass0 (pa_cons (pv 0) (pa_cons (pv 1) (pa_cons (pv 7) (pa_cons (pv 8) pa_nil))))))
          (pss_one (ps_if (pt_cmpR (op_pNotIn hu) (pv 9) (pv 4) rfl)
            (pss_cons (ps_asg (pe_op op_catA (pe_ix (ix_pGet hu) (pv 4) (pv 7) (fun _ _ => rfl)) (pe_tup (pa_cons (pv 8) pa_nil))) (pg_sub (pv 4) (pv 9) (set_p hu)))
            (pss_cons (ps_expr (pe_bm PySem.F.plainAttrs_list PySem.F.slot_list_append PySem.F.type_list_append mt_append (pv 6) (pa_cons (pv 9) pa_nil)))
            (pss_one (ps_if (pt_cmpR op_gt (pe_callB call_pLen (by rfl) B.len PySem.boot_len (pa_cons (pv 4) pa_nil)) (pe_glob (v := .int 3000) (by rfl) hmm ⟨_, rfl⟩) (nomark _))
              (pss_one (ps_many T GI (hr.mono (by decide)) rfl (L2N.takes_of rfl rfl rfl rfl) (by rfl) (pe_glob (v := .int 3000) (by rfl) hmm ⟨_, rfl⟩))) pss_nil))))
            pss_nil))))))
      (pss_one (ps_set (i := 5) sc_all_pairs.nd rfl (.inl rfl) (pv 6))))))
    (pss_one (ps_ret (pv 4))))))), ?_⟩
  -- every, start
  refine y_asg (yd_call (R := R_kinds) (ya_cons (yd_marks S rfl h1) ya_nil) ⟨m, rfl, hm, rfl⟩) fun ve Ha sa hve => ?_
  refine y_asg (yd_callS (R := R_start) rfl rfl (h1.same sa) (h2.same sa) ya_nil ⟨rfl, hF, hG, rfl⟩) fun vst Hb sb hst => ?_
  obtain ⟨ast, _, rfl, _, _⟩ := dp_tup hst
  have hve := dp_same sb _ _ hve
  have hse := sa.trans sb
  obtain ⟨ae, es, rfl, hes, hed⟩ := dp_lst hve
  have ees := dps_strs hed
  subst ees
  -- found = {start: ()}
  intro d hdn
  refine ⟨.ref ast, rfl, by show 0 ≤ sizeLine; exact Nat.zero_le _, fun t ht => ?_⟩
  have ndt : d ≠ t := fun z => by
    rw [← z, upd_same] at ht
    cases ht
  have ht0 : Hb t = none := none_of_same (same_new hdn) ht
  refine ⟨by rw [upd_ne ndt, upd_same], ast, startS L M, rfl, dp_same ((same_new hdn).trans (same_new ht)) _ _ hst, ?_⟩
  -- waiting = [start]
  refine ⟨.ref ast, rfl, by show 1 ≤ sizeLine; decide, fun aw haw => ?_⟩
  have hc0 : HS K P w 200 Hb (upd (upd (upd (upd Hb d (dPr P w d [])) t (.tup [])) d (dPr P w d [(startS L M, ast, .ref t)])) aw (.lst [.ref ast])) d aw [.ref ast] [(startS L M, ast, .ref t)] [startS L M] := by
    have s1 : Same Hb (upd (upd Hb d (dPr P w d [])) t (.tup [])) := (same_new hdn).trans (same_new ht)
    have s2 : Same Hb (upd (upd (upd Hb d (dPr P w d [])) t (.tup [])) d (dPr P w d [(startS L M, ast, .ref t)])) := same_mut s1 hdn
    have s3 := s2.trans (same_new (o := .lst [.ref ast]) haw)
    have t1 : Ts K (upd (upd Hb d (dPr P w d [])) t (.tup [])) (upd (upd (upd Hb d (dPr P w d [])) t (.tup [])) d (dPr P w d [(startS L M, ast, .ref t)])) := ts_dict (by rw [upd_ne ndt, upd_same])
    have dt : Dp K (upd (upd Hb d (dPr P w d [])) t (.tup [])) (.ref t) (.tuple (([] : List Str).map .str)) := dp_newT .nil ht
    have ndw : d ≠ aw := fun z => by
      rw [← z, upd_same] at haw
      cases haw
    refine ⟨s3, hdn, none_of_same s2 haw, by rw [upd_ne ndw, upd_same], upd_same, fun x hx => ?_, fun x hx => ?_, .cons (dp_same s3 _ _ hst) .nil⟩
    · rw [List.mem_singleton.mp hx]
      exact dp_same s3 _ _ hst
    · rw [List.mem_singleton.mp hx]
      refine ⟨[], dp_same (same_new haw) _ _ (dp_ts t1 _ _ rfl dt), ?_⟩
      show 0 + (List.range L.length).length + (List.range M.length).length ≤ 200
      rw [List.length_range, List.length_range]
      omega
  have a0 : A0 L M (kindsOf m) (keysOf [(startS L M, ast, V.ref t)]) [startS L M] := by
    refine ⟨⟨List.nodup_cons.mpr ⟨by simp, List.nodup_nil⟩, fun p hp => ?_, List.mem_singleton.mpr rfl⟩, fun p hp => hp, fun p hp => .inl hp, by show 1 ≤ 3000; decide⟩
    rw [List.mem_singleton.mp hp]
    exact .start
  -- while len(waiting) > 0
  refine ⟨fun μ σ' H' => ∃ aw ws xs Wt u6 u7 u8 u9, σ' = [some (.ref p), some (.ref q), some (.ref ae), some (.ref ast), some (.ref d), some (.ref aw), u6, u7, u8, u9] ∧ HS K P w 200 Hb H' d aw ws xs Wt ∧ A0 L M (kindsOf m) (keysOf xs) Wt ∧ μ = 2 * (4000 - xs.length) + Wt.length.min 1,
    ⟨_, aw, _, _, _, none, none, none, none, rfl, hc0, a0, rfl⟩, ?_⟩
  rintro μ σ' H' ⟨aw, ws, xs, Wt, u6, u7, u8, u9, rfl, hs, ha, rfl⟩
  have hwl : ws.length = Wt.length := by
    have := dps_len hs.wt
    rwa [List.length_map] at this
  refine ⟨.ref aw, rfl, .ref aw, ws.length, rfl, .inl ⟨ws, SqL.of hs.hw, rfl⟩, ((ws.length : Nat) : Int), 0, rfl, rfl, _, rfl, ?_⟩
  by_cases hW : Wt = []
  · subst hW
    have e0 : ws.length = 0 := hwl
    rw [e0]
    refine iteF ?_
    obtain ⟨q1, q2⟩ := ha.full
    refine ⟨.ref d, rfl, kQ d xs H' (hse.trans hs.same) (none_of_same hse hs.d1) hs.hd hs.keys hs.rows ha.fd q1 q2 (by have := ha.few; rwa [List.length_map] at this)⟩
  · have hpos : 0 < ws.length := by
      rw [hwl]
      exact List.length_pos_iff.mpr hW
    have e0 : decide ((0 : Int) < ((ws.length : Nat) : Int)) = true := decide_eq_true (by omega)
    rw [e0]
    refine iteT ⟨fun σ' H' => ∃ aw' ws' xs' Wt' u6 u7 u8 u9, σ' = [some (.ref p), some (.ref q), some (.ref ae), some (.ref ast), some (.ref d), some (.ref aw'), u6, u7, u8, u9] ∧ HS K P w 200 Hb H' d aw' ws' xs' Wt' ∧ A0 L M (kindsOf m) (keysOf xs') Wt' ∧ 2 * (4000 - xs'.length) + Wt'.length.min 1 < 2 * (4000 - xs.length) + Wt.length.min 1,
      fun σ' H' ⟨aw', ws', xs', Wt', v6, v7, v8, v9, e1, e2, e3, e4⟩ => ⟨_, e4, aw', ws', xs', Wt', v6, v7, v8, v9, e1, e2, e3, rfl⟩, ?_⟩
    -- later = []
    refine ⟨by show 0 ≤ sizeLine; exact Nat.zero_le _, fun al hal => ?_⟩
    have l0 := hs.into hal
    have a1 := ha.into
    refine ⟨.ref aw, rfl, aw, rfl, ⟨ws, SqL.of l0.hw⟩, for_it (walk_list (xs := ws)) (fun i σ' H' => ∃ ls xs' Lt u7 u8 u9, σ' = [some (.ref p), some (.ref q), some (.ref ae), some (.ref ast), some (.ref d), some (.ref aw), some (.ref al), u7, u8, u9] ∧ LS K P w 200 Hb H' d al aw ws ls xs' Wt Lt ∧ A1 L M (kindsOf m) (keysOf xs') Wt Lt i (keysOf xs).length)
      ⟨[], xs, [], u7, u8, u9, rfl, l0, a1⟩ (fun i σ' H' _ ⟨ls, xs', Lt, u7, u8, u9, e1, e2, e3⟩ => SqL.of e2.hw) (fun i x σ' H3 H4 hlt hp y => ?_) (fun σ' H3 hp => ?_)⟩
    · obtain ⟨ls, xs1, Lt, v7, v8, v9, rfl, l1, a1⟩ := hp
      obtain ⟨rfl, hx⟩ := y
      obtain ⟨dx, hd1, hd2⟩ := dps_get l1.wt hx
      rw [List.getElem?_map] at hd1
      obtain ⟨pr, hpr, rfl⟩ := Option.map_eq_some_iff.mp hd1
      obtain ⟨ap, _, rfl, _, _⟩ := dp_tup hd2
      have a2 := a1.into hpr
      refine ⟨.ref ae, rfl, ae, rfl, ⟨_, (l1.same.seq hes)⟩, for_it (walk_list (xs := (kindsOf m).map V.str)) (fun j σ' H' => ∃ ls xs' Lt u8 u9, σ' = [some (.ref p), some (.ref q), some (.ref ae), some (.ref ast), some (.ref d), some (.ref aw), some (.ref al), some (.ref ap), u8, u9] ∧ LS K P w 200 Hb H' d al aw ws ls xs' Wt Lt ∧ A2 L M (kindsOf m) (keysOf xs') Wt Lt i (keysOf xs).length pr j ∧ Dp K H' (.ref ap) (encP pr))
        ⟨ls, xs1, Lt, v8, v9, rfl, l1, a2, hd2⟩ (fun j σ' H' _ ⟨ls, xs', Lt, u8, u9, e1, e2, e3, e4⟩ => e2.same.seq hes) (fun j x σ' H5 H6 hlt hp y => ?_) (fun σ' H5 hp => ?_)⟩
      · obtain ⟨ls, xs2, Lt, v8, v9, rfl, l2, a2, hap⟩ := hp
        obtain ⟨rfl, hx⟩ := y
        rw [List.getElem?_map] at hx
        obtain ⟨k, hk, rfl⟩ := Option.map_eq_some_iff.mp hx
        have okp := reach_ok hF hG (a2.fd.reach pr a2.inF)
        -- goal = pair_behind(one, other, pair, kind)
        refine y_asg (yd_callS (R := R_pb) rfl rfl (h1.same (hse.trans l2.same)) (h2.same (hse.trans l2.same)) (ya_cons (yd_var rfl hap) (ya_cons (yd_var rfl (.str k)) ya_nil)) ⟨pr, k, rfl, hF, hG, okp, rfl⟩) fun vg H7 s7 hvg => ?_
        obtain ⟨ag, _, rfl, _, _⟩ := dp_tup hvg
        have l3 := l2.grow s7
        have hap7 := dp_same s7 _ _ hap
        -- if goal not in found
        refine ⟨.ref ag, rfl, .ref d, rfl, d, ag, xs2, stepS L M pr k, rfl, rfl, l3.hd, l3.keys, hvg, _, rfl, ?_⟩
        by_cases hin : stepS L M pr k ∈ keysOf xs2
        · rw [decide_eq_true hin]
          refine iteF ⟨ls, xs2, Lt, some (.str k), some (.ref ag), rfl, l3, a2.same hk hin, hap7⟩
        · rw [decide_eq_false hin]
          refine iteT ?_
          -- found[goal] = found[pair] + (kind,)
          obtain ⟨b0, v0, hgv⟩ := getE_some a2.inF
          obtain ⟨row, hrow, hrl⟩ := l3.rows _ (getE_mem hgv)
          have hxl : xs2.length ≤ 3000 := by
            have := a2.few
            rwa [List.length_map] at this
          have hrl' : row.length + pr.1.length + pr.2.length ≤ 200 := hrl
          have hne : stepS L M pr k ≠ pr := fun z => hin (by rw [z]; exact a2.inF)
          have hsl : (stepS L M pr k).1.length + (stepS L M pr k).2.length < pr.1.length + pr.2.length := by
            rcases step_len L M pr k with z | z
            · exact absurd z hne
            · exact z
          refine (yd_catT (yd_pget rfl rfl l3.hd l3.keys hap7 hgv hrow) (yd_tup (ya_cons (yd_var rfl (.str k)) ya_nil) (show 1 ≤ 1000 by decide)) ?_) H7 (Same.refl _) _ fun v8 H8 s8 hv8 => ?_
          · show (row.map PyData.str).length + 1 ≤ 1000
            rw [List.length_map]
            omega
          have l4 := l3.grow s8
          have hvg8 := dp_same s8 _ _ hvg
          have hv8' : Dp K H8 v8 (.tuple ((row ++ [k]).map .str)) := by
            rw [List.map_append]
            exact hv8
          have nda : al ≠ d := fun z => dPr_lst (Option.some.inj (l4.hd.symm.trans (z ▸ l4.hl)))
          have l5 := l4.put hvg8 hv8' (by rw [List.length_append, List.length_singleton]; omega)
          refine ⟨.ref d, rfl, .ref ag, rfl, d, ag, xs2, stepS L M pr k, rfl, rfl, l4.hd, l4.keys, hvg8, hin, by omega, ?_⟩
          -- later.append(goal)
          have hal5 : (upd H8 d (dPr P w d (xs2 ++ [(stepS L M pr k, ag, v8)]))) al = some (.lst ls) := by
            rw [upd_ne nda]
            exact l4.hl
          have hll : ls.length ≤ 3000 := by
            have z1 := dps_len l4.lt
            have z2 := a2.len
            rw [List.length_map] at z1
            rw [List.length_map] at z2
            omega
          refine ⟨.ref al, rfl, .inl ⟨rfl, _, SqL.of hal5⟩, .ref ag, rfl, al, ls, .ref ag, rfl, rfl, hal5, Nat.lt_of_le_of_lt hll (by decide), ?_⟩
          -- if len(found) > MOST_PAIRS
          have hx5 : (xs2 ++ [(stepS L M pr k, ag, v8)]).length = xs2.length + 1 := by rw [List.length_append]; rfl
          have hk5 : keysOf (xs2 ++ [(stepS L M pr k, ag, v8)]) = keysOf xs2 ++ [stepS L M pr k] := List.map_append ..
          have hk6 : (keysOf xs2 ++ [stepS L M pr k]).length = xs2.length + 1 := by
            rw [← hk5, List.length_map, hx5]
          refine ⟨.ref d, rfl, d, _, rfl, l5.hd, l5.keys, by rw [hx5]; omega, _, 3000, rfl, rfl, _, rfl, ?_⟩
          by_cases hf : xs2.length + 1 ≤ 3000
          · have e1 : decide ((3000 : Int) < (((xs2 ++ [(stepS L M pr k, ag, v8)]).length : Nat) : Int)) = false := decide_eq_false (by rw [hx5]; omega)
            rw [e1]
            refine iteF ⟨_, _, _, some (.str k), some (.ref ag), rfl, l5, ?_, dp_ts ((ts_dict l4.hd).trans (Ts.lst hal5)) _ _ (noL_pair pr) (dp_same s8 _ _ hap7)⟩
            rw [hk5]
            exact a2.put hk hin (by rw [hk6]; exact hf)
          · have e1 : decide ((3000 : Int) < (((xs2 ++ [(stepS L M pr k, ag, v8)]).length : Nat) : Int)) = true := decide_eq_true (by rw [hx5]; omega)
            rw [e1]
            refine iteT (y_many (W := fun cls d _ H => E cls d H) T (n := 3000) yd_int fun dx H9 s9 he => ?_)
            exact kE (a2.burst hk hin (by rw [hk6]; exact hf)) _ _ _ ((hse.trans l5.same).trans s9) ⟨rfl, dx, rfl, he⟩
      · obtain ⟨ls, xs2, Lt, v8, v9, rfl, l2, a2, hap⟩ := hp
        have el : ((kindsOf m).map V.str).length = (kindsOf m).length := List.length_map ..
        rw [el] at a2
        exact ⟨ls, xs2, Lt, some (.ref ap), v8, v9, rfl, l2, a2.out⟩
    · obtain ⟨ls, xs1, Lt, v7, v8, v9, rfl, l1, a1⟩ := hp
      rw [hwl] at a1
      have a3 := a1.out
      refine ⟨.ref al, rfl, al, ls, xs1, Lt, some (.ref al), v7, v8, v9, rfl, l1.out, a3, ?_⟩
      have hlen := a1.len
      have hfew := a1.few
      rw [List.length_map, List.length_map] at hlen
      rw [List.length_map] at hfew
      have hWl : 0 < Wt.length := List.length_pos_iff.mpr hW
      have m1 : Wt.length.min 1 = 1 := Nat.min_eq_right hWl
      rw [m1]
      by_cases hL0 : Lt.length = 0
      · rw [hL0]
        show 2 * (4000 - xs1.length) + 0 < _
        omega
      · have m2 : Lt.length.min 1 = 1 := Nat.min_eq_right (by omega)
        rw [m2]
        omega
end
end K15

/-! row_of_fewer, never_fewer. -/
namespace K15
open PySem PySem.Spec PyProof.Rows L2
section
variable {P : Program} {w : World} {K : Frag} {mg : Mg} {base : Heap} {C fI fT : Addr} {cs : Cls3}
theorem frz_tup {o : Obj} {d : Addr} {xs : List Ent} {ys : List V} : HO.frz o (dPr P w d xs) ≠ .tup ys := fun z => nomatch z
/-- a dict is known from here on -/
theorem ts_lock {H : Hp} {d : Addr} {xs : List Ent} {o : Obj} (h : H d = some (dPr P w d xs)) : Ts K H (upd H d (.frz o (dPr P w d xs))) := ts_dict h
def spRF (K : Frag) (P : Program) (w : World) (C : Addr) (cs : Cls3) : Sp := fun vs H Q E => ∃ p q m m' L M, vs = [.ref p, .ref q] ∧ SeatAt K H C p m L ∧ SeatAt K H C q m' M ∧ m.length ≤ 5 ∧ Few L ∧ Few M ∧ L.length ≤ 100 ∧ M.length ≤ 100 ∧
  (Bound L M (kindsOf m) 3000 → Never L M (kindsOf m) → ∀ H', Same H H' → Q .non H') ∧
  (Bound L M (kindsOf m) 3000 → ¬ Never L M (kindsOf m) → ∀ v H' row, Same H H' → Dp K H' v (.tuple row) → Q v H') ∧
  (¬ Bound L M (kindsOf m) 3000 → ∀ cls d H', Same H H' → XP cs (.many 3000) cls d H' → E cls d H')
theorem sc_row_of_fewer : FnScope ["one", "other", "pair", "row"] ["one", "other"] (defScope s_row_of_fewer) := ⟨rfl, rfl, rfl, by decide +kernel, rfl, by decide +kernel, by decide +kernel⟩
theorem ok_row_of_fewer (D : DefAt K mg "row_of_fewer" s_row_of_fewer ["one", "other"]) (A1 : Has P w K mg base CX0 1 "lead_of" ["one", "other", "pair"] (spS K C R_lead))
    (A4 : Has P w K mg base (L2N.CX P w) 4 "all_pairs" ["one", "other"] (spAP K P w C cs)) : Has P w K mg base (L2N.CX P w) 5 "row_of_fewer" ["one", "other"] (spRF K P w C cs) := by
  obtain ⟨f, fd, F, g, b⟩ := D
  obtain ⟨f1, fd1, G1, g1, k1, b1⟩ := A1
  obtain ⟨f4, fd4, G4, g4, k4, b4⟩ := A4
  refine ⟨f, fd, F.ok sc_row_of_fewer (fun vs H Q E h => by obtain ⟨p, q, m, m', L, M, rfl, _⟩ := h; rfl) (fun cdv A outer s H vs Q E hr h => ?_), g, F.kp, b⟩
  obtain ⟨p, q, m, m', L, M, rfl, h1, h2, hm, hF, hG, hl1, hl2, kN, kR, kE⟩ := h
  refine ⟨_, pss_cons (ps_for (passes_of rfl) rfl (pi_itemsP (pe_callS G4 hr (by rfl) g4 k4 b4 (fun σ => L2N.passAt (L2N.takes_of rfl rfl rfl rfl) σ) (pa_cons (pv 0) (pa_cons (pv 1) pa_nil))))
      (pg_tup rfl (pgs_cons (pg_name (i := 2) sc_row_of_fewer.nd rfl (.inl rfl)) (pgs_cons (pg_name (i := 3) sc_row_of_fewer.nd rfl (.inl rfl)) pgs_nil)))
      (pss_one (ps_if (pt_cmpR op_lt (pe_call G1 (hr.mono (by decide)) (by rfl) g1 k1 b1 .nil pass0 (pa_cons (pv 0) (pa_cons (pv 1) (pa_cons (pv 2) pa_nil)))) pe_int (nomark _)) (pss_one (ps_ret (pv 3))) pss_nil)))
    (pss_one (ps_ret pe_non)), ?_⟩
  refine ⟨.ref p, rfl, .ref q, rfl, p, q, m, m', L, M, rfl, h1, h2, hm, hF, hG, hl1, hl2, fun d xs H1 s1 hdn hd hk hrw hfd hall hb hxl => ?_, fun hb cls d H1 s1 hx => kE hb cls d H1 s1 hx⟩
  refine ⟨d, xs, rfl, hd, fun o => ?_⟩
  have t0 : Ts K H1 (upd H1 d (.frz o (dPr P w d xs))) := ts_lock hd
  refine for_it walk_itemsP (fun i σ' H' => (∃ u2 u3, σ' = [some (.ref p), some (.ref q), u2, u3]) ∧ Same H H' ∧ H' d = some (.frz o (dPr P w d xs)) ∧ KeysAt K H' xs ∧ RowsAt K H' 200 xs ∧ ∀ t < i, ∀ x, xs[t]? = some x → 0 ≤ leadS L M x.1)
    ⟨⟨none, none, rfl⟩, same_mut s1 hdn, upd_same, hk.ts t0, hrw.ts t0, fun t ht => by omega⟩ (fun i σ' H' _ h => ⟨h.2.2.1, h.2.2.2.1⟩) (fun i x σ' H3 H4 hlt h y => ?_) (fun σ' H3 h => ?_)
  · obtain ⟨⟨u2, u3, rfl⟩, s3, e3, k3, r3, l3⟩ := h
    obtain ⟨T, x1, x2, rfl, hT, rfl, e1, e2⟩ := y
    have hx : xs[i]? = some xs[i] := List.getElem?_eq_getElem hlt
    dsimp only at e1 e2
    rw [hx] at e1 e2
    have e1' : V.ref xs[i].2.1 = x1 := Option.some.inj e1
    have e2' : xs[i].2.2 = x2 := Option.some.inj e2
    subst e1'
    subst e2'
    have s4 : Same H3 (upd H3 T (.tup [.ref xs[i].2.1, xs[i].2.2])) := same_new hT
    have hmem : xs[i] ∈ xs := List.getElem_mem hlt
    have hkey := dp_same s4 _ _ (k3 _ hmem)
    obtain ⟨row, hrow, _⟩ := r3 _ hmem
    have hrow := dp_same s4 _ _ hrow
    have hre : Reach L M (kindsOf m) xs[i].1 := hfd.reach _ (List.mem_map.mpr ⟨_, hmem, rfl⟩)
    have okp := reach_ok hF hG hre
    refine ⟨T, [.ref xs[i].2.1, xs[i].2.2], rfl, .inl (.inl upd_same), rfl, .ref xs[i].2.1, [xs[i].2.2], rfl, xs[i].2.2, [], rfl, rfl, ?_⟩
    refine y_if (yt_test (yd_cmpI (yd_callS (R := R_lead) rfl rfl (h1.same (s3.trans s4)) (h2.same (s3.trans s4)) (ya_cons (yd_var rfl hkey) ya_nil) ⟨xs[i].1, rfl, hF, hG, okp, rfl⟩) yd_int)) (fun e H5 s5 => ?_) (fun e H5 s5 => ?_)
    · refine y_ret (yd_var rfl (dp_same s5 _ _ hrow)) ?_
      intro v H6 s6 hv
      refine kR hb (fun hn => ?_) v H6 _ (((s3.trans s4).trans s5).trans s6) hv
      have z1 := hn _ hre
      have z2 := of_decide_eq_true e
      omega
    · have s45 := s4.trans s5
      refine ⟨⟨_, _, rfl⟩, s3.trans s45, s45 _ _ e3, k3.ts (Ts.same s45), r3.ts (Ts.same s45), fun t ht x hx2 => ?_⟩
      by_cases ht2 : t < i
      · exact l3 t ht2 x hx2
      · have et : t = i := by omega
        subst et
        rw [hx] at hx2
        have ex := Option.some.inj hx2
        rw [← ex]
        have z2 := of_decide_eq_false e
        omega
  · obtain ⟨⟨u2, u3, rfl⟩, s3, e3, k3, r3, l3⟩ := h
    dsimp only
    refine y_ret (K := K) yd_non ?_
    intro v H6 s6 hv
    have ev := dp_none hv
    subst ev
    refine kN hb (fun pr hpr => ?_) H6 (s3.trans s6)
    obtain ⟨x, hx, e⟩ := List.mem_map.mp (hall pr hpr)
    obtain ⟨t, ht, et⟩ := List.mem_iff_getElem.mp hx
    rw [← e]
    exact l3 t ht x (by rw [List.getElem?_eq_getElem ht, et])

/-! ### never_fewer -/
def spNF (K : Frag) (P : Program) (w : World) (C : Addr) (cs : Cls3) : Sp := fun vs H Q E => ∃ p q m m' L M, vs = [.ref p, .ref q] ∧ SeatAt K H C p m L ∧ SeatAt K H C q m' M ∧ m.length ≤ 5 ∧ Few L ∧ Few M ∧ L.length ≤ 100 ∧ M.length ≤ 100 ∧ m = m' ∧
  (Bound L M (kindsOf m) 3000 → ∀ b H', (b = true ↔ Never L M (kindsOf m)) → Same H H' → Q (.bl b) H') ∧
  (¬ Bound L M (kindsOf m) 3000 → ∀ cls d H', Same H H' → XP cs (.many 3000) cls d H' → E cls d H')
theorem sc_never_fewer : FnScope ["one", "other"] ["one", "other"] (defScope s_never_fewer) := ⟨rfl, rfl, rfl, by decide +kernel, rfl, by decide +kernel, by decide +kernel⟩
theorem ok_never_fewer (D : DefAt K mg "never_fewer" s_never_fewer ["one", "other"]) (A1 : Has P w K mg base (L2N.CX P w) 1 "check_same_marks" ["one", "other"] (spSame K C cs))
    (A5 : Has P w K mg base (L2N.CX P w) 5 "row_of_fewer" ["one", "other"] (spRF K P w C cs)) : Has P w K mg base (L2N.CX P w) 6 "never_fewer" ["one", "other"] (spNF K P w C cs) := by
  obtain ⟨f, fd, F, g, b⟩ := D
  obtain ⟨f1, fd1, G1, g1, k1, b1⟩ := A1
  obtain ⟨f5, fd5, G5, g5, k5, b5⟩ := A5
  refine ⟨f, fd, F.ok sc_never_fewer (fun vs H Q E h => by obtain ⟨p, q, m, m', L, M, rfl, _⟩ := h; rfl) (fun cdv A outer s H vs Q E hr h => ?_), g, F.kp, b⟩
  obtain ⟨p, q, m, m', L, M, rfl, h1, h2, hm, hF, hG, hl1, hl2, hmm, kB, kE⟩ := h
  refine ⟨_, pss_cons (ps_expr (pe_callS G1 (hr.mono (by decide)) (by rfl) g1 k1 b1 (fun σ => L2N.passAt (L2N.takes_of rfl rfl rfl rfl) σ) (pa_cons (pv 0) (pa_cons (pv 1) pa_nil))))
    (pss_one (ps_ret (pe_cmpR op_isN (pe_callS G5 hr (by rfl) g5 k5 b5 (fun σ => L2N.passAt (L2N.takes_of rfl rfl rfl rfl) σ) (pa_cons (pv 0) (pa_cons (pv 1) pa_nil))) pe_non (nomark _)))), ?_⟩
  refine ⟨.ref p, rfl, .ref q, rfl, p, q, m, m', L, M, rfl, h1, h2, ?_⟩
  unfold outSame
  rw [if_pos hmm]
  intro v H1 s1 hv
  refine ⟨.ref p, rfl, .ref q, rfl, p, q, m, m', L, M, rfl, h1.same s1, h2.same s1, hm, hF, hG, hl1, hl2, fun hb hn H2 s2 => ?_, fun hb hn v H2 row s2 hv => ?_, fun hb cls d H2 s2 hx => kE hb cls d H2 (s1.trans s2) hx⟩
  · exact ⟨rfl, kB hb _ H2 ⟨fun _ => hn, fun _ => rfl⟩ (s1.trans s2)⟩
  · refine ⟨rfl, ?_⟩
    rw [dp_isNon hv]
    exact kB hb _ H2 ⟨(fun z => nomatch z), fun z => absurd z hn⟩ (s1.trans s2)
end
end K15

/-! A comprehension of two clauses; the rows of lots. -/
namespace K15
open PySem PySem.Spec PyProof.Rows L2
section
variable {K : Frag} {σ : St} {H : Hp}
theorem wipe2 {i j : Nat} (hij : i ≠ j) {x : V} : wipe ((wipe σ [i, j]).set i (some x)) [i, j] = wipe σ [i, j] := by
  show ((((σ.set j none).set i none).set i (some x)).set j none).set i none = (σ.set j none).set i none
  rw [List.set_set, List.set_comm (some x) none hij, List.set_set, List.set_set]
/-- a new list -/
def YdLn (K : Frag) (t : TE) (σ : St) (H : Hp) (ds : List PyData) : Prop := ∀ H1, Same H H1 → ∀ Q : VK, (∀ a vs H2, Same H1 H2 → H1 a = none → H2 a = some (.lst vs) → DpAll K H2 vs ds → Q (.ref a) H2) → t σ H1 Q
theorem YdLn.toL {t : TE} {ds : List PyData} (h : YdLn K t σ H ds) : YdL K t σ H ds := fun H1 s Q q => h H1 s Q fun a vs H2 s2 _ e hv => q a vs H2 s2 e hv
theorem YdLn.is {t : TE} {ds es : List PyData} (h : YdLn K t σ H ds) (q : ds = es) : YdLn K t σ H es := q ▸ h
theorem y_asgN {te : TE} {ds : List PyData} {D : Ends} {i : Nat} (h : YdLn K te σ H ds) (k : ∀ a vs H1, Same H H1 → H a = none → H1 a = some (.lst vs) → DpAll K H1 vs ds → D.nx (σ.set i (some (.ref a))) H1) : tAsg te (gName i) D σ H := h H (Same.refl _) _ fun a vs H1 s n e hv => k a vs H1 s n e hv
/-- [f d e for d in .. for e in t if p d e], t a tuple that a name holds -/
theorem yl_lc2 {i j l : Nat} {wi : TI} {ds es : List PyData} {vl : V} {tt : TT} {te : TE} {p : PyData → PyData → Bool} {f : PyData → PyData → PyData} (hij : i ≠ j) (hi : YdI K wi σ H ds) (hb : ds.length * es.length ≤ 1000) (hvl : Dp K H vl (.tuple es))
    (hl : ∀ x, ((wipe σ [i, j]).set i (some x))[l]? = some (some vl)) (hn : ∀ d ∈ ds, ∀ e ∈ es, noL (f d e) = true)
    (hs : ∀ H2 x y d e, Same H H2 → d ∈ ds → e ∈ es → Dp K H2 x d → Dp K H2 y e → YdT tt ((wipe ((wipe σ [i, j]).set i (some x)) [j]).set j (some y)) H2 (p d e) ∧ Yd K te ((wipe ((wipe σ [i, j]).set i (some x)) [j]).set j (some y)) H2 (f d e)) (hnd : ∀ d ∈ ds, noL d = true) :
    YdLn K (tLc2 wi (gName i) tYes (iTup K (tVar l)) (gName j) tt te [i, j] [j]) σ H (ds.flatMap fun d => (es.filter (p d)).map (f d)) := fun H1 s Q q => hi H1 s _ fun J G Y H2 s2 w hG hY D hD => by
  obtain ⟨a, xs, rfl, hxs, hxd⟩ := dp_tup hvl
  have hxl := dps_len hxd
  have out_len : ∀ a b, a ≤ ds.length → b ≤ es.length → ∀ d, (((ds.take a).flatMap fun d => (es.filter (p d)).map (f d)) ++ ((es.take b).filter (p d)).map (f d)).length ≤ a * es.length + b := by
    intro a b ha hb' d
    rw [List.length_append, List.length_map]
    have h1 := List.length_filter_le (p d) (es.take b)
    rw [List.length_take] at h1
    have h2 : ((ds.take a).flatMap fun d => (es.filter (p d)).map (f d)).length ≤ a * es.length := by
      have : ∀ l : List PyData, (l.flatMap fun d => (es.filter (p d)).map (f d)).length ≤ l.length * es.length := by
        intro l
        induction l with
        | nil => simp
        | cons x l ih =>
          rw [List.flatMap_cons, List.length_append, List.length_map, List.length_cons, Nat.succ_mul]
          have := List.length_filter_le (p x) es
          omega
      refine Nat.le_trans (this _) (Nat.mul_le_mul_right _ ?_)
      rw [List.length_take]
      omega
    omega
  have out_noL : ∀ a b d, d ∈ ds → noLs (((ds.take a).flatMap fun d => (es.filter (p d)).map (f d)) ++ ((es.take b).filter (p d)).map (f d)) = true := by
    intro a b d hd
    refine noLs_of fun z hz => ?_
    rcases List.mem_append.mp hz with hz | hz
    · obtain ⟨c, hc, hz⟩ := List.mem_flatMap.mp hz
      obtain ⟨e, he, rfl⟩ := List.mem_map.mp hz
      exact hn c (List.mem_of_mem_take hc) e (List.mem_filter.mp he).1
    · obtain ⟨e, he, rfl⟩ := List.mem_map.mp hz
      exact hn d hd e (List.mem_of_mem_take (List.mem_filter.mp he).1)
  refine ⟨fun a m Hc => m = ds.length - a ∧ a ≤ ds.length ∧ Same H2 Hc ∧ ∃ ys, Hc D = some (.lst ys) ∧ DpAll K Hc ys ((ds.take a).flatMap fun d => (es.filter (p d)).map (f d)), ⟨ds.length, by simp, Nat.zero_le _, same_new hD, [], upd_same, .nil⟩, ?_⟩
  rintro t m Hc ⟨rfl, ht, s3, ys, e1, e2⟩
  by_cases hlt : t < ds.length
  · refine .inr ⟨w.goes t Hc hlt (hG Hc s3), fun Hc => t + 1 ≤ ds.length ∧ Same H2 Hc ∧ ∃ ys, Hc D = some (.lst ys) ∧ DpAll K Hc ys ((ds.take (t + 1)).flatMap fun d => (es.filter (p d)).map (f d)), fun H' p' => ⟨ds.length - (t + 1), by omega, rfl, p'⟩, fun x Hx y => ?_⟩
    obtain ⟨s4, d, hd, hx⟩ := hY t Hc x Hx s3 hlt (w.yields t Hc x Hx hlt (hG Hc s3) y)
    have hmem : d ∈ ds := List.mem_of_getElem? hd
    have st := take_succ_some hd
    refine ⟨wipe2 hij, ?_⟩
    unfold tYes
    dsimp only
    rw [if_pos rfl]
    refine ⟨.ref a, hl x, a, rfl, ⟨xs, same_t (((s.trans s2).trans s3).trans s4) hxs⟩, ?_⟩
    refine ⟨fun u m Hc => m = es.length - u ∧ u ≤ es.length ∧ Same H2 Hc ∧ Dp K Hc x d ∧ ∃ ys, Hc D = some (.lst ys) ∧ DpAll K Hc ys (((ds.take t).flatMap fun d => (es.filter (p d)).map (f d)) ++ ((es.take u).filter (p d)).map (f d)),
      ⟨es.length, by simp, Nat.zero_le _, s3.trans s4, hx, ys, s4 _ _ e1, by
        simp only [List.take_zero, List.filter_nil, List.map_nil, List.append_nil]
        exact dps_same s4 _ _ e2⟩, ?_⟩
    rintro u m Hc2 ⟨rfl, hu, s5, hx5, ys5, e3, e4⟩
    have sq : SqT K Hc2 a xs := same_t ((s.trans s2).trans s5) hxs
    by_cases hlt2 : u < es.length
    · have hlx : u < xs.length := by omega
      refine .inr ⟨⟨xs, xs[u], sq, List.getElem?_eq_getElem hlx⟩, fun Hc => u + 1 ≤ es.length ∧ Same H2 Hc ∧ Dp K Hc x d ∧ ∃ ys, Hc D = some (.lst ys) ∧ DpAll K Hc ys (((ds.take t).flatMap fun d => (es.filter (p d)).map (f d)) ++ ((es.take (u + 1)).filter (p d)).map (f d)), fun H' p' => ⟨es.length - (u + 1), by omega, rfl, p'⟩, fun y Hy yy => ?_⟩
      obtain ⟨rfl, fy⟩ := yy
      obtain ⟨e, he, hye⟩ := dps_get (dps_same ((s.trans s2).trans s5) _ _ hxd) (fy xs sq)
      have hmem2 : e ∈ es := List.mem_of_getElem? he
      have st2 := take_succ_some he
      show wipe ((wipe ((wipe σ [i, j]).set i (some x)) [j]).set j (some y)) [j] = wipe ((wipe σ [i, j]).set i (some x)) [j] ∧ _
      refine ⟨wipe_set1, ?_⟩
      obtain ⟨g1, g2⟩ := hs Hy x y d e ((s.trans s2).trans s5) hmem hmem2 hx5 hye
      have s6H2 := s5
      refine g1 Hy (Same.refl _) _ fun H5 s6 => ?_
      cases hp : p d e with
      | true =>
        refine iteT (g2 H5 s6 _ fun y2 H6 s7 hy => ?_)
        have s8 : Same Hy H6 := s6.trans s7
        have hD6 : H6 D = some (.lst ys5) := s8 D _ e3
        have tsx : Dp K (upd H6 D (.lst (ys5 ++ [y2]))) x d := dp_ts (Ts.lst hD6) _ _ (hnd d hmem) (dp_same s8 _ _ hx5)
        refine ⟨ys5, hD6, ?_, hlt2, same_mut (s5.trans s8) hD, tsx, ys5 ++ [y2], upd_same, ?_⟩
        · rw [dps_len e4]
          have q1 := out_len t u (Nat.le_of_lt hlt) hu d
          have q2 : t * es.length + u ≤ ds.length * es.length := by
            have : (t + 1) * es.length ≤ ds.length * es.length := Nat.mul_le_mul_right _ hlt
            rw [Nat.succ_mul] at this
            omega
          exact small1000 (by omega)
        · rw [st2, List.filter_append, List.filter_cons_of_pos hp, List.filter_nil, List.map_append, ← List.append_assoc]
          refine dps_ts (Ts.lst hD6) _ _ ?_ (dps_app (dps_same s8 _ _ e4) (.cons hy .nil))
          have z := out_noL t (u + 1) d hmem
          rw [st2, List.filter_append, List.filter_cons_of_pos hp, List.filter_nil, List.map_append, ← List.append_assoc] at z
          exact z
      | false =>
        refine iteF ⟨hlt2, s5.trans s6, dp_same s6 _ _ hx5, ys5, s6 D _ e3, ?_⟩
        rw [st2, List.filter_append, List.filter_cons_of_neg (by rw [hp]; exact Bool.false_ne_true), List.filter_nil, List.append_nil]
        exact dps_same s6 _ _ e4
    · have eu : u = es.length := by omega
      subst eu
      refine .inl ⟨⟨xs, sq, by omega⟩, hlt, s5, ys5, e3, ?_⟩
      rw [List.take_length] at e4
      rw [st, List.flatMap_append, List.flatMap_cons, List.flatMap_nil, List.append_nil]
      exact e4
  · have et : t = ds.length := by omega
    subst et
    rw [List.take_length] at e2
    exact .inl ⟨w.stops Hc (hG Hc s3), q D ys Hc (s2.trans s3) (none_of_same s2 hD) e1 e2⟩

/-! ### rows of lots -/
def lastOk (row : Lots) (l : Lot) : Bool := match row.getLast? with
  | none => true
  | some x => !PySem.W.dataLt (encLot l) (encLot x)
def nextL (T : Lots) (layer : List Lots) : List Lots := layer.flatMap fun row => (T.filter (lastOk row)).map fun l => row ++ [l]
def layerOf (T : Lots) : Nat → List Lots
  | 0 => [[]]
  | n + 1 => nextL T (layerOf T n)
def rowsTo (T : Lots) : Nat → List Lots
  | 0 => [[]]
  | n + 1 => rowsTo T n ++ layerOf T (n + 1)
def appD : PyData → PyData → PyData
  | .tuple xs, e => .tuple (xs ++ [e])
  | d, _ => d
def lastD : PyData → PyData → Bool
  | .tuple xs, e => (match xs.getLast? with
    | none => true
    | some x => !PySem.W.dataLt e x)
  | _, _ => true
theorem lastD_enc (row : Lots) (l : Lot) : lastD (encLots row) (encLot l) = lastOk row l := by
  show (match (row.map encLot).getLast? with
    | none => true
    | some x => !PySem.W.dataLt (encLot l) x) = _
  unfold lastOk
  rw [List.getLast?_map]
  cases row.getLast? <;> rfl
theorem next_map (T : Lots) (layer : List Lots) : ((layer.map encLots).flatMap fun d => ((T.map encLot).filter (lastD d)).map (appD d)) = (nextL T layer).map encLots := by
  unfold nextL
  rw [List.map_flatMap, List.flatMap_map]
  congr 1
  funext row
  rw [List.filter_map, List.map_map, List.map_map]
  have e : (fun l => lastD (encLots row) (encLot l)) = lastOk row := funext fun l => lastD_enc row l
  show ((T.filter (fun l => lastD (encLots row) (encLot l))).map _) = _
  rw [e]
  refine List.map_congr_left fun l _ => ?_
  show PyData.tuple ((row.map encLot) ++ [encLot l]) = PyData.tuple ((row ++ [l]).map encLot)
  rw [List.map_append]
  rfl
theorem next_len (T : Lots) : ∀ layer : List Lots, (nextL T layer).length ≤ layer.length * T.length
  | [] => by simp [nextL]
  | r :: layer => by
    have ih := next_len T layer
    unfold nextL at ih ⊢
    rw [List.flatMap_cons, List.length_append, List.length_map, List.length_cons, Nat.succ_mul]
    have := List.length_filter_le (lastOk r) T
    omega
theorem layer_len {T : Lots} (h : T.length ≤ 4) : ∀ n, (layerOf T n).length ≤ 4 ^ n
  | 0 => Nat.le_refl 1
  | n + 1 => by
    have h1 := next_len T (layerOf T n)
    have h2 := layer_len h n
    have h3 : (layerOf T n).length * T.length ≤ 4 ^ n * 4 := Nat.mul_le_mul h2 h
    rw [Nat.pow_succ]
    exact Nat.le_trans h1 h3
theorem layer_row {T : Lots} : ∀ {n : Nat} {r : Lots}, r ∈ layerOf T n → r.length = n ∧ ∀ l ∈ r, l ∈ T
  | 0, r, h => by
    rw [List.mem_singleton.mp h]
    exact ⟨rfl, fun _ z => nomatch z⟩
  | n + 1, r, h => by
    obtain ⟨r0, h0, h1⟩ := List.mem_flatMap.mp h
    obtain ⟨l, h2, rfl⟩ := List.mem_map.mp h1
    obtain ⟨e, q⟩ := layer_row h0
    refine ⟨by rw [List.length_append, e]; rfl, fun k hk => ?_⟩
    rcases List.mem_append.mp hk with z | z
    · exact q k z
    · rw [List.mem_singleton.mp z]
      exact (List.mem_filter.mp h2).1
theorem rows_row {T : Lots} : ∀ {n : Nat} {r : Lots}, r ∈ rowsTo T n → r.length ≤ n ∧ ∀ l ∈ r, l ∈ T
  | 0, r, h => by
    rw [List.mem_singleton.mp h]
    exact ⟨Nat.le_refl _, fun _ z => nomatch z⟩
  | n + 1, r, h => by
    rcases List.mem_append.mp h with z | z
    · obtain ⟨a, b⟩ := rows_row z
      exact ⟨by omega, b⟩
    · obtain ⟨a, b⟩ := layer_row z
      exact ⟨by omega, b⟩
theorem rows_len {T : Lots} (h : T.length ≤ 4) {n : Nat} (hn : n ≤ 3) : (rowsTo T n).length ≤ 85 := by
  have l1 := layer_len h 1
  have l2 := layer_len h 2
  have l3 := layer_len h 3
  have e0 : (rowsTo T 0).length = 1 := rfl
  have e1 : (rowsTo T 1).length = (rowsTo T 0).length + (layerOf T 1).length := List.length_append ..
  have e2 : (rowsTo T 2).length = (rowsTo T 1).length + (layerOf T 2).length := List.length_append ..
  have e3 : (rowsTo T 3).length = (rowsTo T 2).length + (layerOf T 3).length := List.length_append ..
  have : n = 0 ∨ n = 1 ∨ n = 2 ∨ n = 3 := by omega
  rcases this with rfl | rfl | rfl | rfl <;> omega
theorem few_sub {T r : Lots} (hT : Few T) (hl : r.length ≤ 1000) (h : ∀ l ∈ r, l ∈ T) : Few r := ⟨hl, fun l hl => hT.2 l (h l hl)⟩
theorem noL_rows (rs : List Lots) : noLs (rs.map encLots) = true := noLs_of fun d hd => by
  obtain ⟨r, _, rfl⟩ := List.mem_map.mp hd
  exact noL_lots r
end
end K15

/-! tuples_of. -/
namespace K15
open PySem PySem.Spec PyProof.Rows L2
section
variable {P : Program} {w : World} {K : Frag} {mg : Mg} {base : Heap}
def R_tuples (ds : List PyData) (r : PyData) : Prop := ∃ T, ds = [encLots T] ∧ T.length ≤ 4 ∧ Few T ∧ r = .list ((rowsTo T 3).map encLots)
theorem sc_tuples_of : FnScope ["lots", "found", "layer", "turn", "row", "lot"] ["lots"] (defScope s_tuples_of) := ⟨rfl, rfl, rfl, by decide +kernel, rfl, by decide +kernel, by decide +kernel⟩
theorem yd_neg {σ : St} {H : Hp} {te : TE} {i : Int} (h : Yd K te σ H (.int i)) : Yd K (tUn (rU fun i => .int (-i)) te) σ H (.int (-i)) := fun H1 s Q q => h H1 s _ fun v H2 s2 hv => ⟨i, dp_int hv, q _ H2 s2 (.int _)⟩
theorem last_at {xs : List PyData} {x : PyData} (h : xs.getLast? = some x) : atI xs (-1) = some x := by
  obtain ⟨ys, rfl⟩ := List.getLast?_eq_some_iff.mp h
  exact atI_last ys x
theorem empty_row : encLots [] = .tuple [] := rfl
theorem depth_lot (l : Lot) : (encLot l).depth ≤ 60 := by
  rw [encLot, PyData.depth, strs_depth strs_of_map]
  decide
theorem short_row {r : Lots} (h : Few r) : short (.tuple (r.map encLot)) = true := short_lots h
/-- len(row) == 0 or row[-1] <= lot -/
theorem y_lastOk {σ : St} {H : Hp} {i j : Nat} {x y : V} {row : Lots} {l : Lot} {r : List V → Hp → VK → Prop} (hr : r = fun xs H Q => ∃ x n, xs = [x] ∧ LenV K x H n ∧ Q (.int (n : Nat)) H) (hF : Few row) (hi : σ[i]? = some (some x)) (hx : Dp K H x (encLots row)) (hj : σ[j]? = some (some y)) (hy : Dp K H y (encLot l)) :
    YdT (tOr (tTest (tOp rEq (tCB r (tCons (tVar i) tNil)) (tC (.int 0)))) (tTest (tOp (rLeD K) (tOp (rIx K) (tVar i) (tUn (rU fun i => .int (-i)) (tC (.int 1)))) (tVar j)))) σ H (lastD (encLots row) (encLot l)) := by
  have h1 := yt_test (yd_eqI (yd_len (lots_items row) (short_lots hF) hr (yd_var hi hx)) (yd_int (i := 0)))
  cases e : row.getLast? with
  | none =>
    have e2 : row = [] := List.getLast?_eq_none_iff.mp e
    subst e2
    exact yt_or (b := false) h1 (fun z => by cases z)
  | some k =>
    have ek : (row.map encLot).getLast? = some (encLot k) := by rw [List.getLast?_map, e]; rfl
    refine (yt_or h1 (fun _ => yt_test (yd_le (yd_ix (lots_items row) (short_lots hF) (yd_var hi hx) (yd_neg yd_int) (last_at ek)) (yd_var hj hy) (alike_lot k l) (fun z => nomatch z) (depth_lot k)))).is ?_
    have e3 : decide ((((row.map encLot).length : Nat) : Int) = 0) = false := by
      refine decide_eq_false fun z => ?_
      have : row = [] := by
        rw [List.length_map] at z
        exact List.eq_nil_of_length_eq_zero (by omega)
      rw [this] at e
      cases e
    rw [e3, lastD_enc]
    unfold lastOk
    rw [e]
    rfl
theorem ok_tuples_of (D : DefAt K mg "tuples_of" s_tuples_of ["lots"]) (B : Blt mg) (tm : ∃ t, mg "MOST_MORE" = some (.int 3 t)) : Has P w K mg base CX0 1 "tuples_of" ["lots"] (spD K R_tuples) := by
  obtain ⟨f, fd, F, g, b⟩ := D
  obtain ⟨tm, hmm⟩ := tm
  refine ⟨f, fd, F.ok sc_tuples_of (fun vs H Q E h => len_spD (fun ds r ⟨T, e, _⟩ => by rw [e]; rfl) h) (fun cdv A outer s H vs Q E hr h => ?_), g, F.kp, b⟩
  obtain ⟨ds, r, hv, ⟨T, rfl, hT, hF, rfl⟩, q⟩ := h
  cases hv with
  | cons hd hn =>
    cases hn
    refine ⟨_, pss_cons (ps_set (i := 1) sc_tuples_of.nd rfl (.inl rfl) (pe_lst (pa_cons (pe_tup pa_nil) pa_nil)))
      (pss_cons (ps_set (i := 2) sc_tuples_of.nd rfl (.inl rfl) (pe_lst (pa_cons (pe_tup pa_nil) pa_nil)))
      (pss_cons (ps_for (passes_of rfl) rfl (pi_range1 (by rfl) B.range (pa_cons (pe_glob (v := .int 3) (by rfl) hmm ⟨_, rfl⟩) pa_nil)) (pg_name (i := 3) sc_tuples_of.nd rfl (.inl rfl))
        (pss_cons (ps_setLc2 (i := 2) (own := [("row", 4), ("lot", 5)]) (vs1 := [5]) (g := gName 4) (tt := tYes) (g1 := gName 5) (wi1 := iTup K (tVar 0)) rfl sc_tuples_of.nd rfl rfl (sw_true rfl rfl rfl (by decide +kernel))
          (pi_list (pv 2)) (blkOk_by (N := ["lots", "found", "layer", "turn", "row", "lot"]) (sc := defScope s_tuples_of) (by decide +kernel)) (by decide) (fun _ _ _ _ _ => pg_name (i := 4) sc_tuples_of.nd rfl (Or.inl rfl)) (fun _ _ _ _ _ => pts_nil)
          (fun _ _ _ _ _ => pi_tup (pv 0)) (fun _ _ _ _ _ => pg_name (i := 5) sc_tuples_of.nd rfl (Or.inl rfl))
          (fun _ _ _ _ _ => pts_one (PW.pt (pw_or (pt_cmpR op_eq (pe_callB (r := fun xs H Q => ∃ x n, xs = [x] ∧ LenV K x H n ∧ Q (.int (n : Nat)) H) call_len (by rfl) B.len PySem.boot_len (pa_cons (pv 4) pa_nil)) pe_int (nomark _))
            (pw_or1 (pt_cmpR (r := rLeD K) (op_leD hr.units) (pe_ix (r := rIx K) ix_seq (pv 4) (pe_un un_neg pe_int) (fun _ _ => rfl)) (pv 5) (nomark _))))))
          (fun _ _ _ _ _ => pe_op (r := rCatA K) op_catA (pv 4) (pe_tup (pa_cons (pv 5) pa_nil))))
        (pss_one (ps_expr (pe_bm PySem.F.plainAttrs_list PySem.F.slot_list_extend PySem.F.type_list_extend mt_extend (pv 1) (pa_cons (pv 2) pa_nil))))))
      (pss_one (ps_ret (pv 1))))), ?_⟩
    -- found = [()]
    refine ⟨by show 0 ≤ sizeLine; exact Nat.zero_le _, fun t1 ht1 => ⟨by show 1 ≤ sizeLine; decide, fun af haf => ?_⟩⟩
    refine ⟨by show 0 ≤ sizeLine; exact Nat.zero_le _, fun t2 ht2 => ⟨by show 1 ≤ sizeLine; decide, fun al hal => ?_⟩⟩
    have ne12 : af ≠ al := fun z => by
      rw [← z, upd_ne (fun z2 => by rw [← z2, upd_same] at ht2; cases ht2), upd_same] at hal
      cases hal
    have s1 : Same H (upd H t1 (.tup [])) := same_new ht1
    have s2 := s1.trans (same_new (o := .lst [.ref t1]) haf)
    have s3 := s2.trans (same_new (o := .tup []) ht2)
    have s4 := s3.trans (same_new (o := .lst [.ref t2]) hal)
    have d1 : Dp K (upd H t1 (.tup [])) (.ref t1) (encLots []) := dp_newT .nil ht1
    have d2 : Dp K (upd (upd (upd H t1 (.tup [])) af (.lst [.ref t1])) t2 (.tup [])) (.ref t2) (encLots []) := dp_newT .nil ht2
    have haf0 : H af = none := none_of_same s1 haf
    have nft : af ≠ t2 := fun z => by
      rw [← z, upd_same] at ht2
      cases ht2
    refine ⟨3, rfl, by decide, by decide, for_it walk_range (fun i σ' H' => ∃ al fs ls u3, σ' = [some _, some (.ref af), some (.ref al), u3, none, none] ∧ Same H H' ∧ H' af = some (.lst fs) ∧ DpAll K H' fs ((rowsTo T i).map encLots) ∧ H' al = some (.lst ls) ∧ DpAll K H' ls ((layerOf T i).map encLots) ∧ al ≠ af)
      ⟨al, [.ref t1], [.ref t2], none, rfl, s4, by rw [upd_ne ne12, upd_ne nft, upd_same], .cons (dp_same ((same_new haf).trans ((same_new ht2).trans (same_new hal))) _ _ d1) .nil, upd_same, .cons (dp_same (same_new hal) _ _ d2) .nil, Ne.symm ne12⟩ (fun _ _ _ _ _ => trivial) (fun i x σ' H3 H4 hlt h y => ?_) (fun σ' H3 h => ?_)⟩
    · obtain ⟨al, fs, ls, u3, rfl, s5, e1, e2, e3, e4, ne⟩ := h
      obtain ⟨rfl, rfl⟩ := y
      have hi3 : i ≤ 2 := by
        have : i < (3 : Int).toNat := hlt
        have e : (3 : Int).toNat = 3 := rfl
        omega
      have ll := layer_len hT i
      have l16 : 4 ^ i ≤ 16 := by
        have : i = 0 ∨ i = 1 ∨ i = 2 := by omega
        rcases this with rfl | rfl | rfl <;> decide
      have rl := rows_len hT (n := i) (by omega)
      have hrow : ∀ d ∈ (layerOf T i).map encLots, ∃ row, d = encLots row ∧ Few row ∧ row.length ≤ 3 := fun d hd => by
        obtain ⟨row, hr, rfl⟩ := List.mem_map.mp hd
        obtain ⟨a, b⟩ := layer_row hr
        exact ⟨row, rfl, few_sub hF (by omega) b, by omega⟩
      refine y_asgN ((yl_lc2 (p := lastD) (f := appD) (by decide) (ydi_lstL (yl_var rfl e3 e4)) ?_ (dp_same s5 _ _ hd) (fun x => rfl) (fun d hd e he => ?_) (fun H5 x y d e s6 hd he hx hy => ⟨?_, ?_⟩) (fun d hd => ?_)).is (next_map T (layerOf T i))) fun al' ls' H5 s6 hnew e5 h5 => ?_
      · rw [List.length_map, List.length_map]
        have : (layerOf T i).length * T.length ≤ 16 * 4 := Nat.mul_le_mul (by omega) hT
        omega
      · obtain ⟨row, rfl, _⟩ := hrow d hd
        obtain ⟨l, _, rfl⟩ := List.mem_map.mp he
        have : appD (encLots row) (encLot l) = encLots (row ++ [l]) := by
          show PyData.tuple ((row.map encLot) ++ [encLot l]) = PyData.tuple ((row ++ [l]).map encLot)
          rw [List.map_append]
          rfl
        rw [this]
        exact noL_lots _
      · obtain ⟨row, rfl, hFr, _⟩ := hrow d hd
        obtain ⟨l, _, rfl⟩ := List.mem_map.mp he
        exact y_lastOk rfl hFr rfl hx rfl hy
      · obtain ⟨row, rfl, hFr, h3⟩ := hrow d hd
        obtain ⟨l, _, rfl⟩ := List.mem_map.mp he
        exact yd_catT (yd_var rfl hx) (yd_tup (ya_cons (yd_var rfl hy) ya_nil) (show 1 ≤ 1000 by decide)) (by
          show (row.map encLot).length + 1 ≤ 1000
          rw [List.length_map]
          omega)
      · obtain ⟨row, rfl, _⟩ := hrow d hd
        exact noL_lots row
      · have naf : al' ≠ af := fun z => by
          rw [z, e1] at hnew
          cases hnew
        have e15 := s6 _ _ e1
        have nl := next_len T (layerOf T i)
        have nl2 : (layerOf T i).length * T.length ≤ 16 * 4 := Nat.mul_le_mul (by omega) hT
        have q1 := dps_len e2
        have q2 := dps_len h5
        rw [List.length_map] at q1 q2
        refine ⟨.ref af, rfl, .inl ⟨rfl, _, SqL.of e15⟩, .ref al', rfl, af, al', fs, ls', rfl, rfl, e15, e5, ?_, ?_⟩
        · rw [q1, q2]
          exact small1 (by omega)
        · have ts := Ts.lst (K := K) (o := .lst (fs ++ ls')) e15
          refine ⟨al', fs ++ ls', ls', some (.int (0 + (i : Nat))), rfl, same_mut (s5.trans s6) haf0, upd_same, ?_, by rw [upd_ne naf]; exact e5, dps_ts ts _ _ (noL_rows _) h5, naf⟩
          show DpAll K _ _ ((rowsTo T i ++ layerOf T (i + 1)).map encLots)
          rw [List.map_append]
          exact dps_app (dps_ts ts _ _ (noL_rows _) (dps_same s6 _ _ e2)) (dps_ts ts _ _ (noL_rows _) h5)
    · obtain ⟨al, fs, ls, u3, rfl, s5, e1, e2, e3, e4, ne⟩ := h
      dsimp only
      refine y_ret (d := .list ((rowsTo T 3).map encLots)) (yd_var rfl (.lst (SqL.of e1) e2)) ?_
      intro v H6 s6 hv
      exact q v H6 (s5.trans s6) hv
end
end K15

/-! more_seats. -/
namespace K15
open PySem PySem.Spec PyProof.Rows L2
inductive Out
  | bad (b : Bad)
  | told (r : Option Lots)
open Classical in
/-- what the scan of the rows ends by -/
noncomputable def scan (L M : Lots) (E : List Str) : List Lots → Out
  | [] => .told none
  | r :: rs => if 40 < L.length + r.length then .bad (.many 40) else if Bound (L ++ r) M E 3000 then (if Never (L ++ r) M E then .told (some r) else scan L M E rs) else .bad (.many 3000)
def EndsO (K : Frag) (cs : Cls3) (H : Hp) (Q : VK) (E : XK) : Out → Prop
  | .bad b => ∀ cls d H', Same H H' → XP cs b cls d H' → E cls d H'
  | .told none => ∀ H', Same H H' → Q .non H'
  | .told (some r) => ∀ v H', Same H H' → Dp K H' v (encLots r) → Q v H'
theorem EndsO.grow {K : Frag} {cs : Cls3} {H H1 : Hp} {Q : VK} {E : XK} (s : Same H H1) : ∀ {o : Out}, EndsO K cs H Q E o → EndsO K cs H1 Q E o
  | .bad _, h => fun cls d H' s' => h cls d H' (s.trans s')
  | .told none, h => fun H' s' => h H' (s.trans s')
  | .told (some _), h => fun v H' s' => h v H' (s.trans s')
theorem few_short {L : Lots} (h : short (encLots L) = true) : Few L := by
  have h1 : decide ((L.map encLot).length ≤ 1000) = true ∧ shorts (L.map encLot) = true := by
    have : (decide ((L.map encLot).length ≤ 1000) && shorts (L.map encLot)) = true := h
    rwa [Bool.and_eq_true] at this
  refine ⟨by have := of_decide_eq_true h1.1; rwa [List.length_map] at this, fun l hl => ?_⟩
  have h2 := shorts_mem h1.2 (encLot l) (List.mem_map.mpr ⟨l, hl, rfl⟩)
  have h3 : decide ((l.map PyData.str).length ≤ 1000) = true ∧ shorts (l.map PyData.str) = true := by
    have : (decide ((l.map PyData.str).length ≤ 1000) && shorts (l.map PyData.str)) = true := h2
    rwa [Bool.and_eq_true] at this
  refine ⟨by have := of_decide_eq_true h3.1; rwa [List.length_map] at this, fun k hk => ?_⟩
  have h4 := shorts_mem h3.2 (.str k) (List.mem_map.mpr ⟨k, hk, rfl⟩)
  exact of_decide_eq_true h4
/-- lots that are right -/
theorem olots_enc {m : Str} : ∀ {o : Option PyData}, oLots m o = true → ∃ T, o = some (encLots T) ∧ T.all (lotB m) = true ∧ 1 ≤ T.length ∧ T.length ≤ 4
  | some d, h => by
    cases ht : isTup d with
    | false =>
      have : lotsD m d = false := (not_tup_lot ht).2 m
      rw [show oLots m (some d) = lotsD m d from rfl, this] at h
      cases h
    | true =>
      obtain ⟨xs, rfl⟩ := is_tup_of ht
      have h' : (decide (1 ≤ xs.length) && decide (xs.length ≤ 4) && (xs.all (lotD m) && ascD xs)) = true := h
      simp only [Bool.and_eq_true, decide_eq_true_eq] at h'
      obtain ⟨⟨h1, h2⟩, h3, _⟩ := h'
      obtain ⟨T, rfl, hT⟩ := lots_dec h3
      rw [List.length_map] at h1 h2
      exact ⟨T, rfl, hT, h1, h2⟩
  | none, h => nomatch h
section
variable {P : Program} {w : World} {K : Frag} {mg : Mg} {base : Heap} {C fI fT : Addr} {cs : Cls3}
theorem y_seq {t u : TS} {D : Ends} {σ : St} {H : Hp} (h : t { D with nx := u D } σ H) : tSeq t u D σ H := h
theorem y_dropS {sp : Sp} {E : St → XK} {ta : TA} {D : Ends} {σ : St} {H : Hp} (h : ta σ H fun vs H1 => sp vs H1 (fun _ H2 => D.nx σ H2) (E σ)) : tDrop (tCallS sp E ta) D σ H := h
theorem y_cons1 {te : TE} {tr : TA} {σ : St} {H : Hp} {d : PyData} {Q : List V → Hp → Prop} (h : Yd K te σ H d) (k : ∀ v H1, Same H H1 → Dp K H1 v d → tr σ H1 fun vs H2 => Q (v :: vs) H2) : tCons te tr σ H Q := h H (Same.refl _) _ fun v H1 s hv => k v H1 s hv
theorem y_g {i : Nat} {x : V} {t : TS} {D : Ends} {σ : St} {H : Hp} (h : t D (σ.set i (some x)) H) : gName i x σ H (fun σ2 H2 => t D σ2 H2) := h
theorem y_ifB {te : TE} {tu tw : TS} {D : Ends} {σ : St} {H : Hp} (h : te σ H fun x H1 => ∃ d, x = .bl d ∧ (if d = true then tu D σ H1 else tw D σ H1)) : tIfS (tB te) tu tw D σ H := h
theorem y_tcallS {sp : Sp} {E : St → XK} {ta : TA} {σ : St} {H : Hp} {Q : VK} (h : ta σ H fun vs H1 => sp vs H1 Q (E σ)) : tCallS sp E ta σ H Q := h
theorem y_consR {te : TE} {tr : TA} {σ : St} {H : Hp} {Q : List V → Hp → Prop} (h : te σ H fun v H1 => tr σ H1 fun vs H2 => Q (v :: vs) H2) : tCons te tr σ H Q := h
/-- Seats(marks, lots), all right -/
theorem y_make (S : SeatF K mg C fI) {σ : St} {H : Hp} {ta : TA} {m : Str} {L : Lots} {E : XK} (ha : YdA K ta σ H [.str m, encLots L]) (hm : marksB m = true) (hF : Few L) (hl : L.length ≤ 40) (hL : L.all (lotB m) = true) (H1 : Hp) (s : Same H H1) (Q : VK)
    (k : ∀ x H2, Same H1 H2 → H1 x = none → SeatAt K H2 C x m L → Q (.ref x) H2) : tMake C (spSI K) [] E ta σ H1 Q := by
  refine ha H1 s _ fun vs H2 s2 hvs => ?_
  cases hvs with
  | cons h1 hvs =>
    cases hvs with
    | cons h2 hvs =>
      cases hvs
      have e := dp_str h1
      subst e
      intro x dx hx hdx hne
      have s3 : Same H2 (upd (upd H2 dx (.own x)) x (.ins C dx [])) := same_mut (same_new hdx) hx
      refine ⟨x, C, dx, m, _, L, rfl, upd_same, dp_same s3 _ _ h2, hm, hF, hl, hL, S.cl, S.nm, S.nl, fun H' keep e => ⟨rfl, ?_⟩⟩
      have s4 : Same H2 H' := fun b o hb => keep b o (ne_of_none hb hx) (s3 b o hb)
      exact k x H' (s2.trans s4) (none_of_same s2 hx) ⟨dx, _, e, dp_same s4 _ _ h2⟩
def spMS (K : Frag) (C : Addr) (cs : Cls3) : Sp := fun vs H Q E => ∃ p q m m' L M vt o, vs = [.ref p, .ref q, vt] ∧ SeatAt K H C p m L ∧ SeatAt K H C q m' M ∧ Thing K H vt o ∧ marksB m = true ∧ Few L ∧ Few M ∧ L.length ≤ 40 ∧ M.length ≤ 40 ∧ L.all (lotB m) = true ∧
  (m ≠ m' → EndsO K cs H Q E (.bad .marks)) ∧ (m = m' → oLots m o = false → EndsO K cs H Q E (.bad .lots)) ∧ (∀ T, m = m' → o = some (encLots T) → oLots m o = true → EndsO K cs H Q E (scan L M (kindsOf m) (rowsTo T 3)))
theorem sc_more_seats : FnScope ["one", "other", "lots", "row"] ["one", "other", "lots"] (defScope s_more_seats) := ⟨rfl, rfl, rfl, by decide +kernel, rfl, by decide +kernel, by decide +kernel⟩
theorem ok_more_seats (D : DefAt K mg "more_seats" s_more_seats ["one", "other", "lots"]) (S : SeatF K mg C fI) (B : Blt mg) (GS : HasI P w K mg base 5 fI ["self", "marks", "lots"] (spSI K)) (A1 : Has P w K mg base (L2N.CX P w) 1 "check_same_marks" ["one", "other"] (spSame K C cs))
    (A4 : Has P w K mg base (L2N.CX P w) 4 "check_lots" ["marks", "thing"] (spLots K cs)) (AT : Has P w K mg base CX0 1 "tuples_of" ["lots"] (spD K R_tuples)) (A6 : Has P w K mg base (L2N.CX P w) 6 "never_fewer" ["one", "other"] (spNF K P w C cs))
    (T3 : ManyF K mg cs.cT fT) (GI : HasI P w K mg base 1 fT ["self", "most"] (spMI K)) (tm : ∃ t, mg "MOST_SEATS" = some (.int 40 t)) : Has P w K mg base (L2N.CX P w) 7 "more_seats" ["one", "other", "lots"] (spMS K C cs) := by
  obtain ⟨f, fd, F, g, b⟩ := D
  obtain ⟨f1, fd1, G1, g1, k1, b1⟩ := A1
  obtain ⟨f4, fd4, G4, g4, k4, b4⟩ := A4
  obtain ⟨f5, fd5, G5, g5, k5, b5⟩ := AT
  obtain ⟨f6, fd6, G6, g6, k6, b6⟩ := A6
  obtain ⟨fdS, GS, bS⟩ := GS
  obtain ⟨tm, hmm⟩ := tm
  refine ⟨f, fd, F.ok sc_more_seats (fun vs H Q E h => by obtain ⟨p, q, m, m', L, M, vt, o, rfl, _⟩ := h; rfl) (fun cdv A outer s H vs Q E hr h => ?_), g, F.kp, b⟩
  obtain ⟨p, q, m, m', L, M, vt, o, rfl, h1, h2, ht, hm, hF, hG, hl1, hl2, hL, kM, kL, kS⟩ := h
  refine ⟨_, pss_cons (ps_expr (pe_callS G1 (hr.mono (by decide)) (by rfl) g1 k1 b1 (fun σ => L2N.passAt (L2N.takes_of rfl rfl rfl rfl) σ) (pa_cons (pv 0) (pa_cons (pv 1) pa_nil))))
    (pss_cons (ps_expr (pe_callS G4 (hr.mono (by decide)) (by rfl) g4 k4 b4 (fun σ => L2N.passAt (L2N.takes_of rfl rfl rfl rfl) σ) (pa_cons (pe_fld (pv 0) rfl) (pa_cons (pv 2) pa_nil))))
    (pss_cons (ps_for (passes_of rfl) rfl (pi_list (pe_call G5 (hr.mono (by decide)) (by rfl) g5 k5 b5 .nil pass0 (pa_cons (pv 2) pa_nil))) (pg_name (i := 3) sc_more_seats.nd rfl (.inl rfl))
      (pss_cons (ps_if (pt_cmpR op_gt (pe_op op_add (pe_callB call_len (by rfl) B.len PySem.boot_len (pa_cons (pe_fld (pv 0) rfl) pa_nil)) (pe_callB call_len (by rfl) B.len PySem.boot_len (pa_cons (pv 3) pa_nil))) (pe_glob (v := .int 40) (by rfl) hmm ⟨_, rfl⟩) (nomark _))
        (pss_one (ps_many T3 GI (hr.mono (by decide)) rfl (L2N.takes_of rfl rfl rfl rfl) (by rfl) (pe_glob (v := .int 40) (by rfl) hmm ⟨_, rfl⟩))) pss_nil)
      (pss_one (ps_if (pt_val (pe_callS G6 hr (by rfl) g6 k6 b6 (fun σ => L2N.passAt (L2N.takes_of rfl rfl rfl rfl) σ) (pa_cons (pe_make S.mks GS hr (by rfl) S.g bS .nil pass0 (pa_cons (pe_fld (pv 0) rfl) (pa_cons (pe_op op_catA (pe_fld (pv 0) rfl) (pv 3)) pa_nil))) (pa_cons (pv 1) pa_nil))))
        (pss_one (ps_ret (pv 3))) pss_nil))))
    (pss_one (ps_ret pe_non)))), ?_⟩
  have hml := marks_len hm
  refine ⟨.ref p, rfl, .ref q, rfl, p, q, m, m', L, M, rfl, h1, h2, ?_⟩
  unfold outSame
  by_cases hmm' : m = m'
  · rw [if_pos hmm']
    intro v0 H1 s1 _
    dsimp only
    refine y_seq (y_dropS (y_cons1 (yd_marks S rfl (h1.same s1)) fun vm H2 s2 hvm => ?_))
    refine ⟨vt, rfl, m, vm, vt, o, rfl, hvm, ht.same (s1.trans s2), ?_⟩
    unfold outLots
    cases ho : oLots m o with
    | false =>
      rw [if_neg Bool.false_ne_true]
      intro cls d H3 s3 hx
      exact kL hmm' ho cls d H3 ((s1.trans s2).trans s3) hx
    | true =>
      rw [if_pos rfl]
      intro v3 H3 s3 _
      have sb := (s1.trans s2).trans s3
      obtain ⟨T, rfl, hT, ht1, ht4⟩ := olots_enc ho
      have ht3 := ht.same sb
      obtain ⟨htd, hts⟩ := ht3
      have hFT := few_short hts
      have kS' := EndsO.grow sb (kS T hmm' rfl ho)
      refine y_for (K := K) (ds := (rowsTo T 3).map encLots) (ydi_lst (yd_call (R := R_tuples) (ya_cons (yd_var rfl htd) ya_nil) ⟨T, rfl, ht4, hFT, rfl⟩))
        (fun i σ' H' => (∃ u, σ' = [some (.ref p), some (.ref q), some vt, u]) ∧ scan L M (kindsOf m) (rowsTo T 3) = scan L M (kindsOf m) ((rowsTo T 3).drop i)) (fun H4 s4 => ⟨⟨none, rfl⟩, by rw [List.drop_zero]⟩)
        (fun H4 s4 i d σ' H5 H6 x s5 s6 hi hp hx => ?_) (fun σ' H4 s4 hp => ?_)
      · obtain ⟨⟨u, rfl⟩, hsc⟩ := hp
        rw [List.getElem?_map] at hi
        obtain ⟨r, hr', rfl⟩ := Option.map_eq_some_iff.mp hi
        obtain ⟨hlt, hre⟩ := List.getElem?_eq_some_iff.mp hr'
        rw [List.drop_eq_getElem_cons hlt, hre] at hsc
        obtain ⟨hr3, hrT⟩ := rows_row (List.mem_of_getElem? hr')
        have hFr : Few r := few_sub hFT (by omega) hrT
        have s36 := (s4.trans s5).trans s6
        have s06 := sb.trans s36
        have h1' := h1.same s06
        have h2' := h2.same s06
        refine y_g (y_seq ?_)
        refine y_if (yt_test (yd_cmpI (yd_add (yd_lenLots S rfl hF rfl h1') (yd_len (lots_items r) (short_lots hFr) rfl (yd_var rfl hx))) yd_int)) (fun e H7 s7 => ?_) (fun e H7 s7 => ?_)
        · rw [List.length_map] at e
          have e40 : 40 < L.length + r.length := by
            have := of_decide_eq_true e
            omega
          have es : scan L M (kindsOf m) (rowsTo T 3) = .bad (.many 40) := by
            rw [hsc]
            unfold scan
            rw [if_pos e40]
          rw [es] at kS'
          refine y_many (W := fun cls d _ H => E cls d H) T3 (n := 40) yd_int fun dx H8 s8 he => ?_
          exact kS' _ _ _ ((s36.trans s7).trans s8) ⟨rfl, dx, rfl, he⟩
        · dsimp only [tNext]
          rw [List.length_map] at e
          have e40 : L.length + r.length ≤ 40 := by
            have := of_decide_eq_false e
            omega
          have hFa : Few (L ++ r) := hF.app hFr (by omega)
          have hLa : (L ++ r).all (lotB m) = true := by
            rw [List.all_append, hL, Bool.true_and]
            exact List.all_eq_true.mpr fun l hl => List.all_eq_true.mp hT l (hrT l hl)
          have hll : (L ++ r).length ≤ 40 := by
            rw [List.length_append]
            exact e40
          have es : scan L M (kindsOf m) (rowsTo T 3) = (open Classical in if Bound (L ++ r) M (kindsOf m) 3000 then (if Never (L ++ r) M (kindsOf m) then .told (some r) else scan L M (kindsOf m) ((rowsTo T 3).drop (i + 1))) else .bad (.many 3000)) := by
            rw [hsc]
            conv => lhs; unfold scan
            rw [if_neg (by omega)]
          refine y_ifB (y_tcallS (y_consR ?_))
          refine y_make S (ya_cons (yd_marks S rfl (h1'.same s7)) (ya_cons ((yd_catT (yd_lots S rfl (h1'.same s7)) (yd_var rfl (dp_same s7 _ _ hx)) (by rw [List.length_map, List.length_map]; omega)).is (by rw [← List.map_append]; rfl)) ya_nil)) hm hFa hll hLa H7 (Same.refl _) _ fun x8 H8 s8 hx8 hs8 => ?_
          refine ⟨.ref q, rfl, x8, q, m, m', L ++ r, M, rfl, hs8, h2'.same (s7.trans s8), hml, hFa, hG, by omega, by omega, hmm', fun hb bb H9 hiff s9 => ⟨bb, rfl, ?_⟩, fun hb cls d H9 s9 hx => ?_⟩
          · rw [if_pos hb] at es
            have s79 := (s7.trans s8).trans s9
            cases hbb : bb with
            | true =>
              rw [if_pos (hiff.mp hbb)] at es
              rw [es] at kS'
              refine iteT (y_ret (yd_var rfl (dp_same s79 _ _ hx)) ?_)
              intro v H10 s10 hv
              exact kS' v H10 ((s36.trans s79).trans s10) hv
            | false =>
              rw [if_neg (fun z => by rw [hiff.mpr z] at hbb; cases hbb)] at es
              exact iteF ⟨(s5.trans s6).trans s79, ⟨_, rfl⟩, es⟩
          · rw [if_neg hb] at es
            rw [es] at kS'
            exact kS' cls d H9 (((s36.trans s7).trans s8).trans s9) hx
      · obtain ⟨⟨u, rfl⟩, hsc⟩ := hp
        rw [List.length_map, List.drop_length] at hsc
        have es : scan L M (kindsOf m) (rowsTo T 3) = .told none := hsc
        rw [es] at kS'
        dsimp only
        refine y_ret (K := K) yd_non ?_
        intro v H5 s5 hv
        rw [dp_none hv]
        exact kS' H5 (s4.trans s5)
  · rw [if_neg hmm']
    exact kM hmm'
end
end K15

/-! The tape: what a pick moves. -/
namespace K15
open PySem PySem.Spec PyProof.Rows L2
/-- all but t stands -/
def Mut (t : Addr) (H H' : Hp) : Prop := ∀ b o, b ≠ t → H b = some o → H' b = some o
theorem Mut.refl (t : Addr) (H : Hp) : Mut t H H := fun _ _ _ h => h
theorem Mut.trans {t : Addr} {H H1 H2 : Hp} (a : Mut t H H1) (b : Mut t H1 H2) : Mut t H H2 := fun x o hx h => b x o hx (a x o hx h)
theorem Mut.same {t : Addr} {H H' : Hp} (s : Same H H') : Mut t H H' := fun b o _ h => s b o h
/-- the tape: the script, and four ints -/
def TapeAt (H : Hp) (t c : Addr) : Prop := ∃ i1 i2 i3 i4, ∃ ns : List Int, H t = some (.lst [.ref c, .int i1, .int i2, .int i3, .int i4]) ∧ H c = some (.lst (ns.map V.int)) ∧ 0 ≤ i1
theorem TapeAt.same {H H' : Hp} {t c : Addr} (h : TapeAt H t c) (s : Same H H') : TapeAt H' t c := by
  obtain ⟨i1, i2, i3, i4, ns, h1, h2, h3⟩ := h
  exact ⟨i1, i2, i3, i4, ns, s _ _ h1, s _ _ h2, h3⟩
theorem TapeAt.mem {H : Hp} {t c : Addr} (h : TapeAt H t c) : ∃ xs, H t = some (.lst xs) := by
  obtain ⟨i1, i2, i3, i4, ns, h1, h2, h3⟩ := h
  exact ⟨_, h1⟩
theorem TapeAt.ts {K : Frag} {H H' : Hp} {t c : Addr} (h : TapeAt H t c) (m : Mut t H H') : Ts K H H' := by
  obtain ⟨i1, i2, i3, i4, ns, h1, h2, h3⟩ := h
  intro a xs e
  have na : ∀ {o : HO}, H a = some o → o ≠ .lst [.ref c, .int i1, .int i2, .int i3, .int i4] → a ≠ t := fun {o} e1 ne z => by
    rw [z, h1] at e1
    exact ne (Option.some.inj e1).symm
  rcases e with (e | ⟨ob, e⟩) | e
  · exact .inl (.inl (m a _ (na e (fun z => nomatch z)) e))
  · exact .inl (.inr ⟨ob, m a _ (na e (fun z => nomatch z)) e⟩)
  · exact .inr e
/-- a list of no such look stands -/
theorem TapeAt.sql {K : Frag} {H H' : Hp} {t c a : Addr} {xs : List V} (h : TapeAt H t c) (m : Mut t H H') (hs : SqL K H a xs) (hx : ∀ c ys, xs ≠ .ref c :: ys) : SqL K H' a xs := by
  obtain ⟨i1, i2, i3, i4, ns, h1, h2, h3⟩ := h
  rcases hs with (e | ⟨ob, e⟩) | e
  · refine .inl (.inl (m a _ (fun z => ?_) e))
    rw [z, h1] at e
    exact hx _ _ (HO.lst.inj (Option.some.inj e)).symm
  · refine .inl (.inr ⟨ob, m a _ (fun z => ?_) e⟩)
    rw [z, h1] at e
    cases Option.some.inj e
  · exact .inr e
/-- the kinds' list stands -/
theorem TapeAt.strs {K : Frag} {H H' : Hp} {t c : Addr} {v : V} {ks : List Str} (h : TapeAt H t c) (m : Mut t H H') (hd : Dp K H v (.list (ks.map .str))) : Dp K H' v (.list (ks.map .str)) := by
  obtain ⟨a, xs, rfl, h1, h2⟩ := dp_lst hd
  have e := dps_strs h2
  subst e
  refine .lst (h.sql m h1 fun c ys z => ?_) (dps_map V.str PyData.str (fun z => .str z) ks)
  cases ks with
  | nil => cases z
  | cons k ks => cases (List.cons.inj z).1
theorem TapeAt.noL {K : Frag} {H H' : Hp} {t c : Addr} {v : V} {d : PyData} (h : TapeAt H t c) (m : Mut t H H') (hn : noL d = true) (hd : Dp K H v d) : Dp K H' v d := dp_ts (h.ts m) d v hn hd
theorem TapeAt.seat {K : Frag} {H H' : Hp} {t c C p : Addr} {m0 : Str} {L : Lots} (h : TapeAt H t c) (m : Mut t H H') (hs : SeatAt K H C p m0 L) : SeatAt K H' C p m0 L := by
  obtain ⟨dx, vl, h1, h2⟩ := hs
  obtain ⟨xs, hx⟩ := h.mem
  exact ⟨dx, vl, m p _ (fun z => by rw [z, hx] at h1; cases h1) h1, h.noL m (noL_lots L) h2⟩
section
variable {P : Program} {w : World} {K : Frag} {mg : Mg} {base : Heap}
/-! ### _law_tape -/
def spTape (K : Frag) : Sp := fun vs H Q _ => ∃ a, ∃ ns : List Int, vs = [.ref a] ∧ SqL K H a (ns.map V.int) ∧ ∀ t c H', Same H H' → H t = none → TapeAt H' t c → Q (.ref t) H'
theorem sc_law_tape : FnScope ["_law_script"] ["_law_script"] (defScope s_law_tape) := ⟨rfl, rfl, rfl, by decide +kernel, rfl, by decide +kernel, by decide +kernel⟩
theorem boot_list' : bootBuiltins "list" = some (.type "list") := by decide +kernel
theorem boot_int' : bootBuiltins "int" = some (.type "int") := by decide +kernel
theorem ok_law_tape (D : DefAt K mg "_law_tape" s_law_tape ["_law_script"]) (B : Blt mg) : Has P w K mg base CX0 1 "_law_tape" ["_law_script"] (spTape K) := by
  obtain ⟨f, fd, F, g, b⟩ := D
  refine ⟨f, fd, F.ok sc_law_tape (fun vs H Q E h => by obtain ⟨a, ns, rfl, _⟩ := h; rfl) (fun cdv A outer s H vs Q E hr h => ?_), g, F.kp, b⟩
  obtain ⟨a, ns, rfl, hs, q⟩ := h
  refine ⟨_, pss_one (ps_ret (pe_lst (pa_cons (pe_callTy call_list_of (by rfl) B.list boot_list' (pa_cons (pv 0) pa_nil)) (pa_cons pe_int (pa_cons pe_int (pa_cons pe_int (pa_cons pe_int pa_nil))))))), ?_⟩
  refine ⟨.ref a, rfl, a, _, rfl, .inl hs, fun c hc => ⟨by show 5 ≤ sizeLine; decide, fun t ht => ?_⟩⟩
  have s1 : Same H (upd H c (.lst (ns.map V.int))) := same_new hc
  have nct : c ≠ t := fun z => by
    rw [← z, upd_same] at ht
    cases ht
  exact q t c _ (s1.trans (same_new ht)) (none_of_same s1 ht) ⟨0, 0, 1, 0, ns, upd_same, by rw [upd_ne nct, upd_same], by decide⟩

/-! ### _law_pick -/
theorem y_seqC {v : V} {i : Nat} {u : TS} {D : Ends} {σ : St} {H : Hp} (h : u D (σ.set i (some v)) H) : tSeq (tAsg (tC v) (gName i)) u D σ H := h
theorem y_join {t u : TS} {D : Ends} {σ : St} {H : Hp} (J : St → Hp → Prop) (hJ : ∀ σ H, J σ H → u D σ H) (h : (∀ σ H, J σ H → u D σ H) → t { D with nx := u D } σ H) : tSeq t u D σ H := h hJ
def spPick (K : Frag) : Sp := fun vs H Q _ => ∃ t c n, vs = [.ref t, .int n] ∧ TapeAt H t c ∧ 0 < n ∧ n < 1073741824 ∧ ∀ i H', 0 ≤ i → i < n → Mut t H H' → TapeAt H' t c → Q (.int i) H'
theorem sc_law_pick : FnScope ["_law_tape_here", "_law_many", "_law_digit", "_law_cell", "_law_mixed"] ["_law_tape_here", "_law_many"] (defScope s_law_pick) := ⟨rfl, rfl, rfl, by decide +kernel, rfl, by decide +kernel, by decide +kernel⟩
theorem ok_law_pick (D : DefAt K mg "_law_pick" s_law_pick ["_law_tape_here", "_law_many"]) (B : Blt mg) : Has P w K mg base CX0 1 "_law_pick" ["_law_tape_here", "_law_many"] (spPick K) := by
  obtain ⟨f, fd, F, g, b⟩ := D
  refine ⟨f, fd, F.ok sc_law_pick (fun vs H Q E h => by obtain ⟨t, c, n, rfl, _⟩ := h; rfl) (fun cdv A outer s H vs Q E hr h => ?_), g, F.kp, b⟩
  obtain ⟨t, c, n, rfl, ht, hn0, hn1, q⟩ := h
  obtain ⟨i1, i2, i3, i4, ns, h1, h2, h3⟩ := ht
  refine ⟨_, pss_cons (ps_if (pt_cmpR op_gt (pe_ix ix_list (pv 0) pe_int (fun _ _ => rfl)) pe_int (nomark _))
      (pss_cons (ps_set (i := 2) sc_law_pick.nd rfl (.inl rfl) (pe_op op_mod (pe_callTy call_int1 (by rfl) B.int boot_int' (pa_cons (pe_ix ix_list (pv 0) pe_int (fun _ _ => rfl)) pa_nil)) (pv 1)))
      (pss_cons (ps_asg (pe_op op_fdiv (pe_ix ix_list (pv 0) pe_int (fun _ _ => rfl)) (pv 1)) (pg_sub (pv 0) pe_int set_list))
      (pss_one (ps_ret (pv 2))))) pss_nil)
    (pss_cons (ps_asg (pe_op op_add (pe_ix ix_list (pv 0) pe_int (fun _ _ => rfl)) pe_int) (pg_sub (pv 0) pe_int set_list))
    (pss_cons (ps_set (i := 3) sc_law_pick.nd rfl (.inl rfl) pe_int)
    (pss_cons (ps_if (pt_cmpR op_lt (pe_ix ix_list (pv 0) pe_int (fun _ _ => rfl)) (pe_callB call_len (by rfl) B.len PySem.boot_len (pa_cons (pe_ix ix_list (pv 0) pe_int (fun _ _ => rfl)) pa_nil)) (nomark _))
      (pss_cons (ps_set (i := 3) sc_law_pick.nd rfl (.inl rfl) (pe_ix ix_list (pe_ix ix_list (pv 0) pe_int (fun _ _ => rfl)) (pe_ix ix_list (pv 0) pe_int (fun _ _ => rfl)) (fun _ _ => rfl)))
      (pss_one (ps_asg (pe_op op_add (pe_ix ix_list (pv 0) pe_int (fun _ _ => rfl)) pe_int) (pg_sub (pv 0) pe_int set_list)))) pss_nil)
    (pss_cons (ps_if (pt_cmpR op_ge (pv 3) (pe_op op_pow pe_int pe_int) (nomark _))
      (pss_cons (ps_asg (pe_op op_fdiv (pv 3) (pv 1)) (pg_sub (pv 0) pe_int set_list))
      (pss_one (ps_ret (pe_op op_mod (pe_callTy call_int1 (by rfl) B.int boot_int' (pa_cons (pv 3) pa_nil)) (pv 1))))) pss_nil)
    (pss_cons (ps_set (i := 4) sc_law_pick.nd rfl (.inl rfl) (pe_op op_mod (pe_callTy call_int1 (by rfl) B.int boot_int' (pa_cons (pe_op op_add (pe_op op_add (pe_op op_mul (pe_ix ix_list (pv 0) pe_int (fun _ _ => rfl)) pe_int) (pe_op op_mod (pe_callTy call_int1 (by rfl) B.int boot_int' (pa_cons (pv 3) pa_nil)) pe_int)) (pe_op op_mul (pe_ix ix_list (pv 0) pe_int (fun _ _ => rfl)) pe_int)) pa_nil)) pe_int))
    (pss_cons (ps_set (i := 4) sc_law_pick.nd rfl (.inl rfl) (pe_op op_mod (pe_callTy call_int1 (by rfl) B.int boot_int' (pa_cons (pe_op op_mul (pv 4) (pe_op op_add (pe_op op_fdiv (pv 4) pe_int) pe_int)) pa_nil)) pe_int))
    (pss_cons (ps_asg (pv 4) (pg_sub (pv 0) pe_int set_list))
    (pss_one (ps_ret (pe_op op_mod (pe_callTy call_int1 (by rfl) B.int boot_int' (pa_cons (pe_op op_fdiv (pv 4) pe_int) pa_nil)) (pv 1))))))))))), ?_⟩
  have nct : c ≠ t := fun z => by
    rw [z, h1] at h2
    have e := HO.lst.inj (Option.some.inj h2)
    cases ns with
    | nil => cases e
    | cons x r => cases (List.cons.inj e).1
  have mu : ∀ (o : HO), Mut t H (upd H t o) := fun o b o' hb e => by
    rw [upd_ne hb]
    exact e
  -- if tape[2] > 1
  refine ⟨.ref t, rfl, t, _, 2, .int i2, rfl, rfl, SqL.of h1, atI_nat (j := 2) rfl, i2, 1, rfl, rfl, _, rfl, ?_⟩
  by_cases hgt : (1 : Int) < i2
  · rw [decide_eq_true hgt]
    refine iteT ?_
    refine ⟨.ref t, rfl, t, _, 2, .int i2, rfl, rfl, SqL.of h1, atI_nat (j := 2) rfl, .inl ⟨i2, rfl, .int n, rfl, i2, n, rfl, rfl, hn0, ?_⟩⟩
    refine ⟨.ref t, rfl, t, _, 2, .int i2, rfl, rfl, SqL.of h1, atI_nat (j := 2) rfl, .int n, rfl, i2, n, rfl, rfl, ⟨hn0, hn1⟩, .ref t, rfl, t, _, 2, 2, rfl, rfl, h1, rfl, ?_⟩
    exact ⟨.int (i2 % n), rfl, q _ _ (Int.emod_nonneg _ (by omega)) (Int.emod_lt_of_pos _ hn0) (mu _) ⟨i1, i2 / n, i3, i4, ns, upd_same, by rw [upd_ne nct]; exact h2, h3⟩⟩
  · rw [decide_eq_false hgt]
    refine iteF ?_
    -- tape[4] = tape[4] + 1
    refine ⟨.ref t, rfl, t, _, 4, .int i4, rfl, rfl, SqL.of h1, atI_nat (j := 4) rfl, i4, 1, rfl, rfl, .ref t, rfl, t, _, 4, 4, rfl, rfl, h1, rfl, ?_⟩
    have e1 : (upd H t (.lst [.ref c, .int i1, .int i2, .int i3, .int (i4 + 1)])) t = some (.lst [.ref c, .int i1, .int i2, .int i3, .int (i4 + 1)]) := upd_same
    have e2 : (upd H t (.lst [.ref c, .int i1, .int i2, .int i3, .int (i4 + 1)])) c = some (.lst (ns.map V.int)) := by
      rw [upd_ne nct]
      exact h2
    -- cell = 0
    dsimp only
    refine y_seqC ?_
    -- if tape[1] < len(tape[0])
    refine y_join (fun σ' H' => ∃ cell j1 : Int, σ' = [some (.ref t), some (.int n), none, some (.int cell), none] ∧ 0 ≤ j1 ∧ Mut t H H' ∧ H' t = some (.lst [.ref c, .int j1, .int i2, .int i3, .int (i4 + 1)]) ∧ H' c = some (.lst (ns.map V.int))) (fun σ' H' ⟨cell, j1, e, hj, m, e3, e4⟩ => ?_) (fun k => ?_)
    · subst e
      -- if cell >= 10 ** 18
      refine ⟨.int cell, rfl, 10, 18, rfl, rfl, ⟨by decide, by decide, by decide⟩, cell, _, rfl, rfl, _, rfl, ?_⟩
      have mu2 : ∀ (o : HO), Mut t H (upd H' t o) := fun o b o' hb e => by
        rw [upd_ne hb]
        exact m b o' hb e
      by_cases hc : (10 : Int) ^ (18 : Int).toNat ≤ cell
      · rw [decide_eq_true hc]
        refine iteT ⟨.int cell, rfl, .int n, rfl, cell, n, rfl, rfl, ⟨hn0, hn1⟩, .ref t, rfl, t, _, 2, 2, rfl, rfl, e3, rfl, ?_⟩
        exact ⟨.int cell, rfl, .inl ⟨cell, rfl, .int n, rfl, cell, n, rfl, rfl, hn0, q _ _ (Int.emod_nonneg _ (by omega)) (Int.emod_lt_of_pos _ hn0) (mu2 _) ⟨j1, cell / n, i3, i4 + 1, ns, upd_same, by rw [upd_ne nct]; exact e4, hj⟩⟩⟩
      · rw [decide_eq_false hc]
        refine iteF ?_
        -- mixed
        refine ⟨.ref t, rfl, t, _, 3, .int i3, rfl, rfl, SqL.of e3, atI_nat (j := 3) rfl, i3, 48271, rfl, rfl, .inr ⟨by decide, by decide⟩, .int cell, rfl, .inl ⟨cell, rfl, cell, 2147483629, rfl, rfl, (show (0 : Int) < 2147483629 by decide), i3 * 48271, cell % 2147483629, rfl, rfl, ?_⟩⟩
        refine ⟨.ref t, rfl, t, _, 4, .int (i4 + 1), rfl, rfl, SqL.of e3, atI_nat (j := 4) rfl, i4 + 1, 69621, rfl, rfl, .inr ⟨by decide, by decide⟩, _, _, rfl, rfl, .inl ⟨_, rfl, _, 2147483647, rfl, rfl, (show (0 : Int) < 2147483647 by decide), ?_⟩⟩
        have r1 : 0 ≤ (i3 * 48271 + cell % 2147483629 + (i4 + 1) * 69621) % 2147483647 := Int.emod_nonneg _ (by decide)
        have r2 : (i3 * 48271 + cell % 2147483629 + (i4 + 1) * 69621) % 2147483647 < 2147483647 := Int.emod_lt_of_pos _ (by decide)
        refine ⟨_, rfl, _, rfl, _, 1009, rfl, rfl, ⟨by decide, by decide⟩, _, 40692, rfl, rfl, _, _, rfl, rfl, .inl ⟨by omega, by omega⟩, .inl ⟨_, rfl, _, 2147483399, rfl, rfl, (show (0 : Int) < 2147483399 by decide), ?_⟩⟩
        refine ⟨_, rfl, .ref t, rfl, t, _, 3, 3, rfl, rfl, e3, rfl, ?_⟩
        exact ⟨_, rfl, _, 16, rfl, rfl, ⟨by decide, by decide⟩, .inl ⟨_, rfl, .int n, rfl, _, n, rfl, rfl, hn0, q _ _ (Int.emod_nonneg _ (by omega)) (Int.emod_lt_of_pos _ hn0) (mu2 _) ⟨j1, i2, _, i4 + 1, ns, upd_same, by rw [upd_ne nct]; exact e4, hj⟩⟩⟩
    · refine ⟨.ref t, rfl, t, _, 1, .int i1, rfl, rfl, SqL.of e1, atI_nat (j := 1) rfl, .ref t, rfl, t, _, 0, .ref c, rfl, rfl, SqL.of e1, atI_nat (j := 0) rfl, .ref c, _, rfl, .inl ⟨_, SqL.of e2, rfl⟩, i1, _, rfl, rfl, _, rfl, ?_⟩
      by_cases hlt : i1 < (((ns.map V.int).length : Nat) : Int)
      · rw [decide_eq_true hlt]
        rw [List.length_map] at hlt
        have hltN : i1.toNat < ns.length := by omega
        have ei : ((i1.toNat : Nat) : Int) = i1 := by omega
        have ix : atI (ns.map V.int) i1 = some (.int (ns.getD i1.toNat 0)) := by
          have z : atI (ns.map V.int) ((i1.toNat : Nat) : Int) = some (.int (ns.getD i1.toNat 0)) := by
            refine atI_nat ?_
            rw [List.getElem?_map, List.getElem?_eq_getElem hltN, List.getD_eq_getElem?_getD, List.getElem?_eq_getElem hltN]
            rfl
          rwa [ei] at z
        refine iteT ⟨.ref t, rfl, t, _, 0, .ref c, rfl, rfl, SqL.of e1, atI_nat (j := 0) rfl, .ref t, rfl, t, _, 1, .int i1, rfl, rfl, SqL.of e1, atI_nat (j := 1) rfl, c, _, i1, _, rfl, rfl, SqL.of e2, ix, ?_⟩
        refine ⟨.ref t, rfl, t, _, 1, .int i1, rfl, rfl, SqL.of e1, atI_nat (j := 1) rfl, i1, 1, rfl, rfl, .ref t, rfl, t, _, 1, 1, rfl, rfl, e1, rfl, ?_⟩
        refine k _ _ ⟨ns.getD i1.toNat 0, i1 + 1, rfl, by omega, ?_, upd_same, by rw [upd_ne nct]; exact e2⟩
        intro b o hb e
        rw [upd_ne hb, upd_ne hb]
        exact e
      · rw [decide_eq_false hlt]
        exact iteF (k _ _ ⟨0, i1, rfl, h3, mu _, e1, e2⟩)
end
end K15

/-! The law's drawn lots. -/
namespace K15
open PySem PySem.Spec PyProof.Rows L2
section
variable {P : Program} {w : World} {K : Frag} {mg : Mg} {base : Heap}
theorem y_gn {i : Nat} {x : V} {N : St → Hp → Prop} {σ : St} {H : Hp} (h : N (σ.set i (some x)) H) : gName i x σ H N := h
theorem Mut.upd_new {t D : Addr} {H Hc : Hp} {o : HO} (m : Mut t H Hc) (h : H D = none) : Mut t H (upd Hc D o) := fun b x hb e => by
  rw [upd_ne (ne_of_none e h)]
  exact m b x hb e
theorem Mut.new {t D : Addr} {H H' : Hp} (m : Mut t H H') (h : H' D = none) (hDt : D ≠ t) : H D = none := by
  cases e : H D with
  | none => rfl
  | some o =>
    rw [m D o hDt e] at h
    cases h
/-- a new object besides the tape -/
theorem TapeAt.put {H Hc : Hp} {t c D : Addr} {o : HO} (h0 : TapeAt H t c) (hD : H D = none) (h : TapeAt Hc t c) : TapeAt (upd Hc D o) t c := by
  obtain ⟨i1, i2, i3, i4, ns, h1, h2, h3⟩ := h
  obtain ⟨_, _, _, _, _, g1, g2, _⟩ := h0
  exact ⟨i1, i2, i3, i4, ns, by rw [upd_ne (ne_of_none g1 hD)]; exact h1, by rw [upd_ne (ne_of_none g2 hD)]; exact h2, h3⟩
def spLot (K : Frag) : Sp := fun vs H Q _ => ∃ t c ve ks, vs = [.ref t, ve] ∧ TapeAt H t c ∧ Dp K H ve (.list (ks.map .str)) ∧ 0 < ks.length ∧ ks.length ≤ 8 ∧ ∀ v l H', Mut t H H' → TapeAt H' t c → Dp K H' v (encLot l) → l ≠ [] → List.Sublist l ks → Q v H'
theorem sc_law_lot : FnScope ["_law_tape_here", "_law_every", "_law_few", "_law_found", "_law_k", "_law_kind"] ["_law_tape_here", "_law_every"] (defScope s_law_lot) := ⟨rfl, rfl, rfl, by decide +kernel, rfl, by decide +kernel, by decide +kernel⟩
theorem ok_law_lot (D : DefAt K mg "_law_lot" s_law_lot ["_law_tape_here", "_law_every"]) (B : Blt mg) (AP : Has P w K mg base CX0 1 "_law_pick" ["_law_tape_here", "_law_many"] (spPick K)) : Has P w K mg base CX0 2 "_law_lot" ["_law_tape_here", "_law_every"] (spLot K) := by
  obtain ⟨f, fd, F, g, b⟩ := D
  obtain ⟨f1, fd1, G1, g1, k1, b1⟩ := AP
  refine ⟨f, fd, F.ok sc_law_lot (fun vs H Q E h => by obtain ⟨t, c, ve, ks, rfl, _⟩ := h; rfl) (fun cdv A outer s H vs Q E hr h => ?_), g, F.kp, b⟩
  obtain ⟨t, c, ve, ks, rfl, ht, hve, hk0, hk8, q⟩ := h
  obtain ⟨ae, es, rfl, hes, hed⟩ := dp_lst hve
  have ees := dps_strs hed
  subst ees
  refine ⟨_, pss_cons (ps_if (PW.pt (pw_and (pt_cmpR op_gt (pe_callB call_len (by rfl) B.len PySem.boot_len (pa_cons (pv 1) pa_nil)) pe_int (nomark _)) (pw_and1 (pt_cmpR op_eq (pe_call G1 hr (by rfl) g1 k1 b1 .nil pass0 (pa_cons (pv 0) (pa_cons pe_int pa_nil))) pe_int (nomark _))))) pss_never pss_nil)
    (pss_cons (ps_setLc (i := 3) (own := [("_law_kind", 5)]) (g := gName 5) rfl sc_law_lot.nd rfl rfl (sw_true rfl rfl rfl (by decide +kernel))
      (pi_list (pv 1)) (blkOk_by (N := ["_law_tape_here", "_law_every", "_law_few", "_law_found", "_law_k", "_law_kind"]) (sc := defScope s_law_lot) (by decide +kernel)) (fun _ _ _ _ _ => pg_name (i := 5) sc_law_lot.nd rfl (Or.inl rfl))
      (fun _ _ _ _ _ => pts_one (pt_cmpR op_eq (pe_call G1 hr (by rfl) g1 k1 b1 .nil pass0 (pa_cons (pv 0) (pa_cons pe_int pa_nil))) pe_int (nomark _))) (fun _ _ _ _ _ => pv 5))
    (pss_cons (ps_if (pt_cmpR op_eq (pe_callB call_len (by rfl) B.len PySem.boot_len (pa_cons (pv 3) pa_nil)) pe_int (nomark _))
      (pss_one (ps_set (i := 3) sc_law_lot.nd rfl (.inl rfl) (pe_lst (pa_cons (pe_ix ix_list (pv 1) (pe_call G1 hr (by rfl) g1 k1 b1 .nil pass0 (pa_cons (pv 0) (pa_cons (pe_callB call_len (by rfl) B.len PySem.boot_len (pa_cons (pv 1) pa_nil)) pa_nil))) (fun _ _ => rfl)) pa_nil)))) pss_nil)
    (pss_one (ps_ret (pe_callTy call_tuple_of (by rfl) B.tuple boot_tuple (pa_cons (pv 3) pa_nil)))))), ?_⟩
  have hkl : (ks.map V.str).length = ks.length := List.length_map ..
  -- if len(every) > 8
  refine ⟨.ref ae, rfl, .ref ae, _, rfl, .inl ⟨_, hes, rfl⟩, _, 8, rfl, rfl, _, rfl, ?_⟩
  have e8 : decide ((8 : Int) < (((ks.map V.str).length : Nat) : Int)) = false := decide_eq_false (by rw [hkl]; omega)
  rw [e8]
  refine iteF (iteF ?_)
  -- found
  refine ⟨.ref ae, rfl, ae, rfl, ⟨_, hes⟩, fun D hD => ?_⟩
  have nDt : D ≠ t := fun z => by
    obtain ⟨xs, hx⟩ := ht.mem
    rw [z, hx] at hD
    cases hD
  have key : ∀ l : List Str, List.Sublist l ks → ∀ (Hc : Hp) (o : HO), Mut t H Hc → TapeAt Hc t c → Mut t H (upd Hc D o) ∧ TapeAt (upd Hc D o) t c := fun l _ Hc o m h => ⟨m.upd_new hD, ht.put hD h⟩
  refine lc_it (walk_list (xs := ks.map V.str)) (fun j Hc => Mut t H Hc ∧ TapeAt Hc t c ∧ ∃ l : List Str, List.Sublist l (ks.take j) ∧ Hc D = some (.lst (l.map V.str)))
    ⟨(Mut.refl t H).upd_new hD, ht.put hD ht, [], List.nil_sublist _, upd_same⟩ (fun j Hc _ h => ht.sql h.1 hes fun c0 ys z => ?_) (fun j x Hc Hx hj ⟨m, hc, l, hl, e⟩ y => ?_) fun Hc ⟨m, hc, l, hl, e⟩ => ?_
  · cases ks with
    | nil => cases z
    | cons k ks => cases (List.cons.inj z).1
  · obtain ⟨rfl, hx⟩ := y
    rw [List.getElem?_map] at hx
    obtain ⟨k, hk, rfl⟩ := Option.map_eq_some_iff.mp hx
    have st := take_succ_some hk
    refine ⟨rfl, .ref t, rfl, t, c, 2, rfl, hc, by decide, by decide, fun i H2 hi0 hi1 m2 hc2 => ⟨rfl, _, rfl, ?_⟩⟩
    have e2 : H2 D = some (.lst (l.map V.str)) := m2 D _ nDt e
    by_cases hi : i = 0
    · subst hi
      refine iteT ⟨.str k, rfl, l.map V.str, e2, ?_, (m.trans m2).upd_new hD, ht.put hD hc2, l ++ [k], ?_, ?_⟩
      · rw [List.length_map]
        have := hl.length_le
        rw [List.length_take] at this
        exact small1000 (by omega)
      · rw [st]
        exact List.Sublist.append hl (List.Sublist.refl _)
      · rw [upd_same, List.map_append]
        rfl
    · have ei : decide (V.int i = V.int 0) = false := decide_eq_false fun z => hi (V.int.inj z)
      rw [ei]
      refine iteF ⟨m.trans m2, hc2, l, ?_, e2⟩
      rw [st]
      exact hl.trans (List.sublist_append_left _ _)
  · rw [hkl, List.take_length] at hl
    refine y_gn ?_
    dsimp only
    have hes2 : ∀ {H2 : Hp}, Mut t H H2 → SqL K H2 ae (ks.map V.str) := fun {H2} m2 => ht.sql m2 hes fun c0 ys z => by
      cases ks with
      | nil => cases z
      | cons k ks => cases (List.cons.inj z).1
    refine y_join (fun σ' H' => ∃ p2, ∃ l2 : List Str, σ' = [some (.ref t), some (.ref ae), none, some (.ref p2), none, none] ∧ Mut t H H' ∧ TapeAt H' t c ∧ H' p2 = some (.lst (l2.map V.str)) ∧ l2 ≠ [] ∧ List.Sublist l2 ks) (fun σ' H' ⟨p2, l2, e1, m2, hc2, e2, e3, e4⟩ => ?_) (fun k => ?_)
    · subst e1
      refine ⟨.ref p2, rfl, p2, _, rfl, .inl ⟨SqL.of e2, fun q2 hq2 => ?_⟩⟩
      have s2 := same_new (o := .tup (l2.map V.str)) hq2
      exact q _ l2 _ (m2.trans (Mut.same s2)) (hc2.same s2) (.tup (SqT.of upd_same) (dps_map V.str PyData.str (fun z => .str z) l2)) e3 e4
    · refine ⟨.ref D, rfl, .ref D, _, rfl, .inl ⟨_, SqL.of e, rfl⟩, rfl, _, rfl, ?_⟩
      by_cases h0 : l = []
      · subst h0
        refine iteT ⟨.ref ae, rfl, .ref t, rfl, .ref ae, rfl, .ref ae, _, rfl, .inl ⟨_, hes2 m, rfl⟩, t, c, _, rfl, hc, by rw [hkl]; omega, by rw [hkl]; omega, fun i H2 hi0 hi1 m2 hc2 => ?_⟩
        rw [hkl] at hi1
        have hlt : i.toNat < ks.length := by omega
        have ei : ((i.toNat : Nat) : Int) = i := by omega
        have ix : atI (ks.map V.str) i = some (.str ks[i.toNat]) := by
          have z : atI (ks.map V.str) ((i.toNat : Nat) : Int) = some (.str ks[i.toNat]) := atI_nat (by rw [List.getElem?_map, List.getElem?_eq_getElem hlt]; rfl)
          rwa [ei] at z
        refine ⟨ae, _, i, .str ks[i.toNat], rfl, rfl, hes2 (m.trans m2), ix, by show 1 ≤ sizeLine; decide, fun p hp => ?_⟩
        have s2 := same_new (o := .lst [.str ks[i.toNat]]) hp
        exact k _ _ ⟨p, [ks[i.toNat]], rfl, (m.trans m2).trans (Mut.same s2), hc2.same s2, upd_same, by simp, List.singleton_sublist.mpr (List.getElem_mem hlt)⟩
      · have e0 : decide (V.int (((l.map V.str).length : Nat) : Int) = V.int 0) = false := decide_eq_false fun z => h0 (by
          have := V.int.inj z
          rw [List.length_map] at this
          exact List.eq_nil_of_length_eq_zero (by omega))
        rw [e0]
        exact iteF (k _ _ ⟨D, l, rfl, m, hc, e, h0, hl⟩)

/-! ### _law_lots -/
abbrev GoodL (ks : List Str) (L : Lots) : Prop := ∀ l ∈ L, l ≠ [] ∧ List.Sublist l ks
theorem kinds_mut {t c : Addr} {H H2 : Hp} {a : Addr} {ks : List Str} (h : TapeAt H t c) (m : Mut t H H2) (hs : SqL K H a (ks.map V.str)) : SqL K H2 a (ks.map V.str) := h.sql m hs fun c0 ys z => by
  cases ks with
  | nil => cases z
  | cons k ks => cases (List.cons.inj z).1
theorem at_int {α : Type} {xs : List α} {i : Int} (h0 : 0 ≤ i) (h1 : i < xs.length) : ∃ x, xs[i.toNat]? = some x ∧ atI xs i = some x := by
  have hlt : i.toNat < xs.length := by omega
  have ei : ((i.toNat : Nat) : Int) = i := by omega
  refine ⟨xs[i.toNat], List.getElem?_eq_getElem hlt, ?_⟩
  have z : atI xs ((i.toNat : Nat) : Int) = some xs[i.toNat] := atI_nat (List.getElem?_eq_getElem hlt)
  rwa [ei] at z
def spLotsL (K : Frag) : Sp := fun vs H Q _ => ∃ t c ve ks, ∃ most : Nat, vs = [.ref t, ve, .int most] ∧ TapeAt H t c ∧ Dp K H ve (.list (ks.map .str)) ∧ 0 < ks.length ∧ ks.length ≤ 8 ∧ most ≤ 10 ∧ ∀ v L H', Mut t H H' → TapeAt H' t c → Dp K H' v (encLots L) → L.length ≤ most → GoodL ks L → Q v H'
theorem sc_law_lots : FnScope ["_law_tape_here", "_law_every", "_law_most", "_law_found", "_law_k"] ["_law_tape_here", "_law_every", "_law_most"] (defScope s_law_lots) := ⟨rfl, rfl, rfl, by decide +kernel, rfl, by decide +kernel, by decide +kernel⟩
theorem ok_law_lots (D : DefAt K mg "_law_lots" s_law_lots ["_law_tape_here", "_law_every", "_law_most"]) (B : Blt mg) (AP : Has P w K mg base CX0 1 "_law_pick" ["_law_tape_here", "_law_many"] (spPick K)) (AL : Has P w K mg base CX0 2 "_law_lot" ["_law_tape_here", "_law_every"] (spLot K)) :
    Has P w K mg base CX0 3 "_law_lots" ["_law_tape_here", "_law_every", "_law_most"] (spLotsL K) := by
  obtain ⟨f, fd, F, g, b⟩ := D
  obtain ⟨f1, fd1, G1, g1, k1, b1⟩ := AP
  obtain ⟨f2, fd2, G2, g2, k2, b2⟩ := AL
  refine ⟨f, fd, F.ok sc_law_lots (fun vs H Q E h => by obtain ⟨t, c, ve, ks, most, rfl, _⟩ := h; rfl) (fun cdv A outer s H vs Q E hr h => ?_), g, F.kp, b⟩
  obtain ⟨t, c, ve, ks, most, rfl, ht, hve, hk0, hk8, hm, q⟩ := h
  refine ⟨_, pss_cons (ps_set (i := 3) sc_law_lots.nd rfl (.inl rfl) (pe_lst pa_nil))
    (pss_cons (ps_for (passes_of rfl) rfl (pi_range1 (by rfl) B.range (pa_cons (pe_call G1 (hr.mono (by decide)) (by rfl) g1 k1 b1 .nil pass0 (pa_cons (pv 0) (pa_cons (pe_op op_add (pv 2) pe_int) pa_nil))) pa_nil)) (pg_name (i := 4) sc_law_lots.nd rfl (.inl rfl))
      (pss_one (ps_if (PW.pt (pw_and (pt_cmpR op_gt (pe_callB call_len (by rfl) B.len PySem.boot_len (pa_cons (pv 3) pa_nil)) pe_int (nomark _)) (pw_and1 (pt_cmpR op_eq (pe_call G1 (hr.mono (by decide)) (by rfl) g1 k1 b1 .nil pass0 (pa_cons (pv 0) (pa_cons pe_int pa_nil))) pe_int (nomark _)))))
        (pss_one (ps_expr (pe_bm PySem.F.plainAttrs_list PySem.F.slot_list_append PySem.F.type_list_append mt_append (pv 3) (pa_cons (pe_ix ix_list (pv 3) (pe_call G1 (hr.mono (by decide)) (by rfl) g1 k1 b1 .nil pass0 (pa_cons (pv 0) (pa_cons (pe_callB call_len (by rfl) B.len PySem.boot_len (pa_cons (pv 3) pa_nil)) pa_nil))) (fun _ _ => rfl)) pa_nil))))
        (pss_one (ps_expr (pe_bm PySem.F.plainAttrs_list PySem.F.slot_list_append PySem.F.type_list_append mt_append (pv 3) (pa_cons (pe_call G2 hr (by rfl) g2 k2 b2 .nil pass0 (pa_cons (pv 0) (pa_cons (pv 1) pa_nil))) pa_nil)))))))
    (pss_one (ps_ret (pe_callTy call_tuple_of (by rfl) B.tuple boot_tuple (pa_cons (pv 3) pa_nil))))), ?_⟩
  -- found = []
  refine ⟨by show 0 ≤ sizeLine; exact Nat.zero_le _, fun af haf => ?_⟩
  have s0 := same_new (o := .lst []) haf
  have naft : af ≠ t := fun z => by
    obtain ⟨xs, hx⟩ := ht.mem
    rw [z, hx] at haf
    cases haf
  have ht0 := ht.same s0
  -- range(pick(tape, most + 1))
  refine ⟨.ref t, rfl, .int most, rfl, (most : Int), 1, rfl, rfl, t, c, (most : Int) + 1, rfl, ht0, by omega, by omega, fun n H1 hn0 hn1 m1 hc1 => ⟨n, rfl, by omega, by omega, ?_⟩⟩
  have e1 : H1 af = some (.lst []) := m1 af _ naft upd_same
  refine for_it walk_range (fun i σ' H' => ∃ fs, ∃ L : Lots, ∃ u4, σ' = [some (.ref t), some ve, some (.int most), some (.ref af), u4] ∧ Mut t H H' ∧ TapeAt H' t c ∧ H' af = some (.lst fs) ∧ DpAll K H' fs (L.map encLot) ∧ L.length ≤ i ∧ GoodL ks L)
    ⟨[], [], none, rfl, (Mut.same s0).trans m1, hc1, e1, .nil, Nat.le_refl _, fun _ z => nomatch z⟩ (fun _ _ _ _ _ => trivial) (fun i x σ' H3 H4 hlt h y => ?_) (fun σ' H3 h => ?_)
  · obtain ⟨fs, L, u4, rfl, m3, hc3, e3, d3, l3, g3⟩ := h
    obtain ⟨rfl, rfl⟩ := y
    have hfl : fs.length = L.length := by
      have := dps_len d3
      rwa [List.length_map] at this
    have hi10 : i ≤ 10 := by
      have : i < n.toNat := hlt
      omega
    have fin : ∀ (H5 : Hp) (v : V) (l : Lot), Mut t H H5 → TapeAt H5 t c → H5 af = some (.lst fs) → DpAll K H5 fs (L.map encLot) → Dp K H5 v (encLot l) → l ≠ [] → List.Sublist l ks →
        ∃ fs', ∃ L' : Lots, ∃ u4, [some (V.ref t), some ve, some (.int most), some (.ref af), some (.int (0 + (i : Nat)))] = [some (V.ref t), some ve, some (.int most), some (.ref af), u4] ∧ Mut t H (upd H5 af (.lst (fs ++ [v]))) ∧ TapeAt (upd H5 af (.lst (fs ++ [v]))) t c ∧ (upd H5 af (.lst (fs ++ [v]))) af = some (.lst fs') ∧ DpAll K (upd H5 af (.lst (fs ++ [v]))) fs' (L'.map encLot) ∧ L'.length ≤ i + 1 ∧ GoodL ks L' := by
      intro H5 v l m5 hc5 e5 d5 hv hne hsub
      have ts := Ts.lst (K := K) (o := .lst (fs ++ [v])) e5
      refine ⟨fs ++ [v], L ++ [l], _, rfl, m5.upd_new haf, ht.put haf hc5, upd_same, ?_, by rw [List.length_append]; show L.length + 1 ≤ i + 1; omega, fun l' hl' => ?_⟩
      · rw [List.map_append]
        refine dps_ts ts _ _ (noLs_of fun d hd => ?_) (dps_app d5 (.cons hv .nil))
        rcases List.mem_append.mp hd with z | z
        · obtain ⟨l', _, rfl⟩ := List.mem_map.mp z
          exact noL_lot l'
        · obtain ⟨l', _, rfl⟩ := List.mem_map.mp z
          exact noL_lot l'
      · rcases List.mem_append.mp hl' with z | z
        · exact g3 l' z
        · rw [List.mem_singleton.mp z]
          exact ⟨hne, hsub⟩
    have noLL : noLs (L.map encLot) = true := noLs_of fun d hd => by
      obtain ⟨l', _, rfl⟩ := List.mem_map.mp hd
      exact noL_lot l'
    -- else: found.append(_law_lot(tape, every))
    have other : ∀ H5, Mut t H4 H5 → TapeAt H5 t c → tDrop (tBM K "list" rAppend (tVar 3) (tCons (tCall (spLot K) [] E0 (tCons (tVar 0) (tCons (tVar 1) tNil))) tNil)) { nx := fun σ' H' => ∃ fs, ∃ L : Lots, ∃ u4, σ' = [some (.ref t), some ve, some (.int most), some (.ref af), u4] ∧ Mut t H H' ∧ TapeAt H' t c ∧ H' af = some (.lst fs) ∧ DpAll K H' fs (L.map encLot) ∧ L.length ≤ i + 1 ∧ GoodL ks L, rt := Q } [some (V.ref t), some ve, some (.int most), some (.ref af), some (.int (0 + (i : Nat)))] H5 := by
      intro H5 m5 hc5
      have e5 := m5 af _ naft e3
      refine ⟨.ref af, rfl, .inl ⟨rfl, _, SqL.of e5⟩, .ref t, rfl, ve, rfl, t, c, ve, ks, rfl, hc5, ht.strs (m3.trans m5) hve, hk0, hk8, fun v l H6 m6 hc6 hv hne hsub => ?_⟩
      have e6 := m6 af _ naft e5
      exact ⟨af, fs, v, rfl, rfl, e6, small1000 (by omega), fin H6 v l ((m3.trans m5).trans m6) hc6 e6 (dps_ts (hc3.ts (m5.trans m6)) _ _ noLL d3) hv hne hsub⟩
    refine ⟨.ref af, rfl, .ref af, _, rfl, .inl ⟨_, SqL.of e3, rfl⟩, _, 0, rfl, rfl, _, rfl, ?_⟩
    by_cases h0 : (0 : Int) < ((fs.length : Nat) : Int)
    · rw [decide_eq_true h0]
      refine iteT ⟨.ref t, rfl, t, c, 5, rfl, hc3, by decide, by decide, fun i5 H5 _ _ m5 hc5 => ⟨rfl, _, rfl, ?_⟩⟩
      by_cases hi5 : i5 = 0
      · subst hi5
        have e5 := m5 af _ naft e3
        refine iteT ⟨.ref af, rfl, .inl ⟨rfl, _, SqL.of e5⟩, .ref af, rfl, .ref t, rfl, .ref af, rfl, .ref af, _, rfl, .inl ⟨_, SqL.of e5, rfl⟩, t, c, _, rfl, hc5, h0, by omega, fun j H6 hj0 hj1 m6 hc6 => ?_⟩
        have e6 := m6 af _ naft e5
        obtain ⟨v, hv1, hv2⟩ := at_int hj0 hj1
        have d6 := dps_ts (hc3.ts (m5.trans m6)) _ _ noLL d3
        obtain ⟨d, hd1, hd2⟩ := dps_get d6 hv1
        rw [List.getElem?_map] at hd1
        obtain ⟨l, hl, rfl⟩ := Option.map_eq_some_iff.mp hd1
        obtain ⟨q1, q2⟩ := g3 l (List.mem_of_getElem? hl)
        exact ⟨af, fs, j, v, rfl, rfl, SqL.of e6, hv2, af, fs, v, rfl, rfl, e6, small1000 (by omega), fin H6 v l ((m3.trans m5).trans m6) hc6 e6 d6 hd2 q1 q2⟩
      · have ei : decide (V.int i5 = V.int 0) = false := decide_eq_false fun z => hi5 (V.int.inj z)
        rw [ei]
        exact iteF (other H5 m5 hc5)
    · rw [decide_eq_false h0]
      exact iteF (iteF (other H4 (Mut.refl t H4) hc3))
  · obtain ⟨fs, L, u4, rfl, m3, hc3, e3, d3, l3, g3⟩ := h
    dsimp only
    refine ⟨.ref af, rfl, af, _, rfl, .inl ⟨SqL.of e3, fun p hp => ?_⟩⟩
    have s4 := same_new (o := .tup fs) hp
    exact q _ L _ (m3.trans (Mut.same s4)) (hc3.same s4) (dp_newT d3 hp) (by omega) g3
end
end K15

/-! The law's own search. -/
namespace K15
open PySem PySem.Spec PyProof.Rows L2
/-! ### its mathematics -/
section
variable {L M : Lots} {E : List Str} {F : List Pr} {pr : Pr} {k : Str} {i j : Nat}
structure B0 (L M : Lots) (E : List Str) (F : List Pr) (i : Nat) : Prop where
  fd : Fd L M E F
  done : ∀ p ∈ F.take i, 0 ≤ leadS L M p ∧ Closed L M E F p
structure B1 (L M : Lots) (E : List Str) (F : List Pr) (i : Nat) (pr : Pr) (j : Nat) : Prop where
  fd : Fd L M E F
  done : ∀ p ∈ F.take i, 0 ≤ leadS L M p ∧ Closed L M E F p
  at_ : F[i]? = some pr
  lead : 0 ≤ leadS L M pr
  part : ∀ k ∈ E.take j, stepS L M pr k ∈ F
theorem B1.same (h : B1 L M E F i pr j) (hk : E[j]? = some k) (hg : stepS L M pr k ∈ F) : B1 L M E F i pr (j + 1) := ⟨h.fd, h.done, h.at_, h.lead, fun k' hk' => by
  rw [take_succ_some hk] at hk'
  rcases List.mem_append.mp hk' with q | q
  · exact h.part k' q
  · rw [List.mem_singleton.mp q]
    exact hg⟩
theorem B1.put (h : B1 L M E F i pr j) (hk : E[j]? = some k) (hg : stepS L M pr k ∉ F) : B1 L M E (F ++ [stepS L M pr k]) i pr (j + 1) := by
  have hi : i < F.length := (List.getElem?_eq_some_iff.mp h.at_).1
  have up : ∀ p ∈ F, p ∈ F ++ [stepS L M pr k] := fun p hp => List.mem_append_left _ hp
  have hpr : pr ∈ F := List.mem_of_getElem? h.at_
  refine ⟨⟨?_, fun p hp => ?_, up _ h.fd.start⟩, fun p hp => ?_, by rw [List.getElem?_append_left hi]; exact h.at_, h.lead, fun k' hk' => ?_⟩
  · refine List.nodup_append.mpr ⟨h.fd.nd, List.nodup_cons.mpr ⟨by simp, List.nodup_nil⟩, fun a ha b hb e => hg ?_⟩
    rw [← List.mem_singleton.mp hb, ← e]
    exact ha
  · rcases List.mem_append.mp hp with q | q
    · exact h.fd.reach p q
    · rw [List.mem_singleton.mp q]
      exact .step (h.fd.reach _ hpr) (List.mem_of_getElem? hk)
  · rw [List.take_append_of_le_length (Nat.le_of_lt hi)] at hp
    obtain ⟨a, b⟩ := h.done p hp
    exact ⟨a, fun k hk => up _ (b k hk)⟩
  · rw [take_succ_some hk] at hk'
    rcases List.mem_append.mp hk' with q | q
    · exact up _ (h.part k' q)
    · rw [List.mem_singleton.mp q]
      exact List.mem_append_right _ (List.mem_singleton.mpr rfl)
theorem B1.out (h : B1 L M E F i pr E.length) : B0 L M E F (i + 1) := ⟨h.fd, fun p hp => by
  rw [take_succ_some h.at_] at hp
  rcases List.mem_append.mp hp with q | q
  · exact h.done p q
  · rw [List.mem_singleton.mp q]
    exact ⟨h.lead, fun k hk => h.part k (by rw [List.take_length]; exact hk)⟩⟩
theorem B0.never (h : B0 L M E F i) (hi : F.length ≤ i) : Never L M E := by
  have all : ∀ p ∈ F, 0 ≤ leadS L M p ∧ Closed L M E F p := fun p hp => h.done p (by rw [List.take_of_length_le hi]; exact hp)
  intro p hp
  exact (all p (reach_in h.fd.start (fun p hp k hk => (all p hp).2 k hk) p hp)).1
end
structure QS (K : Frag) (P : Program) (w : World) (H1 H : Hp) (d al : Addr) (ls : List V) (xs : List Ent) : Prop where
  same : Same H1 H
  d1 : H1 d = none
  l1 : H1 al = none
  hd : H d = some (dPr P w d xs)
  hl : H al = some (.lst ls)
  keys : KeysAt K H xs
  lt : DpAll K H ls ((keysOf xs).map encP)
section
variable {P : Program} {w : World} {K : Frag} {mg : Mg} {base : Heap}
theorem QS.grow {H1 H H' : Hp} {d al : Addr} {ls : List V} {xs : List Ent} (h : QS K P w H1 H d al ls xs) (s : Same H H') : QS K P w H1 H' d al ls xs :=
  ⟨h.same.trans s, h.d1, h.l1, s _ _ h.hd, s _ _ h.hl, h.keys.ts (Ts.same s), dps_same s _ _ h.lt⟩
theorem QS.put {H1 H : Hp} {d al : Addr} {ls : List V} {xs : List Ent} (h : QS K P w H1 H d al ls xs) {g : Pr} {ag : Addr} {v : V} (hg : Dp K H (.ref ag) (encP g)) :
    QS K P w H1 (upd (upd H d (dPr P w d (xs ++ [(g, ag, v)]))) al (.lst (ls ++ [.ref ag]))) d al (ls ++ [.ref ag]) (xs ++ [(g, ag, v)]) := by
  have nda : d ≠ al := fun z => dPr_lst (Option.some.inj (h.hd.symm.trans (z ▸ h.hl)))
  have t1 : Ts K H (upd H d (dPr P w d (xs ++ [(g, ag, v)]))) := ts_dict h.hd
  have t2 : Ts K (upd H d (dPr P w d (xs ++ [(g, ag, v)]))) (upd (upd H d (dPr P w d (xs ++ [(g, ag, v)]))) al (.lst (ls ++ [.ref ag]))) := Ts.lst (by rw [upd_ne (Ne.symm nda)]; exact h.hl)
  have t := t1.trans t2
  refine ⟨same_mut (same_mut h.same h.d1) h.l1, h.d1, h.l1, by rw [upd_ne nda, upd_same], upd_same, fun x hx => ?_, ?_⟩
  · rcases List.mem_append.mp hx with q | q
    · exact h.keys.ts t x q
    · rw [List.mem_singleton.mp q]
      exact dp_ts t _ _ (noL_pair g) hg
  · show DpAll K _ _ (((xs ++ [(g, ag, v)]).map (·.1)).map encP)
    rw [List.map_append, List.map_append]
    have e : ((xs.map (·.1)).map encP) ++ ([(g, ag, v)].map fun x : Ent => x.1).map encP = ((xs.map (·.1)) ++ [g]).map encP := by rw [List.map_append]; rfl
    rw [e]
    refine dps_ts t _ _ (noL_pairs _) ?_
    rw [List.map_append]
    exact dps_app h.lt (.cons hg .nil)
theorem yd_lenL {σ : St} {H : Hp} {te : TE} {L : Lots} {r : List V → Hp → VK → Prop} (hr : r = fun xs H Q => ∃ x n, xs = [x] ∧ LenV K x H n ∧ Q (.int (n : Nat)) H) (hF : Few L) (h : Yd K te σ H (encLots L)) : Yd K (tCB r (tCons te tNil)) σ H (.int ((L.length : Nat) : Int)) :=
  (yd_len (lots_items L) (short_lots hF) hr h).is (by rw [List.length_map])
def spLNF (K : Frag) : Sp := fun vs H Q _ => ∃ v1 v2 v3 L M E, vs = [v1, v2, v3] ∧ Dp K H v1 (encLots L) ∧ Dp K H v2 (encLots M) ∧ Dp K H v3 (.list (E.map .str)) ∧ Few L ∧ Few M ∧ Bound L M E 4999 ∧ ∀ b H', (b = true ↔ Never L M E) → Same H H' → Q (.bl b) H'
theorem sc_law_never_fewer : FnScope ["_law_lots_here", "_law_others", "_law_every", "_law_begin", "_law_found", "_law_known", "_law_turn", "_law_free", "_law_its", "_law_kind", "_law_pair"] ["_law_lots_here", "_law_others", "_law_every"] (defScope s_law_never_fewer) := ⟨rfl, rfl, rfl, by decide +kernel, rfl, by decide +kernel, by decide +kernel⟩
theorem ok_law_never_fewer (D : DefAt K mg "_law_never_fewer" s_law_never_fewer ["_law_lots_here", "_law_others", "_law_every"]) (B : Blt mg) (A1 : Has P w K mg base CX0 1 "_law_behind" ["_law_lots_here", "_law_free", "_law_kind"] (spD K R_behind)) :
    Has P w K mg base CX0 2 "_law_never_fewer" ["_law_lots_here", "_law_others", "_law_every"] (spLNF K) := by
  obtain ⟨f, fd, F, g, b⟩ := D
  obtain ⟨f1, fd1, G1, g1, k1, b1⟩ := A1
  refine ⟨f, fd, F.ok sc_law_never_fewer (fun vs H Q E h => by obtain ⟨v1, v2, v3, L, M, E, rfl, _⟩ := h; rfl) (fun cdv A outer s H vs Q E hr h => ?_), g, F.kp, b⟩
  obtain ⟨v1, v2, v3, L, M, E, rfl, h1, h2, h3, hF, hG, hb, q⟩ := h
  have hu := room9 hr
  refine ⟨_, pss_cons (ps_set (i := 3) sc_law_never_fewer.nd rfl (.inl rfl) (pe_tup (pa_cons (pe_tupRg rfl (by rfl) B.tuple (prg_1 (by rfl) B.range (pe_callB call_len (by rfl) B.len PySem.boot_len (pa_cons (pv 0) pa_nil))))
        (pa_cons (pe_tupRg rfl (by rfl) B.tuple (prg_1 (by rfl) B.range (pe_callB call_len (by rfl) B.len PySem.boot_len (pa_cons (pv 1) pa_nil)))) pa_nil))))
    (pss_cons (ps_set (i := 4) sc_law_never_fewer.nd rfl (.inl rfl) (pe_lst (pa_cons (pv 3) pa_nil)))
    (pss_cons (ps_set (i := 5) sc_law_never_fewer.nd rfl (.inl rfl) pe_pNew)
    (pss_cons (ps_asg pe_bl (pg_sub (pv 5) (pv 3) (set_p hu)))
    (pss_cons (ps_for (passes_of rfl) rfl (pi_range1 (by rfl) B.range (pa_cons pe_int pa_nil)) (pg_name (i := 6) sc_law_never_fewer.nd rfl (.inl rfl))
      (pss_cons (ps_if (pt_cmpR op_ge (pv 6) (pe_callB call_len (by rfl) B.len PySem.boot_len (pa_cons (pv 4) pa_nil)) (nomark _)) (pss_one (ps_ret pe_bl)) pss_nil)
      (pss_cons (ps_asg (pe_ix ix_list (pv 4) (pv 6) (fun _ _ => rfl)) (pg_tup rfl (pgs_cons (pg_name (i := 7) sc_law_never_fewer.nd rfl (.inl rfl)) (pgs_cons (pg_name (i := 8) sc_law_never_fewer.nd rfl (.inl rfl)) pgs_nil))))
      (pss_cons (ps_if (pt_cmpR op_lt (pe_op op_sub (pe_callB call_len (by rfl) B.len PySem.boot_len (pa_cons (pv 0) pa_nil)) (pe_callB call_len (by rfl) B.len PySem.boot_len (pa_cons (pv 7) pa_nil)))
          (pe_op op_sub (pe_callB call_len (by rfl) B.len PySem.boot_len (pa_cons (pv 1) pa_nil)) (pe_callB call_len (by rfl) B.len PySem.boot_len (pa_cons (pv 8) pa_nil))) (nomark _)) (pss_one (ps_ret pe_bl)) pss_nil)
      (pss_one (ps_for (passes_of rfl) rfl (pi_list (pv 2)) (pg_name (i := 9) sc_law_never_fewer.nd rfl (.inl rfl))
        (pss_cons (ps_set (i := 10) sc_law_never_fewer.nd rfl (.inl rfl) (pe_tup (pa_cons (pe_call G1 hr (by rfl) g1 k1 b1 .nil pass0 (pa_cons (pv 0) (pa_cons (pv 7) (pa_cons (pv 9) pa_nil)))) (pa_cons (pe_call G1 hr (by rfl) g1 k1 b1 .nil pass0 (pa_cons (pv 1) (pa_cons (pv 8) (pa_cons (pv 9) pa_nil)))) pa_nil))))
        (pss_one (ps_if (pt_cmpR (op_pNotIn hu) (pv 10) (pv 5) rfl)
          (pss_cons (ps_asg pe_bl (pg_sub (pv 5) (pv 10) (set_p hu)))
          (pss_one (ps_expr (pe_bm PySem.F.plainAttrs_list PySem.F.slot_list_append PySem.F.type_list_append mt_append (pv 4) (pa_cons (pv 10) pa_nil))))) pss_nil)))))))))
    (pss_one (ps_ret pe_bl)))))), ?_⟩
  obtain ⟨ae, es, rfl, hes, hed⟩ := dp_lst h3
  have ees := dps_strs hed
  subst ees
  -- begin
  refine y_asg (K := K) (d := encP (startS L M)) (yd_tup (ya_cons (yd_range hF.1 (yd_lenL rfl hF (yd_var rfl h1))) (ya_cons (yd_range hG.1 (yd_lenL rfl hG (yd_var rfl h2))) ya_nil)) (show 2 ≤ 1000 by decide)) fun vb Ha sa hvb => ?_
  obtain ⟨ast, _, rfl, _, _⟩ := dp_tup hvb
  -- found = [begin]
  refine ⟨.ref ast, rfl, by show 1 ≤ sizeLine; decide, fun al hal => ?_⟩
  -- known = {}
  intro d hdn
  have nal : al ≠ d := fun z => by
    rw [← z, upd_same] at hdn
    cases hdn
  have s1 : Same Ha (upd Ha al (.lst [.ref ast])) := same_new hal
  have s2 := s1.trans (same_new (o := dPr P w d []) hdn)
  have hd0 : (upd (upd Ha al (.lst [.ref ast])) d (dPr P w d [])) d = some (dPr P w d []) := upd_same
  -- known[begin] = True
  refine ⟨.ref d, rfl, .ref ast, rfl, d, ast, [], startS L M, rfl, rfl, hd0, (fun _ z => nomatch z), dp_same s2 _ _ hvb, (fun z => nomatch z), Nat.zero_le _, ?_⟩
  have q0 : QS K P w Ha (upd (upd (upd Ha al (.lst [.ref ast])) d (dPr P w d [])) d (dPr P w d ([] ++ [(startS L M, ast, .bl true)]))) d al [.ref ast] ([] ++ [(startS L M, ast, .bl true)]) := by
    have dn := none_of_same s1 hdn
    have s3 := same_mut (o := dPr P w d ([] ++ [(startS L M, ast, V.bl true)])) s2 dn
    refine ⟨s3, dn, hal, upd_same, by rw [upd_ne nal, upd_ne nal, upd_same], fun x hx => ?_, .cons (dp_same s3 _ _ hvb) .nil⟩
    rw [List.mem_singleton.mp hx]
    exact dp_same s3 _ _ hvb
  have b0 : B0 L M E (keysOf ([] ++ [(startS L M, ast, V.bl true)])) 0 := by
    refine ⟨⟨List.nodup_cons.mpr ⟨by simp, List.nodup_nil⟩, fun p hp => ?_, List.mem_singleton.mpr rfl⟩, fun p hp => by simp at hp⟩
    rw [List.mem_singleton.mp hp]
    exact .start
  -- for turn in range(5000)
  refine ⟨5000, rfl, by decide, by decide, for_it walk_range (fun i σ' H' => ∃ ls xs u6 u7 u8 u9 u10, σ' = [some v1, some v2, some (.ref ae), some (.ref ast), some (.ref al), some (.ref d), u6, u7, u8, u9, u10] ∧ QS K P w Ha H' d al ls xs ∧ B0 L M E (keysOf xs) i ∧ i ≤ (keysOf xs).length)
    ⟨_, _, none, none, none, none, none, rfl, q0, b0, Nat.zero_le _⟩ (fun _ _ _ _ _ => trivial) (fun i x σ' H3 H4 hlt h y => ?_) (fun σ' H3 h => ?_)⟩
  · obtain ⟨ls, xs, u6, u7, u8, u9, u10, rfl, hq, hb0, hil⟩ := h
    obtain ⟨rfl, rfl⟩ := y
    have hsa : Same H H4 := sa.trans hq.same
    have hll : ls.length = (keysOf xs).length := by
      have := dps_len hq.lt
      rwa [List.length_map] at this
    have hcount : (keysOf xs).length ≤ 4999 := hb _ hb0.fd.nd hb0.fd.reach
    -- if turn >= len(found)
    refine ⟨_, rfl, .ref al, rfl, .ref al, _, rfl, .inl ⟨ls, SqL.of hq.hl, rfl⟩, _, _, rfl, rfl, _, rfl, ?_⟩
    by_cases hge : ((ls.length : Nat) : Int) ≤ 0 + (i : Nat)
    · rw [decide_eq_true hge]
      refine iteT ?_
      refine y_ret (K := K) yd_bl ?_
      intro v H5 s5 hv
      rw [dp_bool hv]
      exact q true H5 ⟨fun _ => hb0.never (by omega), fun _ => rfl⟩ (hsa.trans s5)
    · rw [decide_eq_false hge]
      refine iteF ?_
      have hiL : i < (keysOf xs).length := by omega
      -- free, its = found[turn]
      obtain ⟨v, hv1, hv2⟩ := dps_at hq.lt (i := i) (d := encP (keysOf xs)[i]) (by rw [List.getElem?_map, List.getElem?_eq_getElem hiL]; rfl)
      have ix : atI ls (0 + (i : Nat)) = some v := by
        rw [Int.zero_add]
        exact atI_nat hv1
      obtain ⟨ap, ws, rfl, hw1, hw2⟩ := dp_tup hv2
      cases hw2 with
      | cons hf1 hw2 =>
        rename_i x1 _
        cases hw2 with
        | cons hf2 hw2 =>
          rename_i x2 _
          cases hw2
          refine ⟨.ref al, rfl, _, rfl, al, ls, _, .ref ap, rfl, rfl, SqL.of hq.hl, ix, ap, [x1, x2], rfl, hw1, rfl, x1, [x2], rfl, x2, [], rfl, rfl, ?_⟩
          have hre := hb0.fd.reach _ (List.getElem_mem hiL)
          have okp := reach_ok hF hG hre
          dsimp only
          refine y_seq ?_
          refine y_if (yt_test (yd_cmpI (yd_sub (yd_lenL rfl hF (yd_var rfl (dp_same hsa _ _ h1))) (yd_lenF rfl okp.1.1 (yd_var rfl hf1))) (yd_sub (yd_lenL rfl hG (yd_var rfl (dp_same hsa _ _ h2))) (yd_lenF rfl okp.2.1 (yd_var rfl hf2))))) (fun e H5 s5 => ?_) (fun e H5 s5 => ?_)
          · refine y_ret (K := K) yd_bl ?_
            intro v H6 s6 hv
            rw [dp_bool hv]
            refine q false H6 ⟨(fun z => nomatch z), fun hn => ?_⟩ ((hsa.trans s5).trans s6)
            have z1 := hn _ hre
            have z2 := of_decide_eq_true e
            unfold leadS at z1
            omega
          · have hlead : 0 ≤ leadS L M (keysOf xs)[i] := by
              have z2 := of_decide_eq_false e
              unfold leadS
              omega
            have hq5 := hq.grow s5
            have b1 : B1 L M E (keysOf xs) i (keysOf xs)[i] 0 := ⟨hb0.fd, hb0.done, List.getElem?_eq_getElem hiL, hlead, fun k hk => by simp at hk⟩
            dsimp only [tNext]
            refine ⟨.ref ae, rfl, ae, rfl, ⟨_, (hsa.trans s5).seq hes⟩, for_it (walk_list (xs := E.map V.str)) (fun j σ' H' => ∃ ls2 xs2 u9 u10, σ' = [some v1, some v2, some (.ref ae), some (.ref ast), some (.ref al), some (.ref d), some (.int (0 + (i : Nat))), some x1, some x2, u9, u10] ∧ QS K P w Ha H' d al ls2 xs2 ∧ B1 L M E (keysOf xs2) i (keysOf xs)[i] j ∧ Dp K H' x1 (encF (keysOf xs)[i].1) ∧ Dp K H' x2 (encF (keysOf xs)[i].2))
              ⟨ls, xs, u9, u10, rfl, hq5, b1, dp_same s5 _ _ hf1, dp_same s5 _ _ hf2⟩ (fun j σ' H' _ ⟨ls2, xs2, u9, u10, e1, e2, _⟩ => (sa.trans e2.same).seq hes) (fun j x σ' H6 H7 hlt hp y => ?_) (fun σ' H6 hp => ?_)⟩
            · obtain ⟨ls2, xs2, w9, w10, rfl, l2, a2, hx1, hx2⟩ := hp
              obtain ⟨rfl, hx⟩ := y
              rw [List.getElem?_map] at hx
              obtain ⟨k, hk, rfl⟩ := Option.map_eq_some_iff.mp hx
              have sh := sa.trans l2.same
              -- pair = ..
              refine y_asg (K := K) (d := encP (stepS L M (keysOf xs)[i] k)) (yd_tup (ya_cons (yd_call (R := R_behind) (ya_cons (yd_var rfl (dp_same sh _ _ h1)) (ya_cons (yd_var rfl hx1) (ya_cons (yd_var rfl (.str k)) ya_nil))) ⟨L, _, k, rfl, hF, okp.1, rfl⟩)
                (ya_cons (yd_call (R := R_behind) (ya_cons (yd_var rfl (dp_same sh _ _ h2)) (ya_cons (yd_var rfl hx2) (ya_cons (yd_var rfl (.str k)) ya_nil))) ⟨M, _, k, rfl, hG, okp.2, rfl⟩) ya_nil)) (show 2 ≤ 1000 by decide)) fun vg H8 s8 hvg => ?_
              obtain ⟨ag, _, rfl, _, _⟩ := dp_tup hvg
              have l3 := l2.grow s8
              -- if pair not in known
              refine ⟨.ref ag, rfl, .ref d, rfl, d, ag, xs2, stepS L M (keysOf xs)[i] k, rfl, rfl, l3.hd, l3.keys, hvg, _, rfl, ?_⟩
              by_cases hin : stepS L M (keysOf xs)[i] k ∈ keysOf xs2
              · rw [decide_eq_true hin]
                exact iteF ⟨ls2, xs2, some (.str k), some (.ref ag), rfl, l3, a2.same hk hin, dp_same s8 _ _ hx1, dp_same s8 _ _ hx2⟩
              · rw [decide_eq_false hin]
                have hc2 : (keysOf xs2).length ≤ 4999 := hb _ a2.fd.nd a2.fd.reach
                have hx2l : xs2.length ≤ 4999 := by rwa [List.length_map] at hc2
                have hl2 : ls2.length = (keysOf xs2).length := by
                  have := dps_len l3.lt
                  rwa [List.length_map] at this
                refine iteT ⟨.ref d, rfl, .ref ag, rfl, d, ag, xs2, _, rfl, rfl, l3.hd, l3.keys, hvg, hin, by omega, ?_⟩
                have nda : al ≠ d := fun z => dPr_lst (Option.some.inj (l3.hd.symm.trans (z ▸ l3.hl)))
                have hal5 : (upd H8 d (dPr P w d (xs2 ++ [(stepS L M (keysOf xs)[i] k, ag, V.bl true)]))) al = some (.lst ls2) := by
                  rw [upd_ne nda]
                  exact l3.hl
                have l5 := l3.put (v := .bl true) hvg
                refine ⟨.ref al, rfl, .inl ⟨rfl, _, SqL.of hal5⟩, .ref ag, rfl, al, ls2, .ref ag, rfl, rfl, hal5, Nat.lt_of_le_of_lt (show ls2.length ≤ 5000 by omega) (by decide), ?_⟩
                have tsx := (ts_dict (K := K) (o := dPr P w d (xs2 ++ [(stepS L M (keysOf xs)[i] k, ag, V.bl true)])) l3.hd).trans (Ts.lst (o := .lst (ls2 ++ [.ref ag])) hal5)
                have nF : ∀ f : Free, noL (encF f) = true := fun f => noLs_of fun d hd => by
                  obtain ⟨i, _, e⟩ := List.mem_map.mp hd
                  rw [← e]
                  rfl
                refine ⟨_, _, some (.str k), some (.ref ag), rfl, l5, ?_, dp_ts tsx _ _ (nF _) (dp_same s8 _ _ hx1), dp_ts tsx _ _ (nF _) (dp_same s8 _ _ hx2)⟩
                have hk5 : keysOf (xs2 ++ [(stepS L M (keysOf xs)[i] k, ag, V.bl true)]) = keysOf xs2 ++ [stepS L M (keysOf xs)[i] k] := List.map_append ..
                rw [hk5]
                exact a2.put hk hin
            · obtain ⟨ls2, xs2, w9, w10, rfl, l2, a2, hx1, hx2⟩ := hp
              have el : (E.map V.str).length = E.length := List.length_map ..
              rw [el] at a2
              exact ⟨ls2, xs2, _, _, _, w9, w10, rfl, l2, a2.out, (List.getElem?_eq_some_iff.mp a2.at_).1⟩
  · obtain ⟨ls, xs, u6, u7, u8, u9, u10, rfl, hq, hb0, hil⟩ := h
    have hcount : (keysOf xs).length ≤ 4999 := hb _ hb0.fd.nd hb0.fd.reach
    have z : (5000 : Int).toNat = 5000 := rfl
    rw [z] at hil
    omega
end
end K15

/-! What is due. -/
namespace K15
open PySem PySem.Spec PyProof.Rows L2
/-! ### the mathematics -/
open Classical in
noncomputable def findL (L M : Lots) (E : List Str) (rs : List Lots) : Option Lots := rs.find? fun r => decide (Never (L ++ r) M E)
noncomputable def dueOf (L M : Lots) (E : List Str) (T : Lots) : Option Lots := findL L M E (rowsTo T 3)
def optLots : Option Lots → PyData
  | some r => encLots r
  | none => .none
section
variable {L M T : Lots} {E : List Str}
theorem findL_app (a b : List Lots) : findL L M E (a ++ b) = (findL L M E a).or (findL L M E b) := List.find?_append ..
theorem rows3 : dueOf L M E T = (((findL L M E (layerOf T 0)).or (findL L M E (layerOf T 1))).or (findL L M E (layerOf T 2))).or (findL L M E (layerOf T 3)) := by
  show findL L M E (((layerOf T 0 ++ layerOf T 1) ++ layerOf T 2) ++ layerOf T 3) = _
  rw [findL_app, findL_app, findL_app]
theorem due_hit {i : Nat} (hi : i < 4) {r : Lots} (hn : ∀ n < i, findL L M E (layerOf T n) = none) (h : findL L M E (layerOf T i) = some r) : dueOf L M E T = some r := by
  rw [rows3]
  have : i = 0 ∨ i = 1 ∨ i = 2 ∨ i = 3 := by omega
  rcases this with rfl | rfl | rfl | rfl
  · rw [h]
    rfl
  · rw [hn 0 (by decide), h]
    rfl
  · rw [hn 0 (by decide), hn 1 (by decide), h]
    rfl
  · rw [hn 0 (by decide), hn 1 (by decide), hn 2 (by decide), h]
    rfl
theorem due_none (hn : ∀ n < 4, findL L M E (layerOf T n) = none) : dueOf L M E T = none := by
  rw [rows3, hn 0 (by decide), hn 1 (by decide), hn 2 (by decide), hn 3 (by decide)]
  rfl
open Classical in
theorem findL_hit {rs : List Lots} {i : Nat} {r : Lots} (h : ∀ t < i, ∀ x, rs[t]? = some x → ¬ Never (L ++ x) M E) (hi : rs[i]? = some r) (hp : Never (L ++ r) M E) : findL L M E rs = some r := by
  unfold findL
  induction rs generalizing i with
  | nil => simp at hi
  | cons x rs ih =>
    cases i with
    | zero =>
      have e : x = r := by simpa using hi
      subst e
      exact List.find?_cons_of_pos (decide_eq_true hp)
    | succ i =>
      rw [List.find?_cons_of_neg (by rw [decide_eq_true_eq]; exact h 0 (by omega) x rfl)]
      exact ih (i := i) (fun t ht y hy => h (t + 1) (by omega) y (by simpa using hy)) (by simpa using hi)
open Classical in
theorem findL_none {rs : List Lots} (h : ∀ t < rs.length, ∀ x, rs[t]? = some x → ¬ Never (L ++ x) M E) : findL L M E rs = none := by
  unfold findL
  rw [List.find?_eq_none]
  intro x hx
  obtain ⟨t, ht, e⟩ := List.mem_iff_getElem.mp hx
  rw [decide_eq_true_eq]
  exact h t ht x (by rw [List.getElem?_eq_getElem ht, e])
theorem next_row (T : Lots) (row : Lots) : ((T.map encLot).filter (lastD (encLots row))).map (appD (encLots row)) = (nextL T [row]).map encLots := by
  have h := next_map T [row]
  rw [List.map_singleton, List.flatMap_singleton] at h
  exact h
theorem next_app (T : Lots) (a b : List Lots) : nextL T (a ++ b) = nextL T a ++ nextL T b := List.flatMap_append ..
end
section
variable {P : Program} {w : World} {K : Frag} {mg : Mg} {base : Heap}
theorem y_consR2 {sp : Sp} {dvs : List V} {E : XK} {te : TE} {tr : TA} {σ : St} {H : Hp} {Q : VK} (h : te σ H fun v H1 => tr σ H1 fun vs H2 => sp ((v :: vs) ++ dvs) H2 Q E) : tCall sp dvs E (tCons te tr) σ H Q := h
def spDue (K : Frag) : Sp := fun vs H Q _ => ∃ v1 v2 v3 v4 L M E T, vs = [v1, v2, v3, v4] ∧ Dp K H v1 (encLots L) ∧ Dp K H v2 (encLots M) ∧ Dp K H v3 (.list (E.map .str)) ∧ Dp K H v4 (encLots T) ∧ Few L ∧ Few M ∧ Few T ∧ L.length ≤ 100 ∧ T.length ≤ 4 ∧
  (∀ r ∈ rowsTo T 3, Bound (L ++ r) M E 4999) ∧ ∀ v H', Same H H' → Dp K H' v (optLots (dueOf L M E T)) → Q v H'
theorem layer_rows {T : Lots} {i : Nat} (hi : i ≤ 3) {r : Lots} (h : r ∈ layerOf T i) : r ∈ rowsTo T 3 := by
  show r ∈ ((layerOf T 0 ++ layerOf T 1) ++ layerOf T 2) ++ layerOf T 3
  have : i = 0 ∨ i = 1 ∨ i = 2 ∨ i = 3 := by omega
  rcases this with rfl | rfl | rfl | rfl
  · exact List.mem_append_left _ (List.mem_append_left _ (List.mem_append_left _ h))
  · exact List.mem_append_left _ (List.mem_append_left _ (List.mem_append_right _ h))
  · exact List.mem_append_left _ (List.mem_append_right _ h)
  · exact List.mem_append_right _ h
theorem sc_law_due : FnScope ["_law_lots_here", "_law_others", "_law_every", "_law_more", "_law_layer", "_law_turn", "_law_row_here", "_law_later", "_law_lot_here"] ["_law_lots_here", "_law_others", "_law_every", "_law_more"] (defScope s_law_due) := ⟨rfl, rfl, rfl, by decide +kernel, rfl, by decide +kernel, by decide +kernel⟩
theorem ok_law_due (D : DefAt K mg "_law_due" s_law_due ["_law_lots_here", "_law_others", "_law_every", "_law_more"]) (B : Blt mg) (A2 : Has P w K mg base CX0 2 "_law_never_fewer" ["_law_lots_here", "_law_others", "_law_every"] (spLNF K)) :
    Has P w K mg base CX0 3 "_law_due" ["_law_lots_here", "_law_others", "_law_every", "_law_more"] (spDue K) := by
  obtain ⟨f, fd, F, g, b⟩ := D
  obtain ⟨f2, fd2, G2, g2, k2, b2⟩ := A2
  refine ⟨f, fd, F.ok sc_law_due (fun vs H Q E h => by obtain ⟨v1, v2, v3, v4, L, M, E, T, rfl, _⟩ := h; rfl) (fun cdv A outer s H vs Q E0' hr h => ?_), g, F.kp, b⟩
  obtain ⟨v1, v2, v3, v4, L, M, E, T, rfl, h1, h2, h3, h4, hF, hG, hT, hl, hT4, hb, q⟩ := h
  refine ⟨_, pss_cons (ps_set (i := 4) sc_law_due.nd rfl (.inl rfl) (pe_lst (pa_cons (pe_tup pa_nil) pa_nil)))
    (pss_cons (ps_for (passes_of rfl) rfl (pi_range1 (by rfl) B.range (pa_cons pe_int pa_nil)) (pg_name (i := 5) sc_law_due.nd rfl (.inl rfl))
      (pss_cons (ps_for (passes_of rfl) rfl (pi_list (pv 4)) (pg_name (i := 6) sc_law_due.nd rfl (.inr rfl))
        (pss_one (ps_if (pt_val (pe_call G2 hr (by rfl) g2 k2 b2 .nil pass0 (pa_cons (pe_op op_catA (pv 0) (pv 6)) (pa_cons (pv 1) (pa_cons (pv 2) pa_nil))))) (pss_one (ps_ret (pv 6))) pss_nil)))
      (pss_cons (ps_set (i := 7) sc_law_due.nd rfl (.inl rfl) (pe_lst pa_nil))
      (pss_cons (ps_for (passes_of rfl) rfl (pi_list (pv 4)) (pg_name (i := 6) sc_law_due.nd rfl (.inr rfl))
        (pss_one (ps_set (i := 7) sc_law_due.nd rfl (.inl rfl) (pe_op op_cat (pv 7) (pe_lc (own := [("_law_lot_here", 8)]) (g := gName 8) rfl sc_law_due.nd
          (pi_tup (pv 3)) (blkOk_by (N := ["_law_lots_here", "_law_others", "_law_every", "_law_more", "_law_layer", "_law_turn", "_law_row_here", "_law_later", "_law_lot_here"]) (sc := defScope s_law_due) (by decide +kernel)) (fun _ _ _ _ _ => pg_name (i := 8) sc_law_due.nd rfl (Or.inl rfl))
          (fun _ _ _ _ _ => pts_one (PW.pt (pw_or (pt_cmpR op_eq (pe_callB (r := fun xs H Q => ∃ x n, xs = [x] ∧ LenV K x H n ∧ Q (.int (n : Nat)) H) call_len (by rfl) B.len PySem.boot_len (pa_cons (pv 6) pa_nil)) pe_int (nomark _))
            (pw_or1 (pt_cmpR (r := rLeD K) (op_leD hr.units) (pe_ix (r := rIx K) ix_seq (pv 6) (pe_un un_neg pe_int) (fun _ _ => rfl)) (pv 8) (nomark _))))))
          (fun _ _ _ _ _ => pe_op (r := rCatA K) op_catA (pv 6) (pe_tup (pa_cons (pv 8) pa_nil))))))))
      (pss_one (ps_set (i := 4) sc_law_due.nd rfl (.inl rfl) (pv 7)))))))
    (pss_one (ps_ret pe_non))), ?_⟩
  -- layer = [()]
  refine y_seq ?_
  refine y_asgL (K := K) (ds := (layerOf T 0).map encLots) (yl_lst (ya_cons (yd_tup ya_nil (show 0 ≤ 1000 by decide)) ya_nil) (show 1 ≤ 1000 by decide)) fun a0 ls0 H1 s1 e1 d1 => ?_
  have dpE : ∀ {H' : Hp}, Same H H' → Dp K H' v3 (.list (E.map .str)) := fun s => dp_same s _ _ h3
  refine y_for (K := K) (ydi_rng1 (ya_cons yd_int ya_nil) (show (4 : Int) ≤ 1000000 by decide) (show (0 : Int) ≤ 4 by decide))
    (fun i σ' H' => ∃ al ls u5 u6 u7, σ' = [some v1, some v2, some v3, some v4, some (.ref al), u5, u6, u7, none] ∧ H' al = some (.lst ls) ∧ DpAll K H' ls ((layerOf T i).map encLots) ∧ ∀ n < i, findL L M E (layerOf T n) = none)
    (fun H2 s2 => ⟨a0, ls0, none, none, none, rfl, s2 _ _ e1, dps_same s2 _ _ d1, fun n hn => by omega⟩) (fun H2 s2 i d σ' H3 H4 x s3 s4 hi hp hx => ?_) (fun σ' H' s2 hp => ?_)
  · obtain ⟨al, ls, u5, u6, u7, rfl, e3, d3, hno⟩ := hp
    have hi4 : i < 4 := by
      have := (List.getElem?_eq_some_iff.mp hi).1
      rw [List.length_map, List.length_range] at this
      exact this
    have sb := ((s1.trans s2).trans s3).trans s4
    have e4 := s4 _ _ e3
    have d4 := dps_same s4 _ _ d3
    have hrow : ∀ d ∈ (layerOf T i).map encLots, ∃ row, d = encLots row ∧ row ∈ layerOf T i ∧ Few row ∧ row.length ≤ 3 := fun d hd => by
      obtain ⟨row, hr, rfl⟩ := List.mem_map.mp hd
      obtain ⟨a, b⟩ := layer_row hr
      exact ⟨row, rfl, hr, few_sub hT (by omega) b, by omega⟩
    have ll : (layerOf T i).length ≤ 64 := by
      refine Nat.le_trans (layer_len hT4 i) ?_
      have : i = 0 ∨ i = 1 ∨ i = 2 ∨ i = 3 := by omega
      rcases this with rfl | rfl | rfl | rfl <;> decide
    refine y_g (y_seq ?_)
    -- for row in layer: if never: return row
    refine y_for (K := K) (ydi_lstL (yl_var rfl e4 d4)) (fun j σ' H' => (∃ u6, σ' = [some v1, some v2, some v3, some v4, some (.ref al), some x, u6, u7, none]) ∧ ∀ t < j, ∀ r, (layerOf T i)[t]? = some r → ¬ Never (L ++ r) M E)
      (fun H5 s5 => ⟨⟨u6, rfl⟩, fun t ht => by omega⟩) (fun H5 s5 j d2 σ' H6 H7 y s6 s7 hj hp hy => ?_) (fun σ' H5 s5 hp => ?_)
    · obtain ⟨⟨w6, rfl⟩, hnj⟩ := hp
      rw [List.getElem?_map] at hj
      obtain ⟨r, hr', rfl⟩ := Option.map_eq_some_iff.mp hj
      obtain ⟨row, _, hmem, hFr, hr3⟩ := hrow (encLots r) (List.mem_map.mpr ⟨r, List.mem_of_getElem? hr', rfl⟩)
      have hrm := List.mem_of_getElem? hr'
      obtain ⟨ra, rb⟩ := layer_row hrm
      have hFr : Few r := few_sub hT (by omega) rb
      have sc := ((sb.trans s5).trans s6).trans s7
      refine y_ifB (y_consR2 ?_)
      refine (yd_catT (yd_var (K := K) (i := 0) rfl (dp_same sc _ _ h1)) (yd_var (i := 6) rfl hy) (by rw [List.length_map, List.length_map]; omega)) H7 (Same.refl _) _ fun v H8 s8 hv => ?_
      have hv' : Dp K H8 v (encLots (L ++ r)) := by
        show Dp K H8 v (.tuple ((L ++ r).map encLot))
        rw [List.map_append]
        exact hv
      refine ⟨v2, rfl, v3, rfl, v, v2, v3, L ++ r, M, E, rfl, hv', dp_same (sc.trans s8) _ _ h2, dpE (sc.trans s8), hF.app hFr (by omega), hG, hb r (layer_rows (by omega) hrm), fun bb H9 hiff s9 => ⟨bb, rfl, ?_⟩⟩
      cases hbb : bb with
      | true =>
        refine iteT (y_ret (yd_var rfl (dp_same (s8.trans s9) _ _ hy)) ?_)
        intro v' H10 s10 hv'
        refine q v' H10 ((sc.trans (s8.trans s9)).trans s10) ?_
        rw [due_hit hi4 hno (findL_hit hnj hr' (hiff.mp hbb))]
        exact hv'
      | false =>
        refine iteF ⟨((s6.trans s7).trans s8).trans s9, ⟨_, rfl⟩, fun t ht z hz => ?_⟩
        by_cases ht2 : t < j
        · exact hnj t ht2 z hz
        · have et : t = j := by omega
          subst et
          rw [hr'] at hz
          rw [← Option.some.inj hz]
          exact fun hn => by
            rw [hiff.mpr hn] at hbb
            cases hbb
    · obtain ⟨⟨w6, rfl⟩, hnj⟩ := hp
      rw [List.length_map] at hnj
      have hnone : findL L M E (layerOf T i) = none := findL_none hnj
      dsimp only
      refine y_seq ?_
      -- later = []
      refine y_asgL (K := K) (ds := (nextL T ((layerOf T i).take 0)).map encLots) (yl_lst ya_nil (show 0 ≤ 1000 by decide)) fun a7 ls7 H6 s6 e7 d7 => ?_
      have e6 := (s5.trans s6) _ _ e4
      have d6 := dps_same (s5.trans s6) _ _ d4
      dsimp only
      refine y_seq ?_
      refine y_for (K := K) (ydi_lstL (yl_var rfl e6 d6)) (fun j σ' H' => ∃ a7 ls7 u6, σ' = [some v1, some v2, some v3, some v4, some (.ref al), some x, u6, some (.ref a7), none] ∧ H' a7 = some (.lst ls7) ∧ DpAll K H' ls7 ((nextL T ((layerOf T i).take j)).map encLots))
        (fun H7 s7 => ⟨a7, ls7, w6, rfl, s7 _ _ e7, dps_same s7 _ _ d7⟩) (fun H7 s7 j d2 σ' H8 H9 y s8 s9 hj hp hy => ?_) (fun σ' H7 s7 hp => ?_)
      · obtain ⟨a8, ls8, w6, rfl, e8, d8⟩ := hp
        rw [List.getElem?_map] at hj
        obtain ⟨r, hr', rfl⟩ := Option.map_eq_some_iff.mp hj
        have hrm := List.mem_of_getElem? hr'
        obtain ⟨ra, rb⟩ := layer_row hrm
        have hFr : Few r := few_sub hT (by omega) rb
        have sc := (((sb.trans (s5.trans s6)).trans s7).trans s8).trans s9
        have st := take_succ_some hr'
        have q1 := next_len T ((layerOf T i).take j)
        have q2 := next_len T [r]
        have q3 : ((layerOf T i).take j).length * T.length ≤ 64 * 4 := Nat.mul_le_mul (by rw [List.length_take]; omega) hT4
        refine y_asgL (K := K) (ds := (nextL T ((layerOf T i).take (j + 1))).map encLots) ((yl_cat (yl_var rfl (s9 _ _ e8) (dps_same s9 _ _ d8)) (yl_lc (p := lastD (encLots r)) (f := appD (encLots r)) (ydi_tup (yd_var rfl (dp_same sc _ _ h4))) (by rw [List.length_map]; omega) (fun d hd _ => ?_) (fun H10 z d s10 hd hz => ⟨?_, fun _ => ?_⟩)) ?_).is ?_) fun a9 ls9 H10 s10 e9 d9 => ?_
        · obtain ⟨l, _, rfl⟩ := List.mem_map.mp hd
          have : appD (encLots r) (encLot l) = encLots (r ++ [l]) := by
            show PyData.tuple ((r.map encLot) ++ [encLot l]) = PyData.tuple ((r ++ [l]).map encLot)
            rw [List.map_append]
            rfl
          rw [this]
          exact noL_lots _
        · obtain ⟨l, _, rfl⟩ := List.mem_map.mp hd
          exact y_lastOk rfl hFr rfl (dp_same s10 _ _ hy) rfl hz
        · obtain ⟨l, _, rfl⟩ := List.mem_map.mp hd
          exact yd_catT (yd_var rfl (dp_same s10 _ _ hy)) (yd_tup (ya_cons (yd_var rfl hz) ya_nil) (show 1 ≤ 1000 by decide)) (by
            show (r.map encLot).length + 1 ≤ 1000
            rw [List.length_map]
            omega)
        · rw [next_row, List.length_map, List.length_map]
          rw [List.length_singleton] at q2
          omega
        · rw [next_row, ← List.map_append, ← next_app, ← st]
        · exact ⟨(s8.trans s9).trans s10, a9, ls9, some y, rfl, e9, d9⟩
      · obtain ⟨a8, ls8, w6, rfl, e8, d8⟩ := hp
        rw [List.length_map, List.take_length] at d8
        dsimp only
        refine ⟨.ref a8, rfl, ?_⟩
        refine ⟨(s3.trans s4).trans ((s5.trans s6).trans s7), a8, ls8, some x, w6, some (.ref a8), rfl, e8, d8, fun n hn => ?_⟩
        by_cases hn2 : n < i
        · exact hno n hn2
        · have en : n = i := by omega
          rw [en]
          exact hnone
  · obtain ⟨al, ls, u5, u6, u7, rfl, e3, d3, hno⟩ := hp
    rw [List.length_map, List.length_range] at hno
    dsimp only
    refine y_ret (K := K) yd_non ?_
    intro v H5 s5 hv
    refine q v H5 ((s1.trans s2).trans s5) ?_
    rw [due_none hno]
    exact hv
end
end K15

/-! The odd things. -/
namespace K15
open PySem PySem.Spec PyProof.Rows L2
mutual
/-- no list within is of five items -/
def noT : PyData → Bool
  | .none => true
  | .bool _ => true
  | .int _ => true
  | .str _ => true
  | .list xs => decide (xs.length ≠ 5) && noTs xs
  | .tuple xs => noTs xs
  | .dict _ => true
def noTs : List PyData → Bool
  | [] => true
  | x :: xs => noT x && noTs xs
end
theorem TapeAt.five {K : Frag} {H H' : Hp} {t c a : Addr} {xs : List V} (h : TapeAt H t c) (m : Mut t H H') (hs : SqL K H a xs) (hx : xs.length ≠ 5) : SqL K H' a xs := by
  obtain ⟨i1, i2, i3, i4, ns, h1, h2, h3⟩ := h
  rcases hs with (e | ⟨ob, e⟩) | e
  · refine .inl (.inl (m a _ (fun z => ?_) e))
    rw [z, h1] at e
    rw [← HO.lst.inj (Option.some.inj e)] at hx
    exact hx rfl
  · refine .inl (.inr ⟨ob, m a _ (fun z => ?_) e⟩)
    rw [z, h1] at e
    cases Option.some.inj e
  · exact .inr e
section
variable {K : Frag} {H H' : Hp} {t c : Addr}
mutual
theorem dp_mut (h : TapeAt H t c) (m : Mut t H H') : ∀ (d : PyData) (v : V), noT d = true → Dp K H v d → Dp K H' v d
  | .none, _, _, h => by cases h; exact .non
  | .bool b, _, _, h => by cases h; exact .bl b
  | .int i, _, _, h => by cases h; exact .int i
  | .str x, _, _, h => by cases h; exact .str x
  | .list ds, _, n, hh => by
    rw [noT, Bool.and_eq_true, decide_eq_true_eq] at n
    cases hh with
    | lst hs ha => exact .lst (h.five m hs (by rw [dps_len ha]; exact n.1)) (dps_mut h m ds _ n.2 ha)
  | .tuple ds, _, n, hh => by
    rw [noT] at n
    cases hh with
    | tup hs ha => exact .tup (h.ts m _ _ hs) (dps_mut h m ds _ n ha)
  | .dict _, _, _, h => by cases h
theorem dps_mut (h : TapeAt H t c) (m : Mut t H H') : ∀ (ds : List PyData) (vs : List V), noTs ds = true → DpAll K H vs ds → DpAll K H' vs ds
  | [], _, _, h => by cases h; exact .nil
  | d :: ds, _, n, hh => by
    rw [noTs, Bool.and_eq_true] at n
    cases hh with
    | cons h1 h2 => exact .cons (dp_mut h m d _ n.1 h1) (dps_mut h m ds _ n.2 h2)
end
end
def okO : Option PyData → Bool
  | some d => noT d
  | none => true
section
variable {P : Program} {w : World} {K : Frag} {mg : Mg} {base : Heap} {σ : St} {H : Hp} {te ta tb : TE}
theorem Thing.mut {H H' : Hp} {t c : Addr} {v : V} (h : TapeAt H t c) (m : Mut t H H') : ∀ {o : Option PyData}, okO o = true → Thing K H v o → Thing K H' v o
  | some d, n, q => ⟨dp_mut h m d v n q.1, q.2⟩
  | none, _, q => by
    obtain ⟨a, e, q⟩ := q
    obtain ⟨xs, hx⟩ := h.mem
    exact ⟨a, e, m a _ (fun z => by rw [z, hx] at q; cases q) q⟩
def TAll (K : Frag) (H : Hp) (vs : List V) : Prop := ∀ v ∈ vs, ∃ o, Thing K H v o ∧ okO o = true
theorem TAll.same {H H' : Hp} {vs : List V} (h : TAll K H vs) (s : Same H H') : TAll K H' vs := fun v hv => by
  obtain ⟨o, h1, h2⟩ := h v hv
  exact ⟨o, h1.same s, h2⟩
theorem TAll.app {vs ws : List V} (h : TAll K H vs) (g : TAll K H ws) : TAll K H (vs ++ ws) := fun v hv => by
  rcases List.mem_append.mp hv with z | z
  · exact h v z
  · exact g v z
def Yo (K : Frag) (te : TE) (σ : St) (H : Hp) : Prop := ∀ H1, Same H H1 → ∀ Q : VK, (∀ v H2 o, Same H1 H2 → Thing K H2 v o → okO o = true → Q v H2) → te σ H1 Q
def YoA (K : Frag) (t : TA) (σ : St) (H : Hp) (n : Nat) : Prop := ∀ H1, Same H H1 → ∀ Q : List V → Hp → Prop, (∀ vs H2, Same H1 H2 → vs.length = n → TAll K H2 vs → Q vs H2) → t σ H1 Q
theorem yo_of {d : PyData} (h : Yd K te σ H d) (hs : short d = true) (hn : noT d = true) : Yo K te σ H := fun H1 s Q q => h H1 s Q fun v H2 s2 hv => q v H2 (some d) s2 ⟨hv, hs⟩ hn
theorem yo_dict : Yo K tDNewK σ H := fun H1 s Q q d hd => q _ _ none (same_new hd) ⟨d, rfl, upd_same⟩ rfl
theorem yoa_nil : YoA K tNil σ H 0 := fun H1 s Q q => q [] H1 (Same.refl _) rfl fun _ z => nomatch z
theorem yoa_cons {tr : TA} {n : Nat} (h : Yo K te σ H) (hr : YoA K tr σ H n) : YoA K (tCons te tr) σ H (n + 1) := fun H1 s Q q => h H1 s _ fun v H2 o s2 hv ho => hr H2 (s.trans s2) _ fun vs H3 s3 hl hvs => q _ H3 (s2.trans s3) (by rw [List.length_cons, hl]) fun x hx => by
  rcases List.mem_cons.mp hx with z | z
  · rw [z]
    exact ⟨o, hv.same s3, ho⟩
  · exact hvs x z
theorem yd_pow {i j : Int} (ha : Yd K ta σ H (.int i)) (hb : Yd K tb σ H (.int j)) (hc : CPow i j) : Yd K (tOp (rI CPow fun i j => .int (i ^ j.toNat)) ta tb) σ H (.int (i ^ j.toNat)) :=
  yd_op ha hb fun v w H1 _ hv hw Q q => ⟨i, j, dp_int hv, dp_int hw, hc, q _ H1 (Same.refl _) (.int _)⟩
theorem y_seqLst {i : Nat} {t : TA} {u : TS} {D : Ends} (h : t σ H fun xs H1 => xs.length ≤ sizeLine ∧ ∀ p, H1 p = none → u D (σ.set i (some (.ref p))) (upd H1 p (.lst xs))) : tSeq (tAsg (tLst t) (gName i)) u D σ H := h
theorem y_seqCat {i j : Nat} {a : Addr} {t : TA} {u : TS} {D : Ends} (hj : σ[j]? = some (some (.ref a))) (h : t σ H fun zs H1 => zs.length ≤ sizeLine ∧ ∀ b, H1 b = none → rCat (.ref a) (.ref b) (upd H1 b (.lst zs)) fun x H2 => u D (σ.set i (some x)) H2) :
    tSeq (tAsg (tOp rCat (tVar j) (tLst t)) (gName i)) u D σ H := ⟨.ref a, hj, h⟩
def spOdd (K : Frag) : Sp := fun vs H Q _ => ∃ t c, vs = [.ref t] ∧ TapeAt H t c ∧ ∀ v o H', Mut t H H' → TapeAt H' t c → Thing K H' v o → okO o = true → Q v H'
theorem sc_law_odd : FnScope ["_law_tape_here", "_law_things"] ["_law_tape_here"] (defScope s_law_odd) := ⟨rfl, rfl, rfl, by decide +kernel, rfl, by decide +kernel, by decide +kernel⟩
theorem ok_law_odd (D : DefAt K mg "_law_odd" s_law_odd ["_law_tape_here"]) (B : Blt mg) (AP : Has P w K mg base CX0 1 "_law_pick" ["_law_tape_here", "_law_many"] (spPick K)) : Has P w K mg base CX0 2 "_law_odd" ["_law_tape_here"] (spOdd K) := by
  obtain ⟨f, fd, F, g, b⟩ := D
  obtain ⟨f1, fd1, G1, g1, k1, b1⟩ := AP
  refine ⟨f, fd, F.ok sc_law_odd (fun vs H Q E h => by obtain ⟨t, c, rfl, _⟩ := h; rfl) (fun cdv A outer s H vs Q E hr h => ?_), g, F.kp, b⟩
  obtain ⟨t, c, rfl, ht, q⟩ := h
  refine ⟨_, pss_cons (ps_set (i := 1) sc_law_odd.nd rfl (.inl rfl) (pe_lst (pa_cons pe_non (pa_cons pe_bl (pa_cons pe_bl (pa_cons pe_int (pa_cons pe_int (pa_cons (pe_un un_neg pe_int) (pa_cons (pe_op op_pow pe_int pe_int) (pa_cons pe_str (pa_cons pe_str (pa_cons pe_str (pa_cons pe_str (pa_cons pe_str (pa_cons pe_str (pa_cons pe_str (pa_cons (pe_tup pa_nil) (pa_cons (pe_lst pa_nil) (pa_cons pe_dnewK (pa_cons (pe_tup (pa_cons pe_str pa_nil)) pa_nil))))))))))))))))))))
    (pss_cons (ps_set (i := 1) sc_law_odd.nd rfl (.inl rfl) (pe_op op_cat (pv 1) (pe_lst (pa_cons (pe_tup (pa_cons pe_str pa_nil)) (pa_cons (pe_lst (pa_cons pe_str pa_nil)) (pa_cons (pe_tup (pa_cons pe_str (pa_cons pe_str pa_nil))) (pa_cons (pe_tup (pa_cons pe_str (pa_cons pe_str pa_nil))) (pa_cons (pe_tup (pa_cons pe_str (pa_cons pe_str pa_nil))) (pa_cons (pe_tup (pa_cons (pe_tup (pa_cons pe_str pa_nil)) pa_nil)) (pa_cons (pe_tup (pa_cons (pe_tup (pa_cons pe_str pa_nil)) (pa_cons (pe_tup pa_nil) pa_nil))) (pa_cons (pe_tup (pa_cons pe_int pa_nil)) (pa_cons (pe_tup (pa_cons pe_str (pa_cons pe_int pa_nil))) pa_nil))))))))))))
    (pss_cons (ps_set (i := 1) sc_law_odd.nd rfl (.inl rfl) (pe_op op_cat (pv 1) (pe_lst (pa_cons (pe_tup (pa_cons pe_bl (pa_cons pe_str pa_nil))) (pa_cons (pe_tup (pa_cons pe_str pa_nil)) (pa_cons (pe_tup (pa_cons (pe_tup (pa_cons pe_str pa_nil)) (pa_cons (pe_lst (pa_cons pe_str pa_nil)) pa_nil))) (pa_cons pe_str (pa_cons (pe_tup (pa_cons pe_int (pa_cons pe_int pa_nil))) (pa_cons (pe_tup (pa_cons pe_str (pa_cons pe_str pa_nil))) (pa_cons (pe_tup (pa_cons pe_str (pa_cons pe_str (pa_cons pe_str pa_nil)))) pa_nil))))))))))
    (pss_one (ps_ret (pe_ix ix_list (pv 1) (pe_call G1 hr (by rfl) g1 k1 b1 .nil pass0 (pa_cons (pv 0) (pa_cons (pe_callB call_len (by rfl) B.len PySem.boot_len (pa_cons (pv 1) pa_nil)) pa_nil))) (fun _ _ => rfl)))))), ?_⟩
  have r1 : YoA K _ (L2.start ["_law_tape_here", "_law_things"] [V.ref t]) H 18 := (yoa_cons (yo_of yd_non (by decide) (by decide)) (yoa_cons (yo_of (yd_bl (b := true)) (by decide) (by decide)) (yoa_cons (yo_of (yd_bl (b := false)) (by decide) (by decide)) (yoa_cons (yo_of (yd_int (i := 0)) (by decide) (by decide)) (yoa_cons (yo_of (yd_int (i := 1)) (by decide) (by decide)) (yoa_cons (yo_of (yd_neg (yd_int (i := 1))) (by decide) (by decide)) (yoa_cons (yo_of (yd_pow (yd_int (i := 10)) (yd_int (i := 20)) ⟨by decide, by decide, by decide⟩) (by decide) (by decide)) (yoa_cons (yo_of (yd_str (x := ("" : Str))) (by decide) (by decide)) (yoa_cons (yo_of (yd_str (x := ("a" : Str))) (by decide) (by decide)) (yoa_cons (yo_of (yd_str (x := ("ab" : Str))) (by decide) (by decide)) (yoa_cons (yo_of (yd_str (x := ("ba" : Str))) (by decide) (by decide)) (yoa_cons (yo_of (yd_str (x := ("A" : Str))) (by decide) (by decide)) (yoa_cons (yo_of (yd_str (x := ("aa" : Str))) (by decide) (by decide)) (yoa_cons (yo_of (yd_str (x := ("abcdef" : Str))) (by decide) (by decide)) (yoa_cons (yo_of (yd_tup ya_nil (by decide)) (by decide) (by decide)) (yoa_cons (yo_of (yd_lst ya_nil (by decide)) (by decide) (by decide)) (yoa_cons yo_dict (yoa_cons (yo_of (yd_tup (ya_cons (yd_str (x := ("" : Str))) ya_nil) (by decide)) (by decide) (by decide)) yoa_nil))))))))))))))))))
  refine y_seqLst (r1 H (Same.refl _) _ fun vs1 H1 s1 l1 t1 => ⟨by rw [l1]; decide, fun a1 ha1 => ?_⟩)
  have n1 := same_new (o := .lst vs1) ha1
  have r2 : YoA K _ [some (V.ref t), some (.ref a1)] (upd H1 a1 (.lst vs1)) 9 := (yoa_cons (yo_of (yd_tup (ya_cons (yd_str (x := ("a" : Str))) ya_nil) (by decide)) (by decide) (by decide)) (yoa_cons (yo_of (yd_lst (ya_cons (yd_str (x := ("a" : Str))) ya_nil) (by decide)) (by decide) (by decide)) (yoa_cons (yo_of (yd_tup (ya_cons (yd_str (x := ("a" : Str))) (ya_cons (yd_str (x := ("a" : Str))) ya_nil)) (by decide)) (by decide) (by decide)) (yoa_cons (yo_of (yd_tup (ya_cons (yd_str (x := ("b" : Str))) (ya_cons (yd_str (x := ("a" : Str))) ya_nil)) (by decide)) (by decide) (by decide)) (yoa_cons (yo_of (yd_tup (ya_cons (yd_str (x := ("ab" : Str))) (ya_cons (yd_str (x := ("a" : Str))) ya_nil)) (by decide)) (by decide) (by decide)) (yoa_cons (yo_of (yd_tup (ya_cons (yd_tup (ya_cons (yd_str (x := ("a" : Str))) ya_nil) (by decide)) ya_nil) (by decide)) (by decide) (by decide)) (yoa_cons (yo_of (yd_tup (ya_cons (yd_tup (ya_cons (yd_str (x := ("a" : Str))) ya_nil) (by decide)) (ya_cons (yd_tup ya_nil (by decide)) ya_nil)) (by decide)) (by decide) (by decide)) (yoa_cons (yo_of (yd_tup (ya_cons (yd_int (i := 1)) ya_nil) (by decide)) (by decide) (by decide)) (yoa_cons (yo_of (yd_tup (ya_cons (yd_str (x := ("a" : Str))) (ya_cons (yd_int (i := 1)) ya_nil)) (by decide)) (by decide) (by decide)) yoa_nil)))))))))
  refine y_seqCat (a := a1) rfl (r2 _ (Same.refl _) _ fun vs2 H2 s2 l2 t2 => ⟨by rw [l2]; decide, fun a2 ha2 => ?_⟩)
  have n2 := same_new (o := .lst vs2) ha2
  refine ⟨a1, a2, vs1, vs2, rfl, rfl, (s2.trans n2) _ _ upd_same, upd_same, by rw [l1, l2]; decide, fun a3 ha3 => ?_⟩
  have n3 := same_new (o := .lst (vs1 ++ vs2)) ha3
  have r3 : YoA K _ [some (V.ref t), some (.ref a3)] (upd (upd H2 a2 (.lst vs2)) a3 (.lst (vs1 ++ vs2))) 7 := (yoa_cons (yo_of (yd_tup (ya_cons (yd_bl (b := true)) (ya_cons (yd_str (x := ("a" : Str))) ya_nil)) (by decide)) (by decide) (by decide)) (yoa_cons (yo_of (yd_tup (ya_cons (yd_str (x := ("z" : Str))) ya_nil) (by decide)) (by decide) (by decide)) (yoa_cons (yo_of (yd_tup (ya_cons (yd_tup (ya_cons (yd_str (x := ("a" : Str))) ya_nil) (by decide)) (ya_cons (yd_lst (ya_cons (yd_str (x := ("a" : Str))) ya_nil) (by decide)) ya_nil)) (by decide)) (by decide) (by decide)) (yoa_cons (yo_of (yd_str (x := ("a,b" : Str))) (by decide) (by decide)) (yoa_cons (yo_of (yd_tup (ya_cons (yd_int (i := 0)) (ya_cons (yd_int (i := 1)) ya_nil)) (by decide)) (by decide) (by decide)) (yoa_cons (yo_of (yd_tup (ya_cons (yd_str (x := ("has" : Str))) (ya_cons (yd_str (x := ("a" : Str))) ya_nil)) (by decide)) (by decide) (by decide)) (yoa_cons (yo_of (yd_tup (ya_cons (yd_str (x := ("a" : Str))) (ya_cons (yd_str (x := ("b" : Str))) (ya_cons (yd_str (x := ("" : Str))) ya_nil))) (by decide)) (by decide) (by decide)) yoa_nil)))))))
  refine y_seqCat (a := a3) rfl (r3 _ (Same.refl _) _ fun vs3 H3 s3 l3 t3 => ⟨by rw [l3]; decide, fun a4 ha4 => ?_⟩)
  have n4 := same_new (o := .lst vs3) ha4
  refine ⟨a3, a4, vs1 ++ vs2, vs3, rfl, rfl, (s3.trans n4) _ _ upd_same, upd_same, by rw [List.length_append, l1, l2, l3]; decide, fun a5 ha5 => ?_⟩
  have n5 := same_new (o := .lst ((vs1 ++ vs2) ++ vs3)) ha5
  have sA : Same H1 (upd (upd H3 a4 (.lst vs3)) a5 (.lst ((vs1 ++ vs2) ++ vs3))) := ((((n1.trans (s2.trans n2)).trans n3).trans s3).trans n4).trans n5
  have sB : Same H2 (upd (upd H3 a4 (.lst vs3)) a5 (.lst ((vs1 ++ vs2) ++ vs3))) := (((n2.trans n3).trans s3).trans n4).trans n5
  have tA : TAll K (upd (upd H3 a4 (.lst vs3)) a5 (.lst ((vs1 ++ vs2) ++ vs3))) ((vs1 ++ vs2) ++ vs3) := ((t1.same sA).app (t2.same sB)).app (t3.same (n4.trans n5))
  have ht5 := ht.same (s1.trans sA)
  have hl : ((vs1 ++ vs2) ++ vs3).length = 34 := by rw [List.length_append, List.length_append, l1, l2, l3]
  have na5 : a5 ≠ t := fun z => by
    obtain ⟨xs, hx⟩ := (ht.same (s1.trans ((((n1.trans (s2.trans n2)).trans n3).trans s3).trans n4))).mem
    rw [z, hx] at ha5
    cases ha5
  have e5 : (upd (upd H3 a4 (.lst vs3)) a5 (.lst ((vs1 ++ vs2) ++ vs3))) a5 = some (.lst ((vs1 ++ vs2) ++ vs3)) := upd_same
  refine ⟨.ref a5, rfl, .ref t, rfl, .ref a5, rfl, .ref a5, _, rfl, .inl ⟨_, SqL.of e5, rfl⟩, t, c, _, rfl, ht5, by rw [hl]; decide, by rw [hl]; decide, fun i H6 hi0 hi1 m6 hc6 => ?_⟩
  obtain ⟨v, hv1, hv2⟩ := at_int hi0 hi1
  obtain ⟨o, ho1, ho2⟩ := tA v (List.mem_of_getElem? hv1)
  exact ⟨a5, _, i, v, rfl, rfl, SqL.of (m6 a5 _ na5 e5), hv2, q v o H6 ((Mut.same (s1.trans sA)).trans m6) hc6 (Thing.mut ht5 m6 ho2 ho1) ho2⟩
end
end K15

/-! In an except suite: isinstance of the caught error (with a dict or without), a comprehension over a range. -/
namespace K15
open PySem PySem.Spec PyProof.Rows L2 L2H PySem.Calls

section
variable {prog : Program} {w : World} {A : Around} {E : Value → Shared → Prop} {s : Shared} {K : Frag} {x D : Addr} {ox : Obj} {od : Option Obj}
theorem fo_any {C : Addr} {name : Str} {a g : Value} (hc : (PySem.W.clsIn K C).isSome = true) (ha : PySem.W.findIn K (.ref C) name = some (some a)) (hg : PySem.W.specialIn K a "__get__" = some (some g)) (ht : PySem.W.takesIn K a = some true) :
    PySem.W.findObj K C od name = some (.bind g a) := by
  obtain ⟨cd, e⟩ := Option.isSome_iff_exists.mp hc
  simp only [PySem.W.findObj, e, ha, hg, ht, Option.bind_some]
theorem clsE {Q : Option Value → Shared → Prop} (C : ExcC K D) (X : K.In s.heap) (I : PySem.W.InstAt s.heap x ox D od) (h : Q (some (.ref D)) { s with toks := s.toks + 1 }) : wpAny (model prog w) A (getAttr? (.ref x) "__class__") Q E s := by
  have hsome : (PySem.W.clsIn K D).isSome = true := by
    obtain ⟨cd, hc, _⟩ := PySem.W.any_some C.hd
    rw [hc]
    rfl
  have hf := fo_any (K := K) (od := od) (g := .builtin "getset_descriptor.__get__") hsome C.ha C.hn C.ht
  obtain ⟨hp, g, d, t, os⟩ := s
  have T0 := I.type (M := model prog w)
  have T1 := PySem.W.looks_findIn (M := model prog w) X C.hg
  have T2 := PySem.W.looks_findIn (M := model prog w) X C.hk
  have T3 := PySem.W.looks_find (M := model prog w) X I hf
  have sub : PySem.W.Looks (model prog w) hp (isInstance (.ref x) (.type "BaseException")) true := T0.andThen (PySem.W.looks_subIn X C.hs)
  have z0 : (false && onTheHeap (Value.builtin "BaseException.__getattribute__")) = false := rfl
  have z2 : (Value.builtin "BaseException.__getattribute__" == Value.builtin "object.__getattribute__") = false := by decide +kernel
  have z1 : (onTheHeap (Value.ref D) && Value.builtin "BaseException.__getattribute__" == Value.builtin "object.__getattribute__") = false := by
    rw [z2]
    rfl
  unfold getAttr? getAttrBy? getAttrBy
  refine wpAny_bind (wpAny_mkText (wpAny_bind (wpAny_attempt (wpAny_holding (wpAny_bind (T0.at (wpAny_bind (T1.at ?_))))))))
  show wpAny _ _ (if (onTheHeap (Value.ref D) && Value.builtin "BaseException.__getattribute__" == Value.builtin "object.__getattribute__") = true then _ else _) _ _ _
  rw [z1, if_neg Bool.false_ne_true]
  unfold getAttrByItsOwn hookBefore
  refine wpAny_bind ?_
  rw [if_pos (show onTheHeap (Value.ref D) = true from rfl)]
  refine T2.at (wpAny_bind (wpAny_attempt (wpAny_holding ?_)))
  unfold callGetattribute
  rw [z0, if_neg Bool.false_ne_true]
  unfold boundAndCalled
  rw [PySem.F.excAttr_ValueError.ga.bind (.ref x)]
  refine wpAny_bind (wpAny_pure ?_)
  show wpAny _ _ (call (.builtin "BaseException.__getattribute__") [.ref x, .str "__class__" t]) _ _ _
  refine wpAny_call (codeAny_call_builtin PySem.F.excAttr_ValueError.ga.plain PySem.F.entry_bexc_ga ?_)
  refine @PySem.W.check_slot (model prog w) _ _ ⟨hp, g, d, t + 1, os⟩ "BaseException.__getattribute__" "BaseException" "__getattribute__" (.ref x) [.str "__class__" t] [] _ (by decide +kernel) (by decide +kernel) sub (PySem.F.args_bexc_ga (.ref x) (.str "__class__" t)) ?_
  unfold Builtin.«object.__getattribute__»
  refine wpAny_bind (wpAny_of_eq (a := ((Value.ref x : Value), [Value.str "__class__" t])) (by first | rfl | (simp only [slotArgs]; rfl)) ?_)
  refine wpAny_bind (wpAny_pure (wpAny_bind (T0.at (wpAny_bind (T3.at ?_)))))
  show wpAny _ _ (holding [Value.builtin "object.__class__"] (call (.builtin "getset_descriptor.__get__") [.builtin "object.__class__", .ref x, .ref D]) >>= ret) _ _ _
  refine wpAny_bind (wpAny_holding (wpAny_call (PySem.W.class_get (s := ⟨hp, g, d, t + 1, os⟩) (ox := ox) (od := od) X I C.hm ?_)))
  refine wpAny_pure ?_
  show wpAny _ _ (handedOut (.ref D)) _ _ _
  rw [PySem.W.handedOut_of (v := .ref D) rfl]
  first
    | exact wpAny_pure (wpAny_pure h)
    | exact wpAny_pure h
    | exact wpAny_pure (wpAny_bind (wpAny_pure (wpAny_pure h)))
theorem kitE (C : ExcC K D) : PySem.W.KitX K (.ref x) (.ref D) (fun h => ∃ ox od, PySem.W.InstAt h x ox D od) where
  ty := fun _ _ _ ⟨_, _, I⟩ => I.type
  it := fun _ _ X _ => by
    obtain ⟨cd, hc, _⟩ := PySem.W.any_some C.hd
    unfold PySem.W.clsIn at hc
    split at hc
    · rename_i c' d' cd' sl' ho
      intro A' Q' E' s' k q
      unfold isType loadHead
      exact wpAny_bind (wpAny_loadPart (k _ _ (X _ _ ho)) (wpAny_pure q))
    · cases hc
  ne := fun h tp dd its n sl X htp => by
    obtain ⟨cd, hc, _⟩ := PySem.W.any_some C.hd
    refine Bool.eq_false_iff.mpr fun q => ?_
    have e : D = tp := Value.ref.inj (beq_iff_eq.mp q)
    subst e
    unfold PySem.W.clsIn at hc
    split at hc
    · rename_i c' d' cd' sl' ho
      cases (X _ _ ho).symm.trans htp
    · cases hc
  ca := fun X ⟨_, _, I⟩ k => clsE C X I k
end
/-- isinstance(e, c), e the caught error -/
def rIsX (K : Frag) (a : Addr) (cls : Value) (d : Option Addr) : List V → Hp → VK → Prop := fun xs H Q => ∃ (c : V) (cv : Value) (b : Bool) (D : Addr), xs = [.ref a, c] ∧ cls = .ref D ∧ ExcC K D ∧ (d = none ∨ ∃ dd fs, d = some dd ∧ H dd = some (.xd fs)) ∧ (∀ u, RelV c u → u = cv) ∧ PySem.W.kitOne K (.ref D) cv = some b ∧ Q (.bl b) H
theorem call_isX {X : Cx} {a : Addr} {cls : Value} {d : Option Addr} {oe : Obj} {pn : List (Addr × Obj)} (hz : Zc cls d oe) (hf : ∃ vs, oe.data = .fields vs) : CallR (X.suite a ((a, oe) :: pn)) (.builtin "isinstance") (rIsX X.K a cls d) := by
  intro pins s σ H xs us Q I r h
  obtain ⟨c, cv, b, D, rfl, rfl, C, hd, hcv, e, q⟩ := h
  obtain ⟨u1, u2, rfl, r1, r2⟩ := vals2 r
  obtain rfl : u1 = Value.ref a := r1
  have ec := hcv _ r2
  subst ec
  obtain ⟨hget, _⟩ := I.pin (a, oe) (List.mem_append_left _ List.mem_cons_self)
  obtain ⟨vs, hv⟩ := hf
  have J : ∃ ox od, PySem.W.InstAt s.heap a ox D od := by
    obtain ⟨oc, oD, oda, osl⟩ := oe
    obtain ⟨z1, z2⟩ := hz
    dsimp only at z1 z2 hv
    subst z1 z2 hv
    rcases hd with rfl | ⟨dd, fs, rfl, hx⟩
    · exact ⟨_, none, ⟨hget, rfl, rfl, trivial⟩⟩
    · obtain ⟨mA, hns, _⟩ := (show ObjOk X.prog X.w H s.heap dd (.xd fs) from I.hok dd _ hx)
      obtain ⟨o1, _, _, ho, _⟩ := hns
      exact ⟨_, some o1, ⟨hget, rfl, rfl, ho⟩⟩
  exact PySem.W.kia_one (kitE C) I.kIn J e (fun z => nomatch z) fun tk => ⟨.bl b, H, I.kept (t' := tk) (fun _ _ z => z), rfl, q⟩

/-! ### a comprehension over a range in such a suite -/
/-- its block: the caught error stays known -/
abbrev blkH (X : Cx) (s : Shared) (H : Hp) (scope : Scope) (cenv : Env) (fp : List Addr) : Cx := { X.blk s H scope cenv fp with pn := X.pn }
section
variable {X : Cx}
theorem pe_lcH {elt tg iter : Expr} {ifs : List Expr} {scope : Scope} {own : List (Str × Nat)} {pos : Pos} {wi : TI} {g : TG} {tt : TT} {te : TE} (hc : HotC X) (hcm : X.calm = false) (hN : X.N.Nodup) (hi : PIH X tg iter wi) (ok : BlkOk X.N X.env.scope scope own)
    (hg : ∀ (s : Shared) (H : Hp) (C : Addr) (cl : List (Str × Addr)) (fp : List Addr), PG (blkH X s H scope (compEnvC scope cl C X.env) fp) tg g) (ht : ∀ (s : Shared) (H : Hp) (C : Addr) (cl : List (Str × Addr)) (fp : List Addr), PTs (blkH X s H scope (compEnvC scope cl C X.env) fp) ifs tt)
    (he : ∀ (s : Shared) (H : Hp) (C : Addr) (cl : List (Str × Addr)) (fp : List Addr), PE (blkH X s H scope (compEnvC scope cl C X.env) fp) elt te) (hs : ∀ x, foldedSetIterable iter X.env x = pure x := by intro _; rfl) :
    PE X (.ListComp elt [⟨tg, iter, ifs, 0⟩] scope pos) (tLc wi g tt te (own.map (·.2))) := by
  refine ⟨fun pins s σ H Q I h => ?_⟩
  rw [eval_ListComp]
  have hfree : ∀ y ∈ scope.names, y.2 = .free → ∃ c, X.env.cells.lookup y.1 = some c := fun y hy e => by
    rcases ok.free y hy e with z | z
    · exact I.ok.has _ (.inl z)
    · exact I.ok.has _ (.inr z)
  refine wpAny_comprehension_free (use := none) rfl hs (closure_ok hfree) ok.kind (fun y hy e => by rw [ok.uniq y hy, e]) (thn (hi.run pins s σ H _ I h) fun xv s1 hx => thn hx fun itv s2 h2 => ?_)
  obtain ⟨it, fp, tn, J, H2, e, I2, T, st2, f2, q⟩ := h2
  subst e
  refine wpAny_newObj_type (newEnv_comp ?_) (by show 0 ≤ sizeLine; exact Nat.zero_le _)
  generalize hD : s2.heap.objs.size = D
  have hDn : H2 D = none := I2.hok.fresh (Nat.le_of_eq hD)
  obtain ⟨W, ⟨m0, w0⟩, turn⟩ := q D hDn
  generalize hs3 : ({ s2 with heap := s2.heap.push { cls := .type "list", data := .seq ([] : List Value).toArray } } : Shared) = s3
  have I3 : Inv X pins σ (upd H2 D (.lst [])) s3 := by
    rw [← hs3]
    refine I2.laid (t' := s2.toks) (fun b o z => Heap.get?_push_of_some _ z) (Nat.le_of_eq hD) ⟨Nat.zero_le _, [], 0, .nil, ?_⟩
    rw [← hD]
    exact Heap.get?_push_size _ rfl
  have h3 : s3.heap = s2.heap.push { cls := .type "list", data := .seq ([] : List Value).toArray } := by rw [← hs3]
  have sz : ∀ b ∈ fp, b < s2.heap.objs.size := fun b hb => by
    obtain ⟨o, z, _⟩ := T.obj _ _ st2 b hb
    exact Heap.lt_size z
  have f3 : ∀ b ∈ fp, FpOk X pins (upd H2 D (.lst [])) b ∧ b < s3.heap.objs.size := fun b hb => by
    have hlt := sz b hb
    refine ⟨⟨?_, (f2 b hb).2⟩, by rw [h3, Heap.size_push]; exact Nat.lt_succ_of_lt hlt⟩
    rw [upd_ne (by rw [← hD]; exact Nat.ne_of_lt hlt)]
    exact (f2 b hb).1
  have st3 : tn 0 s3.heap := T.keep _ _ _ st2 fun b _ o z => by
    rw [h3]
    exact Heap.get?_push_of_some _ z
  have I4' := block_start I3 ok hN f3
  have pinF : ∀ p ∈ X.pn, s3.heap.get? p.1 = some p.2 ∧ (upd H2 D (.lst [])) p.1 = none ∧ p.1 ∉ frs X.stack ∧ ∀ v, p.2.data ≠ .cell v := fun p hp => by
    obtain ⟨g1, g2, g3, g4, g5⟩ := I3.pin p (List.mem_append_left _ hp)
    refine ⟨g1, g2, fun z => ?_, g5⟩
    rcases List.mem_cons.mp (I3.stkSub p.1 z) with z | z
    · exact g3 z
    · exact g4 z
  have pg := hg s3 (upd H2 D (.lst [])) s3.heap.objs.size (cellsFrom (s3.heap.objs.size + 1) scope.names (cloFrom X.env.cells scope.names [])) fp
  have pt := ht s3 (upd H2 D (.lst [])) s3.heap.objs.size (cellsFrom (s3.heap.objs.size + 1) scope.names (cloFrom X.env.cells scope.names [])) fp
  have pe := he s3 (upd H2 D (.lst [])) s3.heap.objs.size (cellsFrom (s3.heap.objs.size + 1) scope.names (cloFrom X.env.cells scope.names [])) fp
  show codeAny _ _ (.compStart (.ListComp elt [⟨tg, iter, ifs, 0⟩] scope pos) 0 (.ref it) (.ref D) (compEnvC scope (cellsFrom (s3.heap.objs.size + 1) scope.names (cloFrom X.env.cells scope.names [])) s3.heap.objs.size X.env)) _ { s3 with heap := pushCells (s3.heap.push { cls := .type "dict", data := .dict #[] }) scope.names }
  have nfp : ∀ b ∈ fp, (upd H2 D (.lst [])) b = none := fun b hb => (f3 b hb).1.1
  generalize hce : compEnvC scope (cellsFrom (s3.heap.objs.size + 1) scope.names (cloFrom X.env.cells scope.names [])) s3.heap.objs.size X.env = ce at I4' pg pt pe ⊢
  have cL : ce.locals = s3.heap.objs.size := by
    subst hce
    rfl
  have I4 : Inv (blkH X s3 (upd H2 D (.lst [])) scope ce fp) [] (wipe σ (own.map (·.2))) (upd H2 D (.lst [])) { s3 with heap := pushCells (s3.heap.push { cls := .type "dict", data := .dict #[] }) scope.names } := by
    obtain ⟨k1, k2, k3, k4, k5, k6, k7, k8, k9, k10, k11⟩ := I4'
    obtain ⟨j1, j2, j3, j4, j5, j6, j7, j8, j9, j10, j11, j12, j13, j14, j15, j16, j17, j18⟩ := k1
    refine ⟨⟨j1, j2, j3, j4, j5, j6, j7, j8, j9, j10, j11, j12, j13, j14, j15, j16, j17, j18⟩, k2, k3, k4, k5, k6, k7, k8, fun p hp => ?_, k10, k11⟩
    have hp' : p ∈ X.pn := by
      rcases List.mem_append.mp hp with z | z
      · exact z
      · cases z
    obtain ⟨g1, g2, g3, g4⟩ := pinF p hp'
    refine ⟨pushCells_keeps _ _ _ _ (Heap.get?_push_of_some _ g1), g2, ?_, g3, g4⟩
    show p.1 ≠ ce.locals
    rw [cL]
    exact Nat.ne_of_lt (Heap.lt_size g1)
  generalize hH3 : upd H2 D (.lst []) = H3 at I3 I4 pg pt pe w0 nfp f3
  generalize hs4 : ({ s3 with heap := pushCells (s3.heap.push { cls := .type "dict", data := .dict #[] }) scope.names } : Shared) = s4 at I4 ⊢
  have st4 : tn 0 s4.heap := T.keep _ _ _ st3 fun b _ o z => by
    rw [← hs4]
    exact pushCells_keeps _ _ _ _ (Heap.get?_push_of_some _ z)
  have hcB : HotC (blkH X s3 H3 scope ce fp) := by
    obtain ⟨p, z1, z2⟩ := hc
    exact ⟨p, z1, z2⟩
  have stat : ∀ {σ' : St} {H' : Hp} {s' : Shared}, Inv (blkH X s3 H3 scope ce fp) [] σ' H' s' → (∀ b ∈ fp, H' b = none) → ∀ b ∈ fp, FpOk (blkH X s3 H3 scope ce fp) [] H' b := fun {σ' H' s'} I' hn b hb =>
    ⟨hn b hb, (I'.ok.exf b hb).1, I'.ok.exfs b hb, .inl hb, fun x c z => (I'.ok.exf b hb).2 x c z, fun p hp => (f3 b hb).1.2.2.2.2.2 p (by
      rcases List.mem_append.mp hp with z | z
      · exact List.mem_append_left _ z
      · cases z)⟩
  have loop : codeAny (model X.prog X.w) X.A (.compLoop (.ListComp elt [⟨tg, iter, ifs, 0⟩] scope pos) 0 (.ref it) (.ref D) ce) (compPost (model X.prog X.w) X.A X.xe none (EP X pins σ Q) (.ref D) s3.heap.objs.size) s4 := by
    refine compLoop_any (fun n s' => ∃ i H', Inv (blkH X s3 H3 scope ce fp) [] (wipe σ (own.map (·.2))) H' s' ∧ tn i s'.heap ∧ (∀ b ∈ fp, H' b = none) ∧ W i n H') ?_ m0 ⟨0, H3, I4, st4, nfp, w0⟩
    rintro n s5 ⟨i, H5, I5, st5, n5, w5⟩
    rcases turn i n H5 w5 with ⟨stop, qq⟩ | ⟨go, Nx, hNx, step⟩
    · refine thnF (T.done (blkH X s3 H3 scope ce fp) rfl rfl rfl hcB i [] s5 _ H5 (fun _ _ => False) I5 (stat I5 n5) st5 stop) fun r s6 ⟨hr, I6⟩ => ?_
      subst hr
      have I7 : Inv X pins σ H5 s6 := I3.call' (ch := fp) I6.os I6.base I6.hok I6.bare fun b hb => ⟨(f3 b hb).1.2.2.2.1, (f3 b hb).1.2.1, (f3 b hb).1.2.2.2.2.1, (f3 b hb).1.2.2.2.2.2⟩
      have nC : H5 s3.heap.objs.size = none := by
        have z : H5 ce.locals = none := I6.free
        rwa [cL] at z
      obtain ⟨m, hn, _⟩ := I6.loc
      have hn : s6.heap.Ns ce.locals m := hn
      rw [cL] at hn
      refine ⟨m, hn, fun h'' sb => ?_⟩
      obtain ⟨y0, y1, y2, y3, y4, y5⟩ := I3.fpOk (Nat.le_refl _) nC
      exact ⟨.ref D, H5, I7.turned (t' := s6.toks) (fun b o hb z => (sb.2 b hb).trans z) y0 y1 y3 y4 y5, rfl, qq⟩
    · refine thnF (T.item (blkH X s3 H3 scope ce fp) rfl rfl rfl hcB i [] s5 _ H5 (fun _ _ => False) I5 (stat I5 n5) st5 go) fun r s6 ⟨u, hr, h6⟩ => ?_
      subst hr
      refine thnF h6 fun _ s7 ⟨x, H7, I7, r7, y7, st7, n7⟩ => ?_
      have I7' := I7.pinned (stat I7 n7) (T.obj _ _ st7)
      refine thnF (pg.run _ s7 _ H7 x u _ I7' r7 (step x H7 y7)) fun _ s8 ⟨σ8, H8, I8, hw8, q8⟩ => thnF (pt.run _ s8 σ8 H8 _ I8 q8) fun b s9 ⟨H9, I9, q9⟩ => ?_
      have fin : ∀ {s' : Shared} {H' : Hp}, Inv (blkH X s3 H3 scope ce fp) ([] ++ pinsAt fp s7.heap) σ8 H' s' → Nx H' → ∃ m, m < n ∧ ∃ i H', Inv (blkH X s3 H3 scope ce fp) [] (wipe σ (own.map (·.2))) H' s' ∧ tn i s'.heap ∧ (∀ b ∈ fp, H' b = none) ∧ W i m H' := fun {s' H'} I' nx => by
        obtain ⟨m', hm, w'⟩ := hNx H' nx
        have pin' : ∀ b ∈ fp, ∀ o, s7.heap.get? b = some o → s'.heap.get? b = some o ∧ H' b = none := fun b hb o z =>
          let y := I'.pin (b, o) (List.mem_append_right _ (List.mem_append_right _ (mem_pinsAt hb z)))
          ⟨y.1, y.2.1⟩
        have hl : (wipe σ (own.map (·.2))).length = σ8.length := by rw [← hw8, wipe_length]
        refine ⟨m', hm, i + 1, H', (I'.unpinned (pins := [])).weak hl (fun j v z => ?_), T.keep _ _ _ st7 fun b hb o z => (pin' b hb o z).1, fun b hb => ?_, w'⟩
        · rw [← hw8] at z
          exact (wipe_some z).1
        · obtain ⟨o, z, _⟩ := T.obj _ _ st7 b hb
          exact (pin' b hb o z).2
      cases b with
      | false =>
        simp only [Bool.false_eq_true, if_false] at q9 ⊢
        exact fin I9 q9
      | true =>
        simp only [if_true] at q9 ⊢
        refine thnF (pe.run _ s9 σ8 H9 _ I9 q9) fun z s10 ⟨yv, H10, I10, r10, acc, hD10, hz10, nx⟩ => ?_
        exact app_ok (X := blkH X s3 H3 scope ce fp) I10 hD10 hz10 r10 fun s11 I11 => fin I11 nx
  exact codeAny_compStart_list loop (T.self X.A 0 _ _ _ st4 loop)
end
end K15

/-! _law_tried. -/
namespace K15
open PySem PySem.Spec PyProof.Rows L2 L2H
/-- what the classes of the errors say -/
structure ErrF (K : Frag) (mg : Mg) (cs : Cls3) (cS cL : Addr) : Prop where
  gS : mg "SeatError" = some (.ref cS)
  gL : mg "NoLot" = some (.ref cL)
  gN : mg "NoLots" = some (.ref cs.cN)
  gO : mg "OtherMarks" = some (.ref cs.cO)
  gT : mg "TooMany" = some (.ref cs.cT)
  xN : ExcC K cs.cN
  xO : ExcC K cs.cO
  xT : ExcC K cs.cT
  mN : PySem.W.exmOne K (.ref cs.cN) (.ref cS) = some true
  mO : PySem.W.exmOne K (.ref cs.cO) (.ref cS) = some true
  mT : PySem.W.exmOne K (.ref cs.cT) (.ref cS) = some true
  mTT : PySem.W.exmOne K (.ref cs.cT) (.ref cs.cT) = some true
  kON : PySem.W.kitOne K (.ref cs.cO) (.ref cs.cN) = some false
  kOT : PySem.W.kitOne K (.ref cs.cO) (.ref cs.cT) = some false
  kNO : PySem.W.kitOne K (.ref cs.cN) (.ref cs.cO) = some false
  kNL : PySem.W.kitOne K (.ref cs.cN) (.ref cL) = some false
  kNT : PySem.W.kitOne K (.ref cs.cN) (.ref cs.cT) = some false
  kTO : PySem.W.kitOne K (.ref cs.cT) (.ref cs.cO) = some false
  kTN : PySem.W.kitOne K (.ref cs.cT) (.ref cs.cN) = some false
  fT : XfC K cs.cT
  no : PySem.W.findIn K (.ref cs.cT) "most" = some none
theorem kit_self {K : Frag} {v : Value} : PySem.W.kitOne K v v = some true := by
  unfold PySem.W.kitOne
  rw [if_pos (beq_iff_eq.mpr rfl)]
def toldOf : Out → Str
  | .bad .marks => "marks"
  | .bad .lots => "lots"
  | .bad (.many n) => if n = 40 then "many" else ""
  | .told _ => "told"
def OutIs (m m' : Str) (L M : Lots) (o : Option PyData) (out : Out) : Prop :=
  (m ≠ m' → out = .bad .marks) ∧ (m = m' → oLots m o = false → out = .bad .lots) ∧ (∀ T, m = m' → o = some (encLots T) → oLots m o = true → out = scan L M (kindsOf m) (rowsTo T 3))
section
variable {P : Program} {w : World} {K : Frag} {mg : Mg} {base : Heap} {C fI fT : Addr} {cs : Cls3} {cS cL : Addr} {σ : St} {H : Hp}
theorem takesN {X : Cx} : L2N.Takes X (fun _ _ _ _ => False) := fun _ _ x => by
  obtain ⟨_, _, _, _, _, _, _, _, _, _, _, _, _, _, _, _, z⟩ := x
  exact z.elim
theorem hot_suite {X : Cx} {a : Addr} {oe : Obj} {cls : Value} {d : Option Addr} {pn : List (Addr × Obj)} (hz : L2N.Zn cls d oe) (hf : ∃ vs, oe.data = .fields vs) : HotC (X.suite a ((a, oe) :: pn)) := by
  obtain ⟨vs, hv⟩ := hf
  exact ⟨(a, oe), ⟨rfl, vs, hv, hz.2.2 vs hv⟩, List.mem_cons_self⟩
theorem yd_isX {a D c : Addr} {cls : Value} {d : Option Addr} {b : Bool} {i : Nat} {r : List V → Hp → VK → Prop} (hr : r = rIsX K a cls d) (hi : σ[i]? = some (some (.ref a))) (hc : cls = .ref D) (x : ExcC K D) (hd : d = none ∨ ∃ dd fs, d = some dd ∧ H dd = some (.xd fs)) (hk : PySem.W.kitOne K (.ref D) (.ref c) = some b) :
    Yd K (tCB r (tCons (tVar i) (tCons (tC (.ref c)) tNil))) σ H (.bool b) := by
  subst hr
  refine fun H1 s Q q => ⟨.ref a, hi, .ref c, .ref c, b, D, rfl, hc, x, ?_, fun u hu => hu, hk, q _ H1 (Same.refl _) (.bl b)⟩
  rcases hd with e | ⟨dd, fs, e, h⟩
  · exact .inl e
  · exact .inr ⟨dd, fs, e, s _ _ h⟩
theorem yd_xf {a D dd : Addr} {n : Int} {cls : Value} {d : Option Addr} {i : Nat} (hi : σ[i]? = some (some (.ref a))) (hc : cls = .ref D) (hd : d = some dd) (hx : H dd = some (.xd [("most", .int n)])) : Yd K (tXf a cls d D "most" (tVar i)) σ H (.int n) :=
  fun H1 s Q q => ⟨.ref a, hi, rfl, hc, dd, _, .int n, hd, s _ _ hx, rfl, q _ H1 (Same.refl _) (.int n)⟩
def flag (f0 f1 f2 : Bool) : PyData → Bool
  | .int i => [f0, f1, f2].getD i.toNat false
  | _ => false
def word : PyData → Str
  | .int i => [("marks" : Str), ("lots" : Str), ("many" : Str)].getD i.toNat ""
  | _ => ""
def wordD (d : PyData) : PyData := .str (word d)
def joinF (f0 f1 f2 : Bool) : Str := Txt.join " " ((((List.range 3).map fun i => PyData.int ((i : Nat) : Int)).filter (flag f0 f1 f2)).map word)
theorem yd_join {te : TE} {x : Str} {l : List Str} {r : V → List V → Hp → VK → Prop} (hr : r = fun x xs H Q => ∃ a p, ∃ ys : List Str, x = .str a ∧ xs = [.ref p] ∧ (SqL K H p (ys.map V.str) ∨ SqT K H p (ys.map V.str)) ∧ (ys.map (·.length)).sum + ys.length * a.length ≤ 16777216 ∧ Q (.str (Txt.join a ys)) H)
    (h : YdL K te σ H (l.map .str)) (hl : (l.map (·.length)).sum + l.length * x.length ≤ 16777216) : Yd K (tM1 r (tC (.str x)) te) σ H (.str (Txt.join x l)) := fun H1 s Q q => by
  subst hr
  refine ⟨⟨x, rfl⟩, h H1 s _ fun a vs H2 s2 e hv => ?_⟩
  have ev := dps_strs hv
  subst ev
  exact ⟨x, a, l, rfl, rfl, .inl (SqL.of e), hl, q _ H2 s2 (.str _)⟩
abbrev rJoin (K : Frag) : V → List V → Hp → VK → Prop := fun x xs H Q => ∃ a p, ∃ ys : List Str, x = .str a ∧ xs = [.ref p] ∧ (SqL K H p (ys.map V.str) ∨ SqT K H p (ys.map V.str)) ∧ (ys.map (·.length)).sum + ys.length * a.length ≤ 16777216 ∧ Q (.str (Txt.join a ys)) H
abbrev tIsX (K : Frag) (a : Addr) (cls : Value) (d : Option Addr) (c : Addr) : TE := tCB (rIsX K a cls d) (tCons (tVar 4) (tCons (tC (.ref c)) tNil))
/-- the suite -/
abbrev tsTried (K : Frag) (cs : Cls3) (cL : Addr) (a : Addr) (cls : Value) (d : Option Addr) : TS :=
  tSeq (tAsg (tLst (tCons (tIsX K a cls d cs.cO) (tCons (tAndV (tIsX K a cls d cs.cN) (tNotV (tIsX K a cls d cL))) tNil))) (gName 5))
    (tSeq (tDrop (tBM K "list" rAppend (tVar 5) (tCons (tAndV (tIsX K a cls d cs.cT) (tOp rEq (tXf a cls d cs.cT "most" (tVar 4)) (tC (.int 40)))) tNil)))
      (tAsg (tM1 (rJoin K) (tC (.str " ")) (tLc (iRng1 (tCons (tC (.int 3)) tNil)) (gName 6) (tB (tOp (rIx K) (tVar 5) (tVar 6))) (tOp (rIx K) (tLst (tCons (tC (.str "marks")) (tCons (tC (.str "lots")) (tCons (tC (.str "many")) tNil)))) (tVar 6)) [6])) (gName 3)))
def spTried (K : Frag) (C : Addr) : Sp := fun vs H Q _ => ∃ p q m m' L M vt o out, vs = [.ref p, .ref q, vt] ∧ SeatAt K H C p m L ∧ SeatAt K H C q m' M ∧ Thing K H vt o ∧ marksB m = true ∧ Few L ∧ Few M ∧ L.length ≤ 40 ∧ M.length ≤ 40 ∧ L.all (lotB m) = true ∧
  OutIs m m' L M o out ∧ ∀ H', Same H H' → Q (.str (toldOf out)) H'
theorem bad_info (F : ErrF K mg cs cS cL) {b : Bad} {cls : Value} {d : Option Addr} {H : Hp} (h : XP cs b cls d H) : ∃ D f0 bN bL bT f2, cls = .ref D ∧ ExcC K D ∧ (d = none ∨ ∃ dd fs, d = some dd ∧ H dd = some (.xd fs)) ∧ PySem.W.exmOne K (.ref D) (.ref cS) = some true ∧
    PySem.W.kitOne K (.ref D) (.ref cs.cO) = some f0 ∧ PySem.W.kitOne K (.ref D) (.ref cs.cN) = some bN ∧ (bN = true → PySem.W.kitOne K (.ref D) (.ref cL) = some bL) ∧ PySem.W.kitOne K (.ref D) (.ref cs.cT) = some bT ∧
    (bT = true → D = cs.cT ∧ ∃ dd n, d = some dd ∧ H dd = some (.xd [("most", .int n)]) ∧ f2 = decide (n = 40)) ∧ toldOf (.bad b) = joinF f0 (bN && !bL) (bT && f2) := by
  cases b with
  | marks =>
    obtain ⟨rfl, rfl⟩ := h
    exact ⟨cs.cO, true, false, false, false, false, rfl, F.xO, .inl rfl, F.mO, kit_self, F.kON, (fun z => nomatch z), F.kOT, (fun z => nomatch z), by decide +kernel⟩
  | lots =>
    obtain ⟨rfl, rfl⟩ := h
    exact ⟨cs.cN, false, true, false, false, false, rfl, F.xN, .inl rfl, F.mN, F.kNO, kit_self, fun _ => F.kNL, F.kNT, (fun z => nomatch z), by decide +kernel⟩
  | many n =>
    obtain ⟨rfl, dx, rfl, hx⟩ := h
    refine ⟨cs.cT, false, false, false, true, decide (n = 40), rfl, F.xT, .inr ⟨dx, _, rfl, hx⟩, F.mT, F.kTO, F.kTN, fun z => (nomatch z), kit_self, fun _ => ⟨rfl, dx, n, rfl, hx, rfl⟩, ?_⟩
    show (if n = 40 then ("many" : Str) else "") = _
    by_cases e : n = 40
    · rw [if_pos e, decide_eq_true e]
      decide +kernel
    · rw [if_neg e, decide_eq_false e]
      decide +kernel
theorem sc_law_tried : FnScope ["_law_one", "_law_other", "_law_lots_here", "_law_found", "e", "_law_flags", "_law_k"] ["_law_one", "_law_other", "_law_lots_here"] (defScope s_law_tried) := ⟨rfl, rfl, rfl, by decide +kernel, rfl, by decide +kernel, by decide +kernel⟩
theorem ok_law_tried (D : DefAt K mg "_law_tried" s_law_tried ["_law_one", "_law_other", "_law_lots_here"]) (B : Blt mg) (F : ErrF K mg cs cS cL) (A7 : Has P w K mg base (L2N.CX P w) 7 "more_seats" ["one", "other", "lots"] (spMS K C cs)) :
    Has P w K mg base CX0 8 "_law_tried" ["_law_one", "_law_other", "_law_lots_here"] (spTried K C) := by
  obtain ⟨f, fd, F0, g, b⟩ := D
  obtain ⟨f7, fd7, G7, g7, k7, b7⟩ := A7
  refine ⟨f, fd, F0.ok sc_law_tried (fun vs H Q E h => by obtain ⟨p, q, m, m', L, M, vt, o, out, rfl, _⟩ := h; rfl) (fun cdv A outer s H vs Q E hr h => ?_), g, F0.kp, b⟩
  obtain ⟨p, q, m, m', L, M, vt, o, out, rfl, h1, h2, ht, hm, hF, hG, hl1, hl2, hL, hout, kq⟩ := h
  refine ⟨_, pss_cons (ps_set (i := 3) sc_law_tried.nd rfl (.inl rfl) pe_str)
    (pss_cons (L2N.ps_try_as (i := 4) (ts := tsTried K cs cL) rfl rfl sc_law_tried.nd rfl rfl ⟨rfl, by decide, .inl F.gS⟩ takesN
      (fun W pn xe tk _ => pss_one (ps_expr (pe_callS G7 hr (by rfl) g7 k7 b7 (fun σ => L2N.passAt tk σ) (pa_cons (pv 0) (pa_cons (pv 1) (pa_cons (pv 2) pa_nil))))))
      (fun a oe cls d pn hz hf =>
        pss_cons (ps_set (i := 5) sc_law_tried.nd rfl (.inr rfl) (pe_lst (pa_cons (pe_callB (call_isX hz.zc hf) (by rfl) B.isinstance PyProof.Rows.boot_isinstance (pa_cons (pv 4) (pa_cons (pe_glob (v := .ref cs.cO) (by rfl) F.gO rfl) pa_nil)))
          (pa_cons (pe_and (pe_callB (call_isX hz.zc hf) (by rfl) B.isinstance PyProof.Rows.boot_isinstance (pa_cons (pv 4) (pa_cons (pe_glob (v := .ref cs.cN) (by rfl) F.gN rfl) pa_nil)))
            (pe_one (pe_not (pe_callB (call_isX hz.zc hf) (by rfl) B.isinstance PyProof.Rows.boot_isinstance (pa_cons (pv 4) (pa_cons (pe_glob (v := .ref cL) (by rfl) F.gL rfl) pa_nil)))))) pa_nil))))
        (pss_cons (ps_expr (pe_bm PySem.F.plainAttrs_list PySem.F.slot_list_append PySem.F.type_list_append mt_append (pv 5) (pa_cons
          (pe_and (pe_callB (call_isX hz.zc hf) (by rfl) B.isinstance PyProof.Rows.boot_isinstance (pa_cons (pv 4) (pa_cons (pe_glob (v := .ref cs.cT) (by rfl) F.gT rfl) pa_nil))) (pe_one (pe_cmpR op_eq (pe_xf F.fT F.no hz.zc hf (pv 4)) pe_int (nomark _)))) pa_nil)))
        (pss_one (ps_set (i := 3) sc_law_tried.nd rfl (.inl rfl) (pe_join pe_str (pe_lcH (own := [("_law_k", 6)]) (g := gName 6) (hot_suite hz hf) rfl sc_law_tried.nd (pi_range1H (by rfl) B.range (pa_cons pe_int pa_nil))
          (blkOk_by (N := ["_law_one", "_law_other", "_law_lots_here", "_law_found", "e", "_law_flags", "_law_k"]) (sc := defScope s_law_tried) (by decide +kernel)) (fun _ _ _ _ _ => pg_name (i := 6) sc_law_tried.nd rfl (Or.inl rfl))
          (fun _ _ _ _ _ => pts_one (pt_val (pe_ix (r := rIx K) ix_seq (pv 5) (pv 6) (fun _ _ => rfl))))
          (fun _ _ _ _ _ => pe_ix (r := rIx K) ix_seq (pe_lst (pa_cons pe_str (pa_cons pe_str (pa_cons pe_str pa_nil)))) (pv 6) (fun _ _ => rfl)))))))))
    (pss_one (ps_ret (pv 3)))), ?_⟩
  refine y_seqC ?_
  refine y_seq (y_dropS ⟨.ref p, rfl, .ref q, rfl, vt, rfl, p, q, m, m', L, M, vt, o, rfl, h1, h2, ht, hm, hF, hG, hl1, hl2, hL, ?_⟩)
  have key : EndsO K cs H (fun _ H2 => tRet (tVar 3) { nx := fun _ H' => Q .non H', rt := Q } [some (.ref p), some (.ref q), some vt, some (.str "told"), none, none, none] H2) (fun cls d H' => wAs K (.ref cS) 4 (tsTried K cs cL) (fun _ _ _ _ => False) { nx := tRet (tVar 3) { nx := fun _ H' => Q .non H', rt := Q }, rt := Q } cls d [some (.ref p), some (.ref q), some vt, some (.str "told"), none, none, none] H') out := by
    cases out with
    | told r =>
      cases r with
      | none =>
        intro H1 s1
        refine y_ret (K := K) (yd_var rfl (.str _)) fun v H2 s2 hv => ?_
        rw [dp_str hv]
        exact kq H2 (s1.trans s2)
      | some r =>
        intro v0 H1 s1 _
        refine y_ret (K := K) (yd_var rfl (.str _)) fun v H2 s2 hv => ?_
        rw [dp_str hv]
        exact kq H2 (s1.trans s2)
    | bad b =>
      intro cls d H1 s1 hx
      obtain ⟨Dc, f0, bN, bL, bT, f2, ec, xc, hd, hm1, k0, kN, kL, kT, kf, et⟩ := bad_info F hx
      refine ⟨true, by rw [ec]; exact hm1, fun _ a ha => ?_, fun z => nomatch z⟩
      have z5 : YdA K (tCons (tIsX K a cls d cs.cO) (tCons (tAndV (tIsX K a cls d cs.cN) (tNotV (tIsX K a cls d cL))) tNil)) [some (.ref p), some (.ref q), some vt, some (.str "told"), some (.ref a), none, none] H1 [.bool f0, .bool (bN && !bL)] :=
        ya_cons (yd_isX rfl rfl ec xc hd k0) (ya_cons (yd_and (yd_isX rfl rfl ec xc hd kN) (fun e => yd_not (yd_isX rfl rfl ec xc hd (kL e)))) ya_nil)
      refine y_seqLst (z5 H1 (Same.refl _) _ fun vs5 H1' s1' d5' => ⟨by rw [dps_len d5']; exact (show 2 ≤ sizeLine by decide), fun a5 ha5 => ?_⟩)
      have s2 : Same H1 (upd H1' a5 (.lst vs5)) := s1'.trans (same_new ha5)
      have n5 : H1 a5 = none := none_of_same s1' ha5
      have e5 : (upd H1' a5 (.lst vs5)) a5 = some (.lst vs5) := upd_same
      have d5 := dps_same (same_new (o := .lst vs5) ha5) _ _ d5'
      generalize upd H1' a5 (.lst vs5) = H2 at s2 e5 d5
      have hd2 : d = none ∨ ∃ dd fs, d = some dd ∧ H2 dd = some (.xd fs) := by
        rcases hd with e | ⟨dd, fs, e, h⟩
        · exact .inl e
        · exact .inr ⟨dd, fs, e, s2 _ _ h⟩
      have l5 : vs5.length = 2 := dps_len d5
      have fl : Yd K (tAndV (tIsX K a cls d cs.cT) (tOp rEq (tXf a cls d cs.cT "most" (tVar 4)) (tC (.int 40)))) [some (.ref p), some (.ref q), some vt, some (.str "told"), some (.ref a), some (.ref a5), none] H2 (.bool (bT && f2)) := by
        refine yd_and (yd_isX rfl rfl ec xc hd2 kT) fun e => ?_
        obtain ⟨rfl, dd, n, e1, e2, rfl⟩ := kf e
        exact yd_eqI (yd_xf rfl ec e1 (s2 _ _ e2)) yd_int
      refine y_seq ⟨.ref a5, rfl, .inl ⟨rfl, _, SqL.of e5⟩, fl H2 (Same.refl _) _ fun v H3 s3 hv => ⟨a5, vs5, v, rfl, rfl, s3 _ _ e5, by rw [l5]; decide, ?_⟩⟩
      have e6 : (upd H3 a5 (.lst (vs5 ++ [v]))) a5 = some (.lst (vs5 ++ [v])) := upd_same
      have d6 : DpAll K (upd H3 a5 (.lst (vs5 ++ [v]))) (vs5 ++ [v]) [.bool f0, .bool (bN && !bL), .bool (bT && f2)] :=
        dps_ts (Ts.lst (K := K) (s3 _ _ e5)) _ _ rfl (dps_app (dps_same s3 _ _ d5) (.cons hv .nil))
      refine y_asg (K := K) (yd_join (l := (((List.range 3).map fun i => PyData.int ((i : Nat) : Int)).filter (flag f0 (bN && !bL) (bT && f2))).map word) rfl ((yl_lc (p := flag f0 (bN && !bL) (bT && f2)) (f := wordD) (ydi_rng1 (ya_cons yd_int ya_nil) (show (3 : Int) ≤ 1000000 by decide) (show (0 : Int) ≤ 3 by decide)) (show 3 ≤ 1000 by decide) (fun d _ _ => rfl) (fun H5 v d s5 hd hv => ?_)).is ?_) ?_) fun v H5 s5 hv => ?_
      · obtain ⟨i, hi, rfl⟩ := List.mem_map.mp hd
        have hi3 := List.mem_range.mp hi
        have hi3 : i < 3 := hi3
        refine ⟨yt_B (yd_ix (rfl) rfl (yd_var rfl (Dp.lst (SqL.of (s5 _ _ e6)) (dps_same s5 _ _ d6))) (yd_var rfl hv) ?_), fun _ => yd_ix (rfl) (by decide +kernel) (yd_lst (ya_cons yd_str (ya_cons yd_str (ya_cons yd_str ya_nil))) (show 3 ≤ 1000 by decide)) (yd_var rfl hv) ?_⟩
        · have : i = 0 ∨ i = 1 ∨ i = 2 := by omega
          rcases this with rfl | rfl | rfl <;> rfl
        · have : i = 0 ∨ i = 1 ∨ i = 2 := by omega
          rcases this with rfl | rfl | rfl <;> rfl
      · rw [List.map_map]
        rfl
      · generalize (bN && !bL) = g1
        generalize (bT && f2) = g2
        cases f0 <;> cases g1 <;> cases g2 <;> decide +kernel
      · refine y_ret (K := K) (yd_var rfl hv) fun v' H6 s6 hv' => ?_
        rw [dp_str hv']
        show Q (.str (joinF f0 (bN && !bL) (bT && f2))) H6
        rw [← et]
        exact kq H6 ((s1.trans (same_mut (s2.trans s3) n5)).trans (s5.trans s6))
  obtain ⟨o1, o2, o3⟩ := hout
  refine ⟨fun hne => ?_, fun he h0 => ?_, fun T he e1 e2 => ?_⟩
  · rw [← o1 hne]
    exact key
  · rw [← o2 he h0]
    exact key
  · rw [← o3 T he e1 e2]
    exact key
end
end K15

/-! Slices and such by data; _law_many_pairs. -/
namespace K15
open PySem PySem.Spec PyProof.Rows L2 L2H
section
variable {K : Frag} {σ : St} {H : Hp} {ta tb : TE} {xs ys : List PyData} {lo hi : Option Int}
def cutG {α : Type} (xs : List α) (lo hi : Option Int) : List α := (xs.drop (HT.sIx xs.length 0 lo)).take (HT.sIx xs.length xs.length hi - HT.sIx xs.length 0 lo)
theorem dps_cut {vs : List V} (h : DpAll K H vs xs) : DpAll K H (cutV vs lo hi) (cutG xs lo hi) := by
  unfold cutV cutG
  rw [dps_len h]
  exact dps_take _ (dps_drop _ h)
def YdO (t : TO) (σ : St) (H : Hp) (lo : Option Int) : Prop := ∀ H1, Same H H1 → ∀ Q : Option Int → Hp → Prop, (∀ H2, Same H1 H2 → Q lo H2) → t σ H1 Q
theorem yo_none : YdO tNoPart σ H none := fun H1 s Q q => q H1 (Same.refl _)
theorem yo_some {i : Int} (h : Yd K ta σ H (.int i)) : YdO (tPart ta) σ H (some i) := fun H1 s Q q => h H1 s _ fun v H2 s2 hv => ⟨i, dp_int hv, q H2 s2⟩
theorem yd_slL {tl th : TO} (ha : Yd K ta σ H (.list xs)) (hl : YdO tl σ H lo) (hh : YdO th σ H hi) : Yd K (tSl (rSlL K) ta tl th) σ H (.list (cutG xs lo hi)) := fun H1 s Q q =>
  ha H1 s _ fun v H2 s2 hv => hl H2 (s.trans s2) _ fun H3 s3 => hh H3 ((s.trans s2).trans s3) _ fun H4 s4 => by
    obtain ⟨a, vs, rfl, h1, h2⟩ := dp_lst (dp_same (s3.trans s4) _ _ hv)
    exact ⟨a, vs, rfl, h1, fun p hp => q _ _ (((s2.trans s3).trans s4).trans (same_new hp)) (dp_newL (dps_cut h2) hp)⟩
theorem cut_whole {α : Type} {xs : List α} (h : HT.sIx xs.length 0 lo = 0 ∧ HT.sIx xs.length xs.length hi = xs.length) : cutG xs lo hi = xs := by
  unfold cutG
  rw [h.1, h.2, Nat.sub_zero, List.drop_zero, List.take_length]
theorem yd_slA {tl th : TO} (ha : Yd K ta σ H (.tuple xs)) (hl : YdO tl σ H lo) (hh : YdO th σ H hi) : Yd K (tSl (rSlA K) ta tl th) σ H (.tuple (cutG xs lo hi)) := fun H1 s Q q =>
  ha H1 s _ fun v H2 s2 hv => hl H2 (s.trans s2) _ fun H3 s3 => hh H3 ((s.trans s2).trans s3) _ fun H4 s4 => by
    have hv4 := dp_same (s3.trans s4) _ _ hv
    obtain ⟨a, vs, rfl, h1, h2⟩ := dp_tup hv4
    refine ⟨a, vs, rfl, h1, fun hw => ?_, fun _ p hp => q _ _ (((s2.trans s3).trans s4).trans (same_new hp)) (dp_newT (dps_cut h2) hp)⟩
    rw [dps_len h2] at hw
    exact q _ _ ((s2.trans s3).trans s4) (by rw [cut_whole hw]; exact hv4)
theorem dps_rev {vs : List V} : ∀ {ds : List PyData}, DpAll K H vs ds → DpAll K H vs.reverse ds.reverse := fun {ds} h => by
  induction vs generalizing ds with
  | nil => cases h; exact .nil
  | cons v vs ih =>
    cases h with
    | cons h1 h2 =>
      rw [List.reverse_cons, List.reverse_cons]
      exact dps_app (ih h2) (.cons h1 .nil)
theorem yd_rev (ha : Yd K ta σ H (.tuple xs)) : Yd K (tRevT K ta) σ H (.tuple xs.reverse) := fun H1 s Q q => ha H1 s _ fun v H2 s2 hv => by
  obtain ⟨a, vs, rfl, h1, h2⟩ := dp_tup hv
  exact ⟨a, vs, rfl, h1, fun p hp => q _ _ (s2.trans (same_new hp)) (dp_newT (dps_rev h2) hp)⟩
theorem dps_rep {vs : List V} (h : DpAll K H vs xs) : ∀ n, DpAll K H (List.replicate n vs).flatten (List.replicate n xs).flatten
  | 0 => .nil
  | n + 1 => by
    rw [List.replicate_succ, List.replicate_succ, List.flatten_cons, List.flatten_cons]
    exact dps_app h (dps_rep h n)
theorem yd_rep {n : Nat} (ha : Yd K ta σ H (.tuple xs)) (hn : 2 ≤ n ∧ n ≤ 1000) (h0 : xs ≠ []) (hl : xs.length ≤ 1000) : Yd K (tOp (rRepT K) ta (tC (.int n))) σ H (.tuple (List.replicate n xs).flatten) :=
  yd_op ha yd_int fun v u H1 _ hv hu Q q => by
    obtain ⟨a, vs, rfl, h1, h2⟩ := dp_tup hv
    refine ⟨a, (n : Nat), vs, rfl, dp_int hu, h1, fun e => h0 ?_, by omega, by omega, by rw [dps_len h2]; exact hl, fun p hp => ?_⟩
    · rw [e] at h2
      cases h2
      rfl
    · exact q _ _ (same_new hp) (dp_newT (dps_rep h2 n) hp)
theorem yd_notInD {d : PyData} (ha : Yd K ta σ H d) (hb : Yd K tb σ H (.list xs)) (sd : SeqAt.shaped d = true) (se : SeqAt.shaped (.list xs) = true) : Yd K (tOp (rNotInD K) ta tb) σ H (.bool (!xs.any fun z => PyData.eqv z d)) :=
  yd_op ha hb fun v u H1 _ hv hu Q q => ⟨d, xs, hv, hu, sd, se, q _ H1 (Same.refl _) (.bl _)⟩
theorem yl_listOf {r : List V → Hp → VK → Prop} (hr : r = fun xs H Q => ∃ p ys, xs = [.ref p] ∧ (SqL K H p ys ∨ SqT K H p ys) ∧ ∀ l, H l = none → Q (.ref l) (upd H l (.lst ys))) (ha : Yd K ta σ H (.tuple xs)) : YdL K (tCB r (tCons ta tNil)) σ H xs := by
  subst hr
  exact fun H1 s Q q => ha H1 s _ fun v H2 s2 hv => by
    obtain ⟨a, vs, rfl, h1, h2⟩ := dp_tup hv
    exact ⟨a, vs, rfl, .inr h1, fun l hl => q _ _ _ (s2.trans (same_new hl)) upd_same (dps_same (same_new hl) _ _ h2)⟩
theorem encLot_inj {l k : Lot} (h : encLot l = encLot k) : l = k := (List.map_inj_right fun _ _ e => PyData.str.inj e).mp (PyData.tuple.inj h)
theorem encLots_inj {L M : Lots} (h : encLots L = encLots M) : L = M := (List.map_inj_right fun _ _ e => encLot_inj e).mp (PyData.tuple.inj h)
def lotK : PyData → PyData
  | d => .tuple [d]
theorem singles (l : List Str) : (l.map PyData.str).map lotK = (l.map fun k => [k]).map encLot := by
  rw [List.map_map, List.map_map]
  rfl
theorem rows_head (T : Lots) : ∃ rs, rowsTo T 3 = [] :: rs := ⟨_, rfl⟩
end
section
variable {P : Program} {w : World} {K : Frag} {mg : Mg} {base : Heap} {C fI fT : Addr} {cs : Cls3} {cS cL : Addr} {σ : St} {H : Hp}
def spMP : Sp := fun vs H Q _ => vs = [] ∧ ∀ H', Same H H' → Q (.int 3000) H'
abbrev k12 : List Str := kABCD.take 12
abbrev L12 : Lots := k12.map fun k => [k]
theorem many_scan (T : Lots) : scan L12 L12 (kindsOf "abcd") (rowsTo T 3) = .bad (.many 3000) := by
  obtain ⟨rs, e⟩ := rows_head T
  rw [e, kinds_abcd]
  unfold scan
  rw [if_neg (by decide), if_neg ?_]
  rw [List.append_nil]
  exact not_bound (ks := k12) (by decide +kernel) (fun k hk => List.mem_of_mem_take hk) L12 rfl (by decide +kernel)
abbrev tsMany (cs : Cls3) (a : Addr) (cls : Value) (d : Option Addr) : TS := tAsg (tXf a cls d cs.cT "most" (tVar 2)) (gName 1)
theorem sc_law_many_pairs : FnScope ["_law_many", "_law_found", "e", "_law_kind"] [] (defScope s_law_many_pairs) := ⟨rfl, rfl, rfl, by decide +kernel, rfl, by decide +kernel, by decide +kernel⟩
theorem ok_law_many_pairs (D : DefAt K mg "_law_many_pairs" s_law_many_pairs []) (B : Blt mg) (S : SeatF K mg C fI) (F : ErrF K mg cs cS cL) (GS : HasI P w K mg base 5 fI ["self", "marks", "lots"] (spSI K))
    (AK : Has P w K mg base CX0 1 "_law_kinds" ["_law_marks_here"] (spD K R_kinds)) (A7 : Has P w K mg base (L2N.CX P w) 7 "more_seats" ["one", "other", "lots"] (spMS K C cs)) :
    Has P w K mg base CX0 8 "_law_many_pairs" [] spMP := by
  obtain ⟨f, fd, F0, g, b⟩ := D
  obtain ⟨f7, fd7, G7, g7, k7, b7⟩ := A7
  obtain ⟨f1, fd1, G1, g1, k1, b1⟩ := AK
  obtain ⟨fdS, GS, bS⟩ := GS
  refine ⟨f, fd, F0.ok sc_law_many_pairs (fun vs H Q E h => by obtain ⟨rfl, _⟩ := h; rfl) (fun cdv A outer s H vs Q E hr h => ?_), g, F0.kp, b⟩
  obtain ⟨rfl, kq⟩ := h
  refine ⟨_, pss_cons (ps_set (i := 0) sc_law_many_pairs.nd rfl (.inl rfl) (pe_make S.mks GS (hr.mono (by decide)) (by rfl) S.g bS .nil pass0 (pa_cons pe_str (pa_cons (pe_callTy call_tuple_of (by rfl) B.tuple boot_tuple
      (pa_cons (pe_lc (own := [("_law_kind", 3)]) (g := gName 3) (tt := tYes) rfl sc_law_many_pairs.nd (pi_list (pe_slice (r := rSlL K) sl_list (pe_call G1 (hr.mono (by decide)) (by rfl) g1 k1 b1 .nil pass0 (pa_cons pe_str pa_nil)) po_none (po_some pe_int)))
        (blkOk_by (N := ["_law_many", "_law_found", "e", "_law_kind"]) (sc := defScope s_law_many_pairs) (by decide +kernel)) (fun _ _ _ _ _ => pg_name (i := 3) sc_law_many_pairs.nd rfl (Or.inl rfl)) (fun _ _ _ _ _ => pts_nil)
        (fun _ _ _ _ _ => pe_tup (pa_cons (pv 3) pa_nil))) pa_nil)) pa_nil))))
    (pss_cons (ps_set (i := 1) sc_law_many_pairs.nd rfl (.inl rfl) pe_str)
    (pss_cons (L2N.ps_try_as (i := 2) (ts := tsMany cs) rfl rfl sc_law_many_pairs.nd rfl rfl ⟨rfl, by decide, .inl F.gT⟩ takesN
      (fun W pn xe tk _ => pss_one (ps_expr (pe_callS G7 hr (by rfl) g7 k7 b7 (fun σ => L2N.passAt tk σ) (pa_cons (pv 0) (pa_cons (pv 0) (pa_cons (pe_tup (pa_cons (pe_tup (pa_cons pe_str pa_nil)) pa_nil)) pa_nil))))))
      (fun a oe cls d pn hz hf => pss_one (ps_set (i := 1) sc_law_many_pairs.nd rfl (.inl rfl) (pe_xf F.fT F.no hz.zc hf (pv 2)))))
    (pss_one (ps_ret (pv 1))))), ?_⟩
  have hF : Few L12 := few_short (by decide +kernel)
  have hL : L12.all (lotB "abcd") = true := by decide +kernel
  have hm : marksB "abcd" = true := by decide +kernel
  have y12 : Yd K _ [none, none, none, none] H (encLots L12) := (yd_tupOf rfl (YdL.yd (yl_lcm (i := 3) (f := lotK) (ydi_lst (yd_slL (yd_call (R := R_kinds) (E := E0) (ya_cons (yd_str (x := "abcd")) ya_nil) ⟨"abcd", rfl, by decide, rfl⟩) yo_none (yo_some (K := K) (yd_int (i := 12)))))
    (by rw [kinds_abcd]; decide +kernel) (fun d hd => ?_) (fun H5 v d s5 hd hv => yd_tup (ya_cons (yd_var (i := 3) rfl hv) ya_nil) (show 1 ≤ 1000 by decide))))).is ?_
  · refine y_seq (y_make S (ya_cons yd_str (ya_cons y12 ya_nil)) hm hF (by decide) hL H (Same.refl _) _ fun x H1 s1 _ hS => ?_)
    dsimp only
    refine y_seqC ?_
    have yt : Yd K (tTup (tCons (tTup (tCons (tC (.str "a")) tNil)) tNil)) [some (.ref x), some (.str "told"), none, none] H1 (encLots [["a"]]) := yd_tup (ya_cons (yd_tup (ya_cons yd_str ya_nil) (show 1 ≤ 1000 by decide)) ya_nil) (show 1 ≤ 1000 by decide)
    refine y_seq (y_dropS ⟨.ref x, rfl, .ref x, rfl, yt H1 (Same.refl _) _ fun vt H2 s2 ht => ⟨x, x, "abcd", "abcd", L12, L12, vt, some (encLots [["a"]]), rfl, hS.same s2, hS.same s2, ⟨ht, by decide +kernel⟩, hm, hF, hF, by decide, by decide, hL,
      fun z => absurd rfl z, fun _ z => absurd z (by decide +kernel), fun T _ _ _ => ?_⟩⟩)
    rw [many_scan T]
    intro cls d H3 s3 hx
    obtain ⟨rfl, dx, rfl, hxd⟩ := hx
    refine ⟨true, F.mTT, fun _ a ha => ?_, fun z => nomatch z⟩
    refine y_asg (K := K) (yd_xf rfl rfl rfl hxd) fun v H4 s4 hv => ?_
    refine y_ret (K := K) (yd_var rfl hv) fun v' H5 s5 hv' => ?_
    rw [dp_int hv']
    exact kq H5 ((((s1.trans s2).trans s3).trans s4).trans s5)
  · obtain ⟨k, _, rfl⟩ := List.mem_map.mp (List.mem_of_mem_drop (List.mem_of_mem_take hd))
    rfl
  · rw [kinds_abcd]
    rfl
end
end K15

/-! Mathematics of the law's own cases. -/
namespace K15
open PySem PySem.Spec PyProof.Rows L2
section
variable {L M T : Lots} {E : List Str}
theorem scan_hit {r : Lots} {rs : List Lots} (h : L.length + r.length ≤ 40) (hb : Bound (L ++ r) M E 3000) (hn : Never (L ++ r) M E) : scan L M E (r :: rs) = .told (some r) := by
  unfold scan
  rw [if_neg (by omega), if_pos hb, if_pos hn]
theorem scan_pass {r : Lots} {rs : List Lots} (h : L.length + r.length ≤ 40) (hb : Bound (L ++ r) M E 3000) (hn : ¬ Never (L ++ r) M E) : scan L M E (r :: rs) = scan L M E rs := by
  conv => lhs; unfold scan
  rw [if_neg (by omega), if_pos hb, if_neg hn]
theorem scan_self (hl : L.length ≤ 40) (hb : Bound L L E 3000) : scan L L E (rowsTo T 3) = .told (some []) := by
  obtain ⟨rs, e⟩ := rows_head T
  rw [e]
  exact scan_hit (by simpa using hl) (by rw [List.append_nil]; exact hb) (by rw [List.append_nil]; exact never_self)
/-- all rows bounded: the scan finds what is due -/
theorem scan_find : ∀ {rs : List Lots}, (∀ r ∈ rs, L.length + r.length ≤ 40 ∧ Bound (L ++ r) M E 3000) → scan L M E rs = .told (findL L M E rs)
  | [], _ => rfl
  | r :: rs, h => by
    obtain ⟨h1, h2⟩ := h r List.mem_cons_self
    by_cases hn : Never (L ++ r) M E
    · rw [scan_hit h1 h2 hn]
      unfold findL
      rw [List.find?_cons_of_pos (by simpa using hn)]
    · rw [scan_pass h1 h2 hn, scan_find fun r hr => h r (List.mem_cons_of_mem _ hr)]
      unfold findL
      rw [List.find?_cons_of_neg (by simpa using hn)]
theorem rows_one : ∃ rs, rowsTo [[("" : Str)]] 3 = [] :: [[("" : Str)]] :: rs := ⟨_, rfl⟩
abbrev rep (n : Nat) (k : Str) : Lots := List.replicate n [k]
theorem rep_snoc {k : Str} (n : Nat) : rep n k ++ [[k]] = rep (n + 1) k := by
  show List.replicate n [k] ++ [[k]] = List.replicate (n + 1) [k]
  rw [List.replicate_succ']
theorem scan_39 : scan (rep 39 "") (rep 40 "") (kindsOf "") (rowsTo [[("" : Str)]] 3) = .told (some [[("" : Str)]]) := by
  obtain ⟨rs, e⟩ := rows_one
  rw [e, kinds_e, scan_pass, scan_hit]
  · decide
  · rw [rep_snoc]
    exact bound_rep.mono (by decide)
  · rw [rep_snoc]
    exact never_self
  · decide
  · rw [List.append_nil]
    exact bound_rep.mono (by decide)
  · rw [List.append_nil]
    exact not_never_rep (k := "") (by decide) (by decide) (by decide) (by decide)
theorem scan_many : scan (rep 40 "a") (rep 1 "") (kindsOf "a") (rowsTo [[("" : Str)]] 3) = .bad (.many 40) := by
  obtain ⟨rs, e⟩ := rows_one
  rw [e, kinds_a, scan_pass]
  · unfold scan
    rw [if_pos (by decide)]
  · decide
  · rw [List.append_nil]
    exact bound_rep.mono (by decide)
  · rw [List.append_nil]
    intro hv
    have h := hv _ (.step .start (show ("" : Str) ∈ kA by decide))
    revert h
    decide +kernel
theorem scan_none : scan (rep 40 "") [] (kindsOf "") (rowsTo [[("" : Str)]] 3) = .told (some []) := by
  obtain ⟨rs, e⟩ := rows_one
  rw [e, kinds_e]
  exact scan_hit (by decide) (by rw [List.append_nil]; exact (bound_rep (n := 40) (m := 0) (a := [""]) (b := [""])).mono (by decide)) (by rw [List.append_nil]; exact never_nil)
theorem out_self {m : Str} {o : Option PyData} (hl : L.length ≤ 40) (hb : Bound L L (kindsOf m) 3000) : OutIs m m L L o (if oLots m o = true then .told (some []) else .bad .lots) :=
  ⟨fun z => absurd rfl z, fun _ h => by rw [if_neg (by rw [h]; decide)], fun T _ _ h => by rw [if_pos h, scan_self hl hb]⟩
theorem out_marks {m m' : Str} {o : Option PyData} (h : m ≠ m') : OutIs m m' L M o (.bad .marks) := ⟨fun _ => rfl, fun z => absurd z h, fun _ z => absurd z h⟩
theorem out_lots {m : Str} {o : Option PyData} (h : oLots m o = false) : OutIs m m L M o (.bad .lots) := ⟨fun z => absurd rfl z, fun _ _ => rfl, fun _ _ _ z => by rw [h] at z; cases z⟩
theorem out_scan {m : Str} {T : Lots} (h : oLots m (some (encLots T)) = true) : OutIs m m L M (some (encLots T)) (scan L M (kindsOf m) (rowsTo T 3)) :=
  ⟨fun z => absurd rfl z, fun _ z => (by rw [h] at z; cases z), fun T' _ e _ => by rw [encLots_inj (Option.some.inj e)]⟩
/-! ### lots of kinds -/
theorem good_lot {m : Str} (hk : ∀ k ∈ kindsOf m, kindB m k = true) (ha : AscS (kindsOf m)) {l : Lot} (h0 : l ≠ []) (hs : List.Sublist l (kindsOf m)) : lotB m l = true := by
  show (!(l.map PyData.str).isEmpty && ((l.map PyData.str).all (kindD m) && ascD (l.map PyData.str))) = true
  rw [Bool.and_eq_true, Bool.and_eq_true]
  refine ⟨?_, ?_, ?_⟩
  · cases l with
    | nil => exact absurd rfl h0
    | cons a l => rfl
  · refine List.all_eq_true.mpr fun d hd => ?_
    obtain ⟨k, h, rfl⟩ := List.mem_map.mp hd
    exact hk k (hs.subset h)
  · exact asc_of (asc_strs (ha.sublist hs))
def Marks3 (m : Str) : Prop := m = "a" ∨ m = "ab" ∨ m = "b"
theorem marks3_kinds {m : Str} (h : Marks3 m) : (∀ k ∈ kindsOf m, kindB m k = true) ∧ AscS (kindsOf m) ∧ (∃ r, kindsOf m = ("" : Str) :: r) ∧ (kindsOf m).length ≤ 8 ∧ (∀ k ∈ kindsOf m, k.length ≤ 1000) ∧ marksB m = true ∧ marksB (m ++ "z") = true ∧ m ≠ m ++ "z" ∧ m.length ≤ 5 := by
  rcases h with rfl | rfl | rfl
  · rw [kinds_a]
    exact ⟨by decide +kernel, by decide +kernel, ⟨_, rfl⟩, by decide, by decide +kernel, by decide +kernel, by decide +kernel, by decide +kernel, by decide⟩
  · rw [kinds_ab]
    exact ⟨by decide +kernel, by decide +kernel, ⟨_, rfl⟩, by decide, by decide +kernel, by decide +kernel, by decide +kernel, by decide +kernel, by decide⟩
  · rw [kinds_b]
    exact ⟨by decide +kernel, by decide +kernel, ⟨_, rfl⟩, by decide, by decide +kernel, by decide +kernel, by decide +kernel, by decide +kernel, by decide⟩
theorem sub_len {l m : List Str} (h : List.Sublist l m) (hm : m.length ≤ 8) : l.length ≤ 1000 := by
  have := h.length_le
  omega
theorem good_few {m : Str} (h3 : Marks3 m) {L : Lots} (hl : L.length ≤ 1000) (h : GoodL (kindsOf m) L) : Few L ∧ L.all (lotB m) = true := by
  obtain ⟨a, b, _, c, d, _⟩ := marks3_kinds h3
  exact ⟨⟨hl, fun l hl => ⟨sub_len (h l hl).2 c, fun k hk => d k ((h l hl).2.subset hk)⟩⟩, List.all_eq_true.mpr fun l hl => good_lot a b (h l hl).1 (h l hl).2⟩
end
end K15

/-! _law_refuses. -/
namespace K15
open PySem PySem.Spec PyProof.Rows L2
section
variable {P : Program} {w : World} {K : Frag} {mg : Mg} {base : Heap} {C fI fT : Addr} {cs : Cls3} {cS cL : Addr} {σ : St} {H : Hp} {te : TE} {t c : Addr}
/-- a reading that gives seats -/
def Ys (K : Frag) (C : Addr) (te : TE) (σ : St) (H : Hp) (m : Str) (L : Lots) : Prop := ∀ H1, Same H H1 → ∀ Q : VK, (∀ x H2, Same H1 H2 → SeatAt K H2 C x m L → Q (.ref x) H2) → te σ H1 Q
def Yt (K : Frag) (te : TE) (σ : St) (H : Hp) (o : Option PyData) : Prop := ∀ H1, Same H H1 → ∀ Q : VK, (∀ v H2, Same H1 H2 → Thing K H2 v o → Q v H2) → te σ H1 Q
theorem ys_var {i : Nat} {p : Addr} {m : Str} {L : Lots} (hi : σ[i]? = some (some (.ref p))) (h : SeatAt K H C p m L) : Ys K C (tVar i) σ H m L := fun H1 s Q q => ⟨.ref p, hi, q p H1 (Same.refl _) (h.same s)⟩
theorem ys_make (S : SeatF K mg C fI) {ta : TA} {m : Str} {L : Lots} {E : XK} (ha : YdA K ta σ H [.str m, encLots L]) (hm : marksB m = true) (hF : Few L) (hl : L.length ≤ 40) (hL : L.all (lotB m) = true) : Ys K C (tMake C (spSI K) [] E ta) σ H m L := fun H1 s Q q =>
  y_make S ha hm hF hl hL H1 s Q fun x H2 s2 _ h => q x H2 s2 h
theorem yt_var {i : Nat} {v : V} {o : Option PyData} (hi : σ[i]? = some (some v)) (h : Thing K H v o) : Yt K (tVar i) σ H o := fun H1 s Q q => ⟨v, hi, q v H1 (Same.refl _) (h.same s)⟩
theorem yt_of {d : PyData} (h : Yd K te σ H d) (hs : short d = true) : Yt K te σ H (some d) := fun H1 s Q q => h H1 s _ fun v H2 s2 hv => q v H2 s2 ⟨hv, hs⟩
theorem yd_tried {m m' : Str} {L M : Lots} {o : Option PyData} {out : Out} {E : XK} {t1 t2 t3 : TE} (h1 : Ys K C t1 σ H m L) (h2 : Ys K C t2 σ H m' M) (h3 : Yt K t3 σ H o) (hm : marksB m = true) (hF : Few L) (hG : Few M) (hl : L.length ≤ 40) (hl' : M.length ≤ 40) (hL : L.all (lotB m) = true) (ho : OutIs m m' L M o out) :
    Yd K (tCall (spTried K C) [] E (tCons t1 (tCons t2 (tCons t3 tNil)))) σ H (.str (toldOf out)) := fun H1 s Q q =>
  h1 H1 s _ fun x H2 s2 hx => h2 H2 (s.trans s2) _ fun y H3 s3 hy => h3 H3 ((s.trans s2).trans s3) _ fun v H4 s4 hv =>
    ⟨x, y, m, m', L, M, v, o, out, rfl, hx.same (s3.trans s4), hy.same s4, hv, hm, hF, hG, hl, hl', hL, ho, fun H5 s5 => q _ H5 (((s2.trans s3).trans s4).trans s5) (.str _)⟩
/-- a row of items, one of which may move the tape -/
def YmA (K : Frag) (t c : Addr) (ta : TA) (σ : St) (H : Hp) (n : Nat) : Prop := ∀ H1, Mut t H H1 → TapeAt H1 t c → ∀ Q : List V → Hp → Prop, (∀ vs H2, Mut t H1 H2 → TapeAt H2 t c → vs.length = n → TAll K H2 vs → Q vs H2) → ta σ H1 Q
theorem TAll.mut {H H' : Hp} {vs : List V} (hc : TapeAt H t c) (m : Mut t H H') (h : TAll K H vs) : TAll K H' vs := fun v hv => by
  obtain ⟨o, h1, h2⟩ := h v hv
  exact ⟨o, Thing.mut hc m h2 h1, h2⟩
theorem yma_nil : YmA K t c tNil σ H 0 := fun H1 m hc Q q => q [] H1 (Mut.refl _ _) hc rfl fun _ z => nomatch z
theorem yma_cons {ta : TA} {n : Nat} (h : ∀ H1, Mut t H H1 → TapeAt H1 t c → Yo K te σ H1) (hr : YmA K t c ta σ H n) : YmA K t c (tCons te ta) σ H (n + 1) := fun H1 m hc Q q =>
  h H1 m hc H1 (Same.refl _) _ fun v H2 o s2 hv ho => hr H2 (m.trans (Mut.same s2)) (hc.same s2) _ fun vs H3 m3 hc3 hl hvs => q _ H3 ((Mut.same s2).trans m3) hc3 (by rw [List.length_cons, hl]) fun x hx => by
    rcases List.mem_cons.mp hx with z | z
    · rw [z]
      exact ⟨o, Thing.mut (hc.same s2) m3 ho hv, ho⟩
    · exact hvs x z
theorem yma_odd {i : Nat} {E : XK} {ta : TA} {n : Nat} (hi : σ[i]? = some (some (.ref t))) (hr : YmA K t c ta σ H n) : YmA K t c (tCons (tCall (spOdd K) [] E (tCons (tVar i) tNil)) ta) σ H (n + 1) := fun H1 m hc Q q =>
  ⟨.ref t, hi, t, c, rfl, hc, fun v o H2 m2 hc2 hv ho => hr H2 (m.trans m2) hc2 _ fun vs H3 m3 hc3 hl hvs => q _ H3 (m2.trans m3) hc3 (by rw [List.length_cons, hl]) fun x hx => by
    rcases List.mem_cons.mp hx with z | z
    · rw [z]
      exact ⟨o, Thing.mut hc2 m3 ho hv, ho⟩
    · exact hvs x z⟩
theorem noT_strs : ∀ l : List Str, noTs (l.map .str) = true
  | [] => rfl
  | k :: l => by
    show (true && noTs (l.map .str)) = true
    rw [noT_strs l]
    rfl
theorem noTs_lots : ∀ L : Lots, noTs (L.map encLot) = true
  | [] => rfl
  | l :: L => by
    show (noTs (l.map PyData.str) && noTs (L.map encLot)) = true
    rw [noT_strs l, noTs_lots L]
    rfl
theorem short_lst {L : Lots} (h : Few L) : short (.list (L.map encLot)) = true := short_lots h
theorem cut_map {α β : Type} (f : α → β) (xs : List α) (lo hi : Option Int) : cutG (xs.map f) lo hi = (cutG xs lo hi).map f := by
  unfold cutG
  rw [List.length_map, List.map_take, List.map_drop]
theorem cut_sub {α : Type} (xs : List α) (lo hi : Option Int) : List.Sublist (cutG xs lo hi) xs := (List.take_sublist _ _).trans (List.drop_sublist _ _)
theorem few_sub2 {L M : Lots} (h : Few L) (s : List.Sublist M L) : Few M := ⟨Nat.le_trans s.length_le h.1, fun l hl => h.2 l (s.subset hl)⟩
theorem yo_lots {L : Lots} (h : Yd K te σ H (encLots L)) (hF : Few L) : Yo K te σ H := yo_of h (short_lots hF) (noTs_lots L)
theorem few_of {L : Lots} (h : short (encLots L) = true) : Few L := few_short h
theorem enc_app (L M : Lots) : PyData.tuple (L.map encLot ++ M.map encLot) = encLots (L ++ M) := by
  show _ = PyData.tuple ((L ++ M).map encLot)
  rw [List.map_append]
abbrev L5 : Lots := (kABC.take 5).map fun k => [k]
theorem yd_rep1 {n : Nat} {k : Str} (hn : 2 ≤ n ∧ n ≤ 1000) : Yd K (tOp (rRepT K) (tTup (tCons (tTup (tCons (tC (.str k)) tNil)) tNil)) (tC (.int n))) σ H (encLots (rep n k)) :=
  (yd_rep (yd_tup (ya_cons (yd_tup (ya_cons yd_str ya_nil) (show 1 ≤ 1000 by decide)) ya_nil) (show 1 ≤ 1000 by decide)) hn (by simp) (show 1 ≤ 1000 by decide)).is (by
    show PyData.tuple (List.replicate n [encLot [k]]).flatten = PyData.tuple ((List.replicate n [k]).map encLot)
    rw [List.map_replicate]
    congr 1
    clear hn
    induction n with
    | zero => rfl
    | succ n ih =>
      rw [List.replicate_succ, List.flatten_cons, ih, List.replicate_succ]
      rfl)
theorem yd_one {k : Str} : Yd K (tTup (tCons (tTup (tCons (tC (.str k)) tNil)) tNil)) σ H (encLots [[k]]) := yd_tup (ya_cons (yd_tup (ya_cons yd_str ya_nil) (show 1 ≤ 1000 by decide)) ya_nil) (show 1 ≤ 1000 by decide)
theorem yd_nil0 : Yd K (tTup tNil) σ H (encLots []) := yd_tup ya_nil (show 0 ≤ 1000 by decide)
theorem y_asgK {i : Nat} {te : TE} {D : Ends} {σ : St} {H : Hp} (h : te σ H fun v H1 => D.nx (σ.set i (some v)) H1) : tAsg te (gName i) D σ H := h
theorem y_joinQ {t u : TS} {D : Ends} {σ : St} {H : Hp} (J : St → Hp → Prop) (hJ : ∀ σ H, J σ H → u D σ H) (h : ∀ N : St → Hp → Prop, (∀ σ H, J σ H → N σ H) → t { D with nx := N } σ H) : tSeq t u D σ H := h _ hJ
def spRefuses (K : Frag) (C : Addr) : Sp := fun vs H Q _ => ∃ t c m ve one vm L W, vs = [.ref t, .str m, ve, .ref one, vm] ∧ TapeAt H t c ∧ Marks3 m ∧ Dp K H ve (.list ((kindsOf m).map .str)) ∧ SeatAt K H C one m L ∧ GoodL (kindsOf m) L ∧ L.length ≤ 5 ∧ Dp K H vm (encLots W) ∧ Few W ∧ W.length ≤ 3 ∧ ∀ H', Q (.bl true) H'
theorem sc_law_refuses : FnScope ["_law_tape_here", "_law_marks_here", "_law_every", "_law_one", "_law_more", "_law_wrong", "_law_thing", "_law_due_here", "_law_five", "_law_single", "_law_kind"] ["_law_tape_here", "_law_marks_here", "_law_every", "_law_one", "_law_more"] (defScope s_law_refuses) := ⟨rfl, rfl, rfl, by decide +kernel, rfl, by decide +kernel, by decide +kernel⟩
theorem ok_law_refuses (D : DefAt K mg "_law_refuses" s_law_refuses ["_law_tape_here", "_law_marks_here", "_law_every", "_law_one", "_law_more"]) (B : Blt mg) (S : SeatF K mg C fI) (GS : HasI P w K mg base 5 fI ["self", "marks", "lots"] (spSI K))
    (AK : Has P w K mg base CX0 1 "_law_kinds" ["_law_marks_here"] (spD K R_kinds)) (AP : Has P w K mg base CX0 1 "_law_pick" ["_law_tape_here", "_law_many"] (spPick K)) (AO : Has P w K mg base CX0 2 "_law_odd" ["_law_tape_here"] (spOdd K))
    (AL : Has P w K mg base CX0 4 "_law_are_lots" ["_law_marks_here", "_law_thing"] (spAreLots K)) (AT : Has P w K mg base CX0 8 "_law_tried" ["_law_one", "_law_other", "_law_lots_here"] (spTried K C)) :
    Has P w K mg base CX0 9 "_law_refuses" ["_law_tape_here", "_law_marks_here", "_law_every", "_law_one", "_law_more"] (spRefuses K C) := by
  obtain ⟨f, fd, F0, g, b⟩ := D
  obtain ⟨f1, fd1, G1, g1, k1, b1⟩ := AK
  obtain ⟨f2, fd2, G2, g2, k2, b2⟩ := AP
  obtain ⟨f3, fd3, G3, g3, k3, b3⟩ := AO
  obtain ⟨f4, fd4, G4, g4, k4, b4⟩ := AL
  obtain ⟨f5, fd5, G5, g5, k5, b5⟩ := AT
  obtain ⟨fdS, GS, bS⟩ := GS
  refine ⟨f, fd, F0.ok sc_law_refuses (fun vs H Q E h => by obtain ⟨t, c, m, ve, one, vm, L, W, rfl, _⟩ := h; rfl) (fun cdv A outer s H vs Q E hr h => ?_), g, F0.kp, b⟩
  obtain ⟨t, c, m, ve, one, vm, L, W, rfl, hc, h3, hve, hS, hgL, hl5, hvm, hFW, hW3, kq⟩ := h
  have hr6 : Room 6 (A.deeper (envOfC "_law_refuses" (defScope s_law_refuses) s.heap.objs.size f cdv)) := hr.mono (by decide)
  refine ⟨_, pss_cons (ps_set (i := 5) sc_law_refuses.nd rfl (.inl rfl) (pe_lst (pa_cons (pe_tup pa_nil)
      (pa_cons (pe_callTy call_list_of (by rfl) B.list boot_list' (pa_cons (pv 4) pa_nil))
      (pa_cons (pe_op op_catA (pv 4) (pe_slice (r := rSlA K) sl_tupA (pv 4) po_none (po_some pe_int)))
      (pa_cons (pe_tup (pa_cons (pe_ix ix_list (pv 2) pe_int (fun _ _ => rfl)) pa_nil))
      (pa_cons (pe_op op_catA (pv 4) (pe_tup (pa_cons (pe_tup pa_nil) pa_nil)))
      (pa_cons pe_non
      (pa_cons (pe_call G3 (hr.mono (by decide)) (by rfl) g3 k3 b3 .nil pass0 (pa_cons (pv 0) pa_nil))
      (pa_cons (pe_op op_catA (pv 4) (pe_tup (pa_cons (pe_tup (pa_cons pe_str pa_nil)) pa_nil))) pa_nil))))))))))
    (pss_cons (ps_set (i := 6) sc_law_refuses.nd rfl (.inl rfl) (pe_ix ix_list (pv 5) (pe_call G2 (hr.mono (by decide)) (by rfl) g2 k2 b2 .nil pass0 (pa_cons (pv 0) (pa_cons pe_int pa_nil))) (fun _ _ => rfl)))
    (pss_cons (ps_set (i := 7) sc_law_refuses.nd rfl (.inl rfl) pe_str)
    (pss_cons (ps_if (pt_val (pe_call G4 (hr.mono (by decide)) (by rfl) g4 k4 b4 .nil pass0 (pa_cons (pv 1) (pa_cons (pv 6) pa_nil)))) (pss_one (ps_set (i := 7) sc_law_refuses.nd rfl (.inl rfl) pe_str)) pss_nil)
    (pss_cons (ps_if (PW.pt (pw_or (pt_cmpR op_ne (pe_call G5 hr (by rfl) g5 k5 b5 .nil pass0 (pa_cons (pv 3) (pa_cons (pv 3) (pa_cons (pv 6) pa_nil)))) (pv 7) (nomark _))
        (pw_or1 (pt_cmpR op_ne (pe_call G5 hr (by rfl) g5 k5 b5 .nil pass0 (pa_cons (pv 3) (pa_cons (pe_make S.mks GS hr6 (by rfl) S.g bS .nil pass0 (pa_cons (pe_op op_add_str (pv 1) pe_str) (pa_cons (pe_tup pa_nil) pa_nil))) (pa_cons (pv 6) pa_nil)))) pe_str (nomark _)))))
      (pss_one (ps_ret pe_bl)) pss_nil)
    (pss_cons (ps_set (i := 8) sc_law_refuses.nd rfl (.inl rfl) (pe_slice (r := rSlA K) sl_tupA (pe_callTy call_tuple_of (by rfl) B.tuple boot_tuple
        (pa_cons (pe_lc (own := [("_law_kind", 10)]) (g := gName 10) (tt := tYes) rfl sc_law_refuses.nd (pi_list (pe_call G1 (hr.mono (by decide)) (by rfl) g1 k1 b1 .nil pass0 (pa_cons pe_str pa_nil)))
          (blkOk_by (N := ["_law_tape_here", "_law_marks_here", "_law_every", "_law_one", "_law_more", "_law_wrong", "_law_thing", "_law_due_here", "_law_five", "_law_single", "_law_kind"]) (sc := defScope s_law_refuses) (by decide +kernel)) (fun _ _ _ _ _ => pg_name (i := 10) sc_law_refuses.nd rfl (Or.inl rfl)) (fun _ _ _ _ _ => pts_nil)
          (fun _ _ _ _ _ => pe_tup (pa_cons (pv 10) pa_nil))) pa_nil)) po_none (po_some pe_int)))
    (pss_cons (ps_if (pt_cmpR op_ne (pe_call G5 hr (by rfl) g5 k5 b5 .nil pass0 (pa_cons (pe_make S.mks GS hr6 (by rfl) S.g bS .nil pass0 (pa_cons pe_str (pa_cons (pe_tup pa_nil) pa_nil))) (pa_cons (pe_make S.mks GS hr6 (by rfl) S.g bS .nil pass0 (pa_cons pe_str (pa_cons (pe_tup pa_nil) pa_nil))) (pa_cons (pv 8) pa_nil)))) pe_str (nomark _))
      (pss_one (ps_ret pe_bl)) pss_nil)
    (pss_cons (ps_set (i := 9) sc_law_refuses.nd rfl (.inl rfl) (pe_make S.mks GS hr6 (by rfl) S.g bS .nil pass0 (pa_cons pe_str (pa_cons (pe_op op_repT (pe_tup (pa_cons (pe_tup (pa_cons pe_str pa_nil)) pa_nil)) pe_int) pa_nil))))
    (pss_cons (ps_if (pt_cmpR op_ne (pe_call G5 hr (by rfl) g5 k5 b5 .nil pass0 (pa_cons (pe_make S.mks GS hr6 (by rfl) S.g bS .nil pass0 (pa_cons pe_str (pa_cons (pe_op op_repT (pe_tup (pa_cons (pe_tup (pa_cons pe_str pa_nil)) pa_nil)) pe_int) pa_nil))) (pa_cons (pv 9) (pa_cons (pe_tup (pa_cons (pe_tup (pa_cons pe_str pa_nil)) pa_nil)) pa_nil)))) pe_str (nomark _))
      (pss_one (ps_ret pe_bl)) pss_nil)
    (pss_cons (ps_if (pt_cmpR op_ne (pe_call G5 hr (by rfl) g5 k5 b5 .nil pass0 (pa_cons (pe_make S.mks GS hr6 (by rfl) S.g bS .nil pass0 (pa_cons pe_str (pa_cons (pe_op op_repT (pe_tup (pa_cons (pe_tup (pa_cons pe_str pa_nil)) pa_nil)) pe_int) pa_nil))) (pa_cons (pe_make S.mks GS hr6 (by rfl) S.g bS .nil pass0 (pa_cons pe_str (pa_cons (pe_tup (pa_cons (pe_tup (pa_cons pe_str pa_nil)) pa_nil)) pa_nil))) (pa_cons (pe_tup (pa_cons (pe_tup (pa_cons pe_str pa_nil)) pa_nil)) pa_nil)))) pe_str (nomark _))
      (pss_one (ps_ret pe_bl)) pss_nil)
    (pss_one (ps_ret (pe_cmpR op_eq (pe_call G5 hr (by rfl) g5 k5 b5 .nil pass0 (pa_cons (pv 9) (pa_cons (pe_make S.mks GS hr6 (by rfl) S.g bS .nil pass0 (pa_cons pe_str (pa_cons (pe_tup pa_nil) pa_nil))) (pa_cons (pe_tup (pa_cons (pe_tup (pa_cons pe_str pa_nil)) pa_nil)) pa_nil)))) pe_str (nomark _))))))))))))), ?_⟩
  obtain ⟨f1', f2', ⟨kr, hkr⟩, f3', f4', hm, hmz, hne, hml⟩ := marks3_kinds h3
  obtain ⟨hFL, hLL⟩ := good_few h3 (by omega) hgL
  have f1F : Few [[("" : Str)]] := few_of (by decide +kernel)
  have f0F : Few [] := few_of (by decide +kernel)
  have r40 : Few (rep 40 "") := few_of (by decide +kernel)
  have vmD : ∀ {H1 : Hp}, Mut t H H1 → Dp K H1 vm (encLots W) := fun m1 => hc.noL m1 (noL_lots W) hvm
  have fW : ∀ {V : Lots}, Few V → V.length ≤ 3 → Few (W ++ V) := fun h h1 => hFW.app h (by omega)
  refine y_seqLst ((yma_cons (fun H1 m1 c1 => yo_of yd_nil0 rfl rfl)
    (yma_cons (fun H1 m1 c1 => yo_of (yl_listOf rfl (yd_var (i := 4) rfl (vmD m1))).yd (short_lst hFW) ?_)
    (yma_cons (fun H1 m1 c1 => yo_lots (L := W ++ cutG W none (some 1)) ((yd_catT (yd_var (i := 4) rfl (vmD m1)) (yd_slA (yd_var (i := 4) rfl (vmD m1)) yo_none (yo_some (K := K) yd_int)) ?_).is ?_) (fW (few_sub2 hFW (cut_sub _ _ _)) (Nat.le_trans (cut_sub _ _ _).length_le hW3)))
    (yma_cons (fun H1 m1 c1 => yo_of (yd_tup (ya_cons (yd_ixL (e := .str "") (yd_var (i := 2) rfl (hc.strs m1 hve)) yd_int ?_) ya_nil) (show 1 ≤ 1000 by decide)) rfl rfl)
    (yma_cons (fun H1 m1 c1 => yo_lots (L := W ++ [[]]) ((yd_catT (yd_var (i := 4) rfl (vmD m1)) (yd_tup (ya_cons (yd_tup ya_nil (show 0 ≤ 1000 by decide)) ya_nil) (show 1 ≤ 1000 by decide)) ?_).is (enc_app W [[]])) (fW (few_of (by decide +kernel)) (by decide)))
    (yma_cons (fun H1 m1 c1 => yo_of yd_non rfl rfl)
    (yma_odd rfl
    (yma_cons (fun H1 m1 c1 => yo_lots (L := W ++ [[("~" : Str)]]) ((yd_catT (yd_var (i := 4) rfl (vmD m1)) yd_one ?_).is (enc_app W [[("~" : Str)]])) (fW (few_of (by decide +kernel)) (by decide)))
    yma_nil)))))))) H (Mut.refl _ _) hc _ fun vs H1 m1 c1 l1 t1 => ⟨by rw [l1]; decide, fun aw haw => ?_⟩)
  · show (decide ((W.map encLot).length ≠ 5) && noTs (W.map encLot)) = true
    rw [noTs_lots, Bool.and_true, decide_eq_true_eq, List.length_map]
    omega
  · rw [cut_map, List.length_map, List.length_map]
    have := (cut_sub W none (some 1)).length_le
    omega
  · rw [cut_map]
    exact enc_app W _
  · rw [hkr]
    exact atI_nat (j := 0) rfl
  · rw [List.length_map]
    show W.length + 1 ≤ 1000
    omega
  · rw [List.length_map]
    show W.length + 1 ≤ 1000
    omega
  have naw : aw ≠ t := fun z => by
    obtain ⟨xs, hx⟩ := c1.mem
    rw [z, hx] at haw
    cases haw
  have s2 : Same H1 (upd H1 aw (.lst vs)) := same_new haw
  have e2 : (upd H1 aw (.lst vs)) aw = some (.lst vs) := upd_same
  have t2 := t1.same s2
  have c2 := c1.same s2
  have m2 : Mut t H (upd H1 aw (.lst vs)) := m1.trans (Mut.same s2)
  generalize upd H1 aw (.lst vs) = H2 at s2 e2 t2 c2 m2
  refine y_seq (y_asgK ⟨.ref aw, rfl, .ref t, rfl, t, c, 8, rfl, c2, by decide, by decide, fun i H3 hi0 hi1 m3 c3 => ?_⟩)
  obtain ⟨v, hv1, hv2⟩ := at_int (xs := vs) hi0 (by rw [l1]; exact hi1)
  refine ⟨aw, vs, i, v, rfl, rfl, SqL.of (m3 aw _ naw e2), hv2, ?_⟩
  obtain ⟨o, hth, _⟩ := (TAll.mut c2 m3 t2) v (List.mem_of_getElem? hv1)
  have hS3 := hc.seat (m2.trans m3) hS
  clear t2 t1
  dsimp only
  refine y_seqC ?_
  refine y_joinQ (fun σ' H' => σ' = [some (.ref t), some (.str m), some ve, some (.ref one), some vm, some (.ref aw), some v, some (.str (if oLots m o = true then "told" else "lots")), none, none, none] ∧ Same H3 H') (fun σ' H4 hJ => ?_) (fun NN kk => ?_)
  · obtain ⟨rfl, s4⟩ := hJ
    have hS4 := hS3.same s4
    have hth4 := hth.same s4
    have hL40 : L.length ≤ 40 := by omega
    have hb : Bound L L (kindsOf m) 3000 := (bound_le hl5 hl5).mono (by decide)
    refine y_seq (y_if (b := false) ((yt_or (yt_test (yd_neS (yd_tried (ys_var rfl hS4) (ys_var rfl hS4) (yt_var rfl hth4) hm hFL hFL hL40 hL40 hLL (out_self hL40 hb)) (yd_var rfl (.str _))))
      (fun _ => yt_test (yd_neS (yd_tried (ys_var rfl hS4) (ys_make S (m := m ++ "z") (L := []) (ya_cons (yd_addS rfl (yd_var rfl (.str m)) yd_str (by show m.length + 1 ≤ 1000; omega)) (ya_cons yd_nil0 ya_nil)) hmz f0F (by decide) rfl) (yt_var rfl hth4) hm hFL f0F hL40 (by decide) hLL (out_marks hne)) yd_str))).is ?_) (fun e => nomatch e) (fun _ H5 s5 => ?_))
    · cases oLots m o <;> rfl
    dsimp only [tNext]
    refine y_seq (y_asg (K := K) ((yd_slA (yd_tupOf rfl (YdL.yd (yl_lcm (f := lotK) (ydi_lst (yd_call (R := R_kinds) (ya_cons yd_str ya_nil) ⟨"abc", rfl, by decide, rfl⟩)) (by rw [kinds_abc]; decide +kernel) (fun d hd => ?_) (fun H5 v d s5 hd hv => yd_tup (ya_cons (yd_var rfl hv) ya_nil) (show 1 ≤ 1000 by decide))))) yo_none (yo_some (K := K) yd_int)).is (e := encLots L5) ?_) fun v5 H6 s6 h5 => ?_)
    · obtain ⟨k, _, rfl⟩ := List.mem_map.mp hd
      rfl
    · rw [kinds_abc]
      rfl
    dsimp only
    have mabc : marksB "abc" = true := by decide +kernel
    refine y_seq (y_if (b := false) ((yt_test (yd_neS (yd_tried (ys_make S (m := "abc") (L := []) (ya_cons yd_str (ya_cons yd_nil0 ya_nil)) mabc f0F (by decide) rfl) (ys_make S (m := "abc") (L := []) (ya_cons yd_str (ya_cons yd_nil0 ya_nil)) mabc f0F (by decide) rfl)
      (yt_var (o := some (encLots L5)) rfl ⟨h5, by decide +kernel⟩) mabc f0F f0F (by decide) (by decide) rfl (out_lots (by decide +kernel))) yd_str)).is rfl) (fun e => nomatch e) (fun _ H7 s7 => ?_))
    dsimp only [tNext]
    have me : marksB "" = true := by decide +kernel
    have ma : marksB "a" = true := by decide +kernel
    have l40 : (rep 40 "").all (lotB "") = true := by decide +kernel
    refine y_seq (ys_make S (m := "") (L := rep 40 "") (ya_cons yd_str (ya_cons (yd_rep1 ⟨by decide, by decide⟩) ya_nil)) me r40 (by decide) l40 H7 (Same.refl _) _ fun x H8 s8 hx => ?_)
    dsimp only
    refine y_seq (y_if (b := false) ((yt_test (yd_neS (yd_tried (ys_make S (m := "") (L := rep 39 "") (ya_cons yd_str (ya_cons (yd_rep1 ⟨by decide, by decide⟩) ya_nil)) me (few_of (by decide +kernel)) (by decide) (by decide +kernel)) (ys_var rfl hx) (yt_of yd_one (short_lots f1F)) me (few_of (by decide +kernel)) r40 (by decide) (by decide) (by decide +kernel)
      (out_scan (by decide +kernel))) yd_str)).is ?_) (fun e => nomatch e) (fun _ H9 s9 => ?_))
    · rw [scan_39]
      rfl
    dsimp only [tNext]
    refine y_seq (y_if (b := false) ((yt_test (yd_neS (yd_tried (ys_make S (m := "a") (L := rep 40 "a") (ya_cons yd_str (ya_cons (yd_rep1 ⟨by decide, by decide⟩) ya_nil)) ma (few_of (by decide +kernel)) (by decide) (by decide +kernel)) (ys_make S (m := "a") (L := rep 1 "") (ya_cons yd_str (ya_cons yd_one ya_nil)) ma f1F (by decide) (by decide +kernel)) (yt_of yd_one (short_lots f1F)) ma (few_of (by decide +kernel)) f1F (by decide) (by decide) (by decide +kernel)
      (out_scan (by decide +kernel))) yd_str)).is ?_) (fun e => nomatch e) (fun _ H10 s10 => ?_))
    · rw [scan_many]
      rfl
    dsimp only [tNext]
    refine y_ret (K := K) ((yd_eqS (yd_tried (ys_var rfl (hx.same (s9.trans s10))) (ys_make S (m := "") (L := []) (ya_cons yd_str (ya_cons yd_nil0 ya_nil)) me f0F (by decide) rfl) (yt_of yd_one (short_lots f1F)) me r40 f0F (by decide) (by decide) l40 (out_scan (by decide +kernel))) yd_str).is (e := .bool true) ?_) fun v' H11 s11 hv' => ?_
    · rw [scan_none]
      rfl
    · rw [dp_bool hv']
      exact kq H11
  · refine y_ifB ⟨.str m, rfl, v, rfl, m, .str m, v, o, rfl, .str m, hth, fun H4 s4 => ⟨_, rfl, ?_⟩⟩
    cases hz : oLots m o with
    | true => exact iteT (kk _ _ ⟨by rw [hz]; rfl, s4⟩)
    | false => exact iteF (kk _ _ ⟨by rw [hz]; rfl, s4⟩)
end
end K15

/-! _law_four. -/
namespace K15
open PySem PySem.Spec PyProof.Rows L2
section
variable {P : Program} {w : World} {K : Frag} {mg : Mg} {base : Heap} {C fI fT : Addr} {cs : Cls3} {cS cL : Addr} {σ : St} {H : Hp} {te : TE} {t c : Addr}
theorem y_lcPick {i n : Nat} {H1 : Hp} {Q : VK} (hc : TapeAt H1 t c) (Good : Lot → Prop) (hn : n ≤ 100)
    (hte : ∀ x H2, Mut t H1 H2 → TapeAt H2 t c → ∀ Q : VK, (∀ v l H3, Mut t H2 H3 → TapeAt H3 t c → Dp K H3 v (encLot l) → Good l → Q v H3) → te (σ.set i (some x)) H2 Q)
    (q : ∀ D vs (L : Lots) H2, Mut t H1 H2 → TapeAt H2 t c → H2 D = some (.lst vs) → DpAll K H2 vs (L.map encLot) → L.length = n → (∀ l ∈ L, Good l) → Q (.ref D) H2) :
    tLc (fun _ H R => R (Itr 0 n) H) (gName i) tYes te [i] σ H1 Q := by
  intro D hD
  have hDt : D ≠ t := fun z => by
    obtain ⟨xs, hx⟩ := hc.mem
    rw [z, hx] at hD
    cases hD
  refine lc_it walk_range (fun j Hc => Mut t H1 Hc ∧ TapeAt Hc t c ∧ ∃ vs, ∃ L : Lots, Hc D = some (.lst vs) ∧ DpAll K Hc vs (L.map encLot) ∧ L.length = j ∧ ∀ l ∈ L, Good l)
    ⟨Mut.same (same_new hD), hc.same (same_new hD), [], [], upd_same, .nil, rfl, fun _ z => nomatch z⟩ (fun _ _ _ _ => trivial) (fun j x Hc Hx hj ⟨m2, c2, vs, L, e2, d2, l2, g2⟩ y => ?_) fun Hc ⟨m2, c2, vs, L, e2, d2, l2, g2⟩ => q D vs L Hc m2 c2 e2 d2 l2 g2
  obtain ⟨e1, _⟩ := y
  subst e1
  show wipe ((wipe σ [i]).set i (some x)) [i] = wipe σ [i] ∧ tYes ((wipe σ [i]).set i (some x)) _ _
  refine ⟨wipe_set1, ?_⟩
  rw [set1]
  unfold tYes
  refine iteT ?_
  refine hte x _ m2 c2 _ fun v l H3 m3 c3 hv hg => ⟨vs, m3 D _ hDt e2, ?_, (m2.trans m3).upd_new hD, hc.put hD c3, vs ++ [v], L ++ [l], upd_same, ?_, by rw [List.length_append, l2]; rfl, fun l' hl' => ?_⟩
  · have := dps_len d2
    rw [List.length_map] at this
    exact small1000 (by omega)
  · rw [List.map_append]
    have noLL : noLs (L.map encLot) = true := noLs_of fun d hd => by
      obtain ⟨l', _, rfl⟩ := List.mem_map.mp hd
      exact noL_lot l'
    refine dps_ts (Ts.lst (K := K) (m3 D _ hDt e2)) _ _ (noLs_of fun d hd => ?_) (dps_app (dps_ts (c2.ts m3) _ _ noLL d2) (.cons hv .nil))
    rcases List.mem_append.mp hd with z | z
    · exact noLs_mem noLL d z
    · rw [List.mem_singleton.mp z]
      exact noL_lot l
  · rcases List.mem_append.mp hl' with z | z
    · exact g2 l' z
    · rw [List.mem_singleton.mp z]
      exact hg
theorem y_lcRng {ta : TA} {i : Nat} {tt : TT} {vl : List Nat} {Q : VK} (h : ta σ H fun vs H1 => ∃ j : Int, vs = [.int j] ∧ -(2 ^ 62) ≤ j ∧ j < 2 ^ 62 ∧ tLc (fun _ H R => R (Itr 0 j.toNat) H) (gName i) tt te vl σ H1 Q) : tLc (iRng1 ta) (gName i) tt te vl σ H Q := h
theorem y_cb1 {r : List V → Hp → VK → Prop} {Q : VK} (h : te σ H fun v H1 => r [v] H1 Q) : tCB r (tCons te tNil) σ H Q := h
/-! ### equality of rows -/
def OkL (L : Lots) : Prop := ∀ l ∈ L, ∀ k ∈ l, PyData.strOk k = true
theorem lay_lot : ∀ {l : Lot}, (∀ k ∈ l, PyData.strOk k = true) → PyData.canLayAll0 (l.map .str) = true
  | [], _ => rfl
  | k :: l, h => by
    show (PyData.strOk k && PyData.canLayAll0 (l.map .str)) = true
    rw [h k List.mem_cons_self, lay_lot fun x hx => h x (List.mem_cons_of_mem _ hx)]
    rfl
theorem lay_lots : ∀ {L : Lots}, OkL L → PyData.canLayAll0 (L.map encLot) = true
  | [], _ => rfl
  | l :: L, h => by
    show (PyData.canLayAll0 (l.map .str) && PyData.canLayAll0 (L.map encLot)) = true
    rw [lay_lot (h l List.mem_cons_self), lay_lots fun x hx => h x (List.mem_cons_of_mem _ hx)]
    rfl
theorem depth_lots : ∀ L : Lots, PyData.depthAll (L.map encLot) ≤ 61
  | [] => by decide
  | l :: L => by
    show max (encLot l).depth (PyData.depthAll (L.map encLot)) ≤ 61
    have := depth_lot l
    have := depth_lots L
    omega
theorem shaped_lot {l : Lot} (h : ∀ k ∈ l, PyData.strOk k = true) : SeqAt.shaped (encLot l) = true := Bool.and_eq_true_iff.mpr ⟨lay_lot h, decide_eq_true (Nat.le_trans (depth_lot l) (by decide))⟩
theorem shaped_lots {L : Lots} (h : OkL L) : SeqAt.shaped (encLots L) = true := Bool.and_eq_true_iff.mpr ⟨lay_lots h, decide_eq_true (by
  show PyData.depthAll (L.map encLot) + 1 ≤ 64
  have := depth_lots L
  omega)⟩
theorem shaped_llist {L : Lots} (h : OkL L) : SeqAt.shaped (.list (L.map encLot)) = true := Bool.and_eq_true_iff.mpr ⟨lay_lots h, decide_eq_true (by
  show PyData.depthAll (L.map encLot) + 1 ≤ 64
  have := depth_lots L
  omega)⟩
theorem eqv_opt {o : Option Lots} (h : ∀ L, o = some L → OkL L) : SeqAt.shaped (optLots o) = true ∧ PyData.eqv (optLots o) (optLots o) = true := by
  have hs : SeqAt.shaped (optLots o) = true := by
    cases o with
    | none => rfl
    | some L => exact shaped_lots (h L rfl)
  exact ⟨hs, PySem.SeqAt.eqv_refl_plain _ (PyData.plain_of_canLay0 _ (Bool.and_eq_true_iff.mp hs).1)⟩
theorem passF {X : Cx} : Passes (L2N.CX X.prog X.w) X (fun _ _ _ => False) := fun _ _ _ _ _ _ _ h => by
  obtain ⟨_, _, _, _, _, _, _, _, _, _, _, _, z⟩ := h
  exact z.elim
theorem yd_more {m m' : Str} {L M : Lots} {o : Option PyData} {r : Option Lots} {E : XK} {t1 t2 t3 : TE} (h1 : Ys K C t1 σ H m L) (h2 : Ys K C t2 σ H m' M) (h3 : Yt K t3 σ H o) (hm : marksB m = true) (hF : Few L) (hG : Few M) (hl : L.length ≤ 40) (hl' : M.length ≤ 40) (hL : L.all (lotB m) = true) (ho : OutIs m m' L M o (.told r)) :
    Yd K (tCall (spMS K C cs) [] E (tCons t1 (tCons t2 (tCons t3 tNil)))) σ H (optLots r) := fun H1 s Q q =>
  h1 H1 s _ fun x H2 s2 hx => h2 H2 (s.trans s2) _ fun y H3 s3 hy => h3 H3 ((s.trans s2).trans s3) _ fun v H4 s4 hv => by
    obtain ⟨o1, o2, o3⟩ := ho
    have key : EndsO K cs H4 Q E (.told r) := by
      cases r with
      | none => exact fun H5 s5 => q _ H5 (((s2.trans s3).trans s4).trans s5) .non
      | some r => exact fun v H5 s5 hv => q v H5 (((s2.trans s3).trans s4).trans s5) hv
    refine ⟨x, y, m, m', L, M, v, o, rfl, hx.same (s3.trans s4), hy.same s4, hv, hm, hF, hG, hl, hl', hL, fun a => ?_, fun a b => ?_, fun T a b d => ?_⟩
    · rw [← o1 a]
      exact key
    · rw [← o2 a b]
      exact key
    · rw [← o3 T a b d]
      exact key
/-! ### _law_four -/
def four (b : Nat) : Lots := [[kABC.getD b ""], [kABC.getD (b + 1) ""], [kABC.getD (b + 2) ""], kABC.drop (b + 3)]
theorem y_pickIx {F : Lots} {v : V} {i : Int} {Q : VK} (hv : Dp K H v (encLots F)) (h0 : 0 ≤ i) (h1 : i < F.length) (q : ∀ u l, Dp K H u (encLot l) → l ∈ F → Q u H) : rIxT K v (.int i) H Q := by
  obtain ⟨a, vs, rfl, g1, g2⟩ := dp_tup hv
  have hl := dps_len g2
  rw [List.length_map] at hl
  obtain ⟨u, hu1, hu2⟩ := at_int (xs := vs) h0 (by omega)
  obtain ⟨d, hd1, hd2⟩ := dps_get g2 hu1
  rw [List.getElem?_map] at hd1
  obtain ⟨l, hl1, rfl⟩ := Option.map_eq_some_iff.mp hd1
  exact ⟨a, vs, i, u, rfl, rfl, g1, hu2, q u l hd2 (List.mem_of_getElem? hl1)⟩
theorem yd_due {L M T : Lots} {E : List Str} {E0' : XK} {ta : TA} (ha : YdA K ta σ H [encLots L, encLots M, .list (E.map .str), encLots T]) (hF : Few L) (hG : Few M) (hT : Few T) (hl : L.length ≤ 100) (h4 : T.length ≤ 4) (hb : ∀ r ∈ rowsTo T 3, Bound (L ++ r) M E 4999) :
    Yd K (tCall (spDue K) [] E0' ta) σ H (optLots (dueOf L M E T)) := fun H1 s Q q => ha H1 s _ fun vs H2 s2 hvs => by
  cases hvs with
  | cons h1 hvs =>
    cases hvs with
    | cons h2 hvs =>
      cases hvs with
      | cons h3 hvs =>
        cases hvs with
        | cons h4' hvs =>
          cases hvs
          exact ⟨_, _, _, _, L, M, E, T, rfl, h1, h2, h3, h4', hF, hG, hT, hl, h4, hb, fun v H3 s3 hv => q v H3 (s2.trans s3) hv⟩
theorem due_ok {L M T : Lots} {E : List Str} (h : OkL T) : ∀ r, dueOf L M E T = some r → OkL r := fun r e l hl => by
  unfold dueOf findL at e
  have hm : r ∈ rowsTo T 3 := List.mem_of_find?_eq_some e
  exact h l ((rows_row hm).2 l hl)
theorem few_bound {L M T : Lots} {E : List Str} {a b n : Nat} (hL : L.length ≤ a) (hM : M.length ≤ b) (hn : 2 ^ (a + 3) * 2 ^ b ≤ n) : ∀ r ∈ rowsTo T 3, Bound (L ++ r) M E n := fun r hr =>
  (bound_le (by rw [List.length_append]; have := (rows_row hr).1; omega) hM).mono hn
theorem out_due {m : Str} {L M T : Lots} (h : oLots m (some (encLots T)) = true) (hL : L.length ≤ 6) (hM : M.length ≤ 5) (hb : ∀ r ∈ rowsTo T 3, Bound (L ++ r) M (kindsOf m) 3000) : OutIs m m L M (some (encLots T)) (.told (dueOf L M (kindsOf m) T)) := by
  have e : scan L M (kindsOf m) (rowsTo T 3) = .told (dueOf L M (kindsOf m) T) := scan_find fun r hr => ⟨by have := (rows_row hr).1; omega, hb r hr⟩
  rw [← e]
  exact out_scan h
def fB (b : Nat) : PyData → PyData
  | .int k => .tuple [.str (kABC.getD (b + k.toNat) "")]
  | d => d
theorem at_abc {n : Nat} (h : n < 8) : atI (kABC.map PyData.str) ((n : Nat) : Int) = some (.str (kABC.getD n "")) := by
  refine atI_nat ?_
  have hl : n < kABC.length := h
  rw [List.getElem?_map, List.getElem?_eq_getElem hl, List.getD_eq_getElem?_getD, List.getElem?_eq_getElem hl]
  rfl
theorem four_ok {b : Nat} (h : b < 5) : Few (four b) ∧ (four b).all (lotB "abc") = true ∧ oLots "abc" (some (encLots (four b))) = true ∧ OkL (four b) ∧ (four b).length = 4 ∧
    PyData.tuple ((((List.range 3).map fun i => PyData.int ((i : Nat) : Int)).map (fB b)) ++ [.tuple ([.str (kABC.getD (b + 3) "")] ++ cutG (kABC.map PyData.str) (some (((b + 4 : Nat)) : Int)) none)]) = encLots (four b) := by
  have : b = 0 ∨ b = 1 ∨ b = 2 ∨ b = 3 ∨ b = 4 := by omega
  rcases this with rfl | rfl | rfl | rfl | rfl <;> exact ⟨few_of (by decide +kernel), by decide +kernel, by decide +kernel, by unfold OkL; decide +kernel, rfl, rfl⟩
def spFour (K : Frag) : Sp := fun vs H Q _ => ∃ t c, vs = [.ref t] ∧ TapeAt H t c ∧ ∀ H', Mut t H H' → TapeAt H' t c → Q (.bl true) H'
theorem sc_law_four : FnScope ["_law_tape_here", "_law_every", "_law_begin", "_law_four_here", "_law_lots_here", "_law_others", "_law_k"] ["_law_tape_here"] (defScope s_law_four) := ⟨rfl, rfl, rfl, by decide +kernel, rfl, by decide +kernel, by decide +kernel⟩
theorem ok_law_four (D : DefAt K mg "_law_four" s_law_four ["_law_tape_here"]) (B : Blt mg) (S : SeatF K mg C fI) (GS : HasI P w K mg base 5 fI ["self", "marks", "lots"] (spSI K))
    (AK : Has P w K mg base CX0 1 "_law_kinds" ["_law_marks_here"] (spD K R_kinds)) (AP : Has P w K mg base CX0 1 "_law_pick" ["_law_tape_here", "_law_many"] (spPick K))
    (A7 : Has P w K mg base (L2N.CX P w) 7 "more_seats" ["one", "other", "lots"] (spMS K C cs)) (AD : Has P w K mg base CX0 3 "_law_due" ["_law_lots_here", "_law_others", "_law_every", "_law_more"] (spDue K)) :
    Has P w K mg base CX0 8 "_law_four" ["_law_tape_here"] (spFour K) := by
  obtain ⟨f, fd, F0, g, b⟩ := D
  obtain ⟨f1, fd1, G1, g1, k1, b1⟩ := AK
  obtain ⟨f2, fd2, G2, g2, k2, b2⟩ := AP
  obtain ⟨f3, fd3, G3, g3, k3, b3⟩ := AD
  obtain ⟨f7, fd7, G7, g7, k7, b7⟩ := A7
  obtain ⟨fdS, GS, bS⟩ := GS
  refine ⟨f, fd, F0.ok sc_law_four (fun vs H Q E h => by obtain ⟨t, c, rfl, _⟩ := h; rfl) (fun cdv A outer s H vs Q E hr h => ?_), g, F0.kp, b⟩
  obtain ⟨t, c, rfl, hc, kq⟩ := h
  have hr1 : Room 1 (A.deeper (envOfC "_law_four" (defScope s_law_four) s.heap.objs.size f cdv)) := hr.mono (by decide)
  have hr6 : Room 6 (A.deeper (envOfC "_law_four" (defScope s_law_four) s.heap.objs.size f cdv)) := hr.mono (by decide)
  refine ⟨_, pss_cons (ps_set (i := 1) sc_law_four.nd rfl (.inr rfl) (pe_call G1 hr1 (by rfl) g1 k1 b1 .nil pass0 (pa_cons pe_str pa_nil)))
    (pss_cons (ps_set (i := 2) sc_law_four.nd rfl (.inr rfl) (pe_call G2 hr1 (by rfl) g2 k2 b2 .nil pass0 (pa_cons (pv 0) (pa_cons pe_int pa_nil))))
    (pss_cons (ps_set (i := 3) sc_law_four.nd rfl (.inr rfl) (pe_callTy call_tuple_of (by rfl) B.tuple boot_tuple (pa_cons (pe_op op_cat
        (pe_lc (own := [("_law_k", 6)]) (g := gName 6) (tt := tYes) rfl sc_law_four.nd (pi_range1 (by rfl) B.range (pa_cons pe_int pa_nil))
          (blkOk_by (N := ["_law_tape_here", "_law_every", "_law_begin", "_law_four_here", "_law_lots_here", "_law_others", "_law_k"]) (sc := defScope s_law_four) (by decide +kernel)) (fun _ _ _ _ _ => pg_name (i := 6) sc_law_four.nd rfl (Or.inl rfl)) (fun _ _ _ _ _ => pts_nil)
          (fun _ _ _ _ _ => pe_tup (pa_cons (pe_ix (r := rIxL K) ix_list (pv 1) (pe_op op_add (pv 2) (pv 6)) (fun _ _ => rfl)) pa_nil)))
        (pe_lst (pa_cons (pe_op op_catA (pe_tup (pa_cons (pe_ix ix_list (pv 1) (pe_op op_add (pv 2) pe_int) (fun _ _ => rfl)) pa_nil))
          (pe_callTy call_tuple_of (by rfl) B.tuple boot_tuple (pa_cons (pe_slice (r := rSlL K) sl_list (pv 1) (po_some (pe_op op_add (pv 2) pe_int)) po_none) pa_nil))) pa_nil))) pa_nil)))
    (pss_cons (ps_set (i := 4) sc_law_four.nd rfl (.inl rfl) (pe_callTy call_tuple_of (by rfl) B.tuple boot_tuple (pa_cons
        (pe_lc (own := [("_law_k", 6)]) (g := gName 6) (tt := tYes) rfl sc_law_four.nd (pi_range1 (by rfl) B.range (pa_cons (pe_call G2 hr1 (by rfl) g2 k2 b2 .nil pass0 (pa_cons (pv 0) (pa_cons pe_int pa_nil))) pa_nil))
          (blkOk_by (N := ["_law_tape_here", "_law_every", "_law_begin", "_law_four_here", "_law_lots_here", "_law_others", "_law_k"]) (sc := defScope s_law_four) (by decide +kernel)) (fun _ _ _ _ _ => pg_name (i := 6) sc_law_four.nd rfl (Or.inl rfl)) (fun _ _ _ _ _ => pts_nil)
          (fun _ _ _ _ _ => pe_ix (r := rIxT K) ix_tup (pv 3) (pe_call G2 hr1 (by rfl) g2 k2 b2 .nil pass0 (pa_cons (pv 0) (pa_cons pe_int pa_nil))) (fun _ _ => rfl))) pa_nil)))
    (pss_cons (ps_set (i := 5) sc_law_four.nd rfl (.inl rfl) (pe_callTy call_tuple_of (by rfl) B.tuple boot_tuple (pa_cons
        (pe_lc (own := [("_law_k", 6)]) (g := gName 6) (tt := tYes) rfl sc_law_four.nd (pi_range1 (by rfl) B.range (pa_cons (pe_op op_add pe_int (pe_call G2 hr1 (by rfl) g2 k2 b2 .nil pass0 (pa_cons (pv 0) (pa_cons pe_int pa_nil)))) pa_nil))
          (blkOk_by (N := ["_law_tape_here", "_law_every", "_law_begin", "_law_four_here", "_law_lots_here", "_law_others", "_law_k"]) (sc := defScope s_law_four) (by decide +kernel)) (fun _ _ _ _ _ => pg_name (i := 6) sc_law_four.nd rfl (Or.inl rfl)) (fun _ _ _ _ _ => pts_nil)
          (fun _ _ _ _ _ => pe_ix (r := rIxT K) ix_tup (pv 3) (pe_ix (r := rIxL K) ix_list (pe_lst (pa_cons pe_int (pa_cons pe_int (pa_cons pe_int (pa_cons pe_int (pa_cons pe_int pa_nil))))))
            (pe_call G2 hr1 (by rfl) g2 k2 b2 .nil pass0 (pa_cons (pv 0) (pa_cons pe_int pa_nil))) (fun _ _ => rfl)) (fun _ _ => rfl))) pa_nil)))
    (pss_one (ps_ret (pe_cmpR (op_eqD hr.units) (pe_call G7 hr (by rfl) g7 k7 b7 .nil (E := fun _ _ _ => False) passF (pa_cons (pe_make S.mks GS hr6 (by rfl) S.g bS .nil pass0 (pa_cons pe_str (pa_cons (pv 4) pa_nil))) (pa_cons (pe_make S.mks GS hr6 (by rfl) S.g bS .nil pass0 (pa_cons pe_str (pa_cons (pv 5) pa_nil))) (pa_cons (pv 3) pa_nil))))
        (pe_call G3 (hr.mono (by decide)) (by rfl) g3 k3 b3 .nil pass0 (pa_cons (pv 4) (pa_cons (pv 5) (pa_cons (pv 1) (pa_cons (pv 3) pa_nil))))) (nomark _)))))))), ?_⟩
  refine y_seq (y_asg (K := K) (yd_call (R := R_kinds) (ya_cons yd_str ya_nil) ⟨"abc", rfl, by decide, rfl⟩) fun ve H1 s1 hve => ?_)
  rw [kinds_abc] at hve
  have c1 := hc.same s1
  dsimp only
  refine y_seq (y_asgK ⟨.ref t, rfl, t, c, 5, rfl, c1, by decide, by decide, fun bi H2 hb0 hb1 m2 c2 => ?_⟩)
  obtain ⟨b', rfl⟩ : ∃ n : Nat, bi = n := ⟨bi.toNat, by omega⟩
  have hb5 : b' < 5 := by omega
  obtain ⟨fF, fL, fO, fK, f4, fE⟩ := four_ok hb5
  have hve2 := c1.strs m2 hve
  dsimp only
  refine y_seq (y_asg (K := K) ((yd_tupOf rfl (YdL.yd (yl_cat (yl_lcm (f := fB b') (ydi_rng1 (ya_cons yd_int ya_nil) (show (3 : Int) ≤ 1000000 by decide) (show (0 : Int) ≤ 3 by decide)) (show 3 ≤ 1000 by decide) (fun d hd => ?_) (fun H5 v d s5 hd hv => ?_))
    (yl_lst (ya_cons (yd_catT (yd_tup (ya_cons (yd_ixL (e := .str (kABC.getD (b' + 3) "")) (yd_var rfl hve2) (yd_add (yd_var rfl (.int b')) yd_int) (at_abc (n := b' + 3) (by omega))) ya_nil) (show 1 ≤ 1000 by decide)) (yd_tupOf rfl (yd_slL (lo := some (((b' + 4 : Nat)) : Int)) (yd_var rfl hve2) (yo_some (K := K) (yd_add (yd_var rfl (.int b')) yd_int)) yo_none)) ?_) ya_nil) (show 1 ≤ 1000 by decide)) ?_))).is fE) fun v3 H3 s3 hv3 => ?_)
  · obtain ⟨i, _, rfl⟩ := List.mem_map.mp hd
    rfl
  · obtain ⟨i, hi, rfl⟩ := List.mem_map.mp hd
    have hi3 : i < 3 := List.mem_range.mp hi
    refine yd_tup (ya_cons (yd_ixL (e := .str (kABC.getD (b' + i) "")) (yd_var rfl (dp_same s5 _ _ hve2)) (yd_add (yd_var rfl (.int b')) (yd_var rfl hv)) ?_) ya_nil) (show 1 ≤ 1000 by decide)
    exact at_abc (n := b' + i) (by omega)
  · have := (cut_sub (kABC.map PyData.str) (some (((b' + 4 : Nat)) : Int)) none).length_le
    have e8 : (kABC.map PyData.str).length = 8 := rfl
    show 1 + _ ≤ 1000
    omega
  · show 3 + 1 ≤ 1000
    decide
  dsimp only
  have c3 := c2.same s3
  have pick4 : ∀ {H4 : Hp} {v : V} {i : Int} {Q5 : VK}, Mut t H3 H4 → v = v3 → 0 ≤ i → i < 4 → (∀ u l, Dp K H4 u (encLot l) → l ∈ four b' → Q5 u H4) → rIxT K v (.int i) H4 Q5 := fun m4 e h0 h1 q5 => by
    subst e
    exact y_pickIx (c3.noL m4 (noL_lots _) hv3) h0 (by rw [f4]; exact h1) q5
  refine y_seq (y_asgK (y_cb1 (y_lcRng ⟨.ref t, rfl, t, c, 2, rfl, c3, by decide, by decide, fun n H4 hn0 hn1 m4 c4 => ⟨n, rfl, by omega, by omega, y_lcPick (K := K) (n := n.toNat) c4 (fun l => l ∈ four b') (by omega) (fun x H5 m5 c5 Q5 q5 => ?_) (fun D vs L H5 m5 c5 e5 d5 l5 g5 => ⟨D, vs, rfl, .inl ⟨SqL.of e5, fun p hp => ?_⟩⟩)⟩⟩)))
  · exact ⟨v3, rfl, .ref t, rfl, t, c, 4, rfl, c5, by decide, by decide, fun i H6 hi0 hi1 m6 c6 => pick4 ((m4.trans m5).trans m6) rfl hi0 hi1 fun u l hu hl => q5 u l H6 m6 c6 hu hl⟩
  have d6 : Dp K (upd H5 p (.tup vs)) (.ref p) (encLots L) := dp_newT d5 hp
  have c6 := c5.same (same_new (o := .tup vs) hp)
  have m6 : Mut t H3 (upd H5 p (.tup vs)) := (m4.trans m5).trans (Mut.same (same_new hp))
  have l6 : L.length ≤ 1 := by omega
  have hLL : L.all (lotB "abc") = true := List.all_eq_true.mpr fun l hl => List.all_eq_true.mp fL l (g5 l hl)
  have hLF : Few L := few_sub fF (by omega) g5
  generalize upd H5 p (.tup vs) = H6 at d6 c6 m6
  dsimp only
  refine y_seq (y_asgK (y_cb1 (y_lcRng ⟨.ref t, rfl, t, c, 2, rfl, c6, by decide, by decide, fun n7 H7 hn0 hn1 m7 c7 => ⟨1, n7, rfl, rfl, 1 + n7, rfl, by omega, by omega, y_lcPick (K := K) (n := (1 + n7).toNat) c7 (fun l => l ∈ four b') (by omega) (fun x H8 m8 c8 Q5 q5 => ?_) (fun D vs M H8 m8 c8 e8 d8 l8 g8 => ⟨D, vs, rfl, .inl ⟨SqL.of e8, fun p2 hp2 => ?_⟩⟩)⟩⟩)))
  · refine ⟨v3, rfl, by decide, fun p3 hp3 => ⟨.ref t, rfl, t, c, 5, rfl, c8.same (same_new hp3), by decide, by decide, fun i H9 hi0 hi1 m9 c9 => ?_⟩⟩
    have npt : p3 ≠ t := fun z => by
      obtain ⟨xs, hx⟩ := c8.mem
      rw [z, hx] at hp3
      cases hp3
    obtain ⟨u, hu1, hu2⟩ := at_int (xs := [V.int 3, .int 3, .int 0, .int 1, .int 2]) hi0 hi1
    have hj : ∃ j : Int, u = .int j ∧ 0 ≤ j ∧ j < 4 := by
      have hm := List.mem_of_getElem? hu1
      simp only [List.mem_cons, List.not_mem_nil, or_false] at hm
      rcases hm with rfl | rfl | rfl | rfl | rfl <;> exact ⟨_, rfl, by decide, by decide⟩
    obtain ⟨j, rfl, j0, j1⟩ := hj
    have m39 : Mut t H3 H9 := (((m6.trans m7).trans m8).trans (Mut.same (same_new hp3))).trans m9
    exact ⟨p3, _, i, .int j, rfl, rfl, SqL.of (m9 p3 _ npt upd_same), hu2, pick4 m39 rfl j0 j1 fun u l hu hl => q5 u l H9 ((Mut.same (same_new hp3)).trans m9) c9 hu hl⟩
  have d9 : Dp K (upd H8 p2 (.tup vs)) (.ref p2) (encLots M) := dp_newT d8 hp2
  have c9 := c8.same (same_new (o := .tup vs) hp2)
  have m9 : Mut t H6 (upd H8 p2 (.tup vs)) := (m7.trans m8).trans (Mut.same (same_new hp2))
  have l9 : M.length ≤ 2 := by omega
  have hMM : M.all (lotB "abc") = true := List.all_eq_true.mpr fun l hl => List.all_eq_true.mp fL l (g8 l hl)
  have hMF : Few M := few_sub fF (by omega) g8
  generalize upd H8 p2 (.tup vs) = H9 at d9 c9 m9
  dsimp only
  have m39 := m6.trans m9
  have hv9 := c3.noL m39 (noL_lots _) hv3
  have hve9 := c2.strs ((Mut.same s3).trans m39) hve2
  have hL9 := c6.noL m9 (noL_lots _) d6
  have mabc : marksB "abc" = true := by decide +kernel
  have hb : ∀ n, 64 ≤ n → ∀ r ∈ rowsTo (four b') 3, Bound (L ++ r) M kABC n := fun n hn => few_bound (a := 1) (b := 2) l6 l9 (Nat.le_trans (by decide) hn)
  have hout : OutIs "abc" "abc" L M (some (encLots (four b'))) (.told (dueOf L M kABC (four b'))) := by
    have := out_due (m := "abc") (L := L) (M := M) fO (by omega) (by omega) (by rw [kinds_abc]; exact hb 3000 (by decide))
    rwa [kinds_abc] at this
  obtain ⟨eo1, eo2⟩ := eqv_opt (o := dueOf L M kABC (four b')) (due_ok fK)
  refine y_ret (K := K) ((yd_eqD (yd_more (ys_make S (m := "abc") (ya_cons yd_str (ya_cons (yd_var rfl hL9) ya_nil)) mabc hLF (by omega) hLL) (ys_make S (m := "abc") (ya_cons yd_str (ya_cons (yd_var rfl d9) ya_nil)) mabc hMF (by omega) hMM) (yt_var (o := some (encLots (four b'))) rfl ⟨hv9, short_lots fF⟩) mabc hLF hMF (by omega) (by omega) hLL hout)
    (yd_due (ya_cons (yd_var rfl hL9) (ya_cons (yd_var rfl d9) (ya_cons (yd_var rfl hve9) (ya_cons (yd_var rfl hv9) ya_nil)))) hLF hMF fF (by omega) (by omega) (hb 4999 (by decide))) eo1 eo1).is (by rw [eo2])) fun v' H10 s10 hv' => ?_
  rw [dp_bool hv']
  exact kq H10 ((((((Mut.same s1).trans m2).trans (Mut.same s3)).trans m6).trans m9).trans (Mut.same s10)) (c9.same s10)
end
end K15

/-! The law's def. -/
namespace K15
open PySem PySem.Spec PyProof.Rows L2
section
variable {P : Program} {w : World} {K : Frag} {mg : Mg} {base : Heap} {C fI fT : Addr} {cs : Cls3} {cS cL : Addr} {σ : St} {H : Hp} {te : TE} {t c : Addr}
theorem yd_mp {E : XK} : Yd K (tCall spMP [] E tNil) σ H (.int 3000) := fun H1 s Q q => ⟨rfl, fun H2 s2 => q _ H2 s2 (.int _)⟩
theorem y_pick0 {j : Nat} {n : Int} {E : XK} {Q : Bool → Hp → Prop} (hj : σ[j]? = some (some (.ref t))) (hc : TapeAt H t c) (h0 : 0 < n) (h1 : n < 1073741824) (q : ∀ b H2, Mut t H H2 → TapeAt H2 t c → Q b H2) :
    tTest (tOp rEq (tCall (spPick K) [] E (tCons (tVar j) (tCons (tC (.int n)) tNil))) (tC (.int 0))) σ H Q :=
  ⟨.ref t, hj, t, c, n, rfl, hc, h0, h1, fun i H2 _ _ m2 c2 => ⟨rfl, _, rfl, q _ H2 m2 c2⟩⟩
theorem y_andB {tt tu : TT} {Q : Bool → Hp → Prop} (h : tt σ H fun b H1 => if b = true then tu σ H1 Q else Q false H1) : tAnd tt tu σ H Q := h
theorem yd_sortL {ta : TE} {W : Lots} {r : List V → Hp → VK → Prop} (hr : r = rSortD K) (hl : W.length ≤ 1000) (h0 : ∀ l ∈ W, l ≠ []) (h : Yd K ta σ H (.list (W.map encLot))) : Yd K (tCB r (tCons ta tNil)) σ H (.list (sortD (W.map encLot))) := by
  subst hr
  refine fun H1 s Q q => h H1 s _ fun v H2 s2 hv => ⟨v, _, rfl, hv, noLs_of (fun d hd => ?_), ?_, (sharp_lots W).1, .inl fun d hd => ?_, fun d hd => ?_, fun w H' s3 hw => q w H' (s2.trans s3) ?_⟩
  · obtain ⟨l, _, rfl⟩ := List.mem_map.mp hd
    exact noL_lot l
  · rw [List.length_map]
    omega
  · obtain ⟨l, hl, rfl⟩ := List.mem_map.mp hd
    cases l with
    | nil => exact absurd rfl (h0 _ hl)
    | cons k l => exact ⟨.str k, l.map .str, rfl⟩
  · obtain ⟨l, _, rfl⟩ := List.mem_map.mp hd
    have := depth_lot l
    omega
  · exact hw
theorem enc_back : ∀ {ds : List PyData}, (∀ d ∈ ds, ∃ l, d = encLot l) → ∃ T : Lots, ds = T.map encLot
  | [], _ => ⟨[], rfl⟩
  | d :: ds, h => by
    obtain ⟨l, rfl⟩ := h _ List.mem_cons_self
    obtain ⟨T, rfl⟩ := enc_back (ds := ds) fun d hd => h d (List.mem_cons_of_mem _ hd)
    exact ⟨l :: T, rfl⟩
theorem sort_lots {W : Lots} (hn : W.Nodup) : ∃ T : Lots, sortD (W.map encLot) = T.map encLot ∧ T.length = W.length ∧ (∀ l ∈ T, l ∈ W) ∧ ascD (T.map encLot) = true := by
  obtain ⟨T, e⟩ := enc_back (ds := sortD (W.map encLot)) fun d hd => by
    obtain ⟨l, _, rfl⟩ := List.mem_map.mp ((sort_perm _).mem_iff.mp hd)
    exact ⟨l, rfl⟩
  have hp := sort_perm (W.map encLot)
  rw [e] at hp
  refine ⟨T, e, by have := hp.length_eq; rwa [List.length_map, List.length_map] at this, fun l hl => ?_, ?_⟩
  · obtain ⟨k, hk, ek⟩ := List.mem_map.mp (hp.mem_iff.mp (List.mem_map.mpr ⟨l, hl, rfl⟩))
    rw [← encLot_inj ek]
    exact hk
  · rw [← e]
    exact asc_of (sort_asc (sharp_lots W) (List.pairwise_map.mpr (hn.imp fun h e => h (encLot_inj e))))
theorem any_lots (l : Lot) (W : Lots) : ((W.map encLot).any fun z => PyData.eqv z (encLot l)) = decide (l ∈ W) := by
  induction W with
  | nil => rfl
  | cons k W ih =>
    rw [List.map_cons, List.any_cons, ih, eqv_lot]
    by_cases h : k = l
    · subst h
      simp
    · have h' : ¬ l = k := fun z => h z.symm
      simp [h, h']
def PL (K : Frag) (ks : List Str) (H : Hp) (v : V) : Prop := ∃ M, Dp K H v (encLots M) ∧ M.length ≤ 4 ∧ GoodL ks M
theorem PL.mut {ks : List Str} {H H' : Hp} {v : V} (hc : TapeAt H t c) (m : Mut t H H') (h : PL K ks H v) : PL K ks H' v := by
  obtain ⟨M, h1, h2, h3⟩ := h
  exact ⟨M, hc.noL m (noL_lots M) h1, h2, h3⟩
theorem catA_dp {v u : V} {xs ys : List PyData} {Q : VK} (hv : Dp K H v (.tuple xs)) (hu : Dp K H u (.tuple ys)) (hl : xs.length + ys.length ≤ 1000) (q : ∀ x H2, Same H H2 → Dp K H2 x (.tuple (xs ++ ys)) → Q x H2) : rCatA K v u H Q := by
  obtain ⟨v', e1, u', e2, h⟩ := (yd_catT (ta := tVar 0) (tb := tVar 1) (σ := [some v, some u]) (yd_var rfl hv) (yd_var rfl hu) hl) H (Same.refl _) Q q
  cases e1
  cases e2
  exact h
theorem marks3_ok {m : Str} (h : Marks3 m) : ∀ k ∈ kindsOf m, PyData.strOk k = true := by
  rcases h with rfl | rfl | rfl
  · rw [kinds_a]
    decide +kernel
  · rw [kinds_ab]
    decide +kernel
  · rw [kinds_b]
    decide +kernel
theorem good_ok {m : Str} (h : Marks3 m) {L : Lots} (g : GoodL (kindsOf m) L) : OkL L := fun l hl k hk => marks3_ok h k ((g l hl).2.subset hk)
open Classical in
theorem yd_lnf {L M : Lots} {E : List Str} {E' : XK} {ta : TA} (ha : YdA K ta σ H [encLots L, encLots M, .list (E.map .str)]) (hF : Few L) (hG : Few M) (hb : Bound L M E 4999) : Yd K (tCall (spLNF K) [] E' ta) σ H (.bool (decide (Never L M E))) := fun H1 s Q q => ha H1 s _ fun vs H2 s2 hvs => by
  cases hvs with
  | cons h1 hvs =>
    cases hvs with
    | cons h2 hvs =>
      cases hvs with
      | cons h3 hvs =>
        cases hvs
        refine ⟨_, _, _, L, M, E, rfl, h1, h2, h3, hF, hG, hb, fun b H3 hiff s3 => ?_⟩
        have e : b = decide (Never L M E) := by
          by_cases hn : Never L M E
          · rw [decide_eq_true hn]
            exact hiff.mpr hn
          · rw [decide_eq_false hn]
            exact Bool.eq_false_iff.mpr fun z => hn (hiff.mp z)
        rw [e]
        exact q _ H3 (s2.trans s3) (.bl _)
open Classical in
theorem due_empty {L M T : Lots} {E : List Str} : PyData.eqv (optLots (dueOf L M E T)) (encLots []) = decide (Never L M E) := by
  obtain ⟨rs, e⟩ := rows_head T
  by_cases hn : Never L M E
  · have : dueOf L M E T = some [] := by
      unfold dueOf findL
      rw [e, List.find?_cons_of_pos (by rw [List.append_nil]; exact decide_eq_true hn)]
    rw [this, decide_eq_true hn]
    rfl
  · rw [decide_eq_false hn]
    cases hd : dueOf L M E T with
    | none => rfl
    | some r =>
      cases r with
      | nil =>
        unfold dueOf findL at hd
        have := List.find?_some hd
        rw [List.append_nil, decide_eq_true_eq] at this
        exact absurd this hn
      | cons l r => rfl
theorem opt_shape (r : Option Lots) : (!noneD (optLots r) && !isTup (optLots r)) = false := by
  cases r <;> rfl
def spLaw (K : Frag) : Sp := fun vs H Q _ => ∃ a, ∃ ns : List Int, vs = [.ref a] ∧ SqL K H a (ns.map V.int) ∧ ∀ H', Q (.bl true) H'
theorem sc_law : FnScope ["_law_script", "_law_tape_here", "_law_marks_here", "_law_every", "_law_lots_here", "_law_others", "_law_more", "_law_k", "_law_lot_here", "_law_one", "_law_other", "_law_told", "_law_due_here"] ["_law_script"] (defScope s_law) := ⟨rfl, rfl, rfl, by decide +kernel, rfl, by decide +kernel, by decide +kernel⟩
theorem ok_law {f : Addr} {fd : FuncData} (F0 : FnP K "law" s_law f fd) (B : Blt mg) (S : SeatF K mg C fI) (GS : HasI P w K mg base 5 fI ["self", "marks", "lots"] (spSI K))
    (AT : Has P w K mg base CX0 1 "_law_tape" ["_law_script"] (spTape K)) (AP : Has P w K mg base CX0 1 "_law_pick" ["_law_tape_here", "_law_many"] (spPick K)) (AK : Has P w K mg base CX0 1 "_law_kinds" ["_law_marks_here"] (spD K R_kinds))
    (AL : Has P w K mg base CX0 2 "_law_lot" ["_law_tape_here", "_law_every"] (spLot K)) (ALL : Has P w K mg base CX0 3 "_law_lots" ["_law_tape_here", "_law_every", "_law_most"] (spLotsL K))
    (AM : Has P w K mg base CX0 8 "_law_many_pairs" [] spMP) (AF : Has P w K mg base CX0 8 "_law_four" ["_law_tape_here"] (spFour K)) (A7 : Has P w K mg base (L2N.CX P w) 7 "more_seats" ["one", "other", "lots"] (spMS K C cs))
    (AD : Has P w K mg base CX0 3 "_law_due" ["_law_lots_here", "_law_others", "_law_every", "_law_more"] (spDue K)) (AN : Has P w K mg base CX0 2 "_law_never_fewer" ["_law_lots_here", "_law_others", "_law_every"] (spLNF K))
    (AR : Has P w K mg base CX0 9 "_law_refuses" ["_law_tape_here", "_law_marks_here", "_law_every", "_law_one", "_law_more"] (spRefuses K C)) :
    FnOk P w K mg base CX0 10 f fd ["_law_script"] (spLaw K) := by
  obtain ⟨f1, fd1, G1, g1, k1, b1⟩ := AT
  obtain ⟨f2, fd2, G2, g2, k2, b2⟩ := AP
  obtain ⟨f3, fd3, G3, g3, k3, b3⟩ := AK
  obtain ⟨f4, fd4, G4, g4, k4, b4⟩ := AL
  obtain ⟨f5, fd5, G5, g5, k5, b5⟩ := ALL
  obtain ⟨f6, fd6, G6, g6, k6, b6⟩ := AM
  obtain ⟨f7, fd7, G7, g7, k7, b7⟩ := A7
  obtain ⟨f8, fd8, G8, g8, k8, b8⟩ := AF
  obtain ⟨f9, fd9, G9, g9, k9, b9⟩ := AD
  obtain ⟨fa, fda, Ga, ga, ka, ba⟩ := AN
  obtain ⟨fb, fdb, Gb, gb, kb, bb⟩ := AR
  obtain ⟨fdS, GS, bS⟩ := GS
  refine F0.ok sc_law (fun vs H Q E h => by obtain ⟨a, ns, rfl, _⟩ := h; rfl) (fun cdv A outer s H vs Q E hr h => ?_)
  obtain ⟨a, ns, rfl, hs, kq⟩ := h
  have hr1 : Room 1 (A.deeper (envOfC "law" (defScope s_law) s.heap.objs.size f cdv)) := hr.mono (by decide)
  have hr2 : Room 2 (A.deeper (envOfC "law" (defScope s_law) s.heap.objs.size f cdv)) := hr.mono (by decide)
  have hr3 : Room 3 (A.deeper (envOfC "law" (defScope s_law) s.heap.objs.size f cdv)) := hr.mono (by decide)
  have hr6 : Room 6 (A.deeper (envOfC "law" (defScope s_law) s.heap.objs.size f cdv)) := hr.mono (by decide)
  have hr8 : Room 8 (A.deeper (envOfC "law" (defScope s_law) s.heap.objs.size f cdv)) := hr.mono (by decide)
  have hr7 : Room 7 (A.deeper (envOfC "law" (defScope s_law) s.heap.objs.size f cdv)) := hr.mono (by decide)
  refine ⟨_, pss_cons (ps_set (i := 1) sc_law.nd rfl (.inl rfl) (pe_call G1 hr1 (by rfl) g1 k1 b1 .nil pass0 (pa_cons (pv 0) pa_nil)))
    (pss_cons (ps_if (PW.pt (pw_and (pt_cmpR op_eq (pe_call G2 hr1 (by rfl) g2 k2 b2 .nil pass0 (pa_cons (pv 1) (pa_cons pe_int pa_nil))) pe_int (nomark _)) (pw_and1 (pt_cmpR op_ne (pe_call0 G6 hr8 (by rfl) g6 k6 b6 .nil pass0) pe_int (nomark _)))))
      (pss_one (ps_ret pe_bl)) pss_nil)
    (pss_cons (ps_set (i := 2) sc_law.nd rfl (.inl rfl) (pe_ix ix_list (pe_lst (pa_cons pe_str (pa_cons pe_str (pa_cons pe_str pa_nil)))) (pe_call G2 hr1 (by rfl) g2 k2 b2 .nil pass0 (pa_cons (pv 1) (pa_cons pe_int pa_nil))) (fun _ _ => rfl)))
    (pss_cons (ps_set (i := 3) sc_law.nd rfl (.inl rfl) (pe_call G3 hr1 (by rfl) g3 k3 b3 .nil pass0 (pa_cons (pv 2) pa_nil)))
    (pss_cons (ps_set (i := 4) sc_law.nd rfl (.inl rfl) (pe_call G5 hr3 (by rfl) g5 k5 b5 .nil pass0 (pa_cons (pv 1) (pa_cons (pv 3) (pa_cons pe_int pa_nil)))))
    (pss_cons (ps_set (i := 5) sc_law.nd rfl (.inl rfl) (pe_ix ix_list (pe_lst (pa_cons (pe_call G5 hr3 (by rfl) g5 k5 b5 .nil pass0 (pa_cons (pv 1) (pa_cons (pv 3) (pa_cons pe_int pa_nil))))
        (pa_cons (pe_revT (pv 4))
        (pa_cons (pe_op op_catA (pv 4) (pe_tup (pa_cons (pe_call G4 hr2 (by rfl) g4 k4 b4 .nil pass0 (pa_cons (pv 1) (pa_cons (pv 3) pa_nil))) pa_nil)))
        (pa_cons (pe_slice (r := rSlA K) sl_tupA (pv 4) (po_some pe_int) po_none) pa_nil)))))
        (pe_call G2 hr1 (by rfl) g2 k2 b2 .nil pass0 (pa_cons (pv 1) (pa_cons pe_int pa_nil))) (fun _ _ => rfl)))
    (pss_cons (ps_set (i := 6) sc_law.nd rfl (.inl rfl) (pe_lst pa_nil))
    (pss_cons (ps_for (passes_of rfl) rfl (pi_range1 (by rfl) B.range (pa_cons (pe_op op_add pe_int (pe_call G2 hr1 (by rfl) g2 k2 b2 .nil pass0 (pa_cons (pv 1) (pa_cons pe_int pa_nil)))) pa_nil)) (pg_name (i := 7) sc_law.nd rfl (.inl rfl))
      (pss_cons (ps_set (i := 8) sc_law.nd rfl (.inl rfl) (pe_call G4 hr2 (by rfl) g4 k4 b4 .nil pass0 (pa_cons (pv 1) (pa_cons (pv 3) pa_nil))))
      (pss_one (ps_if (pt_cmpR (op_notInD (room65 hr)) (pv 8) (pv 6) rfl)
        (pss_one (ps_expr (pe_bm PySem.F.plainAttrs_list PySem.F.slot_list_append PySem.F.type_list_append mt_append (pv 6) (pa_cons (pv 8) pa_nil)))) pss_nil))))
    (pss_cons (ps_set (i := 6) sc_law.nd rfl (.inl rfl) (pe_callTy call_tuple_of (by rfl) B.tuple boot_tuple (pa_cons (pe_callB (cr_sortD hr.units) (by rfl) B.sorted PyProof.Rows.boot_sorted (pa_cons (pv 6) pa_nil)) pa_nil)))
    (pss_cons (ps_set (i := 9) sc_law.nd rfl (.inl rfl) (pe_make S.mks GS hr6 (by rfl) S.g bS .nil pass0 (pa_cons (pv 2) (pa_cons (pv 4) pa_nil))))
    (pss_cons (ps_set (i := 10) sc_law.nd rfl (.inl rfl) (pe_make S.mks GS hr6 (by rfl) S.g bS .nil pass0 (pa_cons (pv 2) (pa_cons (pv 5) pa_nil))))
    (pss_cons (ps_if (PW.pt (pw_and (pt_cmpR op_eq (pe_call G2 hr1 (by rfl) g2 k2 b2 .nil pass0 (pa_cons (pv 1) (pa_cons pe_int pa_nil))) pe_int (nomark _)) (pw_and1 (pt_not (pt_val (pe_call G8 hr8 (by rfl) g8 k8 b8 .nil pass0 (pa_cons (pv 1) pa_nil)))))))
      (pss_one (ps_ret pe_bl)) pss_nil)
    (pss_cons (ps_set (i := 11) sc_law.nd rfl (.inl rfl) (pe_call G7 hr7 (by rfl) g7 k7 b7 .nil (E := fun _ _ _ => False) passF (pa_cons (pv 9) (pa_cons (pv 10) (pa_cons (pv 6) pa_nil)))))
    (pss_cons (ps_set (i := 12) sc_law.nd rfl (.inl rfl) (pe_call G9 hr3 (by rfl) g9 k9 b9 .nil pass0 (pa_cons (pv 4) (pa_cons (pv 5) (pa_cons (pv 3) (pa_cons (pv 6) pa_nil))))))
    (pss_cons (ps_if (PW.pt (pw_or (pt_cmpR (op_neD hr.units) (pv 11) (pv 12) (nomark _)) (pw_or1 (PW.pt (pw_and (pt_cmpR op_notN (pv 11) pe_non (nomark _)) (pw_and1 (pt_not (pt_val (pe_callB call_isi (by rfl) B.isinstance PyProof.Rows.boot_isinstance (pa_cons (pv 11) (pa_cons (pe_bltn (v := .ty "tuple") (by rfl) B.tuple boot_tuple rfl) pa_nil))))))))))) 
      (pss_one (ps_ret pe_bl)) pss_nil)
    (pss_cons (ps_if (pt_cmpR op_ne (pe_cmpR (op_eqD hr.units) (pv 11) (pe_tup pa_nil) (nomark _)) (pe_call Ga hr2 (by rfl) ga ka ba .nil pass0 (pa_cons (pv 4) (pa_cons (pv 5) (pa_cons (pv 3) pa_nil)))) (nomark _))
      (pss_one (ps_ret pe_bl)) pss_nil)
    (pss_one (ps_ret (pe_call Gb hr (by rfl) gb kb bb .nil pass0 (pa_cons (pv 1) (pa_cons (pv 2) (pa_cons (pv 3) (pa_cons (pv 9) (pa_cons (pv 6) pa_nil))))))))))))))))))))))), ?_⟩
  refine y_seq (y_asgK ⟨.ref a, rfl, a, ns, rfl, hs, fun t c H1 s1 n1 c1 => ?_⟩)
  dsimp only
  refine y_joinQ (fun σ' H' => σ' = [some (.ref a), some (.ref t), none, none, none, none, none, none, none, none, none, none, none] ∧ TapeAt H' t c) (fun σ' H2 hJ => ?_) (fun NN kk => ?_)
  rotate_left
  · refine y_andB (y_pick0 (K := K) (j := 1) rfl c1 (by decide) (by decide) fun b2 H2 m2 c2 => ?_)
    cases b2 with
    | false => exact iteF (iteF (kk _ _ ⟨rfl, c2⟩))
    | true =>
      refine iteT ?_
      exact (yt_test (yd_neI (K := K) yd_mp yd_int)) H2 (Same.refl _) _ fun H3 s3 => iteF (kk _ _ ⟨rfl, c2.same s3⟩)
  obtain ⟨rfl, c2⟩ := hJ
  refine y_seq (y_asgK ⟨by decide, fun p hp => ⟨.ref t, rfl, t, c, 3, rfl, c2.same (same_new hp), by decide, by decide, fun i H3 hi0 hi1 m3 c3 => ?_⟩⟩)
  have npt : p ≠ t := fun z => by
    obtain ⟨xs, hx⟩ := c2.mem
    rw [z, hx] at hp
    cases hp
  obtain ⟨u, hu1, hu2⟩ := at_int (xs := [V.str "a", .str "ab", .str "b"]) hi0 hi1
  have hj : ∃ m : Str, u = .str m ∧ Marks3 m := by
    have hm := List.mem_of_getElem? hu1
    simp only [List.mem_cons, List.not_mem_nil, or_false] at hm
    rcases hm with rfl | rfl | rfl
    · exact ⟨_, rfl, .inl rfl⟩
    · exact ⟨_, rfl, .inr (.inl rfl)⟩
    · exact ⟨_, rfl, .inr (.inr rfl)⟩
  obtain ⟨m, rfl, h3⟩ := hj
  refine ⟨p, _, i, .str m, rfl, rfl, SqL.of (m3 p _ npt upd_same), hu2, ?_⟩
  obtain ⟨q1, q2, ⟨kr, hkr⟩, hk8, q4, hm, q6, q7, hml⟩ := marks3_kinds h3
  have hk0 : 0 < (kindsOf m).length := by rw [hkr]; exact Nat.zero_lt_succ _
  dsimp only
  refine y_seq (y_asg (K := K) (yd_call (R := R_kinds) (ya_cons (yd_var rfl (.str m)) ya_nil) ⟨m, rfl, hml, rfl⟩) fun ve H4 s4 hve => ?_)
  have c4 := c3.same s4
  dsimp only
  refine y_seq (y_asgK ⟨.ref t, rfl, ve, rfl, t, c, ve, kindsOf m, 3, rfl, c4, hve, hk0, hk8, by decide, fun v4 L H5 m5 c5 d4 l4 g4 => ?_⟩)
  dsimp only
  have hveM : ∀ {H' : Hp}, Mut t H4 H' → Dp K H' ve (.list ((kindsOf m).map .str)) := fun m' => c4.strs m' hve
  have d4M : ∀ {H' : Hp}, Mut t H5 H' → Dp K H' v4 (encLots L) := fun m' => c5.noL m' (noL_lots L) d4
  -- others
  refine y_seq (y_asgK ⟨.ref t, rfl, ve, rfl, t, c, ve, kindsOf m, 3, rfl, c5, hveM m5, hk0, hk8, by decide, fun w1 M1 H6 m6 c6 e1 l1 g1' => ?_⟩)
  refine (yd_rev (K := K) (yd_var (i := 4) rfl (d4M m6))) H6 (Same.refl _) _ fun w2 H7 s7 e2 => ?_
  have c7 := c6.same s7
  have m57 := m6.trans (Mut.same s7)
  refine ⟨v4, rfl, .ref t, rfl, ve, rfl, t, c, ve, kindsOf m, rfl, c7, hveM (m5.trans m57), hk0, hk8, fun wl l H8 m8 c8 el hne hsub => ⟨(show 1 ≤ sizeLine by decide), fun pt hpt => ?_⟩⟩
  have n8 := same_new (o := .tup [wl]) hpt
  have dl : Dp K (upd H8 pt (.tup [wl])) (.ref pt) (.tuple [encLot l]) := dp_newT (.cons el .nil) hpt
  have c8' := c8.same n8
  have m78 : Mut t H7 (upd H8 pt (.tup [wl])) := m8.trans (Mut.same n8)
  generalize upd H8 pt (.tup [wl]) = H8' at dl c8' m78
  refine catA_dp (K := K) (xs := L.map encLot) (d4M (m57.trans m78)) dl (by rw [List.length_map]; show L.length + 1 ≤ 1000; omega) fun w3 H9 s9 e3 => ?_
  have c9 := c8'.same s9
  have m59 := (m57.trans m78).trans (Mut.same s9)
  refine (yd_slA (K := K) (lo := some 1) (hi := none) (yd_var (i := 4) rfl (d4M m59)) (yo_some (K := K) yd_int) yo_none) H9 (Same.refl _) _ fun w4 H10 s10 e4 => ⟨(show 4 ≤ sizeLine by decide), fun po hpo => ?_⟩
  have c10 := c9.same s10
  have m79 : Mut t H7 H9 := m78.trans (Mut.same s9)
  have P1 : PL K (kindsOf m) H10 w1 := ⟨M1, c6.noL (((Mut.same s7).trans m79).trans (Mut.same s10)) (noL_lots M1) e1, by omega, g1'⟩
  have P2 : PL K (kindsOf m) H10 w2 := by
    refine ⟨L.reverse, ?_, by rw [List.length_reverse]; omega, fun l hl => g4 l (List.mem_reverse.mp hl)⟩
    have := c7.noL (m79.trans (Mut.same s10)) (d := .tuple (L.map encLot).reverse) (by rw [← List.map_reverse]; exact noL_lots _) e2
    rw [← List.map_reverse] at this
    exact this
  have P3 : PL K (kindsOf m) H10 w3 := by
    refine ⟨L ++ [l], ?_, by rw [List.length_append]; show L.length + 1 ≤ 4; omega, fun x hx => ?_⟩
    · have := dp_same s10 _ _ e3
      rw [show (L.map encLot ++ [encLot l]) = (L ++ [l]).map encLot by rw [List.map_append]; rfl] at this
      exact this
    · rcases List.mem_append.mp hx with z | z
      · exact g4 x z
      · rw [List.mem_singleton.mp z]
        exact ⟨hne, hsub⟩
  have P4 : PL K (kindsOf m) H10 w4 := by
    refine ⟨cutG L (some 1) none, ?_, by have := (cut_sub L (some 1) none).length_le; omega, fun x hx => g4 x ((cut_sub L (some 1) none).subset hx)⟩
    rw [cut_map] at e4
    exact e4
  have n10 := same_new (o := .lst [w1, w2, w3, w4]) hpo
  have npo : po ≠ t := fun z => by
    obtain ⟨xs, hx⟩ := c10.mem
    rw [z, hx] at hpo
    cases hpo
  refine ⟨.ref t, rfl, t, c, 4, rfl, c10.same n10, by decide, by decide, fun i2 H11 i20 i21 m11 c11 => ?_⟩
  obtain ⟨v5, hv1, hv2⟩ := at_int (xs := [w1, w2, w3, w4]) i20 i21
  have P5 : PL K (kindsOf m) H11 v5 := by
    refine PL.mut c10 ((Mut.same n10).trans m11) ?_
    have hm := List.mem_of_getElem? hv1
    simp only [List.mem_cons, List.not_mem_nil, or_false] at hm
    rcases hm with rfl | rfl | rfl | rfl
    · exact P1
    · exact P2
    · exact P3
    · exact P4
  refine ⟨po, _, i2, v5, rfl, rfl, SqL.of (m11 po _ npo upd_same), hv2, ?_⟩
  obtain ⟨M, d5, l5, g5'⟩ := P5
  have m511 : Mut t H5 H11 := ((m59.trans (Mut.same s10)).trans (Mut.same n10)).trans m11
  have d4' := d4M m511
  have hve11 := hveM (m5.trans m511)
  clear P1 P2 P3 P4
  dsimp only
  -- more
  refine y_seqLst ⟨Nat.zero_le _, fun al hal => ?_⟩
  have nal : al ≠ t := fun z => by
    obtain ⟨xs, hx⟩ := c11.mem
    rw [z, hx] at hal
    cases hal
  have n11 := same_new (o := .lst []) hal
  have c12 := c11.same n11
  have e12 : (upd H11 al (.lst [])) al = some (.lst []) := upd_same
  generalize hH12 : upd H11 al (.lst []) = H12 at n11 c12 e12
  refine y_seq ⟨.ref t, rfl, t, c, 3, rfl, c12, by decide, by decide, fun n H13 hn0 hn1 m13 c13 => ⟨1, n, rfl, rfl, 1 + n, rfl, by omega, by omega, ?_⟩⟩
  refine for_it walk_range (fun i σ' H' => ∃ ls, ∃ W : Lots, ∃ u7 u8, σ' = [some (.ref a), some (.ref t), some (.str m), some ve, some v4, some v5, some (.ref al), u7, u8, none, none, none, none] ∧ Mut t H11 H' ∧ TapeAt H' t c ∧ H' al = some (.lst ls) ∧ DpAll K H' ls (W.map encLot) ∧ W.Nodup ∧ W.length ≤ i ∧ (1 ≤ i → 1 ≤ W.length) ∧ GoodL (kindsOf m) W)
    ⟨[], [], none, none, rfl, (Mut.same n11).trans m13, c13, m13 al _ nal e12, .nil, .nil, Nat.le_refl _, fun z => absurd z (by decide), fun _ z => nomatch z⟩ (fun _ _ _ _ _ => trivial) (fun i x σ' H14 H15 hlt hP y => ?_) (fun σ' H14 hP => ?_)
  · obtain ⟨ls, W, u7, u8, rfl, m14, c14, e14, d14, nW, lW, lW1, gW⟩ := hP
    obtain ⟨rfl, rfl⟩ := y
    have noLW : noLs (W.map encLot) = true := noLs_of fun d hd => by
      obtain ⟨l', _, rfl⟩ := List.mem_map.mp hd
      exact noL_lot l'
    refine y_gn ?_
    dsimp only
    refine y_seq (y_asgK ⟨.ref t, rfl, ve, rfl, t, c, ve, kindsOf m, rfl, c14, c11.strs m14 hve11, hk0, hk8, fun vl l H16 m16 c16 dl hne hsub => ?_⟩)
    have e16 := m16 al _ nal e14
    have d16 := dps_ts (c14.ts m16) _ _ noLW d14
    dsimp only
    have okW : OkL W := good_ok h3 gW
    have okl : ∀ k ∈ l, PyData.strOk k = true := fun k hk => marks3_ok h3 k (hsub.subset hk)
    have hll : ls.length = W.length := by
      have := dps_len d16
      rwa [List.length_map] at this
    refine y_if (b := !decide (l ∈ W)) ((yt_test (yd_notInD (K := K) (yd_var rfl dl) (yd_var rfl (.lst (SqL.of e16) d16)) (shaped_lot okl) (shaped_llist okW))).is (by rw [any_lots])) (fun e H17 s17 => ?_) (fun e H17 s17 => ?_)
    · have hnot : l ∉ W := by
        rw [Bool.not_eq_true', decide_eq_false_iff_not] at e
        exact e
      have e17 := s17 _ _ e16
      have d17 := dps_same s17 _ _ d16
      have c17 := c16.same s17
      have m17 : Mut t H11 H17 := (m14.trans m16).trans (Mut.same s17)
      refine ⟨.ref al, rfl, .inl ⟨rfl, _, SqL.of e17⟩, vl, rfl, al, ls, vl, rfl, rfl, e17, small1000 (by omega), ?_⟩
      refine ⟨ls ++ [vl], W ++ [l], _, _, rfl, m17.upd_new hal, c11.put hal c17, upd_same, ?_, List.nodup_append.mpr ⟨nW, by simp, fun x hx y hy z => ?_⟩, by rw [List.length_append]; show W.length + 1 ≤ i + 1; omega, fun _ => by rw [List.length_append]; show 1 ≤ W.length + 1; omega, fun x hx => ?_⟩
      · rw [List.map_append]
        refine dps_ts (Ts.lst (K := K) (o := .lst (ls ++ [vl])) e17) _ _ (noLs_of fun d hd => ?_) (dps_app d17 (.cons (dp_same s17 _ _ dl) .nil))
        rcases List.mem_append.mp hd with z | z
        · exact noLs_mem noLW d z
        · rw [List.mem_singleton.mp z]
          exact noL_lot l
      · rw [List.mem_singleton.mp hy] at z
        exact hnot (z ▸ hx)
      · rcases List.mem_append.mp hx with z | z
        · exact gW x z
        · rw [List.mem_singleton.mp z]
          exact ⟨hne, hsub⟩
    · have hin : l ∈ W := by
        rw [Bool.not_eq_false', decide_eq_true_eq] at e
        exact e
      exact ⟨ls, W, _, _, rfl, (m14.trans m16).trans (Mut.same s17), c16.same s17, s17 _ _ e16, dps_same s17 _ _ d16, nW, by omega, fun _ => List.length_pos_of_mem hin, gW⟩
  · obtain ⟨ls, W, u7, u8, rfl, m14, c14, e14, d14, nW, lW, lW1, gW⟩ := hP
    have hW1 : 1 ≤ W.length := lW1 (by omega)
    obtain ⟨T, eT, lT, mT, aT⟩ := sort_lots nW
    have gT : GoodL (kindsOf m) T := fun l hl => gW l (mT l hl)
    obtain ⟨hLF, hLL⟩ := good_few h3 (by omega) g4
    obtain ⟨hMF, hMM⟩ := good_few h3 (by omega) g5'
    obtain ⟨hTF, hTT⟩ := good_few h3 (by omega) gT
    dsimp only
    refine y_seq (y_asg (K := K) ((yd_tupOf rfl (yd_sortL rfl (by omega) (fun l hl => (gW l hl).1) (yd_var rfl (.lst (SqL.of e14) d14)))).is (e := encLots T) (by rw [eT]; rfl)) fun v6 H15 s15 d6 => ?_)
    have c15 := c14.same s15
    have m15 : Mut t H11 H15 := m14.trans (Mut.same s15)
    have dL15 := c11.noL m15 (noL_lots L) d4'
    have dM15 := c11.noL m15 (noL_lots M) d5
    dsimp only
    refine y_seq (ys_make S (m := m) (L := L) (ya_cons (yd_var rfl (.str m)) (ya_cons (yd_var rfl dL15) ya_nil)) hm hLF (by omega) hLL H15 (Same.refl _) _ fun one H16 s16 hS1 => ?_)
    dsimp only
    refine y_seq (ys_make S (m := m) (L := M) (ya_cons (yd_var rfl (.str m)) (ya_cons (yd_var rfl (dp_same s16 _ _ dM15)) ya_nil)) hm hMF (by omega) hMM H16 (Same.refl _) _ fun oth H17 s17 hS2 => ?_)
    have c17 := (c15.same s16).same s17
    dsimp only
    refine y_joinQ (fun σ2 H' => σ2 = [some (.ref a), some (.ref t), some (.str m), some ve, some v4, some v5, some v6, u7, u8, some (.ref one), some (.ref oth), none, none] ∧ Mut t H17 H' ∧ TapeAt H' t c) (fun σ2 H18 hJ => ?_) (fun NN kk => ?_)
    rotate_left
    · refine y_andB (y_pick0 (K := K) (j := 1) rfl c17 (by decide) (by decide) fun b2 H2 m2 c2 => ?_)
      cases b2 with
      | false => exact iteF (iteF (kk _ _ ⟨rfl, m2, c2⟩))
      | true =>
        refine iteT ?_
        exact ⟨.ref t, rfl, t, c, rfl, c2, fun H3 m3 c3 => ⟨true, rfl, iteF (kk _ _ ⟨rfl, m2.trans m3, c3⟩)⟩⟩
    obtain ⟨rfl, m18, c18⟩ := hJ
    have m1518 : Mut t H15 H18 := (Mut.same (s16.trans s17)).trans m18
    have hS1' := (c15.same s16).seat ((Mut.same s17).trans m18) hS1
    have hS2' := c17.seat m18 hS2
    have d6' := c15.noL m1518 (noL_lots T) d6
    have dL := c15.noL m1518 (noL_lots L) dL15
    have dM := c15.noL m1518 (noL_lots M) dM15
    have dE := c11.strs (m15.trans m1518) hve11
    have hb : ∀ n, 1024 ≤ n → ∀ r ∈ rowsTo T 3, Bound (L ++ r) M (kindsOf m) n := fun n hn => few_bound (a := 3) (b := 4) l4 l5 (Nat.le_trans (by decide) hn)
    have hO : oLots m (some (encLots T)) = true := by
      show (decide (1 ≤ (T.map encLot).length) && decide ((T.map encLot).length ≤ 4) && ((T.map encLot).all (lotD m) && ascD (T.map encLot))) = true
      rw [aT, lots_all hTT, List.length_map, decide_eq_true (by omega), decide_eq_true (by omega)]
      rfl
    have hout := out_due (L := L) (M := M) hO (by omega) (by omega) (hb 3000 (by decide))
    obtain ⟨eo1, eo2⟩ := eqv_opt (o := dueOf L M (kindsOf m) T) (due_ok (good_ok h3 gT))
    refine y_seq (y_asg (K := K) (yd_more (ys_var rfl hS1') (ys_var rfl hS2') (yt_var (o := some (encLots T)) rfl ⟨d6', short_lots hTF⟩) hm hLF hMF (by omega) (by omega) hLL hout) fun vt H19 s19 dt => ?_)
    dsimp only
    refine y_seq (y_asg (K := K) (yd_due (ya_cons (yd_var rfl (dp_same s19 _ _ dL)) (ya_cons (yd_var rfl (dp_same s19 _ _ dM)) (ya_cons (yd_var rfl (dp_same s19 _ _ dE)) (ya_cons (yd_var rfl (dp_same s19 _ _ d6')) ya_nil)))) hLF hMF hTF (by omega) (by omega) (hb 4999 (by decide))) fun vd H20 s20 dd => ?_)
    dsimp only
    have dt20 := dp_same s20 _ _ dt
    have s1820 := s19.trans s20
    refine y_seq (y_if (b := false) ((yt_or (yt_test (yd_neD (K := K) (yd_var rfl dt20) (yd_var rfl dd) eo1 eo1)) (fun _ => yt_and (yt_test (yd_notN (K := K) (yd_var rfl dt20) rfl)) (fun _ => yt_not (yt_B (yd_isi rfl (kit_tup _) (yd_var rfl dt20)))))).is (by rw [eo2, opt_shape]; rfl)) (fun e => nomatch e) (fun _ H21 s21 => ?_))
    dsimp only [tNext]
    have s1821 := s1820.trans s21
    refine y_seq (y_if (b := false) ((yt_test (yd_neB (yd_eqD (K := K) (yd_var rfl (dp_same s21 _ _ dt20)) yd_nil0 eo1 rfl) (yd_lnf (ya_cons (yd_var rfl (dp_same s1821 _ _ dL)) (ya_cons (yd_var rfl (dp_same s1821 _ _ dM)) (ya_cons (yd_var rfl (dp_same s1821 _ _ dE)) ya_nil))) hLF hMF ((bound_le l4 l5).mono (by decide))))).is (by rw [due_empty, decide_eq_true rfl]; rfl)) (fun e => nomatch e) (fun _ H22 s22 => ?_))
    dsimp only [tNext]
    have s1822 := s1821.trans s22
    exact ⟨.ref t, rfl, .str m, rfl, ve, rfl, .ref one, rfl, v6, rfl, t, c, m, ve, one, v6, L, T, rfl, c18.same s1822, h3, dp_same s1822 _ _ dE, hS1'.same s1822, g4, by omega, dp_same s1822 _ _ d6', hTF, by omega, fun H' => kq H'⟩
end
end K15

/-! The facts. -/
namespace K15
open PySem PySem.Spec PyProof.Rows L2
/-! ### what the Hook looks at besides -/
def ownB (K : Frag) (C : Addr) : Bool := match K.lookup C with
  | some ⟨.type "type", _, .cls cd, st⟩ => (match cd.mro, st.toList with
    | .ref D :: more, [_, _, _, _, some (.builtin mk), _] => decide (D = C) && (decide (mk = "ValueError.__new__") && (cd.hasDict && (!cd.hasDel && PySem.HandSPX.refsVE more)))
    | _, _ => false)
  | _ => false
theorem ownB_ok {K : Frag} {C : Addr} (h : ownB K C = true) : ∃ nm q N bs bm sn sub ab col dd k0 k1 k2 k3 k5, K.lookup C = some (excClassObj nm q C N bs bm true sn sub ab col dd k0 k1 k2 k3 k5 "ValueError.__new__") ∧ PySem.HandSPX.refsVE bm = true := by
  unfold ownB at h
  split at h
  · rename_i dd cd st ho
    split at h
    · rename_i D more k0 k1 k2 k3 mk k5 hm hs
      obtain ⟨h1, h⟩ := He.ba h
      obtain ⟨h2, h⟩ := He.ba h
      obtain ⟨h3, h⟩ := He.ba h
      obtain ⟨h4, h5⟩ := He.ba h
      have e1 := of_decide_eq_true h1
      have e2 := of_decide_eq_true h2
      subst e1 e2
      obtain ⟨nm, bs, mro, ns, qn, hd, sn, sub, ab, col, del⟩ := cd
      obtain ⟨l⟩ := st
      dsimp only at hm hs h3 h4
      subst hm hs h3
      have e4 : del = false := by
        cases del with
        | false => rfl
        | true => cases h4
      subst e4
      exact ⟨nm, qn, ns, bs, more, sn, sub, ab, col, dd, k0, k1, k2, k3, k5, ho, h5⟩
    · cases h
  · cases h
def qB (K : Frag) (D : Addr) : Bool := He.eqO (PySem.W.findIn K (.ref D) "__getattribute__") (some (some (.builtin "BaseException.__getattribute__"))) && (He.eqO (PySem.W.findIn K (.ref D) "__getattr__") (some none) && (decide (PySem.W.subIn K (.ref D) (.type "BaseException") = some true) && (PySem.W.hasDictIn K D &&
  (He.eqO (PySem.W.findIn K (.ref D) "__class__") (some (some (.builtin "object.__class__"))) && (He.eqO (PySem.W.specialIn K (.builtin "object.__class__") "__get__") (some (some (.builtin "getset_descriptor.__get__"))) && (decide (PySem.W.takesIn K (.builtin "object.__class__") = some true) && decide (PySem.W.mroIn K D (.type "object") = some true)))))))
theorem qB_ok {K : Frag} {D : Addr} (h : qB K D = true) : ExcC K D := by
  obtain ⟨h1, h⟩ := He.ba h
  obtain ⟨h2, h⟩ := He.ba h
  obtain ⟨h3, h⟩ := He.ba h
  obtain ⟨h4, h⟩ := He.ba h
  obtain ⟨h5, h⟩ := He.ba h
  obtain ⟨h6, h⟩ := He.ba h
  obtain ⟨h7, h8⟩ := He.ba h
  exact ⟨He.eqO_ok h1, He.eqO_ok h2, of_decide_eq_true h3, h4, He.eqO_ok h5, He.eqO_ok h6, of_decide_eq_true h7, of_decide_eq_true h8⟩
def kB2 (K : Frag) (x y : Str) : Bool := decide (PySem.W.kitOne K (.ref (He.ga K x)) (.ref (He.ga K y)) = some false)
theorem kB2_ok {K : Frag} {x y : Str} (h : kB2 K x y = true) : PySem.W.kitOne K (.ref (He.ga K x)) (.ref (He.ga K y)) = some false := of_decide_eq_true h
def tB2 (K : Frag) (C : Addr) : Bool := ownB K C && (He.eqO (PySem.W.findIn K (.ref C) "__setattr__") (some (some (.builtin "object.__setattr__"))) && (decide (PySem.W.subIn K (.ref C) (.type "BaseException") = some true) && (decide (PySem.W.typeIn K (.ref C) = some (.type "type")) && (PySem.W.keepIn K (.ref C) &&
  (He.eqO (PySem.W.findIn K (.ref C) "__init__") (some (some (.ref (He.ma K C "__init__")))) && (decide (PySem.W.typeIn K (.ref (He.ma K C "__init__")) = some (.type "function")) && (He.eqO (PySem.W.findIn K (.ref C) "most") (some none) && xfB K C)))))))
theorem tB2_ok {K : Frag} {C : Addr} (h : tB2 K C = true) : OexC K C ∧ PySem.W.findIn K (.ref C) "__init__" = some (some (.ref (He.ma K C "__init__"))) ∧ PySem.W.typeIn K (.ref (He.ma K C "__init__")) = some (.type "function") ∧ PySem.W.findIn K (.ref C) "most" = some none ∧ XfC K C := by
  obtain ⟨h1, h⟩ := He.ba h
  obtain ⟨h2, h⟩ := He.ba h
  obtain ⟨h3, h⟩ := He.ba h
  obtain ⟨h4, h⟩ := He.ba h
  obtain ⟨h5, h⟩ := He.ba h
  obtain ⟨h6, h⟩ := He.ba h
  obtain ⟨h7, h⟩ := He.ba h
  obtain ⟨h8, h9⟩ := He.ba h
  exact ⟨⟨ownB_ok h1, He.eqO_ok h2, of_decide_eq_true h3, of_decide_eq_true h4, h5⟩, He.eqO_ok h6, of_decide_eq_true h7, He.eqO_ok h8, xfB_ok h9⟩
def exAll (K : Frag) : Bool := qB K (He.ga K "NoLots") && (qB K (He.ga K "OtherMarks") && (qB K (He.ga K "TooMany") && (tB2 K (He.ga K "TooMany") && (kB2 K "OtherMarks" "NoLots" && (kB2 K "OtherMarks" "TooMany" && (kB2 K "NoLots" "OtherMarks" && (kB2 K "NoLots" "NoLot" && (kB2 K "NoLots" "TooMany" && (kB2 K "TooMany" "OtherMarks" && kB2 K "TooMany" "NoLots")))))))))
/-! ### the defs -/
theorem da_is_ascending {K : Frag} {h : Heap} {mg : Mg} (X : K.In h) (G : h.Ns mainGlobals mg) (c : He.SaysD fa fn K) : DefAt K mg "is_ascending" s_is_ascending ["items"] := by
  obtain ⟨fd, F⟩ := c.def_ 0 (d := d_is_ascending) rfl
  exact ⟨_, fd, F, He.glo_ok X G (c.fact 0 (f := .glo "is_ascending") rfl), F.bindsN fun _ _ _ _ _ _ us hl => match us, hl with | [_], _ => rfl⟩
theorem da_is_marks {K : Frag} {h : Heap} {mg : Mg} (X : K.In h) (G : h.Ns mainGlobals mg) (c : He.SaysD fa fn K) : DefAt K mg "is_marks" s_is_marks ["thing"] := by
  obtain ⟨fd, F⟩ := c.def_ 1 (d := d_is_marks) rfl
  exact ⟨_, fd, F, He.glo_ok X G (c.fact 1 (f := .glo "is_marks") rfl), F.bindsN fun _ _ _ _ _ _ us hl => match us, hl with | [_], _ => rfl⟩
theorem da_is_kind {K : Frag} {h : Heap} {mg : Mg} (X : K.In h) (G : h.Ns mainGlobals mg) (c : He.SaysD fa fn K) : DefAt K mg "is_kind" s_is_kind ["marks", "thing"] := by
  obtain ⟨fd, F⟩ := c.def_ 2 (d := d_is_kind) rfl
  exact ⟨_, fd, F, He.glo_ok X G (c.fact 2 (f := .glo "is_kind") rfl), F.bindsN fun _ _ _ _ _ _ us hl => match us, hl with | [_, _], _ => rfl⟩
theorem da_is_lot {K : Frag} {h : Heap} {mg : Mg} (X : K.In h) (G : h.Ns mainGlobals mg) (c : He.SaysD fa fn K) : DefAt K mg "is_lot" s_is_lot ["marks", "thing"] := by
  obtain ⟨fd, F⟩ := c.def_ 3 (d := d_is_lot) rfl
  exact ⟨_, fd, F, He.glo_ok X G (c.fact 3 (f := .glo "is_lot") rfl), F.bindsN fun _ _ _ _ _ _ us hl => match us, hl with | [_, _], _ => rfl⟩
theorem da_check_same_marks {K : Frag} {h : Heap} {mg : Mg} (X : K.In h) (G : h.Ns mainGlobals mg) (c : He.SaysD fa fn K) : DefAt K mg "check_same_marks" s_check_same_marks ["one", "other"] := by
  obtain ⟨fd, F⟩ := c.def_ 4 (d := d_check_same_marks) rfl
  exact ⟨_, fd, F, He.glo_ok X G (c.fact 4 (f := .glo "check_same_marks") rfl), F.bindsN fun _ _ _ _ _ _ us hl => match us, hl with | [_, _], _ => rfl⟩
theorem da_all_kinds {K : Frag} {h : Heap} {mg : Mg} (X : K.In h) (G : h.Ns mainGlobals mg) (c : He.SaysD fa fn K) : DefAt K mg "all_kinds" s_all_kinds ["marks"] := by
  obtain ⟨fd, F⟩ := c.def_ 5 (d := d_all_kinds) rfl
  exact ⟨_, fd, F, He.glo_ok X G (c.fact 5 (f := .glo "all_kinds") rfl), F.bindsN fun _ _ _ _ _ _ us hl => match us, hl with | [_], _ => rfl⟩
theorem da_first_no_lot {K : Frag} {h : Heap} {mg : Mg} (X : K.In h) (G : h.Ns mainGlobals mg) (c : He.SaysD fa fn K) : DefAt K mg "first_no_lot" s_first_no_lot ["marks", "lots"] := by
  obtain ⟨fd, F⟩ := c.def_ 6 (d := d_first_no_lot) rfl
  exact ⟨_, fd, F, He.glo_ok X G (c.fact 6 (f := .glo "first_no_lot") rfl), F.bindsN fun _ _ _ _ _ _ us hl => match us, hl with | [_, _], _ => rfl⟩
theorem da_first_seat {K : Frag} {h : Heap} {mg : Mg} (X : K.In h) (G : h.Ns mainGlobals mg) (c : He.SaysD fa fn K) : DefAt K mg "first_seat" s_first_seat ["lots", "free", "kind"] := by
  obtain ⟨fd, F⟩ := c.def_ 7 (d := d_first_seat) rfl
  exact ⟨_, fd, F, He.glo_ok X G (c.fact 7 (f := .glo "first_seat") rfl), F.bindsN fun _ _ _ _ _ _ us hl => match us, hl with | [_, _, _], _ => rfl⟩
theorem da_behind {K : Frag} {h : Heap} {mg : Mg} (X : K.In h) (G : h.Ns mainGlobals mg) (c : He.SaysD fa fn K) : DefAt K mg "behind" s_behind ["lots", "free", "kind"] := by
  obtain ⟨fd, F⟩ := c.def_ 8 (d := d_behind) rfl
  exact ⟨_, fd, F, He.glo_ok X G (c.fact 8 (f := .glo "behind") rfl), F.bindsN fun _ _ _ _ _ _ us hl => match us, hl with | [_, _, _], _ => rfl⟩
theorem da_pair_behind {K : Frag} {h : Heap} {mg : Mg} (X : K.In h) (G : h.Ns mainGlobals mg) (c : He.SaysD fa fn K) : DefAt K mg "pair_behind" s_pair_behind ["one", "other", "pair", "kind"] := by
  obtain ⟨fd, F⟩ := c.def_ 9 (d := d_pair_behind) rfl
  exact ⟨_, fd, F, He.glo_ok X G (c.fact 9 (f := .glo "pair_behind") rfl), F.bindsN fun _ _ _ _ _ _ us hl => match us, hl with | [_, _, _, _], _ => rfl⟩
theorem da_start_of {K : Frag} {h : Heap} {mg : Mg} (X : K.In h) (G : h.Ns mainGlobals mg) (c : He.SaysD fa fn K) : DefAt K mg "start_of" s_start_of ["one", "other"] := by
  obtain ⟨fd, F⟩ := c.def_ 10 (d := d_start_of) rfl
  exact ⟨_, fd, F, He.glo_ok X G (c.fact 10 (f := .glo "start_of") rfl), F.bindsN fun _ _ _ _ _ _ us hl => match us, hl with | [_, _], _ => rfl⟩
theorem da_lead_of {K : Frag} {h : Heap} {mg : Mg} (X : K.In h) (G : h.Ns mainGlobals mg) (c : He.SaysD fa fn K) : DefAt K mg "lead_of" s_lead_of ["one", "other", "pair"] := by
  obtain ⟨fd, F⟩ := c.def_ 11 (d := d_lead_of) rfl
  exact ⟨_, fd, F, He.glo_ok X G (c.fact 11 (f := .glo "lead_of") rfl), F.bindsN fun _ _ _ _ _ _ us hl => match us, hl with | [_, _, _], _ => rfl⟩
theorem da_all_pairs {K : Frag} {h : Heap} {mg : Mg} (X : K.In h) (G : h.Ns mainGlobals mg) (c : He.SaysD fa fn K) : DefAt K mg "all_pairs" s_all_pairs ["one", "other"] := by
  obtain ⟨fd, F⟩ := c.def_ 12 (d := d_all_pairs) rfl
  exact ⟨_, fd, F, He.glo_ok X G (c.fact 12 (f := .glo "all_pairs") rfl), F.bindsN fun _ _ _ _ _ _ us hl => match us, hl with | [_, _], _ => rfl⟩
theorem da_row_of_fewer {K : Frag} {h : Heap} {mg : Mg} (X : K.In h) (G : h.Ns mainGlobals mg) (c : He.SaysD fa fn K) : DefAt K mg "row_of_fewer" s_row_of_fewer ["one", "other"] := by
  obtain ⟨fd, F⟩ := c.def_ 13 (d := d_row_of_fewer) rfl
  exact ⟨_, fd, F, He.glo_ok X G (c.fact 13 (f := .glo "row_of_fewer") rfl), F.bindsN fun _ _ _ _ _ _ us hl => match us, hl with | [_, _], _ => rfl⟩
theorem da_never_fewer {K : Frag} {h : Heap} {mg : Mg} (X : K.In h) (G : h.Ns mainGlobals mg) (c : He.SaysD fa fn K) : DefAt K mg "never_fewer" s_never_fewer ["one", "other"] := by
  obtain ⟨fd, F⟩ := c.def_ 14 (d := d_never_fewer) rfl
  exact ⟨_, fd, F, He.glo_ok X G (c.fact 14 (f := .glo "never_fewer") rfl), F.bindsN fun _ _ _ _ _ _ us hl => match us, hl with | [_, _], _ => rfl⟩
theorem da_check_lots {K : Frag} {h : Heap} {mg : Mg} (X : K.In h) (G : h.Ns mainGlobals mg) (c : He.SaysD fa fn K) : DefAt K mg "check_lots" s_check_lots ["marks", "thing"] := by
  obtain ⟨fd, F⟩ := c.def_ 15 (d := d_check_lots) rfl
  exact ⟨_, fd, F, He.glo_ok X G (c.fact 15 (f := .glo "check_lots") rfl), F.bindsN fun _ _ _ _ _ _ us hl => match us, hl with | [_, _], _ => rfl⟩
theorem da_tuples_of {K : Frag} {h : Heap} {mg : Mg} (X : K.In h) (G : h.Ns mainGlobals mg) (c : He.SaysD fa fn K) : DefAt K mg "tuples_of" s_tuples_of ["lots"] := by
  obtain ⟨fd, F⟩ := c.def_ 16 (d := d_tuples_of) rfl
  exact ⟨_, fd, F, He.glo_ok X G (c.fact 16 (f := .glo "tuples_of") rfl), F.bindsN fun _ _ _ _ _ _ us hl => match us, hl with | [_], _ => rfl⟩
theorem da_more_seats {K : Frag} {h : Heap} {mg : Mg} (X : K.In h) (G : h.Ns mainGlobals mg) (c : He.SaysD fa fn K) : DefAt K mg "more_seats" s_more_seats ["one", "other", "lots"] := by
  obtain ⟨fd, F⟩ := c.def_ 17 (d := d_more_seats) rfl
  exact ⟨_, fd, F, He.glo_ok X G (c.fact 17 (f := .glo "more_seats") rfl), F.bindsN fun _ _ _ _ _ _ us hl => match us, hl with | [_, _, _], _ => rfl⟩
theorem da_law_tape {K : Frag} {h : Heap} {mg : Mg} (X : K.In h) (G : h.Ns mainGlobals mg) (c : He.SaysD fa fn K) : DefAt K mg "_law_tape" s_law_tape ["_law_script"] := by
  obtain ⟨fd, F⟩ := c.def_ 18 (d := d_law_tape) rfl
  exact ⟨_, fd, F, He.glo_ok X G (c.fact 18 (f := .glo "_law_tape") rfl), F.bindsN fun _ _ _ _ _ _ us hl => match us, hl with | [_], _ => rfl⟩
theorem da_law_pick {K : Frag} {h : Heap} {mg : Mg} (X : K.In h) (G : h.Ns mainGlobals mg) (c : He.SaysD fa fn K) : DefAt K mg "_law_pick" s_law_pick ["_law_tape_here", "_law_many"] := by
  obtain ⟨fd, F⟩ := c.def_ 19 (d := d_law_pick) rfl
  exact ⟨_, fd, F, He.glo_ok X G (c.fact 19 (f := .glo "_law_pick") rfl), F.bindsN fun _ _ _ _ _ _ us hl => match us, hl with | [_, _], _ => rfl⟩
theorem da_law_kinds {K : Frag} {h : Heap} {mg : Mg} (X : K.In h) (G : h.Ns mainGlobals mg) (c : He.SaysD fa fn K) : DefAt K mg "_law_kinds" s_law_kinds ["_law_marks_here"] := by
  obtain ⟨fd, F⟩ := c.def_ 20 (d := d_law_kinds) rfl
  exact ⟨_, fd, F, He.glo_ok X G (c.fact 20 (f := .glo "_law_kinds") rfl), F.bindsN fun _ _ _ _ _ _ us hl => match us, hl with | [_], _ => rfl⟩
theorem da_law_lot {K : Frag} {h : Heap} {mg : Mg} (X : K.In h) (G : h.Ns mainGlobals mg) (c : He.SaysD fa fn K) : DefAt K mg "_law_lot" s_law_lot ["_law_tape_here", "_law_every"] := by
  obtain ⟨fd, F⟩ := c.def_ 21 (d := d_law_lot) rfl
  exact ⟨_, fd, F, He.glo_ok X G (c.fact 21 (f := .glo "_law_lot") rfl), F.bindsN fun _ _ _ _ _ _ us hl => match us, hl with | [_, _], _ => rfl⟩
theorem da_law_lots {K : Frag} {h : Heap} {mg : Mg} (X : K.In h) (G : h.Ns mainGlobals mg) (c : He.SaysD fa fn K) : DefAt K mg "_law_lots" s_law_lots ["_law_tape_here", "_law_every", "_law_most"] := by
  obtain ⟨fd, F⟩ := c.def_ 22 (d := d_law_lots) rfl
  exact ⟨_, fd, F, He.glo_ok X G (c.fact 22 (f := .glo "_law_lots") rfl), F.bindsN fun _ _ _ _ _ _ us hl => match us, hl with | [_, _, _], _ => rfl⟩
theorem da_law_odd {K : Frag} {h : Heap} {mg : Mg} (X : K.In h) (G : h.Ns mainGlobals mg) (c : He.SaysD fa fn K) : DefAt K mg "_law_odd" s_law_odd ["_law_tape_here"] := by
  obtain ⟨fd, F⟩ := c.def_ 23 (d := d_law_odd) rfl
  exact ⟨_, fd, F, He.glo_ok X G (c.fact 23 (f := .glo "_law_odd") rfl), F.bindsN fun _ _ _ _ _ _ us hl => match us, hl with | [_], _ => rfl⟩
theorem da_law_is_up {K : Frag} {h : Heap} {mg : Mg} (X : K.In h) (G : h.Ns mainGlobals mg) (c : He.SaysD fa fn K) : DefAt K mg "_law_is_up" s_law_is_up ["_law_items"] := by
  obtain ⟨fd, F⟩ := c.def_ 24 (d := d_law_is_up) rfl
  exact ⟨_, fd, F, He.glo_ok X G (c.fact 24 (f := .glo "_law_is_up") rfl), F.bindsN fun _ _ _ _ _ _ us hl => match us, hl with | [_], _ => rfl⟩
theorem da_law_is_kind {K : Frag} {h : Heap} {mg : Mg} (X : K.In h) (G : h.Ns mainGlobals mg) (c : He.SaysD fa fn K) : DefAt K mg "_law_is_kind" s_law_is_kind ["_law_marks_here", "_law_thing"] := by
  obtain ⟨fd, F⟩ := c.def_ 25 (d := d_law_is_kind) rfl
  exact ⟨_, fd, F, He.glo_ok X G (c.fact 25 (f := .glo "_law_is_kind") rfl), F.bindsN fun _ _ _ _ _ _ us hl => match us, hl with | [_, _], _ => rfl⟩
theorem da_law_is_lot {K : Frag} {h : Heap} {mg : Mg} (X : K.In h) (G : h.Ns mainGlobals mg) (c : He.SaysD fa fn K) : DefAt K mg "_law_is_lot" s_law_is_lot ["_law_marks_here", "_law_thing"] := by
  obtain ⟨fd, F⟩ := c.def_ 26 (d := d_law_is_lot) rfl
  exact ⟨_, fd, F, He.glo_ok X G (c.fact 26 (f := .glo "_law_is_lot") rfl), F.bindsN fun _ _ _ _ _ _ us hl => match us, hl with | [_, _], _ => rfl⟩
theorem da_law_behind {K : Frag} {h : Heap} {mg : Mg} (X : K.In h) (G : h.Ns mainGlobals mg) (c : He.SaysD fa fn K) : DefAt K mg "_law_behind" s_law_behind ["_law_lots_here", "_law_free", "_law_kind"] := by
  obtain ⟨fd, F⟩ := c.def_ 27 (d := d_law_behind) rfl
  exact ⟨_, fd, F, He.glo_ok X G (c.fact 27 (f := .glo "_law_behind") rfl), F.bindsN fun _ _ _ _ _ _ us hl => match us, hl with | [_, _, _], _ => rfl⟩
theorem da_law_never_fewer {K : Frag} {h : Heap} {mg : Mg} (X : K.In h) (G : h.Ns mainGlobals mg) (c : He.SaysD fa fn K) : DefAt K mg "_law_never_fewer" s_law_never_fewer ["_law_lots_here", "_law_others", "_law_every"] := by
  obtain ⟨fd, F⟩ := c.def_ 28 (d := d_law_never_fewer) rfl
  exact ⟨_, fd, F, He.glo_ok X G (c.fact 28 (f := .glo "_law_never_fewer") rfl), F.bindsN fun _ _ _ _ _ _ us hl => match us, hl with | [_, _, _], _ => rfl⟩
theorem da_law_due {K : Frag} {h : Heap} {mg : Mg} (X : K.In h) (G : h.Ns mainGlobals mg) (c : He.SaysD fa fn K) : DefAt K mg "_law_due" s_law_due ["_law_lots_here", "_law_others", "_law_every", "_law_more"] := by
  obtain ⟨fd, F⟩ := c.def_ 29 (d := d_law_due) rfl
  exact ⟨_, fd, F, He.glo_ok X G (c.fact 29 (f := .glo "_law_due") rfl), F.bindsN fun _ _ _ _ _ _ us hl => match us, hl with | [_, _, _, _], _ => rfl⟩
theorem da_law_tried {K : Frag} {h : Heap} {mg : Mg} (X : K.In h) (G : h.Ns mainGlobals mg) (c : He.SaysD fa fn K) : DefAt K mg "_law_tried" s_law_tried ["_law_one", "_law_other", "_law_lots_here"] := by
  obtain ⟨fd, F⟩ := c.def_ 30 (d := d_law_tried) rfl
  exact ⟨_, fd, F, He.glo_ok X G (c.fact 30 (f := .glo "_law_tried") rfl), F.bindsN fun _ _ _ _ _ _ us hl => match us, hl with | [_, _, _], _ => rfl⟩
theorem da_law_are_lots {K : Frag} {h : Heap} {mg : Mg} (X : K.In h) (G : h.Ns mainGlobals mg) (c : He.SaysD fa fn K) : DefAt K mg "_law_are_lots" s_law_are_lots ["_law_marks_here", "_law_thing"] := by
  obtain ⟨fd, F⟩ := c.def_ 31 (d := d_law_are_lots) rfl
  exact ⟨_, fd, F, He.glo_ok X G (c.fact 31 (f := .glo "_law_are_lots") rfl), F.bindsN fun _ _ _ _ _ _ us hl => match us, hl with | [_, _], _ => rfl⟩
theorem da_law_refuses {K : Frag} {h : Heap} {mg : Mg} (X : K.In h) (G : h.Ns mainGlobals mg) (c : He.SaysD fa fn K) : DefAt K mg "_law_refuses" s_law_refuses ["_law_tape_here", "_law_marks_here", "_law_every", "_law_one", "_law_more"] := by
  obtain ⟨fd, F⟩ := c.def_ 32 (d := d_law_refuses) rfl
  exact ⟨_, fd, F, He.glo_ok X G (c.fact 32 (f := .glo "_law_refuses") rfl), F.bindsN fun _ _ _ _ _ _ us hl => match us, hl with | [_, _, _, _, _], _ => rfl⟩
theorem da_law_four {K : Frag} {h : Heap} {mg : Mg} (X : K.In h) (G : h.Ns mainGlobals mg) (c : He.SaysD fa fn K) : DefAt K mg "_law_four" s_law_four ["_law_tape_here"] := by
  obtain ⟨fd, F⟩ := c.def_ 33 (d := d_law_four) rfl
  exact ⟨_, fd, F, He.glo_ok X G (c.fact 33 (f := .glo "_law_four") rfl), F.bindsN fun _ _ _ _ _ _ us hl => match us, hl with | [_], _ => rfl⟩
theorem da_law_many_pairs {K : Frag} {h : Heap} {mg : Mg} (X : K.In h) (G : h.Ns mainGlobals mg) (c : He.SaysD fa fn K) : DefAt K mg "_law_many_pairs" s_law_many_pairs [] := by
  obtain ⟨fd, F⟩ := c.def_ 34 (d := d_law_many_pairs) rfl
  exact ⟨_, fd, F, He.glo_ok X G (c.fact 34 (f := .glo "_law_many_pairs") rfl), F.bindsN fun _ _ _ _ _ _ us hl => match us, hl with | [], _ => rfl⟩
section
variable {P : Program} {w : World} {K : Frag} {h : Heap} {mg : Mg}
abbrev c3 (K : Frag) : Cls3 := ⟨He.ga K "NoLots", He.ga K "OtherMarks", He.ga K "TooMany"⟩
theorem f_blt (X : K.In h) (G : h.Ns mainGlobals mg) (c : He.SaysD fa fn K) : Blt mg :=
  ⟨He.free_ok X G (c.fact 36 (f := .free "len") rfl), He.free_ok X G (c.fact 37 (f := .free "range") rfl), He.free_ok X G (c.fact 38 (f := .free "all") rfl), He.free_ok X G (c.fact 39 (f := .free "isinstance") rfl), He.free_ok X G (c.fact 40 (f := .free "str") rfl),
    He.free_ok X G (c.fact 41 (f := .free "tuple") rfl), He.free_ok X G (c.fact 42 (f := .free "list") rfl), He.free_ok X G (c.fact 43 (f := .free "int") rfl), He.free_ok X G (c.fact 44 (f := .free "sorted") rfl), He.free_ok X G (c.fact 45 (f := .free "enumerate") rfl)⟩
theorem f_seat (X : K.In h) (G : h.Ns mainGlobals mg) (c : He.SaysD fa fn K) : SeatF K mg (He.ga K "Seats") (He.ma K (He.ga K "Seats") "__init__") :=
  ⟨He.glo_ok X G (c.fact 52 (f := .glo "Seats") rfl), He.cls_ok (c.fact 53 (f := .cls "Seats") rfl), He.mkr_ok (c.fact 54 (f := .mkr "Seats") rfl), He.noat_ok (c.fact 55 (f := .noat "Seats" "marks") rfl), He.noat_ok (c.fact 56 (f := .noat "Seats" "lots") rfl)⟩
theorem f_err (X : K.In h) (G : h.Ns mainGlobals mg) (c : He.SaysD fa fn K) (e : exAll K = true) : ErrF K mg (c3 K) (He.ga K "SeatError") (He.ga K "NoLot") ∧ ManyF K mg (c3 K).cT (He.ma K (He.ga K "TooMany") "__init__") ∧ ExcF K mg "NoLots" (c3 K).cN ∧ ExcF K mg "OtherMarks" (c3 K).cO := by
  obtain ⟨e1, e⟩ := He.ba e
  obtain ⟨e2, e⟩ := He.ba e
  obtain ⟨e3, e⟩ := He.ba e
  obtain ⟨e4, e⟩ := He.ba e
  obtain ⟨e5, e⟩ := He.ba e
  obtain ⟨e6, e⟩ := He.ba e
  obtain ⟨e7, e⟩ := He.ba e
  obtain ⟨e8, e⟩ := He.ba e
  obtain ⟨e9, e⟩ := He.ba e
  obtain ⟨e10, e11⟩ := He.ba e
  obtain ⟨t1, t2, t3, t4, t5⟩ := tB2_ok e4
  have gN := He.glo_ok X G (c.fact 59 (f := .glo "NoLots") rfl)
  have gO := He.glo_ok X G (c.fact 60 (f := .glo "OtherMarks") rfl)
  have gT := He.glo_ok X G (c.fact 61 (f := .glo "TooMany") rfl)
  obtain ⟨n1, n2, n3, n4⟩ := He.exc_ok (c.fact 62 (f := .exc "NoLots") rfl)
  obtain ⟨o1, o2, o3, o4⟩ := He.exc_ok (c.fact 63 (f := .exc "OtherMarks") rfl)
  exact ⟨⟨He.glo_ok X G (c.fact 57 (f := .glo "SeatError") rfl), He.glo_ok X G (c.fact 58 (f := .glo "NoLot") rfl), gN, gO, gT, qB_ok e1, qB_ok e2, qB_ok e3, He.exm_ok (c.fact 64 (f := .exm "NoLots" "SeatError" true) rfl), He.exm_ok (c.fact 65 (f := .exm "OtherMarks" "SeatError" true) rfl),
    He.exm_ok (c.fact 66 (f := .exm "TooMany" "SeatError" true) rfl), He.exm_ok (c.fact 67 (f := .exm "TooMany" "TooMany" true) rfl), kB2_ok e5, kB2_ok e6, kB2_ok e7, kB2_ok e8, kB2_ok e9, kB2_ok e10, kB2_ok e11, t5, t4⟩, ⟨gT, t1, t2, t3, t4⟩, ⟨gN, n1, n2, n3, n4⟩, ⟨gO, o1, o2, o3, o4⟩⟩
theorem facts {f : Addr} (X : K.In h) (G : h.Ns mainGlobals mg) (hfa : mg ("law" : Str) = some (.ref f)) (c : He.SaysD fa fn K) (e : exAll K = true) :
    ∃ fd : FuncData, (∀ (s : Shared) (v : Value), BindsTo s fd ⟨[v], []⟩ [("_law_script", v)]) ∧ ∀ base : Heap, K.In base → base.Ns mainGlobals mg → FnOk P w K mg base CX0 10 f fd ["_law_script"] (spLaw K) := by
  obtain ⟨fd, F⟩ := c.def_ 35 (d := d_law) rfl
  have gl := He.glo_ok X G (c.fact 35 (f := .glo "law") rfl)
  have ef := hfa.symm.trans gl
  cases ef
  have bA := FunD.bindsA (ps := ["_law_script"]) F fun _ _ _ _ _ _ us hl => match us, hl with | [_], _ => rfl
  have bN := FunD.bindsN (ps := ["_law_script"]) F fun _ _ _ _ _ _ us hl => match us, hl with | [_], _ => rfl
  obtain ⟨fdS, FS⟩ := c.def_ 36 (d := d_seats_init) rfl
  have bS := FunD.bindsN (ps := ["self", "marks", "lots"]) FS fun _ _ _ _ _ _ us hl => match us, hl with | [_, _, _], _ => rfl
  obtain ⟨fdT, FT⟩ := c.def_ 37 (d := d_many_init) rfl
  have bT := FunD.bindsN (ps := ["self", "most"]) FT fun _ _ _ _ _ _ us hl => match us, hl with | [_, _], _ => rfl
  have B := f_blt X G c
  have S := f_seat X G c
  obtain ⟨EF, MF, EN, EO⟩ := f_err X G c e
  have ts := He.str_ok X G (c.fact 46 (f := .str "SMALL" "abcdefghijklmnopqrstuvwxyz") rfl)
  have t5 := He.int_ok X G (c.fact 47 (f := .int "MOST_MARKS" 5) rfl)
  have t40 := He.int_ok X G (c.fact 48 (f := .int "MOST_SEATS" 40) rfl)
  have t3000 := He.int_ok X G (c.fact 49 (f := .int "MOST_PAIRS" 3000) rfl)
  have t4 := He.int_ok X G (c.fact 50 (f := .int "MOST_TOLD" 4) rfl)
  have t3 := He.int_ok X G (c.fact 51 (f := .int "MOST_MORE" 3) rfl)
  refine ⟨fd, fun s v => bA s [v] rfl, fun base _ _ => ?_⟩
  have hasc := ok_is_ascending (P := P) (w := w) (base := base) (da_is_ascending X G c) B
  have hmarks := ok_is_marks (da_is_marks X G c) B hasc t5 ts
  have hkind := ok_is_kind (da_is_kind X G c) B hasc
  have hlot := ok_is_lot (da_is_lot X G c) B hasc hkind
  have hfnl := ok_first_no_lot (da_first_no_lot X G c) B hlot
  have hinit := ok_seats_init FS bS B hmarks hfnl t40
  have hmany := ok_many_init (P := P) (w := w) (mg := mg) (base := base) FT bT
  have hsame := ok_check_same_marks (P := P) (w := w) (base := base) (cs := c3 K) (da_check_same_marks X G c) S EO
  have hlots := ok_check_lots (cs := c3 K) (da_check_lots X G c) B hasc hlot EN t4
  have hkinds := ok_all_kinds (P := P) (w := w) (base := base) (da_all_kinds X G c) B
  have hfs := ok_first_seat (P := P) (w := w) (base := base) (da_first_seat X G c)
  have hbeh := ok_behind (da_behind X G c) B hfs
  have hpb := ok_pair_behind (da_pair_behind X G c) S hbeh
  have hstart := ok_start_of (P := P) (w := w) (base := base) (da_start_of X G c) S B
  have hlead := ok_lead_of (P := P) (w := w) (base := base) (da_lead_of X G c) S B
  have hpairs := ok_all_pairs (cs := c3 K) (da_all_pairs X G c) S B hkinds hstart hpb MF hmany t3000
  have hrow := ok_row_of_fewer (cs := c3 K) (da_row_of_fewer X G c) hlead hpairs
  have hnever := ok_never_fewer (cs := c3 K) (da_never_fewer X G c) hsame hrow
  have htup := ok_tuples_of (P := P) (w := w) (base := base) (da_tuples_of X G c) B t3
  have hmore := ok_more_seats (cs := c3 K) (da_more_seats X G c) S B hinit hsame hlots htup hnever MF hmany t40
  have ltape := ok_law_tape (P := P) (w := w) (base := base) (da_law_tape X G c) B
  have lpick := ok_law_pick (P := P) (w := w) (base := base) (da_law_pick X G c) B
  have lkinds := ok_law_kinds (P := P) (w := w) (base := base) (da_law_kinds X G c) B
  have llot := ok_law_lot (da_law_lot X G c) B lpick
  have llots := ok_law_lots (da_law_lots X G c) B lpick llot
  have lodd := ok_law_odd (da_law_odd X G c) B lpick
  have lup := ok_law_is_up (P := P) (w := w) (base := base) (da_law_is_up X G c) B
  have lkind := ok_law_is_kind (da_law_is_kind X G c) B lup
  have lislot := ok_law_is_lot (da_law_is_lot X G c) B lup lkind
  have lare := ok_law_are_lots (da_law_are_lots X G c) B lup lislot
  have lbeh := ok_law_behind (P := P) (w := w) (base := base) (da_law_behind X G c) B
  have lnf := ok_law_never_fewer (da_law_never_fewer X G c) B lbeh
  have ldue := ok_law_due (da_law_due X G c) B lnf
  have ltried := ok_law_tried (da_law_tried X G c) B EF hmore
  have lmany := ok_law_many_pairs (da_law_many_pairs X G c) B S EF hinit lkinds hmore
  have lref := ok_law_refuses (da_law_refuses X G c) B S hinit lkinds lpick lodd lare ltried
  have lfour := ok_law_four (da_law_four X G c) B S hinit lkinds lpick hmore ldue
  exact ok_law F B S hinit ltape lpick lkinds llot llots lmany lfour hmore ldue lnf lref
end
end K15

/-! The head's run, the end. -/
namespace K15
open PySem PySem.Spec PyProof.Rows L2
abbrev R : PySem.W.OpenRow := PySem.W.OpenLaw.row PySem.Challenge.rw_narrowahead_k15_whole_seats_put_to_the_e
abbrev hk : PySem.W.Hook := He.hookX 6 fa fn [] [] exAll
def ob (s : PySem.W.SharedT) : He.AlX := He.obsX 6 fa fn [] [] exAll (HandSHeadRun.getT s)
theorem ob_eq (s : PySem.W.SharedT) : ob s = hk.obs s.abs := He.obsX_eq (HandSHeadRun.getT_eq s)
theorem run (w : World) : HandSHeadRun.RunEq R (PySem.W.view R.prog [61]) hk ob 6000 loose w := by
  intro os
  kernel_rfl
end K15
open PySem PySem.W PySem.Calls PyProof.Rows
theorem PySem.Challenge.cw_narrowahead_k15_whole_seats_put_to_the_e_holds : PySem.Challenge.rw_narrowahead_k15_whole_seats_put_to_the_e.Holds := by
  w_on; o_law
  refine HandSHeadRun.head_any (r := OpenLaw.row PySem.Challenge.rw_narrowahead_k15_whole_seats_put_to_the_e) (q := view (OpenLaw.row PySem.Challenge.rw_narrowahead_k15_whole_seats_put_to_the_e).prog [61]) (H := K15.hk) (ob := K15.ob) (M := 6000) (loose := K15.loose) (d := HandSHeadRun.topDef (OpenLaw.row PySem.Challenge.rw_narrowahead_k15_whole_seats_put_to_the_e).prog 61) (kwd := []) K15.ob_eq
    (by kernel_rfl) (fun s => by kernel_rfl) K15.run (by kernel_rfl) (by kernel_rfl) (by kernel_rfl) (by rfl) (by first | assumption | decide +kernel) (by decide +kernel) ⟨rfl, rfl, rfl, rfl, rfl, by decide +kernel⟩ ?hw ?hc
  case hw => w_witness2
  case hc =>
    refine L2.walk_ofE (l := PySem.Challenge.rw_narrowahead_k15_whole_seats_put_to_the_e) (n := 63) (k := 10) (x := "_law_script") (CX := L2.CX0) rfl (by decide) (by kernel_rfl) ⟨rfl, by decide, by decide⟩ ?F (fun _ _ _ _ z => z)
    intro w mg fa h Y G hmg0
    obtain ⟨K, KX, c⟩ := Y
    have hmg : mg ("law" : PySem.Str) = some (.ref fa) := by
      have e : (HandSHeadRun.topDef (OpenLaw.row PySem.Challenge.rw_narrowahead_k15_whole_seats_put_to_the_e).prog 61).name = ("law" : PySem.Str) := by kernel_rfl
      rw [← e]
      exact hmg0
    obtain ⟨fd, hb, hF⟩ := K15.facts (P := (PySem.Challenge.rw_narrowahead_k15_whole_seats_put_to_the_e).prog) (w := w) KX G hmg c.t.d c.more
    exact ⟨K, fd, K15.spLaw K, KX, hb, fun H a ns hl _ hS => ⟨a, ns, rfl, hS, fun _ => rfl⟩, hF⟩
