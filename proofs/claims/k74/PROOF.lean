import PyProof.Rows.All
import Wide.All
import OpenK.AllK
import Wide.FinOn
import HandS.ForMost
import HandS.ForExc
import HandS.Flow
import HandS.NoneIn
import HandS.Conv
import HandS.More
import HandS.SetFor
import HandS.Deep
import HandS.DeepEq
import HandS.IsInst
import HandS.Zip
import HandS.Walk
import HandS.SortInts
import HandS.SortKw
import HandS.ExcInit
import HandS.ExcField
import HandS.Replace
import HandS.EndTab
import KE.SortKeyHeap
import KE.DataMinMax
import KE.SortData
import HandS.TryElse
import HandS.ClsMeth
import HandS.WordsExc
import PySem.Challenge.RW_flaglocker_k74_whole_fewest_lowered
set_option Elab.async false
set_option linter.all false
set_option maxRecDepth 100000
set_option maxHeartbeats 4000000
/-! FlMath -/
/-! The plain law of the matching: wants, flags, augmenting ways; lists alone, no program. -/
namespace Fl
section gen
variable {α : Type}

theorem perm_of_mem [DecidableEq α] {l m : List α} (hl : l.Nodup) (hm : m.Nodup) (h : ∀ x, x ∈ l ↔ x ∈ m) : l.Perm m :=
  (List.perm_ext_iff_of_nodup hl hm).mpr h

theorem nodup_len_le {l : List Nat} {n : Nat} (hl : l.Nodup) (h : ∀ x ∈ l, x < n) : l.length ≤ n := by
  have hs : (l.Perm ((List.range n).filter (fun x => decide (x ∈ l)))) := by
    refine perm_of_mem hl (List.Pairwise.filter _ List.nodup_range) fun x => ?_
    simp only [List.mem_filter, List.mem_range, decide_eq_true_eq]
    exact ⟨fun hx => ⟨h x hx, hx⟩, fun hx => hx.2⟩
  rw [hs.length_eq]
  have := List.length_filter_le (fun x => decide (x ∈ l)) (List.range n)
  rw [List.length_range] at this
  exact this

theorem sorted_ext {l m : List Nat} (hl : l.Pairwise (· < ·)) (hm : m.Pairwise (· < ·)) (h : ∀ x, x ∈ l ↔ x ∈ m) : l = m := by
  induction l generalizing m with
  | nil =>
    cases m with
    | nil => rfl
    | cons y r => exact absurd ((h y).mpr (by simp)) (by simp)
  | cons x l ih =>
    cases m with
    | nil => exact absurd ((h x).mp (by simp)) (by simp)
    | cons y m =>
      rw [List.pairwise_cons] at hl hm
      have e : x = y := by
        have h1 : x ∈ y :: m := (h x).mp (by simp)
        have h2 : y ∈ x :: l := (h y).mpr (by simp)
        rcases List.mem_cons.mp h1 with e | q1
        · exact e
        · rcases List.mem_cons.mp h2 with e | q2
          · exact e.symm
          · have a := hm.1 x q1
            have b := hl.1 y q2
            omega
      subst e
      congr 1
      refine ih hl.2 hm.2 fun z => ⟨fun hz => ?_, fun hz => ?_⟩
      · rcases List.mem_cons.mp ((h z).mp (List.mem_cons_of_mem _ hz)) with e | q
        · have := hl.1 z hz
          omega
        · exact q
      · rcases List.mem_cons.mp ((h z).mpr (List.mem_cons_of_mem _ hz)) with e | q
        · have := hm.1 z hz
          omega
        · exact q

/-- what stands at rising places of a list without doubles, picked out of it -/
theorem pick_filter [DecidableEq α] {t : List α} (ht : t.Nodup) {W : List Nat} (hW : W.Pairwise (· < ·)) (hb : ∀ w ∈ W, w < t.length) {xs : List α}
    (hx : xs.map some = W.map fun w => t[w]?) : xs = t.filter fun x => decide (x ∈ xs) := by
  have hmem : ∀ x, x ∈ xs ↔ ∃ w ∈ W, t[w]? = some x := by
    intro x
    have : some x ∈ xs.map some ↔ some x ∈ W.map fun w => t[w]? := by rw [hx]
    simpa using this
  -- t as the picks of a range
  have et : t.map some = (List.range t.length).map fun w => t[w]? := by
    apply List.ext_getElem?
    intro i
    rw [List.getElem?_map, List.getElem?_map]
    by_cases hi : i < t.length
    · rw [List.getElem?_range hi, List.getElem?_eq_getElem hi]
      simp [hi]
    · rw [List.getElem?_eq_none (by omega), List.getElem?_eq_none (by simpa using Nat.le_of_not_lt hi)]
      rfl
  have inj : ∀ a b : List α, a.map some = b.map some → a = b := fun a b h => by
    have := congrArg (List.filterMap id) h
    simpa using this
  apply inj
  have e1 : (t.filter fun x => decide (x ∈ xs)).map some = (t.map some).filter (fun o => decide (∃ x ∈ xs, o = some x)) := by
    rw [List.filter_map]
    congr 1
    apply List.filter_congr
    intro x _
    simp
  rw [e1, et, List.filter_map, hx]
  congr 1
  refine sorted_ext hW (List.Pairwise.filter _ (List.pairwise_lt_range)) fun w => ?_
  rw [List.mem_filter, List.mem_range]
  constructor
  · intro hw
    have hb' := hb w hw
    refine ⟨hb', ?_⟩
    simp only [Function.comp, decide_eq_true_eq]
    exact ⟨t[w], (hmem _).mpr ⟨w, hw, List.getElem?_eq_getElem hb'⟩, List.getElem?_eq_getElem hb'⟩
  · rintro ⟨hw, hp⟩
    simp only [Function.comp, decide_eq_true_eq] at hp
    obtain ⟨x, hx1, hx2⟩ := hp
    obtain ⟨w', hw', e'⟩ := (hmem x).mp hx1
    have hw2 : w' < t.length := hb w' hw'
    have : w = w' := by
      have a : t[w] = x := by rw [List.getElem?_eq_getElem hw] at hx2; exact Option.some.inj hx2
      have b : t[w'] = x := by rw [List.getElem?_eq_getElem hw2] at e'; exact Option.some.inj e'
      exact (List.getElem_inj ht).mp (a.trans b.symm)
    rw [this]; exact hw'
end gen
end Fl

/-! FlMatch -/
namespace Fl
section
variable {φ : Type} [DecidableEq φ]

/-- f's list replaced -/
def upF (held : φ → List Nat) (f : φ) (l : List Nat) : φ → List Nat := fun g => if g = f then l else held g
theorem upF_same {held : φ → List Nat} {f : φ} {l : List Nat} : upF held f l f = l := if_pos rfl
theorem upF_ne {held : φ → List Nat} {f g : φ} {l : List Nat} (h : g ≠ f) : upF held f l g = held g := if_neg h

/-- the first k wants hang, each by a flag of its choices, no flag too often; held tells the same by flags -/
structure Mt (ch : List (List φ)) (L : φ → Int) (held : φ → List Nat) (hung : List (Option φ)) (k : Nat) : Prop where
  len : hung.length = ch.length
  hh : ∀ (w : Nat) (f : φ), w ∈ held f ↔ hung[w]? = some (some f)
  nd : ∀ f, (held f).Nodup
  inc : ∀ (w : Nat) (f : φ), hung[w]? = some (some f) → ∃ cs, ch[w]? = some cs ∧ f ∈ cs
  le : ∀ f, ((held f).length : Int) ≤ L f
  done : ∀ w, w < k → ∃ f, hung[w]? = some (some f)
  rest : ∀ w, k ≤ w → w < ch.length → hung[w]? = some none

theorem Mt.lt {ch : List (List φ)} {L : φ → Int} {held : φ → List Nat} {hung : List (Option φ)} {k : Nat} (M : Mt ch L held hung k) {w : Nat} {f : φ} (h : w ∈ held f) : w < ch.length := by
  have e := (M.hh w f).mp h
  obtain ⟨h', _⟩ := List.getElem?_eq_some_iff.mp e
  rw [M.len] at h'
  exact h'

theorem Mt.lk {ch : List (List φ)} {L : φ → Int} {held : φ → List Nat} {hung : List (Option φ)} {k : Nat} (M : Mt ch L held hung k) {w : Nat} {f : φ} (h : w ∈ held f) : w < k := by
  have e := (M.hh w f).mp h
  have l := M.lt h
  by_cases q : w < k
  · exact q
  · rw [M.rest w (by omega) l] at e
    cases e

theorem Mt.zero {ch : List (List φ)} {L : φ → Int} (hL : ∀ f, 0 ≤ L f) : Mt ch L (fun _ => []) (List.replicate ch.length none) 0 where
  len := List.length_replicate
  hh := fun w f => by
    constructor
    · intro h; cases h
    · intro h
      rw [List.getElem?_replicate] at h
      split at h <;> cases h
  nd := fun _ => List.nodup_nil
  inc := fun w f h => by
    rw [List.getElem?_replicate] at h
    split at h <;> cases h
  le := fun f => by simpa using hL f
  done := fun w h => absurd h (Nat.not_lt_zero w)
  rest := fun w _ h => by rw [List.getElem?_replicate, if_pos h]

/-- the way back from a flag to the want at the start -/
inductive Chain (ch : List (List φ)) (came : φ → Option Nat) (hung : List (Option φ)) (start : Nat) : φ → List Nat → Prop
  | base {f : φ} {cs : List φ} : came f = some start → ch[start]? = some cs → f ∈ cs → Chain ch came hung start f [start]
  | step {f g : φ} {w : Nat} {cs : List φ} {ws : List Nat} : came f = some w → ch[w]? = some cs → f ∈ cs → hung[w]? = some (some g) → f ≠ g → Chain ch came hung start g ws → w ∉ ws → Chain ch came hung start f (w :: ws)

theorem Chain.keep {ch : List (List φ)} {came came' : φ → Option Nat} {hung : List (Option φ)} {start : Nat} {f : φ} {ws : List Nat} (c : Chain ch came hung start f ws) (h : ∀ g w, came g = some w → came' g = some w) : Chain ch came' hung start f ws := by
  induction c with
  | base a b d => exact .base (h _ _ a) b d
  | step a b d e i _ k ih => exact .step (h _ _ a) b d e i ih k

theorem Chain.set {ch : List (List φ)} {came : φ → Option Nat} {hung : List (Option φ)} {start : Nat} {f : φ} {ws : List Nat} (c : Chain ch came hung start f ws) {w : Nat} {x : Option φ} (h : w ∉ ws) : Chain ch came (hung.set w x) start f ws := by
  induction c with
  | base a b d => exact .base a b d
  | @step f g w' cs ws a b d e i _ k ih =>
    rw [List.mem_cons, not_or] at h
    exact .step a b d (by rw [List.getElem?_set_ne h.1]; exact e) i (ih h.2) k

theorem Chain.came {ch : List (List φ)} {came : φ → Option Nat} {hung : List (Option φ)} {start : Nat} {f : φ} {ws : List Nat} (c : Chain ch came hung start f ws) : ∃ w, came f = some w ∧ w ∈ ws := by
  cases c with
  | base a _ _ => exact ⟨_, a, by simp⟩
  | step a _ _ _ _ _ _ => exact ⟨_, a, by simp⟩

/-- the last turn of hang_along: the start gets the flag -/
theorem Mt.last {ch : List (List φ)} {L : φ → Int} {held : φ → List Nat} {hung : List (Option φ)} {k : Nat} {f : φ} {cs : List φ} (M : Mt ch L held hung k) (hk : ch[k]? = some cs) (hf : f ∈ cs) (room : ((held f).length : Int) < L f) :
    Mt ch L (upF held f (held f ++ [k])) (hung.set k (some f)) (k + 1) := by
  have hkl : k < ch.length := (List.getElem?_eq_some_iff.mp hk).1
  have hkh : k < hung.length := by rw [M.len]; exact hkl
  have nk : ∀ g, k ∉ held g := fun g h => Nat.lt_irrefl _ (M.lk h)
  refine ⟨by rw [List.length_set]; exact M.len, fun w g => ?_, fun g => ?_, fun w g h => ?_, fun g => ?_, fun w h => ?_, fun w h1 h2 => ?_⟩
  · by_cases hw : w = k
    · subst hw
      rw [List.getElem?_set_self hkh]
      by_cases hg : g = f
      · subst hg
        rw [upF_same]
        simp
      · rw [upF_ne hg]
        constructor
        · intro h; exact absurd h (nk g)
        · intro h
          exact absurd (Option.some.inj (Option.some.inj h)).symm hg
    · rw [List.getElem?_set_ne (fun e => hw e.symm)]
      by_cases hg : g = f
      · subst hg
        rw [upF_same, List.mem_append, List.mem_singleton]
        rw [M.hh]
        simp [hw]
      · rw [upF_ne hg, M.hh]
  · by_cases hg : g = f
    · subst hg
      rw [upF_same, List.nodup_append]
      refine ⟨M.nd g, by simp, fun a ha b hb => ?_⟩
      rw [List.mem_singleton] at hb
      subst hb
      intro e
      subst e
      exact nk g ha
    · rw [upF_ne hg]; exact M.nd g
  · by_cases hw : w = k
    · subst hw
      rw [List.getElem?_set_self hkh] at h
      have e := Option.some.inj (Option.some.inj h)
      subst e
      exact ⟨cs, hk, hf⟩
    · rw [List.getElem?_set_ne (fun e => hw e.symm)] at h
      exact M.inc w g h
  · by_cases hg : g = f
    · subst hg
      rw [upF_same, List.length_append, List.length_singleton]
      omega
    · rw [upF_ne hg]; exact M.le g
  · by_cases hw : w = k
    · subst hw
      exact ⟨f, List.getElem?_set_self hkh⟩
    · rw [List.getElem?_set_ne (fun e => hw e.symm)]
      exact M.done w (by omega)
  · rw [List.getElem?_set_ne (by omega)]
    exact M.rest w (by omega) h2

/-- a turn between: want w leaves g for f -/
theorem Mt.swap {ch : List (List φ)} {L : φ → Int} {held : φ → List Nat} {hung : List (Option φ)} {k w : Nat} {f g : φ} {cs : List φ} (M : Mt ch L held hung k) (hw : ch[w]? = some cs) (hf : f ∈ cs) (hg : hung[w]? = some (some g)) (hne : f ≠ g) (room : ((held f).length : Int) < L f) :
    Mt ch L (upF (upF held f (held f ++ [w])) g ((held g).erase w)) (hung.set w (some f)) k ∧ (((held g).erase w).length : Int) < L g := by
  have hwh : w < hung.length := (List.getElem?_eq_some_iff.mp hg).1
  have wg : w ∈ held g := (M.hh w g).mpr hg
  have hlen : ((held g).erase w).length + 1 = (held g).length := by
    have := List.length_erase_of_mem wg
    have : 0 < (held g).length := List.length_pos_of_mem wg
    omega
  have wk : w < k := M.lk wg
  have nw : ∀ e, e ≠ g → w ∉ held e := fun e he h => by
    have := (M.hh w e).mp h
    rw [hg] at this
    exact he (Option.some.inj (Option.some.inj this)).symm
  refine ⟨⟨by rw [List.length_set]; exact M.len, fun v e => ?_, fun e => ?_, fun v e h => ?_, fun e => ?_, fun v h => ?_, fun v h1 h2 => ?_⟩, ?_⟩
  · by_cases hv : v = w
    · subst hv
      rw [List.getElem?_set_self hwh]
      by_cases he : e = g
      · subst he
        rw [upF_same]
        constructor
        · intro h
          exact absurd h (List.Nodup.not_mem_erase (M.nd e))
        · intro h
          exact absurd (Option.some.inj (Option.some.inj h)) hne
      · rw [upF_ne he]
        by_cases hef : e = f
        · subst hef
          rw [upF_same]
          simp
        · rw [upF_ne hef]
          constructor
          · intro h; exact absurd h (nw e he)
          · intro h; exact absurd (Option.some.inj (Option.some.inj h)).symm hef
    · rw [List.getElem?_set_ne (fun x => hv x.symm), ← M.hh]
      by_cases he : e = g
      · subst he
        rw [upF_same, List.mem_erase_of_ne hv]
      · rw [upF_ne he]
        by_cases hef : e = f
        · subst hef
          rw [upF_same, List.mem_append, List.mem_singleton]
          simp [hv]
        · rw [upF_ne hef]
  · by_cases he : e = g
    · subst he
      rw [upF_same]; exact List.Nodup.erase w (M.nd e)
    · rw [upF_ne he]
      by_cases hef : e = f
      · subst hef
        rw [upF_same, List.nodup_append]
        refine ⟨M.nd e, by simp, fun a ha b hb => ?_⟩
        rw [List.mem_singleton] at hb
        subst hb
        intro x
        subst x
        exact nw e he ha
      · rw [upF_ne hef]; exact M.nd e
  · by_cases hv : v = w
    · subst hv
      rw [List.getElem?_set_self hwh] at h
      have x := Option.some.inj (Option.some.inj h)
      subst x
      exact ⟨cs, hw, hf⟩
    · rw [List.getElem?_set_ne (fun x => hv x.symm)] at h
      exact M.inc v e h
  · by_cases he : e = g
    · subst he
      rw [upF_same]
      have := M.le e
      omega
    · rw [upF_ne he]
      by_cases hef : e = f
      · subst hef
        rw [upF_same, List.length_append, List.length_singleton]
        omega
      · rw [upF_ne hef]; exact M.le e
  · by_cases hv : v = w
    · subst hv
      exact ⟨f, List.getElem?_set_self hwh⟩
    · rw [List.getElem?_set_ne (fun x => hv x.symm)]
      exact M.done v h
  · rw [List.getElem?_set_ne (by omega)]
    exact M.rest v h1 h2
  · have := M.le g
    omega

/-! ### the search -/
/-- the pairs that a dict has got one by one -/
def look (came : List (φ × Nat)) (f : φ) : Option Nat := (came.find? fun p => decide (p.1 = f)).map (·.2)
theorem look_nil (f : φ) : look ([] : List (φ × Nat)) f = none := rfl
theorem look_none {came : List (φ × Nat)} {f : φ} : look came f = none ↔ f ∉ came.map (·.1) := by
  unfold look
  rw [Option.map_eq_none_iff, List.find?_eq_none]
  simp only [decide_eq_true_eq, List.mem_map, not_exists, not_and]
theorem look_snoc {came : List (φ × Nat)} {f g : φ} {w : Nat} (h : f ∉ came.map (·.1)) : look (came ++ [(f, w)]) g = if g = f then some w else look came g := by
  unfold look
  rw [List.find?_append]
  by_cases e : g = f
  · subst e
    have : (came.find? fun p => decide (p.1 = g)) = none := by
      have := look_none.mpr h
      unfold look at this
      exact Option.map_eq_none_iff.mp this
    rw [this]
    simp
  · rw [if_neg e]
    cases came.find? fun p => decide (p.1 = g) with
    | some p => rfl
    | none =>
      have e' : ¬ f = g := fun x => e x.symm
      simp [List.find?_cons, e']

structure Bfs (ch : List (List φ)) (L : φ → Int) (held : φ → List Nat) (hung : List (Option φ)) (start : Nat) (came : List (φ × Nat)) (wants : List Nat) (at_ : Nat) : Prop where
  kd : (came.map (·.1)).Nodup
  ws : wants = start :: (came.map (·.1)).flatMap held
  full : ∀ f ∈ came.map (·.1), L f ≤ ((held f).length : Int)
  clos : ∀ i w cs, i < at_ → wants[i]? = some w → ch[w]? = some cs → ∀ f ∈ cs, f ∈ came.map (·.1)
  back : ∀ i w, wants[i]? = some w → w = start ∨ ∃ g ws, hung[w]? = some (some g) ∧ g ∈ came.map (·.1) ∧ Chain ch (look came) hung start g ws ∧ ∀ x ∈ ws, x ∈ wants.take i

theorem flat_nodup {held : φ → List Nat} {hung : List (Option φ)} (hh : ∀ (w : Nat) (f : φ), w ∈ held f ↔ hung[w]? = some (some f)) (nd : ∀ f, (held f).Nodup) : ∀ {ks : List φ}, ks.Nodup → (ks.flatMap held).Nodup
  | [], _ => by simp
  | k :: ks, h => by
    rw [List.nodup_cons] at h
    rw [List.flatMap_cons, List.nodup_append]
    refine ⟨nd k, flat_nodup hh nd h.2, fun a ha b hb e => ?_⟩
    subst e
    obtain ⟨f, hf, hb⟩ := List.mem_flatMap.mp hb
    have h1 := (hh a k).mp ha
    have h2 := (hh a f).mp hb
    rw [h1] at h2
    have := Option.some.inj (Option.some.inj h2)
    subst this
    exact h.1 hf

theorem Bfs.nodup {ch : List (List φ)} {L : φ → Int} {held : φ → List Nat} {hung : List (Option φ)} {start : Nat} {came : List (φ × Nat)} {wants : List Nat} {at_ : Nat} (M : Mt ch L held hung start) (B : Bfs ch L held hung start came wants at_) : wants.Nodup := by
  rw [B.ws, List.nodup_cons]
  refine ⟨fun h => ?_, flat_nodup M.hh M.nd B.kd⟩
  obtain ⟨f, _, hb⟩ := List.mem_flatMap.mp h
  exact Nat.lt_irrefl _ (M.lk hb)

theorem Bfs.bound {ch : List (List φ)} {L : φ → Int} {held : φ → List Nat} {hung : List (Option φ)} {start : Nat} {came : List (φ × Nat)} {wants : List Nat} {at_ : Nat} (M : Mt ch L held hung start) (B : Bfs ch L held hung start came wants at_) (hs : start < ch.length) : ∀ w ∈ wants, w < ch.length := by
  intro w hw
  rw [B.ws] at hw
  rcases List.mem_cons.mp hw with e | h
  · rw [e]; exact hs
  · obtain ⟨f, _, hb⟩ := List.mem_flatMap.mp h
    exact M.lt hb

theorem Bfs.len {ch : List (List φ)} {L : φ → Int} {held : φ → List Nat} {hung : List (Option φ)} {start : Nat} {came : List (φ × Nat)} {wants : List Nat} {at_ : Nat} (M : Mt ch L held hung start) (B : Bfs ch L held hung start came wants at_) (hs : start < ch.length) : wants.length ≤ ch.length :=
  nodup_len_le (B.nodup M) (B.bound M hs)

theorem Bfs.zero {ch : List (List φ)} {L : φ → Int} {held : φ → List Nat} {hung : List (Option φ)} {start : Nat} : Bfs ch L held hung start [] [start] 0 where
  kd := List.nodup_nil
  ws := by simp
  full := fun f h => by cases h
  clos := fun i _ _ h => absurd h (Nat.not_lt_zero i)
  back := fun i w h => by
    cases i with
    | zero => exact .inl (Option.some.inj h).symm
    | succ i => simp at h

/-- a new flag and the way back from it -/
theorem Bfs.chain {ch : List (List φ)} {L : φ → Int} {held : φ → List Nat} {hung : List (Option φ)} {start : Nat} {came : List (φ × Nat)} {wants : List Nat} {at_ w : Nat} {f : φ} {cs : List φ} (M : Mt ch L held hung start) (B : Bfs ch L held hung start came wants at_)
    (hw : wants[at_]? = some w) (hc : ch[w]? = some cs) (hf : f ∈ cs) (hn : f ∉ came.map (·.1)) : ∃ ws, Chain ch (look (came ++ [(f, w)])) hung start f ws ∧ ∀ x ∈ ws, x ∈ wants.take (at_ + 1) := by
  have lf : look (came ++ [(f, w)]) f = some w := by rw [look_snoc hn, if_pos rfl]
  have hal : at_ < wants.length := (List.getElem?_eq_some_iff.mp hw).1
  have wt : w ∈ wants.take (at_ + 1) := by
    rw [List.take_add_one, hw]
    simp
  rcases B.back at_ w hw with e | ⟨g, ws, h1, h2, h3, h4⟩
  · subst e
    exact ⟨[w], .base lf hc hf, fun x hx => by rw [List.mem_singleton] at hx; rw [hx]; exact wt⟩
  · have nf : f ≠ g := fun e => hn (by rw [e]; exact h2)
    have nws : w ∉ ws := fun hx => by
      have ht := h4 w hx
      obtain ⟨j, hj, e⟩ := List.mem_iff_getElem.mp ht
      rw [List.length_take] at hj
      rw [List.getElem_take] at e
      obtain ⟨hl, e2⟩ := List.getElem?_eq_some_iff.mp hw
      have := (List.getElem_inj (B.nodup M)).mp (e.trans e2.symm)
      omega
    refine ⟨w :: ws, .step lf hc hf h1 nf (h3.keep fun g' w' hg => ?_) nws, fun x hx => ?_⟩
    · rw [look_snoc hn, if_neg]
      · exact hg
      · intro e
        subst e
        rw [look_none.mpr hn] at hg
        cases hg
    · rcases List.mem_cons.mp hx with e | hx
      · rw [e]; exact wt
      · rw [List.take_add_one]
        exact List.mem_append_left _ (h4 x hx)

/-- .. and without room: its wants come behind -/
theorem Bfs.more {ch : List (List φ)} {L : φ → Int} {held : φ → List Nat} {hung : List (Option φ)} {start : Nat} {came : List (φ × Nat)} {wants : List Nat} {at_ w : Nat} {f : φ} {cs : List φ} (M : Mt ch L held hung start) (B : Bfs ch L held hung start came wants at_)
    (hw : wants[at_]? = some w) (hc : ch[w]? = some cs) (hf : f ∈ cs) (hn : f ∉ came.map (·.1)) (hr : L f ≤ ((held f).length : Int)) : Bfs ch L held hung start (came ++ [(f, w)]) (wants ++ held f) at_ := by
  obtain ⟨ws, hch, hws⟩ := B.chain M hw hc hf hn
  have hal : at_ < wants.length := (List.getElem?_eq_some_iff.mp hw).1
  have em : (came ++ [(f, w)]).map (·.1) = came.map (·.1) ++ [f] := by simp
  refine ⟨?_, ?_, ?_, ?_, ?_⟩
  · rw [em, List.nodup_append]
    refine ⟨B.kd, by simp, fun a ha b hb e => ?_⟩
    rw [List.mem_singleton] at hb
    subst hb; subst e
    exact hn ha
  · rw [em, List.flatMap_append, B.ws]
    simp
  · intro g hg
    rw [em, List.mem_append, List.mem_singleton] at hg
    rcases hg with hg | hg
    · exact B.full g hg
    · rw [hg]; exact hr
  · intro i v cs' hi hv hcs g hg
    rw [List.getElem?_append_left (by omega)] at hv
    rw [em]
    exact List.mem_append_left _ (B.clos i v cs' hi hv hcs g hg)
  · intro i v hv
    by_cases hi : i < wants.length
    · rw [List.getElem?_append_left hi] at hv
      rcases B.back i v hv with e | ⟨g, ws', h1, h2, h3, h4⟩
      · exact .inl e
      · refine .inr ⟨g, ws', h1, by rw [em]; exact List.mem_append_left _ h2, h3.keep fun g' w' hg => ?_, fun x hx => ?_⟩
        · rw [look_snoc hn, if_neg]
          · exact hg
          · intro e
            subst e
            rw [look_none.mpr hn] at hg
            cases hg
        · rw [List.take_append_of_le_length (by omega)]
          exact h4 x hx
    · have hi : wants.length ≤ i := by omega
      rw [List.getElem?_append_right hi] at hv
      have hv' : v ∈ held f := List.mem_of_getElem? hv
      refine .inr ⟨f, ws, (M.hh v f).mp hv', by rw [em]; simp, hch, fun x hx => ?_⟩
      have := hws x hx
      have h2 : at_ + 1 ≤ i := by omega
      have h3 : (wants.take (at_ + 1)) = ((wants ++ held f).take i).take (at_ + 1) := by
        rw [List.take_take, Nat.min_eq_left h2, List.take_append_of_le_length (by omega)]
      rw [h3] at this
      exact List.mem_of_mem_take this

theorem Bfs.next {ch : List (List φ)} {L : φ → Int} {held : φ → List Nat} {hung : List (Option φ)} {start : Nat} {came : List (φ × Nat)} {wants : List Nat} {at_ w : Nat} {cs : List φ} (B : Bfs ch L held hung start came wants at_)
    (hw : wants[at_]? = some w) (hc : ch[w]? = some cs) (hall : ∀ f ∈ cs, f ∈ came.map (·.1)) : Bfs ch L held hung start came wants (at_ + 1) := by
  refine ⟨B.kd, B.ws, B.full, fun i v cs' hi hv hcs => ?_, B.back⟩
  by_cases h : i < at_
  · exact B.clos i v cs' h hv hcs
  · have : i = at_ := by omega
    subst this
    rw [hw] at hv
    have := Option.some.inj hv
    subst this
    rw [hc] at hcs
    have := Option.some.inj hcs
    subst this
    exact hall

/-! ### papers -/
def total (L : φ → Int) (F : List φ) : Int := (F.map L).sum
theorem total_cons (L : φ → Int) (f : φ) (F : List φ) : total L (f :: F) = L f + total L F := by simp [total]
theorem total_perm {L : φ → Int} {F G : List φ} (h : F.Perm G) : total L F = total L G := by
  induction h with
  | nil => rfl
  | cons x _ ih => rw [total_cons, total_cons, ih]
  | swap x y l =>
    simp only [total_cons]
    omega
  | trans _ _ a b => exact a.trans b

/-- wants that have no other flags than these, and are more than these -/
structure Lacks (ch : List (List φ)) (L : φ → Int) (W : List Nat) (F : List φ) : Prop where
  nw : W.Nodup
  nf : F.Nodup
  bd : ∀ w ∈ W, w < ch.length
  all : ∀ w ∈ W, ∀ cs, ch[w]? = some cs → ∀ f ∈ cs, f ∈ F
  more : total L F < (W.length : Int)

theorem len_flat (held : φ → List Nat) (L : φ → Int) : ∀ (ks : List φ), (∀ f ∈ ks, L f ≤ ((held f).length : Int)) → total L ks ≤ ((ks.flatMap held).length : Int)
  | [], _ => by simp [total]
  | k :: ks, h => by
    have ih := len_flat held L ks fun f hf => h f (List.mem_cons_of_mem _ hf)
    have h1 := h k (by simp)
    rw [total_cons, List.flatMap_cons, List.length_append]
    omega

theorem Bfs.lacks {ch : List (List φ)} {L : φ → Int} {held : φ → List Nat} {hung : List (Option φ)} {start : Nat} {came : List (φ × Nat)} {wants : List Nat} {at_ : Nat} (M : Mt ch L held hung start) (B : Bfs ch L held hung start came wants at_) (hs : start < ch.length) (hend : wants.length ≤ at_) :
    Lacks ch L wants (came.map (·.1)) where
  nw := B.nodup M
  nf := B.kd
  bd := B.bound M hs
  all := fun w hw cs hc => by
    obtain ⟨i, hi, e⟩ := List.mem_iff_getElem.mp hw
    exact B.clos i w cs (by omega) (by rw [List.getElem?_eq_getElem hi, e]) hc
  more := by
    have := len_flat held L (came.map (·.1)) B.full
    rw [B.ws, List.length_cons]
    omega

theorem Lacks.perm {ch : List (List φ)} {L : φ → Int} {W W' : List Nat} {F F' : List φ} (h : Lacks ch L W F) (hW : W'.Perm W) (hF : F'.Perm F) : Lacks ch L W' F' where
  nw := hW.nodup_iff.mpr h.nw
  nf := hF.nodup_iff.mpr h.nf
  bd := fun w hw => h.bd w (hW.mem_iff.mp hw)
  all := fun w hw cs hc f hf => hF.mem_iff.mpr (h.all w (hW.mem_iff.mp hw) cs hc f hf)
  more := by rw [total_perm hF, hW.length_eq]; exact h.more

/-- one flag for each want, of its choices, none too often -/
structure Hangs (ch : List (List φ)) (L : φ → Int) (g : List φ) : Prop where
  len : g.length = ch.length
  inc : ∀ (w : Nat) (f : φ), g[w]? = some f → ∃ cs, ch[w]? = some cs ∧ f ∈ cs
  le : ∀ f, (g.count f : Int) ≤ L f
def Can (ch : List (List φ)) (L : φ → Int) : Prop := ∃ g, Hangs ch L g

theorem count_places (f : φ) : ∀ (g : List φ), g.count f = ((List.range g.length).filter fun w => decide (g[w]? = some f)).length
  | [] => rfl
  | x :: g => by
    rw [List.count_cons, count_places f g, List.length_cons, List.range_succ_eq_map, List.filter_cons, List.filter_map]
    by_cases e : x = f
    · simp [e, Function.comp_def]
    · simp [e, Function.comp_def]
theorem count_held {held : List Nat} {g : List φ} {f : φ} (nd : held.Nodup) (h : ∀ w, w ∈ held ↔ g[w]? = some f) : g.count f = held.length := by
  rw [count_places]
  refine (perm_of_mem (List.Pairwise.filter _ List.nodup_range) nd fun w => ?_).length_eq
  rw [List.mem_filter, List.mem_range, decide_eq_true_eq, h]
  exact ⟨fun x => x.2, fun x => ⟨(List.getElem?_eq_some_iff.mp x).1, x⟩⟩

/-- where all hang -/
theorem Mt.hangs {ch : List (List φ)} {L : φ → Int} {held : φ → List Nat} {hung : List (Option φ)} (M : Mt ch L held hung ch.length) : ∃ g, hung = g.map some ∧ Hangs ch L g := by
  have hall : ∀ o ∈ hung, ∃ f, o = some f := fun o ho => by
    obtain ⟨i, hi, e⟩ := List.mem_iff_getElem.mp ho
    obtain ⟨f, hf⟩ := M.done i (by rw [← M.len]; exact hi)
    rw [List.getElem?_eq_getElem hi, e] at hf
    exact ⟨f, Option.some.inj hf⟩
  have e : hung = (hung.filterMap id).map some := by
    have : ∀ l : List (Option φ), (∀ o ∈ l, ∃ f, o = some f) → l = (l.filterMap id).map some := by
      intro l
      induction l with
      | nil => intro _; rfl
      | cons o l ih =>
        intro h
        obtain ⟨f, hf⟩ := h o (by simp)
        subst hf
        have := ih fun o ho => h o (List.mem_cons_of_mem _ ho)
        simp only [List.filterMap_cons, id, List.map_cons]
        rw [← this]
    exact this hung hall
  refine ⟨hung.filterMap id, e, ?_, ?_, ?_⟩
  · have := congrArg List.length e
    rw [List.length_map] at this
    rw [← this]; exact M.len
  · intro w f h
    refine M.inc w f ?_
    rw [e, List.getElem?_map, h]; rfl
  · intro f
    rw [count_held (M.nd f) (fun w => ?_)]
    · exact M.le f
    · have q : hung[w]? = ((hung.filterMap id).map some)[w]? := congrArg (fun l => l[w]?) e
      rw [M.hh w f, q, List.getElem?_map]
      generalize (List.filterMap id hung)[w]? = o
      cases o with
      | none => simp
      | some x => simp

theorem count_pick (f : φ) {g : List φ} {W : List Nat} (hW : W.Nodup) (xs : List φ) (hx : xs.map some = W.map fun w => g[w]?) : xs.count f ≤ g.count f := by
  have h1 : ∀ (W : List Nat) (xs : List φ), (xs.map some = W.map fun w => g[w]?) → xs.count f = (W.filter fun w => decide (g[w]? = some f)).length := by
    intro W
    induction W with
    | nil =>
      intro xs h
      cases xs with
      | nil => rfl
      | cons _ _ => simp at h
    | cons w W ih =>
      intro xs h
      cases xs with
      | nil => simp at h
      | cons x xs =>
        rw [List.map_cons, List.map_cons] at h
        injection h with h2 h3
        rw [List.count_cons, ih xs h3, List.filter_cons, ← h2]
        by_cases e : x = f
        · simp [e]
        · simp [e]
  rw [h1 W xs hx, count_places]
  have sub : ∀ w ∈ (W.filter fun w => decide (g[w]? = some f)), w ∈ ((List.range g.length).filter fun w => decide (g[w]? = some f)) := by
    intro w hw
    rw [List.mem_filter, decide_eq_true_eq] at hw
    rw [List.mem_filter, List.mem_range, decide_eq_true_eq]
    exact ⟨(List.getElem?_eq_some_iff.mp hw.2).1, hw.2⟩
  have hp : (W.filter fun w => decide (g[w]? = some f)).Perm (((List.range g.length).filter fun w => decide (g[w]? = some f)).filter fun w => decide (w ∈ W)) := by
    refine perm_of_mem (List.Pairwise.filter _ hW) (List.Pairwise.filter _ (List.Pairwise.filter _ List.nodup_range)) fun w => ?_
    constructor
    · intro hw
      rw [List.mem_filter]
      exact ⟨sub w hw, decide_eq_true (List.mem_filter.mp hw).1⟩
    · intro hw
      rw [List.mem_filter, decide_eq_true_eq] at hw
      rw [List.mem_filter]
      exact ⟨hw.2, (List.mem_filter.mp hw.1).2⟩
  rw [hp.length_eq]
  exact List.length_filter_le _ _

theorem len_counts : ∀ (F : List φ), F.Nodup → ∀ xs : List φ, (∀ x ∈ xs, x ∈ F) → (xs.length : Int) = total (fun f => (xs.count f : Int)) F
  | [], _, xs, h => by
    cases xs with
    | nil => rfl
    | cons x _ => exact absurd (h x (by simp)) (by simp)
  | f :: F, hF, xs, h => by
    rw [List.nodup_cons] at hF
    have ih := len_counts F hF.2 (xs.filter fun x => decide (x ≠ f)) fun x hx => by
      rw [List.mem_filter, decide_eq_true_eq] at hx
      rcases List.mem_cons.mp (h x hx.1) with e | q
      · exact absurd e hx.2
      · exact q
    have e1 : total (fun f => ((xs.filter fun x => decide (x ≠ f)).count f : Int)) F = total (fun f => (xs.count f : Int)) F → True := fun _ => trivial
    have e2 : total (fun f' => ((xs.filter fun x => decide (x ≠ f)).count f' : Int)) F = total (fun f' => (xs.count f' : Int)) F := by
      unfold total
      congr 1
      apply List.map_congr_left
      intro f' hf'
      have ne : f' ≠ f := fun e => hF.1 (by rw [← e]; exact hf')
      rw [List.count_filter]
      simpa using ne
    have e3 : xs.length = xs.count f + (xs.filter fun x => decide (x ≠ f)).length := by
      clear ih e1 e2 h
      induction xs with
      | nil => rfl
      | cons x xs ih =>
        rw [List.length_cons, List.count_cons, List.filter_cons]
        by_cases e : x = f
        · subst e
          simp only [ne_eq, not_true_eq_false, decide_false, Bool.false_eq_true, ↓reduceIte, beq_self_eq_true]
          simp only [ne_eq] at ih
          omega
        · simp only [ne_eq, e, not_false_eq_true, decide_true, ↓reduceIte, List.length_cons, beq_iff_eq]
          simp only [ne_eq] at ih
          omega
    rw [total_cons, ← e2, ← ih]
    omega

theorem total_le {L K : φ → Int} : ∀ (F : List φ), (∀ f ∈ F, L f ≤ K f) → total L F ≤ total K F
  | [], _ => Int.le_refl _
  | f :: F, h => by
    rw [total_cons, total_cons]
    have := h f (by simp)
    have := total_le F fun x hx => h x (List.mem_cons_of_mem _ hx)
    omega

theorem Lacks.no {ch : List (List φ)} {L : φ → Int} {W : List Nat} {F : List φ} (h : Lacks ch L W F) : ¬ Can ch L := by
  rintro ⟨g, hg⟩
  obtain ⟨xs, hx⟩ : ∃ xs : List φ, xs.map some = W.map fun w => g[w]? := by
    have : ∀ W : List Nat, (∀ w ∈ W, w < g.length) → ∃ xs : List φ, xs.map some = W.map fun w => g[w]? := by
      intro W
      induction W with
      | nil => intro _; exact ⟨[], rfl⟩
      | cons w W ih =>
        intro hb
        obtain ⟨xs, e⟩ := ih fun w hw => hb w (List.mem_cons_of_mem _ hw)
        refine ⟨g[w]'(hb w (by simp)) :: xs, ?_⟩
        rw [List.map_cons, List.map_cons, e, List.getElem?_eq_getElem]
    exact this W fun w hw => by rw [hg.len]; exact h.bd w hw
  have hin : ∀ x ∈ xs, x ∈ F := by
    intro x hx'
    have : some x ∈ W.map fun w => g[w]? := by rw [← hx]; exact List.mem_map.mpr ⟨x, hx', rfl⟩
    obtain ⟨w, hw, e⟩ := List.mem_map.mp this
    obtain ⟨cs, hc, hf⟩ := hg.inc w x e
    exact h.all w hw cs hc x hf
  have hl : xs.length = W.length := by
    have := congrArg List.length hx
    simpa using this
  have a := len_counts F h.nf xs hin
  have b := total_le (L := fun f => (xs.count f : Int)) (K := L) F fun f _ => by
    have := count_pick f h.nw xs hx
    have := hg.le f
    show (xs.count f : Int) ≤ L f
    omega
  have := h.more
  omega
end
end Fl

/-! FlBase -/
/-! The ground of the walk: the text by places, frozen data and its frames, what a def promises. -/
namespace Fl
open PySem L2
def top (i : Nat) : Stmt := PySem.Challenge.pw_flaglocker_k74_whole_fewest_lowered.main.body.getD i (.Pass ⟨0, 0, 0, 0⟩)

/-! ### a def that is called by its name -/
section
variable (P : Program) (w : World) (K : PySem.W.Frag) (mg : PySem.Str → Option Value) (base : Heap)
structure Cf (k : Nat) (x : PySem.Str) (sp : Sp) : Prop where
  ex : ∃ (f : Addr) (fd : FuncData) (ps : List PySem.Str), FnOk P w K mg base L2.CX0 k f fd ps sp ∧ mg x = some (.ref f) ∧ PySem.W.keepIn K (.ref f) = true ∧ Binds K fd ps []
/-- .. that may raise -/
structure Cr (k : Nat) (x : PySem.Str) (sp : Sp) : Prop where
  ex : ∃ (f : Addr) (fd : FuncData) (ps : List PySem.Str), FnOk P w K mg base (L2.CX P w) k f fd ps sp ∧ mg x = some (.ref f) ∧ PySem.W.keepIn K (.ref f) = true ∧ Binds K fd ps []
end
section
variable {X : Cx} {k j : Nat} {x : PySem.Str} {sp : Sp} {p pos : Pos} {e : Expr} {es : List Expr} {t : TA}
theorem pe_cf (c : Cf X.prog X.w X.K X.mg X.base k x sp) (hr : Room j X.A) (hk : k ≤ j) (hg : Gl X x) (ha : PA X (e :: es) t)
    (hdb : (x == ("__debug__" : PySem.Str)) = false := by decide) (he : starEach (e :: es) X.env = (false, eval e X.env) :: starEach es X.env := by rfl) (hpl : (backTo pos (starEach es X.env)).any (·.1) = false := by rfl) :
    PE X (.Call (.Name x p) (e :: es) [] pos) (tCall sp [] L2.E0 t) := by
  obtain ⟨f, fd, ps, F, hm, kp, b⟩ := c.ex
  exact pe_call F (hr.mono hk) hg hm kp b .nil L2.pass0 ha hdb he hpl
/-- .. where what it raises is known not to come -/
theorem pe_cx (c : Cr X.prog X.w X.K X.mg X.base k x sp) (hr : Room j X.A) (hk : k ≤ j) (hg : Gl X x) (ha : PA X (e :: es) t)
    (hdb : (x == ("__debug__" : PySem.Str)) = false := by decide) (he : starEach (e :: es) X.env = (false, eval e X.env) :: starEach es X.env := by rfl) (hpl : (backTo pos (starEach es X.env)).any (·.1) = false := by rfl) :
    PE X (.Call (.Name x p) (e :: es) [] pos) (tCall sp [] L2.E0 t) := by
  obtain ⟨f, fd, ps, F, hm, kp, b⟩ := c.ex
  exact pe_call F (hr.mono hk) hg hm kp b .nil L2.passL ha hdb he hpl
/-- .. where it is wished for by W -/
theorem pe_cxS {W : WX} (c : Cr X.prog X.w X.K X.mg X.base k x sp) (hr : Room j X.A) (hk : k ≤ j) (hg : Gl X x) (tk : L2.Takes X W) (ha : PA X (e :: es) t)
    (hdb : (x == ("__debug__" : PySem.Str)) = false := by decide) (he : starEach (e :: es) X.env = (false, eval e X.env) :: starEach es X.env := by rfl) (hpl : (backTo pos (starEach es X.env)).any (·.1) = false := by rfl) :
    PE X (.Call (.Name x p) (e :: es) [] pos) (tCallS sp (WE W) t) := by
  obtain ⟨f, fd, ps, F, hm, kp, b⟩ := c.ex
  exact pe_callS F (hr.mono hk) hg hm kp b (fun σ => passAt tk σ) ha hdb he hpl
/-- a constant of the module -/
theorem pe_gk {v : V} (hg : Gl X x) (h : ∃ u, X.mg x = some u ∧ RelV v u) (hdb : (x == ("__debug__" : PySem.Str)) = false := by decide) : PE X (.Name x p) (tC v) := by
  obtain ⟨u, hm, r⟩ := h
  exact pe_glob (hd := hdb) hg hm r
end

/-! ### texts -/
def chr (c : Nat) : PySem.Str := ⟨#[c]⟩
def wd (l : List Nat) : PySem.Str := ⟨l.toArray⟩
theorem wd_list (l : List Nat) : (wd l).cps.toList = l := rfl
theorem wd_len (l : List Nat) : (wd l).length = l.length := by
  show l.toArray.size = l.length
  simp
theorem wd_add (l : List Nat) (c : Nat) : wd l ++ chr c = wd (l ++ [c]) := by
  show (⟨l.toArray ++ #[c]⟩ : PySem.Str) = ⟨(l ++ [c]).toArray⟩
  congr 1
  simp
theorem wd_inj {a b : List Nat} (h : wd a = wd b) : a = b := by
  have := congrArg (fun z : PySem.Str => z.cps.toList) h
  exact this
theorem chr_inj {a b : Nat} (h : chr a = chr b) : a = b := by
  have : wd [a] = wd [b] := h
  have := wd_inj this
  simpa using this
def LET : PySem.Str := wd [97, 98, 99, 100, 101, 102, 103, 104, 105, 106, 107, 108, 109, 110, 111, 112, 113, 114, 115, 116, 117, 118, 119]
def SUB : PySem.Str := wd [49, 50, 51, 52]
def FLG : PySem.Str := wd [97, 98, 99, 100, 101, 102, 103, 104, 105, 106, 107, 108, 109, 110, 111, 112, 113, 114, 115, 116, 117, 118, 119, 49, 50, 51, 52]

/-! ### what the top has written -/
structure Txt (K : PySem.W.Frag) (mg : PySem.Str → Option Value) : Prop where
  mLETTERS : ∃ u, mg "LETTERS" = some u ∧ RelV (.str LET) u
  mSUBSTITUTES : ∃ u, mg "SUBSTITUTES" = some u ∧ RelV (.str SUB) u
  mFLAGS : ∃ u, mg "FLAGS" = some u ∧ RelV (.str FLG) u
  mLONGEST : ∃ u, mg "LONGEST" = some u ∧ RelV (.int 7) u
  b_len : mg "len" = none
  b_int : mg "int" = none
  b_str : mg "str" = none
  b_list : mg "list" = none
  b_dict : mg "dict" = none
  b_tuple : mg "tuple" = none
  b_range : mg "range" = none
  b_enumerate : mg "enumerate" = none
  b_zip : mg "zip" = none
  b_sorted : mg "sorted" = none
  b_sum : mg "sum" = none
  b_min : mg "min" = none
  b_isinstance : mg "isinstance" = none

/-! ### frozen data -/
abbrev Rp (α : Type) := Hp → V → α → Prop
def Al {α : Type} (r : V → α → Prop) : List V → List α → Prop
  | [], [] => True
  | x :: xs, y :: ys => r x y ∧ Al r xs ys
  | _, _ => False
section
variable {α β γ : Type}
theorem Al.len {r : V → α → Prop} : ∀ {xs : List V} {ys : List α}, Al r xs ys → xs.length = ys.length
  | [], [], _ => rfl
  | _ :: _, _ :: _, h => congrArg Nat.succ (Al.len h.2)
theorem Al.get {r : V → α → Prop} : ∀ {xs : List V} {ys : List α} {i : Nat} {x : V}, Al r xs ys → xs[i]? = some x → ∃ y, ys[i]? = some y ∧ r x y
  | [], _, _, _, _, e => by simp at e
  | x :: xs, y :: ys, 0, _, h, e => by
    have e' : x = _ := Option.some.inj e
    subst e'
    exact ⟨y, rfl, h.1⟩
  | _ :: xs, _ :: ys, i + 1, _, h, e => Al.get (xs := xs) (ys := ys) (i := i) h.2 e
theorem Al.at {r : V → α → Prop} : ∀ {xs : List V} {ys : List α} {i : Nat} {y : α}, Al r xs ys → ys[i]? = some y → ∃ x, xs[i]? = some x ∧ r x y
  | _, [], _, _, _, e => by simp at e
  | x :: xs, y :: ys, 0, _, h, e => by
    have e' : y = _ := Option.some.inj e
    subst e'
    exact ⟨x, rfl, h.1⟩
  | _ :: xs, _ :: ys, i + 1, _, h, e => Al.at (xs := xs) (ys := ys) (i := i) h.2 e
theorem Al.mono {r s : V → α → Prop} (m : ∀ x y, r x y → s x y) : ∀ {xs : List V} {ys : List α}, Al r xs ys → Al s xs ys
  | [], [], _ => trivial
  | _ :: _, _ :: _, h => ⟨m _ _ h.1, Al.mono m h.2⟩
theorem Al.app {r : V → α → Prop} {xs' : List V} {ys' : List α} (h' : Al r xs' ys') : ∀ {xs : List V} {ys : List α}, Al r xs ys → Al r (xs ++ xs') (ys ++ ys')
  | [], [], _ => h'
  | _ :: _, _ :: _, h => ⟨h.1, Al.app h' h.2⟩
theorem Al.snoc {r : V → α → Prop} {xs : List V} {ys : List α} {x : V} {y : α} (h : Al r xs ys) (h' : r x y) : Al r (xs ++ [x]) (ys ++ [y]) := Al.app (xs' := [x]) (ys' := [y]) ⟨h', trivial⟩ h
theorem Al.take {r : V → α → Prop} : ∀ (n : Nat) {xs : List V} {ys : List α}, Al r xs ys → Al r (xs.take n) (ys.take n)
  | 0, _, _, _ => by rw [List.take_zero, List.take_zero]; trivial
  | _ + 1, [], [], _ => trivial
  | n + 1, _ :: _, _ :: _, h => ⟨h.1, Al.take n h.2⟩
theorem Al.drop {r : V → α → Prop} : ∀ (n : Nat) {xs : List V} {ys : List α}, Al r xs ys → Al r (xs.drop n) (ys.drop n)
  | 0, _, _, h => h
  | _ + 1, [], [], _ => trivial
  | n + 1, _ :: _, _ :: _, h => Al.drop n h.2
theorem Al.set {r : V → α → Prop} {x : V} {y : α} (h' : r x y) : ∀ (n : Nat) {xs : List V} {ys : List α}, Al r xs ys → Al r (xs.set n x) (ys.set n y)
  | _, [], [], _ => trivial
  | 0, _ :: _, _ :: _, h => ⟨h', h.2⟩
  | n + 1, _ :: _, _ :: _, h => ⟨h.1, Al.set h' n h.2⟩
theorem Al.of_map {g : α → V} : ∀ {xs : List V} {ys : List α}, Al (fun x y => x = g y) xs ys → xs = ys.map g
  | [], [], _ => rfl
  | _ :: _, _ :: _, h => by
    rw [h.1, Al.of_map h.2]
    rfl
theorem Al.map {g : α → V} : ∀ (ys : List α), Al (fun x y => x = g y) (ys.map g) ys
  | [] => trivial
  | _ :: ys => ⟨rfl, Al.map ys⟩
def rI : Rp Int := fun _ v i => v = .int i
def rN : Rp Nat := fun _ v n => v = .int (n : Int)
def rS : Rp PySem.Str := fun _ v z => v = .str z
def rL (r : Rp α) : Rp (List α) := fun F v l => ∃ a xs, v = .ref a ∧ F a = some (.lst xs) ∧ Al (r F) xs l
def rO (r : Rp α) : Rp (Option α) := fun F v o => match o with
  | none => v = .non
  | some y => v ≠ .non ∧ r F v y
def rP (r : Rp α) (s : Rp β) : Rp (α × β) := fun F v p => ∃ a x y, v = .ref a ∧ F a = some (.tup [x, y]) ∧ r F x p.1 ∧ s F y p.2
def rT (r : Rp α) (s : Rp β) (t : Rp γ) : Rp (α × β × γ) := fun F v p => ∃ a x y z, v = .ref a ∧ F a = some (.tup [x, y, z]) ∧ r F x p.1 ∧ s F y p.2.1 ∧ t F z p.2.2
/-- a sign, by its code -/
def rC : Rp Nat := fun _ v c => v = .str (chr c)
def rW : Rp (List Nat) := fun _ v l => v = .str (wd l)
/-- a dict of signs with numbers -/
def dk (kvs : List (Nat × Int)) : List (Key × V) := kvs.map fun p => (Sum.inr (chr p.1), .int p.2)
def rD : Rp (List (Nat × Int)) := fun F v kvs => ∃ a, v = .ref a ∧ F a = some (.dK (dk kvs))
/-- data that stays while its objects stay -/
structure Mo {α : Type} (r : Rp α) : Prop where
  up : ∀ {F F' : Hp} {v : V} {y : α}, L2.Same F F' → r F v y → r F' v y
theorem mo_I : Mo rI := ⟨fun _ h => h⟩
theorem mo_N : Mo rN := ⟨fun _ h => h⟩
theorem mo_S : Mo rS := ⟨fun _ h => h⟩
theorem mo_C : Mo rC := ⟨fun _ h => h⟩
theorem mo_W : Mo rW := ⟨fun _ h => h⟩
theorem mo_L {r : Rp α} (m : Mo r) : Mo (rL r) := ⟨fun s ⟨a, xs, e, h, k⟩ => ⟨a, xs, e, s _ _ h, k.mono fun _ _ => m.up s⟩⟩
theorem mo_O {r : Rp α} (m : Mo r) : Mo (rO r) := ⟨fun {_ _ _ y} s h => match y, h with
  | none, h => h
  | some _, h => ⟨h.1, m.up s h.2⟩⟩
theorem mo_P {r : Rp α} {s : Rp β} (m : Mo r) (n : Mo s) : Mo (rP r s) := ⟨fun q ⟨a, x, y, e, h, k, l⟩ => ⟨a, x, y, e, q _ _ h, m.up q k, n.up q l⟩⟩
theorem mo_T {r : Rp α} {s : Rp β} {t : Rp γ} (m : Mo r) (n : Mo s) (o : Mo t) : Mo (rT r s t) := ⟨fun q ⟨a, x, y, z, e, h, k, l, j⟩ => ⟨a, x, y, z, e, q _ _ h, m.up q k, n.up q l, o.up q j⟩⟩
theorem mo_D : Mo rD := ⟨fun q ⟨a, e, h⟩ => ⟨a, e, q _ _ h⟩⟩
theorem Mo.al {r : Rp α} (m : Mo r) {F F' : Hp} {xs : List V} {ys : List α} (s : L2.Same F F') (h : Al (r F) xs ys) : Al (r F') xs ys := h.mono fun _ _ => m.up s
theorem rL_I {F : Hp} {v : V} {l : List Int} (h : rL rI F v l) : ∃ a, v = .ref a ∧ F a = some (.lst (l.map V.int)) := by
  obtain ⟨a, xs, e, h, k⟩ := h
  rw [Al.of_map (g := V.int) k] at h
  exact ⟨a, e, h⟩
theorem rL_N {F : Hp} {v : V} {l : List Nat} (h : rL rN F v l) : ∃ a, v = .ref a ∧ F a = some (.lst (l.map fun n : Nat => V.int (n : Int))) := by
  obtain ⟨a, xs, e, h, k⟩ := h
  rw [Al.of_map (g := fun n : Nat => V.int (n : Int)) k] at h
  exact ⟨a, e, h⟩
theorem rL_S {F : Hp} {v : V} {l : List PySem.Str} (h : rL rS F v l) : ∃ a, v = .ref a ∧ F a = some (.lst (l.map V.str)) := by
  obtain ⟨a, xs, e, h, k⟩ := h
  rw [Al.of_map (g := V.str) k] at h
  exact ⟨a, e, h⟩
theorem rL_C {F : Hp} {v : V} {l : List Nat} (h : rL rC F v l) : ∃ a, v = .ref a ∧ F a = some (.lst (l.map fun c => V.str (chr c))) := by
  obtain ⟨a, xs, e, h, k⟩ := h
  rw [Al.of_map (g := fun c => V.str (chr c)) k] at h
  exact ⟨a, e, h⟩
theorem rL_W {F : Hp} {v : V} {l : List (List Nat)} (h : rL rW F v l) : ∃ a, v = .ref a ∧ F a = some (.lst (l.map fun c => V.str (wd c))) := by
  obtain ⟨a, xs, e, h, k⟩ := h
  rw [Al.of_map (g := fun c => V.str (wd c)) k] at h
  exact ⟨a, e, h⟩
theorem rL_mkC {F : Hp} {a : Addr} {l : List Nat} (h : F a = some (.lst (l.map fun c => V.str (chr c)))) : rL rC F (.ref a) l := ⟨a, _, rfl, h, Al.map l⟩
theorem rL_mkW {F : Hp} {a : Addr} {l : List (List Nat)} (h : F a = some (.lst (l.map fun c => V.str (wd c)))) : rL rW F (.ref a) l := ⟨a, _, rfl, h, Al.map l⟩
theorem rL_mkI {F : Hp} {a : Addr} {l : List Int} (h : F a = some (.lst (l.map V.int))) : rL rI F (.ref a) l := ⟨a, _, rfl, h, Al.map l⟩
theorem rL_mkN {F : Hp} {a : Addr} {l : List Nat} (h : F a = some (.lst (l.map fun n : Nat => V.int (n : Int)))) : rL rN F (.ref a) l := ⟨a, _, rfl, h, Al.map l⟩
theorem rL_mkS {F : Hp} {a : Addr} {l : List PySem.Str} (h : F a = some (.lst (l.map V.str))) : rL rS F (.ref a) l := ⟨a, _, rfl, h, Al.map l⟩
end

/-! ### frames: F0 and H0 at the begin, F the frozen part of H now -/
def NTb (o : HO) : Prop := ∀ ps, o ≠ .tbl ps
/-- all that was tracked stands; the tables of code objects stay tables -/
structure Kp (T : List (Addr × PySem.Str)) (H0 H : Hp) : Prop where
  st : ∀ b o, H0 b = some o → NTb o → H b = some o
  tb : LamX.Tabs T H0 → LamX.Tabs T H
  nn : ∀ b, H b = none → H0 b = none
structure Fr (T : List (Addr × PySem.Str)) (F0 H0 F H : Hp) : Prop where
  kp : Kp T H0 H
  fh : L2.Same F H
  ff : L2.Same F0 F
  nf : ∀ b, F0 b = none → H0 b ≠ none → F b = none
section
variable {T : List (Addr × PySem.Str)} {F0 H0 F H F' H' : Hp}
theorem Kp.rfl' (H : Hp) : Kp T H H := ⟨fun _ _ h _ => h, fun h => h, fun _ h => h⟩
theorem Kp.same (s : L2.Same H0 H) : Kp T H0 H := ⟨fun b o h _ => s b o h, fun h => h.ext s, fun b h => s.free h⟩
theorem Kp.trans (a : Kp T H0 H) (b : Kp T H H') : Kp T H0 H' := ⟨fun c o h n => b.st c o (a.st c o h n) n, fun h => b.tb (a.tb h), fun c h => a.nn c (b.nn c h)⟩
theorem Fr.begin (s : L2.Same F H) : Fr T F H F H := ⟨.rfl' H, s, .refl F, fun _ h _ => h⟩
theorem Fr.trans (a : Fr T F0 H0 F H) (b : Fr T F H F' H') : Fr T F0 H0 F' H' := ⟨a.kp.trans b.kp, b.fh, a.ff.trans b.ff, fun c h n => b.nf c (a.nf c h n) fun e => n (a.kp.nn c e)⟩
theorem Fr.free (a : Fr T F0 H0 F H) {p : Addr} (h : H p = none) : F p = none ∧ H0 p = none := ⟨a.fh.free h, a.kp.nn p h⟩
/-- a new object -/
theorem Fr.new (a : Fr T F0 H0 F H) {p : Addr} {o : HO} (h : H p = none) : Fr T F0 H0 F (upd H p o) := by
  have s : L2.Same H (upd H p o) := fun b u e => by rw [upd_ne (ne_of_none e h)]; exact e
  exact ⟨a.kp.trans (.same s), a.fh.trans s, a.ff, a.nf⟩
/-- an object of the def's own -/
structure Own (H0 F H : Hp) (p : Addr) (o : HO) : Prop where
  at_ : H p = some o
  h0 : H0 p = none
  f : F p = none
theorem Fr.own (a : Fr T F0 H0 F H) {p : Addr} {o : HO} (h : H p = none) : Own H0 F (upd H p o) p o := ⟨upd_same, (a.free h).2, (a.free h).1⟩
def Plain : HO → Prop
  | .lst _ => True
  | .dK _ => True
  | _ => False
theorem tabs_upd {p : Addr} {o o' : HO} (h : LamX.Tabs T H) (e : H p = some o) (q : Plain o) : LamX.Tabs T (upd H p o') := by
  intro c hc
  obtain ⟨ps, h1, h2, h3⟩ := h c hc
  refine ⟨ps, ?_, h2, fun pos cv hcv => ?_⟩
  · rw [upd_ne]
    · exact h1
    · intro z
      rw [z, e] at h1
      have := Option.some.inj h1
      subst this
      exact q
  · obtain ⟨c', e1, e2⟩ := h3 pos cv hcv
    refine ⟨c', e1, ?_⟩
    rw [upd_ne]
    · exact e2
    · intro z
      rw [z, e] at e2
      have := Option.some.inj e2
      subst this
      exact q
/-- an own object changed -/
theorem Fr.put (a : Fr T F0 H0 F H) {p : Addr} {o o' : HO} (w : Own H0 F H p o) (q : Plain o) : Fr T F0 H0 F (upd H p o') := by
  refine ⟨⟨fun b u e n => ?_, fun h => tabs_upd (a.kp.tb h) w.at_ q, fun b e => ?_⟩, fun b u e => ?_, a.ff, a.nf⟩
  · rw [upd_ne]
    · exact a.kp.st b u e n
    · intro z
      rw [z, w.h0] at e
      cases e
  · by_cases z : b = p
    · rw [z]; exact w.h0
    · rw [upd_ne z] at e
      exact a.kp.nn b e
  · rw [upd_ne]
    · exact a.fh b u e
    · intro z
      rw [z, w.f] at e
      cases e
theorem Own.put {p : Addr} {o o' : HO} (w : Own H0 F H p o) : Own H0 F (upd H p o') p o' := ⟨upd_same, w.h0, w.f⟩
theorem Own.other {p q : Addr} {o o' : HO} (w : Own H0 F H p o) (h : p ≠ q) : Own H0 F (upd H q o') p o := ⟨by rw [upd_ne h]; exact w.at_, w.h0, w.f⟩
theorem Own.new {p q : Addr} {o o' : HO} (w : Own H0 F H p o) (h : H q = none) : Own H0 F (upd H q o') p o := w.other (ne_of_none w.at_ h)
/-- over a call -/
theorem Own.call {p : Addr} {o : HO} (w : Own H0 F H p o) (n : NTb o) (b : Fr T F H F' H') : Own H0 F' H' p o := ⟨b.kp.st _ _ w.at_ n, w.h0, b.nf p w.f (by rw [w.at_]; simp)⟩
theorem ntb_lst {xs : List V} : NTb (.lst xs) := fun _ z => nomatch z
theorem ntb_dK {kvs : List (Key × V)} : NTb (.dK kvs) := fun _ z => nomatch z
theorem ntb_tup {xs : List V} : NTb (.tup xs) := fun _ z => nomatch z
/-- an own object comes to the frozen ones -/
theorem Fr.freeze (a : Fr T F0 H0 F H) {p : Addr} {o : HO} (w : Own H0 F H p o) : Fr T F0 H0 (upd F p o) H := by
  have s : L2.Same F (upd F p o) := fun b u e => by rw [upd_ne (ne_of_none e w.f)]; exact e
  refine ⟨a.kp, fun b u e => ?_, a.ff.trans s, fun b h n => ?_⟩
  · by_cases z : b = p
    · rw [z, upd_same] at e
      rw [z, w.at_]; exact e
    · rw [upd_ne z] at e
      exact a.fh b u e
  · rw [upd_ne]
    · exact a.nf b h n
    · intro z
      exact n (by rw [z]; exact w.h0)
theorem same_upd {p : Addr} {o : HO} (h : F p = none) : L2.Same F (upd F p o) := fun b u e => by rw [upd_ne (ne_of_none e h)]; exact e
theorem Own.freeze {p q : Addr} {o o' : HO} (w : Own H0 F H p o) (h : p ≠ q) : Own H0 (upd F q o') H p o := ⟨w.at_, w.h0, by rw [upd_ne h]; exact w.f⟩
/-- a new object, frozen at once -/
theorem Fr.lay (a : Fr T F0 H0 F H) {p : Addr} {o : HO} (h : H p = none) : Fr T F0 H0 (upd F p o) (upd H p o) := (a.new (o := o) h).freeze (a.own h)
theorem Own.lay {p q : Addr} {o o' : HO} (w : Own H0 F H p o) (h : H q = none) : Own H0 (upd F q o') (upd H q o') p o := (w.new h).freeze (ne_of_none w.at_ h)
end
/-- what is wanted of any value that stands for y -/
def Pf {α : Type} (T : List (Addr × PySem.Str)) (F H : Hp) (Q : VK) (r : Rp α) (y : α) : Prop := ∀ F' H' v, Fr T F H F' H' → r F' v y → Q v H'
end Fl

/-! FlSort -/
/-! sorted(xs, key=f) where f's answer may read off lists that stood before the sort. -/
namespace Fl
open PySem PySem.W PySem.Calls PyProof.Rows
/-- one call of the key's def: all stands, its answer reads as k off things that stood at the begin (h0) and are not the list that is sorted -/
def KeyTold (a : Addr) (h0 : Heap) (k : PyData) (s1 : Shared) (v : Value) (s2 : Shared) : Prop :=
  ∃ g tk as, s2 = { s1 with heap := g, toks := tk } ∧ (∀ b o, s1.heap.get? b = some o → g.get? b = some o) ∧ Reads g v k as ∧ ∀ b ∈ as, b ≠ a ∧ h0.get? b ≠ none
/-- a key in the store -/
def KeyIn (a : Addr) (h0 g : Heap) (v : Value) (k : PyData) : Prop := ∃ as, Reads g v k as ∧ (∀ b ∈ as, b ≠ a ∧ h0.get? b ≠ none) ∧ alike k k = true
section
variable {prog : Program} {w : World} {A : Around} {E : Value → Shared → Prop} {s : Shared} {a kS : Addr} {vs : List Value} {e1 : Nat} {R : PySem.Fin → Shared → Prop} {kz : List PyData} {f : Value} {h0 : Heap}
theorem sortL_rest (kp : KeepsBut a h0 s.heap) (hkS : h0.get? kS = none) (nk : s.heap.get? kS = some (seqObj "list" #[] 0)) (na : s.heap.get? a = some (seqObj "list" #[] e1)) (hka : kS ≠ a)
    (hlen : kz.length = vs.length) (hZ : vs.length ≤ sizeLine) (hal : AllAlike kz) (hsk : Sortable kz) (hu : ∀ d, d ∈ kz → A.units + d.depth < cLine)
    (turn : ∀ (i : Nat) (v : Value) (k : PyData), vs[i]? = some v → kz[i]? = some k → ∀ (g : Heap) (tk : Nat), KeepsBut a h0 g →
      wpAny (model prog w) A (call f [v]) (KeyTold a h0 k { s with heap := g, toks := tk }) (fun _ _ => False) { s with heap := g, toks := tk })
    (fin : ∀ g tk out c, KeepsBut a h0 g → g.get? a = some (seqObj "list" (List.toArray out) c) → KeyedOut false kz vs out → R (.done (.ret .none)) { s with heap := g, toks := tk }) :
    wpAny (model prog w) A (ksk_rest a f false vs.toArray e1 (.ref kS)) R E s := by
  unfold ksk_rest
  refine wpAny_bind (wpAny_rule ?_)
  first
    | rw [List.forIn_toArray]
    | (rw [← Array.forIn_toList]; simp only [List.toList_toArray])
  refine wpAny_bind (ksk_fold (fun i s' => ∃ g tk kA e, s' = { s with heap := g, toks := tk } ∧ KeepsBut a h0 g ∧ g.get? kS = some (seqObj "list" kA e) ∧ g.get? a = some (seqObj "list" #[] e1) ∧ EachIs (KeyIn a h0 g) kA.toList (kz.take i)) vs 0 s
    ⟨s.heap, s.toks, #[], 0, rfl, kp, nk, na, by rw [List.take_zero]; exact EachIs.nil⟩ ?one ?all)
  case one =>
    rintro j x s' hx ⟨g, tk, kA, e, rfl, kp', nk', na', hk⟩
    simp only [Nat.zero_add] at hk ⊢
    have hj : j < vs.length := (List.getElem?_eq_some_iff.mp hx).1
    obtain ⟨k, hkj⟩ : ∃ k, kz[j]? = some k := ⟨_, List.getElem?_eq_getElem (by omega)⟩
    have kk : alike k k = true := hal k (List.mem_of_getElem? hkj) k (List.mem_of_getElem? hkj)
    have hz : kA.size ≤ vs.length := by
      have q := hk.length
      rw [Array.length_toList, List.length_take] at q
      omega
    refine wpAny_bind (wpAny_attempt (wpAny_mono (turn j x k hx hkj g tk kp') (fun v s'' told => ?_) fun _ _ no => no.elim))
    obtain ⟨g2, tk2, as, rfl, keep, rd, old⟩ := told
    try dsimp only
    have nk2 := keep _ _ nk'
    have na2 := keep _ _ na'
    have same := Heap.SameBut.update g2 kS (Obj.mapSeq (·.push v))
    obtain ⟨c2, hc2⟩ : ∃ c2, (g2.update kS (Obj.mapSeq (·.push v))).get? kS = some (seqObj "list" (kA.push v) c2) := ⟨_, get?_update_seq nk2 (·.push v)⟩
    have ek : kz.take (j + 1) = kz.take j ++ [k] := by rw [List.take_add_one, hkj]; simp
    have ea : (kA.push v).toList = kA.toList ++ [v] := by simp
    refine wpAny_bind (listUpdate_at nk2 rfl ?_ (Nat.le_trans hz hZ) (Nat.le_trans (Nat.le_of_eq (Array.size_push ..)) (Nat.succ_le_succ (Nat.le_trans hz hZ))))
    have stay : ∀ (u : Value) (d : PyData), KeyIn a h0 g2 u d → KeyIn a h0 (g2.update kS (Obj.mapSeq (·.push v))) u d := fun u d ⟨bs, q1, q2, q3⟩ =>
      ⟨bs, Reads.keepBut (a := kS) (fun b o hb e => (same.2 b hb).trans e) (fun o e => by rw [nk2] at e; rw [← Option.some.inj e]) d u bs q3 q1 (fun hm => (q2 kS hm).2 hkS), q2, q3⟩
    refine wpAny_pure ⟨rfl, _, _, kA.push v, c2, rfl, (kp'.trans_all keep).same same (.inr hkS), hc2, (same.2 a hka.symm).trans na2, ?_⟩
    rw [ea, ek]
    refine each_snoc (R := KeyIn a h0 (g2.update kS (Obj.mapSeq (·.push v)))) (stay v k ⟨as, rd, old, kk⟩) ?_
    exact hk.mono fun u d ⟨bs, q1, q2, q3⟩ => stay u d ⟨bs, PyProof.Rows.Reads.keeps keep q1, q2, q3⟩
  case all =>
    rintro s' ⟨g, tk, kA, e, rfl, kp', nk', na', hk⟩
    have hk' : EachIs (fun v k => ∃ as, Reads g v k as) kA.toList kz := by
      have q : kz.take (0 + vs.length) = kz := List.take_of_length_le (by omega)
      rw [q] at hk
      exact hk.mono fun v k ⟨as, q1, _, _⟩ => ⟨as, q1⟩
    have hsz : kA.size = vs.length := by
      have q := hk'.length
      rw [Array.length_toList] at q
      omega
    try dsimp only
    refine wpAny_bind (listItems_at nk' rfl ?_)
    exact keyH_end (κ := dataKind g kz) (h₁ := h0) kp' hkS nk' na' hka (SortsAt.data (s := { s with heap := g, toks := tk }) hk' hal hsk hu) hsz hZ fun g3 tk3 c k3 n3 => fin g3 tk3 _ c k3 n3 ⟨g, kA.toList, hal, rfl, hk'⟩
theorem sortL_tree {n : Nat} (ho : s.heap.get? a = some (seqObj "list" vs.toArray n)) (hlen : kz.length = vs.length) (hZ : vs.length ≤ sizeLine) (hal : AllAlike kz) (hsk : Sortable kz) (hu : ∀ d, d ∈ kz → A.units + d.depth < cLine)
    (turn : ∀ (i : Nat) (v : Value) (k : PyData), vs[i]? = some v → kz[i]? = some k → ∀ (g : Heap) (tk : Nat), KeepsBut a s.heap g →
      wpAny (model prog w) A (call f [v]) (KeyTold a s.heap k { s with heap := g, toks := tk }) (fun _ _ => False) { s with heap := g, toks := tk })
    (fin : ∀ g tk out c, KeepsBut a s.heap g → g.get? a = some (seqObj "list" (List.toArray out) c) → KeyedOut false kz vs out → R (.done (.ret .none)) { s with heap := g, toks := tk }) :
    wpAny (model prog w) A (ksk_tree a f false) R E s := by
  have ha : a < s.heap.objs.size := Heap.lt_size ho
  obtain ⟨e1, ho1⟩ : ∃ e1, (s.heap.update a (Obj.mapSeq fun _ => (#[] : Array Value))).get? a = some (seqObj "list" #[] e1) := ⟨_, get?_update_seq ho fun _ => #[]⟩
  have hkS : ((s.heap.update a (Obj.mapSeq fun _ => (#[] : Array Value))).push (seqObj "tuple" vs.toArray 0)).objs.size = s.heap.objs.size + 1 := by rw [size_push', Heap.size_update]
  unfold ksk_tree
  refine wpAny_bind (listItems_at ho rfl (wpAny_bind (listUpdate_at ho rfl ?_ (by rw [List.size_toArray]; exact hZ) (Nat.zero_le _))))
  refine wpAny_bind (seqEpoch_at ho1 rfl (wpAny_bind (wpAny_newTuple ?_ (by show vs.length ≤ _; exact hZ))))
  refine wpAny_bind (wpAny_newList (wpAny_holding ?_) (Nat.zero_le _))
  have kp : KeepsBut a s.heap (sortingHeap s.heap a vs) := fun b o hb q => sortingHeap_old hb q
  exact sortL_rest (h0 := s.heap) (s := { s with heap := ((s.heap.update a (Obj.mapSeq fun _ => (#[] : Array Value))).push (seqObj "tuple" vs.toArray 0)).push (seqObj "list" #[] 0) })
    (kS := ((s.heap.update a (Obj.mapSeq fun _ => (#[] : Array Value))).push (seqObj "tuple" vs.toArray 0)).objs.size)
    kp (Heap.get?_none_of_le (by rw [hkS]; exact Nat.le_succ _)) (Heap.get?_push_size _ rfl) (Heap.get?_push_of_some _ (Heap.get?_push_of_some _ ho1)) (by rw [hkS]; exact Nat.ne_of_gt (Nat.lt_succ_of_lt ha)) hlen hZ hal hsk hu turn fin
/-- sorted(l, key=f), f a def at q; what it reads stood before the call -/
theorem sortL {l q : Addr} {β : Type} {bs : List β} {rel : Value → β → Prop} {Q : Value → Shared → Prop} (k : β → PyData) (hl : s.heap.IsList l vs.toArray) (e : EachIs rel vs bs) (hal : AllAlike (bs.map k)) (hk : Sortable (bs.map k)) (hL : bs.length ≤ sizeLine)
    (hu : ∀ x, x ∈ bs → A.units + 2 + (k x).depth < cLine)
    (turn : ∀ (v : Value) (x : β), rel v x → x ∈ bs → ∀ (g : Heap) (tk : Nat), (∀ b o, s.heap.get? b = some o → g.get? b = some o) →
      wpAny (model prog w) A.in1.in1 (call (.ref q) [v]) (fun v' s' => ∃ g' tk' as, s' = { s with heap := g', toks := tk' } ∧ (∀ b o, g.get? b = some o → g'.get? b = some o) ∧ Reads g' v' (k x) as ∧ ∀ b ∈ as, s.heap.get? b ≠ none) (fun _ _ => False) { s with heap := g, toks := tk })
    (fin : ∀ out c g tk, (∀ b o, s.heap.get? b = some o → g.get? b = some o) → s.heap.get? (s.heap.objs.size + 1) = none → g.get? (s.heap.objs.size + 1) = some (seqObj "list" (List.toArray out) c) → out.length = bs.length → EachIs rel out (bs.mergeSort (dataLe false k)) →
      Q (.ref (s.heap.objs.size + 1)) { s with heap := g, toks := tk }) :
    wpAny (model prog w) A (call (.builtin "sorted") [.ref l] [(Str.ofString "key", .ref q)]) Q E s := by
  have fresh : s.heap.get? (s.heap.objs.size + 1) = none := Heap.get?_none_of_le (Nat.le_succ _)
  have up : ∀ {g : Heap}, KeepsBut (s.heap.objs.size + 1) (copyHeap s.heap vs) g → ∀ b o, s.heap.get? b = some o → g.get? b = some o := fun {g} kp b o q =>
    kp b o (Nat.ne_of_lt (Nat.lt_succ_of_lt (Heap.lt_size q))) (copyHeap_old q)
  have ha2 : ∀ x, argsOk "list.sort" ⟨[.ref x], [(Str.ofString "key", .ref q)]⟩ := fun x => by unfold argsOk; kernel_rfl
  have ha1 : argsOk "sorted" ⟨[.ref l], [(Str.ofString "key", .ref q)]⟩ := by unfold argsOk; kernel_rfl
  refine sorted_of_sort hl (by rw [e.length]; exact hL) ha1 ha2 fun E' => ?_
  rw [ksk_t1]
  have bmap : ∀ d, d ∈ bs.map k → A.in1.in1.units + d.depth < cLine := bound_map (A := A.in1.in1) hu
  refine sortL_tree (kz := bs.map k) (s := { s with heap := copyHeap s.heap vs }) (copyHeap_at s.heap vs) (by rw [List.length_map]; exact e.length.symm) (by rw [e.length]; exact hL) hal hk bmap
    (fun i v d hv hd g tk kp => ?_) fun g tk out c kp hD ko => ⟨rfl, ?_⟩
  · rw [List.getElem?_map] at hd
    cases hx : bs[i]? with
    | none => rw [hx] at hd; cases hd
    | some x =>
      rw [hx] at hd
      obtain rfl : k x = d := Option.some.inj hd
      have hz : (v, x) ∈ vs.zip bs := List.mem_of_getElem? (i := i) (by rw [List.getElem?_zip_eq_some]; exact ⟨hv, hx⟩)
      refine wpAny_mono (turn v x (e.zip _ hz) (List.mem_of_getElem? hx) g tk (up kp)) (fun v' s' ⟨g', tk', as, e1, e2, e3, e4⟩ => ?_) fun _ _ no => no
      refine ⟨g', tk', as, e1, e2, e3, fun b hb => ?_⟩
      have hb' := e4 b hb
      cases hs : s.heap.get? b with
      | none => exact absurd hs hb'
      | some o =>
        refine ⟨Nat.ne_of_lt (Nat.lt_succ_of_lt (Heap.lt_size hs)), ?_⟩
        rw [copyHeap_old hs]
        simp
  · exact fin out c g tk (up kp) fresh hD ((ko.length (by rw [List.length_map]; exact e.length.symm)).trans e.length) (keyedOut_each k ko e)
end
end Fl

/-! FlLam -/
/-! sorted(e, key=lambda x: (len(x), x)) over a list of lists of ints. -/
namespace Fl
open PySem L2
/-! ### the lambda's text -/
def lamP (q : Pos) : Arguments := { posonlyargs := [], args := [{ arg := "_law_one", annotation := none, pos := q }], vararg := none, kwonlyargs := [], kw_defaults := [], kwarg := none, defaults := [] }
def lamB (q1 q2 q3 q4 q5 : Pos) (kk : Nat) : Expr := .Tuple [.Call (.Name "len" q1) [.Name "_law_one" q2] [] q3, .Name "_law_one" q4] kk q5
def lamSc : Scope := { kind := .function, names := [(PySem.Str.ofString "_law_one", .local), (PySem.Str.ofString "len", .globalImplicit)], isGenerator := false, isCoroutine := false, more := [] }
/-- what a list of ints is sorted by -/
def keyOf (l : List Int) : PyData := .tuple [.int (l.length : Int), .list (l.map .int)]
section
open PySem.W PySem.Calls PyProof.Rows
variable {prog : Program} {w : World} {A : Around} {E : Value → Shared → Prop} {s : Shared} {f c' a : Addr} {qual : PySem.Str} {cl : List (PySem.Str × Addr)} {pm ctv : Value} {mg mb : PySem.Str → Option Value} {its : List Value}
/-- one call of it -/
theorem lam_turn {q q1 q2 q3 q4 q5 : Pos} {kk : Nat} {Q : Value → Shared → Prop} (hroom : A.depth < recursionLimit) (hof : s.heap.get? f = some (kla_obj "<lambda>" qual (lamP q) (lamB q1 q2 q3 q4 q5 kk) lamSc cl pm c' ctv)) (hcd : s.heap.CodeRec (.ref c') qual)
    (hns : s.heap.Ns mainGlobals mg) (hm : mg "len" = none) (hbn : s.heap.Ns builtinsNs mb) (hb : mb "len" = some (.builtin "len")) (hlim : s.heap.NoLimit) (hl : s.heap.IsList a its.toArray) (hz : its.length ≤ 1000)
    (hq : ∀ (g : Heap) (tk : Nat) (p t : Nat), (∀ b o, s.heap.get? b = some o → g.get? b = some o) → g.get? p = some { cls := .type "tuple", data := .seq (#[Value.int (its.length : Int) t, Value.ref a] : Array Value) } → Q (.ref p) { s with heap := g, toks := tk }) :
    wpAny (model prog w) A (call (.ref f) [.ref a]) Q E s := by
  refine wpAny_call (kla_callFunE hroom hof rfl rfl rfl rfl hcd ?_)
  have hbind : bindArgs (kla_fn "<lambda>" qual (lamP q) (lamB q1 q2 q3 q4 q5 kk) lamSc cl pm (.ref c') ctv) ⟨[Value.ref a], []⟩ = pure [(PySem.Str.ofString "_law_one", Value.ref a)] := by
    first | rfl | decide | with_unfolding_all rfl
  rw [hbind]
  refine wpAny_pure (wpAny_newFunctionEnv (show ∀ x ∈ lamSc.names, x.2 ≠ NameKind.cell by decide +kernel) (fun x hx => by
    rw [List.mem_singleton] at hx
    subst hx
    show lamSc.names.lookup (PySem.Str.ofString "_law_one") = some .local
    decide +kernel) (fun h1 hn hsb => ⟨hlim.fresh _ hsb, ?_⟩) rfl)
  show codeAny _ _ (.expr (lamB q1 q2 q3 q4 q5 kk) (envX qual lamSc s.heap.objs.size f (.ref c') cl)) _ _
  have k1 : ∀ b o, s.heap.get? b = some o → h1.get? b = some o := fun b o e => hsb.extBut b o (Nat.ne_of_lt (Heap.lt_size e)) (Heap.get?_push_of_some _ e)
  have kl : lamSc.names.lookup (PySem.Str.ofString "_law_one") = some .local := by decide +kernel
  have kg : lamSc.names.lookup (PySem.Str.ofString "len") = some .globalImplicit := by decide +kernel
  have loc : ∀ {s2 : Shared} {pos : Pos} {Q : Value → Shared → Prop} {E : Value → Shared → Prop} {B : Around}, s2.heap.Ns s.heap.objs.size (fun x => [(("_law_one" : PySem.Str), Value.ref a)].reverse.lookup x) → Q (.ref a) s2 →
      wpAny (model prog w) B (eval (.Name "_law_one" pos) (envX qual lamSc s.heap.objs.size f (.ref c') cl)) Q E s2 := fun {s2 pos Q E B} hn' hq' =>
    wpAny_Name (wpAny_loadName_local rfl kl hn' (by simp [List.lookup]) hq') (by decide)
  refine kla_codeExpr (wpAny_Tuple_spliced ?_)
  have l1 : h1.IsList a its.toArray := by
    obtain ⟨o, ho, r⟩ := hl
    exact ⟨o, k1 _ _ ho, r⟩
  refine spliced_cons (wpAny_Call_Name_kw (Name_function_global rfl kg (loadGlobal_builtin (hns.keeps k1) hm (hbn.keeps k1) hb ?_) (by decide)))
  refine PyProof.Rows.callWith_builtin1 (spliced_cons (loc hn (spliced_nil ?_))) (by rfl) (by rfl)
  refine call_len_list l1 (by rw [List.size_toArray]; omega) ?_
  show wpAny _ _ (spliced ((false, eval (.Name "_law_one" q4) _) :: [])) _ _ _
  refine spliced_cons (loc hn (spliced_nil ⟨by show 2 ≤ sizeLine; exact Nat.le_trans (by decide) (Nat.le_of_lt (small1000 (Nat.le_refl 1000))), ?_⟩))
  refine hq _ _ h1.objs.size (s.toks + 1 + 1) (fun b o e => Heap.get?_push_of_some _ (k1 b o e)) ?_
  rw [List.size_toArray]
  exact Heap.get?_push_size _ rfl
end

/-! ### the lambda is made -/
section
open PyProof.Rows LamX
variable {X : Cx} {pins : List (Addr × Obj)} {σ : L2.St} {H : Hp} {s : Shared} {tbs : List (Addr × PySem.Str)} {c P : Addr} {params : Arguments} {body : Expr} {scope : Scope} {pos : Pos} {E : Value → Shared → Prop} {Q : Value → Shared → Prop}
theorem kp_table {ps more : Array Value} {c' : Addr} {q : PySem.Str} (hP : H P = some (.tbl ps)) (nc : H c' = none) (tb : Tabs tbs H → Tabs tbs (upd (upd H P (.tbl (ps ++ more))) c' (CodeO c' q))) : Kp tbs H (upd (upd H P (.tbl (ps ++ more))) c' (CodeO c' q)) := by
  refine ⟨fun b o e n => ?_, tb, fun b e => ?_⟩
  · have h1 : b ≠ c' := ne_of_none e nc
    have h2 : b ≠ P := fun z => by
      rw [z, hP] at e
      exact n ps (Option.some.inj e).symm
    rw [upd_ne h1, upd_ne h2]
    exact e
  · by_cases h1 : b = c'
    · rw [h1]; exact nc
    · rw [upd_ne h1] at e
      by_cases h2 : b = P
      · rw [h2, upd_same] at e
        cases e
      · rw [upd_ne h2] at e
        exact e
theorem lam_new (I : Inv X pins σ H s) (TB : TabB X.base X.mg c P) (hcode : X.env.code = .ref c) (hm : (P, X.env.qual ++ "<lambda>") ∈ tbs) (hu : ∀ p ∈ tbs, p.1 = P → p.2 = X.env.qual ++ "<lambda>") (hT : Tabs tbs H)
    (hdef : defaultsOf params X.env = ([], [])) (hfree : ∀ y ∈ scope.names, y.2 = .free → ∃ c, X.env.cells.lookup y.1 = some c)
    (fin : ∀ (f c' : Addr) (pm ctv : Value) (H1 : Hp) (s' : Shared), Inv X pins σ H1 s' → Kp tbs H H1 → s'.heap.get? f = some (PySem.W.kla_obj "<lambda>" (X.env.qual ++ "<lambda>") params body scope (cloFrom X.env.cells scope.names []) pm c' ctv) →
      H1 c' = some (CodeO c' (X.env.qual ++ "<lambda>")) → Q (.ref f) s') :
    wpAny (model X.prog X.w) X.A (eval (.Lambda params body scope pos) X.env) Q E s := by
  obtain ⟨ps, hP, ht, ha⟩ := hT _ hm
  have hP' : s.heap.get? P = some { cls := .none, data := .fields ps } := I.hok P _ hP
  refine PySem.W.kla_eval hdef ?_
  cases hc : codeAmong pos ps.toList with
  | some cv =>
    obtain ⟨c', rfl, hco⟩ := ha pos cv hc
    refine PySem.W.kla_makeFunctionHit (mg := X.mg) (c := c) (P := P) (ps := ps) (closure_ok hfree) I.ok.glob (I.mod.glob.keeps I.bk) hcode (TB.code.keeps I.bk) hP' ht hc (TB.bm.keeps I.bk) fun ctv h' tk hx hsz => ?_
    exact fin h'.objs.size c' ((X.mg "__name__").getD .none) ctv H _ (I.kept fun b o e => Heap.get?_push_of_some _ (hx b o e)) (.rfl' H) (Heap.get?_push_size _ rfl) hco
  | none =>
    refine PySem.W.kla_makeFunction (mg := X.mg) (c := c) (P := P) (ps := ps) (closure_ok hfree) I.ok.glob (I.mod.glob.keeps I.bk) hcode (TB.code.keeps I.bk) hP' ht hc TB.gP (TB.bm.keeps I.bk) fun c' ctv h' tk hx hge hlt hrec htb => ?_
    obtain ⟨c2, oc, vs, t, e2, hoc, hd, hv⟩ := hrec
    cases e2
    have nc : H c' = none := I.hok.fresh hge
    refine fin h'.objs.size c' ((X.mg "__name__").getD .none) ctv _ _ (inv_table (t' := tk) (q := X.env.qual ++ "<lambda>") (more := #[rawInt pos.line, rawInt pos.col, .ref c']) I hP (fun b o hb e => Heap.get?_push_of_some _ (hx b o hb e)) (Heap.get?_push_of_some _ htb) hge
      ⟨oc, vs, t, Heap.get?_push_of_some _ hoc, hd, hv⟩) (kp_table hP nc fun _ p hp => ?_) (Heap.get?_push_size _ rfl) upd_same
    have stay : ∀ b o, H b = some o → NTb o → upd (upd H P (.tbl (ps ++ #[rawInt pos.line, rawInt pos.col, .ref c']))) c' (CodeO c' (X.env.qual ++ "<lambda>")) b = some o := fun b o e n => by
      rw [upd_ne (ne_of_none e nc), upd_ne fun z => n ps (Option.some.inj (e.symm.trans (by rw [z]; exact hP)))]
      exact e
    by_cases hb : p.1 = P
    · rw [hu p hp hb, hb]
      have eL : (ps ++ #[rawInt pos.line, rawInt pos.col, .ref c']).toList = ps.toList ++ [rawInt pos.line, rawInt pos.col, .ref c'] := by simp
      refine ⟨_, by rw [upd_ne (ne_of_none hP nc), upd_same], by rw [eL]; exact PySem.TriplesOk_snoc _ _ _ _ ht, fun p' cv hcv => ?_⟩
      rw [eL] at hcv
      rcases among_app _ ht hcv with z | z
      · obtain ⟨c0, e1, e2⟩ := ha p' cv z
        exact ⟨c0, e1, stay _ _ e2 codeO_ne⟩
      · exact ⟨c', z, upd_same⟩
    · obtain ⟨ps', a1, a2, a3⟩ := hT p hp
      refine ⟨ps', by rw [upd_ne (ne_of_none a1 nc), upd_ne hb]; exact a1, a2, fun p' cv hcv => ?_⟩
      obtain ⟨c0, e1, e2⟩ := a3 p' cv hcv
      exact ⟨c0, e1, stay _ _ e2 codeO_ne⟩
end

/-! ### the rule -/
/-- the value at a list of ints -/
def IsRow (H : Hp) (v : V) (d : List Int) : Prop := ∃ a, v = .ref a ∧ H a = some (.lst (d.map V.int))
def tSortL (tbs : List (Addr × PySem.Str)) (ta : TA) : TE := fun σ H Q => ta σ H fun vs H1 => ∃ (l : Addr) (xs : List V) (ds : List (List Int)), vs = [.ref l] ∧ H1 l = some (.lst xs) ∧ Al (IsRow H1) xs ds ∧ ds.length ≤ 1000 ∧ (∀ d ∈ ds, d.length ≤ 1000) ∧ LamX.Tabs tbs H1 ∧
  ∀ (H2 : Hp) (p : Addr) (ys : List V), Kp tbs H1 H2 → H2 p = none → Al (IsRow H1) ys (ds.mergeSort (PySem.W.dataLe false keyOf)) → Q (.ref p) (upd H2 p (.lst ys))
section
open PySem.W PyProof.Rows LamX
theorem al_each {R : V → List Int → Prop} {S : Value → List Int → Prop} (m : ∀ x d u, R x d → RelV x u → S u d) : ∀ {xs : List V} {ds : List (List Int)} {us : List Value}, Al R xs ds → Vals xs us → EachIs S us ds
  | [], [], _, _, r => by cases r; exact .nil
  | _ :: _, _ :: _, _, h, r => by
    cases r with
    | cons r1 r2 => exact .cons (m _ _ _ h.1 r1) (al_each m h.2 r2)
theorem each_al {S : Value → List Int → Prop} {R : V → List Int → Prop} (m : ∀ u d, S u d → ∃ x, RelV x u ∧ R x d) : ∀ {us : List Value} {ds : List (List Int)}, EachIs S us ds → ∃ xs, Vals xs us ∧ Al R xs ds
  | _, _, .nil => ⟨[], .nil, trivial⟩
  | _, _, .cons h t => by
    obtain ⟨x, r, q⟩ := m _ _ h
    obtain ⟨xs, rs, qs⟩ := each_al m t
    exact ⟨x :: xs, .cons r rs, q, qs⟩
theorem vals_reads : ∀ {d : List Int} {us : List Value} (h : Heap), Vals (d.map V.int) us → ReadsAll h us (d.map PyData.int) []
  | [], _, _, r => by
    cases r
    exact .nil
  | n :: d, _, h, r => by
    have r' : Vals (V.int n :: d.map V.int) _ := r
    cases r' with
    | cons r1 r2 =>
      obtain ⟨t, rfl⟩ := r1
      exact .cons (as := []) (bs := []) (.int n t) (vals_reads h r2)
theorem alike_key (x y : List Int) : alike (keyOf x) (keyOf y) = true := by
  unfold keyOf
  simp only [alike, alikeAll, alike_ints, Bool.and_true, Bool.and_self, Bool.or_true, Bool.true_or]
  all_goals rfl
theorem depth_key (x : List Int) : (keyOf x).depth ≤ 5 := by
  unfold keyOf
  simp only [PyData.depth, PyData.depthAll, depth_ints]
  decide
variable {X : Cx} {tbs : List (Addr × PySem.Str)} {c P : Addr} {e : Expr} {ta : TA} {p pos lpos kpos q q1 q2 q3 q4 q5 : Pos} {kk k : Nat}
theorem pe_sortedLam (hr : Room (k + 3) X.A) (TB : TabB X.base X.mg c P) (hcode : X.env.code = .ref c) (hmT : (P, X.env.qual ++ "<lambda>") ∈ tbs) (hu : ∀ p ∈ tbs, p.1 = P → p.2 = X.env.qual ++ "<lambda>")
    (hg : Gl X "sorted") (hm : X.mg "sorted" = none) (hml : X.mg "len" = none) (ha : PA X [e] ta)
    (hdef : defaultsOf (lamP q) X.env = ([], []) := by rfl) (he : backTo pos (starEach [e] X.env) = (false, eval e X.env) :: backTo pos (starEach [] X.env) := by rfl) (hpl : (backTo pos (starEach [e] X.env)).any (·.1) = false := by rfl) :
    PE X (.Call (.Name "sorted" p) [e] [⟨some "key", .Lambda (lamP q) (lamB q1 q2 q3 q4 q5 kk) lamSc lpos, kpos⟩] pos) (tSortL tbs ta) := by
  refine ⟨fun pins s σ H Q I h => ?_⟩
  refine wpAny_Call_Name_kw (ld_blt I hg hm boot_sorted ?_ (by decide) (by decide))
  refine PyProof.Rows.callWith_kw (thn (ha.run pos pins s σ H _ I h) fun us s1 ⟨vs, H1, I1, r1, l, xs, ds, ev, hl, hd, hn, hn2, hT, q'⟩ => ?_) he hpl (by rfl) (by rfl)
  subst ev
  cases r1 with
  | @cons _ u0 _ ur ra rn =>
  cases rn
  obtain rfl : u0 = Value.ref l := ra
  show wpAny _ _ (evalAll ((do let v ← eval (.Lambda (lamP q) (lamB q1 q2 q3 q4 q5 kk) lamSc lpos) X.env; standAt pos; pure v) :: [])) _ _ s1
  refine wpAny_evalAll_cons (wpAny_bind (lam_new (pos := lpos) I1 TB hcode hmT hu hT hdef (fun y hy e => ?_) fun f c' pm ctv H2 s2 I2 kp hf hco => wpAny_bind (wpAny_standAt (wpAny_pure (wpAny_evalAll_nil ?_)))))
  · exact absurd e ((by decide +kernel : ∀ y ∈ lamSc.names, y.2 ≠ .free) y hy)
  show wpAny _ _ (call (.builtin "sorted") [.ref l] [(PySem.Str.ofString "key", .ref f)]) _ _ s2
  have hl2 : H2 l = some (.lst xs) := kp.st _ _ hl ntb_lst
  obtain ⟨its, rv, pl, hz⟩ := I2.list (SqL.of hl2)
  have hlen : its.length = ds.length := rv.length.symm.trans hd.len
  -- an item: its object, its ints
  let S : Value → List Int → Prop := fun u d => ∃ (a : Addr) (us : List Value), u = .ref a ∧ H1 a = some (.lst (d.map V.int)) ∧ Vals (d.map V.int) us ∧ PlainL s2.heap a us.toArray
  have hS : EachIs S its ds := al_each (R := IsRow H1) (S := S) (fun x d u ⟨a, e1, e2⟩ r => by
    subst e1
    obtain rfl : u = Value.ref a := r
    obtain ⟨us, r2, p2, _⟩ := I2.list (SqL.of (kp.st _ _ e2 ntb_lst))
    exact ⟨a, us, rfl, e2, r2, p2⟩) hd rv
  obtain ⟨mb, hb1, hb2⟩ := I2.mod.blt
  have hns := I2.mod.glob.keeps I2.bk
  have hbn := hb1.keeps I2.bk
  have hcr : s2.heap.CodeRec (.ref c') (X.env.qual ++ "<lambda>") := by
    obtain ⟨⟨oc, vs, t, hoc, hdc, hvc⟩, _, _⟩ := I2.hok c' _ hco
    exact ⟨c', oc, vs, t, rfl, hoc, hdc, hvc⟩
  refine sortL (rel := S) (bs := ds) keyOf pl.isList hS (AllAlike.of alike_key) (Sortable.tuples fun b => ⟨_, _, rfl⟩) (Nat.le_trans hn (Nat.le_of_lt (small1000 (Nat.le_refl 1000)))) (fun x _ => ?_) (fun v x hv hx g tk kg => ?_) (fun out cc g tk kg nf hD hol hout => ?_)
  · have h1 := hr.units
    have h2 := depth_key x
    have h3 : X.A.units + 2 + (keyOf x).depth ≤ X.A.units + 64 := by omega
    exact Nat.lt_of_le_of_lt h3 h1
  · obtain ⟨a, us, rfl, e1, e2, e3⟩ := hv
    have hul : us.length = x.length := by rw [← e2.length, List.length_map]
    have hil : g.IsList a us.toArray := by
      obtain ⟨o, ho, r⟩ := e3.isList
      exact ⟨o, kg _ _ ho, r⟩
    refine lam_turn (s := { s2 with heap := g, toks := tk }) (mg := X.mg) (mb := mb) ?_ (kg _ _ hf) ?_ (hns.keeps kg) hml (hbn.keeps kg) ((hb2 _ (by decide)).trans PySem.boot_len) (I2.nolimit.keeps kg) hil (by rw [hul]; exact hn2 x hx) fun g' tk' p' t kg' hp' => ?_
    · exact (hr.mono (show k + 2 ≤ k + 3 by omega)).in1.in1.depth
    · obtain ⟨c2, oc, vs, t, e1, e2, e3⟩ := hcr
      exact ⟨c2, oc, vs, t, e1, kg _ _ e2, e3⟩
    · obtain ⟨o, ho, hc1, n1, hd1⟩ := hil
      obtain ⟨o0, ho0, _⟩ := e3.isList
      refine ⟨g', tk', [a], rfl, kg', ?_, fun b hb => ?_⟩
      · refine Reads.tuple hp' rfl rfl ?_
        rw [hul]
        refine ReadsAll.cons (as := []) (bs := [a]) (.int _ t) (ReadsAll.cons (as := [a]) (bs := []) ?_ .nil)
        refine Reads.list (as := []) (kg' _ _ ho) hc1 hd1 ?_
        have := vals_reads g' e2
        simpa using this
      · rw [List.mem_singleton] at hb
        rw [hb, ho0]
        simp
  · have fresh : H2 (s2.heap.objs.size + 1) = none := I2.hok.fresh (Nat.le_succ _)
    obtain ⟨ys, ry, al⟩ := each_al (S := S) (R := IsRow H1) (fun u d ⟨a, us, e1, e2, _, _⟩ => ⟨.ref a, e1, a, rfl, e2⟩) hout
    refine ⟨.ref (s2.heap.objs.size + 1), upd H2 (s2.heap.objs.size + 1) (.lst ys), I2.laid (t' := tk) kg (Nat.le_succ _) ?_, rfl, q' H2 _ ys kp fresh al⟩
    refine ⟨?_, out, cc, ry, hD⟩
    rw [al.len, List.length_mergeSort]
    exact Nat.le_trans hn (Nat.le_of_lt (small1000 (Nat.le_refl 1000)))
end
end Fl

/-! FlRules -/
/-! Rules that the layer lacks. -/
namespace Fl
open PySem L2
/-! ### B.__init__(self, ..), B an own class that has ValueError's -/
structure UpC (K : PySem.W.Frag) (mg : PySem.Str → Option Value) (x : PySem.Str) (C : Addr) : Prop where
  gC : mg x = some (.ref C)
  ga : PySem.W.specialIn K (.ref C) "__getattribute__" = some (some (.builtin "type.__getattribute__"))
  rd : PySem.W.readsIn K C (.type "type") = true
  at_ : PySem.W.findCls K (.ref C) (.type "type") "__init__" = some (.val (.builtin "ValueError.__init__"))
section
open PyProof.Rows
variable {X : Cx} {x : PySem.Str} {C0 : Addr} {e : Expr} {es : List Expr} {ta : TA} {p1 p2 pos : Pos} {pl : Sem Bool}
theorem pe_upinit (U : UpC X.K X.mg x C0) (hg : Gl X x) (ha : PA X (e :: es) ta) (hd : (x == ("__debug__" : PySem.Str)) = false := by decide)
    (hc : eval (.Call (.Attribute (.Name x p1) "__init__" p2) (e :: es) [] pos) X.env = (do
      let ov ← eval (.Name x p1) X.env
      standAt p2.atName
      let (f, first) ← holding [ov] (getMethod ov "__init__" pl)
      callWith pos f first (backTo pos (starEach (e :: es) X.env)) (backToKw pos (keywordEach [] X.env))) := by rfl)
    (he : starEach (e :: es) X.env = (false, eval e X.env) :: starEach es X.env := by rfl) (hpl : (backTo pos (starEach es X.env)).any (·.1) = false := by rfl) :
    PE X (.Call (.Attribute (.Name x p1) "__init__" p2) (e :: es) [] pos) (tVeI X.K ta) := by
  refine ⟨fun pins s σ H Q I h => ?_⟩
  refine PySem.W.methodCall_KW (ld_glob I hg U.gC ?_ hd) hc
  refine PySem.W.method_cls I.kIn U.ga (PySem.W.cls_value I.kIn U.rd U.at_ (by decide +kernel) ?_)
  show wpAny _ _ (callWith pos (Value.builtin "ValueError.__init__") [] (backTo pos (starEach (e :: es) X.env)) []) _ _ _
  refine PyProof.Rows.callWith_method1 (thn (ha.run pos pins _ σ H _ (I.tok _) h) fun us s1 ⟨vs, H1, I1, r1, a, C, ws, ev, hl, T, ea, q⟩ => ?_) he hpl
  subst ev
  cases r1 with
  | @cons _ u0 _ ur ra rw' =>
    obtain rfl : u0 = Value.ref a := ra
    refine oinit_ok T I1 ea ?_ fun s' J => ⟨.non, H1, J, rfl, q⟩
    rw [← Paired.length rw']
    exact Nat.le_of_lt (small1000 hl)
end
/-! ### min(a list of ints, default=d) -/
section
open PyProof.Rows
variable {X : Cx}
def rMinD (K : PySem.W.Frag) : List V → List V → Hp → VK → Prop := fun vs zs H Q => ∃ (a : Addr) (ns : List Int) (d : Int), vs = [V.ref a] ∧ zs = [V.int d] ∧ SqL K H a (ns.map V.int) ∧ (ns = [] → Q (.int d) H) ∧ ∀ m, m ∈ ns → Q (.int m) H
theorem call_minD (hc : X.calm = true) (hu : X.A.units + 64 < cLine) : CallRK X (.builtin "min") ["default"] (rMinD X.K) := by
  intro pins s σ H vs zs us ws Q I r r' h
  obtain ⟨a, ns, d, rfl, rfl, hs, q0, q1⟩ := h
  obtain ⟨its, rv, hl, _⟩ := I.list hs
  obtain ⟨u, rfl, ru⟩ := vals1 r
  obtain rfl : u = Value.ref a := ru
  obtain ⟨z, rfl, rz⟩ := vals1 r'
  obtain ⟨t, rfl⟩ := rz
  show wpAny _ _ (call (.builtin "min") [.ref a] [(PySem.Str.ofString "default", .int d t)]) _ _ s
  have rd : ∀ {d : List Int} {us : List Value} (h : Heap), Vals (d.map V.int) us → ReadsAll h us (d.map PyData.int) [] := by
    intro d
    induction d with
    | nil => intro us h r; cases r; exact .nil
    | cons n d ih =>
      intro us h r
      have r' : Vals (V.int n :: d.map V.int) us := r
      cases r' with
      | cons r1 r2 =>
        obtain ⟨t, rfl⟩ := r1
        exact .cons (as := []) (bs := []) (.int n t) (ih h r2)
  have dp : ∀ d : List Int, PyData.depthAll (d.map PyData.int) = 0 := PySem.W.depth_ints
  refine PySem.W.min_list_default (I.ok.hd hc) hl.isList (rd s.heap rv) ?_ (by rw [dp]; omega) (fun e h' tk hk => ?_) fun y ys i v h' tk bs e hv hr hk => ?_
  · refine ⟨fun x hx y hy => ?_, fun x hx => ?_⟩
    · obtain ⟨i, _, rfl⟩ := List.mem_map.mp hx
      obtain ⟨j, _, rfl⟩ := List.mem_map.mp hy
      simp [PySem.W.alike]
    · obtain ⟨i, _, rfl⟩ := List.mem_map.mp hx
      intro z
      cases z
  · exact ⟨.int d, H, I.kept hk, ⟨t, rfl⟩, q0 (by simpa using e)⟩
  · have hv' : its[i]? = some v := by simpa using hv
    have hi : i < ns.length := by
      have := (List.getElem?_eq_some_iff.mp hv').1
      rw [← rv.length, List.length_map] at this
      exact this
    obtain ⟨u, e1, e2⟩ := rv.get (i := i) (x := .int ns[i]) (by rw [List.getElem?_map, List.getElem?_eq_getElem hi]; rfl)
    rw [hv'] at e1
    obtain rfl := Option.some.inj e1
    exact ⟨.int ns[i], H, I.kept hk, e2, q1 _ (List.getElem_mem hi)⟩
end
/-! ### a != b, two lists that are equal (dicts among their items) -/
section
open PySem.SeqAt PyProof.Rows AutoSeq1 MeetsSeq MeetsSeq2 MeetsSeq3
variable {prog : Program} {w : World}
theorem ne_loopT (l b : Addr) (items items2 : Array Value) (n n2 : Nat) (dd dd2 : Option Addr) (sl sl2 : Array (Option Value)) (hsz : items.size = items2.size) (k : Nat) :
    ∀ i : Nat, items.size - i = k → MeetsIn prog w (Builtin.«list.__eq__.loop» ⟨[.ref l, .ref b, rawInt i, rawInt 3], []⟩)
      (fun A R s => s.heap.get? l = some { cls := .type "list", dict := dd, data := .seq items n, slots := sl } ∧ s.heap.get? b = some { cls := .type "list", dict := dd2, data := .seq items2 n2, slots := sl2 } ∧
        (∀ j (h1 : j < items.size) (h2 : j < items2.size), EqP prog w A.in1 s items[j] items2[j] true) ∧ R (.ok (.ret (.bool false))) s) := by
  induction k with
  | zero =>
    intro i hk A R s ⟨hl, hb, he, h⟩
    obtain ⟨hp, g, d, tk, os⟩ := s
    wp_walk using wpAny_loadPart' hl, wpAny_loadPart' hb
    rw [show items[((i : Nat) : Int).toNat]? = none by simp; omega, show items2[((i : Nat) : Int).toNat]? = none by simp; omega]
    wp_walk using wpAny_loadPart' hl, wpAny_loadPart' hb
    show R (.ok (.ret (.bool (items.size != items2.size)))) _
    rw [hsz]
    simpa using h
  | succ k ih =>
    intro i hk A R s ⟨hl, hb, he, h⟩
    obtain ⟨hp, g, d, tk, os⟩ := s
    wp_walk using wpAny_loadPart' hl, wpAny_loadPart' hb
    have lt1 : i < items.size := by omega
    have lt2 : i < items2.size := by omega
    rw [show items[((i : Nat) : Int).toNat]? = some items[i] by simp [lt1], show items2[((i : Nat) : Int).toNat]? = some items2[i] by simp [lt2]]
    refine wpAny_bind (he i lt1 lt2 _ _ ?_)
    wp_walk
    rw [show ((i : Int) + 1) = ((i + 1 : Nat) : Int) by push_cast; rfl]
    exact ⟨plainId_quiet plain_eq_loop _, codeAny_builtin entry_eq_loop (by
      rw [Around.under_plainId plain_eq_loop _]
      exact ih (i + 1) (by omega) A R _ ⟨hl, hb, he, h⟩)⟩
theorem neT_lists {A : Around} {s : Shared} {l b : Addr} {items items2 : Array Value} (hl : s.heap.IsList l items) (hb : s.heap.IsList b items2) (hsz : items.size = items2.size) (hu : A.units < cLine)
    (he : ∀ j (h1 : j < items.size) (h2 : j < items2.size), EqP prog w A.in1 s items[j] items2[j] true) (E Q : Value → Shared → Prop) (h : Q (.bool false) s) : wpAny (model prog w) A (richCompare .NotEq (.ref l) (.ref b)) Q E s := by
  obtain ⟨⟨cls, dd, data, sl⟩, ho, hc, n, hd⟩ := id hl
  obtain ⟨⟨cls2, dd2, data2, sl2⟩, ho2, hc2, n2, hd2⟩ := id hb
  simp only at hc hd hc2 hd2
  subst hc hd hc2 hd2
  have ta : s.TypeIs (.ref l) "list" := ⟨_, ho, rfl⟩
  have whole : MeetsIn prog w (Builtin.«list.__ne__» ⟨[.ref l, .ref b], []⟩)
      (fun A R s => s.heap.get? l = some { cls := .type "list", dict := dd, data := .seq items n, slots := sl } ∧ s.heap.get? b = some { cls := .type "list", dict := dd2, data := .seq items2 n2, slots := sl2 } ∧
        (∀ j (h1 : j < items.size) (h2 : j < items2.size), EqP prog w A.in1 s items[j] items2[j] true) ∧ R (.ok (.ret (.bool false))) s) := by
    intro A R s ⟨hl, hb, he, h⟩
    obtain ⟨hp, g, d, tk, os⟩ := s
    have f3 := AutoSeq1.sub_list_list
    have hne : ¬ (items.size != items2.size) = true := by simp [hsz]
    wp_walk using wpAny_loadPart' hl, wpAny_loadPart' hb
    exact ⟨plainId_quiet plain_eq_loop _, codeAny_builtin entry_eq_loop (by
      rw [Around.under_plainId plain_eq_loop _]
      exact ne_loopT l b items items2 n n2 dd dd2 sl sl2 hsz _ 0 rfl A R _ ⟨hl, hb, he, h⟩)⟩
  exact wpAny_richCompare_same_room (op := .NotEq) ta ⟨_, ho2, rfl⟩ F.slot_list_ne (call_meetsIn F.slot_list_ne ta F.entry_list_ne (F.args_list_ne_2 _ _) whole
    ⟨ho, ho2, he, show Value.bool false ≠ Value.notImplemented ∧ Q (.bool false) s from ⟨(fun x => nomatch x), h⟩⟩) hu
end
section
variable {X : Cx}
def rNeV (K : PySem.W.Frag) : R2 := fun x y H Q => ∃ n a b xs ys, n ≤ 60 ∧ x = .ref a ∧ y = .ref b ∧ SqL K H a xs ∧ SqL K H b ys ∧ Paired (EqV K H n) xs ys ∧ Q (.bl false) H
theorem op_neV (hu : X.A.units + 64 < cLine) : OpR X (compareOp .NotEq) (rNeV X.K) := by
  intro pins s σ H x y v u Q I rx ry h
  obtain ⟨n, a, b, xs, ys, hn, rfl, rfl, ha, hb, hp, q⟩ := h
  obtain rfl : v = Value.ref a := rx
  obtain rfl : u = Value.ref b := ry
  obtain ⟨us, r1, p1, _⟩ := I.list ha
  obtain ⟨ws, r2, p2, _⟩ := I.list hb
  have hsz : us.toArray.size = ws.toArray.size := by
    rw [List.size_toArray, List.size_toArray, ← r1.length, ← r2.length]
    exact Paired.length hp
  refine neT_lists p1.isList p2.isList hsz (by omega) (fun j h1 h2 => ?_) _ _ ⟨.bl false, H, I, rfl, q⟩
  have k := items_run (eqV_run I n X.A.in1 (by show X.A.units + 1 + n < cLine; omega)) hp r1 r2 j (by simpa using h1) (by simpa using h2)
  simpa using k
end
end Fl

/-! FlTry -/
/-! try: body / except C as n: suite / else: orelse. -/
namespace Fl
open PySem L2 PySem.Spec PyProof.Rows
section
variable {X : Cx} {x n : PySem.Str} {c : Value} {body suite orelse : List Stmt} {b0 : Stmt} {np pos pos' : Pos} {tb : WX → TS} {ts : Addr → Value → Option Addr → TS} {u : TS} {Wout : WX} {i : Nat}
theorem ps_try_asE (hoe : PSs X orelse u) (hst : X.stack = X.env :: X.outer) (hfm : X.env.frame = some X.env.locals) (nd : X.N.Nodup) (hix : X.N[i]? = some n) (hkn : X.env.kindOf n = some .local) (hcl : Names X x c) (tk : L2.Takes X Wout)
    (hbody : ∀ (W : WX) (pn : List (Addr × Obj)) (xe : Value → Shared → Prop), L2.Takes (X.tr pn xe) W → PassesOwn (model X.prog X.w) X.A X.env xe → PSs (X.tr pn xe) body (tb W))
    (hsuite : ∀ (a : Addr) (oe : Obj) (cls : Value) (d : Option Addr) (pn : List (Addr × Obj)), Zc cls d oe → (∃ vs, oe.data = .fields vs) → PSs (X.suite a ((a, oe) :: pn)) (b0 :: suite) (ts a cls d)) :
    PS X (.Try body [.ExceptHandler (some (.Name x np)) (some n) (b0 :: suite) pos'] orelse [] pos) (fun D σ H => tb (wAs X.K c i ts Wout D) { D with nx := u D } σ H) := by
  refine ⟨fun pins s σ H D I hrun => ?_⟩
  have ok := I.ok
  have frames : X.A.frames = some (X.env :: X.outer) := by rw [ok.frames, hst]
  refine wpAny_Try_except (wpAny_mono ((hbody (wAs X.K c i ts Wout D) (X.pn ++ pins) _ (fun v s' up => ?_) PassesOwn.looking).run [] s σ H { D with nx := u D } (I.toTry _) hrun) (fun fl s1 sp => ?_) (fun e s1 he => he))
  rotate_left
  · -- the body has come through
    cases fl with
    | next => exact let ⟨σ', H', J, q⟩ := sp; hoe.run pins s1 σ' H' D (J.ofTry ok) q
    | brk => exact let ⟨σ', H', J, q⟩ := sp; ⟨σ', H', J.ofTry ok, q⟩
    | cont => exact let ⟨σ', H', J, q⟩ := sp; ⟨σ', H', J.ofTry ok, q⟩
    | ret v => exact let ⟨v, σ', H', J, r, q⟩ := sp; ⟨v, σ', H', J.ofTry ok, r, q⟩
  · obtain ⟨a, B, sI, pins', σ', H', cls, d, rfl, JT, nb, ups, sky0, na, os, ag, hit, hm1, yes, no⟩ := up
    have J : Inv X pins σ' H' sI := JT.ofTry ok
    have sky : Sky B (X.env :: X.outer) a (Zc cls d) X.env.locals s'.heap := by rw [← hst]; exact sky0
    show wpAny (model X.prog X.w) X.A (noteFrame (.ref a) X.env) _ _ _
    refine Sky.land Zc.steady frames hfm sky fun h3 fl3 up3 => ?_
    have J3 : Inv X pins σ' H' { s' with heap := h3 } := J.landed nb fl3.1 (ups.trans up3) os ag
    obtain ⟨oe, ovs, hoe3, hz3, hod⟩ := fl3.there
    have nfr : a ∉ frs (X.env :: X.outer) := fun hmem => by
      obtain ⟨_, o', e', hnf⟩ := fl3.2.2.1.mem hmem
      rw [hoe3] at e'; cases e'
      exact hnf _ hod
    have nL : a ≠ X.env.locals := fun z => nfr (List.mem_filterMap.mpr ⟨X.env, List.mem_cons_self, by rw [hfm, z]⟩)
    have nF : a ∉ X.fs := fun hmem => by
      obtain ⟨e, he, q⟩ := List.mem_filterMap.mp hmem
      exact nfr (List.mem_filterMap.mpr ⟨e, List.mem_cons_of_mem _ he, q⟩)
    have S3 := J3.suite hoe3 hod na nL nF
    have LT : PySem.W.Looks (model X.prog X.w) h3 (typeOf (.ref a)) cls := fun A Q E s k q => wpAny_typeOf_ref (k _ _ hoe3) (by rw [hz3.1]; exact q)
    have LM := PySem.W.exm_one (M := model X.prog X.w) (J3.kIn) LT hm1
    have test : ∀ {Q : Value → Shared → Prop} {E : Value → Shared → Prop}, Q c { s' with heap := h3 } → wpAny (model X.prog X.w) (X.A.mark (some (.ref a))) (eval (.Name x np) X.env) Q E { s' with heap := h3 } := fun {Q E} q => by
      obtain ⟨hg, hdbg, hm | ⟨hm, hv, hnn⟩⟩ := hcl
      · exact ld_glob (X := X.suite a ((a, oe) :: (X.pn ++ pins))) S3 hg hm q hdbg
      · exact ld_blt (X := X.suite a ((a, oe) :: (X.pn ++ pins))) S3 hg hm hv q hnn hdbg
    refine wpAny_handleBy_cons (codeAny_handlers_test (test (LM.here ?_))) (by intro q; cases q)
    cases hit with
    | true =>
      refine codeAny_handlers_suite_as (HandSPX.lands_againZ fl3 fun h4 fl4 up4 => ?_)
      have J4 : Inv X pins σ' H' { s' with heap := h4 } := J.landed nb fl4.1 ((ups.trans up3).trans up4) os ag
      obtain ⟨oe4, vs4, hoe4, hz4, hod4⟩ := fl4.there
      have S4 := J4.suite hoe4 hod4 na nL nF
      refine store_ok (X := X.suite a ((a, oe4) :: (X.pn ++ pins))) (v := .ref a) S4 nd hix (.inl hkn) rfl (fun s5 S5 => ?_) (.inr hkn)
      refine wpAny_mono ((hsuite a oe4 cls d (X.pn ++ pins) hz4 ⟨_, hod4⟩).run [] s5 _ H' _ S5 (yes rfl a na)) (fun fl s6 sp => ?_) (fun _ _ z => False.elim z)
      have off : ∀ {σ6 : L2.St} {H6 : Hp} {Q : Shared → Prop}, Inv (X.suite a ((a, oe4) :: (X.pn ++ pins))) [] σ6 H6 s6 → (∀ s7, Inv X pins (σ6.set i none) H6 s7 → Q s7) →
          wpAny (model X.prog X.w) X.A (do bindName X.env n .none; unbindBehindTheSuite X.env n pos') (fun _ s7 => Q s7) X.xe s6 := fun {σ6 H6 Q} S6 hq => gone_ok (S6.unsuite ok) nd hix hkn hq
      cases fl with
      | next => exact let ⟨σ6, H6, S6, q6⟩ := sp; off S6 fun s7 J7 => ⟨_, _, J7, q6⟩
      | brk => exact let ⟨σ6, H6, S6, q6⟩ := sp; off S6 fun s7 J7 => ⟨_, _, J7, q6⟩
      | cont => exact let ⟨σ6, H6, S6, q6⟩ := sp; off S6 fun s7 J7 => ⟨_, _, J7, q6⟩
      | ret v => exact let ⟨v6, σ6, H6, S6, r6, q6⟩ := sp; off S6 fun s7 J7 => ⟨_, _, _, J7, r6, q6⟩
    | false =>
      show wpAny _ X.A (handleBy (.ref a) X.env []) _ _ _
      refine wpAny_handleBy_nil ?_
      obtain ⟨k1, k2, k3, o5, vs5, T5, oT, ts', he5, hz5, hd5, h15, hr5⟩ := id fl3
      unfold PySem.passOn
      refine wpAny_bind (wpAny_field he5 hd5 h15 ?_)
      rw [if_neg (show ¬ ((Value.ref T5 == Value.none) = true) from by simp)]
      have go : wpAny (model X.prog X.w) X.A (setFlight (.ref a) X.env.frame) (fun _ s4 => wpAny (model X.prog X.w) X.A (throw (.ref a) : Sem Flow) (SP X pins D) X.xe s4) X.xe { s' with heap := h3 } := by
        rw [hfm]
        refine HandSPX.setFlight_upZ fl3 fun h4 hh4 up4 => wpAny_throw (tk _ _ ?_)
        exact ⟨a, B, sI, pins, σ', H', cls, d, rfl, J, nb, (ups.trans up3).trans up4, .inr (.inr (by rw [hst]; exact hh4)), na, os, ag, no rfl⟩
      first
        | exact wpAny_bind (wpAny_pure (wpAny_bind go))
        | exact wpAny_bind go
end
end Fl

/-! FlWords -/
/-! The plain law of words, choices, hoists. -/
namespace Fl
open PySem L2
/-- the substitutes that may stand at place p (from 1 on) of the word l -/
def subs (l : List Nat) (p : Nat) (ns : List Nat) : List Nat := (ns.filter fun n => decide (n < p) && decide (l[n - 1]? = l[p - 1]?)).map fun n => 48 + n
def choices (l : List Nat) (p : Nat) : List Nat := l.getD (p - 1) 0 :: subs l p [1, 2, 3, 4]
theorem subs_snoc (l : List Nat) (p : Nat) (ns : List Nat) (n : Nat) : subs l p (ns ++ [n]) = subs l p ns ++ (if n < p ∧ l[n - 1]? = l[p - 1]? then [48 + n] else []) := by
  unfold subs
  rw [List.filter_append, List.map_append]
  congr 1
  by_cases h1 : n < p
  · by_cases h2 : l[n - 1]? = l[p - 1]?
    · simp [h1, h2]
    · simp [h1, h2]
  · simp [h1]
theorem choices_len (l : List Nat) (p : Nat) : (choices l p).length ≤ 5 := by
  unfold choices subs
  rw [List.length_cons, List.length_map]
  have := List.length_filter_le (fun n => decide (n < p) && decide (l[n - 1]? = l[p - 1]?)) [1, 2, 3, 4]
  simp only [List.length_cons, List.length_nil] at this
  omega
theorem sub_at {i c : Nat} (h : SUB.cps[i]? = some c) : i < 4 ∧ c = 49 + i := by
  match i with
  | 0 => exact ⟨by omega, (Option.some.inj h).symm⟩
  | 1 => exact ⟨by omega, (Option.some.inj h).symm⟩
  | 2 => exact ⟨by omega, (Option.some.inj h).symm⟩
  | 3 => exact ⟨by omega, (Option.some.inj h).symm⟩
  | i + 4 =>
    exfalso
    have : SUB.cps.size = 4 := rfl
    rw [Array.getElem?_eq_none (by omega)] at h
    cases h
theorem sub_size : SUB.cps.size = 4 := rfl
theorem int_digit : ∀ i, i < 4 → PySem.intText? (chr (49 + i)) = some ((i : Int) + 1)
  | 0, _ => by decide +kernel
  | 1, _ => by decide +kernel
  | 2, _ => by decide +kernel
  | 3, _ => by decide +kernel
  | i + 4, h => absurd h (by omega)
theorem take4 : ∀ i, i < 4 → ([1, 2, 3, 4] : List Nat).take (i + 1) = ([1, 2, 3, 4] : List Nat).take i ++ [i + 1]
  | 0, _ => rfl
  | 1, _ => rfl
  | 2, _ => rfl
  | 3, _ => rfl
  | i + 4, h => absurd h (by omega)
/-- a letter; a substitute; what may hang beneath so many others -/
def isLet (c : Nat) : Prop := 97 ≤ c ∧ c ≤ 119
def isSub (c : Nat) : Prop := 49 ≤ c ∧ c ≤ 52
instance (c : Nat) : Decidable (isLet c) := by unfold isLet; infer_instance
instance (c : Nat) : Decidable (isSub c) := by unfold isSub; infer_instance
def isFlag (c : Nat) : Prop := isLet c ∨ isSub c
instance (c : Nat) : Decidable (isFlag c) := by unfold isFlag; infer_instance
def fit (c a : Nat) : Prop := isLet c ∨ (isSub c ∧ c - 48 ≤ a)
theorem mem_LET {c : Nat} : c ∈ LET.cps.toList ↔ isLet c := by
  show c ∈ ([97, 98, 99, 100, 101, 102, 103, 104, 105, 106, 107, 108, 109, 110, 111, 112, 113, 114, 115, 116, 117, 118, 119] : List Nat) ↔ _
  unfold isLet
  simp only [List.mem_cons, List.not_mem_nil, or_false]
  omega
theorem mem_SUB {c : Nat} : c ∈ SUB.cps.toList ↔ isSub c := by
  show c ∈ ([49, 50, 51, 52] : List Nat) ↔ _
  unfold isSub
  simp only [List.mem_cons, List.not_mem_nil, or_false]
  omega
theorem mem_FLG {c : Nat} : c ∈ FLG.cps.toList ↔ isFlag c := by
  show c ∈ ([97, 98, 99, 100, 101, 102, 103, 104, 105, 106, 107, 108, 109, 110, 111, 112, 113, 114, 115, 116, 117, 118, 119, 49, 50, 51, 52] : List Nat) ↔ _
  unfold isFlag isLet isSub
  simp only [List.mem_cons, List.not_mem_nil, or_false]
  omega
theorem int_sub {c : Nat} (h : isSub c) : PySem.intText? (chr c) = some ((c : Int) - 48) := by
  obtain ⟨h1, h2⟩ := h
  have := int_digit (c - 49) (by omega)
  rw [show 49 + (c - 49) = c by omega] at this
  rw [this]
  congr 1
  omega
/-- a hoist, by its flags' codes; what it reads to -/
structure HoistOk (h : List Nat) : Prop where
  pos : 1 ≤ h.length
  most : h.length ≤ 7
  fits : ∀ i c, h[i]? = some c → fit c i
def readStep (w : List Nat) (c : Nat) : List Nat := w ++ [if isLet c then c else w.getD (c - 49) 0]
def readOf (h : List Nat) : List Nat := h.foldl readStep []
theorem read_len (h : List Nat) : (readOf h).length = h.length := by
  have : ∀ (h w : List Nat), (h.foldl readStep w).length = w.length + h.length := by
    intro h
    induction h with
    | nil => intro w; rfl
    | cons c h ih =>
      intro w
      rw [List.foldl_cons, ih]
      unfold readStep
      rw [List.length_append, List.length_singleton, List.length_cons]
      omega
  have := this h []
  simpa [readOf] using this
theorem read_take (h : List Nat) {i c : Nat} (e : h[i]? = some c) : readOf (h.take (i + 1)) = readStep (readOf (h.take i)) c := by
  unfold readOf
  rw [List.take_add_one, e, List.foldl_append]
  rfl
theorem small7 {n : Nat} (h : n ≤ 7) : n ≤ sizeLine := Nat.le_trans h (by rw [sizeLine_eq]; decide)
theorem smallK {n : Nat} (h : n ≤ 1000) : n ≤ sizeLine := Nat.le_of_lt (small1000 h)
theorem at_n {α : Type} {xs : List α} {z : Int} {j : Nat} {v : α} (e : z = (j : Int)) (h : xs[j]? = some v) : atI xs z = some v := by
  rw [e]
  exact atI_nat h
end Fl

/-! DefChoices -/
namespace Fl
open PySem L2
section
variable {P : Program} {w : World} {K : PySem.W.Frag} {mg : PySem.Str → Option Value} {base : Heap} {tbs : List (Addr × PySem.Str)}
abbrev s_choices_at : Stmt := top 14
abbrev N_choices_at : List PySem.Str := ["word", "place", "letter", "found", "flag"]
theorem sc_choices_at : FnScope N_choices_at ["word", "place"] (defScope s_choices_at) := ⟨rfl, rfl, rfl, by decide +kernel, rfl, by decide +kernel, by decide +kernel⟩
def spChoicesAt (tbs : List (Addr × PySem.Str)) : Sp := fun vs H Q _ => ∃ (F : Hp) (l : List Nat) (p : Nat), L2.Same F H ∧ vs = [.str (wd l), .int (p : Int)] ∧ 1 ≤ p ∧ p ≤ l.length ∧ l.length ≤ 1000 ∧ Pf tbs F H Q (rL rC) (choices l p)
theorem ok_choices_at {f : Addr} {fd : FuncData} {k : Nat} (Fu : Fun K "choices_at" "choices_at" s_choices_at f fd) (T : Txt K mg) : FnOk P w K mg base L2.CX0 (k + 1) f fd ["word", "place"] (spChoicesAt tbs) := by
  refine Fu.ok sc_choices_at (fun vs H Q E h => ?_) (fun cdv A outer s H vs Q E hr h => ?_)
  · obtain ⟨F, l, p, _, rfl, _⟩ := h
    rfl
  · obtain ⟨F, l, p, sm, rfl, hp1, hp2, hl, q⟩ := h
    refine ⟨_, 
      (pss_cons (ps_set (i := 2) sc_choices_at.nd rfl (Or.inl rfl) (pe_ix ix_str (pv 0) (pe_op op_sub (pv 1) pe_int) (fun _ _ => rfl)))
      (pss_cons (ps_set (i := 3) sc_choices_at.nd rfl (Or.inl rfl) (pe_lst (pa_cons (pv 2) pa_nil)))
      (pss_cons (ps_for PassesOwn.never rfl (pi_str (pe_gk rfl T.mSUBSTITUTES)) (pg_name (i := 4) sc_choices_at.nd rfl (Or.inl rfl))
        (pss_one (ps_if (PW.pt (pw_and (pt_cmpR op_lt (pe_callTy call_int_str (by rfl) T.b_int (by decide +kernel) (pa_cons (pv 4) pa_nil)) (pv 1) (nomark _)) (pw_and1 (pt_cmpR op_eq (pe_ix ix_str (pv 0) (pe_op op_sub (pe_callTy call_int_str (by rfl) T.b_int (by decide +kernel) (pa_cons (pv 4) pa_nil)) pe_int) (fun _ _ => rfl)) (pv 2) (nomark _)))))
          (pss_one (ps_expr (pe_bm PySem.F.plainAttrs_list PySem.F.slot_list_append PySem.F.type_list_append mt_append (pv 3) (pa_cons (pv 4) pa_nil)))) pss_nil)))
      (pss_one (ps_ret (pv 3)))))), ?_⟩
    have hlt : p - 1 < l.length := by omega
    have ec : l.getD (p - 1) 0 = l[p - 1] := by
      rw [List.getD_eq_getElem?_getD, List.getElem?_eq_getElem hlt]; rfl
    -- letter = word[place - 1]; found = [letter]
    refine ⟨_, rfl, _, rfl, _, _, rfl, rfl, _, _, l[p - 1], rfl, rfl, ?_, at_n (j := p - 1) (by omega) (List.getElem?_eq_getElem hlt), _, rfl, (by show 1 ≤ sizeLine; exact small7 (by omega)), fun a na => ?_⟩
    · rw [wd_len]; exact smallK hl
    refine ⟨_, rfl, for_it walk_str (fun i σ H' => ∃ v4, σ = [some (.str (wd l)), some (.int (p : Int)), some (.str (chr l[p - 1])), some (.ref a), v4] ∧ H' = upd H a (.lst ((l[p - 1] :: subs l p (([1, 2, 3, 4] : List Nat).take i)).map fun c => V.str (chr c)))) ?_ (fun _ _ _ _ _ => trivial) ?_ ?_⟩
    · exact ⟨none, rfl, rfl⟩
    · rintro i x σ H' H'' hi ⟨v4, rfl, rfl⟩ ⟨rfl, c, hc, rfl⟩
      obtain ⟨hi4, rfl⟩ := sub_at hc
      refine ⟨_, rfl, _, _, rfl, int_digit i hi4, (by show 1 ≤ 640; omega), _, rfl, _, _, rfl, rfl, _, rfl, ite2 (fun c1 => ?_) (fun c1 => ?_)⟩
      · have c1 : (i : Int) + 1 < (p : Int) := of_decide_eq_true c1
        have hil : i < l.length := by omega
        refine ⟨_, rfl, _, rfl, _, _, rfl, int_digit i hi4, (by show 1 ≤ 640; omega), _, _, rfl, rfl, _, _, l[i], rfl, rfl, ?_, at_n (j := i) (by omega) (List.getElem?_eq_getElem hil), _, rfl, rfl, _, rfl, ite2 (fun c2 => ?_) (fun c2 => ?_)⟩
        · rw [wd_len]; exact smallK hl
        · have e2 : l[i] = l[p - 1] := chr_inj (V.str.inj (of_decide_eq_true c2))
          have e3 : i + 1 < p ∧ l[i + 1 - 1]? = l[p - 1]? := ⟨by omega, by rw [List.getElem?_eq_getElem hlt, ← e2]; exact List.getElem?_eq_getElem hil⟩
          refine ⟨_, rfl, .inl ⟨rfl, _, SqL.of upd_same⟩, _, rfl, a, _, _, rfl, rfl, upd_same, ?_, ?_⟩
          · rw [List.length_map, List.length_cons]
            refine Nat.lt_of_le_of_lt ?_ (small1000 (Nat.le_refl 1000))
            unfold subs
            rw [List.length_map]
            have h1 := List.length_filter_le (fun n => decide (n < p) && decide (l[n - 1]? = l[p - 1]?)) (([1, 2, 3, 4] : List Nat).take i)
            have h2 : (([1, 2, 3, 4] : List Nat).take i).length ≤ i := by rw [List.length_take]; omega
            omega
          · refine ⟨_, rfl, ?_⟩
            rw [upd_upd, take4 i hi4, subs_snoc, if_pos e3, show 48 + (i + 1) = 49 + i by omega, ← List.cons_append, List.map_append]
            rfl
        · have e3 : ¬ (i + 1 < p ∧ l[i + 1 - 1]? = l[p - 1]?) := fun ⟨_, h2⟩ => c2 (decide_eq_true (by
            rw [List.getElem?_eq_getElem hlt] at h2
            have h3 : l[i]? = some l[p - 1] := h2
            rw [List.getElem?_eq_getElem hil] at h3
            rw [Option.some.inj h3]; rfl))
          refine ⟨_, rfl, ?_⟩
          rw [take4 i hi4, subs_snoc, if_neg e3, List.append_nil]
      · have e3 : ¬ (i + 1 < p ∧ l[i + 1 - 1]? = l[p - 1]?) := fun ⟨h1, _⟩ => c1 (decide_eq_true (by omega))
        refine ⟨_, rfl, ?_⟩
        rw [take4 i hi4, subs_snoc, if_neg e3, List.append_nil]
    · rintro σ H' ⟨v4, rfl, rfl⟩
      have e4 : (l[p - 1] :: subs l p (([1, 2, 3, 4] : List Nat).take SUB.cps.size)) = choices l p := by
        unfold choices
        rw [ec]
        rfl
      refine ⟨_, rfl, q (upd F a _) _ _ ((Fr.begin sm).lay na) ?_⟩
      rw [← e4]
      exact rL_mkC upd_same
end
end Fl

/-! DefHoists -/
namespace Fl
open PySem L2
section
variable {P : Program} {w : World} {K : PySem.W.Frag} {mg : PySem.Str → Option Value} {base : Heap} {tbs : List (Addr × PySem.Str)}
abbrev s_is_fit : Stmt := top 10
abbrev N_is_fit : List PySem.Str := ["flag", "ahead"]
theorem sc_is_fit : FnScope N_is_fit ["flag", "ahead"] (defScope s_is_fit) := ⟨rfl, rfl, rfl, by decide +kernel, rfl, by decide +kernel, by decide +kernel⟩
def spIsFit : Sp := fun vs H Q _ => ∃ (c a : Nat), vs = [.str (chr c), .int (a : Int)] ∧ fit c a ∧ Q (.bl true) H
theorem ok_is_fit {f : Addr} {fd : FuncData} {k : Nat} (Fu : Fun K "is_fit" "is_fit" s_is_fit f fd) (T : Txt K mg) : FnOk P w K mg base L2.CX0 (k + 1) f fd ["flag", "ahead"] spIsFit := by
  refine Fu.ok sc_is_fit (fun vs H Q E h => ?_) (fun cdv A outer s H vs Q E hr h => ?_)
  · obtain ⟨c, a, rfl, _⟩ := h
    rfl
  · obtain ⟨c, a, rfl, hf, q⟩ := h
    refine ⟨_, 
      (pss_cons (ps_if (pt_cmpR op_ne (pe_callB call_len_str (by rfl) T.b_len PySem.boot_len (pa_cons (pv 0) pa_nil)) pe_int (nomark _))
        (pss_one (ps_ret pe_bl)) pss_nil)
      (pss_cons (ps_if (pt_cmpR op_in_sign (pv 0) (pe_gk rfl T.mLETTERS) (by rfl))
        (pss_one (ps_ret pe_bl)) pss_nil)
      (pss_one (ps_ret (pe_and (pe_cmpR op_in_sign (pv 0) (pe_gk rfl T.mSUBSTITUTES) (by rfl)) (pe_one (pe_cmpR op_le (pe_callTy call_int_str (by rfl) T.b_int (by decide +kernel) (pa_cons (pv 0) pa_nil)) (pv 1) (nomark _)))))))), ?_⟩
    refine ⟨_, rfl, _, rfl, smallK (by show 1 ≤ 1000; omega), rfl, _, rfl, iteNS rfl ?_⟩
    refine ⟨_, rfl, c, _, rfl, rfl, _, rfl, ite2 (fun _ => q) (fun h1 => ?_)⟩
    have n1 : ¬ isLet c := fun z => h1 (decide_eq_true (mem_LET.mpr z))
    rcases hf with hl | ⟨hs, ha⟩
    · exact absurd hl n1
    refine ⟨_, rfl, c, _, rfl, rfl, _, rfl, ite2 (fun _ => ?_) (fun h2 => absurd (decide_eq_true (mem_SUB.mpr hs)) h2)⟩
    refine ⟨_, rfl, _, _, rfl, int_sub hs, (by show 1 ≤ 640; omega), _, rfl, _, _, rfl, rfl, ?_⟩
    have e : decide ((c : Int) - 48 ≤ (a : Int)) = true := decide_eq_true (by have := hs.1; omega)
    show Q (.bl (decide ((c : Int) - 48 ≤ (a : Int)))) H
    rw [e]
    exact q
abbrev s_is_hoist : Stmt := top 11
abbrev N_is_hoist : List PySem.Str := ["flags", "ahead", "flag"]
theorem sc_is_hoist : FnScope N_is_hoist ["flags"] (defScope s_is_hoist) := ⟨rfl, rfl, rfl, by decide +kernel, rfl, by decide +kernel, by decide +kernel⟩
def spIsHoist (tbs : List (Addr × PySem.Str)) : Sp := fun vs H Q _ => ∃ (F : Hp) (v : V) (h : List Nat), L2.Same F H ∧ vs = [v] ∧ rL rC F v h ∧ HoistOk h ∧ ∀ H', Fr tbs F H F H' → Q (.bl true) H'
theorem ok_is_hoist {f : Addr} {fd : FuncData} {k : Nat} (Fu : Fun K "is_hoist" "is_hoist" s_is_hoist f fd) (T : Txt K mg) (C_is_fit : Cf P w K mg base 1 "is_fit" spIsFit) : FnOk P w K mg base L2.CX0 2 f fd ["flags"] (spIsHoist tbs) := by
  refine Fu.ok sc_is_hoist (fun vs H Q E h => ?_) (fun cdv A outer s H vs Q E hr h => ?_)
  · obtain ⟨F, v, h, _, rfl, _⟩ := h
    rfl
  · obtain ⟨F, v, h, sm, rfl, hv, ok, q⟩ := h
    obtain ⟨a, rfl, ha⟩ := rL_C hv
    refine ⟨_, 
      (pss_cons (ps_for PassesOwn.never rfl (pi_enum (by rfl) T.b_enumerate (pa_cons (pv 0) pa_nil)) (pg_tup rfl (pgs_cons (pg_name (i := 1) sc_is_hoist.nd rfl (Or.inl rfl)) (pgs_cons (pg_name (i := 2) sc_is_hoist.nd rfl (Or.inl rfl)) pgs_nil)))
        (pss_one (ps_if (pt_not (pt_val (pe_cf C_is_fit hr (by decide) (by rfl) (pa_cons (pv 2) (pa_cons (pv 1) pa_nil)))))
          (pss_one (ps_ret pe_bl)) pss_nil)))
      (pss_one (ps_ret (pe_chain op_le op_le pe_int (pe_callB call_len_seq (by rfl) T.b_len PySem.boot_len (pa_cons (pv 0) pa_nil)) (pe_gk rfl T.mLONGEST))))), ?_⟩
    refine ⟨_, rfl, a, _, rfl, SqL.of (sm _ _ ha), for_it (walk_enum (xs := h.map fun c => V.str (chr c))) (fun i σ H' => ∃ v1 v2, σ = [some (.ref a), v1, v2] ∧ Fr tbs F H F H') ?_ ?_ ?_ ?_⟩
    · exact ⟨none, none, rfl, Fr.begin sm⟩
    · rintro i σ H' hi ⟨_, _, _, fr⟩
      exact SqL.of (fr.fh _ _ ha)
    · rintro i x σ H' H'' hi ⟨v1, v2, rfl, fr⟩ ⟨t, y, z, rfl, nt, rfl, e1, e2⟩
      have fr2 : Fr tbs F H F (upd H' t (.tup [y, z])) := fr.new nt
      obtain rfl : V.int (i : Nat) = y := Option.some.inj e1
      have e2 : (h.map fun c => V.str (chr c))[i]? = some z := e2
      rw [List.getElem?_map] at e2
      cases hc : h[i]? with
      | none => rw [hc] at e2; cases e2
      | some c =>
        rw [hc] at e2
        obtain rfl : V.str (chr c) = z := Option.some.inj e2
        refine ⟨t, _, rfl, SqT.of upd_same, rfl, _, _, rfl, _, _, rfl, rfl, ?_⟩
        refine ⟨_, rfl, _, rfl, c, i, rfl, ok.fits i c hc, _, rfl, ?_⟩
        exact ⟨_, _, rfl, fr2⟩
    · rintro σ H' ⟨v1, v2, rfl, fr⟩
      refine ⟨_, rfl, a, _, rfl, .inl (SqL.of (fr.fh _ _ ha)), _, _, rfl, rfl, true, ?_, iteT ⟨_, _, rfl, rfl, ?_⟩⟩
      · show V.bl (decide ((1 : Int) ≤ _)) = _
        rw [decide_eq_true (by rw [List.length_map]; have := ok.pos; omega)]
      · show Q (V.bl (decide (_ ≤ (7 : Int)))) _
        rw [decide_eq_true (by rw [List.length_map]; have := ok.most; omega)]
        exact q _ fr
abbrev s_read_of : Stmt := top 12
abbrev N_read_of : List PySem.Str := ["flags", "word", "flag"]
theorem sc_read_of : FnScope N_read_of ["flags"] (defScope s_read_of) := ⟨rfl, rfl, rfl, by decide +kernel, rfl, by decide +kernel, by decide +kernel⟩
def spReadOf (tbs : List (Addr × PySem.Str)) : Sp := fun vs H Q _ => ∃ (F : Hp) (v : V) (h : List Nat), L2.Same F H ∧ vs = [v] ∧ rL rC F v h ∧ HoistOk h ∧ ∀ H', Fr tbs F H F H' → Q (.str (wd (readOf h))) H'
theorem ok_read_of {f : Addr} {fd : FuncData} (Fu : Fun K "read_of" "read_of" s_read_of f fd) (T : Txt K mg) (C_is_hoist : Cf P w K mg base 2 "is_hoist" (spIsHoist tbs)) : FnOk P w K mg base L2.CX0 3 f fd ["flags"] (spReadOf tbs) := by
  refine Fu.ok sc_read_of (fun vs H Q E h => ?_) (fun cdv A outer s H vs Q E hr h => ?_)
  · obtain ⟨F, v, h, _, rfl, _⟩ := h
    rfl
  · obtain ⟨F, v, h, sm, rfl, hv, ok, q⟩ := h
    obtain ⟨a, rfl, ha⟩ := rL_C hv
    refine ⟨_, 
      (pss_cons (ps_if (pt_not (pt_val (pe_cf C_is_hoist hr (by decide) (by rfl) (pa_cons (pv 0) pa_nil))))
        (pss_one ps_never) pss_nil)
      (pss_cons (ps_set (i := 1) sc_read_of.nd rfl (Or.inl rfl) pe_str)
      (pss_cons (ps_for PassesOwn.never rfl (pi_list (pv 0)) (pg_name (i := 2) sc_read_of.nd rfl (Or.inl rfl))
        (pss_one (ps_if (pt_cmpR op_in_sign (pv 2) (pe_gk rfl T.mLETTERS) (by rfl))
          (pss_one (ps_set (i := 1) sc_read_of.nd rfl (Or.inl rfl) (pe_op op_add_str (pv 1) (pv 2))))
          (pss_one (ps_set (i := 1) sc_read_of.nd rfl (Or.inl rfl) (pe_op op_add_str (pv 1) (pe_ix ix_str (pv 1) (pe_op op_sub (pe_callTy call_int_str (by rfl) T.b_int (by decide +kernel) (pa_cons (pv 2) pa_nil)) pe_int) (fun _ _ => rfl))))))))
      (pss_one (ps_ret (pv 1)))))), ?_⟩
    refine ⟨_, rfl, F, _, h, sm, rfl, hv, ok, fun H1 fr1 => ⟨_, rfl, ?_⟩⟩
    have hA : ∀ {H' : Hp}, H' = H1 → SqL K H' a (h.map fun c => V.str (chr c)) := fun e => by rw [e]; exact SqL.of (fr1.fh _ _ ha)
    refine ⟨_, rfl, a, rfl, ⟨_, hA rfl⟩, for_list (K := K) (a := a) (xs := h.map fun c => V.str (chr c)) (fun i σ H' => ∃ v2, σ = [some (.ref a), some (.str (wd (readOf (h.take i)))), v2] ∧ H' = H1) ⟨none, ?_, rfl⟩ (fun i σ H' _ ⟨_, _, e⟩ => hA e) ?_ ?_⟩
    · rw [List.take_zero]
      have e0 : (PySem.Str.ofString "") = wd (readOf []) := by decide +kernel
      show _ = [some (V.ref a), some (V.str (wd (readOf []))), none]
      rw [← e0]
      rfl
    · rintro i x σ H' hi ⟨v2, rfl, rfl⟩
      rw [List.getElem?_map] at hi
      cases hc : h[i]? with
      | none => rw [hc] at hi; cases hi
      | some c =>
        rw [hc] at hi
        obtain rfl : V.str (chr c) = x := Option.some.inj hi
        have il : i < h.length := (List.getElem?_eq_some_iff.mp hc).1
        have lw : (readOf (h.take i)).length = i := by rw [read_len, List.length_take]; omega
        have m7 := ok.most
        have hs := read_take h hc
        refine ⟨_, rfl, c, _, rfl, rfl, _, rfl, ite2 (fun h1 => ?_) (fun h1 => ?_)⟩
        · have l1 : isLet c := mem_LET.mp (of_decide_eq_true h1)
          unfold readStep at hs
          rw [if_pos l1] at hs
          refine ⟨_, rfl, _, rfl, _, _, rfl, rfl, ?_, ?_⟩
          · rw [wd_len, lw]
            exact smallK (by show i + 1 ≤ 1000; omega)
          · refine ⟨some (.str (chr c)), ?_, rfl⟩
            rw [hs, ← wd_add]
            rfl
        · have n1 : ¬ isLet c := fun z => h1 (decide_eq_true (mem_LET.mpr z))
          rcases ok.fits i c hc with z | ⟨hsub, hle⟩
          · exact absurd z n1
          unfold readStep at hs
          rw [if_neg n1] at hs
          have hb := hsub.1
          have jl : c - 49 < (readOf (h.take i)).length := by rw [lw]; omega
          refine ⟨_, rfl, _, rfl, _, rfl, _, _, rfl, int_sub hsub, (by show 1 ≤ 640; omega), _, _, rfl, rfl, _, _, (readOf (h.take i))[c - 49], rfl, rfl, ?_, at_n (j := c - 49) (by omega) (List.getElem?_eq_getElem jl), _, _, rfl, rfl, ?_, ?_⟩
          · rw [wd_len, lw]
            exact smallK (by omega)
          · rw [wd_len, lw]
            exact smallK (by show i + 1 ≤ 1000; omega)
          · refine ⟨some (.str (chr c)), ?_, rfl⟩
            rw [hs, ← wd_add, List.getD_eq_getElem?_getD, List.getElem?_eq_getElem jl]
            rfl
    · rintro σ H' ⟨v2, rfl, rfl⟩
      rw [List.length_map, List.take_length]
      exact ⟨_, rfl, q _ fr1⟩
end
end Fl

/-! FlWants -/
namespace Fl
/-! The plain law of wants. -/
/-- the wants of words whose first has the number n -/
def wantsFrom (n : Nat) : List (List Nat) → List (Nat × Nat)
  | [] => []
  | w :: ws => (List.range w.length).map (fun p => (n, p + 1)) ++ wantsFrom (n + 1) ws
def wantsOf (ws : List (List Nat)) : List (Nat × Nat) := wantsFrom 0 ws
theorem wants_app (n : Nat) : ∀ a b : List (List Nat), wantsFrom n (a ++ b) = wantsFrom n a ++ wantsFrom (n + a.length) b
  | [], b => rfl
  | w :: a, b => by
    show _ ++ wantsFrom (n + 1) (a ++ b) = (_ ++ wantsFrom (n + 1) a) ++ _
    rw [wants_app (n + 1) a b, List.append_assoc]
    congr 2
    rw [List.length_cons]
    congr 1
    omega
theorem take_snoc {α : Type} {l : List α} {i : Nat} {x : α} (h : l[i]? = some x) : l.take (i + 1) = l.take i ++ [x] := by
  rw [List.take_add_one, h]; rfl
theorem wants_take {ws : List (List Nat)} {i : Nat} {w : List Nat} (h : ws[i]? = some w) : wantsOf (ws.take (i + 1)) = wantsOf (ws.take i) ++ (List.range w.length).map fun p => (i, p + 1) := by
  have hi : i < ws.length := (List.getElem?_eq_some_iff.mp h).1
  unfold wantsOf
  rw [take_snoc h, wants_app, List.length_take, Nat.min_eq_left (by omega), Nat.zero_add]
  show _ ++ (_ ++ []) = _
  rw [List.append_nil]
structure WordsOk (ws : List (List Nat)) : Prop where
  few : ws.length ≤ 8
  ok : ∀ w ∈ ws, 1 ≤ w.length ∧ w.length ≤ 7 ∧ ∀ c ∈ w, isLet c
theorem wants_len (n : Nat) : ∀ ws : List (List Nat), (∀ w ∈ ws, w.length ≤ 7) → (wantsFrom n ws).length ≤ 7 * ws.length
  | [], _ => Nat.le_refl 0
  | w :: ws, h => by
    have h1 := h w (by simp)
    have h2 := wants_len (n + 1) ws fun x hx => h x (List.mem_cons_of_mem _ hx)
    show (_ ++ wantsFrom (n + 1) ws).length ≤ _
    rw [List.length_append, List.length_map, List.length_range, List.length_cons]
    omega
theorem WordsOk.wants {ws : List (List Nat)} (h : WordsOk ws) : (wantsOf ws).length ≤ 56 := by
  have h1 := wants_len 0 ws fun w hw => (h.ok w hw).2.1
  have h2 := h.few
  show (wantsFrom 0 ws).length ≤ 56
  omega
theorem WordsOk.take {ws : List (List Nat)} (h : WordsOk ws) (i : Nat) : WordsOk (ws.take i) := ⟨by rw [List.length_take]; have := h.few; omega, fun w hw => h.ok w (List.mem_of_mem_take hw)⟩
def lens (ws : List (List Nat)) : Nat := (ws.map (·.length)).sum
def cutBy : List (List Nat) → List Nat → List (List Nat)
  | [], _ => []
  | w :: ws, fl => fl.take w.length :: cutBy ws (fl.drop w.length)
theorem cut_len : ∀ (ws : List (List Nat)) (fl : List Nat), (cutBy ws fl).length = ws.length
  | [], _ => rfl
  | _ :: ws, fl => congrArg Nat.succ (cut_len ws _)
theorem lens_app (a b : List (List Nat)) : lens (a ++ b) = lens a + lens b := by simp [lens]
theorem lens_one (w : List Nat) : lens [w] = w.length := by simp [lens]
theorem lens_take {ws : List (List Nat)} {i : Nat} {w : List Nat} (h : ws[i]? = some w) : lens (ws.take (i + 1)) = lens (ws.take i) + w.length := by
  rw [take_snoc h, lens_app, lens_one]
theorem lens_le (ws : List (List Nat)) (i : Nat) : lens (ws.take i) ≤ lens ws := by
  have h := lens_app (ws.take i) (ws.drop i)
  rw [List.take_append_drop] at h
  omega
theorem cut_app : ∀ (a b : List (List Nat)) (fl : List Nat), cutBy (a ++ b) fl = cutBy a fl ++ cutBy b (fl.drop (lens a))
  | [], _, _ => rfl
  | w :: a, b, fl => by
    show _ :: cutBy (a ++ b) _ = _ :: (cutBy a _ ++ cutBy b _)
    rw [cut_app a b, List.drop_drop]
    rfl
theorem cut_take {ws : List (List Nat)} {i : Nat} {w : List Nat} {fl : List Nat} (h : ws[i]? = some w) : cutBy (ws.take (i + 1)) fl = cutBy (ws.take i) fl ++ [(fl.drop (lens (ws.take i))).take w.length] := by
  rw [take_snoc h, cut_app]
  rfl
theorem wants_lens (n : Nat) : ∀ ws : List (List Nat), (wantsFrom n ws).length = lens ws
  | [] => rfl
  | w :: ws => by
    show (_ ++ wantsFrom (n + 1) ws).length = _
    rw [List.length_append, List.length_map, List.length_range, wants_lens (n + 1) ws]
    simp [lens]
end Fl

/-! DefWants -/
namespace Fl
open PySem L2
section
variable {P : Program} {w : World} {K : PySem.W.Frag} {mg : PySem.Str → Option Value} {base : Heap} {tbs : List (Addr × PySem.Str)}
abbrev rWant : Rp (Nat × Nat) := rP rN rN
theorem mo_Want : Mo rWant := mo_P mo_N mo_N
abbrev s_wants_of : Stmt := top 15
abbrev N_wants_of : List PySem.Str := ["words", "found", "number", "word", "place"]
theorem sc_wants_of : FnScope N_wants_of ["words"] (defScope s_wants_of) := ⟨rfl, rfl, rfl, by decide +kernel, rfl, by decide +kernel, by decide +kernel⟩
def spWantsOf (tbs : List (Addr × PySem.Str)) : Sp := fun vs H Q _ => ∃ (F : Hp) (v : V) (ws : List (List Nat)), L2.Same F H ∧ vs = [v] ∧ rL rW F v ws ∧ WordsOk ws ∧ Pf tbs F H Q (rL rWant) (wantsOf ws)
theorem ok_wants_of {f : Addr} {fd : FuncData} (Fu : Fun K "wants_of" "wants_of" s_wants_of f fd) (T : Txt K mg) : FnOk P w K mg base L2.CX0 1 f fd ["words"] (spWantsOf tbs) := by
  refine Fu.ok sc_wants_of (fun vs H Q E h => ?_) (fun cdv A outer s H vs Q E hr h => ?_)
  · obtain ⟨F, v, ws, _, rfl, _⟩ := h
    rfl
  · obtain ⟨F, v, ws, sm, rfl, hv, ok, q⟩ := h
    obtain ⟨a, rfl, ha⟩ := rL_W hv
    refine ⟨_, 
      (pss_cons (ps_set (i := 1) sc_wants_of.nd rfl (Or.inl rfl) (pe_lst pa_nil))
      (pss_cons (ps_for PassesOwn.never rfl (pi_enum (by rfl) T.b_enumerate (pa_cons (pv 0) pa_nil)) (pg_tup rfl (pgs_cons (pg_name (i := 2) sc_wants_of.nd rfl (Or.inl rfl)) (pgs_cons (pg_name (i := 3) sc_wants_of.nd rfl (Or.inl rfl)) pgs_nil)))
        (pss_one (ps_for PassesOwn.never rfl (pi_range2 (by rfl) T.b_range (pa_cons pe_int (pa_cons (pe_op op_add (pe_callB call_len_str (by rfl) T.b_len PySem.boot_len (pa_cons (pv 3) pa_nil)) pe_int) pa_nil))) (pg_name (i := 4) sc_wants_of.nd rfl (Or.inl rfl))
          (pss_one (ps_expr (pe_bm PySem.F.plainAttrs_list PySem.F.slot_list_append PySem.F.type_list_append mt_append (pv 1) (pa_cons (pe_tup (pa_cons (pv 2) (pa_cons (pv 4) pa_nil))) pa_nil)))))))
      (pss_one (ps_ret (pv 1))))), ?_⟩
    refine ⟨Nat.zero_le _, fun d nd => ?_⟩
    have small : ∀ (xs : List V) (n : Nat), xs.length = n → n ≤ 56 → xs.length < sizeLine := fun xs n e h => by rw [e]; exact small1000 (by omega)
    refine ⟨_, rfl, a, _, rfl, SqL.of ((Fr.begin (T := tbs) sm).new nd |>.fh _ _ ha), for_it (walk_enum (xs := ws.map fun c => V.str (wd c))) (fun i σ H' => ∃ v2 v3 v4 F' xs, σ = [some (.ref a), some (.ref d), v2, v3, v4] ∧ Fr tbs F H F' H' ∧ Own H F' H' d (.lst xs) ∧ Al (rWant F') xs (wantsOf (ws.take i))) ?_ ?_ ?_ ?_⟩
    · exact ⟨none, none, none, F, [], rfl, (Fr.begin sm).new nd, (Fr.begin (T := tbs) sm).own nd, trivial⟩
    · rintro i σ H' hi ⟨_, _, _, F', xs, _, fr, _⟩
      exact SqL.of (fr.fh _ _ (fr.ff _ _ ha))
    · rintro i x σ H' H'' hi ⟨v2, v3, v4, F', xs, rfl, fr, ow, al⟩ ⟨t, y, z, rfl, nt, rfl, e1, e2⟩
      obtain rfl : V.int (i : Nat) = y := Option.some.inj e1
      have e2 : (ws.map fun c => V.str (wd c))[i]? = some z := e2
      rw [List.getElem?_map] at e2
      cases hc : ws[i]? with
      | none => rw [hc] at e2; cases e2
      | some l =>
        rw [hc] at e2
        obtain rfl : V.str (wd l) = z := Option.some.inj e2
        obtain ⟨l1, l7, _⟩ := ok.ok l (List.mem_of_getElem? hc)
        have wt := wants_take hc
        refine ⟨t, _, rfl, SqT.of upd_same, rfl, _, _, rfl, _, _, rfl, rfl, ?_⟩
        refine ⟨_, rfl, _, rfl, (by rw [wd_len]; exact smallK (by omega)), _, _, rfl, rfl, _, _, rfl, ⟨by decide, by decide, by rw [wd_len]; omega, by rw [wd_len]; omega⟩, ?_⟩
        refine for_range (lo := 1) (fun j σ H' => ∃ v4 F' xs, σ = [some (.ref a), some (.ref d), some (.int (i : Nat)), some (.str (wd l)), v4] ∧ Fr tbs F H F' H' ∧ Own H F' H' d (.lst xs) ∧ Al (rWant F') xs (wantsOf (ws.take i) ++ (List.range j).map fun p => (i, p + 1))) ?_ ?_ ?_
        · exact ⟨v4, F', xs, rfl, fr.new nt, ow.new nt, by simpa using al⟩
        · rintro j σ H3 hj ⟨v4, F3, xs3, rfl, fr3, ow3, al3⟩
          have hj : j < l.length := by rw [wd_len] at hj; omega
          refine ⟨_, rfl, .inl ⟨rfl, _, SqL.of ow3.at_⟩, _, rfl, _, rfl, (by show 2 ≤ sizeLine; exact smallK (by omega)), fun t nt => ?_⟩
          have e1 : V.int (1 + (j : Int)) = V.int (((j + 1 : Nat)) : Int) := by congr 1; omega
          have ow4 := ow3.lay (o' := .tup [V.int (i : Nat), V.int (1 + (j : Int))]) nt
          refine ⟨d, xs3, .ref t, rfl, rfl, ow4.at_, small _ _ al3.len ?_, ?_⟩
          · have h56 := (ok.take (i + 1)).wants
            rw [wt, List.length_append, List.length_map, List.length_range] at h56
            rw [List.length_append, List.length_map, List.length_range]
            omega
          · refine ⟨_, upd F3 t (.tup [V.int (i : Nat), V.int (1 + (j : Int))]), xs3 ++ [.ref t], rfl, (fr3.lay nt).put ow4 trivial, ow4.put, ?_⟩
            rw [List.range_succ, List.map_append, ← List.append_assoc]
            refine (mo_Want.al (same_upd (fr3.free nt).1) al3).snoc ⟨t, _, _, rfl, upd_same, rfl, e1⟩
        · rintro σ H3 ⟨v4, F3, xs3, rfl, fr3, ow3, al3⟩
          rw [show (((wd l).length : Int) + 1 - 1).toNat = l.length by rw [wd_len]; omega] at al3
          exact ⟨_, _, _, F3, xs3, rfl, fr3, ow3, by rw [wt]; exact al3⟩
    · rintro σ H' ⟨v2, v3, v4, F', xs, rfl, fr, ow, al⟩
      rw [List.length_map, List.take_length] at al
      exact ⟨_, rfl, q _ _ _ (fr.freeze ow) ⟨d, xs, rfl, upd_same, mo_Want.al (same_upd ow.f) al⟩⟩
theorem cut_nat {xs : List V} {a b : Nat} {z y : Int} (hz : z = (a : Int)) (hy : y = (b : Int)) (h : a ≤ b) (h2 : b ≤ xs.length) : cutV xs (some z) (some y) = (xs.drop a).take (b - a) := by
  rw [hz, hy]
  unfold cutV
  rw [show HT.sIx xs.length 0 (some (a : Int)) = min a xs.length from HT.sIx_nat _ _ _, show HT.sIx xs.length xs.length (some (b : Int)) = min b xs.length from HT.sIx_nat _ _ _, Nat.min_eq_left h2, Nat.min_eq_left (Nat.le_trans h h2)]
abbrev s_hoists_of : Stmt := top 16
abbrev N_hoists_of : List PySem.Str := ["words", "flags", "found", "at", "word"]
theorem sc_hoists_of : FnScope N_hoists_of ["words", "flags"] (defScope s_hoists_of) := ⟨rfl, rfl, rfl, by decide +kernel, rfl, by decide +kernel, by decide +kernel⟩
def spHoistsOf (tbs : List (Addr × PySem.Str)) : Sp := fun vs H Q _ => ∃ (F : Hp) (v u : V) (ws : List (List Nat)) (fl : List Nat), L2.Same F H ∧ vs = [v, u] ∧ rL rW F v ws ∧ rL rC F u fl ∧ WordsOk ws ∧ fl.length = lens ws ∧ Pf tbs F H Q (rL (rL rC)) (cutBy ws fl)
theorem ok_hoists_of {f : Addr} {fd : FuncData} (Fu : Fun K "hoists_of" "hoists_of" s_hoists_of f fd) (T : Txt K mg) : FnOk P w K mg base L2.CX0 1 f fd ["words", "flags"] (spHoistsOf tbs) := by
  refine Fu.ok sc_hoists_of (fun vs H Q E h => ?_) (fun cdv A outer s H vs Q E hr h => ?_)
  · obtain ⟨F, v, u, ws, fl, _, rfl, _⟩ := h
    rfl
  · obtain ⟨F, v, u, ws, fl, sm, rfl, hv, hu, ok, hfl, q⟩ := h
    obtain ⟨a, rfl, ha⟩ := rL_W hv
    obtain ⟨b, rfl, hb⟩ := rL_C hu
    refine ⟨_, 
      (pss_cons (ps_set (i := 2) sc_hoists_of.nd rfl (Or.inl rfl) (pe_lst pa_nil))
      (pss_cons (ps_set (i := 3) sc_hoists_of.nd rfl (Or.inl rfl) pe_int)
      (pss_cons (ps_for PassesOwn.never rfl (pi_list (pv 0)) (pg_name (i := 4) sc_hoists_of.nd rfl (Or.inl rfl))
        (pss_cons (ps_expr (pe_bm PySem.F.plainAttrs_list PySem.F.slot_list_append PySem.F.type_list_append mt_append (pv 2) (pa_cons (pe_callTy call_list_of (by rfl) T.b_list (by decide +kernel) (pa_cons (pe_slice sl_list (pv 1) (po_some (pv 3)) (po_some (pe_op op_add (pv 3) (pe_callB call_len_str (by rfl) T.b_len PySem.boot_len (pa_cons (pv 4) pa_nil))))) pa_nil)) pa_nil)))
        (pss_one (ps_aug (i := 3) sc_hoists_of.nd rfl (Or.inl rfl) (pe_callB call_len_str (by rfl) T.b_len PySem.boot_len (pa_cons (pv 4) pa_nil)) ip_add))))
      (pss_one (ps_ret (pv 2)))))), ?_⟩
    refine ⟨Nat.zero_le _, fun d nd => ?_⟩
    have f0 := (Fr.begin (T := tbs) sm).new (o := .lst []) nd
    refine ⟨_, rfl, a, rfl, ⟨_, SqL.of (f0.fh _ _ ha)⟩, for_list (K := K) (a := a) (xs := ws.map fun c => V.str (wd c)) (fun i σ H' => ∃ v4 F' xs, σ = [some (.ref a), some (.ref b), some (.ref d), some (.int ((lens (ws.take i) : Nat) : Int)), v4] ∧ Fr tbs F H F' H' ∧ Own H F' H' d (.lst xs) ∧ Al (rL rC F') xs (cutBy (ws.take i) fl)) ?_ ?_ ?_ ?_⟩
    · exact ⟨none, F, [], rfl, f0, (Fr.begin (T := tbs) sm).own nd, trivial⟩
    · rintro i σ H' hi ⟨_, F', xs, _, fr, _⟩
      exact SqL.of (fr.fh _ _ (fr.ff _ _ ha))
    · rintro i x σ H' hi ⟨v4, F', xs, rfl, fr, ow, al⟩
      rw [List.getElem?_map] at hi
      cases hc : ws[i]? with
      | none => rw [hc] at hi; cases hi
      | some l =>
        rw [hc] at hi
        obtain rfl : V.str (wd l) = x := Option.some.inj hi
        obtain ⟨l1, l7, _⟩ := ok.ok l (List.mem_of_getElem? hc)
        have ls := lens_take hc
        have lle := lens_le ws (i + 1)
        have hlen : (wd l).length ≤ sizeLine := by rw [wd_len]; exact smallK (by omega)
        have hbl : (fl.map fun c => V.str (chr c)).length = lens ws := by rw [List.length_map]; exact hfl
        refine ⟨_, rfl, .inl ⟨rfl, _, SqL.of ow.at_⟩, _, rfl, _, rfl, _, rfl, _, rfl, _, rfl, _, rfl, hlen, _, _, rfl, rfl, _, rfl, b, _, rfl, SqL.of (fr.fh _ _ (fr.ff _ _ hb)), fun p np => ?_⟩
        rw [cut_nat (a := lens (ws.take i)) (b := lens (ws.take (i + 1))) rfl (by rw [wd_len, ls]; omega) (by omega) (by rw [hbl]; exact lle)]
        refine ⟨p, _, rfl, .inl (SqL.of upd_same), fun g ng => ?_⟩
        have fr2 := (fr.new (o := .lst (((fl.map fun c => V.str (chr c)).drop (lens (ws.take i))).take (lens (ws.take (i + 1)) - lens (ws.take i)))) np)
        have ow2 := ow.new (o' := .lst (((fl.map fun c => V.str (chr c)).drop (lens (ws.take i))).take (lens (ws.take (i + 1)) - lens (ws.take i)))) np
        have fr3 := fr2.lay (o := .lst (((fl.map fun c => V.str (chr c)).drop (lens (ws.take i))).take (lens (ws.take (i + 1)) - lens (ws.take i)))) ng
        have ow3 := ow2.lay (o' := .lst (((fl.map fun c => V.str (chr c)).drop (lens (ws.take i))).take (lens (ws.take (i + 1)) - lens (ws.take i)))) ng
        refine ⟨d, xs, .ref g, rfl, rfl, ow3.at_, ?_, ?_⟩
        · rw [al.len, cut_len, List.length_take]
          have := ok.few
          exact small1000 (by omega)
        refine ⟨_, rfl, _, rfl, _, rfl, hlen, _, _, rfl, rfl, ?_⟩
        refine ⟨some (.str (wd l)), _, xs ++ [.ref g], ?_, fr3.put ow3 trivial, ow3.put, ?_⟩
        · show [_, _, _, _, _] = [_, _, _, _, _]
          rw [ls, wd_len]
          rfl
        · rw [cut_take hc]
          refine ((mo_L mo_C).al (same_upd (fr2.free ng).1) al).snoc (rL_mkC ?_)
          rw [upd_same, ls, Nat.add_sub_cancel_left, List.map_take, List.map_drop]
    · rintro σ H' ⟨v4, F', xs, rfl, fr, ow, al⟩
      rw [List.length_map, List.take_length] at al
      exact ⟨_, rfl, q _ _ _ (fr.freeze ow) ⟨d, xs, rfl, upd_same, (mo_L mo_C).al (same_upd ow.f) al⟩⟩
end
end Fl

/-! FlReach -/
namespace Fl
open PySem L2
/-! Dicts whose keys are signs. -/
abbrev nV : Nat → V := fun n => V.int (n : Int)
abbrev kC (c : Nat) : Key := Sum.inr (chr c)
def dV {β : Type} (g : β → V) (kvs : List (Nat × β)) : List (Key × V) := kvs.map fun p => (kC p.1, g p.2)
theorem kC_inj {a b : Nat} (h : kC a = kC b) : a = b := chr_inj (Sum.inr.inj h)
theorem valV_dV {β : Type} (g : β → V) (c : Nat) : ∀ kvs : List (Nat × β), valV (dV g kvs) (kC c) = ((kvs.find? fun p => decide (p.1 = c)).map (·.2)).map g
  | [] => rfl
  | p :: kvs => by
    by_cases e : p.1 = c
    · rw [show dV g (p :: kvs) = (kC p.1, g p.2) :: dV g kvs from rfl, valV_pos (by rw [e]), List.find?_cons, decide_eq_true e]
      rfl
    · rw [show dV g (p :: kvs) = (kC p.1, g p.2) :: dV g kvs from rfl, valV_neg (fun z => e (kC_inj z)), List.find?_cons, decide_eq_false e]
      exact valV_dV g c kvs
/-- how many there are of a flag -/
def lk (kvs : List (Nat × Int)) (c : Nat) : Int := ((kvs.find? fun p => decide (p.1 = c)).map (·.2)).getD 0
theorem dk_dV (kvs : List (Nat × Int)) : dk kvs = dV V.int kvs := rfl
theorem lk_get (kvs : List (Nat × Int)) (c : Nat) : ((valV (dk kvs) (kC c)).getD (V.int 0)) = V.int (lk kvs c) := by
  rw [dk_dV, valV_dV]
  unfold lk
  cases (kvs.find? fun p => decide (p.1 = c)).map (·.2) <;> rfl
theorem came_get (came : List (Nat × Nat)) (c : Nat) : valV (dV nV came) (kC c) = (look came c).map nV := valV_dV nV c came
theorem came_put {came : List (Nat × Nat)} {c w : Nat} (h : look came c = none) : putK (dV nV came) (kC c) (nV w) = dV nV (came ++ [(c, w)]) := by
  rw [putK_new _ (by rw [came_get, h]; rfl)]
  unfold dV
  rw [List.map_append]
  rfl
/-! all flags, in their order -/
def FLl : List Nat := FLG.cps.toList
theorem fll_nodup : FLl.Nodup := by decide +kernel
theorem fll_mem {c : Nat} : c ∈ FLl ↔ isFlag c := mem_FLG
/-- the dict of the lists by flags -/
def heldK (ad : Nat → Addr) (l : List Nat) : List (Key × V) := dV (fun c => V.ref (ad c)) (l.map fun c => (c, c))
theorem held_get (ad : Nat → Addr) {c : Nat} {l : List Nat} (h : c ∈ l) : valV (heldK ad l) (kC c) = some (.ref (ad c)) := by
  unfold heldK
  rw [valV_dV]
  have : ∀ l : List Nat, c ∈ l → (l.map fun c => (c, c)).find? (fun p => decide (p.1 = c)) = some (c, c) := by
    intro l
    induction l with
    | nil => intro h; cases h
    | cons d l ih =>
      intro h
      rw [List.map_cons, List.find?_cons]
      by_cases e : d = c
      · subst e; simp
      · rw [decide_eq_false e]
        rcases List.mem_cons.mp h with z | z
        · exact absurd z.symm e
        · exact ih z
  rw [this l h]
  rfl
/-- choices that are flags, few -/
structure ChOk (ch : List (List Nat)) : Prop where
  few : ch.length ≤ 56
  ok : ∀ cs ∈ ch, cs.length ≤ 5 ∧ ∀ c ∈ cs, isFlag c
theorem keys_flags {ch : List (List Nat)} (ok : ChOk ch) {w : Nat} {cs : List Nat} (h : ch[w]? = some cs) : ∀ c ∈ cs, isFlag c := (ok.ok cs (List.mem_of_getElem? h)).2
theorem fll_len {xs : List Nat} (nd : xs.Nodup) (h : ∀ x ∈ xs, isFlag x) : xs.length ≤ 27 := by
  have p : xs.Perm (FLl.filter fun x => decide (x ∈ xs)) := perm_of_mem nd (fll_nodup.filter _) fun x => by
    rw [List.mem_filter, decide_eq_true_iff]
    exact ⟨fun m => ⟨fll_mem.mpr (h x m), m⟩, fun m => m.2⟩
  rw [p.length_eq]
  exact Nat.le_trans (List.length_filter_le _ _) (Nat.le_of_eq rfl)
end Fl

/-! DefReach -/
namespace Fl
open PySem L2
section
variable {P : Program} {w : World} {K : PySem.W.Frag} {mg : PySem.Str → Option Value} {base : Heap} {tbs : List (Addr × PySem.Str)}
abbrev s_reach_from : Stmt := top 18
abbrev N_reach_from : List PySem.Str := ["choices", "held", "locker", "start", "came", "wants", "at", "flag"]
theorem sc_reach_from : FnScope N_reach_from ["choices", "held", "locker", "start"] (defScope s_reach_from) := ⟨rfl, rfl, rfl, by decide +kernel, rfl, by decide +kernel, by decide +kernel⟩
/-- what reach_from hands back: the dict, the list, and a flag with room or None -/
def spReach (tbs : List (Addr × PySem.Str)) : Sp := fun vs H Q _ => ∃ (F : Hp) (vc vl : V) (dh : Addr) (ch : List (List Nat)) (ad : Nat → Addr) (held : Nat → List Nat) (hung : List (Option Nat)) (kvs : List (Nat × Int)) (start : Nat),
  L2.Same F H ∧ vs = [vc, .ref dh, vl, nV start] ∧ rL (rL rC) F vc ch ∧ rD F vl kvs ∧ ChOk ch ∧ H dh = some (.dK (heldK ad FLl)) ∧ (∀ c, isFlag c → H (ad c) = some (.lst ((held c).map nV))) ∧
  Mt ch (lk kvs) held hung start ∧ start < ch.length ∧
  (∀ F' H' p dc dw came wants, Fr tbs F H F' H' → F' p = some (.tup [.ref dc, .ref dw, .non]) → F' dc = some (.dK (dV nV came)) → F' dw = some (.lst (wants.map nV)) → (∀ c ∈ came.map (·.1), isFlag c) →
    Lacks ch (lk kvs) wants (came.map (·.1)) → Q (.ref p) H') ∧
  (∀ F' H' p dc dw came f ws, Fr tbs F H F' H' → F' p = some (.tup [.ref dc, .ref dw, .str (chr f)]) → F' dc = some (.dK (dV nV came)) → isFlag f → (∀ c ∈ came.map (·.1), isFlag c) →
    Chain ch (look came) hung start f ws → ((held f).length : Int) < lk kvs f → Q (.ref p) H')
theorem ok_reach_from {f : Addr} {fd : FuncData} {k : Nat} (Fu : Fun K "reach_from" "reach_from" s_reach_from f fd) (T : Txt K mg) : FnOk P w K mg base L2.CX0 (k + 1) f fd ["choices", "held", "locker", "start"] (spReach tbs) := by
  refine Fu.ok sc_reach_from (fun vs H Q E h => ?_) (fun cdv A outer s H vs Q E hr h => ?_)
  · obtain ⟨F, vc, vl, dh, ch, ad, held, hung, kvs, start, _, rfl, _⟩ := h
    rfl
  · obtain ⟨F, vc, vl, dh, ch, ad, held, hung, kvs, start, sm, rfl, hch, hlo, ok, hdh, hls, M, hst, qN, qF⟩ := h
    have hu := hu_of hr
    obtain ⟨ac, cx, rfl, hac, alc⟩ := hch
    obtain ⟨al, rfl, hal⟩ := hlo
    refine ⟨_, 
      (pss_cons (ps_set (i := 4) sc_reach_from.nd rfl (Or.inl rfl) pe_dnewK)
      (pss_cons (ps_set (i := 5) sc_reach_from.nd rfl (Or.inl rfl) (pe_lst (pa_cons (pv 3) pa_nil)))
      (pss_cons (ps_set (i := 6) sc_reach_from.nd rfl (Or.inl rfl) pe_int)
      (pss_cons (ps_while PassesOwn.never (pt_cmpR op_lt (pv 6) (pe_callB call_len_seq (by rfl) T.b_len PySem.boot_len (pa_cons (pv 5) pa_nil)) (nomark _))
        (pss_cons (ps_for PassesOwn.never rfl (pi_list (pe_ix ix_list (pv 0) (pe_ix ix_list (pv 5) (pv 6) (fun _ _ => rfl)) (fun _ _ => rfl))) (pg_name (i := 7) sc_reach_from.nd rfl (Or.inl rfl))
          (pss_one (ps_if (pt_cmp (pc_dnotin hu (pv 7) (pv 4)))
            (pss_cons (ps_dput hu (pv 4) (pv 7) (pe_ix ix_list (pv 5) (pv 6) (fun _ _ => rfl)) rfl)
            (pss_cons (ps_if (pt_cmpR op_lt (pe_callB call_len_seq (by rfl) T.b_len PySem.boot_len (pa_cons (pe_dget hu (pv 1) (pv 7) (fun _ _ => rfl)) pa_nil)) (pe_dget2 hu (pv 2) (pv 7) pe_int ⟨by rfl, by rfl, by rfl, by rfl⟩) (nomark _))
              (pss_one (ps_ret (pe_tup (pa_cons (pv 4) (pa_cons (pv 5) (pa_cons (pv 7) pa_nil)))))) pss_nil)
            (pss_one (ps_expr (pe_bm PySem.F.plainAttrs_list PySem.F.slot_list_extend PySem.F.type_list_extend mt_extend (pv 5) (pa_cons (pe_dget hu (pv 1) (pv 7) (fun _ _ => rfl)) pa_nil)))))) pss_nil)))
        (pss_one (ps_aug (i := 6) sc_reach_from.nd rfl (Or.inl rfl) pe_int ip_add))))
      (pss_one (ps_ret (pe_tup (pa_cons (pv 4) (pa_cons (pv 5) (pa_cons pe_non pa_nil)))))))))), ?_⟩
    refine fun dc nc => ?_
    have f0 := (Fr.begin (T := tbs) sm).new (o := .dK []) nc
    have w0 := (Fr.begin (T := tbs) sm).own (o := .dK []) nc
    refine ⟨_, rfl, small7 (by show 1 ≤ 7; omega), fun dw nw => ?_⟩
    have f1 := f0.new (o := .lst [nV start]) nw
    have c1 := w0.new (o' := .lst [nV start]) nw
    have w1 := f0.own (o := .lst [nV start]) nw
    -- the while's invariant
    let W : Nat → L2.St → Hp → Prop := fun m σ H' => ∃ came wants at_ v7, σ = [some (.ref ac), some (.ref dh), some (.ref al), some (nV start), some (.ref dc), some (.ref dw), some (nV at_), v7] ∧ Fr tbs F H F H' ∧
      Own H F H' dc (.dK (dV nV came)) ∧ Own H F H' dw (.lst (wants.map nV)) ∧ Bfs ch (lk kvs) held hung start came wants at_ ∧ (∀ c ∈ came.map (·.1), isFlag c) ∧ m = ch.length - at_
    refine ⟨W, ⟨_, [], [start], 0, none, rfl, f1, c1, w1, Bfs.zero, (fun c hc => by cases hc), rfl⟩, ?_⟩
    rintro m σ H' ⟨came, wants, at_, v7, rfl, fr, owc, oww, B, kf, rfl⟩
    have hwl := B.len M hst
    have h56 := ok.few
    refine ⟨_, rfl, _, rfl, dw, _, rfl, .inl (SqL.of oww.at_), _, _, rfl, rfl, _, rfl, ite2 (fun c => ?_) (fun c => ?_)⟩
    · have hat : at_ < wants.length := by
        have := of_decide_eq_true c
        rw [List.length_map] at this
        omega
      obtain ⟨v, hv⟩ : ∃ v, wants[at_]? = some v := ⟨_, List.getElem?_eq_getElem hat⟩
      have hvl : v < ch.length := B.bound M hst v (List.mem_of_getElem? hv)
      obtain ⟨cs, hcs⟩ : ∃ cs, ch[v]? = some cs := ⟨_, List.getElem?_eq_getElem hvl⟩
      obtain ⟨x, hx, b, ys, rfl, hb, alb⟩ := alc.at hcs
      have eb : ys = cs.map fun c => V.str (chr c) := Al.of_map (g := fun c => V.str (chr c)) alb
      subst eb
      have hcsf := keys_flags ok hcs
      refine ⟨fun σ' H2 => W (ch.length - (at_ + 1)) σ' H2, fun σ' H2 h => ⟨_, by omega, h⟩, ?_⟩
      refine ⟨_, rfl, _, rfl, _, rfl, dw, _, _, nV v, rfl, rfl, SqL.of oww.at_, at_of rfl (by rw [List.getElem?_map, hv]; rfl), ac, cx, _, .ref b, rfl, rfl, SqL.of (fr.fh _ _ hac), at_of rfl hx, b, rfl, ⟨_, SqL.of (fr.fh _ _ hb)⟩, ?_⟩
      refine for_list (K := K) (a := b) (xs := cs.map fun c => V.str (chr c)) (fun j σ H' => ∃ came wants v7, σ = [some (.ref ac), some (.ref dh), some (.ref al), some (nV start), some (.ref dc), some (.ref dw), some (nV at_), v7] ∧ Fr tbs F H F H' ∧
        Own H F H' dc (.dK (dV nV came)) ∧ Own H F H' dw (.lst (wants.map nV)) ∧ Bfs ch (lk kvs) held hung start came wants at_ ∧ (∀ c ∈ came.map (·.1), isFlag c) ∧ wants[at_]? = some v ∧ ∀ c ∈ cs.take j, c ∈ came.map (·.1)) ?_ ?_ ?_ ?_
      · exact ⟨came, wants, v7, rfl, fr, owc, oww, B, kf, hv, fun c hc => by rw [List.take_zero] at hc; cases hc⟩
      · rintro j σ H2 _ ⟨_, _, _, _, fr2, _⟩
        exact SqL.of (fr2.fh _ _ hb)
      · rintro j y σ H2 hj ⟨came, wants, v7, rfl, fr, owc, oww, B, kf, hv, hin⟩
        rw [List.getElem?_map] at hj
        cases hc : cs[j]? with
        | none => rw [hc] at hj; cases hj
        | some c =>
        rw [hc] at hj
        obtain rfl : V.str (chr c) = y := Option.some.inj hj
        have hcm : c ∈ cs := List.mem_of_getElem? hc
        have hfl : isFlag c := hcsf c hcm
        have ne : dw ≠ dc := ne_of oww.at_ owc.at_ (by intro z; cases z)
        refine ⟨_, rfl, _, rfl, dc, _, rfl, DGet.k (k := kC c) owc.at_, _, rfl, ?_⟩
        rw [came_get]
        cases hl : look came c with
        | some w0 =>
          refine iteF ⟨came, wants, _, rfl, fr, owc, oww, B, kf, hv, fun d hd => ?_⟩
          rw [take_snoc hc, List.mem_append, List.mem_singleton] at hd
          rcases hd with hd | hd
          · exact hin d hd
          · rw [hd]
            by_cases z : c ∈ came.map (·.1)
            · exact z
            · rw [look_none.mpr z] at hl
              cases hl
        | none =>
          have hn : c ∉ came.map (·.1) := look_none.mp hl
          have cl := B.kd
          have clen : (dV nV came).length < sizeLine := by
            unfold dV
            rw [List.length_map]
            have this : (came.map (·.1)).length ≤ 27 := fll_len B.kd kf
            rw [List.length_map] at this
            exact small1000 (by omega)
          refine iteT ⟨_, rfl, _, rfl, dw, _, _, nV v, rfl, rfl, SqL.of oww.at_, at_of rfl (by rw [List.getElem?_map, hv]; rfl), _, rfl, _, rfl, dc, _, rfl, DPut.k (k := kC c) owc.at_ clen, ?_⟩
          rw [came_put hl]
          have fr3 := fr.put (o' := .dK (dV nV (came ++ [(c, v)]))) owc trivial
          have owc3 := owc.put (o' := .dK (dV nV (came ++ [(c, v)])))
          have oww3 := oww.other (o' := .dK (dV nV (came ++ [(c, v)]))) ne
          have hdh3 := fr3.kp.st _ _ hdh ntb_dK
          have hls3 := fr3.kp.st _ _ (hls c hfl) ntb_lst
          have hal3 := fr3.fh _ _ hal
          have gd := DGet.k (k := kC c) hdh3
          rw [held_get ad (fll_mem.mpr hfl)] at gd
          have em : (came ++ [(c, v)]).map (·.1) = came.map (·.1) ++ [c] := by simp
          have kf3 : ∀ d ∈ (came ++ [(c, v)]).map (·.1), isFlag d := fun d hd => by
            rw [em, List.mem_append, List.mem_singleton] at hd
            rcases hd with hd | hd
            · exact kf d hd
            · rw [hd]; exact hfl
          refine ⟨_, rfl, _, rfl, dh, _, rfl, gd, ad c, _, rfl, .inl (SqL.of hls3), _, rfl, al, rfl, .inl ⟨_, .inl hal3⟩, _, rfl, _, DGet.k (k := kC c) hal3, _, lk kvs c, rfl, lk_get kvs c, _, rfl, ite2 (fun c1 => ?_) (fun c1 => ?_)⟩
          · have room : ((held c).length : Int) < lk kvs c := by
              have := of_decide_eq_true c1
              rw [List.length_map] at this
              exact this
            obtain ⟨ws, hch, _⟩ := B.chain M hv hcs hcm hn
            refine ⟨_, rfl, _, rfl, _, rfl, (by show 3 ≤ sizeLine; exact small7 (by omega)), fun p np => ?_⟩
            have g1 := fr3.freeze owc3
            have g2 := g1.freeze (oww3.freeze ne)
            have g3 := g2.lay (o := .tup [.ref dc, .ref dw, .str (chr c)]) np
            refine qF _ _ p dc dw (came ++ [(c, v)]) c ws g3 upd_same ?_ hfl kf3 hch room
            rw [upd_ne (ne_of_none owc3.at_ np), upd_ne ne.symm, upd_same]
          · have room : lk kvs c ≤ ((held c).length : Int) := by
              have h2 : ¬ ((((held c).map nV).length : Int) < lk kvs c) := fun z => c1 (decide_eq_true z)
              rw [List.length_map] at h2
              omega
            have B3 := B.more M hv hcs hcm hn room
            have l3 := B3.len M hst
            rw [List.length_append] at l3
            refine ⟨_, rfl, .inl ⟨rfl, _, SqL.of oww3.at_⟩, _, rfl, _, rfl, dh, _, rfl, gd, dw, ad c, _, _, rfl, rfl, oww3.at_, hls3, ?_, ?_⟩
            · rw [List.length_map, List.length_map]
              exact smallK (by omega)
            · rw [← List.map_append]
              refine ⟨came ++ [(c, v)], wants ++ held c, _, rfl, fr3.put oww3 trivial, owc3.other ne.symm, oww3.put, B3, kf3, ?_, fun d hd => ?_⟩
              · rw [List.getElem?_append_left (List.getElem?_eq_some_iff.mp hv).1]
                exact hv
              · rw [take_snoc hc, List.mem_append, List.mem_singleton] at hd
                rw [em, List.mem_append, List.mem_singleton]
                rcases hd with hd | hd
                · exact .inl (hin d hd)
                · exact .inr hd
      · rintro σ H2 ⟨came, wants, v7, rfl, fr, owc, oww, B, kf, hv, hin⟩
        rw [List.length_map, List.take_length] at hin
        refine ⟨_, rfl, _, _, rfl, rfl, ?_⟩
        exact ⟨came, wants, at_ + 1, v7, rfl, fr, owc, oww, B.next hv hcs hin, kf, rfl⟩
    · have hat : wants.length ≤ at_ := by
        have h2 : ¬ ((at_ : Int) < ((wants.map nV).length : Int)) := fun z => c (decide_eq_true z)
        rw [List.length_map] at h2
        omega
      refine ⟨_, rfl, _, rfl, (by show 3 ≤ sizeLine; exact small7 (by omega)), fun p np => ?_⟩
      have ne : dw ≠ dc := ne_of oww.at_ owc.at_ (by intro z; cases z)
      have g1 := fr.freeze owc
      have g2 := g1.freeze (oww.freeze ne)
      have g3 := g2.lay (o := .tup [.ref dc, .ref dw, .non]) np
      have nF := (g2.free np).1
      refine qN _ _ p dc dw came wants g3 upd_same ?_ ?_ kf (B.lacks M hst hat)
      · rw [upd_ne (ne_of_none owc.at_ np), upd_ne ne.symm, upd_same]
      · rw [upd_ne (ne_of_none oww.at_ np), upd_same]
end
end Fl

/-! FlHang -/
/-! Words, their wants, the choices of the wants. -/
namespace Fl
open PySem L2
theorem wantsFrom_mem {n k p : Nat} : ∀ {ws : List (List Nat)}, (k, p) ∈ wantsFrom n ws → ∃ w, n ≤ k ∧ ws[k - n]? = some w ∧ 1 ≤ p ∧ p ≤ w.length := by
  intro ws
  induction ws generalizing n with
  | nil => intro h; cases h
  | cons w ws ih =>
    intro h
    rcases List.mem_append.mp h with h | h
    · obtain ⟨q, hq, e⟩ := List.mem_map.mp h
      rw [List.mem_range] at hq
      have e1 : n = k := (Prod.mk.inj e).1
      have e2 : q + 1 = p := (Prod.mk.inj e).2
      subst e1
      exact ⟨w, Nat.le_refl _, by simp, by omega, by omega⟩
    · obtain ⟨v, h1, h2, h3⟩ := ih h
      refine ⟨v, by omega, ?_, h3⟩
      rw [show k - n = (k - (n + 1)) + 1 by omega, List.getElem?_cons_succ]
      exact h2
theorem wants_mem {ws : List (List Nat)} {k p : Nat} (h : (k, p) ∈ wantsOf ws) : ∃ w, ws[k]? = some w ∧ 1 ≤ p ∧ p ≤ w.length := by
  obtain ⟨w, _, h2, h3⟩ := wantsFrom_mem (n := 0) h
  exact ⟨w, h2, h3⟩
/-- the choices of a want -/
def chAt (ws : List (List Nat)) (t : Nat × Nat) : List Nat := choices (ws.getD t.1 []) t.2
theorem chAt_eq {ws : List (List Nat)} {k p : Nat} {w : List Nat} (h : ws[k]? = some w) : chAt ws (k, p) = choices w p := by
  unfold chAt
  show choices (ws.getD k []) p = _
  rw [List.getD_eq_getElem?_getD, h]
  rfl
def chOf (ws : List (List Nat)) : List (List Nat) := (wantsOf ws).map (chAt ws)
theorem chOf_len (ws : List (List Nat)) : (chOf ws).length = (wantsOf ws).length := List.length_map _
theorem choices_flags {l : List Nat} {p : Nat} (h1 : 1 ≤ p) (h2 : p ≤ l.length) (hl : ∀ c ∈ l, isLet c) : ∀ c ∈ choices l p, isFlag c := by
  intro c hc
  rcases List.mem_cons.mp hc with h | h
  · left
    refine hl c ?_
    rw [h, List.getD_eq_getElem?_getD, List.getElem?_eq_getElem (by omega : p - 1 < l.length)]
    exact List.getElem_mem _
  · right
    unfold subs at h
    obtain ⟨n, hn, e⟩ := List.mem_map.mp h
    have := (List.mem_filter.mp hn).1
    simp only [List.mem_cons, List.not_mem_nil, or_false] at this
    unfold isSub
    omega
theorem chOf_ok {ws : List (List Nat)} (ok : WordsOk ws) : ChOk (chOf ws) := by
  refine ⟨by rw [chOf_len]; exact ok.wants, fun cs h => ?_⟩
  obtain ⟨⟨k, p⟩, ht, e⟩ := List.mem_map.mp h
  obtain ⟨w, hw, p1, p2⟩ := wants_mem ht
  have hl := (ok.ok w (List.mem_of_getElem? hw)).2.2
  rw [← e, chAt_eq hw]
  exact ⟨choices_len w p, choices_flags p1 p2 hl⟩
/-- a paper: wants and flags -/
structure LackP (ws : List (List Nat)) (L : Nat → Int) (W : List (Nat × Nat)) (G : List Nat) : Prop where
  ex : ∃ Wi : List Nat, Wi.Pairwise (· < ·) ∧ W.map some = Wi.map (fun i => (wantsOf ws)[i]?) ∧ Lacks (chOf ws) L Wi G
  fl : G = FLl.filter fun c => decide (c ∈ G)
theorem pick_map {α : Type} {t : List α} : ∀ {Wi : List Nat}, (∀ i ∈ Wi, i < t.length) → ∃ W : List α, W.map some = Wi.map fun i => t[i]?
  | [], _ => ⟨[], rfl⟩
  | i :: Wi, h => by
    obtain ⟨W, hW⟩ := pick_map (Wi := Wi) fun j hj => h j (List.mem_cons_of_mem _ hj)
    refine ⟨t[i]'(h i (by simp)) :: W, ?_⟩
    rw [List.map_cons, List.map_cons, hW, List.getElem?_eq_getElem (h i (by simp))]
theorem nodup_take {α : Type} {l : List α} (nd : l.Nodup) {i : Nat} {c : α} (h : l[i]? = some c) : c ∉ l.take i := by
  have n2 : (l.take (i + 1)).Nodup := nd.sublist (List.take_sublist _ _)
  rw [take_snoc h, List.nodup_append] at n2
  intro m
  exact n2.2.2 c m c (by simp) rfl
theorem heldK_congr {ad ad' : Nat → Addr} {l : List Nat} (h : ∀ c ∈ l, ad c = ad' c) : heldK ad l = heldK ad' l := by
  unfold heldK dV
  rw [List.map_map, List.map_map]
  refine List.map_congr_left fun c hc => ?_
  show (kC c, V.ref (ad c)) = (kC c, V.ref (ad' c))
  rw [h c hc]
theorem heldK_put {ad : Nat → Addr} {l : List Nat} {c : Nat} {p : Addr} (h : c ∉ l) : putK (heldK ad l) (kC c) (.ref p) = heldK (fun d => if d = c then p else ad d) (l ++ [c]) := by
  rw [putK_new _ ?_]
  · have e : heldK ad l = heldK (fun d => if d = c then p else ad d) l := heldK_congr fun d hd => by
      rw [if_neg (fun z : d = c => h (z ▸ hd))]
    rw [e]
    unfold heldK dV
    rw [List.map_append, List.map_append]
    congr 1
    show [(kC c, V.ref p)] = [(kC c, V.ref (if c = c then p else ad c))]
    rw [if_pos rfl]
  · unfold heldK
    rw [valV_dV]
    have : (l.map fun c => (c, c)).find? (fun p => decide (p.1 = c)) = none := by
      rw [List.find?_eq_none]
      intro x hx
      obtain ⟨d, hd, rfl⟩ := List.mem_map.mp hx
      intro z
      exact h ((of_decide_eq_true z : d = c) ▸ hd)
    rw [this]
    rfl
theorem rep_flat {α : Type} (x : α) : ∀ n : Nat, (List.replicate n [x]).flatten = List.replicate n x
  | 0 => rfl
  | n + 1 => by
    rw [List.replicate_succ, List.flatten_cons, rep_flat x n]
    rfl
theorem sorted_nat {wants : List Nat} {ns : List Int} (p : ns.Perm (wants.map fun n : Nat => (n : Int))) (r : ns.Pairwise (· ≤ ·)) (nd : wants.Nodup) :
    ∃ Wi : List Nat, ns = Wi.map (fun n : Nat => (n : Int)) ∧ Wi.Perm wants ∧ Wi.Pairwise (· < ·) := by
  have e : ns = (ns.map Int.toNat).map (fun n : Nat => (n : Int)) := by
    rw [List.map_map]
    have : ∀ x ∈ ns, ((fun n : Nat => (n : Int)) ∘ Int.toNat) x = x := fun x hx => by
      obtain ⟨n, _, rfl⟩ := List.mem_map.mp (p.mem_iff.mp hx)
      rfl
    rw [List.map_congr_left this, List.map_id']
  have pw : (ns.map Int.toNat).Perm wants := by
    have := p.map Int.toNat
    rw [List.map_map] at this
    have h2 : wants.map (Int.toNat ∘ fun n : Nat => (n : Int)) = wants := by
      have : ∀ x ∈ wants, (Int.toNat ∘ fun n : Nat => (n : Int)) x = x := fun x _ => by simp
      rw [List.map_congr_left this, List.map_id']
    rw [h2] at this
    exact this
  refine ⟨ns.map Int.toNat, e, pw, ?_⟩
  have n2 : (ns.map Int.toNat).Nodup := pw.nodup_iff.mpr nd
  rw [e, List.pairwise_map] at r
  refine List.Pairwise.imp₂ (fun a b (h1 : (a : Int) ≤ (b : Int)) (h2 : a ≠ b) => by omega) r n2
end Fl

/-! FlComp -/
/-! Rules with the written part named: within a comprehension a reading must not depend on the block. -/
namespace Fl
open PySem L2
section
variable {X : Cx} (K : PySem.W.Frag)
theorem ix_listK (h : X.K = K := by rfl) : IxR X (rIxL K) := by subst h; exact ix_list
theorem ix_tupK (h : X.K = K := by rfl) : IxR X (rIxT K) := by subst h; exact ix_tup
theorem op_in_seqK (h : X.K = K := by rfl) : OpR X (compareOp .In) (rIn K false) := by subst h; exact op_in_seq
theorem op_inDK (hu : X.A.units + 65 < cLine) (h : X.K = K := by rfl) : OpR X (compareOp .In) (rInD K) := by subst h; exact op_inD hu
theorem call_len_seqK (h : X.K = K := by rfl) : CallR X (.builtin "len") (fun xs H Q => ∃ p ys, xs = [.ref p] ∧ (SqL K H p ys ∨ SqT K H p ys) ∧ Q (.int ys.length) H) := by subst h; exact call_len_seq
theorem call_list_ofK (h : X.K = K := by rfl) : CallR X (.type "list") (fun xs H Q => ∃ p ys, xs = [.ref p] ∧ (SqL K H p ys ∨ SqT K H p ys) ∧ ∀ l, H l = none → Q (.ref l) (upd H l (.lst ys))) := by subst h; exact call_list_of
theorem pg_tupK {es : List Expr} {k : Nat} {t : TGs} {n : Nat} {pos : Pos} (hc : X.calm = true) (h : PGs X es t)
    (hn : (assignEach es X.env).length = n := by rfl) (hst : (assignEach es X.env).findIdx? (·.1) = none := by rfl) (e : X.K = K := by rfl) : PG X (.Tuple es k pos) (gTup K n t) := by subst e; exact pg_tup hc h hn hst
end
end Fl

/-! DefLack -/
namespace Fl
open PySem L2
/-- the first def of a class -/
def inCls (s : Stmt) : Stmt := match s with
  | .ClassDef _ _ _ body _ _ _ _ _ _ _ => body.getD 0 s
  | _ => s
section
variable {P : Program} {w : World} {K : PySem.W.Frag} {mg : PySem.Str → Option Value} {base : Heap} {tbs : List (Addr × PySem.Str)}
abbrev s_Lack_init : Stmt := inCls (top 4)
abbrev N_Lack_init : List PySem.Str := ["self", "wants", "flags"]
theorem sc_Lack_init : FnScope N_Lack_init ["self", "wants", "flags"] (defScope s_Lack_init) := ⟨rfl, rfl, rfl, by decide +kernel, rfl, by decide +kernel, by decide +kernel⟩
/-- what the top says of Lack -/
structure LackC (K : PySem.W.Frag) (mg : PySem.Str → Option Value) (C CT : Addr) : Prop where
  oex : OexC K C
  xfc : XfC K C
  nW : PySem.W.findIn K (.ref C) "wants" = some none
  nF : PySem.W.findIn K (.ref C) "flags" = some none
  gm : mg "Lack" = some (.ref C)
  up : UpC K mg "TowerError" CT
  te : PySem.W.exmOne K (.ref C) (.ref C) = some true
def lackX (v1 v2 : V) : HO := .xd [(("flags" : PySem.Str), v2), (("wants" : PySem.Str), v1)]
def spLackInit (C : Addr) : Sp := fun vs H Q _ => ∃ (a : Addr) (v1 v2 : V), vs = [.ref a, v1, v2] ∧ H a = some (exo a C none) ∧
  ∀ dx, H dx = none → dx ≠ a → Q .non (upd (upd (upd H dx (exd dx [(("wants" : PySem.Str), v1)])) a (exo a C (some dx))) dx (exd dx [(("flags" : PySem.Str), v2), (("wants" : PySem.Str), v1)]))
theorem ok_Lack_init {f C CT : Addr} {fd : FuncData} {k : Nat} (Fu : Fun K "__init__" "Lack.__init__" s_Lack_init f fd) (LC : LackC K mg C CT) : FnOk P w K mg base L2.CX0 (k + 1) f fd ["self", "wants", "flags"] (spLackInit C) := by
  refine Fu.ok sc_Lack_init (fun vs H Q E h => ?_) (fun cdv A outer s H vs Q E hr h => ?_)
  · obtain ⟨a, v1, v2, rfl, _⟩ := h
    rfl
  · obtain ⟨a, v1, v2, rfl, ha, q⟩ := h
    refine ⟨_, (pss_cons (ps_expr (pe_upinit LC.up (by rfl) (pa_cons (pv 0) (pa_cons pe_str pa_nil))))
      (pss_cons (ps_ost (pv 0) (pv 1)) (pss_one (ps_ost (pv 0) (pv 2))))), ?_⟩
    refine ⟨_, rfl, a, C, [_], rfl, by decide, LC.oex, ha, ?_⟩
    refine ⟨_, rfl, _, rfl, a, C, rfl, LC.oex, LC.nW, .inl ⟨ha, fun dx nd ne => ?_⟩⟩
    refine ⟨_, rfl, _, rfl, a, C, rfl, LC.oex, LC.nF, .inr ⟨dx, _, upd_same, ?_, (by show 1 ≤ 900; omega), q dx nd ne⟩⟩
    rw [upd_ne ne, upd_same]
/-- the making of a Lack -/
structure LackM (P : Program) (w : World) (K : PySem.W.Frag) (mg : PySem.Str → Option Value) (base : Heap) : Prop where
  ex : ∃ (C CT f : Addr) (fd : FuncData), LackC K mg C CT ∧ FnOk P w K mg base L2.CX0 1 f fd ["self", "wants", "flags"] (spLackInit C) ∧ Binds K fd ["self", "wants", "flags"] [] ∧
    PySem.W.findIn K (.ref C) "__init__" = some (some (.ref f)) ∧ PySem.W.typeIn K (.ref f) = some (.type "function")
theorem lack_heap {H1 : Hp} {a d C : Addr} {v1 v2 : V} (na : H1 a = none) (nd : upd H1 a (exo a C none) d = none) (ne : d ≠ a) :
    upd (del (upd (upd (upd (upd H1 a (exo a C none)) d (exd d [(("wants" : PySem.Str), v1)])) a (exo a C (some d))) d (exd d [(("flags" : PySem.Str), v2), (("wants" : PySem.Str), v1)])) a) d (lackX v1 v2) = upd H1 d (lackX v1 v2) := by
  funext b
  by_cases hd : b = d
  · rw [hd, upd_same, upd_same]
  · rw [upd_ne hd, upd_ne hd]
    by_cases ha : b = a
    · rw [ha, del_same, na]
    · rw [del_ne ha, upd_ne hd, upd_ne ha, upd_ne hd, upd_ne ha]
theorem lack_at {H1 : Hp} {a C : Addr} {v1 v2 : V} {Q : XK} {E : XK} (na : H1 a = none) (q : ∀ d, H1 d = none → Q (.ref C) (some d) (upd H1 d (lackX v1 v2))) :
    spLackInit C [.ref a, v1, v2] (upd H1 a (exo a C none)) (fun v H2 => v = .non ∧ ∃ (d : Addr) (fs : List (PySem.Str × V)), H2 a = some (exo a C (some d)) ∧ H2 d = some (exd d fs) ∧ H1 d = none ∧ Q (.ref C) (some d) (upd (del H2 a) d (.xd fs))) E := by
  refine ⟨a, v1, v2, rfl, upd_same, fun d nd ne => ⟨rfl, d, _, ?_, upd_same, ?_, ?_⟩⟩
  · rw [upd_ne ne.symm, upd_same]
  · rw [upd_ne ne] at nd; exact nd
  · have nd' : H1 d = none := by rw [upd_ne ne] at nd; exact nd
    have e := lack_heap (v1 := v1) (v2 := v2) na nd ne
    unfold lackX at e
    rw [e]
    exact q d nd'
end
end Fl

/-! DefAlong -/
namespace Fl
open PySem L2
/-- what may change: the objects own by a predicate -/
structure Ch (T : List (Addr × PySem.Str)) (own : Addr → Prop) (H H' : Hp) : Prop where
  st : ∀ b o, H b = some o → ¬ own b → H' b = some o
  tb : LamX.Tabs T H → LamX.Tabs T H'
  nn : ∀ b, H' b = none → H b = none
section
variable {T : List (Addr × PySem.Str)} {own : Addr → Prop} {F0 H0 F H H' H'' : Hp}
theorem Ch.rfl' : Ch T own H H := ⟨fun _ _ h _ => h, fun h => h, fun _ h => h⟩
theorem Ch.put (a : Ch T own H H') {p : Addr} {o o' : HO} (e : H' p = some o) (q : Plain o) (w : own p) : Ch T own H (upd H' p o') := by
  refine ⟨fun b u h n => ?_, fun h => tabs_upd (a.tb h) e q, fun b h => ?_⟩
  · rw [upd_ne (fun z => n (by rw [z]; exact w))]
    exact a.st b u h n
  · by_cases z : b = p
    · rw [z, upd_same] at h; cases h
    · rw [upd_ne z] at h
      exact a.nn b h
theorem Fr.ch (a : Fr T F0 H0 F H) (b : Ch T own H H') (h0 : ∀ p, own p → H0 p = none) (hF : ∀ p, own p → F p = none) : Fr T F0 H0 F H' := by
  refine ⟨⟨fun c o h n => b.st c o (a.kp.st c o h n) fun z => ?_, fun h => b.tb (a.kp.tb h), fun c h => a.kp.nn c (b.nn c h)⟩, fun c o h => b.st c o (a.fh c o h) fun z => ?_, a.ff, a.nf⟩
  · rw [h0 c z] at h; cases h
  · rw [hF c z] at h; cases h
end
theorem ixn {n j : Nat} (hj : j < n) : ixN n (j : Int) = some j := by
  unfold ixN
  rw [if_pos (by omega), if_pos (by omega)]
  simp
theorem erase_map {α β : Type} (f : α → β) : ∀ (l : List α) (j : Nat), (l.map f).eraseIdx j = (l.eraseIdx j).map f
  | [], j => by simp
  | a :: r, 0 => by simp
  | a :: r, j + 1 => by
    have ih := erase_map f r j
    simp [ih]
theorem erase_at {w : Nat} : ∀ {l : List Nat}, w ∈ l → ∃ j : Nat, l[j]? = some w ∧ (∀ m : Nat, m < j → l[m]? ≠ some w) ∧ l.eraseIdx j = l.erase w
  | [], h => by cases h
  | a :: l, h => by
    by_cases e : a = w
    · subst e
      exact ⟨0, rfl, fun m h => absurd h (Nat.not_lt_zero m), by simp⟩
    · rcases List.mem_cons.mp h with z | z
      · exact absurd z.symm e
      · obtain ⟨j, h1, h2, h3⟩ := erase_at z
        refine ⟨j + 1, h1, fun m hm => ?_, ?_⟩
        · cases m with
          | zero => intro y; exact e (Option.some.inj y)
          | succ m => exact h2 m (by omega)
        · rw [List.eraseIdx_cons_succ, List.erase_cons, if_neg (by simpa using e), h3]
/-- a flag or none -/
def oV : Option Nat → V
  | none => .non
  | some c => .str (chr c)
section
variable {P : Program} {w : World} {K : PySem.W.Frag} {mg : PySem.Str → Option Value} {base : Heap} {tbs : List (Addr × PySem.Str)}
abbrev s_hang_along : Stmt := top 19
abbrev N_hang_along : List PySem.Str := ["came", "held", "hung", "flag", "want", "before"]
theorem sc_hang_along : FnScope N_hang_along ["came", "held", "hung", "flag"] (defScope s_hang_along) := ⟨rfl, rfl, rfl, by decide +kernel, rfl, by decide +kernel, by decide +kernel⟩
def ownA (ad : Nat → Addr) (du : Addr) (p : Addr) : Prop := p = du ∨ ∃ c, isFlag c ∧ p = ad c
def spAlong (tbs : List (Addr × PySem.Str)) : Sp := fun vs H Q _ => ∃ (dc dh du : Addr) (ch : List (List Nat)) (L : Nat → Int) (ad : Nat → Addr) (held : Nat → List Nat) (hung : List (Option Nat)) (came : List (Nat × Nat)) (start f : Nat) (ws : List Nat),
  vs = [.ref dc, .ref dh, .ref du, .str (chr f)] ∧ ChOk ch ∧ H dc = some (.dK (dV nV came)) ∧ H dh = some (.dK (heldK ad FLl)) ∧ H du = some (.lst (hung.map oV)) ∧ (∀ c, isFlag c → H (ad c) = some (.lst ((held c).map nV))) ∧
  (∀ c d, isFlag c → isFlag d → ad c = ad d → c = d) ∧ (∀ c, isFlag c → ad c ≠ du) ∧ Mt ch L held hung start ∧ start < ch.length ∧ Chain ch (look came) hung start f ws ∧ ((held f).length : Int) < L f ∧
  (∀ H' held' hung', Ch tbs (ownA ad du) H H' → Mt ch L held' hung' (start + 1) → H' du = some (.lst (hung'.map oV)) → (∀ c, isFlag c → H' (ad c) = some (.lst ((held' c).map nV))) → Q .non H')
theorem ok_hang_along {f : Addr} {fd : FuncData} {k : Nat} (Fu : Fun K "hang_along" "hang_along" s_hang_along f fd) (T : Txt K mg) : FnOk P w K mg base L2.CX0 (k + 1) f fd ["came", "held", "hung", "flag"] (spAlong tbs) := by
  refine Fu.ok sc_hang_along (fun vs H Q E h => ?_) (fun cdv A outer s H vs Q E hr h => ?_)
  · obtain ⟨dc, dh, du, ch, L, ad, held, hung, came, start, f, ws, rfl, _⟩ := h
    rfl
  · obtain ⟨dc, dh, du, ch, L, ad, held, hung, came, start, f, ws, rfl, ok, hdc, hdh, hdu, hls, inj, nad, M, hst, C, room, q⟩ := h
    have hu := hu_of hr
    refine ⟨_, 
      (pss_one (ps_while PassesOwn.never (pt_cmpR op_notN (pv 3) pe_non (nomark _))
        (pss_cons (ps_set (i := 4) sc_hang_along.nd rfl (Or.inl rfl) (pe_dget hu (pv 0) (pv 3) (fun _ _ => rfl)))
        (pss_cons (ps_set (i := 5) sc_hang_along.nd rfl (Or.inl rfl) (pe_ix ix_list (pv 2) (pv 4) (fun _ _ => rfl)))
        (pss_cons (ps_expr (pe_bm PySem.F.plainAttrs_list PySem.F.slot_list_append PySem.F.type_list_append mt_append (pe_dget hu (pv 1) (pv 3) (fun _ _ => rfl)) (pa_cons (pv 4) pa_nil)))
        (pss_cons (ps_asg (pv 3) (pg_sub (pv 2) (pv 4) set_list))
        (pss_cons (ps_if (pt_cmpR op_notN (pv 5) pe_non (nomark _))
          (pss_one (ps_expr (pe_bm PySem.F.plainAttrs_list PySem.F.slot_list_remove PySem.F.type_list_remove mt_remove (pe_dget hu (pv 1) (pv 5) (fun _ _ => rfl)) (pa_cons (pv 4) pa_nil)))) pss_nil)
        (pss_one (ps_set (i := 3) sc_hang_along.nd rfl (Or.inl rfl) (pv 5)))))))))), ?_⟩
    let W : Nat → L2.St → Hp → Prop := fun m σ H' => ∃ held hung fo v4 v5, σ = [some (.ref dc), some (.ref dh), some (.ref du), some (oV fo), v4, v5] ∧ Ch tbs (ownA ad du) H H' ∧ H' du = some (.lst (hung.map oV)) ∧ (∀ c, isFlag c → H' (ad c) = some (.lst ((held c).map nV))) ∧
      (match fo with
        | none => Mt ch L held hung (start + 1)
        | some f => ∃ ws, Mt ch L held hung start ∧ Chain ch (look came) hung start f ws ∧ ((held f).length : Int) < L f ∧ ws.length = m)
    refine ⟨W, ⟨ws.length, held, hung, some f, none, none, rfl, .rfl', hdu, hls, ws, M, C, room, rfl⟩, ?_⟩
    rintro m σ H' ⟨held, hung, fo, v4, v5, rfl, cc, hdu', hls', st⟩
    cases fo with
    | none =>
      refine ⟨_, rfl, rfl, _, rfl, iteF ?_⟩
      exact q _ held hung cc st hdu' hls'
    | some f =>
      obtain ⟨ws, M, C, room, rfl⟩ := st
      have hcf : ∀ {w : Nat} {cs : List Nat} {g : Nat}, ch[w]? = some cs → g ∈ cs → isFlag g := fun h m => keys_flags ok h _ m
      have obj : ∀ (b : Addr) (o : HO), H b = some o → H' b ≠ none := fun b o h z => by rw [cc.nn b z] at h; cases h
      have odu : ownA ad du du := .inl rfl
      have nown : ∀ (b : Addr) (o : HO), H b = some o → (∀ xs, o ≠ .lst xs) → ¬ ownA ad du b := fun b o h n z => by
        rcases z with z | ⟨c, hc, z⟩
        · rw [z, hdu] at h; exact n _ (Option.some.inj h).symm
        · rw [z, hls c hc] at h; exact n _ (Option.some.inj h).symm
      have hdc' := cc.st _ _ hdc (nown _ _ hdc fun _ z => nomatch z)
      have hdh' := cc.st _ _ hdh (nown _ _ hdh fun _ z => nomatch z)
      have hcl : ∀ c, (held c).length ≤ 56 := fun c => Nat.le_trans (nodup_len_le (M.nd c) fun x hx => M.lt hx) ok.few
      have gcame : ∀ {w : Nat}, look came f = some w → DGet H' dc (V.str (chr f)) (some (nV w)) := fun h => by
        have g := DGet.k (k := kC f) hdc'
        rw [came_get, h] at g
        exact g
      cases C with
      | @base _ cs c1 c2 c3 =>
        have ff := hcf c2 c3
        have gh := DGet.k (k := kC f) hdh'
        rw [held_get ad (fll_mem.mpr ff)] at gh
        have hn : hung[start]? = some none := M.rest start (Nat.le_refl _) hst
        refine ⟨_, rfl, rfl, _, rfl, iteT ?_⟩
        refine ⟨fun σ' H2 => W 0 σ' H2, fun σ' H2 h => ⟨0, by show 0 < 1; omega, h⟩, ?_⟩
        refine ⟨_, rfl, _, rfl, dc, _, rfl, gcame c1, _, rfl, _, rfl, du, _, _, .non, rfl, rfl, SqL.of hdu', at_of rfl (by rw [List.getElem?_map, hn]; rfl), ?_⟩
        refine ⟨_, rfl, _, rfl, dh, _, rfl, gh, .inl ⟨rfl, _, SqL.of (hls' f ff)⟩, _, rfl, ad f, _, _, rfl, rfl, hls' f ff, ?_, ?_⟩
        · rw [List.length_map]
          exact smallK (by have := hcl f; omega)
        have hdu2 : upd H' (ad f) (.lst ((held f).map nV ++ [nV start])) du = some (.lst (hung.map oV)) := by rw [upd_ne (nad f ff).symm]; exact hdu'
        refine ⟨_, rfl, _, rfl, _, rfl, du, _, _, start, rfl, rfl, hdu2, ixn (by rw [List.length_map, M.len]; exact hst), ?_⟩
        refine ⟨_, rfl, rfl, _, rfl, iteF ?_⟩
        refine ⟨_, rfl, upF held f (held f ++ [start]), hung.set start (some f), none, _, _, rfl, ?_, ?_, ?_, M.last c2 c3 room⟩
        · exact (cc.put (hls' f ff) trivial (.inr ⟨f, ff, rfl⟩)).put hdu2 trivial odu
        · rw [upd_same, List.map_set]
        · intro c hc
          rw [upd_ne (nad c hc)]
          by_cases e : c = f
          · subst e
            rw [upd_same, upF_same, List.map_append]
            rfl
          · rw [upd_ne (fun z => e (inj _ _ hc ff z)), upF_ne e]
            exact hls' c hc
      | @step _ g w cs ws c1 c2 c3 c4 c5 c6 c7 =>
        have ff := hcf c2 c3
        have gf : isFlag g := by
          obtain ⟨cs', e1, e2⟩ := M.inc w g c4
          exact hcf e1 e2
        have gh := DGet.k (k := kC f) hdh'
        rw [held_get ad (fll_mem.mpr ff)] at gh
        have hw : w < ch.length := (List.getElem?_eq_some_iff.mp c2).1
        obtain ⟨M2, room2⟩ := M.swap c2 c3 c4 c5 room
        refine ⟨_, rfl, rfl, _, rfl, iteT ?_⟩
        refine ⟨fun σ' H2 => W ws.length σ' H2, fun σ' H2 h => ⟨ws.length, by show ws.length < ws.length + 1; omega, h⟩, ?_⟩
        refine ⟨_, rfl, _, rfl, dc, _, rfl, gcame c1, _, rfl, _, rfl, du, _, _, .str (chr g), rfl, rfl, SqL.of hdu', at_of rfl (by rw [List.getElem?_map, c4]; rfl), ?_⟩
        refine ⟨_, rfl, _, rfl, dh, _, rfl, gh, .inl ⟨rfl, _, SqL.of (hls' f ff)⟩, _, rfl, ad f, _, _, rfl, rfl, hls' f ff, ?_, ?_⟩
        · rw [List.length_map]
          exact smallK (by have := hcl f; omega)
        have hdu2 : upd H' (ad f) (.lst ((held f).map nV ++ [nV w])) du = some (.lst (hung.map oV)) := by rw [upd_ne (nad f ff).symm]; exact hdu'
        refine ⟨_, rfl, _, rfl, _, rfl, du, _, _, w, rfl, rfl, hdu2, ixn (by rw [List.length_map, M.len]; exact hw), ?_⟩
        refine ⟨_, rfl, rfl, _, rfl, iteT ?_⟩
        have cc2 := (cc.put (hls' f ff) trivial (.inr ⟨f, ff, rfl⟩)).put (o' := .lst ((hung.map oV).set w (oV (some f)))) hdu2 trivial odu
        have ngf : ad g ≠ ad f := fun z => c5 (inj _ _ gf ff z).symm
        have hg2 : upd (upd H' (ad f) (.lst ((held f).map nV ++ [nV w]))) du (.lst ((hung.map oV).set w (oV (some f)))) (ad g) = some (.lst ((held g).map nV)) := by
          rw [upd_ne (nad g gf), upd_ne ngf]
          exact hls' g gf
        have hdh2 := cc2.st _ _ hdh (nown _ _ hdh fun _ z => nomatch z)
        have gh2 := DGet.k (k := kC g) hdh2
        rw [held_get ad (fll_mem.mpr gf)] at gh2
        obtain ⟨j, j1, j2, j3⟩ := erase_at ((M.hh w g).mpr c4)
        have mapI : ∀ l : List Nat, l.map nV = (l.map fun n : Nat => (n : Int)).map V.int := fun l => by rw [List.map_map]; rfl
        refine ⟨_, rfl, _, rfl, dh, _, rfl, gh2, .inl ⟨rfl, _, SqL.of hg2⟩, _, rfl, ad g, (held g).map (fun n : Nat => (n : Int)), w, j, rfl, rfl, ?_, ?_, ?_, ?_⟩
        · rw [← mapI]; exact hg2
        · rw [List.getElem?_map, j1]; rfl
        · intro m hm z
          rw [List.getElem?_map] at z
          cases hv : (held g)[m]? with
          | none => rw [hv] at z; cases z
          | some v =>
            rw [hv] at z
            have e : (v : Int) = (w : Int) := Option.some.inj z
            exact j2 m hm (by rw [hv]; congr 1; omega)
        refine ⟨_, rfl, _, hung.set w (some f), some g, _, _, rfl, ?_, ?_, ?_, ws, M2, c6.set c7, ?_, rfl⟩
        · exact cc2.put hg2 trivial (.inr ⟨g, gf, rfl⟩)
        · rw [upd_ne (nad g gf).symm, upd_same, List.map_set]
        · intro c hc
          by_cases e : c = g
          · subst e
            rw [upd_same, upF_same, erase_map, j3, ← mapI]
          · rw [upd_ne (fun z => e (inj _ _ hc gf z)), upF_ne e, upd_ne (nad c hc)]
            by_cases e2 : c = f
            · subst e2
              rw [upd_same, upF_same, List.map_append]
              rfl
            · rw [upd_ne (fun z => e2 (inj _ _ hc ff z)), upF_ne e2]
              exact hls' c hc
        · rw [upF_same]; exact room2
end
end Fl

/-! DefHangAll -/
namespace Fl
open PySem L2
section
variable {P : Program} {w : World} {K : PySem.W.Frag} {mg : PySem.Str → Option Value} {base : Heap} {tbs : List (Addr × PySem.Str)}
/-- the objects that the hanging changes -/
structure HangSt (T : List (Addr × PySem.Str)) (F0 H0 F H : Hp) (dh du : Addr) (ad : Nat → Addr) (held : Nat → List Nat) (hung : List (Option Nat)) : Prop where
  fr : Fr T F0 H0 F H
  odh : Own H0 F H dh (.dK (heldK ad FLl))
  odu : Own H0 F H du (.lst (hung.map oV))
  ols : ∀ c, isFlag c → Own H0 F H (ad c) (.lst ((held c).map nV))
  inj : ∀ c d, isFlag c → isFlag d → ad c = ad d → c = d
  nad : ∀ c, isFlag c → ad c ≠ du
theorem HangSt.call {F0 H0 F H F' H' : Hp} {dh du : Addr} {ad : Nat → Addr} {held : Nat → List Nat} {hung : List (Option Nat)} (S : HangSt tbs F0 H0 F H dh du ad held hung) (b : Fr tbs F H F' H') : HangSt tbs F0 H0 F' H' dh du ad held hung :=
  ⟨S.fr.trans b, S.odh.call ntb_dK b, S.odu.call ntb_lst b, fun c hc => (S.ols c hc).call ntb_lst b, S.inj, S.nad⟩
theorem HangSt.ch {F0 H0 F H H' : Hp} {dh du : Addr} {ad : Nat → Addr} {held held' : Nat → List Nat} {hung hung' : List (Option Nat)} (S : HangSt tbs F0 H0 F H dh du ad held hung) (b : Ch tbs (ownA ad du) H H')
    (hu : H' du = some (.lst (hung'.map oV))) (hl : ∀ c, isFlag c → H' (ad c) = some (.lst ((held' c).map nV))) : HangSt tbs F0 H0 F H' dh du ad held' hung' := by
  have o0 : ∀ p, ownA ad du p → H0 p = none ∧ F p = none := fun p z => by
    rcases z with z | ⟨c, hc, z⟩
    · rw [z]; exact ⟨S.odu.h0, S.odu.f⟩
    · rw [z]; exact ⟨(S.ols c hc).h0, (S.ols c hc).f⟩
  refine ⟨S.fr.ch b (fun p z => (o0 p z).1) (fun p z => (o0 p z).2), ⟨b.st _ _ S.odh.at_ fun z => ?_, S.odh.h0, S.odh.f⟩, ⟨hu, S.odu.h0, S.odu.f⟩, fun c hc => ⟨hl c hc, (S.ols c hc).h0, (S.ols c hc).f⟩, S.inj, S.nad⟩
  rcases z with z | ⟨c, hc, z⟩
  · have := S.odh.at_
    rw [z, S.odu.at_] at this
    cases this
  · have := S.odh.at_
    rw [z, (S.ols c hc).at_] at this
    cases this
abbrev s_hang_all : Stmt := top 20
abbrev N_hang_all : List PySem.Str := ["locker", "words", "wants", "choices", "held", "flag", "hung", "start", "came", "some", "number", "place", "want", "one"]
theorem sc_hang_all : FnScope N_hang_all ["locker", "words"] (defScope s_hang_all) := ⟨rfl, rfl, rfl, by decide +kernel, rfl, by decide +kernel, by decide +kernel⟩
def spHangAll (tbs : List (Addr × PySem.Str)) (C : Addr) : Sp := fun vs H Q E => ∃ (F : Hp) (v u : V) (kvs : List (Nat × Int)) (ws : List (List Nat)), L2.Same F H ∧ vs = [v, u] ∧ rD F v kvs ∧ rL rW F u ws ∧ WordsOk ws ∧ (∀ c, 0 ≤ lk kvs c) ∧
  (∀ g, Hangs (chOf ws) (lk kvs) g → Pf tbs F H Q (rL (rL rC)) (cutBy ws g)) ∧
  (∀ F' H' d v1 v2 W G, Fr tbs F H F' H' → H' d = none → rL rWant F' v1 W → rL rC F' v2 G → LackP ws (lk kvs) W G → E (.ref C) (some d) (upd H' d (lackX v1 v2)))
theorem ok_hang_all {f : Addr} {fd : FuncData} {C CT fLi : Addr} {fdLi : FuncData} (Fu : Fun K "hang_all" "hang_all" s_hang_all f fd) (T : Txt K mg) (LC : LackC K mg C CT) (F_Li : FnOk P w K mg base L2.CX0 1 fLi fdLi ["self", "wants", "flags"] (spLackInit C)) (b_Li : Binds K fdLi ["self", "wants", "flags"] [])
    (iC : PySem.W.findIn K (.ref C) "__init__" = some (some (.ref fLi))) (tI : PySem.W.typeIn K (.ref fLi) = some (.type "function"))
    (C_wants_of : Cf P w K mg base 1 "wants_of" (spWantsOf tbs)) (C_choices_at : Cf P w K mg base 1 "choices_at" (spChoicesAt tbs)) (C_reach_from : Cf P w K mg base 1 "reach_from" (spReach tbs)) (C_hang_along : Cf P w K mg base 1 "hang_along" (spAlong tbs)) (C_hoists_of : Cf P w K mg base 1 "hoists_of" (spHoistsOf tbs)) :
    FnOk P w K mg base (L2.CX P w) 3 f fd ["locker", "words"] (spHangAll tbs C) := by
  refine Fu.okX sc_hang_all (fun vs H Q E h => ?_) (fun cdv A outer s H vs Q E hr h => ?_)
  · obtain ⟨F, v, u, kvs, ws, _, rfl, _⟩ := h
    rfl
  · obtain ⟨F, v, u, kvs, ws, sm, rfl, hlo, hw, ok, pos, q, qE⟩ := h
    have hu := hu_of hr
    obtain ⟨al, rfl, hal⟩ := hlo
    obtain ⟨bw, rfl, hbw⟩ := rL_W hw
    refine ⟨_, 
      (pss_cons (ps_set (i := 2) sc_hang_all.nd rfl (Or.inr rfl) (pe_cf C_wants_of hr (by decide) (by rfl) (pa_cons (pv 1) pa_nil)))
      (pss_cons (ps_setLc (i := 3) (own := ([("number", 10), ("place", 11)] : List (PySem.Str × Nat))) rfl sc_hang_all.nd rfl rfl (sw_true rfl rfl rfl (by decide +kernel)) (pi_list (pv 2)) (blkOk_by (own := ([("number", 10), ("place", 11)] : List (PySem.Str × Nat))) (N := N_hang_all) (sc := defScope s_hang_all) (by decide +kernel)) (fun _ _ _ _ _ => (pg_tupK K (n := 2) rfl (pgs_cons (pg_name (i := 10) sc_hang_all.nd rfl (Or.inl rfl)) (pgs_cons (pg_name (i := 11) sc_hang_all.nd rfl (Or.inl rfl)) pgs_nil)))) (fun _ _ _ _ _ => pts_nil) (fun _ _ _ _ _ => (pe_cf C_choices_at hr (by decide) (by rfl) (pa_cons (pe_ix (ix_listK K) (pv 1) (pv 10) (fun _ _ => rfl)) (pa_cons (pv 11) pa_nil)))))
      (pss_cons (ps_set (i := 4) sc_hang_all.nd rfl (Or.inl rfl) pe_dnewK)
      (pss_cons (ps_for (passes_of rfl) rfl (pi_str (pe_gk rfl T.mFLAGS)) (pg_name (i := 5) sc_hang_all.nd rfl (Or.inl rfl))
        (pss_one (ps_dput hu (pv 4) (pv 5) (pe_lst pa_nil) rfl)))
      (pss_cons (ps_set (i := 6) sc_hang_all.nd rfl (Or.inl rfl) (pe_op op_rep (pe_lst (pa_cons pe_non pa_nil)) (pe_callB call_len_seq (by rfl) T.b_len PySem.boot_len (pa_cons (pv 2) pa_nil))))
      (pss_cons (ps_for (passes_of rfl) rfl (pi_range1 (by rfl) T.b_range (pa_cons (pe_callB call_len_seq (by rfl) T.b_len PySem.boot_len (pa_cons (pv 2) pa_nil)) pa_nil)) (pg_name (i := 7) sc_hang_all.nd rfl (Or.inl rfl))
        (pss_cons (ps_asg (pe_cf C_reach_from hr (by decide) (by rfl) (pa_cons (pv 3) (pa_cons (pv 4) (pa_cons (pv 0) (pa_cons (pv 7) pa_nil))))) (pg_tup rfl (pgs_cons (pg_name (i := 8) sc_hang_all.nd rfl (Or.inr rfl)) (pgs_cons (pg_name (i := 9) sc_hang_all.nd rfl (Or.inl rfl)) (pgs_cons (pg_name (i := 5) sc_hang_all.nd rfl (Or.inl rfl)) pgs_nil)))))
        (pss_cons (ps_if (pt_cmpR op_isN (pv 5) pe_non (nomark _))
          (pss_one (ps_raise rfl (takes_of rfl rfl rfl rfl) (pmk_oex LC.oex iC tI F_Li hr b_Li .nil L2.pass0 (by rfl) LC.gm (pa_cons (pe_lc (own := ([("want", 12)] : List (PySem.Str × Nat))) rfl sc_hang_all.nd (pi_list (pe_callB cr_sortedI (by rfl) T.b_sorted (by decide +kernel) (pa_cons (pv 9) pa_nil))) (blkOk_by (own := ([("want", 12)] : List (PySem.Str × Nat))) (N := N_hang_all) (sc := defScope s_hang_all) (by decide +kernel)) (fun _ _ _ _ _ => (pg_name (i := 12) sc_hang_all.nd rfl (Or.inl rfl))) (fun _ _ _ _ _ => pts_nil) (fun _ _ _ _ _ => (pe_ix (ix_listK K) (pv 2) (pv 12) (fun _ _ => rfl)))) (pa_cons (pe_lc (own := ([("one", 13)] : List (PySem.Str × Nat))) rfl sc_hang_all.nd (pi_str (pe_gk rfl T.mFLAGS)) (blkOk_by (own := ([("one", 13)] : List (PySem.Str × Nat))) (N := N_hang_all) (sc := defScope s_hang_all) (by decide +kernel)) (fun _ _ _ _ _ => (pg_name (i := 13) sc_hang_all.nd rfl (Or.inl rfl))) (fun _ _ _ _ _ => (pts_one (pt_cmp (pc_din hu (pv 13) (pv 8))))) (fun _ _ _ _ _ => (pv 13))) pa_nil))))) pss_nil)
        (pss_one (ps_expr (pe_cf C_hang_along hr (by decide) (by rfl) (pa_cons (pv 8) (pa_cons (pv 4) (pa_cons (pv 6) (pa_cons (pv 5) pa_nil))))))))))
      (pss_one (ps_ret (pe_cf C_hoists_of hr (by decide) (by rfl) (pa_cons (pv 1) (pa_cons (pv 6) pa_nil))))))))))), ?_⟩
    -- wants
    refine ⟨_, rfl, F, _, ws, sm, rfl, hw, ok, fun F1 H1 v1 fr1 hv1 => ?_⟩
    obtain ⟨aw, xw, rfl, haw, alw⟩ := hv1
    have h56 := ok.wants
    have lw := alw.len
    -- choices
    refine ⟨_, rfl, aw, rfl, ⟨_, SqL.of (fr1.fh _ _ haw)⟩, fun D nD => lc_list (K := K) (a := aw) (xs := xw) (fun i H' => ∃ F' xs, Fr tbs F1 H1 F' H' ∧ Own H1 F' H' D (.lst xs) ∧ Al (rL rC F') xs ((chOf ws).take i)) ?_ ?_ ?_ ?_⟩
    · exact ⟨F1, [], (Fr.begin fr1.fh).new nD, (Fr.begin (T := tbs) fr1.fh).own nD, by rw [List.take_zero]; trivial⟩
    · rintro i H' _ ⟨F', xs, fr, _⟩
      exact SqL.of (fr.fh _ _ (fr.ff _ _ haw))
    · rintro i x H' hx ⟨F', xs, fr, ow, alc⟩
      obtain ⟨⟨n, p⟩, ht, t, y1, y2, rfl, hxt, e1, e2⟩ := alw.get hx
      obtain rfl : y1 = nV n := e1
      obtain rfl : y2 = nV p := e2
      obtain ⟨w0, hw0, p1, p2⟩ := wants_mem (List.mem_of_getElem? ht)
      refine ⟨t, _, rfl, SqT.of (fr.fh _ _ (fr.ff _ _ hxt)), rfl, _, _, rfl, _, _, rfl, rfl, ?_⟩
      refine ⟨rfl, ?_⟩
      have hbw' := fr.fh _ _ (fr.ff _ _ (fr1.ff _ _ hbw))
      have wl := (ok.ok w0 (List.mem_of_getElem? hw0)).2.1
      refine ⟨_, rfl, _, rfl, bw, _, _, .str (wd w0), rfl, rfl, SqL.of hbw', at_of rfl (by rw [List.getElem?_map, hw0]; rfl), _, rfl, F', w0, p, fr.fh, rfl, p1, p2, by omega, fun F2 H2 v2 fr2 hv2 => ?_⟩
      have ow2 := ow.call ntb_lst fr2
      have hch : (chOf ws)[i]? = some (choices w0 p) := by
        unfold chOf
        rw [List.getElem?_map, ht]
        exact congrArg some (chAt_eq hw0)
      refine ⟨xs, ow2.at_, ?_, F2, xs ++ [v2], (fr.trans fr2).put ow2 trivial, ow2.put, ?_⟩
      · rw [alc.len, List.length_take]
        exact small1000 (by rw [chOf_len]; omega)
      · rw [take_snoc hch]
        exact ((mo_L mo_C).al fr2.ff alc).snoc hv2
    · rintro H2 ⟨F', xc, fr2, owD, alc⟩
      rw [lw, ← chOf_len, List.take_length] at alc
      have fr3 := fr1.trans (fr2.freeze owD)
      have hch : rL (rL rC) (upd F' D (.lst xc)) (.ref D) (chOf ws) := ⟨D, xc, rfl, upd_same, (mo_L mo_C).al (same_upd owD.f) alc⟩
      have s13 : L2.Same F1 (upd F' D (.lst xc)) := fr2.ff.trans (same_upd owD.f)
      generalize hF3 : upd F' D (.lst xc) = F3 at fr3 hch s13
      have haw3 : F3 aw = some (.lst xw) := by
        rw [← hF3, upd_ne (ne_of_none (fr2.ff _ _ haw) owD.f)]
        exact fr2.ff _ _ haw
      have chok := chOf_ok ok
      -- held
      refine fun dh ndh => ?_
      have fr4 := fr3.new (o := .dK []) ndh
      have ow4 := fr3.own (o := .dK []) ndh
      refine ⟨_, rfl, for_it walk_str (fun i σ H' => ∃ ad v5, σ = [some (.ref al), some (.ref bw), some (.ref aw), some (.ref D), some (.ref dh), v5, none, none, none, none, none, none, none, none] ∧ Fr tbs F H F3 H' ∧ Own H F3 H' dh (.dK (heldK ad (FLl.take i))) ∧
        (∀ c ∈ FLl.take i, Own H F3 H' (ad c) (.lst [])) ∧ (∀ c d, c ∈ FLl.take i → d ∈ FLl.take i → ad c = ad d → c = d)) ?_ (fun _ _ _ _ _ => trivial) ?_ ?_⟩
      · exact ⟨fun _ => 0, none, rfl, fr4, ow4, (fun c hc => by rw [List.take_zero] at hc; cases hc), fun c d hc => by rw [List.take_zero] at hc; cases hc⟩
      · rintro i x σ H' H'' hi ⟨ad, v5, rfl, fr, owh, ols, inj⟩ ⟨rfl, c, hc, rfl⟩
        have hc' : FLl[i]? = some c := by
          show FLG.cps.toList[i]? = some c
          rw [Array.getElem?_toList]
          exact hc
        have ts := take_snoc hc'
        have nc : c ∉ FLl.take i := nodup_take fll_nodup hc'
        refine ⟨Nat.zero_le _, fun p np => ?_⟩
        have owh2 := owh.new (o' := .lst []) np
        refine ⟨_, rfl, _, rfl, dh, _, rfl, DPut.k (k := kC c) owh2.at_ ?_, ?_⟩
        · unfold heldK dV
          rw [List.length_map, List.length_map, List.length_take]
          have h27 : FLl.length = 27 := rfl
          exact small1000 (by omega)
        · rw [heldK_put nc, ← ts]
          have fr2 := (fr.new (o := .lst []) np).put (o' := .dK (heldK (fun d => if d = c then p else ad d) (FLl.take (i + 1)))) owh2 trivial
          have nph : p ≠ dh := fun z => by rw [z, owh.at_] at np; cases np
          refine ⟨fun d => if d = c then p else ad d, _, rfl, fr2, owh2.put, fun d hd => ?_, fun d e hd he z => ?_⟩
          · rw [ts, List.mem_append, List.mem_singleton] at hd
            show Own H F3 _ (if d = c then p else ad d) _
            by_cases hdc : d = c
            · rw [if_pos hdc]
              exact (fr.own (o := .lst []) np).other nph
            · rw [if_neg hdc]
              rcases hd with hd | hd
              · refine ((ols d hd).new np).other fun z => ?_
                have := (ols d hd).at_
                rw [z, owh.at_] at this
                cases this
              · exact absurd hd hdc
          · rw [ts, List.mem_append, List.mem_singleton] at hd he
            have z : (if d = c then p else ad d) = (if e = c then p else ad e) := z
            have old : ∀ x, x ∈ FLl.take i → ad x ≠ p := fun x hx y => by
              have := (ols x hx).at_
              rw [y, np] at this
              cases this
            by_cases hdc : d = c
            · by_cases hec : e = c
              · rw [hdc, hec]
              · rw [if_pos hdc, if_neg hec] at z
                exact absurd z.symm (old e (he.resolve_right hec))
            · by_cases hec : e = c
              · rw [if_neg hdc, if_pos hec] at z
                exact absurd z (old d (hd.resolve_right hdc))
              · rw [if_neg hdc, if_neg hec] at z
                exact inj d e (hd.resolve_right hdc) (he.resolve_right hec) z
      · rintro σ H' ⟨ad, v5, rfl, fr, owh, ols, inj⟩
        have eF : FLl.take FLG.cps.size = FLl := rfl
        rw [eF] at owh ols inj
        -- hung
        refine ⟨small7 (by show 1 ≤ 7; omega), fun p0 np0 => ?_⟩
        have haw4 : upd H' p0 (.lst [V.non]) aw = some (.lst xw) := (fr.new np0).fh _ _ haw3
        refine ⟨_, rfl, aw, _, rfl, .inl (SqL.of haw4), p0, _, _, rfl, rfl, upd_same, by omega, by omega, ?_, fun du ndu => ?_⟩
        · show 1 * _ ≤ sizeLine
          exact smallK (by omega)
        have ehung : (List.replicate ((xw.length : Nat) : Int).toNat [V.non]).flatten = (List.replicate (chOf ws).length (none : Option Nat)).map oV := by
          rw [rep_flat, List.map_replicate, chOf_len, ← lw]
          rfl
        rw [ehung]
        have nad : ∀ c, isFlag c → ad c ≠ du := fun c hc z => by
          have := ((ols c (fll_mem.mpr hc)).new (o' := .lst [V.non]) np0).at_
          rw [z, ndu] at this
          cases this
        have S0 : HangSt tbs F H F3 (upd (upd H' p0 (.lst [V.non])) du (.lst ((List.replicate (chOf ws).length (none : Option Nat)).map oV))) dh du ad (fun _ => []) (List.replicate (chOf ws).length none) :=
          ⟨(fr.new np0).new ndu, (owh.new np0).new ndu, (fr.new np0).own ndu, fun c hc => ((ols c (fll_mem.mpr hc)).new np0).new ndu, fun c d hc hd => inj c d (fll_mem.mpr hc) (fll_mem.mpr hd), nad⟩
        have hlen : xw.length = (chOf ws).length := by rw [lw, chOf_len]
        -- the loop over the wants
        refine ⟨_, rfl, aw, xw, rfl, .inl (SqL.of (S0.fr.fh _ _ haw3)), _, rfl, by omega, by omega, ?_⟩
        refine for_range (lo := 0) (fun j σ H' => ∃ F' held hung v5 v7 v8 v9, σ = [some (.ref al), some (.ref bw), some (.ref aw), some (.ref D), some (.ref dh), v5, some (.ref du), v7, v8, v9, none, none, none, none] ∧
          HangSt tbs F H F' H' dh du ad held hung ∧ L2.Same F3 F' ∧ Mt (chOf ws) (lk kvs) held hung j) ?_ ?_ ?_
        · exact ⟨F3, _, _, v5, none, none, none, rfl, S0, .refl _, Mt.zero pos⟩
        · rintro j σ H5 hj ⟨F', held, hung, v5, v7, v8, v9, rfl, S, s3, M⟩
          have hj : j < (chOf ws).length := by
            have : j < xw.length := by simpa using hj
            omega
          have e0 : V.int (0 + (j : Int)) = nV j := by rw [Int.zero_add]
          rw [e0]
          have hwa : L2.Same F F' := S.fr.ff
          refine ⟨_, rfl, _, rfl, _, rfl, _, rfl, F', _, _, dh, chOf ws, ad, held, hung, kvs, j, S.fr.fh, rfl, (mo_L (mo_L mo_C)).up s3 hch, ⟨al, rfl, hwa _ _ hal⟩, chok, S.odh.at_, fun c hc => (S.ols c hc).at_, M, hj, ?_, ?_⟩
          · -- too few flags
            intro F2 H2 p dc dw came wants fr2 hp hdc hdw hkf hlk
            have S2 := S.call fr2
            have nw := hlk.nw
            have w56 : wants.length ≤ 56 := Nat.le_trans (nodup_len_le hlk.nw hlk.bd) chok.few
            refine ⟨p, _, rfl, SqT.of (fr2.fh _ _ hp), rfl, _, _, rfl, _, _, rfl, _, _, rfl, rfl, ?_⟩
            refine ⟨_, rfl, rfl, _, rfl, iteT ?_⟩
            have mapI : wants.map nV = (wants.map fun n : Nat => (n : Int)).map V.int := by rw [List.map_map]; rfl
            have hdw2 := fr2.fh _ _ hdw
            rw [mapI] at hdw2
            -- sorted(some)
            refine ⟨_, rfl, dw, _, rfl, SqL.of hdw2, fun ns' ps perm rising nps => ?_⟩
            obtain ⟨Wi, rfl, pW, rW⟩ := sorted_nat perm rising nw
            have mapW : (Wi.map fun n : Nat => (n : Int)).map V.int = Wi.map nV := by rw [List.map_map]; rfl
            rw [mapW]
            have fr3 := (Fr.begin (T := tbs) fr2.fh).lay (o := .lst (Wi.map nV)) nps
            have bdW : ∀ x ∈ Wi, x < (wantsOf ws).length := fun x hx => by
              rw [← chOf_len]
              exact hlk.bd x (pW.mem_iff.mp hx)
            obtain ⟨W, hW⟩ := pick_map bdW
            have haw6 : ∀ {F6 H6 : Hp}, Fr tbs F2 H2 F6 H6 → H6 aw = some (.lst xw) := fun b => b.fh _ _ (b.ff _ _ (fr2.ff _ _ (s3 _ _ haw3)))
            have lW : W.length = Wi.length := by
              have := congrArg List.length hW
              rwa [List.length_map, List.length_map] at this
            have wi56 : Wi.length ≤ 56 := by rw [pW.length_eq]; exact w56
            refine ⟨ps, rfl, ⟨_, SqL.of upd_same⟩, fun D1 nD1 => lc_list (K := K) (a := ps) (xs := Wi.map nV) (fun i H6 => ∃ F6 xs, Fr tbs F2 H2 F6 H6 ∧ F6 ps = some (.lst (Wi.map nV)) ∧ Own H2 F6 H6 D1 (.lst xs) ∧ Al (rWant F6) xs (W.take i)) ?_ ?_ ?_ ?_⟩
            · exact ⟨_, [], fr3.new nD1, upd_same, fr3.own nD1, by rw [List.take_zero]; trivial⟩
            · rintro i H6 _ ⟨F6, xs, fr6, hps, _⟩
              exact SqL.of (fr6.fh _ _ hps)
            · rintro i x H6 hx ⟨F6, xs, fr6, hps, ow6, al6⟩
              rw [List.getElem?_map] at hx
              cases hwi : Wi[i]? with
              | none => rw [hwi] at hx; cases hx
              | some v =>
              rw [hwi] at hx
              obtain rfl : nV v = x := Option.some.inj hx
              have hWv : (wantsOf ws)[v]? = W[i]? := by
                have := congrArg (fun l => l[i]?) hW
                simp only [List.getElem?_map, hwi] at this
                cases hWi : W[i]? with
                | none => rw [hWi] at this; cases this
                | some y => rw [hWi] at this; exact (Option.some.inj this).symm
              obtain ⟨wv, hwv⟩ : ∃ wv, (wantsOf ws)[v]? = some wv := ⟨_, List.getElem?_eq_getElem (bdW v (List.mem_of_getElem? hwi))⟩
              obtain ⟨xv, hxv, hrw⟩ := alw.at hwv
              refine ⟨rfl, ?_⟩
              refine ⟨_, rfl, _, rfl, aw, _, _, xv, rfl, rfl, SqL.of (haw6 fr6), at_of rfl hxv, xs, ow6.at_, ?_, F6, xs ++ [xv], fr6.put ow6 trivial, hps, ow6.put, ?_⟩
              · rw [al6.len, List.length_take]
                exact small1000 (by omega)
              · rw [take_snoc (hWv ▸ hwv)]
                exact al6.snoc (mo_Want.up (s13.trans (s3.trans (fr2.ff.trans fr6.ff))) hrw)
            · rintro H6 ⟨F6, xs, fr6, hps, ow6, al6⟩
              rw [List.length_map, ← lW, List.take_length] at al6
              have fr7 := fr6.freeze ow6
              have hv7 : rL rWant (upd F6 D1 (.lst xs)) (.ref D1) W := ⟨D1, xs, rfl, upd_same, mo_Want.al (same_upd ow6.f) al6⟩
              generalize upd F6 D1 (.lst xs) = F7 at fr7 hv7
              have hdc7 := fr7.fh _ _ (fr7.ff _ _ hdc)
              refine ⟨_, rfl, fun D2 nD2 => lc_it walk_str (fun i H7 => H7 = upd H6 D2 (.lst (((FLl.take i).filter fun c => decide (c ∈ came.map (·.1))).map fun c => V.str (chr c)))) ?_ (fun _ _ _ _ => trivial) ?_ ?_⟩
              · rfl
              · rintro i x H7 H8 hi rfl ⟨rfl, c, hc, rfl⟩
                have hc' : FLl[i]? = some c := by
                  show FLG.cps.toList[i]? = some c
                  rw [Array.getElem?_toList]
                  exact hc
                have hdc8 : upd H6 D2 (.lst (((FLl.take i).filter fun c => decide (c ∈ came.map (·.1))).map fun c => V.str (chr c))) dc = some (.dK (dV nV came)) := by
                  rw [upd_ne (ne_of_none hdc7 nD2)]; exact hdc7
                refine ⟨rfl, ?_⟩
                refine ⟨_, rfl, _, rfl, dc, _, rfl, DGet.k (k := kC c) hdc8, ?_⟩
                rw [came_get]
                cases hl : look came c with
                | none =>
                  have hn : c ∉ came.map (·.1) := look_none.mp hl
                  refine ⟨_, rfl, iteF ?_⟩
                  rw [take_snoc hc', List.filter_append, List.filter_cons_of_neg (by simpa using hn)]
                  rw [List.filter_nil, List.append_nil]
                | some w0 =>
                  have hn : c ∈ came.map (·.1) := by
                    by_cases z : c ∈ came.map (·.1)
                    · exact z
                    · rw [look_none.mpr z] at hl; cases hl
                  refine ⟨_, rfl, iteT ⟨_, rfl, _, upd_same, ?_, ?_⟩⟩
                  · rw [List.length_map]
                    have := List.length_filter_le (fun c => decide (c ∈ came.map (·.1))) (FLl.take i)
                    rw [List.length_take] at this
                    have h27 : FLl.length = 27 := rfl
                    exact small1000 (by omega)
                  · rw [upd_upd, take_snoc hc', List.filter_append, List.filter_cons_of_pos (by simpa using hn), List.map_append]
                    rfl
              · rintro H7 rfl
                have eF : FLl.take FLG.cps.size = FLl := rfl
                rw [eF]
                refine ⟨by show 2 ≤ 1000; omega, fun a na => lack_at na fun d nd => ?_⟩
                have fr8 := fr7.lay (o := .lst ((FLl.filter fun c => decide (c ∈ came.map (·.1))).map fun c => V.str (chr c))) nD2
                have gmem : ∀ c, c ∈ FLl.filter (fun c => decide (c ∈ came.map (·.1))) ↔ c ∈ came.map (·.1) := fun c => by
                  rw [List.mem_filter, decide_eq_true_iff]
                  exact ⟨fun z => z.2, fun z => ⟨fll_mem.mpr (hkf c z), z⟩⟩
                have gperm : (FLl.filter fun c => decide (c ∈ came.map (·.1))).Perm (came.map (·.1)) := perm_of_mem (fll_nodup.filter _) hlk.nf gmem
                refine qE _ _ d (.ref D1) (.ref D2) W (FLl.filter fun c => decide (c ∈ came.map (·.1))) (S2.fr.trans fr8) nd ((mo_L mo_Want).up (same_upd (fr7.free nD2).1) hv7) (rL_mkC upd_same) ⟨⟨Wi, rW, hW, hlk.perm pW gperm⟩, ?_⟩
                refine List.filter_congr fun c hc => ?_
                refine decide_eq_decide.mpr ?_
                exact ((gmem c).symm)
          · intro F2 H2 p dc dw came f wl fr2 hp hdc hff hkf hcn hrm
            have S2 := S.call fr2
            refine ⟨p, _, rfl, SqT.of (fr2.fh _ _ hp), rfl, _, _, rfl, _, _, rfl, _, _, rfl, rfl, ?_⟩
            refine ⟨_, rfl, rfl, _, rfl, iteF ?_⟩
            refine ⟨_, rfl, _, rfl, _, rfl, _, rfl, dc, dh, du, chOf ws, lk kvs, ad, held, hung, came, j, f, wl, rfl, chok, fr2.fh _ _ hdc, S2.odh.at_, S2.odu.at_, fun c hc => (S2.ols c hc).at_, S.inj, S.nad, M, hj, hcn, hrm, ?_⟩
            intro H6 held' hung' cc M' hu' hl'
            exact ⟨F2, held', hung', _, _, _, _, rfl, S2.ch cc hu' hl', s3.trans fr2.ff, M'⟩
        · rintro σ H5 ⟨F', held, hung, v5, v7, v8, v9, rfl, S, s3, M⟩
          have M : Mt (chOf ws) (lk kvs) held hung (chOf ws).length := by
            have : (((xw.length : Nat) : Int)).toNat = (chOf ws).length := by omega
            rw [← this]; exact M
          obtain ⟨g, rfl, hg⟩ := M.hangs
          have odu := S.odu
          have eg : (g.map some).map oV = g.map fun c => V.str (chr c) := by rw [List.map_map]; rfl
          rw [eg] at odu
          have fr9 := S.fr.freeze odu
          have lg : g.length = lens ws := by rw [hg.len, chOf_len]; exact wants_lens 0 ws
          refine ⟨_, rfl, _, rfl, _, .ref bw, .ref du, ws, g, fr9.fh, rfl, (mo_L mo_W).up fr9.ff hw, rL_mkC upd_same, ok, lg, ?_⟩
          intro F6 H6 v6 fr6 hv6
          exact q g hg F6 H6 v6 (fr9.trans fr6) hv6
end
end Fl

/-! DefLackOf -/
namespace Fl
open PySem L2
section
variable {P : Program} {w : World} {K : PySem.W.Frag} {mg : PySem.Str → Option Value} {base : Heap} {tbs : List (Addr × PySem.Str)}
abbrev s_lack_of : Stmt := top 22
abbrev N_lack_of : List PySem.Str := ["locker", "words", "e"]
theorem sc_lack_of : FnScope N_lack_of ["locker", "words"] (defScope s_lack_of) := ⟨rfl, rfl, rfl, by decide +kernel, rfl, by decide +kernel, by decide +kernel⟩
def spLackOf (tbs : List (Addr × PySem.Str)) : Sp := fun vs H Q E => ∃ (F : Hp) (v u : V) (kvs : List (Nat × Int)) (ws : List (List Nat)), L2.Same F H ∧ vs = [v, u] ∧ rD F v kvs ∧ rL rW F u ws ∧ WordsOk ws ∧ (∀ c, 0 ≤ lk kvs c) ∧
  (Can (chOf ws) (lk kvs) → ∀ F' H', Fr tbs F H F' H' → Q .non H') ∧
  (∀ F' H' v' W G, Fr tbs F H F' H' → LackP ws (lk kvs) W G → rP (rL rWant) (rL rC) F' v' (W, G) → Q v' H')
theorem ok_lack_of {f : Addr} {fd : FuncData} {C CT : Addr} (Fu : Fun K "lack_of" "lack_of" s_lack_of f fd) (T : Txt K mg) (LC : LackC K mg C CT) (C_hang_all : Cr P w K mg base 3 "hang_all" (spHangAll tbs C)) :
    FnOk P w K mg base L2.CX0 4 f fd ["locker", "words"] (spLackOf tbs) := by
  refine Fu.ok sc_lack_of (fun vs H Q E h => ?_) (fun cdv A outer s H vs Q E hr h => ?_)
  · obtain ⟨F, v, u, kvs, ws, _, rfl, _⟩ := h
    rfl
  · obtain ⟨F, v, u, kvs, ws, sm, rfl, hlo, hw, ok, pos, q, qL⟩ := h
    have hu := hu_of hr
    refine ⟨_, pss_one (ps_try_asE (i := 2) (pss_one (ps_ret pe_non)) rfl rfl sc_lack_of.nd rfl rfl ⟨rfl, by decide, .inl LC.gm⟩ takes0
      (fun W pn xe tk _ => pss_one (ps_expr (pe_cxS C_hang_all hr (by decide) (by rfl) tk (pa_cons (pv 0) (pa_cons (pv 1) pa_nil)))))
      (fun a oe cls d pn hz hf => pss_one (ps_ret (pe_tup (pa_cons (pe_xf LC.xfc LC.nW hz hf (pv 2)) (pa_cons (pe_xf LC.xfc LC.nF hz hf (pv 2)) pa_nil)))))), ?_⟩
    refine ⟨_, rfl, _, rfl, F, v, u, kvs, ws, sm, rfl, hlo, hw, ok, pos, ?_, ?_⟩
    · intro g hg F' H' v' fr _
      exact q ⟨g, hg⟩ F' H' fr
    · intro F' H' d v1 v2 W G fr nd h1 h2 hp
      refine ⟨true, LC.te, fun _ a na => ?_, fun z => nomatch z⟩
      have fr2 := fr.new (o := lackX v1 v2) nd
      refine ⟨_, rfl, rfl, rfl, d, _, v1, rfl, upd_same, rfl, _, rfl, rfl, rfl, d, _, v2, rfl, upd_same, rfl, small7 (by show 2 ≤ 7; omega), fun p np => ?_⟩
      have fr3 := fr2.lay (o := .tup [v1, v2]) np
      have sp := same_upd (o := .tup [v1, v2]) (fr2.free np).1
      exact qL _ _ (.ref p) W G fr3 hp ⟨p, v1, v2, rfl, upd_same, (mo_L mo_Want).up sp h1, (mo_L mo_C).up sp h2⟩
end
end Fl

/-! FlLock -/
/-! The plain law of lockers. -/
namespace Fl
open PySem L2
def putL (kvs : List (Nat × Int)) (c : Nat) (n : Int) : List (Nat × Int) :=
  if (kvs.any fun p => decide (p.1 = c)) = true then kvs.map (fun p => if p.1 = c then (p.1, n) else p) else kvs ++ [(c, n)]
theorem dk_any (kvs : List (Nat × Int)) (c : Nat) : ((dk kvs).any fun kv => decide (kv.1 = kC c)) = kvs.any fun p => decide (p.1 = c) := by
  unfold dk
  rw [List.any_map]
  congr 1
  funext p
  show decide (kC p.1 = kC c) = decide (p.1 = c)
  exact decide_eq_decide.mpr ⟨kC_inj, fun h => by rw [h]⟩
theorem dk_put (kvs : List (Nat × Int)) (c : Nat) (n : Int) : putK (dk kvs) (kC c) (V.int n) = dk (putL kvs c n) := by
  unfold putK putL
  rw [dk_any]
  split
  · unfold dk
    rw [List.map_map, List.map_map]
    refine List.map_congr_left fun p _ => ?_
    show (if kC p.1 = kC c then (kC p.1, V.int n) else (kC p.1, V.int p.2)) = _
    by_cases h : p.1 = c
    · rw [if_pos (by rw [h])]
      show _ = (kC (if p.1 = c then (p.1, n) else p).1, V.int (if p.1 = c then (p.1, n) else p).2)
      rw [if_pos h]
    · rw [if_neg (fun z => h (kC_inj z))]
      show _ = (kC (if p.1 = c then (p.1, n) else p).1, V.int (if p.1 = c then (p.1, n) else p).2)
      rw [if_neg h]
  · unfold dk
    rw [List.map_append]
    rfl
theorem lk_nil (c : Nat) : lk [] c = 0 := rfl
theorem lk_cons (p : Nat × Int) (kvs : List (Nat × Int)) (c : Nat) : lk (p :: kvs) c = if p.1 = c then p.2 else lk kvs c := by
  unfold lk
  rw [List.find?_cons]
  by_cases h : p.1 = c
  · rw [decide_eq_true h, if_pos h]; rfl
  · rw [decide_eq_false h, if_neg h]
theorem lk_none {kvs : List (Nat × Int)} {c : Nat} : c ∉ kvs.map (·.1) → lk kvs c = 0 := by
  induction kvs with
  | nil => intro _; rfl
  | cons p kvs ih =>
    intro h
    rw [List.map_cons, List.mem_cons, not_or] at h
    rw [lk_cons, if_neg (fun z => h.1 z.symm), ih h.2]
theorem any_mem {kvs : List (Nat × Int)} {c : Nat} : (kvs.any fun p => decide (p.1 = c)) = true ↔ c ∈ kvs.map (·.1) := by
  rw [List.any_eq_true, List.mem_map]
  exact ⟨fun ⟨p, h1, h2⟩ => ⟨p, h1, of_decide_eq_true h2⟩, fun ⟨p, h1, h2⟩ => ⟨p, h1, decide_eq_true h2⟩⟩
theorem lk_app (kvs : List (Nat × Int)) (c d : Nat) (n : Int) : lk (kvs ++ [(c, n)]) d = if d ∈ kvs.map (·.1) then lk kvs d else if c = d then n else 0 := by
  induction kvs with
  | nil =>
    rw [List.nil_append, lk_cons, lk_nil]
    exact (if_neg (by simp)).symm
  | cons p kvs ih =>
    rw [List.cons_append, lk_cons, ih, lk_cons]
    by_cases h : p.1 = d
    · rw [if_pos h, if_pos h, if_pos (by simp [h])]
    · rw [if_neg h, if_neg h]
      have : d ∈ (p :: kvs).map (·.1) ↔ d ∈ kvs.map (·.1) := by
        rw [List.map_cons, List.mem_cons]
        exact ⟨fun z => z.resolve_left (fun y => h y.symm), .inr⟩
      by_cases m : d ∈ kvs.map (·.1)
      · rw [if_pos m, if_pos (this.mpr m)]
      · rw [if_neg m, if_neg (fun z => m (this.mp z))]
theorem lk_set (kvs : List (Nat × Int)) (c d : Nat) (n : Int) : lk (kvs.map fun p => if p.1 = c then (p.1, n) else p) d = if d = c ∧ d ∈ kvs.map (·.1) then n else lk kvs d := by
  induction kvs with
  | nil => rw [if_neg (by simp)]; rfl
  | cons p kvs ih =>
    rw [List.map_cons, lk_cons, ih, lk_cons]
    by_cases h : p.1 = c
    · rw [if_pos h]
      show (if p.1 = d then n else _) = _
      by_cases e : p.1 = d
      · rw [if_pos e, if_pos ⟨by rw [← e, h], by simp [e]⟩]
      · rw [if_neg e, if_neg e]
        have : ¬ d = c := fun z => e (h.trans z.symm)
        rw [if_neg (fun z => this z.1), if_neg (fun z => this z.1)]
    · rw [if_neg h]
      by_cases e : p.1 = d
      · rw [if_pos e, if_pos e, if_neg (fun z => h (e.trans z.1))]
      · rw [if_neg e, if_neg e]
        by_cases z : d = c ∧ d ∈ kvs.map (·.1)
        · rw [if_pos z, if_pos ⟨z.1, by rw [List.map_cons]; exact List.mem_cons_of_mem _ z.2⟩]
        · rw [if_neg z, if_neg]
          rintro ⟨z1, z2⟩
          rw [List.map_cons, List.mem_cons] at z2
          exact z ⟨z1, z2.resolve_left (fun y => e y.symm)⟩
theorem lk_put (kvs : List (Nat × Int)) (c d : Nat) (n : Int) : lk (putL kvs c n) d = if d = c then n else lk kvs d := by
  unfold putL
  by_cases h : (kvs.any fun p => decide (p.1 = c)) = true
  · rw [if_pos h, lk_set]
    have m := any_mem.mp h
    by_cases e : d = c
    · rw [if_pos ⟨e, e ▸ m⟩, if_pos e]
    · rw [if_neg (fun z => e z.1), if_neg e]
  · rw [if_neg h, lk_app]
    have m : c ∉ kvs.map (·.1) := fun z => h (any_mem.mpr z)
    by_cases e : d = c
    · rw [if_pos e]
      subst e
      rw [if_neg m, if_pos rfl]
    · rw [if_neg e]
      by_cases md : d ∈ kvs.map (·.1)
      · rw [if_pos md]
      · rw [if_neg md, if_neg (fun z => e z.symm), lk_none md]
theorem put_keys {kvs : List (Nat × Int)} {c : Nat} {n : Int} : (putL kvs c n).map (·.1) = if c ∈ kvs.map (·.1) then kvs.map (·.1) else kvs.map (·.1) ++ [c] := by
  unfold putL
  by_cases h : (kvs.any fun p => decide (p.1 = c)) = true
  · rw [if_pos h, if_pos (any_mem.mp h), List.map_map]
    refine List.map_congr_left fun p _ => ?_
    show (if p.1 = c then (p.1, n) else p).1 = p.1
    by_cases e : p.1 = c
    · rw [if_pos e]
    · rw [if_neg e]
  · rw [if_neg h, if_neg (fun z => h (any_mem.mpr z)), List.map_append]
    rfl
theorem put_mem {kvs : List (Nat × Int)} {c : Nat} {n : Int} {p : Nat × Int} (h : p ∈ putL kvs c n) : p = (c, n) ∨ p ∈ kvs := by
  unfold putL at h
  split at h
  · obtain ⟨q, hq, e⟩ := List.mem_map.mp h
    by_cases z : q.1 = c
    · rw [if_pos z] at e
      left
      rw [← e, z]
    · rw [if_neg z] at e
      right
      rw [← e]; exact hq
  · rcases List.mem_append.mp h with h | h
    · exact .inr h
    · left; simpa using h
/-- a locker: flags, no number below 0 -/
structure LockOk (kvs : List (Nat × Int)) : Prop where
  nd : (kvs.map (·.1)).Nodup
  fl : ∀ p ∈ kvs, isFlag p.1
  ge : ∀ p ∈ kvs, 0 ≤ p.2
theorem LockOk.len {kvs : List (Nat × Int)} (h : LockOk kvs) : kvs.length ≤ 27 := by
  have := fll_len h.nd fun x hx => by
    obtain ⟨p, hp, e⟩ := List.mem_map.mp hx
    rw [← e]
    exact h.fl p hp
  rwa [List.length_map] at this
theorem lk_mem {kvs : List (Nat × Int)} {c : Nat} : c ∈ kvs.map (·.1) → (c, lk kvs c) ∈ kvs := by
  induction kvs with
  | nil => intro h; cases h
  | cons p kvs ih =>
    intro h
    rw [lk_cons]
    by_cases e : p.1 = c
    · rw [if_pos e, ← e]
      exact List.mem_cons_self
    · rw [if_neg e]
      rw [List.map_cons, List.mem_cons] at h
      exact List.mem_cons_of_mem _ (ih (h.resolve_left fun z => e z.symm))
theorem lk_of_mem {kvs : List (Nat × Int)} (nd : (kvs.map (·.1)).Nodup) {p : Nat × Int} : p ∈ kvs → lk kvs p.1 = p.2 := by
  induction kvs with
  | nil => intro h; cases h
  | cons q kvs ih =>
    intro h
    rw [List.map_cons, List.nodup_cons] at nd
    rw [lk_cons]
    rcases List.mem_cons.mp h with h | h
    · rw [h, if_pos rfl]
    · have : ¬ q.1 = p.1 := fun z => nd.1 (by rw [z]; exact List.mem_map_of_mem h)
      rw [if_neg this, ih nd.2 h]
theorem LockOk.pos {kvs : List (Nat × Int)} (h : LockOk kvs) (c : Nat) : 0 ≤ lk kvs c := by
  by_cases m : c ∈ kvs.map (·.1)
  · exact h.ge _ (lk_mem m)
  · rw [lk_none m]; exact Int.le_refl 0
theorem LockOk.put {kvs : List (Nat × Int)} (h : LockOk kvs) {c : Nat} {n : Int} (hc : isFlag c) (hn : 0 ≤ n) : LockOk (putL kvs c n) := by
  refine ⟨?_, fun p hp => ?_, fun p hp => ?_⟩
  · rw [put_keys]
    split
    · exact h.nd
    · next m =>
      rw [List.nodup_append]
      refine ⟨h.nd, by simp, fun a ha b hb z => ?_⟩
      rw [List.mem_singleton] at hb
      exact m (by rw [← hb, ← z]; exact ha)
  · rcases put_mem hp with e | e
    · rw [e]; exact hc
    · exact h.fl p e
  · rcases put_mem hp with e | e
    · rw [e]; exact hn
    · exact h.ge p e
def plainL (kvs : List (Nat × Int)) : List (Nat × Int) := kvs.filter fun p => decide (p.2 > 0)
theorem plain_ok {kvs : List (Nat × Int)} (h : LockOk kvs) : LockOk (plainL kvs) :=
  ⟨h.nd.sublist (List.filter_sublist.map _), fun p hp => h.fl p ((List.mem_filter.mp hp).1), fun p hp => h.ge p ((List.mem_filter.mp hp).1)⟩
theorem plain_pos {kvs : List (Nat × Int)} : ∀ p ∈ plainL kvs, 0 < p.2 := fun p hp => of_decide_eq_true (List.mem_filter.mp hp).2
theorem lk_plain {kvs : List (Nat × Int)} (h : LockOk kvs) (c : Nat) : lk (plainL kvs) c = lk kvs c := by
  by_cases m : c ∈ kvs.map (·.1)
  · have hm := lk_mem m
    by_cases z : lk kvs c > 0
    · have : (c, lk kvs c) ∈ plainL kvs := List.mem_filter.mpr ⟨hm, decide_eq_true z⟩
      exact lk_of_mem (plain_ok h).nd this
    · have h0 := h.ge _ hm
      have : c ∉ (plainL kvs).map (·.1) := fun y => by
        obtain ⟨p, hp, e⟩ := List.mem_map.mp y
        have h1 := plain_pos p hp
        have h2 := lk_of_mem h.nd ((List.mem_filter.mp hp).1)
        rw [e] at h2
        omega
      rw [lk_none this]
      omega
  · rw [lk_none m, lk_none]
    intro y
    obtain ⟨p, hp, e⟩ := List.mem_map.mp y
    exact m (List.mem_map.mpr ⟨p, (List.mem_filter.mp hp).1, e⟩)
def addL (kvs : List (Nat × Int)) (c : Nat) : List (Nat × Int) := putL kvs c (lk kvs c + 1)
def addAll (kvs : List (Nat × Int)) (fl : List Nat) : List (Nat × Int) := fl.foldl addL kvs
def subL (kvs : List (Nat × Int)) (c : Nat) : List (Nat × Int) := putL kvs c (lk kvs c - 1)
def subAll (kvs : List (Nat × Int)) (fl : List Nat) : List (Nat × Int) := fl.foldl subL kvs
theorem addAll_ok : ∀ {fl : List Nat} {kvs : List (Nat × Int)}, LockOk kvs → (∀ c ∈ fl, isFlag c) → LockOk (addAll kvs fl)
  | [], _, h, _ => h
  | c :: fl, kvs, h, hf => addAll_ok (fl := fl) (h.put (hf c (by simp)) (by have := h.pos c; omega)) fun d hd => hf d (List.mem_cons_of_mem _ hd)
theorem lk_addAll : ∀ (fl : List Nat) (kvs : List (Nat × Int)) (d : Nat), lk (addAll kvs fl) d = lk kvs d + (fl.count d : Int)
  | [], _, _ => by simp [addAll]
  | c :: fl, kvs, d => by
    show lk (addAll (addL kvs c) fl) d = _
    rw [lk_addAll fl, addL, lk_put, List.count_cons]
    by_cases e : d = c
    · subst e
      rw [if_pos rfl, if_pos (by simp)]
      omega
    · rw [if_neg e, if_neg (by simpa using fun z : c = d => e z.symm)]
      omega
theorem addAll_snoc (kvs : List (Nat × Int)) (fl : List Nat) (c : Nat) : addAll kvs (fl ++ [c]) = addL (addAll kvs fl) c := by
  unfold addAll
  rw [List.foldl_append]
  rfl
theorem addAll_app (kvs : List (Nat × Int)) (a b : List Nat) : addAll kvs (a ++ b) = addAll (addAll kvs a) b := by
  unfold addAll
  rw [List.foldl_append]
theorem subAll_snoc (kvs : List (Nat × Int)) (fl : List Nat) (c : Nat) : subAll kvs (fl ++ [c]) = subL (subAll kvs fl) c := by
  unfold subAll
  rw [List.foldl_append]
  rfl
theorem lk_subAll : ∀ (fl : List Nat) (kvs : List (Nat × Int)) (d : Nat), lk (subAll kvs fl) d = lk kvs d - (fl.count d : Int)
  | [], _, _ => by simp [subAll]
  | c :: fl, kvs, d => by
    show lk (subAll (subL kvs c) fl) d = _
    rw [lk_subAll fl, subL, lk_put, List.count_cons]
    by_cases e : d = c
    · subst e
      rw [if_pos rfl, if_pos (by simp)]
      omega
    · rw [if_neg e, if_neg (by simpa using fun z : c = d => e z.symm)]
      omega
theorem subAll_ok : ∀ {fl : List Nat} {kvs : List (Nat × Int)}, LockOk kvs → (∀ c ∈ fl, isFlag c) → (∀ c, (fl.count c : Int) ≤ lk kvs c) → LockOk (subAll kvs fl)
  | [], _, h, _, _ => h
  | c :: fl, kvs, h, hf, hc => by
    have h1 := hc c
    rw [List.count_cons, if_pos (by simp)] at h1
    refine subAll_ok (fl := fl) (h.put (hf c (by simp)) (by omega)) (fun d hd => hf d (List.mem_cons_of_mem _ hd)) fun d => ?_
    have h2 := hc d
    rw [List.count_cons] at h2
    show (fl.count d : Int) ≤ lk (putL kvs c (lk kvs c - 1)) d
    rw [lk_put]
    by_cases e : d = c
    · subst e
      rw [if_pos rfl]
      rw [if_pos (by simp)] at h2
      omega
    · rw [if_neg e]
      split at h2 <;> omega
def putIn (kvs : List (Nat × Int)) (fl : List Nat) : List (Nat × Int) := plainL (addAll kvs fl)
def takeL (kvs : List (Nat × Int)) (fl : List Nat) : List (Nat × Int) := plainL (subAll kvs fl)
theorem putIn_ok {kvs : List (Nat × Int)} {fl : List Nat} (h : LockOk kvs) (hf : ∀ c ∈ fl, isFlag c) : LockOk (putIn kvs fl) := plain_ok (addAll_ok h hf)
theorem lk_putIn {kvs : List (Nat × Int)} {fl : List Nat} (h : LockOk kvs) (hf : ∀ c ∈ fl, isFlag c) (d : Nat) : lk (putIn kvs fl) d = lk kvs d + (fl.count d : Int) := by
  rw [putIn, lk_plain (addAll_ok h hf), lk_addAll]
theorem takeL_ok {kvs : List (Nat × Int)} {fl : List Nat} (h : LockOk kvs) (hf : ∀ c ∈ fl, isFlag c) (hc : ∀ c, (fl.count c : Int) ≤ lk kvs c) : LockOk (takeL kvs fl) := plain_ok (subAll_ok h hf hc)
theorem lk_takeL {kvs : List (Nat × Int)} {fl : List Nat} (h : LockOk kvs) (hf : ∀ c ∈ fl, isFlag c) (hc : ∀ c, (fl.count c : Int) ≤ lk kvs c) (d : Nat) : lk (takeL kvs fl) d = lk kvs d - (fl.count d : Int) := by
  rw [takeL, lk_plain (subAll_ok h hf hc), lk_subAll]
end Fl

/-! FlSets -/
/-! The plain law of sets. -/
namespace Fl
def risingL : Nat → List Nat → List (List Nat)
  | 0, _ => [[]]
  | s + 1, ns => (List.range ns.length).flatMap fun k => (risingL s (ns.drop (k + 1))).map fun r => ns.getD k 0 :: r
def setsOf (ns : List Nat) : List (List Nat) := (List.range (ns.length + 1)).flatMap fun s => risingL s ns
theorem flat_range {α : Type} (f : Nat → List α) (k : Nat) : (List.range (k + 1)).flatMap f = (List.range k).flatMap f ++ f k := by
  rw [List.range_succ, List.flatMap_append, List.flatMap_cons, List.flatMap_nil, List.append_nil]
theorem rising_nil (s : Nat) : risingL (s + 1) [] = [] := rfl
theorem rising_cons (s : Nat) (a : Nat) (ns : List Nat) : risingL (s + 1) (a :: ns) = (risingL s ns).map (a :: ·) ++ risingL (s + 1) ns := by
  show (List.range (ns.length + 1)).flatMap (fun k => (risingL s ((a :: ns).drop (k + 1))).map fun r => (a :: ns).getD k 0 :: r) = _
  rw [List.range_succ_eq_map, List.flatMap_cons, List.flatMap_map]
  rfl
theorem rising_len : ∀ (s : Nat) (ns : List Nat), (risingL s ns).length ≤ 2 ^ ns.length
  | 0, ns => by
    show 1 ≤ _
    exact Nat.one_le_two_pow
  | s + 1, [] => by rw [rising_nil]; simp
  | s + 1, a :: ns => by
    have h1 := rising_len s ns
    have h2 := rising_len (s + 1) ns
    rw [rising_cons, List.length_append, List.length_map, List.length_cons, Nat.pow_succ]
    omega
theorem rising_mem : ∀ {s : Nat} {ns m : List Nat}, m ∈ risingL s ns ↔ m.Sublist ns ∧ m.length = s
  | 0, ns, m => by
    show m ∈ [[]] ↔ _
    rw [List.mem_singleton]
    constructor
    · intro h; rw [h]; exact ⟨List.nil_sublist _, rfl⟩
    · intro h; exact List.length_eq_zero_iff.mp h.2
  | s + 1, [], m => by
    rw [rising_nil]
    constructor
    · intro h; cases h
    · rintro ⟨h1, h2⟩
      rw [List.sublist_nil.mp h1] at h2
      cases h2
  | s + 1, a :: ns, m => by
    rw [rising_cons, List.mem_append, List.mem_map, rising_mem (s := s + 1) (ns := ns)]
    constructor
    · rintro (⟨r, hr, rfl⟩ | ⟨h1, h2⟩)
      · obtain ⟨h1, h2⟩ := rising_mem.mp hr
        exact ⟨h1.cons_cons a, by rw [List.length_cons, h2]⟩
      · exact ⟨h1.cons a, h2⟩
    · rintro ⟨h1, h2⟩
      cases h1 with
      | cons _ h => exact .inr ⟨h, h2⟩
      | cons_cons _ h => exact .inl ⟨_, rising_mem.mpr ⟨h, Nat.succ.inj h2⟩, rfl⟩
theorem sets_mem {ns m : List Nat} : m ∈ setsOf ns ↔ m.Sublist ns := by
  unfold setsOf
  rw [List.mem_flatMap]
  constructor
  · rintro ⟨s, _, h⟩
    exact (rising_mem.mp h).1
  · intro h
    exact ⟨m.length, List.mem_range.mpr (by have := h.length_le; omega), rising_mem.mpr ⟨h, rfl⟩⟩
theorem flat_len_le {α : Type} (f : Nat → List α) (b : Nat) (h : ∀ k, (f k).length ≤ b) : ∀ n, ((List.range n).flatMap f).length ≤ n * b
  | 0 => by simp
  | n + 1 => by
    rw [flat_range, List.length_append, Nat.succ_mul]
    have := flat_len_le f b h n
    have := h n
    omega
theorem pow5 {ns : List Nat} (h : ns.length ≤ 5) : 2 ^ ns.length ≤ 32 := Nat.le_trans (Nat.pow_le_pow_right (by omega) h) (by decide)
theorem sets_len {ns : List Nat} (h : ns.length ≤ 5) : (setsOf ns).length ≤ 192 := by
  have := flat_len_le (fun s => risingL s ns) 32 (fun s => Nat.le_trans (rising_len s ns) (pow5 h)) (ns.length + 1)
  unfold setsOf
  omega
end Fl

/-! DefRising -/
namespace Fl
open PySem L2
section
variable {P : Program} {w : World} {K : PySem.W.Frag} {mg : PySem.Str → Option Value} {base : Heap} {tbs : List (Addr × PySem.Str)}
theorem cut_tail {xs : List V} {a : Nat} {z : Int} (hz : z = (a : Int)) (h : a ≤ xs.length) : cutV xs (some z) none = xs.drop a := by
  rw [hz]
  unfold cutV
  rw [show HT.sIx xs.length 0 (some (a : Int)) = min a xs.length from HT.sIx_nat _ _ _, show HT.sIx xs.length xs.length none = xs.length from rfl, Nat.min_eq_left h]
  exact List.take_of_length_le (by rw [List.length_drop]; exact Nat.le_refl _)
abbrev s_rising_lists : Stmt := top 23
abbrev N_rising_lists : List PySem.Str := ["numbers", "size", "found", "k", "rest"]
theorem sc_rising_lists : FnScope N_rising_lists ["numbers", "size"] (defScope s_rising_lists) := ⟨rfl, rfl, rfl, by decide +kernel, rfl, by decide +kernel, by decide +kernel⟩
def spRising (tbs : List (Addr × PySem.Str)) (m : Nat) : Sp := fun vs H Q _ => ∃ (F : Hp) (v : V) (ns : List Nat) (s : Nat), L2.Same F H ∧ vs = [v, nV s] ∧ rL rN F v ns ∧ s < m ∧ s ≤ 1000 ∧ ns.length ≤ 5 ∧ Pf tbs F H Q (rL (rL rN)) (risingL s ns)
theorem ok_rising_lists {f : Addr} {fd : FuncData} (Fu : Fun K "rising_lists" "rising_lists" s_rising_lists f fd) (T : Txt K mg) (hm : mg "rising_lists" = some (.ref f)) (kp : PySem.W.keepIn K (.ref f) = true) (hb : Binds K fd ["numbers", "size"] []) :
    ∀ m, FnOk P w K mg base L2.CX0 m f fd ["numbers", "size"] (spRising tbs m)
  | 0 => ⟨fun vs H Q E h => (by obtain ⟨F, v, ns, s, _, _, _, h, _⟩ := h; omega), fun A outer s H args us vs Q E _ _ _ _ h => (by obtain ⟨F, v, ns, s, _, _, _, h, _⟩ := h; omega)⟩
  | m + 1 => by
    have C_rising_lists : Cf P w K mg base m "rising_lists" (spRising tbs m) := ⟨f, fd, _, ok_rising_lists Fu T hm kp hb m, hm, kp, hb⟩
    refine Fu.ok sc_rising_lists (fun vs H Q E h => ?_) (fun cdv A outer s H vs Q E hr h => ?_)
    · obtain ⟨F, v, ns, s, _, rfl, _⟩ := h
      rfl
    · obtain ⟨F, v, ns, size, sm, rfl, hv, hsm, hs1, h5, q⟩ := h
      obtain ⟨a, rfl, ha⟩ := rL_N hv
      refine ⟨_, 
      (pss_cons (ps_if (pt_cmpR op_eq (pv 1) pe_int (nomark _))
        (pss_one (ps_ret (pe_lst (pa_cons (pe_lst pa_nil) pa_nil)))) pss_nil)
      (pss_cons (ps_set (i := 2) sc_rising_lists.nd rfl (Or.inl rfl) (pe_lst pa_nil))
      (pss_cons (ps_for PassesOwn.never rfl (pi_range1 (by rfl) T.b_range (pa_cons (pe_callB call_len_seq (by rfl) T.b_len PySem.boot_len (pa_cons (pv 0) pa_nil)) pa_nil)) (pg_name (i := 3) sc_rising_lists.nd rfl (Or.inl rfl))
        (pss_one (ps_for PassesOwn.never rfl (pi_list (pe_cf C_rising_lists hr (Nat.le_refl _) (by rfl) (pa_cons (pe_slice sl_list (pv 0) (po_some (pe_op op_add (pv 3) pe_int)) po_none) (pa_cons (pe_op op_sub (pv 1) pe_int) pa_nil)))) (pg_name (i := 4) sc_rising_lists.nd rfl (Or.inl rfl))
          (pss_one (ps_expr (pe_bm PySem.F.plainAttrs_list PySem.F.slot_list_append PySem.F.type_list_append mt_append (pv 2) (pa_cons (pe_op op_cat (pe_lst (pa_cons (pe_ix ix_list (pv 0) (pv 3) (fun _ _ => rfl)) pa_nil)) (pv 4)) pa_nil)))))))
      (pss_one (ps_ret (pv 2)))))), ?_⟩
      refine ⟨_, rfl, rfl, _, rfl, ite2 (fun c => ?_) (fun c => ?_)⟩
      · have e0 : size = 0 := by
          have : (size : Int) = 0 := V.int.inj (of_decide_eq_true c)
          omega
        subst e0
        refine ⟨Nat.zero_le _, fun p1 n1 => ⟨small7 (by show 1 ≤ 7; omega), fun p2 n2 => ?_⟩⟩
        have fr1 := (Fr.begin (T := tbs) sm).lay (o := .lst []) n1
        have fr2 := fr1.lay (o := .lst [V.ref p1]) n2
        have h1 : upd (upd F p1 (.lst [])) p2 (.lst [V.ref p1]) p1 = some (.lst []) := by
          rw [upd_ne (ne_of_none upd_same n2), upd_same]
        exact q _ _ (.ref p2) fr2 ⟨p2, [.ref p1], rfl, upd_same, ⟨p1, [], rfl, h1, trivial⟩, trivial⟩
      · have e0 : size ≠ 0 := fun z => c (decide_eq_true (by rw [z]; rfl))
        obtain ⟨s, rfl⟩ : ∃ s, size = s + 1 := ⟨size - 1, by omega⟩
        refine ⟨Nat.zero_le _, fun d nd => ?_⟩
        have fr0 := (Fr.begin (T := tbs) sm).new (o := .lst []) nd
        have ow0 := (Fr.begin (T := tbs) sm).own (o := .lst []) nd
        have ln : (ns.map nV).length = ns.length := List.length_map _
        let f : Nat → List (List Nat) := fun k => (risingL s (ns.drop (k + 1))).map fun r => ns.getD k 0 :: r
        have fl : ∀ k, (f k).length ≤ 32 := fun k => by
          show ((risingL s (ns.drop (k + 1))).map _).length ≤ 32
          rw [List.length_map]
          exact Nat.le_trans (rising_len _ _) (pow5 (by rw [List.length_drop]; omega))
        refine ⟨_, rfl, a, _, rfl, .inl (SqL.of (fr0.fh _ _ ha)), _, rfl, by rw [ln]; omega, by rw [ln]; omega, ?_⟩
        refine for_range (lo := 0) (fun j σ H' => ∃ v3 v4 F' xs, σ = [some (.ref a), some (nV (s + 1)), some (.ref d), v3, v4] ∧ Fr tbs F H F' H' ∧ Own H F' H' d (.lst xs) ∧ Al (rL rN F') xs ((List.range j).flatMap f)) ?_ ?_ ?_
        · exact ⟨none, none, F, [], rfl, fr0, ow0, trivial⟩
        · rintro j σ H' hj ⟨v3, v4, F', xs, rfl, fr, ow, al⟩
          have hj : j < ns.length := by rw [ln] at hj; omega
          have e0 : V.int (0 + (j : Int)) = nV j := by rw [Int.zero_add]
          rw [e0]
          have ha' := fr.fh _ _ (fr.ff _ _ ha)
          refine ⟨_, rfl, _, rfl, _, _, rfl, rfl, _, rfl, a, _, rfl, SqL.of ha', fun p np => ?_⟩
          have ec : cutV (ns.map nV) (some ((j : Int) + 1)) none = (ns.drop (j + 1)).map nV := by
            rw [cut_tail (a := j + 1) (by omega) (by rw [ln]; omega), List.map_drop]
          rw [ec]
          have fr1 := fr.lay (o := .lst ((ns.drop (j + 1)).map nV)) np
          have ow1 := ow.lay (o' := .lst ((ns.drop (j + 1)).map nV)) np
          have s1 := same_upd (o := .lst ((ns.drop (j + 1)).map nV)) (fr.free np).1
          generalize hF1 : upd F' p (.lst ((ns.drop (j + 1)).map nV)) = F1 at fr1 ow1 s1
          have hp1 : F1 p = some (.lst ((ns.drop (j + 1)).map nV)) := by rw [← hF1, upd_same]
          have e1 : V.int (((s + 1 : Nat) : Int) - 1) = nV s := by congr 1; omega
          refine ⟨_, rfl, _, _, rfl, rfl, F1, .ref p, ns.drop (j + 1), s, fr1.fh, by show [V.ref p, V.int (((s + 1 : Nat) : Int) - 1)] = _; rw [e1], rL_mkN hp1, by omega, by omega, by rw [List.length_drop]; omega, fun F2 H2 v2 fr2 hv2 => ?_⟩
          obtain ⟨b, ys, rfl, hb, alb⟩ := hv2
          have fr3 := fr1.trans fr2
          have ow3 := ow1.call ntb_lst fr2
          have al3 := (mo_L mo_N).al (s1.trans fr2.ff) al
          have ly : ys.length = (risingL s (ns.drop (j + 1))).length := alb.len
          refine ⟨b, rfl, ⟨_, SqL.of (fr2.fh _ _ hb)⟩, for_list (K := K) (a := b) (xs := ys) (fun i σ H' => ∃ v4 F' xs, σ = [some (.ref a), some (nV (s + 1)), some (.ref d), some (nV j), v4] ∧ Fr tbs F H F' H' ∧ L2.Same F2 F' ∧ Own H F' H' d (.lst xs) ∧ Al (rL rN F') xs ((List.range j).flatMap f ++ (f j).take i)) ?_ ?_ ?_ ?_⟩
          · exact ⟨v4, F2, xs, rfl, fr3, .refl _, ow3, by rw [List.take_zero, List.append_nil]; exact al3⟩
          · rintro i σ H4 _ ⟨v4, F4, xs, rfl, fr4, s4, _⟩
            exact SqL.of (fr4.fh _ _ (s4 _ _ hb))
          · rintro i x σ H4 hx ⟨v4, F4, xs4, rfl, fr4, s4, ow4, al4⟩
            obtain ⟨r, hr4, hxr⟩ := alb.get hx
            obtain ⟨b2, rfl, hb2⟩ := rL_N hxr
            have hb4 := fr4.fh _ _ (s4 _ _ hb2)
            have ha4 := fr4.fh _ _ (fr4.ff _ _ ha)
            obtain ⟨n, hn⟩ : ∃ n, ns[j]? = some n := ⟨_, List.getElem?_eq_getElem hj⟩
            have hrm := rising_mem.mp (List.mem_of_getElem? hr4)
            have lr : r.length ≤ 5 := by
              have := hrm.1.length_le
              rw [List.length_drop] at this
              omega
            have hil : i < (risingL s (ns.drop (j + 1))).length := (List.getElem?_eq_some_iff.mp hr4).1
            refine ⟨_, rfl, .inl ⟨rfl, _, SqL.of ow4.at_⟩, _, rfl, _, rfl, a, _, _, nV n, rfl, rfl, SqL.of ha4, at_of rfl (by rw [List.getElem?_map, hn]; rfl), small7 (by show 1 ≤ 7; omega), fun p1 n1 => ?_⟩
            have fr5 := fr4.new (o := .lst [nV n]) n1
            have ow5 := ow4.new (o' := .lst [nV n]) n1
            refine ⟨_, rfl, p1, b2, _, _, rfl, rfl, upd_same, fr5.fh _ _ (s4 _ _ hb2), ?_, fun p2 n2 => ?_⟩
            · rw [List.length_map]
              exact small7 (by show 1 + _ ≤ 7; omega)
            have fr6 := fr5.lay (o := .lst ([nV n] ++ r.map nV)) n2
            have ow6 := ow5.lay (o' := .lst ([nV n] ++ r.map nV)) n2
            have hf : (f j)[i]? = some (n :: r) := by
              show ((risingL s (ns.drop (j + 1))).map _)[i]? = _
              rw [List.getElem?_map, hr4, List.getD_eq_getElem?_getD, hn]
              rfl
            refine ⟨d, xs4, .ref p2, rfl, rfl, ow6.at_, ?_, ?_⟩
            · rw [al4.len, List.length_append, List.length_take]
              have h1 := flat_len_le f 32 fl j
              have h2 := fl j
              exact small1000 (by omega)
            · refine ⟨_, _, _, rfl, fr6.put ow6 trivial, s4.trans (same_upd (fr5.free n2).1), ow6.put, ?_⟩
              rw [take_snoc hf, ← List.append_assoc]
              exact ((mo_L mo_N).al (same_upd (fr5.free n2).1) al4).snoc ⟨p2, _, rfl, upd_same, Al.map (g := nV) (n :: r)⟩
          · rintro σ H4 ⟨v4, F4, xs4, rfl, fr4, s4, ow4, al4⟩
            refine ⟨_, _, F4, xs4, rfl, fr4, ow4, ?_⟩
            rw [flat_range]
            have e : (f j).take ys.length = f j := by
              rw [ly]
              have : (f j).length = (risingL s (ns.drop (j + 1))).length := List.length_map _
              rw [← this, List.take_length]
            rw [e] at al4
            exact al4
        · rintro σ H' ⟨v3, v4, F', xs, rfl, fr, ow, al⟩
          rw [ln] at al
          exact ⟨_, rfl, q _ _ _ (fr.freeze ow) ⟨d, xs, rfl, upd_same, (mo_L mo_N).al (same_upd ow.f) al⟩⟩
end
end Fl

/-! DefLockers -/
namespace Fl
open PySem L2
section
variable {P : Program} {w : World} {K : PySem.W.Frag} {mg : PySem.Str → Option Value} {base : Heap} {tbs : List (Addr × PySem.Str)}
theorem upd_comm {H : Hp} {a b : Addr} {x y : HO} (h : a ≠ b) : upd (upd H b x) a y = upd (upd H a y) b x := by
  funext c
  by_cases e : c = a
  · rw [e, upd_same, upd_ne h, upd_same]
  · rw [upd_ne e]
    by_cases e2 : c = b
    · rw [e2, upd_same, upd_same]
    · rw [upd_ne e2, upd_ne e2, upd_ne e]
abbrev s_plain_locker : Stmt := top 25
abbrev N_plain_locker : List PySem.Str := ["locker", "found", "flag", "number"]
theorem sc_plain_locker : FnScope N_plain_locker ["locker"] (defScope s_plain_locker) := ⟨rfl, rfl, rfl, by decide +kernel, rfl, by decide +kernel, by decide +kernel⟩
def spPlain (tbs : List (Addr × PySem.Str)) : Sp := fun vs H Q _ => ∃ (F : Hp) (d : Addr) (kvs : List (Nat × Int)), L2.Same F H ∧ vs = [.ref d] ∧ H d = some (.dK (dk kvs)) ∧ LockOk kvs ∧ Pf tbs F H Q rD (plainL kvs)
theorem ok_plain_locker {f : Addr} {fd : FuncData} {k : Nat} (Fu : Fun K "plain_locker" "plain_locker" s_plain_locker f fd) (T : Txt K mg) : FnOk P w K mg base L2.CX0 (k + 1) f fd ["locker"] (spPlain tbs) := by
  refine Fu.ok sc_plain_locker (fun vs H Q E h => ?_) (fun cdv A outer s H vs Q E hr h => ?_)
  · obtain ⟨F, d, kvs, _, rfl, _⟩ := h
    rfl
  · obtain ⟨F, d, kvs, sm, rfl, hd, ok, q⟩ := h
    have hu := hu_of hr
    refine ⟨_, 
      (pss_cons (ps_set (i := 1) sc_plain_locker.nd rfl (Or.inl rfl) pe_dnewK)
      (pss_cons (ps_lock (ps_for PassesOwn.never rfl (pi_items (pv 0)) (pg_tup rfl (pgs_cons (pg_name (i := 2) sc_plain_locker.nd rfl (Or.inl rfl)) (pgs_cons (pg_name (i := 3) sc_plain_locker.nd rfl (Or.inl rfl)) pgs_nil)))
        (pss_one (ps_if (pt_cmpR op_gt (pv 3) pe_int (nomark _))
          (pss_one (ps_dput hu (pv 1) (pv 2) (pv 3) rfl)) pss_nil))))
      (pss_one (ps_ret (pv 1))))), ?_⟩
    refine fun c nc => ?_
    have ncd : c ≠ d := fun z => by rw [z, hd] at nc; cases nc
    have hd1 : upd H c (.dK []) d = some (.dK (dk kvs)) := by rw [upd_ne ncd.symm]; exact hd
    have lk0 : (dk kvs).length = kvs.length := List.length_map _
    have l27 := ok.len
    refine ⟨d, _, hd1, trivial, fun od => ?_⟩
    refine ⟨_, rfl, d, od, dk kvs, rfl, upd_same, for_it walk_items (fun i σ H' => ∃ v2 v3 H1, σ = [some (.ref d), some (.ref c), v2, v3] ∧ H' = upd H1 d (.frz od (.dK (dk kvs))) ∧ H1 d = some (.dK (dk kvs)) ∧ Fr tbs F H F H1 ∧ Own H F H1 c (.dK (dk (plainL (kvs.take i))))) ?_ ?_ ?_ ?_⟩
    · exact ⟨none, none, upd H c (.dK []), rfl, rfl, hd1, (Fr.begin sm).new nc, (Fr.begin (T := tbs) sm).own nc⟩
    · rintro i σ H' _ ⟨v2, v3, H1, _, rfl, _⟩
      exact upd_same
    · rintro i x σ H' H'' hi ⟨v2, v3, H1, rfl, rfl, hd1, fr, ow⟩ ⟨t, y, z, rfl, nt, rfl, e1, e2⟩
      have ntd : t ≠ d := fun z => by rw [z, upd_same] at nt; cases nt
      have nt1 : H1 t = none := by rw [upd_ne ntd] at nt; exact nt
      rw [lk0] at hi
      obtain ⟨⟨k, n⟩, hk⟩ : ∃ p, kvs[i]? = some p := ⟨_, List.getElem?_eq_getElem hi⟩
      have hk' : (dk kvs)[i]? = some (kC k, V.int n) := by
        unfold dk
        rw [List.getElem?_map, hk]
        rfl
      have e1 : ((dk kvs)[i]?).map (fun kv => kV kv.1) = some y := e1
      have e2 : ((dk kvs)[i]?).map Prod.snd = some z := e2
      rw [hk'] at e1 e2
      obtain rfl : V.str (chr k) = y := Option.some.inj e1
      obtain rfl : V.int n = z := Option.some.inj e2
      have fr2 := fr.new (o := .tup [V.str (chr k), V.int n]) nt1
      have ow2 := ow.new (o' := .tup [V.str (chr k), V.int n]) nt1
      have sw : upd (upd H1 d (.frz od (.dK (dk kvs)))) t (.tup [V.str (chr k), V.int n]) = upd (upd H1 t (.tup [V.str (chr k), V.int n])) d (.frz od (.dK (dk kvs))) := upd_comm ntd
      rw [sw]
      have hd2 : upd H1 t (.tup [V.str (chr k), V.int n]) d = some (.dK (dk kvs)) := by rw [upd_ne ntd.symm]; exact hd1
      have owd : upd (upd H1 t (.tup [V.str (chr k), V.int n])) d (.frz od (.dK (dk kvs))) c = some (.dK (dk (plainL (kvs.take i)))) := by rw [upd_ne ncd]; exact ow2.at_
      have pt : plainL (kvs.take (i + 1)) = plainL (kvs.take i) ++ (if n > 0 then [(k, n)] else []) := by
        unfold plainL
        rw [take_snoc hk, List.filter_append]
        congr 1
        by_cases c : n > 0
        · rw [if_pos c, List.filter_cons_of_pos (by simpa using c)]; rfl
        · rw [if_neg c, List.filter_cons_of_neg (by simpa using c)]; rfl
      refine ⟨t, _, rfl, SqT.of (by rw [upd_ne ntd, upd_same]), rfl, _, _, rfl, _, _, rfl, rfl, ?_⟩
      refine ⟨_, rfl, _, _, rfl, rfl, _, rfl, ite2 (fun c1 => ?_) (fun c1 => ?_)⟩
      · have c2 : n > 0 := of_decide_eq_true c1
        refine ⟨_, rfl, _, rfl, _, rfl, c, _, rfl, DPut.k (k := kC k) owd ?_, ?_⟩
        · unfold dk
          rw [List.length_map]
          have := List.length_filter_le (fun p : Nat × Int => decide (p.2 > 0)) (kvs.take i)
          have h2 : (kvs.take i).length ≤ kvs.length := by rw [List.length_take]; omega
          unfold plainL
          exact small1000 (by omega)
        · rw [dk_put]
          have kn : (plainL (kvs.take i)).map (·.1) = ((kvs.take i).filter fun p => decide (p.2 > 0)).map (·.1) := rfl
          have nk : k ∉ (plainL (kvs.take i)).map (·.1) := fun z => by
            obtain ⟨p, hp, e⟩ := List.mem_map.mp z
            have hp2 := (List.mem_filter.mp hp).1
            have hm : (kvs.map (·.1))[i]? = some k := by rw [List.getElem?_map, hk]; rfl
            refine nodup_take ok.nd hm ?_
            rw [← List.map_take, ← e]
            exact List.mem_map_of_mem hp2
          have pl : putL (plainL (kvs.take i)) k n = plainL (kvs.take (i + 1)) := by
            rw [pt, if_pos c2]
            unfold putL
            rw [if_neg (fun z => nk (any_mem.mp z))]
          rw [pl]
          refine ⟨_, _, upd (upd H1 t (.tup [V.str (chr k), V.int n])) c (.dK (dk (plainL (kvs.take (i + 1))))), rfl, upd_comm ncd, ?_, fr2.put ow2 trivial, ow2.put⟩
          rw [upd_ne ncd.symm]; exact hd2
      · have c2 : ¬ n > 0 := fun z => c1 (decide_eq_true z)
        refine ⟨_, _, _, rfl, rfl, hd2, fr2, ?_⟩
        rw [pt, if_neg c2, List.append_nil]
        exact ow2
    · rintro σ H' ⟨v2, v3, H1, rfl, rfl, hd1, fr, ow⟩
      rw [lk0, List.take_length] at ow
      have e : upd (upd H1 d (.frz od (.dK (dk kvs)))) d (.dK (dk kvs)) = H1 := by
        rw [upd_upd]
        funext b
        by_cases z : b = d
        · rw [z, upd_same, hd1]
        · rw [upd_ne z]
      refine ⟨upd_same, ?_⟩
      rw [e]
      exact ⟨_, rfl, q _ _ _ (fr.freeze ow) ⟨c, rfl, upd_same⟩⟩
theorem dk_val {kvs : List (Nat × Int)} {c : Nat} (h : 0 < lk kvs c) : valV (dk kvs) (kC c) = some (V.int (lk kvs c)) := by
  rw [dk_dV, valV_dV]
  unfold lk at h ⊢
  cases e : kvs.find? fun p => decide (p.1 = c) with
  | none =>
    rw [e] at h
    exact absurd h (by decide)
  | some p => rfl
abbrev s_put_in : Stmt := top 27
abbrev N_put_in : List PySem.Str := ["locker", "flags", "found", "flag"]
theorem sc_put_in : FnScope N_put_in ["locker", "flags"] (defScope s_put_in) := ⟨rfl, rfl, rfl, by decide +kernel, rfl, by decide +kernel, by decide +kernel⟩
def spPutIn (tbs : List (Addr × PySem.Str)) : Sp := fun vs H Q _ => ∃ (F : Hp) (v u : V) (kvs : List (Nat × Int)) (fl : List Nat), L2.Same F H ∧ vs = [v, u] ∧ rD F v kvs ∧ rL rC F u fl ∧ LockOk kvs ∧ (∀ c ∈ fl, isFlag c) ∧ Pf tbs F H Q rD (putIn kvs fl)
theorem ok_put_in {f : Addr} {fd : FuncData} (Fu : Fun K "put_in" "put_in" s_put_in f fd) (T : Txt K mg) (C_plain_locker : Cf P w K mg base 1 "plain_locker" (spPlain tbs)) : FnOk P w K mg base L2.CX0 2 f fd ["locker", "flags"] (spPutIn tbs) := by
  refine Fu.ok sc_put_in (fun vs H Q E h => ?_) (fun cdv A outer s H vs Q E hr h => ?_)
  · obtain ⟨F, v, u, kvs, fl, _, rfl, _⟩ := h
    rfl
  · obtain ⟨F, v, u, kvs, fl, sm, rfl, hv, hw, ok, hf, q⟩ := h
    have hu := hu_of hr
    obtain ⟨a, rfl, ha⟩ := hv
    obtain ⟨b, rfl, hb⟩ := rL_C hw
    refine ⟨_, 
      (pss_cons (ps_set (i := 2) sc_put_in.nd rfl (Or.inl rfl) (pe_callTy call_dictD (by rfl) T.b_dict (by decide +kernel) (pa_cons (pv 0) pa_nil)))
      (pss_cons (ps_for PassesOwn.never rfl (pi_list (pv 1)) (pg_name (i := 3) sc_put_in.nd rfl (Or.inl rfl))
        (pss_one (ps_dput hu (pv 2) (pv 3) (pe_op op_add (pe_dget2 hu (pv 2) (pv 3) pe_int ⟨by rfl, by rfl, by rfl, by rfl⟩) pe_int) rfl)))
      (pss_one (ps_ret (pe_cf C_plain_locker hr (by decide) (by rfl) (pa_cons (pv 2) pa_nil)))))), ?_⟩
    refine ⟨_, rfl, a, _, rfl, .inl (sm _ _ ha), fun d nd => ?_⟩
    have fr0 := (Fr.begin (T := tbs) sm).new (o := .dK (dk kvs)) nd
    have ow0 := (Fr.begin (T := tbs) sm).own (o := .dK (dk kvs)) nd
    refine ⟨_, rfl, b, rfl, ⟨_, SqL.of (fr0.fh _ _ hb)⟩, for_list (K := K) (a := b) (xs := fl.map fun c => V.str (chr c)) (fun i σ H' => ∃ v3, σ = [some (.ref a), some (.ref b), some (.ref d), v3] ∧ Fr tbs F H F H' ∧ Own H F H' d (.dK (dk (addAll kvs (fl.take i))))) ?_ ?_ ?_ ?_⟩
    · exact ⟨none, rfl, fr0, ow0⟩
    · rintro i σ H' _ ⟨_, _, fr, _⟩
      exact SqL.of (fr.fh _ _ hb)
    · rintro i x σ H' hx ⟨v3, rfl, fr, ow⟩
      rw [List.getElem?_map] at hx
      cases hc : fl[i]? with
      | none => rw [hc] at hx; cases hx
      | some c =>
      rw [hc] at hx
      obtain rfl : V.str (chr c) = x := Option.some.inj hx
      have oki : LockOk (addAll kvs (fl.take i)) := addAll_ok ok fun x hx => hf x (List.mem_of_mem_take hx)
      refine ⟨_, rfl, d, rfl, .inl ⟨_, .inl ow.at_⟩, _, rfl, _, DGet.k (k := kC c) ow.at_, ?_⟩
      rw [lk_get]
      refine ⟨_, _, rfl, rfl, ?_⟩
      refine ⟨_, rfl, _, rfl, d, _, rfl, DPut.k (k := kC c) ow.at_ ?_, ?_⟩
      · unfold dk
        rw [List.length_map]
        exact small1000 (by have := oki.len; omega)
      · rw [dk_put]
        refine ⟨_, rfl, fr.put ow trivial, ?_⟩
        rw [take_snoc hc, addAll_snoc]
        exact ow.put
    · rintro σ H' ⟨v3, rfl, fr, ow⟩
      rw [List.length_map, List.take_length] at ow
      refine ⟨_, rfl, F, d, addAll kvs fl, fr.fh, rfl, ow.at_, addAll_ok ok hf, fun F' H2 v2 fr2 hv2 => ?_⟩
      exact q _ _ _ (fr.trans fr2) hv2
abbrev s_taken : Stmt := top 26
abbrev N_taken : List PySem.Str := ["locker", "flags", "left", "flag"]
theorem sc_taken : FnScope N_taken ["locker", "flags"] (defScope s_taken) := ⟨rfl, rfl, rfl, by decide +kernel, rfl, by decide +kernel, by decide +kernel⟩
def spTaken (tbs : List (Addr × PySem.Str)) : Sp := fun vs H Q _ => ∃ (F : Hp) (v u : V) (kvs : List (Nat × Int)) (fl : List Nat), L2.Same F H ∧ vs = [v, u] ∧ rD F v kvs ∧ rL rC F u fl ∧ LockOk kvs ∧ (∀ c ∈ fl, isFlag c) ∧ (∀ c, (fl.count c : Int) ≤ lk kvs c) ∧ Pf tbs F H Q rD (takeL kvs fl)
theorem ok_taken {f : Addr} {fd : FuncData} (Fu : Fun K "taken" "taken" s_taken f fd) (T : Txt K mg) (C_plain_locker : Cf P w K mg base 1 "plain_locker" (spPlain tbs)) : FnOk P w K mg base L2.CX0 2 f fd ["locker", "flags"] (spTaken tbs) := by
  refine Fu.ok sc_taken (fun vs H Q E h => ?_) (fun cdv A outer s H vs Q E hr h => ?_)
  · obtain ⟨F, v, u, kvs, fl, _, rfl, _⟩ := h
    rfl
  · obtain ⟨F, v, u, kvs, fl, sm, rfl, hv, hw, ok, hf, hcn, q⟩ := h
    have hu := hu_of hr
    obtain ⟨a, rfl, ha⟩ := hv
    obtain ⟨b, rfl, hb⟩ := rL_C hw
    refine ⟨_, 
      (pss_cons (ps_set (i := 2) sc_taken.nd rfl (Or.inl rfl) (pe_callTy call_dictD (by rfl) T.b_dict (by decide +kernel) (pa_cons (pv 0) pa_nil)))
      (pss_cons (ps_for PassesOwn.never rfl (pi_list (pv 1)) (pg_name (i := 3) sc_taken.nd rfl (Or.inl rfl))
        (pss_cons (ps_if (pt_cmpR op_eq (pe_dget2 hu (pv 2) (pv 3) pe_int ⟨by rfl, by rfl, by rfl, by rfl⟩) pe_int (nomark _))
          (pss_one ps_never) pss_nil)
        (pss_one (ps_daug hu (pv 2) (pv 3) pe_int in_sub (fun _ _ _ => rfl)))))
      (pss_one (ps_ret (pe_cf C_plain_locker hr (by decide) (by rfl) (pa_cons (pv 2) pa_nil)))))), ?_⟩
    refine ⟨_, rfl, a, _, rfl, .inl (sm _ _ ha), fun d nd => ?_⟩
    have fr0 := (Fr.begin (T := tbs) sm).new (o := .dK (dk kvs)) nd
    have ow0 := (Fr.begin (T := tbs) sm).own (o := .dK (dk kvs)) nd
    refine ⟨_, rfl, b, rfl, ⟨_, SqL.of (fr0.fh _ _ hb)⟩, for_list (K := K) (a := b) (xs := fl.map fun c => V.str (chr c)) (fun i σ H' => ∃ v3, σ = [some (.ref a), some (.ref b), some (.ref d), v3] ∧ Fr tbs F H F H' ∧ Own H F H' d (.dK (dk (subAll kvs (fl.take i))))) ?_ ?_ ?_ ?_⟩
    · exact ⟨none, rfl, fr0, ow0⟩
    · rintro i σ H' _ ⟨_, _, fr, _⟩
      exact SqL.of (fr.fh _ _ hb)
    · rintro i x σ H' hx ⟨v3, rfl, fr, ow⟩
      rw [List.getElem?_map] at hx
      cases hc : fl[i]? with
      | none => rw [hc] at hx; cases hx
      | some c =>
      rw [hc] at hx
      obtain rfl : V.str (chr c) = x := Option.some.inj hx
      have cnt : ∀ d, ((fl.take i).count d : Int) ≤ lk kvs d := fun d => by
        have := (List.take_sublist i fl).count_le d
        have := hcn d
        omega
      have oki : LockOk (subAll kvs (fl.take i)) := subAll_ok ok (fun x hx => hf x (List.mem_of_mem_take hx)) cnt
      have pos : 1 ≤ lk (subAll kvs (fl.take i)) c := by
        rw [lk_subAll]
        have h1 := (List.take_sublist (i + 1) fl).count_le c
        rw [take_snoc hc, List.count_append, List.count_singleton, if_pos (by simp)] at h1
        have := hcn c
        omega
      refine ⟨_, rfl, d, rfl, .inl ⟨_, .inl ow.at_⟩, _, rfl, _, DGet.k (k := kC c) ow.at_, ?_⟩
      rw [lk_get]
      refine ⟨rfl, _, rfl, ite2 (fun c1 => ?_) (fun _ => ?_)⟩
      · have e : lk (subAll kvs (fl.take i)) c = 0 := V.int.inj (of_decide_eq_true c1)
        omega
      have g := DGet.k (k := kC c) ow.at_
      rw [dk_val (by omega)] at g
      refine ⟨_, rfl, _, rfl, d, _, rfl, g, _, _, rfl, rfl, _, DPut.k (k := kC c) ow.at_ ?_, ?_⟩
      · unfold dk
        rw [List.length_map]
        exact small1000 (by have := oki.len; omega)
      · rw [dk_put]
        refine ⟨_, rfl, fr.put ow trivial, ?_⟩
        rw [take_snoc hc, subAll_snoc]
        exact ow.put
    · rintro σ H' ⟨v3, rfl, fr, ow⟩
      rw [List.length_map, List.take_length] at ow
      refine ⟨_, rfl, F, d, subAll kvs fl, fr.fh, rfl, ow.at_, subAll_ok ok hf hcn, fun F' H2 v2 fr2 hv2 => ?_⟩
      exact q _ _ _ (fr.trans fr2) hv2
end
end Fl

/-! FlHal -/
/-! The plain law of halyards. -/
namespace Fl
open PySem L2
abbrev rHal : Rp (List (Option (List Nat))) := rL (rO (rL rC))
theorem mo_Hal : Mo rHal := mo_L (mo_O (mo_L mo_C))
structure HalOk (hs : List (Option (List Nat))) : Prop where
  few : hs.length ≤ 6
  ok : ∀ h, some h ∈ hs → HoistOk h
def hoistAt (hs : List (Option (List Nat))) (k : Nat) : List Nat := (hs.getD k none).getD []
def hangsAt (hs : List (Option (List Nat))) (k : Nat) : Bool := (hs.getD k none).isSome
def othersOf (hs : List (Option (List Nat))) (n : Nat) : List Nat := (List.range hs.length).filter fun k => decide (k ≠ n) && hangsAt hs k
def flagsOf (hs : List (Option (List Nat))) (ks : List Nat) : List Nat := ks.flatMap (hoistAt hs)
def wordsW (hs : List (Option (List Nat))) (wo : List Nat) (low : List Nat) : List (List Nat) := wo :: low.map fun k => readOf (hoistAt hs k)
def behindOf (hs : List (Option (List Nat))) : List (Nat × List Nat) → List (Option (List Nat))
  | [] => hs
  | p :: ps => behindOf (hs.set p.1 (some p.2)) ps
theorem behind_snoc (p : Nat × List Nat) : ∀ (ps : List (Nat × List Nat)) (hs : List (Option (List Nat))), behindOf hs (ps ++ [p]) = (behindOf hs ps).set p.1 (some p.2)
  | [], _ => rfl
  | q :: ps, hs => behind_snoc p ps _
theorem behind_len : ∀ (ps : List (Nat × List Nat)) (hs : List (Option (List Nat))), (behindOf hs ps).length = hs.length
  | [], _ => rfl
  | q :: ps, hs => by
    show (behindOf _ ps).length = _
    rw [behind_len ps, List.length_set]
theorem hoist_flag {h : List Nat} (ok : HoistOk h) : ∀ c ∈ h, isFlag c := fun c hc => by
  obtain ⟨i, hi, e⟩ := List.getElem_of_mem hc
  have e' : h[i]? = some c := by rw [List.getElem?_eq_getElem hi, e]
  rcases ok.fits i c e' with z | z
  · exact .inl z
  · exact .inr z.1
theorem hoistAt_eq {hs : List (Option (List Nat))} {k : Nat} {h : List Nat} (e : hs[k]? = some (some h)) : hoistAt hs k = h := by
  unfold hoistAt
  rw [List.getD_eq_getElem?_getD, e]
  rfl
theorem hoistAt_none {hs : List (Option (List Nat))} {k : Nat} (e : hs[k]? = some none) : hoistAt hs k = [] := by
  unfold hoistAt
  rw [List.getD_eq_getElem?_getD, e]
  rfl
theorem hoistAt_flag {hs : List (Option (List Nat))} (ok : HalOk hs) (k : Nat) : ∀ c ∈ hoistAt hs k, isFlag c := fun c hc => by
  cases e : hs[k]? with
  | none =>
    unfold hoistAt at hc
    rw [List.getD_eq_getElem?_getD, e] at hc
    cases hc
  | some o =>
    cases o with
    | none => rw [hoistAt_none e] at hc; cases hc
    | some h =>
      rw [hoistAt_eq e] at hc
      exact hoist_flag (ok.ok h (List.mem_of_getElem? e)) c hc
theorem hoistAt_len {hs : List (Option (List Nat))} (ok : HalOk hs) (k : Nat) : (hoistAt hs k).length ≤ 7 := by
  cases e : hs[k]? with
  | none =>
    unfold hoistAt
    rw [List.getD_eq_getElem?_getD, e]
    exact Nat.zero_le _
  | some o =>
    cases o with
    | none => rw [hoistAt_none e]; exact Nat.zero_le _
    | some h =>
      rw [hoistAt_eq e]
      exact (ok.ok h (List.mem_of_getElem? e)).most
theorem flagsOf_flag {hs : List (Option (List Nat))} (ok : HalOk hs) (ks : List Nat) : ∀ c ∈ flagsOf hs ks, isFlag c := fun c hc => by
  obtain ⟨k, _, h⟩ := List.mem_flatMap.mp hc
  exact hoistAt_flag ok k c h
theorem flagsOf_len {hs : List (Option (List Nat))} (ok : HalOk hs) : ∀ ks : List Nat, (flagsOf hs ks).length ≤ 7 * ks.length
  | [] => Nat.le_refl 0
  | k :: ks => by
    have h1 := hoistAt_len ok k
    have h2 := flagsOf_len ok ks
    unfold flagsOf at h2 ⊢
    rw [List.flatMap_cons, List.length_append, List.length_cons]
    omega
theorem flagsOf_snoc (hs : List (Option (List Nat))) (ks : List Nat) (k : Nat) : flagsOf hs (ks ++ [k]) = flagsOf hs ks ++ hoistAt hs k := by
  unfold flagsOf
  rw [List.flatMap_append, List.flatMap_cons, List.flatMap_nil, List.append_nil]
/-- what a hoist reads to is a word -/
theorem read_letters {h : List Nat} (ok : HoistOk h) : ∀ c ∈ readOf h, isLet c := by
  have : ∀ i, i ≤ h.length → ∀ c ∈ readOf (h.take i), isLet c := by
    intro i
    induction i with
    | zero => intro _ c hc; rw [List.take_zero] at hc; cases hc
    | succ i ih =>
      intro hi c hc
      have il : i < h.length := hi
      have e := List.getElem?_eq_getElem il
      have len : (readOf (h.take i)).length = i := by rw [read_len, List.length_take]; omega
      rw [read_take h e] at hc
      unfold readStep at hc
      rcases List.mem_append.mp hc with z | z
      · exact ih (by omega) c z
      · rw [List.mem_singleton] at z
        by_cases l : isLet h[i]
        · rw [if_pos l] at z; rw [z]; exact l
        · rw [if_neg l] at z
          rcases ok.fits i _ e with y | ⟨⟨y1, y2⟩, y3⟩
          · exact absurd y l
          · have jl : h[i] - 49 < (readOf (h.take i)).length := by rw [len]; omega
            rw [List.getD_eq_getElem?_getD, List.getElem?_eq_getElem jl] at z
            refine ih (by omega) c ?_
            rw [z]
            exact List.getElem_mem jl
  have := this h.length (Nat.le_refl _)
  rwa [List.take_length] at this
theorem wordsW_ok {hs : List (Option (List Nat))} (ok : HalOk hs) {wo : List Nat} (hw : 1 ≤ wo.length ∧ wo.length ≤ 7 ∧ ∀ c ∈ wo, isLet c) {low : List Nat} (hl : low.length ≤ 6) (hk : ∀ k ∈ low, ∃ h, hs[k]? = some (some h)) : WordsOk (wordsW hs wo low) := by
  refine ⟨by unfold wordsW; rw [List.length_cons, List.length_map]; omega, fun x hx => ?_⟩
  rcases List.mem_cons.mp hx with e | e
  · rw [e]; exact hw
  · obtain ⟨k, hkm, rfl⟩ := List.mem_map.mp e
    obtain ⟨h, hh⟩ := hk k hkm
    rw [hoistAt_eq hh]
    have okh := ok.ok h (List.mem_of_getElem? hh)
    exact ⟨by rw [read_len]; exact okh.pos, by rw [read_len]; exact okh.most, read_letters okh⟩
theorem others_at {hs : List (Option (List Nat))} {n k : Nat} (h : k ∈ othersOf hs n) : k ≠ n ∧ ∃ x, hs[k]? = some (some x) := by
  obtain ⟨h1, h2⟩ := List.mem_filter.mp h
  rw [List.mem_range] at h1
  rw [Bool.and_eq_true] at h2
  refine ⟨of_decide_eq_true h2.1, ?_⟩
  have e := List.getElem?_eq_getElem h1
  have h3 := h2.2
  unfold hangsAt at h3
  rw [List.getD_eq_getElem?_getD, e] at h3
  obtain ⟨x, hx⟩ := Option.isSome_iff_exists.mp h3
  have hx : hs[k] = some x := hx
  exact ⟨x, by rw [e, hx]⟩
theorem others_sub (hs : List (Option (List Nat))) (n : Nat) : (othersOf hs n).Sublist (List.range hs.length) := List.filter_sublist
theorem others_len {hs : List (Option (List Nat))} (ok : HalOk hs) {n : Nat} (hn : n < hs.length) : (othersOf hs n).length ≤ 5 := by
  have nd : (n :: othersOf hs n).Nodup := List.nodup_cons.mpr ⟨fun z => (others_at z).1 rfl, (others_sub hs n).nodup List.nodup_range⟩
  have := nodup_len_le nd (n := hs.length) fun x hx => by
    rcases List.mem_cons.mp hx with e | e
    · rw [e]; exact hn
    · exact List.mem_range.mp ((others_sub hs n).mem e)
  rw [List.length_cons] at this
  have := ok.few
  omega
end Fl

/-! DefSets -/
namespace Fl
open PySem L2
section
variable {P : Program} {w : World} {K : PySem.W.Frag} {mg : PySem.Str → Option Value} {base : Heap} {tbs : List (Addr × PySem.Str)}
abbrev s_sets_of : Stmt := top 30
abbrev N_sets_of : List PySem.Str := ["numbers", "found", "size"]
theorem sc_sets_of : FnScope N_sets_of ["numbers"] (defScope s_sets_of) := ⟨rfl, rfl, rfl, by decide +kernel, rfl, by decide +kernel, by decide +kernel⟩
def spSets (tbs : List (Addr × PySem.Str)) : Sp := fun vs H Q _ => ∃ (F : Hp) (v : V) (ns : List Nat), L2.Same F H ∧ vs = [v] ∧ rL rN F v ns ∧ ns.length ≤ 5 ∧ Pf tbs F H Q (rL (rL rN)) (setsOf ns)
theorem ok_sets_of {f : Addr} {fd : FuncData} (Fu : Fun K "sets_of" "sets_of" s_sets_of f fd) (T : Txt K mg) (C_rising_lists : Cf P w K mg base 6 "rising_lists" (spRising tbs 6)) : FnOk P w K mg base L2.CX0 7 f fd ["numbers"] (spSets tbs) := by
  refine Fu.ok sc_sets_of (fun vs H Q E h => ?_) (fun cdv A outer s H vs Q E hr h => ?_)
  · obtain ⟨F, v, ns, _, rfl, _⟩ := h
    rfl
  · obtain ⟨F, v, ns, sm, rfl, hv, h5, q⟩ := h
    have hv0 := hv
    obtain ⟨a, rfl, ha⟩ := rL_N hv
    have ln : (ns.map nV).length = ns.length := List.length_map _
    refine ⟨_, 
      (pss_cons (ps_set (i := 1) sc_sets_of.nd rfl (Or.inl rfl) (pe_lst pa_nil))
      (pss_cons (ps_for PassesOwn.never rfl (pi_range1 (by rfl) T.b_range (pa_cons (pe_op op_add (pe_callB call_len_seq (by rfl) T.b_len PySem.boot_len (pa_cons (pv 0) pa_nil)) pe_int) pa_nil)) (pg_name (i := 2) sc_sets_of.nd rfl (Or.inl rfl))
        (pss_one (ps_expr (pe_bm PySem.F.plainAttrs_list PySem.F.slot_list_extend PySem.F.type_list_extend mt_extend (pv 1) (pa_cons (pe_cf C_rising_lists hr (by decide) (by rfl) (pa_cons (pv 0) (pa_cons (pv 2) pa_nil))) pa_nil)))))
      (pss_one (ps_ret (pv 1))))), ?_⟩
    refine ⟨Nat.zero_le _, fun d nd => ?_⟩
    have fr0 := (Fr.begin (T := tbs) sm).new (o := .lst []) nd
    have ow0 := (Fr.begin (T := tbs) sm).own (o := .lst []) nd
    have fl : ∀ k, (risingL k ns).length ≤ 32 := fun k => Nat.le_trans (rising_len _ _) (pow5 h5)
    refine ⟨_, rfl, a, _, rfl, .inl (SqL.of (fr0.fh _ _ ha)), _, _, rfl, rfl, _, rfl, by rw [ln]; omega, by rw [ln]; omega, ?_⟩
    refine for_range (lo := 0) (fun j σ H' => ∃ v2 F' xs, σ = [some (.ref a), some (.ref d), v2] ∧ Fr tbs F H F' H' ∧ Own H F' H' d (.lst xs) ∧ Al (rL rN F') xs ((List.range j).flatMap fun s => risingL s ns)) ?_ ?_ ?_
    · exact ⟨none, F, [], rfl, fr0, ow0, trivial⟩
    · rintro j σ H' hj ⟨v2, F', xs, rfl, fr, ow, al⟩
      have hj : j < ns.length + 1 := by rw [ln] at hj; omega
      have e0 : V.int (0 + (j : Int)) = nV j := by rw [Int.zero_add]
      rw [e0]
      refine ⟨_, rfl, .inl ⟨rfl, _, SqL.of ow.at_⟩, _, rfl, _, rfl, F', .ref a, ns, j, fr.fh, rfl, (mo_L mo_N).up fr.ff hv0, by omega, by omega, h5, fun F2 H2 v2 fr2 hv2 => ?_⟩
      obtain ⟨b, ys, rfl, hb, alb⟩ := hv2
      have ow2 := ow.call ntb_lst fr2
      refine ⟨d, b, xs, ys, rfl, rfl, ow2.at_, fr2.fh _ _ hb, ?_, _, F2, _, rfl, (fr.trans fr2).put ow2 trivial, ow2.put, ?_⟩
      · rw [al.len, alb.len]
        have h1 := flat_len_le (fun s => risingL s ns) 32 fl j
        have h2 := fl j
        exact smallK (by omega)
      · rw [flat_range]
        exact Al.app alb ((mo_L mo_N).al fr2.ff al)
    · rintro σ H' ⟨v2, F', xs, rfl, fr, ow, al⟩
      have e : (((ns.map nV).length : Int) + 1).toNat = ns.length + 1 := by rw [ln]; omega
      rw [e] at al
      exact ⟨_, rfl, q _ _ _ (fr.freeze ow) ⟨d, xs, rfl, upd_same, (mo_L mo_N).al (same_upd ow.f) al⟩⟩
abbrev s_others_hung : Stmt := top 29
abbrev N_others_hung : List PySem.Str := ["halyards", "number", "k"]
theorem sc_others_hung : FnScope N_others_hung ["halyards", "number"] (defScope s_others_hung) := ⟨rfl, rfl, rfl, by decide +kernel, rfl, by decide +kernel, by decide +kernel⟩
def spOthers (tbs : List (Addr × PySem.Str)) : Sp := fun vs H Q _ => ∃ (F : Hp) (v : V) (hs : List (Option (List Nat))) (n : Nat), L2.Same F H ∧ vs = [v, nV n] ∧ rHal F v hs ∧ HalOk hs ∧ Pf tbs F H Q (rL rN) (othersOf hs n)
theorem ok_others_hung {f : Addr} {fd : FuncData} {k : Nat} (Fu : Fun K "others_hung" "others_hung" s_others_hung f fd) (T : Txt K mg) : FnOk P w K mg base L2.CX0 (k + 1) f fd ["halyards", "number"] (spOthers tbs) := by
  refine Fu.ok sc_others_hung (fun vs H Q E h => ?_) (fun cdv A outer s H vs Q E hr h => ?_)
  · obtain ⟨F, v, hs, n, _, rfl, _⟩ := h
    rfl
  · obtain ⟨F, v, hs, n, sm, rfl, hv, ok, q⟩ := h
    obtain ⟨a, xs, rfl, ha, al⟩ := hv
    have ln := al.len
    have l6 := ok.few
    refine ⟨_, 
      (pss_one (ps_ret (pe_lc (own := ([("k", 2)] : List (PySem.Str × Nat))) rfl sc_others_hung.nd (pi_range1 (by rfl) T.b_range (pa_cons (pe_callB call_len_seq (by rfl) T.b_len PySem.boot_len (pa_cons (pv 0) pa_nil)) pa_nil)) (blkOk_by (own := ([("k", 2)] : List (PySem.Str × Nat))) (N := N_others_hung) (sc := defScope s_others_hung) (by decide +kernel)) (fun _ _ _ _ _ => (pg_name (i := 2) sc_others_hung.nd rfl (Or.inl rfl))) (fun _ _ _ _ _ => (pts_one (PW.pt (pw_and (pt_cmpR op_ne (pv 2) (pv 1) (nomark _)) (pw_and1 (pt_cmpR op_notN (pe_ix (ix_listK K) (pv 0) (pv 2) (fun _ _ => rfl)) pe_non (nomark _))))))) (fun _ _ _ _ _ => (pv 2))))), ?_⟩
    refine ⟨_, rfl, a, _, rfl, .inl (SqL.of (sm _ _ ha)), _, rfl, by omega, by omega, fun D nD => ?_⟩
    let pk : List Nat → List Nat := fun l => l.filter fun k => decide (k ≠ n) && hangsAt hs k
    refine lc_range (lo := 0) (fun i H' => H' = upd H D (.lst ((pk (List.range i)).map nV))) rfl ?_ ?_
    · rintro i H' hi rfl
      have hi : i < hs.length := by omega
      have e0 : V.int (0 + (i : Int)) = nV i := by rw [Int.zero_add]
      rw [e0]
      refine ⟨rfl, ?_⟩
      obtain ⟨o, ho⟩ : ∃ o, hs[i]? = some o := ⟨_, List.getElem?_eq_getElem hi⟩
      obtain ⟨x, hx, hxo⟩ := al.at ho
      have ha' : upd H D (.lst ((pk (List.range i)).map nV)) a = some (.lst xs) := by rw [upd_ne (ne_of_none (sm _ _ ha) nD)]; exact sm _ _ ha
      have rs : pk (List.range (i + 1)) = pk (List.range i) ++ (if (decide (i ≠ n) && hangsAt hs i) = true then [i] else []) := by
        show List.filter _ _ = List.filter _ _ ++ _
        rw [List.range_succ, List.filter_append]
        congr 1
        by_cases c : (decide (i ≠ n) && hangsAt hs i) = true
        · rw [if_pos c, List.filter_cons, if_pos c]; rfl
        · rw [if_neg c, List.filter_cons, if_neg c]; rfl
      have hg : hangsAt hs i = o.isSome := by
        unfold hangsAt
        rw [List.getD_eq_getElem?_getD, ho]
        rfl
      refine ⟨_, rfl, _, rfl, rfl, _, rfl, ite2 (fun c => ?_) (fun c => iteF ?_)⟩
      · have c1 : i ≠ n := fun z => by
          rw [z] at c
          simp at c
        refine ⟨_, rfl, _, rfl, a, _, _, x, rfl, rfl, SqL.of ha', at_of rfl hx, rfl, _, rfl, ?_⟩
        cases o with
        | none =>
          obtain rfl : x = .non := hxo
          refine iteF ?_
          rw [rs, hg, if_neg (by simp), List.append_nil]
        | some y =>
          rw [decide_eq_false hxo.1]
          refine iteT ⟨_, rfl, _, upd_same, ?_, ?_⟩
          · rw [List.length_map]
            have := List.length_filter_le (fun k => decide (k ≠ n) && hangsAt hs k) (List.range i)
            rw [List.length_range] at this
            exact small1000 (by show (List.filter _ _).length ≤ 1000; omega)
          · rw [upd_upd, rs, hg, if_pos (by simp [c1]), List.map_append]
            rfl
      · have c1 : i = n := by
          by_cases z : i = n
          · exact z
          · refine absurd ?_ c
            show (!decide (nV i = nV n)) = true
            rw [decide_eq_false (fun y => z (by have := V.int.inj y; omega))]
            rfl
        rw [rs, if_neg (by simp [c1]), List.append_nil]
    · rintro H' rfl
      have e : ((xs.length : Nat) : Int).toNat = hs.length := by omega
      rw [e]
      exact q _ _ _ ((Fr.begin sm).lay nD) (rL_mkN upd_same)
abbrev s_words_with : Stmt := top 31
abbrev N_words_with : List PySem.Str := ["halyards", "word", "lowered", "k"]
theorem sc_words_with : FnScope N_words_with ["halyards", "word", "lowered"] (defScope s_words_with) := ⟨rfl, rfl, rfl, by decide +kernel, rfl, by decide +kernel, by decide +kernel⟩
def spWordsWith (tbs : List (Addr × PySem.Str)) : Sp := fun vs H Q _ => ∃ (F : Hp) (v u : V) (hs : List (Option (List Nat))) (wo low : List Nat), L2.Same F H ∧ vs = [v, .str (wd wo), u] ∧ rHal F v hs ∧ HalOk hs ∧ rL rN F u low ∧ low.length ≤ 6 ∧ (∀ k ∈ low, ∃ h, hs[k]? = some (some h)) ∧ Pf tbs F H Q (rL rW) (wordsW hs wo low)
theorem ok_words_with {f : Addr} {fd : FuncData} (Fu : Fun K "words_with" "words_with" s_words_with f fd) (T : Txt K mg) (C_read_of : Cf P w K mg base 3 "read_of" (spReadOf tbs)) : FnOk P w K mg base L2.CX0 4 f fd ["halyards", "word", "lowered"] (spWordsWith tbs) := by
  refine Fu.ok sc_words_with (fun vs H Q E h => ?_) (fun cdv A outer s H vs Q E hr h => ?_)
  · obtain ⟨F, v, u, hs, wo, low, _, rfl, _⟩ := h
    rfl
  · obtain ⟨F, v, u, hs, wo, low, sm, rfl, hv, ok, hl, l6, hk, q⟩ := h
    obtain ⟨a, xs, rfl, ha, al⟩ := hv
    obtain ⟨b, rfl, hb⟩ := rL_N hl
    refine ⟨_, 
      (pss_one (ps_ret (pe_op op_cat (pe_lst (pa_cons (pv 1) pa_nil)) (pe_lc (own := ([("k", 3)] : List (PySem.Str × Nat))) rfl sc_words_with.nd (pi_list (pv 2)) (blkOk_by (own := ([("k", 3)] : List (PySem.Str × Nat))) (N := N_words_with) (sc := defScope s_words_with) (by decide +kernel)) (fun _ _ _ _ _ => (pg_name (i := 3) sc_words_with.nd rfl (Or.inl rfl))) (fun _ _ _ _ _ => pts_nil) (fun _ _ _ _ _ => (pe_cf C_read_of hr (by decide) (by rfl) (pa_cons (pe_ix (ix_listK K) (pv 0) (pv 3) (fun _ _ => rfl)) pa_nil))))))), ?_⟩
    refine ⟨_, rfl, small7 (by show 1 ≤ 7; omega), fun p np => ?_⟩
    have fr0 := (Fr.begin (T := tbs) sm).new (o := .lst [.str (wd wo)]) np
    have ow0 := (Fr.begin (T := tbs) sm).own (o := .lst [.str (wd wo)]) np
    refine ⟨_, rfl, b, rfl, ⟨_, SqL.of (fr0.fh _ _ hb)⟩, fun D nD => ?_⟩
    have npD : p ≠ D := ne_of_none upd_same nD
    refine lc_list (K := K) (a := b) (xs := low.map nV) (fun i H' => Fr tbs F H F H' ∧ Own H F H' p (.lst [.str (wd wo)]) ∧ Own H F H' D (.lst ((low.take i).map fun k => V.str (wd (readOf (hoistAt hs k)))))) ?_ ?_ ?_ ?_
    · exact ⟨fr0.new nD, ow0.new nD, fr0.own nD⟩
    · rintro i H' _ ⟨fr, _⟩
      exact SqL.of (fr.fh _ _ hb)
    · rintro i x H' hx ⟨fr, owp, ow⟩
      rw [List.getElem?_map] at hx
      cases hc : low[i]? with
      | none => rw [hc] at hx; cases hx
      | some k =>
      rw [hc] at hx
      obtain rfl : nV k = x := Option.some.inj hx
      obtain ⟨h, hh⟩ := hk k (List.mem_of_getElem? hc)
      obtain ⟨y, hy, hyo⟩ := al.at hh
      have okh := ok.ok h (List.mem_of_getElem? hh)
      refine ⟨rfl, ?_⟩
      refine ⟨_, rfl, _, rfl, a, _, _, y, rfl, rfl, SqL.of (fr.fh _ _ ha), at_of rfl hy, F, y, h, fr.fh, rfl, hyo.2, okh, fun H2 fr2 => ?_⟩
      have frc := fr.trans fr2
      have ow2 := ow.call ntb_lst fr2
      have owp2 := owp.call ntb_lst fr2
      refine ⟨_, ow2.at_, ?_, frc.put ow2 trivial, owp2.other npD, ?_⟩
      · rw [List.length_map, List.length_take]
        exact small1000 (by omega)
      · rw [take_snoc hc, List.map_append]
        have e : readOf h = readOf (hoistAt hs k) := by rw [hoistAt_eq hh]
        rw [e]
        exact ow2.put
    · rintro H' ⟨fr, owp, ow⟩
      rw [List.length_map, List.take_length] at ow
      refine ⟨p, D, _, _, rfl, rfl, owp.at_, ow.at_, ?_, fun r nr => ?_⟩
      · rw [List.length_map]
        exact small7 (by show 1 + _ ≤ 7; omega)
      · exact q _ _ _ (fr.lay nr) (rL_mkW (by
          rw [upd_same]
          unfold wordsW
          rw [List.map_cons, List.map_map]
          rfl))
abbrev s_locker_with : Stmt := top 32
abbrev N_locker_with : List PySem.Str := ["locker", "halyards", "numbers", "flags", "k"]
theorem sc_locker_with : FnScope N_locker_with ["locker", "halyards", "numbers"] (defScope s_locker_with) := ⟨rfl, rfl, rfl, by decide +kernel, rfl, by decide +kernel, by decide +kernel⟩
def spLockerWith (tbs : List (Addr × PySem.Str)) : Sp := fun vs H Q _ => ∃ (F : Hp) (v u z : V) (kvs : List (Nat × Int)) (hs : List (Option (List Nat))) (ks : List Nat), L2.Same F H ∧ vs = [v, u, z] ∧ rD F v kvs ∧ LockOk kvs ∧ rHal F u hs ∧ HalOk hs ∧ rL rN F z ks ∧ ks.length ≤ 7 ∧ (∀ k ∈ ks, k < hs.length) ∧ Pf tbs F H Q rD (putIn kvs (flagsOf hs ks))
theorem ok_locker_with {f : Addr} {fd : FuncData} (Fu : Fun K "locker_with" "locker_with" s_locker_with f fd) (T : Txt K mg) (C_put_in : Cf P w K mg base 2 "put_in" (spPutIn tbs)) : FnOk P w K mg base L2.CX0 3 f fd ["locker", "halyards", "numbers"] (spLockerWith tbs) := by
  refine Fu.ok sc_locker_with (fun vs H Q E h => ?_) (fun cdv A outer s H vs Q E hr h => ?_)
  · obtain ⟨F, v, u, z, kvs, hs, ks, _, rfl, _⟩ := h
    rfl
  · obtain ⟨F, v, u, z, kvs, hs, ks, sm, rfl, hv, lok, hu, ok, hz, l7, hks, q⟩ := h
    obtain ⟨a, xs, rfl, ha, al⟩ := hu
    obtain ⟨b, rfl, hb⟩ := rL_N hz
    refine ⟨_, 
      (pss_cons (ps_set (i := 3) sc_locker_with.nd rfl (Or.inl rfl) (pe_lst pa_nil))
      (pss_cons (ps_for PassesOwn.never rfl (pi_list (pv 2)) (pg_name (i := 4) sc_locker_with.nd rfl (Or.inl rfl))
        (pss_one (ps_if (pt_cmpR op_notN (pe_ix ix_list (pv 1) (pv 4) (fun _ _ => rfl)) pe_non (nomark _))
          (pss_one (ps_expr (pe_bm PySem.F.plainAttrs_list PySem.F.slot_list_extend PySem.F.type_list_extend mt_extend (pv 3) (pa_cons (pe_ix ix_list (pv 1) (pv 4) (fun _ _ => rfl)) pa_nil)))) pss_nil)))
      (pss_one (ps_ret (pe_cf C_put_in hr (by decide) (by rfl) (pa_cons (pv 0) (pa_cons (pv 3) pa_nil))))))), ?_⟩
    refine ⟨Nat.zero_le _, fun d nd => ?_⟩
    have fr0 := (Fr.begin (T := tbs) sm).new (o := .lst []) nd
    have ow0 := (Fr.begin (T := tbs) sm).own (o := .lst []) nd
    refine ⟨_, rfl, b, rfl, ⟨_, SqL.of (fr0.fh _ _ hb)⟩, for_list (K := K) (a := b) (xs := ks.map nV) (fun i σ H' => ∃ v4, σ = [some v, some (.ref a), some (.ref b), some (.ref d), v4] ∧ Fr tbs F H F H' ∧ Own H F H' d (.lst ((flagsOf hs (ks.take i)).map fun c => V.str (chr c)))) ?_ ?_ ?_ ?_⟩
    · exact ⟨none, rfl, fr0, ow0⟩
    · rintro i σ H' _ ⟨_, _, fr, _⟩
      exact SqL.of (fr.fh _ _ hb)
    · rintro i x σ H' hx ⟨v4, rfl, fr, ow⟩
      rw [List.getElem?_map] at hx
      cases hc : ks[i]? with
      | none => rw [hc] at hx; cases hx
      | some k =>
      rw [hc] at hx
      obtain rfl : nV k = x := Option.some.inj hx
      have hkl := hks k (List.mem_of_getElem? hc)
      obtain ⟨o, ho⟩ : ∃ o, hs[k]? = some o := ⟨_, List.getElem?_eq_getElem hkl⟩
      obtain ⟨y, hy, hyo⟩ := al.at ho
      have ts := take_snoc hc
      refine ⟨_, rfl, _, rfl, a, _, _, y, rfl, rfl, SqL.of (fr.fh _ _ ha), at_of rfl hy, rfl, _, rfl, ?_⟩
      cases o with
      | none =>
        obtain rfl : y = .non := hyo
        refine iteF ⟨_, rfl, fr, ?_⟩
        rw [ts, flagsOf_snoc, hoistAt_none ho, List.append_nil]
        exact ow
      | some h =>
        obtain ⟨yn, hyl⟩ := hyo
        obtain ⟨c, rfl, hc2⟩ := rL_C hyl
        refine iteT ?_
        refine ⟨_, rfl, .inl ⟨rfl, _, SqL.of ow.at_⟩, _, rfl, _, rfl, a, _, _, .ref c, rfl, rfl, SqL.of (fr.fh _ _ ha), at_of rfl hy, d, c, _, _, rfl, rfl, ow.at_, fr.fh _ _ hc2, ?_, ?_⟩
        · rw [List.length_map, List.length_map]
          have h1 := flagsOf_len ok (ks.take i)
          have h2 := (ok.ok h (List.mem_of_getElem? ho)).most
          rw [List.length_take] at h1
          exact smallK (by omega)
        · refine ⟨_, rfl, fr.put ow trivial, ?_⟩
          rw [ts, flagsOf_snoc, hoistAt_eq ho, List.map_append]
          exact ow.put
    · rintro σ H' ⟨v4, rfl, fr, ow⟩
      rw [List.length_map, List.take_length] at ow
      have fr2 := fr.freeze ow
      refine ⟨_, rfl, _, rfl, _, v, .ref d, kvs, flagsOf hs ks, fr2.fh, rfl, mo_D.up fr2.ff hv, rL_mkC upd_same, lok, flagsOf_flag ok ks, fun F' H2 v2 fr3 hv2 => ?_⟩
      exact q _ _ _ (fr2.trans fr3) hv2
abbrev s_rehung : Stmt := top 33
abbrev N_rehung : List PySem.Str := ["locker", "halyards", "numbers", "hoists", "hoist", "behind", "flags", "k"]
theorem sc_rehung : FnScope N_rehung ["locker", "halyards", "numbers", "hoists"] (defScope s_rehung) := ⟨rfl, rfl, rfl, by decide +kernel, rfl, by decide +kernel, by decide +kernel⟩
def spRehung (tbs : List (Addr × PySem.Str)) : Sp := fun vs H Q _ => ∃ (F : Hp) (v u z y : V) (kvs : List (Nat × Int)) (hs : List (Option (List Nat))) (ks : List Nat) (hos : List (List Nat)), L2.Same F H ∧ vs = [v, u, z, y] ∧ rD F v kvs ∧ LockOk kvs ∧ rHal F u hs ∧ HalOk hs ∧ rL rN F z ks ∧ ks.length ≤ 7 ∧ (∀ k ∈ ks, k < hs.length) ∧
  rL (rL rC) F y hos ∧ hos.length = ks.length ∧ (∀ h ∈ hos, h.length ≤ 7 ∧ ∀ c ∈ h, isFlag c) ∧ (∀ c, (hos.flatten.count c : Int) ≤ lk kvs c) ∧ Pf tbs F H Q (rP rHal rD) (behindOf hs (ks.zip hos), takeL kvs hos.flatten)
theorem flat7 : ∀ {hos : List (List Nat)}, (∀ h ∈ hos, h.length ≤ 7) → hos.flatten.length ≤ 7 * hos.length
  | [], _ => Nat.le_refl 0
  | h :: hos, hh => by
    have h1 := hh h (by simp)
    have h2 := flat7 (hos := hos) fun x hx => hh x (List.mem_cons_of_mem _ hx)
    rw [List.flatten_cons, List.length_append, List.length_cons]
    omega
theorem ok_rehung {f : Addr} {fd : FuncData} (Fu : Fun K "rehung" "rehung" s_rehung f fd) (T : Txt K mg) (C_taken : Cf P w K mg base 2 "taken" (spTaken tbs)) : FnOk P w K mg base L2.CX0 3 f fd ["locker", "halyards", "numbers", "hoists"] (spRehung tbs) := by
  refine Fu.ok sc_rehung (fun vs H Q E h => ?_) (fun cdv A outer s H vs Q E hr h => ?_)
  · obtain ⟨F, v, u, z, y, kvs, hs, ks, hos, _, rfl, _⟩ := h
    rfl
  · obtain ⟨F, v, u, z, y, kvs, hs, ks, hos, sm, rfl, hv, lok, hu, ok, hz, l7, hks, hy, lh, h7, hcn, q⟩ := h
    obtain ⟨a, xs, rfl, ha, al⟩ := hu
    obtain ⟨b, rfl, hb⟩ := rL_N hz
    obtain ⟨e, ys, rfl, he, aly⟩ := hy
    have lx := al.len
    have l6 := ok.few
    refine ⟨_, 
      (pss_cons (ps_setLc (i := 5) (own := ([("hoist", 4)] : List (PySem.Str × Nat))) rfl sc_rehung.nd rfl rfl (sw_true rfl rfl rfl (by decide +kernel)) (pi_list (pv 1)) (blkOk_by (own := ([("hoist", 4)] : List (PySem.Str × Nat))) (N := N_rehung) (sc := defScope s_rehung) (by decide +kernel)) (fun _ _ _ _ _ => (pg_name (i := 4) sc_rehung.nd rfl (Or.inl rfl))) (fun _ _ _ _ _ => pts_nil) (fun _ _ _ _ _ => (pe_ifExp (pt_cmpR op_isN (pv 4) pe_non (nomark _)) pe_non (pe_callTy (call_list_ofK K) (by rfl) T.b_list (by decide +kernel) (pa_cons (pv 4) pa_nil)))))
      (pss_cons (ps_set (i := 6) sc_rehung.nd rfl (Or.inl rfl) (pe_lst pa_nil))
      (pss_cons (ps_for PassesOwn.never rfl (pi_zip (by rfl) T.b_zip (pa_cons (pv 2) (pa_cons (pv 3) pa_nil))) (pg_tup rfl (pgs_cons (pg_name (i := 7) sc_rehung.nd rfl (Or.inl rfl)) (pgs_cons (pg_name (i := 4) sc_rehung.nd rfl (Or.inl rfl)) pgs_nil)))
        (pss_cons (ps_asg (pe_callTy call_list_of (by rfl) T.b_list (by decide +kernel) (pa_cons (pv 4) pa_nil)) (pg_sub (pv 5) (pv 7) set_list))
        (pss_one (ps_expr (pe_bm PySem.F.plainAttrs_list PySem.F.slot_list_extend PySem.F.type_list_extend mt_extend (pv 6) (pa_cons (pv 4) pa_nil))))))
      (pss_one (ps_ret (pe_tup (pa_cons (pv 5) (pa_cons (pe_cf C_taken hr (by decide) (by rfl) (pa_cons (pv 0) (pa_cons (pv 6) pa_nil))) pa_nil)))))))), ?_⟩
    refine ⟨_, rfl, a, rfl, ⟨_, SqL.of (sm _ _ ha)⟩, fun D nD => lc_list (K := K) (a := a) (xs := xs) (fun i H' => ∃ F' zs, Fr tbs F H F' H' ∧ Own H F' H' D (.lst zs) ∧ Al (rO (rL rC) F') zs (hs.take i)) ?_ ?_ ?_ ?_⟩
    · exact ⟨F, [], (Fr.begin sm).new nD, (Fr.begin (T := tbs) sm).own nD, by rw [List.take_zero]; trivial⟩
    · rintro i H' _ ⟨F', zs, fr, _⟩
      exact SqL.of (fr.fh _ _ (fr.ff _ _ ha))
    · rintro i x H' hx ⟨F', zs, fr, ow, alz⟩
      obtain ⟨o, ho, hxo⟩ := al.get hx
      have lz : zs.length < sizeLine := by
        rw [alz.len, List.length_take]
        exact small1000 (by omega)
      refine ⟨rfl, ?_⟩
      refine ⟨_, rfl, rfl, _, rfl, ?_⟩
      cases o with
      | none =>
        obtain rfl : x = .non := hxo
        refine iteT ⟨zs, ow.at_, lz, F', _, fr.put ow trivial, ow.put, ?_⟩
        rw [take_snoc ho]
        exact alz.snoc rfl
      | some h =>
        obtain ⟨xn, hxl⟩ := hxo
        rw [decide_eq_false xn]
        obtain ⟨c, rfl, hc⟩ := rL_C hxl
        refine iteF ⟨_, rfl, c, _, rfl, .inl (SqL.of (fr.fh _ _ (fr.ff _ _ hc))), fun p np => ?_⟩
        have fr2 := fr.lay (o := .lst (h.map fun c => V.str (chr c))) np
        have ow2 := ow.lay (o' := .lst (h.map fun c => V.str (chr c))) np
        refine ⟨zs, ow2.at_, lz, _, _, fr2.put ow2 trivial, ow2.put, ?_⟩
        rw [take_snoc ho]
        exact ((mo_O (mo_L mo_C)).al (same_upd (fr.free np).1) alz).snoc ⟨(by intro z; cases z), rL_mkC upd_same⟩
    · rintro H1 ⟨F1, zs, fr1, owD, alz⟩
      rw [lx, List.take_length] at alz
      refine ⟨Nat.zero_le _, fun d nd => ?_⟩
      have fr2 := fr1.new (o := .lst []) nd
      have ow2 := fr1.own (o := .lst []) nd
      have owD2 := owD.new (o' := .lst []) nd
      have ndd : D ≠ d := ne_of_none owD.at_ nd
      have hlen : ys.length = hos.length := aly.len
      have lk2 : (ks.map nV).length = ks.length := List.length_map _
      refine ⟨_, rfl, _, rfl, b, e, _, _, rfl, SqL.of (fr2.fh _ _ (fr1.ff _ _ hb)), SqL.of (fr2.fh _ _ (fr1.ff _ _ he)), ?_⟩
      refine for_it (walk_zip (n := ks.length) (xs := ks.map nV) (ys := ys) (by rw [lk2]; omega)) (fun i σ H' => ∃ v4 v7 F' zs, σ = [some v, some (.ref a), some (.ref b), some (.ref e), v4, some (.ref D), some (.ref d), v7] ∧ Fr tbs F H F' H' ∧ L2.Same F F' ∧ Own H F' H' D (.lst zs) ∧
        Al (rO (rL rC) F') zs (behindOf hs ((ks.zip hos).take i)) ∧ Own H F' H' d (.lst (((hos.take i).flatten).map fun c => V.str (chr c)))) ?_ ?_ ?_ ?_
      · exact ⟨none, none, F1, zs, rfl, fr2, fr2.ff, owD2, alz, ow2⟩
      · rintro i σ H' _ ⟨_, _, F', _, _, fr, sf, _⟩
        exact ⟨SqL.of (fr.fh _ _ (sf _ _ hb)), SqL.of (fr.fh _ _ (sf _ _ he))⟩
      · rintro i x σ H' H'' hi ⟨v4, v7, F', zs, rfl, fr, sf, owD, alz, ow⟩ ⟨t, y1, y2, rfl, nt, rfl, e1, e2⟩
        have e1 : (ks.map nV)[i]? = some y1 := e1
        have e2 : ys[i]? = some y2 := e2
        rw [List.getElem?_map] at e1
        cases hc : ks[i]? with
        | none => rw [hc] at e1; cases e1
        | some k =>
        rw [hc] at e1
        obtain rfl : nV k = y1 := Option.some.inj e1
        obtain ⟨h, hh, hyh⟩ := aly.get e2
        obtain ⟨c, rfl, hc2⟩ := rL_C hyh
        have hkl := hks k (List.mem_of_getElem? hc)
        have lzs : zs.length = hs.length := by rw [alz.len, behind_len]
        have fr3 := fr.new (o := .tup [nV k, .ref c]) nt
        have owD3 := owD.new (o' := .tup [nV k, .ref c]) nt
        have ow3 := ow.new (o' := .tup [nV k, .ref c]) nt
        refine ⟨t, _, rfl, SqT.of upd_same, rfl, _, _, rfl, _, _, rfl, rfl, ?_⟩
        refine ⟨_, rfl, c, _, rfl, .inl (SqL.of (fr3.fh _ _ (sf _ _ hc2))), fun p np => ?_⟩
        have fr4 := fr3.lay (o := .lst (h.map fun c => V.str (chr c))) np
        have owD4 := owD3.lay (o' := .lst (h.map fun c => V.str (chr c))) np
        have ow4 := ow3.lay (o' := .lst (h.map fun c => V.str (chr c))) np
        have s4 : L2.Same F' (upd F' p (.lst (h.map fun c => V.str (chr c)))) := same_upd (fr3.free np).1
        have fr5 := fr4.put (o' := .lst (zs.set k (.ref p))) owD4 trivial
        have ow5 := ow4.other (o' := .lst (zs.set k (.ref p))) ndd.symm
        refine ⟨_, rfl, _, rfl, D, zs, k, k, rfl, rfl, owD4.at_, ixn (by omega), ?_⟩
        refine ⟨_, rfl, .inl ⟨rfl, _, SqL.of ow5.at_⟩, _, rfl, d, c, _, _, rfl, rfl, ow5.at_, fr5.fh _ _ (s4 _ _ (sf _ _ hc2)), ?_, ?_⟩
        · rw [List.length_map, List.length_map]
          have h1 := flat7 (hos := hos.take i) fun x hx => (h7 x (List.mem_of_mem_take hx)).1
          have h2 := (h7 h (List.mem_of_getElem? hh)).1
          rw [List.length_take] at h1
          exact smallK (by omega)
        · have hz : (ks.zip hos)[i]? = some (k, h) := by rw [List.getElem?_zip_eq_some]; exact ⟨hc, hh⟩
          refine ⟨_, _, _, _, rfl, fr5.put ow5 trivial, sf.trans s4, owD4.put.other ndd, ?_, ?_⟩
          · rw [take_snoc hz, behind_snoc]
            exact Al.set ⟨(by intro z; cases z), rL_mkC upd_same⟩ k ((mo_O (mo_L mo_C)).al s4 alz)
          · rw [take_snoc hh, List.flatten_append, List.map_append, List.flatten_cons, List.flatten_nil, List.append_nil]
            exact ow5.put
      · rintro σ H' ⟨v4, v7, F', zs, rfl, fr, sf, owD, alz, ow⟩
        have ez : (ks.zip hos).take ks.length = ks.zip hos := List.take_of_length_le (by rw [List.length_zip]; omega)
        have eh : hos.take ks.length = hos := List.take_of_length_le (by omega)
        rw [ez] at alz
        rw [eh] at ow
        have fr6 := fr.freeze owD
        have ow6 := ow.freeze (o' := .lst zs) (Ne.symm ndd)
        have fr7 := fr6.freeze ow6
        have s7 := (same_upd (o := .lst zs) owD.f).trans (same_upd (o := .lst ((hos.flatten).map fun c => V.str (chr c))) ow6.f)
        have hfl : ∀ c ∈ hos.flatten, isFlag c := fun c hc => by
          obtain ⟨h, hh, hch⟩ := List.mem_flatten.mp hc
          exact (h7 h hh).2 c hch
        refine ⟨_, rfl, _, rfl, _, rfl, _, v, .ref d, kvs, hos.flatten, fr7.fh, rfl, mo_D.up (sf.trans s7) hv, rL_mkC upd_same, lok, hfl, hcn, fun F2 H2 v2 fr8 hv2 => ?_⟩
        refine ⟨small7 (by show 2 ≤ 7; omega), fun r nr => ?_⟩
        have fr9 := fr8.lay (o := .tup [.ref D, v2]) nr
        have s9 := fr8.ff.trans (same_upd (o := .tup [.ref D, v2]) (fr8.free nr).1)
        refine q _ _ _ (fr7.trans fr9) ⟨r, .ref D, v2, rfl, upd_same, ?_, mo_D.up (same_upd (fr8.free nr).1) hv2⟩
        refine mo_Hal.up s9 ⟨D, zs, rfl, ?_, (mo_O (mo_L mo_C)).al s7 alz⟩
        rw [upd_ne ndd, upd_same]
end
end Fl

/-! FlData -/
/-! Frozen data as plain data that == compares. -/
namespace Fl
open PySem L2
structure Dt {α : Type} [DecidableEq α] (K : PySem.W.Frag) (r : Rp α) (d : α → PyData) (n : Nat) (ok : α → Prop) : Prop where
  dp : ∀ {F H : Hp} {v : V} {y : α}, L2.Same F H → r F v y → Dp K H v (d y)
  lay : ∀ y, ok y → (d y).canLay0 = true
  dep : ∀ y, (d y).depth ≤ n
  eqv : ∀ x y, PyData.eqv (d x) (d y) = decide (x = y)
section
variable {α β : Type} [DecidableEq α] [DecidableEq β] {K : PySem.W.Frag} {r : Rp α} {s : Rp β} {d : α → PyData} {e : β → PyData} {n m : Nat} {ok : α → Prop} {ok' : β → Prop}
theorem Dt.shaped (D : Dt K r d n ok) (h : n ≤ 64) {y : α} (hy : ok y) : SeqAt.shaped (d y) = true := by
  unfold SeqAt.shaped
  rw [D.lay y hy, decide_eq_true (Nat.le_trans (D.dep y) h)]
  rfl
theorem dt_N : Dt K rN (fun n : Nat => .int (n : Int)) 0 (fun _ => True) := by
  refine ⟨fun {F H v y} _ h => ?_, fun y _ => by simp [PyData.canLay0], fun y => by simp [PyData.depth], fun x y => ?_⟩
  · obtain rfl : v = V.int (y : Int) := h
    exact .int _
  · simp only [PyData.eqv]
    by_cases h : x = y
    · rw [decide_eq_true h, h]; simp
    · rw [decide_eq_false h, beq_eq_false_iff_ne]
      intro z
      exact h (by omega)
theorem dt_I : Dt K rI (fun n : Int => .int n) 0 (fun _ => True) := by
  refine ⟨fun {F H v y} _ h => ?_, fun y _ => by simp [PyData.canLay0], fun y => by simp [PyData.depth], fun x y => ?_⟩
  · obtain rfl : v = V.int y := h
    exact .int _
  · simp only [PyData.eqv]
    by_cases h : x = y
    · rw [decide_eq_true h, h]; simp
    · rw [decide_eq_false h]
      simpa using h
theorem flag_ok : ∀ c ∈ FLl, (PyData.str (chr c)).canLay0 = true := by decide +kernel
theorem dt_C : Dt K rC (fun c : Nat => .str (chr c)) 0 isFlag := by
  refine ⟨fun {F H v y} _ h => ?_, fun y hy => flag_ok y (fll_mem.mpr hy), fun y => by simp [PyData.depth], fun x y => ?_⟩
  · obtain rfl : v = V.str (chr y) := h
    exact .str _
  · simp only [PyData.eqv]
    by_cases h : x = y
    · rw [decide_eq_true h, h]; simp
    · rw [decide_eq_false h]
      simpa using fun z => h (chr_inj z)
theorem eqv_all (he : ∀ x y, PyData.eqv (d x) (d y) = decide (x = y)) : ∀ xs ys : List α, PyData.eqvAll (xs.map d) (ys.map d) = decide (xs = ys)
  | [], [] => by simp [PyData.eqvAll]
  | [], y :: ys => by simp [PyData.eqvAll]
  | x :: xs, [] => by simp [PyData.eqvAll]
  | x :: xs, y :: ys => by
    rw [List.map_cons, List.map_cons, PyData.eqvAll, he, eqv_all he xs ys]
    by_cases h1 : x = y
    · by_cases h2 : xs = ys
      · simp [h1, h2]
      · simp [h1, h2]
    · simp [h1]
theorem lay_all : ∀ xs : List α, (∀ y ∈ xs, (d y).canLay0 = true) → PyData.canLayAll0 (xs.map d) = true
  | [], _ => by simp [PyData.canLayAll0]
  | x :: xs, h => by
    rw [List.map_cons, PyData.canLayAll0, h x (by simp), lay_all xs fun y hy => h y (List.mem_cons_of_mem _ hy)]
    rfl
theorem dep_all (h : ∀ y, (d y).depth ≤ n) : ∀ xs : List α, PyData.depthAll (xs.map d) ≤ n
  | [] => by simp [PyData.depthAll]
  | x :: xs => by
    rw [List.map_cons, PyData.depthAll]
    exact Nat.max_le.mpr ⟨h x, dep_all h xs⟩
theorem dp_all (D : Dt K r d n ok) {F H : Hp} (sm : L2.Same F H) : ∀ {xs : List V} {ys : List α}, Al (r F) xs ys → DpAll K H xs (ys.map d)
  | [], [], _ => .nil
  | _ :: _, _ :: _, h => .cons (D.dp sm h.1) (dp_all D sm h.2)
theorem dt_L (D : Dt K r d n ok) : Dt K (rL r) (fun l => .list (l.map d)) (n + 1) (fun l => ∀ y ∈ l, ok y) := by
  refine ⟨fun {F H v y} sm ⟨a, xs, e, ha, al⟩ => ?_, fun l hl => ?_, fun l => ?_, fun x y => ?_⟩
  · subst e
    exact .lst (SqL.of (sm _ _ ha)) (dp_all D sm al)
  · simp only [PyData.canLay0]
    exact lay_all l fun y hy => D.lay y (hl y hy)
  · simp only [PyData.depth]
    exact Nat.succ_le_succ (dep_all D.dep l)
  · simp only [PyData.eqv]
    exact eqv_all D.eqv x y
theorem dt_P (D : Dt K r d n ok) (E : Dt K s e n ok') : Dt K (rP r s) (fun p => .tuple [d p.1, e p.2]) (n + 1) (fun p => ok p.1 ∧ ok' p.2) := by
  refine ⟨fun {F H v y} sm ⟨a, x, z, ev, ha, h1, h2⟩ => ?_, fun p hp => ?_, fun p => ?_, fun x y => ?_⟩
  · subst ev
    exact .tup (SqT.of (sm _ _ ha)) (.cons (D.dp sm h1) (.cons (E.dp sm h2) .nil))
  · simp only [PyData.canLay0, PyData.canLayAll0]
    rw [D.lay _ hp.1, E.lay _ hp.2]
    rfl
  · simp only [PyData.depth, PyData.depthAll]
    have := D.dep p.1
    have := E.dep p.2
    omega
  · simp only [PyData.eqv, PyData.eqvAll]
    rw [D.eqv, E.eqv]
    obtain ⟨x1, x2⟩ := x
    obtain ⟨y1, y2⟩ := y
    by_cases h1 : x1 = y1
    · by_cases h2 : x2 = y2
      · simp [h1, h2]
      · simp [h1, h2]
    · simp [h1]
def dO (d : α → PyData) : Option (List α) → PyData
  | none => .none
  | some l => .list (l.map d)
theorem dt_O (D : Dt K r d n ok) : Dt K (rO (rL r)) (dO d) (n + 1) (fun o => ∀ l, o = some l → ∀ y ∈ l, ok y) := by
  have L := dt_L D
  refine ⟨fun {F H v y} sm h => ?_, fun o ho => ?_, fun o => ?_, fun x y => ?_⟩
  · cases y with
    | none =>
      obtain rfl : v = .non := h
      exact .non
    | some l => exact L.dp sm h.2
  · cases o with
    | none => simp [dO, PyData.canLay0]
    | some l => exact L.lay l (ho l rfl)
  · cases o with
    | none => simp [dO, PyData.depth]
    | some l => exact L.dep l
  · cases x with
    | none =>
      cases y with
      | none => simp [dO, PyData.eqv]
      | some y => simp [dO, PyData.eqv]
    | some x =>
      cases y with
      | none => simp [dO, PyData.eqv]
      | some y =>
        have := L.eqv x y
        show PyData.eqv (.list (x.map d)) (.list (y.map d)) = _
        rw [this]
        by_cases h : x = y
        · simp [h]
        · simp [h]
theorem any_eqv (he : ∀ x y, PyData.eqv (d x) (d y) = decide (x = y)) (y : α) : ∀ xs : List α, ((xs.map d).any fun z => PyData.eqv z (d y)) = decide (y ∈ xs)
  | [] => by simp
  | x :: xs => by
    rw [List.map_cons, List.any_cons, he, any_eqv he y xs]
    by_cases h : x = y
    · simp [h]
    · have h' : ¬ y = x := fun z => h z.symm
      simp [h, h']
/-- x == y, as a wish -/
theorem eqD (D : Dt K r d n ok) (h : n ≤ 64) {F H : Hp} {u v : V} {x y : α} {Q : VK} (sm : L2.Same F H) (hx : r F u x) (hy : r F v y) (ox : ok x) (oy : ok y) (q : Q (.bl (decide (x = y))) H) : rEqD K u v H Q :=
  ⟨_, _, D.dp sm hx, D.dp sm hy, D.shaped h ox, D.shaped h oy, by rw [D.eqv]; exact q⟩
theorem neD (D : Dt K r d n ok) (h : n ≤ 64) {F H : Hp} {u v : V} {x y : α} {Q : VK} (sm : L2.Same F H) (hx : r F u x) (hy : r F v y) (ox : ok x) (oy : ok y) (q : Q (.bl (!decide (x = y))) H) : rNeD K u v H Q :=
  ⟨_, _, D.dp sm hx, D.dp sm hy, D.shaped h ox, D.shaped h oy, by rw [D.eqv]; exact q⟩
theorem inD (D : Dt K r d n ok) (h : n + 1 ≤ 64) {F H : Hp} {u v : V} {x : α} {l : List α} {Q : VK} (sm : L2.Same F H) (hx : r F u x) (hy : rL r F v l) (ox : ok x) (ol : ∀ y ∈ l, ok y) (q : Q (.bl (decide (x ∈ l))) H) : rInD K u v H Q :=
  ⟨_, _, D.dp sm hx, (dt_L D).dp sm hy, D.shaped (by omega) ox, (dt_L D).shaped h ol, by rw [any_eqv D.eqv]; exact q⟩
theorem notInD (D : Dt K r d n ok) (h : n + 1 ≤ 64) {F H : Hp} {u v : V} {x : α} {l : List α} {Q : VK} (sm : L2.Same F H) (hx : r F u x) (hy : rL r F v l) (ox : ok x) (ol : ∀ y ∈ l, ok y) (q : Q (.bl (!decide (x ∈ l))) H) : rNotInD K u v H Q :=
  ⟨_, _, D.dp sm hx, (dt_L D).dp sm hy, D.shaped (by omega) ox, (dt_L D).shaped h ol, by rw [any_eqv D.eqv]; exact q⟩
end
end Fl

/-! FlHaul -/
/-! The plain law of hauling. -/
namespace Fl
open PySem L2
def poolW (kvs : List (Nat × Int)) (hs : List (Option (List Nat))) (n : Nat) (t : List Nat) : List (Nat × Int) := putIn kvs (flagsOf hs (n :: t))
/-- the first set that will do -/
def Good (kvs : List (Nat × Int)) (hs : List (Option (List Nat))) (n : Nat) (wo t : List Nat) : Prop := t = othersOf hs n ∨ Can (chOf (wordsW hs wo t)) (lk (poolW kvs hs n t))
structure Low (kvs : List (Nat × Int)) (hs : List (Option (List Nat))) (n : Nat) (wo : List Nat) (pre : List (List Nat)) (s : List Nat) : Prop where
  e : ∃ post, setsOf (othersOf hs n) = pre ++ s :: post
  no : ∀ t ∈ pre, ¬ Good kvs hs n wo t
  yes : Good kvs hs n wo s
theorem Low.one {kvs : List (Nat × Int)} {hs : List (Option (List Nat))} {n : Nat} {wo : List Nat} {pre pre' : List (List Nat)} {s s' : List Nat} (a : Low kvs hs n wo pre s) (b : Low kvs hs n wo pre' s') : pre = pre' ∧ s = s' := by
  obtain ⟨p1, e1⟩ := a.e
  obtain ⟨p2, e2⟩ := b.e
  rw [e1] at e2
  have key : ∀ (xs ys zs ws : List (List Nat)) (x y : List Nat), xs ++ x :: zs = ys ++ y :: ws → (∀ t ∈ xs, ¬ Good kvs hs n wo t) → (∀ t ∈ ys, ¬ Good kvs hs n wo t) → Good kvs hs n wo x → Good kvs hs n wo y → xs = ys ∧ x = y := by
    intro xs
    induction xs with
    | nil =>
      intro ys zs ws x y h _ h2 gx gy
      cases ys with
      | nil => exact ⟨rfl, (List.cons.inj h).1⟩
      | cons z ys =>
        have e := (List.cons.inj h).1
        exact absurd (e ▸ gx) (h2 z (by simp))
    | cons z xs ih =>
      intro ys zs ws x y h h1 h2 gx gy
      cases ys with
      | nil =>
        have e := (List.cons.inj h).1
        exact absurd (e ▸ gy) (h1 z (by simp))
      | cons z' ys =>
        have e := List.cons.inj h
        obtain ⟨i1, i2⟩ := ih ys zs ws x y e.2 (fun t ht => h1 t (List.mem_cons_of_mem _ ht)) (fun t ht => h2 t (List.mem_cons_of_mem _ ht)) gx gy
        exact ⟨by rw [e.1, i1], i2⟩
  exact key _ _ _ _ _ _ e2 a.no b.no a.yes b.yes
theorem Low.mem {kvs : List (Nat × Int)} {hs : List (Option (List Nat))} {n : Nat} {wo : List Nat} {pre : List (List Nat)} {s : List Nat} (a : Low kvs hs n wo pre s) : s ∈ setsOf (othersOf hs n) := by
  obtain ⟨p, e⟩ := a.e
  rw [e]
  simp
/-- a set of the others -/
structure SetOk (hs : List (Option (List Nat))) (n : Nat) (t : List Nat) : Prop where
  len : t.length ≤ 5
  at_ : ∀ k ∈ t, k ≠ n ∧ ∃ h, hs[k]? = some (some h)
  nd : t.Nodup
  sub : t.Sublist (othersOf hs n)
theorem set_ok {hs : List (Option (List Nat))} (ok : HalOk hs) {n : Nat} (hn : n < hs.length) {t : List Nat} (h : t ∈ setsOf (othersOf hs n)) : SetOk hs n t := by
  have sb := sets_mem.mp h
  exact ⟨Nat.le_trans sb.length_le (others_len ok hn), fun k hk => others_at (sb.mem hk), (sb.trans (others_sub hs n)).nodup List.nodup_range, sb⟩
theorem SetOk.lt {hs : List (Option (List Nat))} {n : Nat} {t : List Nat} (a : SetOk hs n t) {k : Nat} (h : k ∈ t) : k < hs.length := by
  obtain ⟨_, x, hx⟩ := a.at_ k h
  exact (List.getElem?_eq_some_iff.mp hx).1
theorem cut_flat : ∀ {ws : List (List Nat)} {fl : List Nat}, fl.length = lens ws → (cutBy ws fl).flatten = fl
  | [], fl, h => by
    have : fl = [] := List.length_eq_zero_iff.mp h
    rw [this]
    rfl
  | w :: ws, fl, h => by
    have e : lens (w :: ws) = w.length + lens ws := by simp [lens]
    show fl.take w.length ++ (cutBy ws (fl.drop w.length)).flatten = fl
    rw [cut_flat (by rw [List.length_drop]; omega), List.take_append_drop]
theorem cut_each : ∀ {ws : List (List Nat)} {fl : List Nat} {h : List Nat}, h ∈ cutBy ws fl → (∀ w ∈ ws, w.length ≤ 7) → h.length ≤ 7 ∧ ∀ c ∈ h, c ∈ fl
  | [], _, _, hm, _ => by cases hm
  | w :: ws, fl, h, hm, h7 => by
    rcases List.mem_cons.mp hm with e | e
    · subst e
      have := h7 w (by simp)
      exact ⟨by rw [List.length_take]; omega, fun c hc => List.mem_of_mem_take hc⟩
    · obtain ⟨i1, i2⟩ := cut_each e fun x hx => h7 x (List.mem_cons_of_mem _ hx)
      exact ⟨i1, fun c hc => List.mem_of_mem_drop (i2 c hc)⟩
theorem hangs_flag {ws : List (List Nat)} (ok : WordsOk ws) {L : Nat → Int} {g : List Nat} (hg : Hangs (chOf ws) L g) : ∀ c ∈ g, isFlag c := fun c hc => by
  obtain ⟨i, hi, e⟩ := List.getElem_of_mem hc
  obtain ⟨cs, e1, e2⟩ := hg.inc i c (by rw [List.getElem?_eq_getElem hi, e])
  exact ((chOf_ok ok).ok cs (List.mem_of_getElem? e1)).2 c e2
theorem hangs_len {ws : List (List Nat)} {L : Nat → Int} {g : List Nat} (hg : Hangs (chOf ws) L g) : g.length = lens ws := by
  rw [hg.len, chOf_len]
  exact wants_lens 0 ws
theorem LackP.no {ws : List (List Nat)} {L : Nat → Int} {W : List (Nat × Nat)} {G : List Nat} (h : LackP ws L W G) : ¬ Can (chOf ws) L := by
  obtain ⟨Wi, _, _, h⟩ := h.ex
  exact h.no
end Fl

/-! DefHauled -/
namespace Fl
open PySem L2
section
variable {P : Program} {w : World} {K : PySem.W.Frag} {mg : PySem.Str → Option Value} {base : Heap} {tbs : List (Addr × PySem.Str)}
abbrev s_hauled : Stmt := top 34
abbrev N_hauled : List PySem.Str := ["locker", "halyards", "number", "word", "others", "lowered", "pool", "words", "behind", "left"]
theorem sc_hauled : FnScope N_hauled ["locker", "halyards", "number", "word"] (defScope s_hauled) := ⟨rfl, rfl, rfl, by decide +kernel, rfl, by decide +kernel, by decide +kernel⟩
abbrev rHauled : Rp (List Nat × List (Option (List Nat)) × List (Nat × Int)) := rT (rL rN) rHal rD
structure Word7 (wo : List Nat) : Prop where
  ok : 1 ≤ wo.length ∧ wo.length ≤ 7 ∧ ∀ c ∈ wo, isLet c
def hauledTo (kvs : List (Nat × Int)) (hs : List (Option (List Nat))) (n : Nat) (wo s g : List Nat) : List Nat × List (Option (List Nat)) × List (Nat × Int) :=
  (s, behindOf hs ((n :: s).zip (cutBy (wordsW hs wo s) g)), takeL (poolW kvs hs n s) g)
def spHauled (tbs : List (Addr × PySem.Str)) (C : Addr) : Sp := fun vs H Q E => ∃ (F : Hp) (v u : V) (kvs : List (Nat × Int)) (hs : List (Option (List Nat))) (n : Nat) (wo : List Nat), L2.Same F H ∧ vs = [v, u, nV n, .str (wd wo)] ∧
  rD F v kvs ∧ LockOk kvs ∧ rHal F u hs ∧ HalOk hs ∧ n < hs.length ∧ Word7 wo ∧
  (∀ pre s g, Low kvs hs n wo pre s → Hangs (chOf (wordsW hs wo s)) (lk (poolW kvs hs n s)) g → Pf tbs F H Q rHauled (hauledTo kvs hs n wo s g)) ∧
  (∀ F' H' d v1 v2 W G pre, Fr tbs F H F' H' → H' d = none → rL rWant F' v1 W → rL rC F' v2 G → LackP (wordsW hs wo (othersOf hs n)) (lk (poolW kvs hs n (othersOf hs n))) W G → Low kvs hs n wo pre (othersOf hs n) → E (.ref C) (some d) (upd H' d (lackX v1 v2)))
theorem ok_hauled {f : Addr} {fd : FuncData} {C : Addr} (Fu : Fun K "hauled" "hauled" s_hauled f fd) (T : Txt K mg)
    (C_others_hung : Cf P w K mg base 1 "others_hung" (spOthers tbs)) (C_sets_of : Cf P w K mg base 7 "sets_of" (spSets tbs)) (C_locker_with : Cf P w K mg base 3 "locker_with" (spLockerWith tbs)) (C_words_with : Cf P w K mg base 4 "words_with" (spWordsWith tbs))
    (C_lack_of : Cf P w K mg base 4 "lack_of" (spLackOf tbs)) (C_rehung : Cf P w K mg base 3 "rehung" (spRehung tbs)) (C_hang_all : Cr P w K mg base 3 "hang_all" (spHangAll tbs C)) :
    FnOk P w K mg base (L2.CX P w) 8 f fd ["locker", "halyards", "number", "word"] (spHauled tbs C) := by
  refine Fu.okX sc_hauled (fun vs H Q E h => ?_) (fun cdv A outer s H vs Q E hr h => ?_)
  · obtain ⟨F, v, u, kvs, hs, n, wo, _, rfl, _⟩ := h
    rfl
  · obtain ⟨F, v, u, kvs, hs, n, wo, sm, rfl, hv, lok, hu, ok, hn, hwo, q, qE⟩ := h
    have hu0 := hu
    obtain ⟨a, xs, rfl, ha, al⟩ := hu
    refine ⟨_, 
      (pss_cons (ps_set (i := 4) sc_hauled.nd rfl (Or.inl rfl) (pe_cf C_others_hung hr (by decide) (by rfl) (pa_cons (pv 1) (pa_cons (pv 2) pa_nil))))
      (pss_cons (ps_for (passes_of rfl) rfl (pi_list (pe_cf C_sets_of hr (by decide) (by rfl) (pa_cons (pv 4) pa_nil))) (pg_name (i := 5) sc_hauled.nd rfl (Or.inl rfl))
        (pss_cons (ps_set (i := 6) sc_hauled.nd rfl (Or.inl rfl) (pe_cf C_locker_with hr (by decide) (by rfl) (pa_cons (pv 0) (pa_cons (pv 1) (pa_cons (pe_op op_cat (pe_lst (pa_cons (pv 2) pa_nil)) (pv 5)) pa_nil)))))
        (pss_cons (ps_set (i := 7) sc_hauled.nd rfl (Or.inl rfl) (pe_cf C_words_with hr (by decide) (by rfl) (pa_cons (pv 1) (pa_cons (pv 3) (pa_cons (pv 5) pa_nil)))))
        (pss_one (ps_if (PW.pt (pw_or (pt_cmpR (op_eqD hr.units) (pv 5) (pv 4) (nomark _)) (pw_or1 (pt_cmpR op_isN (pe_cf C_lack_of hr (by decide) (by rfl) (pa_cons (pv 6) (pa_cons (pv 7) pa_nil))) pe_non (nomark _)))))
          (pss_cons (ps_asg (pe_cf C_rehung hr (by decide) (by rfl) (pa_cons (pv 6) (pa_cons (pv 1) (pa_cons (pe_op op_cat (pe_lst (pa_cons (pv 2) pa_nil)) (pv 5)) (pa_cons (pe_cxS C_hang_all hr (by decide) (by rfl) (takes_of rfl rfl rfl rfl) (pa_cons (pv 6) (pa_cons (pv 7) pa_nil))) pa_nil))))) (pg_tup rfl (pgs_cons (pg_name (i := 8) sc_hauled.nd rfl (Or.inl rfl)) (pgs_cons (pg_name (i := 9) sc_hauled.nd rfl (Or.inl rfl)) pgs_nil))))
          (pss_one (ps_ret (pe_tup (pa_cons (pv 5) (pa_cons (pv 8) (pa_cons (pv 9) pa_nil))))))) pss_nil)))))
      (pss_one (ps_ret (pe_tup (pa_cons (pe_lst pa_nil) (pa_cons (pe_callTy call_list_of (by rfl) T.b_list (by decide +kernel) (pa_cons (pv 1) pa_nil)) (pa_cons (pe_callTy call_dictD (by rfl) T.b_dict (by decide +kernel) (pa_cons (pv 0) pa_nil)) pa_nil)))))))), ?_⟩
    refine ⟨_, rfl, _, rfl, F, .ref a, hs, n, sm, rfl, hu0, ok, fun F1 H1 vo fr1 hvo => ?_⟩
    have h5 := others_len ok hn
    refine ⟨_, rfl, F1, vo, othersOf hs n, fr1.fh, rfl, hvo, h5, fun F2 H2 vS fr2 hvS => ?_⟩
    obtain ⟨b, ys, rfl, hb, alb⟩ := hvS
    have fr02 := fr1.trans fr2
    have lS := alb.len
    refine ⟨b, rfl, ⟨_, SqL.of (fr2.fh _ _ hb)⟩, for_list (K := K) (a := b) (xs := ys) (fun i σ H' => ∃ v5 v6 v7 v8 v9 F', σ = [some v, some (.ref a), some (nV n), some (.str (wd wo)), some vo, v5, v6, v7, v8, v9] ∧ Fr tbs F H F' H' ∧ L2.Same F2 F' ∧
      ∀ t ∈ (setsOf (othersOf hs n)).take i, ¬ Good kvs hs n wo t) ?_ ?_ ?_ ?_⟩
    · exact ⟨none, none, none, none, none, F2, rfl, fr02, .refl _, fun t ht => by rw [List.take_zero] at ht; cases ht⟩
    · rintro i σ H' _ ⟨_, _, _, _, _, F', _, fr, s2, _⟩
      exact SqL.of (fr.fh _ _ (s2 _ _ hb))
    · rintro i x σ H' hx ⟨v5, v6, v7, v8, v9, F', rfl, fr, s2, hno⟩
      obtain ⟨t, ht, hxt⟩ := alb.get hx
      have htm := List.mem_of_getElem? ht
      have so := set_ok ok hn htm
      obtain ⟨c', rfl, hc⟩ := rL_N hxt
      have low : Good kvs hs n wo t → Low kvs hs n wo ((setsOf (othersOf hs n)).take i) t := fun gd =>
        ⟨⟨(setsOf (othersOf hs n)).drop (i + 1), by
          obtain ⟨hi1, hi2⟩ := List.getElem?_eq_some_iff.mp ht
          rw [← hi2, List.getElem_cons_drop, List.take_append_drop]⟩, hno, gd⟩
      have wok : WordsOk (wordsW hs wo t) := wordsW_ok ok hwo.ok (by have := so.len; omega) fun k hk => (so.at_ k hk).2
      have pok : LockOk (poolW kvs hs n t) := putIn_ok lok (flagsOf_flag ok _)
      have hlt : ∀ k ∈ n :: t, k < hs.length := fun k hk => by
        rcases List.mem_cons.mp hk with e | e
        · rw [e]; exact hn
        · exact so.lt e
      have s02 : ∀ {F6 : Hp}, L2.Same F' F6 → L2.Same F F6 := fun z => fr.ff.trans z
      have len7 : (n :: t).length ≤ 7 := by rw [List.length_cons]; have := so.len; omega
      -- pool
      refine ⟨_, rfl, _, rfl, _, rfl, small7 (by show 1 ≤ 7; omega), fun p np => ⟨_, rfl, p, c', [nV n], t.map nV, rfl, rfl, upd_same, ?_, ?_, fun r nr => ?_⟩⟩
      · exact (fr.new np).fh _ _ (s2 _ _ hc)
      · rw [List.length_map]
        have := so.len
        exact small7 (by show 1 + _ ≤ 7; omega)
      have fr3 := (fr.new (o := .lst [nV n]) np).lay (o := .lst ([nV n] ++ t.map nV)) nr
      have s3 := same_upd (o := .lst ([nV n] ++ t.map nV)) ((fr.new (o := .lst [nV n]) np).free nr).1
      refine ⟨_, v, .ref a, .ref r, kvs, hs, n :: t, fr3.fh, rfl, mo_D.up (s02 s3) hv, lok, mo_Hal.up (s02 s3) hu0, ok, rL_mkN upd_same, len7, hlt, fun F4 H4 vp fr4 hvp => ?_⟩
      have s4 := s3.trans fr4.ff
      -- words
      refine ⟨_, rfl, _, rfl, _, rfl, F4, .ref a, .ref c', hs, wo, t, fr4.fh, rfl, mo_Hal.up (s02 s4) hu0, ok, (mo_L mo_N).up (s2.trans s4) hxt, by have := so.len; omega, fun k hk => (so.at_ k hk).2, fun F5 H5 vw fr5 hvw => ?_⟩
      have s5 := s4.trans fr5.ff
      have fr05 := (fr3.trans fr4).trans fr5
      have hvp5 := mo_D.up fr5.ff hvp
      -- the test
      refine ⟨_, rfl, _, rfl, eqD (dt_L dt_N) (by omega) fr5.fh ((mo_L mo_N).up (s2.trans s5) hxt) ((mo_L mo_N).up (fr2.ff.trans (s2.trans s5)) hvo) (fun _ _ => trivial) (fun _ _ => trivial) ⟨_, rfl, ite2 (fun c => ?A) (fun c => ?B)⟩⟩
      case' B =>
        refine ⟨_, rfl, _, rfl, F5, vp, vw, poolW kvs hs n t, wordsW hs wo t, fr5.fh, rfl, hvp5, hvw, wok, pok.pos, ?C, ?D⟩
      case D =>
        intro F6 H6 vl W G fr6 hlp hvl
        obtain ⟨lp, x1, x2, rfl, _⟩ := hvl
        refine ⟨rfl, _, rfl, iteF ?_⟩
        refine ⟨_, _, _, _, _, F6, rfl, fr05.trans fr6, s2.trans (s5.trans fr6.ff), fun t' ht' => ?_⟩
        rw [take_snoc ht, List.mem_append, List.mem_singleton] at ht'
        rcases ht' with e | e
        · exact hno t' e
        · rw [e]
          rintro (z | z)
          · exact of_decide_eq_false (by simpa using c) z
          · exact hlp.no z
      case' A =>
        have gd : Good kvs hs n wo t := .inl (of_decide_eq_true c)
        obtain ⟨F6, fr6⟩ : ∃ F6, Fr tbs F5 H5 F6 H5 := ⟨F5, Fr.begin fr5.fh⟩
        refine iteT ?_
      case' C =>
        intro cn F6 H6 fr6
        refine ⟨rfl, _, rfl, iteT ?_⟩
        have gd : Good kvs hs n wo t := .inr cn
      all_goals
        have fr06 := fr05.trans fr6
        have s6 := s5.trans fr6.ff
        have hvp6 := mo_D.up fr6.ff hvp5
        have hvw6 := (mo_L mo_W).up fr6.ff hvw
        have hlo := low gd
        refine ⟨_, rfl, _, rfl, _, rfl, small7 (by show 1 ≤ 7; omega), fun p np => ⟨_, rfl, p, c', [nV n], t.map nV, rfl, rfl, upd_same, ?_, ?_, fun r nr => ?_⟩⟩
        · exact (fr06.new np).fh _ _ (s6 _ _ (s2 _ _ hc))
        · rw [List.length_map]
          have := so.len
          exact small7 (by show 1 + _ ≤ 7; omega)
        have fr7 := (fr6.new (o := .lst [nV n]) np).lay (o := .lst ([nV n] ++ t.map nV)) nr
        have s7 := same_upd (o := .lst ([nV n] ++ t.map nV)) ((fr6.new (o := .lst [nV n]) np).free nr).1
        have hvr7 := rL_mkN (a := r) (l := n :: t) (upd_same (H := F6) (a := r) (o := .lst ([nV n] ++ t.map nV)))
        generalize upd F6 r (.lst ([nV n] ++ t.map nV)) = F7 at fr7 s7 hvr7
        refine ⟨_, rfl, _, rfl, F7, vp, vw, poolW kvs hs n t, wordsW hs wo t, fr7.fh, rfl, mo_D.up s7 hvp6, (mo_L mo_W).up s7 hvw6, wok, pok.pos, ?_, ?_⟩
        · intro g hg F8 H8 vh fr8 hvh
          have s8 := s7.trans fr8.ff
          have glen := hangs_len hg
          have gfl := cut_flat glen
          have each : ∀ h ∈ cutBy (wordsW hs wo t) g, h.length ≤ 7 ∧ ∀ c ∈ h, isFlag c := fun h hh => by
            obtain ⟨e1, e2⟩ := cut_each hh fun x hx => (wok.ok x hx).2.1
            exact ⟨e1, fun c hc => hangs_flag wok hg c (e2 c hc)⟩
          refine ⟨F8, vp, .ref a, .ref r, vh, poolW kvs hs n t, hs, n :: t, cutBy (wordsW hs wo t) g, fr8.fh, rfl, mo_D.up s8 hvp6, pok, mo_Hal.up (s02 (s6.trans s8)) hu0, ok, (mo_L mo_N).up fr8.ff hvr7, len7, hlt, hvh, ?_, each, ?_, fun F9 H9 vt fr9 hvt => ?_⟩
          · rw [cut_len]
            unfold wordsW
            rw [List.length_cons, List.length_map, List.length_cons]
          · rw [gfl]; exact hg.le
          · obtain ⟨q1, x1, x2, rfl, hq1, hx1, hx2⟩ := hvt
            rw [gfl] at hx2
            have fr69 := (fr7.trans fr8).trans fr9
            have s9 := s8.trans fr9.ff
            refine ⟨q1, _, rfl, SqT.of (fr9.fh _ _ hq1), rfl, _, _, rfl, _, _, rfl, rfl, ?_⟩
            refine ⟨_, rfl, _, rfl, _, rfl, small7 (by show 3 ≤ 7; omega), fun z nz => ?_⟩
            have frA := fr69.lay (o := .tup [.ref c', x1, x2]) nz
            have sA := same_upd (o := .tup [.ref c', x1, x2]) (fr69.free nz).1
            exact q _ t g hlo hg _ _ _ (fr05.trans frA) ⟨z, .ref c', x1, x2, rfl, upd_same, (mo_L mo_N).up (s2.trans (s6.trans (s9.trans sA))) hxt, mo_Hal.up sA hx1, mo_D.up sA hx2⟩
        · intro F8 H8 d v1 v2 W G fr8 nd h1 h2 hp
          have et : t = othersOf hs n := gd.resolve_right hp.no
          rw [et] at hp hlo
          exact qE F8 H8 d v1 v2 W G _ (fr05.trans (fr7.trans fr8)) nd h1 h2 hp hlo
    · rintro σ H' ⟨v5, v6, v7, v8, v9, F', rfl, fr, s2, hno⟩
      rw [lS, List.take_length] at hno
      exact absurd (.inl rfl) (hno (othersOf hs n) (sets_mem.mpr (List.Sublist.refl _)))
end
end Fl

/-! DefPapers -/
namespace Fl
open PySem L2
section
variable {P : Program} {w : World} {K : PySem.W.Frag} {mg : PySem.Str → Option Value} {base : Heap} {tbs : List (Addr × PySem.Str)}
abbrev s_hauling_papers : Stmt := top 35
abbrev N_hauling_papers : List PySem.Str := ["locker", "halyards", "number", "word", "lowered", "papers", "some", "pool", "wants", "flags"]
theorem sc_hauling_papers : FnScope N_hauling_papers ["locker", "halyards", "number", "word"] (defScope s_hauling_papers) := ⟨rfl, rfl, rfl, by decide +kernel, rfl, by decide +kernel, by decide +kernel⟩
abbrev rPaper : Rp (List Nat × List (Nat × Nat) × List Nat) := rT (rL rN) (rL rWant) (rL rC)
theorem mo_Paper : Mo rPaper := mo_T (mo_L mo_N) (mo_L mo_Want) (mo_L mo_C)
def PapersOk (kvs : List (Nat × Int)) (hs : List (Option (List Nat))) (n : Nat) (wo : List Nat) (pre : List (List Nat)) (ps : List (List Nat × List (Nat × Nat) × List Nat)) : Prop :=
  ps.map (·.1) = pre ∧ ∀ p ∈ ps, LackP (wordsW hs wo p.1) (lk (poolW kvs hs n p.1)) p.2.1 p.2.2
def spPapers (tbs : List (Addr × PySem.Str)) (C : Addr) : Sp := fun vs H Q _ => ∃ (F : Hp) (v u : V) (kvs : List (Nat × Int)) (hs : List (Option (List Nat))) (n : Nat) (wo : List Nat) (pre : List (List Nat)) (s : List Nat), L2.Same F H ∧ vs = [v, u, nV n, .str (wd wo)] ∧
  rD F v kvs ∧ LockOk kvs ∧ rHal F u hs ∧ HalOk hs ∧ n < hs.length ∧ Word7 wo ∧ Low kvs hs n wo pre s ∧ Can (chOf (wordsW hs wo s)) (lk (poolW kvs hs n s)) ∧
  (∀ ps, PapersOk kvs hs n wo pre ps → Pf tbs F H Q (rL rPaper) ps)
theorem ok_hauling_papers {f : Addr} {fd : FuncData} {C : Addr} (Fu : Fun K "hauling_papers" "hauling_papers" s_hauling_papers f fd) (T : Txt K mg)
    (C_others_hung : Cf P w K mg base 1 "others_hung" (spOthers tbs)) (C_sets_of : Cf P w K mg base 7 "sets_of" (spSets tbs)) (C_locker_with : Cf P w K mg base 3 "locker_with" (spLockerWith tbs)) (C_words_with : Cf P w K mg base 4 "words_with" (spWordsWith tbs))
    (C_lack_of : Cf P w K mg base 4 "lack_of" (spLackOf tbs)) (C_hauled : Cr P w K mg base 8 "hauled" (spHauled tbs C)) :
    FnOk P w K mg base L2.CX0 9 f fd ["locker", "halyards", "number", "word"] (spPapers tbs C) := by
  refine Fu.ok sc_hauling_papers (fun vs H Q E h => ?_) (fun cdv A outer s H vs Q E hr h => ?_)
  · obtain ⟨F, v, u, kvs, hs, n, wo, pre, s, _, rfl, _⟩ := h
    rfl
  · obtain ⟨F, v, u, kvs, hs, n, wo, pre, lw, sm, rfl, hv, lok, hu, ok, hn, hwo, hlow, hcan, q⟩ := h
    have hu0 := hu
    obtain ⟨a, xs, rfl, ha, al⟩ := hu
    refine ⟨_, 
      (pss_cons (ps_set (i := 4) sc_hauling_papers.nd rfl (Or.inl rfl) (pe_ix ix_tup (pe_cx C_hauled hr (by decide) (by rfl) (pa_cons (pv 0) (pa_cons (pv 1) (pa_cons (pv 2) (pa_cons (pv 3) pa_nil))))) pe_int (fun _ _ => rfl)))
      (pss_cons (ps_set (i := 5) sc_hauling_papers.nd rfl (Or.inl rfl) (pe_lst pa_nil))
      (pss_cons (ps_for PassesOwn.never rfl (pi_list (pe_cf C_sets_of hr (by decide) (by rfl) (pa_cons (pe_cf C_others_hung hr (by decide) (by rfl) (pa_cons (pv 1) (pa_cons (pv 2) pa_nil))) pa_nil))) (pg_name (i := 6) sc_hauling_papers.nd rfl (Or.inl rfl))
        (pss_cons (ps_if (pt_cmpR (op_eqD hr.units) (pv 6) (pv 4) (nomark _))
          (pss_one (ps_ret (pv 5))) pss_nil)
        (pss_cons (ps_set (i := 7) sc_hauling_papers.nd rfl (Or.inl rfl) (pe_cf C_locker_with hr (by decide) (by rfl) (pa_cons (pv 0) (pa_cons (pv 1) (pa_cons (pe_op op_cat (pe_lst (pa_cons (pv 2) pa_nil)) (pv 6)) pa_nil)))))
        (pss_cons (ps_asg (pe_cf C_lack_of hr (by decide) (by rfl) (pa_cons (pv 7) (pa_cons (pe_cf C_words_with hr (by decide) (by rfl) (pa_cons (pv 1) (pa_cons (pv 3) (pa_cons (pv 6) pa_nil)))) pa_nil))) (pg_tup rfl (pgs_cons (pg_name (i := 8) sc_hauling_papers.nd rfl (Or.inl rfl)) (pgs_cons (pg_name (i := 9) sc_hauling_papers.nd rfl (Or.inl rfl)) pgs_nil))))
        (pss_one (ps_expr (pe_bm PySem.F.plainAttrs_list PySem.F.slot_list_append PySem.F.type_list_append mt_append (pv 5) (pa_cons (pe_tup (pa_cons (pv 6) (pa_cons (pv 8) (pa_cons (pv 9) pa_nil)))) pa_nil))))))))
      (pss_one (ps_ret (pv 5)))))), ?_⟩
    refine ⟨_, rfl, _, rfl, _, rfl, _, rfl, F, v, .ref a, kvs, hs, n, wo, sm, rfl, hv, lok, hu0, ok, hn, hwo, ?_, ?_⟩
    rotate_left
    · intro F' H' d v1 v2 W G pre' _ _ _ _ hp hlow'
      obtain ⟨e1, e2⟩ := Low.one hlow hlow'
      subst e2
      exact absurd hcan hp.no
    · intro pre' s' g' hlow' hg' F1 H1 vr fr1 hvr
      obtain ⟨e1, e2⟩ := Low.one hlow hlow'
      subst e1
      subst e2
      obtain ⟨q1, x1, x2, x3, rfl, hq1, hx1, hx2, hx3⟩ := hvr
      have hx1 : rL rN F1 x1 lw := hx1
      refine ⟨q1, _, _, x1, rfl, rfl, SqT.of (fr1.fh _ _ hq1), at_of rfl rfl, ?_⟩
      refine ⟨Nat.zero_le _, fun d nd => ?_⟩
      have frd := fr1.new (o := .lst []) nd
      have owd := fr1.own (o := .lst []) nd
      have h5 := others_len ok hn
      refine ⟨_, rfl, _, rfl, F1, .ref a, hs, n, frd.fh, rfl, mo_Hal.up fr1.ff hu0, ok, fun F2 H2 vo fr2 hvo => ?_⟩
      have owd2 := owd.call ntb_lst fr2
      refine ⟨F2, vo, othersOf hs n, fr2.fh, rfl, hvo, h5, fun F3 H3 vS fr3 hvS => ?_⟩
      have owd3 := owd2.call ntb_lst fr3
      obtain ⟨b, ys, rfl, hb, alb⟩ := hvS
      have fr03 := (frd.trans fr2).trans fr3
      have lS := alb.len
      obtain ⟨post, epost⟩ := hlow.e
      have s13 := fr2.ff.trans fr3.ff
      have lpre : pre.length ≤ 192 := by
        have := sets_len h5
        rw [epost, List.length_append, List.length_cons] at this
        omega
      refine ⟨b, rfl, ⟨_, SqL.of (fr3.fh _ _ hb)⟩, for_list (K := K) (a := b) (xs := ys) (fun i σ H' => ∃ v6 v7 v8 v9 F' zs ps, σ = [some v, some (.ref a), some (nV n), some (.str (wd wo)), some x1, some (.ref d), v6, v7, v8, v9] ∧ i ≤ pre.length ∧ Fr tbs F H F' H' ∧ L2.Same F3 F' ∧
        Own H F' H' d (.lst zs) ∧ Al (rPaper F') zs ps ∧ PapersOk kvs hs n wo (pre.take i) ps) ?_ ?_ ?_ ?_⟩
      · exact ⟨none, none, none, none, F3, [], [], rfl, Nat.zero_le _, fr03, .refl _, owd3, trivial, by rw [List.take_zero]; rfl, fun p hp => by cases hp⟩
      · rintro i σ H' _ ⟨_, _, _, _, F', _, _, _, _, fr, s3, _⟩
        exact SqL.of (fr.fh _ _ (s3 _ _ hb))
      · rintro i x σ H' hx ⟨v6, v7, v8, v9, F', zs, ps, rfl, hi, fr, s3, ow, alz, hps⟩
        obtain ⟨t, ht, hxt⟩ := alb.get hx
        obtain ⟨c', rfl, hc⟩ := rL_N hxt
        have so := set_ok ok hn (List.mem_of_getElem? ht)
        refine ⟨_, rfl, _, rfl, eqD (dt_L dt_N) (by omega) fr.fh ((mo_L mo_N).up s3 hxt) ((mo_L mo_N).up (s13.trans s3) hx1) (fun _ _ => trivial) (fun _ _ => trivial) ⟨_, rfl, ite2 (fun c => ?_) (fun c => ?_)⟩⟩
        · -- the set that was lowered
          have et : t = lw := of_decide_eq_true c
          have ei : i = pre.length := by
            by_cases z : i < pre.length
            · exfalso
              have e : pre[i]? = some t := by rw [← ht, epost, List.getElem?_append_left z]
              exact hlow.no t (List.mem_of_getElem? e) (et ▸ hlow.yes)
            · omega
          subst ei
          rw [List.take_length] at hps
          exact ⟨_, rfl, q ps hps _ _ _ (fr.freeze ow) ⟨d, zs, rfl, upd_same, mo_Paper.al (same_upd ow.f) alz⟩⟩
        · have et : t ≠ lw := of_decide_eq_false (by simpa using c)
          have ilt : i < pre.length := by
            by_cases z : i = pre.length
            · exfalso
              rw [epost, List.getElem?_append_right (by omega), z, Nat.sub_self] at ht
              exact et (Option.some.inj ht).symm
            · omega
          have hip : pre[i]? = some t := by rw [← ht, epost, List.getElem?_append_left ilt]
          have ngood := hlow.no t (List.mem_of_getElem? hip)
          have wok : WordsOk (wordsW hs wo t) := wordsW_ok ok hwo.ok (by have := so.len; omega) fun k hk => (so.at_ k hk).2
          have pok : LockOk (poolW kvs hs n t) := putIn_ok lok (flagsOf_flag ok _)
          have hlt : ∀ k ∈ n :: t, k < hs.length := fun k hk => by
            rcases List.mem_cons.mp hk with e | e
            · rw [e]; exact hn
            · exact so.lt e
          have len7 : (n :: t).length ≤ 7 := by rw [List.length_cons]; have := so.len; omega
          refine ⟨_, rfl, _, rfl, _, rfl, small7 (by show 1 ≤ 7; omega), fun p np => ⟨_, rfl, p, c', [nV n], t.map nV, rfl, rfl, upd_same, ?_, ?_, fun r nr => ?_⟩⟩
          · exact (fr.new np).fh _ _ (s3 _ _ hc)
          · rw [List.length_map]
            have := so.len
            exact small7 (by show 1 + _ ≤ 7; omega)
          have fr4 := (fr.new (o := .lst [nV n]) np).lay (o := .lst ([nV n] ++ t.map nV)) nr
          have ow4 := (ow.new (o' := .lst [nV n]) np).lay (o' := .lst ([nV n] ++ t.map nV)) nr
          have s4 := same_upd (o := .lst ([nV n] ++ t.map nV)) ((fr.new (o := .lst [nV n]) np).free nr).1
          have s04 := fr.ff.trans s4
          have s34 := s3.trans s4
          have al4 := mo_Paper.al s4 alz
          refine ⟨_, v, .ref a, .ref r, kvs, hs, n :: t, fr4.fh, rfl, mo_D.up s04 hv, lok, mo_Hal.up s04 hu0, ok, rL_mkN upd_same, len7, hlt, fun F5 H5 vp fr5 hvp => ?_⟩
          have s05 := s04.trans fr5.ff
          have s35 := s34.trans fr5.ff
          refine ⟨_, rfl, _, rfl, _, rfl, _, rfl, F5, .ref a, .ref c', hs, wo, t, fr5.fh, rfl, mo_Hal.up s05 hu0, ok, (mo_L mo_N).up s35 hxt, by have := so.len; omega, fun k hk => (so.at_ k hk).2, fun F6 H6 vw fr6 hvw => ?_⟩
          refine ⟨F6, vp, vw, poolW kvs hs n t, wordsW hs wo t, fr6.fh, rfl, mo_D.up fr6.ff hvp, hvw, wok, pok.pos, fun cn => absurd (.inr cn) ngood, ?_⟩
          intro F7 H7 vl W G fr7 hlp hvl
          obtain ⟨lp, z1, z2, rfl, hlpt, hz1, hz2⟩ := hvl
          have ow7 := ((ow4.call ntb_lst fr5).call ntb_lst fr6).call ntb_lst fr7
          have fr07 := ((fr4.trans fr5).trans fr6).trans fr7
          have s37 := (s35.trans fr6.ff).trans fr7.ff
          have al7 := mo_Paper.al ((fr5.ff.trans fr6.ff).trans fr7.ff) al4
          refine ⟨lp, _, rfl, SqT.of (fr7.fh _ _ hlpt), rfl, _, _, rfl, _, _, rfl, rfl, ?_⟩
          refine ⟨_, rfl, .inl ⟨rfl, _, SqL.of ow7.at_⟩, _, rfl, _, rfl, _, rfl, small7 (by show 3 ≤ 7; omega), fun z nz => ?_⟩
          have fr8 := fr07.lay (o := .tup [.ref c', z1, z2]) nz
          have ow8 := ow7.lay (o' := .tup [.ref c', z1, z2]) nz
          have s8 := same_upd (o := .tup [.ref c', z1, z2]) (fr07.free nz).1
          have lps : ps.length = i := by
            have := congrArg List.length hps.1
            rw [List.length_map, List.length_take] at this
            omega
          refine ⟨d, zs, .ref z, rfl, rfl, ow8.at_, ?_, ?_⟩
          · rw [alz.len, lps]
            exact small1000 (by omega)
          · refine ⟨_, _, _, _, _, zs ++ [.ref z], ps ++ [(t, W, G)], rfl, ilt, fr8.put ow8 trivial, s37.trans s8, ow8.put, ?_, ?_, ?_⟩
            · exact (mo_Paper.al s8 al7).snoc ⟨z, .ref c', z1, z2, rfl, upd_same, (mo_L mo_N).up (s37.trans s8) hxt, (mo_L mo_Want).up s8 hz1, (mo_L mo_C).up s8 hz2⟩
            · rw [List.map_append, hps.1, take_snoc hip]
              rfl
            · intro p hp
              rcases List.mem_append.mp hp with e | e
              · exact hps.2 p e
              · rw [List.mem_singleton] at e
                rw [e]
                exact hlp
      · rintro σ H' ⟨v6, v7, v8, v9, F', zs, ps, rfl, hi, fr, s3, ow, alz, hps⟩
        rw [lS, epost, List.length_append, List.length_cons] at hi
        omega
end
end Fl

/-! DefLaw1 -/
namespace Fl
open PySem L2
section
variable {P : Program} {w : World} {K : PySem.W.Frag} {mg : PySem.Str → Option Value} {base : Heap} {tbs : List (Addr × PySem.Str)}
theorem strjoin_chr : ∀ l : List Nat, PySem.Str.join (PySem.Str.ofString "") (l.map chr) = wd l
  | [] => rfl
  | [c] => rfl
  | c :: d :: l => by
    have ih := strjoin_chr (d :: l)
    show chr c ++ (PySem.Str.ofString "") ++ PySem.Str.join (PySem.Str.ofString "") ((d :: l).map chr) = _
    rw [ih]
    show (⟨#[c] ++ #[] ++ (d :: l).toArray⟩ : PySem.Str) = ⟨(c :: d :: l).toArray⟩
    congr 1
    simp
theorem join_chr (l : List Nat) : PySem.Txt.join (PySem.Str.ofString "") (l.map chr) = wd l := by
  rw [show PySem.Txt.join (PySem.Str.ofString "") (l.map chr) = PySem.Str.join (PySem.Str.ofString "") (l.map chr) from TL.join_eq _ _]
  exact strjoin_chr l
theorem cut_head {xs : List V} {b : Nat} {z : Int} (hz : z = (b : Int)) (h : b ≤ xs.length) : cutV xs none (some z) = xs.take b := by
  rw [hz]
  unfold cutV
  rw [show HT.sIx xs.length 0 none = 0 from rfl, show HT.sIx xs.length xs.length (some (b : Int)) = min b xs.length from HT.sIx_nat _ _ _, Nat.min_eq_left h, List.drop_zero, Nat.sub_zero]
abbrev s_law_cell : Stmt := top 37
abbrev N_law_cell : List PySem.Str := ["_law_script", "_law_k"]
theorem sc_law_cell : FnScope N_law_cell ["_law_script", "_law_k"] (defScope s_law_cell) := ⟨rfl, rfl, rfl, by decide +kernel, rfl, by decide +kernel, by decide +kernel⟩
def spLCell (K : PySem.W.Frag) : Sp := fun vs H Q _ => ∃ (a : Addr) (sc : List Int) (k : Nat), vs = [.ref a, nV k] ∧ SqL K H a (sc.map V.int) ∧ ∀ i : Int, Q (.int i) H
theorem ok_law_cell {f : Addr} {fd : FuncData} {k : Nat} (Fu : Fun K "_law_cell" "_law_cell" s_law_cell f fd) (T : Txt K mg) : FnOk P w K mg base L2.CX0 (k + 1) f fd ["_law_script", "_law_k"] (spLCell K) := by
  refine Fu.ok sc_law_cell (fun vs H Q E h => ?_) (fun cdv A outer s H vs Q E hr h => ?_)
  · obtain ⟨a, sc, k, rfl, _⟩ := h
    rfl
  · obtain ⟨a, sc, k, rfl, ha, q⟩ := h
    refine ⟨_, 
      (pss_cons (ps_if (pt_cmpR op_lt (pv 1) (pe_callB call_len_seq (by rfl) T.b_len PySem.boot_len (pa_cons (pv 0) pa_nil)) (nomark _))
        (pss_one (ps_ret (pe_ix ix_list (pv 0) (pv 1) (fun _ _ => rfl)))) pss_nil)
      (pss_one (ps_ret pe_int))), ?_⟩
    refine ⟨_, rfl, _, rfl, a, _, rfl, .inl ha, _, _, rfl, rfl, _, rfl, ite2 (fun c => ?_) (fun _ => q 0)⟩
    have hk : k < sc.length := by
      have := of_decide_eq_true c
      rw [List.length_map] at this
      omega
    exact ⟨_, rfl, _, rfl, a, _, _, .int sc[k], rfl, rfl, ha, at_of rfl (by rw [List.getElem?_map, List.getElem?_eq_getElem hk]; rfl), q _⟩
abbrev s_law_stream : Stmt := top 38
abbrev N_law_stream : List PySem.Str := ["_law_cell_here", "_law_many", "_law_number", "_law_found", "_law_k"]
theorem sc_law_stream : FnScope N_law_stream ["_law_cell_here", "_law_many"] (defScope s_law_stream) := ⟨rfl, rfl, rfl, by decide +kernel, rfl, by decide +kernel, by decide +kernel⟩
def spLStream (tbs : List (Addr × PySem.Str)) : Sp := fun vs H Q _ => ∃ (F : Hp) (c : Int) (m : Nat), L2.Same F H ∧ vs = [.int c, nV m] ∧ m ≤ 100 ∧ ∀ l : List Nat, l.length = m → Pf tbs F H Q (rL rN) l
theorem ok_law_stream {f : Addr} {fd : FuncData} {k : Nat} (Fu : Fun K "_law_stream" "_law_stream" s_law_stream f fd) (T : Txt K mg) : FnOk P w K mg base L2.CX0 (k + 1) f fd ["_law_cell_here", "_law_many"] (spLStream tbs) := by
  refine Fu.ok sc_law_stream (fun vs H Q E h => ?_) (fun cdv A outer s H vs Q E hr h => ?_)
  · obtain ⟨F, c, m, _, rfl, _⟩ := h
    rfl
  · obtain ⟨F, c, m, sm, rfl, hm, q⟩ := h
    refine ⟨_, 
      (pss_cons (ps_set (i := 2) sc_law_stream.nd rfl (Or.inl rfl) (pe_op op_add (pe_op op_mod (pv 0) pe_int) pe_int))
      (pss_cons (ps_set (i := 3) sc_law_stream.nd rfl (Or.inl rfl) (pe_lst pa_nil))
      (pss_cons (ps_for PassesOwn.never rfl (pi_range1 (by rfl) T.b_range (pa_cons (pv 1) pa_nil)) (pg_name (i := 4) sc_law_stream.nd rfl (Or.inl rfl))
        (pss_cons (ps_set (i := 2) sc_law_stream.nd rfl (Or.inl rfl) (pe_op op_mod (pe_op op_add (pe_op op_add (pe_op op_add (pe_op op_mul (pv 2) (pv 2)) (pe_op op_mul pe_int (pv 2))) (pe_op op_mul pe_int (pv 4))) pe_int) pe_int))
        (pss_one (ps_expr (pe_bm PySem.F.plainAttrs_list PySem.F.slot_list_append PySem.F.type_list_append mt_append (pv 3) (pa_cons (pe_op op_fdiv (pv 2) pe_int) pa_nil))))))
      (pss_one (ps_ret (pv 3)))))), ?_⟩
    refine ⟨_, rfl, _, _, rfl, rfl, (by show (0 : Int) < 2147483647; decide), _, _, rfl, rfl, Nat.zero_le _, fun d nd => ?_⟩
    have fr0 := (Fr.begin (T := tbs) sm).new (o := .lst []) nd
    have ow0 := (Fr.begin (T := tbs) sm).own (o := .lst []) nd
    refine ⟨_, rfl, _, rfl, by omega, by omega, ?_⟩
    have h0 := Int.emod_nonneg c (by decide : (2147483647 : Int) ≠ 0)
    have h1 := Int.emod_lt_of_pos c (by decide : (0 : Int) < 2147483647)
    refine for_range (lo := 0) (fun j σ H' => ∃ (i : Int) (v4 : Option V) (l : List Nat), σ = [some (.int c), some (nV m), some (.int i), some (.ref d), v4] ∧ 0 ≤ i ∧ i < 2147483647 + 48271 ∧ Fr tbs F H F H' ∧ Own H F H' d (.lst (l.map nV)) ∧ l.length = j) ?_ ?_ ?_
    · exact ⟨_, none, [], rfl, by omega, by omega, fr0, ow0, rfl⟩
    · rintro j σ H' hj ⟨i, v4, l, rfl, i0, i1, fr, ow, hl⟩
      have hj : j < m := by omega
      refine ⟨_, rfl, _, rfl, _, _, rfl, rfl, .inl ⟨by omega, by omega⟩, _, rfl, _, _, rfl, rfl, .inr ⟨by omega, by omega⟩, _, _, rfl, rfl, _, rfl, _, _, rfl, rfl, .inl ⟨by omega, by omega⟩, _, _, rfl, rfl, _, _, rfl, rfl, _, _, rfl, rfl, (by show (0 : Int) < 2147483647; decide), ?_⟩
      obtain ⟨n, hn⟩ : ∃ n, (i * i + 48271 * i + 7 * (0 + (j : Int)) + 1) % 2147483647 = n := ⟨_, rfl⟩
      have n0 : 0 ≤ n := by rw [← hn]; exact Int.emod_nonneg _ (by decide)
      have n1 : n < 2147483647 := by rw [← hn]; exact Int.emod_lt_of_pos _ (by decide)
      refine ⟨_, rfl, .inl ⟨rfl, _, SqL.of ow.at_⟩, _, rfl, _, _, rfl, rfl, ⟨(by show (0 : Int) < 64; decide), (by show (64 : Int) < 1073741824; decide)⟩, d, _, _, rfl, rfl, ow.at_, ?_, ?_⟩
      · rw [List.length_map]
        exact small1000 (by omega)
      · refine ⟨_, _, l ++ [(n / 64).toNat], rfl, ?_, ?_, fr.put ow trivial, ?_, by rw [List.length_append, hl]; rfl⟩
        · rw [hn]; exact n0
        · rw [hn]; omega
        · have e : (l ++ [(n / 64).toNat]).map nV = l.map nV ++ [V.int (n / 64)] := by
            rw [List.map_append]
            congr 1
            show [V.int _] = [V.int _]
            congr 2
            omega
          rw [e, ← hn]
          exact ow.put
    · rintro σ H' ⟨i, v4, l, rfl, i0, i1, fr, ow, hl⟩
      exact ⟨_, rfl, q l (by omega) _ _ _ (fr.freeze ow) (rL_mkN upd_same)⟩
abbrev s_law_letters : Stmt := top 39
abbrev N_law_letters : List PySem.Str := ["_law_script", "_law_cell_here", "_law_step", "_law_k"]
theorem sc_law_letters : FnScope N_law_letters ["_law_script"] (defScope s_law_letters) := ⟨rfl, rfl, rfl, by decide +kernel, rfl, by decide +kernel, by decide +kernel⟩
structure LetsOk (l : List Nat) : Prop where
  pos : 2 ≤ l.length
  most : l.length ≤ 5
  lets : ∀ c ∈ l, isLet c
def spLLetters (K : PySem.W.Frag) (tbs : List (Addr × PySem.Str)) : Sp := fun vs H Q _ => ∃ (F : Hp) (a : Addr) (sc : List Int), L2.Same F H ∧ vs = [.ref a] ∧ SqL K H a (sc.map V.int) ∧ ∀ l, LetsOk l → Pf tbs F H Q (rL rC) l
theorem let_at {i : Nat} (hi : i < 23) : ∃ c, isLet c ∧ LET.cps.toList[i]? = some c := by
  have : LET.cps.toList.length = 23 := rfl
  exact ⟨LET.cps.toList[i], mem_LET.mp (List.getElem_mem (by omega)), List.getElem?_eq_getElem (by omega)⟩
theorem eLET : PySem.Str.ofString "abcdefghijklmnopqrstuvw" = LET := by decide +kernel
theorem ok_law_letters {f : Addr} {fd : FuncData} (Fu : Fun K "_law_letters" "_law_letters" s_law_letters f fd) (T : Txt K mg) (C_law_cell : Cf P w K mg base 1 "_law_cell" (spLCell K)) : FnOk P w K mg base L2.CX0 2 f fd ["_law_script"] (spLLetters K tbs) := by
  refine Fu.ok sc_law_letters (fun vs H Q E h => ?_) (fun cdv A outer s H vs Q E hr h => ?_)
  · obtain ⟨F, a, sc, _, rfl, _⟩ := h
    rfl
  · obtain ⟨F, a, sc, sm, rfl, ha, q⟩ := h
    refine ⟨_, 
      (pss_cons (ps_set (i := 1) sc_law_letters.nd rfl (Or.inr rfl) (pe_cf C_law_cell hr (by decide) (by rfl) (pa_cons (pv 0) (pa_cons pe_int pa_nil))))
      (pss_cons (ps_set (i := 2) sc_law_letters.nd rfl (Or.inr rfl) (pe_op op_add pe_int (pe_op op_mod (pe_op op_fdiv (pv 1) pe_int) pe_int)))
      (pss_one (ps_ret (pe_lc (own := ([("_law_k", 3)] : List (PySem.Str × Nat))) rfl sc_law_letters.nd (pi_range1 (by rfl) T.b_range (pa_cons (pe_op op_add pe_int (pe_op op_mod (pe_op op_fdiv (pv 1) pe_int) pe_int)) pa_nil)) (blkOk_by (own := ([("_law_k", 3)] : List (PySem.Str × Nat))) (N := N_law_letters) (sc := defScope s_law_letters) (by decide +kernel)) (fun _ _ _ _ _ => (pg_name (i := 3) sc_law_letters.nd rfl (Or.inl rfl))) (fun _ _ _ _ _ => pts_nil) (fun _ _ _ _ _ => (pe_ix ix_str pe_str (pe_op op_mod (pe_op op_add (pv 1) (pe_op op_mul (pv 2) (pv 3))) pe_int) (fun _ _ => rfl)))))))), ?_⟩
    refine ⟨_, rfl, a, sc, 0, rfl, ha, fun c => ?_⟩
    have p7 : (0 : Int) < 7 := by decide
    have h0 := Int.emod_nonneg (c / 23) (by decide : (7 : Int) ≠ 0)
    have h1 := Int.emod_lt_of_pos (c / 23) (by decide : (0 : Int) < 7)
    have g0 := Int.emod_nonneg (c / 161) (by decide : (4 : Int) ≠ 0)
    have g1 := Int.emod_lt_of_pos (c / 161) (by decide : (0 : Int) < 4)
    refine ⟨_, rfl, _, _, rfl, rfl, ⟨(by show (0 : Int) < 23; decide), (by show (23 : Int) < 1073741824; decide)⟩, _, _, rfl, rfl, (by show (0 : Int) < 7; decide), _, _, rfl, rfl, ?_⟩
    refine ⟨_, rfl, _, _, rfl, rfl, ⟨(by show (0 : Int) < 161; decide), (by show (161 : Int) < 1073741824; decide)⟩, _, _, rfl, rfl, (by show (0 : Int) < 4; decide), _, _, rfl, rfl, _, rfl, ?_, ?_, fun D nD => ?_⟩
    · show -(2 ^ 62) ≤ 2 + c / 161 % 4
      omega
    · show 2 + c / 161 % 4 < 2 ^ 62
      omega
    refine lc_range (lo := 0) (fun i H' => ∃ l : List Nat, H' = upd H D (.lst (l.map fun c => V.str (chr c))) ∧ l.length = i ∧ ∀ c ∈ l, isLet c) ⟨[], rfl, rfl, fun c hc => by cases hc⟩ ?_ ?_
    · rintro i H' hi ⟨l, rfl, hl, hls⟩
      refine ⟨rfl, ?_⟩
      obtain ⟨j, hj⟩ : ∃ j : Nat, (c + (1 + c / 23 % 7) * (0 + (i : Int))) % 23 = (j : Int) := ⟨((c + (1 + c / 23 % 7) * (0 + (i : Int))) % 23).toNat, by
        have := Int.emod_nonneg (c + (1 + c / 23 % 7) * (0 + (i : Int))) (by decide : (23 : Int) ≠ 0)
        omega⟩
      have hj23 : j < 23 := by
        have := Int.emod_lt_of_pos (c + (1 + c / 23 % 7) * (0 + (i : Int))) (by decide : (0 : Int) < 23)
        omega
      obtain ⟨y, hy, hyl⟩ := let_at hj23
      refine ⟨_, rfl, _, rfl, _, rfl, _, _, rfl, rfl, .inl ⟨by omega, by omega⟩, _, _, rfl, rfl, _, _, rfl, rfl, (by show (0 : Int) < 23; decide), _, _, y, rfl, rfl, ?_, ?_, _, upd_same, ?_, l ++ [y], ?_, ?_, ?_⟩
      · rw [eLET]
        exact smallK (by show 23 ≤ 1000; decide)
      · rw [eLET]
        exact at_n hj hyl
      · rw [List.length_map]
        have hi : i < ((2 + c / 161 % 4).toNat) := hi
        exact small1000 (by omega)
      · rw [upd_upd, List.map_append]
        rfl
      · rw [List.length_append, hl]; rfl
      · intro d hd
        rcases List.mem_append.mp hd with e | e
        · exact hls d e
        · rw [List.mem_singleton] at e
          rw [e]; exact hy
    · rintro H' ⟨l, rfl, hl, hls⟩
      have hl : l.length = (2 + c / 161 % 4).toNat := hl
      exact q l ⟨by omega, by omega, hls⟩ _ _ _ ((Fr.begin sm).lay nD) (rL_mkC upd_same)
abbrev s_law_word : Stmt := top 40
abbrev N_law_word : List PySem.Str := ["_law_cell_here", "_law_letters_here", "_law_most", "_law_some", "_law_number"]
theorem sc_law_word : FnScope N_law_word ["_law_cell_here", "_law_letters_here", "_law_most"] (defScope s_law_word) := ⟨rfl, rfl, rfl, by decide +kernel, rfl, by decide +kernel, by decide +kernel⟩
def spLWord (tbs : List (Addr × PySem.Str)) : Sp := fun vs H Q _ => ∃ (F : Hp) (c : Int) (v : V) (l : List Nat), L2.Same F H ∧ vs = [.int c, v, nV 7] ∧ rL rC F v l ∧ LetsOk l ∧ ∀ wo F' H', Word7 wo → Fr tbs F H F' H' → Q (.str (wd wo)) H'
theorem ok_law_word {f : Addr} {fd : FuncData} (Fu : Fun K "_law_word" "_law_word" s_law_word f fd) (T : Txt K mg) (C_law_stream : Cf P w K mg base 1 "_law_stream" (spLStream tbs)) : FnOk P w K mg base L2.CX0 2 f fd ["_law_cell_here", "_law_letters_here", "_law_most"] (spLWord tbs) := by
  refine Fu.ok sc_law_word (fun vs H Q E h => ?_) (fun cdv A outer s H vs Q E hr h => ?_)
  · obtain ⟨F, c, v, l, _, rfl, _⟩ := h
    rfl
  · obtain ⟨F, c, v, l, sm, rfl, hv, hl, q⟩ := h
    obtain ⟨a, rfl, ha⟩ := rL_C hv
    refine ⟨_, 
      (pss_cons (ps_set (i := 3) sc_law_word.nd rfl (Or.inl rfl) (pe_cf C_law_stream hr (by decide) (by rfl) (pa_cons (pv 0) (pa_cons (pe_op op_add (pv 2) pe_int) pa_nil))))
      (pss_one (ps_ret (pe_join pe_str (pe_lc (own := ([("_law_number", 4)] : List (PySem.Str × Nat))) rfl sc_law_word.nd (pi_list (pe_slice sl_list (pv 3) po_none (po_some (pe_op op_add pe_int (pe_op op_mod (pe_ix ix_list (pv 3) (pv 2) (fun _ _ => rfl)) (pv 2)))))) (blkOk_by (own := ([("_law_number", 4)] : List (PySem.Str × Nat))) (N := N_law_word) (sc := defScope s_law_word) (by decide +kernel)) (fun _ _ _ _ _ => (pg_name (i := 4) sc_law_word.nd rfl (Or.inl rfl))) (fun _ _ _ _ _ => pts_nil) (fun _ _ _ _ _ => (pe_ix (ix_listK K) (pv 1) (pe_op op_mod (pv 4) (pe_callB (call_len_seqK K) (by rfl) T.b_len PySem.boot_len (pa_cons (pv 1) pa_nil))) (fun _ _ => rfl)))))))), ?_⟩
    refine ⟨_, rfl, _, rfl, _, _, rfl, rfl, F, c, 8, sm, rfl, by omega, fun st hst F1 H1 v1 fr1 hv1 => ?_⟩
    obtain ⟨b, rfl, hb⟩ := rL_N hv1
    have hb1 := fr1.fh _ _ hb
    have ha1 := fr1.fh _ _ (fr1.ff _ _ ha)
    have lst : (st.map nV).length = 8 := by rw [List.length_map]; exact hst
    have h7 : 7 < st.length := by omega
    have m0 := Nat.mod_lt st[7] (by decide : 0 < 7)
    refine ⟨⟨_, rfl⟩, _, rfl, _, rfl, _, rfl, b, _, _, nV st[7], rfl, rfl, SqL.of hb1, at_of (j := 7) rfl (by rw [List.getElem?_map, List.getElem?_eq_getElem h7]; rfl), _, rfl, _, _, rfl, rfl, (by show (0 : Int) < ((7 : Nat) : Int); decide), _, _, rfl, rfl, _, rfl, b, _, rfl, SqL.of hb1, fun p np => ?_⟩
    have ec : cutV (st.map nV) none (some ((1 : Int) + (st[7] : Int) % ((7 : Nat) : Int))) = (st.take (1 + st[7] % 7)).map nV := by
      rw [cut_head (b := 1 + st[7] % 7) (by omega) (by rw [lst]; omega), List.map_take]
    rw [ec]
    have fr2 := fr1.lay (o := .lst ((st.take (1 + st[7] % 7)).map nV)) np
    have ltk : (st.take (1 + st[7] % 7)).length = 1 + st[7] % 7 := by rw [List.length_take]; omega
    refine ⟨p, rfl, ⟨_, SqL.of upd_same⟩, fun D nD => lc_list (K := K) (a := p) (xs := (st.take (1 + st[7] % 7)).map nV) (fun i H' => ∃ wo : List Nat, Fr tbs F H (upd F1 p (.lst ((st.take (1 + st[7] % 7)).map nV))) H' ∧ Own H (upd F1 p (.lst ((st.take (1 + st[7] % 7)).map nV))) H' D (.lst (wo.map fun c => V.str (chr c))) ∧ wo.length = i ∧ ∀ c ∈ wo, isLet c) ?_ ?_ ?_ ?_⟩
    · exact ⟨[], fr2.new nD, fr2.own nD, rfl, fun c hc => by cases hc⟩
    · rintro i H' _ ⟨_, fr, _⟩
      exact SqL.of (fr.fh _ _ upd_same)
    · rintro i x H' hx ⟨wo, fr, ow, hwl, hws⟩
      have hx' := (List.getElem?_eq_some_iff.mp hx).1
      rw [List.length_map, ltk] at hx'
      rw [List.getElem?_map] at hx
      cases hn : (st.take (1 + st[7] % 7))[i]? with
      | none => rw [hn] at hx; cases hx
      | some n =>
      rw [hn] at hx
      obtain rfl : nV n = x := Option.some.inj hx
      have lpos := hl.pos
      have hnl : n % l.length < l.length := Nat.mod_lt _ (by omega)
      have ha' := fr.fh _ _ (fr.ff _ _ ha)
      have lla : (l.map fun c => V.str (chr c)).length = l.length := List.length_map _
      refine ⟨rfl, ?_⟩
      refine ⟨_, rfl, _, rfl, _, rfl, a, _, rfl, .inl (SqL.of ha'), _, _, rfl, rfl, ?_, a, _, _, .str (chr l[n % l.length]), rfl, rfl, SqL.of ha', at_of (j := n % l.length) ?_ ?_, _, ow.at_, ?_, wo ++ [l[n % l.length]], fr.put ow trivial, ?_, ?_, ?_⟩
      · show (0 : Int) < _
        rw [lla]
        omega
      · rw [lla]
        exact (Int.natCast_emod n l.length).symm
      · rw [List.getElem?_map, List.getElem?_eq_getElem hnl]
        rfl
      · rw [List.length_map]
        exact small1000 (by omega)
      · rw [List.map_append]
        exact ow.put
      · rw [List.length_append, hwl]; rfl
      · intro d hd
        rcases List.mem_append.mp hd with e | e
        · exact hws d e
        · rw [List.mem_singleton] at e
          rw [e]; exact hl.lets _ (List.getElem_mem hnl)
    · rintro H' ⟨wo, fr, ow, hwl, hws⟩
      rw [List.length_map, ltk] at hwl
      have ej : ((wo.map chr).map V.str) = wo.map fun c => V.str (chr c) := by rw [List.map_map]; rfl
      refine ⟨_, D, wo.map chr, rfl, rfl, .inl (SqL.of (by rw [ej]; exact ow.at_)), ?_, ?_⟩
      · have e1 : ((wo.map chr).map (·.length)).sum = wo.length := by
          rw [List.map_map]
          have : ∀ w : List Nat, (w.map ((fun x : PySem.Str => x.length) ∘ chr)).sum = w.length := by
            intro w
            induction w with
            | nil => rfl
            | cons c w ih =>
              rw [List.map_cons, List.sum_cons, ih, List.length_cons]
              show 1 + w.length = _
              omega
          exact this wo
        rw [e1]
        show wo.length + _ * 0 ≤ 16777216
        omega
      · rw [join_chr]
        exact q wo _ _ ⟨by omega, by omega, hws⟩ fr
abbrev s_law_locker : Stmt := top 41
abbrev N_law_locker : List PySem.Str := ["_law_cell_here", "_law_letters_here", "_law_most", "_law_locker_here", "_law_flag", "_law_number"]
theorem sc_law_locker : FnScope N_law_locker ["_law_cell_here", "_law_letters_here", "_law_most"] (defScope s_law_locker) := ⟨rfl, rfl, rfl, by decide +kernel, rfl, by decide +kernel, by decide +kernel⟩
def spLLocker (tbs : List (Addr × PySem.Str)) : Sp := fun vs H Q _ => ∃ (F : Hp) (c : Int) (v : V) (l : List Nat), L2.Same F H ∧ vs = [.int c, v, nV 2] ∧ rL rC F v l ∧ LetsOk l ∧ ∀ kvs, LockOk kvs → Pf tbs F H Q rD kvs
theorem eSUB : [V.str (PySem.Str.ofString "1"), V.str (PySem.Str.ofString "2"), V.str (PySem.Str.ofString "3"), V.str (PySem.Str.ofString "4")] = ([49, 50, 51, 52] : List Nat).map fun c => V.str (chr c) := by
  rw [show PySem.Str.ofString "1" = chr 49 by decide +kernel, show PySem.Str.ofString "2" = chr 50 by decide +kernel, show PySem.Str.ofString "3" = chr 51 by decide +kernel, show PySem.Str.ofString "4" = chr 52 by decide +kernel]
  rfl
theorem ok_law_locker {f : Addr} {fd : FuncData} (Fu : Fun K "_law_locker" "_law_locker" s_law_locker f fd) (T : Txt K mg) (C_law_stream : Cf P w K mg base 1 "_law_stream" (spLStream tbs)) : FnOk P w K mg base L2.CX0 2 f fd ["_law_cell_here", "_law_letters_here", "_law_most"] (spLLocker tbs) := by
  refine Fu.ok sc_law_locker (fun vs H Q E h => ?_) (fun cdv A outer s H vs Q E hr h => ?_)
  · obtain ⟨F, c, v, l, _, rfl, _⟩ := h
    rfl
  · obtain ⟨F, c, v, l, sm, rfl, hv, hl, q⟩ := h
    have hu := hu_of hr
    obtain ⟨a, rfl, ha⟩ := rL_C hv
    refine ⟨_, 
      (pss_cons (ps_set (i := 3) sc_law_locker.nd rfl (Or.inl rfl) pe_dnewK)
      (pss_cons (ps_for PassesOwn.never rfl (pi_zip (by rfl) T.b_zip (pa_cons (pe_op op_cat (pv 1) (pe_lst (pa_cons pe_str (pa_cons pe_str (pa_cons pe_str (pa_cons pe_str pa_nil)))))) (pa_cons (pe_cf C_law_stream hr (by decide) (by rfl) (pa_cons (pv 0) (pa_cons (pe_op op_add (pe_callB call_len_seq (by rfl) T.b_len PySem.boot_len (pa_cons (pv 1) pa_nil)) pe_int) pa_nil))) pa_nil))) (pg_tup rfl (pgs_cons (pg_name (i := 4) sc_law_locker.nd rfl (Or.inl rfl)) (pgs_cons (pg_name (i := 5) sc_law_locker.nd rfl (Or.inl rfl)) pgs_nil)))
        (pss_one (ps_if (pt_cmpR op_gt (pe_op op_mod (pv 5) (pe_op op_add (pv 2) pe_int)) pe_int (nomark _))
          (pss_one (ps_dput hu (pv 3) (pv 4) (pe_op op_sub (pe_op op_mod (pv 5) (pe_op op_add (pv 2) pe_int)) pe_int) rfl)) pss_nil)))
      (pss_one (ps_ret (pv 3))))), ?_⟩
    refine fun d nd => ?_
    have fr0 := (Fr.begin (T := tbs) sm).new (o := .dK (dk [])) nd
    have ow0 := (Fr.begin (T := tbs) sm).own (o := .dK (dk [])) nd
    have lmap : (l.map fun c => V.str (chr c)).length = l.length := List.length_map _
    have l5 := hl.most
    refine ⟨_, rfl, small7 (by show 4 ≤ 7; omega), fun p np => ⟨a, p, l.map (fun c => V.str (chr c)), _, rfl, rfl, (fr0.new np).fh _ _ ha, upd_same, ?_, fun r nr => ?_⟩⟩
    · rw [lmap]
      exact smallK (by show l.length + 4 ≤ 1000; omega)
    rw [eSUB, ← List.map_append]
    have fr1 := (fr0.new (o := .lst (([49, 50, 51, 52] : List Nat).map fun c => V.str (chr c))) np).lay (o := .lst ((l ++ [49, 50, 51, 52]).map fun c => V.str (chr c))) nr
    have ow1 := (ow0.new (o' := .lst (([49, 50, 51, 52] : List Nat).map fun c => V.str (chr c))) np).lay (o' := .lst ((l ++ [49, 50, 51, 52]).map fun c => V.str (chr c))) nr
    have hr1 : upd F r (.lst ((l ++ [49, 50, 51, 52]).map fun c => V.str (chr c))) r = some (.lst ((l ++ [49, 50, 51, 52]).map fun c => V.str (chr c))) := upd_same
    have ha1 : upd F r (.lst ((l ++ [49, 50, 51, 52]).map fun c => V.str (chr c))) a = some (.lst (l.map fun c => V.str (chr c))) := fr1.ff _ _ ha
    generalize upd F r (.lst ((l ++ [49, 50, 51, 52]).map fun c => V.str (chr c))) = F1 at fr1 ow1 hr1 ha1
    refine ⟨_, rfl, _, rfl, a, _, rfl, .inl (SqL.of (fr1.fh _ _ ha1)), _, _, rfl, rfl, F1, c, l.length + 4, fr1.fh, ?_, by omega, fun st hst F2 H2 v2 fr2 hv2 => ?_⟩
    · rw [lmap]; rfl
    obtain ⟨b, rfl, hb⟩ := rL_N hv2
    have fr12 := fr1.trans fr2
    have ow2 := ow1.call ntb_dK fr2
    have la : ((l ++ [49, 50, 51, 52]).map fun c => V.str (chr c)).length = l.length + 4 := by rw [List.length_map, List.length_append]; rfl
    have lb : (st.map nV).length = l.length + 4 := by rw [List.length_map]; exact hst
    refine ⟨r, b, _, _, rfl, SqL.of (fr2.fh _ _ (fr2.ff _ _ hr1)), SqL.of (fr2.fh _ _ hb), ?_⟩
    refine for_it (walk_zip (n := l.length + 4) (xs := (l ++ [49, 50, 51, 52]).map fun c => V.str (chr c)) (ys := st.map nV) (by rw [la, lb]; omega)) (fun i σ H' => ∃ v4 v5 kvs, σ = [some (.int c), some (.ref a), some (nV 2), some (.ref d), v4, v5] ∧ Fr tbs F H F2 H' ∧ Own H F2 H' d (.dK (dk kvs)) ∧ LockOk kvs) ?_ ?_ ?_ ?_
    · exact ⟨none, none, [], rfl, fr12, ow2, ⟨List.nodup_nil, fun p hp => (by cases hp), fun p hp => (by cases hp)⟩⟩
    · rintro i σ H' _ ⟨_, _, _, _, fr, _⟩
      exact ⟨SqL.of (fr.fh _ _ (fr2.ff _ _ hr1)), SqL.of (fr.fh _ _ hb)⟩
    · rintro i x σ H' H'' hi ⟨v4, v5, kvs, rfl, fr, ow, lok⟩ ⟨t, y1, y2, rfl, nt, rfl, e1, e2⟩
      have e1 : ((l ++ [49, 50, 51, 52]).map fun c => V.str (chr c))[i]? = some y1 := e1
      have e2 : (st.map nV)[i]? = some y2 := e2
      rw [List.getElem?_map] at e1 e2
      cases hc : (l ++ [49, 50, 51, 52])[i]? with
      | none => rw [hc] at e1; cases e1
      | some k =>
      cases hn : st[i]? with
      | none => rw [hn] at e2; cases e2
      | some n =>
      rw [hc] at e1
      rw [hn] at e2
      obtain rfl : V.str (chr k) = y1 := Option.some.inj e1
      obtain rfl : nV n = y2 := Option.some.inj e2
      have kf : isFlag k := by
        rcases List.mem_append.mp (List.mem_of_getElem? hc) with z | z
        · exact .inl (hl.lets k z)
        · right
          simp only [List.mem_cons, List.not_mem_nil, or_false] at z
          unfold isSub
          omega
      have fr3 := fr.new (o := .tup [V.str (chr k), nV n]) nt
      have ow3 := ow.new (o' := .tup [V.str (chr k), nV n]) nt
      refine ⟨t, _, rfl, SqT.of upd_same, rfl, _, _, rfl, _, _, rfl, rfl, ?_⟩
      refine ⟨_, rfl, _, rfl, _, _, rfl, rfl, _, _, rfl, rfl, (by show (0 : Int) < ((2 : Nat) : Int) + 2; decide), _, _, rfl, rfl, _, rfl, ite2 (fun c1 => ?_) (fun _ => ⟨_, _, kvs, rfl, fr3, ow3, lok⟩)⟩
      have hpos : (n : Int) % (((2 : Nat) : Int) + 2) > 0 := of_decide_eq_true c1
      refine ⟨_, rfl, _, rfl, _, _, rfl, rfl, _, _, rfl, rfl, (by show (0 : Int) < ((2 : Nat) : Int) + 2; decide), _, _, rfl, rfl, _, rfl, _, rfl, d, _, rfl, DPut.k (k := kC k) ow3.at_ ?_, ?_⟩
      · unfold dk
        rw [List.length_map]
        exact small1000 (by have := lok.len; omega)
      · have ep := dk_put kvs k ((n : Int) % (((2 : Nat) : Int) + 2) - 1)
        refine ⟨_, _, putL kvs k ((n : Int) % (((2 : Nat) : Int) + 2) - 1), rfl, fr3.put ow3 trivial, ?_, lok.put kf (by omega)⟩
        rw [← ep]
        exact ow3.put
    · rintro σ H' ⟨v4, v5, kvs, rfl, fr, ow, lok⟩
      exact ⟨_, rfl, q kvs lok _ _ _ (fr.freeze ow) ⟨d, rfl, upd_same⟩⟩
end
end Fl

/-! FlIsi -/
/-! isinstance and membership, as wishes. -/
namespace Fl
open PySem L2
section
variable {K : PySem.W.Frag} {F H : Hp} {Q : VK}
theorem isiLL {a : Addr} {xs : List V} (h : H a = some (.lst xs)) (q : Q (.bl true) H) : rIsi K [.ref a, .ty "list"] H Q := ⟨_, _, _, _, _, rfl, .ty _, .base (.lst h), kit_ty (by decide +kernel), q⟩
theorem isiLT {a : Addr} {xs : List V} (h : H a = some (.lst xs)) (q : Q (.bl false) H) : rIsi K [.ref a, .ty "tuple"] H Q := ⟨_, _, _, _, _, rfl, .ty _, .base (.lst h), kit_ty (by decide +kernel), q⟩
theorem isiTT {a : Addr} {xs : List V} (h : H a = some (.tup xs)) (q : Q (.bl true) H) : rIsi K [.ref a, .ty "tuple"] H Q := ⟨_, _, _, _, _, rfl, .ty _, .base (.tup h), kit_ty (by decide +kernel), q⟩
theorem isiSS {x : PySem.Str} (q : Q (.bl true) H) : rIsi K [.str x, .ty "str"] H Q := ⟨_, _, _, _, _, rfl, .ty _, .base (.str x), kit_ty (by decide +kernel), q⟩
theorem inV_chr (c : Nat) : ∀ l : List Nat, inV (.str (chr c)) (l.map fun c => V.str (chr c)) = decide (c ∈ l)
  | [] => rfl
  | d :: l => by
    have ih := inV_chr c l
    unfold inV at ih ⊢
    rw [List.map_cons, List.any_cons, ih]
    show ((chr d == chr c) || decide (c ∈ l)) = _
    by_cases h : d = c
    · simp [h]
    · have h1 : (chr d == chr c) = false := by
        rw [beq_eq_false_iff_ne]
        exact fun z => h (chr_inj z)
      have h2 : ¬ c = d := fun z => h z.symm
      rw [h1]
      simp [h2]
theorem inV_nat (c : Nat) : ∀ l : List Nat, inV (nV c) (l.map nV) = decide (c ∈ l)
  | [] => rfl
  | d :: l => by
    have ih := inV_nat c l
    unfold inV at ih ⊢
    rw [List.map_cons, List.any_cons, ih]
    show (((d : Int) == (c : Int)) || decide (c ∈ l)) = _
    by_cases h : d = c
    · simp [h]
    · have h1 : ((d : Int) == (c : Int)) = false := by
        rw [beq_eq_false_iff_ne]
        intro z
        exact h (by omega)
      have h2 : ¬ c = d := fun z => h z.symm
      rw [h1]
      simp [h2]
theorem flat_chr (l : List Nat) : (l.map fun c => V.str (chr c)).all flatV = true := by
  rw [List.all_eq_true]
  intro x hx
  obtain ⟨c, _, rfl⟩ := List.mem_map.mp hx
  rfl
theorem flat_nat (l : List Nat) : (l.map nV).all flatV = true := by
  rw [List.all_eq_true]
  intro x hx
  obtain ⟨c, _, rfl⟩ := List.mem_map.mp hx
  rfl
/-- a sign in a list of signs; a number in a list of numbers -/
theorem inC {a : Addr} {c : Nat} {l : List Nat} {neg : Bool} (h : H a = some (.lst (l.map fun c => V.str (chr c)))) (q : Q (.bl (if neg then !decide (c ∈ l) else decide (c ∈ l))) H) : rIn K neg (.str (chr c)) (.ref a) H Q :=
  ⟨a, _, rfl, .inl (SqL.of h), rfl, flat_chr l, by rw [inV_chr]; exact q⟩
theorem inN {a : Addr} {c : Nat} {l : List Nat} {neg : Bool} (h : H a = some (.lst (l.map nV))) (q : Q (.bl (if neg then !decide (c ∈ l) else decide (c ∈ l))) H) : rIn K neg (nV c) (.ref a) H Q :=
  ⟨a, _, rfl, .inl (SqL.of h), rfl, flat_nat l, by rw [inV_nat]; exact q⟩
end
end Fl

/-! DefLaw2 -/
namespace Fl
open PySem L2
section
variable {P : Program} {w : World} {K : PySem.W.Frag} {mg : PySem.Str → Option Value} {base : Heap} {tbs : List (Addr × PySem.Str)}
theorem str_digit : ∀ i, i < 4 → PySem.Str.ofString (toString ((1 : Int) + ((i : Nat) : Int))) = chr (49 + i)
  | 0, _ => by decide +kernel
  | 1, _ => by decide +kernel
  | 2, _ => by decide +kernel
  | 3, _ => by decide +kernel
  | i + 4, h => absurd h (by omega)
theorem log_digit : ∀ i, i < 4 → ((1 : Int) + ((i : Nat) : Int)).natAbs.log2 < 1920
  | 0, _ => by decide +kernel
  | 1, _ => by decide +kernel
  | 2, _ => by decide +kernel
  | 3, _ => by decide +kernel
  | i + 4, h => absurd h (by omega)
theorem subs_all (l : List Nat) : ∀ {p j : Nat}, 1 ≤ p → j = min p 5 - 1 → subs l p (([1, 2, 3, 4] : List Nat).take j) = subs l p [1, 2, 3, 4]
  | 1, j, _, h => by
    subst h
    simp [subs, List.filter_cons]
  | 2, j, _, h => by
    subst h
    simp [subs, List.filter_cons]
  | 3, j, _, h => by
    subst h
    simp [subs, List.filter_cons]
  | 4, j, _, h => by
    subst h
    simp [subs, List.filter_cons]
  | p + 5, j, _, h => by
    have : j = 4 := by omega
    subst this
    rfl
abbrev s_law_choices : Stmt := top 42
abbrev N_law_choices : List PySem.Str := ["_law_word_here", "_law_place", "_law_found", "_law_n"]
theorem sc_law_choices : FnScope N_law_choices ["_law_word_here", "_law_place"] (defScope s_law_choices) := ⟨rfl, rfl, rfl, by decide +kernel, rfl, by decide +kernel, by decide +kernel⟩
theorem ok_law_choices {f : Addr} {fd : FuncData} {k : Nat} (Fu : Fun K "_law_choices" "_law_choices" s_law_choices f fd) (T : Txt K mg) : FnOk P w K mg base L2.CX0 (k + 1) f fd ["_law_word_here", "_law_place"] (spChoicesAt tbs) := by
  refine Fu.ok sc_law_choices (fun vs H Q E h => ?_) (fun cdv A outer s H vs Q E hr h => ?_)
  · obtain ⟨F, l, p, _, rfl, _⟩ := h
    rfl
  · obtain ⟨F, l, p, sm, rfl, hp1, hp2, hl, q⟩ := h
    refine ⟨_, 
      (pss_cons (ps_set (i := 2) sc_law_choices.nd rfl (Or.inl rfl) (pe_lst (pa_cons (pe_ix ix_str (pv 0) (pe_op op_sub (pv 1) pe_int) (fun _ _ => rfl)) pa_nil)))
      (pss_cons (ps_for PassesOwn.never rfl (pi_range2 (by rfl) T.b_range (pa_cons pe_int (pa_cons (pe_callB (call_min2 rfl) (by rfl) T.b_min (by decide +kernel) (pa_cons (pv 1) (pa_cons pe_int pa_nil))) pa_nil))) (pg_name (i := 3) sc_law_choices.nd rfl (Or.inl rfl))
        (pss_one (ps_if (pt_cmpR op_eq (pe_ix ix_str (pv 0) (pe_op op_sub (pv 3) pe_int) (fun _ _ => rfl)) (pe_ix ix_str (pv 0) (pe_op op_sub (pv 1) pe_int) (fun _ _ => rfl)) (nomark _))
          (pss_one (ps_expr (pe_bm PySem.F.plainAttrs_list PySem.F.slot_list_append PySem.F.type_list_append mt_append (pv 2) (pa_cons (pe_callTy call_str_int (by rfl) T.b_str (by decide +kernel) (pa_cons (pv 3) pa_nil)) pa_nil)))) pss_nil)))
      (pss_one (ps_ret (pv 2))))), ?_⟩
    have hlt : p - 1 < l.length := by omega
    have ec : l.getD (p - 1) 0 = l[p - 1] := by
      rw [List.getD_eq_getElem?_getD, List.getElem?_eq_getElem hlt]; rfl
    refine ⟨_, rfl, _, rfl, _, _, rfl, rfl, _, _, l[p - 1], rfl, rfl, ?_, at_n (j := p - 1) (by omega) (List.getElem?_eq_getElem hlt), (by show 1 ≤ sizeLine; exact small7 (by omega)), fun a na => ?_⟩
    · rw [wd_len]; exact smallK hl
    refine ⟨_, rfl, _, _, rfl, _, _, rfl, ⟨by decide, by decide, ?_, ?_⟩, ?_⟩
    · split <;> omega
    · split <;> omega
    have eN : ((if (5 : Int) < (p : Int) then (5 : Int) else (p : Int)) - 1).toNat = min p 5 - 1 := by split <;> omega
    refine for_range (lo := 1) (fun i σ H' => i ≤ 4 ∧ ∃ v3, σ = [some (.str (wd l)), some (.int (p : Int)), some (.ref a), v3] ∧ H' = upd H a (.lst ((l[p - 1] :: subs l p (([1, 2, 3, 4] : List Nat).take i)).map fun c => V.str (chr c)))) ?_ ?_ ?_
    · exact ⟨by omega, none, rfl, rfl⟩
    · rintro i σ H' hi ⟨_, v3, rfl, rfl⟩
      rw [eN] at hi
      have hi4 : i < 4 := by omega
      have hil : i < l.length := by omega
      refine ⟨_, rfl, _, rfl, _, _, rfl, rfl, _, _, l[i], rfl, rfl, ?_, at_n (j := i) (by omega) (List.getElem?_eq_getElem hil), _, rfl, _, rfl, _, _, rfl, rfl, _, _, l[p - 1], rfl, rfl, ?_, at_n (j := p - 1) (by omega) (List.getElem?_eq_getElem hlt), rfl, _, rfl, ite2 (fun c2 => ?_) (fun c2 => ?_)⟩
      · rw [wd_len]; exact smallK hl
      · rw [wd_len]; exact smallK hl
      · have e2 : l[i] = l[p - 1] := chr_inj (V.str.inj (of_decide_eq_true c2))
        have e3 : i + 1 < p ∧ l[i + 1 - 1]? = l[p - 1]? := ⟨by omega, by rw [List.getElem?_eq_getElem hlt, ← e2]; exact List.getElem?_eq_getElem hil⟩
        refine ⟨_, rfl, .inl ⟨rfl, _, SqL.of upd_same⟩, _, rfl, _, rfl, ?_, a, _, _, rfl, rfl, upd_same, ?_, ?_⟩
        · exact log_digit i hi4
        · rw [List.length_map, List.length_cons]
          refine Nat.lt_of_le_of_lt ?_ (small1000 (Nat.le_refl 1000))
          unfold subs
          rw [List.length_map]
          have h1 := List.length_filter_le (fun n => decide (n < p) && decide (l[n - 1]? = l[p - 1]?)) (([1, 2, 3, 4] : List Nat).take i)
          have h2 : (([1, 2, 3, 4] : List Nat).take i).length ≤ i := by rw [List.length_take]; omega
          omega
        · refine ⟨by omega, _, rfl, ?_⟩
          rw [upd_upd, take4 i hi4, subs_snoc, if_pos e3, show 48 + (i + 1) = 49 + i by omega, ← List.cons_append, List.map_append]
          rw [str_digit i hi4]
          rfl
      · have e3 : ¬ (i + 1 < p ∧ l[i + 1 - 1]? = l[p - 1]?) := fun ⟨_, h2⟩ => c2 (decide_eq_true (by
          rw [List.getElem?_eq_getElem hlt] at h2
          have h3 : l[i]? = some l[p - 1] := h2
          rw [List.getElem?_eq_getElem hil] at h3
          rw [Option.some.inj h3]))
        refine ⟨by omega, _, rfl, ?_⟩
        rw [take4 i hi4, subs_snoc, if_neg e3, List.append_nil]
    · rintro σ H' ⟨_, v3, rfl, rfl⟩
      rw [eN]
      refine ⟨_, rfl, ?_⟩
      have e4 : (l[p - 1] :: subs l p (([1, 2, 3, 4] : List Nat).take (min p 5 - 1))) = choices l p := by
        unfold choices
        rw [ec, subs_all l hp1 rfl]
      rw [e4]
      exact q _ _ _ ((Fr.begin sm).lay na) (rL_mkC upd_same)
abbrev s_law_reads : Stmt := top 43
abbrev N_law_reads : List PySem.Str := ["_law_hoist", "_law_word_here", "_law_k"]
theorem sc_law_reads : FnScope N_law_reads ["_law_hoist", "_law_word_here"] (defScope s_law_reads) := ⟨rfl, rfl, rfl, by decide +kernel, rfl, by decide +kernel, by decide +kernel⟩
def spLReads (tbs : List (Addr × PySem.Str)) : Sp := fun vs H Q _ => ∃ (F : Hp) (v : V) (h l : List Nat), L2.Same F H ∧ vs = [v, .str (wd l)] ∧ rL rC F v h ∧ h.length = l.length ∧ l.length ≤ 7 ∧ (∀ (i c : Nat), h[i]? = some c → c ∈ choices l (i + 1)) ∧ ∀ F' H', Fr tbs F H F' H' → Q (.bl true) H'
theorem ok_law_reads {f : Addr} {fd : FuncData} (Fu : Fun K "_law_reads" "_law_reads" s_law_reads f fd) (T : Txt K mg) (C_law_choices : Cf P w K mg base 1 "_law_choices" (spChoicesAt tbs)) : FnOk P w K mg base L2.CX0 2 f fd ["_law_hoist", "_law_word_here"] (spLReads tbs) := by
  refine Fu.ok sc_law_reads (fun vs H Q E h => ?_) (fun cdv A outer s H vs Q E hr h => ?_)
  · obtain ⟨F, v, h, l, _, rfl, _⟩ := h
    rfl
  · obtain ⟨F, v, h, l, sm, rfl, hv, hl, l7, hin, q⟩ := h
    obtain ⟨a, rfl, ha⟩ := rL_C hv
    have wl : (wd l).length = l.length := wd_len l
    have lh : (h.map fun c => V.str (chr c)).length = l.length := by rw [List.length_map, hl]
    refine ⟨_, 
      (pss_cons (ps_if (PW.pt (pw_or (pt_not (pt_val (pe_callB call_isi (by rfl) T.b_isinstance (by decide +kernel) (pa_cons (pv 0) (pa_cons (pe_bltn (v := .ty "list") (u := .type "list") (by rfl) T.b_list (by decide +kernel) rfl) pa_nil))))) (pw_or1 (pt_cmpR op_ne (pe_callB call_len_seq (by rfl) T.b_len PySem.boot_len (pa_cons (pv 0) pa_nil)) (pe_callB call_len_str (by rfl) T.b_len PySem.boot_len (pa_cons (pv 1) pa_nil)) (nomark _)))))
        (pss_one (ps_ret pe_bl)) pss_nil)
      (pss_cons (ps_for PassesOwn.never rfl (pi_range1 (by rfl) T.b_range (pa_cons (pe_callB call_len_str (by rfl) T.b_len PySem.boot_len (pa_cons (pv 1) pa_nil)) pa_nil)) (pg_name (i := 2) sc_law_reads.nd rfl (Or.inl rfl))
        (pss_one (ps_if (PW.pt (pw_or (pt_not (pt_val (pe_callB call_isi (by rfl) T.b_isinstance (by decide +kernel) (pa_cons (pe_ix ix_list (pv 0) (pv 2) (fun _ _ => rfl)) (pa_cons (pe_bltn (v := .ty "str") (u := .type "str") (by rfl) T.b_str (by decide +kernel) rfl) pa_nil))))) (pw_or1 (pt_cmpR op_notIn_seq (pe_ix ix_list (pv 0) (pv 2) (fun _ _ => rfl)) (pe_cf C_law_choices hr (by decide) (by rfl) (pa_cons (pv 1) (pa_cons (pe_op op_add (pv 2) pe_int) pa_nil))) (by rfl)))))
          (pss_one (ps_ret pe_bl)) pss_nil)))
      (pss_one (ps_ret pe_bl)))), ?_⟩
    refine ⟨_, rfl, _, _, _, _, true, rfl, .ty _, .base (.lst (sm _ _ ha)), kit_ty (by decide +kernel), _, rfl, iteF ?_⟩
    refine ⟨_, rfl, a, _, rfl, .inl (SqL.of (sm _ _ ha)), _, rfl, _, rfl, smallK (by rw [wl]; omega), rfl, _, rfl, ?_⟩
    refine ite2 (fun c => ?_) (fun _ => ?_)
    · exfalso
      rw [lh, wl] at c
      simp at c
    refine ⟨_, rfl, _, rfl, smallK (by rw [wl]; omega), _, rfl, by rw [wl]; omega, by rw [wl]; omega, ?_⟩
    refine for_range (lo := 0) (fun i σ H' => ∃ v2 F', σ = [some (.ref a), some (.str (wd l)), v2] ∧ Fr tbs F H F' H') ?_ ?_ ?_
    · exact ⟨none, F, rfl, Fr.begin sm⟩
    · rintro i σ H' hi ⟨v2, F', rfl, fr⟩
      have hi : i < l.length := by rw [wl] at hi; omega
      have e0 : V.int (0 + (i : Int)) = nV i := by rw [Int.zero_add]
      rw [e0]
      obtain ⟨c, hc⟩ : ∃ c, h[i]? = some c := ⟨_, List.getElem?_eq_getElem (by omega)⟩
      have ha' := fr.fh _ _ (fr.ff _ _ ha)
      have hx : (h.map fun c => V.str (chr c))[i]? = some (.str (chr c)) := by rw [List.getElem?_map, hc]; rfl
      refine ⟨_, rfl, _, rfl, a, _, _, _, rfl, rfl, SqL.of ha', at_of rfl hx, _, _, _, _, true, rfl, .ty _, .base (.str _), kit_ty (by decide +kernel), _, rfl, iteF ?_⟩
      refine ⟨_, rfl, _, rfl, a, _, _, _, rfl, rfl, SqL.of ha', at_of rfl hx, _, rfl, _, rfl, _, _, rfl, rfl, F', l, i + 1, fr.fh, rfl, by omega, by omega, by omega, fun F2 H2 v2 fr2 hv2 => ?_⟩
      obtain ⟨b, rfl, hb⟩ := rL_C hv2
      refine inC (neg := true) (fr2.fh _ _ hb) ⟨_, rfl, ite2 (fun z => ?_) (fun _ => ⟨_, F2, rfl, fr.trans fr2⟩)⟩
      exfalso
      simp [hin i c hc] at z
    · rintro σ H' ⟨v2, F', rfl, fr⟩
      exact q F' H' fr
end
end Fl

/-! DefLaw3 -/
namespace Fl
open PySem L2
section
variable {P : Program} {w : World} {K : PySem.W.Frag} {mg : PySem.Str → Option Value} {base : Heap} {tbs : List (Addr × PySem.Str)}
theorem eSUBs : PySem.Str.ofString "1234" = SUB := by decide +kernel
theorem occ_digit : ∀ i, i < 4 → Builtin.Str.occurrences (PySem.Str.ofString "1234") (chr (49 + i)) 0 (PySem.Str.ofString "1234").length 1 = [i]
  | 0, _ => by decide +kernel
  | 1, _ => by decide +kernel
  | 2, _ => by decide +kernel
  | 3, _ => by decide +kernel
  | i + 4, h => absurd h (by omega)
abbrev s_law_read : Stmt := top 46
abbrev N_law_read : List PySem.Str := ["_law_hoist", "_law_word_here", "_law_flag"]
theorem sc_law_read : FnScope N_law_read ["_law_hoist"] (defScope s_law_read) := ⟨rfl, rfl, rfl, by decide +kernel, rfl, by decide +kernel, by decide +kernel⟩
theorem ok_law_read {f : Addr} {fd : FuncData} {k : Nat} (Fu : Fun K "_law_read" "_law_read" s_law_read f fd) (T : Txt K mg) : FnOk P w K mg base L2.CX0 (k + 1) f fd ["_law_hoist"] (spReadOf tbs) := by
  refine Fu.ok sc_law_read (fun vs H Q E h => ?_) (fun cdv A outer s H vs Q E hr h => ?_)
  · obtain ⟨F, v, h, _, rfl, _⟩ := h
    rfl
  · obtain ⟨F, v, h, sm, rfl, hv, ok, q⟩ := h
    obtain ⟨a, rfl, ha⟩ := rL_C hv
    refine ⟨_, 
      (pss_cons (ps_set (i := 1) sc_law_read.nd rfl (Or.inl rfl) pe_str)
      (pss_cons (ps_for PassesOwn.never rfl (pi_list (pv 0)) (pg_name (i := 2) sc_law_read.nd rfl (Or.inl rfl))
        (pss_one (ps_if (pt_cmpR op_in_sign (pv 2) pe_str (by rfl))
          (pss_one (ps_set (i := 1) sc_law_read.nd rfl (Or.inl rfl) (pe_op op_add_str (pv 1) (pe_ix ix_str (pv 1) (pe_m1 PySem.F.slot_str_index PySem.F.type_str_index mt_sindex pe_str (pv 2)) (fun _ _ => rfl)))))
          (pss_one (ps_set (i := 1) sc_law_read.nd rfl (Or.inl rfl) (pe_op op_add_str (pv 1) (pv 2)))))))
      (pss_one (ps_ret (pv 1))))), ?_⟩
    have hA : ∀ {H' : Hp}, H' = H → SqL K H' a (h.map fun c => V.str (chr c)) := fun e => by rw [e]; exact SqL.of (sm _ _ ha)
    refine ⟨_, rfl, a, rfl, ⟨_, hA rfl⟩, for_list (K := K) (a := a) (xs := h.map fun c => V.str (chr c)) (fun i σ H' => ∃ v2, σ = [some (.ref a), some (.str (wd (readOf (h.take i)))), v2] ∧ H' = H) ⟨none, ?_, rfl⟩ (fun i σ H' _ ⟨_, _, e⟩ => hA e) ?_ ?_⟩
    · rw [List.take_zero]
      have e0 : (PySem.Str.ofString "") = wd (readOf []) := by decide +kernel
      show _ = [some (V.ref a), some (V.str (wd (readOf []))), none]
      rw [← e0]
      rfl
    · rintro i x σ H' hi ⟨v2, rfl, rfl⟩
      rw [List.getElem?_map] at hi
      cases hc : h[i]? with
      | none => rw [hc] at hi; cases hi
      | some c =>
        rw [hc] at hi
        obtain rfl : V.str (chr c) = x := Option.some.inj hi
        have il : i < h.length := (List.getElem?_eq_some_iff.mp hc).1
        have lw : (readOf (h.take i)).length = i := by rw [read_len, List.length_take]; omega
        have m7 := ok.most
        have hs := read_take h hc
        refine ⟨_, rfl, c, _, rfl, rfl, _, rfl, ite2 (fun h1 => ?_) (fun h1 => ?_)⟩
        · rw [eSUBs] at h1
          have l1 : isSub c := mem_SUB.mp (of_decide_eq_true h1)
          have n1 : ¬ isLet c := fun z => by
            have := z.1
            have := l1.2
            omega
          have hb := l1.1
          rcases ok.fits i c hc with z | ⟨hsub, hle⟩
          · exact absurd z n1
          unfold readStep at hs
          rw [if_neg n1] at hs
          have jl : c - 49 < (readOf (h.take i)).length := by rw [lw]; omega
          have h4 : c - 49 < 4 := by have := l1.2; omega
          have ec : chr c = chr (49 + (c - 49)) := by congr 1; omega
          refine ⟨_, rfl, _, rfl, ⟨_, rfl⟩, _, rfl, _, _, c - 49, [], rfl, rfl, ?_, _, _, (readOf (h.take i))[c - 49], rfl, rfl, ?_, at_n (j := c - 49) rfl (List.getElem?_eq_getElem jl), _, _, rfl, rfl, ?_, ?_⟩
          · rw [ec]
            exact occ_digit _ h4
          · rw [wd_len, lw]
            exact smallK (by omega)
          · rw [wd_len, lw]
            exact smallK (by show i + 1 ≤ 1000; omega)
          · refine ⟨some (.str (chr c)), ?_, rfl⟩
            rw [hs, ← wd_add, List.getD_eq_getElem?_getD, List.getElem?_eq_getElem jl]
            rfl
        · have n1 : ¬ isSub c := fun z => h1 (decide_eq_true (by rw [eSUBs]; exact mem_SUB.mpr z))
          have l1 : isLet c := by
            rcases ok.fits i c hc with z | ⟨hsub, hle⟩
            · exact z
            · exact absurd hsub n1
          unfold readStep at hs
          rw [if_pos l1] at hs
          refine ⟨_, rfl, _, rfl, _, _, rfl, rfl, ?_, ?_⟩
          · rw [wd_len, lw]
            exact smallK (by show i + 1 ≤ 1000; omega)
          · refine ⟨some (.str (chr c)), ?_, rfl⟩
            rw [hs, ← wd_add]
            rfl
    · rintro σ H' ⟨v2, rfl, rfl⟩
      rw [List.length_map, List.take_length]
      exact ⟨_, rfl, q _ (Fr.begin sm)⟩
abbrev s_law_others : Stmt := top 52
abbrev N_law_others : List PySem.Str := ["_law_halyards", "_law_number", "_law_found", "_law_k"]
theorem sc_law_others : FnScope N_law_others ["_law_halyards", "_law_number"] (defScope s_law_others) := ⟨rfl, rfl, rfl, by decide +kernel, rfl, by decide +kernel, by decide +kernel⟩
theorem ok_law_others {f : Addr} {fd : FuncData} {k : Nat} (Fu : Fun K "_law_others" "_law_others" s_law_others f fd) (T : Txt K mg) : FnOk P w K mg base L2.CX0 (k + 1) f fd ["_law_halyards", "_law_number"] (spOthers tbs) := by
  refine Fu.ok sc_law_others (fun vs H Q E h => ?_) (fun cdv A outer s H vs Q E hr h => ?_)
  · obtain ⟨F, v, hs, n, _, rfl, _⟩ := h
    rfl
  · obtain ⟨F, v, hs, n, sm, rfl, hv, ok, q⟩ := h
    obtain ⟨a, xs, rfl, ha, al⟩ := hv
    have ln := al.len
    have l6 := ok.few
    refine ⟨_, 
      (pss_cons (ps_set (i := 2) sc_law_others.nd rfl (Or.inl rfl) (pe_lst pa_nil))
      (pss_cons (ps_for PassesOwn.never rfl (pi_range1 (by rfl) T.b_range (pa_cons (pe_callB call_len_seq (by rfl) T.b_len PySem.boot_len (pa_cons (pv 0) pa_nil)) pa_nil)) (pg_name (i := 3) sc_law_others.nd rfl (Or.inl rfl))
        (pss_one (ps_if (PW.pt (pw_and (pt_cmpR op_ne (pv 3) (pv 1) (nomark _)) (pw_and1 (pt_cmpR op_notN (pe_ix ix_list (pv 0) (pv 3) (fun _ _ => rfl)) pe_non (nomark _)))))
          (pss_one (ps_expr (pe_bm PySem.F.plainAttrs_list PySem.F.slot_list_append PySem.F.type_list_append mt_append (pv 2) (pa_cons (pv 3) pa_nil)))) pss_nil)))
      (pss_one (ps_ret (pv 2))))), ?_⟩
    refine ⟨Nat.zero_le _, fun D nD => ?_⟩
    let pk : List Nat → List Nat := fun l => l.filter fun k => decide (k ≠ n) && hangsAt hs k
    have ha0 : ∀ o, upd H D o a = some (.lst xs) := fun o => by rw [upd_ne (ne_of_none (sm _ _ ha) nD)]; exact sm _ _ ha
    refine ⟨_, rfl, a, _, rfl, .inl (SqL.of (ha0 _)), _, rfl, by omega, by omega, ?_⟩
    refine for_range (lo := 0) (fun i σ H' => ∃ v3, σ = [some (.ref a), some (nV n), some (.ref D), v3] ∧ H' = upd H D (.lst ((pk (List.range i)).map nV))) ?_ ?_ ?_
    · exact ⟨none, rfl, rfl⟩
    · rintro i σ H' hi ⟨v3, rfl, rfl⟩
      have hi : i < hs.length := by omega
      have e0 : V.int (0 + (i : Int)) = nV i := by rw [Int.zero_add]
      rw [e0]
      obtain ⟨o, ho⟩ : ∃ o, hs[i]? = some o := ⟨_, List.getElem?_eq_getElem hi⟩
      obtain ⟨x, hx, hxo⟩ := al.at ho
      have rs : pk (List.range (i + 1)) = pk (List.range i) ++ (if (decide (i ≠ n) && hangsAt hs i) = true then [i] else []) := by
        show List.filter _ _ = List.filter _ _ ++ _
        rw [List.range_succ, List.filter_append]
        congr 1
        by_cases c : (decide (i ≠ n) && hangsAt hs i) = true
        · rw [if_pos c, List.filter_cons, if_pos c]; rfl
        · rw [if_neg c, List.filter_cons, if_neg c]; rfl
      have hg : hangsAt hs i = o.isSome := by
        unfold hangsAt
        rw [List.getD_eq_getElem?_getD, ho]
        rfl
      refine ⟨_, rfl, _, rfl, rfl, _, rfl, ite2 (fun c => ?_) (fun c => iteF ?_)⟩
      · have c1 : i ≠ n := fun z => by
          rw [z] at c
          simp at c
        refine ⟨_, rfl, _, rfl, a, _, _, x, rfl, rfl, SqL.of (ha0 _), at_of rfl hx, rfl, _, rfl, ?_⟩
        cases o with
        | none =>
          obtain rfl : x = .non := hxo
          refine iteF ⟨_, rfl, ?_⟩
          rw [rs, hg, if_neg (by simp), List.append_nil]
        | some y =>
          rw [decide_eq_false hxo.1]
          refine iteT ?_
          refine ⟨_, rfl, .inl ⟨rfl, _, SqL.of upd_same⟩, _, rfl, D, _, _, rfl, rfl, upd_same, ?_, _, rfl, ?_⟩
          · rw [List.length_map]
            have := List.length_filter_le (fun k => decide (k ≠ n) && hangsAt hs k) (List.range i)
            rw [List.length_range] at this
            exact small1000 (by show (List.filter _ _).length ≤ 1000; omega)
          · rw [upd_upd, rs, hg, if_pos (by simp [c1]), List.map_append]
            rfl
      · have c1 : i = n := by
          by_cases z : i = n
          · exact z
          · refine absurd ?_ c
            show (!decide (nV i = nV n)) = true
            rw [decide_eq_false (fun y => z (by have := V.int.inj y; omega))]
            rfl
        refine ⟨_, rfl, ?_⟩
        rw [rs, if_neg (by simp [c1]), List.append_nil]
    · rintro σ H' ⟨v3, rfl, rfl⟩
      have e : ((xs.length : Nat) : Int).toNat = hs.length := by omega
      rw [e]
      exact ⟨_, rfl, q _ _ _ ((Fr.begin sm).lay nD) (rL_mkN upd_same)⟩
abbrev s_law_with : Stmt := top 48
abbrev N_law_with : List PySem.Str := ["_law_locker_here", "_law_halyards", "_law_numbers", "_law_counts_here", "_law_number", "_law_flag"]
theorem sc_law_with : FnScope N_law_with ["_law_locker_here", "_law_halyards", "_law_numbers"] (defScope s_law_with) := ⟨rfl, rfl, rfl, by decide +kernel, rfl, by decide +kernel, by decide +kernel⟩
def spLWith (tbs : List (Addr × PySem.Str)) : Sp := fun vs H Q _ => ∃ (F : Hp) (v u z : V) (kvs : List (Nat × Int)) (hs : List (Option (List Nat))) (ks : List Nat), L2.Same F H ∧ vs = [v, u, z] ∧ rD F v kvs ∧ LockOk kvs ∧ rHal F u hs ∧ HalOk hs ∧ rL rN F z ks ∧ (∀ k ∈ ks, k < hs.length) ∧ Pf tbs F H Q rD (addAll kvs (flagsOf hs ks))
theorem ok_law_with {f : Addr} {fd : FuncData} {k : Nat} (Fu : Fun K "_law_with" "_law_with" s_law_with f fd) (T : Txt K mg) : FnOk P w K mg base L2.CX0 (k + 1) f fd ["_law_locker_here", "_law_halyards", "_law_numbers"] (spLWith tbs) := by
  refine Fu.ok sc_law_with (fun vs H Q E h => ?_) (fun cdv A outer s H vs Q E hr h => ?_)
  · obtain ⟨F, v, u, z, kvs, hs, ks, _, rfl, _⟩ := h
    rfl
  · obtain ⟨F, v, u, z, kvs, hs, ks, sm, rfl, hv, lok, hh, ok, hz, hks, q⟩ := h
    have hu := hu_of hr
    obtain ⟨a, rfl, ha⟩ := hv
    obtain ⟨e, xs, rfl, he, al⟩ := hh
    obtain ⟨b, rfl, hb⟩ := rL_N hz
    refine ⟨_, 
      (pss_cons (ps_set (i := 3) sc_law_with.nd rfl (Or.inl rfl) (pe_callTy call_dictD (by rfl) T.b_dict (by decide +kernel) (pa_cons (pv 0) pa_nil)))
      (pss_cons (ps_for PassesOwn.never rfl (pi_list (pv 2)) (pg_name (i := 4) sc_law_with.nd rfl (Or.inl rfl))
        (pss_one (ps_for PassesOwn.never rfl (pi_list (pe_orT (pe_ix ix_list (pv 1) (pv 4) (fun _ _ => rfl)) (pe_one (pe_lst pa_nil)))) (pg_name (i := 5) sc_law_with.nd rfl (Or.inl rfl))
          (pss_one (ps_dput hu (pv 3) (pv 5) (pe_op op_add (pe_dget2 hu (pv 3) (pv 5) pe_int ⟨by rfl, by rfl, by rfl, by rfl⟩) pe_int) rfl)))))
      (pss_one (ps_ret (pv 3))))), ?_⟩
    refine ⟨_, rfl, a, _, rfl, .inl (sm _ _ ha), fun d nd => ?_⟩
    have fr0 := (Fr.begin (T := tbs) sm).new (o := .dK (dk kvs)) nd
    have ow0 := (Fr.begin (T := tbs) sm).own (o := .dK (dk kvs)) nd
    have aok : ∀ fl : List Nat, (∀ c ∈ fl, isFlag c) → (dk (addAll kvs fl)).length < sizeLine := fun fl hf => by
      unfold dk
      rw [List.length_map]
      exact small1000 (by have := (addAll_ok lok hf).len; omega)
    refine ⟨_, rfl, b, rfl, ⟨_, SqL.of (fr0.fh _ _ hb)⟩, for_list (K := K) (a := b) (xs := ks.map nV) (fun i σ H' => ∃ v4 v5, σ = [some (.ref a), some (.ref e), some (.ref b), some (.ref d), v4, v5] ∧ Fr tbs F H F H' ∧ Own H F H' d (.dK (dk (addAll kvs (flagsOf hs (ks.take i)))))) ?_ ?_ ?_ ?_⟩
    · exact ⟨none, none, rfl, fr0, ow0⟩
    · rintro i σ H' _ ⟨_, _, _, fr, _⟩
      exact SqL.of (fr.fh _ _ hb)
    · rintro i x σ H' hx ⟨v4, v5, rfl, fr, ow⟩
      rw [List.getElem?_map] at hx
      cases hc : ks[i]? with
      | none => rw [hc] at hx; cases hx
      | some k =>
      rw [hc] at hx
      obtain rfl : nV k = x := Option.some.inj hx
      obtain ⟨o, ho⟩ : ∃ o, hs[k]? = some o := ⟨_, List.getElem?_eq_getElem (hks k (List.mem_of_getElem? hc))⟩
      obtain ⟨y, hy, hyo⟩ := al.at ho
      have ts := take_snoc hc
      have hfl : ∀ c ∈ flagsOf hs (ks.take i), isFlag c := flagsOf_flag ok _
      refine ⟨_, rfl, _, rfl, e, _, _, y, rfl, rfl, SqL.of (fr.fh _ _ he), at_of rfl hy, ?_⟩
      cases o with
      | none =>
        obtain rfl : y = .non := hyo
        refine ⟨false, rfl, iteF ?_⟩
        refine ⟨Nat.zero_le _, fun p np => ?_⟩
        refine ⟨p, rfl, ⟨_, SqL.of upd_same⟩, for_list (K := K) (a := p) (xs := []) (fun j σ H2 => σ = [some (.ref a), some (.ref e), some (.ref b), some (.ref d), some (nV k), v5] ∧ H2 = upd H' p (.lst [])) ⟨rfl, rfl⟩ ?_ ?_ ?_⟩
        · rintro j σ H2 _ ⟨_, rfl⟩
          exact SqL.of upd_same
        · rintro j y σ H2 hj _
          simp at hj
        · rintro σ H2 ⟨rfl, rfl⟩
          refine ⟨_, _, rfl, fr.new np, ?_⟩
          rw [ts, flagsOf_snoc, hoistAt_none ho, List.append_nil]
          exact ow.new np
      | some h =>
        obtain ⟨yn, hyl⟩ := hyo
        obtain ⟨c, rfl, hc2⟩ := rL_C hyl
        have okh := ok.ok h (List.mem_of_getElem? ho)
        have hne : (!(h.map fun c => V.str (chr c)).isEmpty) = true := by
          cases h with
          | nil => exact absurd okh.pos (by decide)
          | cons x r => rfl
        refine ⟨true, .inl ⟨_, SqL.of (fr.fh _ _ hc2), hne.symm⟩, iteT ?_⟩
        refine ⟨c, rfl, ⟨_, SqL.of (fr.fh _ _ hc2)⟩, for_list (K := K) (a := c) (xs := h.map fun c => V.str (chr c)) (fun j σ H2 => ∃ v5, σ = [some (.ref a), some (.ref e), some (.ref b), some (.ref d), some (nV k), v5] ∧ Fr tbs F H F H2 ∧ Own H F H2 d (.dK (dk (addAll kvs (flagsOf hs (ks.take i) ++ h.take j))))) ?_ ?_ ?_ ?_⟩
        · exact ⟨v5, rfl, fr, by rw [List.take_zero, List.append_nil]; exact ow⟩
        · rintro j σ H2 _ ⟨_, _, fr, _⟩
          exact SqL.of (fr.fh _ _ hc2)
        · rintro j y σ H2 hy ⟨v5, rfl, fr, ow⟩
          rw [List.getElem?_map] at hy
          cases hg : h[j]? with
          | none => rw [hg] at hy; cases hy
          | some g =>
          rw [hg] at hy
          obtain rfl : V.str (chr g) = y := Option.some.inj hy
          have hf2 : ∀ c ∈ flagsOf hs (ks.take i) ++ h.take j, isFlag c := fun c hc => by
            rcases List.mem_append.mp hc with z | z
            · exact hfl c z
            · exact hoist_flag okh c (List.mem_of_mem_take z)
          refine ⟨_, rfl, d, rfl, .inl ⟨_, .inl ow.at_⟩, _, rfl, _, DGet.k (k := kC g) ow.at_, ?_⟩
          rw [lk_get]
          refine ⟨_, _, rfl, rfl, ?_⟩
          refine ⟨_, rfl, _, rfl, d, _, rfl, DPut.k (k := kC g) ow.at_ (aok _ hf2), ?_⟩
          rw [dk_put]
          refine ⟨_, rfl, fr.put ow trivial, ?_⟩
          rw [take_snoc hg, ← List.append_assoc, addAll_snoc]
          exact ow.put
        · rintro σ H2 ⟨v5, rfl, fr, ow⟩
          rw [List.length_map, List.take_length] at ow
          refine ⟨_, _, rfl, fr, ?_⟩
          rw [ts, flagsOf_snoc, hoistAt_eq ho]
          exact ow
    · rintro σ H' ⟨v4, v5, rfl, fr, ow⟩
      rw [List.length_map, List.take_length] at ow
      exact ⟨_, rfl, q _ _ _ (fr.freeze ow) ⟨d, rfl, upd_same⟩⟩
abbrev s_law_same : Stmt := top 49
abbrev N_law_same : List PySem.Str := ["_law_one", "_law_other", "_law_flags", "_law_flag"]
theorem sc_law_same : FnScope N_law_same ["_law_one", "_law_other"] (defScope s_law_same) := ⟨rfl, rfl, rfl, by decide +kernel, rfl, by decide +kernel, by decide +kernel⟩
theorem eFLG : PySem.Str.ofString "abcdefghijklmnopqrstuvw1234" = FLG := by decide +kernel
theorem fll_at {i c : Nat} (hc : FLG.cps[i]? = some c) : FLl[i]? = some c := by
  show FLG.cps.toList[i]? = some c
  rw [Array.getElem?_toList]
  exact hc
def spLSame (tbs : List (Addr × PySem.Str)) : Sp := fun vs H Q _ => ∃ (F : Hp) (v u : V) (kvs kvs' : List (Nat × Int)), L2.Same F H ∧ vs = [v, u] ∧ rD F v kvs ∧ rD F u kvs' ∧ (∀ c, isFlag c → lk kvs c = lk kvs' c) ∧ ∀ F' H', Fr tbs F H F' H' → Q (.bl true) H'
theorem ok_law_same {f : Addr} {fd : FuncData} {k : Nat} (Fu : Fun K "_law_same" "_law_same" s_law_same f fd) (T : Txt K mg) : FnOk P w K mg base L2.CX0 (k + 1) f fd ["_law_one", "_law_other"] (spLSame tbs) := by
  refine Fu.ok sc_law_same (fun vs H Q E h => ?_) (fun cdv A outer s H vs Q E hr h => ?_)
  · obtain ⟨F, v, u, kvs, kvs', _, rfl, _⟩ := h
    rfl
  · obtain ⟨F, v, u, kvs, kvs', sm, rfl, hv, hw, eq, q⟩ := h
    have hu := hu_of hr
    obtain ⟨a, rfl, ha⟩ := hv
    obtain ⟨b, rfl, hb⟩ := hw
    refine ⟨_, 
      (pss_cons (ps_set (i := 2) sc_law_same.nd rfl (Or.inl rfl) pe_str)
      (pss_one (ps_ret (pe_cmpR (op_eqD hr.units) (pe_lc (own := ([("_law_flag", 3)] : List (PySem.Str × Nat))) rfl sc_law_same.nd (pi_str (pv 2)) (blkOk_by (own := ([("_law_flag", 3)] : List (PySem.Str × Nat))) (N := N_law_same) (sc := defScope s_law_same) (by decide +kernel)) (fun _ _ _ _ _ => (pg_name (i := 3) sc_law_same.nd rfl (Or.inl rfl))) (fun _ _ _ _ _ => pts_nil) (fun _ _ _ _ _ => (pe_dget2 hu (pv 0) (pv 3) pe_int ⟨by rfl, by rfl, by rfl, by rfl⟩))) (pe_lc (own := ([("_law_flag", 3)] : List (PySem.Str × Nat))) rfl sc_law_same.nd (pi_str (pv 2)) (blkOk_by (own := ([("_law_flag", 3)] : List (PySem.Str × Nat))) (N := N_law_same) (sc := defScope s_law_same) (by decide +kernel)) (fun _ _ _ _ _ => (pg_name (i := 3) sc_law_same.nd rfl (Or.inl rfl))) (fun _ _ _ _ _ => pts_nil) (fun _ _ _ _ _ => (pe_dget2 hu (pv 1) (pv 3) pe_int ⟨by rfl, by rfl, by rfl, by rfl⟩))) (nomark _))))), ?_⟩
    have l27 : FLl.length = 27 := rfl
    have eF : FLl.take FLG.cps.size = FLl := rfl
    rw [eFLG]
    refine ⟨_, rfl, _, rfl, fun D nD => lc_it walk_str (fun i H7 => H7 = upd H D (.lst ((FLl.take i).map fun c => V.int (lk kvs c)))) rfl (fun _ _ _ _ => trivial) ?_ ?_⟩
    · rintro i x H7 H8 hi rfl ⟨rfl, c, hc, rfl⟩
      have hc' := fll_at hc
      have hd : upd H D (.lst ((FLl.take i).map fun c => V.int (lk kvs c))) a = some (.dK (dk kvs)) := by
        rw [upd_ne (ne_of_none (sm _ _ ha) nD)]; exact sm _ _ ha
      refine ⟨rfl, ?_⟩
      refine ⟨_, rfl, a, rfl, .inl ⟨_, .inl hd⟩, _, rfl, _, DGet.k (k := kC c) hd, ?_⟩
      rw [lk_get]
      refine ⟨_, upd_same, ?_, ?_⟩
      · rw [List.length_map, List.length_take]
        exact small1000 (by omega)
      · rw [upd_upd, take_snoc hc', List.map_append]
        rfl
    · rintro H7 rfl
      rw [eF]
      have fr1 := (Fr.begin (T := tbs) sm).lay (o := .lst (FLl.map fun c => V.int (lk kvs c))) nD
      have h1 : upd F D (.lst (FLl.map fun c => V.int (lk kvs c))) D = some (.lst (FLl.map fun c => V.int (lk kvs c))) := upd_same
      have hb1 := fr1.ff _ _ hb
      generalize upd F D (.lst (FLl.map fun c => V.int (lk kvs c))) = F1 at fr1 h1 hb1
      generalize upd H D (.lst (FLl.map fun c => V.int (lk kvs c))) = H1 at fr1
      refine ⟨_, rfl, _, rfl, fun D2 nD2 => lc_it walk_str (fun i H7 => H7 = upd H1 D2 (.lst ((FLl.take i).map fun c => V.int (lk kvs' c)))) rfl (fun _ _ _ _ => trivial) ?_ ?_⟩
      · rintro i x H7 H8 hi rfl ⟨rfl, c, hc, rfl⟩
        have hc' := fll_at hc
        have hd : upd H1 D2 (.lst ((FLl.take i).map fun c => V.int (lk kvs' c))) b = some (.dK (dk kvs')) := by
          rw [upd_ne (ne_of_none (fr1.fh _ _ hb1) nD2)]; exact fr1.fh _ _ hb1
        refine ⟨rfl, ?_⟩
        refine ⟨_, rfl, b, rfl, .inl ⟨_, .inl hd⟩, _, rfl, _, DGet.k (k := kC c) hd, ?_⟩
        rw [lk_get]
        refine ⟨_, upd_same, ?_, ?_⟩
        · rw [List.length_map, List.length_take]
          exact small1000 (by omega)
        · rw [upd_upd, take_snoc hc', List.map_append]
          rfl
      · rintro H7 rfl
        rw [eF]
        have fr2 := fr1.lay (o := .lst (FLl.map fun c => V.int (lk kvs' c))) nD2
        have s2 := same_upd (o := .lst (FLl.map fun c => V.int (lk kvs' c))) (fr1.free nD2).1
        have r1 : rL rI (upd F1 D2 (.lst (FLl.map fun c => V.int (lk kvs' c)))) (.ref D) (FLl.map (lk kvs)) := rL_mkI (by rw [List.map_map]; exact s2 _ _ h1)
        have r2 : rL rI (upd F1 D2 (.lst (FLl.map fun c => V.int (lk kvs' c)))) (.ref D2) (FLl.map (lk kvs')) := rL_mkI (by rw [List.map_map]; exact upd_same)
        refine eqD (dt_L dt_I) (by omega) fr2.fh r1 r2 (fun _ _ => trivial) (fun _ _ => trivial) ?_
        rw [decide_eq_true (List.map_congr_left fun c hc => eq c (fll_mem.mp hc))]
        exact q _ _ fr2
end
end Fl

/-! DefLawLack -/
namespace Fl
open PySem L2
theorem wantsFrom_nodup : ∀ (ws : List (List Nat)) (n : Nat), (wantsFrom n ws).Nodup
  | [], n => List.nodup_nil
  | w :: ws, n => by
    show (_ ++ wantsFrom (n + 1) ws).Nodup
    rw [List.nodup_append]
    refine ⟨?_, wantsFrom_nodup ws (n + 1), fun a ha b hb e => ?_⟩
    · refine List.Pairwise.map _ (fun a b h => ?_) (List.nodup_range (n := w.length))
      intro z
      have := (Prod.mk.inj z).2
      omega
    · subst e
      obtain ⟨q, _, rfl⟩ := List.mem_map.mp ha
      obtain ⟨v, h1, _⟩ := wantsFrom_mem hb
      omega
theorem of_dec {p : Prop} {i : Decidable p} (h : @decide p i = true) : p := of_decide_eq_true h
theorem to_dec {p : Prop} {i : Decidable p} (h : p) : @decide p i = true := decide_eq_true h
def memW (W : List (Nat × Nat)) (t : Nat × Nat) : Bool := decide (t ∈ W)
theorem memW_pos {W : List (Nat × Nat)} {t : Nat × Nat} (h : t ∈ W) : memW W t = true := decide_eq_true h
theorem memW_neg {W : List (Nat × Nat)} {t : Nat × Nat} (h : t ∉ W) : ¬ memW W t = true := fun z => h (of_decide_eq_true z)
theorem LackP.pick {ws : List (List Nat)} {L : Nat → Int} {W : List (Nat × Nat)} {G : List Nat} (h : LackP ws L W G) : W = (wantsOf ws).filter (memW W) := by
  obtain ⟨Wi, rW, hW, hl⟩ := h.ex
  have e := pick_filter (wantsFrom_nodup ws 0) rW (fun w hw => by have := hl.bd w hw; rw [chOf_len] at this; exact this) hW
  refine e.trans (List.filter_congr fun x _ => ?_)
  unfold memW
  exact decide_eq_decide.mpr Iff.rfl
theorem LackP.mem {ws : List (List Nat)} {L : Nat → Int} {W : List (Nat × Nat)} {G : List Nat} (h : LackP ws L W G) {t : Nat × Nat} (ht : t ∈ W) : t ∈ wantsOf ws := by
  rw [h.pick] at ht
  exact (List.mem_filter.mp ht).1
theorem LackP.all {ws : List (List Nat)} {L : Nat → Int} {W : List (Nat × Nat)} {G : List Nat} (h : LackP ws L W G) {t : Nat × Nat} (ht : t ∈ W) : ∀ c ∈ chAt ws t, c ∈ G := by
  obtain ⟨Wi, rW, hW, hl⟩ := h.ex
  obtain ⟨i, hi, e⟩ := List.getElem_of_mem ht
  have h1 : W[i]? = some t := by rw [List.getElem?_eq_getElem hi, e]
  have h2 := congrArg (fun l => l[i]?) hW
  simp only [List.getElem?_map, h1] at h2
  cases hw : Wi[i]? with
  | none => rw [hw] at h2; cases h2
  | some v =>
    rw [hw] at h2
    have h3 : (wantsOf ws)[v]? = some t := (Option.some.inj h2).symm
    refine hl.all v (List.mem_of_getElem? hw) _ ?_
    unfold chOf
    rw [List.getElem?_map, h3]
    rfl
theorem LackP.more {ws : List (List Nat)} {L : Nat → Int} {W : List (Nat × Nat)} {G : List Nat} (h : LackP ws L W G) : (G.map L).sum < (W.length : Int) := by
  obtain ⟨Wi, rW, hW, hl⟩ := h.ex
  have e : W.length = Wi.length := by
    have := congrArg List.length hW
    rwa [List.length_map, List.length_map] at this
  have := hl.more
  unfold total at this
  rw [e]
  exact this
theorem LackP.flag {ws : List (List Nat)} {L : Nat → Int} {W : List (Nat × Nat)} {G : List Nat} (h : LackP ws L W G) : ∀ c ∈ G, isFlag c := fun c hc => by
  rw [h.fl] at hc
  exact fll_mem.mp (List.mem_filter.mp hc).1
section
variable {P : Program} {w : World} {K : PySem.W.Frag} {mg : PySem.Str → Option Value} {base : Heap} {tbs : List (Addr × PySem.Str)}
abbrev s_law_lack : Stmt := top 45
abbrev N_law_lack : List PySem.Str := ["_law_locker_here", "_law_words", "_law_wants", "_law_flags", "_law_there", "_law_number", "_law_place", "_law_flag", "_law_want"]
theorem sc_law_lack : FnScope N_law_lack ["_law_locker_here", "_law_words", "_law_wants", "_law_flags"] (defScope s_law_lack) := ⟨rfl, rfl, rfl, by decide +kernel, rfl, by decide +kernel, by decide +kernel⟩
def spLLack (tbs : List (Addr × PySem.Str)) : Sp := fun vs H Q _ => ∃ (F : Hp) (v u z y : V) (kvs : List (Nat × Int)) (ws : List (List Nat)) (W : List (Nat × Nat)) (G : List Nat), L2.Same F H ∧ vs = [v, u, z, y] ∧ rD F v kvs ∧ rL rW F u ws ∧ WordsOk ws ∧ rL rWant F z W ∧ rL rC F y G ∧ LackP ws (lk kvs) W G ∧ ∀ F' H', Fr tbs F H F' H' → Q (.bl true) H'
theorem ok_law_lack {f : Addr} {fd : FuncData} (Fu : Fun K "_law_lack" "_law_lack" s_law_lack f fd) (T : Txt K mg) (C_law_choices : Cf P w K mg base 1 "_law_choices" (spChoicesAt tbs)) : FnOk P w K mg base L2.CX0 2 f fd ["_law_locker_here", "_law_words", "_law_wants", "_law_flags"] (spLLack tbs) := by
  refine Fu.ok sc_law_lack (fun vs H Q E h => ?_) (fun cdv A outer s H vs Q E hr h => ?_)
  · obtain ⟨F, v, u, z, y, kvs, ws, W, G, _, rfl, _⟩ := h
    rfl
  · obtain ⟨F, v, u, z, y, kvs, ws, W, G, sm, rfl, hv, hw, ok, hz, hy, lp, q⟩ := h
    have hu := hu_of hr
    have hu65 : (A.deeper (PyProof.Rows.envOfC "_law_lack" (defScope s_law_lack) s.heap.objs.size f cdv)).units + 65 < cLine := by have := hr.un; omega
    obtain ⟨a, rfl, ha⟩ := hv
    have hw0 := hw
    obtain ⟨b, rfl, hb⟩ := rL_W hw
    have hz0 := hz
    obtain ⟨c, xW, rfl, hc, alW⟩ := hz
    have hy0 := hy
    obtain ⟨e, rfl, he⟩ := rL_C hy
    have h56 := ok.wants
    have lW : W.length ≤ 56 := by
      have := lp.pick
      rw [this]
      exact Nat.le_trans (List.length_filter_le _ _) h56
    have lG : G.length ≤ 27 := by
      have := lp.fl
      rw [this]
      exact Nat.le_trans (List.length_filter_le _ _) (Nat.le_of_eq rfl)
    have gfl := lp.flag
    refine ⟨_, 
      (pss_cons (ps_if (PW.pt (pw_or (pt_not (pt_val (pe_callB call_isi (by rfl) T.b_isinstance (by decide +kernel) (pa_cons (pv 2) (pa_cons (pe_bltn (v := .ty "list") (u := .type "list") (by rfl) T.b_list (by decide +kernel) rfl) pa_nil))))) (pw_or1 (pt_not (pt_val (pe_callB call_isi (by rfl) T.b_isinstance (by decide +kernel) (pa_cons (pv 3) (pa_cons (pe_bltn (v := .ty "list") (u := .type "list") (by rfl) T.b_list (by decide +kernel) rfl) pa_nil))))))))
        (pss_one (ps_ret pe_bl)) pss_nil)
      (pss_cons (ps_set (i := 4) sc_law_lack.nd rfl (Or.inl rfl) (pe_lst pa_nil))
      (pss_cons (ps_for PassesOwn.never rfl (pi_range1 (by rfl) T.b_range (pa_cons (pe_callB call_len_seq (by rfl) T.b_len PySem.boot_len (pa_cons (pv 1) pa_nil)) pa_nil)) (pg_name (i := 5) sc_law_lack.nd rfl (Or.inr rfl))
        (pss_one (ps_set (i := 4) sc_law_lack.nd rfl (Or.inl rfl) (pe_op op_cat (pv 4) (pe_lc (own := ([("_law_place", 6)] : List (PySem.Str × Nat))) rfl sc_law_lack.nd (pi_range2 (by rfl) T.b_range (pa_cons pe_int (pa_cons (pe_op op_add (pe_callB call_len_str (by rfl) T.b_len PySem.boot_len (pa_cons (pe_ix ix_list (pv 1) (pv 5) (fun _ _ => rfl)) pa_nil)) pe_int) pa_nil))) (blkOk_by (own := ([("_law_place", 6)] : List (PySem.Str × Nat))) (N := N_law_lack) (sc := defScope s_law_lack) (by decide +kernel)) (fun _ _ _ _ _ => (pg_name (i := 6) sc_law_lack.nd rfl (Or.inl rfl))) (fun _ _ _ _ _ => pts_nil) (fun _ _ _ _ _ => (pe_tup (pa_cons (pv 5) (pa_cons (pv 6) pa_nil)))))))))
      (pss_cons (ps_if (pt_cmpR (op_neD hr.units) (pv 2) (pe_lc (own := ([("_law_want", 8)] : List (PySem.Str × Nat))) rfl sc_law_lack.nd (pi_list (pv 4)) (blkOk_by (own := ([("_law_want", 8)] : List (PySem.Str × Nat))) (N := N_law_lack) (sc := defScope s_law_lack) (by decide +kernel)) (fun _ _ _ _ _ => (pg_name (i := 8) sc_law_lack.nd rfl (Or.inl rfl))) (fun _ _ _ _ _ => (pts_one (pt_cmpR (op_inDK K hu65) (pv 8) (pv 2) (by rfl)))) (fun _ _ _ _ _ => (pv 8))) (nomark _))
        (pss_one (ps_ret pe_bl)) pss_nil)
      (pss_cons (ps_if (pt_cmpR (op_neD hr.units) (pv 3) (pe_lc (own := ([("_law_flag", 7)] : List (PySem.Str × Nat))) rfl sc_law_lack.nd (pi_str pe_str) (blkOk_by (own := ([("_law_flag", 7)] : List (PySem.Str × Nat))) (N := N_law_lack) (sc := defScope s_law_lack) (by decide +kernel)) (fun _ _ _ _ _ => (pg_name (i := 7) sc_law_lack.nd rfl (Or.inl rfl))) (fun _ _ _ _ _ => (pts_one (pt_cmpR (op_in_seqK K) (pv 7) (pv 3) (by rfl)))) (fun _ _ _ _ _ => (pv 7))) (nomark _))
        (pss_one (ps_ret pe_bl)) pss_nil)
      (pss_cons (ps_for PassesOwn.never rfl (pi_list (pv 2)) (pg_tup rfl (pgs_cons (pg_name (i := 5) sc_law_lack.nd rfl (Or.inr rfl)) (pgs_cons (pg_name (i := 6) sc_law_lack.nd rfl (Or.inl rfl)) pgs_nil)))
        (pss_one (ps_for PassesOwn.never rfl (pi_list (pe_cf C_law_choices hr (by decide) (by rfl) (pa_cons (pe_ix ix_list (pv 1) (pv 5) (fun _ _ => rfl)) (pa_cons (pv 6) pa_nil)))) (pg_name (i := 7) sc_law_lack.nd rfl (Or.inl rfl))
          (pss_one (ps_if (pt_cmpR op_notIn_seq (pv 7) (pv 3) (by rfl))
            (pss_one (ps_ret pe_bl)) pss_nil)))))
      (pss_one (ps_ret (pe_cmpR op_gt (pe_callB call_len_seq (by rfl) T.b_len PySem.boot_len (pa_cons (pv 2) pa_nil)) (pe_callB (cr_sum rfl) (by rfl) T.b_sum (by decide +kernel) (pa_cons (pe_lc (own := ([("_law_flag", 7)] : List (PySem.Str × Nat))) rfl sc_law_lack.nd (pi_list (pv 3)) (blkOk_by (own := ([("_law_flag", 7)] : List (PySem.Str × Nat))) (N := N_law_lack) (sc := defScope s_law_lack) (by decide +kernel)) (fun _ _ _ _ _ => (pg_name (i := 7) sc_law_lack.nd rfl (Or.inl rfl))) (fun _ _ _ _ _ => pts_nil) (fun _ _ _ _ _ => (pe_dget2 hu (pv 0) (pv 7) pe_int ⟨by rfl, by rfl, by rfl, by rfl⟩))) pa_nil)) (nomark _)))))))))), ?_⟩
    refine ⟨_, rfl, _, _, _, _, true, rfl, .ty _, .base (.lst (sm _ _ hc)), kit_ty (by decide +kernel), _, rfl, iteF ?_⟩
    refine ⟨_, rfl, _, _, _, _, true, rfl, .ty _, .base (.lst (sm _ _ he)), kit_ty (by decide +kernel), _, rfl, iteF ?_⟩
    refine ⟨Nat.zero_le _, fun d0 nd0 => ?_⟩
    have fr0 := (Fr.begin (T := tbs) sm).lay (o := .lst []) nd0
    have lws : (ws.map fun c => V.str (wd c)).length = ws.length := List.length_map _
    have few := ok.few
    have hd0 : upd F d0 (.lst []) d0 = some (.lst []) := upd_same
    generalize upd F d0 (.lst []) = F0 at fr0 hd0
    refine ⟨_, rfl, b, _, rfl, .inl (SqL.of (fr0.fh _ _ (fr0.ff _ _ hb))), _, rfl, by rw [lws]; omega, by rw [lws]; omega, ?_⟩
    refine for_range (lo := 0) (fun j σ H' => ∃ d xs F' v5, σ = [some (.ref a), some (.ref b), some (.ref c), some (.ref e), some (.ref d), v5, none, none, none] ∧ Fr tbs F H F' H' ∧ F' d = some (.lst xs) ∧ Al (rWant F') xs (wantsOf (ws.take j))) ?_ ?_ ?_
    · exact ⟨d0, [], F0, none, rfl, fr0, hd0, trivial⟩
    · rintro j σ H' hj ⟨d, xs, F', v5, rfl, fr, hd, al⟩
      have hj : j < ws.length := by rw [lws] at hj; omega
      have e0 : V.int (0 + (j : Int)) = nV j := by rw [Int.zero_add]
      rw [e0]
      obtain ⟨l, hl⟩ : ∃ l, ws[j]? = some l := ⟨_, List.getElem?_eq_getElem hj⟩
      obtain ⟨l1, l7, _⟩ := ok.ok l (List.mem_of_getElem? hl)
      have wt := wants_take hl
      have hb' := fr.fh _ _ (fr.ff _ _ hb)
      have lxs : xs.length ≤ 56 := by
        rw [al.len]
        exact (ok.take j).wants
      refine ⟨_, rfl, _, rfl, _, rfl, b, _, _, .str (wd l), rfl, rfl, SqL.of hb', at_of rfl (by rw [List.getElem?_map, hl]; rfl), _, rfl, (by rw [wd_len]; exact smallK (by omega)), _, _, rfl, rfl, _, _, rfl, ⟨by decide, by decide, by rw [wd_len]; omega, by rw [wd_len]; omega⟩, fun D nD => ?_⟩
      refine lc_range (lo := 1) (fun i H2 => ∃ F2 ys, Fr tbs F H F2 H2 ∧ L2.Same F' F2 ∧ Own H F2 H2 D (.lst ys) ∧ Al (rWant F2) ys ((List.range i).map fun p => (j, p + 1))) ?_ ?_ ?_
      · exact ⟨F', [], fr.new nD, .refl _, fr.own nD, trivial⟩
      · rintro i H2 hi ⟨F2, ys, fr2, s2, ow2, al2⟩
        have hi : i < l.length := by rw [wd_len] at hi; omega
        refine ⟨rfl, ?_⟩
        refine ⟨_, rfl, _, rfl, small7 (by show 2 ≤ 7; omega), fun t nt => ?_⟩
        have e1 : V.int (1 + (i : Int)) = nV (i + 1) := by congr 1; omega
        have ow3 := ow2.lay (o' := .tup [nV j, V.int (1 + (i : Int))]) nt
        refine ⟨ys, ow3.at_, ?_, _, ys ++ [.ref t], (fr2.lay nt).put ow3 trivial, s2.trans (same_upd (fr2.free nt).1), ow3.put, ?_⟩
        · rw [al2.len, List.length_map, List.length_range]
          exact small1000 (by omega)
        · rw [List.range_succ, List.map_append]
          exact (mo_Want.al (same_upd (fr2.free nt).1) al2).snoc ⟨t, _, _, rfl, upd_same, rfl, e1⟩
      · rintro H2 ⟨F2, ys, fr2, s2, ow2, al2⟩
        have en : (((wd l).length : Int) + 1 - 1).toNat = l.length := by rw [wd_len]; omega
        rw [en] at al2
        refine ⟨d, D, xs, ys, rfl, rfl, fr2.fh _ _ (s2 _ _ hd), ow2.at_, ?_, fun r nr => ?_⟩
        · rw [al2.len, List.length_map, List.length_range]
          exact smallK (by omega)
        · refine ⟨r, xs ++ ys, _, _, rfl, fr2.lay nr, upd_same, ?_⟩
          rw [wt]
          exact Al.app (mo_Want.al (same_upd (fr2.free nr).1) al2) (mo_Want.al (s2.trans (same_upd (fr2.free nr).1)) al)
    · rintro σ H' ⟨d, xs, F', v5, rfl, fr, hd, al⟩
      rw [lws] at al
      have al : Al (rWant F') xs (wantsOf ws) := by
        have e : ((ws.length : Nat) : Int).toNat = ws.length := by omega
        rw [e, List.take_length] at al
        exact al
      have lxs : xs.length ≤ 56 := by rw [al.len]; exact h56
      -- wants, picked again
      refine ⟨_, rfl, _, rfl, d, rfl, ⟨_, SqL.of (fr.fh _ _ hd)⟩, fun D nD => lc_list (K := K) (a := d) (xs := xs) (fun i H2 => ∃ F2 ys, Fr tbs F H F2 H2 ∧ L2.Same F' F2 ∧ Own H F2 H2 D (.lst ys) ∧ Al (rWant F2) ys (((wantsOf ws).take i).filter (memW W))) ?_ ?_ ?_ ?_⟩
      · exact ⟨F', [], fr.new nD, .refl _, fr.own nD, by rw [List.take_zero]; trivial⟩
      · rintro i H2 _ ⟨F2, ys, fr2, s2, _⟩
        exact SqL.of (fr2.fh _ _ (s2 _ _ hd))
      · rintro i x H2 hx ⟨F2, ys, fr2, s2, ow2, al2⟩
        obtain ⟨t, ht, hxt⟩ := al.get hx
        refine ⟨rfl, ?_⟩
        refine ⟨_, rfl, _, rfl, inD (dt_P dt_N dt_N) (by omega) fr2.fh (mo_Want.up s2 hxt) ((mo_L mo_Want).up fr2.ff hz0) ⟨trivial, trivial⟩ (fun _ _ => ⟨trivial, trivial⟩) ⟨_, rfl, ite2 (fun c1 => ?_) (fun c1 => ?_)⟩⟩
        · have hin : t ∈ W := of_dec c1
          refine ⟨_, rfl, ys, ow2.at_, ?_, F2, ys ++ [x], fr2.put ow2 trivial, s2, ow2.put, ?_⟩
          · rw [al2.len]
            have := List.length_filter_le (memW W) ((wantsOf ws).take i)
            rw [List.length_take] at this
            exact small1000 (by omega)
          · rw [take_snoc ht, List.filter_append, List.filter_cons_of_pos (memW_pos hin)]
            exact al2.snoc (mo_Want.up s2 hxt)
        · have hin : t ∉ W := fun z => c1 (to_dec z)
          refine ⟨F2, ys, fr2, s2, ow2, ?_⟩
          rw [take_snoc ht, List.filter_append, List.filter_cons_of_neg (memW_neg hin), List.filter_nil, List.append_nil]
          exact al2
      · rintro H2 ⟨F2, ys, fr2, s2, ow2, al2⟩
        rw [al.len, List.take_length, ← lp.pick] at al2
        have fr3 := fr2.freeze ow2
        have hD : rL rWant (upd F2 D (.lst ys)) (.ref D) W := ⟨D, ys, rfl, upd_same, mo_Want.al (same_upd ow2.f) al2⟩
        generalize upd F2 D (.lst ys) = F3 at fr3 hD
        refine neD (dt_L (dt_P dt_N dt_N)) (by omega) fr3.fh ((mo_L mo_Want).up fr3.ff hz0) hD (fun _ _ => ⟨trivial, trivial⟩) (fun _ _ => ⟨trivial, trivial⟩) ⟨_, rfl, ite2 (fun c1 => ?_) (fun _ => ?_)⟩
        · simp at c1
        -- flags, picked again
        have eF : FLl.take FLG.cps.size = FLl := rfl
        have l27 : FLl.length = 27 := rfl
        refine ⟨_, rfl, ?_⟩
        rw [eFLG]
        generalize hH3 : H2 = H3 at fr3
        refine ⟨_, rfl, fun D2 nD2 => lc_it walk_str (fun i H7 => H7 = upd H3 D2 (.lst (((FLl.take i).filter fun c => decide (c ∈ G)).map fun c => V.str (chr c)))) rfl (fun _ _ _ _ => trivial) ?_ ?_⟩
        · rintro i x H7 H8 hi rfl ⟨rfl, c, hc', rfl⟩
          have hcf := fll_at hc'
          have he3 : upd H3 D2 (.lst (((FLl.take i).filter fun c => decide (c ∈ G)).map fun c => V.str (chr c))) e = some (.lst (G.map fun c => V.str (chr c))) := by
            have h3 := fr3.fh _ _ (fr3.ff _ _ he)
            rw [upd_ne (ne_of_none h3 nD2)]; exact h3
          refine ⟨rfl, ?_⟩
          refine ⟨_, rfl, _, rfl, inC (neg := false) he3 ⟨_, rfl, ite2 (fun c1 => ?_) (fun c1 => ?_)⟩⟩
          · have hin : c ∈ G := of_dec c1
            refine ⟨_, rfl, _, upd_same, ?_, ?_⟩
            · rw [List.length_map]
              have := List.length_filter_le (fun c => decide (c ∈ G)) (FLl.take i)
              rw [List.length_take] at this
              exact small1000 (by omega)
            · rw [upd_upd, take_snoc hcf, List.filter_append, List.filter_cons_of_pos (by simpa using hin), List.map_append]
              rfl
          · have hin : c ∉ G := fun z => c1 (to_dec z)
            show _ = _
            rw [take_snoc hcf, List.filter_append, List.filter_cons_of_neg (by simpa using hin), List.filter_nil, List.append_nil]
        · rintro H7 rfl
          rw [eF, ← lp.fl]
          have fr4 := fr3.lay (o := .lst (G.map fun c => V.str (chr c))) nD2
          have hD2 : rL rC (upd F3 D2 (.lst (G.map fun c => V.str (chr c)))) (.ref D2) G := rL_mkC upd_same
          refine neD (dt_L dt_C) (by omega) fr4.fh ((mo_L mo_C).up fr4.ff hy0) hD2 gfl gfl ⟨_, rfl, ite2 (fun c1 => ?_) (fun _ => ?_)⟩
          · simp at c1
          generalize upd F3 D2 (.lst (G.map fun c => V.str (chr c))) = F4 at fr4
          generalize upd H3 D2 (.lst (G.map fun c => V.str (chr c))) = H4 at fr4
          -- no other flags
          refine ⟨_, rfl, c, rfl, ⟨_, SqL.of (fr4.fh _ _ (fr4.ff _ _ hc))⟩, for_list (K := K) (a := c) (xs := xW) (fun i σ H7 => ∃ v5 v6 v7 F7, σ = [some (.ref a), some (.ref b), some (.ref c), some (.ref e), some (.ref d), v5, v6, v7, none] ∧ Fr tbs F H F7 H7) ?_ ?_ ?_ ?_⟩
          · exact ⟨_, _, _, F4, rfl, fr4⟩
          · rintro i σ H7 _ ⟨_, _, _, F7, _, fr7⟩
            exact SqL.of (fr7.fh _ _ (fr7.ff _ _ hc))
          · rintro i x σ H7 hx ⟨v5, v6, v7, F7, rfl, fr7⟩
            obtain ⟨⟨n, p⟩, ht, t, y1, y2, rfl, hxt, e1, e2⟩ := alW.get hx
            obtain rfl : y1 = nV n := e1
            obtain rfl : y2 = nV p := e2
            have htW := List.mem_of_getElem? ht
            obtain ⟨l, hl, p1, p2⟩ := wants_mem (lp.mem htW)
            have l7 := (ok.ok l (List.mem_of_getElem? hl)).2.1
            have hall := lp.all htW
            rw [chAt_eq hl] at hall
            refine ⟨t, _, rfl, SqT.of (fr7.fh _ _ (fr7.ff _ _ hxt)), rfl, _, _, rfl, _, _, rfl, rfl, ?_⟩
            refine ⟨_, rfl, _, rfl, b, _, _, .str (wd l), rfl, rfl, SqL.of (fr7.fh _ _ (fr7.ff _ _ hb)), at_of rfl (by rw [List.getElem?_map, hl]; rfl), _, rfl, F7, l, p, fr7.fh, rfl, p1, p2, by omega, fun F8 H8 v8 fr8 hv8 => ?_⟩
            obtain ⟨g, rfl, hg⟩ := rL_C hv8
            refine ⟨g, rfl, ⟨_, SqL.of (fr8.fh _ _ hg)⟩, for_list (K := K) (a := g) (xs := (choices l p).map fun c => V.str (chr c)) (fun j σ H9 => ∃ v7, σ = [some (.ref a), some (.ref b), some (.ref c), some (.ref e), some (.ref d), some (nV n), some (nV p), v7, none] ∧ H9 = H8) ?_ ?_ ?_ ?_⟩
            · exact ⟨_, rfl, rfl⟩
            · rintro j σ H9 _ ⟨_, _, rfl⟩
              exact SqL.of (fr8.fh _ _ hg)
            · rintro j y σ H9 hy ⟨v7, rfl, rfl⟩
              rw [List.getElem?_map] at hy
              cases hf : (choices l p)[j]? with
              | none => rw [hf] at hy; cases hy
              | some f0 =>
              rw [hf] at hy
              obtain rfl : V.str (chr f0) = y := Option.some.inj hy
              refine ⟨_, rfl, _, rfl, inC (neg := true) (fr8.fh _ _ (fr8.ff _ _ (fr7.ff _ _ he))) ⟨_, rfl, ite2 (fun c1 => ?_) (fun _ => ⟨_, rfl, rfl⟩)⟩⟩
              exfalso
              simp [hall f0 (List.mem_of_getElem? hf)] at c1
            · rintro σ H9 ⟨v7, rfl, rfl⟩
              exact ⟨_, _, _, F8, rfl, fr7.trans fr8⟩
          · rintro σ H7 ⟨v5, v6, v7, F7, rfl, fr7⟩
            have hc7 := fr7.fh _ _ (fr7.ff _ _ hc)
            have he7 := fr7.fh _ _ (fr7.ff _ _ he)
            refine ⟨_, rfl, c, _, rfl, .inl (SqL.of hc7), ?_⟩
            refine ⟨_, rfl, e, rfl, ⟨_, SqL.of he7⟩, fun D4 nD4 => lc_list (K := K) (a := e) (xs := G.map fun c => V.str (chr c)) (fun i H8 => H8 = upd H7 D4 (.lst (((G.take i).map (lk kvs)).map V.int))) rfl ?_ ?_ ?_⟩
            · rintro i H8 _ rfl
              refine SqL.of ?_
              rw [upd_ne (ne_of_none he7 nD4)]; exact he7
            · rintro i x H8 hx rfl
              rw [List.getElem?_map] at hx
              cases hf : G[i]? with
              | none => rw [hf] at hx; cases hx
              | some f0 =>
              rw [hf] at hx
              obtain rfl : V.str (chr f0) = x := Option.some.inj hx
              have ha8 : upd H7 D4 (.lst (((G.take i).map (lk kvs)).map V.int)) a = some (.dK (dk kvs)) := by
                have h7 := fr7.fh _ _ (fr7.ff _ _ ha)
                rw [upd_ne (ne_of_none h7 nD4)]; exact h7
              refine ⟨rfl, ?_⟩
              refine ⟨_, rfl, a, rfl, .inl ⟨_, .inl ha8⟩, _, rfl, _, DGet.k (k := kC f0) ha8, ?_⟩
              rw [lk_get]
              refine ⟨_, upd_same, ?_, ?_⟩
              · rw [List.length_map, List.length_map, List.length_take]
                exact small1000 (by omega)
              · rw [upd_upd, take_snoc hf, List.map_append, List.map_append]
                rfl
            · rintro H8 rfl
              rw [List.length_map, List.take_length]
              refine ⟨D4, G.map (lk kvs), rfl, SqL.of upd_same, _, _, rfl, rfl, ?_⟩
              have em := lp.more
              have elen : (xW.length : Int) = (W.length : Int) := by rw [alW.len]
              show Q (V.bl (decide ((G.map (lk kvs)).sum < (xW.length : Int)))) _
              rw [elen, decide_eq_true em]
              exact q _ _ (fr7.lay nD4)
end
end Fl

/-! FlNt -/
/-! All of a heap but the tables of code objects, as frozen data. -/
namespace Fl
open PySem L2
def nt (H : Hp) : Hp := fun b => match H b with
  | some (.tbl _) => none
  | o => o
theorem nt_some {H : Hp} {b : Addr} {o : HO} (h : H b = some o) (n : NTb o) : nt H b = some o := by
  unfold nt
  rw [h]
  cases o with
  | tbl ps => exact absurd rfl (n ps)
  | _ => rfl
theorem nt_of {H : Hp} {b : Addr} {o : HO} (h : nt H b = some o) : H b = some o ∧ NTb o := by
  unfold nt at h
  cases e : H b with
  | none => rw [e] at h; cases h
  | some u =>
    rw [e] at h
    cases u with
    | tbl ps => cases h
    | _ =>
      cases h
      exact ⟨rfl, fun ps z => by cases z⟩
theorem nt_same (H : Hp) : L2.Same (nt H) H := fun b o h => (nt_of h).1
theorem Kp.nt {T : List (Addr × PySem.Str)} {H H' : Hp} (k : Kp T H H') : L2.Same (nt H) (nt H') := fun b o h => nt_some (k.st b o (nt_of h).1 (nt_of h).2) (nt_of h).2
theorem Kp.sq {T : List (Addr × PySem.Str)} {K : PySem.W.Frag} {H H' : Hp} {a : Addr} {xs : List V} (k : Kp T H H') (h : SqL K H a xs) : SqL K H' a xs := by
  rcases h with (h | ⟨o, h⟩) | h
  · exact .inl (.inl (k.st _ _ h ntb_lst))
  · exact .inl (.inr ⟨o, k.st _ _ h (fun ps z => by cases z)⟩)
  · exact .inr h
/-- data that needs no tables -/
structure Nt {α : Type} (r : Rp α) : Prop where
  up : ∀ {H : Hp} {v : V} {y : α}, r H v y → r (nt H) v y
section
variable {α β γ : Type}
theorem nt_N : Nt rN := ⟨fun h => h⟩
theorem nt_I : Nt rI := ⟨fun h => h⟩
theorem nt_C : Nt rC := ⟨fun h => h⟩
theorem nt_W : Nt rW := ⟨fun h => h⟩
theorem nt_L {r : Rp α} (m : Nt r) : Nt (rL r) := ⟨fun ⟨a, xs, e, h, k⟩ => ⟨a, xs, e, nt_some h ntb_lst, k.mono fun _ _ => m.up⟩⟩
theorem nt_O {r : Rp α} (m : Nt r) : Nt (rO r) := ⟨fun {H v y} h => match y, h with
  | none, h => h
  | some _, h => ⟨h.1, m.up h.2⟩⟩
theorem nt_P {r : Rp α} {s : Rp β} (m : Nt r) (n : Nt s) : Nt (rP r s) := ⟨fun ⟨a, x, y, e, h, k, l⟩ => ⟨a, x, y, e, nt_some h ntb_tup, m.up k, n.up l⟩⟩
theorem nt_T {r : Rp α} {s : Rp β} {t : Rp γ} (m : Nt r) (n : Nt s) (o : Nt t) : Nt (rT r s t) := ⟨fun ⟨a, x, y, z, e, h, k, l, j⟩ => ⟨a, x, y, z, e, nt_some h ntb_tup, m.up k, n.up l, o.up j⟩⟩
theorem nt_D : Nt rD := ⟨fun ⟨a, e, h⟩ => ⟨a, e, nt_some h ntb_dK⟩⟩
theorem nt_Hal : Nt rHal := nt_L (nt_O (nt_L nt_C))
theorem nt_Want : Nt rWant := nt_P nt_N nt_N
theorem nt_Paper : Nt rPaper := nt_T (nt_L nt_N) (nt_L nt_Want) (nt_L nt_C)
/-- data of a frozen part, as data of the heap without its tables -/
theorem to_nt {r : Rp α} (m : Mo r) (n : Nt r) {F H : Hp} {v : V} {y : α} (s : L2.Same F H) (h : r F v y) : r (nt H) v y := n.up (m.up s h)
theorem Nt.kp {T : List (Addr × PySem.Str)} {r : Rp α} (m : Mo r) {H H' : Hp} {v : V} {y : α} (k : Kp T H H') (h : r (nt H) v y) : r (nt H') v y := m.up k.nt h
end
end Fl

/-! FlOrder -/
/-! The law's sets, sorted, are the sets in their order. -/
namespace Fl
open PySem L2
def lawSub (ns : List Nat) : List (List Nat) := ns.foldl (fun some n => some ++ some.map fun one => one ++ [n]) [[]]
def toI (l : List Nat) : List Int := l.map fun n : Nat => (n : Int)
def leI (a b : List Int) : Bool := decide (a.length < b.length ∨ (a.length = b.length ∧ a ≤ b))
theorem le_key : PySem.W.dataLe false keyOf = leI := by
  funext a b
  show (!PySem.W.dataLt (keyOf b) (keyOf a)) = _
  unfold keyOf
  rw [PySem.W.dataLt_pair (by simp [PySem.W.alike]) (by
    show PySem.W.alike (.list _) (.list _) = true
    simp only [PySem.W.alike]
    exact PySem.W.alike_ints b a)]
  rw [PySem.W.dataLt_int]
  have h1 : (!PySem.W.dataLt (.list (b.map .int)) (.list (a.map .int))) = decide (a ≤ b) := congrFun (congrFun (PySem.W.dataLe_rows (fun x : List Int => x)) a) b
  have h2 : PyData.eqv (.list (b.map .int)) (.list (a.map .int)) = decide (b = a) := by
    simp only [PyData.eqv]
    exact eqv_all (d := fun n : Int => PyData.int n) (dt_I (K := default)).eqv b a
  have h3 : PyData.eqv (.int (b.length : Int)) (.int (a.length : Int)) = decide (b.length = a.length) := by
    simp only [PyData.eqv]
    by_cases h : b.length = a.length
    · rw [decide_eq_true h, h]; simp
    · rw [decide_eq_false h, beq_eq_false_iff_ne]
      intro z
      exact h (by omega)
  rw [h3, h2]
  unfold leI
  by_cases h : b.length = a.length
  · rw [if_pos (decide_eq_true h)]
    by_cases e : b = a
    · rw [if_pos (decide_eq_true e), e]
      have : a ≤ a := List.le_refl a
      simp [this]
    · rw [if_neg (by simpa using e), h1]
      have : ¬ a.length < b.length := by omega
      simp [h, this]
  · rw [if_neg (by simpa using h)]
    by_cases l : b.length < a.length
    · have h4 : ¬ a.length < b.length := by omega
      have h5 : ¬ a.length = b.length := by omega
      have l' : (b.length : Int) < (a.length : Int) := by omega
      simp [l', h4, h5]
    · have h4 : a.length < b.length := by omega
      have l' : ¬ (b.length : Int) < (a.length : Int) := by omega
      simp [l', h4]
theorem leI_trans (a b c : List Int) (h1 : leI a b = true) (h2 : leI b c = true) : leI a c = true := by
  unfold leI at *
  rw [decide_eq_true_iff] at *
  rcases h1 with h1 | ⟨h1, h1'⟩
  · rcases h2 with h2 | ⟨h2, _⟩
    · exact .inl (by omega)
    · exact .inl (by omega)
  · rcases h2 with h2 | ⟨h2, h2'⟩
    · exact .inl (by omega)
    · exact .inr ⟨by omega, List.le_trans h1' h2'⟩
theorem leI_total (a b : List Int) : (leI a b || leI b a) = true := by
  unfold leI
  by_cases h1 : a.length < b.length
  · simp [h1]
  · by_cases h2 : b.length < a.length
    · simp [h2]
    · have e : a.length = b.length := by omega
      rcases List.le_total a b with h | h
      · simp [e, h]
      · simp [e, h]
theorem leI_anti (a b : List Int) (h1 : leI a b = true) (h2 : leI b a = true) : a = b := by
  unfold leI at *
  rw [decide_eq_true_iff] at *
  rcases h1 with h1 | ⟨h1, h1'⟩
  · rcases h2 with h2 | ⟨h2, _⟩
    · omega
    · omega
  · rcases h2 with h2 | ⟨h2, h2'⟩
    · omega
    · exact List.le_antisymm h1' h2'
/-- all sets of six, by running -/
theorem sets_run : ((setsOf (List.range 6)).all fun ns => (lawSub ns).isPerm (setsOf ns) && decide (((setsOf ns).map toI).Pairwise fun a b => leI a b = true)) = true := by decide +kernel
theorem law_sorted {ns : List Nat} (h : ns ∈ setsOf (List.range 6)) : ((lawSub ns).map toI).mergeSort (PySem.W.dataLe false keyOf) = (setsOf ns).map toI := by
  have r := List.all_eq_true.mp sets_run ns h
  rw [Bool.and_eq_true] at r
  have p : (lawSub ns).Perm (setsOf ns) := List.isPerm_iff.mp r.1
  have s := of_decide_eq_true r.2
  rw [le_key]
  refine List.Perm.eq_of_pairwise (le := fun a b => leI a b = true) (fun a b _ _ => leI_anti a b) ?_ s ?_
  · exact List.pairwise_mergeSort (fun a b c => leI_trans a b c) (fun a b => leI_total a b) _
  · exact (List.mergeSort_perm _ _).trans (p.map toI)
end Fl

/-! DefLawSets -/
namespace Fl
open PySem L2
section
variable {P : Program} {w : World} {K : PySem.W.Frag} {mg : PySem.Str → Option Value} {base : Heap} {tbs : List (Addr × PySem.Str)}
/-- a def whose code object is known -/
theorem okC {x qual : PySem.Str} {st : Stmt} {f : Addr} {fd : FuncData} {N ps : List PySem.Str} {k : Nat} {sp : Sp} {c : Addr} (Fu : Fun K x qual st f fd) (hc : fd.code = .ref c) (S : FnScope N ps (defScope st)) (len : ∀ vs H Q E, sp vs H Q E → vs.length = ps.length)
    (hbody : ∀ (A : Around) (outer : List Env) (s : Shared) (H : Hp) (vs : List V) (Q : VK) (E : XK), Room k (A.deeper (PyProof.Rows.envOfC qual (defScope st) s.heap.objs.size f (.ref c))) → sp vs H Q E →
      ∃ t, PSs (cxOf L2.CX0 P w K mg base N qual (defScope st) f (.ref c) A outer s H E).nox (defBody st) t ∧ t { nx := fun _ H' => Q .non H', rt := Q } (start N vs) H) : FnOk P w K mg base L2.CX0 (k + 1) f fd ps sp := by
  obtain ⟨oc, od, kV, doc, pm, an, cdv, ct, osl, rfl, lk, hcd⟩ := Fu.ex
  obtain rfl : cdv = .ref c := hc
  refine fn_of lk hcd S len fun A outer s H vs Q E hr hsp => ?_
  obtain ⟨t, h, q⟩ := hbody A outer s H vs Q E hr hsp
  exact ⟨t, h.nox, q⟩
abbrev s_law_sets : Stmt := top 47
abbrev N_law_sets : List PySem.Str := ["_law_numbers", "_law_some", "_law_number", "_law_one"]
theorem sc_law_sets : FnScope N_law_sets ["_law_numbers"] (defScope s_law_sets) := ⟨rfl, rfl, rfl, by decide +kernel, rfl, by decide +kernel, by decide +kernel⟩
def spLSets (tbs : List (Addr × PySem.Str)) : Sp := fun vs H Q _ => ∃ (v : V) (ns : List Nat), vs = [v] ∧ LamX.Tabs tbs H ∧ rL rN (nt H) v ns ∧ ns ∈ setsOf (List.range 6) ∧ ∀ H' v', Kp tbs H H' → rL (rL rN) (nt H') v' (setsOf ns) → Q v' H'
theorem lawSub_snoc (ns : List Nat) (n : Nat) : lawSub (ns ++ [n]) = lawSub ns ++ (lawSub ns).map fun one => one ++ [n] := by
  unfold lawSub
  rw [List.foldl_append]
  rfl
theorem snoc_rec {α : Type} {p : List α → Prop} (h0 : p []) (h1 : ∀ l a, p l → p (l ++ [a])) : ∀ l, p l := fun l => by
  have : ∀ r : List α, p r.reverse := fun r => by
    induction r with
    | nil => exact h0
    | cons a r ih =>
      rw [List.reverse_cons]
      exact h1 _ _ ih
  have := this l.reverse
  rwa [List.reverse_reverse] at this
theorem sub_len (ns : List Nat) (hn : ns.length ≤ 6) : (lawSub ns).length ≤ 64 := by
  have h : ∀ (ns : List Nat), (lawSub ns).length = 2 ^ ns.length := snoc_rec rfl fun ns n ih => by
    rw [lawSub_snoc, List.length_append, List.length_map, ih, List.length_append, List.length_singleton, Nat.pow_succ]
    omega
  rw [h]
  exact Nat.le_trans (Nat.pow_le_pow_right (by omega) hn) (by decide)
theorem sub_each : ∀ (ns : List Nat), ∀ l ∈ lawSub ns, l.length ≤ ns.length := snoc_rec (fun l hl => by
    have : l = [] := by simpa [lawSub] using hl
    rw [this]
    exact Nat.le_refl _) fun ns n ih l hl => by
  rw [lawSub_snoc] at hl
  rw [List.length_append, List.length_singleton]
  rcases List.mem_append.mp hl with z | z
  · have := ih l z
    omega
  · obtain ⟨m, hm, rfl⟩ := List.mem_map.mp z
    have := ih m hm
    rw [List.length_append, List.length_singleton]
    omega
theorem ok_law_sets {f c PT : Addr} {fd : FuncData} (Fu : Fun K "_law_sets" "_law_sets" s_law_sets f fd) (hc : fd.code = .ref c) (T : Txt K mg) (TB : LamX.TabB base mg c PT) (hmT : (PT, ("_law_sets.<locals>.<lambda>" : PySem.Str)) ∈ tbs) (huT : ∀ p ∈ tbs, p.1 = PT → p.2 = ("_law_sets.<locals>.<lambda>" : PySem.Str)) :
    FnOk P w K mg base L2.CX0 4 f fd ["_law_numbers"] (spLSets tbs) := by
  refine okC Fu hc sc_law_sets (fun vs H Q E h => ?_) (fun A outer s H vs Q E hr h => ?_)
  · obtain ⟨v, ns, rfl, _⟩ := h
    rfl
  · obtain ⟨v, ns, rfl, hT, hv, hns, q⟩ := h
    refine ⟨_, 
      (pss_cons (ps_set (i := 1) sc_law_sets.nd rfl (Or.inl rfl) (pe_lst (pa_cons (pe_lst pa_nil) pa_nil)))
      (pss_cons (ps_for PassesOwn.never rfl (pi_list (pv 0)) (pg_name (i := 2) sc_law_sets.nd rfl (Or.inr rfl))
        (pss_one (ps_set (i := 1) sc_law_sets.nd rfl (Or.inl rfl) (pe_op op_cat (pv 1) (pe_lc (own := ([("_law_one", 3)] : List (PySem.Str × Nat))) rfl sc_law_sets.nd (pi_list (pv 1)) (blkOk_by (own := ([("_law_one", 3)] : List (PySem.Str × Nat))) (N := N_law_sets) (sc := defScope s_law_sets) (by decide +kernel)) (fun _ _ _ _ _ => (pg_name (i := 3) sc_law_sets.nd rfl (Or.inl rfl))) (fun _ _ _ _ _ => pts_nil) (fun _ _ _ _ _ => (pe_op op_cat (pv 3) (pe_lst (pa_cons (pv 2) pa_nil)))))))))
      (pss_one (ps_ret (pe_sortedLam hr TB rfl hmT huT (by rfl) T.b_sorted T.b_len (pa_cons (pv 1) pa_nil)))))), ?_⟩
    obtain ⟨a, rfl, ha⟩ := rL_N hv
    have n6 : ns.length ≤ 6 := by
      have := (sets_mem.mp hns).length_le
      rwa [List.length_range] at this
    refine ⟨Nat.zero_le _, fun p1 n1 => ⟨small7 (by show 1 ≤ 7; omega), fun p2 n2 => ?_⟩⟩
    have fr2 := ((Fr.begin (T := tbs) (nt_same H)).lay (o := .lst []) n1).lay (o := .lst [V.ref p1]) n2
    have h1 : upd (upd (nt H) p1 (.lst [])) p2 (.lst [V.ref p1]) p1 = some (.lst []) := by
      rw [upd_ne (ne_of_none upd_same n2), upd_same]
    have h2 : upd (upd (nt H) p1 (.lst [])) p2 (.lst [V.ref p1]) p2 = some (.lst [V.ref p1]) := upd_same
    generalize upd (upd (nt H) p1 (.lst [])) p2 (.lst [V.ref p1]) = F2 at fr2 h1 h2
    have lns : (ns.map nV).length = ns.length := List.length_map _
    refine ⟨_, rfl, a, rfl, ⟨_, SqL.of (fr2.fh _ _ (fr2.ff _ _ ha))⟩, for_list (K := K) (a := a) (xs := ns.map nV) (fun i σ H' => ∃ d xs F' v2, σ = [some (.ref a), some (.ref d), v2, none] ∧ Fr tbs (nt H) H F' H' ∧ F' d = some (.lst xs) ∧ Al (rL rN F') xs (lawSub (ns.take i))) ?_ ?_ ?_ ?_⟩
    · exact ⟨p2, [.ref p1], F2, none, rfl, fr2, h2, ⟨p1, [], rfl, h1, trivial⟩, trivial⟩
    · rintro i σ H' _ ⟨_, _, F', _, _, fr, _⟩
      exact SqL.of (fr.fh _ _ (fr.ff _ _ ha))
    · rintro i x σ H' hx ⟨d, xs, F', v2, rfl, fr, hd, al⟩
      have hi := (List.getElem?_eq_some_iff.mp hx).1
      rw [lns] at hi
      rw [List.getElem?_map] at hx
      cases hc : ns[i]? with
      | none => rw [hc] at hx; cases hx
      | some n =>
      rw [hc] at hx
      obtain rfl : nV n = x := Option.some.inj hx
      have ls := sub_len (ns.take i) (by rw [List.length_take]; omega)
      have lxs : xs.length ≤ 64 := by rw [al.len]; exact ls
      refine ⟨_, rfl, _, rfl, d, rfl, ⟨_, SqL.of (fr.fh _ _ hd)⟩, fun D nD => ?_⟩
      refine lc_list (K := K) (a := d) (xs := xs) (fun j H4 => ∃ F4 ys, Fr tbs (nt H) H F4 H4 ∧ L2.Same F' F4 ∧ Own H F4 H4 D (.lst ys) ∧ Al (rL rN F4) ys (((lawSub (ns.take i)).take j).map fun one => one ++ [n])) ?_ ?_ ?_ ?_
      · exact ⟨F', [], fr.new nD, .refl _, fr.own nD, by rw [List.take_zero]; trivial⟩
      · rintro j H4 _ ⟨F4, ys, fr4, s4, _⟩
        exact SqL.of (fr4.fh _ _ (s4 _ _ hd))
      · rintro j x H4 hx ⟨F4, ys, fr4, s4, ow4, al4⟩
        obtain ⟨m, hm, hxm⟩ := al.get hx
        obtain ⟨b, rfl, hb⟩ := rL_N hxm
        have lm := sub_each _ m (List.mem_of_getElem? hm)
        rw [List.length_take] at lm
        have hj := (List.getElem?_eq_some_iff.mp hm).1
        refine ⟨rfl, ?_⟩
        refine ⟨_, rfl, _, rfl, small7 (by show 1 ≤ 7; omega), fun p np => ?_⟩
        have fr5 := fr4.new (o := .lst [nV n]) np
        have ow5 := ow4.new (o' := .lst [nV n]) np
        refine ⟨b, p, _, _, rfl, rfl, fr5.fh _ _ (s4 _ _ hb), upd_same, ?_, fun r nr => ?_⟩
        · rw [List.length_map]
          exact smallK (by show _ + 1 ≤ 1000; omega)
        have fr6 := fr5.lay (o := .lst (m.map nV ++ [nV n])) nr
        have ow6 := ow5.lay (o' := .lst (m.map nV ++ [nV n])) nr
        have s6 := same_upd (o := .lst (m.map nV ++ [nV n])) (fr5.free nr).1
        refine ⟨ys, ow6.at_, ?_, _, ys ++ [.ref r], fr6.put ow6 trivial, s4.trans s6, ow6.put, ?_⟩
        · rw [al4.len, List.length_map, List.length_take]
          exact small1000 (by omega)
        · rw [take_snoc hm, List.map_append]
          refine ((mo_L mo_N).al s6 al4).snoc ⟨r, _, rfl, upd_same, ?_⟩
          have := Al.map (g := nV) (m ++ [n])
          rw [List.map_append] at this
          exact this
      · rintro H4 ⟨F4, ys, fr4, s4, ow4, al4⟩
        rw [al.len, List.take_length] at al4
        refine ⟨d, D, xs, ys, rfl, rfl, fr4.fh _ _ (s4 _ _ hd), ow4.at_, ?_, fun r nr => ?_⟩
        · rw [al4.len, List.length_map]
          exact smallK (by omega)
        · have s6 := same_upd (o := .lst (xs ++ ys)) (fr4.free nr).1
          refine ⟨r, xs ++ ys, _, _, rfl, fr4.lay nr, upd_same, ?_⟩
          rw [take_snoc hc, lawSub_snoc]
          exact Al.app ((mo_L mo_N).al s6 al4) ((mo_L mo_N).al (s4.trans s6) al)
    · rintro σ H' ⟨d, xs, F', v2, rfl, fr, hd, al⟩
      rw [lns, List.take_length] at al
      have ls := sub_len ns n6
      have rows : ∀ {xs : List V} {ds : List (List Nat)}, Al (rL rN F') xs ds → Al (IsRow H') xs (ds.map toI) := fun {xs ds} => by
        induction ds generalizing xs with
        | nil =>
          intro h
          cases xs with
          | nil => trivial
          | cons x xs => exact h.elim
        | cons m ds ih =>
          intro h
          cases xs with
          | nil => exact h.elim
          | cons x xs =>
            refine ⟨?_, ih h.2⟩
            obtain ⟨b, rfl, hb⟩ := rL_N h.1
            refine ⟨b, rfl, ?_⟩
            have e : (toI m).map V.int = m.map nV := by
              unfold toI
              rw [List.map_map]
              rfl
            rw [e]
            exact fr.fh _ _ hb
      have back : ∀ {H2 : Hp} {xs : List V} {ds : List (List Nat)}, Kp tbs H' H2 → Al (IsRow H') xs (ds.map toI) → Al (rL rN (nt H2)) xs ds := fun {H2 xs ds} kp => by
        induction ds generalizing xs with
        | nil =>
          intro h
          cases xs with
          | nil => trivial
          | cons x xs => exact h.elim
        | cons m ds ih =>
          intro h
          cases xs with
          | nil => exact h.elim
          | cons x xs =>
            refine ⟨?_, ih h.2⟩
            obtain ⟨b, rfl, hb⟩ := h.1
            have e : (toI m).map V.int = m.map nV := by
              unfold toI
              rw [List.map_map]
              rfl
            rw [e] at hb
            exact rL_mkN (nt_some (kp.st _ _ hb ntb_lst) ntb_lst)
      refine ⟨_, rfl, d, xs, (lawSub ns).map toI, rfl, fr.fh _ _ hd, rows al, ?_, ?_, fr.kp.tb hT, fun H2 p ys kp np al2 => ?_⟩
      · rw [List.length_map]; omega
      · intro m hm
        obtain ⟨l, hl, rfl⟩ := List.mem_map.mp hm
        have := sub_each ns l hl
        unfold toI
        rw [List.length_map]
        omega
      · rw [law_sorted hns] at al2
        have kp2 : Kp tbs H' (upd H2 p (.lst ys)) := kp.trans (.same (same_upd np))
        refine q _ _ (fr.kp.trans kp2) ⟨p, ys, rfl, nt_some upd_same ntb_lst, back kp2 al2⟩
end
end Fl

/-! DefLawAsked -/
namespace Fl
open PySem L2
section
variable {P : Program} {w : World} {K : PySem.W.Frag} {mg : PySem.Str → Option Value} {base : Heap} {tbs : List (Addr × PySem.Str)}
abbrev s_law_asked : Stmt := top 50
abbrev N_law_asked : List PySem.Str := ["_law_locker_here", "_law_halyards", "_law_number", "_law_word_here", "e"]
theorem sc_law_asked : FnScope N_law_asked ["_law_locker_here", "_law_halyards", "_law_number", "_law_word_here"] (defScope s_law_asked) := ⟨rfl, rfl, rfl, by decide +kernel, rfl, by decide +kernel, by decide +kernel⟩
def rPr : Rp (List (Nat × Nat) × List Nat) := fun F v p => ∃ a x y, v = .ref a ∧ F a = some (.lst [x, y]) ∧ rL rWant F x p.1 ∧ rL rC F y p.2
def spLAsked (tbs : List (Addr × PySem.Str)) : Sp := fun vs H Q E => ∃ (F : Hp) (v u : V) (kvs : List (Nat × Int)) (hs : List (Option (List Nat))) (n : Nat) (wo : List Nat), L2.Same F H ∧ vs = [v, u, nV n, .str (wd wo)] ∧
  rD F v kvs ∧ LockOk kvs ∧ rHal F u hs ∧ HalOk hs ∧ n < hs.length ∧ Word7 wo ∧
  (∀ pre s g, Low kvs hs n wo pre s → Hangs (chOf (wordsW hs wo s)) (lk (poolW kvs hs n s)) g → Pf tbs F H Q rHauled (hauledTo kvs hs n wo s g)) ∧
  (∀ W G, LackP (wordsW hs wo (othersOf hs n)) (lk (poolW kvs hs n (othersOf hs n))) W G → Pf tbs F H Q rPr (W, G))
theorem ok_law_asked {f : Addr} {fd : FuncData} {C CT : Addr} (Fu : Fun K "_law_asked" "_law_asked" s_law_asked f fd) (LC : LackC K mg C CT) (C_hauled : Cr P w K mg base 8 "hauled" (spHauled tbs C)) :
    FnOk P w K mg base L2.CX0 9 f fd ["_law_locker_here", "_law_halyards", "_law_number", "_law_word_here"] (spLAsked tbs) := by
  refine Fu.ok sc_law_asked (fun vs H Q E h => ?_) (fun cdv A outer s H vs Q E hr h => ?_)
  · obtain ⟨F, v, u, kvs, hs, n, wo, _, rfl, _⟩ := h
    rfl
  · obtain ⟨F, v, u, kvs, hs, n, wo, sm, rfl, hv, lok, hu, ok, hn, hwo, q, qL⟩ := h
    refine ⟨_, pss_one (ps_try_as (i := 4) rfl rfl sc_law_asked.nd rfl rfl ⟨rfl, by decide, .inl LC.gm⟩ takes0
      (fun W pn xe tk _ => pss_one (ps_ret (pe_cxS C_hauled hr (by decide) (by rfl) tk (pa_cons (pv 0) (pa_cons (pv 1) (pa_cons (pv 2) (pa_cons (pv 3) pa_nil)))))))
      (fun a oe cls d pn hz hf => pss_one (ps_ret (pe_lst (pa_cons (pe_xf LC.xfc LC.nW hz hf (pv 4)) (pa_cons (pe_xf LC.xfc LC.nF hz hf (pv 4)) pa_nil)))))), ?_⟩
    refine ⟨_, rfl, _, rfl, _, rfl, _, rfl, F, v, u, kvs, hs, n, wo, sm, rfl, hv, lok, hu, ok, hn, hwo, ?_, ?_⟩
    · intro pre s' g hlow hg
      exact q pre s' g hlow hg
    · intro F' H' d v1 v2 W G pre fr nd h1 h2 hp hlow
      refine ⟨true, LC.te, fun _ _ na => ?_, fun z => nomatch z⟩
      have fr2 := fr.new (o := lackX v1 v2) nd
      refine ⟨_, rfl, rfl, rfl, d, _, v1, rfl, upd_same, rfl, _, rfl, rfl, rfl, d, _, v2, rfl, upd_same, rfl, small7 (by show 2 ≤ 7; omega), fun p np => ?_⟩
      have fr3 := fr2.lay (o := .lst [v1, v2]) np
      have sp := same_upd (o := .lst [v1, v2]) (fr2.free np).1
      exact qL W G hp _ _ (.ref p) fr3 ⟨p, v1, v2, rfl, upd_same, (mo_L mo_Want).up sp h1, (mo_L mo_C).up sp h2⟩
end
end Fl

/-! DefLawHung -/
namespace Fl
open PySem L2
def Reads (h l : List Nat) : Prop := h.length = l.length ∧ ∀ (i c : Nat), h[i]? = some c → c ∈ choices l (i + 1)
/-- what the law asks of what was hauled -/
structure HungOk (kvs : List (Nat × Int)) (hs : List (Option (List Nat))) (n : Nat) (wo s : List Nat) (bs : List (Option (List Nat))) (left : List (Nat × Int)) : Prop where
  bl : bs.length = hs.length
  low : ∀ k ∈ s, k ≠ n ∧ ∃ h, hs[k]? = some (some h)
  at_n : ∃ h, bs[n]? = some (some h) ∧ Reads h wo
  at_low : ∀ k ∈ s, ∃ h, bs[k]? = some (some h) ∧ Reads h (readOf (hoistAt hs k))
  rest : ∀ k, k < hs.length → k ≠ n → k ∉ s → bs[k]? = hs[k]?
  pos : ∀ p ∈ left, 1 ≤ p.2
  lok : LockOk left
  bok : HalOk bs
  same : ∀ c, isFlag c → lk (addAll left (flagsOf bs (List.range hs.length))) c = lk (addAll kvs (flagsOf hs (List.range hs.length))) c
section
variable {P : Program} {w : World} {K : PySem.W.Frag} {mg : PySem.Str → Option Value} {base : Heap} {tbs : List (Addr × PySem.Str)}
abbrev s_law_hung : Stmt := top 51
abbrev N_law_hung : List PySem.Str := ["_law_locker_here", "_law_halyards", "_law_number", "_law_word_here", "_law_found", "_law_lowered", "_law_behind", "_law_held", "_law_k", "_law_every", "_law_flag"]
theorem sc_law_hung : FnScope N_law_hung ["_law_locker_here", "_law_halyards", "_law_number", "_law_word_here", "_law_found"] (defScope s_law_hung) := ⟨rfl, rfl, rfl, by decide +kernel, rfl, by decide +kernel, by decide +kernel⟩
def spLHung (tbs : List (Addr × PySem.Str)) : Sp := fun vs H Q _ => ∃ (F : Hp) (v u z : V) (kvs : List (Nat × Int)) (hs : List (Option (List Nat))) (n : Nat) (wo s : List Nat) (bs : List (Option (List Nat))) (left : List (Nat × Int)), L2.Same F H ∧ vs = [v, u, nV n, .str (wd wo), z] ∧
  rD F v kvs ∧ LockOk kvs ∧ rHal F u hs ∧ HalOk hs ∧ n < hs.length ∧ Word7 wo ∧ rHauled F z (s, bs, left) ∧ s.length ≤ 5 ∧ HungOk kvs hs n wo s bs left ∧ ∀ F' H', Fr tbs F H F' H' → Q (.bl true) H'
theorem ok_law_hung {f : Addr} {fd : FuncData} (Fu : Fun K "_law_hung" "_law_hung" s_law_hung f fd) (T : Txt K mg) (C_law_reads : Cf P w K mg base 2 "_law_reads" (spLReads tbs)) (C_law_read : Cf P w K mg base 1 "_law_read" (spReadOf tbs)) (C_law_with : Cf P w K mg base 1 "_law_with" (spLWith tbs)) (C_law_same : Cf P w K mg base 1 "_law_same" (spLSame tbs)) :
    FnOk P w K mg base L2.CX0 3 f fd ["_law_locker_here", "_law_halyards", "_law_number", "_law_word_here", "_law_found"] (spLHung tbs) := by
  refine Fu.ok sc_law_hung (fun vs H Q E h => ?_) (fun cdv A outer s H vs Q E hr h => ?_)
  · obtain ⟨F, v, u, z, kvs, hs, n, wo, s, bs, left, _, rfl, _⟩ := h
    rfl
  · obtain ⟨F, v, u, z, kvs, hs, n, wo, s, bs, left, sm, rfl, hv, lok, hh, ok, hn, hwo, hz, ls, U, q⟩ := h
    have hu := hu_of hr
    have hh0 := hh
    obtain ⟨b, xs, rfl, hb, al⟩ := hh
    obtain ⟨t, x1, x2, x3, rfl, ht, hx1, hx2, hx3⟩ := hz
    have hx1 : rL rN F x1 s := hx1
    have hx2 : rHal F x2 bs := hx2
    have hx3 : rD F x3 left := hx3
    have hx20 := hx2
    have hx30 := hx3
    obtain ⟨e1, rfl, he1⟩ := rL_N hx1
    obtain ⟨e2, ys, rfl, he2, alb⟩ := hx2
    obtain ⟨e3, rfl, he3⟩ := hx3
    have lx := al.len
    have lb := alb.len
    have l6 := ok.few
    have ubl := U.bl
    refine ⟨_, 
      (pss_cons (ps_asg (pv 4) (pg_tup rfl (pgs_cons (pg_name (i := 5) sc_law_hung.nd rfl (Or.inl rfl)) (pgs_cons (pg_name (i := 6) sc_law_hung.nd rfl (Or.inl rfl)) (pgs_cons (pg_name (i := 7) sc_law_hung.nd rfl (Or.inr rfl)) pgs_nil)))))
      (pss_cons (ps_if (PW.pt (pw_or (pt_not (pt_val (pe_callB call_isi (by rfl) T.b_isinstance (by decide +kernel) (pa_cons (pv 5) (pa_cons (pe_bltn (v := .ty "list") (u := .type "list") (by rfl) T.b_list (by decide +kernel) rfl) pa_nil))))) (pw_or (pt_not (pt_val (pe_callB call_isi (by rfl) T.b_isinstance (by decide +kernel) (pa_cons (pv 6) (pa_cons (pe_bltn (v := .ty "list") (u := .type "list") (by rfl) T.b_list (by decide +kernel) rfl) pa_nil))))) (pw_or1 (pt_cmpR op_ne (pe_callB call_len_seq (by rfl) T.b_len PySem.boot_len (pa_cons (pv 6) pa_nil)) (pe_callB call_len_seq (by rfl) T.b_len PySem.boot_len (pa_cons (pv 1) pa_nil)) (nomark _))))))
        (pss_one (ps_ret pe_bl)) pss_nil)
      (pss_cons (ps_for PassesOwn.never rfl (pi_range1 (by rfl) T.b_range (pa_cons (pe_callB call_len_seq (by rfl) T.b_len PySem.boot_len (pa_cons (pv 1) pa_nil)) pa_nil)) (pg_name (i := 8) sc_law_hung.nd rfl (Or.inl rfl))
        (pss_cons (ps_if (PW.pt (pw_and (pt_cmpR op_eq (pv 8) (pv 2) (nomark _)) (pw_and1 (pt_not (pt_val (pe_cf C_law_reads hr (by decide) (by rfl) (pa_cons (pe_ix ix_list (pv 6) (pv 8) (fun _ _ => rfl)) (pa_cons (pv 3) pa_nil))))))))
          (pss_one (ps_ret pe_bl)) pss_nil)
        (pss_cons (ps_if (PW.pt (pw_and (pt_cmpR op_in_seq (pv 8) (pv 5) (by rfl)) (pw_and1 (PW.pt (pw_or (pt_cmpR op_eq (pv 8) (pv 2) (nomark _)) (pw_or1 (pt_cmpR op_isN (pe_ix ix_list (pv 1) (pv 8) (fun _ _ => rfl)) pe_non (nomark _))))))))
          (pss_one (ps_ret pe_bl)) pss_nil)
        (pss_cons (ps_if (PW.pt (pw_and (pt_cmpR op_in_seq (pv 8) (pv 5) (by rfl)) (pw_and1 (pt_not (pt_val (pe_cf C_law_reads hr (by decide) (by rfl) (pa_cons (pe_ix ix_list (pv 6) (pv 8) (fun _ _ => rfl)) (pa_cons (pe_cf C_law_read hr (by decide) (by rfl) (pa_cons (pe_ix ix_list (pv 1) (pv 8) (fun _ _ => rfl)) pa_nil)) pa_nil))))))))
          (pss_one (ps_ret pe_bl)) pss_nil)
        (pss_one (ps_if (PW.pt (pw_and (pt_cmpR op_ne (pv 8) (pv 2) (nomark _)) (pw_and (pt_cmpR op_notIn_seq (pv 8) (pv 5) (by rfl)) (pw_and1 (pt_cmpR (op_neD hr.units) (pe_ix ix_list (pv 6) (pv 8) (fun _ _ => rfl)) (pe_ix ix_list (pv 1) (pv 8) (fun _ _ => rfl)) (nomark _))))))
          (pss_one (ps_ret pe_bl)) pss_nil))))))
      (pss_cons (ps_set (i := 9) sc_law_hung.nd rfl (Or.inl rfl) (pe_listRg rfl (by rfl) T.b_list (prg_1 (by rfl) T.b_range (pe_callB call_len_seq (by rfl) T.b_len PySem.boot_len (pa_cons (pv 1) pa_nil)))))
      (pss_cons (ps_if (pt_cmpR op_lt (pe_callBK (call_minD rfl hr.units) (by rfl) T.b_min (by decide +kernel) (pa_cons (pe_lock (pe_lc (own := ([("_law_flag", 10)] : List (PySem.Str × Nat))) rfl sc_law_hung.nd (pi_keys (pv 7)) (blkOk_by (own := ([("_law_flag", 10)] : List (PySem.Str × Nat))) (N := N_law_hung) (sc := defScope s_law_hung) (by decide +kernel)) (fun _ _ _ _ _ => (pg_name (i := 10) sc_law_hung.nd rfl (Or.inl rfl))) (fun _ _ _ _ _ => pts_nil) (fun _ _ _ _ _ => (pe_dget hu (pv 7) (pv 10) (fun _ _ => rfl))))) pa_nil) (pk_cons pe_int pk_nil)) pe_int (nomark _))
        (pss_one (ps_ret pe_bl)) pss_nil)
      (pss_one (ps_ret (pe_cf C_law_same hr (by decide) (by rfl) (pa_cons (pe_cf C_law_with hr (by decide) (by rfl) (pa_cons (pv 7) (pa_cons (pv 6) (pa_cons (pv 9) pa_nil)))) (pa_cons (pe_cf C_law_with hr (by decide) (by rfl) (pa_cons (pv 0) (pa_cons (pv 1) (pa_cons (pv 9) pa_nil)))) pa_nil)))))))))), ?_⟩
    refine ⟨_, rfl, t, _, rfl, SqT.of (sm _ _ ht), rfl, _, _, rfl, _, _, rfl, _, _, rfl, rfl, ?_⟩
    refine ⟨_, rfl, _, _, _, _, true, rfl, .ty _, .base (.lst (sm _ _ he1)), kit_ty (by decide +kernel), _, rfl, iteF ?_⟩
    refine ⟨_, rfl, _, _, _, _, true, rfl, .ty _, .base (.lst (sm _ _ he2)), kit_ty (by decide +kernel), _, rfl, iteF ?_⟩
    refine ⟨_, rfl, e2, _, rfl, .inl (SqL.of (sm _ _ he2)), _, rfl, b, _, rfl, .inl (SqL.of (sm _ _ hb)), rfl, _, rfl, ite2 (fun c => ?_) (fun _ => ?_)⟩
    · exfalso
      rw [lb, lx, ubl] at c
      simp at c
    refine ⟨_, rfl, b, _, rfl, .inl (SqL.of (sm _ _ hb)), _, rfl, by omega, by omega, ?_⟩
    refine for_range (lo := 0) (fun i σ H' => ∃ v8 F', σ = [some v, some (.ref b), some (nV n), some (.str (wd wo)), some (.ref t), some (.ref e1), some (.ref e2), some (.ref e3), v8, none, none] ∧ Fr tbs F H F' H') ?_ ?_ ?_
    · exact ⟨none, F, rfl, Fr.begin sm⟩
    · rintro i σ H' hi ⟨v8, F', rfl, fr⟩
      have hi : i < hs.length := by omega
      have e0 : V.int (0 + (i : Int)) = nV i := by rw [Int.zero_add]
      rw [e0]
      obtain ⟨o, ho⟩ : ∃ o, hs[i]? = some o := ⟨_, List.getElem?_eq_getElem hi⟩
      obtain ⟨x, hx, hxo⟩ := al.at ho
      obtain ⟨o', ho'⟩ : ∃ o, bs[i]? = some o := ⟨_, List.getElem?_eq_getElem (by omega)⟩
      obtain ⟨x', hx', hxo'⟩ := alb.at ho'
      have he1' := fr.fh _ _ (fr.ff _ _ he1)
      have he2' := fr.fh _ _ (fr.ff _ _ he2)
      have hb' := fr.fh _ _ (fr.ff _ _ hb)
      have eqn : ∀ {j : Nat}, nV i = nV j → i = j := fun z => by have := V.int.inj z; omega
      by_cases hin : i = n
      · -- the halyard asked for
        have hns : i ∉ s := fun z => (U.low i z).1 hin
        obtain ⟨h, hh1, hr1, hr2⟩ := U.at_n
        rw [← hin, ho'] at hh1
        obtain rfl : o' = some h := Option.some.inj hh1
        refine ⟨_, rfl, _, rfl, rfl, _, rfl, ite2 (fun _ => ?_) (fun c => absurd (decide_eq_true (by rw [hin])) c)⟩
        refine ⟨_, rfl, _, rfl, e2, _, _, x', rfl, rfl, SqL.of he2', at_of rfl hx', _, rfl, F', x', h, wo, fr.fh, rfl, (mo_L mo_C).up fr.ff hxo'.2, hr1, hwo.ok.2.1, hr2, fun F2 H2 fr2 => ⟨_, rfl, iteF ?_⟩⟩
        have he12 := fr2.fh _ _ (fr2.ff _ _ (fr.ff _ _ he1))
        refine ⟨_, rfl, _, rfl, inN (neg := false) he12 ⟨_, rfl, ite2 (fun c => absurd (of_decide_eq_true c) hns) (fun _ => iteF ?_)⟩⟩
        refine ⟨_, rfl, _, rfl, inN (neg := false) he12 ⟨_, rfl, ite2 (fun c => absurd (of_decide_eq_true c) hns) (fun _ => iteF ?_)⟩⟩
        refine ⟨_, rfl, _, rfl, rfl, _, rfl, ite2 (fun c => ?_) (fun _ => iteF ?_)⟩
        · rw [hin] at c
          simp at c
        · exact ⟨_, F2, rfl, fr.trans fr2⟩
      · have nn : ∀ c : Prop, decide (nV i = nV n) = true → c := fun _ c => absurd (eqn (of_decide_eq_true c)) hin
        by_cases his : i ∈ s
        · -- lowered
          obtain ⟨_, g, hg⟩ := U.low i his
          rw [ho] at hg
          obtain rfl : o = some g := Option.some.inj hg
          obtain ⟨h, hh1, hr1, hr2⟩ := U.at_low i his
          rw [ho'] at hh1
          obtain rfl : o' = some h := Option.some.inj hh1
          rw [hoistAt_eq ho] at hr1 hr2
          have okg := ok.ok g (List.mem_of_getElem? ho)
          refine ⟨_, rfl, _, rfl, rfl, _, rfl, ite2 (fun c => nn _ c) (fun _ => iteF ?_)⟩
          refine ⟨_, rfl, _, rfl, inN (neg := false) he1' ⟨_, rfl, ite2 (fun _ => ?_) (fun c => absurd (decide_eq_true his) c)⟩⟩
          refine ⟨_, rfl, _, rfl, rfl, _, rfl, ite2 (fun c => nn _ c) (fun _ => ?_)⟩
          refine ⟨_, rfl, _, rfl, b, _, _, x, rfl, rfl, SqL.of hb', at_of rfl hx, rfl, _, rfl, ?_⟩
          rw [decide_eq_false hxo.1]
          refine iteF ?_
          refine ⟨_, rfl, _, rfl, inN (neg := false) he1' ⟨_, rfl, ite2 (fun _ => ?_) (fun c => absurd (decide_eq_true his) c)⟩⟩
          refine ⟨_, rfl, _, rfl, e2, _, _, x', rfl, rfl, SqL.of he2', at_of rfl hx', _, rfl, _, rfl, b, _, _, x, rfl, rfl, SqL.of hb', at_of rfl hx, F', x, g, fr.fh, rfl, (mo_L mo_C).up fr.ff hxo.2, okg, fun H2 fr2 => ?_⟩
          refine ⟨F', x', h, readOf g, fr2.fh, rfl, (mo_L mo_C).up fr.ff hxo'.2, hr1, ?_, hr2, fun F3 H3 fr3 => ⟨_, rfl, iteF ?_⟩⟩
          · rw [read_len]; exact okg.most
          have fr23 := fr2.trans fr3
          have he13 := fr23.fh _ _ (fr23.ff _ _ (fr.ff _ _ he1))
          refine ⟨_, rfl, _, rfl, rfl, _, rfl, ite2 (fun _ => ?_) (fun _ => iteF ⟨_, F3, rfl, fr.trans fr23⟩)⟩
          refine ⟨_, rfl, _, rfl, inN (neg := true) he13 ⟨_, rfl, ite2 (fun c => ?_) (fun _ => iteF ⟨_, F3, rfl, fr.trans fr23⟩)⟩⟩
          simp [his] at c
        · -- left alone
          have hrest := U.rest i hi hin his
          rw [ho, ho'] at hrest
          obtain rfl : o' = o := Option.some.inj hrest
          refine ⟨_, rfl, _, rfl, rfl, _, rfl, ite2 (fun c => nn _ c) (fun _ => iteF ?_)⟩
          refine ⟨_, rfl, _, rfl, inN (neg := false) he1' ⟨_, rfl, ite2 (fun c => absurd (of_decide_eq_true c) his) (fun _ => iteF ?_)⟩⟩
          refine ⟨_, rfl, _, rfl, inN (neg := false) he1' ⟨_, rfl, ite2 (fun c => absurd (of_decide_eq_true c) his) (fun _ => iteF ?_)⟩⟩
          refine ⟨_, rfl, _, rfl, rfl, _, rfl, ite2 (fun _ => ?_) (fun _ => iteF ⟨_, F', rfl, fr⟩)⟩
          refine ⟨_, rfl, _, rfl, inN (neg := true) he1' ⟨_, rfl, ite2 (fun _ => ?_) (fun _ => iteF ⟨_, F', rfl, fr⟩)⟩⟩
          have fo : ∀ l, o' = some l → ∀ y ∈ l, isFlag y := fun l e y hy => hoist_flag (ok.ok l (by rw [← e]; exact List.mem_of_getElem? ho)) y hy
          refine ⟨_, rfl, _, rfl, e2, _, _, x', rfl, rfl, SqL.of he2', at_of rfl hx', _, rfl, _, rfl, b, _, _, x, rfl, rfl, SqL.of hb', at_of rfl hx, neD (dt_O dt_C) (by omega) fr.fh ((mo_O (mo_L mo_C)).up fr.ff hxo') ((mo_O (mo_L mo_C)).up fr.ff hxo) fo fo ⟨_, rfl, ite2 (fun c => ?_) (fun _ => ⟨_, F', rfl, fr⟩)⟩⟩
          simp at c
    · rintro σ H' ⟨v8, F', rfl, fr⟩
      refine ⟨_, rfl, b, _, rfl, .inl (SqL.of (fr.fh _ _ (fr.ff _ _ hb))), _, rfl, RgOk.of_le (by omega) (by omega) (by omega) (by omega), fun q0 nq0 => ?_⟩
      have erg : rgV 0 ((xs.length : Nat) : Int) = (List.range hs.length).map nV := by
        unfold rgV
        rw [lx]
        have : (((hs.length : Nat) : Int) - 0).toNat = hs.length := by omega
        rw [this]
        refine List.map_congr_left fun j _ => ?_
        show V.int (0 + (j : Int)) = V.int (j : Int)
        rw [Int.zero_add]
      rw [erg]
      have fr1 := fr.lay (o := .lst ((List.range hs.length).map nV)) nq0
      have hq0 : rL rN (upd F' q0 (.lst ((List.range hs.length).map nV))) (.ref q0) (List.range hs.length) := rL_mkN upd_same
      generalize upd F' q0 (.lst ((List.range hs.length).map nV)) = F1 at fr1 hq0
      generalize upd H' q0 (.lst ((List.range hs.length).map nV)) = H1 at fr1
      have he31 := fr1.fh _ _ (fr1.ff _ _ he3)
      have ldk : (dk left).length = left.length := List.length_map _
      have l27 := U.lok.len
      refine ⟨e3, _, he31, trivial, fun od => ?_⟩
      refine ⟨_, rfl, e3, od, rfl, .inl ⟨dk left, upd_same, fun D nD => ?_⟩⟩
      have nDe : D ≠ e3 := fun z => by rw [z, upd_same] at nD; cases nD
      have nD1 : H1 D = none := by rw [upd_ne nDe] at nD; exact nD
      refine lc_it walk_keys (fun i H7 => H7 = upd (upd H1 e3 (.frz od (.dK (dk left)))) D (.lst ((left.take i).map fun p => V.int p.2))) rfl ?_ ?_ ?_
      · rintro i H7 _ rfl
        rw [upd_ne nDe.symm, upd_same]
      · rintro i x H7 H8 hi rfl ⟨rfl, k, w', hk, rfl⟩
        have hk : (left.map fun p => ((kC p.1 : Key), V.int p.2))[i]? = some (k, w') := hk
        rw [List.getElem?_map] at hk
        cases hp : left[i]? with
        | none => rw [hp] at hk; cases hk
        | some p =>
        rw [hp] at hk
        have ek := Option.some.inj hk
        obtain rfl : kC p.1 = k := (Prod.mk.inj ek).1
        have hpm := List.mem_of_getElem? hp
        have hpos := U.pos p hpm
        have hlk := lk_of_mem U.lok.nd hpm
        have hd7 : upd (upd H1 e3 (.frz od (.dK (dk left)))) D (.lst ((left.take i).map fun p => V.int p.2)) e3 = some (.frz od (.dK (dk left))) := by
          rw [upd_ne nDe.symm, upd_same]
        refine ⟨rfl, ?_⟩
        refine ⟨_, rfl, _, rfl, e3, .int p.2, rfl, .inl ⟨dk left, kC p.1, .inr ⟨od, hd7⟩, rfl, ?_⟩, _, upd_same, ?_, ?_⟩
        · rw [dk_val (by rw [hlk]; omega), hlk]
        · rw [List.length_map, List.length_take]
          exact small1000 (by omega)
        · rw [upd_upd, take_snoc hp, List.map_append]
          rfl
      · rintro H7 rfl
        rw [ldk, List.take_length]
        refine ⟨by rw [upd_ne nDe.symm, upd_same], ?_⟩
        have eH : upd (upd (upd H1 e3 (.frz od (.dK (dk left)))) D (.lst (left.map fun p => V.int p.2))) e3 (.dK (dk left)) = upd H1 D (.lst (left.map fun p => V.int p.2)) := by
          funext z
          by_cases z1 : z = e3
          · rw [z1, upd_same, upd_ne nDe.symm, he31]
          · rw [upd_ne z1]
            by_cases z2 : z = D
            · rw [z2, upd_same, upd_same]
            · rw [upd_ne z2, upd_ne z1, upd_ne z2]
        rw [eH]
        have fr2 := fr1.new (o := .lst (left.map fun p => V.int p.2)) nD1
        have em : left.map (fun p => V.int p.2) = (left.map (·.2)).map V.int := by rw [List.map_map]; rfl
        have hD : upd H1 D (.lst (left.map fun p => V.int p.2)) D = some (.lst ((left.map (·.2)).map V.int)) := by rw [upd_same, em]
        generalize upd H1 D (.lst (left.map fun p => V.int p.2)) = H2 at fr2 hD
        refine ⟨D, left.map (·.2), 1, rfl, rfl, SqL.of hD, fun _ => ⟨_, _, rfl, rfl, _, rfl, ite2 (fun c => absurd (of_decide_eq_true c) (by decide)) (fun _ => ?_)⟩, fun m hm => ⟨_, _, rfl, rfl, _, rfl, ite2 (fun c => ?C) (fun _ => ?_)⟩⟩
        case C =>
          exfalso
          obtain ⟨p, hp, rfl⟩ := List.mem_map.mp hm
          have h1 := U.pos p hp
          have h2 : p.2 < 1 := of_decide_eq_true c
          omega
        all_goals
          have rl : ∀ k ∈ List.range hs.length, k < hs.length := fun k hk => List.mem_range.mp hk
          refine ⟨_, rfl, _, rfl, _, rfl, F1, .ref e3, .ref e2, .ref q0, left, bs, List.range hs.length, fr2.fh, rfl, mo_D.up fr1.ff hx30, U.lok, mo_Hal.up fr1.ff hx20, U.bok, hq0, (fun k hk => by rw [ubl]; exact rl k hk), fun F3 H3 v3 fr3 hv3 => ?_⟩
          have s3 := fr1.ff.trans fr3.ff
          refine ⟨_, rfl, _, rfl, _, rfl, F3, v, .ref b, .ref q0, kvs, hs, List.range hs.length, fr3.fh, rfl, mo_D.up s3 hv, lok, mo_Hal.up s3 hh0, ok, (mo_L mo_N).up fr3.ff hq0, rl, fun F4 H4 v4 fr4 hv4 => ?_⟩
          refine ⟨F4, v3, v4, _, _, fr4.fh, rfl, mo_D.up fr4.ff hv3, hv4, U.same, fun F5 H5 fr5 => ?_⟩
          exact q F5 H5 (((fr2.trans fr3).trans fr4).trans fr5)
end
end Fl

/-! FlHung -/
/-! What was hauled is what the law asks. -/
namespace Fl
open PySem L2
theorem fm_congr {α β : Type} {f g : α → List β} : ∀ {l : List α}, (∀ k ∈ l, f k = g k) → l.flatMap f = l.flatMap g
  | [], _ => rfl
  | a :: l, h => by
    rw [List.flatMap_cons, List.flatMap_cons, h a (by simp), fm_congr fun k hk => h k (List.mem_cons_of_mem _ hk)]
theorem wants_at : ∀ (ws : List (List Nat)) (n i p : Nat) (w : List Nat), ws[i]? = some w → p < w.length → (wantsFrom n ws)[lens (ws.take i) + p]? = some (n + i, p + 1)
  | [], n, i, p, w, h, _ => by simp at h
  | v :: ws, n, 0, p, w, h, hp => by
    have e : v = w := Option.some.inj h
    subst e
    show (((List.range v.length).map fun p => (n, p + 1)) ++ wantsFrom (n + 1) ws)[lens [] + p]? = _
    rw [show lens [] = 0 from rfl, Nat.zero_add, List.getElem?_append_left (by rw [List.length_map, List.length_range]; exact hp), List.getElem?_map, List.getElem?_range hp]
    rfl
  | v :: ws, n, i + 1, p, w, h, hp => by
    have h' : ws[i]? = some w := h
    have ih := wants_at ws (n + 1) i p w h' hp
    show (((List.range v.length).map fun p => (n, p + 1)) ++ wantsFrom (n + 1) ws)[lens (v :: ws.take i) + p]? = _
    have e : lens (v :: ws.take i) = v.length + lens (ws.take i) := by simp [lens]
    rw [e, List.getElem?_append_right (by rw [List.length_map, List.length_range]; omega), List.length_map, List.length_range]
    rw [show v.length + lens (ws.take i) + p - v.length = lens (ws.take i) + p by omega, ih]
    congr 2
    omega
theorem cut_at : ∀ (ws : List (List Nat)) (fl : List Nat) (i : Nat) (w : List Nat), ws[i]? = some w → (cutBy ws fl)[i]? = some ((fl.drop (lens (ws.take i))).take w.length)
  | [], _, i, w, h => by simp at h
  | v :: ws, fl, 0, w, h => by
    have e : v = w := Option.some.inj h
    subst e
    rfl
  | v :: ws, fl, i + 1, w, h => by
    have h' : ws[i]? = some w := h
    have ih := cut_at ws (fl.drop v.length) i w h'
    show (cutBy ws (fl.drop v.length))[i]? = _
    rw [ih, List.drop_drop]
    have e : lens ((v :: ws).take (i + 1)) = v.length + lens (ws.take i) := by simp [lens]
    rw [e]
theorem reads_at {ws : List (List Nat)} {L : Nat → Int} {g : List Nat} (hg : Hangs (chOf ws) L g) {i : Nat} {w : List Nat} (h : ws[i]? = some w) : ∃ o, (cutBy ws g)[i]? = some o ∧ Reads o w := by
  refine ⟨_, cut_at ws g i w h, ?_, fun p c hc => ?_⟩
  · have l1 := hangs_len hg
    have l2 := lens_take h
    have l3 := lens_le ws (i + 1)
    rw [List.length_take, List.length_drop]
    omega
  · have hp : p < w.length := by
      have := (List.getElem?_eq_some_iff.mp hc).1
      rw [List.length_take] at this
      omega
    rw [List.getElem?_take, if_pos hp, List.getElem?_drop] at hc
    obtain ⟨cs, e1, e2⟩ := hg.inc _ _ hc
    unfold chOf at e1
    have hw : (wantsOf ws)[lens (ws.take i) + p]? = some (0 + i, p + 1) := wants_at ws 0 i p w h hp
    rw [Nat.zero_add] at hw
    rw [List.getElem?_map, hw] at e1
    have e3 : chAt ws (i, p + 1) = cs := Option.some.inj e1
    rw [chAt_eq h] at e3
    rw [e3]
    exact e2
theorem behind_other : ∀ (ps : List (Nat × List Nat)) (hs : List (Option (List Nat))) (k : Nat), k ∉ ps.map (·.1) → (behindOf hs ps)[k]? = hs[k]?
  | [], _, _, _ => rfl
  | p :: ps, hs, k, h => by
    rw [List.map_cons, List.mem_cons, not_or] at h
    show (behindOf (hs.set p.1 (some p.2)) ps)[k]? = _
    rw [behind_other ps _ k h.2, List.getElem?_set_ne (fun z => h.1 z.symm)]
theorem behind_at : ∀ (ps : List (Nat × List Nat)) (hs : List (Option (List Nat))) (k : Nat) (h : List Nat), (ps.map (·.1)).Nodup → (k, h) ∈ ps → k < hs.length → (behindOf hs ps)[k]? = some (some h)
  | [], _, _, _, _, hm, _ => by cases hm
  | p :: ps, hs, k, h, nd, hm, hk => by
    rw [List.map_cons, List.nodup_cons] at nd
    show (behindOf (hs.set p.1 (some p.2)) ps)[k]? = _
    rcases List.mem_cons.mp hm with e | e
    · subst e
      rw [behind_other ps _ k nd.1, List.getElem?_set_self hk]
    · exact behind_at ps _ k h nd.2 e (by rw [List.length_set]; exact hk)
theorem reads_ok {h l : List Nat} (r : Reads h l) (l1 : 1 ≤ l.length) (l7 : l.length ≤ 7) (hl : ∀ c ∈ l, isLet c) : HoistOk h := by
  refine ⟨by rw [r.1]; exact l1, by rw [r.1]; exact l7, fun i c hc => ?_⟩
  have hi : i < l.length := by
    have := (List.getElem?_eq_some_iff.mp hc).1
    rw [r.1] at this
    exact this
  rcases List.mem_cons.mp (r.2 i c hc) with e | e
  · left
    refine hl c ?_
    rw [e, Nat.add_sub_cancel, List.getD_eq_getElem?_getD, List.getElem?_eq_getElem hi]
    exact List.getElem_mem hi
  · right
    unfold subs at e
    obtain ⟨m, hm, rfl⟩ := List.mem_map.mp e
    obtain ⟨m1, m2⟩ := List.mem_filter.mp hm
    rw [Bool.and_eq_true] at m2
    have m3 := of_decide_eq_true m2.1
    simp only [List.mem_cons, List.not_mem_nil, or_false] at m1
    unfold isSub
    omega
theorem hung_ok {kvs : List (Nat × Int)} {hs : List (Option (List Nat))} {n : Nat} {wo s g : List Nat} (lok : LockOk kvs) (ok : HalOk hs) (hn : n < hs.length) (hwo : Word7 wo) (so : SetOk hs n s)
    (hg : Hangs (chOf (wordsW hs wo s)) (lk (poolW kvs hs n s)) g) : HungOk kvs hs n wo s (hauledTo kvs hs n wo s g).2.1 (hauledTo kvs hs n wo s g).2.2 := by
  have wok : WordsOk (wordsW hs wo s) := wordsW_ok ok hwo.ok (by have := so.len; omega) fun k hk => (so.at_ k hk).2
  have pok : LockOk (poolW kvs hs n s) := putIn_ok lok (flagsOf_flag ok _)
  have gfl := hangs_flag wok hg
  show HungOk kvs hs n wo s (behindOf hs ((n :: s).zip (cutBy (wordsW hs wo s) g))) (takeL (poolW kvs hs n s) g)
  have hlen : (cutBy (wordsW hs wo s) g).length = (n :: s).length := by
    rw [cut_len]
    unfold wordsW
    rw [List.length_cons, List.length_map, List.length_cons]
  have kz : ((n :: s).zip (cutBy (wordsW hs wo s) g)).map (·.1) = n :: s := List.map_fst_zip (by omega)
  have nds : (n :: s).Nodup := List.nodup_cons.mpr ⟨fun z => (so.at_ n z).1 rfl, so.nd⟩
  have klt : ∀ k ∈ n :: s, k < hs.length := fun k hk => by
    rcases List.mem_cons.mp hk with e | e
    · rw [e]; exact hn
    · exact so.lt e
  -- the hoist at the i-th number
  have at_i : ∀ i k w, (n :: s)[i]? = some k → (wordsW hs wo s)[i]? = some w → ∃ o, (cutBy (wordsW hs wo s) g)[i]? = some o ∧ Reads o w ∧ (behindOf hs ((n :: s).zip (cutBy (wordsW hs wo s) g)))[k]? = some (some o) := fun i k w hk hw => by
    obtain ⟨o, ho, hr⟩ := reads_at hg hw
    refine ⟨o, ho, hr, behind_at _ _ _ _ (by rw [kz]; exact nds) ?_ (klt k (List.mem_of_getElem? hk))⟩
    exact List.mem_of_getElem? (i := i) (List.getElem?_zip_eq_some.mpr ⟨hk, ho⟩)
  have at_s : ∀ k ∈ s, ∃ h, (behindOf hs ((n :: s).zip (cutBy (wordsW hs wo s) g)))[k]? = some (some h) ∧ Reads h (readOf (hoistAt hs k)) := fun k hk => by
    obtain ⟨i, hi, e⟩ := List.getElem_of_mem hk
    have e1 : s[i]? = some k := by rw [List.getElem?_eq_getElem hi, e]
    obtain ⟨o, _, hr, hb⟩ := at_i (i + 1) k (readOf (hoistAt hs k)) e1 (by
      show (s.map fun k => readOf (hoistAt hs k))[i]? = _
      rw [List.getElem?_map, e1]
      rfl)
    exact ⟨o, hb, hr⟩
  have at_n : ∃ h, (behindOf hs ((n :: s).zip (cutBy (wordsW hs wo s) g)))[n]? = some (some h) ∧ Reads h wo := by
    obtain ⟨o, _, hr, hb⟩ := at_i 0 n wo rfl rfl
    exact ⟨o, hb, hr⟩
  have rest : ∀ k, k ∉ n :: s → (behindOf hs ((n :: s).zip (cutBy (wordsW hs wo s) g)))[k]? = hs[k]? := fun k hk => behind_other _ _ _ (by rw [kz]; exact hk)
  generalize hB : behindOf hs ((n :: s).zip (cutBy (wordsW hs wo s) g)) = bs at at_i at_s at_n rest
  have bl : bs.length = hs.length := by rw [← hB, behind_len]
  have bok : HalOk bs := by
    refine ⟨by rw [bl]; exact ok.few, fun h hm => ?_⟩
    obtain ⟨k, hk, e⟩ := List.getElem_of_mem hm
    have e1 : bs[k]? = some (some h) := by rw [List.getElem?_eq_getElem hk, e]
    by_cases c : k = n
    · obtain ⟨o, ho, hr⟩ := at_n
      rw [← c, e1] at ho
      obtain rfl : h = o := Option.some.inj (Option.some.inj ho)
      exact reads_ok hr hwo.ok.1 hwo.ok.2.1 hwo.ok.2.2
    · by_cases c2 : k ∈ s
      · obtain ⟨o, ho, hr⟩ := at_s k c2
        rw [e1] at ho
        obtain rfl : h = o := Option.some.inj (Option.some.inj ho)
        obtain ⟨_, x, hx⟩ := so.at_ k c2
        rw [hoistAt_eq hx] at hr
        have okx := ok.ok x (List.mem_of_getElem? hx)
        exact reads_ok hr (by rw [read_len]; exact okx.pos) (by rw [read_len]; exact okx.most) (read_letters okx)
      · rw [rest k (fun z => by rcases List.mem_cons.mp z with y | y; exact c y; exact c2 y)] at e1
        exact ok.ok h (List.mem_of_getElem? e1)
  refine ⟨bl, fun k hk => so.at_ k hk, at_n, at_s, fun k _ h1 h2 => rest k fun z => by rcases List.mem_cons.mp z with y | y; exact h1 y; exact h2 y, fun p hp => by have := plain_pos p hp; omega, takeL_ok pok gfl hg.le, bok, fun c _ => ?_⟩
  -- no flag is lost
  rw [lk_addAll, lk_addAll, lk_takeL pok gfl hg.le]
  unfold poolW
  rw [lk_putIn lok (flagsOf_flag ok _)]
  have pick : bs.length = hs.length := bl
  have split : ∀ xs : List (Option (List Nat)), (flagsOf xs (List.range hs.length)).count c = (flagsOf xs (n :: s)).count c + (flagsOf xs ((List.range hs.length).filter fun k => decide (k ∉ n :: s))).count c := fun xs => by
    have p : (List.range hs.length).Perm ((n :: s) ++ (List.range hs.length).filter fun k => decide (k ∉ n :: s)) := by
      refine perm_of_mem List.nodup_range ?_ fun x => ?_
      · rw [List.nodup_append]
        refine ⟨nds, List.nodup_range.filter _, fun a ha b hb e => ?_⟩
        have := of_decide_eq_true (List.mem_filter.mp hb).2
        exact this (e ▸ ha)
      · rw [List.mem_append, List.mem_filter, List.mem_range]
        constructor
        · intro hx
          by_cases c : x ∈ n :: s
          · exact .inl c
          · exact .inr ⟨hx, decide_eq_true c⟩
        · rintro (hx | hx)
          · exact klt x hx
          · exact hx.1
    have q : (flagsOf xs (List.range hs.length)).Perm (flagsOf xs ((n :: s) ++ (List.range hs.length).filter fun k => decide (k ∉ n :: s))) := p.flatMap_right _
    rw [q.count_eq]
    unfold flagsOf
    rw [List.flatMap_append, List.count_append]
  have same : flagsOf bs ((List.range hs.length).filter fun k => decide (k ∉ n :: s)) = flagsOf hs ((List.range hs.length).filter fun k => decide (k ∉ n :: s)) := by
    unfold flagsOf
    refine fm_congr fun k hk => ?_
    have := of_decide_eq_true (List.mem_filter.mp hk).2
    unfold hoistAt
    rw [List.getD_eq_getElem?_getD, List.getD_eq_getElem?_getD, rest k this]
  have new : flagsOf bs (n :: s) = g := by
    have e1 : (n :: s).map (hoistAt bs) = cutBy (wordsW hs wo s) g := by
      refine List.ext_getElem? fun i => ?_
      rw [List.getElem?_map]
      cases hk : (n :: s)[i]? with
      | none =>
        have h1 := List.getElem?_eq_none_iff.mp hk
        rw [List.getElem?_eq_none (by omega)]
        rfl
      | some k =>
        have hi := (List.getElem?_eq_some_iff.mp hk).1
        have hwl : (wordsW hs wo s).length = (n :: s).length := by
          unfold wordsW
          rw [List.length_cons, List.length_map, List.length_cons]
        obtain ⟨w, hw⟩ : ∃ w, (wordsW hs wo s)[i]? = some w := ⟨_, List.getElem?_eq_getElem (by omega)⟩
        obtain ⟨o, ho, _, hb⟩ := at_i i k w hk hw
        rw [ho]
        show some (hoistAt bs k) = _
        rw [hoistAt_eq hb]
    unfold flagsOf
    rw [List.flatMap_def, e1]
    exact cut_flat (hangs_len hg)
  rw [split bs, split hs, same, new]
  omega
end Fl

/-! DefLawPapers -/
namespace Fl
open PySem L2
theorem range6 {hs : List (Option (List Nat))} (ok : HalOk hs) (n : Nat) : othersOf hs n ∈ setsOf (List.range 6) := by
  refine sets_mem.mpr ((others_sub hs n).trans ?_)
  have : List.range hs.length = (List.range 6).take hs.length := by
    rw [List.take_range, Nat.min_eq_left ok.few]
  rw [this]
  exact List.take_sublist _ _
theorem pool_lk {kvs : List (Nat × Int)} {hs : List (Option (List Nat))} (lok : LockOk kvs) (ok : HalOk hs) (n : Nat) (t : List Nat) : lk (poolW kvs hs n t) = lk (addAll kvs (flagsOf hs (n :: t))) := by
  funext c
  unfold poolW
  rw [lk_putIn lok (flagsOf_flag ok _), lk_addAll]
section
variable {P : Program} {w : World} {K : PySem.W.Frag} {mg : PySem.Str → Option Value} {base : Heap} {tbs : List (Addr × PySem.Str)}
abbrev s_law_papers : Stmt := top 53
abbrev N_law_papers : List PySem.Str := ["_law_locker_here", "_law_halyards", "_law_number", "_law_word_here", "_law_lowered", "_law_others_here", "_law_sets_here", "_law_papers_here", "_law_one", "_law_wants", "_law_flags", "_law_words", "_law_paper", "_law_k"]
theorem sc_law_papers : FnScope N_law_papers ["_law_locker_here", "_law_halyards", "_law_number", "_law_word_here", "_law_lowered"] (defScope s_law_papers) := ⟨rfl, rfl, rfl, by decide +kernel, rfl, by decide +kernel, by decide +kernel⟩
def spLPapers (tbs : List (Addr × PySem.Str)) : Sp := fun vs H Q _ => ∃ (v u z : V) (kvs : List (Nat × Int)) (hs : List (Option (List Nat))) (n : Nat) (wo : List Nat) (pre : List (List Nat)) (s : List Nat), vs = [v, u, nV n, .str (wd wo), z] ∧ LamX.Tabs tbs H ∧
  rD (nt H) v kvs ∧ LockOk kvs ∧ rHal (nt H) u hs ∧ HalOk hs ∧ n < hs.length ∧ Word7 wo ∧ rL rN (nt H) z s ∧ Low kvs hs n wo pre s ∧ Can (chOf (wordsW hs wo s)) (lk (poolW kvs hs n s)) ∧ ∀ H', Kp tbs H H' → Q (.bl true) H'
theorem ok_law_papers {f C : Addr} {fd : FuncData} (Fu : Fun K "_law_papers" "_law_papers" s_law_papers f fd) (T : Txt K mg) (C_law_others : Cf P w K mg base 1 "_law_others" (spOthers tbs)) (C_law_sets : Cf P w K mg base 4 "_law_sets" (spLSets tbs)) (C_hauling_papers : Cf P w K mg base 9 "hauling_papers" (spPapers tbs C))
    (C_law_read : Cf P w K mg base 1 "_law_read" (spReadOf tbs)) (C_law_with : Cf P w K mg base 1 "_law_with" (spLWith tbs)) (C_law_lack : Cf P w K mg base 2 "_law_lack" (spLLack tbs)) :
    FnOk P w K mg base L2.CX0 10 f fd ["_law_locker_here", "_law_halyards", "_law_number", "_law_word_here", "_law_lowered"] (spLPapers tbs) := by
  refine Fu.ok sc_law_papers (fun vs H Q E h => ?_) (fun cdv A outer s H vs Q E hr h => ?_)
  · obtain ⟨v, u, z, kvs, hs, n, wo, pre, s, rfl, _⟩ := h
    rfl
  · obtain ⟨v, u, z, kvs, hs, n, wo, pre, lw, rfl, hT, hv, lok, hh, ok, hn, hwo, hz, hlow, hcan, q⟩ := h
    have hu65 : (A.deeper (PyProof.Rows.envOfC "_law_papers" (defScope s_law_papers) s.heap.objs.size f cdv)).units + 65 < cLine := by have := hr.un; omega
    refine ⟨_, 
      (pss_cons (ps_set (i := 5) sc_law_papers.nd rfl (Or.inl rfl) (pe_cf C_law_others hr (by decide) (by rfl) (pa_cons (pv 1) (pa_cons (pv 2) pa_nil))))
      (pss_cons (ps_set (i := 6) sc_law_papers.nd rfl (Or.inl rfl) (pe_cf C_law_sets hr (by decide) (by rfl) (pa_cons (pv 5) pa_nil)))
      (pss_cons (ps_if (pt_cmpR (op_notInD hu65) (pv 4) (pv 6) (by rfl))
        (pss_one (ps_ret pe_bl)) pss_nil)
      (pss_cons (ps_set (i := 6) sc_law_papers.nd rfl (Or.inl rfl) (pe_slice sl_list (pv 6) po_none (po_some (pe_bm PySem.F.plainAttrs_list PySem.F.slot_list_index PySem.F.type_list_index (mt_indexD hu65) (pv 6) (pa_cons (pv 4) pa_nil)))))
      (pss_cons (ps_set (i := 7) sc_law_papers.nd rfl (Or.inl rfl) (pe_cf C_hauling_papers hr (by decide) (by rfl) (pa_cons (pv 0) (pa_cons (pv 1) (pa_cons (pv 2) (pa_cons (pv 3) pa_nil))))))
      (pss_cons (ps_if (PW.pt (pw_or (pt_not (pt_val (pe_callB call_isi (by rfl) T.b_isinstance (by decide +kernel) (pa_cons (pv 7) (pa_cons (pe_bltn (v := .ty "list") (u := .type "list") (by rfl) T.b_list (by decide +kernel) rfl) pa_nil))))) (pw_or1 (pt_cmpR (op_neD hr.units) (pe_lc (own := ([("_law_paper", 12)] : List (PySem.Str × Nat))) rfl sc_law_papers.nd (pi_list (pv 7)) (blkOk_by (own := ([("_law_paper", 12)] : List (PySem.Str × Nat))) (N := N_law_papers) (sc := defScope s_law_papers) (by decide +kernel)) (fun _ _ _ _ _ => (pg_name (i := 12) sc_law_papers.nd rfl (Or.inl rfl))) (fun _ _ _ _ _ => pts_nil) (fun _ _ _ _ _ => (pe_ix (ix_tupK K) (pv 12) pe_int (fun _ _ => rfl)))) (pv 6) (nomark _)))))
        (pss_one (ps_ret pe_bl)) pss_nil)
      (pss_cons (ps_for PassesOwn.never rfl (pi_list (pv 7)) (pg_tup rfl (pgs_cons (pg_name (i := 8) sc_law_papers.nd rfl (Or.inl rfl)) (pgs_cons (pg_name (i := 9) sc_law_papers.nd rfl (Or.inl rfl)) (pgs_cons (pg_name (i := 10) sc_law_papers.nd rfl (Or.inl rfl)) pgs_nil))))
        (pss_cons (ps_set (i := 11) sc_law_papers.nd rfl (Or.inl rfl) (pe_op op_cat (pe_lst (pa_cons (pv 3) pa_nil)) (pe_lc (own := ([("_law_k", 13)] : List (PySem.Str × Nat))) rfl sc_law_papers.nd (pi_list (pv 8)) (blkOk_by (own := ([("_law_k", 13)] : List (PySem.Str × Nat))) (N := N_law_papers) (sc := defScope s_law_papers) (by decide +kernel)) (fun _ _ _ _ _ => (pg_name (i := 13) sc_law_papers.nd rfl (Or.inl rfl))) (fun _ _ _ _ _ => pts_nil) (fun _ _ _ _ _ => (pe_cf C_law_read hr (by decide) (by rfl) (pa_cons (pe_ix (ix_listK K) (pv 1) (pv 13) (fun _ _ => rfl)) pa_nil))))))
        (pss_one (ps_if (pt_not (pt_val (pe_cf C_law_lack hr (by decide) (by rfl) (pa_cons (pe_cf C_law_with hr (by decide) (by rfl) (pa_cons (pv 0) (pa_cons (pv 1) (pa_cons (pe_op op_cat (pe_lst (pa_cons (pv 2) pa_nil)) (pv 8)) pa_nil)))) (pa_cons (pv 11) (pa_cons (pv 9) (pa_cons (pv 10) pa_nil)))))))
          (pss_one (ps_ret pe_bl)) pss_nil))))
      (pss_one (ps_ret pe_bl))))))))), ?_⟩
    -- others
    refine ⟨_, rfl, _, rfl, nt H, u, hs, n, nt_same H, rfl, hh, ok, fun F1 H1 vo fr1 hvo => ?_⟩
    have hvo1 := to_nt (mo_L mo_N) (nt_L nt_N) fr1.fh hvo
    -- sets
    refine ⟨_, rfl, vo, othersOf hs n, rfl, fr1.kp.tb hT, hvo1, range6 ok n, fun H2 vS kp2 hvS => ?_⟩
    have kp := fr1.kp.trans kp2
    have hv2 := Nt.kp mo_D kp hv
    have hh2 := Nt.kp mo_Hal kp hh
    have hz2 := Nt.kp (mo_L mo_N) kp hz
    clear hvo hvo1 fr1 kp2 hv hh hz
    have q2 : ∀ H', Kp tbs H2 H' → Q (.bl true) H' := fun H' k => q H' (kp.trans k)
    have lmem := hlow.mem
    obtain ⟨post, epost⟩ := hlow.e
    have hS0 := hvS
    obtain ⟨b, ys, rfl, hb, alb⟩ := hvS
    have h5 := others_len ok hn
    have l192 := sets_len h5
    refine ⟨_, rfl, _, rfl, notInD (dt_L dt_N) (by omega) (nt_same H2) hz2 hS0 (fun _ _ => trivial) (fun _ _ _ _ => trivial) ⟨_, rfl, ite2 (fun c => ?_) (fun _ => ?_)⟩⟩
    · simp [lmem] at c
    have lys := alb.len
    have hb2 : H2 b = some (.lst ys) := nt_same H2 _ _ hb
    have ipre : (setsOf (othersOf hs n))[pre.length]? = some lw := by
      rw [epost, List.getElem?_append_right (Nat.le_refl _), Nat.sub_self]
      rfl
    have lpre : pre.length < (setsOf (othersOf hs n)).length := (List.getElem?_eq_some_iff.mp ipre).1
    have D2 := dt_L (K := K) dt_N
    refine ⟨_, rfl, _, rfl, .inl ⟨rfl, _, SqL.of hb2⟩, _, rfl, b, z, _, _, pre.length, (PyData.list (lw.map fun n : Nat => PyData.int (n : Int))), rfl, rfl, (dt_L D2).dp (nt_same H2) hS0, D2.dp (nt_same H2) hz2, (dt_L D2).shaped (by omega) (fun _ _ _ _ => trivial), D2.shaped (by omega) (fun _ _ => trivial), ?_, ?_, ?_, _, rfl, b, _, rfl, SqL.of hb2, fun p np => ?_⟩
    · rw [List.getElem?_map, ipre]; rfl
    · rw [D2.eqv]; exact decide_eq_true rfl
    · intro m z' hm hz'
      rw [List.getElem?_map, epost, List.getElem?_append_left hm] at hz'
      cases hmm : pre[m]? with
      | none => rw [hmm] at hz'; cases hz'
      | some t0 =>
        rw [hmm] at hz'
        obtain rfl := Option.some.inj hz'
        rw [D2.eqv]
        refine decide_eq_false fun e => ?_
        subst e
        exact hlow.no t0 (List.mem_of_getElem? hmm) hlow.yes
    have ec : cutV ys none (some ((pre.length : Nat) : Int)) = ys.take pre.length := cut_head rfl (by omega)
    rw [ec]
    have fr3 := (Fr.begin (T := tbs) (nt_same H2)).lay (o := .lst (ys.take pre.length)) np
    have s3 := same_upd (o := .lst (ys.take pre.length)) ((Fr.begin (T := tbs) (nt_same H2)).free np).1
    have hp3 : rL (rL rN) (upd (nt H2) p (.lst (ys.take pre.length))) (.ref p) pre := by
      refine ⟨p, _, rfl, upd_same, ?_⟩
      have := (mo_L mo_N).al s3 (Al.take pre.length alb)
      rw [epost, List.take_left] at this
      exact this
    generalize upd (nt H2) p (.lst (ys.take pre.length)) = F3 at fr3 s3 hp3
    generalize upd H2 p (.lst (ys.take pre.length)) = H3 at fr3
    have hv3 := mo_D.up s3 hv2
    have hh3 := mo_Hal.up s3 hh2
    -- the papers
    refine ⟨_, rfl, _, rfl, _, rfl, _, rfl, F3, v, u, kvs, hs, n, wo, pre, lw, fr3.fh, rfl, hv3, lok, hh3, ok, hn, hwo, hlow, hcan, fun ps hps F4 H4 vp fr4 hvp => ?_⟩
    obtain ⟨e, zs, rfl, he, alz⟩ := hvp
    have fr34 := fr3.trans fr4
    have lzs : zs.length ≤ 192 := by
      rw [alz.len]
      have := congrArg List.length hps.1
      rw [List.length_map] at this
      omega
    refine ⟨_, rfl, _, _, _, _, true, rfl, .ty _, .base (.lst (fr4.fh _ _ he)), kit_ty (by decide +kernel), _, rfl, iteF ?_⟩
    refine ⟨_, rfl, e, rfl, ⟨_, SqL.of (fr4.fh _ _ he)⟩, fun D nD => lc_list (K := K) (a := e) (xs := zs) (fun i H5 => ∃ ws, Fr tbs F4 H4 F4 H5 ∧ Own H4 F4 H5 D (.lst ws) ∧ Al (rL rN F4) ws ((ps.map (·.1)).take i)) ?_ ?_ ?_ ?_⟩
    · exact ⟨[], (Fr.begin fr4.fh).new nD, (Fr.begin (T := tbs) fr4.fh).own nD, by rw [List.take_zero]; trivial⟩
    · rintro i H5 _ ⟨_, fr, _⟩
      exact SqL.of (fr.fh _ _ he)
    · rintro i x H5 hx ⟨ws, fr, ow, alw⟩
      obtain ⟨t, ht, a, y1, y2, y3, rfl, ha, h1, h2, h3⟩ := alz.get hx
      have hi := (List.getElem?_eq_some_iff.mp hx).1
      refine ⟨rfl, ?_⟩
      refine ⟨_, rfl, a, _, _, y1, rfl, rfl, SqT.of (fr.fh _ _ ha), at_of (j := 0) rfl rfl, ws, ow.at_, ?_, ws ++ [y1], fr.put ow trivial, ow.put, ?_⟩
      · rw [alw.len, List.length_take]
        exact small1000 (by omega)
      · have hm : (ps.map (·.1))[i]? = some t.1 := by rw [List.getElem?_map, ht]; rfl
        rw [take_snoc hm]
        exact alw.snoc h1
    · rintro H5 ⟨ws, fr, ow, alw⟩
      have elen : zs.length = (ps.map (·.1)).length := by rw [List.length_map]; exact alz.len
      rw [elen, List.take_length, hps.1] at alw
      have fr5 := fr34.trans (fr.freeze ow)
      have s45 := same_upd (o := .lst ws) ow.f
      have hD5 : rL (rL rN) (upd F4 D (.lst ws)) (.ref D) pre := ⟨D, ws, rfl, upd_same, (mo_L mo_N).al s45 alw⟩
      generalize upd F4 D (.lst ws) = F5 at fr5 s45 hD5
      have s35 := fr4.ff.trans s45
      refine ⟨_, rfl, neD (dt_L (dt_L dt_N)) (by omega) fr5.fh hD5 ((mo_L (mo_L mo_N)).up s35 hp3) (fun _ _ _ _ => trivial) (fun _ _ _ _ => trivial) ⟨_, rfl, ite2 (fun c => ?_) (fun _ => ?_)⟩⟩
      · simp at c
      have hv5 := mo_D.up s35 hv3
      have hh5 := mo_Hal.up s35 hh3
      have alz5 := mo_Paper.al s45 alz
      have he5 := s45 _ _ he
      -- each paper
      refine ⟨_, rfl, e, rfl, ⟨_, SqL.of (fr5.fh _ _ he5)⟩, for_list (K := K) (a := e) (xs := zs) (fun i σ H6 => ∃ v8 v9 v10 v11 F6, σ = [some v, some u, some (nV n), some (.str (wd wo)), some z, some vo, some (.ref p), some (.ref e), v8, v9, v10, v11, none, none] ∧ Fr tbs (nt H2) H2 F6 H6 ∧ L2.Same F5 F6) ?_ ?_ ?_ ?_⟩
      · exact ⟨none, none, none, none, F5, rfl, fr5, .refl _⟩
      · rintro i σ H6 _ ⟨_, _, _, _, F6, _, fr6, s6⟩
        exact SqL.of (fr6.fh _ _ (s6 _ _ he5))
      · rintro i x σ H6 hx ⟨v8, v9, v10, v11, F6, rfl, fr6, s6⟩
        obtain ⟨⟨t, W, G⟩, ht, a, y1, y2, y3, rfl, ha, h1, h2, h3⟩ := alz5.get hx
        have h1 : rL rN F5 y1 t := h1
        have h2 : rL rWant F5 y2 W := h2
        have h3 : rL rC F5 y3 G := h3
        have htm := List.mem_of_getElem? ht
        have hlp : LackP (wordsW hs wo t) (lk (poolW kvs hs n t)) W G := hps.2 _ htm
        have tpre : t ∈ pre := by rw [← hps.1]; exact List.mem_map.mpr ⟨_, htm, rfl⟩
        have so := set_ok ok hn (t := t) (by rw [epost]; exact List.mem_append_left _ tpre)
        have wok : WordsOk (wordsW hs wo t) := wordsW_ok ok hwo.ok (by have := so.len; omega) fun k hk => (so.at_ k hk).2
        have lt5 := so.len
        obtain ⟨g, rfl, hg⟩ := rL_N h1
        obtain ⟨hq, xs, rfl, hhq, alh⟩ := hh5
        have hlt : ∀ k ∈ n :: t, k < hs.length := fun k hk => by
          rcases List.mem_cons.mp hk with e | e
          · rw [e]; exact hn
          · exact so.lt e
        refine ⟨a, _, rfl, SqT.of (fr6.fh _ _ (s6 _ _ ha)), rfl, _, _, rfl, _, _, rfl, _, _, rfl, rfl, ?_⟩
        -- the words
        refine ⟨_, rfl, small7 (by show 1 ≤ 7; omega), fun p1 np1 => ?_⟩
        have fr7 := fr6.new (o := .lst [.str (wd wo)]) np1
        have ow7 := fr6.own (o := .lst [.str (wd wo)]) np1
        refine ⟨_, rfl, g, rfl, ⟨_, SqL.of (fr7.fh _ _ (s6 _ _ hg))⟩, fun D2 nD2 => ?_⟩
        have npD : p1 ≠ D2 := ne_of_none ow7.at_ nD2
        refine lc_list (K := K) (a := g) (xs := t.map nV) (fun i H8 => Fr tbs (nt H2) H2 F6 H8 ∧ Own H2 F6 H8 p1 (.lst [.str (wd wo)]) ∧ Own H2 F6 H8 D2 (.lst ((t.take i).map fun k => V.str (wd (readOf (hoistAt hs k)))))) ?_ ?_ ?_ ?_
        · exact ⟨fr7.new nD2, ow7.new nD2, fr7.own nD2⟩
        · rintro i H8 _ ⟨fr, _⟩
          exact SqL.of (fr.fh _ _ (s6 _ _ hg))
        · rintro i x H8 hx ⟨fr, owp, ow⟩
          rw [List.getElem?_map] at hx
          cases hc : t[i]? with
          | none => rw [hc] at hx; cases hx
          | some k =>
          rw [hc] at hx
          obtain rfl : nV k = x := Option.some.inj hx
          obtain ⟨_, h, hh⟩ := so.at_ k (List.mem_of_getElem? hc)
          obtain ⟨y, hy, hyo⟩ := alh.at hh
          have okh := ok.ok h (List.mem_of_getElem? hh)
          refine ⟨rfl, ?_⟩
          refine ⟨_, rfl, _, rfl, hq, _, _, y, rfl, rfl, SqL.of (fr.fh _ _ (s6 _ _ hhq)), at_of rfl hy, F6, y, h, fr.fh, rfl, (mo_L mo_C).up s6 hyo.2, okh, fun H9 fr9 => ?_⟩
          have ow2 := ow.call ntb_lst fr9
          refine ⟨_, ow2.at_, ?_, (fr.trans fr9).put ow2 trivial, (owp.call ntb_lst fr9).other npD, ?_⟩
          · rw [List.length_map, List.length_take]
            exact small1000 (by omega)
          · rw [take_snoc hc, List.map_append]
            have e : readOf h = readOf (hoistAt hs k) := by rw [hoistAt_eq hh]
            rw [e]
            exact ow2.put
        · rintro H8 ⟨fr, owp, ow⟩
          rw [List.length_map, List.take_length] at ow
          refine ⟨p1, D2, _, _, rfl, rfl, owp.at_, ow.at_, ?_, fun r nr => ?_⟩
          · rw [List.length_map]
            exact small7 (by show 1 + _ ≤ 7; omega)
          have fr9 := fr.lay (o := .lst ([V.str (wd wo)] ++ t.map fun k => V.str (wd (readOf (hoistAt hs k))))) nr
          have s9 := same_upd (o := .lst ([V.str (wd wo)] ++ t.map fun k => V.str (wd (readOf (hoistAt hs k))))) (fr.free nr).1
          have hr9 : rL rW (upd F6 r (.lst ([V.str (wd wo)] ++ t.map fun k => V.str (wd (readOf (hoistAt hs k)))))) (.ref r) (wordsW hs wo t) := rL_mkW (by
            rw [upd_same]
            unfold wordsW
            rw [List.map_cons, List.map_map]
            rfl)
          generalize upd F6 r (.lst ([V.str (wd wo)] ++ t.map fun k => V.str (wd (readOf (hoistAt hs k))))) = F9 at fr9 s9 hr9
          have s59 := s6.trans s9
          -- the test
          refine ⟨_, rfl, _, rfl, _, rfl, small7 (by show 1 ≤ 7; omega), fun p2 np2 => ⟨_, rfl, p2, g, [nV n], t.map nV, rfl, rfl, upd_same, ?_, ?_, fun r2 nr2 => ?_⟩⟩
          · exact (fr9.new np2).fh _ _ (s59 _ _ hg)
          · rw [List.length_map]
            exact small7 (by show 1 + _ ≤ 7; omega)
          have fr10 := (fr9.new (o := .lst [nV n]) np2).lay (o := .lst ([nV n] ++ t.map nV)) nr2
          have s10 := same_upd (o := .lst ([nV n] ++ t.map nV)) ((fr9.new (o := .lst [nV n]) np2).free nr2).1
          have s510 := s59.trans s10
          refine ⟨_, v, .ref hq, .ref r2, kvs, hs, n :: t, fr10.fh, rfl, mo_D.up s510 hv5, lok, ⟨hq, xs, rfl, s510 _ _ hhq, (mo_O (mo_L mo_C)).al s510 alh⟩, ok, rL_mkN upd_same, hlt, fun F11 H11 v11 fr11 hv11 => ?_⟩
          have s11 := s10.trans fr11.ff
          have s511 := s510.trans fr11.ff
          refine ⟨_, rfl, _, rfl, _, rfl, F11, v11, .ref r, y2, y3, _, wordsW hs wo t, W, G, fr11.fh, rfl, hv11, (mo_L mo_W).up s11 hr9, wok, (mo_L mo_Want).up s511 h2, (mo_L mo_C).up s511 h3, ?_, fun F12 H12 fr12 => ⟨_, rfl, iteF ?_⟩⟩
          · rw [← pool_lk lok ok]; exact hlp
          · exact ⟨_, _, _, _, F12, rfl, (fr10.trans fr11).trans fr12, s511.trans fr12.ff⟩
      · rintro σ H6 ⟨v8, v9, v10, v11, F6, rfl, fr6, s6⟩
        exact q2 _ fr6.kp
end
end Fl

/-! FlEqv -/
/-! Equal data, as == of nested lists and dicts sees it. -/
namespace Fl
open PySem L2
section
variable {K : PySem.W.Frag} {F H : Hp}
theorem al_paired {α : Type} {r s : V → α → Prop} (E : V → V → Prop) (m : ∀ x y z, r x z → s y z → E x y) : ∀ {zs : List α} {xs ys : List V}, Al r xs zs → Al s ys zs → Paired E xs ys := by
  intro zs
  induction zs with
  | nil =>
    intro xs ys h k
    cases xs with
    | nil =>
      cases ys with
      | nil => exact .nil
      | cons _ _ => exact k.elim
    | cons _ _ => exact h.elim
  | cons z zs ih =>
    intro xs ys h k
    cases xs with
    | nil => exact h.elim
    | cons x xs =>
      cases ys with
      | nil => exact k.elim
      | cons y ys => exact .cons (m _ _ _ h.1 k.1) (ih h.2 k.2)
theorem eqv_hoist {n : Nat} (sm : L2.Same F H) {x y : V} {h : List Nat} (hx : rL rC F x h) (hy : rL rC F y h) : EqV K H (n + 2) x y := by
  obtain ⟨a, xs, rfl, ha, al⟩ := hx
  obtain ⟨b, ys, rfl, hb, bl⟩ := hy
  refine .inr (.inr (.inl ⟨a, b, xs, ys, rfl, rfl, SqL.of (sm _ _ ha), SqL.of (sm _ _ hb), al_paired _ (fun x y z hx hy => ?_) al bl⟩))
  obtain rfl : x = V.str (chr z) := hx
  obtain rfl : y = V.str (chr z) := hy
  exact .inl ⟨rfl, rfl⟩
theorem eqv_opt {n : Nat} (sm : L2.Same F H) {x y : V} {o : Option (List Nat)} (hx : rO (rL rC) F x o) (hy : rO (rL rC) F y o) : EqV K H (n + 2) x y := by
  cases o with
  | none =>
    obtain rfl : x = .non := hx
    obtain rfl : y = .non := hy
    exact .inl ⟨rfl, rfl⟩
  | some h => exact eqv_hoist sm hx.2 hy.2
theorem eqv_hal {n : Nat} (sm : L2.Same F H) {x y : V} {hs : List (Option (List Nat))} (hx : rHal F x hs) (hy : rHal F y hs) : EqV K H (n + 3) x y := by
  obtain ⟨a, xs, rfl, ha, al⟩ := hx
  obtain ⟨b, ys, rfl, hb, bl⟩ := hy
  exact .inr (.inr (.inl ⟨a, b, xs, ys, rfl, rfl, SqL.of (sm _ _ ha), SqL.of (sm _ _ hb), al_paired (r := rO (rL rC) F) (s := rO (rL rC) F) (EqV K H (n + 2)) (fun x y z hx hy => eqv_opt sm hx hy) al bl⟩))
theorem dk_at {kvs : List (Nat × Int)} (nd : (kvs.map (·.1)).Nodup) {p : Nat × Int} (h : p ∈ kvs) : valV (dk kvs) (kC p.1) = some (V.int p.2) := by
  have hl := lk_of_mem nd h
  rw [dk_dV, valV_dV]
  unfold lk at hl
  cases e : kvs.find? fun q => decide (q.1 = p.1) with
  | none =>
    exfalso
    have := List.find?_eq_none.mp e p h
    simp at this
  | some q =>
    rw [e] at hl
    have hl : q.2 = p.2 := hl
    show some (V.int q.2) = _
    rw [hl]
theorem eqv_D {n : Nat} (sm : L2.Same F H) {x y : V} {kvs : List (Nat × Int)} (nd : (kvs.map (·.1)).Nodup) (hx : rD F x kvs) (hy : rD F y kvs) : EqV K H (n + 2) x y := by
  obtain ⟨a, rfl, ha⟩ := hx
  obtain ⟨b, rfl, hb⟩ := hy
  refine .inr (.inr (.inr ⟨a, b, dk kvs, dk kvs, rfl, rfl, sm _ _ ha, sm _ _ hb, rfl, fun q hq => ?_⟩))
  obtain ⟨p, hp, rfl⟩ := List.mem_map.mp hq
  exact ⟨_, dk_at nd hp, .inl ⟨rfl, rfl⟩⟩
/-- what was handed is what it was -/
theorem ne_handed {Q : VK} {p0 p1 : Addr} {x1 x2 y1 y2 : V} {kvs : List (Nat × Int)} {hs : List (Option (List Nat))} (sm : L2.Same F H) (nd : (kvs.map (·.1)).Nodup) (h0 : H p0 = some (.lst [x1, x2])) (h1 : H p1 = some (.lst [y1, y2]))
    (hx1 : rD F x1 kvs) (hy1 : rD F y1 kvs) (hx2 : rHal F x2 hs) (hy2 : rHal F y2 hs) (q : Q (.bl false) H) : rNeV K (.ref p0) (.ref p1) H Q :=
  ⟨4, p0, p1, _, _, by omega, rfl, rfl, SqL.of h0, SqL.of h1, .cons (eqv_D (n := 2) sm nd hx1 hy1) (.cons (eqv_hal (n := 1) sm hx2 hy2) .nil), q⟩
end
end Fl

/-! DefLawGood -/
namespace Fl
open PySem L2
section
variable {P : Program} {w : World} {K : PySem.W.Frag} {mg : PySem.Str → Option Value} {base : Heap} {tbs : List (Addr × PySem.Str)}
abbrev s_law_good : Stmt := top 54
abbrev N_law_good : List PySem.Str := ["_law_locker_here", "_law_halyards", "_law_number", "_law_word_here", "_law_handed", "_law_found", "_law_others_here", "_law_words", "_law_hoist", "_law_k"]
theorem sc_law_good : FnScope N_law_good ["_law_locker_here", "_law_halyards", "_law_number", "_law_word_here"] (defScope s_law_good) := ⟨rfl, rfl, rfl, by decide +kernel, rfl, by decide +kernel, by decide +kernel⟩
def rLH : Rp (List (Nat × Int) × List (Option (List Nat))) := fun F v p => ∃ a x y, v = .ref a ∧ F a = some (.lst [x, y]) ∧ rD F x p.1 ∧ rHal F y p.2
def spLGood (tbs : List (Addr × PySem.Str)) : Sp := fun vs H Q _ => ∃ (v u : V) (kvs : List (Nat × Int)) (hs : List (Option (List Nat))) (n : Nat) (wo : List Nat), vs = [v, u, nV n, .str (wd wo)] ∧ LamX.Tabs tbs H ∧
  rD (nt H) v kvs ∧ LockOk kvs ∧ rHal (nt H) u hs ∧ HalOk hs ∧ n < hs.length ∧ Word7 wo ∧ ∀ H' v' kvs' hs', Kp tbs H H' → LockOk kvs' → HalOk hs' → hs'.length = hs.length → rLH (nt H') v' (kvs', hs') → Q v' H'
theorem ok_law_good {f C : Addr} {fd : FuncData} (Fu : Fun K "_law_good" "_law_good" s_law_good f fd) (T : Txt K mg) (C_law_asked : Cf P w K mg base 9 "_law_asked" (spLAsked tbs)) (C_law_hung : Cf P w K mg base 3 "_law_hung" (spLHung tbs)) (C_law_papers : Cf P w K mg base 10 "_law_papers" (spLPapers tbs))
    (C_law_others : Cf P w K mg base 1 "_law_others" (spOthers tbs)) (C_law_read : Cf P w K mg base 1 "_law_read" (spReadOf tbs)) (C_law_with : Cf P w K mg base 1 "_law_with" (spLWith tbs)) (C_law_lack : Cf P w K mg base 2 "_law_lack" (spLLack tbs)) :
    FnOk P w K mg base L2.CX0 11 f fd ["_law_locker_here", "_law_halyards", "_law_number", "_law_word_here"] (spLGood tbs) := by
  refine Fu.ok sc_law_good (fun vs H Q E h => ?_) (fun cdv A outer s H vs Q E hr h => ?_)
  · obtain ⟨v, u, kvs, hs, n, wo, rfl, _⟩ := h
    rfl
  · obtain ⟨v, u, kvs, hs, n, wo, rfl, hT, hv, lok, hh, ok, hn, hwo, q⟩ := h
    refine ⟨_, 
      (pss_cons (ps_set (i := 4) sc_law_good.nd rfl (Or.inl rfl) (pe_lst (pa_cons (pe_callTy call_dictD (by rfl) T.b_dict (by decide +kernel) (pa_cons (pv 0) pa_nil)) (pa_cons (pe_lc (own := ([("_law_hoist", 8)] : List (PySem.Str × Nat))) rfl sc_law_good.nd (pi_list (pv 1)) (blkOk_by (own := ([("_law_hoist", 8)] : List (PySem.Str × Nat))) (N := N_law_good) (sc := defScope s_law_good) (by decide +kernel)) (fun _ _ _ _ _ => (pg_name (i := 8) sc_law_good.nd rfl (Or.inl rfl))) (fun _ _ _ _ _ => pts_nil) (fun _ _ _ _ _ => (pe_ifExp (pt_cmpR op_isN (pv 8) pe_non (nomark _)) pe_non (pe_callTy (call_list_ofK K) (by rfl) T.b_list (by decide +kernel) (pa_cons (pv 8) pa_nil))))) pa_nil))))
      (pss_cons (ps_set (i := 5) sc_law_good.nd rfl (Or.inl rfl) (pe_cf C_law_asked hr (by decide) (by rfl) (pa_cons (pe_ix ix_list (pv 4) pe_int (fun _ _ => rfl)) (pa_cons (pe_ix ix_list (pv 4) pe_int (fun _ _ => rfl)) (pa_cons (pv 2) (pa_cons (pv 3) pa_nil))))))
      (pss_cons (ps_if (pt_cmpR (op_neV hr.units) (pv 4) (pe_lst (pa_cons (pv 0) (pa_cons (pv 1) pa_nil))) (nomark _))
        (pss_one (ps_ret pe_non)) pss_nil)
      (pss_cons (ps_if (PW.pt (pw_and (pt_val (pe_callB call_isi (by rfl) T.b_isinstance (by decide +kernel) (pa_cons (pv 5) (pa_cons (pe_bltn (v := .ty "tuple") (u := .type "tuple") (by rfl) T.b_tuple (by decide +kernel) rfl) pa_nil)))) (pw_and1 (pt_cmpR op_eq (pe_callB call_len_seq (by rfl) T.b_len PySem.boot_len (pa_cons (pv 5) pa_nil)) pe_int (nomark _)))))
        (pss_cons (ps_if (pt_not (pt_val (pe_cf C_law_hung hr (by decide) (by rfl) (pa_cons (pv 0) (pa_cons (pv 1) (pa_cons (pv 2) (pa_cons (pv 3) (pa_cons (pv 5) pa_nil))))))))
          (pss_one (ps_ret pe_non)) pss_nil)
        (pss_cons (ps_if (PW.pt (pw_or (pt_not (pt_val (pe_cf C_law_papers hr (by decide) (by rfl) (pa_cons (pe_ix ix_list (pv 4) pe_int (fun _ _ => rfl)) (pa_cons (pe_ix ix_list (pv 4) pe_int (fun _ _ => rfl)) (pa_cons (pv 2) (pa_cons (pv 3) (pa_cons (pe_ix ix_tup (pv 5) pe_int (fun _ _ => rfl)) pa_nil)))))))) (pw_or1 (pt_cmpR (op_neV hr.units) (pv 4) (pe_lst (pa_cons (pv 0) (pa_cons (pv 1) pa_nil))) (nomark _)))))
          (pss_one (ps_ret pe_non)) pss_nil)
        (pss_one (ps_ret (pe_lst (pa_cons (pe_ix ix_tup (pv 5) pe_int (fun _ _ => rfl)) (pa_cons (pe_ix ix_tup (pv 5) pe_int (fun _ _ => rfl)) pa_nil))))))) pss_nil)
      (pss_cons (ps_set (i := 6) sc_law_good.nd rfl (Or.inl rfl) (pe_cf C_law_others hr (by decide) (by rfl) (pa_cons (pv 1) (pa_cons (pv 2) pa_nil))))
      (pss_cons (ps_set (i := 7) sc_law_good.nd rfl (Or.inl rfl) (pe_op op_cat (pe_lst (pa_cons (pv 3) pa_nil)) (pe_lc (own := ([("_law_k", 9)] : List (PySem.Str × Nat))) rfl sc_law_good.nd (pi_list (pv 6)) (blkOk_by (own := ([("_law_k", 9)] : List (PySem.Str × Nat))) (N := N_law_good) (sc := defScope s_law_good) (by decide +kernel)) (fun _ _ _ _ _ => (pg_name (i := 9) sc_law_good.nd rfl (Or.inl rfl))) (fun _ _ _ _ _ => pts_nil) (fun _ _ _ _ _ => (pe_cf C_law_read hr (by decide) (by rfl) (pa_cons (pe_ix (ix_listK K) (pv 1) (pv 9) (fun _ _ => rfl)) pa_nil))))))
      (pss_cons (ps_if (pt_not (pt_val (pe_callB call_isi (by rfl) T.b_isinstance (by decide +kernel) (pa_cons (pv 5) (pa_cons (pe_bltn (v := .ty "list") (u := .type "list") (by rfl) T.b_list (by decide +kernel) rfl) pa_nil)))))
        (pss_one (ps_ret pe_non)) pss_nil)
      (pss_cons (ps_if (pt_not (pt_val (pe_cf C_law_lack hr (by decide) (by rfl) (pa_cons (pe_cf C_law_with hr (by decide) (by rfl) (pa_cons (pv 0) (pa_cons (pv 1) (pa_cons (pe_op op_cat (pe_lst (pa_cons (pv 2) pa_nil)) (pv 6)) pa_nil)))) (pa_cons (pv 7) (pa_cons (pe_ix ix_list (pv 5) pe_int (fun _ _ => rfl)) (pa_cons (pe_ix ix_list (pv 5) pe_int (fun _ _ => rfl)) pa_nil)))))))
        (pss_one (ps_ret pe_non)) pss_nil)
      (pss_one (ps_ret (pe_lst (pa_cons (pv 0) (pa_cons (pv 1) pa_nil))))))))))))), ?_⟩
    have hv0 := hv
    have hh0 := hh
    obtain ⟨a, rfl, ha⟩ := hv
    obtain ⟨b, xs, rfl, hb, al⟩ := hh
    have lx := al.len
    have l6 := ok.few
    refine ⟨_, rfl, a, _, rfl, .inl (nt_same H _ _ ha), fun d nd => ?_⟩
    have fr0 := (Fr.begin (T := tbs) (nt_same H)).lay (o := .dK (dk kvs)) nd
    have s0 := same_upd (o := .dK (dk kvs)) ((Fr.begin (T := tbs) (nt_same H)).free nd).1
    have hd0 : upd (nt H) d (.dK (dk kvs)) d = some (.dK (dk kvs)) := upd_same
    generalize upd (nt H) d (.dK (dk kvs)) = F0 at fr0 s0 hd0
    generalize upd H d (.dK (dk kvs)) = H0 at fr0
    refine ⟨_, rfl, b, rfl, ⟨_, SqL.of (fr0.fh _ _ (s0 _ _ hb))⟩, fun D nD => lc_list (K := K) (a := b) (xs := xs) (fun i H' => ∃ F' zs, Fr tbs (nt H) H F' H' ∧ L2.Same F0 F' ∧ Own H F' H' D (.lst zs) ∧ Al (rO (rL rC) F') zs (hs.take i)) ?_ ?_ ?_ ?_⟩
    · exact ⟨F0, [], fr0.new nD, .refl _, fr0.own nD, by rw [List.take_zero]; trivial⟩
    · rintro i H' _ ⟨F', zs, fr, s1, _⟩
      exact SqL.of (fr.fh _ _ (s1 _ _ (s0 _ _ hb)))
    · rintro i x H' hx ⟨F', zs, fr, s1, ow, alz⟩
      obtain ⟨o, ho, hxo⟩ := al.get hx
      have hi := (List.getElem?_eq_some_iff.mp hx).1
      have lz : zs.length < sizeLine := by
        rw [alz.len, List.length_take]
        exact small1000 (by omega)
      refine ⟨rfl, ?_⟩
      refine ⟨_, rfl, rfl, _, rfl, ?_⟩
      cases o with
      | none =>
        obtain rfl : x = .non := hxo
        refine iteT ⟨zs, ow.at_, lz, F', _, fr.put ow trivial, s1, ow.put, ?_⟩
        rw [take_snoc ho]
        exact alz.snoc rfl
      | some h =>
        obtain ⟨xn, hxl⟩ := hxo
        rw [decide_eq_false xn]
        obtain ⟨c, rfl, hc⟩ := rL_C hxl
        refine iteF ⟨_, rfl, c, _, rfl, .inl (SqL.of (fr.fh _ _ (s1 _ _ (s0 _ _ hc)))), fun p np => ?_⟩
        have fr2 := fr.lay (o := .lst (h.map fun c => V.str (chr c))) np
        have ow2 := ow.lay (o' := .lst (h.map fun c => V.str (chr c))) np
        have s2 := same_upd (o := .lst (h.map fun c => V.str (chr c))) (fr.free np).1
        refine ⟨zs, ow2.at_, lz, _, _, fr2.put ow2 trivial, s1.trans s2, ow2.put, ?_⟩
        rw [take_snoc ho]
        exact ((mo_O (mo_L mo_C)).al s2 alz).snoc ⟨(by intro z; cases z), rL_mkC upd_same⟩
    · rintro H1 ⟨F1, zs, fr1, s1, owD, alz⟩
      rw [lx, List.take_length] at alz
      refine ⟨small7 (by show 2 ≤ 7; omega), fun p0 np0 => ?_⟩
      have s2 := same_upd (o := .lst zs) owD.f
      have fr2 := (fr1.freeze owD).lay (o := .lst [.ref d, .ref D]) np0
      have s3 := same_upd (o := .lst [.ref d, .ref D]) ((fr1.freeze owD).free np0).1
      have hh3 : rHal (upd (upd F1 D (.lst zs)) p0 (.lst [.ref d, .ref D])) (.ref D) hs := mo_Hal.up s3 ⟨D, zs, rfl, upd_same, (mo_O (mo_L mo_C)).al s2 alz⟩
      have s13 := s1.trans (s2.trans s3)
      have hp3 : upd (upd F1 D (.lst zs)) p0 (.lst [.ref d, .ref D]) p0 = some (.lst [.ref d, .ref D]) := upd_same
      have hv3 : rD (upd (upd F1 D (.lst zs)) p0 (.lst [.ref d, .ref D])) (.ref d) kvs := ⟨d, rfl, s13 _ _ hd0⟩
      have s03 := s0.trans s13
      generalize upd (upd F1 D (.lst zs)) p0 (.lst [.ref d, .ref D]) = F3 at fr2 hh3 hp3 hv3 s03
      generalize upd H1 p0 (.lst [.ref d, .ref D]) = H3 at fr2
      have hv03 := mo_D.up s03 hv0
      have hh03 := mo_Hal.up s03 hh0
      have lp := fr2.fh _ _ hp3
      refine ⟨_, rfl, p0, _, _, .ref d, rfl, rfl, SqL.of lp, at_of (j := 0) rfl rfl, _, rfl, p0, _, _, .ref D, rfl, rfl, SqL.of lp, at_of (j := 1) rfl rfl, _, rfl, _, rfl, F3, .ref d, .ref D, kvs, hs, n, wo, fr2.fh, rfl, hv3, lok, hh3, ok, hn, hwo, ?_, ?_⟩
      · intro pre lw g hlow hg F4 H4 vf fr4 hvf
        have so := set_ok ok hn hlow.mem
        have U := hung_ok lok ok hn hwo so hg
        have s4 := fr4.ff
        have hvf0 := hvf
        obtain ⟨q1, x1, x2, x3, rfl, hq1, hx1, hx2, hx3⟩ := hvf
        have hx1 : rL rN F4 x1 lw := hx1
        generalize eB : (hauledTo kvs hs n wo lw g).2.1 = bs at U hx2
        generalize eL : (hauledTo kvs hs n wo lw g).2.2 = left at U hx3
        have hvf4 : rHauled F4 (.ref q1) (lw, bs, left) := ⟨q1, x1, x2, x3, rfl, hq1, hx1, hx2, hx3⟩
        refine ⟨_, rfl, _, rfl, _, rfl, small7 (by show 2 ≤ 7; omega), fun p1 np1 => ?_⟩
        have fr5 := fr4.new (o := .lst [.ref a, .ref b]) np1
        refine ne_handed fr5.fh lok.nd (fr5.fh _ _ (s4 _ _ hp3)) upd_same (mo_D.up s4 hv3) (mo_D.up s4 hv03) (mo_Hal.up s4 hh3) (mo_Hal.up s4 hh03) ⟨_, rfl, iteF ?_⟩
        generalize upd H4 p1 (.lst [.ref a, .ref b]) = H5 at fr5
        have lq := fr5.fh _ _ hq1
        refine ⟨_, rfl, _, _, _, _, true, rfl, .ty _, .base (.tup lq), kit_ty (by decide +kernel), _, rfl, iteT ?_⟩
        refine ⟨_, rfl, q1, _, rfl, .inr (SqT.of lq), rfl, _, rfl, ite2 (fun _ => ?_) (fun c => absurd (decide_eq_true rfl) c)⟩
        -- what the law asks of it
        refine ⟨_, rfl, _, rfl, _, rfl, _, rfl, _, rfl, F4, .ref a, .ref b, .ref q1, kvs, hs, n, wo, lw, bs, left, fr5.fh, rfl, mo_D.up s4 hv03, lok, mo_Hal.up s4 hh03, ok, hn, hwo, hvf4, so.len, U, fun F6 H6 fr6 => ⟨_, rfl, iteF ?_⟩⟩
        have fr56 := fr5.trans fr6
        have s6 := s4.trans fr6.ff
        have lp6 := fr6.fh _ _ (s6 _ _ hp3)
        have lq6 := fr6.fh _ _ (fr6.ff _ _ hq1)
        have kp6 := fr2.kp.trans fr56.kp
        have hv6 := to_nt mo_D nt_D fr6.fh (mo_D.up s6 hv3)
        have hh6 := to_nt mo_Hal nt_Hal fr6.fh (mo_Hal.up s6 hh3)
        have hv06 := to_nt mo_D nt_D fr6.fh (mo_D.up s6 hv03)
        have hh06 := to_nt mo_Hal nt_Hal fr6.fh (mo_Hal.up s6 hh03)
        have hx16 := to_nt (mo_L mo_N) (nt_L nt_N) fr6.fh ((mo_L mo_N).up fr6.ff hx1)
        have hx26 := to_nt mo_Hal nt_Hal fr6.fh (mo_Hal.up fr6.ff hx2)
        have hx36 := to_nt mo_D nt_D fr6.fh (mo_D.up fr6.ff hx3)
        refine ⟨_, rfl, p0, _, _, .ref d, rfl, rfl, SqL.of lp6, at_of (j := 0) rfl rfl, _, rfl, p0, _, _, .ref D, rfl, rfl, SqL.of lp6, at_of (j := 1) rfl rfl, _, rfl, _, rfl, _, rfl, q1, _, _, x1, rfl, rfl, SqT.of lq6, at_of (j := 0) rfl rfl, .ref d, .ref D, x1, kvs, hs, n, wo, pre, lw, rfl, kp6.tb hT, hv6, lok, hh6, ok, hn, hwo, hx16, hlow, ⟨g, hg⟩, fun H7 kp7 => ⟨_, rfl, iteF ?_⟩⟩
        have lp7 := kp7.st _ _ lp6 ntb_lst
        have lq7 := kp7.st _ _ lq6 ntb_tup
        refine ⟨_, rfl, _, rfl, _, rfl, small7 (by show 2 ≤ 7; omega), fun p2 np2 => ?_⟩
        have kp8 : Kp tbs H7 (upd H7 p2 (.lst [.ref a, .ref b])) := .same (same_upd np2)
        have kp68 := kp7.trans kp8
        refine ne_handed (nt_same _) lok.nd (kp8.st _ _ lp7 ntb_lst) upd_same (Nt.kp mo_D kp68 hv6) (Nt.kp mo_D kp68 hv06) (Nt.kp mo_Hal kp68 hh6) (Nt.kp mo_Hal kp68 hh06) ⟨_, rfl, iteF ?_⟩
        have lq8 := kp8.st _ _ lq7 ntb_tup
        generalize upd H7 p2 (.lst [.ref a, .ref b]) = H8 at kp8 kp68 lq8
        refine ⟨_, rfl, q1, _, _, x3, rfl, rfl, SqT.of lq8, at_of (j := 2) rfl rfl, _, rfl, q1, _, _, x2, rfl, rfl, SqT.of lq8, at_of (j := 1) rfl rfl, small7 (by show 2 ≤ 7; omega), fun r nr => ?_⟩
        have kp9 : Kp tbs H8 (upd H8 r (.lst [x3, x2])) := .same (same_upd nr)
        have kp69 := kp68.trans kp9
        exact q _ (.ref r) left bs (kp6.trans kp69) U.lok U.bok U.bl ⟨r, x3, x2, rfl, nt_some upd_same ntb_lst, Nt.kp mo_D kp69 hx36, Nt.kp mo_Hal kp69 hx26⟩
      · intro W G hlp F4 H4 vf fr4 hvf
        have s4 := fr4.ff
        obtain ⟨q1, x1, x2, rfl, hq1, hx1, hx2⟩ := hvf
        have hx1 : rL rWant F4 x1 W := hx1
        have hx2 : rL rC F4 x2 G := hx2
        refine ⟨_, rfl, _, rfl, _, rfl, small7 (by show 2 ≤ 7; omega), fun p1 np1 => ?_⟩
        have fr5 := fr4.new (o := .lst [.ref a, .ref b]) np1
        refine ne_handed fr5.fh lok.nd (fr5.fh _ _ (s4 _ _ hp3)) upd_same (mo_D.up s4 hv3) (mo_D.up s4 hv03) (mo_Hal.up s4 hh3) (mo_Hal.up s4 hh03) ⟨_, rfl, iteF ?_⟩
        generalize upd H4 p1 (.lst [.ref a, .ref b]) = H5 at fr5
        have lq := fr5.fh _ _ hq1
        refine ⟨_, rfl, _, _, _, _, false, rfl, .ty _, .base (.lst lq), kit_ty (by decide +kernel), _, rfl, iteF (iteF ?_)⟩
        -- too few flags: the paper for all others
        refine ⟨_, rfl, _, rfl, F4, .ref b, hs, n, fr5.fh, rfl, mo_Hal.up s4 hh03, ok, fun F6 H6 vo fr6 hvo => ?_⟩
        have h5 := others_len ok hn
        have s6 := s4.trans fr6.ff
        have fr26 := (fr2.trans fr5).trans fr6
        obtain ⟨e, rfl, he⟩ := rL_N hvo
        have hb6 := s6 _ _ (s03 _ _ hb)
        refine ⟨_, rfl, small7 (by show 1 ≤ 7; omega), fun p2 np2 => ?_⟩
        have fr7 := fr26.new (o := .lst [.str (wd wo)]) np2
        have ow7 := fr26.own (o := .lst [.str (wd wo)]) np2
        have ots : ∀ k ∈ othersOf hs n, ∃ h, hs[k]? = some (some h) := fun k hk => (others_at hk).2
        have wok : WordsOk (wordsW hs wo (othersOf hs n)) := wordsW_ok ok hwo.ok (by omega) ots
        refine ⟨_, rfl, e, rfl, ⟨_, SqL.of (fr7.fh _ _ he)⟩, fun D2 nD2 => ?_⟩
        have npD : p2 ≠ D2 := ne_of_none ow7.at_ nD2
        refine lc_list (K := K) (a := e) (xs := (othersOf hs n).map nV) (fun i H8 => Fr tbs (nt H) H F6 H8 ∧ Own H F6 H8 p2 (.lst [.str (wd wo)]) ∧ Own H F6 H8 D2 (.lst (((othersOf hs n).take i).map fun k => V.str (wd (readOf (hoistAt hs k)))))) ?_ ?_ ?_ ?_
        · exact ⟨fr7.new nD2, ow7.new nD2, fr7.own nD2⟩
        · rintro i H8 _ ⟨fr, _⟩
          exact SqL.of (fr.fh _ _ he)
        · rintro i x H8 hx ⟨fr, owp, ow⟩
          rw [List.getElem?_map] at hx
          cases hc : (othersOf hs n)[i]? with
          | none => rw [hc] at hx; cases hx
          | some k =>
          rw [hc] at hx
          obtain rfl : nV k = x := Option.some.inj hx
          obtain ⟨h, hh⟩ := ots k (List.mem_of_getElem? hc)
          obtain ⟨y, hy, hyo⟩ := al.at hh
          have okh := ok.ok h (List.mem_of_getElem? hh)
          refine ⟨rfl, ?_⟩
          refine ⟨_, rfl, _, rfl, b, _, _, y, rfl, rfl, SqL.of (fr.fh _ _ hb6), at_of rfl hy, F6, y, h, fr.fh, rfl, (mo_L mo_C).up (s03.trans s6) hyo.2, okh, fun H9 fr9 => ?_⟩
          have ow2 := ow.call ntb_lst fr9
          refine ⟨_, ow2.at_, ?_, (fr.trans fr9).put ow2 trivial, (owp.call ntb_lst fr9).other npD, ?_⟩
          · rw [List.length_map, List.length_take]
            exact small1000 (by omega)
          · rw [take_snoc hc, List.map_append]
            have e : readOf h = readOf (hoistAt hs k) := by rw [hoistAt_eq hh]
            rw [e]
            exact ow2.put
        · rintro H8 ⟨fr, owp, ow⟩
          rw [List.length_map, List.take_length] at ow
          refine ⟨p2, D2, _, _, rfl, rfl, owp.at_, ow.at_, ?_, fun r nr => ?_⟩
          · rw [List.length_map]
            exact small7 (by show 1 + _ ≤ 7; omega)
          have fr9 := fr.lay (o := .lst ([V.str (wd wo)] ++ (othersOf hs n).map fun k => V.str (wd (readOf (hoistAt hs k))))) nr
          have s9 := same_upd (o := .lst ([V.str (wd wo)] ++ (othersOf hs n).map fun k => V.str (wd (readOf (hoistAt hs k))))) (fr.free nr).1
          have hr9 : rL rW (upd F6 r (.lst ([V.str (wd wo)] ++ (othersOf hs n).map fun k => V.str (wd (readOf (hoistAt hs k)))))) (.ref r) (wordsW hs wo (othersOf hs n)) := rL_mkW (by
            rw [upd_same]
            unfold wordsW
            rw [List.map_cons, List.map_map]
            rfl)
          generalize upd F6 r (.lst ([V.str (wd wo)] ++ (othersOf hs n).map fun k => V.str (wd (readOf (hoistAt hs k))))) = F9 at fr9 s9 hr9
          have s69 := fr6.ff.trans s9
          have s09 := s03.trans (s6.trans s9)
          have lq9 := fr9.fh _ _ (s69 _ _ hq1)
          refine ⟨_, rfl, _, _, _, _, true, rfl, .ty _, .base (.lst lq9), kit_ty (by decide +kernel), _, rfl, iteF ?_⟩
          refine ⟨_, rfl, _, rfl, _, rfl, small7 (by show 1 ≤ 7; omega), fun p3 np3 => ⟨_, rfl, p3, e, [nV n], (othersOf hs n).map nV, rfl, rfl, upd_same, ?_, ?_, fun r2 nr2 => ?_⟩⟩
          · exact (fr9.new np3).fh _ _ (s9 _ _ he)
          · rw [List.length_map]
            exact small7 (by show 1 + _ ≤ 7; omega)
          have fr10 := (fr9.new (o := .lst [nV n]) np3).lay (o := .lst ([nV n] ++ (othersOf hs n).map nV)) nr2
          have s10 := same_upd (o := .lst ([nV n] ++ (othersOf hs n).map nV)) ((fr9.new (o := .lst [nV n]) np3).free nr2).1
          have hlt : ∀ k ∈ n :: othersOf hs n, k < hs.length := fun k hk => by
            rcases List.mem_cons.mp hk with e | e
            · rw [e]; exact hn
            · obtain ⟨x, hx⟩ := ots k e
              exact (List.getElem?_eq_some_iff.mp hx).1
          refine ⟨_, .ref a, .ref b, .ref r2, kvs, hs, n :: othersOf hs n, fr10.fh, rfl, mo_D.up (s09.trans s10) hv0, lok, mo_Hal.up (s09.trans s10) hh0, ok, rL_mkN upd_same, hlt, fun F11 H11 v11 fr11 hv11 => ?_⟩
          have s11 := s10.trans fr11.ff
          have lq11 := fr11.fh _ _ (s11 _ _ (s69 _ _ hq1))
          refine ⟨_, rfl, _, rfl, q1, _, _, x1, rfl, rfl, SqL.of lq11, at_of (j := 0) rfl rfl, _, rfl, q1, _, _, x2, rfl, rfl, SqL.of lq11, at_of (j := 1) rfl rfl, F11, v11, .ref r, x1, x2, _, wordsW hs wo (othersOf hs n), W, G, fr11.fh, rfl, hv11, (mo_L mo_W).up s11 hr9, wok, (mo_L mo_Want).up (s69.trans s11) hx1, (mo_L mo_C).up (s69.trans s11) hx2, ?_, fun F12 H12 fr12 => ⟨_, rfl, iteF ?_⟩⟩
          · rw [← pool_lk lok ok]; exact hlp
          have frZ := ((fr10.trans fr11).trans fr12)
          refine ⟨_, rfl, _, rfl, small7 (by show 2 ≤ 7; omega), fun r3 nr3 => ?_⟩
          have kpZ : Kp tbs H (upd H12 r3 (.lst [.ref a, .ref b])) := frZ.kp.trans (.same (same_upd nr3))
          exact q _ (.ref r3) kvs hs kpZ lok ok rfl ⟨r3, .ref a, .ref b, rfl, nt_some upd_same ntb_lst, Nt.kp mo_D kpZ hv0, Nt.kp mo_Hal kpZ hh0⟩
end
end Fl

/-! DefLaw -/
namespace Fl
open PySem L2
section
variable {P : Program} {w : World} {K : PySem.W.Frag} {mg : PySem.Str → Option Value} {base : Heap} {tbs : List (Addr × PySem.Str)}
abbrev s_law : Stmt := top 55
abbrev N_law : List PySem.Str := ["_law_script", "_law_letters_here", "_law_locker_here", "_law_halyards", "_law_k", "_law_cell_here", "_law_number", "_law_found"]
theorem sc_law : FnScope N_law ["_law_script"] (defScope s_law) := ⟨rfl, rfl, rfl, by decide +kernel, rfl, by decide +kernel, by decide +kernel⟩
def spLaw (K : PySem.W.Frag) (tbs : List (Addr × PySem.Str)) : Sp := fun vs H Q _ => ∃ (a : Addr) (sc : List Int), vs = [.ref a] ∧ SqL K H a (sc.map V.int) ∧ LamX.Tabs tbs H ∧ ∀ H', Q (.bl true) H'
theorem ok_law {f C : Addr} {fd : FuncData} (Fu : Fun K "law" "law" s_law f fd) (T : Txt K mg) (C_law_cell : Cf P w K mg base 1 "_law_cell" (spLCell K)) (C_law_letters : Cf P w K mg base 2 "_law_letters" (spLLetters K tbs)) (C_law_word : Cf P w K mg base 2 "_law_word" (spLWord tbs))
    (C_law_locker : Cf P w K mg base 2 "_law_locker" (spLLocker tbs)) (C_law_good : Cf P w K mg base 11 "_law_good" (spLGood tbs)) :
    FnOk P w K mg base L2.CX0 12 f fd ["_law_script"] (spLaw K tbs) := by
  refine Fu.ok sc_law (fun vs H Q E h => ?_) (fun cdv A outer s H vs Q E hr h => ?_)
  · obtain ⟨a, sc, rfl, _⟩ := h
    rfl
  · obtain ⟨a, sc, rfl, sq, hT, q⟩ := h
    refine ⟨_, 
      (pss_cons (ps_set (i := 1) sc_law.nd rfl (Or.inl rfl) (pe_cf C_law_letters hr (by decide) (by rfl) (pa_cons (pv 0) pa_nil)))
      (pss_cons (ps_set (i := 2) sc_law.nd rfl (Or.inl rfl) (pe_cf C_law_locker hr (by decide) (by rfl) (pa_cons (pe_cf C_law_cell hr (by decide) (by rfl) (pa_cons (pv 0) (pa_cons pe_int pa_nil))) (pa_cons (pv 1) (pa_cons pe_int pa_nil)))))
      (pss_cons (ps_set (i := 3) sc_law.nd rfl (Or.inl rfl) (pe_op op_rep (pe_lst (pa_cons pe_non pa_nil)) (pe_op op_add pe_int (pe_op op_mod (pe_cf C_law_cell hr (by decide) (by rfl) (pa_cons (pv 0) (pa_cons pe_int pa_nil))) pe_int))))
      (pss_cons (ps_for PassesOwn.never rfl (pi_range1 (by rfl) T.b_range (pa_cons (pe_op op_add (pe_callB call_len_seq (by rfl) T.b_len PySem.boot_len (pa_cons (pv 3) pa_nil)) pe_int) pa_nil)) (pg_name (i := 4) sc_law.nd rfl (Or.inl rfl))
        (pss_cons (ps_set (i := 5) sc_law.nd rfl (Or.inl rfl) (pe_cf C_law_cell hr (by decide) (by rfl) (pa_cons (pv 0) (pa_cons (pe_op op_add pe_int (pv 4)) pa_nil))))
        (pss_cons (ps_set (i := 6) sc_law.nd rfl (Or.inl rfl) (pv 4))
        (pss_cons (ps_if (pt_cmpR op_eq (pv 4) (pe_callB call_len_seq (by rfl) T.b_len PySem.boot_len (pa_cons (pv 3) pa_nil)) (nomark _))
          (pss_one (ps_set (i := 6) sc_law.nd rfl (Or.inl rfl) (pe_op op_mod (pe_op op_fdiv (pv 5) pe_int) (pe_callB call_len_seq (by rfl) T.b_len PySem.boot_len (pa_cons (pv 3) pa_nil))))) pss_nil)
        (pss_cons (ps_set (i := 7) sc_law.nd rfl (Or.inl rfl) (pe_cf C_law_good hr (by decide) (by rfl) (pa_cons (pv 2) (pa_cons (pv 3) (pa_cons (pv 6) (pa_cons (pe_cf C_law_word hr (by decide) (by rfl) (pa_cons (pv 5) (pa_cons (pv 1) (pa_cons pe_int pa_nil)))) pa_nil))))))
        (pss_cons (ps_if (pt_cmpR op_isN (pv 7) pe_non (nomark _))
          (pss_one (ps_ret pe_bl)) pss_nil)
        (pss_one (ps_asg (pv 7) (pg_unl rfl (pgs_cons (pg_name (i := 2) sc_law.nd rfl (Or.inl rfl)) (pgs_cons (pg_name (i := 3) sc_law.nd rfl (Or.inl rfl)) pgs_nil)))))))))))
      (pss_one (ps_ret pe_bl)))))), ?_⟩
    refine ⟨_, rfl, nt H, a, sc, nt_same H, rfl, sq, fun l hl F1 H1 vl fr1 hvl => ?_⟩
    have sq1 := fr1.kp.sq sq
    refine ⟨_, rfl, a, sc, 1, rfl, sq1, fun c1 => ?_⟩
    refine ⟨_, rfl, F1, c1, vl, l, fr1.fh, rfl, hvl, hl, fun kvs lok F2 H2 v2 fr2 hv2 => ?_⟩
    have fr02 := fr1.trans fr2
    have sq2 := fr02.kp.sq sq
    have hvl2 := to_nt (mo_L mo_C) (nt_L nt_C) fr2.fh ((mo_L mo_C).up fr2.ff hvl)
    have hv2' := to_nt mo_D nt_D fr2.fh hv2
    refine ⟨small7 (by show 1 ≤ 7; omega), fun p0 np0 => ?_⟩
    have kp3 : Kp tbs H2 (upd H2 p0 (.lst [.non])) := .same (same_upd np0)
    refine ⟨_, rfl, a, sc, 2, rfl, kp3.sq sq2, fun c2 => ?_⟩
    have m0 := Int.emod_nonneg c2 (by decide : (5 : Int) ≠ 0)
    have m1 := Int.emod_lt_of_pos c2 (by decide : (0 : Int) < 5)
    refine ⟨_, _, rfl, rfl, (by show (0 : Int) < 5; decide), _, _, rfl, rfl, p0, _, _, rfl, rfl, upd_same, ?_, ?_, ?_, fun p1 np1 => ?_⟩
    · show -(2 ^ 63) ≤ 2 + c2 % 5
      omega
    · show 2 + c2 % 5 < 2 ^ 63
      omega
    · show 1 * (2 + c2 % 5).toNat ≤ sizeLine
      exact smallK (by omega)
    rw [rep_flat]
    have kp4 : Kp tbs (upd H2 p0 (.lst [.non])) (upd (upd H2 p0 (.lst [.non])) p1 (.lst (List.replicate (2 + c2 % 5).toNat V.non))) := .same (same_upd np1)
    have kp34 := kp3.trans kp4
    obtain ⟨N, hN⟩ : ∃ N, (2 + c2 % 5).toNat = N := ⟨_, rfl⟩
    have N2 : 2 ≤ N := by omega
    have N6 : N ≤ 6 := by omega
    have hal : rHal (nt (upd (upd H2 p0 (.lst [.non])) p1 (.lst (List.replicate (2 + c2 % 5).toNat V.non)))) (.ref p1) (List.replicate N none) := by
      refine ⟨p1, _, rfl, nt_some upd_same ntb_lst, ?_⟩
      rw [hN]
      have : ∀ n, Al (rO (rL rC) (nt (upd (upd H2 p0 (.lst [.non])) p1 (.lst (List.replicate N V.non))))) (List.replicate n V.non) (List.replicate n none) := fun n => by
        induction n with
        | zero => trivial
        | succ n ih => exact ⟨rfl, ih⟩
      exact this N
    have hok0 : HalOk (List.replicate N none) := ⟨by rw [List.length_replicate]; exact N6, fun h hm => by
      have := List.eq_of_mem_replicate hm
      cases this⟩
    have lp1 : upd (upd H2 p0 (.lst [.non])) p1 (.lst (List.replicate (2 + c2 % 5).toNat V.non)) p1 = some (.lst (List.replicate N V.non)) := by rw [upd_same, hN]
    have hvl4 := Nt.kp (mo_L mo_C) kp34 hvl2
    have hv4 := Nt.kp mo_D kp34 hv2'
    have sq4 := kp34.sq sq2
    have kp04 := fr02.kp.trans kp34
    generalize upd (upd H2 p0 (.lst [.non])) p1 (.lst (List.replicate (2 + c2 % 5).toNat V.non)) = H4 at kp4 kp34 hal lp1 hvl4 hv4 sq4 kp04
    have lrep : (List.replicate N V.non).length = N := List.length_replicate
    refine ⟨_, rfl, p1, _, rfl, .inl (SqL.of lp1), _, _, rfl, rfl, _, rfl, by rw [lrep]; omega, by rw [lrep]; omega, ?_⟩
    refine for_range (lo := 0) (fun j σ H' => ∃ v u kvs hs v4 v5 v6 v7, σ = [some (.ref a), some vl, some v, some u, v4, v5, v6, v7] ∧ Kp tbs H H' ∧ rL rC (nt H') vl l ∧ rD (nt H') v kvs ∧ LockOk kvs ∧ rHal (nt H') u hs ∧ HalOk hs ∧ hs.length = N) ?_ ?_ ?_
    · exact ⟨v2, .ref p1, kvs, _, _, _, _, _, rfl, kp04, hvl4, hv4, lok, hal, hok0, List.length_replicate⟩
    · rintro j σ H' hj ⟨v, u, kvs, hs, v4, v5, v6, v7, rfl, kp, hvl, hv, lok, hh, ok, len⟩
      have hj : j < N + 1 := by rw [lrep] at hj; omega
      have e0 : V.int (0 + (j : Int)) = nV j := by rw [Int.zero_add]
      rw [e0]
      have hh0 := hh
      obtain ⟨b, xs, rfl, hb, al⟩ := hh
      have lxs : xs.length = N := by rw [al.len, len]
      have e3 : V.int (3 + (j : Int)) = nV (3 + j) := by
        congr 1
      refine ⟨_, rfl, _, rfl, _, _, rfl, rfl, a, sc, 3 + j, ?_, kp.sq sq, fun c => ?_⟩
      · show [V.ref a, V.int (3 + (j : Int))] = _
        rw [e3]
      refine ⟨_, rfl, ?_⟩
      refine ⟨_, rfl, _, rfl, b, _, rfl, .inl (SqL.of (nt_same _ _ _ hb)), rfl, _, rfl, ite2 (fun cj => ?A) (fun cj => ?B)⟩
      case' A =>
        have g0 := Int.emod_nonneg (c / 5) (show (xs.length : Int) ≠ 0 by omega)
        have g1 := Int.emod_lt_of_pos (c / 5) (show (0 : Int) < (xs.length : Int) by omega)
        refine ⟨_, rfl, _, _, rfl, rfl, ⟨(by show (0 : Int) < 5; decide), (by show (5 : Int) < 1073741824; decide)⟩, _, rfl, b, _, rfl, .inl (SqL.of (nt_same _ _ _ hb)), _, _, rfl, rfl, (by show (0 : Int) < (xs.length : Int); omega), ?_⟩
        obtain ⟨n, hn, en⟩ : ∃ n : Nat, n < hs.length ∧ V.int (c / 5 % (xs.length : Int)) = nV n := ⟨(c / 5 % (xs.length : Int)).toNat, by omega, by
          show V.int _ = V.int _
          congr 1
          omega⟩
      case' B =>
        obtain ⟨n, hn, en⟩ : ∃ n : Nat, n < hs.length ∧ V.int ((j : Nat) : Int) = nV n := ⟨j, by
          have : j ≠ N := fun z => cj (decide_eq_true (by rw [z, lxs]))
          omega, rfl⟩
      all_goals
        refine ⟨_, rfl, _, rfl, _, rfl, _, rfl, _, rfl, nt H', c, vl, l, nt_same _, rfl, hvl, hl, fun wo F5 H5 hwo fr5 => ?_⟩
        have kp5 := fr5.kp
        have kp05 := kp.trans kp5
        refine ⟨v, .ref b, kvs, hs, n, wo, by rw [← en]; rfl, kp05.tb hT, Nt.kp mo_D kp5 hv, lok, Nt.kp mo_Hal kp5 hh0, ok, hn, hwo, fun H6 v6 kvs' hs' kp6 lok' ok' len' hLH => ?_⟩
        obtain ⟨r, x, y, rfl, hr, hx, hy⟩ := hLH
        have kp06 := kp05.trans kp6
        refine ⟨_, rfl, rfl, _, rfl, iteF ?_⟩
        refine ⟨_, rfl, r, _, rfl, SqL.of (nt_same _ _ _ hr), rfl, _, _, rfl, _, _, rfl, rfl, ?_⟩
        exact ⟨x, y, kvs', hs', _, _, _, _, rfl, kp06, Nt.kp (mo_L mo_C) (kp5.trans kp6) hvl, hx, lok', hy, ok', by rw [len', len]⟩
    · rintro σ H' _
      exact q H'
end
end Fl

/-! FlEnd -/
namespace Fl
open PySem L2
/-- a def of the top -/
def DefIn (K : PySem.W.Frag) (mg : PySem.Str → Option Value) (x : PySem.Str) (st : Stmt) : Prop := ∃ (f : Addr) (fd : FuncData), Fun K x x st f fd ∧ mg x = some (.ref f)
def ConstIn (mg : PySem.Str → Option Value) (x : PySem.Str) (v : V) : Prop := ∃ u, mg x = some u ∧ RelV v u
section
variable {K : PySem.W.Frag} {h : Heap} {mg : PySem.Str → Option Value}
theorem def_at {x : PySem.Str} {st : Stmt} {f : Addr} {oc : Value} {od an : Option Addr} {osl : Array (Option Value)} {kV doc pm cdv ct : Value} (X : K.In h) (G : h.Ns mainGlobals mg) (a : PySem.W.nsIn K mainGlobals x = some (some (.ref f)))
    (l : K.lookup f = some ⟨oc, od, .func (PySem.W.fnOf x x (defArgs st) (defBody st) (defScope st) .none kV doc pm an cdv ct), osl⟩) (c : PySem.W.codeIn K cdv x = true) (k : PySem.W.keepIn K (.ref f) = true) : DefIn K mg x st :=
  ⟨f, _, fun_mk l c k, PySem.W.mg_of X G a⟩
/-- .. whose code object is told -/
def DefC (K : PySem.W.Frag) (mg : PySem.Str → Option Value) (x : PySem.Str) (st : Stmt) (c : Addr) : Prop := ∃ (f : Addr) (fd : FuncData), Fun K x x st f fd ∧ mg x = some (.ref f) ∧ fd.code = .ref c
theorem def_atC {x : PySem.Str} {st : Stmt} {f cd : Addr} {oc : Value} {od an : Option Addr} {osl : Array (Option Value)} {kV doc pm ct : Value} (X : K.In h) (G : h.Ns mainGlobals mg) (a : PySem.W.nsIn K mainGlobals x = some (some (.ref f)))
    (l : K.lookup f = some ⟨oc, od, .func (PySem.W.fnOf x x (defArgs st) (defBody st) (defScope st) .none kV doc pm an (.ref cd) ct), osl⟩) (c : PySem.W.codeIn K (.ref cd) x = true) (k : PySem.W.keepIn K (.ref f) = true) : DefC K mg x st cd :=
  ⟨f, _, fun_mk l c k, PySem.W.mg_of X G a, rfl⟩
theorem exm_same {S : Addr} (h1 : PySem.W.subIn K (.ref S) (.type "BaseException") = some true) (h2 : PySem.W.isClsIn K S = true) (h3 : PySem.W.typeIn K (.ref S) = some (.type "type")) (h4 : PySem.W.subIn K (.ref S) (.ref S) = some true) :
    PySem.W.exmOne K (.ref S) (.ref S) = some true := by
  have e1 : (PySem.W.subIn K (.ref S) (.type "BaseException") == some true) = true := by rw [h1] <;> rfl
  have e2 : ((PySem.W.clsIn K S).isSome && PySem.W.typeIn K (.ref S) == some (.type "type")) = true := by
    have h2' : (PySem.W.clsIn K S).isSome = true := h2
    rw [h2', h3] <;> rfl
  show (if (PySem.W.subIn K (.ref S) (.type "BaseException") == some true) = true then (if ((PySem.W.clsIn K S).isSome && PySem.W.typeIn K (.ref S) == some (.type "type")) = true then PySem.W.subIn K (.ref S) (.ref S) else none) else none) = some true
  rw [if_pos e1, if_pos e2]
  exact h4
theorem lack_mk {C CT N : Addr} {nm q : PySem.Str} {bs bm : List Value} {sn : List PySem.Str} {sub : List Value} {ab : Bool} {col : Option Bool} {dd : Option Addr} {m0 m1 m2 m3 m5 : Option Value} (X : K.In h) (G : h.Ns mainGlobals mg)
    (aC : PySem.W.nsIn K mainGlobals "Lack" = some (some (.ref C))) (aT : PySem.W.nsIn K mainGlobals "TowerError" = some (some (.ref CT)))
    (xL : K.lookup C = some (excClassObj nm q C N bs bm true sn sub ab col dd m0 m1 m2 m3 m5 "ValueError.__new__")) (rv : PySem.HandSPX.refsVE bm = true)
    (sa : PySem.W.findIn K (.ref C) "__setattr__" = some (some (.builtin "object.__setattr__"))) (ga : PySem.W.findIn K (.ref C) "__getattribute__" = some (some (.builtin "BaseException.__getattribute__"))) (gg : PySem.W.findIn K (.ref C) "__getattr__" = some none)
    (nW : PySem.W.findIn K (.ref C) "wants" = some none) (nF : PySem.W.findIn K (.ref C) "flags" = some none)
    (kC : PySem.W.keepIn K (.ref C) = true) (eC : PySem.W.subIn K (.ref C) (.type "BaseException") = some true) (tC : PySem.W.typeIn K (.ref C) = some (.type "type")) (hC : PySem.W.hasDictIn K C = true) (iC : PySem.W.isClsIn K C = true) (sC : PySem.W.subIn K (.ref C) (.ref C) = some true)
    (u1 : PySem.W.specialIn K (.ref CT) "__getattribute__" = some (some (.builtin "type.__getattribute__"))) (u2 : PySem.W.readsIn K CT (.type "type") = true) (u3 : PySem.W.findCls K (.ref CT) (.type "type") "__init__" = some (.val (.builtin "ValueError.__init__"))) : LackC K mg C CT :=
  ⟨⟨⟨nm, q, N, bs, bm, sn, sub, ab, col, dd, m0, m1, m2, m3, m5, xL, rv⟩, sa, eC, tC, kC⟩, ⟨ga, gg, eC, hC⟩, nW, nF, PySem.W.mg_of X G aC, ⟨PySem.W.mg_of X G aT, u1, u2, u3⟩, exm_same eC iC tC sC⟩
theorem tab_empty {H : Hp} {P : Addr} {q : PySem.Str} (e : H P = some (.tbl #[])) : LamX.TabS H P q :=
  ⟨#[], e, trivial, fun pos cv hc => by cases hc⟩
end

theorem all_mk {P : Program} {w : World} {K : PySem.W.Frag} {mg : PySem.Str → Option Value} {fa C CT fLi cS PT : Addr} {fdLi : FuncData} (T : Txt K mg) (LC : LackC K mg C CT) (U_Li : Fun K "__init__" "Lack.__init__" s_Lack_init fLi fdLi)
    (iC : PySem.W.findIn K (.ref C) "__init__" = some (some (.ref fLi))) (tI : PySem.W.typeIn K (.ref fLi) = some (.type "function")) (hfa : mg "law" = some (.ref fa))
    (D_is_fit : DefIn K mg "is_fit" s_is_fit)
    (D_is_hoist : DefIn K mg "is_hoist" s_is_hoist)
    (D_read_of : DefIn K mg "read_of" s_read_of)
    (D_choices_at : DefIn K mg "choices_at" s_choices_at)
    (D_wants_of : DefIn K mg "wants_of" s_wants_of)
    (D_hoists_of : DefIn K mg "hoists_of" s_hoists_of)
    (D_reach_from : DefIn K mg "reach_from" s_reach_from)
    (D_hang_along : DefIn K mg "hang_along" s_hang_along)
    (D_hang_all : DefIn K mg "hang_all" s_hang_all)
    (D_lack_of : DefIn K mg "lack_of" s_lack_of)
    (D_rising_lists : DefIn K mg "rising_lists" s_rising_lists)
    (D_sets_of : DefIn K mg "sets_of" s_sets_of)
    (D_plain_locker : DefIn K mg "plain_locker" s_plain_locker)
    (D_taken : DefIn K mg "taken" s_taken)
    (D_put_in : DefIn K mg "put_in" s_put_in)
    (D_others_hung : DefIn K mg "others_hung" s_others_hung)
    (D_words_with : DefIn K mg "words_with" s_words_with)
    (D_locker_with : DefIn K mg "locker_with" s_locker_with)
    (D_rehung : DefIn K mg "rehung" s_rehung)
    (D_hauled : DefIn K mg "hauled" s_hauled)
    (D_hauling_papers : DefIn K mg "hauling_papers" s_hauling_papers)
    (D_law_cell : DefIn K mg "_law_cell" s_law_cell)
    (D_law_stream : DefIn K mg "_law_stream" s_law_stream)
    (D_law_letters : DefIn K mg "_law_letters" s_law_letters)
    (D_law_word : DefIn K mg "_law_word" s_law_word)
    (D_law_locker : DefIn K mg "_law_locker" s_law_locker)
    (D_law_choices : DefIn K mg "_law_choices" s_law_choices)
    (D_law_reads : DefIn K mg "_law_reads" s_law_reads)
    (D_law_lack : DefIn K mg "_law_lack" s_law_lack)
    (D_law_read : DefIn K mg "_law_read" s_law_read)
    (D_law_sets : DefC K mg "_law_sets" s_law_sets cS)
    (D_law_with : DefIn K mg "_law_with" s_law_with)
    (D_law_same : DefIn K mg "_law_same" s_law_same)
    (D_law_asked : DefIn K mg "_law_asked" s_law_asked)
    (D_law_hung : DefIn K mg "_law_hung" s_law_hung)
    (D_law_others : DefIn K mg "_law_others" s_law_others)
    (D_law_papers : DefIn K mg "_law_papers" s_law_papers)
    (D_law_good : DefIn K mg "_law_good" s_law_good)
    (D_law : DefIn K mg "law" s_law) :
    ∃ fd : FuncData, (∀ (s : Shared) (u : Value), BindsTo s fd ⟨[u], []⟩ [("_law_script", u)]) ∧ ∀ base : Heap, LamX.TabB base mg cS PT → FnOk P w K mg base L2.CX0 12 fa fd ["_law_script"] (spLaw K [(PT, ("_law_sets.<locals>.<lambda>" : PySem.Str))]) := by
  obtain ⟨f_is_fit, fd_is_fit, U_is_fit, m_is_fit⟩ := D_is_fit
  have b_is_fit : Binds K fd_is_fit ["flag", "ahead"] [] := U_is_fit.binds fun _ _ _ _ _ _ us hl => match us, hl with | [_, _], _ => rfl
  obtain ⟨f_is_hoist, fd_is_hoist, U_is_hoist, m_is_hoist⟩ := D_is_hoist
  have b_is_hoist : Binds K fd_is_hoist ["flags"] [] := U_is_hoist.binds fun _ _ _ _ _ _ us hl => match us, hl with | [_], _ => rfl
  obtain ⟨f_read_of, fd_read_of, U_read_of, m_read_of⟩ := D_read_of
  have b_read_of : Binds K fd_read_of ["flags"] [] := U_read_of.binds fun _ _ _ _ _ _ us hl => match us, hl with | [_], _ => rfl
  obtain ⟨f_choices_at, fd_choices_at, U_choices_at, m_choices_at⟩ := D_choices_at
  have b_choices_at : Binds K fd_choices_at ["word", "place"] [] := U_choices_at.binds fun _ _ _ _ _ _ us hl => match us, hl with | [_, _], _ => rfl
  obtain ⟨f_wants_of, fd_wants_of, U_wants_of, m_wants_of⟩ := D_wants_of
  have b_wants_of : Binds K fd_wants_of ["words"] [] := U_wants_of.binds fun _ _ _ _ _ _ us hl => match us, hl with | [_], _ => rfl
  obtain ⟨f_hoists_of, fd_hoists_of, U_hoists_of, m_hoists_of⟩ := D_hoists_of
  have b_hoists_of : Binds K fd_hoists_of ["words", "flags"] [] := U_hoists_of.binds fun _ _ _ _ _ _ us hl => match us, hl with | [_, _], _ => rfl
  obtain ⟨f_reach_from, fd_reach_from, U_reach_from, m_reach_from⟩ := D_reach_from
  have b_reach_from : Binds K fd_reach_from ["choices", "held", "locker", "start"] [] := U_reach_from.binds fun _ _ _ _ _ _ us hl => match us, hl with | [_, _, _, _], _ => rfl
  obtain ⟨f_hang_along, fd_hang_along, U_hang_along, m_hang_along⟩ := D_hang_along
  have b_hang_along : Binds K fd_hang_along ["came", "held", "hung", "flag"] [] := U_hang_along.binds fun _ _ _ _ _ _ us hl => match us, hl with | [_, _, _, _], _ => rfl
  obtain ⟨f_hang_all, fd_hang_all, U_hang_all, m_hang_all⟩ := D_hang_all
  have b_hang_all : Binds K fd_hang_all ["locker", "words"] [] := U_hang_all.binds fun _ _ _ _ _ _ us hl => match us, hl with | [_, _], _ => rfl
  obtain ⟨f_lack_of, fd_lack_of, U_lack_of, m_lack_of⟩ := D_lack_of
  have b_lack_of : Binds K fd_lack_of ["locker", "words"] [] := U_lack_of.binds fun _ _ _ _ _ _ us hl => match us, hl with | [_, _], _ => rfl
  obtain ⟨f_rising_lists, fd_rising_lists, U_rising_lists, m_rising_lists⟩ := D_rising_lists
  have b_rising_lists : Binds K fd_rising_lists ["numbers", "size"] [] := U_rising_lists.binds fun _ _ _ _ _ _ us hl => match us, hl with | [_, _], _ => rfl
  obtain ⟨f_sets_of, fd_sets_of, U_sets_of, m_sets_of⟩ := D_sets_of
  have b_sets_of : Binds K fd_sets_of ["numbers"] [] := U_sets_of.binds fun _ _ _ _ _ _ us hl => match us, hl with | [_], _ => rfl
  obtain ⟨f_plain_locker, fd_plain_locker, U_plain_locker, m_plain_locker⟩ := D_plain_locker
  have b_plain_locker : Binds K fd_plain_locker ["locker"] [] := U_plain_locker.binds fun _ _ _ _ _ _ us hl => match us, hl with | [_], _ => rfl
  obtain ⟨f_taken, fd_taken, U_taken, m_taken⟩ := D_taken
  have b_taken : Binds K fd_taken ["locker", "flags"] [] := U_taken.binds fun _ _ _ _ _ _ us hl => match us, hl with | [_, _], _ => rfl
  obtain ⟨f_put_in, fd_put_in, U_put_in, m_put_in⟩ := D_put_in
  have b_put_in : Binds K fd_put_in ["locker", "flags"] [] := U_put_in.binds fun _ _ _ _ _ _ us hl => match us, hl with | [_, _], _ => rfl
  obtain ⟨f_others_hung, fd_others_hung, U_others_hung, m_others_hung⟩ := D_others_hung
  have b_others_hung : Binds K fd_others_hung ["halyards", "number"] [] := U_others_hung.binds fun _ _ _ _ _ _ us hl => match us, hl with | [_, _], _ => rfl
  obtain ⟨f_words_with, fd_words_with, U_words_with, m_words_with⟩ := D_words_with
  have b_words_with : Binds K fd_words_with ["halyards", "word", "lowered"] [] := U_words_with.binds fun _ _ _ _ _ _ us hl => match us, hl with | [_, _, _], _ => rfl
  obtain ⟨f_locker_with, fd_locker_with, U_locker_with, m_locker_with⟩ := D_locker_with
  have b_locker_with : Binds K fd_locker_with ["locker", "halyards", "numbers"] [] := U_locker_with.binds fun _ _ _ _ _ _ us hl => match us, hl with | [_, _, _], _ => rfl
  obtain ⟨f_rehung, fd_rehung, U_rehung, m_rehung⟩ := D_rehung
  have b_rehung : Binds K fd_rehung ["locker", "halyards", "numbers", "hoists"] [] := U_rehung.binds fun _ _ _ _ _ _ us hl => match us, hl with | [_, _, _, _], _ => rfl
  obtain ⟨f_hauled, fd_hauled, U_hauled, m_hauled⟩ := D_hauled
  have b_hauled : Binds K fd_hauled ["locker", "halyards", "number", "word"] [] := U_hauled.binds fun _ _ _ _ _ _ us hl => match us, hl with | [_, _, _, _], _ => rfl
  obtain ⟨f_hauling_papers, fd_hauling_papers, U_hauling_papers, m_hauling_papers⟩ := D_hauling_papers
  have b_hauling_papers : Binds K fd_hauling_papers ["locker", "halyards", "number", "word"] [] := U_hauling_papers.binds fun _ _ _ _ _ _ us hl => match us, hl with | [_, _, _, _], _ => rfl
  obtain ⟨f_law_cell, fd_law_cell, U_law_cell, m_law_cell⟩ := D_law_cell
  have b_law_cell : Binds K fd_law_cell ["_law_script", "_law_k"] [] := U_law_cell.binds fun _ _ _ _ _ _ us hl => match us, hl with | [_, _], _ => rfl
  obtain ⟨f_law_stream, fd_law_stream, U_law_stream, m_law_stream⟩ := D_law_stream
  have b_law_stream : Binds K fd_law_stream ["_law_cell_here", "_law_many"] [] := U_law_stream.binds fun _ _ _ _ _ _ us hl => match us, hl with | [_, _], _ => rfl
  obtain ⟨f_law_letters, fd_law_letters, U_law_letters, m_law_letters⟩ := D_law_letters
  have b_law_letters : Binds K fd_law_letters ["_law_script"] [] := U_law_letters.binds fun _ _ _ _ _ _ us hl => match us, hl with | [_], _ => rfl
  obtain ⟨f_law_word, fd_law_word, U_law_word, m_law_word⟩ := D_law_word
  have b_law_word : Binds K fd_law_word ["_law_cell_here", "_law_letters_here", "_law_most"] [] := U_law_word.binds fun _ _ _ _ _ _ us hl => match us, hl with | [_, _, _], _ => rfl
  obtain ⟨f_law_locker, fd_law_locker, U_law_locker, m_law_locker⟩ := D_law_locker
  have b_law_locker : Binds K fd_law_locker ["_law_cell_here", "_law_letters_here", "_law_most"] [] := U_law_locker.binds fun _ _ _ _ _ _ us hl => match us, hl with | [_, _, _], _ => rfl
  obtain ⟨f_law_choices, fd_law_choices, U_law_choices, m_law_choices⟩ := D_law_choices
  have b_law_choices : Binds K fd_law_choices ["_law_word_here", "_law_place"] [] := U_law_choices.binds fun _ _ _ _ _ _ us hl => match us, hl with | [_, _], _ => rfl
  obtain ⟨f_law_reads, fd_law_reads, U_law_reads, m_law_reads⟩ := D_law_reads
  have b_law_reads : Binds K fd_law_reads ["_law_hoist", "_law_word_here"] [] := U_law_reads.binds fun _ _ _ _ _ _ us hl => match us, hl with | [_, _], _ => rfl
  obtain ⟨f_law_lack, fd_law_lack, U_law_lack, m_law_lack⟩ := D_law_lack
  have b_law_lack : Binds K fd_law_lack ["_law_locker_here", "_law_words", "_law_wants", "_law_flags"] [] := U_law_lack.binds fun _ _ _ _ _ _ us hl => match us, hl with | [_, _, _, _], _ => rfl
  obtain ⟨f_law_read, fd_law_read, U_law_read, m_law_read⟩ := D_law_read
  have b_law_read : Binds K fd_law_read ["_law_hoist"] [] := U_law_read.binds fun _ _ _ _ _ _ us hl => match us, hl with | [_], _ => rfl
  obtain ⟨f_law_sets, fd_law_sets, U_law_sets, m_law_sets, hcode⟩ := D_law_sets
  have b_law_sets : Binds K fd_law_sets ["_law_numbers"] [] := U_law_sets.binds fun _ _ _ _ _ _ us hl => match us, hl with | [_], _ => rfl
  obtain ⟨f_law_with, fd_law_with, U_law_with, m_law_with⟩ := D_law_with
  have b_law_with : Binds K fd_law_with ["_law_locker_here", "_law_halyards", "_law_numbers"] [] := U_law_with.binds fun _ _ _ _ _ _ us hl => match us, hl with | [_, _, _], _ => rfl
  obtain ⟨f_law_same, fd_law_same, U_law_same, m_law_same⟩ := D_law_same
  have b_law_same : Binds K fd_law_same ["_law_one", "_law_other"] [] := U_law_same.binds fun _ _ _ _ _ _ us hl => match us, hl with | [_, _], _ => rfl
  obtain ⟨f_law_asked, fd_law_asked, U_law_asked, m_law_asked⟩ := D_law_asked
  have b_law_asked : Binds K fd_law_asked ["_law_locker_here", "_law_halyards", "_law_number", "_law_word_here"] [] := U_law_asked.binds fun _ _ _ _ _ _ us hl => match us, hl with | [_, _, _, _], _ => rfl
  obtain ⟨f_law_hung, fd_law_hung, U_law_hung, m_law_hung⟩ := D_law_hung
  have b_law_hung : Binds K fd_law_hung ["_law_locker_here", "_law_halyards", "_law_number", "_law_word_here", "_law_found"] [] := U_law_hung.binds fun _ _ _ _ _ _ us hl => match us, hl with | [_, _, _, _, _], _ => rfl
  obtain ⟨f_law_others, fd_law_others, U_law_others, m_law_others⟩ := D_law_others
  have b_law_others : Binds K fd_law_others ["_law_halyards", "_law_number"] [] := U_law_others.binds fun _ _ _ _ _ _ us hl => match us, hl with | [_, _], _ => rfl
  obtain ⟨f_law_papers, fd_law_papers, U_law_papers, m_law_papers⟩ := D_law_papers
  have b_law_papers : Binds K fd_law_papers ["_law_locker_here", "_law_halyards", "_law_number", "_law_word_here", "_law_lowered"] [] := U_law_papers.binds fun _ _ _ _ _ _ us hl => match us, hl with | [_, _, _, _, _], _ => rfl
  obtain ⟨f_law_good, fd_law_good, U_law_good, m_law_good⟩ := D_law_good
  have b_law_good : Binds K fd_law_good ["_law_locker_here", "_law_halyards", "_law_number", "_law_word_here"] [] := U_law_good.binds fun _ _ _ _ _ _ us hl => match us, hl with | [_, _, _, _], _ => rfl
  have b_Li : Binds K fdLi ["self", "wants", "flags"] [] := U_Li.binds fun _ _ _ _ _ _ us hl => match us, hl with | [_, _, _], _ => rfl
  obtain ⟨f_law, fd_law, U_law, m_law⟩ := D_law
  obtain rfl : fa = f_law := by
    rw [hfa] at m_law
    cases m_law
    rfl
  have bl : ∀ (s : Shared) (u : Value), BindsTo s fd_law ⟨[u], []⟩ [("_law_script", u)] := fun s u => by
    obtain ⟨oc, od, kV, doc, pm, an, cdv, ct, osl, rfl, lk, hcd⟩ := U_law.ex
    exact .of_eq rfl
  refine ⟨fd_law, bl, fun base TB => ?_⟩
  generalize etb : [(PT, ("_law_sets.<locals>.<lambda>" : PySem.Str))] = tbs
  have hmT : (PT, ("_law_sets.<locals>.<lambda>" : PySem.Str)) ∈ tbs := by rw [← etb]; exact List.mem_singleton.mpr rfl
  have huT : ∀ p ∈ tbs, p.1 = PT → p.2 = ("_law_sets.<locals>.<lambda>" : PySem.Str) := fun p hp _ => by
    rw [← etb, List.mem_singleton] at hp
    rw [hp]
  have F_Li : FnOk P w K mg base L2.CX0 1 fLi fdLi ["self", "wants", "flags"] (spLackInit C) := ok_Lack_init (k := 0) U_Li LC
  have C_is_fit : Cf P w K mg base 1 "is_fit" spIsFit := ⟨f_is_fit, fd_is_fit, _, ok_is_fit (k := 0) U_is_fit T, m_is_fit, U_is_fit.kp, b_is_fit⟩
  have C_is_hoist : Cf P w K mg base 2 "is_hoist" (spIsHoist tbs) := ⟨f_is_hoist, fd_is_hoist, _, ok_is_hoist (k := 0) U_is_hoist T C_is_fit, m_is_hoist, U_is_hoist.kp, b_is_hoist⟩
  have C_read_of : Cf P w K mg base 3 "read_of" (spReadOf tbs) := ⟨f_read_of, fd_read_of, _, ok_read_of U_read_of T C_is_hoist, m_read_of, U_read_of.kp, b_read_of⟩
  have C_choices_at : Cf P w K mg base 1 "choices_at" (spChoicesAt tbs) := ⟨f_choices_at, fd_choices_at, _, ok_choices_at (k := 0) U_choices_at T, m_choices_at, U_choices_at.kp, b_choices_at⟩
  have C_wants_of : Cf P w K mg base 1 "wants_of" (spWantsOf tbs) := ⟨f_wants_of, fd_wants_of, _, ok_wants_of U_wants_of T, m_wants_of, U_wants_of.kp, b_wants_of⟩
  have C_hoists_of : Cf P w K mg base 1 "hoists_of" (spHoistsOf tbs) := ⟨f_hoists_of, fd_hoists_of, _, ok_hoists_of U_hoists_of T, m_hoists_of, U_hoists_of.kp, b_hoists_of⟩
  have C_reach_from : Cf P w K mg base 1 "reach_from" (spReach tbs) := ⟨f_reach_from, fd_reach_from, _, ok_reach_from (k := 0) U_reach_from T, m_reach_from, U_reach_from.kp, b_reach_from⟩
  have C_hang_along : Cf P w K mg base 1 "hang_along" (spAlong tbs) := ⟨f_hang_along, fd_hang_along, _, ok_hang_along (k := 0) U_hang_along T, m_hang_along, U_hang_along.kp, b_hang_along⟩
  have C_hang_all : Cr P w K mg base 3 "hang_all" (spHangAll tbs C) := ⟨f_hang_all, fd_hang_all, _, ok_hang_all U_hang_all T LC F_Li b_Li iC tI C_wants_of C_choices_at C_reach_from C_hang_along C_hoists_of, m_hang_all, U_hang_all.kp, b_hang_all⟩
  have C_lack_of : Cf P w K mg base 4 "lack_of" (spLackOf tbs) := ⟨f_lack_of, fd_lack_of, _, ok_lack_of U_lack_of T LC C_hang_all, m_lack_of, U_lack_of.kp, b_lack_of⟩
  have C_rising_lists : Cf P w K mg base 6 "rising_lists" (spRising tbs 6) := ⟨f_rising_lists, fd_rising_lists, _, ok_rising_lists U_rising_lists T m_rising_lists U_rising_lists.kp b_rising_lists 6, m_rising_lists, U_rising_lists.kp, b_rising_lists⟩
  have C_sets_of : Cf P w K mg base 7 "sets_of" (spSets tbs) := ⟨f_sets_of, fd_sets_of, _, ok_sets_of U_sets_of T C_rising_lists, m_sets_of, U_sets_of.kp, b_sets_of⟩
  have C_plain_locker : Cf P w K mg base 1 "plain_locker" (spPlain tbs) := ⟨f_plain_locker, fd_plain_locker, _, ok_plain_locker (k := 0) U_plain_locker T, m_plain_locker, U_plain_locker.kp, b_plain_locker⟩
  have C_taken : Cf P w K mg base 2 "taken" (spTaken tbs) := ⟨f_taken, fd_taken, _, ok_taken U_taken T C_plain_locker, m_taken, U_taken.kp, b_taken⟩
  have C_put_in : Cf P w K mg base 2 "put_in" (spPutIn tbs) := ⟨f_put_in, fd_put_in, _, ok_put_in U_put_in T C_plain_locker, m_put_in, U_put_in.kp, b_put_in⟩
  have C_others_hung : Cf P w K mg base 1 "others_hung" (spOthers tbs) := ⟨f_others_hung, fd_others_hung, _, ok_others_hung (k := 0) U_others_hung T, m_others_hung, U_others_hung.kp, b_others_hung⟩
  have C_words_with : Cf P w K mg base 4 "words_with" (spWordsWith tbs) := ⟨f_words_with, fd_words_with, _, ok_words_with U_words_with T C_read_of, m_words_with, U_words_with.kp, b_words_with⟩
  have C_locker_with : Cf P w K mg base 3 "locker_with" (spLockerWith tbs) := ⟨f_locker_with, fd_locker_with, _, ok_locker_with U_locker_with T C_put_in, m_locker_with, U_locker_with.kp, b_locker_with⟩
  have C_rehung : Cf P w K mg base 3 "rehung" (spRehung tbs) := ⟨f_rehung, fd_rehung, _, ok_rehung U_rehung T C_taken, m_rehung, U_rehung.kp, b_rehung⟩
  have C_hauled : Cr P w K mg base 8 "hauled" (spHauled tbs C) := ⟨f_hauled, fd_hauled, _, ok_hauled U_hauled T C_others_hung C_sets_of C_locker_with C_words_with C_lack_of C_rehung C_hang_all, m_hauled, U_hauled.kp, b_hauled⟩
  have C_hauling_papers : Cf P w K mg base 9 "hauling_papers" (spPapers tbs C) := ⟨f_hauling_papers, fd_hauling_papers, _, ok_hauling_papers U_hauling_papers T C_others_hung C_sets_of C_locker_with C_words_with C_lack_of C_hauled, m_hauling_papers, U_hauling_papers.kp, b_hauling_papers⟩
  have C_law_cell : Cf P w K mg base 1 "_law_cell" (spLCell K) := ⟨f_law_cell, fd_law_cell, _, ok_law_cell (k := 0) U_law_cell T, m_law_cell, U_law_cell.kp, b_law_cell⟩
  have C_law_stream : Cf P w K mg base 1 "_law_stream" (spLStream tbs) := ⟨f_law_stream, fd_law_stream, _, ok_law_stream (k := 0) U_law_stream T, m_law_stream, U_law_stream.kp, b_law_stream⟩
  have C_law_letters : Cf P w K mg base 2 "_law_letters" (spLLetters K tbs) := ⟨f_law_letters, fd_law_letters, _, ok_law_letters U_law_letters T C_law_cell, m_law_letters, U_law_letters.kp, b_law_letters⟩
  have C_law_word : Cf P w K mg base 2 "_law_word" (spLWord tbs) := ⟨f_law_word, fd_law_word, _, ok_law_word U_law_word T C_law_stream, m_law_word, U_law_word.kp, b_law_word⟩
  have C_law_locker : Cf P w K mg base 2 "_law_locker" (spLLocker tbs) := ⟨f_law_locker, fd_law_locker, _, ok_law_locker U_law_locker T C_law_stream, m_law_locker, U_law_locker.kp, b_law_locker⟩
  have C_law_choices : Cf P w K mg base 1 "_law_choices" (spChoicesAt tbs) := ⟨f_law_choices, fd_law_choices, _, ok_law_choices (k := 0) U_law_choices T, m_law_choices, U_law_choices.kp, b_law_choices⟩
  have C_law_reads : Cf P w K mg base 2 "_law_reads" (spLReads tbs) := ⟨f_law_reads, fd_law_reads, _, ok_law_reads U_law_reads T C_law_choices, m_law_reads, U_law_reads.kp, b_law_reads⟩
  have C_law_lack : Cf P w K mg base 2 "_law_lack" (spLLack tbs) := ⟨f_law_lack, fd_law_lack, _, ok_law_lack U_law_lack T C_law_choices, m_law_lack, U_law_lack.kp, b_law_lack⟩
  have C_law_read : Cf P w K mg base 1 "_law_read" (spReadOf tbs) := ⟨f_law_read, fd_law_read, _, ok_law_read (k := 0) U_law_read T, m_law_read, U_law_read.kp, b_law_read⟩
  have C_law_sets : Cf P w K mg base 4 "_law_sets" (spLSets tbs) := ⟨f_law_sets, fd_law_sets, _, ok_law_sets U_law_sets hcode T TB hmT huT, m_law_sets, U_law_sets.kp, b_law_sets⟩
  have C_law_with : Cf P w K mg base 1 "_law_with" (spLWith tbs) := ⟨f_law_with, fd_law_with, _, ok_law_with (k := 0) U_law_with T, m_law_with, U_law_with.kp, b_law_with⟩
  have C_law_same : Cf P w K mg base 1 "_law_same" (spLSame tbs) := ⟨f_law_same, fd_law_same, _, ok_law_same (k := 0) U_law_same T, m_law_same, U_law_same.kp, b_law_same⟩
  have C_law_asked : Cf P w K mg base 9 "_law_asked" (spLAsked tbs) := ⟨f_law_asked, fd_law_asked, _, ok_law_asked U_law_asked LC C_hauled, m_law_asked, U_law_asked.kp, b_law_asked⟩
  have C_law_hung : Cf P w K mg base 3 "_law_hung" (spLHung tbs) := ⟨f_law_hung, fd_law_hung, _, ok_law_hung U_law_hung T C_law_reads C_law_read C_law_with C_law_same, m_law_hung, U_law_hung.kp, b_law_hung⟩
  have C_law_others : Cf P w K mg base 1 "_law_others" (spOthers tbs) := ⟨f_law_others, fd_law_others, _, ok_law_others (k := 0) U_law_others T, m_law_others, U_law_others.kp, b_law_others⟩
  have C_law_papers : Cf P w K mg base 10 "_law_papers" (spLPapers tbs) := ⟨f_law_papers, fd_law_papers, _, ok_law_papers U_law_papers T C_law_others C_law_sets C_hauling_papers C_law_read C_law_with C_law_lack, m_law_papers, U_law_papers.kp, b_law_papers⟩
  have C_law_good : Cf P w K mg base 11 "_law_good" (spLGood tbs) := ⟨f_law_good, fd_law_good, _, ok_law_good (C := C) U_law_good T C_law_asked C_law_hung C_law_papers C_law_others C_law_read C_law_with C_law_lack, m_law_good, U_law_good.kp, b_law_good⟩
  exact ok_law (C := C) U_law T C_law_cell C_law_letters C_law_word C_law_locker C_law_good
section
open PySem.Spec PyProof.Rows
def LackIn (K : PySem.W.Frag) (mg : PySem.Str → Option Value) : Prop := ∃ (C CT fLi : Addr) (fdLi : FuncData), LackC K mg C CT ∧ Fun K "__init__" "Lack.__init__" s_Lack_init fLi fdLi ∧ PySem.W.findIn K (.ref C) "__init__" = some (some (.ref fLi)) ∧ PySem.W.typeIn K (.ref fLi) = some (.type "function")
def SetsIn (K : PySem.W.Frag) (mg : PySem.Str → Option Value) (c PT : Addr) : Prop := DefC K mg "_law_sets" s_law_sets c ∧ PySem.W.tabIn K "_law_sets" = some (c, PT) ∧ K.lookup PT = none
theorem setsIn_mk {K : PySem.W.Frag} {h : Heap} {mg : PySem.Str → Option Value} {f cd PT : Addr} {oc e1 : Value} {od an e2 : Option Addr} {osl e3 : Array (Option Value)} {vs : Array Value} {kV doc pm ct : Value} (X : K.In h) (G : h.Ns mainGlobals mg) (a : PySem.W.nsIn K mainGlobals "_law_sets" = some (some (.ref f)))
    (l : K.lookup f = some ⟨oc, od, .func (PySem.W.fnOf "_law_sets" "_law_sets" (defArgs s_law_sets) (defBody s_law_sets) (defScope s_law_sets) .none kV doc pm an (.ref cd) ct), osl⟩) (c : PySem.W.codeIn K (.ref cd) "_law_sets" = true) (k : PySem.W.keepIn K (.ref f) = true)
    (lc : K.lookup cd = some ⟨e1, e2, .fields vs, e3⟩) (h11 : vs[11]? = some (.ref PT)) (n : K.lookup PT = none) : ∃ c PT, SetsIn K mg c PT :=
  ⟨cd, PT, def_atC X G a l c k, by
    unfold PySem.W.tabIn
    rw [a]
    show (match K.lookup f with
      | some ⟨_, _, .func fd, _⟩ => (match fd.code with
        | .ref c => (match K.lookup c with
          | some ⟨_, _, .fields vs, _⟩ => (match (vs[11]? : Option Value) with
            | some (.ref P) => some (c, P)
            | _ => none)
          | _ => none)
        | _ => none)
      | _ => none) = _
    rw [l]
    show (match K.lookup cd with
          | some ⟨_, _, .fields vs, _⟩ => (match (vs[11]? : Option Value) with
            | some (.ref P) => some (cd, P)
            | _ => none)
          | _ => none) = _
    rw [lc]
    show (match (vs[11]? : Option Value) with
            | some (.ref P) => some (cd, P)
            | _ => none) = _
    rw [h11], n⟩
theorem law_at {l : PySem.W.OpenLaw} {w : World} {K : PySem.W.Frag} {h : Heap} {mg : PySem.Str → Option Value} {fa : Addr} (T : Txt K mg) (LI : LackIn K mg) (hfa : mg "law" = some (.ref fa))
    (SI : ∃ c PT, SetsIn K mg c PT) (TA : ∀ c PT, PySem.W.tabIn K "_law_sets" = some (c, PT) → PySem.W.CodeHd h c PT ∧ h.get? PT = some { cls := .none, data := .fields #[] })
    (D_is_fit : DefIn K mg "is_fit" s_is_fit)
    (D_is_hoist : DefIn K mg "is_hoist" s_is_hoist)
    (D_read_of : DefIn K mg "read_of" s_read_of)
    (D_choices_at : DefIn K mg "choices_at" s_choices_at)
    (D_wants_of : DefIn K mg "wants_of" s_wants_of)
    (D_hoists_of : DefIn K mg "hoists_of" s_hoists_of)
    (D_reach_from : DefIn K mg "reach_from" s_reach_from)
    (D_hang_along : DefIn K mg "hang_along" s_hang_along)
    (D_hang_all : DefIn K mg "hang_all" s_hang_all)
    (D_lack_of : DefIn K mg "lack_of" s_lack_of)
    (D_rising_lists : DefIn K mg "rising_lists" s_rising_lists)
    (D_sets_of : DefIn K mg "sets_of" s_sets_of)
    (D_plain_locker : DefIn K mg "plain_locker" s_plain_locker)
    (D_taken : DefIn K mg "taken" s_taken)
    (D_put_in : DefIn K mg "put_in" s_put_in)
    (D_others_hung : DefIn K mg "others_hung" s_others_hung)
    (D_words_with : DefIn K mg "words_with" s_words_with)
    (D_locker_with : DefIn K mg "locker_with" s_locker_with)
    (D_rehung : DefIn K mg "rehung" s_rehung)
    (D_hauled : DefIn K mg "hauled" s_hauled)
    (D_hauling_papers : DefIn K mg "hauling_papers" s_hauling_papers)
    (D_law_cell : DefIn K mg "_law_cell" s_law_cell)
    (D_law_stream : DefIn K mg "_law_stream" s_law_stream)
    (D_law_letters : DefIn K mg "_law_letters" s_law_letters)
    (D_law_word : DefIn K mg "_law_word" s_law_word)
    (D_law_locker : DefIn K mg "_law_locker" s_law_locker)
    (D_law_choices : DefIn K mg "_law_choices" s_law_choices)
    (D_law_reads : DefIn K mg "_law_reads" s_law_reads)
    (D_law_lack : DefIn K mg "_law_lack" s_law_lack)
    (D_law_read : DefIn K mg "_law_read" s_law_read)
    (D_law_with : DefIn K mg "_law_with" s_law_with)
    (D_law_same : DefIn K mg "_law_same" s_law_same)
    (D_law_asked : DefIn K mg "_law_asked" s_law_asked)
    (D_law_hung : DefIn K mg "_law_hung" s_law_hung)
    (D_law_others : DefIn K mg "_law_others" s_law_others)
    (D_law_papers : DefIn K mg "_law_papers" s_law_papers)
    (D_law_good : DefIn K mg "_law_good" s_law_good)
    (D_law : DefIn K mg "law" s_law) : LamX.LawAtS l w K L2.CX0 12 63 "_law_script" mg fa h := by
  obtain ⟨C, CT, fLi, fdLi, LC, U_Li, iC, tI⟩ := LI
  obtain ⟨c, PT, D_law_sets, htab, nT⟩ := SI
  obtain ⟨CH, hT⟩ := TA c PT htab
  obtain ⟨fd, hb, hF⟩ := all_mk (P := l.prog) (w := w) (PT := PT) T LC U_Li iC tI hfa D_is_fit D_is_hoist D_read_of D_choices_at D_wants_of D_hoists_of D_reach_from D_hang_along D_hang_all D_lack_of D_rising_lists D_sets_of D_plain_locker D_taken D_put_in D_others_hung D_words_with D_locker_with D_rehung D_hauled D_hauling_papers D_law_cell D_law_stream D_law_letters D_law_word D_law_locker D_law_choices D_law_reads D_law_lack D_law_read D_law_sets D_law_with D_law_same D_law_asked D_law_hung D_law_others D_law_papers D_law_good D_law
  refine ⟨fd, [(c, PT)], spLaw K [(PT, ("_law_sets.<locals>.<lambda>" : PySem.Str))], ?_, ?_, ?_, hb, ?_, fun base _ _ TB => hF base (TB (c, PT) (List.mem_singleton.mpr rfl))⟩
  · intro p hp
    rw [List.mem_singleton.mp hp]
    exact hT
  · intro p hp
    rw [List.mem_singleton.mp hp]
    exact nT
  · intro p hp
    rw [List.mem_singleton.mp hp]
    exact CH
  · intro H a ns _ _ hH hS
    refine ⟨a, ns, rfl, hS, fun p hp => ?_, fun _ => rfl⟩
    rw [List.mem_singleton.mp hp]
    exact tab_empty (hH (c, PT) (List.mem_singleton.mpr rfl))
theorem lackIn_mk {K : PySem.W.Frag} {h : Heap} {mg : PySem.Str → Option Value} {C CT N fLi : Addr} {nm q : PySem.Str} {bs bm : List Value} {sn : List PySem.Str} {sub : List Value} {ab : Bool} {col : Option Bool} {dd : Option Addr} {m0 m1 m2 m3 m5 : Option Value} {oc : Value} {od an : Option Addr} {osl : Array (Option Value)} {kV doc pm cdv ct : Value} (X : K.In h) (G : h.Ns mainGlobals mg)
    (aC : PySem.W.nsIn K mainGlobals "Lack" = some (some (.ref C))) (aT : PySem.W.nsIn K mainGlobals "TowerError" = some (some (.ref CT)))
    (xL : K.lookup C = some (excClassObj nm q C N bs bm true sn sub ab col dd m0 m1 m2 m3 m5 "ValueError.__new__")) (rv : PySem.HandSPX.refsVE bm = true)
    (sa : PySem.W.findIn K (.ref C) "__setattr__" = some (some (.builtin "object.__setattr__"))) (ga : PySem.W.findIn K (.ref C) "__getattribute__" = some (some (.builtin "BaseException.__getattribute__"))) (gg : PySem.W.findIn K (.ref C) "__getattr__" = some none)
    (nW : PySem.W.findIn K (.ref C) "wants" = some none) (nF : PySem.W.findIn K (.ref C) "flags" = some none)
    (kC : PySem.W.keepIn K (.ref C) = true) (eC : PySem.W.subIn K (.ref C) (.type "BaseException") = some true) (tC : PySem.W.typeIn K (.ref C) = some (.type "type")) (hC : PySem.W.hasDictIn K C = true) (jC : PySem.W.isClsIn K C = true) (sC : PySem.W.subIn K (.ref C) (.ref C) = some true)
    (u1 : PySem.W.specialIn K (.ref CT) "__getattribute__" = some (some (.builtin "type.__getattribute__"))) (u2 : PySem.W.readsIn K CT (.type "type") = true) (u3 : PySem.W.findCls K (.ref CT) (.type "type") "__init__" = some (.val (.builtin "ValueError.__init__")))
    (iC : PySem.W.findIn K (.ref C) "__init__" = some (some (.ref fLi))) (tI : PySem.W.typeIn K (.ref fLi) = some (.type "function"))
    (l : K.lookup fLi = some ⟨oc, od, .func (PySem.W.fnOf "__init__" "Lack.__init__" (defArgs s_Lack_init) (defBody s_Lack_init) (defScope s_Lack_init) .none kV doc pm an cdv ct), osl⟩) (c : PySem.W.codeIn K cdv "Lack.__init__" = true) (k : PySem.W.keepIn K (.ref fLi) = true) : LackIn K mg :=
  ⟨C, CT, fLi, _, lack_mk X G aC aT xL rv sa ga gg nW nF kC eC tC hC jC sC u1 u2 u3, fun_mk l c k, iC, tI⟩
theorem const_at {K : PySem.W.Frag} {h : Heap} {mg : PySem.Str → Option Value} {x : PySem.Str} {v : V} {u : Value} (X : K.In h) (G : h.Ns mainGlobals mg) (a : PySem.W.nsIn K mainGlobals x = some (some u)) (r : RelV v u) : ConstIn mg x v := ⟨u, PySem.W.mg_of X G a, r⟩
/-- the end, with the tables of the defs' code objects -/
theorem walk_top {l : PySem.W.OpenLaw} {n k : Nat} {q : Program} {loose : List PySem.Str} {XP : (PySem.Str → Option Value) → Heap → Prop} {YP : World → Heap → Prop} {d : DefRec} {K : Params → PySem.W.Frag} {CX : World → CXT} {x : PySem.Str}
    (hn : l.most = some n) (hn2 : n ≤ sizeLine) (hdf : d.params.defaults = []) (hr : Room k callerA) (hY : ∀ (w : World) (h : Heap), YP w h → (K w.params).In h)
    (F : ∀ (w : World) (mg : PySem.Str → Option Value) (fa : Addr) (h : Heap), (K w.params).In h → h.Ns mainGlobals mg → mg d.name = some (.ref fa) →
      (∀ (y : PySem.Str) (c PT : Addr), ((PyProof.Rows.recsOf q).find? (fun e => e.name == y)).isSome = true → PySem.W.tabIn (K w.params) y = some (c, PT) → PySem.W.CodeHd h c PT ∧ h.get? PT = some { cls := .none, data := .fields #[] }) →
      LamX.LawAtS l w (K w.params) (CX w) k n x mg fa h)
    (hCX : ∀ (w : World) (H : Hp) (s : Shared) (e : Value) (s' : Shared), CX w [] H s (fun _ _ _ => False) e s' → False) :
    PySem.W.WalkO q loose XP YP l.row.toRowW d [] (fun f vs => PySem.call f vs) := by
  refine Att.attach_callB hn hdf fun w s₀ s₁ mg mb fa o pm cd doc a vs ns G Y ho hd hcd hmg hobj hints hlen hbits hg => ?_
  have KX := hY w _ Y
  obtain ⟨fd, cs, sp, hT, nT, C, hb, hsp, hF⟩ := F w mg fa _ KX G.T.g hmg fun y c PT hr ht => let ⟨_, he⟩ := Option.isSome_iff_exists.mp hr; PySem.W.tab_of G.T KX he ht
  exact LamX.law_callTs KX G.T.g G.T.b G.T.builtins G.T.nolimit hg hT nT C G.T.bmain hobj hints (Nat.le_trans hlen hn2) hr hF hb (fun H hH hS => hsp H a ns hlen hbits hH hS) fun H e s' => hCX w H s₁ e s'
end
end Fl

open PySem PySem.W PyProof.Rows
set_option maxRecDepth 100000 in
set_option maxHeartbeats 0 in
theorem PySem.Challenge.cw_flaglocker_k74_whole_fewest_lowered_holds : PySem.Challenge.rw_flaglocker_k74_whole_fewest_lowered.Holds := by
  w_on; o_law; k_head; (case hw => w_witness2)
  k_fill
  refine Fl.walk_top (l := PySem.Challenge.rw_flaglocker_k74_whole_fewest_lowered) (n := 63) (k := 12) (x := "_law_script") (CX := fun _ => L2.CX0) rfl (by decide) rfl ⟨rfl, by decide, by decide⟩ (fun w h Y => PySem.W.km_in_of Y) ?F (fun _ _ _ _ _ z => z)
  case F =>
    intro w mg fa h KX G hmg tab
    refine' Fl.law_at ⟨?cLETTERS, ?cSUBSTITUTES, ?cFLAGS, ?cLONGEST, ?b_len, ?b_int, ?b_str, ?b_list, ?b_dict, ?b_tuple, ?b_range, ?b_enumerate, ?b_zip, ?b_sorted, ?b_sum, ?b_min, ?b_isinstance⟩ ?LI hmg ?SI (fun c PT ht => tab "_law_sets" c PT (by decide +kernel) ht) ?D_is_fit ?D_is_hoist ?D_read_of ?D_choices_at ?D_wants_of ?D_hoists_of ?D_reach_from ?D_hang_along ?D_hang_all ?D_lack_of ?D_rising_lists ?D_sets_of ?D_plain_locker ?D_taken ?D_put_in ?D_others_hung ?D_words_with ?D_locker_with ?D_rehung ?D_hauled ?D_hauling_papers ?D_law_cell ?D_law_stream ?D_law_letters ?D_law_word ?D_law_locker ?D_law_choices ?D_law_reads ?D_law_lack ?D_law_read ?D_law_with ?D_law_same ?D_law_asked ?D_law_hung ?D_law_others ?D_law_papers ?D_law_good ?D_law
    (case D_is_fit => refine' Fl.def_at KX G ?a ?l ?c ?k; (case a => k_is); (case l => k_is); (case c => k_is); (case k => k_is))
    (case D_is_hoist => refine' Fl.def_at KX G ?a ?l ?c ?k; (case a => k_is); (case l => k_is); (case c => k_is); (case k => k_is))
    (case D_read_of => refine' Fl.def_at KX G ?a ?l ?c ?k; (case a => k_is); (case l => k_is); (case c => k_is); (case k => k_is))
    (case D_choices_at => refine' Fl.def_at KX G ?a ?l ?c ?k; (case a => k_is); (case l => k_is); (case c => k_is); (case k => k_is))
    (case D_wants_of => refine' Fl.def_at KX G ?a ?l ?c ?k; (case a => k_is); (case l => k_is); (case c => k_is); (case k => k_is))
    (case D_hoists_of => refine' Fl.def_at KX G ?a ?l ?c ?k; (case a => k_is); (case l => k_is); (case c => k_is); (case k => k_is))
    (case D_reach_from => refine' Fl.def_at KX G ?a ?l ?c ?k; (case a => k_is); (case l => k_is); (case c => k_is); (case k => k_is))
    (case D_hang_along => refine' Fl.def_at KX G ?a ?l ?c ?k; (case a => k_is); (case l => k_is); (case c => k_is); (case k => k_is))
    (case D_hang_all => refine' Fl.def_at KX G ?a ?l ?c ?k; (case a => k_is); (case l => k_is); (case c => k_is); (case k => k_is))
    (case D_lack_of => refine' Fl.def_at KX G ?a ?l ?c ?k; (case a => k_is); (case l => k_is); (case c => k_is); (case k => k_is))
    (case D_rising_lists => refine' Fl.def_at KX G ?a ?l ?c ?k; (case a => k_is); (case l => k_is); (case c => k_is); (case k => k_is))
    (case D_sets_of => refine' Fl.def_at KX G ?a ?l ?c ?k; (case a => k_is); (case l => k_is); (case c => k_is); (case k => k_is))
    (case D_plain_locker => refine' Fl.def_at KX G ?a ?l ?c ?k; (case a => k_is); (case l => k_is); (case c => k_is); (case k => k_is))
    (case D_taken => refine' Fl.def_at KX G ?a ?l ?c ?k; (case a => k_is); (case l => k_is); (case c => k_is); (case k => k_is))
    (case D_put_in => refine' Fl.def_at KX G ?a ?l ?c ?k; (case a => k_is); (case l => k_is); (case c => k_is); (case k => k_is))
    (case D_others_hung => refine' Fl.def_at KX G ?a ?l ?c ?k; (case a => k_is); (case l => k_is); (case c => k_is); (case k => k_is))
    (case D_words_with => refine' Fl.def_at KX G ?a ?l ?c ?k; (case a => k_is); (case l => k_is); (case c => k_is); (case k => k_is))
    (case D_locker_with => refine' Fl.def_at KX G ?a ?l ?c ?k; (case a => k_is); (case l => k_is); (case c => k_is); (case k => k_is))
    (case D_rehung => refine' Fl.def_at KX G ?a ?l ?c ?k; (case a => k_is); (case l => k_is); (case c => k_is); (case k => k_is))
    (case D_hauled => refine' Fl.def_at KX G ?a ?l ?c ?k; (case a => k_is); (case l => k_is); (case c => k_is); (case k => k_is))
    (case D_hauling_papers => refine' Fl.def_at KX G ?a ?l ?c ?k; (case a => k_is); (case l => k_is); (case c => k_is); (case k => k_is))
    (case D_law_cell => refine' Fl.def_at KX G ?a ?l ?c ?k; (case a => k_is); (case l => k_is); (case c => k_is); (case k => k_is))
    (case D_law_stream => refine' Fl.def_at KX G ?a ?l ?c ?k; (case a => k_is); (case l => k_is); (case c => k_is); (case k => k_is))
    (case D_law_letters => refine' Fl.def_at KX G ?a ?l ?c ?k; (case a => k_is); (case l => k_is); (case c => k_is); (case k => k_is))
    (case D_law_word => refine' Fl.def_at KX G ?a ?l ?c ?k; (case a => k_is); (case l => k_is); (case c => k_is); (case k => k_is))
    (case D_law_locker => refine' Fl.def_at KX G ?a ?l ?c ?k; (case a => k_is); (case l => k_is); (case c => k_is); (case k => k_is))
    (case D_law_choices => refine' Fl.def_at KX G ?a ?l ?c ?k; (case a => k_is); (case l => k_is); (case c => k_is); (case k => k_is))
    (case D_law_reads => refine' Fl.def_at KX G ?a ?l ?c ?k; (case a => k_is); (case l => k_is); (case c => k_is); (case k => k_is))
    (case D_law_lack => refine' Fl.def_at KX G ?a ?l ?c ?k; (case a => k_is); (case l => k_is); (case c => k_is); (case k => k_is))
    (case D_law_read => refine' Fl.def_at KX G ?a ?l ?c ?k; (case a => k_is); (case l => k_is); (case c => k_is); (case k => k_is))
    (case D_law_with => refine' Fl.def_at KX G ?a ?l ?c ?k; (case a => k_is); (case l => k_is); (case c => k_is); (case k => k_is))
    (case D_law_same => refine' Fl.def_at KX G ?a ?l ?c ?k; (case a => k_is); (case l => k_is); (case c => k_is); (case k => k_is))
    (case D_law_asked => refine' Fl.def_at KX G ?a ?l ?c ?k; (case a => k_is); (case l => k_is); (case c => k_is); (case k => k_is))
    (case D_law_hung => refine' Fl.def_at KX G ?a ?l ?c ?k; (case a => k_is); (case l => k_is); (case c => k_is); (case k => k_is))
    (case D_law_others => refine' Fl.def_at KX G ?a ?l ?c ?k; (case a => k_is); (case l => k_is); (case c => k_is); (case k => k_is))
    (case D_law_papers => refine' Fl.def_at KX G ?a ?l ?c ?k; (case a => k_is); (case l => k_is); (case c => k_is); (case k => k_is))
    (case D_law_good => refine' Fl.def_at KX G ?a ?l ?c ?k; (case a => k_is); (case l => k_is); (case c => k_is); (case k => k_is))
    (case D_law => refine' Fl.def_at KX G ?a ?l ?c ?k; (case a => k_is); (case l => k_is); (case c => k_is); (case k => k_is))
    case SI =>
      refine' Fl.setsIn_mk KX G ?a ?l ?c ?k ?lc ?h11 ?n; (case a => k_is); (case l => k_is); (case c => k_is); (case k => k_is); (case lc => k_is); (case h11 => first | rfl | kernel_rfl); (case n => first | k_is | kernel_rfl | rfl)
    case LI =>
      refine' Fl.lackIn_mk KX G ?aC ?aT ?xL ?rv ?sa ?ga ?gg ?nW ?nF ?kC ?eC ?tC ?hC ?jC ?sC ?u1 ?u2 ?u3 ?iC ?tI ?l ?c ?k
      (case aC => k_is)
      (case aT => k_is)
      (case xL => k_is)
      (case rv => decide +kernel)
      (case sa => k_is)
      (case ga => k_is)
      (case gg => k_is)
      (case nW => k_is)
      (case nF => k_is)
      (case kC => k_is)
      (case eC => k_is)
      (case tC => k_is)
      (case hC => k_is)
      (case jC => k_is)
      (case sC => first | rfl | k_is)
      (case u1 => k_is)
      (case u2 => k_is)
      (case u3 => k_is)
      (case iC => k_is)
      (case tI => k_is)
      (case l => k_is)
      (case c => k_is)
      (case k => k_is)
    (case cLETTERS => refine' Fl.const_at KX G ?a ?r; (case a => k_is); (case r => exact ⟨_, rfl⟩))
    (case cSUBSTITUTES => refine' Fl.const_at KX G ?a ?r; (case a => k_is); (case r => exact ⟨_, rfl⟩))
    (case cFLAGS => refine' Fl.const_at KX G ?a ?r; (case a => k_is); (case r => exact ⟨_, rfl⟩))
    (case cLONGEST => refine' Fl.const_at KX G ?a ?r; (case a => k_is); (case r => exact ⟨_, rfl⟩))
    (case b_len => refine' PySem.W.mg_none_of KX G ?a; (case a => k_is))
    (case b_int => refine' PySem.W.mg_none_of KX G ?a; (case a => k_is))
    (case b_str => refine' PySem.W.mg_none_of KX G ?a; (case a => k_is))
    (case b_list => refine' PySem.W.mg_none_of KX G ?a; (case a => k_is))
    (case b_dict => refine' PySem.W.mg_none_of KX G ?a; (case a => k_is))
    (case b_tuple => refine' PySem.W.mg_none_of KX G ?a; (case a => k_is))
    (case b_range => refine' PySem.W.mg_none_of KX G ?a; (case a => k_is))
    (case b_enumerate => refine' PySem.W.mg_none_of KX G ?a; (case a => k_is))
    (case b_zip => refine' PySem.W.mg_none_of KX G ?a; (case a => k_is))
    (case b_sorted => refine' PySem.W.mg_none_of KX G ?a; (case a => k_is))
    (case b_sum => refine' PySem.W.mg_none_of KX G ?a; (case a => k_is))
    (case b_min => refine' PySem.W.mg_none_of KX G ?a; (case a => k_is))
    (case b_isinstance => refine' PySem.W.mg_none_of KX G ?a; (case a => k_is))
