import PyProof.Rows.All
import Wide.All
import OpenK.AllK
import Wide.FinOn
import PySem.Challenge.RW_foreworth_k35_whole_thin_needs_each
import HandS.ForMost
import HandS.IsInst
import HandS.Style
import HandS.Conv
import HandS.Sort
import HandS.Evl
set_option Elab.async false
set_option linter.all false
set_option maxRecDepth 100000
set_option maxHeartbeats 4000000
/-! K35: the plain mathematics of thinning, prefixes, latest places, weaving. -/
namespace K35
open List

/-! ### thinning over the rests of the rows -/
def adv (b : Int) (r : List Int) : List Int := if r.head? = some b then r.tail else r
theorem sub_adv (b : Int) (s : List Int) : ∀ r : List Int, (r.Sublist (b :: s) ↔ (adv b r).Sublist s)
  | [] => by simp [adv]
  | x :: r => by
    by_cases h : x = b
    · subst h
      simp [adv]
    · have e : adv b (x :: r) = x :: r := by simp [adv, h]
      rw [e]
      constructor
      · intro hs
        cases hs with
        | cons _ q => exact q
        | cons_cons _ q => exact absurd rfl h
      · intro hs
        exact hs.cons b
def thinR : List Int → List (List Int) → List Int
  | [], _ => []
  | b :: s, rems => if ∀ r ∈ rems, List.Sublist r s then thinR s rems else b :: thinR s (rems.map (adv b))
theorem thinR_sub : ∀ (s : List Int) (rems : List (List Int)), (thinR s rems).Sublist s
  | [], _ => List.Sublist.slnil
  | b :: s, rems => by
    unfold thinR
    split
    · exact (thinR_sub s rems).cons b
    · exact (thinR_sub s _).cons_cons b
theorem thinR_whole : ∀ (s : List Int) (rems : List (List Int)), (∀ r ∈ rems, r.Sublist s) → ∀ r ∈ rems, r.Sublist (thinR s rems)
  | [], rems, h => h
  | b :: s, rems, h => by
    unfold thinR
    split
    · rename_i g
      exact thinR_whole s rems g
    · intro r hr
      rw [sub_adv]
      refine thinR_whole s _ (fun q hq => ?_) _ (List.mem_map_of_mem hr)
      obtain ⟨r', hr', e⟩ := List.mem_map.mp hq
      rw [← e, ← sub_adv]
      exact h r' hr'
/-- no beat can be left out -/
def Lean' (s : List Int) (rems : List (List Int)) : Prop := ∀ k, k < s.length → ∃ r ∈ rems, ¬ r.Sublist (s.eraseIdx k)
theorem thinR_lean : ∀ (s : List Int) (rems : List (List Int)), Lean' (thinR s rems) rems
  | [], rems => fun k hk => absurd hk (Nat.not_lt_zero k)
  | b :: s, rems => by
    unfold thinR
    split
    · exact thinR_lean s rems
    · rename_i g
      intro k hk
      cases k with
      | zero =>
        have g' : ∃ r, r ∈ rems ∧ ¬ r.Sublist s := by
          refine Classical.byContradiction fun z => g fun r hr => Classical.byContradiction fun y => z ⟨r, hr, y⟩
        obtain ⟨r, hr, hn⟩ := g'
        exact ⟨r, hr, fun z => hn (List.Sublist.trans (by simpa using z) (thinR_sub s _))⟩
      | succ k =>
        have hk' : k < (thinR s (rems.map (adv b))).length := by simpa using hk
        obtain ⟨q, hq, hn⟩ := thinR_lean s (rems.map (adv b)) k hk'
        obtain ⟨r, hr, e⟩ := List.mem_map.mp hq
        refine ⟨r, hr, fun z => hn ?_⟩
        rw [List.eraseIdx_cons_succ, sub_adv, e] at z
        exact z
theorem thinR_same : ∀ (s : List Int) (rems : List (List Int)), Lean' s rems → thinR s rems = s
  | [], _, _ => rfl
  | b :: s, rems, h => by
    unfold thinR
    obtain ⟨r, hr, hn⟩ := h 0 (by simp)
    rw [if_neg (fun z => hn (by simpa using z r hr)), thinR_same s _ ?_]
    intro k hk
    obtain ⟨r, hr, hn⟩ := h (k + 1) (by simpa using hk)
    refine ⟨adv b r, List.mem_map_of_mem hr, fun z => hn ?_⟩
    rw [List.eraseIdx_cons_succ, sub_adv]
    exact z
theorem thinR_again (s : List Int) (rems : List (List Int)) : thinR (thinR s rems) rems = thinR s rems :=
  thinR_same _ _ (thinR_lean s rems)

/-! ### how much is done: by numbers -/
def stepD (b : Int) (r : List Int) (d : Nat) : Nat := if r[d]? = some b then d + 1 else d
theorem stepD_le {b : Int} {r : List Int} {d : Nat} (h : d ≤ r.length) : stepD b r d ≤ r.length := by
  unfold stepD
  split
  · rename_i e
    obtain ⟨q, _⟩ := List.getElem?_eq_some_iff.mp e
    omega
  · exact h
theorem adv_drop (b : Int) (r : List Int) (d : Nat) : adv b (r.drop d) = r.drop (stepD b r d) := by
  unfold adv stepD
  rw [List.head?_drop]
  split
  · rw [List.tail_drop]
  · rfl
/-- the rests of the rows -/
def rests (runs : List (List Int)) (ds : List Nat) : List (List Int) := List.zipWith (fun r d => r.drop d) runs ds
def stepAll (b : Int) (runs : List (List Int)) (ds : List Nat) : List Nat := List.zipWith (fun r d => stepD b r d) runs ds
theorem rests_step (b : Int) : ∀ (runs : List (List Int)) (ds : List Nat), (rests runs ds).map (adv b) = rests runs (stepAll b runs ds)
  | [], _ => by simp [rests]
  | _ :: _, [] => by simp [rests, stepAll]
  | r :: runs, d :: ds => by
    have ih := rests_step b runs ds
    unfold rests stepAll at ih ⊢
    simp only [List.zipWith_cons_cons, List.map_cons, ih, adv_drop]
theorem rests_zero : ∀ (runs : List (List Int)), rests runs (List.replicate runs.length 0) = runs
  | [] => rfl
  | r :: runs => by
    have ih := rests_zero runs
    unfold rests at ih ⊢
    rw [List.length_cons, List.replicate_succ, List.zipWith_cons_cons, ih, List.drop_zero]
theorem mem_rests {runs : List (List Int)} {ds : List Nat} {q : List Int} : q ∈ rests runs ds ↔ ∃ (l : Nat) (r : List Int) (d : Nat), runs[l]? = some r ∧ ds[l]? = some d ∧ r.drop d = q := by
  unfold rests
  constructor
  · intro h
    obtain ⟨l, hl, e⟩ := List.mem_iff_getElem.mp h
    have hl2 : l < runs.length ∧ l < ds.length := by
      rw [List.length_zipWith] at hl
      omega
    refine ⟨l, runs[l]'hl2.1, ds[l]'hl2.2, List.getElem?_eq_getElem hl2.1, List.getElem?_eq_getElem hl2.2, ?_⟩
    rw [List.getElem_zipWith] at e
    exact e
  · rintro ⟨l, r, d, h1, h2, e⟩
    refine List.mem_iff_getElem?.mpr ⟨l, ?_⟩
    rw [List.getElem?_zipWith, h1, h2, ← e]
theorem drop_sub_step {s : List Int} {i : Nat} {b : Int} {rest : List Int} (h : s.drop i = b :: rest) (r : List Int) (d : Nat) : (r.drop d).Sublist (s.drop i) ↔ (r.drop (stepD b r d)).Sublist (s.drop (i + 1)) := by
  have e : s.drop (i + 1) = rest := by
    rw [← List.drop_drop, h] <;> rfl
  rw [h, e, sub_adv, adv_drop]
theorem drop_at {s : List Int} {i : Nat} {b : Int} (h : s[i]? = some b) : s.drop i = b :: s.drop (i + 1) := by
  obtain ⟨q, e⟩ := List.getElem?_eq_some_iff.mp h
  rw [List.drop_eq_getElem_cons q, e]
theorem sub_step {s : List Int} {i : Nat} {b : Int} (h : s[i]? = some b) (r : List Int) (d : Nat) : (r.drop d).Sublist (s.drop i) ↔ (r.drop (stepD b r d)).Sublist (s.drop (i + 1)) :=
  drop_sub_step (drop_at h) r d
/-- the end of the reading: all of it is done exactly if the run lies in the schedule -/
theorem pre_end {r s : List Int} {d : Nat} (hd : d ≤ r.length) (h : r.Sublist s ↔ (r.drop d).Sublist (s.drop s.length)) : d < r.length ↔ ¬ r.Sublist s := by
  rw [h, List.drop_length, List.sublist_nil, List.drop_eq_nil_iff]
  omega
theorem pre_yes {r s : List Int} {d i : Nat} {z : Int} (h : r.Sublist s ↔ (r.drop d).Sublist (s.drop i)) (hz : s[i]? = some z) (hx : r[d]? = some z) : r.Sublist s ↔ (r.drop (d + 1)).Sublist (s.drop (i + 1)) := by
  rw [h, sub_step hz]
  unfold stepD
  rw [if_pos hx]
theorem pre_no {r s : List Int} {d i : Nat} {z : Int} (h : r.Sublist s ↔ (r.drop d).Sublist (s.drop i)) (hz : s[i]? = some z) (hx : r[d]? ≠ some z) : r.Sublist s ↔ (r.drop d).Sublist (s.drop (i + 1)) := by
  rw [h, sub_step hz]
  unfold stepD
  rw [if_neg hx]

/-! ### the latest places -/
/-- behind the turn that has looked at the schedule from t on: left numbers are left -/
structure LatInv (r s : List Int) (t left : Nat) (P : List Int) : Prop where
  len : P.length = r.length
  le : left ≤ r.length
  lies : ∀ k, k ≤ r.length → ((r.drop k).Sublist (s.drop t) ↔ left ≤ k)
  at_ : ∀ k z, left ≤ k → P[k]? = some z → ∀ i : Nat, i ≤ s.length → ((r.drop k).Sublist (s.drop i) ↔ (i : Int) ≤ z)
theorem lat_start (r s : List Int) : LatInv r s s.length r.length (List.replicate r.length 0) := by
  refine ⟨List.length_replicate, Nat.le_refl _, fun k hk => ?_, fun k z h1 h2 => ?_⟩
  · rw [List.drop_length, List.sublist_nil, List.drop_eq_nil_iff]
  · obtain ⟨q, _⟩ := List.getElem?_eq_some_iff.mp h2
    rw [List.length_replicate] at q
    omega
theorem drop_mono (s : List Int) {i j : Nat} (h : i ≤ j) : (s.drop j).Sublist (s.drop i) := by
  obtain ⟨m, rfl⟩ : ∃ m, j = i + m := ⟨j - i, by omega⟩
  rw [← List.drop_drop]
  exact List.drop_sublist _ _
/-- a turn that takes the beat at t -/
theorem lat_take {r s : List Int} {t left : Nat} {P : List Int} {b : Int} (I : LatInv r s (t + 1) (left + 1) P) (hb : s[t]? = some b) (hr : r[left]? = some b) : LatInv r s t left (P.set left (t : Int)) := by
  obtain ⟨hl, _⟩ := List.getElem?_eq_some_iff.mp hr
  obtain ⟨ht, _⟩ := List.getElem?_eq_some_iff.mp hb
  have key : ∀ k, k ≤ r.length → ((r.drop k).Sublist (s.drop t) ↔ left ≤ k) := fun k hk => by
    rw [sub_step hb]
    unfold stepD
    split
    · rename_i e
      obtain ⟨q, _⟩ := List.getElem?_eq_some_iff.mp e
      rw [I.lies (k + 1) (by omega)]
      omega
    · rename_i e
      rw [I.lies k hk]
      have : k ≠ left := fun z => e (by rw [z]; exact hr)
      omega
  refine ⟨by rw [List.length_set]; exact I.len, by omega, key, fun k z h1 h2 i hi => ?_⟩
  by_cases hk : k = left
  · subst hk
    rw [List.getElem?_set_self (by rw [I.len]; exact hl)] at h2
    have ez : (t : Int) = z := Option.some.inj h2
    subst ez
    constructor
    · intro g
      refine Classical.byContradiction fun n => ?_
      have : t + 1 ≤ i := by omega
      have g2 := g.trans (drop_mono s this)
      rw [I.lies k (by omega)] at g2
      omega
    · intro g
      have : i ≤ t := by omega
      exact ((key k (by omega)).mpr (Nat.le_refl _)).trans (drop_mono s this)
  · rw [List.getElem?_set_ne (fun e => hk e.symm)] at h2
    exact I.at_ k z (by omega) h2 i hi
/-- a turn that doesn't -/
theorem lat_skip {r s : List Int} {t left : Nat} {P : List Int} {b : Int} (I : LatInv r s (t + 1) left P) (hb : s[t]? = some b) (hr : left = 0 ∨ r[left - 1]? ≠ some b) : LatInv r s t left P := by
  refine ⟨I.len, I.le, fun k hk => ?_, I.at_⟩
  rw [sub_step hb]
  unfold stepD
  split
  · rename_i e
    obtain ⟨q, _⟩ := List.getElem?_eq_some_iff.mp e
    rw [I.lies (k + 1) (by omega)]
    have : left = 0 ∨ k ≠ left - 1 := hr.imp id fun h z => h (by rw [← z]; exact e)
    omega
  · exact I.lies k hk
/-- the latest places of a run that lies in the schedule -/
def LatOk (r s P : List Int) : Prop := P.length = r.length ∧ ∀ (k : Nat) (z : Int), P[k]? = some z → ∀ i : Nat, i ≤ s.length → ((r.drop k).Sublist (s.drop i) ↔ (i : Int) ≤ z)
theorem lat_end {r s P : List Int} {left : Nat} (I : LatInv r s 0 left P) (h : r.Sublist s) : LatOk r s P := by
  have e : left ≤ 0 := (I.lies 0 (Nat.zero_le _)).mp h
  exact ⟨I.len, fun k z hz => I.at_ k z (by omega) hz⟩

/-! ### is a beat needed -/
def Need (ds : List Nat) (lat : List (List Int)) (i : Nat) : Prop := ∃ (l d : Nat) (P : List Int) (z : Int), ds[l]? = some d ∧ lat[l]? = some P ∧ P[d]? = some z ∧ z ≤ (i : Int)
theorem need_iff {runs lat : List (List Int)} {ds : List Nat} {s : List Int} {i : Nat} (h1 : ds.length = runs.length) (h2 : lat.length = runs.length) (hi : i < s.length)
    (hL : ∀ (l : Nat) (r P : List Int), runs[l]? = some r → lat[l]? = some P → LatOk r s P) : Need ds lat i ↔ ¬ ∀ q ∈ rests runs ds, q.Sublist (s.drop (i + 1)) := by
  constructor
  · rintro ⟨l, d, P, z, e1, e2, e3, e4⟩ g
    obtain ⟨hl, _⟩ := List.getElem?_eq_some_iff.mp e1
    have er : runs[l]? = some (runs[l]'(by omega)) := List.getElem?_eq_getElem _
    have q := g _ (mem_rests.mpr ⟨l, _, d, er, e1, rfl⟩)
    have := ((hL l _ P er e2).2 d z e3 (i + 1) (by omega)).mp q
    omega
  · intro g
    refine Classical.byContradiction fun n => g fun q hq => ?_
    obtain ⟨l, r, d, e1, e2, e3⟩ := mem_rests.mp hq
    obtain ⟨hl, _⟩ := List.getElem?_eq_some_iff.mp e1
    have eP : lat[l]? = some (lat[l]'(by omega)) := List.getElem?_eq_getElem _
    have ok := hL l r _ e1 eP
    rw [← e3]
    by_cases hd : d < r.length
    · have ez : (lat[l]'(by omega))[d]? = some ((lat[l]'(by omega))[d]'(by rw [ok.1]; exact hd)) := List.getElem?_eq_getElem _
      rw [ok.2 d _ ez (i + 1) (by omega)]
      refine Classical.byContradiction fun y => n ⟨l, d, _, _, e2, eP, ez, by omega⟩
    · rw [List.drop_eq_nil_of_le (by omega)]
      exact List.nil_sublist _

/-! ### thinning, turn by turn -/
structure ThinInv (runs : List (List Int)) (s : List Int) (i : Nat) (ds : List Nat) (kept : List Int) : Prop where
  len : ds.length = runs.length
  le : ∀ (l d : Nat) (r : List Int), ds[l]? = some d → runs[l]? = some r → d ≤ r.length
  out : kept ++ thinR (s.drop i) (rests runs ds) = thinR s runs
  few : kept.length ≤ i
theorem thin_start (runs : List (List Int)) (s : List Int) : ThinInv runs s 0 (List.replicate runs.length 0) [] := by
  refine ⟨List.length_replicate, fun l d r h1 _ => ?_, by rw [rests_zero]; rfl, Nat.le_refl _⟩
  obtain ⟨q, e⟩ := List.getElem?_eq_some_iff.mp h1
  rw [List.getElem_replicate] at e
  omega
theorem thin_drop {runs : List (List Int)} {s : List Int} {i : Nat} {ds : List Nat} {kept : List Int} {b : Int} (I : ThinInv runs s i ds kept) (hb : s[i]? = some b) (h : ∀ q ∈ rests runs ds, q.Sublist (s.drop (i + 1))) : ThinInv runs s (i + 1) ds kept := by
  refine ⟨I.len, I.le, ?_, Nat.le_succ_of_le I.few⟩
  rw [← I.out, drop_at hb]
  conv => rhs; unfold thinR
  rw [if_pos h]
theorem thin_keep {runs : List (List Int)} {s : List Int} {i : Nat} {ds : List Nat} {kept : List Int} {b : Int} (I : ThinInv runs s i ds kept) (hb : s[i]? = some b) (h : ¬ ∀ q ∈ rests runs ds, q.Sublist (s.drop (i + 1))) : ThinInv runs s (i + 1) (stepAll b runs ds) (kept ++ [b]) := by
  refine ⟨by unfold stepAll; rw [List.length_zipWith, I.len, Nat.min_self], fun l d r h1 h2 => ?_, ?_, by rw [List.length_append, List.length_singleton]; have := I.few; omega⟩
  · unfold stepAll at h1
    rw [List.getElem?_zipWith, h2] at h1
    cases e : ds[l]? with
    | none =>
      rw [e] at h1
      cases h1
    | some d0 =>
      rw [e] at h1
      have : stepD b r d0 = d := Option.some.inj h1
      rw [← this]
      exact stepD_le (I.le l d0 r e h2)
  · rw [← I.out, drop_at hb]
    conv => rhs; unfold thinR
    rw [if_neg h, rests_step, List.append_assoc] <;> rfl
theorem thin_end {runs : List (List Int)} {s : List Int} {ds : List Nat} {kept : List Int} (I : ThinInv runs s s.length ds kept) : kept = thinR s runs := by
  have h := I.out
  rw [List.drop_length] at h
  rw [show thinR [] (rests runs ds) = [] from rfl, List.append_nil] at h
  exact h
/-- the done numbers while a beat is counted lane by lane -/
theorem step_lane {b : Int} {runs : List (List Int)} {ds : List Nat} {l d : Nat} {r : List Int} (hlen : ds.length = runs.length) (hr : runs[l]? = some r) (hd : ds[l]? = some d) :
    ((stepAll b runs ds).take l ++ ds.drop l).set l (stepD b r d) = (stepAll b runs ds).take (l + 1) ++ ds.drop (l + 1) ∧ ((stepAll b runs ds).take l ++ ds.drop l)[l]? = some d := by
  obtain ⟨hl, e1⟩ := List.getElem?_eq_some_iff.mp hr
  obtain ⟨hl2, e2⟩ := List.getElem?_eq_some_iff.mp hd
  have es : (stepAll b runs ds)[l]? = some (stepD b r d) := by
    unfold stepAll
    rw [List.getElem?_zipWith, hr, hd]
  have hlen2 : (stepAll b runs ds).length = runs.length := by
    unfold stepAll
    rw [List.length_zipWith, hlen, Nat.min_self]
  have ht : ((stepAll b runs ds).take l).length = l := by
    rw [List.length_take]
    omega
  constructor
  · rw [List.set_append_right l _ (by omega), ht, Nat.sub_self, List.take_add_one, es, List.append_assoc, List.drop_eq_getElem_cons hl2]
    rfl
  · rw [List.getElem?_append_right (by omega), ht, Nat.sub_self, List.getElem?_drop]
    exact hd
/-- what thin gives, all in one -/
theorem thin_law {runs : List (List Int)} {s : List Int} (h : ∀ r ∈ runs, r.Sublist s) :
    (thinR s runs).Sublist s ∧ (∀ r ∈ runs, r.Sublist (thinR s runs)) ∧ (∀ k, k < (thinR s runs).length → ¬ ∀ r ∈ runs, r.Sublist ((thinR s runs).eraseIdx k)) ∧ thinR (thinR s runs) runs = thinR s runs := by
  refine ⟨thinR_sub s runs, thinR_whole s runs h, fun k hk g => ?_, thinR_again s runs⟩
  obtain ⟨r, hr, hn⟩ := thinR_lean s runs k hk
  exact hn (g r hr)

/-! ### weaving -/
def restSum (rows : List (List Int)) (sp : List Nat) : Nat := (List.zipWith (fun (r : List Int) (d : Nat) => r.length - d) rows sp).sum
theorem restSum_start : ∀ rows : List (List Int), restSum rows (List.replicate rows.length 0) = (rows.map List.length).sum
  | [] => rfl
  | r :: rows => by
    have ih := restSum_start rows
    unfold restSum at ih ⊢
    rw [List.length_cons, List.replicate_succ, List.zipWith_cons_cons, List.sum_cons, ih, List.map_cons, List.sum_cons, Nat.sub_zero]
theorem restSum_zero : ∀ {rows : List (List Int)} {sp : List Nat} {l d : Nat} {r : List Int}, restSum rows sp = 0 → rows[l]? = some r → sp[l]? = some d → r.length ≤ d
  | [], _, _, _, _, _, h, _ => by simp at h
  | _ :: _, [], _, _, _, _, _, h => by simp at h
  | r :: rows, d :: sp, 0, d', r', h0, h1, h2 => by
    unfold restSum at h0
    rw [List.zipWith_cons_cons, List.sum_cons] at h0
    have e1 : r = r' := Option.some.inj h1
    have e2 : d = d' := Option.some.inj h2
    rw [← e1, ← e2]
    omega
  | r :: rows, d :: sp, l + 1, d', r', h0, h1, h2 => by
    unfold restSum at h0
    rw [List.zipWith_cons_cons, List.sum_cons] at h0
    exact restSum_zero (rows := rows) (sp := sp) (l := l) (by unfold restSum; omega) h1 h2
theorem zero_restSum : ∀ {rows : List (List Int)} {sp : List Nat}, (∀ (l d : Nat) (r : List Int), rows[l]? = some r → sp[l]? = some d → r.length ≤ d) → restSum rows sp = 0
  | [], _, _ => by simp [restSum]
  | _ :: _, [], _ => by simp [restSum]
  | r :: rows, d :: sp, h => by
    have ih := zero_restSum (rows := rows) (sp := sp) fun l d' r' h1 h2 => h (l + 1) d' r' h1 h2
    have h0 := h 0 d r rfl rfl
    unfold restSum at ih ⊢
    rw [List.zipWith_cons_cons, List.sum_cons, ih]
    omega
theorem restSum_mono : ∀ {rows : List (List Int)} {sp sq : List Nat}, sq.length = sp.length → (∀ (l d e : Nat), sp[l]? = some d → sq[l]? = some e → d ≤ e) → restSum rows sq ≤ restSum rows sp
  | [], _, _, _, _ => by simp [restSum]
  | _ :: _, [], [], _, _ => Nat.le_refl _
  | _ :: _, [], _ :: _, h, _ => by simp at h
  | _ :: _, _ :: _, [], h, _ => by simp at h
  | r :: rows, d :: sp, e :: sq, hl, h => by
    have ih := restSum_mono (rows := rows) (sp := sp) (sq := sq) (by simpa using hl) fun l d' e' h1 h2 => h (l + 1) d' e' h1 h2
    have h0 := h 0 d e rfl rfl
    unfold restSum at ih ⊢
    rw [List.zipWith_cons_cons, List.sum_cons, List.zipWith_cons_cons, List.sum_cons]
    omega
theorem restSum_less : ∀ {rows : List (List Int)} {sp sq : List Nat} {c d : Nat} {r : List Int}, sq.length = sp.length → (∀ (l d e : Nat), sp[l]? = some d → sq[l]? = some e → d ≤ e) → rows[c]? = some r → sp[c]? = some d → sq[c]? = some (d + 1) → d < r.length → restSum rows sq + 1 ≤ restSum rows sp
  | [], _, _, _, _, _, _, _, h, _, _, _ => by simp at h
  | _ :: _, [], _, _, _, _, _, _, _, h, _, _ => by simp at h
  | _ :: _, _ :: _, [], _, _, _, h, _, _, _, _, _ => by simp at h
  | r :: rows, d :: sp, e :: sq, 0, d', r', hl, h, h1, h2, h3, h4 => by
    have ih := restSum_mono (rows := rows) (sp := sp) (sq := sq) (by simpa using hl) fun l d' e' h1 h2 => h (l + 1) d' e' h1 h2
    have e1 : r = r' := Option.some.inj h1
    have e2 : d = d' := Option.some.inj h2
    have e3 : e = d' + 1 := Option.some.inj h3
    subst e1 e2 e3
    unfold restSum at ih ⊢
    rw [List.zipWith_cons_cons, List.sum_cons, List.zipWith_cons_cons, List.sum_cons]
    omega
  | r :: rows, d :: sp, e :: sq, c + 1, d', r', hl, h, h1, h2, h3, h4 => by
    have ih := restSum_less (rows := rows) (sp := sp) (sq := sq) (c := c) (by simpa using hl) (fun l d' e' h1 h2 => h (l + 1) d' e' h1 h2) h1 h2 h3 h4
    have h0 := h 0 d e rfl rfl
    unfold restSum at ih ⊢
    rw [List.zipWith_cons_cons, List.sum_cons, List.zipWith_cons_cons, List.sum_cons]
    omega
structure WeaveInv (rows : List (List Int)) (k : Nat) (sp : List Nat) (beats : List Int) : Prop where
  len : sp.length = rows.length
  at_ : ∀ (l d : Nat) (r : List Int), rows[l]? = some r → sp[l]? = some d → d ≤ r.length ∧ (r.take d).Sublist beats
  left : restSum rows sp ≤ 28
  turns : restSum rows sp = 0 ∨ restSum rows sp + k ≤ 40
  few : beats.length ≤ k
theorem weave_start {rows : List (List Int)} (h : (rows.map List.length).sum ≤ 28) : WeaveInv rows 0 (List.replicate rows.length 0) [] := by
  refine ⟨List.length_replicate, fun l d r h1 h2 => ?_, by rw [restSum_start]; exact h, Or.inr (by rw [restSum_start]; omega), Nat.le_refl _⟩
  obtain ⟨q, e⟩ := List.getElem?_eq_some_iff.mp h2
  rw [List.getElem_replicate] at e
  subst e
  exact ⟨Nat.zero_le _, List.Sublist.refl _⟩
theorem weave_extra {rows : List (List Int)} {k : Nat} {sp : List Nat} {beats : List Int} (I : WeaveInv rows k sp beats) (hk : k < 12) (x : Int) : WeaveInv rows (k + 1) sp (beats ++ [x]) := by
  refine ⟨I.len, fun l d r h1 h2 => ⟨(I.at_ l d r h1 h2).1, (I.at_ l d r h1 h2).2.trans (List.sublist_append_left _ _)⟩, I.left, ?_, ?_⟩
  · have := I.left
    right
    omega
  · rw [List.length_append, List.length_singleton]
    have := I.few
    omega
theorem weave_none {rows : List (List Int)} {k : Nat} {sp : List Nat} {beats : List Int} (I : WeaveInv rows k sp beats) (h : ∀ (l d : Nat) (r : List Int), rows[l]? = some r → sp[l]? = some d → ¬ d < r.length) : WeaveInv rows (k + 1) sp beats :=
  ⟨I.len, I.at_, I.left, Or.inl (zero_restSum fun l d r h1 h2 => Nat.le_of_not_lt (h l d r h1 h2)), Nat.le_succ_of_le I.few⟩
/-- within a turn: the lanes w are looked at, the first i of them so far; c is chosen, z the number at which it stands -/
structure TurnInv (rows : List (List Int)) (sp : List Nat) (w : List Nat) (c : Nat) (z : Int) (i : Nat) (sq : List Nat) : Prop where
  len : sq.length = sp.length
  at_ : ∀ (l d : Nat), sp[l]? = some d → sq[l]? = some d ∨ (sq[l]? = some (d + 1) ∧ l ∈ w.take i ∧ ∃ r, rows[l]? = some r ∧ r[d]? = some z)
  cho : c ∈ w.take i → ∀ d, sp[c]? = some d → sq[c]? = some (d + 1)
theorem turn_start (rows : List (List Int)) (sp w : List Nat) (c : Nat) (z : Int) : TurnInv rows sp w c z 0 sp :=
  ⟨rfl, fun _ _ h => Or.inl h, fun h => by simp at h⟩
theorem mem_take_succ {w : List Nat} {i j l : Nat} (h : w[i]? = some j) : l ∈ w.take (i + 1) ↔ l ∈ w.take i ∨ l = j := by
  rw [List.take_add_one, h]
  simp
theorem nodup_take {w : List Nat} {i j : Nat} (hw : w.Nodup) (h : w[i]? = some j) : j ∉ w.take i := by
  intro hm
  obtain ⟨m, hm1, hm2⟩ := List.mem_iff_getElem.mp hm
  obtain ⟨hi, e⟩ := List.getElem?_eq_some_iff.mp h
  rw [List.length_take] at hm1
  rw [List.getElem_take, ← e] at hm2
  have := (List.getElem_inj hw).mp hm2
  omega
theorem turn_at {rows : List (List Int)} {sp w : List Nat} {c : Nat} {z : Int} {i : Nat} {sq : List Nat} (I : TurnInv rows sp w c z i sq) (hw : w.Nodup) {j d : Nat} (hj : w[i]? = some j) (hd : sp[j]? = some d) : sq[j]? = some d := by
  rcases I.at_ j d hd with h | ⟨_, h, _⟩
  · exact h
  · exact absurd h (nodup_take hw hj)
theorem turn_yes {rows : List (List Int)} {sp w : List Nat} {c : Nat} {z : Int} {i : Nat} {sq : List Nat} (I : TurnInv rows sp w c z i sq) (hw : w.Nodup) {j d : Nat} {r : List Int} (hj : w[i]? = some j) (hd : sp[j]? = some d) (hr : rows[j]? = some r) (hz : r[d]? = some z) :
    TurnInv rows sp w c z (i + 1) (sq.set j (d + 1)) := by
  have hq := turn_at I hw hj hd
  obtain ⟨hjl, _⟩ := List.getElem?_eq_some_iff.mp hq
  refine ⟨by rw [List.length_set]; exact I.len, fun l d' hl => ?_, fun hm d' hc => ?_⟩
  · by_cases e : l = j
    · subst e
      rw [hd] at hl
      cases hl
      refine Or.inr ⟨List.getElem?_set_self hjl, (mem_take_succ hj).mpr (Or.inr rfl), r, hr, hz⟩
    · rw [List.getElem?_set_ne (fun q => e q.symm)]
      rcases I.at_ l d' hl with h | ⟨h1, h2, h3⟩
      · exact Or.inl h
      · exact Or.inr ⟨h1, (mem_take_succ hj).mpr (Or.inl h2), h3⟩
  · by_cases e : c = j
    · subst e
      rw [hd] at hc
      cases hc
      exact List.getElem?_set_self hjl
    · rw [List.getElem?_set_ne (fun q => e q.symm)]
      rcases (mem_take_succ hj).mp hm with h | h
      · exact I.cho h d' hc
      · exact absurd h e
theorem turn_no {rows : List (List Int)} {sp w : List Nat} {c : Nat} {z : Int} {i : Nat} {sq : List Nat} (I : TurnInv rows sp w c z i sq) {j : Nat} (hj : w[i]? = some j) (hc : j ≠ c) : TurnInv rows sp w c z (i + 1) sq := by
  refine ⟨I.len, fun l d' hl => ?_, fun hm d' h => ?_⟩
  · rcases I.at_ l d' hl with h | ⟨h1, h2, h3⟩
    · exact Or.inl h
    · exact Or.inr ⟨h1, (mem_take_succ hj).mpr (Or.inl h2), h3⟩
  · rcases (mem_take_succ hj).mp hm with h2 | h2
    · exact I.cho h2 d' h
    · exact absurd h2.symm hc
theorem weave_turn {rows : List (List Int)} {k : Nat} {sp sq : List Nat} {beats : List Int} {w : List Nat} {c d : Nat} {r : List Int} {z : Int} (I : WeaveInv rows k sp beats) (T : TurnInv rows sp w c z w.length sq) (hc : c ∈ w) (hr : rows[c]? = some r) (hd : sp[c]? = some d) (hz : r[d]? = some z) :
    WeaveInv rows (k + 1) sq (beats ++ [z]) := by
  have hle : ∀ (l a e : Nat), sp[l]? = some a → sq[l]? = some e → a ≤ e := fun l a e h1 h2 => by
    rcases T.at_ l a h1 with h | ⟨h, _⟩
    · rw [h] at h2
      cases h2
      exact Nat.le_refl _
    · rw [h] at h2
      cases h2
      exact Nat.le_succ _
  have hcq := T.cho (by rw [List.take_length]; exact hc) d hd
  obtain ⟨hdl, _⟩ := List.getElem?_eq_some_iff.mp hz
  have less := restSum_less (rows := rows) T.len hle hr hd hcq hdl
  refine ⟨T.len.trans I.len, fun l e r' h1 h2 => ?_, by have := I.left; omega, ?_, by rw [List.length_append, List.length_singleton]; have := I.few; omega⟩
  · obtain ⟨hl, _⟩ := List.getElem?_eq_some_iff.mp h2
    have ea : sp[l]? = some (sp[l]'(by rw [← T.len]; exact hl)) := List.getElem?_eq_getElem _
    obtain ⟨i1, i2⟩ := I.at_ l _ r' h1 ea
    rcases T.at_ l _ ea with h | ⟨h, _, r2, h3, h4⟩
    · rw [h] at h2
      cases h2
      exact ⟨i1, i2.trans (List.sublist_append_left _ _)⟩
    · rw [h] at h2
      cases h2
      rw [h1] at h3
      cases h3
      obtain ⟨q, _⟩ := List.getElem?_eq_some_iff.mp h4
      refine ⟨q, ?_⟩
      rw [List.take_add_one, h4]
      exact i2.append (List.Sublist.refl _)
  · have := I.turns
    omega
theorem weave_end {rows : List (List Int)} {sp : List Nat} {beats : List Int} (I : WeaveInv rows 40 sp beats) : ∀ r ∈ rows, r.Sublist beats := by
  intro r hr
  obtain ⟨l, hl⟩ := List.mem_iff_getElem?.mp hr
  obtain ⟨hl2, _⟩ := List.getElem?_eq_some_iff.mp hl
  have e : sp[l]? = some (sp[l]'(by rw [I.len]; exact hl2)) := List.getElem?_eq_getElem _
  have h0 : restSum rows sp = 0 := by
    have := I.turns
    omega
  have h1 := restSum_zero h0 hl e
  have h2 := (I.at_ l _ r hl e).2
  rw [List.take_of_length_le h1] at h2
  exact h2
def waits (rows : List (List Int)) (sp : List Nat) : List Nat := (List.range rows.length).filter fun j => decide (sp.getD j 0 < (rows.getD j []).length)
theorem waits_nodup (rows : List (List Int)) (sp : List Nat) : (waits rows sp).Nodup := List.nodup_range.filter _
theorem mem_waits {rows : List (List Int)} {sp : List Nat} (hl : sp.length = rows.length) {j : Nat} : j ∈ waits rows sp ↔ ∃ (r : List Int) (d : Nat), rows[j]? = some r ∧ sp[j]? = some d ∧ d < r.length := by
  unfold waits
  rw [List.mem_filter, List.mem_range]
  constructor
  · rintro ⟨h1, h2⟩
    have h3 := of_decide_eq_true h2
    refine ⟨_, _, List.getElem?_eq_getElem h1, List.getElem?_eq_getElem (by omega), ?_⟩
    rw [List.getD_eq_getElem?_getD, List.getD_eq_getElem?_getD, List.getElem?_eq_getElem h1, List.getElem?_eq_getElem (by omega : j < sp.length)] at h3
    exact h3
  · rintro ⟨r, d, h1, h2, h3⟩
    obtain ⟨q, _⟩ := List.getElem?_eq_some_iff.mp h1
    refine ⟨q, decide_eq_true ?_⟩
    rw [List.getD_eq_getElem?_getD, List.getD_eq_getElem?_getD, h1, h2]
    exact h3

/-! ### a list said several times -/
def rep {α : Type} (m : Nat) (xs : List α) : List α := (List.replicate m xs).flatten
theorem rep_sub {α : Type} {xs ys : List α} (h : xs.Sublist ys) : ∀ m : Nat, (rep m xs).Sublist (rep m ys)
  | 0 => List.Sublist.refl _
  | m + 1 => by
    unfold rep
    rw [List.replicate_succ, List.replicate_succ, List.flatten_cons, List.flatten_cons]
    exact h.append (rep_sub h m)
theorem rep_len {α : Type} (xs : List α) (m : Nat) : (rep m xs).length = m * xs.length := by
  unfold rep
  rw [List.length_flatten, List.map_replicate, List.sum_replicate_nat]
theorem rep_map {α β : Type} (f : α → β) (xs : List α) (m : Nat) : rep m (xs.map f) = (rep m xs).map f := by
  unfold rep
  rw [List.map_flatten, List.map_replicate]
end K35
/-! K35N: the plain mathematics of the net that the law draws (rows of successors). -/
namespace K35
/-- rows of at most L successors, each -1 or a place below N -/
structure Net (xss : List (List Int)) (N : Int) (L : Nat) : Prop where
  few : ∀ r ∈ xss, r.length ≤ L
  tg : ∀ r ∈ xss, ∀ t ∈ r, -1 ≤ t ∧ t < N
theorem Net.nil (N : Int) (L : Nat) : Net [] N L := ⟨fun r h => by simp at h, fun r h => by simp at h⟩
theorem Net.mono {xss : List (List Int)} {N N' : Int} {L L' : Nat} (h : Net xss N L) (hN : N ≤ N') (hL : L ≤ L') : Net xss N' L' :=
  ⟨fun r hr => Nat.le_trans (h.few r hr) hL, fun r hr t ht => by have := h.tg r hr t ht; omega⟩
theorem Net.push {xss : List (List Int)} {N : Int} {L : Nat} {r : List Int} (h : Net xss N L) (h1 : r.length ≤ L) (h2 : ∀ t ∈ r, -1 ≤ t ∧ t < N) : Net (xss ++ [r]) N L := by
  refine ⟨fun q hq => ?_, fun q hq => ?_⟩
  · rcases List.mem_append.mp hq with g | g
    · exact h.few q g
    · rw [List.mem_singleton] at g
      rw [g]
      exact h1
  · rcases List.mem_append.mp hq with g | g
    · exact h.tg q g
    · rw [List.mem_singleton] at g
      rw [g]
      exact h2
theorem Net.set {xss : List (List Int)} {N : Int} {L L' : Nat} {r : List Int} {i : Nat} {t : Int} (h : Net xss N L) (hi : xss[i]? = some r) (hL : L ≤ L') (h1 : r.length < L') (h2 : -1 ≤ t ∧ t < N) : Net (xss.set i (r ++ [t])) N L' := by
  have hr := List.mem_of_getElem? hi
  refine ⟨fun q hq => ?_, fun q hq => ?_⟩
  · rcases List.mem_or_eq_of_mem_set hq with g | g
    · exact Nat.le_trans (h.few q g) hL
    · rw [g, List.length_append, List.length_singleton]
      omega
  · rcases List.mem_or_eq_of_mem_set hq with g | g
    · exact h.tg q g
    · rw [g]
      intro u hu
      rcases List.mem_append.mp hu with k | k
      · exact h.tg r hr u k
      · rw [List.mem_singleton] at k
        rw [k]
        exact h2
/-- an empty row behind was an empty row ahead -/
theorem set_empty {xss : List (List Int)} {r : List Int} {i j : Nat} {t : Int} (h : (xss.set i (r ++ [t]))[j]? = some []) : xss[j]? = some [] ∧ j ≠ i := by
  by_cases e : i = j
  · subst e
    have hi : i < xss.length := by
      have := (List.getElem?_eq_some_iff.mp h).1
      rw [List.length_set] at this
      exact this
    rw [List.getElem?_set_self hi] at h
    simp at h
  · rw [List.getElem?_set_ne e] at h
    exact ⟨h, fun z => e z.symm⟩
end K35
/-! K35B: the text by places, the callee's sentence, lists of ints and lists of such in the heap, loops. -/
namespace K35
open PySem PySem.Spec PyProof.Rows L2
def topS (i : Nat) : Stmt := PySem.Challenge.pw_foreworth_k35_whole_thin_needs_each.main.body.getD i (.Pass ⟨0, 0, 0, 0⟩)
/-- the built-ins' names are no names of the module -/
structure Txt (mg : Str → Option Value) : Prop where
  len : mg "len" = none
  range_ : mg "range" = none
  int_ : mg "int" = none
  bool_ : mg "bool" = none
  list_ : mg "list" = none
  tuple_ : mg "tuple" = none
  abs_ : mg "abs" = none
  sorted_ : mg "sorted" = none
  isinstance_ : mg "isinstance" = none
/-- an own def that keeps its promise -/
structure Own (P : Program) (w : World) (K : PySem.W.Frag) (mg : Str → Option Value) (base : Heap) (k : Nat) (x : Str) (ps : List Str) (sp : Sp) : Prop where
  ex : ∃ (f : Addr) (fd : FuncData), FnOk P w K mg base CX0 k f fd ps sp ∧ mg x = some (.ref f) ∧ PySem.W.keepIn K (.ref f) = true ∧ Binds K fd ps []
section
variable {X : Cx}
theorem pe_own {k : Nat} {x : Str} {ps : List Str} {sp : Sp} {e : Expr} {es : List Expr} {p pos : Pos} {t : TA} (O : Own X.prog X.w X.K X.mg X.base k x ps sp) (hr : Room k X.A) (hg : Gl X x) (ha : PA X (e :: es) t)
    (hdb : (x == ("__debug__" : Str)) = false := by decide) (he : starEach (e :: es) X.env = (false, eval e X.env) :: starEach es X.env := by rfl) (hpl : (backTo pos (starEach es X.env)).any (·.1) = false := by rfl) :
    PE X (.Call (.Name x p) (e :: es) [] pos) (tCall sp [] E0 t) := by
  obtain ⟨f, fd, F, hm, hk, hb⟩ := O.ex
  exact pe_call F hr hg hm hk hb .nil pass0 ha hdb he hpl
end

/-- len, list of a list, their K said -/
def rLn (K : PySem.W.Frag) : List V → Hp → VK → Prop := fun xs H Q => ∃ p ys, xs = [.ref p] ∧ (SqL K H p ys ∨ SqT K H p ys) ∧ Q (.int ys.length) H
def rLs (K : PySem.W.Frag) : List V → Hp → VK → Prop := fun xs H Q => ∃ p ys, xs = [.ref p] ∧ (SqL K H p ys ∨ SqT K H p ys) ∧ ∀ l, H l = none → Q (.ref l) (upd H l (.lst ys))

/-! ### places of lists -/
theorem at_int {ns : List Int} {j : Nat} {z : Int} (h : ns[j]? = some z) : atI (ns.map V.int) (j : Int) = some (.int z) := atI_nat (by rw [List.getElem?_map, h]; rfl)
theorem at_intI {ns : List Int} {i : Int} {j : Nat} {z : Int} (e : i = (j : Int)) (h : ns[j]? = some z) : atI (ns.map V.int) i = some (.int z) := by
  rw [e]
  exact at_int h
theorem at_ref {as : List Addr} {j : Nat} {p : Addr} (h : as[j]? = some p) : atI (as.map V.ref) (j : Int) = some (.ref p) := atI_nat (by rw [List.getElem?_map, h]; rfl)
theorem at_refI {as : List Addr} {i : Int} {j : Nat} {p : Addr} (e : i = (j : Int)) (h : as[j]? = some p) : atI (as.map V.ref) i = some (.ref p) := by
  rw [e]
  exact at_ref h
theorem nat_of {i : Int} {n : Nat} (h0 : 0 ≤ i) (h1 : i < (n : Int)) : ∃ j : Nat, i = (j : Int) ∧ j < n := ⟨i.toNat, by omega, by omega⟩
/-- some int at a place in bounds, with what is true of all -/
theorem at_some {ns : List Int} {i : Int} (h0 : 0 ≤ i) (h1 : i < (ns.length : Int)) : ∃ z, z ∈ ns ∧ atI (ns.map V.int) i = some (.int z) := by
  obtain ⟨j, rfl, hj⟩ := nat_of h0 h1
  exact ⟨ns[j], List.getElem_mem hj, at_int (List.getElem?_eq_getElem hj)⟩
theorem map_at_int {ns : List Int} {j : Nat} {y : V} (h : (ns.map V.int)[j]? = some y) : ∃ z, y = .int z ∧ ns[j]? = some z := by
  rw [List.getElem?_map] at h
  cases e : ns[j]? with
  | none =>
    rw [e] at h
    cases h
  | some z =>
    rw [e] at h
    exact ⟨z, (Option.some.inj h).symm, rfl⟩
theorem map_at_ref {as : List Addr} {j : Nat} {y : V} (h : (as.map V.ref)[j]? = some y) : ∃ p, y = .ref p ∧ as[j]? = some p := by
  rw [List.getElem?_map] at h
  cases e : as[j]? with
  | none =>
    rw [e] at h
    cases h
  | some p =>
    rw [e] at h
    exact ⟨p, (Option.some.inj h).symm, rfl⟩
theorem some_at {α : Type} {xs : List α} {j : Nat} (h : j < xs.length) : ∃ z, xs[j]? = some z := ⟨xs[j], List.getElem?_eq_getElem h⟩
theorem lt_at {α : Type} {xs : List α} {j : Nat} {z : α} (h : xs[j]? = some z) : j < xs.length := (List.getElem?_eq_some_iff.mp h).1

/-! ### ints, lists of ints, lists of lists of ints in the heap -/
abbrev IL (K : PySem.W.Frag) (H : Hp) (a : Addr) (ns : List Int) : Prop := SqL K H a (ns.map V.int)
structure LLat (K : PySem.W.Frag) (H : Hp) (a : Addr) (as : List Addr) (xss : List (List Int)) : Prop where
  lst : SqL K H a (as.map V.ref)
  len : as.length = xss.length
  row : ∀ (i : Nat) (p : Addr) (xs : List Int), as[i]? = some p → xss[i]? = some xs → IL K H p xs
def LL (K : PySem.W.Frag) (H : Hp) (a : Addr) (xss : List (List Int)) : Prop := ∃ as, LLat K H a as xss
theorem LLat.same {K : PySem.W.Frag} {H H' : Hp} {a : Addr} {as : List Addr} {xss : List (List Int)} (e : Same H H') (h : LLat K H a as xss) : LLat K H' a as xss :=
  ⟨e.seq h.lst, h.len, fun i p xs h1 h2 => e.seq (h.row i p xs h1 h2)⟩
theorem LL.same {K : PySem.W.Frag} {H H' : Hp} {a : Addr} {xss : List (List Int)} (e : Same H H') (h : LL K H a xss) : LL K H' a xss := by
  obtain ⟨as, h⟩ := h
  exact ⟨as, h.same e⟩
theorem LLat.at_ {K : PySem.W.Frag} {H : Hp} {a : Addr} {as : List Addr} {xss : List (List Int)} (h : LLat K H a as xss) {j : Nat} {xs : List Int} (hj : xss[j]? = some xs) : ∃ p, as[j]? = some p ∧ IL K H p xs := by
  have hl := lt_at hj
  obtain ⟨p, hp⟩ := some_at (xs := as) (j := j) (by rw [h.len]; exact hl)
  exact ⟨p, hp, h.row j p xs hp hj⟩
theorem LLat.row_at {K : PySem.W.Frag} {H : Hp} {a : Addr} {as : List Addr} {xss : List (List Int)} (h : LLat K H a as xss) {j : Nat} {p : Addr} (hj : as[j]? = some p) : ∃ xs, xss[j]? = some xs ∧ IL K H p xs := by
  have hl := lt_at hj
  obtain ⟨xs, hp⟩ := some_at (xs := xss) (j := j) (by rw [← h.len]; exact hl)
  exact ⟨xs, hp, h.row j p xs hj hp⟩
theorem same_new {H : Hp} {p : Addr} {o : HO} (h : H p = none) : Same H (upd H p o) := fun b x e => by
  rw [upd_ne (ne_of_none e h)]
  exact e
/-- an object that H does not know may change -/
theorem same_mut {H H' : Hp} {p : Addr} {o : HO} (e : Same H H') (h : H p = none) : Same H (upd H' p o) := fun b x hb => by
  rw [upd_ne (ne_of_none hb h)]
  exact e b x hb
theorem il_of {K : PySem.W.Frag} {H : Hp} {a : Addr} {xs : List V} (h : H a = some (.lst xs)) : SqL K H a xs := .inl (.inl h)
theorem sz {n : Nat} (h : n ≤ 100000) : n ≤ sizeLine := Nat.le_trans h (by decide)
theorem szl {n : Nat} (h : n < 100000) : n < sizeLine := Nat.lt_of_lt_of_le h (by decide)
theorem map_len {α β : Type} (f : α → β) (xs : List α) : (xs.map f).length = xs.length := List.length_map _
/-- some list at an address that a fresh list knows -/
def Fr (H0 H : Hp) (a : Addr) (o : HO) : Prop := H0 a = none ∧ H a = some o

/-- a list of our own, D, of lists of ints of our own: none of them stood in H0 -/
structure FL (H0 H : Hp) (D : Addr) (ps : List Addr) (xss : List (List Int)) : Prop where
  d0 : H0 D = none
  d : H D = some (.lst (ps.map V.ref))
  len : ps.length = xss.length
  nd : ps.Nodup
  row : ∀ (l : Nat) (p : Addr) (xs : List Int), ps[l]? = some p → xss[l]? = some xs → H0 p = none ∧ p ≠ D ∧ H p = some (.lst (xs.map V.int))
theorem FL.nil {H0 H : Hp} {D : Addr} (h0 : H0 D = none) (h : H D = some (.lst [])) : FL H0 H D [] [] :=
  ⟨h0, h, rfl, List.nodup_nil, fun l p xs h _ => by simp at h⟩
theorem FL.same {H0 H H' : Hp} {D : Addr} {ps : List Addr} {xss : List (List Int)} (f : FL H0 H D ps xss) (e : Same H H') : FL H0 H' D ps xss :=
  ⟨f.d0, e _ _ f.d, f.len, f.nd, fun l p xs h1 h2 => ⟨(f.row l p xs h1 h2).1, (f.row l p xs h1 h2).2.1, e _ _ (f.row l p xs h1 h2).2.2⟩⟩
theorem FL.base {H0 H1 H : Hp} {D : Addr} {ps : List Addr} {xss : List (List Int)} (f : FL H1 H D ps xss) (e : Same H0 H1) : FL H0 H D ps xss :=
  ⟨e.free f.d0, f.d, f.len, f.nd, fun l p xs h1 h2 => ⟨e.free (f.row l p xs h1 h2).1, (f.row l p xs h1 h2).2⟩⟩
/-- other objects may change -/
theorem FL.upd {H0 H : Hp} {D q : Addr} {o : HO} {ps : List Addr} {xss : List (List Int)} (f : FL H0 H D ps xss) (h1 : q ≠ D) (h2 : q ∉ ps) : FL H0 (L2.upd H q o) D ps xss :=
  ⟨f.d0, by rw [upd_ne h1.symm]; exact f.d, f.len, f.nd, fun l p xs e1 e2 => by
    obtain ⟨a, b, c⟩ := f.row l p xs e1 e2
    refine ⟨a, b, ?_⟩
    rw [upd_ne (fun e => h2 (by rw [← e]; exact List.mem_of_getElem? e1))]
    exact c⟩
theorem FL.mem {H0 H : Hp} {D p : Addr} {ps : List Addr} {xss : List (List Int)} (f : FL H0 H D ps xss) (h : p ∈ ps) : ∃ xs : List Int, H0 p = none ∧ p ≠ D ∧ H p = some (.lst (xs.map V.int)) := by
  obtain ⟨l, hl⟩ := List.mem_iff_getElem?.mp h
  obtain ⟨xs, hx⟩ := some_at (xs := xss) (j := l) (by rw [← f.len]; exact lt_at hl)
  exact ⟨xs, f.row l p xs hl hx⟩
theorem FL.push {H0 H H' : Hp} {D q : Addr} {ps : List Addr} {xss : List (List Int)} {xs : List Int} (f : FL H0 H D ps xss) (e0 : Same H0 H) (e : Same H H') (hq : H q = none) (hq' : H' q = some (.lst (xs.map V.int))) :
    FL H0 (L2.upd H' D (.lst (ps.map V.ref ++ [V.ref q]))) D (ps ++ [q]) (xss ++ [xs]) := by
  have qD : q ≠ D := (ne_of_none f.d hq).symm
  have qn : q ∉ ps := fun z => by
    obtain ⟨ys, _, _, h⟩ := f.mem z
    rw [hq] at h
    cases h
  refine ⟨f.d0, by rw [upd_same, List.map_append] <;> rfl, by rw [List.length_append, List.length_append, f.len] <;> rfl, ?_, fun l p ys h1 h2 => ?_⟩
  · rw [List.nodup_append]
    refine ⟨f.nd, by simp, fun a ha b hb e => ?_⟩
    rw [List.mem_singleton] at hb
    rw [e, hb] at ha
    exact qn ha
  · by_cases hl : l < ps.length
    · rw [List.getElem?_append_left hl] at h1
      rw [List.getElem?_append_left (by rw [← f.len]; exact hl)] at h2
      obtain ⟨a, b, c⟩ := f.row l p ys h1 h2
      refine ⟨a, b, ?_⟩
      rw [upd_ne b]
      exact e _ _ c
    · have el : l = ps.length := by
        have := lt_at h1
        rw [List.length_append, List.length_singleton] at this
        omega
      subst el
      rw [List.getElem?_append_right (Nat.le_refl _), Nat.sub_self] at h1
      rw [List.getElem?_append_right (by rw [f.len]; exact Nat.le_refl _), f.len, Nat.sub_self] at h2
      have e1 : q = p := Option.some.inj h1
      have e2 : xs = ys := Option.some.inj h2
      subst e1 e2
      refine ⟨e0.free hq, qD, ?_⟩
      rw [upd_ne qD]
      exact hq'
theorem FL.set {H0 H : Hp} {D p : Addr} {ps : List Addr} {xss : List (List Int)} {j : Nat} {ys : List Int} (f : FL H0 H D ps xss) (hj : ps[j]? = some p) : FL H0 (L2.upd H p (.lst (ys.map V.int))) D ps (xss.set j ys) := by
  obtain ⟨zs, hz⟩ := some_at (xs := xss) (j := j) (by rw [← f.len]; exact lt_at hj)
  obtain ⟨p0, pD, hp⟩ := f.row j p zs hj hz
  refine ⟨f.d0, by rw [upd_ne pD.symm]; exact f.d, by rw [List.length_set]; exact f.len, f.nd, fun l q xs h1 h2 => ?_⟩
  by_cases e : l = j
  · subst e
    rw [hj] at h1
    cases h1
    rw [List.getElem?_set_self (lt_at hz)] at h2
    cases h2
    exact ⟨p0, pD, upd_same⟩
  · rw [List.getElem?_set_ne (fun z => e z.symm)] at h2
    obtain ⟨a, b, c⟩ := f.row l q xs h1 h2
    refine ⟨a, b, ?_⟩
    rw [upd_ne (fun z => e (nd_ix f.nd (by rw [z] at h1; exact h1) hj))]
    exact c
theorem FL.ll {K : PySem.W.Frag} {H0 H : Hp} {D : Addr} {ps : List Addr} {xss : List (List Int)} (f : FL H0 H D ps xss) : LLat K H D ps xss :=
  ⟨il_of f.d, f.len, fun l p xs h1 h2 => il_of (f.row l p xs h1 h2).2.2⟩
theorem rep_one {α : Type} (x : α) : ∀ n : Nat, (List.replicate n [x]).flatten = List.replicate n x
  | 0 => rfl
  | n + 1 => by
    rw [List.replicate_succ, List.flatten_cons, rep_one x n, List.replicate_succ]
    rfl
theorem zeros {k : Int} {n : Nat} (e : k = (n : Int)) : (List.replicate k.toNat [V.int 0]).flatten = (List.replicate n (0 : Int)).map V.int := by
  rw [e, Int.toNat_natCast, rep_one, List.map_replicate]
theorem ixN_of {n j : Nat} {i : Int} (e : i = (j : Int)) (hj : j < n) : ixN n i = some j := by
  rw [e]
  unfold ixN
  rw [if_pos (by omega), if_pos (by omega)]
  rfl
/-- numbers as ints -/
abbrev up (ds : List Nat) : List Int := ds.map fun (d : Nat) => (d : Int)
theorem up_at {ds : List Nat} {j d : Nat} (h : ds[j]? = some d) : (up ds)[j]? = some (d : Int) := by
  unfold up
  rw [List.getElem?_map, h]
  rfl
theorem up_zeros (n : Nat) : List.replicate n (0 : Int) = up (List.replicate n 0) := by
  unfold up
  rw [List.map_replicate]
  rfl

theorem at_snoc {α : Type} {xs : List α} {x y : α} {l : Nat} (h : (xs ++ [x])[l]? = some y) : xs[l]? = some y ∨ (l = xs.length ∧ x = y) := by
  by_cases hl : l < xs.length
  · rw [List.getElem?_append_left hl] at h
    exact .inl h
  · have e : l = xs.length := by
      have := lt_at h
      rw [List.length_append, List.length_singleton] at this
      omega
    subst e
    rw [List.getElem?_append_right (Nat.le_refl _), Nat.sub_self] at h
    exact .inr ⟨rfl, Option.some.inj h⟩
theorem snoc_map {xs : List Int} {z : Int} : xs.map V.int ++ [V.int z] = (xs ++ [z]).map V.int := by
  rw [List.map_append] <;> rfl

/-! ### loops over a range from 0 -/
theorem for_rng {n : Nat} {g : TG} {tb : TS} {D : Ends} {σ : L2.St} {H : Hp} (Pv : Nat → L2.St → Hp → Prop) (h0 : Pv 0 σ H)
    (hs : ∀ i σ H, i < n → Pv i σ H → g (.int (i : Int)) σ H fun σ2 H2 => tb { D with nx := Pv (i + 1), ct := Pv (i + 1), bk := D.nx } σ2 H2) (hd : ∀ σ H, Pv n σ H → D.nx σ H) :
    ∃ W : Nat → Nat → L2.St → Hp → Prop, (∃ m, W 0 m σ H) ∧ ∀ i m σ H, W i m σ H →
      ((Itr 0 n).stop i H ∧ D.nx σ H) ∨ ((Itr 0 n).go i H ∧ ∃ N : L2.St → Hp → Prop, (∀ σ' H', N σ' H' → ∃ m', m' < m ∧ W (i + 1) m' σ' H') ∧ ∀ x H', (Itr 0 n).yld i H x H' → g x σ H' fun σ2 H2 => tb { D with nx := N, ct := N, bk := D.nx } σ2 H2) :=
  for_range (lo := 0) Pv h0 (fun i σ H hi p => by
    have e0 : (0 : Int) + (i : Int) = (i : Int) := Int.zero_add _
    rw [e0]
    exact hs i σ H hi p) hd
theorem lc_rng {n : Nat} {g : TG} {tt : TT} {te : TE} {vs : List Nat} {σ : L2.St} {H1 : Hp} {D : Addr} {Qd : Hp → Prop} (Pv : Nat → Hp → Prop) (h0 : Pv 0 (upd H1 D (.lst [])))
    (hs : ∀ i H, i < n → Pv i H → g (.int (i : Int)) (wipe σ vs) H fun σ2 H2 => wipe σ2 vs = wipe σ vs ∧ tt σ2 H2 fun b H3 =>
      if b = true then te σ2 H3 fun y H4 => ∃ acc, H4 D = some (.lst acc) ∧ acc.length < sizeLine ∧ Pv (i + 1) (upd H4 D (.lst (acc ++ [y]))) else Pv (i + 1) H3) (hd : ∀ H, Pv n H → Qd H) :
    ∃ W : Nat → Nat → Hp → Prop, (∃ m, W 0 m (upd H1 D (.lst []))) ∧ ∀ i m H, W i m H →
      ((Itr 0 n).stop i H ∧ Qd H) ∨ ((Itr 0 n).go i H ∧ ∃ Nx : Hp → Prop, (∀ H', Nx H' → ∃ m', m' < m ∧ W (i + 1) m' H') ∧ ∀ x H', (Itr 0 n).yld i H x H' → g x (wipe σ vs) H' fun σ2 H2 => wipe σ2 vs = wipe σ vs ∧ tt σ2 H2 fun b H3 =>
        if b = true then te σ2 H3 fun y H4 => ∃ acc, H4 D = some (.lst acc) ∧ acc.length < sizeLine ∧ Nx (upd H4 D (.lst (acc ++ [y]))) else Nx H3) :=
  lc_range (lo := 0) Pv h0 (fun i H hi p => by
    have e0 : (0 : Int) + (i : Int) = (i : Int) := Int.zero_add _
    rw [e0]
    exact hs i H hi p) hd

/-! ### promises -/
/-- the two lists are read; d: how much of the run lies in the schedule -/
def spPre (K : PySem.W.Frag) : Sp := fun vs H Q _ => ∃ (a b : Addr) (r s : List Int), vs = [.ref a, .ref b] ∧ IL K H a r ∧ IL K H b s ∧ ∀ d : Nat, d ≤ r.length → (d < r.length ↔ ¬ r.Sublist s) → Q (.int (d : Int)) H
/-- each run lies in the schedule -/
def spAll (K : PySem.W.Frag) : Sp := fun vs H Q _ => ∃ (a b : Addr) (rs : List (List Int)) (s : List Int), vs = [.ref a, .ref b] ∧ LL K H a rs ∧ IL K H b s ∧ ∀ c : Bool, (c = true ↔ ∀ r ∈ rs, r.Sublist s) → Q (.bl c) H
end K35
namespace K35
open PySem PySem.Spec PyProof.Rows L2
local macro_rules | `(tactic| walk_at "rd") => `(tactic| repeat (first
  | refine ⟨_, rfl, ?_⟩
  | refine ⟨_, _, rfl, rfl, ?_⟩
  | refine ⟨(show scal _ _ = true from rfl), ?_⟩
  | refine ⟨_, _, rfl, .inl (by assumption), ?_⟩
  | refine ⟨_, _, rfl, (by assumption), ?_⟩
  | refine ⟨_, _, _, _, rfl, rfl, (by assumption), at_int (by assumption), ?_⟩
  | refine ⟨_, _, _, _, rfl, rfl, (by assumption), at_ref (by assumption), ?_⟩
  | refine .inl ⟨_, rfl, ?_⟩
  | refine ⟨(show (0 : Int) < _ by first | decide | assumption | omega), ?_⟩
  | refine ⟨(show CDiv _ _ from ⟨by first | decide | assumption | omega, by first | decide | assumption | omega⟩), ?_⟩
  | refine ⟨(show CPow _ _ from ⟨by decide, by decide, by decide⟩), ?_⟩
  | refine ⟨(show CMul _ _ from .inl ⟨by first | decide | omega, by first | decide | omega⟩), ?_⟩
  | refine ⟨(show CMul _ _ from .inr ⟨by first | decide | omega, by first | decide | omega⟩), ?_⟩
  | refine ⟨.inl ⟨rfl, _, (by assumption)⟩, ?_⟩
  | refine ⟨_, _, _, rfl, rfl, (by assumption), (by assumption), ?_⟩))
/-! ### lists of ints, lists of such, as data -/
def ilD (ns : List Int) : PyData := .list (ns.map PyData.int)
def llD (rs : List (List Int)) : PyData := .list (rs.map ilD)
theorem il_lay : ∀ ns : List Int, PyData.canLayAll0 (ns.map PyData.int) = true
  | [] => by simp [PyData.canLayAll0]
  | n :: ns => by
    have ih := il_lay ns
    simp [PyData.canLayAll0, PyData.canLay0, ih]
theorem ll_lay : ∀ rs : List (List Int), PyData.canLayAll0 (rs.map ilD) = true
  | [] => by simp [PyData.canLayAll0]
  | r :: rs => by
    have ih := ll_lay rs
    simp [PyData.canLayAll0, PyData.canLay0, ilD, il_lay, ih]
theorem il_depth : ∀ ns : List Int, PyData.depthAll (ns.map PyData.int) ≤ 1
  | [] => by simp [PyData.depthAll]
  | n :: ns => by
    have ih := il_depth ns
    simp [PyData.depthAll, PyData.depth]
    omega
theorem ll_depth : ∀ rs : List (List Int), PyData.depthAll (rs.map ilD) ≤ 3
  | [] => by simp [PyData.depthAll]
  | r :: rs => by
    have ih := ll_depth rs
    have := il_depth r
    simp [PyData.depthAll, PyData.depth, ilD]
    omega
theorem il_shaped (ns : List Int) : SeqAt.shaped (ilD ns) = true := by
  have := il_depth ns
  simp [SeqAt.shaped, ilD, PyData.canLay0, il_lay, PyData.depth]
  omega
theorem ll_shaped (rs : List (List Int)) : SeqAt.shaped (llD rs) = true := by
  have := ll_depth rs
  simp [SeqAt.shaped, llD, PyData.canLay0, ll_lay, PyData.depth]
  omega
theorem il_eqv (ns : List Int) : PyData.eqv (ilD ns) (ilD ns) = true := SeqAt.eqv_refl _ (by simp [ilD, PyData.canLay0, il_lay])
theorem ll_eqv (rs : List (List Int)) : PyData.eqv (llD rs) (llD rs) = true := SeqAt.eqv_refl _ (by simp [llD, PyData.canLay0, ll_lay])
theorem dp_ints {K : PySem.W.Frag} {H : Hp} : ∀ ns : List Int, DpAll K H (ns.map V.int) (ns.map PyData.int)
  | [] => .nil
  | n :: ns => .cons (.int n) (dp_ints ns)
theorem dp_il {K : PySem.W.Frag} {H : Hp} {a : Addr} {ns : List Int} (h : IL K H a ns) : Dp K H (.ref a) (ilD ns) := .lst h (dp_ints ns)
theorem dp_refs {K : PySem.W.Frag} {H : Hp} : ∀ (as : List Addr) (rs : List (List Int)), as.length = rs.length → (∀ (i : Nat) (p : Addr) (xs : List Int), as[i]? = some p → rs[i]? = some xs → IL K H p xs) → DpAll K H (as.map V.ref) (rs.map ilD)
  | [], [], _, _ => .nil
  | [], _ :: _, h, _ => by simp at h
  | _ :: _, [], h, _ => by simp at h
  | a :: as, r :: rs, h, f => .cons (dp_il (f 0 a r rfl rfl)) (dp_refs as rs (by simpa using h) fun i p xs h1 h2 => f (i + 1) p xs h1 h2)
theorem dp_ll {K : PySem.W.Frag} {H : Hp} {a : Addr} {rs : List (List Int)} (h : LL K H a rs) : Dp K H (.ref a) (llD rs) := by
  obtain ⟨as, h⟩ := h
  exact .lst h.lst (dp_refs as rs h.len h.row)
/-! ### slices -/
theorem cut_take {α : Type} (f : α → V) (xs : List α) (k : Nat) : cutV (xs.map f) none (some (k : Int)) = (xs.take k).map f := by
  unfold cutV
  rw [HT.sIx_none, HT.sIx_nat, List.drop_zero, Nat.sub_zero, map_len, ← List.map_take]
  congr 1
  by_cases h : k ≤ xs.length
  · rw [Nat.min_eq_left h]
  · rw [Nat.min_eq_right (by omega), List.take_length, List.take_of_length_le (by omega)]
theorem cut_drop {α : Type} (f : α → V) (xs : List α) (k : Nat) : cutV (xs.map f) (some (k : Int)) none = (xs.drop k).map f := by
  unfold cutV
  rw [HT.sIx_none, HT.sIx_nat, map_len, ← List.map_drop, ← List.map_take]
  congr 1
  by_cases h : k ≤ xs.length
  · rw [Nat.min_eq_left h]
    refine List.take_of_length_le ?_
    rw [List.length_drop]
    omega
  · rw [Nat.min_eq_right (by omega), List.drop_length, List.drop_eq_nil_of_le (by omega)]
    rw [List.take_nil]
theorem cutI_take {α : Type} (f : α → V) (xs : List α) {i : Int} {k : Nat} (e : i = (k : Int)) : cutV (xs.map f) none (some i) = (xs.take k).map f := by
  rw [e, cut_take]
theorem cutI_drop {α : Type} (f : α → V) (xs : List α) {i : Int} {k : Nat} (e : i = (k : Int)) : cutV (xs.map f) (some i) none = (xs.drop k).map f := by
  rw [e, cut_drop]
theorem cutI_mid {α : Type} (f : α → V) (xs : List α) {i j : Int} {k l : Nat} (e : i = (k : Int)) (e2 : j = (l : Int)) (h : k ≤ l) (h2 : l ≤ xs.length) : cutV (xs.map f) (some i) (some j) = ((xs.drop k).take (l - k)).map f := by
  unfold cutV
  rw [e, e2, HT.sIx_nat, HT.sIx_nat, map_len, Nat.min_eq_left h2, Nat.min_eq_left (by omega), ← List.map_drop, ← List.map_take]
/-- some of a list of lists' rows -/
theorem LLat.take {K : PySem.W.Frag} {H : Hp} {a b : Addr} {as : List Addr} {xss : List (List Int)} (h : LLat K H a as xss) (n : Nat) (hb : SqL K H b ((as.take n).map V.ref)) : LLat K H b (as.take n) (xss.take n) := by
  refine ⟨hb, by rw [List.length_take, List.length_take, h.len], fun i p xs h1 h2 => ?_⟩
  have hi : i < n := by
    have := lt_at h1
    rw [List.length_take] at this
    omega
  rw [List.getElem?_take_of_lt hi] at h1 h2
  exact h.row i p xs h1 h2
theorem LLat.drop {K : PySem.W.Frag} {H : Hp} {a b : Addr} {as : List Addr} {xss : List (List Int)} (h : LLat K H a as xss) (n : Nat) (hb : SqL K H b ((as.drop n).map V.ref)) : LLat K H b (as.drop n) (xss.drop n) := by
  refine ⟨hb, by rw [List.length_drop, List.length_drop, h.len], fun i p xs h1 h2 => ?_⟩
  rw [List.getElem?_drop] at h1 h2
  exact h.row (n + i) p xs h1 h2
end K35
namespace K35
open PySem PySem.Spec PyProof.Rows L2
local macro_rules | `(tactic| walk_at "rd") => `(tactic| repeat (first
  | refine ⟨_, rfl, ?_⟩
  | refine ⟨_, _, rfl, rfl, ?_⟩
  | refine ⟨(show scal _ _ = true from rfl), ?_⟩
  | refine ⟨_, _, rfl, .inl (by assumption), ?_⟩
  | refine ⟨_, _, rfl, (by assumption), ?_⟩
  | refine ⟨_, _, _, _, rfl, rfl, (by assumption), at_int (by assumption), ?_⟩
  | refine ⟨_, _, _, _, rfl, rfl, (by assumption), at_ref (by assumption), ?_⟩
  | refine .inl ⟨_, rfl, ?_⟩
  | refine ⟨(show (0 : Int) < _ by first | decide | assumption | omega), ?_⟩
  | refine ⟨(show CDiv _ _ from ⟨by first | decide | assumption | omega, by first | decide | assumption | omega⟩), ?_⟩
  | refine ⟨(show CPow _ _ from ⟨by decide, by decide, by decide⟩), ?_⟩
  | refine ⟨(show CMul _ _ from .inl ⟨by first | decide | omega, by first | decide | omega⟩), ?_⟩
  | refine ⟨(show CMul _ _ from .inr ⟨by first | decide | omega, by first | decide | omega⟩), ?_⟩
  | refine ⟨.inl ⟨rfl, _, (by assumption)⟩, ?_⟩
  | refine ⟨_, _, _, rfl, rfl, (by assumption), (by assumption), ?_⟩))
section
variable {P : Program} {w : World} {K : PySem.W.Frag} {mg : Str → Option Value} {base : Heap}
abbrev s_prefixlength : Stmt := topS 4
theorem sc_prefixlength : FnScope ["run", "schedule", "done", "node"] ["run", "schedule"] (defScope s_prefixlength) := ⟨rfl, rfl, rfl, by decide +kernel, rfl, by decide +kernel, by decide +kernel⟩
theorem ok_prefixlength {f : Addr} {fd : FuncData} (F : Fun K "prefix_length" "prefix_length" s_prefixlength f fd) (T : Txt mg) : FnOk P w K mg base CX0 1 f fd ["run", "schedule"] (spPre K) := by
  refine F.ok sc_prefixlength (fun vs H Q E h => ?_) (fun cdv A outer s H vs Q E hr h => ?_)
  · obtain ⟨a, b, r, s, rfl, _⟩ := h
    rfl
  · obtain ⟨a, b, r, s, rfl, hR, hS, q⟩ := h
    refine ⟨_, (pss_cons (ps_set (i := 2) sc_prefixlength.nd rfl (.inl rfl) pe_int)
    (pss_cons (ps_for PassesOwn.never rfl (pi_list (pv 1)) (pg_name (i := 3) sc_prefixlength.nd rfl (.inl rfl))
      (pss_one (ps_if (PW.pt (pw_and (pt_cmpR op_lt (pv 2) (pe_callB call_len_seq (by rfl) T.len PySem.boot_len (pa_cons (pv 0) pa_nil)) (nomark _)) (pw_and1 (pt_cmpR op_eq (pe_ix ix_list (pv 0) (pv 2) (fun _ _ => rfl)) (pv 3) (nomark _)))))
        (pss_one (ps_set (i := 2) sc_prefixlength.nd rfl (.inl rfl) (pe_op op_add (pv 2) pe_int)))
        pss_nil)))
    (pss_one (ps_ret (pv 2))))), ?_⟩
    refine ⟨.ref b, rfl, b, rfl, ⟨_, hS⟩, for_list (K := K) (a := b) (xs := s.map V.int) (fun i σ H' => H' = H ∧ ∃ (d : Nat) (v : Option V), σ = [some (.ref a), some (.ref b), some (.int (d : Int)), v] ∧ d ≤ r.length ∧ (r.Sublist s ↔ (r.drop d).Sublist (s.drop i)))
      ⟨rfl, 0, none, rfl, Nat.zero_le _, Iff.rfl⟩ (fun i σ H' _ ⟨e, _⟩ => e ▸ hS) ?_ ?_⟩
    · rintro i y σ H' hi ⟨rfl, d, v, rfl, hd, hw⟩
      obtain ⟨z, rfl, hz⟩ := map_at_int hi
      walk_at "rd"
      refine ite2 (fun e1 => ?_) (fun e1 => ?_)
      · have hd1 : d < r.length := by
          have := of_decide_eq_true e1
          rw [map_len] at this
          omega
        obtain ⟨x, hx⟩ := some_at hd1
        refine ⟨_, rfl, _, rfl, a, _, _, _, rfl, rfl, hR, at_int hx, _, rfl, rfl, _, rfl, ?_⟩
        refine ite2 (fun e2 => ?_) (fun e2 => ?_)
        · have ex : x = z := V.int.inj (of_decide_eq_true e2)
          subst ex
          walk_at "rd"
          exact ⟨rfl, d + 1, _, rfl, hd1, pre_yes hw hz hx⟩
        · refine ⟨rfl, d, _, rfl, hd, pre_no hw hz fun q => e2 (decide_eq_true ?_)⟩
          rw [hx] at q
          rw [Option.some.inj q]
      · refine iteF ⟨rfl, d, _, rfl, hd, pre_no hw hz fun q => e1 (decide_eq_true ?_)⟩
        rw [map_len]
        have := lt_at q
        omega
    · rintro σ H' ⟨rfl, d, v, rfl, hd, hw⟩
      rw [map_len] at hw
      exact ⟨_, rfl, q d hd (pre_end hd hw)⟩
abbrev s_Lprefix : Stmt := topS 24
theorem sc_Lprefix : FnScope ["_law_run_here", "_law_schedule", "_law_done", "_law_node"] ["_law_run_here", "_law_schedule"] (defScope s_Lprefix) := ⟨rfl, rfl, rfl, by decide +kernel, rfl, by decide +kernel, by decide +kernel⟩
theorem ok_Lprefix {f : Addr} {fd : FuncData} (F : Fun K "_law_prefix" "_law_prefix" s_Lprefix f fd) (T : Txt mg) : FnOk P w K mg base CX0 1 f fd ["_law_run_here", "_law_schedule"] (spPre K) := by
  refine F.ok sc_Lprefix (fun vs H Q E h => ?_) (fun cdv A outer s H vs Q E hr h => ?_)
  · obtain ⟨a, b, r, s, rfl, _⟩ := h
    rfl
  · obtain ⟨a, b, r, s, rfl, hR, hS, q⟩ := h
    refine ⟨_, (pss_cons (ps_set (i := 2) sc_Lprefix.nd rfl (.inl rfl) pe_int)
    (pss_cons (ps_for PassesOwn.never rfl (pi_list (pv 1)) (pg_name (i := 3) sc_Lprefix.nd rfl (.inl rfl))
      (pss_one (ps_if (PW.pt (pw_and (pt_cmpR op_lt (pv 2) (pe_callB call_len_seq (by rfl) T.len PySem.boot_len (pa_cons (pv 0) pa_nil)) (nomark _)) (pw_and1 (pt_cmpR op_eq (pe_ix ix_list (pv 0) (pv 2) (fun _ _ => rfl)) (pv 3) (nomark _)))))
        (pss_one (ps_set (i := 2) sc_Lprefix.nd rfl (.inl rfl) (pe_op op_add (pv 2) pe_int)))
        pss_nil)))
    (pss_one (ps_ret (pv 2))))), ?_⟩
    refine ⟨.ref b, rfl, b, rfl, ⟨_, hS⟩, for_list (K := K) (a := b) (xs := s.map V.int) (fun i σ H' => H' = H ∧ ∃ (d : Nat) (v : Option V), σ = [some (.ref a), some (.ref b), some (.int (d : Int)), v] ∧ d ≤ r.length ∧ (r.Sublist s ↔ (r.drop d).Sublist (s.drop i)))
      ⟨rfl, 0, none, rfl, Nat.zero_le _, Iff.rfl⟩ (fun i σ H' _ ⟨e, _⟩ => e ▸ hS) ?_ ?_⟩
    · rintro i y σ H' hi ⟨rfl, d, v, rfl, hd, hw⟩
      obtain ⟨z, rfl, hz⟩ := map_at_int hi
      walk_at "rd"
      refine ite2 (fun e1 => ?_) (fun e1 => ?_)
      · have hd1 : d < r.length := by
          have := of_decide_eq_true e1
          rw [map_len] at this
          omega
        obtain ⟨x, hx⟩ := some_at hd1
        refine ⟨_, rfl, _, rfl, a, _, _, _, rfl, rfl, hR, at_int hx, _, rfl, rfl, _, rfl, ?_⟩
        refine ite2 (fun e2 => ?_) (fun e2 => ?_)
        · have ex : x = z := V.int.inj (of_decide_eq_true e2)
          subst ex
          walk_at "rd"
          exact ⟨rfl, d + 1, _, rfl, hd1, pre_yes hw hz hx⟩
        · refine ⟨rfl, d, _, rfl, hd, pre_no hw hz fun q => e2 (decide_eq_true ?_)⟩
          rw [hx] at q
          rw [Option.some.inj q]
      · refine iteF ⟨rfl, d, _, rfl, hd, pre_no hw hz fun q => e1 (decide_eq_true ?_)⟩
        rw [map_len]
        have := lt_at q
        omega
    · rintro σ H' ⟨rfl, d, v, rfl, hd, hw⟩
      rw [map_len] at hw
      exact ⟨_, rfl, q d hd (pre_end hd hw)⟩
end
end K35
namespace K35
open PySem PySem.Spec PyProof.Rows L2
local macro_rules | `(tactic| walk_at "rd") => `(tactic| repeat (first
  | refine ⟨_, rfl, ?_⟩
  | refine ⟨_, _, rfl, rfl, ?_⟩
  | refine ⟨(show scal _ _ = true from rfl), ?_⟩
  | refine ⟨_, _, rfl, .inl (by assumption), ?_⟩
  | refine ⟨_, _, rfl, (by assumption), ?_⟩
  | refine ⟨_, _, _, _, rfl, rfl, (by assumption), at_int (by assumption), ?_⟩
  | refine ⟨_, _, _, _, rfl, rfl, (by assumption), at_ref (by assumption), ?_⟩
  | refine .inl ⟨_, rfl, ?_⟩
  | refine ⟨(show (0 : Int) < _ by first | decide | assumption | omega), ?_⟩
  | refine ⟨(show CDiv _ _ from ⟨by first | decide | assumption | omega, by first | decide | assumption | omega⟩), ?_⟩
  | refine ⟨(show CPow _ _ from ⟨by decide, by decide, by decide⟩), ?_⟩
  | refine ⟨(show CMul _ _ from .inl ⟨by first | decide | omega, by first | decide | omega⟩), ?_⟩
  | refine ⟨(show CMul _ _ from .inr ⟨by first | decide | omega, by first | decide | omega⟩), ?_⟩
  | refine ⟨.inl ⟨rfl, _, (by assumption)⟩, ?_⟩
  | refine ⟨_, _, _, rfl, rfl, (by assumption), (by assumption), ?_⟩))
section
variable {P : Program} {w : World} {K : PySem.W.Frag} {mg : Str → Option Value} {base : Heap}
abbrev s_iscomplete : Stmt := topS 5
theorem sc_iscomplete : FnScope ["runs", "schedule", "run"] ["runs", "schedule"] (defScope s_iscomplete) := ⟨rfl, rfl, rfl, by decide +kernel, rfl, by decide +kernel, by decide +kernel⟩
theorem ok_iscomplete {f : Addr} {fd : FuncData} (F : Fun K "is_complete" "is_complete" s_iscomplete f fd) (T : Txt mg) (o_prefixlength : Own P w K mg base 1 "prefix_length" ["run", "schedule"] (spPre K)) : FnOk P w K mg base CX0 2 f fd ["runs", "schedule"] (spAll K) := by
  refine F.ok sc_iscomplete (fun vs H Q E h => ?_) (fun cdv A outer s H vs Q E hr h => ?_)
  · obtain ⟨a, b, rs, s, rfl, _⟩ := h
    rfl
  · obtain ⟨a, b, rs, s, rfl, hL, hS, q⟩ := h
    obtain ⟨as, hL⟩ := hL
    refine ⟨_, (pss_cons (ps_for PassesOwn.never rfl (pi_list (pv 0)) (pg_name (i := 2) sc_iscomplete.nd rfl (.inl rfl))
      (pss_one (ps_if (pt_cmpR op_lt (pe_own o_prefixlength (hr.mono (by decide)) (by rfl) (pa_cons (pv 2) (pa_cons (pv 1) pa_nil))) (pe_callB call_len_seq (by rfl) T.len PySem.boot_len (pa_cons (pv 2) pa_nil)) (nomark _))
        (pss_one (ps_ret pe_bl))
        pss_nil)))
    (pss_one (ps_ret pe_bl))), ?_⟩
    refine ⟨.ref a, rfl, a, rfl, ⟨_, hL.lst⟩, for_list (K := K) (a := a) (xs := as.map V.ref) (fun i σ H' => H' = H ∧ ∃ (v : Option V), σ = [some (.ref a), some (.ref b), v] ∧ ∀ (j : Nat) (r : List Int), j < i → rs[j]? = some r → r.Sublist s)
      ⟨rfl, none, rfl, fun j r h => absurd h (Nat.not_lt_zero j)⟩ (fun i σ H' _ ⟨e, _⟩ => e ▸ hL.lst) ?_ ?_⟩
    · rintro i y σ H' hi ⟨rfl, v, rfl, hw⟩
      obtain ⟨p, rfl, hp⟩ := map_at_ref hi
      obtain ⟨r, hr2, hP⟩ := hL.row_at hp
      walk_at "rd"
      refine ⟨p, b, r, s, rfl, hP, hS, fun d hd hq => ?_⟩
      walk_at "rd"
      refine ite2 (fun e1 => ?_) (fun e1 => ?_)
      · refine q false ⟨(fun z => nomatch z), fun z => ?_⟩
        have h1 := of_decide_eq_true e1
        rw [map_len] at h1
        exact absurd (z r (List.mem_of_getElem? hr2)) (hq.mp (by omega))
      · refine ⟨rfl, _, rfl, fun j r' hj hj2 => ?_⟩
        by_cases e : j = i
        · subst e
          rw [hr2] at hj2
          cases hj2
          refine Classical.byContradiction fun n => e1 (decide_eq_true ?_)
          rw [map_len]
          have := hq.mpr n
          omega
        · exact hw j r' (by omega) hj2
    · rintro σ H' ⟨rfl, v, rfl, hw⟩
      refine q true ⟨fun _ r hr2 => ?_, fun _ => rfl⟩
      obtain ⟨j, hj⟩ := List.mem_iff_getElem?.mp hr2
      have := lt_at hj
      refine hw j r ?_ hj
      rw [map_len, hL.len]
      exact this
abbrev s_Lwhole : Stmt := topS 27
theorem sc_Lwhole : FnScope ["_law_runs", "_law_schedule", "_law_run_here"] ["_law_runs", "_law_schedule"] (defScope s_Lwhole) := ⟨rfl, rfl, rfl, by decide +kernel, rfl, by decide +kernel, by decide +kernel⟩
theorem ok_Lwhole {f : Addr} {fd : FuncData} (F : Fun K "_law_whole" "_law_whole" s_Lwhole f fd) (T : Txt mg) (o_Lprefix : Own P w K mg base 1 "_law_prefix" ["_law_run_here", "_law_schedule"] (spPre K)) : FnOk P w K mg base CX0 2 f fd ["_law_runs", "_law_schedule"] (spAll K) := by
  refine F.ok sc_Lwhole (fun vs H Q E h => ?_) (fun cdv A outer s H vs Q E hr h => ?_)
  · obtain ⟨a, b, rs, s, rfl, _⟩ := h
    rfl
  · obtain ⟨a, b, rs, s, rfl, hL, hS, q⟩ := h
    obtain ⟨as, hL⟩ := hL
    refine ⟨_, (pss_cons (ps_for PassesOwn.never rfl (pi_list (pv 0)) (pg_name (i := 2) sc_Lwhole.nd rfl (.inl rfl))
      (pss_one (ps_if (pt_cmpR op_lt (pe_own o_Lprefix (hr.mono (by decide)) (by rfl) (pa_cons (pv 2) (pa_cons (pv 1) pa_nil))) (pe_callB call_len_seq (by rfl) T.len PySem.boot_len (pa_cons (pv 2) pa_nil)) (nomark _))
        (pss_one (ps_ret pe_bl))
        pss_nil)))
    (pss_one (ps_ret pe_bl))), ?_⟩
    refine ⟨.ref a, rfl, a, rfl, ⟨_, hL.lst⟩, for_list (K := K) (a := a) (xs := as.map V.ref) (fun i σ H' => H' = H ∧ ∃ (v : Option V), σ = [some (.ref a), some (.ref b), v] ∧ ∀ (j : Nat) (r : List Int), j < i → rs[j]? = some r → r.Sublist s)
      ⟨rfl, none, rfl, fun j r h => absurd h (Nat.not_lt_zero j)⟩ (fun i σ H' _ ⟨e, _⟩ => e ▸ hL.lst) ?_ ?_⟩
    · rintro i y σ H' hi ⟨rfl, v, rfl, hw⟩
      obtain ⟨p, rfl, hp⟩ := map_at_ref hi
      obtain ⟨r, hr2, hP⟩ := hL.row_at hp
      walk_at "rd"
      refine ⟨p, b, r, s, rfl, hP, hS, fun d hd hq => ?_⟩
      walk_at "rd"
      refine ite2 (fun e1 => ?_) (fun e1 => ?_)
      · refine q false ⟨(fun z => nomatch z), fun z => ?_⟩
        have h1 := of_decide_eq_true e1
        rw [map_len] at h1
        exact absurd (z r (List.mem_of_getElem? hr2)) (hq.mp (by omega))
      · refine ⟨rfl, _, rfl, fun j r' hj hj2 => ?_⟩
        by_cases e : j = i
        · subst e
          rw [hr2] at hj2
          cases hj2
          refine Classical.byContradiction fun n => e1 (decide_eq_true ?_)
          rw [map_len]
          have := hq.mpr n
          omega
        · exact hw j r' (by omega) hj2
    · rintro σ H' ⟨rfl, v, rfl, hw⟩
      refine q true ⟨fun _ r hr2 => ?_, fun _ => rfl⟩
      obtain ⟨j, hj⟩ := List.mem_iff_getElem?.mp hr2
      have := lt_at hj
      refine hw j r ?_ hj
      rw [map_len, hL.len]
      exact this
end
end K35
namespace K35
open PySem PySem.Spec PyProof.Rows L2
local macro_rules | `(tactic| walk_at "rd") => `(tactic| repeat (first
  | refine ⟨_, rfl, ?_⟩
  | refine ⟨_, _, rfl, rfl, ?_⟩
  | refine ⟨(show scal _ _ = true from rfl), ?_⟩
  | refine ⟨_, _, rfl, .inl (by assumption), ?_⟩
  | refine ⟨_, _, rfl, (by assumption), ?_⟩
  | refine ⟨_, _, _, _, rfl, rfl, (by assumption), at_int (by assumption), ?_⟩
  | refine ⟨_, _, _, _, rfl, rfl, (by assumption), at_ref (by assumption), ?_⟩
  | refine .inl ⟨_, rfl, ?_⟩
  | refine ⟨(show (0 : Int) < _ by first | decide | assumption | omega), ?_⟩
  | refine ⟨(show CDiv _ _ from ⟨by first | decide | assumption | omega, by first | decide | assumption | omega⟩), ?_⟩
  | refine ⟨(show CPow _ _ from ⟨by decide, by decide, by decide⟩), ?_⟩
  | refine ⟨(show CMul _ _ from .inl ⟨by first | decide | omega, by first | decide | omega⟩), ?_⟩
  | refine ⟨(show CMul _ _ from .inr ⟨by first | decide | omega, by first | decide | omega⟩), ?_⟩
  | refine ⟨.inl ⟨rfl, _, (by assumption)⟩, ?_⟩
  | refine ⟨_, _, _, rfl, rfl, (by assumption), (by assumption), ?_⟩))
section
variable {P : Program} {w : World} {K : PySem.W.Frag} {mg : Str → Option Value} {base : Heap}
abbrev s_latestplaces : Stmt := topS 6
theorem sc_latestplaces : FnScope ["run", "schedule", "places", "left", "back", "index"] ["run", "schedule"] (defScope s_latestplaces) := ⟨rfl, rfl, rfl, by decide +kernel, rfl, by decide +kernel, by decide +kernel⟩
def spLat (K : PySem.W.Frag) : Sp := fun vs H Q _ => ∃ (a b : Addr) (r s : List Int), vs = [.ref a, .ref b] ∧ IL K H a r ∧ IL K H b s ∧ r.length ≤ 1000 ∧ s.length ≤ 1000 ∧ r.Sublist s ∧
  ∀ (H' : Hp) (p : Addr) (Z : List Int), Same H H' → H p = none → H' p = some (.lst (Z.map V.int)) → LatOk r s Z → Q (.ref p) H'
theorem ok_latestplaces {f : Addr} {fd : FuncData} (F : Fun K "latest_places" "latest_places" s_latestplaces f fd) (T : Txt mg) : FnOk P w K mg base CX0 1 f fd ["run", "schedule"] (spLat K) := by
  refine F.ok sc_latestplaces (fun vs H Q E h => ?_) (fun cdv A outer s H vs Q E hr h => ?_)
  · obtain ⟨a, b, r, s, rfl, _⟩ := h
    rfl
  · obtain ⟨a, b, r, s, rfl, hR, hS, lr, ls, hrs, q⟩ := h
    refine ⟨_, (pss_cons (ps_set (i := 2) sc_latestplaces.nd rfl (.inl rfl) (pe_op op_rep (pe_lst (pa_cons pe_int pa_nil)) (pe_callB call_len_seq (by rfl) T.len PySem.boot_len (pa_cons (pv 0) pa_nil))))
    (pss_cons (ps_set (i := 3) sc_latestplaces.nd rfl (.inl rfl) (pe_callB call_len_seq (by rfl) T.len PySem.boot_len (pa_cons (pv 0) pa_nil)))
    (pss_cons (ps_for PassesOwn.never rfl (pi_range1 (by rfl) T.range_ (pa_cons (pe_callB call_len_seq (by rfl) T.len PySem.boot_len (pa_cons (pv 1) pa_nil)) pa_nil)) (pg_name (i := 4) sc_latestplaces.nd rfl (.inl rfl))
      (pss_cons (ps_set (i := 5) sc_latestplaces.nd rfl (.inl rfl) (pe_op op_sub (pe_op op_sub (pe_callB call_len_seq (by rfl) T.len PySem.boot_len (pa_cons (pv 1) pa_nil)) pe_int) (pv 4)))
      (pss_one (ps_if (PW.pt (pw_and (pt_cmpR op_gt (pv 3) pe_int (nomark _)) (pw_and1 (pt_cmpR op_eq (pe_ix ix_list (pv 0) (pe_op op_sub (pv 3) pe_int) (fun _ _ => rfl)) (pe_ix ix_list (pv 1) (pv 5) (fun _ _ => rfl)) (nomark _)))))
        (pss_cons (ps_set (i := 3) sc_latestplaces.nd rfl (.inl rfl) (pe_op op_sub (pv 3) pe_int))
        (pss_one (ps_asg (pv 5) (pg_sub (pv 2) (pv 3) set_list))))
        pss_nil))))
    (pss_one (ps_ret (pv 2)))))), ?_⟩
    refine ⟨sz (by decide), fun l0 n0 => ?_⟩
    have s1 := same_new (o := .lst [V.int 0]) n0
    have hR1 := s1.seq hR
    walk_at "rd"
    refine ⟨l0, _, _, rfl, rfl, upd_same, by omega, by rw [map_len]; omega, ?_, fun p np => ?_⟩
    · rw [Int.toNat_natCast, map_len]
      exact sz (by simp; omega)
    rw [zeros (n := r.length) (by rw [map_len])]
    have s2 := s1.trans (same_new (o := .lst ((List.replicate r.length (0 : Int)).map V.int)) np)
    have np0 := s1.free np
    have hp := upd_same (H := upd H l0 (.lst [V.int 0])) (a := p) (o := .lst ((List.replicate r.length (0 : Int)).map V.int))
    generalize upd (upd H l0 (.lst [V.int 0])) p (.lst ((List.replicate r.length (0 : Int)).map V.int)) = H2 at s2 hp ⊢
    have hR2 := s2.seq hR
    have hS2 := s2.seq hS
    walk_at "rd"
    refine ⟨by omega, by rw [map_len]; omega, for_rng (n := (s.map V.int).length) (fun i σ H' => Same H H' ∧ ∃ (left : Nat) (Z : List Int) (v4 v5 : Option V), σ = [some (.ref a), some (.ref b), some (.ref p), some (.int (left : Int)), v4, v5] ∧ H' p = some (.lst (Z.map V.int)) ∧ LatInv r s (s.length - i) left Z)
      ⟨s2, r.length, _, none, none, by rw [map_len]; rfl, hp, lat_start r s⟩ ?_ ?_⟩
    · rintro i σ H' hi ⟨sm, left, Z, v4, v5, rfl, hZ, hI⟩
      rw [map_len] at hi
      have hR3 := sm.seq hR
      have hS3 := sm.seq hS
      walk_at "rd"
      obtain ⟨z, hz⟩ := some_at (xs := s) (j := s.length - (i + 1)) (by omega)
      have ei : (((s.map V.int).length : Nat) : Int) - 1 - (i : Int) = ((s.length - (i + 1) : Nat) : Int) := by
        rw [map_len]
        omega
      have et : s.length - i = s.length - (i + 1) + 1 := by omega
      rw [et] at hI
      refine ite2 (fun e1 => ?_) (fun e1 => ?_)
      · have hl : 0 < left := by
          have := of_decide_eq_true e1
          omega
        obtain ⟨left, rfl⟩ : ∃ m, left = m + 1 := ⟨left - 1, by omega⟩
        have hlr := hI.le
        obtain ⟨x, hx⟩ := some_at (xs := r) (j := left) (by omega)
        walk_at "rd"
        refine ⟨_, _, _, _, rfl, rfl, hR3, at_intI (j := left) (by omega) hx, ?_⟩
        walk_at "rd"
        refine ⟨_, _, _, _, rfl, rfl, hS3, at_intI ei hz, ?_⟩
        walk_at "rd"
        refine ite2 (fun e2 => ?_) (fun e2 => ?_)
        · have ex : x = z := V.int.inj (of_decide_eq_true e2)
          subst ex
          walk_at "rd"
          refine ⟨_, _, _, left, rfl, rfl, hZ, ixN_of (by omega) (by rw [map_len, hI.len]; omega), ?_⟩
          refine ⟨same_mut sm np0, left, Z.set left ((s.length - (i + 1) : Nat) : Int), some (V.int (i : Int)), some (V.int (((s.map V.int).length : Int) - 1 - (i : Int))), ?_, ?_, lat_take hI hz hx⟩
          · have e3 : ((left + 1 : Nat) : Int) - 1 = (left : Int) := by omega
            show [some (V.ref a), some (V.ref b), some (V.ref p), some (V.int (((left + 1 : Nat) : Int) - 1)), _, _] = _
            rw [e3]
          · rw [upd_same, List.map_set, ← ei]
        · refine ⟨sm, left + 1, Z, _, _, rfl, hZ, lat_skip hI hz (.inr fun q => e2 (decide_eq_true ?_))⟩
          rw [Nat.add_sub_cancel, hx] at q
          rw [Option.some.inj q]
      · refine iteF ⟨sm, left, Z, _, _, rfl, hZ, lat_skip hI hz (.inl ?_)⟩
        refine Classical.byContradiction fun n => e1 (decide_eq_true ?_)
        omega
    · rintro σ H' ⟨sm, left, Z, v4, v5, rfl, hZ, hI⟩
      rw [map_len, Nat.sub_self] at hI
      exact ⟨_, rfl, q H' p Z sm np0 hZ (lat_end hI hrs)⟩

abbrev s_isneeded : Stmt := topS 7
theorem sc_isneeded : FnScope ["done", "latest", "index", "lane"] ["done", "latest", "index"] (defScope s_isneeded) := ⟨rfl, rfl, rfl, by decide +kernel, rfl, by decide +kernel, by decide +kernel⟩
def spNeed (K : PySem.W.Frag) : Sp := fun vs H Q _ => ∃ (a b : Addr) (ds : List Nat) (lat : List (List Int)) (i : Nat), vs = [.ref a, .ref b, .int (i : Int)] ∧ IL K H a (up ds) ∧ LL K H b lat ∧ ds.length = lat.length ∧ ds.length ≤ 1000 ∧
  ∀ c : Bool, (c = true ↔ Need ds lat i) → Q (.bl c) H
theorem ok_isneeded {f : Addr} {fd : FuncData} (F : Fun K "is_needed" "is_needed" s_isneeded f fd) (T : Txt mg) : FnOk P w K mg base CX0 1 f fd ["done", "latest", "index"] (spNeed K) := by
  refine F.ok sc_isneeded (fun vs H Q E h => ?_) (fun cdv A outer s H vs Q E hr h => ?_)
  · obtain ⟨a, b, ds, lat, i, rfl, _⟩ := h
    rfl
  · obtain ⟨a, b, ds, lat, x, rfl, hD, ⟨as, hL⟩, len, ld, q⟩ := h
    refine ⟨_, (pss_cons (ps_for PassesOwn.never rfl (pi_range1 (by rfl) T.range_ (pa_cons (pe_callB call_len_seq (by rfl) T.len PySem.boot_len (pa_cons (pv 0) pa_nil)) pa_nil)) (pg_name (i := 3) sc_isneeded.nd rfl (.inl rfl))
      (pss_one (ps_if (PW.pt (pw_and (pt_cmpR op_lt (pe_ix ix_list (pv 0) (pv 3) (fun _ _ => rfl)) (pe_callB call_len_seq (by rfl) T.len PySem.boot_len (pa_cons (pe_ix ix_list (pv 1) (pv 3) (fun _ _ => rfl)) pa_nil)) (nomark _)) (pw_and1 (pt_cmpR op_le (pe_ix ix_list (pe_ix ix_list (pv 1) (pv 3) (fun _ _ => rfl)) (pe_ix ix_list (pv 0) (pv 3) (fun _ _ => rfl)) (fun _ _ => rfl)) (pv 2) (nomark _)))))
        (pss_one (ps_ret pe_bl))
        pss_nil)))
    (pss_one (ps_ret pe_bl))), ?_⟩
    walk_at "rd"
    refine ⟨by omega, by rw [map_len, map_len]; omega, for_rng (n := ((up ds).map V.int).length) (fun i σ H' => H' = H ∧ ∃ (v : Option V), σ = [some (.ref a), some (.ref b), some (.int (x : Int)), v] ∧ ∀ (l d : Nat) (Z : List Int) (z : Int), l < i → ds[l]? = some d → lat[l]? = some Z → Z[d]? = some z → ¬ z ≤ (x : Int))
      ⟨rfl, none, rfl, fun l d Z z h => absurd h (Nat.not_lt_zero l)⟩ ?_ ?_⟩
    · rintro i σ H' hi ⟨rfl, v, rfl, hw⟩
      rw [map_len, map_len] at hi
      obtain ⟨d, hd⟩ := some_at hi
      obtain ⟨Z, hZ⟩ := some_at (xs := lat) (j := i) (by omega)
      obtain ⟨p, hp, hP⟩ := hL.at_ hZ
      have hLl := hL.lst
      have hdu := up_at hd
      walk_at "rd"
      refine ite2 (fun e1 => ?_) (fun e1 => ?_)
      · have hdZ : d < Z.length := by
          have := of_decide_eq_true e1
          rw [map_len] at this
          omega
        obtain ⟨z, hz⟩ := some_at hdZ
        walk_at "rd"
        refine ite2 (fun e2 => ?_) (fun e2 => ?_)
        · exact q true ⟨fun _ => ⟨i, d, Z, z, hd, hZ, hz, of_decide_eq_true e2⟩, fun _ => rfl⟩
        · refine ⟨rfl, _, rfl, fun l d' Z' z' hl h1 h2 h3 => ?_⟩
          by_cases e : l = i
          · subst e
            rw [hd] at h1
            rw [hZ] at h2
            cases h1
            cases h2
            rw [hz] at h3
            cases h3
            exact fun g => e2 (decide_eq_true g)
          · exact hw l d' Z' z' (by omega) h1 h2 h3
      · refine iteF ⟨rfl, _, rfl, fun l d' Z' z' hl h1 h2 h3 => ?_⟩
        by_cases e : l = i
        · subst e
          rw [hd] at h1
          rw [hZ] at h2
          cases h1
          cases h2
          refine absurd (decide_eq_true ?_) e1
          rw [map_len]
          have := lt_at h3
          omega
        · exact hw l d' Z' z' (by omega) h1 h2 h3
    · rintro σ H' ⟨rfl, v, rfl, hw⟩
      refine q false ⟨(fun z => nomatch z), fun ⟨l, d, Z, z, h1, h2, h3, h4⟩ => ?_⟩
      refine absurd h4 (hw l d Z z ?_ h1 h2 h3)
      rw [map_len, map_len]
      exact lt_at h1
end
end K35
namespace K35
open PySem PySem.Spec PyProof.Rows L2
local macro_rules | `(tactic| walk_at "rd") => `(tactic| repeat (first
  | refine ⟨_, rfl, ?_⟩
  | refine ⟨_, _, rfl, rfl, ?_⟩
  | refine ⟨(show scal _ _ = true from rfl), ?_⟩
  | refine ⟨_, _, rfl, .inl (by assumption), ?_⟩
  | refine ⟨_, _, rfl, (by assumption), ?_⟩
  | refine ⟨_, _, _, _, rfl, rfl, (by assumption), at_int (by assumption), ?_⟩
  | refine ⟨_, _, _, _, rfl, rfl, (by assumption), at_ref (by assumption), ?_⟩
  | refine .inl ⟨_, rfl, ?_⟩
  | refine ⟨(show (0 : Int) < _ by first | decide | assumption | omega), ?_⟩
  | refine ⟨(show CDiv _ _ from ⟨by first | decide | assumption | omega, by first | decide | assumption | omega⟩), ?_⟩
  | refine ⟨(show CPow _ _ from ⟨by decide, by decide, by decide⟩), ?_⟩
  | refine ⟨(show CMul _ _ from .inl ⟨by first | decide | omega, by first | decide | omega⟩), ?_⟩
  | refine ⟨(show CMul _ _ from .inr ⟨by first | decide | omega, by first | decide | omega⟩), ?_⟩
  | refine ⟨.inl ⟨rfl, _, (by assumption)⟩, ?_⟩
  | refine ⟨_, _, _, rfl, rfl, (by assumption), (by assumption), ?_⟩))
section
variable {P : Program} {w : World} {K : PySem.W.Frag} {mg : Str → Option Value} {base : Heap}
abbrev s_thin : Stmt := topS 8
theorem sc_thin : FnScope ["runs", "schedule", "latest", "done", "kept", "index", "lane", "run"] ["runs", "schedule"] (defScope s_thin) := ⟨rfl, rfl, rfl, by decide +kernel, rfl, by decide +kernel, by decide +kernel⟩
def spThin (K : PySem.W.Frag) : Sp := fun vs H Q _ => ∃ (a b : Addr) (rs : List (List Int)) (s : List Int), vs = [.ref a, .ref b] ∧ LL K H a rs ∧ IL K H b s ∧ rs.length ≤ 1000 ∧ s.length ≤ 1000 ∧ (∀ r ∈ rs, r.Sublist s) ∧
  ∀ (H' : Hp) (p : Addr), Same H H' → H p = none → H' p = some (.lst ((thinR s rs).map V.int)) → Q (.ref p) H'
theorem ok_thin {f : Addr} {fd : FuncData} (F : Fun K "thin" "thin" s_thin f fd) (T : Txt mg) (o_iscomplete : Own P w K mg base 2 "is_complete" ["runs", "schedule"] (spAll K)) (o_latestplaces : Own P w K mg base 1 "latest_places" ["run", "schedule"] (spLat K)) (o_isneeded : Own P w K mg base 1 "is_needed" ["done", "latest", "index"] (spNeed K)) : FnOk P w K mg base CX0 3 f fd ["runs", "schedule"] (spThin K) := by
  refine F.ok sc_thin (fun vs H Q E h => ?_) (fun cdv A outer s H vs Q E hr h => ?_)
  · obtain ⟨a, b, rs, s, rfl, _⟩ := h
    rfl
  · obtain ⟨a, b, rs, s, rfl, ⟨as, hL⟩, hS, lr, ls, hall, q⟩ := h
    refine ⟨_, (pss_cons (ps_if (pt_not (pt_val (pe_own o_iscomplete (hr.mono (by decide)) (by rfl) (pa_cons (pv 0) (pa_cons (pv 1) pa_nil)))))
      (pss_one ps_never)
      pss_nil)
    (pss_cons (ps_setLc (i := 2) (own := [("run", 7)]) (g := gName 7) (by rfl) sc_thin.nd rfl rfl (sw_true rfl rfl rfl (by decide +kernel)) (pi_list (pv 0)) (blkOk_by (own := [("run", 7)]) (N := ["runs", "schedule", "latest", "done", "kept", "index", "lane", "run"]) (sc := defScope s_thin) (by decide +kernel)) (fun _ _ _ _ _ => pg_name (i := 7) sc_thin.nd rfl (Or.inl rfl)) (fun _ _ _ _ _ => pts_nil) (fun _ _ _ _ _ => (pe_own o_latestplaces (hr.mono (by decide)) (by rfl) (pa_cons (pv 7) (pa_cons (pv 1) pa_nil)))))
    (pss_cons (ps_set (i := 3) sc_thin.nd rfl (.inl rfl) (pe_op op_rep (pe_lst (pa_cons pe_int pa_nil)) (pe_callB call_len_seq (by rfl) T.len PySem.boot_len (pa_cons (pv 0) pa_nil))))
    (pss_cons (ps_set (i := 4) sc_thin.nd rfl (.inl rfl) (pe_lst pa_nil))
    (pss_cons (ps_for PassesOwn.never rfl (pi_range1 (by rfl) T.range_ (pa_cons (pe_callB call_len_seq (by rfl) T.len PySem.boot_len (pa_cons (pv 1) pa_nil)) pa_nil)) (pg_name (i := 5) sc_thin.nd rfl (.inl rfl))
      (pss_one (ps_if (pt_val (pe_own o_isneeded (hr.mono (by decide)) (by rfl) (pa_cons (pv 3) (pa_cons (pv 2) (pa_cons (pv 5) pa_nil)))))
        (pss_cons (ps_expr (pe_bm PySem.F.plainAttrs_list PySem.F.slot_list_append PySem.F.type_list_append mt_append (pv 4) (pa_cons (pe_ix ix_list (pv 1) (pv 5) (fun _ _ => rfl)) pa_nil)))
        (pss_one (ps_for PassesOwn.never rfl (pi_range1 (by rfl) T.range_ (pa_cons (pe_callB call_len_seq (by rfl) T.len PySem.boot_len (pa_cons (pv 0) pa_nil)) pa_nil)) (pg_name (i := 6) sc_thin.nd rfl (.inl rfl))
          (pss_one (ps_if (PW.pt (pw_and (pt_cmpR op_lt (pe_ix ix_list (pv 3) (pv 6) (fun _ _ => rfl)) (pe_callB call_len_seq (by rfl) T.len PySem.boot_len (pa_cons (pe_ix ix_list (pv 0) (pv 6) (fun _ _ => rfl)) pa_nil)) (nomark _)) (pw_and1 (pt_cmpR op_eq (pe_ix ix_list (pe_ix ix_list (pv 0) (pv 6) (fun _ _ => rfl)) (pe_ix ix_list (pv 3) (pv 6) (fun _ _ => rfl)) (fun _ _ => rfl)) (pe_ix ix_list (pv 1) (pv 5) (fun _ _ => rfl)) (nomark _)))))
            (pss_one (ps_asg (pe_op op_add (pe_ix ix_list (pv 3) (pv 6) (fun _ _ => rfl)) pe_int) (pg_sub (pv 3) (pv 6) set_list)))
            pss_nil)))))
        pss_nil)))
    (pss_one (ps_ret (pv 4)))))))), ?_⟩
    walk_at "rd"
    refine ⟨a, b, rs, s, rfl, ⟨as, hL⟩, hS, fun c hc => ?_⟩
    obtain rfl : c = true := hc.mpr hall
    walk_at "rd"
    refine ⟨⟨_, hL.lst⟩, fun D nD => lc_list (K := K) (a := a) (xs := as.map V.ref) (fun i H' => Same H H' ∧ ∃ (ps : List Addr) (lat : List (List Int)), FL H H' D ps lat ∧ lat.length = i ∧ ∀ (l : Nat) (r Z : List Int), rs[l]? = some r → lat[l]? = some Z → LatOk r s Z)
      ⟨same_new nD, [], [], FL.nil nD upd_same, rfl, fun l r Z _ h => by simp at h⟩ (fun i H' _ ⟨sm, _⟩ => sm.seq hL.lst) ?_ ?_⟩
    · rintro i y H' hi ⟨sm, ps, lat, f1, hl, ok⟩
      obtain ⟨p, rfl, hp⟩ := map_at_ref hi
      obtain ⟨r, hr2, hP⟩ := hL.row_at hp
      have hi2 := lt_at hr2
      refine ⟨rfl, ?_⟩
      walk_at "rd"
      have hrs := hall r (List.mem_of_getElem? hr2)
      refine ⟨p, b, r, s, rfl, sm.seq hP, sm.seq hS, Nat.le_trans hrs.length_le ls, ls, hrs, fun H2 p2 Z e2 n2 hp2 ok2 => ?_⟩
      refine ⟨_, e2 _ _ f1.d, szl (by rw [map_len, f1.len]; omega), same_mut (sm.trans e2) nD, _, _, f1.push sm e2 n2 hp2, by rw [List.length_append, List.length_singleton, hl], fun l r' Z' h1 h2 => ?_⟩
      rcases at_snoc h2 with h | ⟨h, h'⟩
      · exact ok l r' Z' h1 h
      · rw [h, hl, hr2] at h1
        cases h1
        rw [← h']
        exact ok2
    · rintro H1 ⟨sm1, ps, lat, f1, hl1, ok1⟩
      have hL1 := hL.same sm1
      have hS1 := sm1.seq hS
      have elat : lat.length = rs.length := by rw [hl1, map_len, hL.len]
      refine ⟨sz (by decide), fun l0 n0 => ?_⟩
      have s1 := same_new (o := .lst [V.int 0]) n0
      have hLl := s1.seq hL1.lst
      walk_at "rd"
      refine ⟨l0, _, _, rfl, rfl, upd_same, by omega, by rw [map_len, hL.len]; omega, ?_, fun dA nd => ?_⟩
      · rw [Int.toNat_natCast, map_len, hL.len]
        exact sz (by simp; omega)
      rw [zeros (n := rs.length) (by rw [map_len, hL.len]), up_zeros]
      have s2 := s1.trans (same_new (o := .lst ((up (List.replicate rs.length 0)).map V.int)) nd)
      have nd0 := s1.free nd
      have hd := upd_same (H := upd H1 l0 (.lst [V.int 0])) (a := dA) (o := .lst ((up (List.replicate rs.length 0)).map V.int))
      generalize upd (upd H1 l0 (.lst [V.int 0])) dA (.lst ((up (List.replicate rs.length 0)).map V.int)) = H2 at s2 hd ⊢
      refine ⟨Nat.zero_le _, fun kA nk => ?_⟩
      have s3 := s2.trans (same_new (o := .lst []) nk)
      have nk0 := s2.free nk
      have dk : dA ≠ kA := ne_of_none hd nk
      have hd3 : (upd H2 kA (.lst [])) dA = some (.lst ((up (List.replicate rs.length 0)).map V.int)) := by
        rw [upd_ne dk]
        exact hd
      have hk3 := upd_same (H := H2) (a := kA) (o := .lst [])
      generalize upd H2 kA (.lst []) = H3 at s3 hd3 hk3 ⊢
      have hS3 := s3.seq hS1
      walk_at "rd"
      refine ⟨by omega, by rw [map_len]; omega, for_rng (n := (s.map V.int).length) (fun i σ H' => Same H1 H' ∧ ∃ (ds : List Nat) (kept : List Int) (v5 v6 v7 : Option V), σ = [some (.ref a), some (.ref b), some (.ref D), some (.ref dA), some (.ref kA), v5, v6, v7] ∧
          H' dA = some (.lst ((up ds).map V.int)) ∧ H' kA = some (.lst (kept.map V.int)) ∧ ThinInv rs s i ds kept)
        ⟨s3, _, [], none, none, none, rfl, hd3, hk3, thin_start rs s⟩ ?_ ?_⟩
      · rintro i σ H' hi ⟨sm, ds, kept, v5, v6, v7, rfl, hda, hka, I⟩
        rw [map_len] at hi
        obtain ⟨z, hz⟩ := some_at hi
        walk_at "rd"
        refine ⟨dA, D, ds, lat, i, rfl, il_of hda, ⟨ps, (f1.same sm).ll⟩, by rw [I.len, elat], by rw [I.len]; exact lr, fun c hc => ?_⟩
        have hc2 := hc.trans (need_iff I.len elat hi ok1)
        walk_at "rd"
        refine ite2 (fun e1 => ?_) (fun e1 => ?_)
        · have hn := hc2.mp e1
          have hka2 := il_of (K := K) hka
          have hS4 := sm.seq hS1
          walk_at "rd"
          refine ⟨kA, _, _, rfl, rfl, hka, szl (by rw [map_len]; have := I.few; omega), ?_⟩
          rw [snoc_map]
          have s4 := same_mut (o := .lst ((kept ++ [z]).map V.int)) sm nk0
          have hka4 := upd_same (H := H') (a := kA) (o := .lst ((kept ++ [z]).map V.int))
          have hda4 : (upd H' kA (.lst ((kept ++ [z]).map V.int))) dA = some (.lst ((up ds).map V.int)) := by
            rw [upd_ne dk]
            exact hda
          generalize upd H' kA (.lst ((kept ++ [z]).map V.int)) = H4 at s4 hka4 hda4 ⊢
          have hL4 := (hL1.same s4).lst
          walk_at "rd"
          refine ⟨by omega, by rw [map_len, hL.len]; omega, for_rng (n := (as.map V.ref).length) (fun l σ H' => Same H1 H' ∧ ∃ (v6 : Option V), σ = [some (.ref a), some (.ref b), some (.ref D), some (.ref dA), some (.ref kA), some (.int (i : Int)), v6, v7] ∧
              H' dA = some (.lst ((up ((stepAll z rs ds).take l ++ ds.drop l)).map V.int)) ∧ H' kA = some (.lst ((kept ++ [z]).map V.int)))
            ⟨s4, _, rfl, hda4, hka4⟩ ?_ ?_⟩
          · rintro l σ H5 hl ⟨s5, v6, rfl, hda5, hka5⟩
            rw [map_len, hL.len] at hl
            obtain ⟨r, hr2⟩ := some_at hl
            obtain ⟨d, hd2⟩ := some_at (xs := ds) (j := l) (by rw [I.len]; exact hl)
            obtain ⟨p, hp, hP⟩ := (hL1.same s5).at_ hr2
            obtain ⟨st1, st2⟩ := step_lane (b := z) I.len hr2 hd2
            have hdu := up_at st2
            have hda6 := il_of (K := K) hda5
            have hL5 := (hL1.same s5).lst
            have hS5 := s5.seq hS1
            have fin : ¬ r[d]? = some z → (stepAll z rs ds).take l ++ ds.drop l = (stepAll z rs ds).take (l + 1) ++ ds.drop (l + 1) := fun n => by
              have e : stepD z r d = d := by
                unfold stepD
                rw [if_neg n]
              rw [e] at st1
              rw [← st1]
              obtain ⟨h1, h2⟩ := List.getElem?_eq_some_iff.mp st2
              refine List.ext_getElem? fun j => ?_
              by_cases hj : l = j
              · subst hj
                rw [List.getElem?_set_self h1, st2]
              · rw [List.getElem?_set_ne hj]
            walk_at "rd"
            refine ite2 (fun e2 => ?_) (fun e2 => ?_)
            · have hdr : d < r.length := by
                have := of_decide_eq_true e2
                rw [map_len] at this
                omega
              obtain ⟨x, hx⟩ := some_at hdr
              walk_at "rd"
              refine ite2 (fun e3 => ?_) (fun e3 => ?_)
              · have ex : x = z := V.int.inj (of_decide_eq_true e3)
                subst ex
                walk_at "rd"
                refine ⟨_, _, _, l, rfl, rfl, hda5, ixN_of rfl (by rw [map_len]; exact lt_at hdu), ?_⟩
                refine ⟨same_mut s5 nd0, _, rfl, ?_, ?_⟩
                · have e4 : stepD x r d = d + 1 := by
                    unfold stepD
                    rw [if_pos hx]
                  rw [upd_same, ← st1, e4]
                  unfold up
                  rw [List.map_set, List.map_set]
                  rfl
                · rw [upd_ne dk.symm]
                  exact hka5
              · refine ⟨s5, _, rfl, ?_, hka5⟩
                rw [hda5, fin fun n => e3 (decide_eq_true ?_)]
                rw [hx] at n
                rw [Option.some.inj n]
            · refine iteF ⟨s5, _, rfl, ?_, hka5⟩
              rw [hda5, fin fun n => e2 (decide_eq_true ?_)]
              rw [map_len]
              have := lt_at n
              omega
          · rintro σ H5 ⟨s5, v6, rfl, hda5, hka5⟩
            have e4 : (stepAll z rs ds).take (as.map V.ref).length ++ ds.drop (as.map V.ref).length = stepAll z rs ds := by
              have e5 : (as.map V.ref).length = rs.length := by rw [map_len, hL.len]
              rw [e5, List.drop_eq_nil_of_le (by rw [I.len]; exact Nat.le_refl _), List.append_nil, List.take_of_length_le]
              unfold stepAll
              rw [List.length_zipWith]
              omega
            rw [e4] at hda5
            exact ⟨s5, _, _, _, _, _, rfl, hda5, hka5, thin_keep I hz hn⟩
        · refine ⟨sm, ds, kept, _, _, _, rfl, hda, hka, thin_drop I hz (Classical.byContradiction fun n => e1 (hc2.mpr n))⟩
      · rintro σ H' ⟨sm, ds, kept, v5, v6, v7, rfl, hda, hka, I⟩
        rw [map_len] at I
        rw [thin_end I] at hka
        exact ⟨_, rfl, q H' kA (sm1.trans sm) (sm1.free nk0) hka⟩
end
end K35
namespace K35
open PySem PySem.Spec PyProof.Rows L2
local macro_rules | `(tactic| walk_at "rd") => `(tactic| repeat (first
  | refine ⟨_, rfl, ?_⟩
  | refine ⟨_, _, rfl, rfl, ?_⟩
  | refine ⟨(show scal _ _ = true from rfl), ?_⟩
  | refine ⟨_, _, rfl, .inl (by assumption), ?_⟩
  | refine ⟨_, _, rfl, (by assumption), ?_⟩
  | refine ⟨_, _, _, _, rfl, rfl, (by assumption), at_int (by assumption), ?_⟩
  | refine ⟨_, _, _, _, rfl, rfl, (by assumption), at_ref (by assumption), ?_⟩
  | refine .inl ⟨_, rfl, ?_⟩
  | refine ⟨(show (0 : Int) < _ by first | decide | assumption | omega), ?_⟩
  | refine ⟨(show CDiv _ _ from ⟨by first | decide | assumption | omega, by first | decide | assumption | omega⟩), ?_⟩
  | refine ⟨(show CPow _ _ from ⟨by decide, by decide, by decide⟩), ?_⟩
  | refine ⟨(show CMul _ _ from .inl ⟨by first | decide | omega, by first | decide | omega⟩), ?_⟩
  | refine ⟨(show CMul _ _ from .inr ⟨by first | decide | omega, by first | decide | omega⟩), ?_⟩
  | refine ⟨.inl ⟨rfl, _, (by assumption)⟩, ?_⟩
  | refine ⟨_, _, _, rfl, rfl, (by assumption), (by assumption), ?_⟩))
section
variable {P : Program} {w : World} {K : PySem.W.Frag} {mg : Str → Option Value} {base : Heap}
abbrev s_Lcell : Stmt := topS 10
theorem sc_Lcell : FnScope ["_law_script", "_law_k"] ["_law_script", "_law_k"] (defScope s_Lcell) := ⟨rfl, rfl, rfl, by decide +kernel, rfl, by decide +kernel, by decide +kernel⟩
def spCell (K : PySem.W.Frag) : Sp := fun vs H Q _ => ∃ (a : Addr) (ns : List Int) (k : Int), vs = [.ref a, .int k] ∧ IL K H a ns ∧ 0 ≤ k ∧ ∀ z : Int, Q (.int z) H
theorem ok_Lcell {f : Addr} {fd : FuncData} (F : Fun K "_law_cell" "_law_cell" s_Lcell f fd) (T : Txt mg) : FnOk P w K mg base CX0 1 f fd ["_law_script", "_law_k"] (spCell K) := by
  refine F.ok sc_Lcell (fun vs H Q E h => ?_) (fun cdv A outer s H vs Q E hr h => ?_)
  · obtain ⟨a, ns, k, rfl, _⟩ := h
    rfl
  · obtain ⟨a, ns, k, rfl, hN, hk, q⟩ := h
    refine ⟨_, (pss_cons (ps_if (pt_cmpR op_lt (pv 1) (pe_callB call_len_seq (by rfl) T.len PySem.boot_len (pa_cons (pv 0) pa_nil)) (nomark _))
      (pss_one (ps_ret (pe_callB call_abs (by rfl) T.abs_ (by decide +kernel) (pa_cons (pe_ix ix_list (pv 0) (pv 1) (fun _ _ => rfl)) pa_nil))))
      pss_nil)
    (pss_one (ps_ret pe_int))), ?_⟩
    walk_at "rd"
    refine ite2 (fun e1 => ?_) (fun e1 => ?_)
    · obtain ⟨z, _, hz⟩ := at_some (ns := ns) hk (by have := of_decide_eq_true e1; rw [map_len] at this; exact this)
      walk_at "rd"
      refine ⟨_, _, _, _, rfl, rfl, hN, hz, ?_⟩
      walk_at "rd"
      exact q _
    · exact q 0

abbrev s_Ldigits : Stmt := topS 11
theorem sc_Ldigits : FnScope ["_law_cell_here", "_law_count", "_law_size", "_law_row", "_law_rest", "_law_k", "_law_mixed"] ["_law_cell_here", "_law_count", "_law_size"] (defScope s_Ldigits) := ⟨rfl, rfl, rfl, by decide +kernel, rfl, by decide +kernel, by decide +kernel⟩
/-- n digits from 0 up to z -/
def Dig (z : Int) (n : Nat) (ns : List Int) : Prop := ns.length = n ∧ ∀ x ∈ ns, 0 ≤ x ∧ x < z
theorem Dig.snoc {z : Int} {n : Nat} {ns : List Int} {x : Int} (h : Dig z n ns) (h0 : 0 ≤ x) (h1 : x < z) : Dig z (n + 1) (ns ++ [x]) := by
  refine ⟨by rw [List.length_append, List.length_singleton, h.1], fun y hy => ?_⟩
  rcases List.mem_append.mp hy with g | g
  · exact h.2 y g
  · rw [List.mem_singleton] at g
    rw [g]
    exact ⟨h0, h1⟩
def spDig : Sp := fun vs H Q _ => ∃ (c z : Int) (n : Nat), vs = [.int c, .int (n : Int), .int z] ∧ n ≤ 1000 ∧ 0 < z ∧ z < 1073741824 ∧
  ∀ (H' : Hp) (p : Addr) (ns : List Int), Same H H' → H p = none → H' p = some (.lst (ns.map V.int)) → Dig z n ns → Q (.ref p) H'
theorem ok_Ldigits {f : Addr} {fd : FuncData} (F : Fun K "_law_digits" "_law_digits" s_Ldigits f fd) (T : Txt mg) : FnOk P w K mg base CX0 1 f fd ["_law_cell_here", "_law_count", "_law_size"] spDig := by
  refine F.ok sc_Ldigits (fun vs H Q E h => ?_) (fun cdv A outer s H vs Q E hr h => ?_)
  · obtain ⟨c, z, n, rfl, _⟩ := h
    rfl
  · obtain ⟨c, z, n, rfl, hn, hz0, hz1, q⟩ := h
    refine ⟨_, (pss_cons (ps_set (i := 3) sc_Ldigits.nd rfl (.inl rfl) (pe_lst pa_nil))
    (pss_cons (ps_set (i := 4) sc_Ldigits.nd rfl (.inl rfl) (pv 0))
    (pss_cons (ps_for PassesOwn.never rfl (pi_range1 (by rfl) T.range_ (pa_cons (pv 1) pa_nil)) (pg_name (i := 5) sc_Ldigits.nd rfl (.inl rfl))
      (pss_one (ps_if (PW.pt (pw_and (pt_cmpR op_ge (pv 0) (pe_op op_pow pe_int pe_int) (nomark _)) (pw_and1 (pt_cmpR op_gt (pv 4) pe_int (nomark _)))))
        (pss_cons (ps_expr (pe_bm PySem.F.plainAttrs_list PySem.F.slot_list_append PySem.F.type_list_append mt_append (pv 3) (pa_cons (pe_op op_mod (pe_callTy call_int1 (by rfl) T.int_ (by decide +kernel) (pa_cons (pv 4) pa_nil)) (pv 2)) pa_nil)))
        (pss_one (ps_set (i := 4) sc_Ldigits.nd rfl (.inl rfl) (pe_op op_fdiv (pv 4) (pv 2)))))
        (pss_cons (ps_set (i := 6) sc_Ldigits.nd rfl (.inl rfl) (pe_op op_mod (pe_callTy call_int1 (by rfl) T.int_ (by decide +kernel) (pa_cons (pe_op op_add (pe_op op_add (pv 0) (pe_op op_mul pe_int (pv 5))) pe_int) pa_nil)) pe_int))
        (pss_cons (ps_set (i := 6) sc_Ldigits.nd rfl (.inl rfl) (pe_op op_mod (pe_callTy call_int1 (by rfl) T.int_ (by decide +kernel) (pa_cons (pe_op op_mul (pv 6) (pe_op op_add (pv 6) pe_int)) pa_nil)) pe_int))
        (pss_cons (ps_set (i := 6) sc_Ldigits.nd rfl (.inl rfl) (pe_op op_mod (pe_callTy call_int1 (by rfl) T.int_ (by decide +kernel) (pa_cons (pe_op op_add (pe_op op_mul (pv 6) (pe_op op_add (pv 6) pe_int)) (pe_op op_mul pe_int (pv 5))) pa_nil)) pe_int))
        (pss_one (ps_expr (pe_bm PySem.F.plainAttrs_list PySem.F.slot_list_append PySem.F.type_list_append mt_append (pv 3) (pa_cons (pe_op op_mod (pe_callTy call_int1 (by rfl) T.int_ (by decide +kernel) (pa_cons (pe_op op_fdiv (pv 6) pe_int) pa_nil)) (pv 2)) pa_nil))))))))))
    (pss_one (ps_ret (pv 3)))))), ?_⟩
    refine ⟨Nat.zero_le _, fun p np => ?_⟩
    have s1 := same_new (o := .lst []) np
    have hp := upd_same (H := H) (a := p) (o := .lst [])
    generalize upd H p (.lst []) = H1 at s1 hp ⊢
    walk_at "rd"
    refine ⟨by omega, by omega, for_rng (n := n) (fun i σ H' => Same H H' ∧ ∃ (ns : List Int) (x : Int) (v5 v6 : Option V), σ = [some (.int c), some (.int (n : Int)), some (.int z), some (.ref p), some (.int x), v5, v6] ∧ H' p = some (.lst (ns.map V.int)) ∧ Dig z i ns)
      ⟨s1, [], c, none, none, rfl, hp, rfl, fun x h => by simp at h⟩ ?_ ?_⟩
    · rintro i σ H' hi ⟨sm, ns, x, v5, v6, rfl, hq, hd⟩
      have hl := il_of (K := K) hq
      have hm : ∀ y : Int, 0 ≤ y % z ∧ y % z < z := fun y => ⟨Int.emod_nonneg y (by omega), Int.emod_lt_of_pos y hz0⟩
      have hsz : (ns.map V.int).length < sizeLine := szl (by rw [map_len, hd.1]; omega)
      have mx : ∀ y : Int, 0 ≤ y % 2147483647 ∧ y % 2147483647 < 2147483647 := fun y => ⟨Int.emod_nonneg y (by omega), Int.emod_lt_of_pos y (by omega)⟩
      have mx2 : ∀ y : Int, 0 ≤ y % 2147483629 ∧ y % 2147483629 < 2147483629 := fun y => ⟨Int.emod_nonneg y (by omega), Int.emod_lt_of_pos y (by omega)⟩
      have hw : ∀ y : Int, Same H (upd H' p (.lst (ns.map V.int ++ [V.int (y % z)]))) ∧ (upd H' p (.lst (ns.map V.int ++ [V.int (y % z)]))) p = some (.lst ((ns ++ [y % z]).map V.int)) ∧ Dig z (i + 1) (ns ++ [y % z]) := fun y =>
        ⟨same_mut sm np, by rw [upd_same, snoc_map], hd.snoc (hm y).1 (hm y).2⟩
      walk_at "rd"
      refine (fun els => ite2 (fun e1 => ?_) (fun _ => els)) ?_
      · walk_at "rd"
        refine ite2 (fun e2 => ?_) (fun _ => els)
        walk_at "rd"
        exact ⟨(hw _).1, _, _, _, _, rfl, (hw _).2.1, (hw _).2.2⟩
      · walk_at "rd"
        exact ⟨(hw _).1, _, _, _, _, rfl, (hw _).2.1, (hw _).2.2⟩
    · rintro σ H' ⟨sm, ns, x, v5, v6, rfl, hq, hd⟩
      exact ⟨_, rfl, q H' p ns sm np hq hd⟩

abbrev s_Lseed : Stmt := topS 12
theorem sc_Lseed : FnScope ["_law_script", "_law_k"] ["_law_script", "_law_k"] (defScope s_Lseed) := ⟨rfl, rfl, rfl, by decide +kernel, rfl, by decide +kernel, by decide +kernel⟩
def spSeed (K : PySem.W.Frag) : Sp := fun vs H Q _ => ∃ (a : Addr) (ns : List Int) (k : Int), vs = [.ref a, .int k] ∧ IL K H a ns ∧ 0 ≤ k ∧ ∀ (z : Int) (H' : Hp), Same H H' → Q (.int z) H'
theorem ok_Lseed {f : Addr} {fd : FuncData} (F : Fun K "_law_seed" "_law_seed" s_Lseed f fd) (T : Txt mg) (o_Lcell : Own P w K mg base 1 "_law_cell" ["_law_script", "_law_k"] (spCell K)) (o_Ldigits : Own P w K mg base 1 "_law_digits" ["_law_cell_here", "_law_count", "_law_size"] (spDig)) : FnOk P w K mg base CX0 2 f fd ["_law_script", "_law_k"] (spSeed K) := by
  refine F.ok sc_Lseed (fun vs H Q E h => ?_) (fun cdv A outer s H vs Q E hr h => ?_)
  · obtain ⟨a, ns, k, rfl, _⟩ := h
    rfl
  · obtain ⟨a, ns, k, rfl, hN, hk, q⟩ := h
    refine ⟨_, (pss_cons (ps_if (pt_cmpR op_lt (pv 1) (pe_callB call_len_seq (by rfl) T.len PySem.boot_len (pa_cons (pv 0) pa_nil)) (nomark _))
      (pss_one (ps_ret (pe_callB call_abs (by rfl) T.abs_ (by decide +kernel) (pa_cons (pe_ix ix_list (pv 0) (pv 1) (fun _ _ => rfl)) pa_nil))))
      pss_nil)
    (pss_one (ps_ret (pe_ix ix_list (pe_own o_Ldigits (hr.mono (by decide)) (by rfl) (pa_cons (pe_op op_add (pe_op op_add (pe_own o_Lcell (hr.mono (by decide)) (by rfl) (pa_cons (pv 0) (pa_cons pe_int pa_nil))) (pe_op op_mul pe_int (pv 1))) pe_int) (pa_cons pe_int (pa_cons (pe_op op_pow pe_int pe_int) pa_nil)))) pe_int (fun _ _ => rfl))))), ?_⟩
    walk_at "rd"
    refine ite2 (fun e1 => ?_) (fun e1 => ?_)
    · obtain ⟨z, _, hz⟩ := at_some (ns := ns) hk (by have := of_decide_eq_true e1; rw [map_len] at this; exact this)
      walk_at "rd"
      refine ⟨_, _, _, _, rfl, rfl, hN, hz, ?_⟩
      walk_at "rd"
      exact q _ _ (Same.refl _)
    · walk_at "rd"
      refine ⟨a, ns, 0, rfl, hN, by omega, fun z => ?_⟩
      walk_at "rd"
      refine ⟨_, _, 1, rfl, by omega, by decide, by decide, fun H' p ds s1 np hp hd => ?_⟩
      obtain ⟨x, _, hx⟩ := at_some (ns := ds) (i := 0) (by omega) (by rw [hd.1]; omega)
      have hl := il_of (K := K) hp
      walk_at "rd"
      refine ⟨_, _, _, _, rfl, rfl, hl, hx, ?_⟩
      exact q _ _ s1

abbrev s_Lword : Stmt := topS 13
theorem sc_Lword : FnScope ["_law_digit"] ["_law_digit"] (defScope s_Lword) := ⟨rfl, rfl, rfl, by decide +kernel, rfl, by decide +kernel, by decide +kernel⟩
def spWord : Sp := fun vs H Q _ => ∃ (d : Int), vs = [.int d] ∧ ∀ (z : Str) (H' : Hp), Same H H' → Q (.str z) H'
theorem ok_Lword {f : Addr} {fd : FuncData} (F : Fun K "_law_word" "_law_word" s_Lword f fd) (T : Txt mg) : FnOk P w K mg base CX0 1 f fd ["_law_digit"] spWord := by
  refine F.ok sc_Lword (fun vs H Q E h => ?_) (fun cdv A outer s H vs Q E hr h => ?_)
  · obtain ⟨d, rfl, _⟩ := h
    rfl
  · obtain ⟨d, rfl, q⟩ := h
    refine ⟨_, (pss_cons (ps_if (pt_cmpR op_eq (pe_op op_mod (pe_callTy call_int1 (by rfl) T.int_ (by decide +kernel) (pa_cons (pv 0) pa_nil)) pe_int) pe_int (nomark _))
      (pss_one (ps_ret (pe_slice sl_str pe_str po_none (po_some (pe_op op_add pe_int (pe_op op_mod (pe_callTy call_int1 (by rfl) T.int_ (by decide +kernel) (pa_cons (pe_op op_fdiv (pv 0) pe_int) pa_nil)) pe_int))))))
      pss_nil)
    (pss_one (ps_ret (pe_ix ix_list (pe_lst (pa_cons pe_str (pa_cons pe_str (pa_cons pe_str (pa_cons pe_str (pa_cons pe_str pa_nil)))))) (pe_op op_mod (pe_callTy call_int1 (by rfl) T.int_ (by decide +kernel) (pa_cons (pv 0) pa_nil)) pe_int) (fun _ _ => rfl))))), ?_⟩
    walk_at "rd"
    refine ite2 (fun e1 => ?_) (fun e1 => ?_)
    · walk_at "rd"
      refine ⟨sz (by decide +kernel), ?_⟩
      exact q _ _ (Same.refl _)
    · walk_at "rd"
      refine ⟨sz (by decide), fun p np => ?_⟩
      have hp := il_of (K := K) (upd_same (H := H) (a := p) (o := .lst [V.str "a", V.str "b", V.str "ab", V.str "a", V.str "z"]))
      have hx : ∃ z, atI [V.str "a", V.str "b", V.str "ab", V.str "a", V.str "z"] (d % 6) = some (V.str z) := by
        have n5 : d % 6 ≠ 5 := fun e => e1 (decide_eq_true (show V.int (d % 6) = V.int 5 by rw [e]))
        have : d % 6 = 0 ∨ d % 6 = 1 ∨ d % 6 = 2 ∨ d % 6 = 3 ∨ d % 6 = 4 := by omega
        rcases this with e | e | e | e | e <;> rw [e] <;> exact ⟨_, rfl⟩
      obtain ⟨z, hz⟩ := hx
      walk_at "rd"
      refine ⟨_, _, _, _, rfl, rfl, hp, hz, ?_⟩
      exact q _ _ (same_new np)

abbrev s_Lprice : Stmt := topS 14
theorem sc_Lprice : FnScope ["_law_digit"] ["_law_digit"] (defScope s_Lprice) := ⟨rfl, rfl, rfl, by decide +kernel, rfl, by decide +kernel, by decide +kernel⟩
def spPrice : Sp := fun vs H Q _ => ∃ (d : Int), vs = [.int d] ∧ ∀ (z : Int), Q (.int z) H
theorem ok_Lprice {f : Addr} {fd : FuncData} (F : Fun K "_law_price" "_law_price" s_Lprice f fd) (T : Txt mg) : FnOk P w K mg base CX0 1 f fd ["_law_digit"] spPrice := by
  refine F.ok sc_Lprice (fun vs H Q E h => ?_) (fun cdv A outer s H vs Q E hr h => ?_)
  · obtain ⟨d, rfl, _⟩ := h
    rfl
  · obtain ⟨d, rfl, q⟩ := h
    refine ⟨_, (pss_cons (ps_if (pt_cmpR op_eq (pe_op op_mod (pe_callTy call_int1 (by rfl) T.int_ (by decide +kernel) (pa_cons (pv 0) pa_nil)) pe_int) pe_int (nomark _))
      (pss_one (ps_ret (pe_op op_add pe_int (pe_op op_mod (pe_callTy call_int1 (by rfl) T.int_ (by decide +kernel) (pa_cons (pe_op op_mul (pv 0) pe_int) pa_nil)) (pe_op op_pow pe_int pe_int)))))
      pss_nil)
    (pss_cons (ps_if (pt_cmpR op_eq (pe_op op_mod (pe_callTy call_int1 (by rfl) T.int_ (by decide +kernel) (pa_cons (pv 0) pa_nil)) pe_int) pe_int (nomark _))
      (pss_one (ps_ret (pe_op op_pow pe_int pe_int)))
      pss_nil)
    (pss_one (ps_ret (pe_op op_add pe_int (pe_op op_mod (pe_callTy call_int1 (by rfl) T.int_ (by decide +kernel) (pa_cons (pe_op op_fdiv (pv 0) pe_int) pa_nil)) pe_int)))))), ?_⟩
    walk_at "rd"
    refine ite2 (fun e1 => ?_) (fun e1 => ?_)
    · walk_at "rd"
      exact q _
    · walk_at "rd"
      refine ite2 (fun e2 => ?_) (fun e2 => ?_)
      · walk_at "rd"
        exact q _
      · walk_at "rd"
        exact q _

abbrev s_Lsymbol : Stmt := topS 28
theorem sc_Lsymbol : FnScope ["_law_turn", "_law_digit", "_law_place"] ["_law_turn", "_law_digit"] (defScope s_Lsymbol) := ⟨rfl, rfl, rfl, by decide +kernel, rfl, by decide +kernel, by decide +kernel⟩
def spSym : Sp := fun vs H Q _ => ∃ (t d : Int), vs = [.int t, .int d] ∧ ∀ (z : Int), Q (.int z) H
theorem ok_Lsymbol {f : Addr} {fd : FuncData} (F : Fun K "_law_symbol" "_law_symbol" s_Lsymbol f fd) (T : Txt mg) : FnOk P w K mg base CX0 1 f fd ["_law_turn", "_law_digit"] spSym := by
  refine F.ok sc_Lsymbol (fun vs H Q E h => ?_) (fun cdv A outer s H vs Q E hr h => ?_)
  · obtain ⟨t, d, rfl, _⟩ := h
    rfl
  · obtain ⟨t, d, rfl, q⟩ := h
    refine ⟨_, (pss_cons (ps_set (i := 2) sc_Lsymbol.nd rfl (.inl rfl) (pe_op op_mod (pe_callTy call_int1 (by rfl) T.int_ (by decide +kernel) (pa_cons (pv 1) pa_nil)) (pe_op op_add pe_int (pe_op op_mod (pe_callTy call_int1 (by rfl) T.int_ (by decide +kernel) (pa_cons (pe_op op_fdiv (pv 0) pe_int) pa_nil)) pe_int))))
    (pss_cons (ps_if (pt_cmpR op_eq (pe_op op_mod (pe_callTy call_int1 (by rfl) T.int_ (by decide +kernel) (pa_cons (pv 0) pa_nil)) pe_int) pe_int (nomark _))
      (pss_one (ps_ret (pe_op op_sub (pe_op op_pow pe_int pe_int) (pv 2))))
      pss_nil)
    (pss_cons (ps_if (pt_cmpR op_eq (pe_op op_mod (pe_callTy call_int1 (by rfl) T.int_ (by decide +kernel) (pa_cons (pv 0) pa_nil)) pe_int) pe_int (nomark _))
      (pss_one (ps_ret (pe_op op_sub (pv 2) pe_int)))
      pss_nil)
    (pss_one (ps_ret (pv 2)))))), ?_⟩
    walk_at "rd"
    refine ite2 (fun e1 => ?_) (fun e1 => ?_)
    · walk_at "rd"
      exact q _
    · walk_at "rd"
      refine ite2 (fun e2 => ?_) (fun e2 => ?_)
      · walk_at "rd"
        exact q _
      · walk_at "rd"
        exact q _

abbrev s_Lisint : Stmt := topS 25
theorem sc_Lisint : FnScope ["_law_value"] ["_law_value"] (defScope s_Lisint) := ⟨rfl, rfl, rfl, by decide +kernel, rfl, by decide +kernel, by decide +kernel⟩
def spIsInt : Sp := fun vs H Q _ => ∃ (d : Int), vs = [.int d] ∧ Q (.bl true) H
theorem ok_Lisint {f : Addr} {fd : FuncData} (F : Fun K "_law_is_int" "_law_is_int" s_Lisint f fd) (T : Txt mg) : FnOk P w K mg base CX0 1 f fd ["_law_value"] spIsInt := by
  refine F.ok sc_Lisint (fun vs H Q E h => ?_) (fun cdv A outer s H vs Q E hr h => ?_)
  · obtain ⟨d, rfl, _⟩ := h
    rfl
  · obtain ⟨d, rfl, q⟩ := h
    refine ⟨_, (pss_one (ps_ret (pe_and (pe_callB call_isi (by rfl) T.isinstance_ (by decide +kernel) (pa_cons (pv 0) (pa_cons (pe_bltn (v := .ty "int") (by rfl) T.int_ (by decide +kernel) rfl) pa_nil))) (pe_one (pe_not (pe_callB call_isi (by rfl) T.isinstance_ (by decide +kernel) (pa_cons (pv 0) (pa_cons (pe_bltn (v := .ty "bool") (by rfl) T.bool_ (by decide +kernel) rfl) pa_nil)))))))), ?_⟩
    walk_at "rd"
    refine ⟨_, _, _, _, true, rfl, .ty "int", .base (.int d), kit_ty (by decide +kernel), ?_⟩
    walk_at "rd"
    refine ⟨_, _, _, _, false, rfl, .ty "bool", .base (.int d), kit_ty (by decide +kernel), ?_⟩
    walk_at "rd"
    exact q

abbrev s_Lints : Stmt := topS 26
theorem sc_Lints : FnScope ["_law_row", "_law_value"] ["_law_row"] (defScope s_Lints) := ⟨rfl, rfl, rfl, by decide +kernel, rfl, by decide +kernel, by decide +kernel⟩
def spInts (K : PySem.W.Frag) : Sp := fun vs H Q _ => ∃ (a : Addr) (ns : List Int), vs = [.ref a] ∧ H a = some (.lst (ns.map V.int)) ∧ Q (.bl true) H
theorem ok_Lints {f : Addr} {fd : FuncData} (F : Fun K "_law_ints" "_law_ints" s_Lints f fd) (T : Txt mg) (o_Lisint : Own P w K mg base 1 "_law_is_int" ["_law_value"] (spIsInt)) : FnOk P w K mg base CX0 2 f fd ["_law_row"] (spInts K) := by
  refine F.ok sc_Lints (fun vs H Q E h => ?_) (fun cdv A outer s H vs Q E hr h => ?_)
  · obtain ⟨a, ns, rfl, _⟩ := h
    rfl
  · obtain ⟨a, ns, rfl, hN, q⟩ := h
    refine ⟨_, (pss_cons (ps_if (pt_not (pt_val (pe_callB call_isi (by rfl) T.isinstance_ (by decide +kernel) (pa_cons (pv 0) (pa_cons (pe_bltn (v := .ty "list") (by rfl) T.list_ (by decide +kernel) rfl) pa_nil)))))
      (pss_one (ps_ret pe_bl))
      pss_nil)
    (pss_cons (ps_for PassesOwn.never rfl (pi_list (pv 0)) (pg_name (i := 1) sc_Lints.nd rfl (.inl rfl))
      (pss_one (ps_if (pt_not (pt_val (pe_own o_Lisint (hr.mono (by decide)) (by rfl) (pa_cons (pv 1) pa_nil))))
        (pss_one (ps_ret pe_bl))
        pss_nil)))
    (pss_one (ps_ret pe_bl)))), ?_⟩
    walk_at "rd"
    refine ⟨_, _, _, _, true, rfl, .ty "list", .base (.lst hN), kit_ty (by decide +kernel), ?_⟩
    walk_at "rd"
    refine ⟨⟨_, il_of hN⟩, for_list (K := K) (a := a) (xs := ns.map V.int) (fun i σ H' => H' = H ∧ ∃ v, σ = [some (.ref a), v]) ⟨rfl, _, rfl⟩ (fun i σ H' _ ⟨e, _⟩ => e ▸ il_of hN) ?_ ?_⟩
    · rintro i y σ H' hi ⟨rfl, v, rfl⟩
      obtain ⟨z, rfl, hz⟩ := map_at_int hi
      walk_at "rd"
      exact ⟨rfl, _, rfl⟩
    · rintro σ H' ⟨rfl, v, rfl⟩
      exact q
end
end K35
namespace K35
open PySem PySem.Spec PyProof.Rows L2
local macro_rules | `(tactic| walk_at "rd") => `(tactic| repeat (first
  | refine ⟨_, rfl, ?_⟩
  | refine ⟨_, _, rfl, rfl, ?_⟩
  | refine ⟨(show scal _ _ = true from rfl), ?_⟩
  | refine ⟨_, _, rfl, .inl (by assumption), ?_⟩
  | refine ⟨_, _, rfl, (by assumption), ?_⟩
  | refine ⟨_, _, _, _, rfl, rfl, (by assumption), at_int (by assumption), ?_⟩
  | refine ⟨_, _, _, _, rfl, rfl, (by assumption), at_ref (by assumption), ?_⟩
  | refine .inl ⟨_, rfl, ?_⟩
  | refine ⟨(show (0 : Int) < _ by first | decide | assumption | omega), ?_⟩
  | refine ⟨(show CDiv _ _ from ⟨by first | decide | assumption | omega, by first | decide | assumption | omega⟩), ?_⟩
  | refine ⟨(show CPow _ _ from ⟨by decide, by decide, by decide⟩), ?_⟩
  | refine ⟨(show CMul _ _ from .inl ⟨by first | decide | omega, by first | decide | omega⟩), ?_⟩
  | refine ⟨(show CMul _ _ from .inr ⟨by first | decide | omega, by first | decide | omega⟩), ?_⟩
  | refine ⟨.inl ⟨rfl, _, (by assumption)⟩, ?_⟩
  | refine ⟨_, _, _, rfl, rfl, (by assumption), (by assumption), ?_⟩))
section
variable {P : Program} {w : World} {K : PySem.W.Frag} {mg : Str → Option Value} {base : Heap}
abbrev s_Lshort : Stmt := topS 30
theorem sc_Lshort : FnScope ["_law_runs", "_law_most", "_law_kept", "_law_total", "_law_run_here"] ["_law_runs", "_law_most"] (defScope s_Lshort) := ⟨rfl, rfl, rfl, by decide +kernel, rfl, by decide +kernel, by decide +kernel⟩
def total (ks : List (List Int)) : Nat := (ks.map List.length).sum
theorem total_snoc (ks : List (List Int)) (r : List Int) : total (ks ++ [r]) = total ks + r.length := by
  unfold total
  simp
def spShort (K : PySem.W.Frag) : Sp := fun vs H Q _ => ∃ (a : Addr) (rs : List (List Int)) (m : Nat), vs = [.ref a, .int (m : Int)] ∧ LL K H a rs ∧ rs.length ≤ 1000 ∧
  ∀ (H' : Hp) (p : Addr) (ks : List (List Int)), Same H H' → H p = none → LL K H' p ks → ks.length ≤ rs.length → total ks ≤ m → Q (.ref p) H'
theorem ok_Lshort {f : Addr} {fd : FuncData} (F : Fun K "_law_short" "_law_short" s_Lshort f fd) (T : Txt mg) : FnOk P w K mg base CX0 1 f fd ["_law_runs", "_law_most"] (spShort K) := by
  refine F.ok sc_Lshort (fun vs H Q E h => ?_) (fun cdv A outer s H vs Q E hr h => ?_)
  · obtain ⟨a, rs, m, rfl, _⟩ := h
    rfl
  · obtain ⟨a, rs, m, rfl, ⟨as, hL⟩, lr, q⟩ := h
    refine ⟨_, (pss_cons (ps_set (i := 2) sc_Lshort.nd rfl (.inl rfl) (pe_lst pa_nil))
    (pss_cons (ps_set (i := 3) sc_Lshort.nd rfl (.inl rfl) pe_int)
    (pss_cons (ps_for PassesOwn.never rfl (pi_list (pv 0)) (pg_name (i := 4) sc_Lshort.nd rfl (.inl rfl))
      (pss_one (ps_if (pt_cmpR op_le (pe_op op_add (pv 3) (pe_callB call_len_seq (by rfl) T.len PySem.boot_len (pa_cons (pv 4) pa_nil))) (pv 1) (nomark _))
        (pss_cons (ps_expr (pe_bm PySem.F.plainAttrs_list PySem.F.slot_list_append PySem.F.type_list_append mt_append (pv 2) (pa_cons (pv 4) pa_nil)))
        (pss_one (ps_set (i := 3) sc_Lshort.nd rfl (.inl rfl) (pe_op op_add (pv 3) (pe_callB call_len_seq (by rfl) T.len PySem.boot_len (pa_cons (pv 4) pa_nil))))))
        pss_nil)))
    (pss_one (ps_ret (pv 2)))))), ?_⟩
    refine ⟨Nat.zero_le _, fun p np => ?_⟩
    have s1 := same_new (o := .lst []) np
    have hp := upd_same (H := H) (a := p) (o := .lst [])
    generalize upd H p (.lst []) = H1 at s1 hp ⊢
    walk_at "rd"
    refine ⟨⟨_, s1.seq hL.lst⟩, for_list (K := K) (a := a) (xs := as.map V.ref) (fun i σ H' => Same H H' ∧ ∃ (qs : List Addr) (ks : List (List Int)) (v4 : Option V), σ = [some (.ref a), some (.int (m : Int)), some (.ref p), some (.int ((total ks : Nat) : Int)), v4] ∧ H' p = some (.lst (qs.map V.ref)) ∧ qs.length = ks.length ∧
        (∀ (l : Nat) (q : Addr) (xs : List Int), qs[l]? = some q → ks[l]? = some xs → IL K H q xs) ∧ total ks ≤ m ∧ ks.length ≤ i)
      ⟨s1, [], [], none, rfl, hp, rfl, fun l q xs h _ => by simp at h, Nat.zero_le _, Nat.le_refl _⟩ (fun i σ H' _ ⟨e, _⟩ => e.seq hL.lst) ?_ ?_⟩
    · rintro i y σ H' hi ⟨sm, qs, ks, v4, rfl, hq, hl, hrow, ht, hk⟩
      obtain ⟨u, rfl, hu⟩ := map_at_ref hi
      obtain ⟨r, hr2, hU⟩ := hL.row_at hu
      have hi2 := lt_at hr2
      have hU2 := sm.seq hU
      walk_at "rd"
      refine ite2 (fun e1 => ?_) (fun e1 => ?_)
      · have h1 := of_decide_eq_true e1
        rw [map_len] at h1
        have hqs := il_of (K := K) hq
        have hsz : (qs.map V.ref).length < sizeLine := szl (by rw [map_len, hl]; omega)
        have s4 := same_mut (o := .lst (qs.map V.ref ++ [V.ref u])) sm np
        have hU3 := s4.seq hU
        walk_at "rd"
        refine ⟨s4, qs ++ [u], ks ++ [r], some (.ref u), ?_, by rw [upd_same, List.map_append]; rfl, by rw [List.length_append, List.length_append, hl]; rfl, fun l q' xs h2 h3 => ?_, by rw [total_snoc]; omega, by rw [List.length_append, List.length_singleton]; omega⟩
        · rw [total_snoc, Int.natCast_add, ← map_len V.int r]
          rfl
        · rcases at_snoc h3 with h | ⟨h, h'⟩
          · rw [List.getElem?_append_left (by rw [hl]; exact lt_at h)] at h2
            exact hrow l q' xs h2 h
          · rw [h, ← hl, List.getElem?_append_right (Nat.le_refl _), Nat.sub_self] at h2
            cases h2
            rw [← h']
            exact hU
      · exact ⟨sm, qs, ks, _, rfl, hq, hl, hrow, ht, by omega⟩
    · rintro σ H' ⟨sm, qs, ks, v4, rfl, hq, hl, hrow, ht, hk⟩
      rw [map_len, hL.len] at hk
      exact ⟨_, rfl, q H' p ks sm np ⟨qs, il_of hq, hl, fun l q' xs h1 h2 => sm.seq (hrow l q' xs h1 h2)⟩ hk ht⟩

abbrev s_Lminimal : Stmt := topS 32
theorem sc_Lminimal : FnScope ["_law_lists_here", "_law_kept", "_law_handed", "_law_k", "_law_less"] ["_law_lists_here", "_law_kept", "_law_handed"] (defScope s_Lminimal) := ⟨rfl, rfl, rfl, by decide +kernel, rfl, by decide +kernel, by decide +kernel⟩
def spMin (K : PySem.W.Frag) : Sp := fun vs H Q _ => ∃ (a b c : Addr) (rs : List (List Int)) (ks : List Int), vs = [.ref a, .ref b, .ref c] ∧ LL K H a rs ∧ IL K H b ks ∧ LL K H c rs ∧ ks.length ≤ 1000 ∧
  (∀ r ∈ rs, r.Sublist ks) ∧ (∀ k, k < ks.length → ¬ ∀ r ∈ rs, r.Sublist (ks.eraseIdx k)) ∧ ∀ (H' : Hp), Same H H' → Q (.bl true) H'
theorem ok_Lminimal {f : Addr} {fd : FuncData} (F : Fun K "_law_minimal" "_law_minimal" s_Lminimal f fd) (T : Txt mg) (o_Lwhole : Own P w K mg base 2 "_law_whole" ["_law_runs", "_law_schedule"] (spAll K)) (o_iscomplete : Own P w K mg base 2 "is_complete" ["runs", "schedule"] (spAll K)) : FnOk P w K mg base CX0 3 f fd ["_law_lists_here", "_law_kept", "_law_handed"] (spMin K) := by
  refine F.ok sc_Lminimal (fun vs H Q E h => ?_) (fun cdv A outer s H vs Q E hr h => ?_)
  · obtain ⟨a, b, c, rs, ks, rfl, _⟩ := h
    rfl
  · obtain ⟨a, b, c, rs, ks, rfl, hA, hB, hC, lk, hall, hmin, q⟩ := h
    refine ⟨_, (pss_cons (ps_if (PW.pt (pw_or (pt_not (pt_val (pe_own o_Lwhole (hr.mono (by decide)) (by rfl) (pa_cons (pv 0) (pa_cons (pv 1) pa_nil))))) (pw_or1 (pt_cmpR op_notBl (pe_own o_iscomplete (hr.mono (by decide)) (by rfl) (pa_cons (pv 2) (pa_cons (pe_callTy call_list_of (by rfl) T.list_ (by decide +kernel) (pa_cons (pv 1) pa_nil)) pa_nil))) pe_bl (nomark _)))))
      (pss_one (ps_ret pe_bl))
      pss_nil)
    (pss_cons (ps_for PassesOwn.never rfl (pi_range1 (by rfl) T.range_ (pa_cons (pe_callB call_len_seq (by rfl) T.len PySem.boot_len (pa_cons (pv 1) pa_nil)) pa_nil)) (pg_name (i := 3) sc_Lminimal.nd rfl (.inl rfl))
      (pss_cons (ps_set (i := 4) sc_Lminimal.nd rfl (.inl rfl) (pe_op op_cat (pe_slice sl_list (pv 1) po_none (po_some (pv 3))) (pe_slice sl_list (pv 1) (po_some (pe_op op_add (pv 3) pe_int)) po_none)))
      (pss_one (ps_if (PW.pt (pw_or (pt_val (pe_own o_Lwhole (hr.mono (by decide)) (by rfl) (pa_cons (pv 0) (pa_cons (pv 4) pa_nil)))) (pw_or1 (pt_cmpR op_notBl (pe_own o_iscomplete (hr.mono (by decide)) (by rfl) (pa_cons (pv 2) (pa_cons (pv 4) pa_nil))) pe_bl (nomark _)))))
        (pss_one (ps_ret pe_bl))
        pss_nil))))
    (pss_one (ps_ret (pe_cmpR (op_eqD hr.units) (pv 2) (pv 0) (nomark _)))))), ?_⟩
    walk_at "rd"
    refine ⟨a, b, rs, ks, rfl, hA, hB, fun c1 hc1 => ?_⟩
    obtain rfl : c1 = true := hc1.mpr hall
    walk_at "rd"
    intro l nl
    have sl := same_new (o := .lst (ks.map V.int)) nl
    refine ⟨c, l, rs, ks, rfl, hC.same sl, il_of upd_same, fun c2 hc2 => ?_⟩
    obtain rfl : c2 = true := hc2.mpr hall
    generalize upd H l (.lst (ks.map V.int)) = H1 at sl ⊢
    have hB1 := sl.seq hB
    walk_at "rd"
    refine ⟨by omega, by rw [map_len]; omega, for_rng (n := (ks.map V.int).length) (fun i σ H' => Same H H' ∧ ∃ v3 v4, σ = [some (.ref a), some (.ref b), some (.ref c), v3, v4]) ⟨sl, _, _, rfl⟩ ?_ ?_⟩
    · rintro i σ H' hi ⟨sm, v3, v4, rfl⟩
      rw [map_len] at hi
      have hB2 := sm.seq hB
      walk_at "rd"
      intro p1 n1
      rw [cut_take V.int ks i]
      have s1 := same_new (o := .lst ((ks.take i).map V.int)) n1
      have hp1 := upd_same (H := H') (a := p1) (o := .lst ((ks.take i).map V.int))
      generalize upd H' p1 (.lst ((ks.take i).map V.int)) = H2 at s1 hp1 ⊢
      have hB3 := s1.seq hB2
      walk_at "rd"
      intro p2 n2
      rw [cutI_drop V.int ks (i := (i : Int) + 1) (k := i + 1) rfl]
      have s2 := same_new (o := .lst ((ks.drop (i + 1)).map V.int)) n2
      have hp2 := upd_same (H := H2) (a := p2) (o := .lst ((ks.drop (i + 1)).map V.int))
      generalize upd H2 p2 (.lst ((ks.drop (i + 1)).map V.int)) = H3 at s2 hp2 ⊢
      refine ⟨p1, p2, _, _, rfl, rfl, s2 _ _ hp1, hp2, ?_, fun p3 n3 => ?_⟩
      · rw [map_len, map_len, List.length_take, List.length_drop]
        exact sz (by omega)
      rw [← List.map_append, ← List.eraseIdx_eq_take_drop_succ]
      have s3 := same_new (o := .lst ((ks.eraseIdx i).map V.int)) n3
      have hp3 := upd_same (H := H3) (a := p3) (o := .lst ((ks.eraseIdx i).map V.int))
      generalize upd H3 p3 (.lst ((ks.eraseIdx i).map V.int)) = H4 at s3 hp3 ⊢
      have s4 : Same H H4 := ((sm.trans s1).trans s2).trans s3
      have nall := hmin i hi
      walk_at "rd"
      refine ⟨a, p3, rs, _, rfl, hA.same s4, il_of hp3, fun c1 hc1 => ?_⟩
      obtain rfl : c1 = false := Bool.eq_false_iff.mpr fun z => nall (hc1.mp z)
      walk_at "rd"
      refine ⟨c, p3, rs, _, rfl, hC.same s4, il_of hp3, fun c2 hc2 => ?_⟩
      obtain rfl : c2 = false := Bool.eq_false_iff.mpr fun z => nall (hc2.mp z)
      walk_at "rd"
      exact ⟨s4, _, _, rfl⟩
    · rintro σ H' ⟨sm, v3, v4, rfl⟩
      walk_at "rd"
      refine ⟨_, _, dp_ll (hC.same sm), dp_ll (hA.same sm), ll_shaped _, ll_shaped _, ?_⟩
      rw [ll_eqv]
      exact q H' sm
end
end K35
namespace K35
open PySem PySem.Spec PyProof.Rows L2
local macro_rules | `(tactic| walk_at "rd") => `(tactic| repeat (first
  | refine ⟨_, rfl, ?_⟩
  | refine ⟨_, _, rfl, rfl, ?_⟩
  | refine ⟨(show scal _ _ = true from rfl), ?_⟩
  | refine ⟨_, _, rfl, .inl (by assumption), ?_⟩
  | refine ⟨_, _, rfl, (by assumption), ?_⟩
  | refine ⟨_, _, _, _, rfl, rfl, (by assumption), at_int (by assumption), ?_⟩
  | refine ⟨_, _, _, _, rfl, rfl, (by assumption), at_ref (by assumption), ?_⟩
  | refine .inl ⟨_, rfl, ?_⟩
  | refine ⟨(show (0 : Int) < _ by first | decide | assumption | omega), ?_⟩
  | refine ⟨(show CDiv _ _ from ⟨by first | decide | assumption | omega, by first | decide | assumption | omega⟩), ?_⟩
  | refine ⟨(show CPow _ _ from ⟨by decide, by decide, by decide⟩), ?_⟩
  | refine ⟨(show CMul _ _ from .inl ⟨by first | decide | omega, by first | decide | omega⟩), ?_⟩
  | refine ⟨(show CMul _ _ from .inr ⟨by first | decide | omega, by first | decide | omega⟩), ?_⟩
  | refine ⟨.inl ⟨rfl, _, (by assumption)⟩, ?_⟩
  | refine ⟨_, _, _, rfl, rfl, (by assumption), (by assumption), ?_⟩))
section
variable {P : Program} {w : World} {K : PySem.W.Frag} {mg : Str → Option Value} {base : Heap}
abbrev s_Lwoven : Stmt := topS 31
theorem sc_Lwoven : FnScope ["_law_lists_here", "_law_extra", "_law_cell_here", "_law_row", "_law_spots", "_law_beats", "_law_k", "_law_waiting", "_law_chosen", "_law_symbol_here", "_law_j"] ["_law_lists_here", "_law_extra", "_law_cell_here"] (defScope s_Lwoven) := ⟨rfl, rfl, rfl, by decide +kernel, rfl, by decide +kernel, by decide +kernel⟩
def spWoven (K : PySem.W.Frag) : Sp := fun vs H Q _ => ∃ (a b : Addr) (rs : List (List Int)) (ex : List Int) (c : Int), vs = [.ref a, .ref b, .int c] ∧ LL K H a rs ∧ IL K H b ex ∧ rs.length ≤ 1000 ∧ 0 < ex.length ∧ total rs ≤ 28 ∧
  ∀ (H' : Hp) (p : Addr) (bs : List Int), Same H H' → H p = none → H' p = some (.lst (bs.map V.int)) → bs.length ≤ 40 → (∀ r ∈ rs, r.Sublist bs) → Q (.ref p) H'
theorem waits_at {rs : List (List Int)} {sp : List Nat} (hl : sp.length = rs.length) {i : Nat} (hi : i < (waits rs sp).length) : ∃ (j d : Nat) (r : List Int), (waits rs sp)[i]? = some j ∧ rs[j]? = some r ∧ sp[j]? = some d ∧ d < r.length := by
  obtain ⟨j, hj⟩ := some_at hi
  obtain ⟨r, d, h1, h2, h3⟩ := (mem_waits hl).mp (List.mem_of_getElem? hj)
  exact ⟨j, d, r, hj, h1, h2, h3⟩
theorem ok_Lwoven {f : Addr} {fd : FuncData} (F : Fun K "_law_woven" "_law_woven" s_Lwoven f fd) (T : Txt mg) (o_Ldigits : Own P w K mg base 1 "_law_digits" ["_law_cell_here", "_law_count", "_law_size"] (spDig)) : FnOk P w K mg base CX0 2 f fd ["_law_lists_here", "_law_extra", "_law_cell_here"] (spWoven K) := by
  refine F.ok sc_Lwoven (fun vs H Q E h => ?_) (fun cdv A outer s H vs Q E hr h => ?_)
  · obtain ⟨a, b, rs, ex, c, rfl, _⟩ := h
    rfl
  · obtain ⟨a, b, rs, ex, c, rfl, ⟨as, hL⟩, hX, lr, lx, ht, q⟩ := h
    refine ⟨_, (pss_cons (ps_set (i := 3) sc_Lwoven.nd rfl (.inl rfl) (pe_own o_Ldigits (hr.mono (by decide)) (by rfl) (pa_cons (pv 2) (pa_cons pe_int (pa_cons pe_int pa_nil)))))
    (pss_cons (ps_set (i := 4) sc_Lwoven.nd rfl (.inr rfl) (pe_op op_rep (pe_lst (pa_cons pe_int pa_nil)) (pe_callB call_len_seq (by rfl) T.len PySem.boot_len (pa_cons (pv 0) pa_nil))))
    (pss_cons (ps_set (i := 5) sc_Lwoven.nd rfl (.inl rfl) (pe_lst pa_nil))
    (pss_cons (ps_for PassesOwn.never rfl (pi_range1 (by rfl) T.range_ (pa_cons pe_int pa_nil)) (pg_name (i := 6) sc_Lwoven.nd rfl (.inl rfl))
      (pss_cons (ps_setLc (i := 7) (own := [("_law_j", 10)]) (g := gName 10) (by rfl) sc_Lwoven.nd rfl rfl (sw_true rfl rfl rfl (by decide +kernel)) (pi_range1 (by rfl) T.range_ (pa_cons (pe_callB call_len_seq (by rfl) T.len PySem.boot_len (pa_cons (pv 0) pa_nil)) pa_nil)) (blkOk_by (own := [("_law_j", 10)]) (N := ["_law_lists_here", "_law_extra", "_law_cell_here", "_law_row", "_law_spots", "_law_beats", "_law_k", "_law_waiting", "_law_chosen", "_law_symbol_here", "_law_j"]) (sc := defScope s_Lwoven) (by decide +kernel)) (fun _ _ _ _ _ => pg_name (i := 10) sc_Lwoven.nd rfl (Or.inl rfl)) (fun _ _ _ _ _ => (pts_one (pt_cmpR op_lt (pe_ix (r := rIxL K) ix_list (pv 4) (pv 10) (fun _ _ => rfl)) (pe_callB (r := rLn K) call_len_seq (by rfl) T.len PySem.boot_len (pa_cons (pe_ix (r := rIxL K) ix_list (pv 0) (pv 10) (fun _ _ => rfl)) pa_nil)) (nomark _)))) (fun _ _ _ _ _ => (pv 10)))
      (pss_one (ps_if (PW.pt (pw_and (pt_cmpR op_lt (pv 6) pe_int (nomark _)) (pw_and1 (pt_cmpR op_eq (pe_op op_mod (pe_callTy call_int1 (by rfl) T.int_ (by decide +kernel) (pa_cons (pe_ix ix_list (pv 3) (pv 6) (fun _ _ => rfl)) pa_nil)) pe_int) pe_int (nomark _)))))
        (pss_one (ps_expr (pe_bm PySem.F.plainAttrs_list PySem.F.slot_list_append PySem.F.type_list_append mt_append (pv 5) (pa_cons (pe_ix ix_list (pv 1) (pe_op op_mod (pe_callTy call_int1 (by rfl) T.int_ (by decide +kernel) (pa_cons (pe_op op_fdiv (pe_ix ix_list (pv 3) (pv 6) (fun _ _ => rfl)) pe_int) pa_nil)) (pe_callB call_len_seq (by rfl) T.len PySem.boot_len (pa_cons (pv 1) pa_nil))) (fun _ _ => rfl)) pa_nil))))
        (pss_one (ps_if (pt_cmpR op_gt (pe_callB call_len_seq (by rfl) T.len PySem.boot_len (pa_cons (pv 7) pa_nil)) pe_int (nomark _))
          (pss_cons (ps_set (i := 8) sc_Lwoven.nd rfl (.inl rfl) (pe_ix ix_list (pv 7) (pe_op op_mod (pe_callTy call_int1 (by rfl) T.int_ (by decide +kernel) (pa_cons (pe_op op_fdiv (pe_ix ix_list (pv 3) (pv 6) (fun _ _ => rfl)) pe_int) pa_nil)) (pe_callB call_len_seq (by rfl) T.len PySem.boot_len (pa_cons (pv 7) pa_nil))) (fun _ _ => rfl)))
          (pss_cons (ps_set (i := 9) sc_Lwoven.nd rfl (.inl rfl) (pe_ix ix_list (pe_ix ix_list (pv 0) (pv 8) (fun _ _ => rfl)) (pe_ix ix_list (pv 4) (pv 8) (fun _ _ => rfl)) (fun _ _ => rfl)))
          (pss_cons (ps_expr (pe_bm PySem.F.plainAttrs_list PySem.F.slot_list_append PySem.F.type_list_append mt_append (pv 5) (pa_cons (pv 9) pa_nil)))
          (pss_one (ps_for PassesOwn.never rfl (pi_list (pv 7)) (pg_name (i := 10) sc_Lwoven.nd rfl (.inl rfl))
            (pss_one (ps_if (PW.pt (pw_or (pt_cmpR op_eq (pv 10) (pv 8) (nomark _)) (pw_or1 (PW.pt (pw_and (pt_cmpR op_eq (pe_op op_mod (pe_callTy call_int1 (by rfl) T.int_ (by decide +kernel) (pa_cons (pe_op op_fdiv (pe_ix ix_list (pv 3) (pv 6) (fun _ _ => rfl)) pe_int) pa_nil)) pe_int) pe_int (nomark _)) (pw_and1 (pt_cmpR op_eq (pe_ix ix_list (pe_ix ix_list (pv 0) (pv 10) (fun _ _ => rfl)) (pe_ix ix_list (pv 4) (pv 10) (fun _ _ => rfl)) (fun _ _ => rfl)) (pv 9) (nomark _))))))))
              (pss_one (ps_asg (pe_op op_add (pe_ix ix_list (pv 4) (pv 10) (fun _ _ => rfl)) pe_int) (pg_sub (pv 4) (pv 10) set_list)))
              pss_nil)))))))
          pss_nil))))))
    (pss_one (ps_ret (pv 5))))))), ?_⟩
    walk_at "rd"
    refine ⟨c, 55440, 40, rfl, by decide, by decide, by decide, fun H0 rA ds s0 nr hr0 hds => ?_⟩
    have hL0 := hL.same s0
    refine ⟨sz (by decide), fun l0 n0 => ?_⟩
    have s1 := same_new (o := .lst [V.int 0]) n0
    have hLl := s1.seq hL0.lst
    walk_at "rd"
    refine ⟨l0, _, _, rfl, rfl, upd_same, by omega, by rw [map_len, hL.len]; omega, ?_, fun dA nd => ?_⟩
    · rw [Int.toNat_natCast, map_len, hL.len]
      exact sz (by simp; omega)
    rw [zeros (n := rs.length) (by rw [map_len, hL.len]), up_zeros]
    have s2 := s1.trans (same_new (o := .lst ((up (List.replicate rs.length 0)).map V.int)) nd)
    have nd0 := s1.free nd
    have hd := upd_same (H := upd H0 l0 (.lst [V.int 0])) (a := dA) (o := .lst ((up (List.replicate rs.length 0)).map V.int))
    generalize upd (upd H0 l0 (.lst [V.int 0])) dA (.lst ((up (List.replicate rs.length 0)).map V.int)) = H2 at s2 hd ⊢
    refine ⟨Nat.zero_le _, fun kA nk => ?_⟩
    have s3 := s2.trans (same_new (o := .lst []) nk)
    have nk0 := s2.free nk
    have dk : dA ≠ kA := ne_of_none hd nk
    have hd3 : (upd H2 kA (.lst [])) dA = some (.lst ((up (List.replicate rs.length 0)).map V.int)) := by
      rw [upd_ne dk]
      exact hd
    have hk3 := upd_same (H := H2) (a := kA) (o := .lst [])
    generalize upd H2 kA (.lst []) = H3 at s3 hd3 hk3 ⊢
    walk_at "rd"
    have hx0 : (0 : Int) < (((ex.map V.int).length : Nat) : Int) := by
      rw [map_len]
      omega
    refine ⟨by decide, by decide, for_rng (n := 40) (fun k σ H' => Same H0 H' ∧ ∃ (sp : List Nat) (bs : List Int) (v6 v7 v8 v9 v10 : Option V), σ = [some (.ref a), some (.ref b), some (.int c), some (.ref rA), some (.ref dA), some (.ref kA), v6, v7, v8, v9, v10] ∧
        H' dA = some (.lst ((up sp).map V.int)) ∧ H' kA = some (.lst (bs.map V.int)) ∧ WeaveInv rs k sp bs)
      ⟨s3, _, [], none, none, none, none, none, rfl, hd3, hk3, weave_start ht⟩ ?_ ?_⟩
    · rintro k σ H' hk ⟨sm, sp, bs, v6, v7, v8, v9, v10, rfl, hda, hka, I⟩
      obtain ⟨x, hx⟩ := some_at (xs := ds) (j := k) (by rw [hds.1]; exact hk)
      have hLl := sm.seq hL0.lst
      have hsl : sp.length = rs.length := I.len
      walk_at "rd"
      refine ⟨by omega, by rw [map_len, hL.len]; omega, fun D nD => lc_rng (n := (as.map V.ref).length) (fun i H5 => Same H' H5 ∧ H5 D = some (.lst ((up ((List.range i).filter fun j => decide (sp.getD j 0 < (rs.getD j []).length))).map V.int)))
        ⟨same_new nD, by rw [upd_same]; rfl⟩ ?_ ?_⟩
      · rintro i H5 hi ⟨s5, h5⟩
        rw [map_len, hL.len] at hi
        refine ⟨rfl, ?_⟩
        obtain ⟨r, hr2⟩ := some_at hi
        obtain ⟨d, hd2⟩ := some_at (xs := sp) (j := i) (by omega)
        obtain ⟨p, hp, hP⟩ := (hL0.same (sm.trans s5)).at_ hr2
        have hL5 := (hL0.same (sm.trans s5)).lst
        have hda5 := il_of (K := K) (s5 _ _ hda)
        have hdu := up_at hd2
        have eg : (sp.getD i 0 < (rs.getD i []).length) ↔ d < r.length := by
          rw [List.getD_eq_getElem?_getD, List.getD_eq_getElem?_getD, hd2, hr2]
          rfl
        walk_at "rd"
        refine ite2 (fun e1 => ?_) (fun e1 => ?_)
        · have h1 := of_decide_eq_true e1
          rw [map_len] at h1
          walk_at "rd"
          refine ⟨_, h5, szl ?_, same_mut s5 nD, ?_⟩
          · rw [map_len, map_len]
            have := List.length_filter_le (fun j => decide (sp.getD j 0 < (rs.getD j []).length)) (List.range i)
            rw [List.length_range] at this
            omega
          · rw [upd_same, List.range_succ, List.filter_append, List.filter_cons, if_pos (decide_eq_true (eg.mpr (by omega)))]
            unfold up
            rw [List.map_append, List.map_append]
            rfl
        · refine ⟨s5, ?_⟩
          rw [h5, List.range_succ, List.filter_append, List.filter_cons, if_neg (fun z => e1 (decide_eq_true ?_))]
          · simp
          · have := eg.mp (of_decide_eq_true z)
            rw [map_len]
            omega
      · rintro H5 ⟨s5, h5⟩
        rw [map_len, hL.len] at h5
        have h5 : H5 D = some (.lst ((up (waits rs sp)).map V.int)) := h5
        have Dd : D ≠ dA := fun e => by
          rw [e, hda] at nD
          cases nD
        have Dk : D ≠ kA := fun e => by
          rw [e, hka] at nD
          cases nD
        have hda5 := s5 _ _ hda
        have hka5 := s5 _ _ hka
        have s05 := sm.trans s5
        have hR5 := s05.seq (il_of (K := K) hr0)
        have hD5 := il_of (K := K) h5
        have hK5 := il_of (K := K) hka5
        have hE5 := (s0.trans s05).seq hX
        have hkl : (bs.map V.int).length < sizeLine := szl (by rw [map_len]; have := I.few; omega)
        walk_at "rd"
        refine (fun els => ite2 (fun e1 => ?_) (fun _ => els)) ?_
        · have hk12 : k < 12 := by
            have := of_decide_eq_true e1
            omega
          walk_at "rd"
          refine ite2 (fun e2 => ?_) (fun _ => els)
          walk_at "rd"
          obtain ⟨y, _, hy⟩ := at_some (ns := ex) (i := x / 4 % (((ex.map V.int).length : Nat) : Int)) (Int.emod_nonneg _ (by omega)) (by
            have := Int.emod_lt_of_pos (x / 4) hx0
            rw [map_len] at this ⊢
            exact this)
          refine ⟨_, _, _, _, rfl, rfl, hE5, hy, ?_⟩
          walk_at "rd"
          refine ⟨same_mut s05 nk0, sp, bs ++ [y], _, _, _, _, _, rfl, by rw [upd_ne dk]; exact hda5, by rw [upd_same, snoc_map], weave_extra I hk12 y⟩
        · walk_at "rd"
          refine ite2 (fun e1 => ?_) (fun e1 => ?_)
          · have hw0 : (0 : Int) < (((up (waits rs sp)).map V.int).length : Int) := of_decide_eq_true e1
            walk_at "rd"
            obtain ⟨y, hy1, hy⟩ := at_some (ns := up (waits rs sp)) (i := x / 4 % ((((up (waits rs sp)).map V.int).length : Nat) : Int)) (Int.emod_nonneg _ (by omega)) (by
              have := Int.emod_lt_of_pos (x / 4) hw0
              rw [map_len] at this ⊢
              exact this)
            obtain ⟨ch, hch, rfl⟩ := List.mem_map.mp hy1
            obtain ⟨r, d, hr2, hd2, hdr⟩ := (mem_waits hsl).mp hch
            obtain ⟨z, hz⟩ := some_at hdr
            obtain ⟨p, hp, hP⟩ := (hL0.same s05).at_ hr2
            have hL5 := (hL0.same s05).lst
            have hS5 := il_of (K := K) hda5
            have hdu := up_at hd2
            refine ⟨_, _, _, _, rfl, rfl, hD5, hy, ?_⟩
            walk_at "rd"
            rw [snoc_map]
            have s6 := same_mut (o := .lst ((bs ++ [z]).map V.int)) s05 nk0
            have h6k := upd_same (H := H5) (a := kA) (o := .lst ((bs ++ [z]).map V.int))
            have h6d : (upd H5 kA (.lst ((bs ++ [z]).map V.int))) dA = some (.lst ((up sp).map V.int)) := by
              rw [upd_ne dk]
              exact hda5
            have h6D : (upd H5 kA (.lst ((bs ++ [z]).map V.int))) D = some (.lst ((up (waits rs sp)).map V.int)) := by
              rw [upd_ne Dk]
              exact h5
            generalize upd H5 kA (.lst ((bs ++ [z]).map V.int)) = H6 at s6 h6k h6d h6D ⊢
            refine ⟨⟨_, il_of h6D⟩, for_list (K := K) (a := D) (xs := (up (waits rs sp)).map V.int) (fun i σ H7 => H7 D = some (.lst ((up (waits rs sp)).map V.int)) ∧ Same H0 H7 ∧ ∃ (sq : List Nat) (v10 : Option V),
                σ = [some (.ref a), some (.ref b), some (.int c), some (.ref rA), some (.ref dA), some (.ref kA), some (.int (k : Int)), some (.ref D), some (.int (ch : Int)), some (.int z), v10] ∧
                H7 dA = some (.lst ((up sq).map V.int)) ∧ H7 kA = some (.lst ((bs ++ [z]).map V.int)) ∧ TurnInv rs sp (waits rs sp) ch z i sq)
              ⟨h6D, s6, sp, _, rfl, h6d, h6k, turn_start rs sp (waits rs sp) ch z⟩ (fun i σ H7 _ h => il_of h.1) ?_ ?_⟩
            · rintro i y σ H7 hi ⟨h7D, s7, sq, v10, rfl, h7d, h7k, TI⟩
              have hi2 := lt_at hi
              rw [map_len, map_len] at hi2
              obtain ⟨j, dj, rj, hj, hrj, hdj, hlj⟩ := waits_at hsl hi2
              have hsq := turn_at TI (waits_nodup rs sp) hj hdj
              obtain ⟨pj, hpj, hPj⟩ := (hL0.same s7).at_ hrj
              have hju := up_at hj
              rw [List.getElem?_map, hju] at hi
              cases hi
              have hL7 := (hL0.same s7).lst
              have hS7 := il_of (K := K) h7d
              have hR7 := s7.seq (il_of (K := K) hr0)
              have hsu := up_at hsq
              obtain ⟨zj, hzj⟩ := some_at hlj
              walk_at "rd"
              refine (fun (yes : rj[dj]? = some z → _) => ite2 (fun e1 => yes ?_) (fun e1 => ?_)) (fun hyes => ?_)
              · have e2 : (j : Int) = (ch : Int) := V.int.inj (of_decide_eq_true e1)
                have e3 : j = ch := by omega
                subst e3
                rw [hr2] at hrj
                rw [hd2] at hdj
                cases hrj
                cases hdj
                exact hz
              · have njc : j ≠ ch := fun e => e1 (decide_eq_true (by rw [e]))
                walk_at "rd"
                refine ite2 (fun e2 => ?_) (fun e2 => ?_)
                · walk_at "rd"
                  refine ite2 (fun e3 => yes ?_) (fun e3 => ?_)
                  · rw [hzj, V.int.inj (of_decide_eq_true e3)]
                  · exact ⟨h7D, s7, sq, _, rfl, h7d, h7k, turn_no TI hj njc⟩
                · exact ⟨h7D, s7, sq, _, rfl, h7d, h7k, turn_no TI hj njc⟩
              · walk_at "rd"
                refine ⟨_, _, _, j, rfl, rfl, h7d, ixN_of rfl (by rw [map_len]; exact lt_at hsu), ?_⟩
                refine ⟨by rw [upd_ne Dd]; exact h7D, same_mut s7 nd0, sq.set j (dj + 1), _, rfl, ?_, by rw [upd_ne dk.symm]; exact h7k, turn_yes TI (waits_nodup rs sp) hj hdj hrj hyes⟩
                rw [upd_same]
                unfold up
                rw [List.map_set, List.map_set]
                rfl
            · rintro σ H7 ⟨h7D, s7, sq, v10, rfl, h7d, h7k, TI⟩
              rw [map_len, map_len] at TI
              exact ⟨s7, sq, bs ++ [z], _, _, _, _, _, rfl, h7d, h7k, weave_turn I TI hch hr2 hd2 hz⟩
          · refine ⟨s05, sp, bs, _, _, _, _, _, rfl, hda5, hka5, weave_none I fun l d r h1 h2 h3 => e1 (decide_eq_true ?_)⟩
            have := List.length_pos_of_mem ((mem_waits hsl).mpr ⟨r, d, h1, h2, h3⟩)
            rw [map_len, map_len]
            omega
    · rintro σ H' ⟨sm, sp, bs, v6, v7, v8, v9, v10, rfl, hda, hka, I⟩
      exact ⟨_, rfl, q H' kA bs (s0.trans sm) (s0.free nk0) hka I.few (weave_end I)⟩
end
end K35
namespace K35
open PySem PySem.Spec PyProof.Rows L2
local macro_rules | `(tactic| walk_at "rd") => `(tactic| repeat (first
  | refine ⟨_, rfl, ?_⟩
  | refine ⟨_, _, rfl, rfl, ?_⟩
  | refine ⟨(show scal _ _ = true from rfl), ?_⟩
  | refine ⟨_, _, rfl, .inl (by assumption), ?_⟩
  | refine ⟨_, _, rfl, (by assumption), ?_⟩
  | refine ⟨_, _, _, _, rfl, rfl, (by assumption), at_int (by assumption), ?_⟩
  | refine ⟨_, _, _, _, rfl, rfl, (by assumption), at_ref (by assumption), ?_⟩
  | refine .inl ⟨_, rfl, ?_⟩
  | refine ⟨(show (0 : Int) < _ by first | decide | assumption | omega), ?_⟩
  | refine ⟨(show CDiv _ _ from ⟨by first | decide | assumption | omega, by first | decide | assumption | omega⟩), ?_⟩
  | refine ⟨(show CPow _ _ from ⟨by decide, by decide, by decide⟩), ?_⟩
  | refine ⟨(show CMul _ _ from .inl ⟨by first | decide | omega, by first | decide | omega⟩), ?_⟩
  | refine ⟨(show CMul _ _ from .inr ⟨by first | decide | omega, by first | decide | omega⟩), ?_⟩
  | refine ⟨.inl ⟨rfl, _, (by assumption)⟩, ?_⟩
  | refine ⟨_, _, _, rfl, rfl, (by assumption), (by assumption), ?_⟩))
section
variable {P : Program} {w : World} {K : PySem.W.Frag} {mg : Str → Option Value} {base : Heap}
abbrev s_Llists : Stmt := topS 29
theorem sc_Llists : FnScope ["_law_script", "_law_turn", "_law_lists_here", "_law_j", "_law_row", "_law_size", "_law_k"] ["_law_script", "_law_turn"] (defScope s_Llists) := ⟨rfl, rfl, rfl, by decide +kernel, rfl, by decide +kernel, by decide +kernel⟩
def spLists (K : PySem.W.Frag) : Sp := fun vs H Q _ => ∃ (a : Addr) (ns : List Int) (t : Int), vs = [.ref a, .int t] ∧ IL K H a ns ∧
  ∀ (H' : Hp) (p : Addr) (rs : List (List Int)), Same H H' → H p = none → LL K H' p rs → rs.length ≤ 5 → total rs ≤ 28 → Q (.ref p) H'
theorem ok_Llists {f : Addr} {fd : FuncData} (F : Fun K "_law_lists" "_law_lists" s_Llists f fd) (T : Txt mg) (o_Ldigits : Own P w K mg base 1 "_law_digits" ["_law_cell_here", "_law_count", "_law_size"] (spDig)) (o_Lseed : Own P w K mg base 2 "_law_seed" ["_law_script", "_law_k"] (spSeed K)) (o_Lsymbol : Own P w K mg base 1 "_law_symbol" ["_law_turn", "_law_digit"] (spSym)) : FnOk P w K mg base CX0 3 f fd ["_law_script", "_law_turn"] (spLists K) := by
  refine F.ok sc_Llists (fun vs H Q E h => ?_) (fun cdv A outer s H vs Q E hr h => ?_)
  · obtain ⟨a, ns, t, rfl, _⟩ := h
    rfl
  · obtain ⟨a, ns, t, rfl, hN, q⟩ := h
    refine ⟨_, (pss_cons (ps_set (i := 2) sc_Llists.nd rfl (.inl rfl) (pe_lst pa_nil))
    (pss_cons (ps_for PassesOwn.never rfl (pi_range1 (by rfl) T.range_ (pa_cons (pe_op op_mod (pe_callTy call_int1 (by rfl) T.int_ (by decide +kernel) (pa_cons (pe_op op_fdiv (pv 1) pe_int) pa_nil)) pe_int) pa_nil)) (pg_name (i := 3) sc_Llists.nd rfl (.inl rfl))
      (pss_cons (ps_set (i := 4) sc_Llists.nd rfl (.inr rfl) (pe_own o_Ldigits (hr.mono (by decide)) (by rfl) (pa_cons (pe_own o_Lseed (hr.mono (by decide)) (by rfl) (pa_cons (pv 0) (pa_cons (pe_op op_add pe_int (pv 3)) pa_nil))) (pa_cons pe_int (pa_cons pe_int pa_nil)))))
      (pss_cons (ps_set (i := 5) sc_Llists.nd rfl (.inl rfl) (pe_op op_mod (pe_callTy call_int1 (by rfl) T.int_ (by decide +kernel) (pa_cons (pe_ix ix_list (pv 4) pe_int (fun _ _ => rfl)) pa_nil)) pe_int))
      (Evl.pss_cut (ps_if (PW.pt (pw_and (pt_cmpR op_lt (pv 3) pe_int (nomark _)) (pw_and1 (pt_cmpR op_eq (pe_op op_mod (pe_callTy call_int1 (by rfl) T.int_ (by decide +kernel) (pa_cons (pe_op op_fdiv (pe_ix ix_list (pv 4) pe_int (fun _ _ => rfl)) pe_int) pa_nil)) pe_int) pe_int (nomark _)))))
        (pss_one (ps_set (i := 5) sc_Llists.nd rfl (.inl rfl) pe_int))
        pss_nil)
      (pss_one (ps_if (PW.pt (pw_and (pt_cmpR op_gt (pv 3) pe_int (nomark _)) (pw_and1 (pt_cmpR op_eq (pe_op op_mod (pe_callTy call_int1 (by rfl) T.int_ (by decide +kernel) (pa_cons (pe_op op_fdiv (pe_ix ix_list (pv 4) pe_int (fun _ _ => rfl)) pe_int) pa_nil)) pe_int) pe_int (nomark _)))))
        (pss_one (ps_expr (pe_bm PySem.F.plainAttrs_list PySem.F.slot_list_append PySem.F.type_list_append mt_append (pv 2) (pa_cons (pe_callTy call_list_of (by rfl) T.list_ (by decide +kernel) (pa_cons (pe_slice sl_list (pe_ix ix_list (pv 2) (pe_op op_sub (pv 3) pe_int) (fun _ _ => rfl)) po_none (po_some pe_int)) pa_nil)) pa_nil))))
        (pss_one (ps_expr (pe_bm PySem.F.plainAttrs_list PySem.F.slot_list_append PySem.F.type_list_append mt_append (pv 2) (pa_cons (pe_lc (own := [("_law_k", 6)]) (g := gName 6) (by rfl) sc_Llists.nd (pi_range1 (by rfl) T.range_ (pa_cons (pv 5) pa_nil)) (blkOk_by (own := [("_law_k", 6)]) (N := ["_law_script", "_law_turn", "_law_lists_here", "_law_j", "_law_row", "_law_size", "_law_k"]) (sc := defScope s_Llists) (by decide +kernel)) (fun _ _ _ _ _ => pg_name (i := 6) sc_Llists.nd rfl (Or.inl rfl)) (fun _ _ _ _ _ => pts_nil) (fun _ _ _ _ _ => (pe_own o_Lsymbol (hr.mono (by decide)) (by rfl) (pa_cons (pv 1) (pa_cons (pe_ix (r := rIxL K) ix_list (pv 4) (pe_op op_add pe_int (pv 6)) (fun _ _ => rfl)) pa_nil))))) pa_nil))))))))))
    (pss_one (ps_ret (pv 2))))), ?_⟩
    refine ⟨Nat.zero_le _, fun D nD => ?_⟩
    have s1 := same_new (o := .lst []) nD
    have hD := upd_same (H := H) (a := D) (o := .lst [])
    generalize upd H D (.lst []) = H1 at s1 hD ⊢
    walk_at "rd"
    have ht6 : 0 ≤ t / 24 % 6 ∧ t / 24 % 6 < 6 := by omega
    refine ⟨by omega, by omega, for_rng (n := (t / 24 % 6).toNat) (fun j σ H' => Same H H' ∧ ∃ (ps : List Addr) (rs : List (List Int)) (v3 v4 v5 v6 : Option V), σ = [some (.ref a), some (.int t), some (.ref D), v3, v4, v5, v6] ∧ FL H H' D ps rs ∧ rs.length = j ∧ total rs ≤ 4 * j + 4 * min j 2 ∧ ∀ r ∈ rs, r.length ≤ 8)
      ⟨s1, [], [], none, none, none, none, rfl, FL.nil nD hD, rfl, Nat.zero_le _, fun r h => by simp at h⟩ ?_ ?_⟩
    · rintro j σ H' hj ⟨sm, ps, rs, v3, v4, v5, v6, rfl, f1, hl, htot, h8⟩
      walk_at "rd"
      refine ⟨a, ns, _, rfl, sm.seq hN, by omega, fun z H2 s2 => ?_⟩
      walk_at "rd"
      refine ⟨z, 55440, 9, rfl, by decide, by decide, by decide, fun H3 rA ds s3 nr hr3 hds => ?_⟩
      have f3 := f1.same (s2.trans s3)
      have s03 : Same H H3 := (sm.trans s2).trans s3
      have hR3 := il_of (K := K) hr3
      obtain ⟨x, hx0⟩ := some_at (xs := ds) (j := 0) (by rw [hds.1]; omega)
      have hx : atI (ds.map V.int) 0 = some (V.int x) := at_int (j := 0) hx0
      walk_at "rd"
      have hx5 : 0 ≤ x % 5 ∧ x % 5 < 5 := by omega
      refine ⟨fun σ' H' => H' = H3 ∧ ∃ n : Nat, σ' = [some (.ref a), some (.int t), some (.ref D), some (.int (j : Int)), some (.ref rA), some (.int (n : Int)), v6] ∧ n ≤ 8 ∧ (n ≤ 4 ∨ j < 2), ?_, ?_⟩
      · walk_at "rd"
        have e5 : ((x % 5).toNat : Int) = x % 5 := Int.toNat_of_nonneg hx5.1
        have no : (H3 = H3 ∧ ∃ n : Nat, [some (V.ref a), some (V.int t), some (V.ref D), some (V.int (j : Int)), some (V.ref rA), some (V.int (x % 5)), v6] = [some (.ref a), some (.int t), some (.ref D), some (.int (j : Int)), some (.ref rA), some (.int (n : Int)), v6] ∧ n ≤ 8 ∧ (n ≤ 4 ∨ j < 2)) :=
          ⟨rfl, (x % 5).toNat, by rw [e5], by omega, .inl (by omega)⟩
        refine ite2 (fun e1 => ?_) (fun _ => no)
        walk_at "rd"
        refine ite2 (fun e2 => ?_) (fun _ => no)
        refine ⟨rfl, 8, rfl, by omega, .inr ?_⟩
        have := of_decide_eq_true e1
        omega
      · rintro σ' H'' ⟨rfl, n, rfl, hn8, hn⟩
        have hDl : (ps.map V.ref).length < sizeLine := szl (by rw [map_len, f3.len]; omega)
        have hDs := il_of (K := K) f3.d
        have fin : ∀ (H5 : Hp) (p5 : Addr) (r5 : List Int), Same H'' H5 → H'' p5 = none → H5 p5 = some (.lst (r5.map V.int)) → r5.length ≤ 8 → (r5.length ≤ 4 ∨ j < 2) →
            Same H (upd H5 D (.lst (ps.map V.ref ++ [V.ref p5]))) ∧ ∃ (ps' : List Addr) (rs' : List (List Int)) (v3 v4 v5 v6' : Option V), [some (V.ref a), some (V.int t), some (V.ref D), some (V.int (j : Int)), some (V.ref rA), some (V.int (n : Int)), v6] = [some (.ref a), some (.int t), some (.ref D), v3, v4, v5, v6'] ∧ FL H (upd H5 D (.lst (ps.map V.ref ++ [V.ref p5]))) D ps' rs' ∧ rs'.length = j + 1 ∧ total rs' ≤ 4 * (j + 1) + 4 * min (j + 1) 2 ∧ ∀ r ∈ rs', r.length ≤ 8 := by
          intro H5 p5 r5 s5 n5 h5 l8 l4
          refine ⟨same_mut (s03.trans s5) nD, ps ++ [p5], rs ++ [r5], _, _, _, _, rfl, f3.push s03 s5 n5 h5, by rw [List.length_append, List.length_singleton, hl], ?_, fun r hr => ?_⟩
          · rw [total_snoc]
            omega
          · rcases List.mem_append.mp hr with g | g
            · exact h8 r g
            · rw [List.mem_singleton] at g
              rw [g]
              exact l8
        walk_at "rd"
        refine (fun els => ite2 (fun e1 => ?_) (fun _ => els)) ?_
        · have hj0 : 0 < j := by
            have := of_decide_eq_true e1
            omega
          walk_at "rd"
          refine ite2 (fun e2 => ?_) (fun _ => els)
          obtain ⟨rj, hrj⟩ := some_at (xs := rs) (j := j - 1) (by omega)
          obtain ⟨pj, hpj⟩ := some_at (xs := ps) (j := j - 1) (by rw [f3.len]; omega)
          have hPj := il_of (K := K) (f3.row _ _ _ hpj hrj).2.2
          walk_at "rd"
          refine ⟨_, _, _, _, rfl, rfl, hDs, at_refI (j := j - 1) (by omega) hpj, ?_⟩
          walk_at "rd"
          intro p1 n1
          rw [cutI_take V.int rj (i := 4) (k := 4) rfl]
          have s4 := same_new (o := .lst ((rj.take 4).map V.int)) n1
          have hp1 := il_of (K := K) (upd_same (H := H'') (a := p1) (o := .lst ((rj.take 4).map V.int)))
          have hd4 := s4 _ _ f3.d
          generalize upd H'' p1 (.lst ((rj.take 4).map V.int)) = H4 at s4 hp1 hd4 ⊢
          walk_at "rd"
          intro p2 n2
          have hd5 := same_new (o := .lst ((rj.take 4).map V.int)) n2 _ _ hd4
          refine ⟨D, _, _, rfl, rfl, hd5, hDl, ?_⟩
          have := fin _ p2 (rj.take 4) (s4.trans (same_new (o := .lst ((rj.take 4).map V.int)) n2)) (s4.free n2) upd_same (by rw [List.length_take]; omega) (.inl (by rw [List.length_take]; omega))
          exact this
        · walk_at "rd"
          refine ⟨by omega, by omega, fun p1 n1 => lc_rng (n := n) (fun i H5 => Same H'' H5 ∧ ∃ xs : List Int, xs.length = i ∧ H5 p1 = some (.lst (xs.map V.int)))
            ⟨same_new n1, [], rfl, upd_same⟩ ?_ ?_⟩
          · rintro i H5 hi ⟨s5, xs, hxs, h5⟩
            refine ⟨rfl, ?_⟩
            obtain ⟨y, hy⟩ := some_at (xs := ds) (j := 1 + i) (by rw [hds.1]; omega)
            walk_at "rd"
            refine ⟨_, _, _, _, rfl, rfl, s5.seq hR3, at_intI (j := 1 + i) (by omega) hy, ?_⟩
            refine ⟨t, y, rfl, fun z => ?_⟩
            refine ⟨_, h5, szl (by rw [map_len]; omega), same_mut s5 n1, xs ++ [z], by rw [List.length_append, List.length_singleton, hxs], by rw [upd_same, snoc_map]⟩
          · rintro H5 ⟨s5, xs, hxs, h5⟩
            refine ⟨D, _, _, rfl, rfl, s5 _ _ f3.d, hDl, ?_⟩
            have := fin _ p1 xs s5 n1 h5 (by omega) (by omega)
            exact this
    · rintro σ H' ⟨sm, ps, rs, v3, v4, v5, v6, rfl, f1, hl, htot, h8⟩
      exact ⟨_, rfl, q H' D rs sm nD ⟨ps, f1.ll⟩ (by omega) (by omega)⟩
end
end K35
namespace K35
open PySem PySem.Spec PyProof.Rows L2
local macro_rules | `(tactic| walk_at "rd") => `(tactic| repeat (first
  | refine ⟨_, rfl, ?_⟩
  | refine ⟨_, _, rfl, rfl, ?_⟩
  | refine ⟨(show scal _ _ = true from rfl), ?_⟩
  | refine ⟨_, _, rfl, .inl (by assumption), ?_⟩
  | refine ⟨_, _, rfl, (by assumption), ?_⟩
  | refine ⟨_, _, _, _, rfl, rfl, (by assumption), at_int (by assumption), ?_⟩
  | refine ⟨_, _, _, _, rfl, rfl, (by assumption), at_ref (by assumption), ?_⟩
  | refine .inl ⟨_, rfl, ?_⟩
  | refine ⟨(show (0 : Int) < _ by first | decide | assumption | omega), ?_⟩
  | refine ⟨(show CDiv _ _ from ⟨by first | decide | assumption | omega, by first | decide | assumption | omega⟩), ?_⟩
  | refine ⟨(show CPow _ _ from ⟨by decide, by decide, by decide⟩), ?_⟩
  | refine ⟨(show CMul _ _ from .inl ⟨by first | decide | omega, by first | decide | omega⟩), ?_⟩
  | refine ⟨(show CMul _ _ from .inr ⟨by first | decide | omega, by first | decide | omega⟩), ?_⟩
  | refine ⟨.inl ⟨rfl, _, (by assumption)⟩, ?_⟩
  | refine ⟨_, _, _, rfl, rfl, (by assumption), (by assumption), ?_⟩))
section
variable {P : Program} {w : World} {K : PySem.W.Frag} {mg : Str → Option Value} {base : Heap}
theorem up_append {H : Hp} {p : Addr} {r : List Int} {t : Int} : upd H p (.lst (r.map V.int ++ [V.int t])) = upd H p (.lst ((r ++ [t]).map V.int)) := by rw [snoc_map]
abbrev s_Lopen : Stmt := topS 15
theorem sc_Lopen : FnScope ["_law_nexts", "_law_source", "_law_k", "_law_node"] ["_law_nexts", "_law_source"] (defScope s_Lopen) := ⟨rfl, rfl, rfl, by decide +kernel, rfl, by decide +kernel, by decide +kernel⟩
def spOpen (K : PySem.W.Frag) : Sp := fun vs H Q _ => ∃ (a : Addr) (xss : List (List Int)) (x : Int), vs = [.ref a, .int x] ∧ LL K H a xss ∧ xss.length ≤ 1000 ∧
  ∀ j : Int, -1 ≤ j → j < (xss.length : Int) → (∀ (i : Nat) (r : List Int), j = (i : Int) → xss[i]? = some r → r.length < 4) → (∀ r, xss = [r] → r.length < 4 → j = 0) → Q (.int j) H
theorem ok_Lopen {f : Addr} {fd : FuncData} (F : Fun K "_law_open" "_law_open" s_Lopen f fd) (T : Txt mg) : FnOk P w K mg base CX0 1 f fd ["_law_nexts", "_law_source"] (spOpen K) := by
  refine F.ok sc_Lopen (fun vs H Q E h => ?_) (fun cdv A outer s H vs Q E hr h => ?_)
  · obtain ⟨a, xss, x, rfl, _⟩ := h
    rfl
  · obtain ⟨a, xss, x, rfl, ⟨as, hL⟩, lx, q⟩ := h
    refine ⟨_, (pss_cons (ps_for PassesOwn.never rfl (pi_range1 (by rfl) T.range_ (pa_cons (pe_callB call_len_seq (by rfl) T.len PySem.boot_len (pa_cons (pv 0) pa_nil)) pa_nil)) (pg_name (i := 2) sc_Lopen.nd rfl (.inl rfl))
      (pss_cons (ps_set (i := 3) sc_Lopen.nd rfl (.inl rfl) (pe_op op_mod (pe_callTy call_int1 (by rfl) T.int_ (by decide +kernel) (pa_cons (pe_op op_add (pv 1) (pv 2)) pa_nil)) (pe_callB call_len_seq (by rfl) T.len PySem.boot_len (pa_cons (pv 0) pa_nil))))
      (pss_one (ps_if (pt_cmpR op_lt (pe_callB call_len_seq (by rfl) T.len PySem.boot_len (pa_cons (pe_ix ix_list (pv 0) (pv 3) (fun _ _ => rfl)) pa_nil)) pe_int (nomark _))
        (pss_one (ps_ret (pv 3)))
        pss_nil))))
    (pss_one (ps_ret (pe_un un_neg pe_int)))), ?_⟩
    have hLl := hL.lst
    walk_at "rd"
    refine ⟨by omega, by rw [map_len, hL.len]; omega, for_rng (n := (as.map V.ref).length) (fun i σ H' => H' = H ∧ ∃ (v2 v3 : Option V), σ = [some (.ref a), some (.int x), v2, v3] ∧ (0 < i → ∀ r, xss = [r] → ¬ r.length < 4))
      ⟨rfl, none, none, rfl, fun h => absurd h (Nat.lt_irrefl 0)⟩ ?_ ?_⟩
    · rintro i σ H' hi ⟨rfl, v2, v3, rfl, hw⟩
      rw [map_len, hL.len] at hi
      have h0 : (0 : Int) < (((as.map V.ref).length : Nat) : Int) := by
        rw [map_len, hL.len]
        omega
      walk_at "rd"
      obtain ⟨j, ej, hj⟩ := nat_of (i := (x + (i : Int)) % (((as.map V.ref).length : Nat) : Int)) (n := xss.length) (Int.emod_nonneg _ (by omega)) (by
        have := Int.emod_lt_of_pos (x + (i : Int)) h0
        rw [map_len, hL.len] at this ⊢
        exact this)
      obtain ⟨r, hr2⟩ := some_at hj
      obtain ⟨p, hp, hP⟩ := hL.at_ hr2
      refine ⟨_, _, _, _, rfl, rfl, hLl, at_refI ej hp, ?_⟩
      walk_at "rd"
      refine ite2 (fun e1 => ?_) (fun e1 => ?_)
      · have h1 := of_decide_eq_true e1
        rw [map_len] at h1
        refine ⟨_, rfl, ?_⟩
        refine q _ (by rw [ej]; omega) (by rw [ej]; omega) (fun i' r' e' hr' => ?_) (fun r' e' _ => ?_)
        · have : i' = j := by
            have : (j : Int) = (i' : Int) := by rw [← ej]; exact e'
            omega
          rw [this, hr2] at hr'
          cases hr'
          omega
        · rw [e'] at hj
          simp at hj
          show (x + (i : Int)) % (((as.map V.ref).length : Nat) : Int) = 0
          rw [ej, hj]
          rfl
      · refine ⟨rfl, _, _, rfl, fun _ r' e' h4 => e1 (decide_eq_true ?_)⟩
        rw [e'] at hj
        simp at hj
        rw [hj, e'] at hr2
        cases hr2
        rw [map_len]
        omega
    · rintro σ H' ⟨rfl, v2, v3, rfl, hw⟩
      walk_at "rd"
      refine q _ (by omega) (by omega) (fun i' r' e' _ => by omega) (fun r' e' h4 => ?_)
      refine absurd h4 (hw ?_ r' e')
      rw [map_len, hL.len, e']
      exact Nat.zero_lt_one

abbrev s_Lexit : Stmt := topS 17
theorem sc_Lexit : FnScope ["_law_nexts", "_law_before", "_law_size", "_law_digit", "_law_node", "_law_target", "_law_source"] ["_law_nexts", "_law_before", "_law_size", "_law_digit"] (defScope s_Lexit) := ⟨rfl, rfl, rfl, by decide +kernel, rfl, by decide +kernel, by decide +kernel⟩
theorem at_anyref {as : List Addr} {z : Int} (h0 : -1 ≤ z) (h1 : z < (as.length : Int)) (hn : 0 < as.length) : ∃ (i : Nat) (p : Addr), as[i]? = some p ∧ atI (as.map V.ref) z = some (.ref p) ∧ (0 ≤ z → z = (i : Int)) := by
  by_cases hz : 0 ≤ z
  · obtain ⟨i, rfl, hi⟩ := nat_of hz h1
    obtain ⟨p, hp⟩ := some_at hi
    exact ⟨i, p, hp, at_ref hp, fun _ => rfl⟩
  · have e : z = -1 := by omega
    subst e
    obtain ⟨p, hp⟩ := some_at (xs := as) (j := as.length - 1) (by omega)
    refine ⟨as.length - 1, p, hp, ?_, fun h => absurd h hz⟩
    unfold atI ixN
    rw [if_neg (by omega), if_pos (by rw [map_len]; omega), Option.bind_some, List.getElem?_map]
    have e2 : ((-1 : Int) + ((as.map V.ref).length : Nat)).toNat = as.length - 1 := by
      rw [map_len]
      omega
    rw [e2, hp]
    rfl
def spExit (K : PySem.W.Frag) : Sp := fun vs H Q _ => ∃ (H0 : Hp) (a : Addr) (ps : List Addr) (xss : List (List Int)) (b s : Nat) (d : Int) (N : Int) (L : Nat), vs = [.ref a, .int (b : Int), .int (s : Int), .int d] ∧ Same H0 H ∧ FL H0 H a ps xss ∧ Net xss N L ∧ L ≤ 100 ∧ 0 ≤ N ∧ b + s ≤ xss.length ∧ 0 < s ∧ xss.length ≤ 1000 ∧
  ∀ (H' : Hp) (yss : List (List Int)) (c : Bool), Same H0 H' → FL H0 H' a ps yss → Net yss N (L + 1) → yss.length = xss.length → (∀ i : Nat, yss[i]? = some [] → xss[i]? = some [] ∧ (s = 1 → i ≠ b)) → Q (.bl c) H'
theorem ok_Lexit {f : Addr} {fd : FuncData} (F : Fun K "_law_exit" "_law_exit" s_Lexit f fd) (T : Txt mg) (o_Lopen : Own P w K mg base 1 "_law_open" ["_law_nexts", "_law_source"] (spOpen K)) : FnOk P w K mg base CX0 2 f fd ["_law_nexts", "_law_before", "_law_size", "_law_digit"] (spExit K) := by
  refine F.ok sc_Lexit (fun vs H Q E h => ?_) (fun cdv A outer s H vs Q E hr h => ?_)
  · obtain ⟨H0, a, ps, xss, b, s, d, N, L, rfl, _⟩ := h
    rfl
  · obtain ⟨H0, a, ps, xss, b, s, d, N, L, rfl, sm, f1, net, hL, hN, hbs, hs0, hx, q⟩ := h
    refine ⟨_, (pss_cons (ps_for PassesOwn.never rfl (pi_range2 (by rfl) T.range_ (pa_cons (pv 1) (pa_cons (pe_op op_add (pv 1) (pv 2)) pa_nil))) (pg_name (i := 4) sc_Lexit.nd rfl (.inl rfl))
      (pss_one (ps_for PassesOwn.never rfl (pi_list (pe_ix ix_list (pv 0) (pv 4) (fun _ _ => rfl))) (pg_name (i := 5) sc_Lexit.nd rfl (.inl rfl))
        (pss_one (ps_if (PW.pt (pw_or (pt_cmpR op_lt (pv 5) (pv 1) (nomark _)) (pw_or1 (pt_cmpR op_ge (pv 5) (pe_op op_add (pv 1) (pv 2)) (nomark _)))))
          (pss_one (ps_ret pe_bl))
          pss_nil)))))
    (pss_cons (ps_set (i := 6) sc_Lexit.nd rfl (.inl rfl) (pe_op op_add (pv 1) (pe_own o_Lopen (hr.mono (by decide)) (by rfl) (pa_cons (pe_slice sl_list (pv 0) (po_some (pv 1)) (po_some (pe_op op_add (pv 1) (pv 2)))) (pa_cons (pv 3) pa_nil)))))
    (pss_cons (ps_expr (pe_bm PySem.F.plainAttrs_list PySem.F.slot_list_append PySem.F.type_list_append mt_append (pe_ix ix_list (pv 0) (pv 6) (fun _ _ => rfl)) (pa_cons (pe_un un_neg pe_int) pa_nil)))
    (pss_one (ps_ret pe_bl))))), ?_⟩
    have hA := il_of (K := K) f1.d
    walk_at "rd"
    refine ⟨_, _, rfl, ⟨by omega, by omega, by omega, by omega⟩, ?_⟩
    have en : ((b : Int) + (s : Int) - (b : Int)).toNat = s := by omega
    rw [en]
    refine for_range (lo := (b : Int)) (n := s) (fun i σ H' => H' = H ∧ ∃ (v4 v5 v6 : Option V), σ = [some (.ref a), some (.int (b : Int)), some (.int (s : Int)), some (.int d), v4, v5, v6]) ⟨rfl, none, none, none, rfl⟩ ?_ ?_
    · rintro i σ H' hi ⟨rfl, v4, v5, v6, rfl⟩
      obtain ⟨r, hr2⟩ := some_at (xs := xss) (j := b + i) (by omega)
      obtain ⟨p, hp, hP⟩ := f1.ll (K := K).at_ hr2
      walk_at "rd"
      refine ⟨⟨_, hP⟩, for_list (K := K) (a := p) (xs := r.map V.int) (fun l σ H'' => H'' = H' ∧ ∃ (v5 : Option V), σ = [some (.ref a), some (.int (b : Int)), some (.int (s : Int)), some (.int d), some (.int ((b : Int) + (i : Int))), v5, v6]) ⟨rfl, _, rfl⟩ (fun _ _ _ _ ⟨e, _⟩ => e ▸ hP) ?_ ?_⟩
      · rintro l y σ H'' hl ⟨rfl, v5, rfl⟩
        obtain ⟨z, rfl, hz⟩ := map_at_int hl
        have rne : r ≠ [] := fun e => by
          rw [e] at hz
          simp at hz
        have out : Q (.bl false) H'' := q H'' xss false sm f1 (net.mono (Int.le_refl _) (Nat.le_succ _)) rfl fun i' h' => ⟨h', fun e1 e2 => ?_⟩
        walk_at "rd"
        refine ite2 (fun e1 => ?_) (fun e1 => ?_)
        · exact out
        · walk_at "rd"
          refine ite2 (fun e2 => ?_) (fun e2 => ?_)
          · exact out
          · exact ⟨rfl, _, rfl⟩
        · have : i' = b + i := by omega
          rw [this, hr2] at h'
          exact rne (Option.some.inj h')
      · rintro σ H'' ⟨rfl, v5, rfl⟩
        exact ⟨rfl, _, _, _, rfl⟩
    · rintro σ H' ⟨rfl, v4, v5, v6, rfl⟩
      walk_at "rd"
      intro p1 n1
      rw [cutI_mid V.ref ps (i := (b : Int)) (j := (b : Int) + (s : Int)) (k := b) (l := b + s) rfl (by omega) (by omega) (by rw [f1.len]; omega), Nat.add_sub_cancel_left]
      have s1 := same_new (o := .lst (((ps.drop b).take s).map V.ref)) n1
      have hp1 := upd_same (H := H') (a := p1) (o := .lst (((ps.drop b).take s).map V.ref))
      generalize upd H' p1 (.lst (((ps.drop b).take s).map V.ref)) = H1 at s1 hp1 ⊢
      have f2 := f1.same s1
      walk_at "rd"
      have hA1 := il_of (K := K) f2.d
      have lts : ((xss.drop b).take s).length = s := by
        rw [List.length_take, List.length_drop]
        omega
      have LL1 : LL K H1 p1 ((xss.drop b).take s) := by
        have h1 : LLat K H1 a ps xss := f2.ll
        refine ⟨(ps.drop b).take s, il_of hp1, by rw [List.length_take, List.length_take, List.length_drop, List.length_drop, f1.len], fun i p xs e1 e2 => ?_⟩
        have hi : i < s := by
          have := lt_at e2
          omega
        rw [List.getElem?_take_of_lt hi, List.getElem?_drop] at e1 e2
        exact h1.row _ _ _ e1 e2
      refine ⟨p1, (xss.drop b).take s, d, rfl, LL1, by omega, fun j j0 j1 _ j3 => ?_⟩
      rw [lts] at j1
      walk_at "rd"
      obtain ⟨i, p, hpi, hat, hi⟩ := at_anyref (as := ps) (z := (b : Int) + j) (by omega) (by rw [f1.len]; omega) (by rw [f1.len]; omega)
      obtain ⟨r, hr2, hP⟩ := (f2.ll (K := K)).row_at hpi
      have hpr := (f2.row i p r hpi hr2).2.2
      refine ⟨_, _, _, _, rfl, rfl, hA1, hat, ?_⟩
      have hrl : r.length ≤ L := net.few r (List.mem_of_getElem? hr2)
      have hsz : (r.map V.int).length < sizeLine := szl (by rw [map_len]; omega)
      walk_at "rd"
      rw [snoc_map]
      have s2 : Same H0 (upd H1 p (.lst ((r ++ [-1]).map V.int))) := same_mut (sm.trans s1) (f2.row i p r hpi hr2).1
      refine q _ (xss.set i (r ++ [-1])) true s2 (f2.set hpi) (net.set hr2 (Nat.le_succ _) (by omega) (by omega)) (by rw [List.length_set]) fun i' h' => ?_
      obtain ⟨h1, h2⟩ := set_empty h'
      refine ⟨h1, fun e1 e2 => ?_⟩
      subst e1 e2
      have e3 : (xss.drop i').take 1 = [[]] := by
        have hl := lt_at h1
        rw [List.drop_eq_getElem_cons hl]
        have : xss[i'] = [] := (List.getElem?_eq_some_iff.mp h1).2
        rw [this]
        rfl
      have e4 := j3 [] e3 (by decide)
      have e5 := hi (by omega)
      omega
end
end K35
namespace K35
open PySem PySem.Spec PyProof.Rows L2
local macro_rules | `(tactic| walk_at "rd") => `(tactic| repeat (first
  | refine ⟨_, rfl, ?_⟩
  | refine ⟨_, _, rfl, rfl, ?_⟩
  | refine ⟨(show scal _ _ = true from rfl), ?_⟩
  | refine ⟨_, _, rfl, .inl (by assumption), ?_⟩
  | refine ⟨_, _, rfl, (by assumption), ?_⟩
  | refine ⟨_, _, _, _, rfl, rfl, (by assumption), at_int (by assumption), ?_⟩
  | refine ⟨_, _, _, _, rfl, rfl, (by assumption), at_ref (by assumption), ?_⟩
  | refine .inl ⟨_, rfl, ?_⟩
  | refine ⟨(show (0 : Int) < _ by first | decide | assumption | omega), ?_⟩
  | refine ⟨(show CDiv _ _ from ⟨by first | decide | assumption | omega, by first | decide | assumption | omega⟩), ?_⟩
  | refine ⟨(show CPow _ _ from ⟨by decide, by decide, by decide⟩), ?_⟩
  | refine ⟨(show CMul _ _ from .inl ⟨by first | decide | omega, by first | decide | omega⟩), ?_⟩
  | refine ⟨(show CMul _ _ from .inr ⟨by first | decide | omega, by first | decide | omega⟩), ?_⟩
  | refine ⟨.inl ⟨rfl, _, (by assumption)⟩, ?_⟩
  | refine ⟨_, _, _, rfl, rfl, (by assumption), (by assumption), ?_⟩))
section
variable {P : Program} {w : World} {K : PySem.W.Frag} {mg : Str → Option Value} {base : Heap}
abbrev s_Lblock : Stmt := topS 16
theorem sc_Lblock : FnScope ["_law_nexts", "_law_digit", "_law_row", "_law_first", "_law_size", "_law_before", "_law_place", "_law_k", "_law_source"] ["_law_nexts", "_law_digit", "_law_row", "_law_first"] (defScope s_Lblock) := ⟨rfl, rfl, rfl, by decide +kernel, rfl, by decide +kernel, by decide +kernel⟩
def spBlock (K : PySem.W.Frag) : Sp := fun vs H Q _ => ∃ (H0 : Hp) (a b : Addr) (ps : List Addr) (xss : List (List Int)) (row : List Int) (d : Int) (fi : Nat), vs = [.ref a, .int d, .ref b, .int (fi : Int)] ∧ Same H0 H ∧ FL H0 H a ps xss ∧ IL K H0 b row ∧ fi + 4 ≤ row.length ∧ Net xss (xss.length : Int) 4 ∧ xss.length ≤ 100 ∧
  ∀ (H' : Hp) (qs : List Addr) (yss : List (List Int)) (s : Nat), Same H0 H' → FL H0 H' a qs yss → 1 ≤ s → s ≤ 13 → yss.length = xss.length + s → Net yss (yss.length : Int) 4 → (∀ i : Nat, yss[i]? = some [] → xss[i]? = some [] ∨ (s = 1 ∧ i = xss.length)) → Q (.int (s : Int)) H'
theorem ok_Lblock {f : Addr} {fd : FuncData} (F : Fun K "_law_block" "_law_block" s_Lblock f fd) (T : Txt mg) (o_Lopen : Own P w K mg base 1 "_law_open" ["_law_nexts", "_law_source"] (spOpen K)) : FnOk P w K mg base CX0 2 f fd ["_law_nexts", "_law_digit", "_law_row", "_law_first"] (spBlock K) := by
  refine F.ok sc_Lblock (fun vs H Q E h => ?_) (fun cdv A outer s H vs Q E hr h => ?_)
  · obtain ⟨H0, a, b, ps, xss, row, d, fi, rfl, _⟩ := h
    rfl
  · obtain ⟨H0, a, b, ps, xss, row, d, fi, rfl, sm, f1, hB, hfi, net, lx, q⟩ := h
    refine ⟨_, (pss_cons (ps_set (i := 4) sc_Lblock.nd rfl (.inl rfl) (pe_ix ix_list (pe_lst (pa_cons pe_int (pa_cons pe_int (pa_cons pe_int (pa_cons pe_int (pa_cons pe_int (pa_cons pe_int (pa_cons pe_int (pa_cons pe_int pa_nil))))))))) (pe_op op_mod (pe_callTy call_int1 (by rfl) T.int_ (by decide +kernel) (pa_cons (pv 1) pa_nil)) pe_int) (fun _ _ => rfl)))
    (Evl.pss_cut (ps_if (pt_cmpR op_eq (pe_op op_mod (pe_callTy call_int1 (by rfl) T.int_ (by decide +kernel) (pa_cons (pe_op op_fdiv (pv 1) pe_int) pa_nil)) pe_int) pe_int (nomark _))
      (pss_one (ps_set (i := 4) sc_Lblock.nd rfl (.inl rfl) pe_int))
      pss_nil)
    (pss_cons (ps_set (i := 5) sc_Lblock.nd rfl (.inl rfl) (pe_callB call_len_seq (by rfl) T.len PySem.boot_len (pa_cons (pv 0) pa_nil)))
    (pss_cons (ps_for PassesOwn.never rfl (pi_range1 (by rfl) T.range_ (pa_cons (pv 4) pa_nil)) (pg_name (i := 6) sc_Lblock.nd rfl (.inl rfl))
      (pss_one (ps_if (PW.pt (pw_or (pt_cmpR op_gt (pv 4) pe_int (nomark _)) (pw_or1 (pt_cmpR op_eq (pe_op op_mod (pe_callTy call_int1 (by rfl) T.int_ (by decide +kernel) (pa_cons (pe_op op_fdiv (pv 1) pe_int) pa_nil)) pe_int) pe_int (nomark _)))))
        (pss_one (ps_expr (pe_bm PySem.F.plainAttrs_list PySem.F.slot_list_append PySem.F.type_list_append mt_append (pv 0) (pa_cons (pe_lst (pa_cons (pe_op op_add (pv 5) (pe_op op_mod (pe_callTy call_int1 (by rfl) T.int_ (by decide +kernel) (pa_cons (pe_op op_add (pv 6) pe_int) pa_nil)) (pv 4))) pa_nil)) pa_nil))))
        (pss_one (ps_expr (pe_bm PySem.F.plainAttrs_list PySem.F.slot_list_append PySem.F.type_list_append mt_append (pv 0) (pa_cons (pe_lst pa_nil) pa_nil)))))))
    (Evl.pss_cut (ps_if (pt_cmpR op_gt (pv 5) pe_int (nomark _))
      (pss_one (ps_for PassesOwn.never rfl (pi_range1 (by rfl) T.range_ (pa_cons (pe_op op_add pe_int (pe_op op_mod (pe_callTy call_int1 (by rfl) T.int_ (by decide +kernel) (pa_cons (pe_op op_fdiv (pv 1) pe_int) pa_nil)) pe_int)) pa_nil)) (pg_name (i := 7) sc_Lblock.nd rfl (.inl rfl))
        (pss_cons (ps_set (i := 8) sc_Lblock.nd rfl (.inl rfl) (pe_own o_Lopen (hr.mono (by decide)) (by rfl) (pa_cons (pe_slice sl_list (pv 0) po_none (po_some (pv 5))) (pa_cons (pe_ix ix_list (pv 2) (pe_op op_add (pv 3) (pv 7)) (fun _ _ => rfl)) pa_nil))))
        (pss_one (ps_if (pt_cmpR op_ge (pv 8) pe_int (nomark _))
          (pss_one (ps_expr (pe_bm PySem.F.plainAttrs_list PySem.F.slot_list_append PySem.F.type_list_append mt_append (pe_ix ix_list (pv 0) (pv 8) (fun _ _ => rfl)) (pa_cons (pe_op op_add (pv 5) (pe_op op_mod (pe_callTy call_int1 (by rfl) T.int_ (by decide +kernel) (pa_cons (pe_op op_fdiv (pe_ix ix_list (pv 2) (pe_op op_add (pv 3) (pv 7)) (fun _ _ => rfl)) pe_int) pa_nil)) (pv 4))) pa_nil))))
          pss_nil)))))
      pss_nil)
    (pss_one (ps_ret (pv 4)))))))), ?_⟩
    refine ⟨sz (by decide), fun l0 n0 => ?_⟩
    have s1 := same_new (o := .lst [V.int 1, V.int 2, V.int 3, V.int 1, V.int 4, V.int 2, V.int 1, V.int 3]) n0
    have hl0 : SqL K (upd H l0 (.lst [V.int 1, V.int 2, V.int 3, V.int 1, V.int 4, V.int 2, V.int 1, V.int 3])) l0 (([1, 2, 3, 1, 4, 2, 1, 3] : List Int).map V.int) := il_of upd_same
    have f2 := f1.same s1
    have sm1 := sm.trans s1
    generalize upd H l0 (.lst [V.int 1, V.int 2, V.int 3, V.int 1, V.int 4, V.int 2, V.int 1, V.int 3]) = H1 at s1 hl0 f2 sm1 ⊢
    walk_at "rd"
    obtain ⟨z, hz1, hz⟩ := at_some (ns := ([1, 2, 3, 1, 4, 2, 1, 3] : List Int)) (i := d % 8) (by omega) (by show d % 8 < 8; omega)
    have hz2 : 1 ≤ z ∧ z ≤ 4 := by
      simp at hz1
      omega
    refine ⟨_, _, _, _, rfl, rfl, hl0, hz, ?_⟩
    refine ⟨fun σ' H' => H' = H1 ∧ ∃ n : Nat, σ' = [some (.ref a), some (.int d), some (.ref b), some (.int (fi : Int)), some (.int (n : Int)), none, none, none, none] ∧ 1 ≤ n ∧ n ≤ 13, ?_, ?_⟩
    · walk_at "rd"
      refine ite2 (fun e1 => ?_) (fun e1 => ?_)
      · exact ⟨rfl, 13, rfl, by omega, by omega⟩
      · have e5 : (z.toNat : Int) = z := Int.toNat_of_nonneg (by omega)
        exact ⟨rfl, z.toNat, by rw [e5]; rfl, by omega, by omega⟩
    rintro σ' H' ⟨rfl, s, rfl, hs1, hs13⟩
    have hA := il_of (K := K) f2.d
    walk_at "rd"
    refine ⟨by omega, by omega, for_rng (n := s) (fun i σ H2 => Same H0 H2 ∧ ∃ (qs : List Addr) (yss : List (List Int)) (v6 : Option V), σ = [some (.ref a), some (.int d), some (.ref b), some (.int (fi : Int)), some (.int (s : Int)), some (.int (xss.length : Int)), v6, none, none] ∧
        FL H0 H2 a qs yss ∧ yss.length = xss.length + i ∧ Net yss ((xss.length + s : Nat) : Int) 4 ∧ ∀ i' : Nat, yss[i']? = some [] → xss[i']? = some [] ∨ (s = 1 ∧ xss.length ≤ i'))
      ⟨sm1, ps, xss, none, by rw [map_len, f2.len]; rfl, f2, rfl, net.mono (by omega) (Nat.le_refl _), fun i' h => .inl h⟩ ?_ ?_⟩
    · rintro i σ H2 hi ⟨sm2, qs, yss, v6, rfl, f3, hl, net3, emp⟩
      have hA3 := il_of (K := K) f3.d
      have hsz : (qs.map V.ref).length < sizeLine := szl (by rw [map_len, f3.len]; omega)
      have fin : ∀ (r : List Int) (p : Addr), H2 p = none → r.length ≤ 4 → (∀ t ∈ r, -1 ≤ t ∧ t < ((xss.length + s : Nat) : Int)) → (r = [] → s = 1) →
          Same H0 (upd (upd H2 p (.lst (r.map V.int))) a (.lst (qs.map V.ref ++ [V.ref p]))) ∧ ∃ (us : List Addr) (wss : List (List Int)) (v6 : Option V), [some (V.ref a), some (V.int d), some (V.ref b), some (V.int (fi : Int)), some (V.int (s : Int)), some (V.int (xss.length : Int)), some (V.int (i : Int)), none, none] = [some (.ref a), some (.int d), some (.ref b), some (.int (fi : Int)), some (.int (s : Int)), some (.int (xss.length : Int)), v6, none, none] ∧
            FL H0 (upd (upd H2 p (.lst (r.map V.int))) a (.lst (qs.map V.ref ++ [V.ref p]))) a us wss ∧ wss.length = xss.length + (i + 1) ∧ Net wss ((xss.length + s : Nat) : Int) 4 ∧ ∀ i' : Nat, wss[i']? = some [] → xss[i']? = some [] ∨ (s = 1 ∧ xss.length ≤ i') := by
        intro r p np h4 ht he
        refine ⟨same_mut (sm2.trans (same_new np)) f3.d0, qs ++ [p], yss ++ [r], _, rfl, f3.push sm2 (same_new np) np upd_same, by rw [List.length_append, List.length_singleton, hl]; omega, net3.push h4 ht, fun i' h' => ?_⟩
        rcases at_snoc h' with h | ⟨h, h2⟩
        · exact emp i' h
        · exact .inr ⟨he h2, by omega⟩
      walk_at "rd"
      have hm : 0 ≤ ((i : Int) + 1) % (s : Int) ∧ ((i : Int) + 1) % (s : Int) < (s : Int) := ⟨Int.emod_nonneg _ (by omega), Int.emod_lt_of_pos _ (by omega)⟩
      refine (fun (yes : True → _) => ite2 (fun e1 => yes trivial) (fun e1 => ?_)) (fun _ => ?_)
      · walk_at "rd"
        refine ite2 (fun e2 => yes trivial) (fun e2 => ?_)
        walk_at "rd"
        refine ⟨Nat.zero_le _, fun p np => ?_⟩
        have h3 := same_new (o := .lst []) np _ _ f3.d
        refine ⟨a, _, _, rfl, rfl, h3, hsz, ?_⟩
        refine fin [] p np (by decide) (fun t h => by simp at h) fun _ => ?_
        refine Classical.byContradiction fun n => e1 (decide_eq_true ?_)
        omega
      · walk_at "rd"
        refine ⟨sz (by show 1 ≤ 100000; decide), fun p np => ?_⟩
        have h3 := same_new (o := .lst [V.int ((xss.length : Int) + ((i : Int) + 1) % (s : Int))]) np _ _ f3.d
        refine ⟨a, _, _, rfl, rfl, h3, hsz, ?_⟩
        refine fin [(xss.length : Int) + ((i : Int) + 1) % (s : Int)] p np (by show 1 ≤ 4; decide) (fun t h => ?_) (fun h => by simp at h)
        rw [List.mem_singleton] at h
        rw [h]
        omega
    · rintro σ H2 ⟨sm2, qs, yss, v6, rfl, f3, hl, net3, emp⟩
      have emp2 : ∀ i' : Nat, yss[i']? = some [] → xss[i']? = some [] ∨ (s = 1 ∧ i' = xss.length) := fun i' h => by
        rcases emp i' h with g | ⟨g1, g2⟩
        · exact .inl g
        · have := lt_at h
          exact .inr ⟨g1, by omega⟩
      refine ⟨fun σ' H3 => Same H0 H3 ∧ ∃ (zss : List (List Int)) (v7 v8 : Option V), σ' = [some (.ref a), some (.int d), some (.ref b), some (.int (fi : Int)), some (.int (s : Int)), some (.int (xss.length : Int)), v6, v7, v8] ∧
        FL H0 H3 a qs zss ∧ zss.length = xss.length + s ∧ Net zss ((xss.length + s : Nat) : Int) 4 ∧ ∀ i' : Nat, zss[i']? = some [] → xss[i']? = some [] ∨ (s = 1 ∧ i' = xss.length), ?_, ?_⟩
      · walk_at "rd"
        refine ite2 (fun e1 => ?_) (fun e1 => ?_)
        · walk_at "rd"
          have h4 : 0 ≤ d / 384 % 4 ∧ d / 384 % 4 < 4 := by omega
          refine ⟨by omega, by omega, for_rng (n := (1 + d / 384 % 4).toNat) (fun k σ' H3 => Same H0 H3 ∧ ∃ (zss : List (List Int)) (v7 v8 : Option V), σ' = [some (.ref a), some (.int d), some (.ref b), some (.int (fi : Int)), some (.int (s : Int)), some (.int (xss.length : Int)), v6, v7, v8] ∧
              FL H0 H3 a qs zss ∧ zss.length = xss.length + s ∧ Net zss ((xss.length + s : Nat) : Int) 4 ∧ ∀ i' : Nat, zss[i']? = some [] → xss[i']? = some [] ∨ (s = 1 ∧ i' = xss.length))
            ⟨sm2, yss, none, none, rfl, f3, hl, net3, emp2⟩ ?_ ?_⟩
          · rintro k σ H3 hk ⟨sm3, zss, v7, v8, rfl, f4, hl4, net4, emp4⟩
            have hA4 := il_of (K := K) f4.d
            walk_at "rd"
            intro p1 n1
            rw [cutI_take V.ref qs (i := (xss.length : Int)) (k := xss.length) rfl]
            have s4 := same_new (o := .lst ((qs.take xss.length).map V.ref)) n1
            have hp1 := upd_same (H := H3) (a := p1) (o := .lst ((qs.take xss.length).map V.ref))
            generalize upd H3 p1 (.lst ((qs.take xss.length).map V.ref)) = H4 at s4 hp1 ⊢
            have f5 := f4.same s4
            have hB4 := (sm3.trans s4).seq hB
            have hA5 := il_of (K := K) f5.d
            obtain ⟨x, hx⟩ := some_at (xs := row) (j := fi + k) (by omega)
            walk_at "rd"
            refine ⟨p1, zss.take xss.length, x, rfl, ⟨_, (f5.ll).take _ (il_of hp1)⟩, by rw [List.length_take]; omega, fun j j0 j1 j2 _ => ?_⟩
            have lt : (zss.take xss.length).length = xss.length := by
              rw [List.length_take]
              omega
            rw [lt] at j1
            walk_at "rd"
            refine ite2 (fun e2 => ?_) (fun e2 => ?_)
            · have hj := of_decide_eq_true e2
              obtain ⟨i, rfl, hi⟩ := nat_of hj j1
              obtain ⟨r, hr2⟩ := some_at (xs := zss) (j := i) (by omega)
              have hr4 := j2 i r rfl (by rw [List.getElem?_take_of_lt hi]; exact hr2)
              obtain ⟨p, hp, hP⟩ := (f5.ll (K := K)).at_ hr2
              have hpr := (f5.row i p r hp hr2).2.2
              have hsz : (r.map V.int).length < sizeLine := szl (by rw [map_len]; omega)
              have hm : 0 ≤ x / 60 % (s : Int) ∧ x / 60 % (s : Int) < (s : Int) := ⟨Int.emod_nonneg _ (by omega), Int.emod_lt_of_pos _ (by omega)⟩
              walk_at "rd"
              rw [snoc_map]
              refine ⟨same_mut (sm3.trans s4) (f5.row i p r hp hr2).1, zss.set i (r ++ [(xss.length : Int) + x / 60 % (s : Int)]), _, _, rfl, f5.set hp, by rw [List.length_set]; exact hl4, net4.set hr2 (Nat.le_refl _) hr4 (by omega), fun i' h' => emp4 i' (set_empty h').1⟩
            · exact ⟨sm3.trans s4, zss, _, _, rfl, f5, hl4, net4, emp4⟩
          · rintro σ H3 h
            exact h
        · exact ⟨sm2, yss, none, none, rfl, f3, hl, net3, emp2⟩
      · rintro σ' H3 ⟨sm3, zss, v7, v8, rfl, f4, hl4, net4, emp4⟩
        exact ⟨_, rfl, q H3 qs zss s sm3 f4 hs1 hs13 hl4 (by rw [hl4]; exact net4) emp4⟩
end
end K35
namespace K35
open PySem PySem.Spec PyProof.Rows L2
local macro_rules | `(tactic| walk_at "rd") => `(tactic| repeat (first
  | refine ⟨_, rfl, ?_⟩
  | refine ⟨_, _, rfl, rfl, ?_⟩
  | refine ⟨(show scal _ _ = true from rfl), ?_⟩
  | refine ⟨_, _, rfl, .inl (by assumption), ?_⟩
  | refine ⟨_, _, rfl, (by assumption), ?_⟩
  | refine ⟨_, _, _, _, rfl, rfl, (by assumption), at_int (by assumption), ?_⟩
  | refine ⟨_, _, _, _, rfl, rfl, (by assumption), at_ref (by assumption), ?_⟩
  | refine .inl ⟨_, rfl, ?_⟩
  | refine ⟨(show (0 : Int) < _ by first | decide | assumption | omega), ?_⟩
  | refine ⟨(show CDiv _ _ from ⟨by first | decide | assumption | omega, by first | decide | assumption | omega⟩), ?_⟩
  | refine ⟨(show CPow _ _ from ⟨by decide, by decide, by decide⟩), ?_⟩
  | refine ⟨(show CMul _ _ from .inl ⟨by first | decide | omega, by first | decide | omega⟩), ?_⟩
  | refine ⟨(show CMul _ _ from .inr ⟨by first | decide | omega, by first | decide | omega⟩), ?_⟩
  | refine ⟨.inl ⟨rfl, _, (by assumption)⟩, ?_⟩
  | refine ⟨_, _, _, rfl, rfl, (by assumption), (by assumption), ?_⟩))
/-- a node's row: a word, a price, a tuple of successors -/
def RowOk (H : Hp) (n : Nat) (L : Nat) (q : Addr) : Prop := ∃ (u : Str) (c : Int) (t : Addr) (ts : List Int), H q = some (.tup [.str u, .int c, .ref t]) ∧ H t = some (.tup (ts.map V.int)) ∧ ts ≠ [] ∧ ts.length ≤ L ∧ ∀ x ∈ ts, -1 ≤ x ∧ x < (n : Int)
def RowsAt (H : Hp) (p : Addr) (n L : Nat) : Prop := ∃ qs : List Addr, H p = some (.lst (qs.map V.ref)) ∧ qs.length = n ∧ ∀ q ∈ qs, RowOk H n L q
theorem RowOk.same {H H' : Hp} {n L : Nat} {q : Addr} (e : Same H H') (h : RowOk H n L q) : RowOk H' n L q := by
  obtain ⟨u, c, t, ts, h1, h2, h3⟩ := h
  exact ⟨u, c, t, ts, e _ _ h1, e _ _ h2, h3⟩
theorem RowsAt.same {H H' : Hp} {p : Addr} {n L : Nat} (e : Same H H') (h : RowsAt H p n L) : RowsAt H' p n L := by
  obtain ⟨qs, h1, h2, h3⟩ := h
  exact ⟨qs, e _ _ h1, h2, fun q hq => (h3 q hq).same e⟩
/-- the number that a pair bears at its second place -/
def num (H : Hp) : V → Int
  | .ref t => match H t with
    | some (.tup [_, .int j]) => j
    | _ => 0
  | _ => 0
theorem num_at {H : Hp} {t : Addr} {c j : Int} (h : H t = some (.tup [.int c, .int j])) : num H (.ref t) = j := by
  show (match H t with
    | some (.tup [_, .int j]) => j
    | _ => 0) = j
  rw [h]
section
variable {P : Program} {w : World} {K : PySem.W.Frag} {mg : Str → Option Value} {base : Heap}
abbrev s_Lnumbered : Stmt := topS 19
theorem sc_Lnumbered : FnScope ["_law_nexts", "_law_row", "_law_size", "_law_keys", "_law_order", "_law_rows", "_law_node", "_law_turn", "_law_turned", "_law_named", "_law_target", "_law_k", "_law_key"] ["_law_nexts", "_law_row"] (defScope s_Lnumbered) := ⟨rfl, rfl, rfl, by decide +kernel, rfl, by decide +kernel, by decide +kernel⟩
def spNum (K : PySem.W.Frag) : Sp := fun vs H Q _ => ∃ (a b : Addr) (xss : List (List Int)) (row : List Int), vs = [.ref a, .ref b] ∧ LL K H a xss ∧ IL K H b row ∧ row.length = 3 * xss.length ∧ 0 < xss.length ∧ xss.length ≤ 100 ∧ Net xss (xss.length : Int) 10 ∧ (∀ i : Nat, xss[i]? ≠ some []) ∧
  ∀ (H' : Hp) (p : Addr), Same H H' → H p = none → RowsAt H' p xss.length 10 → Q (.ref p) H'
theorem ok_Lnumbered {f : Addr} {fd : FuncData} (F : Fun K "_law_numbered" "_law_numbered" s_Lnumbered f fd) (T : Txt mg) (o_Lword : Own P w K mg base 1 "_law_word" ["_law_digit"] (spWord)) (o_Lprice : Own P w K mg base 1 "_law_price" ["_law_digit"] (spPrice)) : FnOk P w K mg base CX0 2 f fd ["_law_nexts", "_law_row"] (spNum K) := by
  refine F.ok sc_Lnumbered (fun vs H Q E h => ?_) (fun cdv A outer s H vs Q E hr h => ?_)
  · obtain ⟨a, b, xss, row, rfl, _⟩ := h
    rfl
  · obtain ⟨a, b, xss, row, rfl, ⟨as, hL⟩, hB, lrow, l0, l1, net, ne, q⟩ := h
    refine ⟨_, (pss_cons (ps_set (i := 2) sc_Lnumbered.nd rfl (.inl rfl) (pe_callB call_len_seq (by rfl) T.len PySem.boot_len (pa_cons (pv 0) pa_nil)))
    (pss_cons (ps_set (i := 3) sc_Lnumbered.nd rfl (.inl rfl) (pe_callB cr_sortedP (by rfl) T.sorted_ (by decide +kernel) (pa_cons (pe_lc (own := [("_law_k", 11)]) (g := gName 11) (by rfl) sc_Lnumbered.nd (pi_range2 (by rfl) T.range_ (pa_cons pe_int (pa_cons (pv 2) pa_nil))) (blkOk_by (own := [("_law_k", 11)]) (N := ["_law_nexts", "_law_row", "_law_size", "_law_keys", "_law_order", "_law_rows", "_law_node", "_law_turn", "_law_turned", "_law_named", "_law_target", "_law_k", "_law_key"]) (sc := defScope s_Lnumbered) (by decide +kernel)) (fun _ _ _ _ _ => pg_name (i := 11) sc_Lnumbered.nd rfl (Or.inl rfl)) (fun _ _ _ _ _ => pts_nil) (fun _ _ _ _ _ => (pe_tup (pa_cons (pe_op op_mod (pe_callTy call_int1 (by rfl) T.int_ (by decide +kernel) (pa_cons (pe_ix (r := rIxL K) ix_list (pv 1) (pv 11) (fun _ _ => rfl)) pa_nil)) pe_int) (pa_cons (pv 11) pa_nil))))) pa_nil)))
    (pss_cons (ps_set (i := 4) sc_Lnumbered.nd rfl (.inl rfl) (pe_op op_cat (pe_lst (pa_cons pe_int pa_nil)) (pe_lc (own := [("_law_key", 12)]) (g := gName 12) (by rfl) sc_Lnumbered.nd (pi_list (pv 3)) (blkOk_by (own := [("_law_key", 12)]) (N := ["_law_nexts", "_law_row", "_law_size", "_law_keys", "_law_order", "_law_rows", "_law_node", "_law_turn", "_law_turned", "_law_named", "_law_target", "_law_k", "_law_key"]) (sc := defScope s_Lnumbered) (by decide +kernel)) (fun _ _ _ _ _ => pg_name (i := 12) sc_Lnumbered.nd rfl (Or.inl rfl)) (fun _ _ _ _ _ => pts_nil) (fun _ _ _ _ _ => (pe_ix (r := rIxT K) ix_tup (pv 12) pe_int (fun _ _ => rfl))))))
    (pss_cons (ps_set (i := 5) sc_Lnumbered.nd rfl (.inl rfl) (pe_lst pa_nil))
    (pss_cons (ps_for PassesOwn.never rfl (pi_list (pv 4)) (pg_name (i := 6) sc_Lnumbered.nd rfl (.inl rfl))
      (pss_cons (ps_set (i := 7) sc_Lnumbered.nd rfl (.inl rfl) (pe_op op_mod (pe_callTy call_int1 (by rfl) T.int_ (by decide +kernel) (pa_cons (pe_ix ix_list (pv 1) (pe_op op_add (pv 2) (pv 6)) (fun _ _ => rfl)) pa_nil)) (pe_callB call_len_seq (by rfl) T.len PySem.boot_len (pa_cons (pe_ix ix_list (pv 0) (pv 6) (fun _ _ => rfl)) pa_nil))))
      (pss_cons (ps_set (i := 8) sc_Lnumbered.nd rfl (.inl rfl) (pe_op op_cat (pe_slice sl_list (pe_ix ix_list (pv 0) (pv 6) (fun _ _ => rfl)) (po_some (pv 7)) po_none) (pe_slice sl_list (pe_ix ix_list (pv 0) (pv 6) (fun _ _ => rfl)) po_none (po_some (pv 7)))))
      (pss_cons (ps_set (i := 9) sc_Lnumbered.nd rfl (.inl rfl) (pe_lst pa_nil))
      (pss_cons (ps_for PassesOwn.never rfl (pi_list (pv 8)) (pg_name (i := 10) sc_Lnumbered.nd rfl (.inl rfl))
        (pss_one (ps_if (pt_cmpR op_lt (pv 10) pe_int (nomark _))
          (pss_one (ps_expr (pe_bm PySem.F.plainAttrs_list PySem.F.slot_list_append PySem.F.type_list_append mt_append (pv 9) (pa_cons (pe_un un_neg pe_int) pa_nil))))
          (pss_one (ps_expr (pe_bm PySem.F.plainAttrs_list PySem.F.slot_list_append PySem.F.type_list_append mt_append (pv 9) (pa_cons (pe_bm PySem.F.plainAttrs_list PySem.F.slot_list_index PySem.F.type_list_index mt_index (pv 4) (pa_cons (pv 10) pa_nil)) pa_nil)))))))
      (pss_one (ps_expr (pe_bm PySem.F.plainAttrs_list PySem.F.slot_list_append PySem.F.type_list_append mt_append (pv 5) (pa_cons (pe_tup (pa_cons (pe_own o_Lword (hr.mono (by decide)) (by rfl) (pa_cons (pe_ix ix_list (pv 1) (pe_op op_add (pe_op op_mul pe_int (pv 2)) (pv 6)) (fun _ _ => rfl)) pa_nil)) (pa_cons (pe_own o_Lprice (hr.mono (by decide)) (by rfl) (pa_cons (pe_ix ix_list (pv 1) (pv 6) (fun _ _ => rfl)) pa_nil)) (pa_cons (pe_callTy call_tuple_of (by rfl) T.tuple_ (by decide +kernel) (pa_cons (pv 9) pa_nil)) pa_nil)))) pa_nil)))))))))
    (pss_one (ps_ret (pv 5)))))))), ?_⟩
    have hLl := hL.lst
    have el : (as.map V.ref).length = xss.length := by rw [map_len, hL.len]
    walk_at "rd"
    refine ⟨1, _, rfl, ⟨by omega, by omega, by omega, by omega⟩, ?_⟩
    have en : (((as.map V.ref).length : Int) - 1).toNat = xss.length - 1 := by omega
    rw [en]
    refine fun D nD => lc_range (lo := 1) (n := xss.length - 1) (fun i H' => Same H H' ∧ ∃ ts : List Addr, ts.length = i ∧ H' D = some (.lst (ts.map V.ref)) ∧ ∀ (l : Nat) (t : Addr), ts[l]? = some t → ∃ c, H' t = some (.tup [.int c, .int (1 + (l : Int))]))
      ⟨same_new nD, [], rfl, upd_same, fun l t h => by simp at h⟩ ?_ ?_
    · rintro i H' hi ⟨sm, ts, hl, hD, hts⟩
      obtain ⟨x, hx⟩ := some_at (xs := row) (j := 1 + i) (by omega)
      have hB2 := sm.seq hB
      refine ⟨rfl, ?_⟩
      walk_at "rd"
      refine ⟨sz (by show 2 ≤ 100000; decide), fun p np => ?_⟩
      have pD : p ≠ D := (ne_of_none hD np).symm
      have s2 := same_new (o := .tup [V.int (x % 97), V.int (1 + (i : Int))]) np
      refine ⟨_, s2 _ _ hD, szl (by rw [map_len]; omega), same_mut (sm.trans s2) nD, ts ++ [p], by rw [List.length_append, List.length_singleton, hl], by rw [upd_same, List.map_append]; rfl, fun l t h => ?_⟩
      rcases at_snoc h with g | ⟨g1, g2⟩
      · obtain ⟨c, hc⟩ := hts l t g
        refine ⟨c, ?_⟩
        rw [upd_ne (ne_of hc hD (by intro z; cases z))]
        exact s2 _ _ hc
      · subst g2
        refine ⟨x % 97, ?_⟩
        rw [upd_ne pD, upd_same, g1, hl]
    · rintro H1 ⟨s1, ts, hl, hD, hts⟩
      refine ⟨D, _, rfl, il_of hD, fun x hx => ?_, fun ys p1 hperm n1 => ?_⟩
      · obtain ⟨t, ht, rfl⟩ := List.mem_map.mp hx
        obtain ⟨l, hl2⟩ := List.mem_iff_getElem?.mp ht
        obtain ⟨c, hc⟩ := hts l t hl2
        exact ⟨t, c, _, rfl, hc⟩
      have s2 := same_new (o := .lst ys) n1
      have hp1 := upd_same (H := H1) (a := p1) (o := .lst ys)
      have hts2 : ∀ (l : Nat) (t : Addr), ts[l]? = some t → ∃ c, (upd H1 p1 (.lst ys)) t = some (.tup [.int c, .int (1 + (l : Int))]) := fun l t h => by
        obtain ⟨c, hc⟩ := hts l t h
        exact ⟨c, s2 _ _ hc⟩
      generalize upd H1 p1 (.lst ys) = H2 at s2 hp1 hts2 ⊢
      refine ⟨sz (by decide), fun p2 n2 => ?_⟩
      have s3 := same_new (o := .lst [V.int 0]) n2
      have hp2 := upd_same (H := H2) (a := p2) (o := .lst [V.int 0])
      have hp1' := s3 _ _ hp1
      generalize upd H2 p2 (.lst [V.int 0]) = H3 at s3 hp2 hp1' ⊢
      have hY := il_of (K := K) hp1'
      walk_at "rd"
      refine ⟨⟨_, hY⟩, fun D2 nD2 => lc_list (K := K) (a := p1) (xs := ys) (fun i H' => Same H3 H' ∧ H' D2 = some (.lst (((ys.take i).map (num H2)).map V.int)))
        ⟨same_new nD2, upd_same⟩ (fun i H' _ ⟨e, _⟩ => e.seq hY) ?_ ?_⟩
      · rintro i y H' hi ⟨sm, hD2⟩
        have hy : y ∈ ts.map V.ref := hperm.mem_iff.mp (List.mem_of_getElem? hi)
        obtain ⟨t, ht, rfl⟩ := List.mem_map.mp hy
        obtain ⟨l, hl2⟩ := List.mem_iff_getElem?.mp ht
        obtain ⟨c, hc⟩ := hts2 l t hl2
        have hc3 := sm _ _ (s3 _ _ hc)
        refine ⟨rfl, ?_⟩
        refine ⟨_, rfl, t, _, 1, .int (1 + (l : Int)), rfl, rfl, SqT.of hc3, rfl, ?_⟩
        refine ⟨_, hD2, szl ?_, same_mut sm nD2, ?_⟩
        · rw [map_len, map_len, List.length_take]
          have := hperm.length_eq
          rw [map_len] at this
          omega
        · have e : (ys.take (i + 1)).map (num H2) = (ys.take i).map (num H2) ++ [1 + (l : Int)] := by
            rw [List.take_add_one, hi, List.map_append, ← num_at hc]
            rfl
          rw [upd_same, snoc_map, e]
      · rintro H4 ⟨s4, hD2⟩
        rw [List.take_length] at hD2
        have lys : ys.length = xss.length - 1 := by
          rw [hperm.length_eq, map_len, hl]
        refine ⟨p2, D2, _, _, rfl, rfl, s4 _ _ hp2, hD2, ?_, fun p3 n3 => ?_⟩
        · rw [map_len, map_len, lys]
          exact sz (by show 1 + _ ≤ _; omega)
        have hos : ([V.int 0] ++ (ys.map (num H2)).map V.int) = ((0 :: ys.map (num H2)).map V.int) := rfl
        rw [hos]
        have mem : ∀ v : Int, v ∈ (0 :: ys.map (num H2)) ↔ 0 ≤ v ∧ v < (xss.length : Int) := by
          have hm : ∀ v : Int, v ∈ ys.map (num H2) ↔ 1 ≤ v ∧ v < (xss.length : Int) := fun v => by
            rw [(hperm.map (num H2)).mem_iff]
            constructor
            · intro h
              obtain ⟨y, hy, rfl⟩ := List.mem_map.mp h
              obtain ⟨t, ht, rfl⟩ := List.mem_map.mp hy
              obtain ⟨l, hl2⟩ := List.mem_iff_getElem?.mp ht
              obtain ⟨c, hc⟩ := hts2 l t hl2
              rw [num_at hc]
              have := lt_at hl2
              omega
            · rintro ⟨h0, h1⟩
              obtain ⟨t, ht⟩ := some_at (xs := ts) (j := (v - 1).toNat) (by omega)
              obtain ⟨c, hc⟩ := hts2 _ t ht
              refine List.mem_map.mpr ⟨.ref t, List.mem_map_of_mem (List.mem_of_getElem? ht), ?_⟩
              rw [num_at hc]
              omega
          intro v
          rw [List.mem_cons, hm]
          omega
        have los : (0 :: ys.map (num H2)).length = xss.length := by
          rw [List.length_cons, map_len, lys]
          omega
        generalize (0 :: ys.map (num H2)) = os at mem los ⊢
        have s5 := same_new (o := .lst (os.map V.int)) n3
        have hp3 := upd_same (H := H4) (a := p3) (o := .lst (os.map V.int))
        have s05 : Same H (upd H4 p3 (.lst (os.map V.int))) := (((s1.trans s2).trans s3).trans s4).trans s5
        generalize upd H4 p3 (.lst (os.map V.int)) = H5 at s5 hp3 s05 ⊢
        refine ⟨Nat.zero_le _, fun R nR => ?_⟩
        have s6 := same_new (o := .lst []) nR
        have hR := upd_same (H := H5) (a := R) (o := .lst [])
        generalize upd H5 R (.lst []) = H6 at s6 hR ⊢
        have hO6 := s6.seq (il_of (K := K) hp3)
        walk_at "rd"
        refine ⟨⟨_, hO6⟩, for_list (K := K) (a := p3) (xs := os.map V.int) (fun i σ H' => Same H5 H' ∧ ∃ (qs : List Addr) (v6 v7 v8 v9 v10 v11 v12 : Option V), σ = [some (.ref a), some (.ref b), some (.int ((as.map V.ref).length : Int)), some (.ref p1), some (.ref p3), some (.ref R), v6, v7, v8, v9, v10, v11, v12] ∧
            H' R = some (.lst (qs.map V.ref)) ∧ qs.length = i ∧ ∀ q ∈ qs, RowOk H' xss.length 10 q)
          ⟨s6, [], none, none, none, none, none, none, none, rfl, hR, rfl, fun q h => by simp at h⟩ (fun i σ H' _ ⟨e, _⟩ => e.seq (il_of hp3)) ?_ ?_⟩
        · rintro i y σ H' hi ⟨sm, qs, v6, v7, v8, v9, v10, v11, v12, rfl, hq, hlq, hok⟩
          obtain ⟨v, rfl, hv⟩ := map_at_int hi
          have hv2 := (mem v).mp (List.mem_of_getElem? hv)
          have hi2 := lt_at hv
          obtain ⟨k, rfl, hk⟩ := nat_of hv2.1 hv2.2
          obtain ⟨r, hr2⟩ := some_at hk
          have hLL := hL.same (s05.trans sm)
          obtain ⟨p, hp, hP⟩ := hLL.at_ hr2
          have hLl2 := hLL.lst
          have hB2 := (s05.trans sm).seq hB
          have rne : r ≠ [] := fun e => ne k (by rw [hr2, e])
          have rlen : 0 < r.length := List.length_pos_iff.mpr rne
          have rl0 : (0 : Int) < (((r.map V.int).length : Nat) : Int) := by
            rw [map_len]
            omega
          have rl10 := net.few r (List.mem_of_getElem? hr2)
          have rtg := net.tg r (List.mem_of_getElem? hr2)
          obtain ⟨x1, hx1⟩ := some_at (xs := row) (j := xss.length + k) (by omega)
          walk_at "rd"
          refine ⟨_, _, _, _, rfl, rfl, hB2, at_intI (j := xss.length + k) (by omega) hx1, ?_⟩
          walk_at "rd"
          have hu0 : 0 ≤ x1 % (((r.map V.int).length : Nat) : Int) := Int.emod_nonneg _ (by omega)
          obtain ⟨u, hu⟩ : ∃ u : Nat, x1 % (((r.map V.int).length : Nat) : Int) = (u : Int) := ⟨(x1 % (((r.map V.int).length : Nat) : Int)).toNat, by omega⟩
          intro t1 m1
          rw [cutI_drop V.int r hu]
          have e1 := same_new (o := .lst ((r.drop u).map V.int)) m1
          have ht1 := upd_same (H := H') (a := t1) (o := .lst ((r.drop u).map V.int))
          generalize upd H' t1 (.lst ((r.drop u).map V.int)) = G1 at e1 ht1 ⊢
          have hLl3 := e1.seq hLl2
          have hP3 := e1.seq hP
          walk_at "rd"
          intro t2 m2
          rw [cutI_take V.int r hu]
          have e2 := same_new (o := .lst ((r.take u).map V.int)) m2
          have ht2 := upd_same (H := G1) (a := t2) (o := .lst ((r.take u).map V.int))
          generalize upd G1 t2 (.lst ((r.take u).map V.int)) = G2 at e2 ht2 ⊢
          refine ⟨t1, t2, _, _, rfl, rfl, e2 _ _ ht1, ht2, ?_, fun t3 m3 => ?_⟩
          · rw [map_len, map_len, List.length_take, List.length_drop]
            exact sz (by omega)
          rw [← List.map_append]
          have tmem : ∀ x, x ∈ r.drop u ++ r.take u → -1 ≤ x ∧ x < (xss.length : Int) := fun x hx => by
            rcases List.mem_append.mp hx with g | g
            · exact rtg x (List.mem_of_mem_drop g)
            · exact rtg x (List.mem_of_mem_take g)
          have tlen : (r.drop u ++ r.take u).length = r.length := by
            rw [List.length_append, List.length_take, List.length_drop]
            omega
          generalize (r.drop u ++ r.take u) = tr at tmem tlen ⊢
          have e3 := same_new (o := .lst (tr.map V.int)) m3
          have ht3 := upd_same (H := G2) (a := t3) (o := .lst (tr.map V.int))
          generalize upd G2 t3 (.lst (tr.map V.int)) = G3 at e3 ht3 ⊢
          refine ⟨Nat.zero_le _, fun M nM => ?_⟩
          have e4 := same_new (o := .lst []) nM
          have hM := upd_same (H := G3) (a := M) (o := .lst [])
          generalize upd G3 M (.lst []) = G4 at e4 hM ⊢
          have hT4 := e4.seq (il_of (K := K) ht3)
          have e03 : Same H' G3 := (e1.trans e2).trans e3
          walk_at "rd"
          refine ⟨⟨_, hT4⟩, for_list (K := K) (a := t3) (xs := tr.map V.int) (fun l σ H'' => Same G3 H'' ∧ ∃ (ms : List Int) (v10 : Option V), σ = [some (.ref a), some (.ref b), some (.int ((as.map V.ref).length : Int)), some (.ref p1), some (.ref p3), some (.ref R), some (.int (k : Int)), some (.int (x1 % (((r.map V.int).length : Nat) : Int))), some (.ref t3), some (.ref M), v10, v11, v12] ∧
              H'' M = some (.lst (ms.map V.int)) ∧ ms.length = l ∧ ∀ x ∈ ms, -1 ≤ x ∧ x < (xss.length : Int))
            ⟨e4, [], _, rfl, hM, rfl, fun x h => by simp at h⟩ (fun l σ H'' _ ⟨e, _⟩ => e.seq (il_of ht3)) ?_ ?_⟩
          · rintro l y σ H'' hl2 ⟨em, ms, v10, rfl, hms, lms, hmx⟩
            obtain ⟨z, rfl, hz⟩ := map_at_int hl2
            have hz2 := tmem z (List.mem_of_getElem? hz)
            have hzl := lt_at hz
            have hMl := il_of (K := K) hms
            have hMs : (ms.map V.int).length < sizeLine := szl (by rw [map_len]; omega)
            have fin : ∀ x : Int, -1 ≤ x → x < (xss.length : Int) → Same G3 (upd H'' M (.lst (ms.map V.int ++ [V.int x]))) ∧ ∃ (ns : List Int) (v10 : Option V), [some (.ref a), some (.ref b), some (.int ((as.map V.ref).length : Int)), some (.ref p1), some (.ref p3), some (.ref R), some (.int (k : Int)), some (.int (x1 % (((r.map V.int).length : Nat) : Int))), some (.ref t3), some (.ref M), some (V.int z), v11, v12] = [some (.ref a), some (.ref b), some (.int ((as.map V.ref).length : Int)), some (.ref p1), some (.ref p3), some (.ref R), some (.int (k : Int)), some (.int (x1 % (((r.map V.int).length : Nat) : Int))), some (.ref t3), some (.ref M), v10, v11, v12] ∧
                (upd H'' M (.lst (ms.map V.int ++ [V.int x]))) M = some (.lst (ns.map V.int)) ∧ ns.length = l + 1 ∧ ∀ x ∈ ns, -1 ≤ x ∧ x < (xss.length : Int) := by
              intro x h0 h1
              refine ⟨same_mut em nM, ms ++ [x], _, rfl, by rw [upd_same, snoc_map], by rw [List.length_append, List.length_singleton, lms], fun y hy => ?_⟩
              rcases List.mem_append.mp hy with g | g
              · exact hmx y g
              · rw [List.mem_singleton] at g
                rw [g]
                exact ⟨h0, h1⟩
            walk_at "rd"
            refine ite2 (fun g1 => ?_) (fun g1 => ?_)
            · walk_at "rd"
              exact fin (-1) (by omega) (by omega)
            · have hz0 : 0 ≤ z := Classical.byContradiction fun n => g1 (decide_eq_true (by omega))
              have hO : IL K H'' p3 os := (((sm.trans e03).trans em)).seq (il_of hp3)
              walk_at "rd"
              have hzo : z ∈ os := (mem z).mpr ⟨hz0, hz2.2⟩
              have hidx := List.idxOf_lt_length_iff.mpr hzo
              refine ⟨p3, os.map V.int, .int z, os.idxOf z, .int z, rfl, rfl, hO, rfl, ?_, ?_, ?_, fun m z' hm hz' => ?_, ?_⟩
              · rw [List.all_eq_true]
                intro y hy
                obtain ⟨y2, _, rfl⟩ := List.mem_map.mp hy
                rfl
              · rw [List.getElem?_map, List.getElem?_eq_getElem hidx, List.getElem_idxOf]
                rfl
              · exact beq_self_eq_true z
              · obtain ⟨y2, rfl, hy2⟩ := map_at_int hz'
                obtain ⟨hml, hme⟩ := List.getElem?_eq_some_iff.mp hy2
                have := List.not_of_lt_findIdx (p := (· == z)) (xs := os) (i := m) hm
                rw [hme] at this
                show (y2 == z) = false
                simpa using this
              · walk_at "rd"
                exact fin ((os.idxOf z : Nat) : Int) (by omega) (by rw [← los]; omega)
          · rintro σ H'' ⟨em, ms, v10, rfl, hms, lms, hmx⟩
            rw [map_len] at lms
            have e0 : Same H' H'' := e03.trans em
            have hB3 := e0.seq hB2
            have hRq := e0 _ _ hq
            have hRl := il_of (K := K) hRq
            obtain ⟨x2, hx2⟩ := some_at (xs := row) (j := 2 * xss.length + k) (by omega)
            obtain ⟨x3, hx3⟩ := some_at (xs := row) (j := k) (by omega)
            walk_at "rd"
            refine ⟨_, _, _, _, rfl, rfl, hB3, at_intI (j := 2 * xss.length + k) (by omega) hx2, ?_⟩
            refine ⟨x2, rfl, fun us J1 j1 => ?_⟩
            have hB4 := j1.seq hB3
            walk_at "rd"
            intro pr
            have hMj := j1 _ _ hms
            walk_at "rd"
            refine ⟨M, _, rfl, .inl ⟨il_of hMj, fun tt nt => ?_⟩⟩
            have j2 := same_new (o := .tup (ms.map V.int)) nt
            have htt := upd_same (H := J1) (a := tt) (o := .tup (ms.map V.int))
            generalize upd J1 tt (.tup (ms.map V.int)) = J2 at j2 htt ⊢
            refine ⟨sz (by show 3 ≤ 100000; decide), fun rr nrr => ?_⟩
            have j3 := same_new (o := .tup [V.str us, V.int pr, V.ref tt]) nrr
            have hrr := upd_same (H := J2) (a := rr) (o := .tup [V.str us, V.int pr, V.ref tt])
            have htt3 := j3 _ _ htt
            generalize upd J2 rr (.tup [V.str us, V.int pr, V.ref tt]) = J3 at j3 hrr htt3 ⊢
            have e5 : Same H' J3 := ((e0.trans j1).trans j2).trans j3
            have hq3 := e5 _ _ hq
            refine ⟨R, _, _, rfl, rfl, hq3, szl (by rw [map_len]; omega), ?_⟩
            refine ⟨same_mut (sm.trans e5) nR, qs ++ [rr], _, _, _, _, _, _, _, rfl, by rw [upd_same, List.map_append]; rfl, by rw [List.length_append, List.length_singleton, hlq], fun q' hq' => ?_⟩
            have stay : ∀ (p : Addr) (vs : List V), J3 p = some (.tup vs) → (upd J3 R (.lst (qs.map V.ref ++ [V.ref rr]))) p = some (.tup vs) := fun p vs h => by
              rw [upd_ne (ne_of h hq3 (by intro z; cases z))]
              exact h
            rcases List.mem_append.mp hq' with g | g
            · obtain ⟨u', c', t', ts', h1, h2, h3⟩ := (hok q' g).same e5
              exact ⟨u', c', t', ts', stay _ _ h1, stay _ _ h2, h3⟩
            · rw [List.mem_singleton] at g
              subst g
              refine ⟨us, pr, tt, ms, stay _ _ hrr, stay _ _ htt3, fun e => ?_, by omega, hmx⟩
              rw [e] at lms
              simp at lms
              omega
        · rintro σ H' ⟨sm, qs, v6, v7, v8, v9, v10, v11, v12, rfl, hq, hlq, hok⟩
          rw [map_len] at hlq
          exact ⟨_, rfl, q H' R (s05.trans sm) (s05.free nR) ⟨qs, hq, by rw [hlq, los], hok⟩⟩
end
end K35
namespace K35
open PySem PySem.Spec PyProof.Rows L2
local macro_rules | `(tactic| walk_at "rd") => `(tactic| repeat (first
  | refine ⟨_, rfl, ?_⟩
  | refine ⟨_, _, rfl, rfl, ?_⟩
  | refine ⟨(show scal _ _ = true from rfl), ?_⟩
  | refine ⟨_, _, rfl, .inl (by assumption), ?_⟩
  | refine ⟨_, _, rfl, (by assumption), ?_⟩
  | refine ⟨_, _, _, _, rfl, rfl, (by assumption), at_int (by assumption), ?_⟩
  | refine ⟨_, _, _, _, rfl, rfl, (by assumption), at_ref (by assumption), ?_⟩
  | refine .inl ⟨_, rfl, ?_⟩
  | refine ⟨(show (0 : Int) < _ by first | decide | assumption | omega), ?_⟩
  | refine ⟨(show CDiv _ _ from ⟨by first | decide | assumption | omega, by first | decide | assumption | omega⟩), ?_⟩
  | refine ⟨(show CPow _ _ from ⟨by decide, by decide, by decide⟩), ?_⟩
  | refine ⟨(show CMul _ _ from .inl ⟨by first | decide | omega, by first | decide | omega⟩), ?_⟩
  | refine ⟨(show CMul _ _ from .inr ⟨by first | decide | omega, by first | decide | omega⟩), ?_⟩
  | refine ⟨.inl ⟨rfl, _, (by assumption)⟩, ?_⟩
  | refine ⟨_, _, _, rfl, rfl, (by assumption), (by assumption), ?_⟩))
theorem vs3 {c x y z : Int} (h : x = y) : [V.int c, V.int x, V.int z] ++ [] = [V.int c, V.int y, V.int z] := by rw [h]; rfl
theorem sum_le {ss : List Nat} {m : Nat} (h : ∀ s ∈ ss, s ≤ m) : ss.sum ≤ m * ss.length := by
  induction ss with
  | nil => exact Nat.zero_le _
  | cons s r ih =>
    have h1 := h s List.mem_cons_self
    have h2 := ih fun x hx => h x (List.mem_cons_of_mem _ hx)
    rw [List.sum_cons, List.length_cons, Nat.mul_add]
    omega
theorem sum_take_le (ss : List Nat) (i : Nat) {s : Nat} (h : ss[i]? = some s) : (ss.take i).sum + s ≤ ss.sum ∧ (ss.take (i + 1)).sum = (ss.take i).sum + s := by
  have e : (ss.take (i + 1)).sum = (ss.take i).sum + s := by
    rw [List.take_add_one, h, List.sum_append]
    simp
  refine ⟨?_, e⟩
  have e2 : (ss.take (i + 1)).sum + (ss.drop (i + 1)).sum = ss.sum := by
    rw [← List.sum_append, List.take_append_drop]
  omega
section
variable {P : Program} {w : World} {K : PySem.W.Frag} {mg : Str → Option Value} {base : Heap}
abbrev s_Ltame : Stmt := topS 18
theorem sc_Ltame : FnScope ["_law_cell_here", "_law_blocks", "_law_row", "_law_nexts", "_law_sizes", "_law_b", "_law_k", "_law_node", "_law_before"] ["_law_cell_here", "_law_blocks"] (defScope s_Ltame) := ⟨rfl, rfl, rfl, by decide +kernel, rfl, by decide +kernel, by decide +kernel⟩
def spTame : Sp := fun vs H Q _ => ∃ (c : Int), vs = [.int c, .int 2] ∧
  ∀ (H' : Hp) (p : Addr) (n : Nat), Same H H' → H p = none → RowsAt H' p n 10 → 0 < n → n ≤ 39 → Q (.ref p) H'
theorem ok_Ltame {f : Addr} {fd : FuncData} (F : Fun K "_law_tame" "_law_tame" s_Ltame f fd) (T : Txt mg) (o_Ldigits : Own P w K mg base 1 "_law_digits" ["_law_cell_here", "_law_count", "_law_size"] (spDig)) (o_Lblock : Own P w K mg base 2 "_law_block" ["_law_nexts", "_law_digit", "_law_row", "_law_first"] (spBlock K)) (o_Lexit : Own P w K mg base 2 "_law_exit" ["_law_nexts", "_law_before", "_law_size", "_law_digit"] (spExit K)) (o_Lnumbered : Own P w K mg base 2 "_law_numbered" ["_law_nexts", "_law_row"] (spNum K)) : FnOk P w K mg base CX0 3 f fd ["_law_cell_here", "_law_blocks"] spTame := by
  refine F.ok sc_Ltame (fun vs H Q E h => ?_) (fun cdv A outer s H vs Q E hr h => ?_)
  · obtain ⟨c, rfl, _⟩ := h
    rfl
  · obtain ⟨c, rfl, q⟩ := h
    refine ⟨_, (pss_cons (ps_set (i := 2) sc_Ltame.nd rfl (.inl rfl) (pe_own o_Ldigits (hr.mono (by decide)) (by rfl) (pa_cons (pv 0) (pa_cons pe_int (pa_cons pe_int pa_nil)))))
    (pss_cons (ps_set (i := 3) sc_Ltame.nd rfl (.inl rfl) (pe_lst pa_nil))
    (pss_cons (ps_set (i := 4) sc_Ltame.nd rfl (.inl rfl) (pe_lst pa_nil))
    (pss_cons (ps_for PassesOwn.never rfl (pi_range1 (by rfl) T.range_ (pa_cons (pe_op op_add pe_int (pe_op op_mod (pe_callTy call_int1 (by rfl) T.int_ (by decide +kernel) (pa_cons (pe_ix ix_list (pv 2) pe_int (fun _ _ => rfl)) pa_nil)) (pe_op op_add (pv 1) pe_int))) pa_nil)) (pg_name (i := 5) sc_Ltame.nd rfl (.inl rfl))
      (pss_one (ps_expr (pe_bm PySem.F.plainAttrs_list PySem.F.slot_list_append PySem.F.type_list_append mt_append (pv 4) (pa_cons (pe_own o_Lblock (hr.mono (by decide)) (by rfl) (pa_cons (pv 3) (pa_cons (pe_ix ix_list (pv 2) (pe_op op_add pe_int (pv 5)) (fun _ _ => rfl)) (pa_cons (pv 2) (pa_cons (pe_op op_add pe_int (pe_op op_mul pe_int (pv 5))) pa_nil))))) pa_nil)))))
    (pss_cons (ps_for PassesOwn.never rfl (pi_range1 (by rfl) T.range_ (pa_cons (pe_op op_mod (pe_callTy call_int1 (by rfl) T.int_ (by decide +kernel) (pa_cons (pe_op op_fdiv (pe_ix ix_list (pv 2) pe_int (fun _ _ => rfl)) pe_int) pa_nil)) pe_int) pa_nil)) (pg_name (i := 6) sc_Ltame.nd rfl (.inl rfl))
      (pss_cons (ps_set (i := 7) sc_Ltame.nd rfl (.inl rfl) (pe_op op_mod (pe_callTy call_int1 (by rfl) T.int_ (by decide +kernel) (pa_cons (pe_ix ix_list (pv 2) (pe_op op_add pe_int (pv 6)) (fun _ _ => rfl)) pa_nil)) (pe_callB call_len_seq (by rfl) T.len PySem.boot_len (pa_cons (pv 3) pa_nil))))
      (pss_one (ps_if (pt_cmpR op_lt (pe_callB call_len_seq (by rfl) T.len PySem.boot_len (pa_cons (pe_ix ix_list (pv 3) (pv 7) (fun _ _ => rfl)) pa_nil)) pe_int (nomark _))
        (pss_one (ps_expr (pe_bm PySem.F.plainAttrs_list PySem.F.slot_list_append PySem.F.type_list_append mt_append (pe_ix ix_list (pv 3) (pv 7) (fun _ _ => rfl)) (pa_cons (pe_un un_neg pe_int) pa_nil))))
        pss_nil))))
    (pss_cons (ps_set (i := 8) sc_Ltame.nd rfl (.inl rfl) pe_int)
    (pss_cons (ps_for PassesOwn.never rfl (pi_range1 (by rfl) T.range_ (pa_cons (pe_callB call_len_seq (by rfl) T.len PySem.boot_len (pa_cons (pv 4) pa_nil)) pa_nil)) (pg_name (i := 5) sc_Ltame.nd rfl (.inl rfl))
      (pss_cons (ps_expr (pe_own o_Lexit (hr.mono (by decide)) (by rfl) (pa_cons (pv 3) (pa_cons (pv 8) (pa_cons (pe_ix ix_list (pv 4) (pv 5) (fun _ _ => rfl)) (pa_cons (pe_ix ix_list (pv 2) (pe_op op_add pe_int (pv 5)) (fun _ _ => rfl)) pa_nil))))))
      (pss_one (ps_set (i := 8) sc_Ltame.nd rfl (.inl rfl) (pe_op op_add (pv 8) (pe_ix ix_list (pv 4) (pv 5) (fun _ _ => rfl)))))))
    (pss_one (ps_ret (pe_own o_Lnumbered (hr.mono (by decide)) (by rfl) (pa_cons (pv 3) (pa_cons (pe_own o_Ldigits (hr.mono (by decide)) (by rfl) (pa_cons (pe_op op_add (pv 0) pe_int) (pa_cons (pe_op op_mul pe_int (pe_callB call_len_seq (by rfl) T.len PySem.boot_len (pa_cons (pv 3) pa_nil))) (pa_cons pe_int pa_nil)))) pa_nil)))))))))))), ?_⟩
    walk_at "rd"
    refine ⟨c, 55440, 64, rfl, by decide, by decide, by decide, fun H1 rA ds s1 nr hrA hds => ?_⟩
    refine ⟨Nat.zero_le _, fun a na => ?_⟩
    have s2 := same_new (o := .lst []) na
    have ha := upd_same (H := H1) (a := a) (o := .lst [])
    generalize upd H1 a (.lst []) = H2 at s2 ha ⊢
    refine ⟨Nat.zero_le _, fun S nS2 => ?_⟩
    have aS : a ≠ S := ne_of_none ha nS2
    have s3 := s2.trans (same_new (o := .lst []) nS2)
    have nS : H1 S = none := s2.free nS2
    have hS := upd_same (H := H2) (a := S) (o := .lst [])
    have ha3 := same_new (o := .lst []) nS2 _ _ ha
    generalize upd H2 S (.lst []) = H3 at s3 hS ha3 ⊢
    obtain ⟨x0, hx0⟩ := some_at (xs := ds) (j := 0) (by rw [hds.1]; omega)
    have hR3 := s3.seq (il_of (K := K) hrA)
    walk_at "rd"
    have h3 : 0 ≤ x0 % 3 ∧ x0 % 3 < 3 := by omega
    refine ⟨by omega, by omega, for_rng (n := (1 + x0 % 3).toNat) (fun i σ H' => Same H1 H' ∧ ∃ (ps : List Addr) (xss : List (List Int)) (ss : List Nat) (v5 v6 v7 v8 : Option V), σ = [some (.int c), some (.int 2), some (.ref rA), some (.ref a), some (.ref S), v5, v6, v7, v8] ∧
        FL H1 H' a ps xss ∧ S ∉ ps ∧ H' S = some (.lst ((up ss).map V.int)) ∧ ss.length = i ∧ xss.length = ss.sum ∧ (∀ s ∈ ss, 1 ≤ s ∧ s ≤ 13) ∧ Net xss (xss.length : Int) 4 ∧ ∀ i' : Nat, xss[i']? = some [] → ∃ b', ss[b']? = some 1 ∧ i' = (ss.take b').sum)
      ⟨s3, [], [], [], none, none, none, none, rfl, FL.nil na ha3, by simp, hS, rfl, rfl, fun s h => by simp at h, Net.nil _ _, fun i' h => by simp at h⟩ ?_ ?_⟩
    · rintro i σ H' hi ⟨sm, ps, xss, ss, v5, v6, v7, v8, rfl, f1, hSp, hSs, lss, lx, hss, net, emp⟩
      have hi3 : i < 3 := by omega
      have lx39 : xss.length ≤ 39 := by
        have := sum_le (ss := ss) (m := 13) fun s hs => (hss s hs).2
        omega
      obtain ⟨x1, hx1⟩ := some_at (xs := ds) (j := 1 + i) (by rw [hds.1]; omega)
      have hSl := il_of (K := K) hSs
      have hR4 := sm.seq (il_of (K := K) hrA)
      have hsz : ((up ss).map V.int).length < sizeLine := szl (by rw [map_len, map_len]; omega)
      have sB : Same (upd H1 S (.lst ((up ss).map V.int))) H' := fun q o h => by
        by_cases e : q = S
        · rw [e, upd_same] at h
          rw [e, hSs]
          exact h
        · rw [upd_ne e] at h
          exact sm _ _ h
      have fB : FL (upd H1 S (.lst ((up ss).map V.int))) H' a ps xss := ⟨by rw [upd_ne aS]; exact na, f1.d, f1.len, f1.nd, fun l p xs h1 h2 => by
        obtain ⟨g1, g2, g3⟩ := f1.row l p xs h1 h2
        refine ⟨?_, g2, g3⟩
        rw [upd_ne (fun e => hSp (by rw [← e]; exact List.mem_of_getElem? h1))]
        exact g1⟩
      have hRB : IL K (upd H1 S (.lst ((up ss).map V.int))) rA ds := (same_new nS).seq (il_of hrA)
      walk_at "rd"
      refine ⟨upd H1 S (.lst ((up ss).map V.int)), a, rA, ps, xss, ds, x1, 8 + 4 * i, rfl, sB, fB, hRB, by rw [hds.1]; omega, net, by omega, fun H5 qs yss s sB5 f5 hs1 hs13 ly net5 emp5 => ?_⟩
      have hS5 : H5 S = some (.lst ((up ss).map V.int)) := sB5 _ _ upd_same
      have sm5 : Same H1 H5 := (same_new nS).trans sB5
      have nSq : S ∉ qs := fun e => by
        obtain ⟨_, h, _⟩ := f5.mem e
        rw [upd_same] at h
        cases h
      refine ⟨S, _, _, rfl, rfl, hS5, hsz, ?_⟩
      have e1 : (up ss).map V.int ++ [V.int (s : Int)] = (up (ss ++ [s])).map V.int := by
        unfold up
        rw [List.map_append, List.map_append]
        rfl
      rw [e1]
      refine ⟨same_mut sm5 nS, qs, yss, ss ++ [s], _, _, _, _, rfl, (f5.base (same_new nS)).upd aS.symm nSq, nSq, upd_same, by rw [List.length_append, List.length_singleton, lss], by rw [List.sum_append, ly, lx]; simp, fun s' h' => ?_, net5, fun i' h' => ?_⟩
      · rcases List.mem_append.mp h' with g | g
        · exact hss s' g
        · rw [List.mem_singleton] at g
          rw [g]
          exact ⟨hs1, hs13⟩
      · rcases emp5 i' h' with g | ⟨g1, g2⟩
        · obtain ⟨b', hb1, hb2⟩ := emp i' g
          have hl := lt_at hb1
          exact ⟨b', by rw [List.getElem?_append_left hl]; exact hb1, by rw [List.take_append_of_le_length (by omega)]; exact hb2⟩
        · refine ⟨ss.length, by rw [List.getElem?_append_right (Nat.le_refl _), Nat.sub_self, g1]; rfl, ?_⟩
          rw [List.take_left', g2, lx]
          rfl
    · rintro σ H' ⟨sm, ps, xss, ss, v5, v6, v7, v8, rfl, f1, hSp, hSs, lss, lx, hss, net, emp⟩
      have lx39 : xss.length ≤ 39 := by
        have := sum_le (ss := ss) (m := 13) fun s hs => (hss s hs).2
        omega
      have lx1 : 0 < xss.length := by
        obtain ⟨s, hs⟩ := some_at (xs := ss) (j := 0) (by omega)
        have := (sum_take_le ss 0 hs).1
        have := (hss s (List.mem_of_getElem? hs)).1
        omega
      have hR5 := sm.seq (il_of (K := K) hrA)
      walk_at "rd"
      have h4 : 0 ≤ x0 / 7 % 4 ∧ x0 / 7 % 4 < 4 := by omega
      refine ⟨by omega, by omega, for_rng (n := (x0 / 7 % 4).toNat) (fun k σ H4 => Same H1 H4 ∧ ∃ (yss : List (List Int)) (v6 v7 : Option V), σ = [some (.int c), some (.int 2), some (.ref rA), some (.ref a), some (.ref S), v5, v6, v7, v8] ∧
          FL H1 H4 a ps yss ∧ H4 S = some (.lst ((up ss).map V.int)) ∧ yss.length = xss.length ∧ Net yss (xss.length : Int) 4 ∧ ∀ i' : Nat, yss[i']? = some [] → ∃ b', ss[b']? = some 1 ∧ i' = (ss.take b').sum)
        ⟨sm, xss, _, _, rfl, f1, hSs, rfl, net, emp⟩ ?_ ?_⟩
      · rintro k σ H4 hk ⟨sm4, yss, v6, v7, rfl, f4, hS4, ly, net4, emp4⟩
        obtain ⟨x1, hx1⟩ := some_at (xs := ds) (j := 40 + k) (by rw [hds.1]; omega)
        have hR6 := sm4.seq (il_of (K := K) hrA)
        have hA6 := il_of (K := K) f4.d
        have hl0 : (0 : Int) < (((ps.map V.ref).length : Nat) : Int) := by
          rw [map_len, f4.len]
          omega
        walk_at "rd"
        obtain ⟨j, ej, hj⟩ := nat_of (i := x1 % (((ps.map V.ref).length : Nat) : Int)) (n := yss.length) (Int.emod_nonneg _ (by omega)) (by
          have := Int.emod_lt_of_pos x1 hl0
          rw [map_len, f4.len] at this ⊢
          exact this)
        obtain ⟨r, hr2⟩ := some_at hj
        obtain ⟨p, hp, hP⟩ := (f4.ll (K := K)).at_ hr2
        have hpr := (f4.row j p r hp hr2).2.2
        refine ⟨_, _, _, _, rfl, rfl, hA6, at_refI ej hp, ?_⟩
        walk_at "rd"
        refine ite2 (fun e1 => ?_) (fun e1 => ?_)
        · have h4 := of_decide_eq_true e1
          rw [map_len] at h4
          have hsz : (r.map V.int).length < sizeLine := szl (by rw [map_len]; omega)
          walk_at "rd"
          refine ⟨_, _, _, _, rfl, rfl, hA6, at_refI ej hp, ?_⟩
          walk_at "rd"
          rw [snoc_map]
          have pS : S ≠ p := fun e => hSp (by rw [e]; exact List.mem_of_getElem? hp)
          refine ⟨same_mut sm4 (f4.row j p r hp hr2).1, yss.set j (r ++ [-1]), _, _, rfl, f4.set hp, by rw [upd_ne pS]; exact hS4, by rw [List.length_set]; exact ly, net4.set hr2 (Nat.le_refl _) (by omega) (by omega), fun i' h' => emp4 i' (set_empty h').1⟩
        · exact ⟨sm4, yss, _, _, rfl, f4, hS4, ly, net4, emp4⟩
      · rintro σ H4 ⟨sm4, yss, v6, v7, rfl, f4, hS4, ly, net4, emp4⟩
        have hS7 := il_of (K := K) hS4
        walk_at "rd"
        refine ⟨by omega, by rw [map_len, map_len]; omega, for_rng (n := ((up ss).map V.int).length) (fun i σ H5 => Same H1 H5 ∧ ∃ (zss : List (List Int)) (v5 : Option V), σ = [some (.int c), some (.int 2), some (.ref rA), some (.ref a), some (.ref S), v5, v6, v7, some (.int (((ss.take i).sum : Nat) : Int))] ∧
            FL H1 H5 a ps zss ∧ H5 S = some (.lst ((up ss).map V.int)) ∧ zss.length = xss.length ∧ Net zss (xss.length : Int) (4 + i) ∧ ∀ i' : Nat, zss[i']? = some [] → ∃ b', i ≤ b' ∧ ss[b']? = some 1 ∧ i' = (ss.take b').sum)
          ⟨sm4, yss, _, rfl, f4, hS4, ly, net4, fun i' h => by obtain ⟨b', h1, h2⟩ := emp4 i' h; exact ⟨b', Nat.zero_le _, h1, h2⟩⟩ ?_ ?_⟩
        · rintro i σ H5 hi ⟨sm5, zss, v5, rfl, f5, hS5, lz, net5, emp5⟩
          rw [map_len, map_len] at hi
          have hi3 : i < 3 := by omega
          obtain ⟨s, hs⟩ := some_at hi
          obtain ⟨st1, st2⟩ := sum_take_le ss i hs
          have hs1 := hss s (List.mem_of_getElem? hs)
          have hsu := up_at hs
          obtain ⟨x1, hx1⟩ := some_at (xs := ds) (j := 44 + i) (by rw [hds.1]; omega)
          have hS8 := il_of (K := K) hS5
          have hR8 := sm5.seq (il_of (K := K) hrA)
          have sB : Same (upd H1 S (.lst ((up ss).map V.int))) H5 := fun q o h => by
            by_cases e : q = S
            · rw [e, upd_same] at h
              rw [e, hS5]
              exact h
            · rw [upd_ne e] at h
              exact sm5 _ _ h
          have fB : FL (upd H1 S (.lst ((up ss).map V.int))) H5 a ps zss := ⟨by rw [upd_ne aS]; exact na, f5.d, f5.len, f5.nd, fun l p xs h1 h2 => by
            obtain ⟨g1, g2, g3⟩ := f5.row l p xs h1 h2
            refine ⟨?_, g2, g3⟩
            rw [upd_ne (fun e => hSp (by rw [← e]; exact List.mem_of_getElem? h1))]
            exact g1⟩
          walk_at "rd"
          refine ⟨upd H1 S (.lst ((up ss).map V.int)), a, ps, zss, (ss.take i).sum, s, x1, (xss.length : Int), 4 + i, rfl, sB, fB, net5, by omega, by omega, by omega, by omega, by omega, fun H6 wss c6 sB6 f6 net6 lw emp6 => ?_⟩
          have hS6 : H6 S = some (.lst ((up ss).map V.int)) := sB6 _ _ upd_same
          have hS9 := il_of (K := K) hS6
          have sm6 : Same H1 H6 := (same_new nS).trans sB6
          walk_at "rd"
          refine ⟨sm6, wss, _, by rw [st2]; rfl, f6.base (same_new nS), hS6, lw.trans lz, net6, fun i' h' => ?_⟩
          obtain ⟨g1, g2⟩ := emp6 i' h'
          obtain ⟨b', hb0, hb1, hb2⟩ := emp5 i' g1
          refine ⟨b', ?_, hb1, hb2⟩
          by_cases e : b' = i
          · subst e
            rw [hs] at hb1
            cases hb1
            exact absurd hb2 (g2 rfl)
          · omega
        · rintro σ H5 ⟨sm5, zss, v5, rfl, f5, hS5, lz, net5, emp5⟩
          rw [map_len, map_len] at net5 emp5
          have hA9 := il_of (K := K) f5.d
          walk_at "rd"
          refine ⟨c + 5, 55440, 3 * zss.length, vs3 (by rw [map_len, f5.len, Int.natCast_mul]; rfl), by omega, by decide, by decide, fun H6 rB es s6 nr6 hr6 hes => ?_⟩
          walk_at "rd"
          refine ⟨a, rB, zss, es, rfl, ⟨ps, (f5.same s6).ll⟩, il_of hr6, hes.1, by omega, by omega, net5.mono (by omega) (by omega), fun i' h' => ?_, fun H7 p s7 np hrows => ?_⟩
          · obtain ⟨b', hb0, hb1, hb2⟩ := emp5 i' h'
            have := lt_at hb1
            omega
          · exact q H7 p zss.length (((s1.trans sm5).trans s6).trans s7) (((s1.trans sm5).trans s6).free np) hrows (by omega) (by omega)
end
end K35
namespace K35
open PySem PySem.Spec PyProof.Rows L2
local macro_rules | `(tactic| walk_at "rd") => `(tactic| repeat (first
  | refine ⟨_, rfl, ?_⟩
  | refine ⟨_, _, rfl, rfl, ?_⟩
  | refine ⟨(show scal _ _ = true from rfl), ?_⟩
  | refine ⟨_, _, rfl, .inl (by assumption), ?_⟩
  | refine ⟨_, _, rfl, (by assumption), ?_⟩
  | refine ⟨_, _, _, _, rfl, rfl, (by assumption), at_int (by assumption), ?_⟩
  | refine ⟨_, _, _, _, rfl, rfl, (by assumption), at_ref (by assumption), ?_⟩
  | refine .inl ⟨_, rfl, ?_⟩
  | refine ⟨(show (0 : Int) < _ by first | decide | assumption | omega), ?_⟩
  | refine ⟨(show CDiv _ _ from ⟨by first | decide | assumption | omega, by first | decide | assumption | omega⟩), ?_⟩
  | refine ⟨(show CPow _ _ from ⟨by decide, by decide, by decide⟩), ?_⟩
  | refine ⟨(show CMul _ _ from .inl ⟨by first | decide | omega, by first | decide | omega⟩), ?_⟩
  | refine ⟨(show CMul _ _ from .inr ⟨by first | decide | omega, by first | decide | omega⟩), ?_⟩
  | refine ⟨.inl ⟨rfl, _, (by assumption)⟩, ?_⟩
  | refine ⟨_, _, _, rfl, rfl, (by assumption), (by assumption), ?_⟩))
/-- the heap without what stands at p -/
def del (H : Hp) (p : Addr) : Hp := fun q => if q = p then none else H q
theorem del_same {H : Hp} {p : Addr} : Same (del H p) H := fun q o h => by
  unfold del at h
  by_cases e : q = p
  · rw [if_pos e] at h
    cases h
  · rw [if_neg e] at h
    exact h
theorem del_none {H : Hp} {p : Addr} : del H p p = none := by
  unfold del
  rw [if_pos rfl]
theorem del_ne {H : Hp} {p q : Addr} {o : HO} (e : q ≠ p) (h : H q = some o) : del H p q = some o := by
  unfold del
  rw [if_neg e]
  exact h
theorem same_del {H H' : Hp} {p : Addr} (e : Same H H') (h : H p = none) : Same H (del H' p) := fun q o hq => del_ne (ne_of_none hq h) (e _ _ hq)
section
variable {P : Program} {w : World} {K : PySem.W.Frag} {mg : Str → Option Value} {base : Heap}
abbrev s_Lany : Stmt := topS 20
theorem sc_Lany : FnScope ["_law_cell_here", "_law_blocks", "_law_rows", "_law_row", "_law_k", "_law_node", "_law_target"] ["_law_cell_here", "_law_blocks"] (defScope s_Lany) := ⟨rfl, rfl, rfl, by decide +kernel, rfl, by decide +kernel, by decide +kernel⟩
theorem ok_Lany {f : Addr} {fd : FuncData} (F : Fun K "_law_any" "_law_any" s_Lany f fd) (T : Txt mg) (o_Ltame : Own P w K mg base 3 "_law_tame" ["_law_cell_here", "_law_blocks"] (spTame)) (o_Ldigits : Own P w K mg base 1 "_law_digits" ["_law_cell_here", "_law_count", "_law_size"] (spDig)) : FnOk P w K mg base CX0 4 f fd ["_law_cell_here", "_law_blocks"] spTame := by
  refine F.ok sc_Lany (fun vs H Q E h => ?_) (fun cdv A outer s H vs Q E hr h => ?_)
  · obtain ⟨c, rfl, _⟩ := h
    rfl
  · obtain ⟨c, rfl, q⟩ := h
    refine ⟨_, (pss_cons (ps_set (i := 2) sc_Lany.nd rfl (.inl rfl) (pe_own o_Ltame (hr.mono (by decide)) (by rfl) (pa_cons (pv 0) (pa_cons (pv 1) pa_nil))))
    (pss_cons (ps_set (i := 3) sc_Lany.nd rfl (.inl rfl) (pe_own o_Ldigits (hr.mono (by decide)) (by rfl) (pa_cons (pe_op op_add (pv 0) pe_int) (pa_cons pe_int (pa_cons pe_int pa_nil)))))
    (pss_cons (ps_for PassesOwn.never rfl (pi_range1 (by rfl) T.range_ (pa_cons (pe_op op_mod (pe_callTy call_int1 (by rfl) T.int_ (by decide +kernel) (pa_cons (pe_ix ix_list (pv 3) pe_int (fun _ _ => rfl)) pa_nil)) pe_int) pa_nil)) (pg_name (i := 4) sc_Lany.nd rfl (.inl rfl))
      (pss_cons (ps_set (i := 5) sc_Lany.nd rfl (.inl rfl) (pe_op op_mod (pe_callTy call_int1 (by rfl) T.int_ (by decide +kernel) (pa_cons (pe_ix ix_list (pv 3) (pe_op op_add pe_int (pv 4)) (fun _ _ => rfl)) pa_nil)) (pe_callB call_len_seq (by rfl) T.len PySem.boot_len (pa_cons (pv 2) pa_nil))))
      (pss_one (ps_if (pt_cmpR op_lt (pe_callB call_len_seq (by rfl) T.len PySem.boot_len (pa_cons (pe_ix ix_tup (pe_ix ix_list (pv 2) (pv 5) (fun _ _ => rfl)) pe_int (fun _ _ => rfl)) pa_nil)) pe_int (nomark _))
        (pss_cons (ps_set (i := 6) sc_Lany.nd rfl (.inl rfl) (pe_op op_mod (pe_callTy call_int1 (by rfl) T.int_ (by decide +kernel) (pa_cons (pe_op op_fdiv (pe_ix ix_list (pv 3) (pe_op op_add pe_int (pv 4)) (fun _ _ => rfl)) pe_int) pa_nil)) (pe_callB call_len_seq (by rfl) T.len PySem.boot_len (pa_cons (pv 2) pa_nil))))
        (pss_one (ps_asg (pe_tup (pa_cons (pe_ix ix_tup (pe_ix ix_list (pv 2) (pv 5) (fun _ _ => rfl)) pe_int (fun _ _ => rfl)) (pa_cons (pe_ix ix_tup (pe_ix ix_list (pv 2) (pv 5) (fun _ _ => rfl)) pe_int (fun _ _ => rfl)) (pa_cons (pe_op op_catT (pe_ix ix_tup (pe_ix ix_list (pv 2) (pv 5) (fun _ _ => rfl)) pe_int (fun _ _ => rfl)) (pe_tup (pa_cons (pv 6) pa_nil))) pa_nil)))) (pg_sub (pv 2) (pv 5) set_list))))
        pss_nil))))
    (pss_one (ps_ret (pv 2)))))), ?_⟩
    walk_at "rd"
    refine fun H1 R n s1 nR hrows n0 n39 => ?_
    walk_at "rd"
    refine ⟨c + 9, 27720, 8, rfl, by decide, by decide, by decide, fun H2 rA ds s2 nr hrA hds => ?_⟩
    have hrows2 := hrows.same s2
    have RrA : rA ≠ R := by
      obtain ⟨qs, h, _⟩ := hrows
      exact (ne_of_none h nr).symm
    have sB : Same H (del H2 R) := same_del (s1.trans s2) nR
    have hrB := del_ne RrA hrA
    obtain ⟨x0, hx0⟩ := some_at (xs := ds) (j := 0) (by rw [hds.1]; omega)
    have hR2 := il_of (K := K) hrA
    walk_at "rd"
    have h4 : 0 ≤ x0 % 4 ∧ x0 % 4 < 4 := by omega
    refine ⟨by omega, by omega, for_rng (n := (x0 % 4).toNat) (fun i σ H' => Same (del H2 R) H' ∧ RowsAt H' R n 10 ∧ ∃ (v4 v5 v6 : Option V), σ = [some (.int c), some (.int 2), some (.ref R), some (.ref rA), v4, v5, v6])
      ⟨del_same, hrows2, none, none, none, rfl⟩ ?_ ?_⟩
    · rintro i σ H' hi ⟨sm, ⟨qs, hq, lq, hok⟩, v4, v5, v6, rfl⟩
      obtain ⟨x1, hx1⟩ := some_at (xs := ds) (j := 1 + i) (by rw [hds.1]; omega)
      have hR3 := sm.seq (il_of (K := K) hrB)
      have hQ := il_of (K := K) hq
      have hl0 : (0 : Int) < (((qs.map V.ref).length : Nat) : Int) := by
        rw [map_len, lq]
        omega
      walk_at "rd"
      obtain ⟨j, ej, hj⟩ := nat_of (i := x1 % (((qs.map V.ref).length : Nat) : Int)) (n := n) (Int.emod_nonneg _ (by omega)) (by
        have := Int.emod_lt_of_pos x1 hl0
        rw [map_len, lq] at this ⊢
        exact this)
      obtain ⟨q0, hq0⟩ := some_at (xs := qs) (j := j) (by omega)
      obtain ⟨u, pc, t, ts, hqt, htt, tne, tl, ttg⟩ := hok q0 (List.mem_of_getElem? hq0)
      refine ⟨_, _, _, _, rfl, rfl, hQ, at_refI ej hq0, ?_⟩
      walk_at "rd"
      refine ⟨_, _, _, _, rfl, rfl, SqT.of hqt, rfl, ?_⟩
      refine ⟨_, _, rfl, .inr (SqT.of htt), ?_⟩
      walk_at "rd"
      refine ite2 (fun e1 => ?_) (fun e1 => ?_)
      · have h4 := of_decide_eq_true e1
        rw [map_len] at h4
        walk_at "rd"
        have hv0 : 0 ≤ x1 / 60 % (((qs.map V.ref).length : Nat) : Int) := Int.emod_nonneg _ (by omega)
        have hv1 : x1 / 60 % (((qs.map V.ref).length : Nat) : Int) < (n : Int) := by
          have := Int.emod_lt_of_pos (x1 / 60) hl0
          rw [map_len, lq] at this ⊢
          exact this
        refine ⟨_, _, _, _, rfl, rfl, hQ, at_refI ej hq0, ?_⟩
        walk_at "rd"
        refine ⟨_, _, _, _, rfl, rfl, SqT.of hqt, rfl, ?_⟩
        walk_at "rd"
        refine ⟨_, _, _, _, rfl, rfl, hQ, at_refI ej hq0, ?_⟩
        walk_at "rd"
        refine ⟨_, _, _, _, rfl, rfl, SqT.of hqt, rfl, ?_⟩
        walk_at "rd"
        refine ⟨_, _, _, _, rfl, rfl, hQ, at_refI ej hq0, ?_⟩
        walk_at "rd"
        refine ⟨_, _, _, _, rfl, rfl, SqT.of hqt, rfl, ?_⟩
        walk_at "rd"
        refine ⟨sz (by show 1 ≤ 100000; decide), fun p1 n1 => ?_⟩
        have j1 := same_new (o := .tup [V.int (x1 / 60 % (((qs.map V.ref).length : Nat) : Int))]) n1
        have hp1 := upd_same (H := H') (a := p1) (o := .tup [V.int (x1 / 60 % (((qs.map V.ref).length : Nat) : Int))])
        generalize upd H' p1 (.tup [V.int (x1 / 60 % (((qs.map V.ref).length : Nat) : Int))]) = J1 at j1 hp1 ⊢
        refine ⟨t, p1, _, _, rfl, rfl, SqT.of (j1 _ _ htt), SqT.of hp1, fun e => tne (List.map_eq_nil_iff.mp e), ?_, (fun e => nomatch e), fun _ p2 n2 => ?_⟩
        · rw [map_len]
          exact sz (by show _ + 1 ≤ _; omega)
        have e2 : ts.map V.int ++ [V.int (x1 / 60 % (((qs.map V.ref).length : Nat) : Int))] = (ts ++ [x1 / 60 % (((qs.map V.ref).length : Nat) : Int)]).map V.int := snoc_map
        rw [e2]
        have j2 := same_new (o := .tup ((ts ++ [x1 / 60 % (((qs.map V.ref).length : Nat) : Int)]).map V.int)) n2
        have hp2 := upd_same (H := J1) (a := p2) (o := .tup ((ts ++ [x1 / 60 % (((qs.map V.ref).length : Nat) : Int)]).map V.int))
        generalize upd J1 p2 (.tup ((ts ++ [x1 / 60 % (((qs.map V.ref).length : Nat) : Int)]).map V.int)) = J2 at j2 hp2 ⊢
        refine ⟨sz (by show 3 ≤ 100000; decide), fun p3 n3 => ?_⟩
        have j3 := same_new (o := .tup [V.str u, V.int pc, V.ref p2]) n3
        have hp3 := upd_same (H := J2) (a := p3) (o := .tup [V.str u, V.int pc, V.ref p2])
        have hp2' := j3 _ _ hp2
        generalize upd J2 p3 (.tup [V.str u, V.int pc, V.ref p2]) = J3 at j3 hp3 hp2' ⊢
        have j03 : Same H' J3 := (j1.trans j2).trans j3
        have hq3 := j03 _ _ hq
        walk_at "rd"
        refine ⟨R, _, _, j, rfl, rfl, hq3, ixN_of ej (by rw [map_len, lq]; exact hj), ?_⟩
        rw [← List.map_set]
        refine ⟨same_mut (sm.trans j03) del_none, ⟨qs.set j p3, upd_same, by rw [List.length_set]; exact lq, fun q' hq' => ?_⟩, _, _, _, rfl⟩
        have stay : ∀ (p : Addr) (vs : List V), J3 p = some (.tup vs) → (upd J3 R (.lst ((qs.set j p3).map V.ref))) p = some (.tup vs) := fun p vs h => by
          rw [upd_ne (ne_of h hq3 (by intro z; cases z))]
          exact h
        rcases List.mem_or_eq_of_mem_set hq' with g | g
        · obtain ⟨u', c', t', ts', h1, h2, h3⟩ := (hok q' g).same j03
          exact ⟨u', c', t', ts', stay _ _ h1, stay _ _ h2, h3⟩
        · subst g
          refine ⟨u, pc, p2, _, stay _ _ hp3, stay _ _ hp2', by simp, by rw [List.length_append, List.length_singleton]; omega, fun x hx => ?_⟩
          rcases List.mem_append.mp hx with k | k
          · exact ttg x k
          · rw [List.mem_singleton] at k
            rw [k]
            omega
      · exact ⟨sm, ⟨qs, hq, lq, hok⟩, _, _, _, rfl⟩
    · rintro σ H' ⟨sm, hrows', v4, v5, v6, rfl⟩
      exact ⟨_, rfl, q H' R n (sB.trans sm) nR hrows' n0 n39⟩
end
end K35
namespace K35
open PySem PySem.Spec PyProof.Rows L2
local macro_rules | `(tactic| walk_at "rd") => `(tactic| repeat (first
  | refine ⟨_, rfl, ?_⟩
  | refine ⟨_, _, rfl, rfl, ?_⟩
  | refine ⟨(show scal _ _ = true from rfl), ?_⟩
  | refine ⟨_, _, rfl, .inl (by assumption), ?_⟩
  | refine ⟨_, _, rfl, (by assumption), ?_⟩
  | refine ⟨_, _, _, _, rfl, rfl, (by assumption), at_int (by assumption), ?_⟩
  | refine ⟨_, _, _, _, rfl, rfl, (by assumption), at_ref (by assumption), ?_⟩
  | refine .inl ⟨_, rfl, ?_⟩
  | refine ⟨(show (0 : Int) < _ by first | decide | assumption | omega), ?_⟩
  | refine ⟨(show CDiv _ _ from ⟨by first | decide | assumption | omega, by first | decide | assumption | omega⟩), ?_⟩
  | refine ⟨(show CPow _ _ from ⟨by decide, by decide, by decide⟩), ?_⟩
  | refine ⟨(show CMul _ _ from .inl ⟨by first | decide | omega, by first | decide | omega⟩), ?_⟩
  | refine ⟨(show CMul _ _ from .inr ⟨by first | decide | omega, by first | decide | omega⟩), ?_⟩
  | refine ⟨.inl ⟨rfl, _, (by assumption)⟩, ?_⟩
  | refine ⟨_, _, _, rfl, rfl, (by assumption), (by assumption), ?_⟩))
section
variable {P : Program} {w : World} {K : PySem.W.Frag} {mg : Str → Option Value} {base : Heap}
abbrev s_Lhome : Stmt := topS 21
theorem sc_Lhome : FnScope ["_law_rows", "_law_home_here", "_law_turn", "_law_node", "_law_target"] ["_law_rows"] (defScope s_Lhome) := ⟨rfl, rfl, rfl, by decide +kernel, rfl, by decide +kernel, by decide +kernel⟩
def spHome (K : PySem.W.Frag) : Sp := fun vs H Q _ => ∃ (a : Addr) (n : Nat), vs = [.ref a] ∧ RowsAt H a n 10 ∧ n ≤ 39 ∧
  ∀ (H' : Hp) (p : Addr) (hs : List Int), Same H H' → H p = none → H' p = some (.lst (hs.map V.int)) → hs.length = n → Q (.ref p) H'
theorem ok_Lhome {f : Addr} {fd : FuncData} (F : Fun K "_law_home" "_law_home" s_Lhome f fd) (T : Txt mg) : FnOk P w K mg base CX0 1 f fd ["_law_rows"] (spHome K) := by
  refine F.ok sc_Lhome (fun vs H Q E h => ?_) (fun cdv A outer s H vs Q E hr h => ?_)
  · obtain ⟨a, n, rfl, _⟩ := h
    rfl
  · obtain ⟨a, n, rfl, ⟨qs, hq, lq, hok⟩, n39, q⟩ := h
    refine ⟨_, (pss_cons (ps_set (i := 1) sc_Lhome.nd rfl (.inl rfl) (pe_op op_rep (pe_lst (pa_cons (pe_op op_mul pe_int (pe_callB call_len_seq (by rfl) T.len PySem.boot_len (pa_cons (pv 0) pa_nil))) pa_nil)) (pe_callB call_len_seq (by rfl) T.len PySem.boot_len (pa_cons (pv 0) pa_nil))))
    (pss_cons (ps_for PassesOwn.never rfl (pi_range1 (by rfl) T.range_ (pa_cons (pe_callB call_len_seq (by rfl) T.len PySem.boot_len (pa_cons (pv 0) pa_nil)) pa_nil)) (pg_name (i := 2) sc_Lhome.nd rfl (.inl rfl))
      (pss_one (ps_for PassesOwn.never rfl (pi_range1 (by rfl) T.range_ (pa_cons (pe_callB call_len_seq (by rfl) T.len PySem.boot_len (pa_cons (pv 0) pa_nil)) pa_nil)) (pg_name (i := 3) sc_Lhome.nd rfl (.inl rfl))
        (pss_one (ps_for PassesOwn.never rfl (pi_tup (pe_ix ix_tup (pe_ix ix_list (pv 0) (pv 3) (fun _ _ => rfl)) pe_int (fun _ _ => rfl))) (pg_name (i := 4) sc_Lhome.nd rfl (.inl rfl))
          (pss_one (ps_if (pt_cmpR op_lt (pv 4) pe_int (nomark _))
            (pss_one (ps_asg pe_int (pg_sub (pv 1) (pv 3) set_list)))
            (pss_one (ps_if (pt_cmpR op_lt (pe_op op_add (pe_ix ix_list (pv 1) (pv 4) (fun _ _ => rfl)) pe_int) (pe_ix ix_list (pv 1) (pv 3) (fun _ _ => rfl)) (nomark _))
              (pss_one (ps_asg (pe_op op_add (pe_ix ix_list (pv 1) (pv 4) (fun _ _ => rfl)) pe_int) (pg_sub (pv 1) (pv 3) set_list)))
              pss_nil)))))))))
    (pss_one (ps_ret (pv 1))))), ?_⟩
    have hQ := il_of (K := K) hq
    walk_at "rd"
    refine ⟨sz (by show 1 ≤ 100000; decide), fun l0 n0 => ?_⟩
    have s1 := same_new (o := .lst [V.int (2 * (((qs.map V.ref).length : Nat) : Int))]) n0
    have hl0 := upd_same (H := H) (a := l0) (o := .lst [V.int (2 * (((qs.map V.ref).length : Nat) : Int))])
    generalize upd H l0 (.lst [V.int (2 * (((qs.map V.ref).length : Nat) : Int))]) = H1 at s1 hl0 ⊢
    have hQ1 := s1.seq hQ
    walk_at "rd"
    refine ⟨l0, _, _, rfl, rfl, hl0, by omega, by rw [map_len]; omega, ?_, fun p np => ?_⟩
    · rw [Int.toNat_natCast, map_len, lq]
      exact sz (by simp; omega)
    have e0 : (List.replicate ((((qs.map V.ref).length : Nat) : Int)).toNat [V.int (2 * (((qs.map V.ref).length : Nat) : Int))]).flatten = (List.replicate n (2 * (((qs.map V.ref).length : Nat) : Int))).map V.int := by
      rw [Int.toNat_natCast, rep_one, List.map_replicate, map_len, lq]
    rw [e0]
    have np0 := s1.free np
    have s2 := s1.trans (same_new (o := .lst ((List.replicate n (2 * (((qs.map V.ref).length : Nat) : Int))).map V.int)) np)
    have hp := upd_same (H := H1) (a := p) (o := .lst ((List.replicate n (2 * (((qs.map V.ref).length : Nat) : Int))).map V.int))
    have hrl : (List.replicate n (2 * (((qs.map V.ref).length : Nat) : Int))).length = n := List.length_replicate
    generalize (List.replicate n (2 * (((qs.map V.ref).length : Nat) : Int))) = hs0 at s2 hp hrl ⊢
    generalize upd H1 p (.lst (hs0.map V.int)) = H2 at s2 hp ⊢
    have hQ2 := s2.seq hQ
    walk_at "rd"
    refine ⟨by omega, by rw [map_len]; omega, for_rng (n := (qs.map V.ref).length) (fun i σ H' => Same H H' ∧ ∃ (hs : List Int) (v2 v3 v4 : Option V), σ = [some (.ref a), some (.ref p), v2, v3, v4] ∧ H' p = some (.lst (hs.map V.int)) ∧ hs.length = n)
      ⟨s2, hs0, none, none, none, rfl, hp, hrl⟩ ?_ ?_⟩
    · rintro i σ H' hi ⟨sm, hs, v2, v3, v4, rfl, hh, lh⟩
      have hQ3 := sm.seq hQ
      walk_at "rd"
      refine ⟨by omega, by rw [map_len]; omega, for_rng (n := (qs.map V.ref).length) (fun j σ H' => Same H H' ∧ ∃ (hs : List Int) (v3 v4 : Option V), σ = [some (.ref a), some (.ref p), some (.int (i : Int)), v3, v4] ∧ H' p = some (.lst (hs.map V.int)) ∧ hs.length = n)
        ⟨sm, hs, _, _, rfl, hh, lh⟩ ?_ ?_⟩
      · rintro j σ H4 hj ⟨sm4, hs, v3, v4, rfl, hh, lh⟩
        rw [map_len, lq] at hj
        obtain ⟨q0, hq0⟩ := some_at (xs := qs) (j := j) (by omega)
        obtain ⟨u, pc, t, ts, hqt, htt, tne, tl, ttg⟩ := hok q0 (List.mem_of_getElem? hq0)
        have hQ4 := sm4.seq hQ
        walk_at "rd"
        refine ⟨_, _, _, _, rfl, rfl, SqT.of (sm4 _ _ hqt), rfl, ?_⟩
        walk_at "rd"
        refine ⟨⟨_, SqT.of (sm4 _ _ htt)⟩, for_tup (K := K) (a := t) (xs := ts.map V.int) (fun l σ H' => Same H H' ∧ ∃ (hs : List Int) (v4 : Option V), σ = [some (.ref a), some (.ref p), some (.int (i : Int)), some (.int (j : Int)), v4] ∧ H' p = some (.lst (hs.map V.int)) ∧ hs.length = n)
          ⟨sm4, hs, _, rfl, hh, lh⟩ (fun _ _ H' _ ⟨e, _⟩ => SqT.of (e _ _ htt)) ?_ ?_⟩
        · rintro l y σ H5 hl ⟨sm5, hs, v4, rfl, hh, lh⟩
          obtain ⟨z, rfl, hz⟩ := map_at_int hl
          have hzt := ttg z (List.mem_of_getElem? hz)
          have hH := il_of (K := K) hh
          have set_ : ∀ x : Int, Same H (upd H5 p (.lst ((hs.set j x).map V.int))) ∧ ∃ (hs_1 : List Int) (v4 : Option V), [some (V.ref a), some (V.ref p), some (V.int (i : Int)), some (V.int (j : Int)), some (V.int z)] = [some (.ref a), some (.ref p), some (.int (i : Int)), some (.int (j : Int)), v4] ∧ (upd H5 p (.lst ((hs.set j x).map V.int))) p = some (.lst (hs_1.map V.int)) ∧ hs_1.length = n :=
            fun x => ⟨same_mut sm5 np0, hs.set j x, _, rfl, upd_same, by rw [List.length_set]; exact lh⟩
          walk_at "rd"
          refine ite2 (fun e1 => ?_) (fun e1 => ?_)
          · walk_at "rd"
            refine ⟨p, _, _, j, rfl, rfl, hh, ixN_of rfl (by rw [map_len, lh]; exact hj), ?_⟩
            rw [← List.map_set]
            exact set_ 1
          · have hz0 : 0 ≤ z := Classical.byContradiction fun n => e1 (decide_eq_true (by omega))
            obtain ⟨zn, rfl, hzn⟩ := nat_of hz0 hzt.2
            obtain ⟨y1, hy1⟩ := some_at (xs := hs) (j := zn) (by omega)
            obtain ⟨y2, hy2⟩ := some_at (xs := hs) (j := j) (by omega)
            walk_at "rd"
            refine ite2 (fun e2 => ?_) (fun e2 => ?_)
            · walk_at "rd"
              refine ⟨p, _, _, j, rfl, rfl, hh, ixN_of rfl (by rw [map_len, lh]; exact hj), ?_⟩
              rw [← List.map_set]
              exact set_ _
            · exact ⟨sm5, hs, _, rfl, hh, lh⟩
        · rintro σ H5 ⟨sm5, hs, v4, rfl, hh, lh⟩
          exact ⟨sm5, hs, _, _, rfl, hh, lh⟩
      · rintro σ H4 ⟨sm4, hs, v3, v4, rfl, hh, lh⟩
        exact ⟨sm4, hs, _, _, _, rfl, hh, lh⟩
    · rintro σ H' ⟨sm, hs, v2, v3, v4, rfl, hh, lh⟩
      exact ⟨_, rfl, q H' p hs sm np0 hh lh⟩

abbrev s_Lrun : Stmt := topS 22
theorem sc_Lrun : FnScope ["_law_rows", "_law_cell_here", "_law_most", "_law_home_here", "_law_row", "_law_run_here", "_law_k", "_law_nexts", "_law_target", "_law_other"] ["_law_rows", "_law_cell_here", "_law_most"] (defScope s_Lrun) := ⟨rfl, rfl, rfl, by decide +kernel, rfl, by decide +kernel, by decide +kernel⟩
def spRun (K : PySem.W.Frag) : Sp := fun vs H Q _ => ∃ (a : Addr) (n : Nat) (c : Int) (m : Int), vs = [.ref a, .int c, .int m] ∧ RowsAt H a n 10 ∧ 0 < n ∧ n ≤ 39 ∧ 0 ≤ m ∧ m ≤ 100 ∧
  ∀ (H' : Hp) (p : Addr) (rs : List Int), Same H H' → H p = none → H' p = some (.lst (rs.map V.int)) → Q (.ref p) H'
theorem ok_Lrun {f : Addr} {fd : FuncData} (F : Fun K "_law_run" "_law_run" s_Lrun f fd) (T : Txt mg) (o_Lhome : Own P w K mg base 1 "_law_home" ["_law_rows"] (spHome K)) (o_Ldigits : Own P w K mg base 1 "_law_digits" ["_law_cell_here", "_law_count", "_law_size"] (spDig)) : FnOk P w K mg base CX0 2 f fd ["_law_rows", "_law_cell_here", "_law_most"] (spRun K) := by
  refine F.ok sc_Lrun (fun vs H Q E h => ?_) (fun cdv A outer s H vs Q E hr h => ?_)
  · obtain ⟨a, n, c, m, rfl, _⟩ := h
    rfl
  · obtain ⟨a, n, c, m, rfl, hrows, n0, n39, m0, m1, q⟩ := h
    obtain ⟨m, rfl⟩ := Int.eq_ofNat_of_zero_le m0
    obtain ⟨qs, hq, lq, hok⟩ := id hrows
    refine ⟨_, (pss_cons (ps_set (i := 3) sc_Lrun.nd rfl (.inl rfl) (pe_own o_Lhome (hr.mono (by decide)) (by rfl) (pa_cons (pv 0) pa_nil)))
    (pss_cons (ps_set (i := 4) sc_Lrun.nd rfl (.inl rfl) (pe_own o_Ldigits (hr.mono (by decide)) (by rfl) (pa_cons (pv 1) (pa_cons (pv 2) (pa_cons pe_int pa_nil)))))
    (pss_cons (ps_set (i := 5) sc_Lrun.nd rfl (.inl rfl) (pe_lst (pa_cons pe_int pa_nil)))
    (pss_cons (ps_for PassesOwn.never rfl (pi_range1 (by rfl) T.range_ (pa_cons (pe_op op_add (pe_op op_add (pv 2) (pe_callB call_len_seq (by rfl) T.len PySem.boot_len (pa_cons (pv 0) pa_nil))) pe_int) pa_nil)) (pg_name (i := 6) sc_Lrun.nd rfl (.inl rfl))
      (pss_cons (ps_set (i := 7) sc_Lrun.nd rfl (.inl rfl) (pe_ix ix_tup (pe_ix ix_list (pv 0) (pe_ix ix_list (pv 5) (pe_un un_neg pe_int) (fun _ _ => rfl)) (fun _ _ => rfl)) pe_int (fun _ _ => rfl)))
      (pss_cons (ps_set (i := 8) sc_Lrun.nd rfl (.inl rfl) (pe_ix ix_tup (pv 7) pe_int (fun _ _ => rfl)))
      (Evl.pss_cut (ps_if (pt_cmpR op_lt (pv 6) (pv 2) (nomark _))
        (pss_one (ps_set (i := 8) sc_Lrun.nd rfl (.inl rfl) (pe_ix ix_tup (pv 7) (pe_op op_mod (pe_callTy call_int1 (by rfl) T.int_ (by decide +kernel) (pa_cons (pe_ix ix_list (pv 4) (pv 6) (fun _ _ => rfl)) pa_nil)) (pe_callB call_len_seq (by rfl) T.len PySem.boot_len (pa_cons (pv 7) pa_nil))) (fun _ _ => rfl))))
        (pss_one (ps_for PassesOwn.never rfl (pi_tup (pv 7)) (pg_name (i := 9) sc_Lrun.nd rfl (.inl rfl))
          (pss_one (ps_if (PW.pt (pw_or (pt_cmpR op_lt (pv 9) pe_int (nomark _)) (pw_or1 (PW.pt (pw_and (pt_cmpR op_ge (pv 8) pe_int (nomark _)) (pw_and1 (pt_cmpR op_lt (pe_ix ix_list (pv 3) (pv 9) (fun _ _ => rfl)) (pe_ix ix_list (pv 3) (pv 8) (fun _ _ => rfl)) (nomark _))))))))
            (pss_one (ps_set (i := 8) sc_Lrun.nd rfl (.inl rfl) (pv 9)))
            pss_nil)))))
      (pss_cons (ps_if (pt_cmpR op_lt (pv 8) pe_int (nomark _))
        (pss_one (ps_ret (pv 5)))
        pss_nil)
      (pss_one (ps_expr (pe_bm PySem.F.plainAttrs_list PySem.F.slot_list_append PySem.F.type_list_append mt_append (pv 5) (pa_cons (pv 8) pa_nil)))))))))
    (pss_one (ps_ret (pv 5))))))), ?_⟩
    walk_at "rd"
    refine ⟨n39, fun H1 hp hs s1 n1 hh lh => ?_⟩
    walk_at "rd"
    refine ⟨c, 60, m, rfl, by omega, by decide, by decide, fun H2 rA ds s2 nr hrA hds => ?_⟩
    refine ⟨sz (by show 1 ≤ 100000; decide), fun R nR => ?_⟩
    have s12 := s1.trans s2
    have s3 := same_new (o := .lst [V.int 0]) nR
    have hR := upd_same (H := H2) (a := R) (o := .lst [V.int 0])
    generalize upd H2 R (.lst [V.int 0]) = H3 at s3 hR ⊢
    have hQ3 := ((s12.trans s3)).seq (il_of (K := K) hq)
    walk_at "rd"
    have ll : (qs.map V.ref).length = n := by rw [map_len, lq]
    have eN : ((m : Int) + (((qs.map V.ref).length : Nat) : Int) + 1).toNat = m + n + 1 := by omega
    refine ⟨by omega, by omega, ?_⟩
    rw [eN]
    refine for_rng (n := m + n + 1) (fun k σ H' => Same H2 H' ∧ ∃ (rs : List Int) (z : Int) (v6 v7 v8 v9 : Option V), σ = [some (.ref a), some (.int c), some (.int (m : Int)), some (.ref hp), some (.ref rA), some (.ref R), v6, v7, v8, v9] ∧
        H' R = some (.lst ((rs ++ [z]).map V.int)) ∧ 0 ≤ z ∧ z < (n : Int) ∧ rs.length = k)
      ⟨s3, [], 0, none, none, none, none, rfl, hR, by omega, by omega, rfl⟩ ?_ ?_
    · rintro k σ H' hk ⟨sm, rs, z, v6, v7, v8, v9, rfl, hRs, z0, z1, lrs⟩
      have hQ4 := (s12.trans sm).seq (il_of (K := K) hq)
      have hR4 := il_of (K := K) hRs
      obtain ⟨zn, rfl, hzn⟩ := nat_of z0 z1
      obtain ⟨q0, hq0⟩ := some_at (xs := qs) (j := zn) (by omega)
      obtain ⟨u, pc, t, ts, hqt, htt, tne, tl, ttg⟩ := hok q0 (List.mem_of_getElem? hq0)
      have htt4 := (s12.trans sm) _ _ htt
      have hat : atI ((rs ++ [(zn : Int)]).map V.int) (-1) = some (V.int (zn : Int)) := by
        rw [List.map_append]
        exact atI_last _ _
      walk_at "rd"
      refine ⟨_, _, _, _, rfl, rfl, hR4, hat, ?_⟩
      walk_at "rd"
      refine ⟨_, _, _, _, rfl, rfl, SqT.of ((s12.trans sm) _ _ hqt), rfl, ?_⟩
      obtain ⟨x0, hx0⟩ := some_at (xs := ts) (j := 0) (List.length_pos_iff.mpr tne)
      have hax0 : atI (ts.map V.int) 0 = some (V.int x0) := at_int (j := 0) hx0
      walk_at "rd"
      refine ⟨_, _, _, _, rfl, rfl, SqT.of htt4, hax0, ?_⟩
      refine ⟨fun σ' H'' => H'' = H' ∧ ∃ (x : Int) (v9 : Option V), σ' = [some (.ref a), some (.int c), some (.int (m : Int)), some (.ref hp), some (.ref rA), some (.ref R), some (.int (k : Int)), some (.ref t), some (.int x), v9] ∧ -1 ≤ x ∧ x < (n : Int), ?_, ?_⟩
      · walk_at "rd"
        refine ite2 (fun e1 => ?_) (fun e1 => ?_)
        · have hkm : k < m := by
            have := of_decide_eq_true e1
            omega
          obtain ⟨y, hy⟩ := some_at (xs := ds) (j := k) (by rw [hds.1]; exact hkm)
          have hD4 := sm.seq (il_of (K := K) hrA)
          have hl0 : (0 : Int) < (((ts.map V.int).length : Nat) : Int) := by
            rw [map_len]
            have := List.length_pos_iff.mpr tne
            omega
          walk_at "rd"
          refine ⟨_, _, rfl, .inr (SqT.of htt4), ?_⟩
          walk_at "rd"
          obtain ⟨x, hx1, hx⟩ := at_some (ns := ts) (i := y % (((ts.map V.int).length : Nat) : Int)) (Int.emod_nonneg _ (by omega)) (by
            have := Int.emod_lt_of_pos y hl0
            rw [map_len] at this ⊢
            exact this)
          refine ⟨_, _, _, _, rfl, rfl, SqT.of htt4, hx, ?_⟩
          exact ⟨rfl, x, _, rfl, (ttg x hx1).1, (ttg x hx1).2⟩
        · walk_at "rd"
          refine ⟨⟨_, SqT.of htt4⟩, for_tup (K := K) (a := t) (xs := ts.map V.int) (fun l σ' H'' => H'' = H' ∧ ∃ (x : Int) (v9 : Option V), σ' = [some (.ref a), some (.int c), some (.int (m : Int)), some (.ref hp), some (.ref rA), some (.ref R), some (.int (k : Int)), some (.ref t), some (.int x), v9] ∧ -1 ≤ x ∧ x < (n : Int))
            ⟨rfl, x0, _, rfl, (ttg x0 (List.mem_of_getElem? hx0)).1, (ttg x0 (List.mem_of_getElem? hx0)).2⟩ (fun _ _ H'' _ ⟨e, _⟩ => by rw [e]; exact SqT.of htt4) ?_ ?_⟩
          · rintro l y σ' H'' hl ⟨rfl, x, v9, rfl, g0, g1⟩
            obtain ⟨o, rfl, ho⟩ := map_at_int hl
            have hot := ttg o (List.mem_of_getElem? ho)
            have hH := (s2.trans sm).seq (il_of (K := K) hh)
            walk_at "rd"
            refine (fun (yes : True → _) => ite2 (fun e1 => yes trivial) (fun e1 => ?_)) (fun _ => ?_)
            · have o0 : 0 ≤ o := Classical.byContradiction fun n => e1 (decide_eq_true (by omega))
              obtain ⟨on, rfl, hon⟩ := nat_of o0 hot.2
              obtain ⟨y1, hy1⟩ := some_at (xs := hs) (j := on) (by omega)
              walk_at "rd"
              refine ite2 (fun e2 => ?_) (fun e2 => ?_)
              · have x0' : 0 ≤ x := of_decide_eq_true e2
                obtain ⟨xn, rfl, hxn⟩ := nat_of x0' g1
                obtain ⟨y2, hy2⟩ := some_at (xs := hs) (j := xn) (by omega)
                walk_at "rd"
                refine ite2 (fun e3 => yes trivial) (fun e3 => ?_)
                exact ⟨rfl, _, _, rfl, g0, g1⟩
              · exact ⟨rfl, x, _, rfl, g0, g1⟩
            · walk_at "rd"
              exact ⟨rfl, o, _, rfl, hot.1, hot.2⟩
          · rintro σ' H'' h
            exact h
      · rintro σ' H'' ⟨rfl, x, v9, rfl, g0, g1⟩
        walk_at "rd"
        refine ite2 (fun e1 => ?_) (fun e1 => ?_)
        · refine ⟨_, rfl, ?_⟩
          exact q H'' R _ (s12.trans sm) (s12.free nR) hRs
        · have x0' : 0 ≤ x := Classical.byContradiction fun n => e1 (decide_eq_true (by omega))
          have hsz : ((rs ++ [(zn : Int)]).map V.int).length < sizeLine := szl (by rw [map_len, List.length_append, List.length_singleton]; omega)
          walk_at "rd"
          rw [snoc_map]
          exact ⟨same_mut sm nR, rs ++ [(zn : Int)], x, _, _, _, _, rfl, upd_same, x0', g1, by rw [List.length_append, List.length_singleton, lrs]⟩
    · rintro σ H' ⟨sm, rs, z, v6, v7, v8, v9, rfl, hRs, z0, z1, lrs⟩
      exact ⟨_, rfl, q H' R _ (s12.trans sm) (s12.free nR) hRs⟩

abbrev s_Lteam : Stmt := topS 23
theorem sc_Lteam : FnScope ["_law_script", "_law_rows", "_law_first", "_law_count", "_law_most", "_law_k"] ["_law_script", "_law_rows", "_law_first", "_law_count", "_law_most"] (defScope s_Lteam) := ⟨rfl, rfl, rfl, by decide +kernel, rfl, by decide +kernel, by decide +kernel⟩
def spTeam (K : PySem.W.Frag) : Sp := fun vs H Q _ => ∃ (a b : Addr) (ns : List Int) (n : Nat) (f c m : Int), vs = [.ref a, .ref b, .int f, .int c, .int m] ∧ IL K H a ns ∧ RowsAt H b n 10 ∧ 0 < n ∧ n ≤ 39 ∧ 0 ≤ f ∧ 0 ≤ c ∧ c ≤ 1000 ∧ 0 ≤ m ∧ m ≤ 100 ∧
  ∀ (H' : Hp) (p : Addr) (rs : List (List Int)), Same H H' → H p = none → LL K H' p rs → rs.length ≤ 1000 → Q (.ref p) H'
theorem ok_Lteam {f : Addr} {fd : FuncData} (F : Fun K "_law_team" "_law_team" s_Lteam f fd) (T : Txt mg) (o_Lrun : Own P w K mg base 2 "_law_run" ["_law_rows", "_law_cell_here", "_law_most"] (spRun K)) (o_Lseed : Own P w K mg base 2 "_law_seed" ["_law_script", "_law_k"] (spSeed K)) : FnOk P w K mg base CX0 3 f fd ["_law_script", "_law_rows", "_law_first", "_law_count", "_law_most"] (spTeam K) := by
  refine F.ok sc_Lteam (fun vs H Q E h => ?_) (fun cdv A outer s H vs Q E hr h => ?_)
  · obtain ⟨a, b, ns, n, g, c, m, rfl, _⟩ := h
    rfl
  · obtain ⟨a, b, ns, n, g, c, m, rfl, hN, hrows, n0, n39, g0, c0, c1, m0, m1, q⟩ := h
    refine ⟨_, (pss_one (ps_ret (pe_lc (own := [("_law_k", 5)]) (g := gName 5) (by rfl) sc_Lteam.nd (pi_range1 (by rfl) T.range_ (pa_cons (pv 3) pa_nil)) (blkOk_by (own := [("_law_k", 5)]) (N := ["_law_script", "_law_rows", "_law_first", "_law_count", "_law_most", "_law_k"]) (sc := defScope s_Lteam) (by decide +kernel)) (fun _ _ _ _ _ => pg_name (i := 5) sc_Lteam.nd rfl (Or.inl rfl)) (fun _ _ _ _ _ => pts_nil) (fun _ _ _ _ _ => (pe_own o_Lrun (hr.mono (by decide)) (by rfl) (pa_cons (pv 1) (pa_cons (pe_own o_Lseed (hr.mono (by decide)) (by rfl) (pa_cons (pv 0) (pa_cons (pe_op op_add (pv 2) (pv 5)) pa_nil))) (pa_cons (pv 4) pa_nil)))))))), ?_⟩
    walk_at "rd"
    refine ⟨by omega, by omega, fun D nD => lc_rng (n := c.toNat) (fun i H' => Same H H' ∧ ∃ (ps : List Addr) (rs : List (List Int)), FL H H' D ps rs ∧ rs.length = i)
      ⟨same_new nD, [], [], FL.nil nD upd_same, rfl⟩ ?_ ?_⟩
    · rintro i H' hi ⟨sm, ps, rs, f1, hl⟩
      refine ⟨rfl, ?_⟩
      walk_at "rd"
      refine ⟨a, ns, _, rfl, sm.seq hN, by omega, fun z H2 s2 => ?_⟩
      walk_at "rd"
      refine ⟨b, n, z, m, rfl, hrows.same (sm.trans s2), n0, n39, m0, m1, fun H3 p r s3 np hp => ?_⟩
      have f2 := f1.same s2
      refine ⟨_, s3 _ _ f2.d, szl (by rw [map_len, f2.len]; omega), same_mut ((sm.trans s2).trans s3) nD, _, _, f2.push (sm.trans s2) s3 np hp, by rw [List.length_append, List.length_singleton, hl]⟩
    · rintro H' ⟨sm, ps, rs, f1, hl⟩
      exact q H' D rs sm nD ⟨ps, f1.ll⟩ (by omega)
end
end K35
namespace K35
open PySem PySem.Spec PyProof.Rows L2
local macro_rules | `(tactic| walk_at "rd") => `(tactic| repeat (first
  | refine ⟨_, rfl, ?_⟩
  | refine ⟨_, _, rfl, rfl, ?_⟩
  | refine ⟨(show scal _ _ = true from rfl), ?_⟩
  | refine ⟨_, _, rfl, .inl (by assumption), ?_⟩
  | refine ⟨_, _, rfl, (by assumption), ?_⟩
  | refine ⟨_, _, _, _, rfl, rfl, (by assumption), at_int (by assumption), ?_⟩
  | refine ⟨_, _, _, _, rfl, rfl, (by assumption), at_ref (by assumption), ?_⟩
  | refine .inl ⟨_, rfl, ?_⟩
  | refine ⟨(show (0 : Int) < _ by first | decide | assumption | omega), ?_⟩
  | refine ⟨(show CDiv _ _ from ⟨by first | decide | assumption | omega, by first | decide | assumption | omega⟩), ?_⟩
  | refine ⟨(show CPow _ _ from ⟨by decide, by decide, by decide⟩), ?_⟩
  | refine ⟨(show CMul _ _ from .inl ⟨by first | decide | omega, by first | decide | omega⟩), ?_⟩
  | refine ⟨(show CMul _ _ from .inr ⟨by first | decide | omega, by first | decide | omega⟩), ?_⟩
  | refine ⟨.inl ⟨rfl, _, (by assumption)⟩, ?_⟩
  | refine ⟨_, _, _, rfl, rfl, (by assumption), (by assumption), ?_⟩))
theorem rg_up (n : Nat) : rgV 0 (n : Int) = (up (List.range n)).map V.int := by
  unfold rgV up
  rw [List.map_map, Int.sub_zero, Int.toNat_natCast]
  refine List.map_congr_left fun i _ => ?_
  show V.int (0 + (i : Int)) = V.int (i : Int)
  rw [Int.zero_add]
theorem rep_ints {k : Int} {m : Nat} (e : k = (m : Int)) (r : List Int) : (List.replicate k.toNat (r.map V.int)).flatten = (rep m r).map V.int := by
  rw [e, Int.toNat_natCast, ← rep_map]
  rfl
theorem total_mem {rs : List (List Int)} {r : List Int} (h : r ∈ rs) : r.length ≤ total rs := by
  unfold total
  induction rs with
  | nil => simp at h
  | cons x xs ih =>
    rw [List.map_cons, List.sum_cons]
    rcases List.mem_cons.mp h with e | e
    · rw [e]
      omega
    · have := ih e
      omega
section
variable {P : Program} {w : World} {K : PySem.W.Frag} {mg : Str → Option Value} {base : Heap}
abbrev s_law : Stmt := topS 33
theorem sc_law : FnScope ["_law_script", "_law_row", "_law_turn", "_law_rows", "_law_extra", "_law_lists_here", "_law_beats", "_law_many", "_law_handed", "_law_passed", "_law_rest", "_law_kept", "_law_again", "_law_twice", "_law_line", "_law_k"] ["_law_script"] (defScope s_law) := ⟨rfl, rfl, rfl, by decide +kernel, rfl, by decide +kernel, by decide +kernel⟩
def spLaw (K : PySem.W.Frag) : Sp := fun vs H Q _ => ∃ (a : Addr) (ns : List Int), vs = [.ref a] ∧ IL K H a ns ∧ ns.length ≤ 63 ∧ ∀ H' : Hp, Q (.bl true) H'
theorem ok_law {f : Addr} {fd : FuncData} (F : Fun K "law" "law" s_law f fd) (T : Txt mg) (o_Ldigits : Own P w K mg base 1 "_law_digits" ["_law_cell_here", "_law_count", "_law_size"] (spDig)) (o_Lseed : Own P w K mg base 2 "_law_seed" ["_law_script", "_law_k"] (spSeed K)) (o_Lany : Own P w K mg base 4 "_law_any" ["_law_cell_here", "_law_blocks"] (spTame)) (o_Lshort : Own P w K mg base 1 "_law_short" ["_law_runs", "_law_most"] (spShort K)) (o_Lteam : Own P w K mg base 3 "_law_team" ["_law_script", "_law_rows", "_law_first", "_law_count", "_law_most"] (spTeam K)) (o_Lsymbol : Own P w K mg base 1 "_law_symbol" ["_law_turn", "_law_digit"] (spSym)) (o_Llists : Own P w K mg base 3 "_law_lists" ["_law_script", "_law_turn"] (spLists K)) (o_Lwoven : Own P w K mg base 2 "_law_woven" ["_law_lists_here", "_law_extra", "_law_cell_here"] (spWoven K))
    (o_thin : Own P w K mg base 3 "thin" ["runs", "schedule"] (spThin K)) (o_Lints : Own P w K mg base 2 "_law_ints" ["_law_row"] (spInts K)) (o_Lprefix : Own P w K mg base 1 "_law_prefix" ["_law_run_here", "_law_schedule"] (spPre K)) (o_Lminimal : Own P w K mg base 3 "_law_minimal" ["_law_lists_here", "_law_kept", "_law_handed"] (spMin K)) : FnOk P w K mg base CX0 5 f fd ["_law_script"] (spLaw K) := by
  refine F.ok sc_law (fun vs H Q E h => ?_) (fun cdv A outer s H vs Q E hr h => ?_)
  · obtain ⟨a, ns, rfl, _⟩ := h
    rfl
  · obtain ⟨a, ns, rfl, hN, _, q⟩ := h
    refine ⟨_, (pss_cons (ps_set (i := 1) sc_law.nd rfl (.inl rfl) (pe_own o_Ldigits (hr.mono (by decide)) (by rfl) (pa_cons (pe_own o_Lseed (hr.mono (by decide)) (by rfl) (pa_cons (pv 0) (pa_cons pe_int pa_nil))) (pa_cons pe_int (pa_cons pe_int pa_nil)))))
    (pss_cons (ps_set (i := 2) sc_law.nd rfl (.inr rfl) (pe_ix ix_list (pv 1) pe_int (fun _ _ => rfl)))
    (Evl.pss_cut (ps_if (pt_cmpR op_eq (pe_op op_mod (pe_callTy call_int1 (by rfl) T.int_ (by decide +kernel) (pa_cons (pe_ix ix_list (pv 1) pe_int (fun _ _ => rfl)) pa_nil)) pe_int) pe_int (nomark _))
      (pss_cons (ps_set (i := 3) sc_law.nd rfl (.inl rfl) (pe_own o_Lany (hr.mono (by decide)) (by rfl) (pa_cons (pe_own o_Lseed (hr.mono (by decide)) (by rfl) (pa_cons (pv 0) (pa_cons pe_int pa_nil))) (pa_cons pe_int pa_nil))))
      (pss_cons (ps_set (i := 4) sc_law.nd rfl (.inl rfl) (pe_listRg rfl (by rfl) T.list_ (prg_1 (by rfl) T.range_ (pe_callB call_len_seq (by rfl) T.len PySem.boot_len (pa_cons (pv 3) pa_nil)))))
      (pss_one (ps_set (i := 5) sc_law.nd rfl (.inl rfl) (pe_own o_Lshort (hr.mono (by decide)) (by rfl) (pa_cons (pe_own o_Lteam (hr.mono (by decide)) (by rfl) (pa_cons (pv 0) (pa_cons (pv 3) (pa_cons pe_int (pa_cons (pe_op op_mod (pe_callTy call_int1 (by rfl) T.int_ (by decide +kernel) (pa_cons (pv 2) pa_nil)) pe_int) (pa_cons (pe_op op_add pe_int (pe_op op_mod (pe_callTy call_int1 (by rfl) T.int_ (by decide +kernel) (pa_cons (pe_op op_fdiv (pv 2) pe_int) pa_nil)) pe_int)) pa_nil)))))) (pa_cons pe_int pa_nil)))))))
      (pss_cons (ps_setLc (i := 4) (own := [("_law_k", 15)]) (g := gName 15) (by rfl) sc_law.nd rfl rfl (sw_true rfl rfl rfl (by decide +kernel)) (pi_range1 (by rfl) T.range_ (pa_cons pe_int pa_nil)) (blkOk_by (own := [("_law_k", 15)]) (N := ["_law_script", "_law_row", "_law_turn", "_law_rows", "_law_extra", "_law_lists_here", "_law_beats", "_law_many", "_law_handed", "_law_passed", "_law_rest", "_law_kept", "_law_again", "_law_twice", "_law_line", "_law_k"]) (sc := defScope s_law) (by decide +kernel)) (fun _ _ _ _ _ => pg_name (i := 15) sc_law.nd rfl (Or.inl rfl)) (fun _ _ _ _ _ => pts_nil) (fun _ _ _ _ _ => (pe_own o_Lsymbol (hr.mono (by decide)) (by rfl) (pa_cons (pv 2) (pa_cons (pv 15) pa_nil)))))
      (pss_one (ps_set (i := 5) sc_law.nd rfl (.inl rfl) (pe_own o_Llists (hr.mono (by decide)) (by rfl) (pa_cons (pv 0) (pa_cons (pv 2) pa_nil)))))))
    (pss_cons (ps_set (i := 6) sc_law.nd rfl (.inl rfl) (pe_own o_Lwoven (hr.mono (by decide)) (by rfl) (pa_cons (pv 5) (pa_cons (pv 4) (pa_cons (pe_own o_Lseed (hr.mono (by decide)) (by rfl) (pa_cons (pv 0) (pa_cons pe_int pa_nil))) pa_nil)))))
    (Evl.pss_cut (ps_if (pt_cmpR op_eq (pe_op op_mod (pe_callTy call_int1 (by rfl) T.int_ (by decide +kernel) (pa_cons (pe_ix ix_list (pv 1) pe_int (fun _ _ => rfl)) pa_nil)) pe_int) pe_int (nomark _))
      (pss_cons (ps_set (i := 7) sc_law.nd rfl (.inr rfl) (pe_op op_add pe_int (pe_op op_mod (pe_callTy call_int1 (by rfl) T.int_ (by decide +kernel) (pa_cons (pe_ix ix_list (pv 1) pe_int (fun _ _ => rfl)) pa_nil)) pe_int)))
      (pss_cons (ps_setLc (i := 5) (own := [("_law_line", 14)]) (g := gName 14) (by rfl) sc_law.nd rfl rfl (sw_true rfl rfl rfl (by decide +kernel)) (pi_list (pe_slice sl_list (pv 5) po_none (po_some pe_int))) (blkOk_by (own := [("_law_line", 14)]) (N := ["_law_script", "_law_row", "_law_turn", "_law_rows", "_law_extra", "_law_lists_here", "_law_beats", "_law_many", "_law_handed", "_law_passed", "_law_rest", "_law_kept", "_law_again", "_law_twice", "_law_line", "_law_k"]) (sc := defScope s_law) (by decide +kernel)) (fun _ _ _ _ _ => pg_name (i := 14) sc_law.nd rfl (Or.inl rfl)) (fun _ _ _ _ _ => pts_nil) (fun _ _ _ _ _ => (pe_op op_rep (pe_slice (r := rSlL K) sl_list (pv 14) po_none (po_some pe_int)) (pv 7))))
      (pss_one (ps_set (i := 6) sc_law.nd rfl (.inl rfl) (pe_op op_rep (pv 6) (pv 7))))))
      pss_nil)
    (pss_cons (ps_setLc (i := 8) (own := [("_law_line", 14)]) (g := gName 14) (by rfl) sc_law.nd rfl rfl (sw_true rfl rfl rfl (by decide +kernel)) (pi_list (pv 5)) (blkOk_by (own := [("_law_line", 14)]) (N := ["_law_script", "_law_row", "_law_turn", "_law_rows", "_law_extra", "_law_lists_here", "_law_beats", "_law_many", "_law_handed", "_law_passed", "_law_rest", "_law_kept", "_law_again", "_law_twice", "_law_line", "_law_k"]) (sc := defScope s_law) (by decide +kernel)) (fun _ _ _ _ _ => pg_name (i := 14) sc_law.nd rfl (Or.inl rfl)) (fun _ _ _ _ _ => pts_nil) (fun _ _ _ _ _ => (pe_callTy (r := rLs K) call_list_of (by rfl) T.list_ (by decide +kernel) (pa_cons (pv 14) pa_nil))))
    (pss_cons (ps_set (i := 9) sc_law.nd rfl (.inl rfl) (pe_callTy call_list_of (by rfl) T.list_ (by decide +kernel) (pa_cons (pv 6) pa_nil)))
    (pss_cons (ps_set (i := 10) sc_law.nd rfl (.inl rfl) (pe_own o_thin (hr.mono (by decide)) (by rfl) (pa_cons (pv 8) (pa_cons (pv 9) pa_nil))))
    (pss_cons (ps_if (pt_not (pt_val (pe_own o_Lints (hr.mono (by decide)) (by rfl) (pa_cons (pv 10) pa_nil))))
      (pss_one (ps_ret pe_bl))
      pss_nil)
    (pss_cons (ps_set (i := 11) sc_law.nd rfl (.inl rfl) (pe_callTy call_list_of (by rfl) T.list_ (by decide +kernel) (pa_cons (pv 10) pa_nil)))
    (pss_cons (ps_expr (pe_bm PySem.F.plainAttrs_list PySem.F.slot_list_append PySem.F.type_list_append mt_append (pv 10) (pa_cons pe_int pa_nil)))
    (pss_cons (ps_if (PW.pt (pw_or (pt_cmpR (op_neD hr.units) (pv 8) (pv 5) (nomark _)) (pw_or (pt_cmpR (op_neD hr.units) (pv 9) (pv 6) (nomark _)) (pw_or1 (pt_cmpR op_lt (pe_own o_Lprefix (hr.mono (by decide)) (by rfl) (pa_cons (pv 11) (pa_cons (pv 6) pa_nil))) (pe_callB call_len_seq (by rfl) T.len PySem.boot_len (pa_cons (pv 11) pa_nil)) (nomark _))))))
      (pss_one (ps_ret pe_bl))
      pss_nil)
    (pss_cons (ps_if (pt_not (pt_val (pe_own o_Lminimal (hr.mono (by decide)) (by rfl) (pa_cons (pv 5) (pa_cons (pv 11) (pa_cons (pv 8) pa_nil))))))
      (pss_one (ps_ret pe_bl))
      pss_nil)
    (pss_cons (ps_set (i := 12) sc_law.nd rfl (.inl rfl) (pe_own o_thin (hr.mono (by decide)) (by rfl) (pa_cons (pv 8) (pa_cons (pe_callTy call_list_of (by rfl) T.list_ (by decide +kernel) (pa_cons (pv 11) pa_nil)) pa_nil))))
    (pss_cons (ps_set (i := 13) sc_law.nd rfl (.inl rfl) (pe_own o_thin (hr.mono (by decide)) (by rfl) (pa_cons (pv 8) (pa_cons (pv 9) pa_nil))))
    (pss_one (ps_ret (pe_and (pe_own o_Lints (hr.mono (by decide)) (by rfl) (pa_cons (pv 12) pa_nil)) (pe_and (pe_cmpR (op_eqD hr.units) (pv 12) (pv 11) (nomark _)) (pe_and (pe_own o_Lints (hr.mono (by decide)) (by rfl) (pa_cons (pv 13) pa_nil)) (pe_one (pe_cmpR (op_eqD hr.units) (pv 13) (pv 11) (nomark _))))))))))))))))))))))), ?_⟩
    walk_at "rd"
    refine ⟨a, ns, 0, rfl, hN, by omega, fun z0 H1 s1 => ?_⟩
    walk_at "rd"
    refine ⟨z0, 55440, 4, rfl, by decide, by decide, by decide, fun H2 rA ds s2 nr hrA hds => ?_⟩
    have hN2 := (s1.trans s2).seq hN
    obtain ⟨t, ht0⟩ := some_at (xs := ds) (j := 0) (by rw [hds.1]; omega)
    obtain ⟨d1, hd1⟩ := some_at (xs := ds) (j := 1) (by rw [hds.1]; omega)
    obtain ⟨d2, hd2⟩ := some_at (xs := ds) (j := 2) (by rw [hds.1]; omega)
    obtain ⟨d3, hd3⟩ := some_at (xs := ds) (j := 3) (by rw [hds.1]; omega)
    have at0 : atI (ds.map V.int) 0 = some (V.int t) := at_int (j := 0) ht0
    have at1 : atI (ds.map V.int) 1 = some (V.int d1) := at_int (j := 1) hd1
    have at2 : atI (ds.map V.int) 2 = some (V.int d2) := at_int (j := 2) hd2
    have at3 : atI (ds.map V.int) 3 = some (V.int d3) := at_int (j := 3) hd3
    have hD2 := il_of (K := K) hrA
    refine ⟨_, rfl, _, _, _, _, rfl, rfl, hD2, at0, ?_⟩
    refine ⟨fun σ' H' => Same H2 H' ∧ ∃ (E L : Addr) (v3 : Option V) (ex : List Int) (rs : List (List Int)), σ' = [some (.ref a), some (.ref rA), some (.int t), v3, some (.ref E), some (.ref L), none, none, none, none, none, none, none, none, none, none] ∧ IL K H' E ex ∧ 0 < ex.length ∧ LL K H' L rs ∧ rs.length ≤ 1000 ∧ total rs ≤ 28, ?_, ?_⟩
    · refine ⟨_, rfl, _, _, _, _, rfl, rfl, hD2, at1, ?_⟩
      walk_at "rd"
      refine ite2 (fun e1 => ?_) (fun e1 => ?_)
      · walk_at "rd"
        refine ⟨a, ns, 1, rfl, hN2, by omega, fun z1 H3 s3 => ?_⟩
        walk_at "rd"
        refine fun H4 R n s4 nR hrows n0 n39 => ?_
        obtain ⟨qs, hq, lq, hok⟩ := id hrows
        have hQ := il_of (K := K) hq
        walk_at "rd"
        rw [map_len, lq]
        refine ⟨⟨by omega, by omega, by omega, by omega, by omega⟩, fun E nE => ?_⟩
        rw [rg_up n]
        have s5 := same_new (o := .lst ((up (List.range n)).map V.int)) nE
        have hE := upd_same (H := H4) (a := E) (o := .lst ((up (List.range n)).map V.int))
        generalize upd H4 E (.lst ((up (List.range n)).map V.int)) = H5 at s5 hE ⊢
        have s25 : Same H2 H5 := (s3.trans s4).trans s5
        walk_at "rd"
        refine ⟨a, R, ns, n, 2, _, _, rfl, s25.seq hN2, hrows.same s5, n0, n39, by omega, by omega, by omega, by omega, by omega, fun H6 Tm rs0 s6 nT hT lT => ?_⟩
        walk_at "rd"
        refine ⟨Tm, rs0, 28, rfl, hT, lT, fun H7 L rs s7 nL hL lrs htot => ?_⟩
        exact ⟨(s25.trans s6).trans s7, E, L, _, up (List.range n), rs, rfl, (s6.trans s7).seq (il_of hE), by rw [map_len, List.length_range]; exact n0, hL, by omega, htot⟩
      · walk_at "rd"
        refine ⟨by decide, by decide, fun E nE => lc_rng (n := 6) (fun i H' => Same H2 H' ∧ ∃ xs : List Int, xs.length = i ∧ H' E = some (.lst (xs.map V.int)))
          ⟨same_new nE, [], rfl, upd_same⟩ ?_ ?_⟩
        · rintro i H' hi ⟨sm, xs, hxs, hE⟩
          refine ⟨rfl, ?_⟩
          walk_at "rd"
          refine ⟨t, _, rfl, fun z => ?_⟩
          exact ⟨_, hE, szl (by rw [map_len]; omega), same_mut sm nE, xs ++ [z], by rw [List.length_append, List.length_singleton, hxs], by rw [upd_same, snoc_map]⟩
        · rintro H3 ⟨s3, xs, hxs, hE⟩
          walk_at "rd"
          refine ⟨a, ns, t, rfl, s3.seq hN2, fun H4 L rs s4 nL hL lrs htot => ?_⟩
          exact ⟨s3.trans s4, E, L, _, xs, rs, rfl, s4.seq (il_of hE), by omega, hL, by omega, htot⟩
    · rintro σ' H3 ⟨s3, E, L, v3, ex, rs, rfl, hE, lE, hL, lrs, htot⟩
      walk_at "rd"
      refine ⟨a, ns, 8, rfl, s3.seq hN2, by omega, fun z8 H4 s4 => ?_⟩
      walk_at "rd"
      refine ⟨L, E, rs, ex, z8, rfl, hL.same s4, s4.seq hE, lrs, lE, htot, fun H5 B bs s5 nB hB lbs hsub => ?_⟩
      have hL5 := (hL.same s4).same s5
      have s25 : Same H2 H5 := (s3.trans s4).trans s5
      have hD5 := s25.seq hD2
      refine ⟨fun σ' H' => Same H2 H' ∧ ∃ (L B : Addr) (v7 : Option V) (rs : List (List Int)) (bs : List Int), σ' = [some (.ref a), some (.ref rA), some (.int t), v3, some (.ref E), some (.ref L), some (.ref B), v7, none, none, none, none, none, none, none, none] ∧ LL K H' L rs ∧ IL K H' B bs ∧ rs.length ≤ 1000 ∧ bs.length ≤ 1000 ∧ ∀ r ∈ rs, r.Sublist bs, ?_, ?_⟩
      · refine ⟨_, rfl, _, _, _, _, rfl, rfl, hD5, at2, ?_⟩
        walk_at "rd"
        refine ite2 (fun e1 => ?_) (fun e1 => ?_)
        · refine ⟨_, rfl, _, _, _, _, rfl, rfl, hD5, at3, ?_⟩
          walk_at "rd"
          have hm7 : 0 ≤ d3 % 7 ∧ d3 % 7 < 7 := by omega
          obtain ⟨m, hm⟩ : ∃ m : Nat, 2 + d3 % 7 = (m : Int) := ⟨(2 + d3 % 7).toNat, by omega⟩
          have hm8 : m ≤ 8 := by omega
          obtain ⟨as, hLa⟩ := hL5
          have hLl := hLa.lst
          walk_at "rd"
          intro p1 n1
          rw [cutI_take V.ref as (i := 2) (k := 2) rfl]
          have s6 := same_new (o := .lst ((as.take 2).map V.ref)) n1
          have hp1 := upd_same (H := H5) (a := p1) (o := .lst ((as.take 2).map V.ref))
          generalize upd H5 p1 (.lst ((as.take 2).map V.ref)) = H6 at s6 hp1 ⊢
          have hT := (hLa.same s6).take 2 (il_of (K := K) hp1)
          have hTl := hT.lst
          walk_at "rd"
          refine ⟨⟨_, hTl⟩, fun D nD => lc_list (K := K) (a := p1) (xs := (as.take 2).map V.ref) (fun i H' => Same H6 H' ∧ ∃ (ps : List Addr), FL H6 H' D ps (((rs.take 2).take i).map fun r => rep m (r.take 4)))
            ⟨same_new nD, [], FL.nil nD upd_same⟩ (fun i H' _ ⟨e, _⟩ => e.seq hTl) ?_ ?_⟩
          · rintro i y H' hi ⟨sm, ps, f1⟩
            obtain ⟨p, rfl, hp⟩ := map_at_ref hi
            obtain ⟨r, hr2, hP⟩ := hT.row_at hp
            have hP2 := sm.seq hP
            have lps : ps.length ≤ 2 := by
              rw [f1.len, map_len, List.length_take, List.length_take]
              omega
            refine ⟨rfl, ?_⟩
            walk_at "rd"
            intro p2 n2
            rw [cutI_take V.int r (i := 4) (k := 4) rfl]
            have j1 := same_new (o := .lst ((r.take 4).map V.int)) n2
            have hp2 := upd_same (H := H') (a := p2) (o := .lst ((r.take 4).map V.int))
            generalize upd H' p2 (.lst ((r.take 4).map V.int)) = J1 at j1 hp2 ⊢
            walk_at "rd"
            refine ⟨p2, _, _, rfl, rfl, hp2, by omega, by omega, ?_, fun p3 n3 => ?_⟩
            · rw [map_len, List.length_take]
              have h1 : min 4 r.length ≤ 4 := Nat.min_le_left _ _
              have h2 : (2 + d3 % 7).toNat ≤ 8 := by omega
              exact sz (Nat.le_trans (Nat.mul_le_mul h1 h2) (by decide))
            rw [rep_ints hm]
            have j2 := same_new (o := .lst ((rep m (r.take 4)).map V.int)) n3
            have hp3 := upd_same (H := J1) (a := p3) (o := .lst ((rep m (r.take 4)).map V.int))
            generalize upd J1 p3 (.lst ((rep m (r.take 4)).map V.int)) = J2 at j2 hp3 ⊢
            have f2 := f1.push sm (j1.trans j2) (j1.free n3) hp3
            refine ⟨_, (j1.trans j2) _ _ f1.d, szl (by rw [map_len]; omega), same_mut ((sm.trans j1).trans j2) nD, ps ++ [p3], ?_⟩
            have e : ((rs.take 2).take (i + 1)).map (fun r => rep m (r.take 4)) = ((rs.take 2).take i).map (fun r => rep m (r.take 4)) ++ [rep m (r.take 4)] := by
              rw [List.take_add_one, hr2, List.map_append]
              rfl
            rw [e]
            exact f2
          · rintro H7 ⟨s7, ps, f1⟩
            have e : (rs.take 2).take ((as.take 2).map V.ref).length = rs.take 2 := by
              rw [map_len, hT.len, List.take_length]
            rw [e] at f1
            have hB7 := (s6.trans s7) _ _ hB
            walk_at "rd"
            refine ⟨B, _, _, rfl, rfl, hB7, by omega, by omega, ?_, fun B2 nB2 => ?_⟩
            · rw [map_len]
              have h2 : (2 + d3 % 7).toNat ≤ 8 := by omega
              exact sz (Nat.le_trans (Nat.mul_le_mul lbs h2) (by decide))
            rw [rep_ints hm]
            have s8 := same_new (o := .lst ((rep m bs).map V.int)) nB2
            refine ⟨((s25.trans s6).trans s7).trans s8, D, B2, _, (rs.take 2).map (fun r => rep m (r.take 4)), rep m bs, rfl, ⟨ps, (f1.same s8).ll⟩, il_of upd_same, by rw [map_len, List.length_take]; omega, ?_, fun r hr2 => ?_⟩
            · rw [rep_len]
              exact Nat.le_trans (Nat.mul_le_mul hm8 lbs) (by decide)
            · obtain ⟨r0, h0, rfl⟩ := List.mem_map.mp hr2
              exact rep_sub ((List.take_sublist 4 r0).trans (hsub r0 (List.mem_of_mem_take h0))) m
        · exact ⟨s25, L, B, _, rs, bs, rfl, hL5, il_of hB, lrs, by omega, hsub⟩
      clear hL hE hL5 hB hsub lbs nB htot lrs lE
      rintro σ' H6 ⟨s6, L, B, v7, rs, bs, rfl, hL, hB, lrs, lbs, hsub⟩
      obtain ⟨as, hLa⟩ := id hL
      have hLl := hLa.lst
      walk_at "rd"
      refine ⟨⟨_, hLl⟩, fun D nD => lc_list (K := K) (a := L) (xs := as.map V.ref) (fun i H' => Same H6 H' ∧ ∃ (ps : List Addr), FL H6 H' D ps (rs.take i))
        ⟨same_new nD, [], FL.nil nD upd_same⟩ (fun i H' _ ⟨e, _⟩ => e.seq hLl) ?_ ?_⟩
      · rintro i y H' hi ⟨sm, ps, f1⟩
        obtain ⟨p, rfl, hp⟩ := map_at_ref hi
        obtain ⟨r, hr2, hP⟩ := hLa.row_at hp
        have hP2 := sm.seq hP
        refine ⟨rfl, ?_⟩
        walk_at "rd"
        intro p3 n3
        have j2 := same_new (o := .lst (r.map V.int)) n3
        have f2 := f1.push sm j2 n3 upd_same
        refine ⟨_, j2 _ _ f1.d, szl ?_, same_mut (sm.trans j2) nD, ps ++ [p3], ?_⟩
        · rw [map_len, f1.len, List.length_take]
          omega
        · have e : rs.take (i + 1) = rs.take i ++ [r] := by
            rw [List.take_add_one, hr2]
            rfl
          rw [e]
          exact f2
      · rintro H7 ⟨s7, ps, f7⟩
        have e : rs.take (as.map V.ref).length = rs := by
          rw [map_len, hLa.len, List.take_length]
        rw [e] at f7
        have hH7 : LL K H7 D rs := ⟨ps, f7.ll⟩
        have hL7 := hL.same s7
        have hB7 := s7.seq hB
        walk_at "rd"
        intro Pp nP
        have s8 := same_new (o := .lst (bs.map V.int)) nP
        have hP8 := upd_same (H := H7) (a := Pp) (o := .lst (bs.map V.int))
        generalize upd H7 Pp (.lst (bs.map V.int)) = H8 at s8 hP8 ⊢
        have hH8 := hH7.same s8
        have hL8 := hL7.same s8
        have hB8 := s8.seq hB7
        have hPl := il_of (K := K) hP8
        obtain ⟨k1, k2, k3, k4⟩ := thin_law hsub
        have kl : (thinR bs rs).length ≤ 1000 := Nat.le_trans k1.length_le lbs
        walk_at "rd"
        refine ⟨D, Pp, rs, bs, rfl, hH8, hPl, lrs, lbs, hsub, fun H9 R s9 nR hR => ?_⟩
        generalize hks : thinR bs rs = ks at k1 k2 k3 k4 kl hR
        have hRl := il_of (K := K) hR
        walk_at "rd"
        intro Kp nK
        have RK : Kp ≠ R := (ne_of_none hR nK).symm
        have s10 := same_new (o := .lst (ks.map V.int)) nK
        have hK10 := upd_same (H := H9) (a := Kp) (o := .lst (ks.map V.int))
        have hR10 := s10 _ _ hR
        generalize upd H9 Kp (.lst (ks.map V.int)) = H10 at s10 hK10 hR10 ⊢
        have hR10l := il_of (K := K) hR10
        have hsz : (ks.map V.int).length < sizeLine := szl (by rw [map_len]; omega)
        walk_at "rd"
        have s11 : Same H8 (upd H10 R (.lst (ks.map V.int ++ [V.int 7]))) := same_mut (s9.trans s10) nR
        have hK11 : (upd H10 R (.lst (ks.map V.int ++ [V.int 7]))) Kp = some (.lst (ks.map V.int)) := by
          rw [upd_ne RK]
          exact hK10
        generalize upd H10 R (.lst (ks.map V.int ++ [V.int 7])) = H11 at s11 hK11 ⊢
        have hH11 := hH8.same s11
        have hL11 := hL8.same s11
        have hB11 := s11.seq hB8
        have hP11 := s11.seq hPl
        have hK11l := il_of (K := K) hK11
        walk_at "rd"
        refine ⟨_, _, dp_ll hH11, dp_ll hL11, ll_shaped _, ll_shaped _, ?_⟩
        rw [ll_eqv]
        walk_at "rd"
        refine ⟨_, _, dp_il hP11, dp_il hB11, il_shaped _, il_shaped _, ?_⟩
        rw [il_eqv]
        walk_at "rd"
        refine ⟨Kp, B, ks, bs, rfl, hK11l, hB11, fun d hd hd2 => ?_⟩
        walk_at "rd"
        refine ite2 (fun e1 => ?_) (fun e1 => ?_)
        · have h1 := of_decide_eq_true e1
          rw [map_len] at h1
          exact absurd k1 (hd2.mp (by omega))
        walk_at "rd"
        refine ⟨L, Kp, D, rs, ks, rfl, hL11, hK11l, hH11, kl, k2, k3, fun H12 s12 => ?_⟩
        have hH12 := hH11.same s12
        have hK12 := s12.seq hK11l
        have hP12 := s12.seq hP11
        walk_at "rd"
        intro Kc nC
        have s13 := same_new (o := .lst (ks.map V.int)) nC
        have hC13 := upd_same (H := H12) (a := Kc) (o := .lst (ks.map V.int))
        generalize upd H12 Kc (.lst (ks.map V.int)) = H13 at s13 hC13 ⊢
        refine ⟨D, Kc, rs, ks, rfl, hH12.same s13, il_of hC13, lrs, kl, k2, fun H14 A1 s14 nA hA => ?_⟩
        rw [k4] at hA
        have hH14 := (hH12.same s13).same s14
        have hP14 := (s13.trans s14).seq hP12
        walk_at "rd"
        refine ⟨D, Pp, rs, bs, rfl, hH14, hP14, lrs, lbs, hsub, fun H15 A2 s15 nA2 hA2 => ?_⟩
        rw [hks] at hA2
        have hA15 := s15 _ _ hA
        have hK15 := ((s13.trans s14).trans s15).seq hK12
        walk_at "rd"
        refine ⟨_, _, dp_il (il_of hA15), dp_il hK15, il_shaped _, il_shaped _, ?_⟩
        rw [il_eqv]
        walk_at "rd"
        refine ⟨_, _, dp_il (il_of hA2), dp_il hK15, il_shaped _, il_shaped _, ?_⟩
        rw [il_eqv]
        exact q _
end
end K35
namespace K35
open PySem PySem.Spec PyProof.Rows L2
local macro_rules | `(tactic| walk_at "rd") => `(tactic| repeat (first
  | refine ⟨_, rfl, ?_⟩
  | refine ⟨_, _, rfl, rfl, ?_⟩
  | refine ⟨(show scal _ _ = true from rfl), ?_⟩
  | refine ⟨_, _, rfl, .inl (by assumption), ?_⟩
  | refine ⟨_, _, rfl, (by assumption), ?_⟩
  | refine ⟨_, _, _, _, rfl, rfl, (by assumption), at_int (by assumption), ?_⟩
  | refine ⟨_, _, _, _, rfl, rfl, (by assumption), at_ref (by assumption), ?_⟩
  | refine .inl ⟨_, rfl, ?_⟩
  | refine ⟨(show (0 : Int) < _ by first | decide | assumption | omega), ?_⟩
  | refine ⟨(show CDiv _ _ from ⟨by first | decide | assumption | omega, by first | decide | assumption | omega⟩), ?_⟩
  | refine ⟨(show CPow _ _ from ⟨by decide, by decide, by decide⟩), ?_⟩
  | refine ⟨(show CMul _ _ from .inl ⟨by first | decide | omega, by first | decide | omega⟩), ?_⟩
  | refine ⟨(show CMul _ _ from .inr ⟨by first | decide | omega, by first | decide | omega⟩), ?_⟩
  | refine ⟨.inl ⟨rfl, _, (by assumption)⟩, ?_⟩
  | refine ⟨_, _, _, rfl, rfl, (by assumption), (by assumption), ?_⟩))
/-- a def stands in what the top has written -/
structure DefIn (K : PySem.W.Frag) (x : Str) (st : Stmt) : Prop where
  ex : ∃ (f : Addr) (oc : Value) (od : Option Addr) (kV dc pm : Value) (an : Option Addr) (cd ct : Value) (sl : Array (Option Value)), PySem.W.nsIn K mainGlobals x = some (some (.ref f)) ∧
    K.lookup f = some ⟨oc, od, .func (PySem.W.fnOf x x (defArgs st) (defBody st) (defScope st) .none kV dc pm an cd ct), sl⟩ ∧ PySem.W.codeIn K cd x = true ∧ PySem.W.keepIn K (.ref f) = true
theorem DefIn.of {K : PySem.W.Frag} {x : Str} {st : Stmt} {f : Addr} {oc : Value} {od : Option Addr} {kV dc pm : Value} {an : Option Addr} {cd ct : Value} {sl : Array (Option Value)} (a : PySem.W.nsIn K mainGlobals x = some (some (.ref f)))
    (l : K.lookup f = some ⟨oc, od, .func (PySem.W.fnOf x x (defArgs st) (defBody st) (defScope st) .none kV dc pm an cd ct), sl⟩) (c : PySem.W.codeIn K cd x = true) (k : PySem.W.keepIn K (.ref f) = true) : DefIn K x st :=
  ⟨f, oc, od, kV, dc, pm, an, cd, ct, sl, a, l, c, k⟩
theorem own_of {P : Program} {w : World} {K : PySem.W.Frag} {mg : Str → Option Value} {base h : Heap} {k : Nat} {x : Str} {st : Stmt} {ps : List Str} {sp : Sp} (D : DefIn K x st) (X : K.In h) (G : h.Ns mainGlobals mg)
    (hb : ∀ (kV doc pm : Value) (an : Option Addr) (cdv ct : Value) (us : List Value), us.length = ps.length → bindArgs (PySem.W.fnOf x x (defArgs st) (defBody st) (defScope st) .none kV doc pm an cdv ct) ⟨us, []⟩ = pure (ps.zip us))
    (F : ∀ (f : Addr) (fd : FuncData), Fun K x x st f fd → FnOk P w K mg base CX0 k f fd ps sp) : Own P w K mg base k x ps sp := by
  obtain ⟨f, oc, od, kV, dc, pm, an, cd, ct, sl, ha, hl, hc, hk⟩ := D.ex
  have Fn := fun_mk (st := st) hl hc hk
  exact ⟨f, _, F f _ Fn, PySem.W.mg_of X G ha, hk, Fn.binds hb⟩
/-! ### what the top has written; the law's own head -/
theorem all_mk {l : PySem.W.OpenLaw} {w : World} {K : PySem.W.Frag} {h : Heap} {mg : Str → Option Value} {fa : Addr} (X : K.In h) (G : h.Ns mainGlobals mg) (hfa : mg "law" = some (.ref fa))
    (d_prefixlength : DefIn K "prefix_length" s_prefixlength)
    (d_iscomplete : DefIn K "is_complete" s_iscomplete)
    (d_latestplaces : DefIn K "latest_places" s_latestplaces)
    (d_isneeded : DefIn K "is_needed" s_isneeded)
    (d_thin : DefIn K "thin" s_thin)
    (d_Lcell : DefIn K "_law_cell" s_Lcell)
    (d_Ldigits : DefIn K "_law_digits" s_Ldigits)
    (d_Lseed : DefIn K "_law_seed" s_Lseed)
    (d_Lword : DefIn K "_law_word" s_Lword)
    (d_Lprice : DefIn K "_law_price" s_Lprice)
    (d_Lopen : DefIn K "_law_open" s_Lopen)
    (d_Lblock : DefIn K "_law_block" s_Lblock)
    (d_Lexit : DefIn K "_law_exit" s_Lexit)
    (d_Ltame : DefIn K "_law_tame" s_Ltame)
    (d_Lnumbered : DefIn K "_law_numbered" s_Lnumbered)
    (d_Lany : DefIn K "_law_any" s_Lany)
    (d_Lhome : DefIn K "_law_home" s_Lhome)
    (d_Lrun : DefIn K "_law_run" s_Lrun)
    (d_Lteam : DefIn K "_law_team" s_Lteam)
    (d_Lprefix : DefIn K "_law_prefix" s_Lprefix)
    (d_Lisint : DefIn K "_law_is_int" s_Lisint)
    (d_Lints : DefIn K "_law_ints" s_Lints)
    (d_Lwhole : DefIn K "_law_whole" s_Lwhole)
    (d_Lsymbol : DefIn K "_law_symbol" s_Lsymbol)
    (d_Llists : DefIn K "_law_lists" s_Llists)
    (d_Lshort : DefIn K "_law_short" s_Lshort)
    (d_Lwoven : DefIn K "_law_woven" s_Lwoven)
    (d_Lminimal : DefIn K "_law_minimal" s_Lminimal)
    (d_law : DefIn K "law" s_law)
    (z_len : PySem.W.nsIn K mainGlobals "len" = some none) (z_range : PySem.W.nsIn K mainGlobals "range" = some none) (z_int : PySem.W.nsIn K mainGlobals "int" = some none) (z_bool : PySem.W.nsIn K mainGlobals "bool" = some none) (z_list : PySem.W.nsIn K mainGlobals "list" = some none) (z_tuple : PySem.W.nsIn K mainGlobals "tuple" = some none) (z_abs : PySem.W.nsIn K mainGlobals "abs" = some none) (z_sorted : PySem.W.nsIn K mainGlobals "sorted" = some none) (z_isinstance : PySem.W.nsIn K mainGlobals "isinstance" = some none) :
    ∃ fd : FuncData, (∀ (s : Shared) (v : Value), BindsTo s fd ⟨[v], []⟩ [("_law_script", v)]) ∧ ∀ base : Heap, K.In base → base.Ns mainGlobals mg → FnOk l.prog w K mg base CX0 5 fa fd ["_law_script"] (spLaw K) := by
  have T : Txt mg := ⟨PySem.W.mg_none_of X G z_len, PySem.W.mg_none_of X G z_range, PySem.W.mg_none_of X G z_int, PySem.W.mg_none_of X G z_bool, PySem.W.mg_none_of X G z_list, PySem.W.mg_none_of X G z_tuple, PySem.W.mg_none_of X G z_abs, PySem.W.mg_none_of X G z_sorted, PySem.W.mg_none_of X G z_isinstance⟩
  obtain ⟨f, oc, od, kV, dc, pm, an, cd, ct, sl, ha, hl, hc, hk⟩ := d_law.ex
  have e := hfa.symm.trans (PySem.W.mg_of X G ha)
  cases e
  refine ⟨PySem.W.fnOf "law" "law" (defArgs s_law) (defBody s_law) (defScope s_law) .none kV dc pm an cd ct, fun s v => .of_eq rfl, fun base _ _ => ?_⟩
  have o_Ldigits : Own l.prog w K mg base 1 "_law_digits" ["_law_cell_here", "_law_count", "_law_size"] (spDig) := own_of d_Ldigits X G (fun _ _ _ _ _ _ us hl => match us, hl with | [_, _, _], _ => rfl) fun f fd F => ok_Ldigits F T
  have o_Lcell : Own l.prog w K mg base 1 "_law_cell" ["_law_script", "_law_k"] (spCell K) := own_of d_Lcell X G (fun _ _ _ _ _ _ us hl => match us, hl with | [_, _], _ => rfl) fun f fd F => ok_Lcell F T
  have o_Lseed : Own l.prog w K mg base 2 "_law_seed" ["_law_script", "_law_k"] (spSeed K) := own_of d_Lseed X G (fun _ _ _ _ _ _ us hl => match us, hl with | [_, _], _ => rfl) fun f fd F => ok_Lseed F T o_Lcell o_Ldigits
  have o_Lopen : Own l.prog w K mg base 1 "_law_open" ["_law_nexts", "_law_source"] (spOpen K) := own_of d_Lopen X G (fun _ _ _ _ _ _ us hl => match us, hl with | [_, _], _ => rfl) fun f fd F => ok_Lopen F T
  have o_Lblock : Own l.prog w K mg base 2 "_law_block" ["_law_nexts", "_law_digit", "_law_row", "_law_first"] (spBlock K) := own_of d_Lblock X G (fun _ _ _ _ _ _ us hl => match us, hl with | [_, _, _, _], _ => rfl) fun f fd F => ok_Lblock F T o_Lopen
  have o_Lexit : Own l.prog w K mg base 2 "_law_exit" ["_law_nexts", "_law_before", "_law_size", "_law_digit"] (spExit K) := own_of d_Lexit X G (fun _ _ _ _ _ _ us hl => match us, hl with | [_, _, _, _], _ => rfl) fun f fd F => ok_Lexit F T o_Lopen
  have o_Lword : Own l.prog w K mg base 1 "_law_word" ["_law_digit"] (spWord) := own_of d_Lword X G (fun _ _ _ _ _ _ us hl => match us, hl with | [_], _ => rfl) fun f fd F => ok_Lword F T
  have o_Lprice : Own l.prog w K mg base 1 "_law_price" ["_law_digit"] (spPrice) := own_of d_Lprice X G (fun _ _ _ _ _ _ us hl => match us, hl with | [_], _ => rfl) fun f fd F => ok_Lprice F T
  have o_Lnumbered : Own l.prog w K mg base 2 "_law_numbered" ["_law_nexts", "_law_row"] (spNum K) := own_of d_Lnumbered X G (fun _ _ _ _ _ _ us hl => match us, hl with | [_, _], _ => rfl) fun f fd F => ok_Lnumbered F T o_Lword o_Lprice
  have o_Ltame : Own l.prog w K mg base 3 "_law_tame" ["_law_cell_here", "_law_blocks"] (spTame) := own_of d_Ltame X G (fun _ _ _ _ _ _ us hl => match us, hl with | [_, _], _ => rfl) fun f fd F => ok_Ltame F T o_Ldigits o_Lblock o_Lexit o_Lnumbered
  have o_Lany : Own l.prog w K mg base 4 "_law_any" ["_law_cell_here", "_law_blocks"] (spTame) := own_of d_Lany X G (fun _ _ _ _ _ _ us hl => match us, hl with | [_, _], _ => rfl) fun f fd F => ok_Lany F T o_Ltame o_Ldigits
  have o_Lshort : Own l.prog w K mg base 1 "_law_short" ["_law_runs", "_law_most"] (spShort K) := own_of d_Lshort X G (fun _ _ _ _ _ _ us hl => match us, hl with | [_, _], _ => rfl) fun f fd F => ok_Lshort F T
  have o_Lhome : Own l.prog w K mg base 1 "_law_home" ["_law_rows"] (spHome K) := own_of d_Lhome X G (fun _ _ _ _ _ _ us hl => match us, hl with | [_], _ => rfl) fun f fd F => ok_Lhome F T
  have o_Lrun : Own l.prog w K mg base 2 "_law_run" ["_law_rows", "_law_cell_here", "_law_most"] (spRun K) := own_of d_Lrun X G (fun _ _ _ _ _ _ us hl => match us, hl with | [_, _, _], _ => rfl) fun f fd F => ok_Lrun F T o_Lhome o_Ldigits
  have o_Lteam : Own l.prog w K mg base 3 "_law_team" ["_law_script", "_law_rows", "_law_first", "_law_count", "_law_most"] (spTeam K) := own_of d_Lteam X G (fun _ _ _ _ _ _ us hl => match us, hl with | [_, _, _, _, _], _ => rfl) fun f fd F => ok_Lteam F T o_Lrun o_Lseed
  have o_Lsymbol : Own l.prog w K mg base 1 "_law_symbol" ["_law_turn", "_law_digit"] (spSym) := own_of d_Lsymbol X G (fun _ _ _ _ _ _ us hl => match us, hl with | [_, _], _ => rfl) fun f fd F => ok_Lsymbol F T
  have o_Llists : Own l.prog w K mg base 3 "_law_lists" ["_law_script", "_law_turn"] (spLists K) := own_of d_Llists X G (fun _ _ _ _ _ _ us hl => match us, hl with | [_, _], _ => rfl) fun f fd F => ok_Llists F T o_Ldigits o_Lseed o_Lsymbol
  have o_Lwoven : Own l.prog w K mg base 2 "_law_woven" ["_law_lists_here", "_law_extra", "_law_cell_here"] (spWoven K) := own_of d_Lwoven X G (fun _ _ _ _ _ _ us hl => match us, hl with | [_, _, _], _ => rfl) fun f fd F => ok_Lwoven F T o_Ldigits
  have o_prefixlength : Own l.prog w K mg base 1 "prefix_length" ["run", "schedule"] (spPre K) := own_of d_prefixlength X G (fun _ _ _ _ _ _ us hl => match us, hl with | [_, _], _ => rfl) fun f fd F => ok_prefixlength F T
  have o_iscomplete : Own l.prog w K mg base 2 "is_complete" ["runs", "schedule"] (spAll K) := own_of d_iscomplete X G (fun _ _ _ _ _ _ us hl => match us, hl with | [_, _], _ => rfl) fun f fd F => ok_iscomplete F T o_prefixlength
  have o_latestplaces : Own l.prog w K mg base 1 "latest_places" ["run", "schedule"] (spLat K) := own_of d_latestplaces X G (fun _ _ _ _ _ _ us hl => match us, hl with | [_, _], _ => rfl) fun f fd F => ok_latestplaces F T
  have o_isneeded : Own l.prog w K mg base 1 "is_needed" ["done", "latest", "index"] (spNeed K) := own_of d_isneeded X G (fun _ _ _ _ _ _ us hl => match us, hl with | [_, _, _], _ => rfl) fun f fd F => ok_isneeded F T
  have o_thin : Own l.prog w K mg base 3 "thin" ["runs", "schedule"] (spThin K) := own_of d_thin X G (fun _ _ _ _ _ _ us hl => match us, hl with | [_, _], _ => rfl) fun f fd F => ok_thin F T o_iscomplete o_latestplaces o_isneeded
  have o_Lisint : Own l.prog w K mg base 1 "_law_is_int" ["_law_value"] (spIsInt) := own_of d_Lisint X G (fun _ _ _ _ _ _ us hl => match us, hl with | [_], _ => rfl) fun f fd F => ok_Lisint F T
  have o_Lints : Own l.prog w K mg base 2 "_law_ints" ["_law_row"] (spInts K) := own_of d_Lints X G (fun _ _ _ _ _ _ us hl => match us, hl with | [_], _ => rfl) fun f fd F => ok_Lints F T o_Lisint
  have o_Lprefix : Own l.prog w K mg base 1 "_law_prefix" ["_law_run_here", "_law_schedule"] (spPre K) := own_of d_Lprefix X G (fun _ _ _ _ _ _ us hl => match us, hl with | [_, _], _ => rfl) fun f fd F => ok_Lprefix F T
  have o_Lwhole : Own l.prog w K mg base 2 "_law_whole" ["_law_runs", "_law_schedule"] (spAll K) := own_of d_Lwhole X G (fun _ _ _ _ _ _ us hl => match us, hl with | [_, _], _ => rfl) fun f fd F => ok_Lwhole F T o_Lprefix
  have o_Lminimal : Own l.prog w K mg base 3 "_law_minimal" ["_law_lists_here", "_law_kept", "_law_handed"] (spMin K) := own_of d_Lminimal X G (fun _ _ _ _ _ _ us hl => match us, hl with | [_, _, _], _ => rfl) fun f fd F => ok_Lminimal F T o_Lwhole o_iscomplete
  exact ok_law (fun_mk (st := s_law) hl hc hk) T o_Ldigits o_Lseed o_Lany o_Lshort o_Lteam o_Lsymbol o_Llists o_Lwoven o_thin o_Lints o_Lprefix o_Lminimal
end K35
open PySem PySem.W PyProof.Rows
set_option maxRecDepth 100000 in
set_option maxHeartbeats 0 in
theorem PySem.Challenge.cw_foreworth_k35_whole_thin_needs_each_holds : PySem.Challenge.rw_foreworth_k35_whole_thin_needs_each.Holds := by
  w_on; o_law; k_head; (case hw => w_witness2)
  k_fill
  refine L2.walk_of (l := PySem.Challenge.rw_foreworth_k35_whole_thin_needs_each) (n := 63) (k := 5) (x := "_law_script") (CX := fun _ => L2.CX0) (sp := fun w => K35.spLaw _) rfl (by decide) rfl ⟨rfl, by decide, by decide⟩ (fun w h Y => PySem.W.kIn_of Y) ?F (fun _ _ a ns hl _ hS => ⟨a, ns, rfl, hS, hl, fun _ => rfl⟩) (fun _ _ _ _ _ h => h)
  case F =>
    intro w mg fa h KX G hmg
    refine' K35.all_mk KX G hmg ?d0 ?d1 ?d2 ?d3 ?d4 ?d5 ?d6 ?d7 ?d8 ?d9 ?d10 ?d11 ?d12 ?d13 ?d14 ?d15 ?d16 ?d17 ?d18 ?d19 ?d20 ?d21 ?d22 ?d23 ?d24 ?d25 ?d26 ?d27 ?d28 ?z0 ?z1 ?z2 ?z3 ?z4 ?z5 ?z6 ?z7 ?z8
    (case d0 => (refine' K35.DefIn.of ?a ?l ?c ?k; (case a => k_is); (case l => k_is); (case c => k_is); (case k => k_is)))
    (case d1 => (refine' K35.DefIn.of ?a ?l ?c ?k; (case a => k_is); (case l => k_is); (case c => k_is); (case k => k_is)))
    (case d2 => (refine' K35.DefIn.of ?a ?l ?c ?k; (case a => k_is); (case l => k_is); (case c => k_is); (case k => k_is)))
    (case d3 => (refine' K35.DefIn.of ?a ?l ?c ?k; (case a => k_is); (case l => k_is); (case c => k_is); (case k => k_is)))
    (case d4 => (refine' K35.DefIn.of ?a ?l ?c ?k; (case a => k_is); (case l => k_is); (case c => k_is); (case k => k_is)))
    (case d5 => (refine' K35.DefIn.of ?a ?l ?c ?k; (case a => k_is); (case l => k_is); (case c => k_is); (case k => k_is)))
    (case d6 => (refine' K35.DefIn.of ?a ?l ?c ?k; (case a => k_is); (case l => k_is); (case c => k_is); (case k => k_is)))
    (case d7 => (refine' K35.DefIn.of ?a ?l ?c ?k; (case a => k_is); (case l => k_is); (case c => k_is); (case k => k_is)))
    (case d8 => (refine' K35.DefIn.of ?a ?l ?c ?k; (case a => k_is); (case l => k_is); (case c => k_is); (case k => k_is)))
    (case d9 => (refine' K35.DefIn.of ?a ?l ?c ?k; (case a => k_is); (case l => k_is); (case c => k_is); (case k => k_is)))
    (case d10 => (refine' K35.DefIn.of ?a ?l ?c ?k; (case a => k_is); (case l => k_is); (case c => k_is); (case k => k_is)))
    (case d11 => (refine' K35.DefIn.of ?a ?l ?c ?k; (case a => k_is); (case l => k_is); (case c => k_is); (case k => k_is)))
    (case d12 => (refine' K35.DefIn.of ?a ?l ?c ?k; (case a => k_is); (case l => k_is); (case c => k_is); (case k => k_is)))
    (case d13 => (refine' K35.DefIn.of ?a ?l ?c ?k; (case a => k_is); (case l => k_is); (case c => k_is); (case k => k_is)))
    (case d14 => (refine' K35.DefIn.of ?a ?l ?c ?k; (case a => k_is); (case l => k_is); (case c => k_is); (case k => k_is)))
    (case d15 => (refine' K35.DefIn.of ?a ?l ?c ?k; (case a => k_is); (case l => k_is); (case c => k_is); (case k => k_is)))
    (case d16 => (refine' K35.DefIn.of ?a ?l ?c ?k; (case a => k_is); (case l => k_is); (case c => k_is); (case k => k_is)))
    (case d17 => (refine' K35.DefIn.of ?a ?l ?c ?k; (case a => k_is); (case l => k_is); (case c => k_is); (case k => k_is)))
    (case d18 => (refine' K35.DefIn.of ?a ?l ?c ?k; (case a => k_is); (case l => k_is); (case c => k_is); (case k => k_is)))
    (case d19 => (refine' K35.DefIn.of ?a ?l ?c ?k; (case a => k_is); (case l => k_is); (case c => k_is); (case k => k_is)))
    (case d20 => (refine' K35.DefIn.of ?a ?l ?c ?k; (case a => k_is); (case l => k_is); (case c => k_is); (case k => k_is)))
    (case d21 => (refine' K35.DefIn.of ?a ?l ?c ?k; (case a => k_is); (case l => k_is); (case c => k_is); (case k => k_is)))
    (case d22 => (refine' K35.DefIn.of ?a ?l ?c ?k; (case a => k_is); (case l => k_is); (case c => k_is); (case k => k_is)))
    (case d23 => (refine' K35.DefIn.of ?a ?l ?c ?k; (case a => k_is); (case l => k_is); (case c => k_is); (case k => k_is)))
    (case d24 => (refine' K35.DefIn.of ?a ?l ?c ?k; (case a => k_is); (case l => k_is); (case c => k_is); (case k => k_is)))
    (case d25 => (refine' K35.DefIn.of ?a ?l ?c ?k; (case a => k_is); (case l => k_is); (case c => k_is); (case k => k_is)))
    (case d26 => (refine' K35.DefIn.of ?a ?l ?c ?k; (case a => k_is); (case l => k_is); (case c => k_is); (case k => k_is)))
    (case d27 => (refine' K35.DefIn.of ?a ?l ?c ?k; (case a => k_is); (case l => k_is); (case c => k_is); (case k => k_is)))
    (case d28 => (refine' K35.DefIn.of ?a ?l ?c ?k; (case a => k_is); (case l => k_is); (case c => k_is); (case k => k_is)))
    (case z0 => k_is)
    (case z1 => k_is)
    (case z2 => k_is)
    (case z3 => k_is)
    (case z4 => k_is)
    (case z5 => k_is)
    (case z6 => k_is)
    (case z7 => k_is)
    (case z8 => k_is)
