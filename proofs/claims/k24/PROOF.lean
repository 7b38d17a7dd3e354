import PyProof.Rows.All
import Wide.All
import OpenK.AllK
import Wide.FinOn
import HandS.ForMost
import HandS.IsInst
import HandS.Deep
import HandS.Wide
import HandS.Walk
import HandS.TupAny
import HandS.Style
import HandS.Conv
import HandS.EndBits
import KE.GoesEnum
import PySem.Challenge.RW_wendleaf_k24_whole_mendable_by_walking
section
set_option Elab.async false
set_option linter.all false
set_option maxRecDepth 100000
/-! The mathematics of bare logs: versions, moves, lots, walking. Plain Lean. -/
namespace K24
abbrev Dd := Nat × List Nat
abbrev Im := List (Option Int)
abbrev Lots := List (Option (Int × Int))
/-- the version of page p behind the first s deeds -/
def ver (ds : List Dd) (s p : Nat) : Nat := ((ds.take s).filter fun d => d.1 == p).length
theorem ver_zero (ds : List Dd) (p : Nat) : ver ds 0 p = 0 := by simp [ver]
theorem ver_succ {ds : List Dd} {s : Nat} {d : Dd} (h : ds[s]? = some d) (p : Nat) : ver ds (s + 1) p = ver ds s p + (if d.1 = p then 1 else 0) := by
  unfold ver
  rw [List.take_add_one, h, List.filter_append, List.length_append]
  congr 1
  by_cases e : d.1 = p
  · simp [e]
  · simp [e]
theorem ver_same {ds : List Dd} {s p : Nat} {rs : List Nat} (h : ds[s]? = some (p, rs)) : ver ds (s + 1) p = ver ds s p + 1 := by
  rw [ver_succ h]; simp
theorem ver_other {ds : List Dd} {s p q : Nat} {rs : List Nat} (h : ds[s]? = some (p, rs)) (n : q ≠ p) : ver ds (s + 1) q = ver ds s q := by
  rw [ver_succ h]
  have : ¬ p = q := fun e => n e.symm
  simp [this]
theorem ver_out {ds : List Dd} {s : Nat} (h : ds.length ≤ s) (p : Nat) : ver ds s p = ver ds ds.length p := by
  unfold ver
  rw [List.take_of_length_le h, List.take_length]
theorem ver_le_succ (ds : List Dd) (s p : Nat) : ver ds s p ≤ ver ds (s + 1) p := by
  by_cases h : s < ds.length
  · rw [ver_succ (List.getElem?_eq_getElem h)]
    exact Nat.le_add_right _ _
  · have a := ver_out (ds := ds) (s := s) (by omega) p
    have b := ver_out (ds := ds) (s := s + 1) (by omega) p
    omega
theorem ver_mono {ds : List Dd} {s s' : Nat} (p : Nat) (h : s ≤ s') : ver ds s p ≤ ver ds s' p := by
  induction h with
  | refl => exact Nat.le_refl _
  | step _ ih => exact Nat.le_trans ih (ver_le_succ ds _ p)
theorem ver_le (ds : List Dd) (s p : Nat) : ver ds s p ≤ ver ds ds.length p := by
  by_cases h : s ≤ ds.length
  · exact ver_mono p h
  · rw [ver_out (by omega)]
    exact Nat.le_refl _
theorem ver_inj {ds : List Dd} {t t' p : Nat} {rs rs' : List Nat} (h : ds[t]? = some (p, rs)) (h' : ds[t']? = some (p, rs')) (e : ver ds (t + 1) p = ver ds (t' + 1) p) : t = t' := by
  have a := ver_same h
  have b := ver_same h'
  rcases Nat.lt_trichotomy t t' with l | l | l
  · have := ver_mono (ds := ds) p (show t + 1 ≤ t' from l)
    omega
  · exact l
  · have := ver_mono (ds := ds) p (show t' + 1 ≤ t from l)
    omega
/-- a right log -/
structure WF (P : Nat) (ds : List Dd) : Prop where
  pos : 1 ≤ P
  few : P ≤ 32
  short : ds.length ≤ 400
  page : ∀ d ∈ ds, d.1 < P
  reads : ∀ d ∈ ds, ∀ r ∈ d.2, r < P ∧ r ≠ d.1
  asc : ∀ d ∈ ds, d.2.Pairwise (· < ·)
def row (P : Nat) (ds : List Dd) (s : Nat) : List Int := (List.range P).map fun p => (ver ds s p : Int)
theorem row_len (P : Nat) (ds : List Dd) (s : Nat) : (row P ds s).length = P := by simp [row]
theorem row_at {P : Nat} (ds : List Dd) (s : Nat) {p : Nat} (h : p < P) : (row P ds s)[p]? = some (ver ds s p : Int) := by
  simp [row, List.getElem?_map, List.getElem?_range h]
/-- the image behind a move over deed t (from 0), none where it is not allowed -/
def moved (ds : List Dd) (i : Im) (t : Nat) (up : Bool) : Option Im :=
  match ds[t]? with
  | none => none
  | some (p, rs) =>
    if i[p]? = some (some (if up = true then (ver ds (t + 1) p : Int) - 1 else (ver ds (t + 1) p : Int))) ∧ (∀ r ∈ rs, i[r]? = some (some (ver ds (t + 1) r : Int))) then
      some (i.set p (some (if up = true then (ver ds (t + 1) p : Int) else (ver ds (t + 1) p : Int) - 1)))
    else none
theorem moved_of {ds : List Dd} {i j : Im} {t : Nat} {up : Bool} (h : moved ds i t up = some j) : ∃ p rs, ds[t]? = some (p, rs) ∧
    i[p]? = some (some (if up = true then (ver ds (t + 1) p : Int) - 1 else (ver ds (t + 1) p : Int))) ∧ (∀ r ∈ rs, i[r]? = some (some (ver ds (t + 1) r : Int))) ∧
    j = i.set p (some (if up = true then (ver ds (t + 1) p : Int) else (ver ds (t + 1) p : Int) - 1)) := by
  unfold moved at h
  split at h
  · cases h
  · rename_i p rs e
    by_cases c : i[p]? = some (some (if up = true then (ver ds (t + 1) p : Int) - 1 else (ver ds (t + 1) p : Int))) ∧ (∀ r ∈ rs, i[r]? = some (some (ver ds (t + 1) r : Int)))
    · rw [if_pos c] at h
      exact ⟨p, rs, e, c.1, c.2, (Option.some.inj h).symm⟩
    · rw [if_neg c] at h
      cases h
theorem moved_mk {ds : List Dd} {i : Im} {t : Nat} {up : Bool} {p : Nat} {rs : List Nat} (e : ds[t]? = some (p, rs))
    (h1 : i[p]? = some (some (if up = true then (ver ds (t + 1) p : Int) - 1 else (ver ds (t + 1) p : Int)))) (h2 : ∀ r ∈ rs, i[r]? = some (some (ver ds (t + 1) r : Int))) :
    moved ds i t up = some (i.set p (some (if up = true then (ver ds (t + 1) p : Int) else (ver ds (t + 1) p : Int) - 1))) := by
  unfold moved
  rw [e]
  exact if_pos ⟨h1, h2⟩
theorem moved_no {ds : List Dd} {i : Im} {t : Nat} {up : Bool} {p : Nat} {rs : List Nat} (e : ds[t]? = some (p, rs))
    (h : ¬ (i[p]? = some (some (if up = true then (ver ds (t + 1) p : Int) - 1 else (ver ds (t + 1) p : Int))) ∧ ∀ r ∈ rs, i[r]? = some (some (ver ds (t + 1) r : Int)))) : moved ds i t up = none := by
  unfold moved
  rw [e]
  exact if_neg h
def Mv (ds : List Dd) (i j : Im) : Prop := ∃ t up, moved ds i t up = some j
inductive Reach (ds : List Dd) (i : Im) : Im → Prop where
  | refl : Reach ds i i
  | step {j k : Im} : Reach ds i j → Mv ds j k → Reach ds i k
theorem Reach.trans {ds : List Dd} {i j k : Im} (a : Reach ds i j) (b : Reach ds j k) : Reach ds i k := by
  induction b with
  | refl => exact a
  | step _ m ih => exact .step ih m
theorem Reach.one {ds : List Dd} {i j : Im} (m : Mv ds i j) : Reach ds i j := .step .refl m
theorem set_back {α : Type} {l : List α} {p : Nat} {x y : α} (h : l[p]? = some x) : (l.set p y).set p x = l := by
  rw [List.set_set]
  apply List.ext_getElem?
  intro n
  by_cases e : p = n
  · subst e
    have hl : p < l.length := (List.getElem?_eq_some_iff.mp h).1
    rw [List.getElem?_set_self hl, h]
  · rw [List.getElem?_set_ne e]
section
variable {P : Nat} {ds : List Dd}
theorem WF.at (W : WF P ds) {t p : Nat} {rs : List Nat} (h : ds[t]? = some (p, rs)) : p < P ∧ (∀ r ∈ rs, r < P ∧ r ≠ p) ∧ rs.Pairwise (· < ·) ∧ t < ds.length :=
  ⟨W.page _ (List.mem_of_getElem? h), W.reads _ (List.mem_of_getElem? h), W.asc _ (List.mem_of_getElem? h), (List.getElem?_eq_some_iff.mp h).1⟩
theorem moved_rev (W : WF P ds) {i j : Im} {t : Nat} {up : Bool} (h : moved ds i t up = some j) : moved ds j t (!up) = some i := by
  obtain ⟨p, rs, e, h1, h2, rfl⟩ := moved_of h
  have hl := (List.getElem?_eq_some_iff.mp h1).1
  obtain ⟨_, hr, _, _⟩ := W.at e
  have hr2 : ∀ (y : Option Int), ∀ r ∈ rs, (i.set p y)[r]? = some (some (ver ds (t + 1) r : Int)) := fun y r m => by
    rw [List.getElem?_set_ne (Ne.symm (hr r m).2)]
    exact h2 r m
  rw [moved_mk (up := !up) e (by rw [List.getElem?_set_self hl]; cases up <;> rfl) (hr2 _)]
  cases up
  · exact congrArg some (set_back h1)
  · exact congrArg some (set_back h1)
theorem Mv.symm (W : WF P ds) {i j : Im} (m : Mv ds i j) : Mv ds j i := let ⟨t, up, h⟩ := m; ⟨t, !up, moved_rev W h⟩
theorem Reach.symm (W : WF P ds) {i j : Im} (r : Reach ds i j) : Reach ds j i := by
  induction r with
  | refl => exact .refl
  | step _ m ih => exact Reach.trans (.one (m.symm W)) ih
end
/-! ### images within range -/
structure InR (P : Nat) (ds : List Dd) (i : Im) : Prop where
  len : i.length = P
  rng : ∀ p v, i[p]? = some (some v) → 0 ≤ v ∧ v ≤ (ver ds ds.length p : Int)
theorem InR.mv {P : Nat} {ds : List Dd} {i j : Im} (h : InR P ds i) (m : Mv ds i j) : InR P ds j := by
  obtain ⟨t, up, m⟩ := m
  obtain ⟨p, rs, e, h1, h2, rfl⟩ := moved_of m
  have hl := (List.getElem?_eq_some_iff.mp h1).1
  refine ⟨by rw [List.length_set]; exact h.len, fun q v hq => ?_⟩
  by_cases c : p = q
  · subst c
    rw [List.getElem?_set_self hl] at hq
    have hv := Option.some.inj (Option.some.inj hq)
    have a := ver_same e
    have b := ver_le ds (t + 1) p
    cases up <;> simp at hv <;> omega
  · rw [List.getElem?_set_ne c] at hq
    exact h.rng q v hq
theorem InR.reach {P : Nat} {ds : List Dd} {i j : Im} (h : InR P ds i) (r : Reach ds i j) : InR P ds j := by
  induction r with
  | refl => exact h
  | step _ m ih => exact ih.mv m
/-- which pages are lost does not change -/
theorem Mv.non {ds : List Dd} {i j : Im} (m : Mv ds i j) (p : Nat) : j[p]? = some none ↔ i[p]? = some none := by
  obtain ⟨t, up, m⟩ := m
  obtain ⟨q, rs, e, h1, h2, rfl⟩ := moved_of m
  have hl := (List.getElem?_eq_some_iff.mp h1).1
  by_cases c : q = p
  · subst c
    rw [List.getElem?_set_self hl, h1]
    simp
  · rw [List.getElem?_set_ne c]
theorem Reach.non {ds : List Dd} {i j : Im} (r : Reach ds i j) (p : Nat) : j[p]? = some none ↔ i[p]? = some none := by
  induction r with
  | refl => exact Iff.rfl
  | step _ m ih => exact (m.non p).trans ih
/-! ### lots -/
def clampI (lo hi v : Int) : Int := max lo (min hi v)
def slice (ds : List Dd) (L : Lots) (s : Nat) : Im := L.mapIdx fun p l => l.map fun x => clampI x.1 x.2 (ver ds s p)
theorem slice_len (ds : List Dd) (L : Lots) (s : Nat) : (slice ds L s).length = L.length := by simp [slice]
theorem slice_at (ds : List Dd) (L : Lots) (s p : Nat) : (slice ds L s)[p]? = (L[p]?).map fun l => l.map fun x => clampI x.1 x.2 (ver ds s p) := by
  simp [slice, List.getElem?_mapIdx]
/-- the reads of a deed stand in the lots at moment t -/
def Rds (ds : List Dd) (L : Lots) (t : Nat) (rs : List Nat) : Prop := ∀ r ∈ rs, ∃ lo hi, L[r]? = some (some (lo, hi)) ∧ lo ≤ (ver ds t r : Int) ∧ (ver ds t r : Int) ≤ hi
/-- deed t (from 0) allows a growth -/
def Can (ds : List Dd) (L : Lots) (t : Nat) (up : Bool) : Prop := ∃ p rs lo hi, ds[t]? = some (p, rs) ∧ L[p]? = some (some (lo, hi)) ∧ Rds ds L (t + 1) rs ∧
  (if up = true then hi = (ver ds (t + 1) p : Int) - 1 else lo = (ver ds (t + 1) p : Int))
structure Good (ds : List Dd) (im : Im) (L : Lots) : Prop where
  len : L.length = im.length
  non : ∀ p : Nat, im[p]? = some none → L[p]? = some none
  som : ∀ (p : Nat) v, im[p]? = some (some v) → ∃ lo hi, L[p]? = some (some (lo, hi)) ∧ lo ≤ v ∧ v ≤ hi
  rng : ∀ (p : Nat) lo hi, L[p]? = some (some (lo, hi)) → 0 ≤ lo ∧ lo ≤ hi ∧ hi ≤ (ver ds ds.length p : Int)
  crs : ∀ (t p : Nat) rs lo hi, ds[t]? = some (p, rs) → L[p]? = some (some (lo, hi)) → lo < (ver ds (t + 1) p : Int) → (ver ds (t + 1) p : Int) ≤ hi → Rds ds L (t + 1) rs
  way : ∃ s, s ≤ ds.length ∧ Reach ds im (slice ds L s)
def single (im : Im) : Lots := im.map fun v => v.map fun x => (x, x)
theorem single_at (im : Im) (p : Nat) : (single im)[p]? = (im[p]?).map fun v => v.map fun x => (x, x) := by simp [single]
theorem clamp_one (v x : Int) : clampI v v x = v := by unfold clampI; omega
theorem clamp_in {lo hi v : Int} (h1 : lo ≤ v) (h2 : v ≤ hi) : clampI lo hi v = v := by unfold clampI; omega
theorem slice_single (ds : List Dd) (im : Im) (s : Nat) : slice ds (single im) s = im := by
  apply List.ext_getElem?
  intro p
  rw [slice_at, single_at]
  cases im[p]? with
  | none => rfl
  | some v => cases v with
    | none => rfl
    | some x => simp [clamp_one]
theorem good_start {P : Nat} {ds : List Dd} {im : Im} (h : InR P ds im) : Good ds im (single im) where
  len := by simp [single]
  non := fun p e => by rw [single_at, e]; rfl
  som := fun p v e => ⟨v, v, by rw [single_at, e]; rfl, Int.le_refl _, Int.le_refl _⟩
  rng := fun p lo hi e => by
    rw [single_at] at e
    cases hv : im[p]? with
    | none => rw [hv] at e; cases e
    | some v => cases v with
      | none => rw [hv] at e; cases e
      | some x =>
        rw [hv] at e
        have e' := Option.some.inj (Option.some.inj e)
        have a := h.rng p x hv
        have e1 : x = lo := congrArg Prod.fst e'
        have e2 : x = hi := congrArg Prod.snd e'
        omega
  crs := fun t p rs lo hi hd e l1 l2 => by
    rw [single_at] at e
    cases hv : im[p]? with
    | none => rw [hv] at e; cases e
    | some v => cases v with
      | none => rw [hv] at e; cases e
      | some x =>
        rw [hv] at e
        have e' := Option.some.inj (Option.some.inj e)
        have e1 : x = lo := congrArg Prod.fst e'
        have e2 : x = hi := congrArg Prod.snd e'
        omega
  way := ⟨0, Nat.zero_le _, by rw [slice_single]; exact .refl⟩
section
variable {P : Nat} {ds : List Dd} {im : Im} {L : Lots}
theorem slice_rd {t : Nat} {rs : List Nat} (h : Rds ds L t rs) : ∀ r ∈ rs, (slice ds L t)[r]? = some (some (ver ds t r : Int)) := fun r m => by
  obtain ⟨lo, hi, e, h1, h2⟩ := h r m
  rw [slice_at, e]
  show some (some (clampI lo hi (ver ds t r : Int))) = _
  rw [clamp_in h1 h2]
/-- one deed further: the same image, or one move -/
theorem slice_step (W : WF P ds) (G : Good ds im L) {s : Nat} (hs : s < ds.length) : slice ds L s = slice ds L (s + 1) ∨ Mv ds (slice ds L s) (slice ds L (s + 1)) := by
  obtain ⟨⟨p, rs⟩, hd⟩ : ∃ d, ds[s]? = some d := ⟨_, List.getElem?_eq_getElem hs⟩
  obtain ⟨_, hr, _, _⟩ := W.at hd
  have hv := ver_same hd
  have ho : ∀ q, q ≠ p → ver ds (s + 1) q = ver ds s q := fun q n => ver_other hd n
  have same : ∀ q, q ≠ p → (slice ds L s)[q]? = (slice ds L (s + 1))[q]? := fun q n => by rw [slice_at, slice_at, ho q n]
  by_cases hc : ∃ lo hi, L[p]? = some (some (lo, hi)) ∧ lo < (ver ds (s + 1) p : Int) ∧ (ver ds (s + 1) p : Int) ≤ hi
  · obtain ⟨lo, hi, e, l1, l2⟩ := hc
    have R := G.crs s p rs lo hi hd e l1 l2
    refine .inr ⟨s, true, ?_⟩
    have a1 : (slice ds L s)[p]? = some (some ((ver ds (s + 1) p : Int) - 1)) := by
      rw [slice_at, e]
      show some (some (clampI lo hi (ver ds s p : Int))) = _
      rw [clamp_in (by omega) (by omega)]
      congr 2
      omega
    have a2 : (slice ds L (s + 1))[p]? = some (some (ver ds (s + 1) p : Int)) := by
      rw [slice_at, e]
      show some (some (clampI lo hi (ver ds (s + 1) p : Int))) = _
      rw [clamp_in (by omega) (by omega)]
    rw [moved_mk (up := true) hd a1 (fun r m => by rw [same r (hr r m).2]; exact slice_rd R r m)]
    congr 1
    apply List.ext_getElem?
    intro q
    have hl := (List.getElem?_eq_some_iff.mp a1).1
    by_cases c : p = q
    · subst c
      rw [List.getElem?_set_self hl, a2]
      simp
    · rw [List.getElem?_set_ne c]
      exact same q (Ne.symm c)
  · refine .inl (List.ext_getElem? fun q => ?_)
    by_cases c : q = p
    · subst c
      rw [slice_at, slice_at]
      cases e : L[q]? with
      | none => rfl
      | some l => cases l with
        | none => rfl
        | some x =>
          obtain ⟨lo, hi⟩ := x
          show some (some (clampI lo hi _)) = some (some (clampI lo hi _))
          congr 2
          have g := G.rng q lo hi e
          have : ¬ (lo < (ver ds (s + 1) q : Int) ∧ (ver ds (s + 1) q : Int) ≤ hi) := fun z => hc ⟨lo, hi, e, z.1, z.2⟩
          unfold clampI
          omega
    · exact same q c
theorem slice_up (W : WF P ds) (G : Good ds im L) {s : Nat} : ∀ {k : Nat}, s + k ≤ ds.length → Reach ds (slice ds L s) (slice ds L (s + k))
  | 0, _ => .refl
  | k + 1, h => by
    have ih := slice_up W G (s := s) (k := k) (by omega)
    rcases slice_step W G (s := s + k) (by omega) with e | m
    · rw [show s + (k + 1) = s + k + 1 from rfl, ← e]; exact ih
    · exact .step ih m
theorem slice_to (W : WF P ds) (G : Good ds im L) {s s' : Nat} (h : s ≤ ds.length) (h' : s' ≤ ds.length) : Reach ds (slice ds L s) (slice ds L s') := by
  by_cases c : s ≤ s'
  · have := slice_up W G (s := s) (k := s' - s) (by omega)
    rwa [show s + (s' - s) = s' by omega] at this
  · have := slice_up W G (s := s') (k := s - s') (by omega)
    rw [show s' + (s - s') = s by omega] at this
    exact this.symm W
theorem Good.to (W : WF P ds) (G : Good ds im L) {s : Nat} (h : s ≤ ds.length) : Reach ds im (slice ds L s) := by
  obtain ⟨s0, h0, r⟩ := G.way
  exact r.trans (slice_to W G h0 h)
/-- a growth keeps what is good -/
theorem good_grow (W : WF P ds) (G : Good ds im L) {t p : Nat} {rs : List Nat} {lo hi : Int} {up : Bool} (hd : ds[t]? = some (p, rs)) (hl : L[p]? = some (some (lo, hi))) (R : Rds ds L (t + 1) rs)
    (hc : if up = true then hi = (ver ds (t + 1) p : Int) - 1 else lo = (ver ds (t + 1) p : Int)) : Good ds im (L.set p (some (if up = true then (lo, hi + 1) else (lo - 1, hi)))) := by
  obtain ⟨hp, hr, _, ht⟩ := W.at hd
  have hpl := (List.getElem?_eq_some_iff.mp hl).1
  have hv := ver_same hd
  have hn := ver_le ds (t + 1) p
  have g0 := G.rng p lo hi hl
  obtain ⟨lo', hi', enew, k1, k2, k3, k4⟩ : ∃ lo' hi', (if up = true then (lo, hi + 1) else (lo - 1, hi)) = (lo', hi') ∧ lo' ≤ lo ∧ hi ≤ hi' ∧ (0 ≤ lo' ∧ hi' ≤ (ver ds ds.length p : Int)) ∧
      (∀ x : Int, lo' < x → x ≤ hi' → ¬ (lo < x ∧ x ≤ hi) → x = (ver ds (t + 1) p : Int)) := by
    cases up with
    | true =>
      have hc : hi = (ver ds (t + 1) p : Int) - 1 := hc
      exact ⟨lo, hi + 1, rfl, by omega, by omega, by omega, fun x a b c => by omega⟩
    | false =>
      have hc : lo = (ver ds (t + 1) p : Int) := hc
      exact ⟨lo - 1, hi, rfl, by omega, by omega, by omega, fun x a b c => by omega⟩
  have at_ : ∀ q : Nat, q ≠ p → (L.set p (some (if up = true then (lo, hi + 1) else (lo - 1, hi))))[q]? = L[q]? := fun q n => List.getElem?_set_ne (Ne.symm n)
  have atp : (L.set p (some (if up = true then (lo, hi + 1) else (lo - 1, hi))))[p]? = some (some (lo', hi')) := by rw [List.getElem?_set_self hpl, enew]
  generalize hL' : L.set p (some (if up = true then (lo, hi + 1) else (lo - 1, hi))) = L' at at_ atp
  have mono : ∀ s rs', Rds ds L s rs' → Rds ds L' s rs' := fun s rs' h r m => by
    obtain ⟨a, b, e, h1, h2⟩ := h r m
    by_cases c : r = p
    · subst c
      rw [hl] at e
      have e' := Option.some.inj (Option.some.inj e)
      have e1 : lo = a := congrArg Prod.fst e'
      have e2 : hi = b := congrArg Prod.snd e'
      exact ⟨lo', hi', atp, by omega, by omega⟩
    · exact ⟨a, b, by rw [at_ r c]; exact e, h1, h2⟩
  refine ⟨by rw [← hL', List.length_set]; exact G.len, fun q e => ?_, fun q v e => ?_, fun q a b e => ?_, fun t' q rs' a b hd' e l1 l2 => ?_, ?_⟩
  · by_cases c : q = p
    · subst c
      rw [G.non q e] at hl
      cases hl
    · rw [at_ q c]; exact G.non q e
  · obtain ⟨a, b, e', h1, h2⟩ := G.som q v e
    by_cases c : q = p
    · subst c
      rw [hl] at e'
      have e2 := Option.some.inj (Option.some.inj e')
      have e1 : lo = a := congrArg Prod.fst e2
      have e2 : hi = b := congrArg Prod.snd e2
      exact ⟨lo', hi', atp, by omega, by omega⟩
    · exact ⟨a, b, by rw [at_ q c]; exact e', h1, h2⟩
  · by_cases c : q = p
    · subst c
      rw [atp] at e
      have e2 := Option.some.inj (Option.some.inj e)
      have e1 : lo' = a := congrArg Prod.fst e2
      have e2 : hi' = b := congrArg Prod.snd e2
      omega
    · rw [at_ q c] at e
      exact G.rng q a b e
  · apply mono
    by_cases c : q = p
    · subst c
      rw [atp] at e
      have e2 := Option.some.inj (Option.some.inj e)
      have e1 : lo' = a := congrArg Prod.fst e2
      have e2 : hi' = b := congrArg Prod.snd e2
      by_cases old : lo < (ver ds (t' + 1) q : Int) ∧ (ver ds (t' + 1) q : Int) ≤ hi
      · exact G.crs t' q rs' lo hi hd' hl old.1 old.2
      · have z := k4 _ (by omega) (by omega) old
        have z2 : t' = t := ver_inj hd' hd (by omega)
        subst z2
        rw [hd] at hd'
        have z3 : rs = rs' := congrArg Prod.snd (Option.some.inj hd')
        rw [← z3]
        exact R
    · rw [at_ q c] at e
      exact G.crs t' q rs' a b hd' e l1 l2
  · -- the road: to the slice beside the deed, over it
    have oth : ∀ s q, q ≠ p → (slice ds L' s)[q]? = (slice ds L s)[q]? := fun s q n => by rw [slice_at, slice_at, at_ q n]
    have oth2 : ∀ q, q ≠ p → (slice ds L t)[q]? = (slice ds L (t + 1))[q]? := fun q n => by rw [slice_at, slice_at, ver_other hd n]
    cases up with
    | true =>
      have hc : hi = (ver ds (t + 1) p : Int) - 1 := hc
      have z : (lo, hi + 1) = (lo', hi') := enew
      have z1 : lo = lo' := congrArg Prod.fst z
      have z2 : hi + 1 = hi' := congrArg Prod.snd z
      refine ⟨t + 1, ht, (G.to W (s := t) (by omega)).trans (.one ⟨t, true, ?_⟩)⟩
      have a1 : (slice ds L t)[p]? = some (some ((ver ds (t + 1) p : Int) - 1)) := by
        rw [slice_at, hl]
        show some (some (clampI lo hi (ver ds t p : Int))) = _
        rw [clamp_in (by omega) (by omega)]
        congr 2
        omega
      rw [moved_mk (up := true) hd a1 (fun r m => by rw [oth2 r (hr r m).2]; exact slice_rd R r m)]
      congr 1
      apply List.ext_getElem?
      intro q
      have hll := (List.getElem?_eq_some_iff.mp a1).1
      by_cases c : p = q
      · subst c
        rw [List.getElem?_set_self hll, slice_at, atp]
        show some (some _) = some (some (clampI lo' hi' (ver ds (t + 1) p : Int)))
        rw [clamp_in (by omega) (by omega)]
        rfl
      · rw [List.getElem?_set_ne c, oth _ q (Ne.symm c)]
        exact oth2 q (Ne.symm c)
    | false =>
      have hc : lo = (ver ds (t + 1) p : Int) := hc
      have z : (lo - 1, hi) = (lo', hi') := enew
      have z1 : lo - 1 = lo' := congrArg Prod.fst z
      have z2 : hi = hi' := congrArg Prod.snd z
      refine ⟨t, Nat.le_of_lt ht, (G.to W (s := t + 1) ht).trans (.one ⟨t, false, ?_⟩)⟩
      have a1 : (slice ds L (t + 1))[p]? = some (some (ver ds (t + 1) p : Int)) := by
        rw [slice_at, hl]
        show some (some (clampI lo hi (ver ds (t + 1) p : Int))) = _
        rw [clamp_in (by omega) (by omega)]
      rw [moved_mk (up := false) hd a1 (slice_rd R)]
      congr 1
      apply List.ext_getElem?
      intro q
      have hll := (List.getElem?_eq_some_iff.mp a1).1
      by_cases c : p = q
      · subst c
        rw [List.getElem?_set_self hll, slice_at, atp]
        show some (some _) = some (some (clampI lo' hi' (ver ds t p : Int)))
        rw [clamp_in (by omega) (by omega)]
        show some (some ((ver ds (t + 1) p : Int) - 1)) = _
        congr 2
        omega
      · rw [List.getElem?_set_ne c, oth _ q (Ne.symm c)]
        exact (oth2 q (Ne.symm c)).symm
/-! ### closed lots -/
def Closed (ds : List Dd) (L : Lots) : Prop := ∀ t up, ¬ Can ds L t up
structure InBox (L : Lots) (j : Im) : Prop where
  len : j.length = L.length
  non : ∀ p : Nat, L[p]? = some none → j[p]? = some none
  som : ∀ (p : Nat) lo hi, L[p]? = some (some (lo, hi)) → ∃ v, j[p]? = some (some v) ∧ lo ≤ v ∧ v ≤ hi
theorem InBox.lot {j : Im} (B : InBox L j) {p : Nat} {v : Int} (h : j[p]? = some (some v)) : ∃ lo hi, L[p]? = some (some (lo, hi)) ∧ lo ≤ v ∧ v ≤ hi := by
  have hl := (List.getElem?_eq_some_iff.mp h).1
  rw [B.len] at hl
  have e := List.getElem?_eq_getElem hl
  cases z : L[p] with
  | none =>
    rw [z] at e
    rw [B.non p e] at h
    cases h
  | some x =>
    obtain ⟨lo, hi⟩ := x
    rw [z] at e
    obtain ⟨v', e', h1, h2⟩ := B.som p lo hi e
    rw [h] at e'
    have e2 := Option.some.inj (Option.some.inj e')
    exact ⟨lo, hi, e, by omega, by omega⟩
theorem InBox.mv (C : Closed ds L) {j k : Im} (B : InBox L j) (m : Mv ds j k) : InBox L k := by
  obtain ⟨t, up, m⟩ := m
  obtain ⟨p, rs, hd, h1, h2, rfl⟩ := moved_of m
  have hl := (List.getElem?_eq_some_iff.mp h1).1
  obtain ⟨lo, hi, e, l1, l2⟩ := B.lot h1
  have R : Rds ds L (t + 1) rs := fun r m => B.lot (h2 r m)
  refine ⟨by rw [List.length_set]; exact B.len, fun q z => ?_, fun q a b z => ?_⟩
  · by_cases c : p = q
    · subst c
      rw [e] at z
      cases z
    · rw [List.getElem?_set_ne c]
      exact B.non q z
  · by_cases c : p = q
    · subst c
      rw [e] at z
      have z2 := Option.some.inj (Option.some.inj z)
      have z1 : lo = a := congrArg Prod.fst z2
      have z2 : hi = b := congrArg Prod.snd z2
      rw [List.getElem?_set_self hl]
      refine ⟨_, rfl, ?_⟩
      cases up with
      | true =>
        have nc := C t true
        have l1 : lo ≤ (ver ds (t + 1) p : Int) - 1 := l1
        have l2 : (ver ds (t + 1) p : Int) - 1 ≤ hi := l2
        show a ≤ (ver ds (t + 1) p : Int) ∧ (ver ds (t + 1) p : Int) ≤ b
        have : hi ≠ (ver ds (t + 1) p : Int) - 1 := fun z => nc ⟨p, rs, lo, hi, hd, e, R, z⟩
        omega
      | false =>
        have nc := C t false
        have l1 : lo ≤ (ver ds (t + 1) p : Int) := l1
        have l2 : (ver ds (t + 1) p : Int) ≤ hi := l2
        show a ≤ (ver ds (t + 1) p : Int) - 1 ∧ (ver ds (t + 1) p : Int) - 1 ≤ b
        have : lo ≠ (ver ds (t + 1) p : Int) := fun z => nc ⟨p, rs, lo, hi, hd, e, R, z⟩
        omega
    · rw [List.getElem?_set_ne c]
      exact B.som q a b z
theorem InBox.reach (C : Closed ds L) {j k : Im} (B : InBox L j) (r : Reach ds j k) : InBox L k := by
  induction r with
  | refl => exact B
  | step _ m ih => exact ih.mv C m
theorem Good.box (G : Good ds im L) : InBox L im := by
  refine ⟨G.len.symm, fun p e => ?_, fun p lo hi e => ?_⟩
  · have hl := (List.getElem?_eq_some_iff.mp e).1
    rw [G.len] at hl
    have z := List.getElem?_eq_getElem hl
    cases y : im[p] with
    | none => rw [y] at z; exact z
    | some v =>
      rw [y] at z
      obtain ⟨_, _, e', _⟩ := G.som p v z
      rw [e] at e'
      cases e'
  · have hl := (List.getElem?_eq_some_iff.mp e).1
    rw [G.len] at hl
    have z := List.getElem?_eq_getElem hl
    cases y : im[p] with
    | none =>
      rw [y] at z
      rw [G.non p z] at e
      cases e
    | some v =>
      rw [y] at z
      obtain ⟨a, b, e', h1, h2⟩ := G.som p v z
      rw [e] at e'
      have e2 := Option.some.inj (Option.some.inj e')
      have e1 : lo = a := congrArg Prod.fst e2
      have e2 : hi = b := congrArg Prod.snd e2
      exact ⟨v, z, by omega, by omega⟩
/-- the image in which each page has its newest version -/
def newI (P : Nat) (ds : List Dd) : Im := (row P ds ds.length).map some
theorem newI_at (P : Nat) (ds : List Dd) {p : Nat} (h : p < P) : (newI P ds)[p]? = some (some (ver ds ds.length p : Int)) := by
  rw [newI, List.getElem?_map, row_at ds _ h] <;> rfl
theorem newI_len (P : Nat) (ds : List Dd) : (newI P ds).length = P := by simp [newI, row_len]
/-- all versions are known -/
def fullL (P : Nat) (ds : List Dd) : Lots := (List.range P).map fun p => some (0, (ver ds ds.length p : Int))
theorem fullL_at (P : Nat) (ds : List Dd) {p : Nat} (h : p < P) : (fullL P ds)[p]? = some (some (0, (ver ds ds.length p : Int))) := by
  simp [fullL, List.getElem?_range h]
theorem slice_new (R : InR P ds im) (G : Good ds im L) : slice ds L ds.length = newI P ds ↔ ∀ p, p < P → ∃ lo hi, L[p]? = some (some (lo, hi)) ∧ lo ≤ (ver ds ds.length p : Int) ∧ (ver ds ds.length p : Int) ≤ hi := by
  have hL : L.length = P := by rw [G.len, R.len]
  constructor
  · intro e p hp
    have z : (slice ds L ds.length)[p]? = some (some (ver ds ds.length p : Int)) := by rw [e, newI_at P ds hp]
    rw [slice_at] at z
    cases y : L[p]? with
    | none => rw [y] at z; cases z
    | some l => cases l with
      | none => rw [y] at z; cases z
      | some x =>
        obtain ⟨lo, hi⟩ := x
        rw [y] at z
        have z2 : clampI lo hi (ver ds ds.length p : Int) = (ver ds ds.length p : Int) := Option.some.inj (Option.some.inj z)
        have g := G.rng p lo hi y
        unfold clampI at z2
        exact ⟨lo, hi, rfl, by omega, by omega⟩
  · intro h
    apply List.ext_getElem?
    intro p
    by_cases hp : p < P
    · obtain ⟨lo, hi, e, h1, h2⟩ := h p hp
      rw [slice_at, e, newI_at P ds hp]
      show some (some (clampI lo hi _)) = _
      rw [clamp_in h1 h2]
    · rw [List.getElem?_eq_none (by rw [slice_len]; omega), List.getElem?_eq_none (by rw [newI_len]; omega)]
/-- mendable: the newest image is reached -/
theorem mend_reach (W : WF P ds) (R : InR P ds im) (G : Good ds im L) (C : Closed ds L) : slice ds L ds.length = newI P ds ↔ Reach ds im (newI P ds) := by
  constructor
  · intro e
    rw [← e]
    exact G.to W (Nat.le_refl _)
  · intro r
    rw [slice_new R G]
    intro p hp
    exact (G.box.reach C r).lot (newI_at P ds hp)
/-- mendable: everything is known -/
theorem mend_full (W : WF P ds) (R : InR P ds im) (G : Good ds im L) (C : Closed ds L) : slice ds L ds.length = newI P ds ↔ L = fullL P ds := by
  have hL : L.length = P := by rw [G.len, R.len]
  rw [slice_new R G]
  constructor
  · intro h
    -- every row stands in the lots
    have all : ∀ k, k ≤ ds.length → ∀ p, p < P → ∃ lo hi, L[p]? = some (some (lo, hi)) ∧ lo ≤ (ver ds (ds.length - k) p : Int) ∧ (ver ds (ds.length - k) p : Int) ≤ hi := by
      intro k
      induction k with
      | zero => intro _; exact h
      | succ k ih =>
        intro hk p hp
        have ih := ih (by omega)
        obtain ⟨⟨q, rs⟩, hd⟩ : ∃ d, ds[ds.length - (k + 1)]? = some d := ⟨_, List.getElem?_eq_getElem (by omega)⟩
        have hs : ds.length - (k + 1) + 1 = ds.length - k := by omega
        obtain ⟨_, hr, _, _⟩ := W.at hd
        obtain ⟨lo, hi, e, h1, h2⟩ := ih p hp
        by_cases c : p = q
        · subst c
          have R' : Rds ds L (ds.length - (k + 1) + 1) rs := fun r m => by rw [hs]; exact ih r (hr r m).1
          have nc := C (ds.length - (k + 1)) false
          have v1 := ver_same hd
          rw [hs] at v1
          have : lo ≠ (ver ds (ds.length - (k + 1) + 1) p : Int) := fun z => nc ⟨p, rs, lo, hi, hd, e, R', z⟩
          rw [hs] at this
          exact ⟨lo, hi, e, by omega, by omega⟩
        · have v1 := ver_other hd c
          rw [hs] at v1
          exact ⟨lo, hi, e, by omega, by omega⟩
    apply List.ext_getElem?
    intro p
    by_cases hp : p < P
    · obtain ⟨lo, hi, e, h1, h2⟩ := h p hp
      obtain ⟨lo', hi', e', h3, h4⟩ := all ds.length (Nat.le_refl _) p hp
      rw [e] at e'
      have e2 := Option.some.inj (Option.some.inj e')
      have e1 : lo = lo' := congrArg Prod.fst e2
      have e2 : hi = hi' := congrArg Prod.snd e2
      rw [Nat.sub_self, ver_zero] at h3
      have g := G.rng p lo hi e
      rw [e, fullL_at P ds hp]
      congr 3 <;> omega
    · rw [List.getElem?_eq_none (by omega), List.getElem?_eq_none (by simp [fullL]; omega)]
  · intro e p hp
    subst e
    exact ⟨0, _, fullL_at P ds hp, by omega, by omega⟩
end
end K24

end
section
set_option Elab.async false
set_option linter.all false
set_option maxRecDepth 100000
set_option maxHeartbeats 4000000
/-! The base: data pictures over a frozen heap, the step from heap to heap, the rules that were lacking. -/
namespace PySem
open Sem (wp)
set_option maxHeartbeats 4000000 in
theorem meets_enumerate_new1 {v : Value} {o : Obj} {H : Heap → Prop} (B : Begins v o H) :
    Meets (Builtin.«enumerate.__new__» ⟨[.type "enumerate", v], []⟩) (fun _ R s => H s.heap ∧
      R (.ok (.ret (.ref (s.heap.push o).objs.size))) { s with heap := (s.heap.push o).push { cls := .type "enumerate", data := .fields #[.none, .bool false, .ref s.heap.objs.size, rawInt 0, .none, .none] } }) :=
  .of_wp fun prog w A R s h => by
    obtain ⟨hp, g, d, tk, os⟩ := s; obtain ⟨h1, h⟩ := h
    have hsub := sub_enumerate
    have q1 : ∀ {A' : Around} {E : Value → Shared → Prop} {Q : Value → Shared → Prop}, Q (.ref hp.objs.size) ⟨hp.push o, g, d, tk, os⟩ → wpAny (model prog w) A' (pyIter v) Q E ⟨hp, g, d, tk, os⟩ :=
      fun q => B.iter prog w _ _ ⟨hp, g, d, tk, os⟩ _ h1 q
    wp_walk using q1
    refine wpAny_stack_any fun st => wpAny_pure ?_
    split
    · rename_i c _ _ _ _ _
      cases (c == Value.type "enumerate")
      · wp_walk using q1
        exact ⟨_, rfl, h⟩
      · wp_walk using q1
        exact ⟨_, rfl, h⟩
    · wp_walk using q1
      exact ⟨_, rfl, h⟩
section
variable {prog : Program} {w : World} {A : Around} {E : Value → Shared → Prop} {s : Shared}
theorem enum_begins1 {v : Value} {o : Obj} {H : Heap → Prop} {Q : Value → Shared → Prop} (B : Begins v o H) (h1 : H s.heap)
    (h : ∀ h', IsEnum h' (s.heap.objs.size + 1) s.heap.objs.size 0 .none → h'.get? s.heap.objs.size = some o → h'.objs.size = s.heap.objs.size + 2 →
      (∀ b o, s.heap.get? b = some o → h'.get? b = some o) → Q (.ref (s.heap.objs.size + 1)) { s with heap := h' }) :
    wpAny (model prog w) A (call (.type "enumerate") [v]) Q E s := by
  refine callType_new F.called_enumerate (by decide) (F.typeCall_enumerate_1 _) (F.newCall_enumerate_1 _) (fun obj => F.args_object_init_2 obj _) F.entry_enumerate_new
    (meets_enumerate_new1 B) ⟨h1, ?_⟩
  have hz : (s.heap.push o).objs.size = s.heap.objs.size + 1 := Heap.size_push ..
  show _ ∧ _
  rw [hz]
  have he : IsEnum ((s.heap.push o).push { cls := .type "enumerate", data := .fields #[.none, .bool false, .ref s.heap.objs.size, rawInt 0, .none, .none] }) (s.heap.objs.size + 1) s.heap.objs.size 0 .none := by
    have := Heap.get?_push_size (s.heap.push o) (o := { cls := .type "enumerate", data := .fields #[.none, .bool false, .ref s.heap.objs.size, rawInt 0, .none, .none] }) rfl
    rw [hz] at this; exact this
  refine ⟨⟨_, he, rfl⟩, h _ he (Heap.get?_push_of_some _ (Heap.get?_push_size _ B.free)) (by rw [Heap.size_push, hz]) fun b o x => Heap.get?_push_of_some _ (Heap.get?_push_of_some _ x)⟩
end
end PySem
namespace L2
open PySem PySem.Spec PyProof.Rows
/-! ### enumerate(tuple) -/
def IteT (a : Addr) : It :=
  ⟨fun i H => ∃ (xs : List V) (x : V), H a = some (.tup xs) ∧ xs[i]? = some x, fun i H v H' => ∃ T x, v = .ref T ∧ H T = none ∧ H' = upd H T (.tup [.int (i : Nat), x]) ∧ ∀ xs, H a = some (.tup xs) → xs[i]? = some x, fun i H => ∃ xs : List V, H a = some (.tup xs) ∧ xs.length = i⟩
theorem turn_enumT {P : Program} {w : World} {K : PySem.W.Frag} {elts : List Expr} {kk : Nat} {tpos : Pos} (a e it : Addr) :
    Turn P w K (.Tuple elts kk tpos) (IteT a) [e, it] e (fun i h => (∃ old, IsEnum h e it ((i : Nat) : Int) old) ∧ h.IsTupleIter it a i ∧ e ≠ it) where
  mem := by simp
  obj := fun i h st b hb => by
    obtain ⟨⟨old, he⟩, ⟨o, ho, hc, hd⟩, _⟩ := st
    have e' : b = e ∨ b = it := by simpa using hb
    rcases e' with z | z
    · rw [z]; exact ⟨_, he, fun v q => nomatch q⟩
    · rw [z]; exact ⟨o, ho, fun v q => by rw [hd] at q; cases q⟩
  keep := fun i h h' st k => let ⟨⟨old, he⟩, hi, hne⟩ := st; ⟨⟨old, k e (by simp) _ he⟩, hi.at fun o q => k it (by simp) o q, hne⟩
  item := by
    intro X hP hw hK hc i pins s σ H E I hf st hg
    subst hP hw hK
    obtain ⟨⟨old, he⟩, hit, hne⟩ := st
    obtain ⟨xs, x, hq, hx⟩ := hg
    obtain ⟨hz, its, rv, p⟩ := I.hok a _ hq
    obtain ⟨u, hu, ru⟩ := rv.get hx
    have hel : e < s.heap.objs.size := Heap.lt_size he
    have hil : it < s.heap.objs.size := by obtain ⟨_, q, _⟩ := hit; exact Heap.lt_size q
    have nae : a ≠ e := fun z => by
      have := (hf e (by simp)).1
      rw [← z, hq] at this
      cases this
    have nai : a ≠ it := fun z => by
      have := (hf it (by simp)).1
      rw [← z, hq] at this
      cases this
    have hlt : i < its.toArray.size := by
      have := (List.getElem?_eq_some_iff.mp hu).1
      simpa using this
    refine wpAny_pyNext_enum_itemC (c := ((i : Nat) : Int)) (Draws.tuple (A := X.A.in1) (I.ok.hd hc) it a nai its.toArray) he ⟨hit, (show s.heap.IsTuple a its.toArray from p)⟩ hlt hne (by
      intro hm
      have : e = it ∨ e = a := by simpa using hm
      rcases this with z | z
      · exact hne z
      · exact nae z.symm) fun y h' tk hy ho hst' hT hsz hk => ?_
    have eu : y = u := by
      have h1 : its.toArray[i]? = some y := hy
      have h2 : its.toArray[i]? = some u := by simpa using hu
      rw [h1] at h2
      exact Option.some.inj h2
    subst eu
    refine ⟨_, rfl, wpAny_letOwnedTupleGo_enum (s := { s with heap := h', toks := tk + 1 }) ho fun h'' he' sb => ?_⟩
    have hT2 : h''.get? s.heap.objs.size = some { cls := .type "tuple", data := .seq #[.int i tk, y] } := (sb.2 _ (Nat.ne_of_gt hel)).trans hT
    have new : ObjOk X.prog X.w (upd H s.heap.objs.size (.tup [.int (i : Nat), x])) h'' s.heap.objs.size (.tup [.int (i : Nat), x]) :=
      ⟨by show 2 ≤ sizeLine; decide, [.int i tk, y], .cons ⟨_, rfl⟩ (.cons ru .nil), ⟨_, hT2, rfl, _, rfl⟩⟩
    have I1 : Inv X pins σ (upd H s.heap.objs.size (.tup [.int (i : Nat), x])) { s with heap := h'', toks := tk + 1 } :=
      I.turnedNew (ch := [e, it]) (fun b ob hb q => (sb.2 b (fun z => hb (by simp [z]))).trans (hk b ob (fun z => hb (by simp [z])) (fun z => hb (by simp [z])) q)) hf (Nat.le_refl _) new
    refine ⟨.ref s.heap.objs.size, _, I1, rfl, ⟨_, x, rfl, I.hok.fresh (Nat.le_refl _), rfl, fun ys hy => by rw [hq] at hy; cases hy; exact hx⟩, ⟨⟨y, ?_⟩, hst'.1.at fun o q => (sb.2 it (Ne.symm hne)).trans q, hne⟩, fun b hb => ?_⟩
    · have e1 : ((i + 1 : Nat) : Int) = (i : Int) + 1 := by omega
      rw [e1]; exact he'
    · have hb' : b < s.heap.objs.size := by
        have e' : b = e ∨ b = it := by simpa using hb
        rcases e' with z | z
        · rw [z]; exact hel
        · rw [z]; exact hil
      rw [upd_ne (Nat.ne_of_lt hb')]
      exact (hf b hb).1
  done := by
    intro X hP hw hK hc i pins s σ H E I hf st hg
    subst hP hw hK
    obtain ⟨⟨old, he⟩, hit, hne⟩ := st
    obtain ⟨xs, hq, hx⟩ := hg
    obtain ⟨hz, its, rv, p⟩ := I.hok a _ hq
    obtain ⟨f0, f1, f2, f3, f4, f5⟩ := hf it (by simp)
    have nai : a ≠ it := fun z => by
      rw [← z, hq] at f0
      cases f0
    have hl := rv.length
    have hn : its.toArray.size = i := by simp; omega
    refine wpAny_pyNext_enum_endD (Draws.tuple (A := X.A.in1) (I.ok.hd hc) it a nai its.toArray) he ⟨by rw [hn]; exact hit, (show s.heap.IsTuple a its.toArray from p)⟩ fun h' eb => ⟨rfl, I.turned (t' := s.toks) (fun b o hb q => eb b o hb q) f0 f1 f3 f4 f5⟩
  self := fun A i s Q E st h => let ⟨⟨_, he⟩, _⟩ := st; wpAny_pyIter_enum he h
def iEnumT (ta : TA) : TI := fun σ H R => ta σ H fun vs H1 => ∃ a xs, vs = [.ref a] ∧ H1 a = some (.tup xs) ∧ R (IteT a) H1
theorem pi_enumT {X : Cx} {e : Expr} {ta : TA} {p pos tpos : Pos} {elts : List Expr} {kk : Nat} (hg : Gl X "enumerate") (hm : X.mg "enumerate" = none) (ha : PA X [e] ta) (hs : starEach [e] X.env = [(false, eval e X.env)] := by rfl) :
    PI X (.Tuple elts kk tpos) (.Call (.Name "enumerate" p) [e] [] pos) (iEnumT ta) := by
  refine ⟨fun pins s σ H R I h => ?_⟩
  refine Call_ (ld_blt I hg hm boot_enumerate (PyProof.Rows.callWith_type1 (thn (ha.run pos pins s σ H _ I h) fun us s1 ⟨vs, H1, I1, r1, q1⟩ => ?_) hs rfl))
  obtain ⟨a, xs, ex, hq, q⟩ := q1
  subst ex
  cases r1 with
  | cons r rr =>
    cases rr
    cases r
    obtain ⟨hz, its, rv, p'⟩ := I1.hok a _ hq
    refine enum_begins1 (begins_tuple a its.toArray) (show s1.heap.IsTuple a its.toArray from p') fun h' he hit hsz hk => wpAny_pyIter_enum he ?_
    have I2 : Inv X pins σ H1 { s1 with heap := h' } := I1.kept (t' := s1.toks) hk
    refine ⟨s1.heap.objs.size + 1, [s1.heap.objs.size + 1, s1.heap.objs.size], _, _, H1, rfl, I2, turn_enumT a (s1.heap.objs.size + 1) s1.heap.objs.size, ⟨⟨.none, he⟩, ⟨_, hit, rfl, rfl⟩, Nat.succ_ne_self _⟩, fun b hb => ?_, q⟩
    have e' : b = s1.heap.objs.size + 1 ∨ b = s1.heap.objs.size := by simpa using hb
    have hle : s1.heap.objs.size ≤ b := by
      rcases e' with z | z
      · rw [z]; exact Nat.le_add_right _ _
      · rw [z]; exact Nat.le_refl _
    exact I1.fpOk hle (I1.hok.fresh hle)
theorem walk_enumT {a : Addr} {xs : List V} : Walk (IteT a) xs.length (fun H => H a = some (.tup xs)) (YPair (fun i => some (.int (i : Nat))) (fun i => xs[i]?)) := by
  refine ⟨fun i _ hi q => ⟨xs, xs[i], q, by simp [hi]⟩, fun _ q => ⟨xs, q, rfl⟩, fun i H v H' _ q y => ?_⟩
  obtain ⟨T, x, h1, h2, h3, h4⟩ := y
  exact ⟨T, .int (i : Nat), x, h1, h2, h3, rfl, h4 xs q⟩
/-! ### xs[i] op= e -/
theorem get_list {X : Cx} : PGet X (rIxL X.K) := by
  intro pins s σ H o i ov iv Q I ro ri h
  obtain ⟨p, xs, k, z, rfl, rfl, hq, he, q⟩ := h
  cases ro
  obtain ⟨t, rfl⟩ := ri
  obtain ⟨its, r, pl, hz⟩ := I.list hq
  obtain ⟨j, h1, h2, h3, h4, h5⟩ := atI_get he
  obtain ⟨w, ew, rw'⟩ := r.get h2
  have hl := r.length
  have hn := line63
  have fin : EP X pins σ Q w s := ⟨z, H, I, rw', q⟩
  by_cases h0 : 0 ≤ k
  · have hj : k.toNat = j := by
      rw [seqIndex_of h0 h5] at h1
      exact Option.some.inj h1
    exact wpAny_getItem_list pl.isList h0 (by omega) (by rw [hj]; simpa using ew) fin
  · have hj : (k + (its.toArray.size : Int)).toNat = j := by
      rw [seqIndex_neg (by omega) h4] at h1
      rw [List.size_toArray, ← hl]
      exact Option.some.inj h1
    exact wpAny_getItem_list_neg pl.isList (by omega) (by rw [List.size_toArray] <;> omega) (by omega) (by rw [hj]; simpa using ew) fin
end L2

end
section
set_option Elab.async false
set_option linter.all false
set_option maxRecDepth 100000
set_option maxHeartbeats 4000000
/-! Data pictures over a frozen heap; the step from heap to heap. -/
namespace K24
open PySem PySem.Spec PyProof.Rows L2
mutual
inductive D (F : Hp) : V → PyData → Prop
  | non : D F .non .none
  | bl (b : Bool) : D F (.bl b) (.bool b)
  | int (i : Int) : D F (.int i) (.int i)
  | str (x : Str) : D F (.str x) (.str x)
  | lst {a : Addr} {xs : List V} {ds : List PyData} : F a = some (.lst xs) → DA F xs ds → D F (.ref a) (.list ds)
  | tup {a : Addr} {xs : List V} {ds : List PyData} : F a = some (.tup xs) → DA F xs ds → D F (.ref a) (.tuple ds)
inductive DA (F : Hp) : List V → List PyData → Prop
  | nil : DA F [] []
  | cons {v : V} {vs : List V} {d : PyData} {ds : List PyData} : D F v d → DA F vs ds → DA F (v :: vs) (d :: ds)
end
section
variable {F F' H : Hp} {K : PySem.W.Frag}
mutual
theorem D.dp (e : Same F H) : ∀ (d : PyData) (v : V), D F v d → Dp K H v d
  | .none, _, h => by cases h; exact .non
  | .bool b, _, h => by cases h; exact .bl b
  | .int i, _, h => by cases h; exact .int i
  | .str x, _, h => by cases h; exact .str x
  | .list ds, _, h => by
    cases h with
    | lst hs ha => exact .lst (SqL.of (e _ _ hs)) (DA.dp e ds _ ha)
  | .tuple ds, _, h => by
    cases h with
    | tup hs ha => exact .tup (SqT.of (e _ _ hs)) (DA.dp e ds _ ha)
  | .dict _, _, h => by cases h
theorem DA.dp (e : Same F H) : ∀ (ds : List PyData) (vs : List V), DA F vs ds → DpAll K H vs ds
  | [], _, h => by cases h; exact .nil
  | d :: ds, _, h => by
    cases h with
    | cons h1 h2 => exact .cons (D.dp e d _ h1) (DA.dp e ds _ h2)
end
mutual
theorem D.mono (e : Same F F') : ∀ {d : PyData} {v : V}, D F v d → D F' v d
  | .none, _, h => by cases h; exact .non
  | .bool b, _, h => by cases h; exact .bl b
  | .int i, _, h => by cases h; exact .int i
  | .str x, _, h => by cases h; exact .str x
  | .list ds, _, h => by
    cases h with
    | lst hs ha => exact .lst (e _ _ hs) (DA.mono e ha)
  | .tuple ds, _, h => by
    cases h with
    | tup hs ha => exact .tup (e _ _ hs) (DA.mono e ha)
  | .dict _, _, h => by cases h
theorem DA.mono (e : Same F F') : ∀ {ds : List PyData} {vs : List V}, DA F vs ds → DA F' vs ds
  | [], _, h => by cases h; exact .nil
  | d :: ds, _, h => by
    cases h with
    | cons h1 h2 => exact .cons (D.mono e h1) (DA.mono e h2)
end
theorem D.int' {v : V} {i : Int} (h : D F v (.int i)) : v = .int i := by cases h; rfl
theorem D.none' {v : V} (h : D F v .none) : v = .non := by cases h; rfl
theorem D.list' {v : V} {ds : List PyData} (h : D F v (.list ds)) : ∃ a xs, v = .ref a ∧ F a = some (.lst xs) ∧ DA F xs ds := by
  cases h with
  | lst h1 h2 => exact ⟨_, _, rfl, h1, h2⟩
theorem D.tup' {v : V} {ds : List PyData} (h : D F v (.tuple ds)) : ∃ a xs, v = .ref a ∧ F a = some (.tup xs) ∧ DA F xs ds := by
  cases h with
  | tup h1 h2 => exact ⟨_, _, rfl, h1, h2⟩
theorem DA.len : ∀ {vs : List V} {ds : List PyData}, DA F vs ds → vs.length = ds.length
  | _, _, .nil => rfl
  | _, _, .cons _ t => congrArg (· + 1) (DA.len t)
theorem DA.at : ∀ {vs : List V} {ds : List PyData} {i : Nat} {d : PyData}, DA F vs ds → ds[i]? = some d → ∃ v, vs[i]? = some v ∧ D F v d
  | _, _, _, _, .nil, e => by simp at e
  | _, _, 0, _, .cons r _, e => by simp at e; subst e; exact ⟨_, rfl, r⟩
  | _, _, i + 1, d, .cons _ t, e => by
    obtain ⟨u, h1, h2⟩ := DA.at (i := i) (d := d) t (by simpa using e)
    exact ⟨u, by simpa using h1, h2⟩
theorem DA.at' : ∀ {vs : List V} {ds : List PyData} {i : Nat} {v : V}, DA F vs ds → vs[i]? = some v → ∃ d, ds[i]? = some d ∧ D F v d
  | _, _, _, _, .nil, e => by simp at e
  | _, _, 0, _, .cons r _, e => by simp at e; subst e; exact ⟨_, rfl, r⟩
  | _, _, i + 1, v, .cons _ t, e => by
    obtain ⟨u, h1, h2⟩ := DA.at' (i := i) (v := v) t (by simpa using e)
    exact ⟨u, by simpa using h1, h2⟩
theorem DA.app : ∀ {vs ws : List V} {ds es : List PyData}, DA F vs ds → DA F ws es → DA F (vs ++ ws) (ds ++ es)
  | _, _, _, _, .nil, h => h
  | _, _, _, _, .cons r t, h => .cons r (DA.app t h)
theorem DA.snoc {vs : List V} {v : V} {ds : List PyData} {d : PyData} (h : DA F vs ds) (g : D F v d) : DA F (vs ++ [v]) (ds ++ [d]) := DA.app h (.cons g .nil)
theorem DA.ints : ∀ {vs : List V} (ns : List Int), DA F vs (ns.map .int) → vs = ns.map V.int
  | _, [], h => by cases h; rfl
  | _, n :: ns, h => by
    cases h with
    | cons h1 h2 => rw [h1.int', DA.ints ns h2]; rfl
theorem DA.of_ints : ∀ (ns : List Int), DA F (ns.map V.int) (ns.map .int)
  | [] => .nil
  | n :: ns => .cons (.int n) (DA.of_ints ns)
theorem DA.two {vs : List V} {d e : PyData} (h : DA F vs [d, e]) : ∃ v w, vs = [v, w] ∧ D F v d ∧ D F w e := by
  cases h with
  | cons h1 h2 =>
    cases h2 with
    | cons h2 h3 =>
      cases h3
      exact ⟨_, _, rfl, h1, h2⟩
end
/-! ### the encoders -/
def eO : Option Int → PyData
  | none => .none
  | some v => .int v
def oV : Option Int → V
  | none => .non
  | some v => .int v
abbrev eImg (im : Im) : PyData := .tuple (im.map eO)
abbrev eRow (r : List Int) : PyData := .list (r.map .int)
abbrev eTab (P : Nat) (ds : List Dd) : PyData := .list ((List.range (ds.length + 1)).map fun s => eRow (row P ds s))
abbrev nI (r : Nat) : PyData := .int (r : Int)
abbrev nV (r : Nat) : V := .int (r : Int)
abbrev eRds (rs : List Nat) : PyData := .tuple (rs.map nI)
def eDeed (d : Dd) : PyData := .tuple [nI d.1, eRds d.2]
abbrev eLog (P : Nat) (ds : List Dd) : PyData := .tuple [nI P, .tuple (ds.map eDeed)]
def eLot : Option (Int × Int) → PyData
  | none => .none
  | some x => .list [.int x.1, .int x.2]
def eLotT : Option (Int × Int) → PyData
  | none => .none
  | some x => .tuple [.int x.1, .int x.2]
section
variable {F F' H H' : Hp}
theorem D.opt {v : V} {o : Option Int} (h : D F v (eO o)) : v = oV o := by
  cases o with
  | none => exact h.none'
  | some x => exact h.int'
theorem D.of_opt (o : Option Int) : D F (oV o) (eO o) := by
  cases o with
  | none => exact .non
  | some x => exact .int x
theorem DA.opts : ∀ {vs : List V} (im : Im), DA F vs (im.map eO) → vs = im.map oV
  | _, [], h => by cases h; rfl
  | _, n :: ns, h => by
    cases h with
    | cons h1 h2 => rw [h1.opt, DA.opts ns h2]; rfl
theorem DA.of_opts : ∀ (im : Im), DA F (im.map oV) (im.map eO)
  | [] => .nil
  | n :: ns => .cons (.of_opt n) (DA.of_opts ns)
theorem DA.nats {vs : List V} (ns : List Nat) (h : DA F vs (ns.map nI)) : vs = ns.map nV := by
  have e : ns.map nI = (ns.map fun n : Nat => (n : Int)).map PyData.int := by rw [List.map_map]; rfl
  rw [e] at h
  rw [DA.ints _ h, List.map_map]
  rfl
theorem DA.of_nats (ns : List Nat) : DA F (ns.map nV) (ns.map nI) := by
  have e : ns.map nI = (ns.map fun n : Nat => (n : Int)).map PyData.int := by rw [List.map_map]; rfl
  have e2 : (ns.map nV) = (ns.map fun n : Nat => (n : Int)).map V.int := by rw [List.map_map]; rfl
  rw [e, e2]
  exact DA.of_ints _
/-- a log, taken apart -/
theorem D.log {v : V} {P : Nat} {ds : List Dd} (h : D F v (eLog P ds)) : ∃ a b xs, v = .ref a ∧ F a = some (.tup [.int (P : Int), .ref b]) ∧ F b = some (.tup xs) ∧ DA F xs (ds.map eDeed) := by
  obtain ⟨a, xs, rfl, h1, h2⟩ := h.tup'
  obtain ⟨x, y, rfl, h3, h4⟩ := h2.two
  obtain ⟨b, ys, rfl, h5, h6⟩ := h4.tup'
  rw [h3.int'] at h1
  exact ⟨a, b, ys, rfl, h1, h5, h6⟩
theorem D.of_log {a b : Addr} {xs : List V} {P : Nat} {ds : List Dd} (h1 : F a = some (.tup [.int (P : Int), .ref b])) (h2 : F b = some (.tup xs)) (h3 : DA F xs (ds.map eDeed)) : D F (.ref a) (eLog P ds) :=
  .tup h1 (.cons (.int _) (.cons (.tup h2 h3) .nil))
/-- a deed, taken apart -/
theorem D.deed {v : V} {d : Dd} (h : D F v (eDeed d)) : ∃ a b, v = .ref a ∧ F a = some (.tup [.int (d.1 : Int), .ref b]) ∧ F b = some (.tup (d.2.map nV)) := by
  obtain ⟨a, xs, rfl, h1, h2⟩ := h.tup'
  obtain ⟨x, y, rfl, h3, h4⟩ := h2.two
  obtain ⟨b, ys, rfl, h5, h6⟩ := h4.tup'
  rw [h3.int'] at h1
  rw [DA.nats _ h6] at h5
  exact ⟨a, b, rfl, h1, h5⟩
theorem D.of_deed {a b : Addr} {d : Dd} (h1 : F a = some (.tup [.int (d.1 : Int), .ref b])) (h2 : F b = some (.tup (d.2.map nV))) : D F (.ref a) (eDeed d) :=
  .tup h1 (.cons (.int _) (.cons (.tup h2 (DA.of_nats _)) .nil))
/-- a row -/
theorem D.row {v : V} {r : List Int} (h : D F v (eRow r)) : ∃ a, v = .ref a ∧ F a = some (.lst (r.map V.int)) := by
  obtain ⟨a, xs, rfl, h1, h2⟩ := h.list'
  rw [DA.ints _ h2] at h1
  exact ⟨a, rfl, h1⟩
theorem D.of_row {a : Addr} {r : List Int} (h : F a = some (.lst (r.map V.int))) : D F (.ref a) (eRow r) := .lst h (DA.of_ints _)
theorem D.img {v : V} {im : Im} (h : D F v (eImg im)) : ∃ a, v = .ref a ∧ F a = some (.tup (im.map oV)) := by
  obtain ⟨a, xs, rfl, h1, h2⟩ := h.tup'
  rw [DA.opts _ h2] at h1
  exact ⟨a, rfl, h1⟩
theorem D.of_img {a : Addr} {im : Im} (h : F a = some (.tup (im.map oV))) : D F (.ref a) (eImg im) := .tup h (DA.of_opts _)
/-- row s of a table -/
theorem DA.tab {xs : List V} {P : Nat} {ds : List Dd} (h : DA F xs ((List.range (ds.length + 1)).map fun s => eRow (row P ds s))) {s : Nat} (hs : s ≤ ds.length) :
    ∃ a, xs[s]? = some (.ref a) ∧ F a = some (.lst ((row P ds s).map V.int)) := by
  obtain ⟨v, h1, h2⟩ := h.at (i := s) (d := eRow (row P ds s)) (by rw [List.getElem?_map, List.getElem?_range (by omega)] <;> rfl)
  obtain ⟨a, rfl, h3⟩ := h2.row
  exact ⟨a, h1, h3⟩
theorem DA.tab_len {xs : List V} {P : Nat} {ds : List Dd} (h : DA F xs ((List.range (ds.length + 1)).map fun s => eRow (row P ds s))) : xs.length = ds.length + 1 := by
  rw [h.len]; simp
/-! ### the step -/
structure Step (M : Addr → Prop) (F H F' H' : Hp) : Prop where
  ff : Same F F'
  fh : Same F' H'
  hh : ∀ b o, ¬ M b → H b = some o → H' b = some o
  dom : ∀ b, H' b = none → H b = none
  nw : ∀ b, F b = none → H b ≠ none → F' b = none
abbrev No : Addr → Prop := fun _ => False
abbrev Pu := Step No
variable {M : Addr → Prop} {F1 H1 : Hp} {p : Addr} {o : HO}
theorem Step.refl (h : Same F H) : Step M F H F H := ⟨Same.refl F, h, fun _ _ _ e => e, fun _ e => e, fun _ e _ => e⟩
theorem Step.trans (s : Step M F H F1 H1) (t : Step M F1 H1 F' H') : Step M F H F' H' :=
  ⟨s.ff.trans t.ff, t.fh, fun b o m e => t.hh b o m (s.hh b o m e), fun b e => s.dom b (t.dom b e), fun b e n => t.nw b (s.nw b e n) fun z => n (s.dom b z)⟩
theorem Step.lift (s : Pu F H F' H') : Step M F H F' H' := ⟨s.ff, s.fh, fun b o _ e => s.hh b o (fun z => z) e, s.dom, s.nw⟩
theorem Step.same (s : Pu F H F' H') : Same H H' := fun b o e => s.hh b o (fun z => z) e
theorem Step.sm (s : Step M F H F' H') : Same F H' := s.ff.trans s.fh
theorem none_of_same (e : Same F H) (n : H p = none) : F p = none := Same.free e n
theorem upd_none {b : Addr} (h : upd H p o b = none) : b ≠ p ∧ H b = none := by
  unfold upd at h
  split at h
  · cases h
  · exact ⟨by assumption, h⟩
theorem same_fresh (n : F p = none) : Same F (upd F p o) := fun b x e => by rw [upd_ne (ne_of_none e n)]; exact e
/-- a new object that may change -/
theorem Step.newM (s : Step M F H F1 H1) (n : H1 p = none) : Step M F H F1 (upd H1 p o) :=
  ⟨s.ff, s.fh.trans (same_fresh n), fun b x m e => by rw [upd_ne (ne_of_none (s.hh b x m e) n)]; exact s.hh b x m e, fun b e => s.dom b (upd_none e).2, s.nw⟩
/-- a new object that stays -/
theorem Step.newF (s : Step M F H F1 H1) (n : H1 p = none) : Step M F H (upd F1 p o) (upd H1 p o) := by
  have nf := none_of_same s.fh n
  refine ⟨s.ff.trans (same_fresh nf), fun b x e => ?_, fun b x m e => by rw [upd_ne (ne_of_none (s.hh b x m e) n)]; exact s.hh b x m e, fun b e => s.dom b (upd_none e).2, fun b e h => ?_⟩
  · by_cases c : b = p
    · subst c; rw [upd_same] at e ⊢; exact e
    · rw [upd_ne c] at e ⊢; exact s.fh b x e
  · have c : b ≠ p := fun z => h (by rw [z]; exact s.dom p n)
    rw [upd_ne c]
    exact s.nw b e h
/-- a new object stays from now on -/
theorem Step.frz (s : Step M F H F1 H1) (n : H p = none) (f : F1 p = none) (h : H1 p = some o) : Step M F H (upd F1 p o) H1 := by
  refine ⟨s.ff.trans (same_fresh f), fun b x e => ?_, s.hh, s.dom, fun b e g => ?_⟩
  · by_cases c : b = p
    · subst c; rw [upd_same] at e; rw [h, ← e]
    · rw [upd_ne c] at e; exact s.fh b x e
  · have c : b ≠ p := fun z => g (by rw [z]; exact n)
    rw [upd_ne c]
    exact s.nw b e g
/-- an object changes -/
theorem Step.put (s : Step M F H F1 H1) (hp : H p = none ∨ M p) (f : F1 p = none) (h : H1 p ≠ none) : Step M F H F1 (upd H1 p o) := by
  refine ⟨s.ff, fun b x e => ?_, fun b x m e => ?_, fun b e => s.dom b (upd_none e).2, s.nw⟩
  · rw [upd_ne (ne_of_none e f)]; exact s.fh b x e
  · have c : b ≠ p := fun z => by
      subst z
      rcases hp with q | q
      · rw [q] at e; cases e
      · exact m q
    rw [upd_ne c]
    exact s.hh b x m e
theorem Step.rfl' (s : Step M F H F1 H1) : Step M F1 H1 F1 H1 := .refl s.fh
theorem Step.nofr (s : Step M F H F1 H1) (n : H1 p = none) : F1 p = none := none_of_same s.fh n
theorem Step.keepF (s : Step M F H F1 H1) (f : F p = none) (h : H p ≠ none) : F1 p = none := s.nw p f h
end
/-- what a pure def hands back -/
def Ret (F H : Hp) (Q : VK) (post : Hp → V → Prop) : Prop := ∀ F' H' v, Pu F H F' H' → post F' v → Q v H'
theorem cut63 {n : Nat} (h : n ≤ 1000) : n ≤ sizeLine := Nat.le_of_lt (small1000 h)
end K24

end
section
set_option Elab.async false
set_option linter.all false
set_option maxRecDepth 100000
set_option maxHeartbeats 4000000
/-! The text by places (printed by gen.py). -/
namespace K24
open PySem L2
def top (i : Nat) : Stmt := PySem.Challenge.pw_wendleaf_k24_whole_mendable_by_walking.main.body.getD i (.Pass ⟨0, 0, 0, 0⟩)
abbrev s_is_whole : Stmt := top 6
abbrev n_is_whole : List Str := ["thing"]
theorem sc_is_whole : FnScope n_is_whole ["thing"] (defScope s_is_whole) := ⟨rfl, rfl, rfl, by decide +kernel, rfl, by decide +kernel, by decide +kernel⟩
abbrev s_is_bare_deed : Stmt := top 10
abbrev n_is_bare_deed : List Str := ["thing", "pages", "page", "reads", "below", "read"]
theorem sc_is_bare_deed : FnScope n_is_bare_deed ["thing", "pages"] (defScope s_is_bare_deed) := ⟨rfl, rfl, rfl, by decide +kernel, rfl, by decide +kernel, by decide +kernel⟩
abbrev s_is_log_shape : Stmt := top 11
abbrev n_is_log_shape : List Str := ["thing"]
theorem sc_is_log_shape : FnScope n_is_log_shape ["thing"] (defScope s_is_log_shape) := ⟨rfl, rfl, rfl, by decide +kernel, rfl, by decide +kernel, by decide +kernel⟩
abbrev s_first_bad_deed : Stmt := top 12
abbrev n_first_bad_deed : List Str := ["pages", "deeds", "at", "deed"]
theorem sc_first_bad_deed : FnScope n_first_bad_deed ["pages", "deeds"] (defScope s_first_bad_deed) := ⟨rfl, rfl, rfl, by decide +kernel, rfl, by decide +kernel, by decide +kernel⟩
abbrev s_is_log : Stmt := top 13
abbrev n_is_log : List Str := ["thing"]
theorem sc_is_log : FnScope n_is_log ["thing"] (defScope s_is_log) := ⟨rfl, rfl, rfl, by decide +kernel, rfl, by decide +kernel, by decide +kernel⟩
abbrev s_made_log : Stmt := top 14
abbrev n_made_log : List Str := ["thing", "pages", "deeds", "bad"]
theorem sc_made_log : FnScope n_made_log ["thing"] (defScope s_made_log) := ⟨rfl, rfl, rfl, by decide +kernel, rfl, by decide +kernel, by decide +kernel⟩
abbrev s_own_numbers : Stmt := top 15
abbrev n_own_numbers : List Str := ["log", "pages", "deeds", "found", "at", "deed", "page"]
theorem sc_own_numbers : FnScope n_own_numbers ["log"] (defScope s_own_numbers) := ⟨rfl, rfl, rfl, by decide +kernel, rfl, by decide +kernel, by decide +kernel⟩
abbrev s_newest : Stmt := top 16
abbrev n_newest : List Str := ["log", "numbers"]
theorem sc_newest : FnScope n_newest ["log"] (defScope s_newest) := ⟨rfl, rfl, rfl, by decide +kernel, rfl, by decide +kernel, by decide +kernel⟩
abbrev s_first_bad_page : Stmt := top 17
abbrev n_first_bad_page : List Str := ["log", "image", "most", "page", "version"]
theorem sc_first_bad_page : FnScope n_first_bad_page ["log", "image"] (defScope s_first_bad_page) := ⟨rfl, rfl, rfl, by decide +kernel, rfl, by decide +kernel, by decide +kernel⟩
abbrev s_is_image : Stmt := top 18
abbrev n_is_image : List Str := ["log", "image"]
theorem sc_is_image : FnScope n_is_image ["log", "image"] (defScope s_is_image) := ⟨rfl, rfl, rfl, by decide +kernel, rfl, by decide +kernel, by decide +kernel⟩
abbrev s_made_image : Stmt := top 19
abbrev n_made_image : List Str := ["log", "image", "bad"]
theorem sc_made_image : FnScope n_made_image ["log", "image"] (defScope s_made_image) := ⟨rfl, rfl, rfl, by decide +kernel, rfl, by decide +kernel, by decide +kernel⟩
abbrev s_moment_table : Stmt := top 21
abbrev n_moment_table : List Str := ["log", "many", "deeds", "row", "table", "page", "reads"]
theorem sc_moment_table : FnScope n_moment_table ["log"] (defScope s_moment_table) := ⟨rfl, rfl, rfl, by decide +kernel, rfl, by decide +kernel, by decide +kernel⟩
abbrev s_single_lots : Stmt := top 22
abbrev n_single_lots : List Str := ["image", "version"]
theorem sc_single_lots : FnScope n_single_lots ["image"] (defScope s_single_lots) := ⟨rfl, rfl, rfl, by decide +kernel, rfl, by decide +kernel, by decide +kernel⟩
abbrev s_reads_known : Stmt := top 23
abbrev n_reads_known : List Str := ["table", "lots", "reads", "t", "row", "page", "lot"]
theorem sc_reads_known : FnScope n_reads_known ["table", "lots", "reads", "t"] (defScope s_reads_known) := ⟨rfl, rfl, rfl, by decide +kernel, rfl, by decide +kernel, by decide +kernel⟩
abbrev s_growth_of : Stmt := top 24
abbrev n_growth_of : List Str := ["log", "table", "lots", "t", "page", "reads", "lot", "version"]
theorem sc_growth_of : FnScope n_growth_of ["log", "table", "lots", "t"] (defScope s_growth_of) := ⟨rfl, rfl, rfl, by decide +kernel, rfl, by decide +kernel, by decide +kernel⟩
abbrev s_edge_deeds : Stmt := top 25
abbrev n_edge_deeds : List Str := ["numbers", "lot", "found"]
theorem sc_edge_deeds : FnScope n_edge_deeds ["numbers", "lot"] (defScope s_edge_deeds) := ⟨rfl, rfl, rfl, by decide +kernel, rfl, by decide +kernel, by decide +kernel⟩
abbrev s_next_growth : Stmt := top 26
abbrev n_next_growth : List Str := ["log", "led", "table", "lots", "found", "page", "numbers", "t", "growth"]
theorem sc_next_growth : FnScope n_next_growth ["log", "led", "table", "lots"] (defScope s_next_growth) := ⟨rfl, rfl, rfl, by decide +kernel, rfl, by decide +kernel, by decide +kernel⟩
abbrev s_grow : Stmt := top 27
abbrev n_grow : List Str := ["log", "lots", "growth", "t", "way", "lot"]
theorem sc_grow : FnScope n_grow ["log", "lots", "growth"] (defScope s_grow) := ⟨rfl, rfl, rfl, by decide +kernel, rfl, by decide +kernel, by decide +kernel⟩
abbrev s_growths : Stmt := top 28
abbrev n_growths : List Str := ["log", "table", "image", "lots", "led", "found", "growth", "page", "numbers"]
theorem sc_growths : FnScope n_growths ["log", "table", "image"] (defScope s_growths) := ⟨rfl, rfl, rfl, by decide +kernel, rfl, by decide +kernel, by decide +kernel⟩
abbrev s_told_lots : Stmt := top 29
abbrev n_told_lots : List Str := ["lots", "lot"]
theorem sc_told_lots : FnScope n_told_lots ["lots"] (defScope s_told_lots) := ⟨rfl, rfl, rfl, by decide +kernel, rfl, by decide +kernel, by decide +kernel⟩
abbrev s_known : Stmt := top 30
abbrev n_known : List Str := ["log", "image"]
theorem sc_known : FnScope n_known ["log", "image"] (defScope s_known) := ⟨rfl, rfl, rfl, by decide +kernel, rfl, by decide +kernel, by decide +kernel⟩
abbrev s_bounded : Stmt := top 32
abbrev n_bounded : List Str := ["row", "lots", "found", "version", "lot"]
theorem sc_bounded : FnScope n_bounded ["row", "lots"] (defScope s_bounded) := ⟨rfl, rfl, rfl, by decide +kernel, rfl, by decide +kernel, by decide +kernel⟩
abbrev s_end_slice : Stmt := top 33
abbrev n_end_slice : List Str := ["log", "table", "image"]
theorem sc_end_slice : FnScope n_end_slice ["log", "table", "image"] (defScope s_end_slice) := ⟨rfl, rfl, rfl, by decide +kernel, rfl, by decide +kernel, by decide +kernel⟩
abbrev s_mendable : Stmt := top 34
abbrev n_mendable : List Str := ["log", "image", "table"]
theorem sc_mendable : FnScope n_mendable ["log", "image"] (defScope s_mendable) := ⟨rfl, rfl, rfl, by decide +kernel, rfl, by decide +kernel, by decide +kernel⟩
abbrev s__law_pool : Stmt := top 36
abbrev n__law_pool : List Str := ["_law_script", "_law_first", "_law_size"]
theorem sc__law_pool : FnScope n__law_pool ["_law_script"] (defScope s__law_pool) := ⟨rfl, rfl, rfl, by decide +kernel, rfl, by decide +kernel, by decide +kernel⟩
abbrev s__law_draw : Stmt := top 37
abbrev n__law_draw : List Str := ["_law_pool_here", "_law_many", "_law_cell", "_law_size", "_law_found"]
theorem sc__law_draw : FnScope n__law_draw ["_law_pool_here", "_law_many"] (defScope s__law_draw) := ⟨rfl, rfl, rfl, by decide +kernel, rfl, by decide +kernel, by decide +kernel⟩
abbrev s__law_turned : Stmt := top 38
abbrev n__law_turned : List Str := ["_law_pool_here", "_law_many", "_law_left", "_law_found", "_law_turn"]
theorem sc__law_turned : FnScope n__law_turned ["_law_pool_here", "_law_many"] (defScope s__law_turned) := ⟨rfl, rfl, rfl, by decide +kernel, rfl, by decide +kernel, by decide +kernel⟩
abbrev s__law_log : Stmt := top 39
abbrev n__law_log : List Str := ["_law_pool_here", "_law_pages", "_law_deeds", "_law_is_ringless", "_law_rank", "_law_rows", "_law_thin", "_law_turn", "_law_page", "_law_free", "_law_other"]
theorem sc__law_log : FnScope n__law_log ["_law_pool_here", "_law_pages", "_law_deeds", "_law_is_ringless"] (defScope s__law_log) := ⟨rfl, rfl, rfl, by decide +kernel, rfl, by decide +kernel, by decide +kernel⟩
abbrev s__law_table : Stmt := top 40
abbrev n__law_table : List Str := ["_law_log_here", "_law_row", "_law_table_here", "_law_page", "_law_reads"]
theorem sc__law_table : FnScope n__law_table ["_law_log_here"] (defScope s__law_table) := ⟨rfl, rfl, rfl, by decide +kernel, rfl, by decide +kernel, by decide +kernel⟩
abbrev s__law_image : Stmt := top 41
abbrev n__law_image : List Str := ["_law_pool_here", "_law_log_here", "_law_table_here", "_law_lost", "_law_newest", "_law_row", "_law_way", "_law_image_here", "_law_page", "_law_version"]
theorem sc__law_image : FnScope n__law_image ["_law_pool_here", "_law_log_here", "_law_table_here", "_law_lost"] (defScope s__law_image) := ⟨rfl, rfl, rfl, by decide +kernel, rfl, by decide +kernel, by decide +kernel⟩
abbrev s__law_moved : Stmt := top 42
abbrev n__law_moved : List Str := ["_law_log_here", "_law_table_here", "_law_image_here", "_law_t", "_law_way", "_law_page", "_law_reads", "_law_row", "_law_ahead", "_law_other", "_law_read"]
theorem sc__law_moved : FnScope n__law_moved ["_law_log_here", "_law_table_here", "_law_image_here", "_law_t", "_law_way"] (defScope s__law_moved) := ⟨rfl, rfl, rfl, by decide +kernel, rfl, by decide +kernel, by decide +kernel⟩
abbrev s__law_is_truth : Stmt := top 43
abbrev n__law_is_truth : List Str := ["_law_value", "_law_due"]
theorem sc__law_is_truth : FnScope n__law_is_truth ["_law_value", "_law_due"] (defScope s__law_is_truth) := ⟨rfl, rfl, rfl, by decide +kernel, rfl, by decide +kernel, by decide +kernel⟩
abbrev s__law_open : Stmt := top 44
abbrev n__law_open : List Str := ["_law_log_here", "_law_table_here", "_law_image_here", "_law_found", "_law_t", "_law_way"]
theorem sc__law_open : FnScope n__law_open ["_law_log_here", "_law_table_here", "_law_image_here"] (defScope s__law_open) := ⟨rfl, rfl, rfl, by decide +kernel, rfl, by decide +kernel, by decide +kernel⟩
abbrev s__law_reached : Stmt := top 45
abbrev n__law_reached : List Str := ["_law_log_here", "_law_table_here", "_law_image_here", "_law_found", "_law_turn", "_law_here", "_law_t", "_law_way", "_law_there"]
theorem sc__law_reached : FnScope n__law_reached ["_law_log_here", "_law_table_here", "_law_image_here"] (defScope s__law_reached) := ⟨rfl, rfl, rfl, by decide +kernel, rfl, by decide +kernel, by decide +kernel⟩
abbrev s__law_is_told : Stmt := top 46
abbrev n__law_is_told : List Str := ["_law_pool_here", "_law_log_here", "_law_table_here", "_law_image_here", "_law_some", "_law_due", "_law_drawn", "_law_turn", "_law_there", "_law_version"]
theorem sc__law_is_told : FnScope n__law_is_told ["_law_pool_here", "_law_log_here", "_law_table_here", "_law_image_here"] (defScope s__law_is_told) := ⟨rfl, rfl, rfl, by decide +kernel, rfl, by decide +kernel, by decide +kernel⟩
abbrev s_law : Stmt := top 47
abbrev n_law : List Str := ["_law_script", "_law_pool_here", "_law_pages", "_law_deeds", "_law_log_here", "_law_table_here", "_law_lost", "_law_image_here", "_law_newest", "_law_wrong", "_law_thing"]
theorem sc_law : FnScope n_law ["_law_script"] (defScope s_law) := ⟨rfl, rfl, rfl, by decide +kernel, rfl, by decide +kernel, by decide +kernel⟩
end K24

end
section
set_option Elab.async false
set_option linter.all false
set_option maxRecDepth 100000
set_option maxHeartbeats 4000000
namespace K24
open PySem PySem.Spec PyProof.Rows L2
/-- the built-ins' names are free; the module's two numbers -/
structure Bi (mg : Str → Option Value) : Prop where
  len : mg "len" = none
  isi : mg "isinstance" = none
  tup : mg "tuple" = none
  int : mg "int" = none
  bool : mg "bool" = none
  list : mg "list" = none
  range : mg "range" = none
  enum : mg "enumerate" = none
  zip : mg "zip" = none
  max : mg "max" = none
  min : mg "min" = none
  mp : ∃ t, mg "MOST_PAGES" = some (.int 32 t)
  md : ∃ t, mg "MOST_DEEDS" = some (.int 400 t)
/-- a def that may be called -/
def Cal (P : Program) (w : World) (K : PySem.W.Frag) (mg : Str → Option Value) (base : Heap) (x : Str) (k : Nat) (ps : List Str) (sp : Sp) : Prop :=
  ∃ f fd, FnOk P w K mg base CX0 k f fd ps sp ∧ mg x = some (.ref f) ∧ PySem.W.keepIn K (.ref f) = true ∧ Binds K fd ps []
theorem iteD {c A B : Prop} [Decidable c] (hc : c) (h : A) : if decide c = true then A else B := by rw [if_pos (decide_eq_true hc)]; exact h
theorem iteDn {c A B : Prop} [Decidable c] (hc : ¬ c) (h : B) : if decide c = true then A else B := by rw [if_neg (by simp [hc])]; exact h
theorem iteNN {c A B : Prop} [Decidable c] (hc : ¬ c) (h : A) : if (!decide c) = true then A else B := by rw [if_pos (by simp [hc])]; exact h
/-- isinstance(x, T), T a built-in class -/
def rIsiB (K : PySem.W.Frag) (n : String) : List V → Hp → VK → Prop := fun xs H Q => ∃ (x : V) (m : String) (b : Bool), xs = [x, .ty n] ∧ TyX K H x (.type m) ∧ kitB m n = some b ∧ Q (.bl b) H
theorem call_isiB {X : Cx} {n : String} : CallR X (.builtin "isinstance") (rIsiB X.K n) := by
  intro pins s σ H xs us Q I r h
  obtain ⟨x, m, b, rfl, ty, e, q⟩ := h
  exact call_isi pins s σ H _ us Q I r ⟨x, .ty n, _, _, b, rfl, .ty n, ty, kit_ty e, q⟩
theorem pe_isi {X : Cx} {e : Expr} {te : TE} {y : Str} {n : String} {p p2 pos : Pos} (T : Bi X.mg) (m2 : X.mg y = none) (b2 : bootBuiltins y = some (.type n)) (h : PE X e te)
    (g1 : Gl X "isinstance" := by rfl) (g2 : Gl X y := by rfl) (d1 : y ≠ "__name__" := by decide) (d2 : (y == ("__debug__" : Str)) = false := by decide)
    (he : starEach [e, .Name y p2] X.env = (false, eval e X.env) :: starEach [.Name y p2] X.env := by rfl) (hpl : (backTo pos (starEach [.Name y p2] X.env)).any (·.1) = false := by rfl)
    (he2 : starEach [.Name y p2] X.env = (false, eval (.Name y p2) X.env) :: starEach [] X.env := by rfl) (hpl2 : (backTo pos (starEach [] X.env)).any (·.1) = false := by rfl) :
    PE X (.Call (.Name "isinstance" p) [e, .Name y p2] [] pos) (tCB (rIsiB X.K n) (tCons te (tCons (tC (.ty n)) tNil))) :=
  pe_callB (p := p) (pos := pos) call_isiB g1 T.isi boot_isinstance (pa_cons (hs := he) h (pa_cons (hs := he2) (pe_bltn (pos := p2) (v := .ty n) g2 m2 b2 rfl d1 d2) pa_nil)) (he := he) (hpl := hpl)
section
variable {P : Program} {w : World} {K : PySem.W.Frag} {mg : Str → Option Value} {base : Heap}
def sp_is_whole : Sp := fun vs H Q _ => ∃ i : Int, vs = [.int i] ∧ Q (.bl true) H
theorem ok_is_whole {f : Addr} {fd : FuncData} {k : Nat} (F : Fun K "is_whole" "is_whole" s_is_whole f fd) (T : Bi mg) : FnOk P w K mg base CX0 (k + 1) f fd ["thing"] sp_is_whole := by
  refine F.ok sc_is_whole (fun vs H Q E h => ?_) (fun cdv A outer s H vs Q E hr h => ?_)
  · obtain ⟨i, rfl, _⟩ := h
    rfl
  · obtain ⟨i, rfl, q⟩ := h
    refine ⟨_, pss_one (ps_ret (pe_and (pe_isi T T.int boot_int (pv 0)) (pe_one (pe_not (pe_isi T T.bool boot_bool (pv 0)))))), ?_⟩
    refine ⟨.int i, rfl, .int i, "int", true, rfl, .base (.int i), by decide +kernel, true, rfl, iteT ?_⟩
    exact ⟨.int i, rfl, .int i, "int", false, rfl, .base (.int i), by decide +kernel, false, rfl, q⟩
/-- a right deed -/
def DeedOk (P : Nat) (d : Dd) : Prop := d.1 < P ∧ (∀ r ∈ d.2, r < P ∧ r ≠ d.1) ∧ d.2.Pairwise (· < ·)
def sp_is_bare_deed : Sp := fun vs H Q _ => ∃ (F : Hp) (v : V) (P : Nat) (d : Dd), vs = [v, .int (P : Int)] ∧ Same F H ∧ D F v (eDeed d) ∧ DeedOk P d ∧ Q (.bl true) H
theorem ok_is_bare_deed {f : Addr} {fd : FuncData} {k : Nat} (F : Fun K "is_bare_deed" "is_bare_deed" s_is_bare_deed f fd) (T : Bi mg) (C1 : Cal P w K mg base "is_whole" 1 ["thing"] sp_is_whole) :
    FnOk P w K mg base CX0 2 f fd ["thing", "pages"] sp_is_bare_deed := by
  obtain ⟨f1, fd1, G1, m1, k1, b1⟩ := C1
  refine F.ok sc_is_bare_deed (fun vs H Q E h => ?_) (fun cdv A outer s H vs Q E hr h => ?_)
  · obtain ⟨F, v, P, d, rfl, _⟩ := h
    rfl
  · obtain ⟨F, v, P, d, rfl, fh, hD, ⟨ok1, ok2, ok3⟩, q⟩ := h
    obtain ⟨a, b, rfl, ha, hb⟩ := hD.deed
    have hA := fh _ _ ha
    have hB := fh _ _ hb
    refine ⟨_, pss_cons (ps_if (PW.pt (pw_or (pt_not (pt_val (pe_isi T T.tup boot_tuple (pv 0)))) (pw_or1 (pt_cmpR op_ne (pe_callB call_len_seq (by rfl) T.len boot_len (pa_cons (pv 0) pa_nil)) pe_int (nomark _)))))
        (pss_one (ps_ret pe_bl)) pss_nil)
      (pss_cons (ps_asg (pv 0) (pg_tup rfl (pgs_cons (pg_name (i := 2) sc_is_bare_deed.nd rfl (.inl rfl)) (pgs_cons (pg_name (i := 3) sc_is_bare_deed.nd rfl (.inl rfl)) pgs_nil))))
      (pss_cons (ps_if (PW.pt (pw_or (pt_not (pt_val (pe_call G1 hr (by rfl) m1 k1 b1 .nil pass0 (pa_cons (pv 2) pa_nil)))) (pw_or (pt_not (pt_chain op_le op_lt pe_int (pv 2) (pv 1))) (pw_or1 (pt_not (pt_val (pe_isi T T.tup boot_tuple (pv 3))))))))
        (pss_one (ps_ret pe_bl)) pss_nil)
      (pss_cons (ps_set (i := 4) sc_is_bare_deed.nd rfl (.inl rfl) (pe_un un_neg pe_int))
      (pss_cons (ps_for PassesOwn.never rfl (pi_tup (pv 3)) (pg_name (i := 5) sc_is_bare_deed.nd rfl (.inl rfl))
        (pss_cons (ps_if (PW.pt (pw_or (pt_not (pt_val (pe_call G1 hr (by rfl) m1 k1 b1 .nil pass0 (pa_cons (pv 5) pa_nil)))) (pw_or (pt_not (pt_chain op_lt op_lt (pv 4) (pv 5) (pv 1))) (pw_or1 (pt_cmpR op_eq (pv 5) (pv 2) (nomark _))))))
          (pss_one (ps_ret pe_bl)) pss_nil)
        (pss_one (ps_set (i := 4) sc_is_bare_deed.nd rfl (.inl rfl) (pv 5)))))
      (pss_one (ps_ret pe_bl)))))), ?_⟩
    refine ⟨_, rfl, _, "tuple", true, rfl, .base (.tup hA), by decide +kernel, true, rfl, iteF ?_⟩
    refine ⟨_, rfl, a, _, rfl, .inr (SqT.of hA), rfl, _, rfl, iteNS rfl ?_⟩
    refine ⟨_, rfl, a, _, rfl, SqT.of hA, rfl, _, _, rfl, _, _, rfl, rfl, ?_⟩
    refine ⟨_, rfl, _, rfl, true, rfl, iteF ?_⟩
    refine ⟨_, rfl, 0, (d.1 : Int), rfl, rfl, _, rfl, iteD (by omega) ⟨_, rfl, (d.1 : Int), (P : Int), rfl, rfl, _, rfl, ?_⟩⟩
    rw [decide_eq_true (show (d.1 : Int) < (P : Int) by omega)]
    refine iteF ?_
    refine ⟨_, rfl, _, "tuple", true, rfl, .base (.tup hB), by decide +kernel, true, rfl, iteF ?_⟩
    refine ⟨1, rfl, ?_⟩
    refine ⟨_, rfl, b, rfl, ⟨_, SqT.of hB⟩, for_tup (K := K) (a := b) (xs := d.2.map nV) (fun i σ H' => H' = H ∧ ∃ (bl : Int) (x : Option V), σ = [some (.ref a), some (.int (P : Int)), some (.int (d.1 : Int)), some (.ref b), some (.int bl), x] ∧ ∀ (j r : Nat), i ≤ j → d.2[j]? = some r → bl < (r : Int))
      ⟨rfl, -1, none, rfl, fun j r _ _ => by omega⟩ (fun i σ H' _ ⟨e, _⟩ => by subst e; exact SqT.of hB) ?_ ?_⟩
    · rintro i x σ H' hx ⟨rfl, bl, y, rfl, hbl⟩
      rw [List.getElem?_map] at hx
      cases hd : d.2[i]? with
      | none => rw [hd] at hx; cases hx
      | some r =>
        rw [hd] at hx
        obtain rfl : nV r = x := Option.some.inj hx
        have h1 := hbl i r (Nat.le_refl _) hd
        have h2 := ok2 r (List.mem_of_getElem? hd)
        refine ⟨_, rfl, _, rfl, true, rfl, iteF ?_⟩
        refine ⟨_, rfl, _, rfl, bl, (r : Int), rfl, rfl, _, rfl, iteD h1 ⟨_, rfl, (r : Int), (P : Int), rfl, rfl, _, rfl, ?_⟩⟩
        rw [decide_eq_true (show (r : Int) < (P : Int) by omega)]
        refine iteF ?_
        refine ⟨_, rfl, _, rfl, rfl, _, rfl, iteDn (fun z => h2.2 (by have := V.int.inj z; omega)) ?_⟩
        refine ⟨_, rfl, rfl, r, _, rfl, fun j r' hj hr' => ?_⟩
        have hil := (List.getElem?_eq_some_iff.mp hd).1
        have hjl := (List.getElem?_eq_some_iff.mp hr').1
        have e1 := (List.getElem?_eq_some_iff.mp hd).2
        have e2 := (List.getElem?_eq_some_iff.mp hr').2
        have := (List.pairwise_iff_getElem.mp ok3) i j hil hjl (by omega)
        omega
    · rintro σ H' ⟨rfl, bl, y, rfl, hbl⟩
      exact q
end
end K24

end
section
set_option Elab.async false
set_option linter.all false
set_option maxRecDepth 100000
set_option maxHeartbeats 4000000
namespace K24
open PySem PySem.Spec PyProof.Rows L2
theorem iteEq {c : Bool} {A B : Prop} (hc : c = true) (h : A) : if c = true then A else B := by rw [if_pos hc]; exact h
section
variable {P : Program} {w : World} {K : PySem.W.Frag} {mg : Str → Option Value} {base : Heap}
theorem deeds_at {F : Hp} {xs : List V} {ds : List Dd} (h : DA F xs (ds.map eDeed)) {i : Nat} {d : Dd} (e : ds[i]? = some d) : ∃ v, xs[i]? = some v ∧ D F v (eDeed d) :=
  h.at (by rw [List.getElem?_map, e] <;> rfl)
theorem deeds_at' {F : Hp} {xs : List V} {ds : List Dd} (h : DA F xs (ds.map eDeed)) {i : Nat} {v : V} (e : xs[i]? = some v) : ∃ d, ds[i]? = some d ∧ D F v (eDeed d) := by
  obtain ⟨d, h1, h2⟩ := h.at' e
  rw [List.getElem?_map] at h1
  cases hd : ds[i]? with
  | none => rw [hd] at h1; cases h1
  | some d' =>
    rw [hd] at h1
    obtain rfl := Option.some.inj h1
    exact ⟨d', rfl, h2⟩
def sp_is_log_shape : Sp := fun vs H Q _ => ∃ (F : Hp) (v : V) (P : Nat) (ds : List Dd), vs = [v] ∧ Same F H ∧ D F v (eLog P ds) ∧ Q (.bl (decide (1 ≤ P))) H
theorem ok_is_log_shape {f : Addr} {fd : FuncData} (F : Fun K "is_log_shape" "is_log_shape" s_is_log_shape f fd) (T : Bi mg) (C1 : Cal P w K mg base "is_whole" 1 ["thing"] sp_is_whole) :
    FnOk P w K mg base CX0 2 f fd ["thing"] sp_is_log_shape := by
  obtain ⟨f1, fd1, G1, m1, k1, b1⟩ := C1
  refine F.ok sc_is_log_shape (fun vs H Q E h => ?_) (fun cdv A outer s H vs Q E hr h => ?_)
  · obtain ⟨F, v, P, ds, rfl, _⟩ := h
    rfl
  · obtain ⟨F, v, P, ds, rfl, fh, hD, q⟩ := h
    obtain ⟨a, b, xs, rfl, ha, hb, _⟩ := hD.log
    have hA := fh _ _ ha
    have hB := fh _ _ hb
    refine ⟨_, pss_cons (ps_if (PW.pt (pw_or (pt_not (pt_val (pe_isi T T.tup boot_tuple (pv 0)))) (pw_or1 (pt_cmpR op_ne (pe_callB call_len_seq (by rfl) T.len boot_len (pa_cons (pv 0) pa_nil)) pe_int (nomark _)))))
        (pss_one (ps_ret pe_bl)) pss_nil)
      (pss_one (ps_ret (pe_and (pe_call G1 hr (by rfl) m1 k1 b1 .nil pass0 (pa_cons (pe_ix ix_tup (pv 0) pe_int (fun _ _ => rfl)) pa_nil))
        (pe_and (pe_cmpR op_ge (pe_ix ix_tup (pv 0) pe_int (fun _ _ => rfl)) pe_int (nomark _)) (pe_one (pe_isi T T.tup boot_tuple (pe_ix ix_tup (pv 0) pe_int (fun _ _ => rfl)))))))), ?_⟩
    refine ⟨_, rfl, _, "tuple", true, rfl, .base (.tup hA), by decide +kernel, true, rfl, iteF ?_⟩
    refine ⟨_, rfl, a, _, rfl, .inr (SqT.of hA), rfl, _, rfl, iteNS rfl ?_⟩
    refine ⟨_, rfl, a, _, 0, _, rfl, rfl, SqT.of hA, rfl, _, rfl, true, rfl, iteT ?_⟩
    refine ⟨_, rfl, a, _, 0, _, rfl, rfl, SqT.of hA, rfl, _, _, rfl, rfl, _, rfl, ?_⟩
    refine ite2 (fun e => ?_) (fun e => ?_)
    · refine ⟨_, rfl, a, _, 1, _, rfl, rfl, SqT.of hA, rfl, _, "tuple", true, rfl, .base (.tup hB), by decide +kernel, ?_⟩
      have e := of_decide_eq_true e
      rw [decide_eq_true (show 1 ≤ P by omega)] at q
      exact q
    · have e : ¬ (1 : Int) ≤ (P : Int) := fun z => e (decide_eq_true z)
      rw [decide_eq_false (show ¬ 1 ≤ P by omega)] at q
      exact q
/-- all deeds are right -/
def AllOk (P : Nat) (ds : List Dd) : Prop := ∀ (i : Nat) (d : Dd), ds[i]? = some d → DeedOk P d
theorem WF.all {P : Nat} {ds : List Dd} (W : WF P ds) : AllOk P ds := fun i d h => ⟨W.page d (List.mem_of_getElem? h), W.reads d (List.mem_of_getElem? h), W.asc d (List.mem_of_getElem? h)⟩
def sp_first_bad_deed : Sp := fun vs H Q _ => ∃ (F : Hp) (v : V) (P : Nat) (ds : List Dd), vs = [.int (P : Int), v] ∧ Same F H ∧ D F v (.tuple (ds.map eDeed)) ∧ AllOk P ds ∧ ∀ F' H', Pu F H F' H' → Q (.int 0) H'
theorem ok_first_bad_deed {f : Addr} {fd : FuncData} (F : Fun K "first_bad_deed" "first_bad_deed" s_first_bad_deed f fd) (T : Bi mg) (C1 : Cal P w K mg base "is_bare_deed" 2 ["thing", "pages"] sp_is_bare_deed) :
    FnOk P w K mg base CX0 3 f fd ["pages", "deeds"] sp_first_bad_deed := by
  obtain ⟨f1, fd1, G1, m1, k1, b1⟩ := C1
  refine F.ok sc_first_bad_deed (fun vs H Q E h => ?_) (fun cdv A outer s H vs Q E hr h => ?_)
  · obtain ⟨F, v, P, ds, rfl, _⟩ := h
    rfl
  · obtain ⟨F, v, P, ds, rfl, fh, hD, ok, q⟩ := h
    obtain ⟨b, xs, rfl, hb, hx⟩ := hD.tup'
    have hB := fh _ _ hb
    refine ⟨_, pss_cons (ps_for PassesOwn.never rfl (pi_enumT (by rfl) T.enum (pa_cons (pv 1) pa_nil))
        (pg_tup rfl (pgs_cons (pg_name (i := 2) sc_first_bad_deed.nd rfl (.inl rfl)) (pgs_cons (pg_name (i := 3) sc_first_bad_deed.nd rfl (.inl rfl)) pgs_nil)))
        (pss_one (ps_if (pt_not (pt_val (pe_call G1 hr (by rfl) m1 k1 b1 .nil pass0 (pa_cons (pv 3) (pa_cons (pv 0) pa_nil))))) (pss_one (ps_ret (pe_op op_add (pv 2) pe_int))) pss_nil)))
      (pss_one (ps_ret pe_int)), ?_⟩
    refine ⟨_, rfl, b, xs, rfl, hB, for_it (walk_enumT (xs := xs)) (fun i σ H' => Pu F H F H' ∧ ∃ x y, σ = [some (.int (P : Int)), some (.ref b), x, y]) ⟨.refl fh, none, none, rfl⟩ (fun i σ H' _ ⟨S, _⟩ => S.same _ _ hB) ?_ ?_⟩
    · rintro i z σ H' H'' hi ⟨S, x, y, rfl⟩ ⟨p, u, v, rfl, np, rfl, hu, hv⟩
      obtain ⟨d, hd, hD⟩ := deeds_at' hx hv
      have hu := Option.some.inj hu
      subst hu
      have S2 : Pu F H F (upd H' p (.tup [.int (i : Nat), v])) := S.newM np
      refine ⟨p, _, rfl, SqT.of upd_same, rfl, _, _, rfl, _, _, rfl, rfl, ?_⟩
      refine ⟨_, rfl, _, rfl, F, v, P, d, rfl, S2.fh, hD, ok i d hd, true, rfl, iteF ?_⟩
      exact ⟨S2, _, _, rfl⟩
    · rintro σ H' ⟨S, x, y, rfl⟩
      exact q F H' S
def sp_is_log : Sp := fun vs H Q _ => ∃ (F : Hp) (v : V) (P : Nat) (ds : List Dd), vs = [v] ∧ Same F H ∧ D F v (eLog P ds) ∧ (WF P ds ∨ P = 0) ∧ ∀ F' H', Pu F H F' H' → Q (.bl (decide (1 ≤ P))) H'
theorem ok_is_log {f : Addr} {fd : FuncData} (F : Fun K "is_log" "is_log" s_is_log f fd) (T : Bi mg) (C1 : Cal P w K mg base "is_log_shape" 2 ["thing"] sp_is_log_shape) (C2 : Cal P w K mg base "first_bad_deed" 3 ["pages", "deeds"] sp_first_bad_deed) :
    FnOk P w K mg base CX0 4 f fd ["thing"] sp_is_log := by
  obtain ⟨f1, fd1, G1, m1, k1, b1⟩ := C1
  obtain ⟨f2, fd2, G2, m2, k2, b2⟩ := C2
  obtain ⟨tp, mp⟩ := T.mp
  obtain ⟨td, md⟩ := T.md
  refine F.ok sc_is_log (fun vs H Q E h => ?_) (fun cdv A outer s H vs Q E hr h => ?_)
  · obtain ⟨F, v, P, ds, rfl, _⟩ := h
    rfl
  · obtain ⟨F, v, P, ds, rfl, fh, hD, W, q⟩ := h
    obtain ⟨a, b, xs, rfl, ha, hb, hx⟩ := hD.log
    have hA := fh _ _ ha
    have hB := fh _ _ hb
    refine ⟨_, pss_cons (ps_if (PW.pt (pw_or (pt_not (pt_val (pe_call G1 (hr.mono (by decide)) (by rfl) m1 k1 b1 .nil pass0 (pa_cons (pv 0) pa_nil))))
          (pw_or (pt_cmpR op_gt (pe_ix ix_tup (pv 0) pe_int (fun _ _ => rfl)) (pe_glob (v := .int 32) rfl mp ⟨_, rfl⟩) (nomark _))
          (pw_or1 (pt_cmpR op_gt (pe_callB call_len_seq (by rfl) T.len boot_len (pa_cons (pe_ix ix_tup (pv 0) pe_int (fun _ _ => rfl)) pa_nil)) (pe_glob (v := .int 400) rfl md ⟨_, rfl⟩) (nomark _))))))
        (pss_one (ps_ret pe_bl)) pss_nil)
      (pss_one (ps_ret (pe_cmpR op_eq (pe_call G2 (hr.mono (by decide)) (by rfl) m2 k2 b2 .nil pass0 (pa_cons (pe_ix ix_tup (pv 0) pe_int (fun _ _ => rfl)) (pa_cons (pe_ix ix_tup (pv 0) pe_int (fun _ _ => rfl)) pa_nil))) pe_int (nomark _)))), ?_⟩
    refine ⟨_, rfl, F, .ref a, P, ds, rfl, fh, hD, _, rfl, ?_⟩
    rcases W with W | rfl
    · have hP := W.pos
      have hP2 := W.few
      have hl := W.short
      have hxl : xs.length = ds.length := by rw [hx.len, List.length_map]
      rw [decide_eq_true hP]
      refine iteF ⟨_, rfl, a, _, 0, _, rfl, rfl, SqT.of hA, rfl, _, _, rfl, rfl, _, rfl, iteDn (by omega) ?_⟩
      refine ⟨_, rfl, a, _, 1, _, rfl, rfl, SqT.of hA, rfl, b, _, rfl, .inr (SqT.of hB), _, _, rfl, rfl, _, rfl, iteDn (by omega) ?_⟩
      refine ⟨_, rfl, a, _, 0, _, rfl, rfl, SqT.of hA, rfl, _, rfl, a, _, 1, _, rfl, rfl, SqT.of hA, rfl, ?_⟩
      refine ⟨F, .ref b, P, ds, rfl, fh, .tup hb hx, W.all, fun F' H' S => ?_⟩
      have := q F' H' S
      rw [decide_eq_true hP] at this
      exact ⟨rfl, this⟩
    · refine iteT (iteT ?_)
      have := q F H (.refl fh)
      exact this
def sp_made_log : Sp := fun vs H Q _ => ∃ (F : Hp) (v : V) (P : Nat) (ds : List Dd), vs = [v] ∧ Same F H ∧ D F v (eLog P ds) ∧ WF P ds ∧ Ret F H Q fun F' u => D F' u (eLog P ds)
theorem ok_made_log {f : Addr} {fd : FuncData} (F : Fun K "made_log" "made_log" s_made_log f fd) (T : Bi mg) (C1 : Cal P w K mg base "is_log_shape" 2 ["thing"] sp_is_log_shape) (C2 : Cal P w K mg base "first_bad_deed" 3 ["pages", "deeds"] sp_first_bad_deed) :
    FnOk P w K mg base CX0 4 f fd ["thing"] sp_made_log := by
  obtain ⟨f1, fd1, G1, m1, k1, b1⟩ := C1
  obtain ⟨f2, fd2, G2, m2, k2, b2⟩ := C2
  obtain ⟨tp, mp⟩ := T.mp
  obtain ⟨td, md⟩ := T.md
  refine F.ok sc_made_log (fun vs H Q E h => ?_) (fun cdv A outer s H vs Q E hr h => ?_)
  · obtain ⟨F, v, P, ds, rfl, _⟩ := h
    rfl
  · obtain ⟨F, v, P, ds, rfl, fh, hD, W, q⟩ := h
    obtain ⟨a, b, xs, rfl, ha, hb, hx⟩ := hD.log
    have hA := fh _ _ ha
    have hB := fh _ _ hb
    refine ⟨_, pss_cons (ps_if (pt_not (pt_val (pe_call G1 (hr.mono (by decide)) (by rfl) m1 k1 b1 .nil pass0 (pa_cons (pv 0) pa_nil)))) (pss_one ps_never) pss_nil)
      (pss_cons (ps_asg (pv 0) (pg_tup rfl (pgs_cons (pg_name (i := 1) sc_made_log.nd rfl (.inl rfl)) (pgs_cons (pg_name (i := 2) sc_made_log.nd rfl (.inl rfl)) pgs_nil))))
      (pss_cons (ps_if (pt_cmpR op_gt (pv 1) (pe_glob (v := .int 32) rfl mp ⟨_, rfl⟩) (nomark _)) (pss_one ps_never) pss_nil)
      (pss_cons (ps_if (pt_cmpR op_gt (pe_callB call_len_seq (by rfl) T.len boot_len (pa_cons (pv 2) pa_nil)) (pe_glob (v := .int 400) rfl md ⟨_, rfl⟩) (nomark _)) (pss_one ps_never) pss_nil)
      (pss_cons (ps_set (i := 3) sc_made_log.nd rfl (.inl rfl) (pe_call G2 (hr.mono (by decide)) (by rfl) m2 k2 b2 .nil pass0 (pa_cons (pv 1) (pa_cons (pv 2) pa_nil))))
      (pss_cons (ps_if (pt_cmpR op_gt (pv 3) pe_int (nomark _)) (pss_one ps_never) pss_nil)
      (pss_one (ps_ret (pe_tup (pa_cons (pv 1) (pa_cons (pv 2) pa_nil)))))))))), ?_⟩
    have hP := W.pos
    have hP2 := W.few
    have hl := W.short
    have hxl : xs.length = ds.length := by rw [hx.len, List.length_map]
    refine ⟨_, rfl, F, .ref a, P, ds, rfl, fh, hD, _, rfl, ?_⟩
    rw [decide_eq_true hP]
    refine iteF ⟨_, rfl, a, _, rfl, SqT.of hA, rfl, _, _, rfl, _, _, rfl, rfl, ?_⟩
    refine ⟨_, rfl, _, _, rfl, rfl, _, rfl, iteDn (by omega) ?_⟩
    refine ⟨_, rfl, b, _, rfl, .inr (SqT.of hB), _, _, rfl, rfl, _, rfl, iteDn (by omega) ?_⟩
    refine ⟨_, rfl, _, rfl, F, .ref b, P, ds, rfl, fh, .tup hb hx, W.all, fun F' H' S => ?_⟩
    refine ⟨_, rfl, _, _, rfl, rfl, _, rfl, iteDn (by omega) ?_⟩
    refine ⟨_, rfl, _, rfl, (by show 2 ≤ sizeLine; decide), fun p np => ?_⟩
    have S2 : Pu F H (upd F' p (.tup [.int (P : Int), .ref b])) (upd H' p (.tup [.int (P : Int), .ref b])) := S.newF np
    have nf : F' p = none := S.nofr np
    refine q _ _ _ S2 (.of_log upd_same ?_ (hx.mono S2.ff))
    exact S2.ff _ _ hb
end
end K24

end
section
set_option Elab.async false
set_option linter.all false
set_option maxRecDepth 100000
set_option maxHeartbeats 4000000
/-! More of the base: everything new is frozen at a def's end; own numbers, rows. -/
namespace K24
open PySem PySem.Spec PyProof.Rows L2
/-- what is new stays from now on -/
def froz (H F1 H1 : Hp) : Hp := fun b => if (H b).isNone = true then H1 b else F1 b
section
variable {M : Addr → Prop} {F H F1 H1 : Hp} {b : Addr} {o : HO}
theorem froz_new (n : H b = none) (h : H1 b = some o) : froz H F1 H1 b = some o := by unfold froz; rw [n]; exact h
theorem froz_sub (e : Same F1 H1) : Same F1 (froz H F1 H1) := fun b x q => by
  unfold froz
  split
  · exact e b x q
  · exact q
theorem Step.all (s : Step M F H F1 H1) : Step M F H (froz H F1 H1) H1 := by
  refine ⟨s.ff.trans (froz_sub s.fh), fun b x e => ?_, s.hh, s.dom, fun b e g => ?_⟩
  · unfold froz at e
    split at e
    · exact e
    · exact s.fh b x e
  · unfold froz
    rw [if_neg (by cases q : H b with | none => exact absurd q g | some _ => simp)]
    exact s.nw b e g
theorem Step.here (s : Step M F H F1 H1) (m : ¬ M b) (h : H b = some o) : H1 b = some o := s.hh b o m h
theorem Step.hereF (s : Step M F H F1 H1) (h : F b = some o) : H1 b = some o := s.sm b o h
end
theorem yes {σ : L2.St} {H : Hp} {k : Bool → Hp → Prop} (h : k true H) : tYes σ H k := h
/-! ### rules whose reading names K, for a comprehension's block -/
def rLenS (K : PySem.W.Frag) : List V → Hp → VK → Prop := fun xs H Q => ∃ p ys, xs = [V.ref p] ∧ (SqL K H p ys ∨ SqT K H p ys) ∧ Q (V.int ys.length) H
theorem lenS {X : Cx} {K : PySem.W.Frag} (e : X.K = K) : CallR X (.builtin "len") (rLenS K) := by subst e; exact call_len_seq
theorem ixL {X : Cx} {K : PySem.W.Frag} (e : X.K = K) : IxR X (rIxL K) := by subst e; exact ix_list
theorem ixT {X : Cx} {K : PySem.W.Frag} (e : X.K = K) : IxR X (rIxT K) := by subst e; exact ix_tup
theorem neD {X : Cx} {K : PySem.W.Frag} (e : X.K = K) (hu : X.A.units + 64 < cLine) : OpR X (compareOp .NotEq) (rNeD K) := by subst e; exact op_neD hu
theorem ixN_of {n j : Nat} (hj : j < n) : ixN n (j : Int) = some j := by
  unfold ixN
  rw [if_pos (by omega), if_pos (by omega)]
  simp
theorem sizeN {n : Nat} (h : n ≤ 1000) : n < sizeLine := small1000 h
/-! ### own numbers -/
def own (ds : List Dd) (i p : Nat) : List Int := ((List.range i).filter fun t => (ds[t]?).map (·.1) == some p).map fun t : Nat => ((t : Int) + 1)
theorem own_zero (ds : List Dd) (p : Nat) : own ds 0 p = [] := rfl
theorem own_succ {ds : List Dd} {i : Nat} {d : Dd} (h : ds[i]? = some d) (p : Nat) : own ds (i + 1) p = own ds i p ++ (if d.1 = p then [(i : Int) + 1] else []) := by
  unfold own
  rw [List.range_succ, List.filter_append, List.map_append]
  congr 1
  by_cases c : d.1 = p
  · simp [h, c]
  · simp [h, c]
theorem own_len (ds : List Dd) (p : Nat) : ∀ i, i ≤ ds.length → (own ds i p).length = ver ds i p
  | 0, _ => by rw [own_zero, ver_zero]; rfl
  | i + 1, h => by
    have e := List.getElem?_eq_getElem (show i < ds.length by omega)
    rw [own_succ e, List.length_append, own_len ds p i (by omega), ver_succ e]
    split <;> rfl
theorem own_le (ds : List Dd) (i p : Nat) : (own ds i p).length ≤ i := by
  unfold own
  rw [List.length_map]
  exact Nat.le_trans (List.length_filter_le _ _) (by simp)
theorem own_mem {ds : List Dd} {i p : Nat} {z : Int} (h : z ∈ own ds i p) : ∃ t rs, t < i ∧ ds[t]? = some (p, rs) ∧ z = (t : Int) + 1 := by
  unfold own at h
  obtain ⟨t, h1, rfl⟩ := List.mem_map.mp h
  obtain ⟨h2, h3⟩ := List.mem_filter.mp h1
  cases e : ds[t]? with
  | none => rw [e] at h3; simp at h3
  | some d =>
    rw [e] at h3
    have h3 : d.1 = p := by simpa using h3
    obtain ⟨q, rs⟩ := d
    subst h3
    exact ⟨t, rs, List.mem_range.mp h2, e, rfl⟩
/-- the k-th own deed of p (from 0) makes version k + 1 -/
theorem own_at {ds : List Dd} {p : Nat} : ∀ {i k : Nat} {z : Int}, i ≤ ds.length → (own ds i p)[k]? = some z → ∃ t rs, t < i ∧ ds[t]? = some (p, rs) ∧ z = (t : Int) + 1 ∧ ver ds (t + 1) p = k + 1
  | 0, k, z, _, h => by simp [own_zero] at h
  | i + 1, k, z, hi, h => by
    have e := List.getElem?_eq_getElem (show i < ds.length by omega)
    have hl := own_len ds p i (by omega)
    rw [own_succ e] at h
    by_cases c : k < (own ds i p).length
    · rw [List.getElem?_append_left c] at h
      obtain ⟨t, rs, h1, h2, h3, h4⟩ := own_at (i := i) (by omega) h
      exact ⟨t, rs, by omega, h2, h3, h4⟩
    · rw [List.getElem?_append_right (by omega)] at h
      split at h
      · rename_i c2
        have hk : k - (own ds i p).length = 0 := by
          have := (List.getElem?_eq_some_iff.mp h).1
          simp at this
          omega
        rw [hk] at h
        have hz : (i : Int) + 1 = z := Option.some.inj h
        have e2 : ds[i]? = some (p, ds[i].2) := by rw [e, ← c2]
        exact ⟨i, _, by omega, e2, hz.symm, by rw [ver_same e2]; omega⟩
      · simp at h
/-- the deed that makes version k + 1 of p stands at place k of p's own numbers -/
theorem own_place {ds : List Dd} {p t : Nat} {rs : List Nat} (h : ds[t]? = some (p, rs)) : ∀ i, t < i → i ≤ ds.length → (own ds i p)[ver ds t p]? = some ((t : Int) + 1)
  | 0, h0, _ => by omega
  | i + 1, h0, hi => by
    have e := List.getElem?_eq_getElem (show i < ds.length by omega)
    have hl := own_len ds p i (by omega)
    rw [own_succ e]
    by_cases c : t = i
    · subst c
      rw [List.getElem?_append_right (by omega)]
      rw [h] at e
      have e2 := Option.some.inj e
      rw [← e2]
      simp [hl]
    · have ih := own_place h i (by omega) (by omega)
      rw [List.getElem?_append_left (List.getElem?_eq_some_iff.mp ih).1]
      exact ih
/-! ### rows -/
theorem row_succ {P : Nat} {ds : List Dd} {i p : Nat} {rs : List Nat} (h : ds[i]? = some (p, rs)) : row P ds (i + 1) = (row P ds i).set p ((ver ds i p : Int) + 1) := by
  apply List.ext_getElem?
  intro q
  by_cases hq : q < P
  · by_cases c : p = q
    · subst c
      rw [List.getElem?_set_self (by rw [row_len]; exact hq), row_at ds _ hq, ver_same h]
      simp
    · rw [List.getElem?_set_ne c, row_at ds _ hq, row_at ds _ hq, ver_other h (Ne.symm c)]
  · rw [List.getElem?_eq_none (by rw [row_len]; omega), List.getElem?_eq_none (by rw [List.length_set, row_len]; omega)]
theorem row_zero (P : Nat) (ds : List Dd) : row P ds 0 = List.replicate P 0 := by
  apply List.ext_getElem?
  intro q
  by_cases hq : q < P
  · rw [row_at ds _ hq, ver_zero]
    simp [hq]
  · rw [List.getElem?_eq_none (by rw [row_len]; omega), List.getElem?_eq_none (by simp; omega)]
theorem map_set {α β : Type} (f : α → β) (l : List α) (i : Nat) (x : α) : (l.set i x).map f = (l.map f).set i (f x) := by
  rw [List.map_set]
end K24

end
section
set_option Elab.async false
set_option linter.all false
set_option maxRecDepth 100000
set_option maxHeartbeats 4000000
namespace K24
open PySem PySem.Spec PyProof.Rows L2
section
variable {P : Program} {w : World} {K : PySem.W.Frag} {mg : Str → Option Value} {base : Heap}
abbrev eOwn (P : Nat) (ds : List Dd) : PyData := .list ((List.range P).map fun p => eRow (own ds ds.length p))
def sp_own_numbers : Sp := fun vs H Q _ => ∃ (F : Hp) (v : V) (P : Nat) (ds : List Dd), vs = [v] ∧ Same F H ∧ D F v (eLog P ds) ∧ WF P ds ∧ Ret F H Q fun F' u => D F' u (eOwn P ds)
theorem ok_own_numbers {f : Addr} {fd : FuncData} (F : Fun K "own_numbers" "own_numbers" s_own_numbers f fd) (T : Bi mg) :
    FnOk P w K mg base CX0 1 f fd ["log"] sp_own_numbers := by
  refine F.ok sc_own_numbers (fun vs H Q E h => ?_) (fun cdv A outer s H vs Q E hr h => ?_)
  · obtain ⟨F, v, P, ds, rfl, _⟩ := h
    rfl
  · obtain ⟨F, v, P, ds, rfl, fh, hD, W, q⟩ := h
    obtain ⟨a, b, xs, rfl, ha, hb, hx⟩ := hD.log
    have hA := fh _ _ ha
    have hB := fh _ _ hb
    have hP2 := W.few
    have hl := W.short
    have hxl : xs.length = ds.length := by rw [hx.len, List.length_map]
    refine ⟨_, pss_cons (ps_asg (pv 0) (pg_tup rfl (pgs_cons (pg_name (i := 1) sc_own_numbers.nd rfl (.inl rfl)) (pgs_cons (pg_name (i := 2) sc_own_numbers.nd rfl (.inl rfl)) pgs_nil))))
      (pss_cons (ps_setLc (i := 3) (own := [("page", 6)]) (g := gName 6) (tt := tYes) rfl sc_own_numbers.nd rfl rfl (sw_true rfl rfl rfl (by decide +kernel)) (pi_range1 (by rfl) T.range (pa_cons (pv 1) pa_nil))
          (blkOk_by (N := n_own_numbers) (sc := defScope s_own_numbers) (by decide +kernel)) (fun _ _ _ _ _ => pg_name (i := 6) sc_own_numbers.nd rfl (.inl rfl)) (fun _ _ _ _ _ => pts_nil) (fun _ _ _ _ _ => pe_lst pa_nil))
      (pss_cons (ps_for PassesOwn.never rfl (pi_enumT (by rfl) T.enum (pa_cons (pv 2) pa_nil))
          (pg_tup rfl (pgs_cons (pg_name (i := 4) sc_own_numbers.nd rfl (.inl rfl)) (pgs_cons (pg_name (i := 5) sc_own_numbers.nd rfl (.inl rfl)) pgs_nil)))
          (pss_one (ps_expr (pe_bm PySem.F.plainAttrs_list PySem.F.slot_list_append PySem.F.type_list_append mt_append (pe_ix ix_list (pv 3) (pe_ix ix_tup (pv 5) pe_int (fun _ _ => rfl)) (fun _ _ => rfl)) (pa_cons (pe_op op_add (pv 4) pe_int) pa_nil)))))
      (pss_one (ps_ret (pv 3))))), ?_⟩
    refine ⟨_, rfl, a, _, rfl, SqT.of hA, rfl, _, _, rfl, _, _, rfl, rfl, ?_⟩
    refine ⟨_, rfl, (P : Int), rfl, by omega, by omega, fun L nL => lc_it (n := P) (walk_range (lo := 0) (n := P)) (fun i H' => Pu F H F H' ∧ ∃ as : List Addr, H' L = some (.lst (as.map V.ref)) ∧ as.length = i ∧ as.Nodup ∧ ∀ c ∈ as, H c = none ∧ c ≠ L ∧ H' c = some (.lst []))
      ⟨(Step.refl fh).newM nL, [], upd_same, rfl, List.nodup_nil, fun c m => nomatch m⟩ (fun _ _ _ _ => trivial) ?_ ?_⟩
    · rintro i x H1 H2 hi ⟨S, as, eL, hal, hnd, hal2⟩ ⟨rfl, rfl⟩
      refine ⟨rfl, yes (iteT ?_)⟩
      refine ⟨Nat.zero_le _, fun p np => ?_⟩
      have npL : L ≠ p := ne_of_none eL np
      have S2 : Pu F H F (upd H2 p (.lst [])) := S.newM np
      have hp0 : H p = none := S.dom p np
      refine ⟨as.map V.ref, by rw [upd_ne npL]; exact eL, by rw [List.length_map, hal]; exact sizeN (by omega), S2.put (.inl nL) (none_of_same fh nL) (by rw [upd_ne npL, eL]; intro z; cases z), as ++ [p], ?_, by rw [List.length_append, hal]; rfl, ?_, ?_⟩
      · rw [upd_same, List.map_append]
        rfl
      · rw [List.nodup_append]
        refine ⟨hnd, by simp, fun c hc d hd e => ?_⟩
        rw [List.mem_singleton.mp hd] at e
        have := (hal2 c hc).2.2
        rw [e, np] at this
        cases this
      · intro c hc
        rcases List.mem_append.mp hc with hc | hc
        · obtain ⟨h1, h2, h3⟩ := hal2 c hc
          have ncp : c ≠ p := ne_of_none h3 np
          exact ⟨h1, h2, by rw [upd_ne h2, upd_ne ncp]; exact h3⟩
        · rw [List.mem_singleton.mp hc]
          exact ⟨hp0, npL.symm, by rw [upd_ne npL.symm, upd_same]⟩
    · rintro H1 ⟨S, as, eL, hal, hnd, hal2⟩
      have nLF : F L = none := none_of_same fh nL
      refine ⟨_, rfl, b, xs, rfl, S.same _ _ hB, for_it (walk_enumT (xs := xs)) (fun i σ H' => Pu F H F H' ∧ (∃ x y, σ = [some (.ref a), some (.int (P : Int)), some (.ref b), some (.ref L), x, y, none]) ∧ H' L = some (.lst (as.map V.ref)) ∧
          ∀ (p : Nat) (c : Addr), as[p]? = some c → H' c = some (.lst ((own ds i p).map V.int)))
        ⟨S, ⟨none, none, rfl⟩, eL, fun p c e => (hal2 c (List.mem_of_getElem? e)).2.2⟩ (fun i σ H' _ ⟨S, _⟩ => S.same _ _ hB) ?_ ?_⟩
      · rintro i z σ H2 H3 hi ⟨S2, ⟨x, y, rfl⟩, eL2, hin⟩ ⟨T, u, v, rfl, nT, rfl, hu, hv⟩
        obtain ⟨d, hd, hDd⟩ := deeds_at' hx hv
        have hu := Option.some.inj hu
        subst hu
        obtain ⟨e, e2, rfl, he, he2⟩ := hDd.deed
        have ok := W.all i d hd
        have S3 : Pu F H F (upd H2 T (.tup [.int (i : Nat), .ref e])) := S2.newM nT
        have nTL : L ≠ T := ne_of_none eL2 nT
        have hdl : d.1 < as.length := by rw [hal]; exact ok.1
        obtain ⟨c, hc⟩ : ∃ c, as[d.1]? = some c := ⟨_, List.getElem?_eq_getElem hdl⟩
        have hcm := hal2 c (List.mem_of_getElem? hc)
        have hc2 := hin d.1 c hc
        have ncT : c ≠ T := ne_of_none hc2 nT
        refine ⟨T, _, rfl, SqT.of upd_same, rfl, _, _, rfl, _, _, rfl, rfl, ?_⟩
        refine ⟨_, rfl, _, rfl, e, _, 0, _, rfl, rfl, SqT.of (S3.sm _ _ he), rfl, L, as.map V.ref, (d.1 : Int), .ref c, rfl, rfl, SqL.of (by rw [upd_ne nTL]; exact eL2), atI_nat (by rw [List.getElem?_map, hc] <;> rfl), ?_⟩
        have hcT : (upd H2 T (.tup [.int (i : Nat), .ref e])) c = some (.lst ((own ds i d.1).map V.int)) := by rw [upd_ne ncT]; exact hc2
        refine ⟨.inl ⟨rfl, _, SqL.of hcT⟩, _, rfl, _, _, rfl, rfl, c, _, _, rfl, rfl, hcT, ?_, ?_⟩
        · rw [List.length_map]
          have := own_le ds i d.1
          exact sizeN (by omega)
        · refine ⟨S3.put (.inl hcm.1) (none_of_same fh hcm.1) (by rw [hcT]; intro z; cases z), ⟨_, _, rfl⟩, ?_, fun p c' hc' => ?_⟩
          · rw [upd_ne hcm.2.1.symm, upd_ne nTL]
            exact eL2
          · rw [own_succ hd]
            by_cases cc : c' = c
            · subst cc
              have : p = d.1 := nd_ix hnd hc' hc
              subst this
              rw [upd_same, if_pos rfl, List.map_append]
              rfl
            · have : ¬ d.1 = p := fun z => cc (by rw [← z, hc] at hc'; exact (Option.some.inj hc').symm)
              rw [upd_ne cc, if_neg this, List.append_nil, upd_ne (ne_of_none (hin p c' hc') nT)]
              exact hin p c' hc'
      · rintro σ H2 ⟨S2, ⟨x, y, rfl⟩, eL2, hin⟩
        refine ⟨_, rfl, q _ _ _ S2.all (.lst (xs := as.map V.ref) (froz_new nL eL2) ?_)⟩
        have key : ∀ (l : List Addr) (k : Nat), (∀ (p : Nat) (c : Addr), l[p]? = some c → H c = none ∧ H2 c = some (.lst ((own ds ds.length (k + p)).map V.int))) →
            DA (froz H F H2) (l.map V.ref) ((List.range' k l.length).map fun p => eRow (own ds ds.length p)) := by
          intro l
          induction l with
          | nil => intro k _; exact .nil
          | cons c l ih =>
            intro k hk
            rw [List.length_cons, List.range'_succ]
            refine .cons ?_ (ih (k + 1) fun p c' e => ?_)
            · obtain ⟨h1, h2⟩ := hk 0 c rfl
              exact .of_row (froz_new h1 h2)
            · have := hk (p + 1) c' e
              rw [show k + 1 + p = k + (p + 1) by omega]
              exact this
        have := key as 0 fun p c e => ⟨(hal2 c (List.mem_of_getElem? e)).1, by rw [Nat.zero_add, ← hxl]; exact hin p c e⟩
        rw [hal] at this
        rw [List.range_eq_range']
        exact this
def sp_newest : Sp := fun vs H Q _ => ∃ (F : Hp) (v : V) (P : Nat) (ds : List Dd), vs = [v] ∧ Same F H ∧ D F v (eLog P ds) ∧ WF P ds ∧ Ret F H Q fun F' u => D F' u (.tuple ((row P ds ds.length).map .int))
theorem ok_newest {f : Addr} {fd : FuncData} (F : Fun K "newest" "newest" s_newest f fd) (T : Bi mg) (C1 : Cal P w K mg base "own_numbers" 1 ["log"] sp_own_numbers) :
    FnOk P w K mg base CX0 2 f fd ["log"] sp_newest := by
  obtain ⟨f1, fd1, G1, m1, k1, b1⟩ := C1
  refine F.ok sc_newest (fun vs H Q E h => ?_) (fun cdv A outer s H vs Q E hr h => ?_)
  · obtain ⟨F, v, P, ds, rfl, _⟩ := h
    rfl
  · obtain ⟨F, v, P, ds, rfl, fh, hD, W, q⟩ := h
    have hP2 := W.few
    refine ⟨_, pss_one (ps_ret (pe_callTy call_tuple_of (by rfl) T.tup boot_tuple (pa_cons (pe_lc (own := [("numbers", 1)]) (g := gName 1) (tt := tYes) rfl sc_newest.nd (pi_list (pe_call G1 hr (by rfl) m1 k1 b1 .nil pass0 (pa_cons (pv 0) pa_nil)))
      (blkOk_by (N := n_newest) (sc := defScope s_newest) (by decide +kernel)) (fun _ _ _ _ _ => pg_name (i := 1) sc_newest.nd rfl (.inl rfl)) (fun _ _ _ _ _ => pts_nil)
      (fun _ _ _ _ _ => pe_callB (lenS (K := K) rfl) (by rfl) T.len boot_len (pa_cons (pv 1) pa_nil))) pa_nil))), ?_⟩
    refine ⟨_, rfl, F, v, P, ds, rfl, fh, hD, W, fun F1 H1 u S1 hu => ?_⟩
    obtain ⟨a, xs, rfl, ha, hx⟩ := hu.list'
    have hxl : xs.length = P := by rw [hx.len]; simp
    refine ⟨a, rfl, ⟨_, SqL.of (S1.fh _ _ ha)⟩, fun L nL => lc_it (walk_list (xs := xs)) (fun i H' => Pu F H F1 H' ∧ H' L = some (.lst (((row P ds ds.length).take i).map V.int)))
      ⟨S1.newM nL, upd_same⟩ (fun i H' _ ⟨S, _⟩ => SqL.of (S.fh _ _ ha)) ?_ ?_⟩
    · rintro i x H2 H3 hi ⟨S, eL⟩ ⟨rfl, hxi⟩
      obtain ⟨d, hd, hDd⟩ := hx.at' hxi
      have hiP : i < P := by omega
      rw [List.getElem?_map, List.getElem?_range hiP] at hd
      obtain rfl := Option.some.inj hd
      obtain ⟨c, rfl, hc⟩ := hDd.row
      refine ⟨rfl, yes (iteT ?_)⟩
      refine ⟨_, rfl, c, _, rfl, .inl (SqL.of (S.fh _ _ hc)), ?_⟩
      refine ⟨_, eL, ?_, S.put (.inl (S1.dom _ nL)) (S1.nofr nL) (by rw [eL]; intro z; cases z), ?_⟩
      · rw [List.length_map, List.length_take, row_len]
        exact sizeN (by omega)
      · rw [upd_same, List.take_add_one, row_at ds _ hiP, List.map_append, List.length_map, own_len ds i ds.length (Nat.le_refl _)]
        rfl
    · rintro H2 ⟨S, eL⟩
      rw [hxl, List.take_of_length_le (by rw [row_len]; exact Nat.le_refl _)] at eL
      refine ⟨L, _, rfl, .inl ⟨SqL.of eL, fun p np => ?_⟩⟩
      exact q _ _ _ ((S.newM np).all) (.tup (froz_new (S.dom _ np) upd_same) (DA.of_ints _))
end
end K24

end
section
set_option Elab.async false
set_option linter.all false
set_option maxRecDepth 100000
set_option maxHeartbeats 4000000
namespace K24
open PySem PySem.Spec PyProof.Rows L2
section
variable {P : Program} {w : World} {K : PySem.W.Frag} {mg : Str → Option Value} {base : Heap}
theorem im_at {im : Im} {i : Nat} {v : V} (h : (im.map oV)[i]? = some v) : ∃ o, im[i]? = some o ∧ v = oV o := by
  rw [List.getElem?_map] at h
  cases e : im[i]? with
  | none => rw [e] at h; cases h
  | some o => rw [e] at h; exact ⟨o, rfl, (Option.some.inj h).symm⟩
def sp_first_bad_page : Sp := fun vs H Q _ => ∃ (F : Hp) (v u : V) (P : Nat) (ds : List Dd) (im : Im), vs = [v, u] ∧ Same F H ∧ D F v (eLog P ds) ∧ WF P ds ∧ D F u (eImg im) ∧ im.length = P ∧
  ∀ F' H' (r : Int), Pu F H F' H' → (r < 0 ↔ InR P ds im) → Q (.int r) H'
theorem ok_first_bad_page {f : Addr} {fd : FuncData} (F : Fun K "first_bad_page" "first_bad_page" s_first_bad_page f fd) (T : Bi mg) (C1 : Cal P w K mg base "newest" 2 ["log"] sp_newest) (C2 : Cal P w K mg base "is_whole" 1 ["thing"] sp_is_whole) :
    FnOk P w K mg base CX0 3 f fd ["log", "image"] sp_first_bad_page := by
  obtain ⟨f1, fd1, G1, m1, k1, b1⟩ := C1
  obtain ⟨f2, fd2, G2, m2, k2, b2⟩ := C2
  refine F.ok sc_first_bad_page (fun vs H Q E h => ?_) (fun cdv A outer s H vs Q E hr h => ?_)
  · obtain ⟨F, v, u, P, ds, im, rfl, _⟩ := h
    rfl
  · obtain ⟨F, v, u, P, ds, im, rfl, fh, hD, W, hI, hlen, q⟩ := h
    obtain ⟨a, rfl, ha⟩ := hI.img
    refine ⟨_, pss_cons (ps_set (i := 2) sc_first_bad_page.nd rfl (.inl rfl) (pe_call G1 hr (by rfl) m1 k1 b1 .nil pass0 (pa_cons (pv 0) pa_nil)))
      (pss_cons (ps_for PassesOwn.never rfl (pi_enumT (by rfl) T.enum (pa_cons (pv 1) pa_nil))
          (pg_tup rfl (pgs_cons (pg_name (i := 3) sc_first_bad_page.nd rfl (.inl rfl)) (pgs_cons (pg_name (i := 4) sc_first_bad_page.nd rfl (.inl rfl)) pgs_nil)))
          (pss_one (ps_if (PW.pt (pw_and (pt_cmpR op_notN (pv 4) pe_non (nomark _)) (pw_and1 (PW.pt (pw_or (pt_not (pt_val (pe_call G2 (hr.mono (by decide)) (by rfl) m2 k2 b2 .nil pass0 (pa_cons (pv 4) pa_nil))))
              (pw_or1 (pt_not (pt_chain op_le op_le pe_int (pv 4) (pe_ix ix_tup (pv 2) (pv 3) (fun _ _ => rfl))))))))))
            (pss_one (ps_ret (pv 3))) pss_nil)))
      (pss_one (ps_ret (pe_un un_neg pe_int)))), ?_⟩
    refine ⟨_, rfl, F, v, P, ds, rfl, fh, hD, W, fun F1 H1 u S1 hu => ?_⟩
    obtain ⟨c, xs, rfl, hc, hx⟩ := hu.tup'
    obtain rfl := DA.ints _ hx
    refine ⟨_, rfl, a, _, rfl, S1.hereF ha, for_it (walk_enumT (xs := im.map oV)) (fun i σ H' => Pu F H F1 H' ∧ (∃ x y, σ = [some v, some (.ref a), some (.ref c), x, y]) ∧ ∀ (j : Nat) (z : Int), j < i → im[j]? = some (some z) → 0 ≤ z ∧ z ≤ (ver ds ds.length j : Int))
      ⟨S1, ⟨none, none, rfl⟩, fun j z h _ => absurd h (Nat.not_lt_zero _)⟩ (fun i σ H' _ ⟨S, _⟩ => S.hereF ha) ?_ ?_⟩
    · rintro i z σ H2 H3 hi ⟨S2, ⟨x, y, rfl⟩, hin⟩ ⟨T, u, o, rfl, nT, rfl, hu, ho⟩
      have hu := Option.some.inj hu
      subst hu
      obtain ⟨o, hio, rfl⟩ := im_at ho
      have hiP : i < P := by rw [List.length_map, hlen] at hi; exact hi
      have S3 : Pu F H F1 (upd H2 T (.tup [.int (i : Nat), oV o])) := S2.newM nT
      refine ⟨T, _, rfl, SqT.of upd_same, rfl, _, _, rfl, _, _, rfl, rfl, ?_⟩
      cases o with
      | none =>
        refine ⟨_, rfl, rfl, _, rfl, iteNS rfl (iteF ?_)⟩
        refine ⟨S3, ⟨_, _, rfl⟩, fun j z hj e => ?_⟩
        by_cases c : j = i
        · subst c; rw [hio] at e; cases e
        · exact hin j z (by omega) e
      | some n =>
        refine ⟨_, rfl, rfl, _, rfl, iteNN (fun z => nomatch z) ?_⟩
        refine ⟨_, rfl, n, rfl, true, rfl, iteF ?_⟩
        refine ⟨_, rfl, 0, n, rfl, rfl, _, rfl, ?_⟩
        refine ite2 (fun e => ?_) (fun e => ?_)
        · refine ⟨_, rfl, _, rfl, c, _, (i : Int), _, rfl, rfl, SqT.of (S3.fh _ _ hc), atI_nat (by rw [List.getElem?_map, row_at ds _ hiP] <;> rfl), n, (ver ds ds.length i : Int), rfl, rfl, _, rfl, ?_⟩
          by_cases e2 : n ≤ (ver ds ds.length i : Int)
          · rw [decide_eq_true e2]
            refine iteF ?_
            refine ⟨S3, ⟨_, _, rfl⟩, fun j z hj ej => ?_⟩
            by_cases c : j = i
            · subst c
              rw [hio] at ej
              have e3 := Option.some.inj (Option.some.inj ej)
              have e := of_decide_eq_true e
              omega
            · exact hin j z (by omega) ej
          · rw [decide_eq_false e2]
            refine iteT ⟨_, rfl, q F1 _ (i : Int) S3 ⟨fun z => by omega, fun R => ?_⟩⟩
            have := R.rng i n hio
            omega
        · refine ⟨false, rfl, ?_⟩
          refine iteT ⟨_, rfl, q F1 _ (i : Int) S3 ⟨fun z => by omega, fun R => ?_⟩⟩
          have := R.rng i n hio
          have e : ¬ 0 ≤ n := fun z => e (decide_eq_true z)
          omega
    · rintro σ H2 ⟨S2, ⟨x, y, rfl⟩, hin⟩
      refine ⟨1, rfl, q F1 H2 _ S2 ⟨fun _ => ⟨hlen, fun p v e => hin p v ?_ e⟩, fun _ => by decide⟩⟩
      rw [List.length_map]
      exact (List.getElem?_eq_some_iff.mp e).1
/-- what may be handed to a judge as an image: a tuple of versions, or None, or a text -/
def ImgArg (F : Hp) (v : V) (p : Im → Prop) (rd : Prop) : Prop := (∃ im, D F v (eImg im) ∧ (rd ↔ p im)) ∨ ((v = .non ∨ ∃ z, v = .str z) ∧ ¬ rd)
def sp_is_image : Sp := fun vs H Q _ => ∃ (F : Hp) (v u : V) (P : Nat) (ds : List Dd) (rd : Prop), vs = [v, u] ∧ Same F H ∧ D F v (eLog P ds) ∧ (WF P ds ∨ P = 0) ∧ ImgArg F u (InR P ds) rd ∧
  ∀ F' H' (b : Bool), Pu F H F' H' → (b = true ↔ 1 ≤ P ∧ rd) → Q (.bl b) H'
theorem ok_is_image {f : Addr} {fd : FuncData} (F : Fun K "is_image" "is_image" s_is_image f fd) (T : Bi mg) (C1 : Cal P w K mg base "is_log" 4 ["thing"] sp_is_log) (C2 : Cal P w K mg base "first_bad_page" 3 ["log", "image"] sp_first_bad_page) :
    FnOk P w K mg base CX0 5 f fd ["log", "image"] sp_is_image := by
  obtain ⟨f1, fd1, G1, m1, k1, b1⟩ := C1
  obtain ⟨f2, fd2, G2, m2, k2, b2⟩ := C2
  refine F.ok sc_is_image (fun vs H Q E h => ?_) (fun cdv A outer s H vs Q E hr h => ?_)
  · obtain ⟨F, v, u, P, ds, rd, rfl, _⟩ := h
    rfl
  · obtain ⟨F, v, u, P, ds, rd, rfl, fh, hD, W, hI, q⟩ := h
    obtain ⟨a, b, xs, rfl, ha, hb, hx⟩ := hD.log
    refine ⟨_, pss_cons (ps_if (PW.pt (pw_or (pt_not (pt_val (pe_call G1 (hr.mono (by decide)) (by rfl) m1 k1 b1 .nil pass0 (pa_cons (pv 0) pa_nil)))) (pw_or (pt_not (pt_val (pe_isi T T.tup boot_tuple (pv 1))))
          (pw_or1 (pt_cmpR op_ne (pe_callB call_len_seq (by rfl) T.len boot_len (pa_cons (pv 1) pa_nil)) (pe_ix ix_tup (pv 0) pe_int (fun _ _ => rfl)) (nomark _))))))
        (pss_one (ps_ret pe_bl)) pss_nil)
      (pss_one (ps_ret (pe_cmpR op_lt (pe_call G2 (hr.mono (by decide)) (by rfl) m2 k2 b2 .nil pass0 (pa_cons (pv 0) (pa_cons (pv 1) pa_nil))) pe_int (nomark _)))), ?_⟩
    refine ⟨_, rfl, F, .ref a, P, ds, rfl, fh, hD, W, fun F1 H1 S1 => ⟨_, rfl, ?_⟩⟩
    rcases W with W | rfl
    · have hP := W.pos
      rw [decide_eq_true hP]
      refine iteF ?_
      rcases hI with ⟨im, hI, hrd⟩ | ⟨rfl | ⟨z, rfl⟩, hrd⟩
      · obtain ⟨c, rfl, hc⟩ := hI.img
        refine ⟨_, rfl, _, "tuple", true, rfl, .base (.tup (S1.hereF hc)), by decide +kernel, true, rfl, iteF ?_⟩
        refine ⟨_, rfl, c, _, rfl, .inr (SqT.of (S1.hereF hc)), _, rfl, a, _, 0, _, rfl, rfl, SqT.of (S1.hereF ha), rfl, rfl, _, rfl, ?_⟩
        by_cases e : im.length = P
        · refine iteNS (by rw [List.length_map, e]) ?_
          refine ⟨_, rfl, _, rfl, F1, .ref a, .ref c, P, ds, im, rfl, S1.fh, hD.mono S1.ff, W, hI.mono S1.ff, e, fun F2 H2 r S2 hr => ?_⟩
          refine ⟨_, _, rfl, rfl, q F2 H2 _ (S1.trans S2) ?_⟩
          rw [decide_eq_true_iff, hrd]
          exact hr.trans ⟨fun x => ⟨hP, x⟩, fun x => x.2⟩
        · refine iteNN (fun z => e ?_) ?_
          · have := V.int.inj z
            rw [List.length_map] at this
            omega
          · refine q F1 H1 false S1 ⟨fun z => (nomatch z), fun z => absurd (hrd.mp z.2).len e⟩
      · refine ⟨_, rfl, _, "NoneType", false, rfl, .base .non, by decide +kernel, false, rfl, iteT (iteT ?_)⟩
        exact q F1 H1 false S1 ⟨fun z => (nomatch z), fun z => absurd z.2 hrd⟩
      · refine ⟨_, rfl, _, "str", false, rfl, .base (.str z), by decide +kernel, false, rfl, iteT (iteT ?_)⟩
        exact q F1 H1 false S1 ⟨fun z => (nomatch z), fun z => absurd z.2 hrd⟩
    · refine iteT (iteT ?_)
      exact q F1 H1 false S1 ⟨fun z => (nomatch z), fun z => absurd z.1 (by omega)⟩
def sp_made_image : Sp := fun vs H Q _ => ∃ (F : Hp) (v u : V) (P : Nat) (ds : List Dd) (im : Im), vs = [v, u] ∧ Same F H ∧ D F v (eLog P ds) ∧ WF P ds ∧ D F u (eImg im) ∧ InR P ds im ∧
  ∀ F' H', Pu F H F' H' → Q u H'
theorem ok_made_image {f : Addr} {fd : FuncData} (F : Fun K "made_image" "made_image" s_made_image f fd) (T : Bi mg) (C1 : Cal P w K mg base "made_log" 4 ["thing"] sp_made_log) (C2 : Cal P w K mg base "first_bad_page" 3 ["log", "image"] sp_first_bad_page) :
    FnOk P w K mg base CX0 5 f fd ["log", "image"] sp_made_image := by
  obtain ⟨f1, fd1, G1, m1, k1, b1⟩ := C1
  obtain ⟨f2, fd2, G2, m2, k2, b2⟩ := C2
  refine F.ok sc_made_image (fun vs H Q E h => ?_) (fun cdv A outer s H vs Q E hr h => ?_)
  · obtain ⟨F, v, u, P, ds, im, rfl, _⟩ := h
    rfl
  · obtain ⟨F, v, u, P, ds, im, rfl, fh, hD, W, hI, hR, q⟩ := h
    obtain ⟨c, rfl, hc⟩ := hI.img
    refine ⟨_, pss_cons (ps_set (i := 0) sc_made_image.nd rfl (.inl rfl) (pe_call G1 (hr.mono (by decide)) (by rfl) m1 k1 b1 .nil pass0 (pa_cons (pv 0) pa_nil)))
      (pss_cons (ps_if (PW.pt (pw_or (pt_not (pt_val (pe_isi T T.tup boot_tuple (pv 1))))
          (pw_or1 (pt_cmpR op_ne (pe_callB call_len_seq (by rfl) T.len boot_len (pa_cons (pv 1) pa_nil)) (pe_ix ix_tup (pv 0) pe_int (fun _ _ => rfl)) (nomark _)))))
        (pss_one ps_never) pss_nil)
      (pss_cons (ps_set (i := 2) sc_made_image.nd rfl (.inl rfl) (pe_call G2 (hr.mono (by decide)) (by rfl) m2 k2 b2 .nil pass0 (pa_cons (pv 0) (pa_cons (pv 1) pa_nil))))
      (pss_cons (ps_if (pt_cmpR op_ge (pv 2) pe_int (nomark _)) (pss_one ps_never) pss_nil)
      (pss_one (ps_ret (pv 1)))))), ?_⟩
    refine ⟨_, rfl, F, v, P, ds, rfl, fh, hD, W, fun F1 H1 u1 S1 hu1 => ?_⟩
    obtain ⟨a, b, xs, rfl, ha, hb, hx⟩ := id hu1.log
    refine ⟨_, rfl, _, "tuple", true, rfl, .base (.tup (S1.hereF hc)), by decide +kernel, true, rfl, iteF ?_⟩
    refine ⟨_, rfl, c, _, rfl, .inr (SqT.of (S1.hereF hc)), _, rfl, a, _, 0, _, rfl, rfl, SqT.of (S1.fh _ _ ha), rfl, rfl, _, rfl, ?_⟩
    refine iteNS (by rw [List.length_map, hR.len]) ?_
    refine ⟨_, rfl, _, rfl, F1, .ref a, .ref c, P, ds, im, rfl, S1.fh, hu1, W, hI.mono S1.ff, hR.len, fun F2 H2 r S2 hr2 => ?_⟩
    have := hr2.mpr hR
    refine ⟨_, rfl, _, _, rfl, rfl, _, rfl, iteDn (by omega) ?_⟩
    exact ⟨_, rfl, q F2 H2 (S1.trans S2)⟩
end
end K24

end
section
set_option Elab.async false
set_option linter.all false
set_option maxRecDepth 100000
set_option maxHeartbeats 4000000
namespace K24
open PySem PySem.Spec PyProof.Rows L2
/-- lists of addresses of new rows: all frozen at once -/
theorem rows_frz {H F1 H2 : Hp} (g : Nat → List Int) : ∀ (l : List Addr) (k : Nat), (∀ (p : Nat) (c : Addr), l[p]? = some c → H c = none ∧ H2 c = some (.lst ((g (k + p)).map V.int))) →
    DA (froz H F1 H2) (l.map V.ref) ((List.range' k l.length).map fun p => eRow (g p))
  | [], _, _ => .nil
  | c :: l, k, hk => by
    rw [List.length_cons, List.range'_succ]
    refine .cons ?_ (rows_frz g l (k + 1) fun p c' e => ?_)
    · obtain ⟨h1, h2⟩ := hk 0 c rfl
      exact .of_row (froz_new h1 h2)
    · have := hk (p + 1) c' e
      rw [show k + 1 + p = k + (p + 1) by omega]
      exact this
section
variable {P : Program} {w : World} {K : PySem.W.Frag} {mg : Str → Option Value} {base : Heap}
def sp_moment_table : Sp := fun vs H Q _ => ∃ (F : Hp) (v : V) (P : Nat) (ds : List Dd), vs = [v] ∧ Same F H ∧ D F v (eLog P ds) ∧ WF P ds ∧ Ret F H Q fun F' u => D F' u (eTab P ds)
theorem ok_moment_table {f : Addr} {fd : FuncData} (F : Fun K "moment_table" "moment_table" s_moment_table f fd) (T : Bi mg) :
    FnOk P w K mg base CX0 1 f fd ["log"] sp_moment_table := by
  refine F.ok sc_moment_table (fun vs H Q E h => ?_) (fun cdv A outer s H vs Q E hr h => ?_)
  · obtain ⟨F, v, P, ds, rfl, _⟩ := h
    rfl
  · obtain ⟨F, v, P, ds, rfl, fh, hD, W, q⟩ := h
    obtain ⟨a, b, xs, rfl, ha, hb, hx⟩ := hD.log
    have hA := fh _ _ ha
    have hB := fh _ _ hb
    have hP2 := W.few
    have hl := W.short
    have hxl : xs.length = ds.length := by rw [hx.len, List.length_map]
    refine ⟨_, pss_cons (ps_asg (pv 0) (pg_tup rfl (pgs_cons (pg_name (i := 1) sc_moment_table.nd rfl (.inl rfl)) (pgs_cons (pg_name (i := 2) sc_moment_table.nd rfl (.inl rfl)) pgs_nil))))
      (pss_cons (ps_set (i := 3) sc_moment_table.nd rfl (.inl rfl) (pe_op op_rep (pe_lst (pa_cons pe_int pa_nil)) (pv 1)))
      (pss_cons (ps_set (i := 4) sc_moment_table.nd rfl (.inl rfl) (pe_lst (pa_cons (pv 3) pa_nil)))
      (pss_cons (ps_for PassesOwn.never rfl (pi_tup (pv 2)) (pg_tup rfl (pgs_cons (pg_name (i := 5) sc_moment_table.nd rfl (.inl rfl)) (pgs_cons (pg_name (i := 6) sc_moment_table.nd rfl (.inl rfl)) pgs_nil)))
        (pss_cons (ps_set (i := 3) sc_moment_table.nd rfl (.inl rfl) (pe_callTy call_list_of (by rfl) T.list boot_list (pa_cons (pv 3) pa_nil)))
        (pss_cons (ps_augS (pv 3) (pv 5) get_list pe_int ip_add set_list)
        (pss_one (ps_expr (pe_bm PySem.F.plainAttrs_list PySem.F.slot_list_append PySem.F.type_list_append mt_append (pv 4) (pa_cons (pv 3) pa_nil)))))))
      (pss_one (ps_ret (pv 4)))))), ?_⟩
    refine ⟨_, rfl, a, _, rfl, SqT.of hA, rfl, _, _, rfl, _, _, rfl, rfl, ?_⟩
    refine ⟨(by show 1 ≤ sizeLine; decide), fun z nz => ⟨_, rfl, z, (P : Int), _, rfl, rfl, upd_same, by omega, by omega, ?_, fun r nr => ?_⟩⟩
    · exact cut63 (by show 1 * ((P : Int)).toNat ≤ 1000; omega)
    have S1 : Pu F H F (upd H z (.lst [.int 0])) := (Step.refl fh).newM nz
    have hrep : (List.replicate ((P : Int)).toNat [V.int 0]).flatten = (row P ds 0).map V.int := by
      rw [row_zero]
      simp
    rw [hrep]
    have S2 := S1.newM (o := .lst ((row P ds 0).map V.int)) nr
    have r0 : H r = none := S1.dom _ nr
    refine ⟨_, rfl, (by show 1 ≤ sizeLine; decide), fun L nL => ?_⟩
    have L0 : H L = none := S2.dom _ nL
    have S3 := S2.newM (o := .lst [.ref r]) nL
    have nrL : r ≠ L := ne_of_none upd_same nL
    have nLF : F L = none := none_of_same fh L0
    refine ⟨_, rfl, b, rfl, ⟨_, SqT.of (S3.hereF hb)⟩, for_tup (K := K) (a := b) (xs := xs) (fun i σ H' => Pu F H F H' ∧ ∃ (as : List Addr) (c : Addr) (x y : Option V), σ = [some (.ref a), some (.int (P : Int)), some (.ref b), some (.ref c), some (.ref L), x, y] ∧
        H' L = some (.lst (as.map V.ref)) ∧ as.length = i + 1 ∧ as[i]? = some c ∧ ∀ (j : Nat) (e : Addr), as[j]? = some e → H e = none ∧ e ≠ L ∧ H' e = some (.lst ((row P ds j).map V.int)))
      ⟨S3, [r], r, none, none, rfl, upd_same, rfl, rfl, fun j e h => ?_⟩ (fun i σ H' _ ⟨S, _⟩ => SqT.of (S.hereF hb)) ?_ ?_⟩
    · have hj : j = 0 := by
        have := (List.getElem?_eq_some_iff.mp h).1
        simp at this
        exact this
      subst hj
      obtain rfl : r = e := Option.some.inj h
      exact ⟨r0, nrL, by rw [upd_ne nrL, upd_same]⟩
    · rintro i v σ H1 hv ⟨S, as, c, x, y, rfl, eL, hal, hc, hin⟩
      obtain ⟨d, hd, hDd⟩ := deeds_at' hx hv
      obtain ⟨e, e2, rfl, he, he2⟩ := hDd.deed
      have ok := W.all i d hd
      have hil := (List.getElem?_eq_some_iff.mp hd).1
      obtain ⟨c0, cL, hcc⟩ := hin i c hc
      refine ⟨e, _, rfl, SqT.of (S.hereF he), rfl, _, _, rfl, _, _, rfl, rfl, ?_⟩
      refine ⟨_, rfl, c, _, rfl, .inl (SqL.of hcc), fun r2 nr2 => ?_⟩
      have S4 := S.newM (o := .lst ((row P ds i).map V.int)) nr2
      have r20 : H r2 = none := S.dom _ nr2
      have r2L : r2 ≠ L := fun z => by rw [z, eL] at nr2; cases nr2
      have hget : ((row P ds i).map V.int)[d.1]? = some (.int (ver ds i d.1 : Int)) := by rw [List.getElem?_map, row_at ds _ ok.1] <;> rfl
      refine ⟨_, rfl, _, rfl, r2, _, (d.1 : Int), _, rfl, rfl, SqL.of upd_same, atI_nat hget, _, _, rfl, rfl, r2, _, (d.1 : Int), d.1, rfl, rfl, upd_same, ixN_of (by rw [List.length_map, row_len]; exact ok.1), ?_⟩
      have hset : ((row P ds i).map V.int).set d.1 (.int ((ver ds i d.1 : Int) + 1)) = (row P ds (i + 1)).map V.int := by
        rw [row_succ (p := d.1) (rs := d.2) hd, List.map_set]
      rw [hset]
      have S5 := S4.put (p := r2) (o := .lst ((row P ds (i + 1)).map V.int)) (.inl r20) (none_of_same fh r20) (by rw [upd_same]; intro z; cases z)
      have eL5 : (upd (upd H1 r2 (.lst ((row P ds i).map V.int))) r2 (.lst ((row P ds (i + 1)).map V.int))) L = some (.lst (as.map V.ref)) := by
        rw [upd_ne r2L.symm, upd_ne r2L.symm]
        exact eL
      refine ⟨_, rfl, .inl ⟨rfl, _, SqL.of eL5⟩, _, rfl, L, _, _, rfl, rfl, eL5, ?_, ?_⟩
      · rw [List.length_map, hal]
        exact sizeN (by omega)
      · refine ⟨S5.put (.inl L0) nLF (by rw [eL5]; intro z; cases z), as ++ [r2], r2, _, _, rfl, ?_, ?_, ?_, fun j z hz => ?_⟩
        · rw [upd_same, List.map_append]
          rfl
        · rw [List.length_append, hal]
          rfl
        · rw [List.getElem?_append_right (by omega), hal]
          simp
        · by_cases hj : j < as.length
          · rw [List.getElem?_append_left hj] at hz
            obtain ⟨h1, h2, h3⟩ := hin j z hz
            have nz2 : z ≠ r2 := ne_of_none h3 nr2
            exact ⟨h1, h2, by rw [upd_ne h2, upd_ne nz2, upd_ne nz2]; exact h3⟩
          · have hjl := (List.getElem?_eq_some_iff.mp hz).1
            rw [List.length_append] at hjl
            have hji : j = i + 1 := by simp at hjl; omega
            subst hji
            rw [List.getElem?_append_right (by omega), hal] at hz
            have hz : r2 = z := by simpa using hz
            subst hz
            exact ⟨r20, r2L, by rw [upd_ne r2L, upd_same]⟩
    · rintro σ H1 ⟨S, as, c, x, y, rfl, eL, hal, hc, hin⟩
      refine ⟨_, rfl, q _ _ _ S.all (.lst (froz_new L0 eL) ?_)⟩
      have := rows_frz (H := H) (F1 := F) (H2 := H1) (row P ds) as 0 fun p e he => by
        rw [Nat.zero_add]
        exact ⟨(hin p e he).1, (hin p e he).2.2⟩
      rw [hal, hxl] at this
      rw [List.range_eq_range']
      exact this
/-! ### lots that may change -/
def oR : Option Addr → V
  | none => .non
  | some a => .ref a
structure LotsAt (F H : Hp) (L : Addr) (as : List (Option Addr)) (ls : Lots) : Prop where
  top : H L = some (.lst (as.map oR))
  topF : F L = none
  len : as.length = ls.length
  non : ∀ p : Nat, as[p]? = some none → ls[p]? = some none
  som : ∀ (p : Nat) (a : Addr), as[p]? = some (some a) → F a = none ∧ a ≠ L ∧ ∃ lo hi, ls[p]? = some (some (lo, hi)) ∧ H a = some (.lst [.int lo, .int hi])
  inj : ∀ (p q : Nat) (a : Addr), as[p]? = some (some a) → as[q]? = some (some a) → p = q
theorem LotsAt.step {F H F' H' : Hp} {L : Addr} {as : List (Option Addr)} {ls : Lots} (A : LotsAt F H L as ls) (S : Pu F H F' H') : LotsAt F' H' L as ls where
  top := S.same _ _ A.top
  topF := S.nw _ A.topF (by rw [A.top]; intro z; cases z)
  len := A.len
  non := A.non
  som := fun p a e => by
    obtain ⟨h1, h2, lo, hi, h3, h4⟩ := A.som p a e
    exact ⟨S.nw _ h1 (by rw [h4]; intro z; cases z), h2, lo, hi, h3, S.same _ _ h4⟩
  inj := A.inj
/-- what stands at place p -/
theorem LotsAt.get {F H : Hp} {L : Addr} {as : List (Option Addr)} {ls : Lots} (A : LotsAt F H L as ls) {p : Nat} (h : p < ls.length) :
    ((as.map oR)[p]? = some .non ∧ ls[p]? = some none) ∨ ∃ a lo hi, (as.map oR)[p]? = some (.ref a) ∧ as[p]? = some (some a) ∧ ls[p]? = some (some (lo, hi)) ∧ H a = some (.lst [.int lo, .int hi]) ∧ F a = none ∧ a ≠ L := by
  obtain ⟨o, ho⟩ : ∃ o, as[p]? = some o := ⟨_, List.getElem?_eq_getElem (by rw [A.len]; exact h)⟩
  cases o with
  | none => exact .inl ⟨by rw [List.getElem?_map, ho] <;> rfl, A.non p ho⟩
  | some a =>
    obtain ⟨h1, h2, lo, hi, h3, h4⟩ := A.som p a ho
    exact .inr ⟨a, lo, hi, by rw [List.getElem?_map, ho] <;> rfl, ho, h3, h4, h1, h2⟩
/-- one lot is written -/
theorem LotsAt.oth {F H : Hp} {L : Addr} {as : List (Option Addr)} {ls : Lots} {c : Addr} {o : HO} (A : LotsAt F H L as ls) (n1 : c ≠ L) (n2 : ∀ (p : Nat) (a : Addr), as[p]? = some (some a) → a ≠ c) : LotsAt F (upd H c o) L as ls where
  top := by rw [upd_ne n1.symm]; exact A.top
  topF := A.topF
  len := A.len
  non := A.non
  som := fun p a e => by
    obtain ⟨h1, h2, lo, hi, h3, h4⟩ := A.som p a e
    exact ⟨h1, h2, lo, hi, h3, by rw [upd_ne (n2 p a e)]; exact h4⟩
  inj := A.inj
/-- one lot is written -/
theorem LotsAt.put {F H : Hp} {L : Addr} {as : List (Option Addr)} {ls : Lots} (A : LotsAt F H L as ls) {p : Nat} {a : Addr} {lo hi : Int} (ha : as[p]? = some (some a)) :
    LotsAt F (upd H a (.lst [.int lo, .int hi])) L as (ls.set p (some (lo, hi))) where
  top := by
    obtain ⟨_, h2, _⟩ := A.som p a ha
    rw [upd_ne h2.symm]
    exact A.top
  topF := A.topF
  len := by rw [List.length_set]; exact A.len
  non := fun q e => by
    have : p ≠ q := fun z => by rw [z, e] at ha; cases ha
    rw [List.getElem?_set_ne this]
    exact A.non q e
  som := fun q b e => by
    obtain ⟨h1, h2, lo', hi', h3, h4⟩ := A.som q b e
    refine ⟨h1, h2, ?_⟩
    by_cases c : p = q
    · subst c
      rw [ha] at e
      obtain rfl := Option.some.inj (Option.some.inj e)
      exact ⟨lo, hi, List.getElem?_set_self (List.getElem?_eq_some_iff.mp h3).1, upd_same⟩
    · have : b ≠ a := fun z => c (A.inj p q a ha (by rw [← z]; exact e))
      exact ⟨lo', hi', by rw [List.getElem?_set_ne c]; exact h3, by rw [upd_ne this]; exact h4⟩
  inj := A.inj
def sp_single_lots : Sp := fun vs H Q _ => ∃ (F : Hp) (v : V) (im : Im), vs = [v] ∧ Same F H ∧ D F v (eImg im) ∧ im.length ≤ 100 ∧
  ∀ H' L as, Pu F H F H' → H L = none → (∀ (p : Nat) (a : Addr), as[p]? = some (some a) → H a = none) → LotsAt F H' L as (single im) → Q (.ref L) H'
theorem ok_single_lots {f : Addr} {fd : FuncData} (F : Fun K "single_lots" "single_lots" s_single_lots f fd) (T : Bi mg) :
    FnOk P w K mg base CX0 1 f fd ["image"] sp_single_lots := by
  refine F.ok sc_single_lots (fun vs H Q E h => ?_) (fun cdv A outer s H vs Q E hr h => ?_)
  · obtain ⟨F, v, im, rfl, _⟩ := h
    rfl
  · obtain ⟨F, v, im, rfl, fh, hI, hlen, q⟩ := h
    obtain ⟨a, rfl, ha⟩ := hI.img
    refine ⟨_, pss_one (ps_ret (pe_lc (own := [("version", 1)]) (g := gName 1) (tt := tYes) rfl sc_single_lots.nd (pi_tup (pv 0))
      (blkOk_by (N := n_single_lots) (sc := defScope s_single_lots) (by decide +kernel)) (fun _ _ _ _ _ => pg_name (i := 1) sc_single_lots.nd rfl (.inl rfl)) (fun _ _ _ _ _ => pts_nil)
      (fun _ _ _ _ _ => pe_ifExp (pt_cmpR op_isN (pv 1) pe_non (nomark _)) pe_non (pe_lst (pa_cons (pv 1) (pa_cons (pv 1) pa_nil)))))), ?_⟩
    refine ⟨_, rfl, a, rfl, ⟨_, SqT.of (fh _ _ ha)⟩, fun L nL => lc_it (walk_tup (xs := im.map oV)) (fun i H' => Pu F H F H' ∧ ∃ as, (∀ (p : Nat) (a : Addr), as[p]? = some (some a) → H a = none) ∧ LotsAt F H' L as (single (im.take i)))
      ⟨(Step.refl fh).newM nL, [], fun p a e => by simp at e, ⟨upd_same, none_of_same fh nL, rfl, fun p e => by simp at e, fun p a e => by simp at e, fun p q a e => by simp at e⟩⟩ (fun i H' _ ⟨S, _⟩ => SqT.of (S.hereF ha)) ?_ ?_⟩
    · rintro i x H2 H3 hi ⟨S, as, hn, A⟩ ⟨rfl, hxi⟩
      obtain ⟨o, hio, rfl⟩ := im_at hxi
      have hil := (List.getElem?_eq_some_iff.mp hio).1
      have eA : single (im.take (i + 1)) = single (im.take i) ++ [o.map fun x => (x, x)] := by
        unfold single
        rw [List.take_add_one, hio, List.map_append]
        rfl
      have hal : as.length = i := by
        rw [A.len]
        simp [single]
        omega
      have hsl : (single (im.take i)).length = i := by rw [← A.len, hal]
      have hz : (as.map oR).length < sizeLine := by rw [List.length_map, hal]; exact sizeN (by omega)
      refine ⟨rfl, yes (iteT ?_)⟩
      refine ⟨_, rfl, rfl, _, rfl, ?_⟩
      cases o with
      | none =>
        refine iteD rfl ?_
        refine ⟨_, A.top, hz, S.put (.inl nL) A.topF (by rw [A.top]; intro z; cases z), as ++ [none], fun p a e => ?_, ?_⟩
        · by_cases hp : p < as.length
          · rw [List.getElem?_append_left hp] at e; exact hn p a e
          · rw [List.getElem?_append_right (by omega)] at e
            cases hk : p - as.length with
            | zero => rw [hk] at e; cases e
            | succ k => rw [hk] at e; simp at e
        · rw [eA]
          refine ⟨by rw [upd_same, List.map_append] <;> rfl, A.topF, by rw [List.length_append, List.length_append, A.len] <;> rfl, fun p e => ?_, fun p b e => ?_, fun p r b e e' => ?_⟩
          · by_cases hp : p < as.length
            · rw [List.getElem?_append_left hp] at e
              rw [List.getElem?_append_left (by rw [hsl, ← hal]; exact hp)]
              exact A.non p e
            · rw [List.getElem?_append_right (by rw [hsl]; omega)]
              have hp2 := (List.getElem?_eq_some_iff.mp e).1
              rw [List.length_append] at hp2
              have : p - (single (im.take i)).length = 0 := by simp at hp2; omega
              rw [this]
              rfl
          · have hp : p < as.length := by
              refine Nat.lt_of_not_le fun hp => ?_
              rw [List.getElem?_append_right hp] at e
              cases hk : p - as.length with
              | zero => rw [hk] at e; cases e
              | succ k => rw [hk] at e; simp at e
            rw [List.getElem?_append_left hp] at e
            obtain ⟨h1, h2, lo, hi, h3, h4⟩ := A.som p b e
            exact ⟨h1, h2, lo, hi, by rw [List.getElem?_append_left (by rw [hsl, ← hal]; exact hp)]; exact h3, by rw [upd_ne h2]; exact h4⟩
          · have aux : ∀ p, (as ++ [none])[p]? = some (some b) → as[p]? = some (some b) := fun p e => by
              by_cases hp : p < as.length
              · rw [List.getElem?_append_left hp] at e; exact e
              · rw [List.getElem?_append_right (by omega)] at e
                cases hk : p - as.length with
                | zero => rw [hk] at e; cases e
                | succ k => rw [hk] at e; simp at e
            exact A.inj p r b (aux p e) (aux r e')
      | some n =>
        refine iteDn (fun z => nomatch z) ?_
        refine ⟨_, rfl, _, rfl, (by show 2 ≤ sizeLine; decide), fun c nc => ?_⟩
        have S2 : Pu F H F (upd H3 c (.lst [.int n, .int n])) := S.newM nc
        have c0 : H c = none := S.dom _ nc
        have ncL : L ≠ c := ne_of_none A.top nc
        refine ⟨_, by rw [upd_ne ncL]; exact A.top, hz, S2.put (.inl nL) A.topF (by rw [upd_ne ncL, A.top]; intro z; cases z), as ++ [some c], fun p b e => ?_, ?_⟩
        · by_cases hp : p < as.length
          · rw [List.getElem?_append_left hp] at e; exact hn p b e
          · rw [List.getElem?_append_right (by omega)] at e
            cases hk : p - as.length with
            | zero => rw [hk] at e; cases e; exact c0
            | succ k => rw [hk] at e; simp at e
        · rw [eA]
          have old : ∀ p b, as[p]? = some (some b) → b ≠ c := fun p b e => by
            obtain ⟨_, _, _, _, _, h4⟩ := A.som p b e
            exact ne_of_none h4 nc
          have aux : ∀ p b, (as ++ [some c])[p]? = some (some b) → (as[p]? = some (some b) ∧ p < as.length) ∨ (p = as.length ∧ b = c) := fun p b e => by
            by_cases hp : p < as.length
            · rw [List.getElem?_append_left hp] at e; exact .inl ⟨e, hp⟩
            · rw [List.getElem?_append_right (by omega)] at e
              cases hk : p - as.length with
              | zero => rw [hk] at e; cases e; exact .inr ⟨by omega, rfl⟩
              | succ k => rw [hk] at e; simp at e
          refine ⟨by rw [upd_same, List.map_append] <;> rfl, A.topF, by rw [List.length_append, List.length_append, A.len] <;> rfl, fun p e => ?_, fun p b e => ?_, fun p r b e e' => ?_⟩
          · have hp : p < as.length := by
              refine Nat.lt_of_not_le fun hp => ?_
              rw [List.getElem?_append_right hp] at e
              cases hk : p - as.length with
              | zero => rw [hk] at e; cases e
              | succ k => rw [hk] at e; simp at e
            rw [List.getElem?_append_left hp] at e
            rw [List.getElem?_append_left (by rw [hsl, ← hal]; exact hp)]
            exact A.non p e
          · rcases aux p b e with ⟨e, hp⟩ | ⟨rfl, rfl⟩
            · obtain ⟨h1, h2, lo, hi, h3, h4⟩ := A.som p b e
              exact ⟨h1, h2, lo, hi, by rw [List.getElem?_append_left (by rw [hsl, ← hal]; exact hp)]; exact h3, by rw [upd_ne h2, upd_ne (old p b e)]; exact h4⟩
            · refine ⟨none_of_same fh c0, ncL.symm, n, n, ?_, by rw [upd_ne ncL.symm, upd_same] <;> rfl⟩
              rw [List.getElem?_append_right (by rw [hsl, hal]; exact Nat.le_refl _), hsl, hal]
              simp
          · rcases aux p b e with ⟨e, hp⟩ | ⟨h1, h2⟩
            · rcases aux r b e' with ⟨e', hp'⟩ | ⟨h1', h2'⟩
              · exact A.inj p r b e e'
              · exact absurd h2' (old p b e)
            · rcases aux r b e' with ⟨e', hp'⟩ | ⟨h1', h2'⟩
              · exact absurd h2 (old r b e')
              · omega
    · rintro H2 ⟨S, as, hn, A⟩
      rw [List.take_of_length_le (by rw [List.length_map]; exact Nat.le_refl _)] at A
      exact q _ _ _ S nL hn A
end
end K24

end
section
set_option Elab.async false
set_option linter.all false
set_option maxRecDepth 100000
set_option maxHeartbeats 4000000
namespace K24
open PySem PySem.Spec PyProof.Rows L2
section
variable {P : Program} {w : World} {K : PySem.W.Frag} {mg : Str → Option Value} {base : Heap}
def sp_reads_known : Sp := fun vs H Q _ => ∃ (F : Hp) (tv rv : V) (L : Addr) (as : List (Option Addr)) (ls : Lots) (rs : List Nat) (t P : Nat) (ds : List Dd), vs = [tv, .ref L, rv, .int (t : Int)] ∧ Same F H ∧ D F tv (eTab P ds) ∧ LotsAt F H L as ls ∧ D F rv (eRds rs) ∧
  t ≤ ds.length ∧ ls.length = P ∧ (∀ r ∈ rs, r < P) ∧ ∀ b : Bool, (b = true ↔ Rds ds ls t rs) → Q (.bl b) H
theorem ok_reads_known {f : Addr} {fd : FuncData} (F : Fun K "reads_known" "reads_known" s_reads_known f fd) :
    FnOk P w K mg base CX0 1 f fd ["table", "lots", "reads", "t"] sp_reads_known := by
  refine F.ok sc_reads_known (fun vs H Q E h => ?_) (fun cdv A outer s H vs Q E hr h => ?_)
  · obtain ⟨F, tv, rv, L, as, ls, rs, t, P, ds, rfl, _⟩ := h
    rfl
  · obtain ⟨F, tv, rv, L, as, ls, rs, t, P, ds, rfl, fh, hT, A, hR, ht, hls, hrs, q⟩ := h
    obtain ⟨T, xs, rfl, hTa, hx⟩ := hT.list'
    obtain ⟨b, ys, rfl, hb, hy⟩ := hR.tup'
    obtain rfl := DA.nats _ hy
    obtain ⟨c, hc, hcr⟩ := hx.tab ht
    have hC := fh _ _ hcr
    refine ⟨_, pss_cons (ps_set (i := 4) sc_reads_known.nd rfl (.inl rfl) (pe_ix ix_list (pv 0) (pv 3) (fun _ _ => rfl)))
      (pss_cons (ps_for PassesOwn.never rfl (pi_tup (pv 2)) (pg_name (i := 5) sc_reads_known.nd rfl (.inl rfl))
        (pss_cons (ps_set (i := 6) sc_reads_known.nd rfl (.inl rfl) (pe_ix ix_list (pv 1) (pv 5) (fun _ _ => rfl)))
        (pss_one (ps_if (PW.pt (pw_or (pt_cmpR op_isN (pv 6) pe_non (nomark _)) (pw_or1 (pt_not (pt_chain op_le op_le (pe_ix ix_list (pv 6) pe_int (fun _ _ => rfl)) (pe_ix ix_list (pv 4) (pv 5) (fun _ _ => rfl)) (pe_ix ix_list (pv 6) pe_int (fun _ _ => rfl)))))))
          (pss_one (ps_ret pe_bl)) pss_nil))))
      (pss_one (ps_ret pe_bl))), ?_⟩
    refine ⟨_, rfl, _, rfl, T, xs, (t : Int), _, rfl, rfl, SqL.of (fh _ _ hTa), atI_nat hc, ?_⟩
    refine ⟨_, rfl, b, rfl, ⟨_, SqT.of (fh _ _ hb)⟩, for_tup (K := K) (a := b) (xs := rs.map nV) (fun i σ H' => H' = H ∧ (∃ x y, σ = [some (.ref T), some (.ref L), some (.ref b), some (.int (t : Int)), some (.ref c), x, y]) ∧
        ∀ (j r : Nat), j < i → rs[j]? = some r → ∃ lo hi, ls[r]? = some (some (lo, hi)) ∧ lo ≤ (ver ds t r : Int) ∧ (ver ds t r : Int) ≤ hi)
      ⟨rfl, ⟨none, none, rfl⟩, fun j r h _ => absurd h (Nat.not_lt_zero _)⟩ (fun i σ H' _ ⟨e, _⟩ => by subst e; exact SqT.of (fh _ _ hb)) ?_ ?_⟩
    · rintro i x σ H' hx ⟨rfl, ⟨x1, x2, rfl⟩, hin⟩
      rw [List.getElem?_map] at hx
      cases hd : rs[i]? with
      | none => rw [hd] at hx; cases hx
      | some r =>
        rw [hd] at hx
        obtain rfl : nV r = x := Option.some.inj hx
        have hrP := hrs r (List.mem_of_getElem? hd)
        have next : (∃ lo hi, ls[r]? = some (some (lo, hi)) ∧ lo ≤ (ver ds t r : Int) ∧ (ver ds t r : Int) ≤ hi) → ∀ (j r : Nat), j < i + 1 → rs[j]? = some r → ∃ lo hi, ls[r]? = some (some (lo, hi)) ∧ lo ≤ (ver ds t r : Int) ∧ (ver ds t r : Int) ≤ hi := by
          intro hh j r' hj e
          by_cases c : j = i
          · subst c
            rw [hd] at e
            obtain rfl := Option.some.inj e
            exact hh
          · exact hin j r' (by omega) e
        have stop : ¬ (∃ lo hi, ls[r]? = some (some (lo, hi)) ∧ lo ≤ (ver ds t r : Int) ∧ (ver ds t r : Int) ≤ hi) → Q (.bl false) H' := fun hh => q false ⟨fun z => (nomatch z), fun R => absurd (R r (List.mem_of_getElem? hd)) hh⟩
        have hrow : ((row P ds t).map V.int)[r]? = some (.int (ver ds t r : Int)) := by rw [List.getElem?_map, row_at ds _ hrP] <;> rfl
        rcases A.get (p := r) (by omega) with ⟨g1, g2⟩ | ⟨a, lo, hi, g1, g2, g3, g4, g5, g6⟩
        · refine ⟨_, rfl, _, rfl, L, _, (r : Int), _, rfl, rfl, SqL.of A.top, atI_nat g1, ?_⟩
          refine ⟨_, rfl, rfl, _, rfl, iteD rfl (iteT ?_)⟩
          exact stop fun ⟨lo, hi, e, _⟩ => by rw [g2] at e; cases e
        · refine ⟨_, rfl, _, rfl, L, _, (r : Int), _, rfl, rfl, SqL.of A.top, atI_nat g1, ?_⟩
          refine ⟨_, rfl, rfl, _, rfl, iteDn (fun z => nomatch z) ?_⟩
          refine ⟨_, rfl, a, _, 0, _, rfl, rfl, SqL.of g4, rfl, _, rfl, _, rfl, c, _, (r : Int), _, rfl, rfl, SqL.of hC, atI_nat hrow, lo, (ver ds t r : Int), rfl, rfl, _, rfl, ?_⟩
          refine ite2 (fun e => ?_) (fun e => ?_)
          · have e := of_decide_eq_true e
            refine ⟨_, rfl, a, _, 1, _, rfl, rfl, SqL.of g4, rfl, (ver ds t r : Int), hi, rfl, rfl, _, rfl, ?_⟩
            by_cases e2 : (ver ds t r : Int) ≤ hi
            · rw [decide_eq_true e2]
              exact iteF ⟨rfl, ⟨_, _, rfl⟩, next ⟨lo, hi, g3, e, e2⟩⟩
            · rw [decide_eq_false e2]
              refine iteT (stop fun ⟨lo', hi', z, _, z2⟩ => ?_)
              rw [g3] at z
              have z := Option.some.inj (Option.some.inj z)
              have : hi = hi' := congrArg Prod.snd z
              omega
          · have e : ¬ lo ≤ (ver ds t r : Int) := fun z => e (decide_eq_true z)
            refine ⟨false, rfl, iteT (stop fun ⟨lo', hi', z, z2, _⟩ => ?_)⟩
            rw [g3] at z
            have z := Option.some.inj (Option.some.inj z)
            have : lo = lo' := congrArg Prod.fst z
            omega
    · rintro σ H' ⟨rfl, ⟨x1, x2, rfl⟩, hin⟩
      refine q true ⟨fun _ r m => ?_, fun _ => rfl⟩
      obtain ⟨j, hj, e⟩ := List.mem_iff_getElem.mp m
      exact hin j r (by rw [List.length_map]; exact hj) (by rw [List.getElem?_eq_getElem hj, e])
/-- a growth over deed t (from 0) -/
abbrev eGr (t : Nat) (up : Bool) : PyData := .tuple [.int ((t : Int) + 1), .int (if up = true then 1 else -1)]
def GrP (F : Hp) (u : V) (ds : List Dd) (ls : Lots) (t : Nat) : Prop := (u = .non ∧ ∀ up, ¬ Can ds ls t up) ∨ ∃ up, Can ds ls t up ∧ D F u (eGr t up)
def sp_growth_of : Sp := fun vs H Q _ => ∃ (F : Hp) (v tv : V) (L : Addr) (as : List (Option Addr)) (ls : Lots) (t P : Nat) (ds : List Dd), vs = [v, tv, .ref L, .int ((t : Int) + 1)] ∧ Same F H ∧ D F v (eLog P ds) ∧ WF P ds ∧ D F tv (eTab P ds) ∧ LotsAt F H L as ls ∧
  ls.length = P ∧ t < ds.length ∧ ∀ F' H' u, Pu F H F' H' → GrP F' u ds ls t → Q u H'
theorem ok_growth_of {f : Addr} {fd : FuncData} (F : Fun K "growth_of" "growth_of" s_growth_of f fd) (C1 : Cal P w K mg base "reads_known" 1 ["table", "lots", "reads", "t"] sp_reads_known) :
    FnOk P w K mg base CX0 2 f fd ["log", "table", "lots", "t"] sp_growth_of := by
  obtain ⟨f1, fd1, G1, m1, k1, b1⟩ := C1
  refine F.ok sc_growth_of (fun vs H Q E h => ?_) (fun cdv A outer s H vs Q E hr h => ?_)
  · obtain ⟨F, v, tv, L, as, ls, t, P, ds, rfl, _⟩ := h
    rfl
  · obtain ⟨F, v, tv, L, as, ls, t, P, ds, rfl, fh, hD, W, hT, A, hls, ht, q⟩ := h
    obtain ⟨a, b, xs, rfl, ha, hb, hx⟩ := hD.log
    obtain ⟨T, rows, rfl, hTa, hrows⟩ := id hT.list'
    obtain ⟨c, hc, hcr⟩ := hrows.tab (s := t + 1) ht
    obtain ⟨⟨p, rs⟩, hd⟩ : ∃ d, ds[t]? = some d := ⟨_, List.getElem?_eq_getElem ht⟩
    obtain ⟨dv, hdv, hDd⟩ := deeds_at hx hd
    obtain ⟨e, e2, rfl, he, he2⟩ := hDd.deed
    obtain ⟨hp, hrp, _, _⟩ := W.at hd
    have hrow : ((row P ds (t + 1)).map V.int)[p]? = some (.int (ver ds (t + 1) p : Int)) := by rw [List.getElem?_map, row_at ds _ hp] <;> rfl
    have hti : (t : Int) + 1 = ((t + 1 : Nat) : Int) := by omega
    refine ⟨_, pss_cons (ps_asg (pe_ix ix_tup (pe_ix ix_tup (pv 0) pe_int (fun _ _ => rfl)) (pe_op op_sub (pv 3) pe_int) (fun _ _ => rfl)) (pg_tup rfl (pgs_cons (pg_name (i := 4) sc_growth_of.nd rfl (.inl rfl)) (pgs_cons (pg_name (i := 5) sc_growth_of.nd rfl (.inl rfl)) pgs_nil))))
      (pss_cons (ps_set (i := 6) sc_growth_of.nd rfl (.inl rfl) (pe_ix ix_list (pv 2) (pv 4) (fun _ _ => rfl)))
      (pss_cons (ps_if (pt_cmpR op_isN (pv 6) pe_non (nomark _)) (pss_one (ps_ret pe_non)) pss_nil)
      (pss_cons (ps_set (i := 7) sc_growth_of.nd rfl (.inl rfl) (pe_ix ix_list (pe_ix ix_list (pv 1) (pv 3) (fun _ _ => rfl)) (pv 4) (fun _ _ => rfl)))
      (pss_cons (ps_if (PW.pt (pw_and (pt_cmpR op_ne (pe_ix ix_list (pv 6) pe_int (fun _ _ => rfl)) (pe_op op_sub (pv 7) pe_int) (nomark _)) (pw_and1 (pt_cmpR op_ne (pe_ix ix_list (pv 6) pe_int (fun _ _ => rfl)) (pv 7) (nomark _)))))
        (pss_one (ps_ret pe_non)) pss_nil)
      (pss_cons (ps_if (pt_not (pt_val (pe_call G1 hr (by rfl) m1 k1 b1 .nil pass0 (pa_cons (pv 1) (pa_cons (pv 2) (pa_cons (pv 5) (pa_cons (pv 3) pa_nil))))))) (pss_one (ps_ret pe_non)) pss_nil)
      (pss_one (ps_ret (pe_ifExp (pt_cmpR op_eq (pe_ix ix_list (pv 6) pe_int (fun _ _ => rfl)) (pe_op op_sub (pv 7) pe_int) (nomark _)) (pe_tup (pa_cons (pv 3) (pa_cons pe_int pa_nil))) (pe_tup (pa_cons (pv 3) (pa_cons (pe_un un_neg pe_int) pa_nil))))))))))), ?_⟩
    refine ⟨_, rfl, a, _, 1, _, rfl, rfl, SqT.of (fh _ _ ha), rfl, _, rfl, _, _, rfl, rfl, b, xs, (t : Int) + 1 - 1, _, rfl, rfl, SqT.of (fh _ _ hb), at_of (j := t) (by omega) hdv, ?_⟩
    refine ⟨e, _, rfl, SqT.of (fh _ _ he), rfl, _, _, rfl, _, _, rfl, rfl, ?_⟩
    rcases A.get (p := p) (by omega) with ⟨g1, g2⟩ | ⟨l, lo, hi, g1, g2, g3, g4, g5, g6⟩
    · refine ⟨_, rfl, _, rfl, L, _, (p : Int), _, rfl, rfl, SqL.of A.top, atI_nat g1, ?_⟩
      refine ⟨_, rfl, rfl, _, rfl, iteD rfl ?_⟩
      refine q F H .non (.refl fh) (.inl ⟨rfl, fun up ⟨p', rs', lo, hi, h1, h2, _⟩ => ?_⟩)
      rw [hd] at h1
      obtain rfl : p = p' := congrArg Prod.fst (Option.some.inj h1)
      rw [g2] at h2
      cases h2
    · have no : hi ≠ (ver ds (t + 1) p : Int) - 1 → lo ≠ (ver ds (t + 1) p : Int) → ∀ up, ¬ Can ds ls t up := fun n1 n2 up ⟨p', rs', lo', hi', h1, h2, _, h3⟩ => by
        rw [hd] at h1
        obtain rfl : p = p' := congrArg Prod.fst (Option.some.inj h1)
        rw [g3] at h2
        have z := Option.some.inj (Option.some.inj h2)
        have z1 : lo = lo' := congrArg Prod.fst z
        have z2 : hi = hi' := congrArg Prod.snd z
        cases up with
        | true => exact n1 (z2.trans h3)
        | false => exact n2 (z1.trans h3)
      refine ⟨_, rfl, _, rfl, L, _, (p : Int), _, rfl, rfl, SqL.of A.top, atI_nat g1, ?_⟩
      refine ⟨_, rfl, rfl, _, rfl, iteDn (fun z => nomatch z) ?_⟩
      refine ⟨_, rfl, _, rfl, T, rows, (t : Int) + 1, _, rfl, rfl, SqL.of (fh _ _ hTa), at_of (j := t + 1) hti hc, _, rfl, c, _, (p : Int), _, rfl, rfl, SqL.of (fh _ _ hcr), atI_nat hrow, ?_⟩
      -- the test of the edges
      refine ⟨_, rfl, l, _, 1, _, rfl, rfl, SqL.of g4, rfl, _, rfl, (ver ds (t + 1) p : Int), 1, rfl, rfl, rfl, _, rfl, ?_⟩
      -- what follows where one edge fits
      have go : (hi = (ver ds (t + 1) p : Int) - 1 ∨ lo = (ver ds (t + 1) p : Int)) → ∀ (b : Bool), (b = true ↔ Rds ds ls (t + 1) rs) → ∀ up, (hi = (ver ds (t + 1) p : Int) - 1 ↔ up = true) → (b = false → Q .non H) ∧ (b = true → ∀ z, H z = none → Q (.ref z) (upd H z (.tup [.int ((t : Int) + 1), .int (if up = true then 1 else -1)]))) := by
        intro ho b hb2 up hup
        refine ⟨fun hb3 => q F H .non (.refl fh) (.inl ⟨rfl, fun up ⟨p', rs', lo', hi', h1, _, h2, _⟩ => ?_⟩), fun hb3 z nz => ?_⟩
        · rw [hd] at h1
          obtain rfl : rs = rs' := congrArg Prod.snd (Option.some.inj h1)
          rw [hb2.mpr h2] at hb3
          cases hb3
        · have S : Pu F H (upd F z (.tup [.int ((t : Int) + 1), .int (if up = true then 1 else -1)])) (upd H z (.tup [.int ((t : Int) + 1), .int (if up = true then 1 else -1)])) := (Step.refl fh).newF nz
          refine q _ _ _ S (.inr ⟨up, ⟨p, rs, lo, hi, hd, g3, hb2.mp hb3, ?_⟩, .tup upd_same (.cons (.int _) (.cons (.int _) .nil))⟩)
          cases up with
          | true => exact hup.mpr rfl
          | false =>
            rcases ho with ho | ho
            · exact absurd (hup.mp ho) (by decide)
            · exact ho
      -- the reading from reads_known on
      by_cases c1 : hi = (ver ds (t + 1) p : Int) - 1
      · refine iteNS (congrArg V.int c1) (iteF ?_)
        refine ⟨_, rfl, _, rfl, _, rfl, _, rfl, F, .ref T, .ref e2, L, as, ls, rs, t + 1, P, ds, by rw [← hti] <;> rfl, fh, hT, A, .tup he2 (DA.of_nats _), ht, hls, fun r m => (hrp r m).1, fun b hb2 => ⟨b, rfl, ?_⟩⟩
        have g := go (.inl c1) b hb2 true ⟨fun _ => rfl, fun _ => c1⟩
        cases b with
        | false => exact iteT (g.1 rfl)
        | true =>
          refine iteF ?_
          refine ⟨_, rfl, l, _, 1, _, rfl, rfl, SqL.of g4, rfl, _, rfl, _, _, rfl, rfl, rfl, _, rfl, iteD (congrArg V.int c1) ?_⟩
          exact ⟨_, rfl, (by show 2 ≤ sizeLine; decide), fun z nz => g.2 rfl z nz⟩
      · refine iteNN (fun z => c1 (V.int.inj z)) ?_
        refine ⟨_, rfl, l, _, 0, _, rfl, rfl, SqL.of g4, rfl, _, rfl, rfl, _, rfl, ?_⟩
        by_cases c2 : lo = (ver ds (t + 1) p : Int)
        · refine iteNS (congrArg V.int c2) ?_
          refine ⟨_, rfl, _, rfl, _, rfl, _, rfl, F, .ref T, .ref e2, L, as, ls, rs, t + 1, P, ds, by rw [← hti] <;> rfl, fh, hT, A, .tup he2 (DA.of_nats _), ht, hls, fun r m => (hrp r m).1, fun b hb2 => ⟨b, rfl, ?_⟩⟩
          have g := go (.inr c2) b hb2 false ⟨fun z => absurd z c1, fun z => nomatch z⟩
          cases b with
          | false => exact iteT (g.1 rfl)
          | true =>
            refine iteF ?_
            refine ⟨_, rfl, l, _, 1, _, rfl, rfl, SqL.of g4, rfl, _, rfl, _, _, rfl, rfl, rfl, _, rfl, iteDn (fun z => c1 (V.int.inj z)) ?_⟩
            exact ⟨_, rfl, 1, rfl, (by show 2 ≤ sizeLine; decide), fun z nz => g.2 rfl z nz⟩
        · refine iteNN (fun z => c2 (V.int.inj z)) ?_
          exact q F H .non (.refl fh) (.inl ⟨rfl, no c1 c2⟩)
end
end K24

end
section
set_option Elab.async false
set_option linter.all false
set_option maxRecDepth 100000
set_option maxHeartbeats 4000000
namespace K24
open PySem PySem.Spec PyProof.Rows L2
/-- the deeds at the edges of a lot -/
def edges (ds : List Dd) (p : Nat) (lo hi : Int) : List Int :=
  (if hi < ((own ds ds.length p).length : Int) then [(own ds ds.length p).getD hi.toNat 0] else []) ++ (if 0 < lo then [(own ds ds.length p).getD (lo - 1).toNat 0] else [])
theorem edges_le (ds : List Dd) (p : Nat) (lo hi : Int) : (edges ds p lo hi).length ≤ 2 := by
  unfold edges
  split <;> split <;> simp
theorem getD_of {l : List Int} {k : Nat} {z : Int} (h : l[k]? = some z) : l.getD k 0 = z := by
  rw [List.getD_eq_getElem?_getD, h]
  rfl
/-- each of them is a deed of the page -/
theorem edges_mem {ds : List Dd} {p : Nat} {lo hi : Int} (h0 : 0 ≤ lo) (h1 : lo ≤ hi) (h2 : hi ≤ (ver ds ds.length p : Int)) {z : Int} (h : z ∈ edges ds p lo hi) : ∃ t rs, t < ds.length ∧ ds[t]? = some (p, rs) ∧ z = (t : Int) + 1 := by
  have hl := own_len ds p ds.length (Nat.le_refl _)
  have aux : ∀ k : Nat, k < (own ds ds.length p).length → z = (own ds ds.length p).getD k 0 → ∃ t rs, t < ds.length ∧ ds[t]? = some (p, rs) ∧ z = (t : Int) + 1 := fun k hk e => by
    refine own_mem ?_
    rw [e, List.getD_eq_getElem?_getD, List.getElem?_eq_getElem hk]
    exact List.getElem_mem hk
  unfold edges at h
  rcases List.mem_append.mp h with h | h
  · split at h
    · exact aux _ (by omega) (List.mem_singleton.mp h)
    · cases h
  · split at h
    · exact aux _ (by omega) (List.mem_singleton.mp h)
    · cases h
/-- a deed that allows a growth is one of them -/
theorem edges_can {ds : List Dd} {ls : Lots} {t p : Nat} {rs : List Nat} {lo hi : Int} {up : Bool} (hd : ds[t]? = some (p, rs)) (hl : ls[p]? = some (some (lo, hi))) (c : Can ds ls t up) : (t : Int) + 1 ∈ edges ds p lo hi := by
  obtain ⟨p', rs', lo', hi', h1, h2, _, h3⟩ := c
  rw [hd] at h1
  obtain rfl : p = p' := congrArg Prod.fst (Option.some.inj h1)
  rw [hl] at h2
  have z := Option.some.inj (Option.some.inj h2)
  have z1 : lo = lo' := congrArg Prod.fst z
  have z2 : hi = hi' := congrArg Prod.snd z
  subst z1
  subst z2
  have ht := (List.getElem?_eq_some_iff.mp hd).1
  have hv := ver_same hd
  have hn := ver_le ds (t + 1) p
  have hp := own_place hd ds.length ht (Nat.le_refl _)
  have hol := own_len ds p ds.length (Nat.le_refl _)
  unfold edges
  cases up with
  | true =>
    have h3 : hi = (ver ds (t + 1) p : Int) - 1 := h3
    refine List.mem_append_left _ ?_
    rw [if_pos (by omega), show hi.toNat = ver ds t p by omega, getD_of hp]
    exact List.mem_singleton.mpr rfl
  | false =>
    have h3 : lo = (ver ds (t + 1) p : Int) := h3
    refine List.mem_append_right _ ?_
    rw [if_pos (by omega), show (lo - 1).toNat = ver ds t p by omega, getD_of hp]
    exact List.mem_singleton.mpr rfl
section
variable {P : Program} {w : World} {K : PySem.W.Frag} {mg : Str → Option Value} {base : Heap}
def sp_edge_deeds : Sp := fun vs H Q _ => ∃ (F : Hp) (nv : V) (a : Addr) (lo hi : Int) (p : Nat) (ds : List Dd), vs = [nv, .ref a] ∧ Same F H ∧ D F nv (eRow (own ds ds.length p)) ∧ F a = none ∧ H a = some (.lst [.int lo, .int hi]) ∧
  0 ≤ lo ∧ lo ≤ hi ∧ hi ≤ (ver ds ds.length p : Int) ∧ Ret F H Q fun F' u => D F' u (eRow (edges ds p lo hi))
theorem ok_edge_deeds {f : Addr} {fd : FuncData} (F : Fun K "edge_deeds" "edge_deeds" s_edge_deeds f fd) (T : Bi mg) :
    FnOk P w K mg base CX0 1 f fd ["numbers", "lot"] sp_edge_deeds := by
  refine F.ok sc_edge_deeds (fun vs H Q E h => ?_) (fun cdv A outer s H vs Q E hr h => ?_)
  · obtain ⟨F, nv, a, lo, hi, p, ds, rfl, _⟩ := h
    rfl
  · obtain ⟨F, nv, a, lo, hi, p, ds, rfl, fh, hN, haF, ha, h0, h1, h2, q⟩ := h
    obtain ⟨b, rfl, hb⟩ := hN.row
    have hB := fh _ _ hb
    have hol := own_len ds p ds.length (Nat.le_refl _)
    refine ⟨_, pss_cons (ps_set (i := 2) sc_edge_deeds.nd rfl (.inl rfl) (pe_lst pa_nil))
      (pss_cons (ps_if (pt_cmpR op_lt (pe_ix ix_list (pv 1) pe_int (fun _ _ => rfl)) (pe_callB call_len_seq (by rfl) T.len boot_len (pa_cons (pv 0) pa_nil)) (nomark _))
        (pss_one (ps_expr (pe_bm PySem.F.plainAttrs_list PySem.F.slot_list_append PySem.F.type_list_append mt_append (pv 2) (pa_cons (pe_ix ix_list (pv 0) (pe_ix ix_list (pv 1) pe_int (fun _ _ => rfl)) (fun _ _ => rfl)) pa_nil)))) pss_nil)
      (pss_cons (ps_if (pt_cmpR op_gt (pe_ix ix_list (pv 1) pe_int (fun _ _ => rfl)) pe_int (nomark _))
        (pss_one (ps_expr (pe_bm PySem.F.plainAttrs_list PySem.F.slot_list_append PySem.F.type_list_append mt_append (pv 2) (pa_cons (pe_ix ix_list (pv 0) (pe_op op_sub (pe_ix ix_list (pv 1) pe_int (fun _ _ => rfl)) pe_int) (fun _ _ => rfl)) pa_nil)))) pss_nil)
      (pss_one (ps_ret (pv 2))))), ?_⟩
    refine ⟨Nat.zero_le _, fun L nL => ?_⟩
    have S1 := (Step.refl (M := No) fh).newM (o := .lst []) nL
    have nLF : F L = none := none_of_same fh nL
    have naL : a ≠ L := ne_of_none ha nL
    have nbL : b ≠ L := ne_of_none hB nL
    have atz : ∀ (k : Int), 0 ≤ k → k < ((own ds ds.length p).length : Int) → atI ((own ds ds.length p).map V.int) k = some (.int ((own ds ds.length p).getD k.toNat 0)) := fun k k0 k1 => by
      refine at_of (j := k.toNat) (by omega) ?_
      rw [List.getElem?_map, List.getElem?_eq_getElem (by omega), List.getD_eq_getElem?_getD, List.getElem?_eq_getElem (by omega)]
      rfl
    -- from the second test on
    have second : ∀ (H1 : Hp) (l1 : List Int), Pu F H F H1 → H1 L = some (.lst (l1.map V.int)) → l1.length ≤ 1 →
        l1 = (if hi < ((own ds ds.length p).length : Int) then [(own ds ds.length p).getD hi.toNat 0] else []) →
        tSeq (tIfS (tTest (tOp (rI0 fun i j => .bl (decide (j < i))) (tOp (rIxL K) (tVar 1) (tC (.int 0))) (tC (.int 0))))
          (tDrop (tBM K "list" rAppend (tVar 2) (tCons (tOp (rIxL K) (tVar 0) (tOp (rI0 fun i j => .int (i - j)) (tOp (rIxL K) (tVar 1) (tC (.int 0))) (tC (.int 1)))) tNil))) tNext) (tRet (tVar 2))
          { nx := fun _ H' => Q .non H', rt := Q } [some (.ref b), some (.ref a), some (.ref L)] H1 := by
      intro H1 l1 S eL hl1 el
      have hA := S.same _ _ ha
      have hB := S.same _ _ hB
      refine ⟨_, rfl, a, _, 0, _, rfl, rfl, SqL.of hA, rfl, lo, 0, rfl, rfl, _, rfl, ?_⟩
      by_cases c : 0 < lo
      · refine iteD c ?_
        refine ⟨_, rfl, .inl ⟨rfl, _, SqL.of eL⟩, _, rfl, _, rfl, a, _, 0, _, rfl, rfl, SqL.of hA, rfl, lo, 1, rfl, rfl, b, _, lo - 1, _, rfl, rfl, SqL.of hB, atz _ (by omega) (by omega), L, _, _, rfl, rfl, eL, ?_, ?_⟩
        · rw [List.length_map]
          exact sizeN (by omega)
        · refine ⟨_, rfl, q _ _ _ (S.put (.inl nL) nLF (by rw [eL]; intro z; cases z)).all (.of_row (froz_new nL ?_))⟩
          rw [upd_same]
          unfold edges
          rw [if_pos c, ← el, List.map_append]
          rfl
      · refine iteDn c ?_
        refine ⟨_, rfl, q _ _ _ S.all (.of_row (froz_new nL ?_))⟩
        unfold edges
        rw [if_neg c, ← el, List.append_nil]
        exact eL
    refine ⟨_, rfl, a, _, 1, _, rfl, rfl, SqL.of (by rw [upd_ne naL]; exact ha), rfl, _, rfl, b, _, rfl, .inl (SqL.of (by rw [upd_ne nbL]; exact hB)), _, _, rfl, rfl, _, rfl, ?_⟩
    rw [List.length_map]
    by_cases c : hi < ((own ds ds.length p).length : Int)
    · refine iteD c ?_
      refine ⟨_, rfl, .inl ⟨rfl, _, SqL.of upd_same⟩, _, rfl, _, rfl, a, _, 1, _, rfl, rfl, SqL.of (by rw [upd_ne naL]; exact ha), rfl, b, _, hi, _, rfl, rfl, SqL.of (by rw [upd_ne nbL]; exact hB), atz _ (by omega) c, L, _, _, rfl, rfl, upd_same, sizeN (by decide), ?_⟩
      refine second _ [(own ds ds.length p).getD hi.toNat 0] (S1.put (.inl nL) nLF (by rw [upd_same]; intro z; cases z)) upd_same (Nat.le_refl _) (by rw [if_pos c])
    · refine iteDn c ?_
      exact second _ [] S1 upd_same (by simp) (by rw [if_neg c])
end
end K24

end
section
set_option Elab.async false
set_option linter.all false
set_option maxRecDepth 100000
set_option maxHeartbeats 4000000
namespace K24
open PySem PySem.Spec PyProof.Rows L2
def edgesOf (ds : List Dd) (ls : Lots) (p : Nat) : List Int := match ls[p]? with
  | some (some x) => edges ds p x.1 x.2
  | _ => []
theorem edgesOf_some {ds : List Dd} {ls : Lots} {p : Nat} {lo hi : Int} (h : ls[p]? = some (some (lo, hi))) : edgesOf ds ls p = edges ds p lo hi := by
  unfold edgesOf
  rw [h]
/-- the deed with the number z allows no growth -/
def NoC (ds : List Dd) (ls : Lots) (z : Int) : Prop := ∀ t : Nat, z = (t : Int) + 1 → ∀ up, ¬ Can ds ls t up
/-- what the search has found so far -/
def FoundP (F : Hp) (u : V) (ds : List Dd) (ls : Lots) (done : Prop) : Prop := (u = .non ∧ done) ∨ ∃ t up, Can ds ls t up ∧ D F u (eGr t up)
theorem FoundP.mono {F F' : Hp} {u : V} {ds : List Dd} {ls : Lots} {p p' : Prop} (h : FoundP F u ds ls p) (s : Same F F') (i : p → p') : FoundP F' u ds ls p' := by
  rcases h with ⟨h1, h2⟩ | ⟨t, up, h1, h2⟩
  · exact .inl ⟨h1, i h2⟩
  · exact .inr ⟨t, up, h1, h2.mono s⟩
abbrev eLed (ds : List Dd) (pages : List Nat) : PyData := .list (pages.map fun p => .tuple [nI p, eRow (own ds ds.length p)])
/-- which pages are led -/
structure LedOk (ds : List Dd) (ls : Lots) (pages : List Nat) : Prop where
  som : ∀ p ∈ pages, p < ls.length ∧ ∃ lo hi, ls[p]? = some (some (lo, hi))
  all : ∀ (p : Nat) lo hi, ls[p]? = some (some (lo, hi)) → own ds ds.length p ≠ [] → p ∈ pages
theorem closed_of {P : Nat} {ds : List Dd} {ls : Lots} {pages : List Nat} (W : WF P ds) (O : LedOk ds ls pages) (h : ∀ p ∈ pages, ∀ z ∈ edgesOf ds ls p, NoC ds ls z) : Closed ds ls := by
  intro t up c
  obtain ⟨p, rs, lo, hi, hd, hl, R, hc⟩ := id c
  have ht := (List.getElem?_eq_some_iff.mp hd).1
  have hp := own_place hd ds.length ht (Nat.le_refl _)
  have hm := O.all p lo hi hl (fun z => by rw [z] at hp; simp at hp)
  exact h p hm ((t : Int) + 1) (by rw [edgesOf_some hl]; exact edges_can hd hl c) t rfl up c
section
variable {P : Program} {w : World} {K : PySem.W.Frag} {mg : Str → Option Value} {base : Heap}
def sp_next_growth : Sp := fun vs H Q _ => ∃ (F : Hp) (v lv tv : V) (L : Addr) (as : List (Option Addr)) (ls : Lots) (im : Im) (pages : List Nat) (P : Nat) (ds : List Dd), vs = [v, lv, tv, .ref L] ∧ Same F H ∧ D F v (eLog P ds) ∧ WF P ds ∧ D F tv (eTab P ds) ∧
  LotsAt F H L as ls ∧ ls.length = P ∧ Good ds im ls ∧ D F lv (eLed ds pages) ∧ LedOk ds ls pages ∧ ∀ F' H' u, Pu F H F' H' → FoundP F' u ds ls (Closed ds ls) → Q u H'
theorem ok_next_growth {f : Addr} {fd : FuncData} (F : Fun K "next_growth" "next_growth" s_next_growth f fd) (C1 : Cal P w K mg base "edge_deeds" 1 ["numbers", "lot"] sp_edge_deeds) (C2 : Cal P w K mg base "growth_of" 2 ["log", "table", "lots", "t"] sp_growth_of) :
    FnOk P w K mg base CX0 3 f fd ["log", "led", "table", "lots"] sp_next_growth := by
  obtain ⟨f1, fd1, G1, m1, k1, b1⟩ := C1
  obtain ⟨f2, fd2, G2, m2, k2, b2⟩ := C2
  refine F.ok sc_next_growth (fun vs H Q E h => ?_) (fun cdv A outer s H vs Q E hr h => ?_)
  · obtain ⟨F, v, lv, tv, L, as, ls, im, pages, P, ds, rfl, _⟩ := h
    rfl
  · obtain ⟨F, v, lv, tv, L, as, ls, im, pages, P, ds, rfl, fh, hD, W, hT, A, hls, G, hLed, O, q⟩ := h
    obtain ⟨l, xs, rfl, hl, hx⟩ := hLed.list'
    have hxl : xs.length = pages.length := by rw [hx.len, List.length_map]
    refine ⟨_, pss_cons (ps_set (i := 4) sc_next_growth.nd rfl (.inl rfl) pe_non)
      (pss_cons (ps_for PassesOwn.never rfl (pi_list (pv 1)) (pg_tup rfl (pgs_cons (pg_name (i := 5) sc_next_growth.nd rfl (.inl rfl)) (pgs_cons (pg_name (i := 6) sc_next_growth.nd rfl (.inl rfl)) pgs_nil)))
        (pss_one (ps_for PassesOwn.never rfl (pi_list (pe_call G1 (hr.mono (by decide)) (by rfl) m1 k1 b1 .nil pass0 (pa_cons (pv 6) (pa_cons (pe_ix ix_list (pv 3) (pv 5) (fun _ _ => rfl)) pa_nil)))) (pg_name (i := 7) sc_next_growth.nd rfl (.inl rfl))
          (pss_cons (ps_set (i := 8) sc_next_growth.nd rfl (.inl rfl) (pe_ifExp (PW.pt (pw_or (pt_cmpR op_isN (pv 4) pe_non (nomark _)) (pw_or1 (pt_cmpR op_lt (pv 7) (pe_ix ix_tup (pv 4) pe_int (fun _ _ => rfl)) (nomark _)))))
            (pe_call G2 (hr.mono (by decide)) (by rfl) m2 k2 b2 .nil pass0 (pa_cons (pv 0) (pa_cons (pv 2) (pa_cons (pv 3) (pa_cons (pv 7) pa_nil))))) pe_non))
          (pss_one (ps_if (pt_cmpR op_notN (pv 8) pe_non (nomark _)) (pss_one (ps_set (i := 4) sc_next_growth.nd rfl (.inl rfl) (pv 8))) pss_nil))))))
      (pss_one (ps_ret (pv 4)))), ?_⟩
    refine ⟨_, rfl, l, rfl, ⟨_, SqL.of (fh _ _ hl)⟩, for_list (K := K) (a := l) (xs := xs) (fun i σ H' => ∃ F1, Pu F H F1 H' ∧ ∃ (fv : V) (x5 x6 x7 x8 : Option V), σ = [some v, some (.ref l), some tv, some (.ref L), some fv, x5, x6, x7, x8] ∧
        FoundP F1 fv ds ls (∀ (k p : Nat), k < i → pages[k]? = some p → ∀ z ∈ edgesOf ds ls p, NoC ds ls z))
      ⟨F, .refl fh, .non, none, none, none, none, rfl, .inl ⟨rfl, fun k p h => absurd h (Nat.not_lt_zero _)⟩⟩ (fun i σ H' _ ⟨F1, S, _⟩ => SqL.of (S.hereF hl)) ?_ ?_⟩
    · rintro i x σ H1 hxi ⟨F1, S1, fv, x5, x6, x7, x8, rfl, hf⟩
      obtain ⟨d, hd, hDd⟩ := hx.at' hxi
      rw [List.getElem?_map] at hd
      obtain ⟨p, hp, rfl⟩ : ∃ p, pages[i]? = some p ∧ d = .tuple [nI p, eRow (own ds ds.length p)] := by
        cases e : pages[i]? with
        | none => rw [e] at hd; cases hd
        | some p => rw [e] at hd; exact ⟨p, rfl, (Option.some.inj hd).symm⟩
      obtain ⟨c, ys, rfl, hc, hy⟩ := hDd.tup'
      obtain ⟨y1, y2, rfl, hy1, hy2⟩ := hy.two
      obtain rfl := hy1.int'
      obtain ⟨hpl, lo, hi, hlot⟩ := O.som p (List.mem_of_getElem? hp)
      have hrng := G.rng p lo hi hlot
      have A1 := A.step S1
      rcases A1.get (p := p) hpl with ⟨g1, g2⟩ | ⟨a, lo', hi', g1, g2, g3, g4, g5, g6⟩
      · rw [hlot] at g2; cases g2
      rw [hlot] at g3
      have z := Option.some.inj (Option.some.inj g3)
      obtain rfl : lo = lo' := congrArg Prod.fst z
      obtain rfl : hi = hi' := congrArg Prod.snd z
      refine ⟨c, _, rfl, SqT.of (S1.hereF hc), rfl, _, _, rfl, _, _, rfl, rfl, ?_⟩
      refine ⟨_, rfl, _, rfl, _, rfl, L, _, (p : Int), _, rfl, rfl, SqL.of A1.top, atI_nat g1, ?_⟩
      refine ⟨F1, y2, a, lo, hi, p, ds, rfl, S1.fh, hy2.mono S1.ff, g5, g4, hrng.1, hrng.2.1, hrng.2.2, fun F2 H2 u S2 hu => ?_⟩
      obtain ⟨e, rfl, he⟩ := hu.row
      have S12 := S1.trans S2
      refine ⟨e, rfl, ⟨_, SqL.of (S2.fh _ _ he)⟩, for_list (K := K) (a := e) (xs := (edges ds p lo hi).map V.int) (fun j σ H' => ∃ F3, Pu F2 H2 F3 H' ∧ ∃ (fv : V) (x7 x8 : Option V), σ = [some v, some (.ref l), some tv, some (.ref L), some fv, some (.int (p : Int)), some y2, x7, x8] ∧
          FoundP F3 fv ds ls ((∀ (k p : Nat), k < i → pages[k]? = some p → ∀ z ∈ edgesOf ds ls p, NoC ds ls z) ∧ ∀ (k : Nat) z, k < j → (edges ds p lo hi)[k]? = some z → NoC ds ls z))
        ⟨F2, .refl S2.fh, fv, x7, x8, rfl, hf.mono S2.ff fun h => ⟨h, fun k z h => absurd h (Nat.not_lt_zero _)⟩⟩ (fun i σ H' _ ⟨F1, S, _⟩ => SqL.of (S.hereF he)) ?_ ?_⟩
      · rintro j x σ H3 hxj ⟨F3, S3, fv, x7, x8, rfl, hf⟩
        obtain ⟨z, hz, rfl⟩ : ∃ z, (edges ds p lo hi)[j]? = some z ∧ x = .int z := by
          rw [List.getElem?_map] at hxj
          cases e : (edges ds p lo hi)[j]? with
          | none => rw [e] at hxj; cases hxj
          | some z => rw [e] at hxj; exact ⟨z, rfl, (Option.some.inj hxj).symm⟩
        obtain ⟨t, rs, ht, hdt, rfl⟩ := edges_mem hrng.1 hrng.2.1 hrng.2.2 (List.mem_of_getElem? hz)
        have S123 := S12.trans S3
        have next : (∀ up, ¬ Can ds ls t up) → (∀ (k : Nat) z, k < j → (edges ds p lo hi)[k]? = some z → NoC ds ls z) → ∀ (k : Nat) z, k < j + 1 → (edges ds p lo hi)[k]? = some z → NoC ds ls z := by
          intro h0 h k z hk e
          by_cases c : k = j
          · subst c
            rw [hz] at e
            obtain rfl := Option.some.inj e
            intro t' e'
            obtain rfl : t = t' := by omega
            exact h0
          · exact h k z (by omega) e
        have call : ∀ (Q' : VK), (∀ F4 H4 u, Pu F3 H3 F4 H4 → GrP F4 u ds ls t → Q' u H4) → sp_growth_of [v, tv, .ref L, .int ((t : Int) + 1)] H3 Q' E0 := fun Q' hq =>
          ⟨F3, v, tv, L, as, ls, t, P, ds, rfl, S3.fh, hD.mono S123.ff, W, hT.mono S123.ff, A.step S123, hls, ht, hq⟩
        rcases hf with ⟨rfl, hdone⟩ | ⟨t2, up2, hcan2, hg2⟩
        · refine ⟨_, rfl, rfl, _, rfl, iteD rfl (iteT ?_)⟩
          refine ⟨_, rfl, _, rfl, _, rfl, _, rfl, call _ fun F4 H4 u S4 hu => ?_⟩
          rcases hu with ⟨rfl, hno⟩ | ⟨up, hcan, hg⟩
          · refine ⟨_, rfl, rfl, _, rfl, iteNS rfl ?_⟩
            exact ⟨F4, S3.trans S4, .non, _, _, rfl, .inl ⟨rfl, hdone.1, next hno hdone.2⟩⟩
          · obtain ⟨g, ws, rfl, _⟩ := id hg.tup'
            refine ⟨_, rfl, rfl, _, rfl, iteNN (fun z => nomatch z) ?_⟩
            exact ⟨_, rfl, F4, S3.trans S4, _, _, _, rfl, .inr ⟨t, up, hcan, hg⟩⟩
        · obtain ⟨g, ws, rfl, hga, hgw⟩ := id hg2.tup'
          obtain ⟨w1, w2, rfl, hw1, hw2⟩ := hgw.two
          obtain rfl := hw1.int'
          refine ⟨_, rfl, rfl, _, rfl, iteDn (fun z => nomatch z) ?_⟩
          refine ⟨_, rfl, _, rfl, g, _, 0, _, rfl, rfl, SqT.of (S3.fh _ _ hga), rfl, (t : Int) + 1, (t2 : Int) + 1, rfl, rfl, _, rfl, ?_⟩
          refine ite2 (fun _ => ?_) (fun _ => ?_)
          · refine ⟨_, rfl, _, rfl, _, rfl, _, rfl, call _ fun F4 H4 u S4 hu => ?_⟩
            rcases hu with ⟨rfl, hno⟩ | ⟨up, hcan, hg⟩
            · refine ⟨_, rfl, rfl, _, rfl, iteNS rfl ?_⟩
              exact ⟨F4, S3.trans S4, _, _, _, rfl, .inr ⟨t2, up2, hcan2, hg2.mono S4.ff⟩⟩
            · obtain ⟨g', ws, rfl, _⟩ := id hg.tup'
              refine ⟨_, rfl, rfl, _, rfl, iteNN (fun z => nomatch z) ?_⟩
              exact ⟨_, rfl, F4, S3.trans S4, _, _, _, rfl, .inr ⟨t, up, hcan, hg⟩⟩
          · refine ⟨_, rfl, rfl, _, rfl, iteNS rfl ?_⟩
            exact ⟨F3, S3, _, _, _, rfl, .inr ⟨t2, up2, hcan2, hg2⟩⟩
      · rintro σ H3 ⟨F3, S3, fv, x7, x8, rfl, hf⟩
        refine ⟨F3, S12.trans S3, fv, _, _, x7, x8, rfl, hf.mono (Same.refl _) fun ⟨h1, h2⟩ k p' hk e => ?_⟩
        by_cases c : k = i
        · subst c
          rw [hp] at e
          obtain rfl := Option.some.inj e
          intro z hz
          rw [edgesOf_some hlot] at hz
          obtain ⟨k, hk, ek⟩ := List.mem_iff_getElem.mp hz
          exact h2 k z (by rw [List.length_map]; exact hk) (by rw [List.getElem?_eq_getElem hk, ek])
        · exact h1 k p' (by omega) e
    · rintro σ H1 ⟨F1, S1, fv, x5, x6, x7, x8, rfl, hf⟩
      refine ⟨_, rfl, q F1 H1 fv S1 (hf.mono (Same.refl _) fun h => closed_of W O fun p hp => ?_)⟩
      obtain ⟨k, hk, ek⟩ := List.mem_iff_getElem.mp hp
      exact h k p (by rw [hxl]; exact hk) (by rw [List.getElem?_eq_getElem hk, ek])
def sp_grow : Sp := fun vs H Q _ => ∃ (F : Hp) (v gv : V) (L : Addr) (as : List (Option Addr)) (ls : Lots) (t : Nat) (up : Bool) (P : Nat) (ds : List Dd) (p : Nat) (rs : List Nat) (a : Addr) (lo hi : Int), vs = [v, .ref L, gv] ∧ Same F H ∧ D F v (eLog P ds) ∧ WF P ds ∧
  LotsAt F H L as ls ∧ D F gv (eGr t up) ∧ ds[t]? = some (p, rs) ∧ as[p]? = some (some a) ∧ ls[p]? = some (some (lo, hi)) ∧ Q .non (upd H a (.lst [.int (if up = true then lo else lo - 1), .int (if up = true then hi + 1 else hi)]))
theorem ok_grow {f : Addr} {fd : FuncData} (F : Fun K "grow" "grow" s_grow f fd) :
    FnOk P w K mg base CX0 1 f fd ["log", "lots", "growth"] sp_grow := by
  refine F.ok sc_grow (fun vs H Q E h => ?_) (fun cdv A outer s H vs Q E hr h => ?_)
  · obtain ⟨F, v, gv, L, as, ls, t, up, P, ds, p, rs, a, lo, hi, rfl, _⟩ := h
    rfl
  · obtain ⟨F, v, gv, L, as, ls, t, up, P, ds, p, rs, a, lo, hi, rfl, fh, hD, W, A, hG, hd, hpa, hlot, q⟩ := h
    obtain ⟨c, b, xs, rfl, hc, hb, hx⟩ := hD.log
    obtain ⟨g, ws, rfl, hg, hgw⟩ := hG.tup'
    obtain ⟨w1, w2, rfl, hw1, hw2⟩ := hgw.two
    obtain rfl := hw1.int'
    obtain rfl := hw2.int'
    obtain ⟨dv, hdv, hDd⟩ := deeds_at hx hd
    obtain ⟨e, e2, rfl, he, he2⟩ := hDd.deed
    obtain ⟨h1, h2, lo', hi', h3, h4⟩ := A.som p a hpa
    rw [hlot] at h3
    have z := Option.some.inj (Option.some.inj h3)
    obtain rfl : lo = lo' := congrArg Prod.fst z
    obtain rfl : hi = hi' := congrArg Prod.snd z
    refine ⟨_, pss_cons (ps_asg (pv 2) (pg_tup rfl (pgs_cons (pg_name (i := 3) sc_grow.nd rfl (.inl rfl)) (pgs_cons (pg_name (i := 4) sc_grow.nd rfl (.inl rfl)) pgs_nil))))
      (pss_cons (ps_set (i := 5) sc_grow.nd rfl (.inl rfl) (pe_ix ix_list (pv 1) (pe_ix ix_tup (pe_ix ix_tup (pe_ix ix_tup (pv 0) pe_int (fun _ _ => rfl)) (pe_op op_sub (pv 3) pe_int) (fun _ _ => rfl)) pe_int (fun _ _ => rfl)) (fun _ _ => rfl)))
      (pss_one (ps_if (pt_cmpR op_eq (pv 4) pe_int (nomark _)) (pss_one (ps_augS (pv 5) pe_int get_list pe_int ip_add set_list)) (pss_one (ps_augS (pv 5) pe_int get_list pe_int ip_sub set_list))))), ?_⟩
    refine ⟨_, rfl, g, _, rfl, SqT.of (fh _ _ hg), rfl, _, _, rfl, _, _, rfl, rfl, ?_⟩
    refine ⟨_, rfl, _, rfl, c, _, 1, _, rfl, rfl, SqT.of (fh _ _ hc), rfl, _, rfl, _, _, rfl, rfl, b, xs, (t : Int) + 1 - 1, _, rfl, rfl, SqT.of (fh _ _ hb), at_of (j := t) (by omega) hdv, e, _, 0, _, rfl, rfl, SqT.of (fh _ _ he), rfl,
      L, _, (p : Int), _, rfl, rfl, SqL.of A.top, atI_nat (j := p) (by rw [List.getElem?_map, hpa] <;> rfl), ?_⟩
    cases up with
    | true =>
      refine ⟨_, rfl, rfl, _, rfl, iteD rfl ?_⟩
      exact ⟨_, rfl, a, _, 1, _, rfl, rfl, SqL.of h4, rfl, hi, 1, rfl, rfl, a, _, 1, 1, rfl, rfl, h4, rfl, q⟩
    | false =>
      refine ⟨_, rfl, rfl, _, rfl, iteDn (by decide) ?_⟩
      exact ⟨_, rfl, a, _, 0, _, rfl, rfl, SqL.of h4, rfl, lo, 1, rfl, rfl, a, _, 0, 0, rfl, rfl, h4, rfl, q⟩
end
end K24

end
section
set_option Elab.async false
set_option linter.all false
set_option maxRecDepth 100000
set_option maxHeartbeats 4000000
/-! Equality of the data that the program compares; the measure of the growths. -/
namespace K24
open PySem PySem.Spec PyProof.Rows L2
/-! ### shapes -/
theorem lay_ints : ∀ ns : List Int, PyData.canLayAll0 (ns.map .int) = true
  | [] => by simp [PyData.canLayAll0]
  | n :: ns => by simp [PyData.canLayAll0, PyData.canLay0, lay_ints ns]
theorem depth_ints : ∀ ns : List Int, PyData.depthAll (ns.map .int) = 0
  | [] => by simp [PyData.depthAll]
  | n :: ns => by simp [PyData.depthAll, PyData.depth, depth_ints ns]
theorem lay_opts : ∀ im : Im, PyData.canLayAll0 (im.map eO) = true
  | [] => by simp [PyData.canLayAll0]
  | none :: ns => by simp [PyData.canLayAll0, PyData.canLay0, lay_opts ns, eO]
  | some n :: ns => by simp [PyData.canLayAll0, PyData.canLay0, lay_opts ns, eO]
theorem depth_opts : ∀ im : Im, PyData.depthAll (im.map eO) = 0
  | [] => by simp [PyData.depthAll]
  | none :: ns => by simp [PyData.depthAll, PyData.depth, depth_opts ns, eO]
  | some n :: ns => by simp [PyData.depthAll, PyData.depth, depth_opts ns, eO]
theorem shaped_of {d : PyData} (h1 : d.canLay0 = true) (h2 : d.depth ≤ 64) : SeqAt.shaped d = true := by
  show (d.canLay0 && decide (d.depth ≤ 64)) = true
  rw [Bool.and_eq_true]
  exact ⟨h1, decide_eq_true h2⟩
theorem shaped_row (ns : List Int) : SeqAt.shaped (eRow ns) = true := shaped_of (by simp only [PyData.canLay0]; exact lay_ints ns) (by simp only [PyData.depth, depth_ints]; omega)
theorem shaped_img (im : Im) : SeqAt.shaped (eImg im) = true := shaped_of (by simp only [PyData.canLay0]; exact lay_opts im) (by simp only [PyData.depth, depth_opts]; omega)
theorem shaped_nilT : SeqAt.shaped (.tuple []) = true := shaped_img []
theorem lay_imgs : ∀ ims : List Im, PyData.canLayAll0 (ims.map eImg) = true
  | [] => by simp [PyData.canLayAll0]
  | n :: ns => by
    have h : (eImg n).canLay0 = true := by simp only [PyData.canLay0]; exact lay_opts n
    simp [PyData.canLayAll0, h, lay_imgs ns]
theorem depth_imgs : ∀ ims : List Im, PyData.depthAll (ims.map eImg) ≤ 1
  | [] => by simp [PyData.depthAll]
  | n :: ns => by
    have h : (eImg n).depth = 1 := by simp only [PyData.depth, depth_opts]
    have := depth_imgs ns
    simp only [List.map_cons, PyData.depthAll]
    omega
theorem shaped_imgs (ims : List Im) : SeqAt.shaped (.list (ims.map eImg)) = true := shaped_of (by simp only [PyData.canLay0]; exact lay_imgs ims) (by
  have := depth_imgs ims
  simp only [PyData.depth]
  omega)
theorem lay_lotsT : ∀ ls : Lots, PyData.canLayAll0 (ls.map eLotT) = true
  | [] => by simp [PyData.canLayAll0]
  | none :: ns => by simp [PyData.canLayAll0, PyData.canLay0, lay_lotsT ns, eLotT]
  | some n :: ns => by simp [PyData.canLayAll0, PyData.canLay0, lay_lotsT ns, eLotT]
theorem depth_lotsT : ∀ ls : Lots, PyData.depthAll (ls.map eLotT) ≤ 1
  | [] => by simp [PyData.depthAll]
  | none :: ns => by
    have := depth_lotsT ns
    simp only [List.map_cons, PyData.depthAll, PyData.depth, eLotT]
    omega
  | some n :: ns => by
    have := depth_lotsT ns
    simp only [List.map_cons, PyData.depthAll, PyData.depth, eLotT]
    omega
theorem shaped_lotsT (ls : Lots) : SeqAt.shaped (.tuple (ls.map eLotT)) = true := shaped_of (by simp only [PyData.canLay0]; exact lay_lotsT ls) (by
  have := depth_lotsT ls
  simp only [PyData.depth]
  omega)
/-! ### equality -/
theorem eqv_opt (a b : Option Int) : PyData.eqv (eO a) (eO b) = decide (a = b) := by
  cases a with
  | none => cases b with
    | none => rfl
    | some y => rfl
  | some x => cases b with
    | none => rfl
    | some y =>
      show (x == y) = _
      by_cases e : x = y
      · subst e; simp
      · have : ¬ (some x = some y) := fun z => e (Option.some.inj z)
        rw [decide_eq_false this]
        exact beq_eq_false_iff_ne.mpr e
theorem eqv_opts : ∀ a b : Im, PyData.eqvAll (a.map eO) (b.map eO) = decide (a = b)
  | [], [] => by simp [PyData.eqvAll]
  | [], _ :: _ => by simp [PyData.eqvAll]
  | _ :: _, [] => by simp [PyData.eqvAll]
  | x :: a, y :: b => by
    rw [List.map_cons, List.map_cons, PyData.eqvAll, eqv_opt, eqv_opts a b]
    by_cases e : x = y
    · subst e; simp
    · simp [e]
theorem eqv_img (a b : Im) : PyData.eqv (eImg a) (eImg b) = decide (a = b) := by
  rw [eImg, eImg, PyData.eqv]
  exact eqv_opts a b
theorem eqv_lotT (a b : Option (Int × Int)) : PyData.eqv (eLotT a) (eLotT b) = decide (a = b) := by
  cases a with
  | none => cases b with
    | none => rfl
    | some y => rfl
  | some x => cases b with
    | none => rfl
    | some y =>
      obtain ⟨x1, x2⟩ := x
      obtain ⟨y1, y2⟩ := y
      have e : PyData.eqv (eLotT (some (x1, x2))) (eLotT (some (y1, y2))) = ((x1 == y1) && ((x2 == y2) && true)) := by simp only [eLotT, PyData.eqv, PyData.eqvAll]
      rw [e]
      by_cases e1 : x1 = y1
      · by_cases e2 : x2 = y2
        · subst e1 e2; simp
        · have : ¬ (some (x1, x2) = some (y1, y2)) := fun z => e2 (congrArg Prod.snd (Option.some.inj z))
          rw [decide_eq_false this, beq_eq_false_iff_ne.mpr e2]
          simp
      · have : ¬ (some (x1, x2) = some (y1, y2)) := fun z => e1 (congrArg Prod.fst (Option.some.inj z))
        rw [decide_eq_false this, beq_eq_false_iff_ne.mpr e1]
        simp
theorem eqv_lotsT : ∀ a b : Lots, PyData.eqvAll (a.map eLotT) (b.map eLotT) = decide (a = b)
  | [], [] => by simp [PyData.eqvAll]
  | [], _ :: _ => by simp [PyData.eqvAll]
  | _ :: _, [] => by simp [PyData.eqvAll]
  | x :: a, y :: b => by
    rw [List.map_cons, List.map_cons, PyData.eqvAll, eqv_lotT, eqv_lotsT a b]
    by_cases e : x = y
    · subst e; simp
    · simp [e]
theorem eqv_known (a b : Lots) : PyData.eqv (.tuple (a.map eLotT)) (.tuple (b.map eLotT)) = decide (a = b) := by
  rw [PyData.eqv]
  exact eqv_lotsT a b
theorem eqv_row_nil (ns : List Int) : PyData.eqv (eRow ns) (.list []) = ns.isEmpty := by
  cases ns with
  | nil => rfl
  | cons x r => rfl
theorem DA.of_at {F : Hp} : ∀ {xs : List V} {ds : List PyData}, xs.length = ds.length → (∀ (i : Nat) x d, xs[i]? = some x → ds[i]? = some d → D F x d) → DA F xs ds
  | [], [], _, _ => .nil
  | [], _ :: _, h, _ => by simp at h
  | _ :: _, [], h, _ => by simp at h
  | x :: xs, d :: ds, h, g => .cons (g 0 x d rfl rfl) (DA.of_at (by simpa using h) fun i x d e1 e2 => g (i + 1) x d (by simpa using e1) (by simpa using e2))
/-! ### the measure -/
def crossed (ds : List Dd) (ls : Lots) (t : Nat) : Bool := match ds[t]? with
  | none => false
  | some d => match ls[d.1]? with
    | some (some x) => decide (x.1 < (ver ds (t + 1) d.1 : Int) ∧ (ver ds (t + 1) d.1 : Int) ≤ x.2)
    | _ => false
theorem crossed_of {ds : List Dd} {ls : Lots} {t p : Nat} {rs : List Nat} {lo hi : Int} (hd : ds[t]? = some (p, rs)) (hl : ls[p]? = some (some (lo, hi))) :
    crossed ds ls t = decide (lo < (ver ds (t + 1) p : Int) ∧ (ver ds (t + 1) p : Int) ≤ hi) := by
  unfold crossed
  rw [hd]
  simp only [hl]
def mu (ds : List Dd) (ls : Lots) : Nat := ((List.range ds.length).filter fun t => !crossed ds ls t).length
theorem mu_le (ds : List Dd) (ls : Lots) : mu ds ls ≤ ds.length := Nat.le_trans (List.length_filter_le _ _) (by simp)
theorem filter_lt {α : Type} {p q : α → Bool} : ∀ {l : List α}, (∀ x ∈ l, q x = true → p x = true) → (∃ x ∈ l, p x = true ∧ q x = false) → (l.filter q).length < (l.filter p).length
  | [], _, ⟨x, m, _⟩ => by cases m
  | a :: l, h, ⟨x, m, h1, h2⟩ => by
    have le : (l.filter q).length ≤ (l.filter p).length := by
      have : ∀ l : List α, (∀ x ∈ l, q x = true → p x = true) → (l.filter q).length ≤ (l.filter p).length := by
        intro l
        induction l with
        | nil => intro _; exact Nat.le_refl _
        | cons b l ih =>
          intro h
          have ih := ih fun x m => h x (List.mem_cons_of_mem _ m)
          by_cases c : q b = true
          · have c2 := h b List.mem_cons_self c
            rw [List.filter_cons_of_pos c, List.filter_cons_of_pos c2]
            exact Nat.succ_le_succ ih
          · rw [List.filter_cons_of_neg c]
            by_cases c2 : p b = true
            · rw [List.filter_cons_of_pos c2]
              exact Nat.le_succ_of_le ih
            · rw [List.filter_cons_of_neg c2]
              exact ih
      exact this l fun x m => h x (List.mem_cons_of_mem _ m)
    rcases List.mem_cons.mp m with rfl | m
    · rw [List.filter_cons_of_pos h1, List.filter_cons_of_neg (by rw [h2]; exact Bool.false_ne_true)]
      exact Nat.lt_succ_of_le le
    · have ih := filter_lt (l := l) (fun x m => h x (List.mem_cons_of_mem _ m)) ⟨x, m, h1, h2⟩
      by_cases c : q a = true
      · rw [List.filter_cons_of_pos c, List.filter_cons_of_pos (h a List.mem_cons_self c)]
        exact Nat.succ_lt_succ ih
      · rw [List.filter_cons_of_neg c]
        by_cases c2 : p a = true
        · rw [List.filter_cons_of_pos c2]
          exact Nat.lt_succ_of_lt ih
        · rw [List.filter_cons_of_neg c2]
          exact ih
/-- a growth makes the measure less -/
theorem mu_lt {ds : List Dd} {ls : Lots} {t p : Nat} {rs : List Nat} {lo hi : Int} {up : Bool} (hd : ds[t]? = some (p, rs)) (hl : ls[p]? = some (some (lo, hi))) (hle : lo ≤ hi)
    (hc : if up = true then hi = (ver ds (t + 1) p : Int) - 1 else lo = (ver ds (t + 1) p : Int)) : mu ds (ls.set p (some (if up = true then lo else lo - 1, if up = true then hi + 1 else hi))) < mu ds ls := by
  have hpl := (List.getElem?_eq_some_iff.mp hl).1
  have ht := (List.getElem?_eq_some_iff.mp hd).1
  have hl' : (ls.set p (some (if up = true then lo else lo - 1, if up = true then hi + 1 else hi)))[p]? = some (some (if up = true then lo else lo - 1, if up = true then hi + 1 else hi)) := List.getElem?_set_self hpl
  refine filter_lt (fun x m h => ?_) ⟨t, List.mem_range.mpr ht, ?_, ?_⟩
  · have hx := List.mem_range.mp m
    obtain ⟨⟨q, rs'⟩, hd'⟩ : ∃ d, ds[x]? = some d := ⟨_, List.getElem?_eq_getElem hx⟩
    by_cases c : q = p
    · subst c
      rw [crossed_of hd' hl'] at h
      rw [crossed_of hd' hl]
      simp only [Bool.not_eq_true', decide_eq_false_iff_not] at h ⊢
      cases up <;> simp at h ⊢ <;> omega
    · have e : crossed ds (ls.set p (some (if up = true then lo else lo - 1, if up = true then hi + 1 else hi))) x = crossed ds ls x := by
        unfold crossed
        rw [hd']
        show (match (ls.set p _)[q]? with | some (some x_1) => _ | _ => false) = _
        rw [List.getElem?_set_ne (Ne.symm c)]
      rw [e] at h
      exact h
  · rw [crossed_of hd hl]
    simp only [Bool.not_eq_true', decide_eq_false_iff_not]
    cases up <;> simp at hc ⊢ <;> omega
  · rw [crossed_of hd hl']
    simp only [Bool.not_eq_false', decide_eq_true_eq]
    cases up <;> simp at hc ⊢ <;> omega
/-- the led pages stay led -/
theorem LedOk.put {ds : List Dd} {ls : Lots} {pages : List Nat} {p : Nat} {lo hi : Int} {x : Int × Int} (O : LedOk ds ls pages) (hl : ls[p]? = some (some (lo, hi))) : LedOk ds (ls.set p (some x)) pages where
  som := fun q m => by
    obtain ⟨h1, a, b, h2⟩ := O.som q m
    refine ⟨by rw [List.length_set]; exact h1, ?_⟩
    by_cases c : p = q
    · subst c
      exact ⟨x.1, x.2, List.getElem?_set_self h1⟩
    · exact ⟨a, b, by rw [List.getElem?_set_ne c]; exact h2⟩
  all := fun q a b h1 h2 => by
    by_cases c : p = q
    · subst c
      exact O.all p lo hi hl h2
    · rw [List.getElem?_set_ne c] at h1
      exact O.all q a b h1 h2
def ledB (ds : List Dd) (ls : Lots) (p : Nat) : Bool := !(own ds ds.length p).isEmpty && (match ls[p]? with | some (some _) => true | _ => false)
def pgs (ds : List Dd) (ls : Lots) (i : Nat) : List Nat := (List.range i).filter (ledB ds ls)
theorem pgs_succ (ds : List Dd) (ls : Lots) (i : Nat) : pgs ds ls (i + 1) = pgs ds ls i ++ (if ledB ds ls i = true then [i] else []) := by
  unfold pgs
  rw [List.range_succ, List.filter_append]
  congr 1
  by_cases h : ledB ds ls i = true
  · rw [List.filter_cons_of_pos h, if_pos h]
    rfl
  · rw [List.filter_cons_of_neg h, if_neg h]
    rfl
theorem pgs_len (ds : List Dd) (ls : Lots) (i : Nat) : (pgs ds ls i).length ≤ i := Nat.le_trans (List.length_filter_le _ _) (by simp)
theorem pgs_ok (ds : List Dd) (ls : Lots) : LedOk ds ls (pgs ds ls ls.length) where
  som := fun p m => by
    unfold pgs at m
    obtain ⟨h1, h2⟩ := List.mem_filter.mp m
    refine ⟨List.mem_range.mp h1, ?_⟩
    unfold ledB at h2
    rw [Bool.and_eq_true] at h2
    have h2 := h2.2
    split at h2
    · rename_i x e
      exact ⟨x.1, x.2, e⟩
    · cases h2
  all := fun p lo hi h1 h2 => by
    unfold pgs
    refine List.mem_filter.mpr ⟨List.mem_range.mpr (List.getElem?_eq_some_iff.mp h1).1, ?_⟩
    unfold ledB
    rw [Bool.and_eq_true]
    refine ⟨?_, by rw [h1]⟩
    cases e : own ds ds.length p with
    | nil => exact absurd e h2
    | cons _ _ => rfl
end K24

end
section
set_option Elab.async false
set_option linter.all false
set_option maxRecDepth 100000
set_option maxHeartbeats 4000000
namespace K24
open PySem PySem.Spec PyProof.Rows L2
section
variable {P : Program} {w : World} {K : PySem.W.Frag} {mg : Str → Option Value} {base : Heap}
theorem own_numbers_at {F : Hp} {xs : List V} {P : Nat} {ds : List Dd} (h : DA F xs ((List.range P).map fun p => eRow (own ds ds.length p))) {p : Nat} {v : V} (e : xs[p]? = some v) : p < P ∧ D F v (eRow (own ds ds.length p)) := by
  obtain ⟨d, h1, h2⟩ := h.at' e
  have hp : p < P := by
    have := (List.getElem?_eq_some_iff.mp h1).1
    simpa using this
  rw [List.getElem?_map, List.getElem?_range hp] at h1
  obtain rfl := Option.some.inj h1
  exact ⟨hp, h2⟩
def sp_growths : Sp := fun vs H Q _ => ∃ (F : Hp) (v tv iv : V) (P : Nat) (ds : List Dd) (im : Im), vs = [v, tv, iv] ∧ Same F H ∧ D F v (eLog P ds) ∧ WF P ds ∧ D F tv (eTab P ds) ∧ D F iv (eImg im) ∧ InR P ds im ∧
  ∀ F' H' r f l ls, Pu F H F' H' → F' r = some (.tup [f, l]) → D F' l (.list (ls.map eLot)) → Good ds im ls → Closed ds ls → Q (.ref r) H'
theorem ok_growths {f : Addr} {fd : FuncData} (F : Fun K "growths" "growths" s_growths f fd) (T : Bi mg) (C1 : Cal P w K mg base "single_lots" 1 ["image"] sp_single_lots) (C2 : Cal P w K mg base "own_numbers" 1 ["log"] sp_own_numbers)
    (C3 : Cal P w K mg base "next_growth" 3 ["log", "led", "table", "lots"] sp_next_growth) (C4 : Cal P w K mg base "grow" 1 ["log", "lots", "growth"] sp_grow) :
    FnOk P w K mg base CX0 4 f fd ["log", "table", "image"] sp_growths := by
  obtain ⟨f1, fd1, G1, m1, k1, b1⟩ := C1
  obtain ⟨f2, fd2, G2, m2, k2, b2⟩ := C2
  obtain ⟨f3, fd3, G3, m3, k3, b3⟩ := C3
  obtain ⟨f4, fd4, G4, m4, k4, b4⟩ := C4
  refine F.ok sc_growths (fun vs H Q E h => ?_) (fun cdv A outer s H vs Q E hr h => ?_)
  · obtain ⟨F, v, tv, iv, P, ds, im, rfl, _⟩ := h
    rfl
  · obtain ⟨F, v, tv, iv, P, ds, im, rfl, fh, hD, W, hT, hI, hR, q⟩ := h
    have hP2 := W.few
    have hl := W.short
    have nd := sc_growths.nd
    refine ⟨_, pss_cons (ps_set (i := 3) nd rfl (.inr rfl) (pe_call G1 (hr.mono (by decide)) (by rfl) m1 k1 b1 .nil pass0 (pa_cons (pv 2) pa_nil)))
      (pss_cons (ps_setLc (i := 4) (own := [("page", 7), ("numbers", 8)]) (g := gTup K 2 (gCons (gName 7) (gCons (gName 8) gNil))) (tt := (tAnd (tTest (tOp (rNeD K) (tVar 8) (tLst tNil))) (tTest (tOp (fun x y H Q => y = .non ∧ Q (.bl (!decide (x = .non))) H) (tOp (rIxL K) (tVar 3) (tVar 7)) (tC .non))))) rfl nd rfl rfl (sw_true rfl rfl rfl (by decide +kernel))
          (pi_enum (by rfl) T.enum (pa_cons (pe_call G2 (hr.mono (by decide)) (by rfl) m2 k2 b2 .nil pass0 (pa_cons (pv 0) pa_nil)) pa_nil))
          (blkOk_by (N := n_growths) (sc := defScope s_growths) (by decide +kernel))
          (fun _ _ _ _ _ => pg_tup rfl (pgs_cons (pg_name (i := 7) nd rfl (.inl rfl)) (pgs_cons (pg_name (i := 8) nd rfl (.inl rfl)) pgs_nil)))
          (fun _ _ _ _ _ => pts_one (PW.pt (pw_and (pt_cmpR (neD (K := K) rfl hr.units) (pv 8) (pe_lst pa_nil) (nomark _)) (pw_and1 (pt_cmpR op_notN (pe_ix (ixL (K := K) rfl) (pv 3) (pv 7) (fun _ _ => rfl)) pe_non (nomark _))))))
          (fun _ _ _ _ _ => pe_tup (pa_cons (pv 7) (pa_cons (pv 8) pa_nil))))
      (pss_cons (ps_set (i := 5) nd rfl (.inl rfl) (pe_lst pa_nil))
      (pss_cons (ps_set (i := 6) nd rfl (.inl rfl) (pe_call G3 (hr.mono (by decide)) (by rfl) m3 k3 b3 .nil pass0 (pa_cons (pv 0) (pa_cons (pv 4) (pa_cons (pv 1) (pa_cons (pv 3) pa_nil))))))
      (pss_cons (ps_while PassesOwn.never (pt_cmpR op_notN (pv 6) pe_non (nomark _))
          (pss_cons (ps_expr (pe_call G4 (hr.mono (by decide)) (by rfl) m4 k4 b4 .nil pass0 (pa_cons (pv 0) (pa_cons (pv 3) (pa_cons (pv 6) pa_nil)))))
          (pss_cons (ps_expr (pe_bm PySem.F.plainAttrs_list PySem.F.slot_list_append PySem.F.type_list_append mt_append (pv 5) (pa_cons (pv 6) pa_nil)))
          (pss_one (ps_set (i := 6) nd rfl (.inl rfl) (pe_call G3 (hr.mono (by decide)) (by rfl) m3 k3 b3 .nil pass0 (pa_cons (pv 0) (pa_cons (pv 4) (pa_cons (pv 1) (pa_cons (pv 3) pa_nil))))))))))
      (pss_one (ps_ret (pe_tup (pa_cons (pv 5) (pa_cons (pv 3) pa_nil))))))))), ?_⟩
    refine ⟨_, rfl, F, iv, im, rfl, fh, hI, by rw [hR.len]; omega, fun H1 L as S1 nL has A1 => ?_⟩
    have hsl : (single im).length = P := by rw [← hR.len]; simp [single]
    refine ⟨_, rfl, F, v, P, ds, rfl, S1.fh, hD, W, fun F2 H2 u S2 hu => ?_⟩
    obtain ⟨ow, xs, rfl, how, hx⟩ := hu.list'
    have hxl : xs.length = P := by rw [hx.len]; simp
    have S12 := S1.trans S2
    have A2 := A1.step S2
    refine ⟨ow, xs, rfl, SqL.of (S2.fh _ _ how), fun Ld nLd => lc_it (walk_enum (xs := xs)) (fun i H' => ∃ F3, Pu F2 H2 F3 H' ∧ F3 Ld = none ∧ ∃ ys, H' Ld = some (.lst ys) ∧ DA F3 ys ((pgs ds (single im) i).map fun p => .tuple [nI p, eRow (own ds ds.length p)]))
      ⟨F2, (Step.refl S2.fh).newM nLd, none_of_same S2.fh nLd, [], upd_same, .nil⟩ (fun i H' _ ⟨F3, S, _⟩ => SqL.of (S.hereF how)) ?_ ?_⟩
    · rintro i x H3 H4 hi ⟨F3, S3, nfL, ys, eL, hy⟩ ⟨Tp, x1, x2, rfl, nT, rfl, hx1, hx2⟩
      obtain rfl := Option.some.inj hx1
      obtain ⟨hiP, hrow⟩ := own_numbers_at hx hx2
      obtain ⟨o, rfl, ho⟩ := id hrow.row
      have S4 : Pu F2 H2 F3 (upd H3 Tp (.tup [.int (i : Nat), .ref o])) := S3.newM nT
      have nTL : Ld ≠ Tp := ne_of_none eL nT
      refine ⟨Tp, _, rfl, SqT.of upd_same, rfl, _, _, rfl, _, _, rfl, rfl, rfl, ?_⟩
      refine ⟨_, rfl, Nat.zero_le _, fun z nz => ?_⟩
      have S5 := S4.newM (o := .lst []) nz
      have nzL : Ld ≠ z := fun e => by rw [← e, upd_ne nTL, eL] at nz; cases nz
      have eL5 : (upd (upd H3 Tp (.tup [.int (i : Nat), .ref o])) z (.lst [])) Ld = some (.lst ys) := by rw [upd_ne nzL, upd_ne nTL]; exact eL
      refine ⟨_, _, D.dp S5.sm _ _ hrow, .lst (SqL.of upd_same) .nil, shaped_row _, shaped_row [], _, rfl, ?_⟩
      rw [eqv_row_nil]
      have hlen : ys.length ≤ 100 := by
        rw [hy.len, List.length_map]
        exact Nat.le_trans (pgs_len ds (single im) i) (by omega)
      have S125 := S12.trans S5
      have A5 := A2.step S5
      have skip : ledB ds (single im) i = false → DA F3 ys ((pgs ds (single im) (i + 1)).map fun p => .tuple [nI p, eRow (own ds ds.length p)]) := fun e => by
        rw [pgs_succ, e, if_neg Bool.false_ne_true, List.append_nil]
        exact hy
      by_cases e1 : (own ds ds.length i).isEmpty = true
      · rw [e1]
        exact iteF (iteF ⟨F3, S5, nfL, ys, eL5, skip (by unfold ledB; rw [e1]; rfl)⟩)
      · have e1 : (own ds ds.length i).isEmpty = false := by simpa using e1
        rw [e1]
        refine iteT ?_
        rcases A5.get (p := i) (by omega) with ⟨g1, g2⟩ | ⟨a, lo, hi, g1, g2, g3, g4, g5, g6⟩
        · refine ⟨_, rfl, _, rfl, L, _, (i : Int), _, rfl, rfl, SqL.of A5.top, atI_nat g1, rfl, _, rfl, iteNS rfl ?_⟩
          exact ⟨F3, S5, nfL, ys, eL5, skip (by unfold ledB; rw [g2, e1]; rfl)⟩
        · refine ⟨_, rfl, _, rfl, L, _, (i : Int), _, rfl, rfl, SqL.of A5.top, atI_nat g1, rfl, _, rfl, iteNN (fun z => nomatch z) ?_⟩
          refine ⟨_, rfl, _, rfl, (by show 2 ≤ sizeLine; decide), fun c nc => ?_⟩
          have S6 := S5.newF (o := .tup [.int (i : Nat), .ref o]) nc
          have ncL : Ld ≠ c := ne_of_none eL5 nc
          refine ⟨ys, by rw [upd_ne ncL]; exact eL5, sizeN (by omega), _, S6.put (p := Ld) (.inl nLd) (by rw [upd_ne ncL]; exact nfL) (by rw [upd_ne ncL, eL5]; intro z; cases z), by rw [upd_ne ncL]; exact nfL, ys ++ [.ref c], upd_same, ?_⟩
          have eB : ledB ds (single im) i = true := by unfold ledB; rw [g3, e1]; rfl
          rw [pgs_succ, eB, if_pos rfl, List.map_append]
          have hs := same_fresh (F := F3) (o := .tup [.int (i : Nat), .ref o]) (S5.nofr nc)
          refine (hy.mono hs).snoc (.tup upd_same (.cons (.int _) (.cons (hrow.mono (S3.ff.trans hs)) .nil)))
    · rintro H3 ⟨F3, S3, nfL, ys, eL, hy⟩
      rw [hxl, ← hsl] at hy
      have S13 := S12.trans S3
      have L0 : H2 Ld = none := nLd
      have Ld0 : H Ld = none := S12.dom _ nLd
      -- led is frozen
      have S13f := S13.frz Ld0 nfL eL
      have hLed : D (upd F3 Ld (.lst ys)) (.ref Ld) (eLed ds (pgs ds (single im) (single im).length)) := .lst upd_same (hy.mono (same_fresh nfL))
      have A3 : LotsAt (upd F3 Ld (.lst ys)) H3 L as (single im) := by
        have A := A2.step S3
        have key : ∀ b, F3 b = none → H2 b ≠ none → (upd F3 Ld (.lst ys)) b = none := fun b h1 h2 => by
          have : b ≠ Ld := fun z => h2 (by rw [z]; exact nLd)
          rw [upd_ne this]
          exact h1
        exact ⟨A.top, key L A.topF (by rw [A2.top]; intro z; cases z), A.len, A.non, fun p a e => by
          obtain ⟨h1, h2, h3⟩ := A.som p a e
          obtain ⟨_, _, _, _, _, h4⟩ := A2.som p a e
          exact ⟨key a h1 (by rw [h4]; intro z; cases z), h2, h3⟩, A.inj⟩
      generalize hF4 : upd F3 Ld (.lst ys) = F4 at S13f hLed A3
      clear hF4 S13 hy nfL
      refine ⟨Nat.zero_le _, fun fn nfn => ?_⟩
      have S4 := S13f.newM (o := .lst []) nfn
      have fn0 : H fn = none := S13f.dom _ nfn
      have nfF : F4 fn = none := S13f.nofr nfn
      have A4 : LotsAt F4 (upd H3 fn (.lst [])) L as (single im) := A3.step ((Step.refl S13f.fh).newM nfn)
      have nfnL : fn ≠ L := fun z => by rw [z, A3.top] at nfn; cases nfn
      have nfna : ∀ (p : Nat) (a : Addr), as[p]? = some (some a) → a ≠ fn := fun p a e z => by
        obtain ⟨_, _, _, _, _, h4⟩ := A3.som p a e
        rw [z, nfn] at h4
        cases h4
      have call : ∀ (F5 H5 : Hp) (ls : Lots) (Q' : VK), Pu F H F5 H5 → Same F4 F5 → LotsAt F5 H5 L as ls → Good ds im ls → LedOk ds ls (pgs ds (single im) (single im).length) → (∀ F6 H6 u, Pu F5 H5 F6 H6 → FoundP F6 u ds ls (Closed ds ls) → Q' u H6) →
          sp_next_growth [v, .ref Ld, tv, .ref L] H5 Q' E0 := fun F5 H5 ls Q' S5 s45 A5 G5 O5 hq =>
        ⟨F5, v, .ref Ld, tv, L, as, ls, im, _, P, ds, rfl, S5.fh, hD.mono S5.ff, W, hT.mono S5.ff, A5, by rw [G5.len, hR.len], G5, hLed.mono s45, O5, hq⟩
      refine ⟨_, rfl, _, rfl, _, rfl, _, rfl, call F4 _ (single im) _ S4 (Same.refl _) A4 (good_start hR) (pgs_ok ds (single im)) fun F5 H5 u S5 hu => ?_⟩
      -- while growth is not None
      refine ⟨fun m σ H' => ∃ F6 ls xs gv, Pu F H F6 H' ∧ Same F4 F6 ∧ F6 fn = none ∧ σ = [some v, some tv, some iv, some (.ref L), some (.ref Ld), some (.ref fn), some gv, none, none] ∧ LotsAt F6 H' L as ls ∧ Good ds im ls ∧ LedOk ds ls (pgs ds (single im) (single im).length) ∧
          H' fn = some (.lst xs) ∧ xs.length + mu ds ls ≤ 400 ∧ m = mu ds ls ∧ FoundP F6 gv ds ls (Closed ds ls),
        ⟨mu ds (single im), F5, single im, [], u, S4.trans S5, S5.ff, S5.nw _ nfF (by rw [upd_same]; intro z; cases z), rfl, A4.step S5, good_start hR, pgs_ok ds (single im), S5.same _ _ upd_same, by have := mu_le ds (single im); simp; omega, rfl, hu⟩, ?_⟩
      rintro m σ H6 ⟨F6, ls, xs, gv, S6, s46, nf6, rfl, A6, G6, O6, eF, hm, rfl, hf⟩
      rcases hf with ⟨rfl, hcl⟩ | ⟨t, up, hcan, hg⟩
      · refine ⟨_, rfl, rfl, _, rfl, iteNS rfl ?_⟩
        refine ⟨_, rfl, _, rfl, (by show 2 ≤ sizeLine; decide), fun r nr => ?_⟩
        have S7 := S6.newM (o := .tup [.ref fn, .ref L]) nr
        have nrL : L ≠ r := ne_of_none A6.top nr
        refine q _ _ r (.ref fn) (.ref L) ls S7.all (froz_new (S6.dom _ nr) upd_same) (.lst (froz_new nL (by rw [upd_ne nrL]; exact A6.top)) ?_) G6 hcl
        refine DA.of_at (by rw [List.length_map, List.length_map, A6.len]) fun p x d hx hd => ?_
        rw [List.getElem?_map] at hd
        have hpl : p < ls.length := by
          cases e : ls[p]? with
          | none => rw [e] at hd; cases hd
          | some _ => exact (List.getElem?_eq_some_iff.mp e).1
        rcases A6.get hpl with ⟨g1, g2⟩ | ⟨a, lo, hi, g1, g2, g3, g4, g5, g6⟩
        · rw [g1] at hx
          rw [g2] at hd
          obtain rfl := Option.some.inj hx
          obtain rfl := Option.some.inj hd
          exact .non
        · rw [g1] at hx
          rw [g3] at hd
          obtain rfl := Option.some.inj hx
          obtain rfl := Option.some.inj hd
          have nra : a ≠ r := ne_of_none g4 nr
          exact .lst (froz_new (has p a g2) (by rw [upd_ne nra]; exact g4)) (.cons (.int _) (.cons (.int _) .nil))
      · obtain ⟨g, ws, rfl, hga, hgw⟩ := id hg.tup'
        refine ⟨_, rfl, rfl, _, rfl, iteNN (fun z => nomatch z) ?_⟩
        obtain ⟨p, rs, lo, hi, hd, hlot, hRd, hc⟩ := id hcan
        have hrng := G6.rng p lo hi hlot
        have hpl := (List.getElem?_eq_some_iff.mp hlot).1
        rcases A6.get hpl with ⟨g1, g2⟩ | ⟨a, lo', hi', g1, g2, g3, g4, g5, g6⟩
        · rw [hlot] at g2; cases g2
        rw [hlot] at g3
        have z := Option.some.inj (Option.some.inj g3)
        obtain rfl : lo = lo' := congrArg Prod.fst z
        obtain rfl : hi = hi' := congrArg Prod.snd z
        have hlt := mu_lt hd hlot hrng.2.1 hc
        have eqp : (some (if up = true then (lo, hi + 1) else (lo - 1, hi)) : Option (Int × Int)) = some (if up = true then lo else lo - 1, if up = true then hi + 1 else hi) := by cases up <;> rfl
        have G7 := good_grow W G6 hd hlot hRd hc
        rw [eqp] at G7
        have O7 := O6.put (x := (if up = true then lo else lo - 1, if up = true then hi + 1 else hi)) hlot
        have A7 := A6.put (lo := if up = true then lo else lo - 1) (hi := if up = true then hi + 1 else hi) g2
        have S7 := S6.put (p := a) (o := .lst [.int (if up = true then lo else lo - 1), .int (if up = true then hi + 1 else hi)]) (.inl (has p a g2)) g5 (by rw [g4]; intro z; cases z)
        have nafn : fn ≠ a := (nfna p a g2).symm
        refine ⟨fun σ' H' => ∃ m', m' < mu ds ls ∧ ∃ F6 ls xs gv, Pu F H F6 H' ∧ Same F4 F6 ∧ F6 fn = none ∧ σ' = [some v, some tv, some iv, some (.ref L), some (.ref Ld), some (.ref fn), some gv, none, none] ∧ LotsAt F6 H' L as ls ∧ Good ds im ls ∧ LedOk ds ls (pgs ds (single im) (single im).length) ∧
          H' fn = some (.lst xs) ∧ xs.length + mu ds ls ≤ 400 ∧ m' = mu ds ls ∧ FoundP F6 gv ds ls (Closed ds ls), fun σ' H' h => h, ?_⟩
        refine ⟨_, rfl, _, rfl, _, rfl, F6, v, .ref g, L, as, ls, t, up, P, ds, p, rs, a, lo, hi, rfl, S6.fh, hD.mono S6.ff, W, A6, hg, hd, g2, hlot, ?_⟩
        have eF7 : (upd H6 a (.lst [.int (if up = true then lo else lo - 1), .int (if up = true then hi + 1 else hi)])) fn = some (.lst xs) := by rw [upd_ne nafn]; exact eF
        refine ⟨_, rfl, .inl ⟨rfl, _, SqL.of eF7⟩, _, rfl, fn, _, _, rfl, rfl, eF7, sizeN (by omega), ?_⟩
        have S8 := S7.put (p := fn) (o := .lst (xs ++ [.ref g])) (.inl fn0) nf6 (by rw [eF7]; intro z; cases z)
        have A8 := A7.oth (c := fn) (o := .lst (xs ++ [.ref g])) nfnL nfna
        refine ⟨_, rfl, _, rfl, _, rfl, _, rfl, call F6 _ _ _ S8 s46 A8 G7 O7 fun F9 H9 u9 S9 hu9 => ?_⟩
        refine ⟨_, hlt, F9, _, xs ++ [.ref g], u9, S8.trans S9, s46.trans S9.ff, S9.nw _ nf6 (by rw [upd_same]; intro z; cases z), rfl, A8.step S9, G7, O7, S9.same _ _ upd_same, ?_, rfl, hu9⟩
        rw [List.length_append]
        simp
        omega
end
end K24

end
section
set_option Elab.async false
set_option linter.all false
set_option maxRecDepth 100000
set_option maxHeartbeats 4000000
namespace K24
open PySem PySem.Spec PyProof.Rows L2
section
variable {P : Program} {w : World} {K : PySem.W.Frag} {mg : Str → Option Value} {base : Heap}
theorem lot_at {F : Hp} {xs : List V} {ls : Lots} (h : DA F xs (ls.map eLot)) {i : Nat} {v : V} (e : xs[i]? = some v) : (v = .non ∧ ls[i]? = some none) ∨ ∃ a lo hi, v = .ref a ∧ F a = some (.lst [.int lo, .int hi]) ∧ ls[i]? = some (some (lo, hi)) := by
  obtain ⟨d, h1, h2⟩ := h.at' e
  rw [List.getElem?_map] at h1
  cases hl : ls[i]? with
  | none => rw [hl] at h1; cases h1
  | some l =>
    rw [hl] at h1
    obtain rfl := Option.some.inj h1
    cases l with
    | none => exact .inl ⟨h2.none', rfl⟩
    | some x =>
      obtain ⟨lo, hi⟩ := x
      obtain ⟨a, ys, rfl, h3, h4⟩ := D.list' h2
      obtain ⟨y1, y2, rfl, h5, h6⟩ := h4.two
      obtain rfl := h5.int'
      obtain rfl := h6.int'
      exact .inr ⟨a, lo, hi, rfl, h3, rfl⟩
def sp_told_lots : Sp := fun vs H Q _ => ∃ (F : Hp) (v : V) (ls : Lots), vs = [v] ∧ Same F H ∧ D F v (.list (ls.map eLot)) ∧ ls.length ≤ 100 ∧ Ret F H Q fun F' u => D F' u (.tuple (ls.map eLotT))
theorem ok_told_lots {f : Addr} {fd : FuncData} (F : Fun K "told_lots" "told_lots" s_told_lots f fd) (T : Bi mg) :
    FnOk P w K mg base CX0 1 f fd ["lots"] sp_told_lots := by
  refine F.ok sc_told_lots (fun vs H Q E h => ?_) (fun cdv A outer s H vs Q E hr h => ?_)
  · obtain ⟨F, v, ls, rfl, _⟩ := h
    rfl
  · obtain ⟨F, v, ls, rfl, fh, hL, hlen, q⟩ := h
    obtain ⟨a, xs, rfl, ha, hx⟩ := hL.list'
    have hxl : xs.length = ls.length := by rw [hx.len, List.length_map]
    refine ⟨_, pss_one (ps_ret (pe_callTy call_tuple_of (by rfl) T.tup boot_tuple (pa_cons (pe_lc (own := [("lot", 1)]) (g := gName 1) (tt := tYes) rfl sc_told_lots.nd (pi_list (pv 0))
      (blkOk_by (N := n_told_lots) (sc := defScope s_told_lots) (by decide +kernel)) (fun _ _ _ _ _ => pg_name (i := 1) sc_told_lots.nd rfl (.inl rfl)) (fun _ _ _ _ _ => pts_nil)
      (fun _ _ _ _ _ => pe_ifExp (pt_cmpR op_isN (pv 1) pe_non (nomark _)) pe_non (pe_tup (pa_cons (pe_ix (ixL (K := K) rfl) (pv 1) pe_int (fun _ _ => rfl)) (pa_cons (pe_ix (ixL (K := K) rfl) (pv 1) pe_int (fun _ _ => rfl)) pa_nil))))) pa_nil))), ?_⟩
    refine ⟨_, rfl, a, rfl, ⟨_, SqL.of (fh _ _ ha)⟩, fun L nL => lc_it (walk_list (xs := xs)) (fun i H' => ∃ F2, Pu F H F2 H' ∧ F2 L = none ∧ ∃ ys, H' L = some (.lst ys) ∧ DA F2 ys ((ls.take i).map eLotT))
      ⟨F, (Step.refl fh).newM nL, none_of_same fh nL, [], upd_same, .nil⟩ (fun i H' _ ⟨F2, S, _⟩ => SqL.of (S.hereF ha)) ?_ ?_⟩
    · rintro i x H2 H3 hi ⟨F2, S, nfL, ys, eL, hy⟩ ⟨rfl, hxi⟩
      have hyl : ys.length ≤ 100 := by
        rw [hy.len, List.length_map, List.length_take]
        omega
      refine ⟨rfl, yes (iteT ?_)⟩
      rcases lot_at hx hxi with ⟨rfl, hli⟩ | ⟨c, lo, hi', rfl, hc, hli⟩
      · refine ⟨_, rfl, rfl, _, rfl, iteD rfl ?_⟩
        refine ⟨ys, eL, sizeN (by omega), F2, S.put (.inl nL) nfL (by rw [eL]; intro z; cases z), nfL, ys ++ [.non], upd_same, ?_⟩
        rw [List.take_add_one, hli, List.map_append]
        exact hy.snoc .non
      · refine ⟨_, rfl, rfl, _, rfl, iteDn (fun z => nomatch z) ?_⟩
        refine ⟨_, rfl, c, _, 0, _, rfl, rfl, SqL.of (S.hereF hc), rfl, _, rfl, c, _, 1, _, rfl, rfl, SqL.of (S.hereF hc), rfl, (by show 2 ≤ sizeLine; decide), fun p np => ?_⟩
        have S2 := S.newF (o := .tup [.int lo, .int hi']) np
        have npL : L ≠ p := ne_of_none eL np
        refine ⟨ys, by rw [upd_ne npL]; exact eL, sizeN (by omega), _, S2.put (p := L) (.inl nL) (by rw [upd_ne npL]; exact nfL) (by rw [upd_ne npL, eL]; intro z; cases z), by rw [upd_ne npL]; exact nfL, ys ++ [.ref p], upd_same, ?_⟩
        rw [List.take_add_one, hli, List.map_append]
        exact (hy.mono (same_fresh (S.nofr np))).snoc (.tup upd_same (.cons (.int _) (.cons (.int _) .nil)))
    · rintro H2 ⟨F2, S, nfL, ys, eL, hy⟩
      rw [hxl, List.take_of_length_le (Nat.le_refl _)] at hy
      refine ⟨L, _, rfl, .inl ⟨SqL.of eL, fun p np => ?_⟩⟩
      exact q _ _ _ (S.newF np) (.tup upd_same (hy.mono (same_fresh (S.nofr np))))
def sp_known : Sp := fun vs H Q _ => ∃ (F : Hp) (v u : V) (P : Nat) (ds : List Dd) (im : Im), vs = [v, u] ∧ Same F H ∧ D F v (eLog P ds) ∧ WF P ds ∧ D F u (eImg im) ∧ InR P ds im ∧
  ∀ F' H' r ls, Pu F H F' H' → Good ds im ls → Closed ds ls → D F' r (.tuple (ls.map eLotT)) → Q r H'
theorem ok_known {f : Addr} {fd : FuncData} (F : Fun K "known" "known" s_known f fd) (C1 : Cal P w K mg base "made_log" 4 ["thing"] sp_made_log) (C2 : Cal P w K mg base "made_image" 5 ["log", "image"] sp_made_image)
    (C3 : Cal P w K mg base "moment_table" 1 ["log"] sp_moment_table) (C4 : Cal P w K mg base "growths" 4 ["log", "table", "image"] sp_growths) (C5 : Cal P w K mg base "told_lots" 1 ["lots"] sp_told_lots) :
    FnOk P w K mg base CX0 6 f fd ["log", "image"] sp_known := by
  obtain ⟨f1, fd1, G1, m1, k1, b1⟩ := C1
  obtain ⟨f2, fd2, G2, m2, k2, b2⟩ := C2
  obtain ⟨f3, fd3, G3, m3, k3, b3⟩ := C3
  obtain ⟨f4, fd4, G4, m4, k4, b4⟩ := C4
  obtain ⟨f5, fd5, G5, m5, k5, b5⟩ := C5
  refine F.ok sc_known (fun vs H Q E h => ?_) (fun cdv A outer s H vs Q E hr h => ?_)
  · obtain ⟨F, v, u, P, ds, im, rfl, _⟩ := h
    rfl
  · obtain ⟨F, v, u, P, ds, im, rfl, fh, hD, W, hI, hR, q⟩ := h
    have hP2 := W.few
    refine ⟨_, pss_cons (ps_set (i := 0) sc_known.nd rfl (.inl rfl) (pe_call G1 (hr.mono (by decide)) (by rfl) m1 k1 b1 .nil pass0 (pa_cons (pv 0) pa_nil)))
      (pss_cons (ps_set (i := 1) sc_known.nd rfl (.inl rfl) (pe_call G2 (hr.mono (by decide)) (by rfl) m2 k2 b2 .nil pass0 (pa_cons (pv 0) (pa_cons (pv 1) pa_nil))))
      (pss_one (ps_ret (pe_call G5 (hr.mono (by decide)) (by rfl) m5 k5 b5 .nil pass0 (pa_cons (pe_ix ix_tup (pe_call G4 (hr.mono (by decide)) (by rfl) m4 k4 b4 .nil pass0
        (pa_cons (pv 0) (pa_cons (pe_call G3 (hr.mono (by decide)) (by rfl) m3 k3 b3 .nil pass0 (pa_cons (pv 0) pa_nil)) (pa_cons (pv 1) pa_nil)))) pe_int (fun _ _ => rfl)) pa_nil))))), ?_⟩
    refine ⟨_, rfl, F, v, P, ds, rfl, fh, hD, W, fun F1 H1 v1 S1 hv1 => ?_⟩
    refine ⟨_, rfl, _, rfl, F1, v1, u, P, ds, im, rfl, S1.fh, hv1, W, hI.mono S1.ff, hR, fun F2 H2 S2 => ?_⟩
    refine ⟨_, rfl, _, rfl, F2, v1, P, ds, rfl, S2.fh, hv1.mono S2.ff, W, fun F3 H3 tv S3 ht => ?_⟩
    have S123 := S1.trans (S2.trans S3)
    refine ⟨_, rfl, F3, v1, tv, u, P, ds, im, rfl, S3.fh, hv1.mono (S2.ff.trans S3.ff), W, ht, hI.mono S123.ff, hR, fun F4 H4 r f l ls S4 er hl hG hC => ?_⟩
    refine ⟨r, _, 1, _, rfl, rfl, SqT.of (S4.fh _ _ er), rfl, F4, l, ls, rfl, S4.fh, hl, by rw [hG.len, hR.len]; omega, fun F5 H5 z S5 hz => ?_⟩
    exact q F5 H5 z ls (S123.trans (S4.trans S5)) hG hC hz
def sp_bounded : Sp := fun vs H Q _ => ∃ (F : Hp) (v u : V) (P s : Nat) (ds : List Dd) (ls : Lots), vs = [v, u] ∧ Same F H ∧ D F v (eRow (row P ds s)) ∧ D F u (.list (ls.map eLot)) ∧ ls.length = P ∧ P ≤ 100 ∧ Ret F H Q fun F' r => D F' r (eImg (slice ds ls s))
theorem ok_bounded {f : Addr} {fd : FuncData} (F : Fun K "bounded" "bounded" s_bounded f fd) (T : Bi mg) :
    FnOk P w K mg base CX0 1 f fd ["row", "lots"] sp_bounded := by
  refine F.ok sc_bounded (fun vs H Q E h => ?_) (fun cdv A outer s H vs Q E hr h => ?_)
  · obtain ⟨F, v, u, P, s, ds, ls, rfl, _⟩ := h
    rfl
  · obtain ⟨F, v, u, P, s, ds, ls, rfl, fh, hV, hL, hls, hP, q⟩ := h
    obtain ⟨a, rfl, ha⟩ := hV.row
    obtain ⟨b, xs, rfl, hb, hx⟩ := hL.list'
    have hxl : xs.length = P := by rw [hx.len, List.length_map, hls]
    have nd := sc_bounded.nd
    refine ⟨_, pss_cons (ps_set (i := 2) nd rfl (.inl rfl) (pe_lst pa_nil))
      (pss_cons (ps_for PassesOwn.never rfl (pi_zip (by rfl) T.zip (pa_cons (pv 0) (pa_cons (pv 1) pa_nil))) (pg_tup rfl (pgs_cons (pg_name (i := 3) nd rfl (.inl rfl)) (pgs_cons (pg_name (i := 4) nd rfl (.inl rfl)) pgs_nil)))
        (pss_one (ps_expr (pe_bm PySem.F.plainAttrs_list PySem.F.slot_list_append PySem.F.type_list_append mt_append (pv 2) (pa_cons (pe_ifExp (pt_cmpR op_isN (pv 4) pe_non (nomark _)) pe_non
          (pe_callB (call_max2 rfl) (by rfl) T.max boot_max (pa_cons (pe_ix ix_list (pv 4) pe_int (fun _ _ => rfl)) (pa_cons (pe_callB (call_min2 rfl) (by rfl) T.min boot_min (pa_cons (pe_ix ix_list (pv 4) pe_int (fun _ _ => rfl)) (pa_cons (pv 3) pa_nil))) pa_nil)))) pa_nil)))))
      (pss_one (ps_ret (pe_callTy call_tuple_of (by rfl) T.tup boot_tuple (pa_cons (pv 2) pa_nil))))), ?_⟩
    refine ⟨Nat.zero_le _, fun fn nf => ?_⟩
    have S1 := (Step.refl (M := No) fh).newM (o := .lst []) nf
    have nfF := none_of_same fh nf
    refine ⟨_, rfl, _, rfl, a, b, _, xs, rfl, SqL.of (S1.hereF ha), SqL.of (S1.hereF hb), for_it (walk_zip (n := P) (by rw [List.length_map, row_len, hxl]; omega)) (fun i σ H' => Pu F H F H' ∧ (∃ x y, σ = [some (.ref a), some (.ref b), some (.ref fn), x, y]) ∧ H' fn = some (.lst (((slice ds ls s).take i).map oV)))
      ⟨S1, ⟨none, none, rfl⟩, upd_same⟩ (fun i σ H' _ ⟨S, _⟩ => ⟨SqL.of (S.hereF ha), SqL.of (S.hereF hb)⟩) ?_ ?_⟩
    · rintro i z σ H2 H3 hi ⟨S2, ⟨x, y, rfl⟩, eF⟩ ⟨Tp, x1, x2, rfl, nT, rfl, hx1, hx2⟩
      have hx1 : ((row P ds s).map V.int)[i]? = some x1 := hx1
      rw [List.getElem?_map, row_at ds _ hi] at hx1
      obtain rfl := Option.some.inj hx1
      have S3 : Pu F H F (upd H2 Tp (.tup [.int (ver ds s i : Int), x2])) := S2.newM nT
      have nTf : fn ≠ Tp := ne_of_none eF nT
      have eF3 : (upd H2 Tp (.tup [.int (ver ds s i : Int), x2])) fn = some (.lst (((slice ds ls s).take i).map oV)) := by rw [upd_ne nTf]; exact eF
      have hlen : (((slice ds ls s).take i).map oV).length < sizeLine := by
        rw [List.length_map, List.length_take]
        exact sizeN (by omega)
      have fin : ∀ o, (slice ds ls s)[i]? = some o → (∃ x y, [some (V.ref a), some (.ref b), some (.ref fn), some (.int (ver ds s i : Int)), some x2] = [some (V.ref a), some (.ref b), some (.ref fn), x, y]) ∧ (upd (upd H2 Tp (.tup [.int (ver ds s i : Int), x2])) fn (.lst (((slice ds ls s).take i).map oV ++ [oV o]))) fn = some (.lst (((slice ds ls s).take (i + 1)).map oV)) := fun o e => by
        refine ⟨⟨_, _, rfl⟩, ?_⟩
        rw [upd_same, List.take_add_one, e, List.map_append]
        rfl
      refine ⟨Tp, _, rfl, SqT.of upd_same, rfl, _, _, rfl, _, _, rfl, rfl, ?_⟩
      refine ⟨_, rfl, .inl ⟨rfl, _, SqL.of eF3⟩, ?_⟩
      rcases lot_at hx hx2 with ⟨rfl, hli⟩ | ⟨c, lo, hi', rfl, hc, hli⟩
      · refine ⟨_, rfl, rfl, _, rfl, iteD rfl ?_⟩
        refine ⟨fn, _, _, rfl, rfl, eF3, hlen, S3.put (.inl nf) nfF (by rw [eF3]; intro z; cases z), fin none ?_⟩
        rw [slice_at, hli]
        rfl
      · refine ⟨_, rfl, rfl, _, rfl, iteDn (fun z => nomatch z) ?_⟩
        refine ⟨_, rfl, c, _, 0, _, rfl, rfl, SqL.of (S3.hereF hc), rfl, _, rfl, c, _, 1, _, rfl, rfl, SqL.of (S3.hereF hc), rfl, _, rfl, hi', _, rfl, lo, _, rfl, ?_⟩
        refine ⟨fn, _, _, rfl, rfl, eF3, hlen, S3.put (.inl nf) nfF (by rw [eF3]; intro z; cases z), ?_⟩
        have e : (slice ds ls s)[i]? = some (some (clampI lo hi' (ver ds s i : Int))) := by rw [slice_at, hli] <;> rfl
        have ec : (if (if (ver ds s i : Int) < hi' then (ver ds s i : Int) else hi') > lo then (if (ver ds s i : Int) < hi' then (ver ds s i : Int) else hi') else lo) = clampI lo hi' (ver ds s i : Int) := by
          unfold clampI
          split <;> split <;> omega
        rw [ec]
        exact fin _ e
    · rintro σ H2 ⟨S2, ⟨x, y, rfl⟩, eF⟩
      rw [List.take_of_length_le (by rw [slice_len, hls]; exact Nat.le_refl _)] at eF
      refine ⟨_, rfl, fn, _, rfl, .inl ⟨SqL.of eF, fun p np => ?_⟩⟩
      exact q _ _ _ (S2.newF np) (.of_img upd_same)
def sp_end_slice : Sp := fun vs H Q _ => ∃ (F : Hp) (v tv iv : V) (P : Nat) (ds : List Dd) (im : Im), vs = [v, tv, iv] ∧ Same F H ∧ D F v (eLog P ds) ∧ WF P ds ∧ D F tv (eTab P ds) ∧ D F iv (eImg im) ∧ InR P ds im ∧
  ∀ F' H' r ls, Pu F H F' H' → Good ds im ls → Closed ds ls → D F' r (eImg (slice ds ls ds.length)) → Q r H'
theorem ok_end_slice {f : Addr} {fd : FuncData} (F : Fun K "end_slice" "end_slice" s_end_slice f fd) (T : Bi mg) (C1 : Cal P w K mg base "bounded" 1 ["row", "lots"] sp_bounded) (C2 : Cal P w K mg base "growths" 4 ["log", "table", "image"] sp_growths) :
    FnOk P w K mg base CX0 5 f fd ["log", "table", "image"] sp_end_slice := by
  obtain ⟨f1, fd1, G1, m1, k1, b1⟩ := C1
  obtain ⟨f2, fd2, G2, m2, k2, b2⟩ := C2
  refine F.ok sc_end_slice (fun vs H Q E h => ?_) (fun cdv A outer s H vs Q E hr h => ?_)
  · obtain ⟨F, v, tv, iv, P, ds, im, rfl, _⟩ := h
    rfl
  · obtain ⟨F, v, tv, iv, P, ds, im, rfl, fh, hD, W, hT, hI, hR, q⟩ := h
    have hP2 := W.few
    obtain ⟨a, b, xs, rfl, ha, hb, hx⟩ := id hD.log
    have hxl : xs.length = ds.length := by rw [hx.len, List.length_map]
    obtain ⟨t, rows, rfl, ht, hrows⟩ := id hT.list'
    obtain ⟨c, hc, hcr⟩ := hrows.tab (s := ds.length) (Nat.le_refl _)
    refine ⟨_, pss_one (ps_ret (pe_call G1 (hr.mono (by decide)) (by rfl) m1 k1 b1 .nil pass0 (pa_cons (pe_ix ix_list (pv 1) (pe_callB call_len_seq (by rfl) T.len boot_len (pa_cons (pe_ix ix_tup (pv 0) pe_int (fun _ _ => rfl)) pa_nil)) (fun _ _ => rfl))
      (pa_cons (pe_ix ix_tup (pe_call G2 (hr.mono (by decide)) (by rfl) m2 k2 b2 .nil pass0 (pa_cons (pv 0) (pa_cons (pv 1) (pa_cons (pv 2) pa_nil)))) pe_int (fun _ _ => rfl)) pa_nil)))), ?_⟩
    refine ⟨_, rfl, _, rfl, a, _, 1, _, rfl, rfl, SqT.of (fh _ _ ha), rfl, b, _, rfl, .inr (SqT.of (fh _ _ hb)), t, rows, _, _, rfl, rfl, SqL.of (fh _ _ ht), at_of (j := ds.length) (by rw [hxl]) hc, ?_⟩
    refine ⟨_, rfl, _, rfl, _, rfl, F, .ref a, .ref t, iv, P, ds, im, rfl, fh, hD, W, hT, hI, hR, fun F4 H4 r f l ls S4 er hl hG hC => ?_⟩
    refine ⟨r, _, 1, _, rfl, rfl, SqT.of (S4.fh _ _ er), rfl, F4, .ref c, l, P, ds.length, ds, ls, rfl, S4.fh, .of_row (S4.ff _ _ hcr), hl, by rw [hG.len, hR.len], by omega, fun F5 H5 z S5 hz => ?_⟩
    exact q F5 H5 z ls (S4.trans S5) hG hC hz
theorem newI_e (P : Nat) (ds : List Dd) : (newI P ds).map eO = (row P ds ds.length).map .int := by
  rw [newI, List.map_map]
  rfl
/-- what mendable is asked about -/
def MendP (P : Nat) (ds : List Dd) (im : Im) : Prop := InR P ds im ∧ Reach ds im (newI P ds)
def sp_mendable : Sp := fun vs H Q _ => ∃ (F : Hp) (v u : V) (P : Nat) (ds : List Dd) (rd : Prop), vs = [v, u] ∧ Same F H ∧ D F v (eLog P ds) ∧ (WF P ds ∨ P = 0) ∧ ImgArg F u (MendP P ds) rd ∧
  ∀ F' H' (b : Bool), Pu F H F' H' → (b = true ↔ 1 ≤ P ∧ rd) → Q (.bl b) H'
theorem ok_mendable {f : Addr} {fd : FuncData} (F : Fun K "mendable" "mendable" s_mendable f fd) (T : Bi mg) (C1 : Cal P w K mg base "is_image" 5 ["log", "image"] sp_is_image) (C2 : Cal P w K mg base "moment_table" 1 ["log"] sp_moment_table)
    (C3 : Cal P w K mg base "end_slice" 5 ["log", "table", "image"] sp_end_slice) : FnOk P w K mg base CX0 6 f fd ["log", "image"] sp_mendable := by
  obtain ⟨f1, fd1, G1, m1, k1, b1⟩ := C1
  obtain ⟨f2, fd2, G2, m2, k2, b2⟩ := C2
  obtain ⟨f3, fd3, G3, m3, k3, b3⟩ := C3
  refine F.ok sc_mendable (fun vs H Q E h => ?_) (fun cdv A outer s H vs Q E hr h => ?_)
  · obtain ⟨F, v, u, P, ds, rd, rfl, _⟩ := h
    rfl
  · obtain ⟨F, v, u, P, ds, rd, rfl, fh, hD, W, hI, q⟩ := h
    obtain ⟨a, b, xs, rfl, ha, hb, hx⟩ := id hD.log
    have hxl : xs.length = ds.length := by rw [hx.len, List.length_map]
    refine ⟨_, pss_cons (ps_if (pt_not (pt_val (pe_call G1 (hr.mono (by decide)) (by rfl) m1 k1 b1 .nil pass0 (pa_cons (pv 0) (pa_cons (pv 1) pa_nil))))) (pss_one (ps_ret pe_bl)) pss_nil)
      (pss_cons (ps_set (i := 2) sc_mendable.nd rfl (.inl rfl) (pe_call G2 (hr.mono (by decide)) (by rfl) m2 k2 b2 .nil pass0 (pa_cons (pv 0) pa_nil)))
      (pss_one (ps_ret (pe_cmpR (op_eqD hr.units) (pe_call G3 (hr.mono (by decide)) (by rfl) m3 k3 b3 .nil pass0 (pa_cons (pv 0) (pa_cons (pv 2) (pa_cons (pv 1) pa_nil))))
        (pe_callTy call_tuple_of (by rfl) T.tup boot_tuple (pa_cons (pe_ix ix_list (pv 2) (pe_callB call_len_seq (by rfl) T.len boot_len (pa_cons (pe_ix ix_tup (pv 0) pe_int (fun _ _ => rfl)) pa_nil)) (fun _ _ => rfl)) pa_nil)) (nomark _))))), ?_⟩
    -- the weaker question of is_image
    obtain ⟨rd', hI', hmore⟩ : ∃ rd', ImgArg F u (InR P ds) rd' ∧ ((rd' → ∃ im, D F u (eImg im) ∧ InR P ds im ∧ (rd ↔ MendP P ds im)) ∧ (rd → rd')) := by
      rcases hI with ⟨im, h1, h2⟩ | ⟨h1, h2⟩
      · exact ⟨InR P ds im, .inl ⟨im, h1, Iff.rfl⟩, fun h => ⟨im, h1, h, h2⟩, fun h => (h2.mp h).1⟩
      · exact ⟨False, .inr ⟨h1, fun z => z⟩, fun z => z.elim, h2⟩
    refine ⟨_, rfl, _, rfl, F, .ref a, u, P, ds, rd', rfl, fh, hD, W, hI', fun F1 H1 b1 S1 hb1 => ⟨_, rfl, ?_⟩⟩
    cases b1 with
    | false =>
      refine iteT (q F1 H1 false S1 ⟨fun z => (nomatch z), fun z => ?_⟩)
      exact absurd (hb1.mpr ⟨z.1, hmore.2 z.2⟩) (by decide)
    | true =>
      refine iteF ?_
      obtain ⟨hP, hrd'⟩ := hb1.mp rfl
      have W : WF P ds := by
        rcases W with W | W
        · exact W
        · omega
      obtain ⟨im, hIm, hR, hrd⟩ := hmore.1 hrd'
      refine ⟨_, rfl, F1, .ref a, P, ds, rfl, S1.fh, hD.mono S1.ff, W, fun F2 H2 tv S2 ht => ?_⟩
      have S12 := S1.trans S2
      obtain ⟨t, rows, rfl, ht1, hrows⟩ := id ht.list'
      obtain ⟨c, hc, hcr⟩ := hrows.tab (s := ds.length) (Nat.le_refl _)
      refine ⟨_, rfl, _, rfl, _, rfl, F2, .ref a, .ref t, u, P, ds, im, rfl, S2.fh, hD.mono S12.ff, W, ht, hIm.mono S12.ff, hR, fun F3 H3 r ls S3 hG hC hr3 => ?_⟩
      have S123 := S12.trans S3
      refine ⟨_, rfl, _, rfl, a, _, 1, _, rfl, rfl, SqT.of (S123.hereF ha), rfl, b, _, rfl, .inr (SqT.of (S123.hereF hb)), t, rows, _, _, rfl, rfl, SqL.of (S3.hereF ht1), at_of (j := ds.length) (by rw [hxl]) hc, ?_⟩
      refine ⟨c, _, rfl, .inl ⟨SqL.of (S3.hereF hcr), fun p np => ?_⟩⟩
      have S4 := S123.newF (o := .tup ((row P ds ds.length).map V.int)) np
      have hs := same_fresh (F := F3) (o := .tup ((row P ds ds.length).map V.int)) (S3.nofr np)
      have hn : D (upd F3 p (.tup ((row P ds ds.length).map V.int))) (.ref p) (eImg (newI P ds)) := by
        rw [eImg, newI_e]
        exact .tup upd_same (DA.of_ints _)
      refine ⟨_, _, D.dp S4.fh _ _ (hr3.mono hs), D.dp S4.fh _ _ hn, shaped_img _, shaped_img _, ?_⟩
      rw [eqv_img]
      refine q _ _ _ S4 ?_
      rw [decide_eq_true_iff, mend_reach W hR hG hC, hrd]
      exact ⟨fun h => ⟨hP, hR, h⟩, fun h => h.2.2⟩
end
end K24

end
section
set_option Elab.async false
set_option linter.all false
set_option maxRecDepth 100000
/-! Walking by all moves: the images that are reached are at most 64, and 64 turns find them all. Plain Lean. -/
namespace K24
/-- the moves that are allowed: deed (from 0), up or down -/
def opensAt (ds : List Dd) (i : Im) (t : Nat) : List (Nat × Bool) := ([true, false].filter fun up => (moved ds i t up).isSome).map fun up => (t, up)
def opens (ds : List Dd) (i : Im) (n : Nat) : List (Nat × Bool) := (List.range n).flatMap (opensAt ds i)
theorem opens_succ (ds : List Dd) (i : Im) (n : Nat) : opens ds i (n + 1) = opens ds i n ++ opensAt ds i n := by
  unfold opens
  rw [List.range_succ, List.flatMap_append]
  simp
theorem opensAt_len (ds : List Dd) (i : Im) (t : Nat) : (opensAt ds i t).length ≤ 2 := by
  unfold opensAt
  rw [List.length_map]
  exact List.length_filter_le _ _
theorem opens_len (ds : List Dd) (i : Im) : ∀ n, (opens ds i n).length ≤ 2 * n
  | 0 => by simp [opens]
  | n + 1 => by
    rw [opens_succ, List.length_append]
    have := opens_len ds i n
    have := opensAt_len ds i n
    omega
theorem opensAt_mem {ds : List Dd} {i : Im} {t t' : Nat} {up : Bool} : (t', up) ∈ opensAt ds i t ↔ t' = t ∧ ∃ j, moved ds i t up = some j := by
  unfold opensAt
  rw [List.mem_map]
  constructor
  · rintro ⟨u, h, e⟩
    have h2 := (List.mem_filter.mp h).2
    obtain ⟨rfl, rfl⟩ : t = t' ∧ u = up := ⟨congrArg Prod.fst e, congrArg Prod.snd e⟩
    exact ⟨rfl, Option.isSome_iff_exists.mp h2⟩
  · rintro ⟨rfl, j, h⟩
    refine ⟨up, List.mem_filter.mpr ⟨by cases up <;> simp, by rw [h]; rfl⟩, rfl⟩
theorem opens_mem {ds : List Dd} {i : Im} {n t : Nat} {up : Bool} : (t, up) ∈ opens ds i n ↔ t < n ∧ ∃ j, moved ds i t up = some j := by
  unfold opens
  rw [List.mem_flatMap]
  constructor
  · rintro ⟨t', h, h2⟩
    obtain ⟨rfl, h3⟩ := opensAt_mem.mp h2
    exact ⟨List.mem_range.mp h, h3⟩
  · rintro ⟨h, h3⟩
    exact ⟨t, List.mem_range.mpr h, opensAt_mem.mpr ⟨rfl, h3⟩⟩
theorem opens_all {ds : List Dd} {i j : Im} : Mv ds i j ↔ ∃ o ∈ opens ds i ds.length, moved ds i o.1 o.2 = some j := by
  constructor
  · rintro ⟨t, up, h⟩
    obtain ⟨p, rs, hd, _⟩ := moved_of h
    exact ⟨(t, up), opens_mem.mpr ⟨(List.getElem?_eq_some_iff.mp hd).1, j, h⟩, h⟩
  · rintro ⟨⟨t, up⟩, _, h⟩
    exact ⟨t, up, h⟩
/-! ### how many images there are -/
def prods {α : Type} : List (List α) → List (List α)
  | [] => [[]]
  | c :: cs => c.flatMap fun x => (prods cs).map (x :: ·)
theorem prods_len {α : Type} : ∀ cs : List (List α), (prods cs).length = cs.foldr (fun c n => c.length * n) 1
  | [] => rfl
  | c :: cs => by
    have ih := prods_len cs
    show (c.flatMap fun x => (prods cs).map (x :: ·)).length = c.length * cs.foldr (fun c n => c.length * n) 1
    rw [← ih]
    induction c with
    | nil => simp
    | cons x c ihc => rw [List.flatMap_cons, List.length_append, ihc, List.length_map, List.length_cons, Nat.add_mul, Nat.one_mul]; omega
theorem mem_prods {α : Type} : ∀ (cs : List (List α)) (j : List α), j.length = cs.length → (∀ (i : Nat) x c, j[i]? = some x → cs[i]? = some c → x ∈ c) → j ∈ prods cs
  | [], [], _, _ => List.mem_singleton.mpr rfl
  | [], _ :: _, h, _ => by simp at h
  | _ :: _, [], h, _ => by simp at h
  | c :: cs, x :: j, h, g => by
    refine List.mem_flatMap.mpr ⟨x, g 0 x c rfl rfl, List.mem_map.mpr ⟨j, mem_prods cs j (by simpa using h) fun i y d h1 h2 => g (i + 1) y d (by simpa using h1) (by simpa using h2), rfl⟩⟩
/-- the images with the lost pages of im -/
def choice (ds : List Dd) (im : Im) (p : Nat) : List (Option Int) := match im[p]? with
  | some none => [none]
  | _ => (List.range (ver ds ds.length p + 1)).map fun v : Nat => some (v : Int)
def allIm (P : Nat) (ds : List Dd) (im : Im) : List Im := prods ((List.range P).map (choice ds im))
theorem choice_len (ds : List Dd) (im : Im) (p : Nat) : (choice ds im p).length ≤ ver ds ds.length p + 1 := by
  unfold choice
  split
  · simp
  · simp
theorem mem_allIm {P : Nat} {ds : List Dd} {im j : Im} (h : InR P ds im) (r : Reach ds im j) : j ∈ allIm P ds im := by
  have hj := h.reach r
  refine mem_prods _ _ (by simp [hj.len]) fun i x c h1 h2 => ?_
  have hi : i < P := by rw [← hj.len]; exact (List.getElem?_eq_some_iff.mp h1).1
  rw [List.getElem?_map, List.getElem?_range hi] at h2
  obtain rfl : choice ds im i = c := Option.some.inj h2
  have hn := r.non i
  unfold choice
  cases x with
  | none =>
    rw [hn.mp h1]
    exact List.mem_singleton.mpr rfl
  | some v =>
    have hr := hj.rng i v h1
    split
    · rename_i e
      rw [hn.mpr e] at h1
      cases h1
    · refine List.mem_map.mpr ⟨v.toNat, List.mem_range.mpr (by omega), ?_⟩
      congr 1
      omega
theorem sum_ind (q : Nat) : ∀ n, ((List.range n).map fun p => if q = p then 1 else 0).sum ≤ (if q < n then 1 else 0)
  | 0 => by simp
  | n + 1 => by
    rw [List.range_succ, List.map_append, List.sum_append]
    have := sum_ind q n
    simp only [List.map_cons, List.map_nil, List.sum_cons, List.sum_nil]
    split at this <;> split <;> split <;> omega
theorem sum_add (f g : Nat → Nat) : ∀ l : List Nat, (l.map fun p => f p + g p).sum = (l.map f).sum + (l.map g).sum
  | [] => rfl
  | x :: l => by
    simp only [List.map_cons, List.sum_cons, sum_add f g l]
    omega
theorem sum_ver (P : Nat) (ds : List Dd) : ∀ s, s ≤ ds.length → ((List.range P).map fun p => ver ds s p).sum ≤ s
  | 0, _ => by
    have : ((List.range P).map fun p => ver ds 0 p) = (List.range P).map fun _ => 0 := List.map_congr_left fun p _ => ver_zero ds p
    rw [this]
    have z : ∀ l : List Nat, (l.map fun _ => 0).sum = 0 := by
      intro l
      induction l with
      | nil => rfl
      | cons x l ih => simp [ih]
    rw [z]
    exact Nat.le_refl _
  | s + 1, h => by
    have ih : ((List.range P).map (ver ds s)).sum ≤ s := sum_ver P ds s (by omega)
    have e := List.getElem?_eq_getElem (show s < ds.length by omega)
    have : ((List.range P).map fun p => ver ds (s + 1) p) = (List.range P).map fun p => ver ds s p + (if ds[s].1 = p then 1 else 0) := List.map_congr_left fun p _ => ver_succ e p
    rw [this, sum_add]
    have := sum_ind ds[s].1 P
    split at this <;> omega
theorem four : ∀ a ≤ 7, ∀ b ≤ 7, ∀ c ≤ 7, ∀ d ≤ 7, a + b + c + d ≤ 7 → (a + 1) * ((b + 1) * ((c + 1) * (d + 1))) ≤ 64 := by decide +kernel
theorem few64 {a b c d : Nat} (h : a + b + c + d ≤ 7) : (a + 1) * ((b + 1) * ((c + 1) * (d + 1))) ≤ 64 := four a (by omega) b (by omega) c (by omega) d (by omega) h
theorem fold_le (f g : Nat → Nat) (h : ∀ p, f p ≤ g p) : ∀ l : List Nat, l.foldr (fun p n => f p * n) 1 ≤ l.foldr (fun p n => g p * n) 1
  | [] => Nat.le_refl _
  | x :: l => Nat.mul_le_mul (h x) (fold_le f g h l)
theorem foldr_map' {α β : Type} (f : α → β) (g : β → Nat → Nat) : ∀ (l : List α) (z : Nat), (l.map f).foldr g z = l.foldr (fun x n => g (f x) n) z
  | [], _ => rfl
  | x :: l, z => by rw [List.map_cons, List.foldr_cons, List.foldr_cons, foldr_map' f g l z]
theorem allIm_len {P : Nat} {ds : List Dd} {im : Im} (hP : P ≤ 4) (hn : ds.length ≤ 7) : (allIm P ds im).length ≤ 64 := by
  unfold allIm
  rw [prods_len, foldr_map']
  refine Nat.le_trans (fold_le _ (fun p => ver ds ds.length p + 1) (choice_len ds im) _) ?_
  have hs := sum_ver P ds ds.length (Nat.le_refl _)
  match P, hP, hs with
  | 0, _, _ => simp
  | 1, _, hs =>
    have e : List.range 1 = [0] := rfl
    rw [e] at hs ⊢
    simp only [List.map_cons, List.map_nil, List.sum_cons, List.sum_nil, List.foldr_cons, List.foldr_nil] at hs ⊢
    have := few64 (a := ver ds ds.length 0) (b := 0) (c := 0) (d := 0) (by omega)
    omega
  | 2, _, hs =>
    have e : List.range 2 = [0, 1] := rfl
    rw [e] at hs ⊢
    simp only [List.map_cons, List.map_nil, List.sum_cons, List.sum_nil, List.foldr_cons, List.foldr_nil] at hs ⊢
    have := few64 (a := ver ds ds.length 0) (b := ver ds ds.length 1) (c := 0) (d := 0) (by omega)
    simpa using this
  | 3, _, hs =>
    have e : List.range 3 = [0, 1, 2] := rfl
    rw [e] at hs ⊢
    simp only [List.map_cons, List.map_nil, List.sum_cons, List.sum_nil, List.foldr_cons, List.foldr_nil] at hs ⊢
    have := few64 (a := ver ds ds.length 0) (b := ver ds ds.length 1) (c := ver ds ds.length 2) (d := 0) (by omega)
    simpa using this
  | 4, _, hs =>
    have e : List.range 4 = [0, 1, 2, 3] := rfl
    rw [e] at hs ⊢
    simp only [List.map_cons, List.map_nil, List.sum_cons, List.sum_nil, List.foldr_cons, List.foldr_nil] at hs ⊢
    have := few64 (a := ver ds ds.length 0) (b := ver ds ds.length 1) (c := ver ds ds.length 2) (d := ver ds ds.length 3) (by omega)
    simpa using this
  | n + 5, h, _ => exact absurd h (by omega)
theorem nodup_le {α : Type} [DecidableEq α] : ∀ {l m : List α}, l.Nodup → (∀ x ∈ l, x ∈ m) → l.length ≤ m.length
  | [], _, _, _ => Nat.zero_le _
  | a :: l, m, h, g => by
    have hm := g a List.mem_cons_self
    have h2 := List.nodup_cons.mp h
    have := nodup_le (l := l) (m := m.erase a) h2.2 fun x hx => by
      have : x ≠ a := fun e => h2.1 (by rw [← e]; exact hx)
      exact (List.mem_erase_of_ne this).mpr (g x (List.mem_cons_of_mem _ hx))
    rw [List.length_erase_of_mem hm] at this
    have := List.length_pos_of_mem hm
    rw [List.length_cons]
    omega
/-! ### the search -/
/-- what holds of the images found, the first k of them walked from -/
structure Bfs (ds : List Dd) (im : Im) (S : List Im) (k : Nat) : Prop where
  nd : S.Nodup
  mem : im ∈ S
  reach : ∀ j ∈ S, Reach ds im j
  done : ∀ (k' : Nat) j j', k' < k → S[k']? = some j → Mv ds j j' → j' ∈ S
theorem Bfs.len {P : Nat} {ds : List Dd} {im : Im} {S : List Im} {k : Nat} (B : Bfs ds im S k) (h : InR P ds im) (hP : P ≤ 4) (hn : ds.length ≤ 7) : S.length ≤ 64 :=
  Nat.le_trans (nodup_le B.nd fun j m => mem_allIm h (B.reach j m)) (allIm_len hP hn)
theorem Bfs.start (ds : List Dd) (im : Im) : Bfs ds im [im] 0 :=
  ⟨by simp, by simp, fun j m => by rw [List.mem_singleton.mp m]; exact .refl, fun _ _ _ h => absurd h (Nat.not_lt_zero _)⟩
/-- all is walked: what is found is what is reached -/
theorem Bfs.full {ds : List Dd} {im : Im} {S : List Im} {k : Nat} (B : Bfs ds im S k) (h : S.length ≤ k) (j : Im) : j ∈ S ↔ Reach ds im j := by
  constructor
  · exact B.reach j
  · intro r
    induction r with
    | refl => exact B.mem
    | step _ m ih =>
      obtain ⟨k', hk, e⟩ := List.mem_iff_getElem.mp ih
      exact B.done k' _ _ (by omega) (by rw [List.getElem?_eq_getElem hk, e]) m
/-- within a turn: the first l of the moves from the k-th image are made -/
structure BfsIn (ds : List Dd) (im : Im) (S : List Im) (k : Nat) (here : Im) (l : Nat) : Prop where
  nd : S.Nodup
  mem : im ∈ S
  reach : ∀ j ∈ S, Reach ds im j
  done : ∀ (k' : Nat) j j', k' < k → S[k']? = some j → Mv ds j j' → j' ∈ S
  at_ : S[k]? = some here
  some_ : ∀ (l' : Nat) o j, l' < l → (opens ds here ds.length)[l']? = some o → moved ds here o.1 o.2 = some j → j ∈ S
theorem Bfs.enter {ds : List Dd} {im : Im} {S : List Im} {k : Nat} {here : Im} (B : Bfs ds im S k) (e : S[k]? = some here) : BfsIn ds im S k here 0 :=
  ⟨B.nd, B.mem, B.reach, B.done, e, fun _ _ _ h => absurd h (Nat.not_lt_zero _)⟩
theorem BfsIn.leave {ds : List Dd} {im : Im} {S : List Im} {k : Nat} {here : Im} (B : BfsIn ds im S k here (opens ds here ds.length).length) : Bfs ds im S (k + 1) := by
  refine ⟨B.nd, B.mem, B.reach, fun k' j j' hk e m => ?_⟩
  by_cases c : k' = k
  · subst c
    rw [B.at_] at e
    obtain rfl := Option.some.inj e
    obtain ⟨o, ho, h⟩ := opens_all.mp m
    obtain ⟨l', hl, e2⟩ := List.mem_iff_getElem.mp ho
    exact B.some_ l' o j' hl (by rw [List.getElem?_eq_getElem hl, e2]) h
  · exact B.done k' j j' (by omega) e m
theorem BfsIn.old {ds : List Dd} {im : Im} {S : List Im} {k l : Nat} {here j : Im} {o : Nat × Bool} (B : BfsIn ds im S k here l) (ho : (opens ds here ds.length)[l]? = some o) (hj : moved ds here o.1 o.2 = some j) (m : j ∈ S) : BfsIn ds im S k here (l + 1) := by
  refine ⟨B.nd, B.mem, B.reach, B.done, B.at_, fun l' o' j' hl e h => ?_⟩
  by_cases c : l' = l
  · subst c
    rw [ho] at e
    obtain rfl := Option.some.inj e
    rw [hj] at h
    obtain rfl := Option.some.inj h
    exact m
  · exact B.some_ l' o' j' (by omega) e h
theorem BfsIn.new {ds : List Dd} {im : Im} {S : List Im} {k l : Nat} {here j : Im} {o : Nat × Bool} (B : BfsIn ds im S k here l) (ho : (opens ds here ds.length)[l]? = some o) (hj : moved ds here o.1 o.2 = some j) (m : j ∉ S) : BfsIn ds im (S ++ [j]) k here (l + 1) := by
  have hk := (List.getElem?_eq_some_iff.mp B.at_).1
  refine ⟨?_, List.mem_append_left _ B.mem, fun i hi => ?_, fun k' i i' h e mv => ?_, by rw [List.getElem?_append_left hk]; exact B.at_, fun l' o' j' hl e h => ?_⟩
  · rw [List.nodup_append]
    refine ⟨B.nd, by simp, fun a ha b hb e => ?_⟩
    rw [List.mem_singleton.mp hb] at e
    exact m (by rw [← e]; exact ha)
  · rcases List.mem_append.mp hi with hi | hi
    · exact B.reach i hi
    · rw [List.mem_singleton.mp hi]
      exact .step (B.reach here (List.mem_of_getElem? B.at_)) ⟨o.1, o.2, hj⟩
  · rw [List.getElem?_append_left (by omega)] at e
    exact List.mem_append_left _ (B.done k' i i' h e mv)
  · by_cases c : l' = l
    · subst c
      rw [ho] at e
      obtain rfl := Option.some.inj e
      rw [hj] at h
      obtain rfl := Option.some.inj h
      exact List.mem_append_right _ (List.mem_singleton.mpr rfl)
    · exact List.mem_append_left _ (B.some_ l' o' j' (by omega) e h)
theorem BfsIn.len {P : Nat} {ds : List Dd} {im : Im} {S : List Im} {k l : Nat} {here : Im} (B : BfsIn ds im S k here l) (h : InR P ds im) (hP : P ≤ 4) (hn : ds.length ≤ 7) : S.length ≤ 64 :=
  Nat.le_trans (nodup_le B.nd fun j m => mem_allIm h (B.reach j m)) (allIm_len hP hn)
end K24

end
section
set_option Elab.async false
set_option linter.all false
set_option maxRecDepth 100000
set_option maxHeartbeats 4000000
/-! The law's own defs: the pool of draws. -/
namespace K24
open PySem PySem.Spec PyProof.Rows L2
/-- the pool at p, its cells at l -/
structure Pool (F H : Hp) (p l : Addr) : Prop where
  ne : p ≠ l
  pF : F p = none
  lF : F l = none
  at_ : ∃ (x y : Int) (ns : List Int), H p = some (.lst [.int x, .int y, .ref l]) ∧ H l = some (.lst (ns.map V.int)) ∧ 0 ≤ x ∧ 0 ≤ y ∧ y < 4294967296
abbrev PL (p l : Addr) : Addr → Prop := fun b => b = p ∨ b = l
theorem Pool.pS {F H : Hp} {p l : Addr} (A : Pool F H p l) : H p ≠ none := by
  obtain ⟨x, y, ns, h1, _⟩ := A.at_
  rw [h1]; intro z; cases z
theorem Pool.lS {F H : Hp} {p l : Addr} (A : Pool F H p l) : H l ≠ none := by
  obtain ⟨x, y, ns, _, h1, _⟩ := A.at_
  rw [h1]; intro z; cases z
theorem Pool.step {F H F' H' : Hp} {p l : Addr} (A : Pool F H p l) (S : Pu F H F' H') : Pool F' H' p l := by
  have hp := A.pS
  have hl := A.lS
  obtain ⟨x, y, ns, h1, h2, h3⟩ := A.at_
  exact ⟨A.ne, S.nw _ A.pF hp, S.nw _ A.lF hl, x, y, ns, S.same _ _ h1, S.same _ _ h2, h3⟩
/-- the frozen part grows by a new object -/
theorem Pool.fresh {F H : Hp} {p l b : Addr} {o : HO} (A : Pool F H p l) (h1 : b ≠ p) (h2 : b ≠ l) : Pool (upd F b o) H p l :=
  ⟨A.ne, by rw [upd_ne h1.symm]; exact A.pF, by rw [upd_ne h2.symm]; exact A.lF, A.at_⟩
/-- another object changes -/
theorem Pool.oth {F H : Hp} {p l b : Addr} {o : HO} (A : Pool F H p l) (h1 : b ≠ p) (h2 : b ≠ l) : Pool F (upd H b o) p l := by
  obtain ⟨x, y, ns, e1, e2, h3⟩ := A.at_
  exact ⟨A.ne, A.pF, A.lF, x, y, ns, by rw [upd_ne h1.symm]; exact e1, by rw [upd_ne h2.symm]; exact e2, h3⟩
theorem Pool.apart {F H F1 H1 : Hp} {p l b : Addr} (A : Pool F H p l) (h : H b = none) : b ≠ p ∧ b ≠ l := ⟨fun z => A.pS (by rw [← z]; exact h), fun z => A.lS (by rw [← z]; exact h)⟩
theorem PL.not {p l b : Addr} (h1 : b ≠ p) (h2 : b ≠ l) : ¬ PL p l b := fun z => z.elim h1 h2
/-- ints of a list are no pool -/
theorem Step.keep {M : Addr → Prop} {F H F' H' : Hp} {b : Addr} {o : HO} (S : Step M F H F' H') (m : ¬ M b) (h : H b = some o) : H' b = some o := S.hh b o m h
section
variable {P : Program} {w : World} {K : PySem.W.Frag} {mg : Str → Option Value} {base : Heap}
def sp_law_is_truth : Sp := fun vs H Q _ => ∃ b d : Bool, vs = [.bl b, .bl d] ∧ Q (.bl (decide (b = d))) H
theorem ok_law_is_truth {f : Addr} {fd : FuncData} (F : Fun K "_law_is_truth" "_law_is_truth" s__law_is_truth f fd) (T : Bi mg) : FnOk P w K mg base CX0 1 f fd ["_law_value", "_law_due"] sp_law_is_truth := by
  refine F.ok sc__law_is_truth (fun vs H Q E h => ?_) (fun cdv A outer s H vs Q E hr h => ?_)
  · obtain ⟨b, d, rfl, _⟩ := h
    rfl
  · obtain ⟨b, d, rfl, q⟩ := h
    refine ⟨_, pss_one (ps_ret (pe_and (pe_isi T T.bool boot_bool (pv 0)) (pe_one (pe_cmpR op_eq (pv 0) (pv 1) (nomark _))))), ?_⟩
    refine ⟨_, rfl, _, "bool", true, rfl, .base (.bl b), by decide +kernel, true, rfl, iteT ?_⟩
    refine ⟨_, rfl, _, rfl, rfl, ?_⟩
    have e : decide (V.bl b = V.bl d) = decide (b = d) := by simp
    rw [e]
    exact q
def sp_law_pool : Sp := fun vs H Q _ => ∃ (a : Addr) (ns : List Int), vs = [.ref a] ∧ SqL K H a (ns.map V.int) ∧ ns.length ≤ 1000 ∧ ∀ H' p l, Same H H' → H p = none → H l = none → p ≠ l → (∃ (x y : Int) (ms : List Int), H' p = some (.lst [.int x, .int y, .ref l]) ∧ H' l = some (.lst (ms.map V.int)) ∧ 0 ≤ x ∧ 0 ≤ y ∧ y < 4294967296) → Q (.ref p) H'
theorem cut1 (xs : List V) : cutV xs (some 1) none = xs.drop 1 := by
  unfold cutV
  rw [show HT.sIx xs.length 0 (some 1) = min 1 xs.length from HT.sIx_nat xs.length 0 1, HT.sIx_none]
  cases xs with
  | nil => rfl
  | cons x r =>
    rw [show min 1 (x :: r).length = 1 by rw [List.length_cons]; omega]
    show (List.take ((x :: r).length - 1) r) = r
    rw [List.length_cons, Nat.add_sub_cancel]
    exact List.take_length
theorem ok_law_pool {f : Addr} {fd : FuncData} (F : Fun K "_law_pool" "_law_pool" s__law_pool f fd) (T : Bi mg) : FnOk P w K mg base CX0 1 f fd ["_law_script"] (sp_law_pool (K := K)) := by
  refine F.ok sc__law_pool (fun vs H Q E h => ?_) (fun cdv A outer s H vs Q E hr h => ?_)
  · obtain ⟨a, ns, rfl, _⟩ := h
    rfl
  · obtain ⟨a, ns, rfl, hS, hlen, q⟩ := h
    have nd := sc__law_pool.nd
    refine ⟨_, pss_cons (ps_set (i := 1) nd rfl (.inl rfl) (pe_ifExp (pt_cmpR op_gt (pe_callB call_len_seq (by rfl) T.len boot_len (pa_cons (pv 0) pa_nil)) pe_int (nomark _)) (pe_callTy call_int1 (by rfl) T.int boot_int (pa_cons (pe_ix ix_list (pv 0) pe_int (fun _ _ => rfl)) pa_nil)) pe_int))
      (pss_cons (ps_set (i := 2) nd rfl (.inl rfl) (pe_ifExp (pt_cmpR op_ge (pv 1) pe_int (nomark _)) (pe_op op_mul pe_int (pv 1)) (pe_op op_sub (pe_un un_neg pe_int) (pe_op op_mul pe_int (pv 1)))))
      (pss_one (ps_ret (pe_lst (pa_cons (pe_ifExp (pt_cmpR op_ge (pv 2) (pe_op op_pow pe_int pe_int) (nomark _)) (pv 2) pe_int)
        (pa_cons (pe_op op_add (pe_op op_mod (pe_callTy call_int1 (by rfl) T.int boot_int (pa_cons (pe_op op_add (pe_op op_mul (pv 2) pe_int) pe_int) pa_nil)) pe_int) pe_int)
        (pa_cons (pe_callTy call_list_of (by rfl) T.list boot_list (pa_cons (pe_slice sl_list (pv 0) (po_some pe_int) po_none) pa_nil)) pa_nil))))))), ?_⟩
    -- from the second row on, with the first cell
    have rest : ∀ z : Int, tSeq (tAsg (tIf (tTest (tOp (rI0 fun i j => .bl (decide (j ≤ i))) (tVar 1) (tC (.int 0)))) (tOp (rI CMul fun i j => .int (i * j)) (tC (.int 2)) (tVar 1)) (tOp (rI0 fun i j => .int (i - j)) (tUn (fun x H Q => ∃ i, x = .int i ∧ Q (.int (-i)) H) (tC (.int 1))) (tOp (rI CMul fun i j => .int (i * j)) (tC (.int 2)) (tVar 1)))) (gName 2))
        (tRet (tLst (tCons (tIf (tTest (tOp (rI0 fun i j => .bl (decide (j ≤ i))) (tVar 2) (tOp (rI CPow fun i j => .int (i ^ j.toNat)) (tC (.int 10)) (tC (.int 18))))) (tVar 2) (tC (.int 0)))
          (tCons (tOp (rI0 fun i j => .int (i + j)) (tOp (rI (fun _ j => 0 < j) fun i j => .int (i % j)) (tCB (fun xs H Q => (∃ i, xs = [.int i] ∧ Q (.int i) H) ∨ ∃ k, xs = [.bl k] ∧ Q (.int (if k then 1 else 0)) H) (tCons (tOp (rI0 fun i j => .int (i + j)) (tOp (rI CMul fun i j => .int (i * j)) (tVar 2) (tC (.int 48271))) (tC (.int 1009))) tNil)) (tC (.int 2147483629))) (tC (.int 3)))
          (tCons (tCB (fun xs H Q => ∃ p ys, xs = [.ref p] ∧ (SqL K H p ys ∨ SqT K H p ys) ∧ ∀ l, H l = none → Q (.ref l) (upd H l (.lst ys))) (tCons (tSl (rSlL K) (tVar 0) (fun σ H Q => tC (.int 1) σ H fun x H1 => ∃ i, x = .int i ∧ Q (some i) H1) (fun _ H Q => Q none H)) tNil)) tNil)))))
        { nx := fun _ H' => Q .non H', rt := Q } [some (.ref a), some (.int z), none] H := by
      intro z
      have rest2 : ∀ sz : Int, (tRet (tLst (tCons (tIf (tTest (tOp (rI0 fun i j => .bl (decide (j ≤ i))) (tVar 2) (tOp (rI CPow fun i j => .int (i ^ j.toNat)) (tC (.int 10)) (tC (.int 18))))) (tVar 2) (tC (.int 0)))
          (tCons (tOp (rI0 fun i j => .int (i + j)) (tOp (rI (fun _ j => 0 < j) fun i j => .int (i % j)) (tCB (fun xs H Q => (∃ i, xs = [.int i] ∧ Q (.int i) H) ∨ ∃ k, xs = [.bl k] ∧ Q (.int (if k then 1 else 0)) H) (tCons (tOp (rI0 fun i j => .int (i + j)) (tOp (rI CMul fun i j => .int (i * j)) (tVar 2) (tC (.int 48271))) (tC (.int 1009))) tNil)) (tC (.int 2147483629))) (tC (.int 3)))
          (tCons (tCB (fun xs H Q => ∃ p ys, xs = [.ref p] ∧ (SqL K H p ys ∨ SqT K H p ys) ∧ ∀ l, H l = none → Q (.ref l) (upd H l (.lst ys))) (tCons (tSl (rSlL K) (tVar 0) (fun σ H Q => tC (.int 1) σ H fun x H1 => ∃ i, x = .int i ∧ Q (some i) H1) (fun _ H Q => Q none H)) tNil)) tNil)))))
          { nx := fun _ H' => Q .non H', rt := Q } [some (.ref a), some (.int z), some (.int sz)] H := by
        intro sz
        have rest3 : ∀ x0 : Int, 0 ≤ x0 → (tCons (tOp (rI0 fun i j => .int (i + j)) (tOp (rI (fun _ j => 0 < j) fun i j => .int (i % j)) (tCB (fun xs H Q => (∃ i, xs = [.int i] ∧ Q (.int i) H) ∨ ∃ k, xs = [.bl k] ∧ Q (.int (if k then 1 else 0)) H) (tCons (tOp (rI0 fun i j => .int (i + j)) (tOp (rI CMul fun i j => .int (i * j)) (tVar 2) (tC (.int 48271))) (tC (.int 1009))) tNil)) (tC (.int 2147483629))) (tC (.int 3)))
          (tCons (tCB (fun xs H Q => ∃ p ys, xs = [.ref p] ∧ (SqL K H p ys ∨ SqT K H p ys) ∧ ∀ l, H l = none → Q (.ref l) (upd H l (.lst ys))) (tCons (tSl (rSlL K) (tVar 0) (fun σ H Q => tC (.int 1) σ H fun x H1 => ∃ i, x = .int i ∧ Q (some i) H1) (fun _ H Q => Q none H)) tNil)) tNil))
          [some (.ref a), some (.int z), some (.int sz)] H fun xs H2 => (V.int x0 :: xs).length ≤ sizeLine ∧ ∀ p, H2 p = none → Q (.ref p) (upd H2 p (.lst (V.int x0 :: xs))) := by
          intro x0 hx0
          refine ⟨_, rfl, sz, 48271, rfl, rfl, .inr (by decide), _, _, rfl, rfl, .inl ⟨_, rfl, _, _, rfl, rfl, (by show (0 : Int) < 2147483629; decide), _, _, rfl, rfl, ?_⟩⟩
          have hm0 := Int.emod_nonneg (sz * 48271 + 1009) (show (2147483629 : Int) ≠ 0 by decide)
          have hm1 := Int.emod_lt_of_pos (sz * 48271 + 1009) (show (0 : Int) < 2147483629 by decide)
          generalize (sz * 48271 + 1009) % 2147483629 = r at hm0 hm1
          refine ⟨_, rfl, 1, rfl, a, _, rfl, hS, fun c nc => ?_⟩
          refine ⟨c, _, rfl, .inl (SqL.of upd_same), fun l nl => ⟨(by show 3 ≤ sizeLine; decide), fun p np => ?_⟩⟩
          have ncl : l ≠ c := fun e => by rw [e, upd_same] at nl; cases nl
          have nl0 : H l = none := (upd_none nl).2
          have npl : p ≠ l := (upd_none np).1
          have np0 : H p = none := (upd_none (upd_none np).2).2
          have S : Same H (upd (upd (upd H c (.lst (cutV (ns.map V.int) (some 1) none))) l (.lst (cutV (ns.map V.int) (some 1) none))) p (.lst [.int x0, .int (r + 3), .ref l])) := ((same_fresh nc).trans (same_fresh nl)).trans (same_fresh np)
          refine q _ p l S np0 nl0 npl ⟨x0, r + 3, ns.drop 1, upd_same, ?_, hx0, by omega, by omega⟩
          rw [upd_ne npl.symm, upd_same, cut1, List.map_drop]
        refine ⟨_, rfl, 10, 18, rfl, rfl, ⟨by decide, by decide, by decide⟩, _, _, rfl, rfl, _, rfl, ?_⟩
        refine ite2 (fun e => ?_) (fun e => ?_)
        · have e := of_decide_eq_true e
          refine ⟨_, rfl, rest3 sz ?_⟩
          have : (10 : Int) ^ (18 : Int).toNat = 1000000000000000000 := by decide
          omega
        · exact rest3 0 (by decide)
      refine ⟨_, rfl, _, _, rfl, rfl, _, rfl, ?_⟩
      refine ite2 (fun e => ?_) (fun e => ?_)
      · exact ⟨_, rfl, 2, z, rfl, rfl, .inl (by decide), rest2 _⟩
      · exact ⟨1, rfl, _, rfl, 2, z, rfl, rfl, .inl (by decide), _, _, rfl, rfl, rest2 _⟩
    refine ⟨_, rfl, a, _, rfl, .inl hS, _, _, rfl, rfl, _, rfl, ?_⟩
    refine ite2 (fun e => ?_) (fun e => ?_)
    · have e := of_decide_eq_true e
      rw [List.length_map] at e
      obtain ⟨z, hz⟩ : ∃ z, ns[0]? = some z := ⟨_, List.getElem?_eq_getElem (by omega)⟩
      refine ⟨_, rfl, a, _, 0, _, rfl, rfl, hS, atI_nat (j := 0) (by rw [List.getElem?_map, hz] <;> rfl), .inl ⟨z, rfl, ?_⟩⟩
      exact rest z
    · exact rest 0
end
end K24

end
section
set_option Elab.async false
set_option linter.all false
set_option maxRecDepth 100000
set_option maxHeartbeats 4000000
namespace K24
open PySem PySem.Spec PyProof.Rows L2
/-- two ways join behind a statement: R is what holds there -/
theorem seq_of {t u : TS} {D : Ends} {σ : L2.St} {H : Hp} (R : L2.St → Hp → Prop) (hu : ∀ σ' H', R σ' H' → u D σ' H') (ht : (∀ σ' H', R σ' H' → u D σ' H') → t { D with nx := u D } σ H) : tSeq t u D σ H := ht hu
theorem next_of {D : Ends} {σ : L2.St} {H : Hp} (h : D.nx σ H) : tNext D σ H := h
section
variable {P : Program} {w : World} {K : PySem.W.Frag} {mg : Str → Option Value} {base : Heap}
def sp_law_draw : Sp := fun vs H Q _ => ∃ (F : Hp) (p l : Addr) (m : Nat), vs = [.ref p, .int (m : Int)] ∧ Same F H ∧ Pool F H p l ∧ 1 ≤ m ∧ m ≤ 1000 ∧ ∀ H' (r : Nat), Step (PL p l) F H F H' → Pool F H' p l → r < m → Q (.int (r : Int)) H'
theorem ok_law_draw {f : Addr} {fd : FuncData} (F : Fun K "_law_draw" "_law_draw" s__law_draw f fd) (T : Bi mg) : FnOk P w K mg base CX0 1 f fd ["_law_pool_here", "_law_many"] sp_law_draw := by
  refine F.ok sc__law_draw (fun vs H Q E h => ?_) (fun cdv A outer s H vs Q E hr h => ?_)
  · obtain ⟨F, p, l, m, rfl, _⟩ := h
    rfl
  · obtain ⟨F, p, l, m, rfl, fh, hP, hm1, hm2, q⟩ := h
    have nd := sc__law_draw.nd
    refine ⟨_, pss_cons (ps_if (PW.pt (pw_and (pt_cmpR op_eq (pe_ix ix_list (pv 0) pe_int (fun _ _ => rfl)) pe_int (nomark _)) (pw_and1 (pt_cmpR (op_neD hr.units) (pe_ix ix_list (pv 0) pe_int (fun _ _ => rfl)) (pe_lst pa_nil) (nomark _)))))
        (pss_cons (ps_set (i := 2) nd rfl (.inl rfl) (pe_callTy call_int1 (by rfl) T.int boot_int (pa_cons (pe_bm PySem.F.plainAttrs_list PySem.F.slot_list_pop PySem.F.type_list_pop mt_popAt (pe_ix ix_list (pv 0) pe_int (fun _ _ => rfl)) (pa_cons pe_int pa_nil)) pa_nil)))
        (pss_cons (ps_set (i := 3) nd rfl (.inl rfl) (pe_ifExp (pt_cmpR op_ge (pv 2) pe_int (nomark _)) (pe_op op_mul pe_int (pv 2)) (pe_op op_sub (pe_un un_neg pe_int) (pe_op op_mul pe_int (pv 2)))))
        (pss_cons (ps_asg (pe_ifExp (pt_cmpR op_ge (pv 3) (pe_op op_pow pe_int pe_int) (nomark _)) (pv 3) pe_int) (pg_sub (pv 0) pe_int set_list))
        (pss_one (ps_asg (pe_op op_add (pe_op op_mod (pe_callTy call_int1 (by rfl) T.int boot_int (pa_cons (pe_op op_add (pe_ix ix_list (pv 0) pe_int (fun _ _ => rfl)) (pe_op op_mul (pv 3) pe_int)) pa_nil)) pe_int) pe_int) (pg_sub (pv 0) pe_int set_list)))))) pss_nil)
      (pss_cons (ps_if (pt_cmpR op_gt (pe_ix ix_list (pv 0) pe_int (fun _ _ => rfl)) pe_int (nomark _))
        (pss_cons (ps_set (i := 4) nd rfl (.inl rfl) (pe_op op_mod (pe_callTy call_int1 (by rfl) T.int boot_int (pa_cons (pe_ix ix_list (pv 0) pe_int (fun _ _ => rfl)) pa_nil)) (pv 1)))
        (pss_cons (ps_asg (pe_op op_fdiv (pe_ix ix_list (pv 0) pe_int (fun _ _ => rfl)) (pv 1)) (pg_sub (pv 0) pe_int set_list))
        (pss_one (ps_ret (pv 4))))) pss_nil)
      (pss_cons (ps_asg (pe_op op_mod (pe_callTy call_int1 (by rfl) T.int boot_int (pa_cons (pe_op op_add (pe_op op_mul (pe_ix ix_list (pv 0) pe_int (fun _ _ => rfl)) pe_int) pe_int) pa_nil)) pe_int) (pg_sub (pv 0) pe_int set_list))
      (pss_one (ps_ret (pe_op op_mod (pe_op op_fdiv (pe_op op_mod (pe_callTy call_int1 (by rfl) T.int boot_int (pa_cons (pe_op op_mul (pe_ix ix_list (pv 0) pe_int (fun _ _ => rfl)) (pe_ix ix_list (pv 0) pe_int (fun _ _ => rfl))) pa_nil)) pe_int) pe_int) (pv 1)))))), ?_⟩
    have put : ∀ {H1 : Hp} (S : Step (PL p l) F H F H1) (A : Pool F H1 p l) (o : HO), Step (PL p l) F H F (upd H1 p o) := fun S A o => S.put (.inr (.inl rfl)) A.pF A.pS
    have emod : ∀ (z : Int), 0 ≤ z % (m : Int) ∧ z % (m : Int) < (m : Int) := fun z => ⟨Int.emod_nonneg z (by omega), Int.emod_lt_of_pos z (by omega)⟩
    -- behind the first if
    refine seq_of (fun σ' H' => Step (PL p l) F H F H' ∧ Pool F H' p l ∧ ∃ x2 x3, σ' = [some (.ref p), some (.int (m : Int)), x2, x3, none]) ?_ (fun rest => ?_)
    · rintro σ H1 ⟨S, A, x2, x3, rfl⟩
      obtain ⟨x, y, ns, ep, el, hx, hy0, hy1⟩ := A.at_
      refine ⟨_, rfl, p, _, 0, _, rfl, rfl, SqL.of ep, rfl, _, _, rfl, rfl, _, rfl, ?_⟩
      refine ite2 (fun e => ?_) (fun e => ?_)
      · -- a digit of the large cell
        refine ⟨_, rfl, p, _, 0, _, rfl, rfl, SqL.of ep, rfl, .inl ⟨_, rfl, _, rfl, _, _, rfl, rfl, (by show (0 : Int) < (m : Int); omega), ?_⟩⟩
        refine ⟨_, rfl, p, _, 0, _, rfl, rfl, SqL.of ep, rfl, _, rfl, _, _, rfl, rfl, (by show (0 : Int) < (m : Int) ∧ (m : Int) < 1073741824; omega), _, rfl, p, _, 0, 0, rfl, rfl, ep, rfl, ?_⟩
        obtain ⟨h1, h2⟩ := emod x
        obtain ⟨r, hr⟩ : ∃ r : Nat, x % (m : Int) = (r : Int) := ⟨(x % (m : Int)).toNat, by omega⟩
        refine ⟨_, rfl, ?_⟩
        have qq := q (upd H1 p (.lst [.int (x / (m : Int)), .int y, .ref l])) r (put S A _) ⟨A.ne, A.pF, A.lF, x / (m : Int), y, ns, upd_same, by rw [upd_ne A.ne.symm]; exact el, Int.ediv_nonneg hx (by omega), hy0, hy1⟩ (by omega)
        rw [← hr] at qq
        exact qq
      · -- the mixed number
        refine next_of ?_
        dsimp only
        refine seq_of (fun σ' H' => σ' = [some (.ref p), some (.int (m : Int)), x2, x3, none] ∧ ∃ y2 : Int, 0 ≤ y2 ∧ y2 < 2147483647 ∧ H' = upd H1 p (.lst [.int x, .int y2, .ref l])) ?_ (fun rest4 => ?_)
        · rintro σ H4 ⟨rfl, y2, hm0, hm1, rfl⟩
          have A2 : Pool F (upd H1 p (.lst [.int x, .int y2, .ref l])) p l := ⟨A.ne, A.pF, A.lF, x, y2, ns, upd_same, by rw [upd_ne A.ne.symm]; exact el, hx, hm0, by omega⟩
          refine ⟨_, rfl, p, _, 1, _, rfl, rfl, SqL.of upd_same, rfl, _, rfl, p, _, 1, _, rfl, rfl, SqL.of upd_same, rfl, y2, y2, rfl, rfl, .inl (by omega), .inl ⟨_, rfl, _, _, rfl, rfl, (by show (0 : Int) < 2147483629; decide), _, _, rfl, rfl, ⟨by decide, by decide⟩, ?_⟩⟩
          refine ⟨_, rfl, _, _, rfl, rfl, (by show (0 : Int) < (m : Int); omega), ?_⟩
          obtain ⟨h1, h2⟩ := emod (y2 * y2 % 2147483629 / 32)
          obtain ⟨r, hr⟩ : ∃ r : Nat, (y2 * y2 % 2147483629 / 32) % (m : Int) = (r : Int) := ⟨((y2 * y2 % 2147483629 / 32) % (m : Int)).toNat, by omega⟩
          have qq := q _ r (put S A _) A2 (by omega)
          rw [← hr] at qq
          exact qq
        · have hm0 := Int.emod_nonneg (y * 48271 + 11) (show (2147483647 : Int) ≠ 0 by decide)
          have hm1 := Int.emod_lt_of_pos (y * 48271 + 11) (show (0 : Int) < 2147483647 by decide)
          refine ⟨_, rfl, p, _, 1, _, rfl, rfl, SqL.of ep, rfl, y, 48271, rfl, rfl, .inr (by decide), _, _, rfl, rfl, .inl ⟨_, rfl, _, _, rfl, rfl, (by show (0 : Int) < 2147483647; decide), ?_⟩⟩
          exact ⟨_, rfl, p, _, 1, 1, rfl, rfl, ep, rfl, rest4 _ _ ⟨rfl, _, hm0, hm1, rfl⟩⟩
    · obtain ⟨x, y, ns, ep, el, hx, hy0, hy1⟩ := hP.at_
      have S0 : Step (PL p l) F H F H := .refl fh
      refine ⟨_, rfl, p, _, 0, _, rfl, rfl, SqL.of ep, rfl, rfl, _, rfl, ?_⟩
      refine ite2 (fun e => ?_) (fun e => ?_)
      · refine ⟨_, rfl, p, _, 2, _, rfl, rfl, SqL.of ep, rfl, Nat.zero_le _, fun c nc => ?_⟩
        obtain ⟨c1, c2⟩ := hP.apart (F1 := F) (H1 := H) nc
        have S1 : Step (PL p l) F H F (upd H c (.lst [])) := S0.newM nc
        have ep1 : (upd H c (.lst [])) p = some (.lst [.int x, .int y, .ref l]) := by rw [upd_ne c1.symm]; exact ep
        have el1 : (upd H c (.lst [])) l = some (.lst (ns.map V.int)) := by rw [upd_ne c2.symm]; exact el
        have A1 : Pool F (upd H c (.lst [])) p l := hP.oth c1 c2
        refine ⟨eRow ns, .list [], ?_, .lst (SqL.of upd_same) .nil, shaped_row _, shaped_row [], _, rfl, ?_⟩
        · exact D.dp (F := upd H c (.lst [])) (Same.refl _) _ _ (.of_row el1)
        rw [eqv_row_nil]
        cases ns with
        | nil =>
          refine iteF ?_
          exact rest _ _ ⟨S1, A1, _, _, rfl⟩
        | cons n ns =>
          refine iteT ?_
          obtain ⟨H2, e2⟩ : ∃ H2, H2 = upd (upd H c (.lst [])) l (.lst (((n :: ns).map V.int).eraseIdx 0)) := ⟨_, rfl⟩
          have el2 : H2 l = some (.lst (ns.map V.int)) := by rw [e2]; exact upd_same
          have ep2 : H2 p = some (.lst [.int x, .int y, .ref l]) := by rw [e2, upd_ne A1.ne]; exact ep1
          have S2 : Step (PL p l) F H F H2 := by rw [e2]; exact S1.put (.inr (.inr rfl)) A1.lF A1.lS
          have A2 : Pool F H2 p l := ⟨A1.ne, A1.pF, A1.lF, x, y, ns, ep2, el2, hx, hy0, hy1⟩
          refine seq_of (fun σ' H' => H' = H2 ∧ σ' = [some (.ref p), some (.int (m : Int)), some (.int n), none, none]) ?_ (fun rest1 => ?_)
          · rintro σ H3 ⟨rfl, rfl⟩
            -- size
            refine seq_of (fun σ' H' => H' = H3 ∧ ∃ sz : Int, σ' = [some (.ref p), some (.int (m : Int)), some (.int n), some (.int sz), none]) ?_ (fun rest2 => ?_)
            · rintro σ H4 ⟨rfl, sz, rfl⟩
              refine seq_of (fun σ' H' => σ' = [some (.ref p), some (.int (m : Int)), some (.int n), some (.int sz), none] ∧ ∃ x' : Int, 0 ≤ x' ∧ H' = upd H4 p (.lst [.int x', .int y, .ref l])) ?_ (fun rest3 => ?_)
              · rintro σ H5 ⟨rfl, x', hx', rfl⟩
                refine ⟨_, rfl, p, _, 1, _, rfl, rfl, SqL.of upd_same, rfl, _, rfl, sz, 69621, rfl, rfl, .inr (by decide), _, _, rfl, rfl, .inl ⟨_, rfl, _, _, rfl, rfl, (by show (0 : Int) < 2147483629; decide), _, _, rfl, rfl, ?_⟩⟩
                have hm0 := Int.emod_nonneg (y + sz * 69621) (show (2147483629 : Int) ≠ 0 by decide)
                have hm1 := Int.emod_lt_of_pos (y + sz * 69621) (show (0 : Int) < 2147483629 by decide)
                refine ⟨_, rfl, p, _, 1, 1, rfl, rfl, upd_same, rfl, ?_⟩
                refine rest _ _ ⟨?_, ⟨A2.ne, A2.pF, A2.lF, x', (y + sz * 69621) % 2147483629 + 3, ns, upd_same, by rw [upd_ne A2.ne.symm, upd_ne A2.ne.symm]; exact el2, hx', by omega, by omega⟩, _, _, rfl⟩
                exact (put S2 A2 _).put (.inr (.inl rfl)) A2.pF (by rw [upd_same]; intro z; cases z)
              · have done : ∀ x' : Int, 0 ≤ x' → _ := fun x' hx' => rest3 [some (.ref p), some (.int (m : Int)), some (.int n), some (.int sz), none] (upd H4 p (.lst [.int x', .int y, .ref l])) ⟨rfl, x', hx', rfl⟩
                refine ⟨_, rfl, 10, 18, rfl, rfl, ⟨by decide, by decide, by decide⟩, _, _, rfl, rfl, _, rfl, ?_⟩
                refine ite2 (fun e => ?_) (fun e => ?_)
                · have e := of_decide_eq_true e
                  have e10 : (10 : Int) ^ (18 : Int).toNat = 1000000000000000000 := by decide
                  exact ⟨_, rfl, _, rfl, p, _, 0, 0, rfl, rfl, ep2, rfl, done sz (by omega)⟩
                · exact ⟨_, rfl, p, _, 0, 0, rfl, rfl, ep2, rfl, done 0 (by decide)⟩
            · refine ⟨_, rfl, _, _, rfl, rfl, _, rfl, ?_⟩
              refine ite2 (fun e => ?_) (fun e => ?_)
              · exact ⟨_, rfl, 2, n, rfl, rfl, .inl (by decide), rest2 _ _ ⟨rfl, _, rfl⟩⟩
              · exact ⟨1, rfl, _, rfl, 2, n, rfl, rfl, .inl (by decide), _, _, rfl, rfl, rest2 _ _ ⟨rfl, _, rfl⟩⟩
          · refine ⟨_, rfl, p, _, 2, _, rfl, rfl, SqL.of ep1, rfl, .inl ⟨rfl, _, SqL.of el1⟩, l, _, 0, 0, .int n, rfl, rfl, el1, by decide, by decide, ?_, rfl, .inl ⟨n, rfl, rest1 _ _ ⟨e2.symm, rfl⟩⟩⟩
            exact seqIndex_of (k := 0) (by decide) (by show (0 : Int) < (((n :: ns).map V.int).length : Int); rw [List.length_map, List.length_cons]; omega)
      · refine iteF ?_
        exact rest _ _ ⟨S0, hP, _, _, rfl⟩
end
end K24

end
section
set_option Elab.async false
set_option linter.all false
set_option maxRecDepth 100000
set_option maxHeartbeats 4000000
namespace K24
open PySem PySem.Spec PyProof.Rows L2
theorem map_eraseIdx {α β : Type} (f : α → β) : ∀ (l : List α) (i : Nat), (l.map f).eraseIdx i = (l.eraseIdx i).map f
  | [], _ => rfl
  | _ :: _, 0 => rfl
  | x :: l, i + 1 => congrArg (f x :: ·) (map_eraseIdx f l i)
section
variable {P : Program} {w : World} {K : PySem.W.Frag} {mg : Str → Option Value} {base : Heap}
theorem rgV_zero (m : Nat) : rgV 0 (m : Int) = (List.range m).map fun i : Nat => V.int (i : Int) := by
  unfold rgV
  rw [show ((m : Int) - 0).toNat = m by omega]
  exact List.map_congr_left fun i _ => by
    show V.int (0 + (i : Int)) = V.int (i : Int)
    rw [Int.zero_add]
def sp_law_turned : Sp := fun vs H Q _ => ∃ (F : Hp) (p l : Addr) (m : Nat), vs = [.ref p, .int (m : Int)] ∧ Same F H ∧ Pool F H p l ∧ m ≤ 100 ∧
  ∀ F' H' u (rs : List Int), Step (PL p l) F H F' H' → Pool F' H' p l → D F' u (eRow rs) → rs.length = m → Q u H'
theorem ok_law_turned {f : Addr} {fd : FuncData} (F : Fun K "_law_turned" "_law_turned" s__law_turned f fd) (T : Bi mg) (C1 : Cal P w K mg base "_law_draw" 1 ["_law_pool_here", "_law_many"] sp_law_draw) :
    FnOk P w K mg base CX0 2 f fd ["_law_pool_here", "_law_many"] sp_law_turned := by
  obtain ⟨f1, fd1, G1, m1, k1, b1⟩ := C1
  refine F.ok sc__law_turned (fun vs H Q E h => ?_) (fun cdv A outer s H vs Q E hr h => ?_)
  · obtain ⟨F, p, l, m, rfl, _⟩ := h
    rfl
  · obtain ⟨F, p, l, m, rfl, fh, hP, hm, q⟩ := h
    have nd := sc__law_turned.nd
    refine ⟨_, pss_cons (ps_par (i := 2) (j := 3) rfl nd rfl rfl (by decide) rfl rfl (pa_cons (pe_listRg rfl (by rfl) T.list (prg_1 (by rfl) T.range (pv 1))) (pa_cons (pe_lst pa_nil) pa_nil)) (by rfl))
      (pss_cons (ps_for PassesOwn.never rfl (pi_range1 (by rfl) T.range (pa_cons (pv 1) pa_nil)) (pg_name (i := 4) nd rfl (.inl rfl))
        (pss_one (ps_expr (pe_bm PySem.F.plainAttrs_list PySem.F.slot_list_append PySem.F.type_list_append mt_append (pv 3) (pa_cons
          (pe_bm PySem.F.plainAttrs_list PySem.F.slot_list_pop PySem.F.type_list_pop mt_popAt (pv 2) (pa_cons (pe_call G1 hr (by rfl) m1 k1 b1 .nil pass0 (pa_cons (pv 0) (pa_cons (pe_callB call_len_seq (by rfl) T.len boot_len (pa_cons (pv 2) pa_nil)) pa_nil))) pa_nil)) pa_nil)))))
      (pss_one (ps_ret (pv 3)))), ?_⟩
    refine ⟨_, rfl, _, rfl, RgOk.of_le (by decide) (by omega) (by decide) (by omega), fun lf nlf => ?_⟩
    obtain ⟨lp, ll⟩ := hP.apart (F1 := F) (H1 := H) nlf
    have S1 : Step (PL p l) F H F (upd H lf (.lst (rgV 0 (m : Int)))) := (Step.refl fh).newM nlf
    refine ⟨Nat.zero_le _, fun fn nfn => ?_⟩
    have nfl : fn ≠ lf := (upd_none nfn).1
    have fn0 : H fn = none := (upd_none nfn).2
    obtain ⟨fp, fl⟩ := hP.apart (F1 := F) (H1 := H) fn0
    have S2 := S1.newM (o := .lst []) nfn
    have P2 : Pool F (upd (upd H lf (.lst (rgV 0 (m : Int)))) fn (.lst [])) p l := (hP.oth lp ll).oth fp fl
    have nfF := none_of_same fh fn0
    have nlF := none_of_same fh nlf
    refine ⟨_, _, rfl, ?_⟩
    refine ⟨_, rfl, (m : Int), rfl, by omega, by omega, for_range (lo := 0) (n := m) (fun i σ H' => Step (PL p l) F H F H' ∧ Pool F H' p l ∧ (∃ x, σ = [some (.ref p), some (.int (m : Int)), some (.ref lf), some (.ref fn), x]) ∧
        (∃ ls : List Int, H' lf = some (.lst (ls.map V.int)) ∧ ls.length + i = m) ∧ ∃ fs : List Int, H' fn = some (.lst (fs.map V.int)) ∧ fs.length = i)
      ⟨S2, P2, ⟨none, rfl⟩, ⟨(List.range m).map fun i : Nat => (i : Int), ?_, by simp⟩, [], upd_same, rfl⟩ ?_ ?_⟩
    · rw [upd_ne nfl.symm, upd_same, rgV_zero, List.map_map]
      rfl
    · rintro i σ H1 hi ⟨S, A, ⟨x, rfl⟩, ⟨ls, el, hll⟩, fs, ef, hfl⟩
      refine ⟨_, rfl, .inl ⟨rfl, _, SqL.of ef⟩, _, rfl, .inl ⟨rfl, _, SqL.of el⟩, ?_⟩
      refine ⟨_, rfl, _, rfl, lf, _, rfl, .inl (SqL.of el), F, p, l, ls.length, by rw [List.length_map] <;> rfl, S.fh, A, by omega, by omega, fun H2 r S2 A2 hr => ?_⟩
      have S12 := S.trans S2
      have el2 : H2 lf = some (.lst (ls.map V.int)) := S2.keep (PL.not lp ll) el
      have ef2 : H2 fn = some (.lst (fs.map V.int)) := S2.keep (PL.not fp fl) ef
      obtain ⟨z, hz⟩ : ∃ z, ls[r]? = some z := ⟨_, List.getElem?_eq_getElem hr⟩
      refine ⟨lf, _, (r : Int), r, .int z, rfl, rfl, el2, by omega, by omega, ?_, by rw [List.getElem?_map, hz] <;> rfl, ?_⟩
      · rw [seqIndex_of (k := (r : Int)) (by omega) (by rw [List.length_map]; omega)]
        simp
      have S3 := S12.put (p := lf) (o := .lst ((ls.map V.int).eraseIdx r)) (.inl nlf) nlF (by rw [el2]; intro z; cases z)
      have ef3 : (upd H2 lf (.lst ((ls.map V.int).eraseIdx r))) fn = some (.lst (fs.map V.int)) := by rw [upd_ne nfl]; exact ef2
      refine ⟨fn, _, _, rfl, rfl, ef3, by rw [List.length_map]; exact sizeN (by omega), ?_⟩
      refine ⟨S3.put (p := fn) (.inl fn0) nfF (by rw [ef3]; intro z; cases z), (A2.oth lp ll).oth fp fl, ⟨_, rfl⟩, ⟨ls.eraseIdx r, ?_, ?_⟩, fs ++ [z], ?_, by rw [List.length_append, hfl] <;> rfl⟩
      · rw [upd_ne nfl.symm, upd_same, map_eraseIdx]
      · rw [List.length_eraseIdx_of_lt hr]
        omega
      · rw [upd_same, List.map_append]
        rfl
    · rintro σ H1 ⟨S, A, ⟨x, rfl⟩, ⟨ls, el, hll⟩, fs, ef, hfl⟩
      exact ⟨_, rfl, q _ _ _ fs (S.frz fn0 nfF ef) (A.fresh fp fl) (.of_row upd_same) hfl⟩
end
end K24

end
section
set_option Elab.async false
set_option linter.all false
set_option maxRecDepth 100000
set_option maxHeartbeats 4000000
namespace K24
open PySem PySem.Spec PyProof.Rows L2
section
variable {P : Program} {w : World} {K : PySem.W.Frag} {mg : Str → Option Value} {base : Heap}
theorem DA.snoc_deeds {F : Hp} {xs : List V} {ds : List Dd} {v : V} {d : Dd} (h : DA F xs (ds.map eDeed)) (g : D F v (eDeed d)) : DA F (xs ++ [v]) ((ds ++ [d]).map eDeed) := by
  rw [List.map_append]
  exact h.snoc g
theorem nV_at {rs : List Nat} {i : Nat} {v : V} (h : (rs.map nV)[i]? = some v) : ∃ r, rs[i]? = some r ∧ v = nV r := by
  rw [List.getElem?_map] at h
  cases e : rs[i]? with
  | none => rw [e] at h; cases h
  | some r => rw [e] at h; exact ⟨r, rfl, (Option.some.inj h).symm⟩
theorem V_int_at {rs : List Int} {i : Nat} {v : V} (h : (rs.map V.int)[i]? = some v) : ∃ r, rs[i]? = some r ∧ v = .int r := by
  rw [List.getElem?_map] at h
  cases e : rs[i]? with
  | none => rw [e] at h; cases h
  | some r => rw [e] at h; exact ⟨r, rfl, (Option.some.inj h).symm⟩
def sp_law_log : Sp := fun vs H Q _ => ∃ (F : Hp) (p l : Addr) (P n : Nat) (b : Bool), vs = [.ref p, .int (P : Int), .int (n : Int), .bl b] ∧ Same F H ∧ Pool F H p l ∧ 1 ≤ P ∧ P ≤ 4 ∧ n ≤ 7 ∧
  ∀ F' H' u (ds : List Dd), Step (PL p l) F H F' H' → Pool F' H' p l → D F' u (eLog P ds) → WF P ds → ds.length = n → Q u H'
theorem ok_law_log {f : Addr} {fd : FuncData} (F : Fun K "_law_log" "_law_log" s__law_log f fd) (T : Bi mg) (C1 : Cal P w K mg base "_law_draw" 1 ["_law_pool_here", "_law_many"] sp_law_draw) (C2 : Cal P w K mg base "_law_turned" 2 ["_law_pool_here", "_law_many"] sp_law_turned) :
    FnOk P w K mg base CX0 3 f fd ["_law_pool_here", "_law_pages", "_law_deeds", "_law_is_ringless"] sp_law_log := by
  obtain ⟨f1, fd1, G1, m1, k1, b1⟩ := C1
  obtain ⟨f2, fd2, G2, m2, k2, b2⟩ := C2
  refine F.ok sc__law_log (fun vs H Q E h => ?_) (fun cdv A outer s H vs Q E hr h => ?_)
  · obtain ⟨F, p, l, P, n, b, rfl, _⟩ := h
    rfl
  · obtain ⟨F, p, l, P, n, b, rfl, fh, hPl, hP1, hP4, hn, q⟩ := h
    have nd := sc__law_log.nd
    refine ⟨_, pss_cons (ps_asg (pe_tup (pa_cons (pe_call G2 (hr.mono (by decide)) (by rfl) m2 k2 b2 .nil pass0 (pa_cons (pv 0) (pa_cons (pv 1) pa_nil))) (pa_cons (pe_lst pa_nil) (pa_cons (pe_op op_add pe_int (pe_call G1 (hr.mono (by decide)) (by rfl) m1 k1 b1 .nil pass0 (pa_cons (pv 0) (pa_cons pe_int pa_nil)))) pa_nil))))
        (pg_tup rfl (pgs_cons (pg_name (i := 4) nd rfl (.inr rfl)) (pgs_cons (pg_name (i := 5) nd rfl (.inl rfl)) (pgs_cons (pg_name (i := 6) nd rfl (.inr rfl)) pgs_nil)))))
      (pss_cons (ps_for PassesOwn.never rfl (pi_range1 (by rfl) T.range (pa_cons (pv 2) pa_nil)) (pg_name (i := 7) nd rfl (.inl rfl))
        (pss_cons (ps_set (i := 8) nd rfl (.inr rfl) (pe_call G1 (hr.mono (by decide)) (by rfl) m1 k1 b1 .nil pass0 (pa_cons (pv 0) (pa_cons (pv 1) pa_nil))))
        (pss_cons (ps_setLc (i := 9) (own := [("_law_other", 10)]) (g := gName 10) (tt := tAnd (tTest (tOp rNe (tVar 10) (tVar 8))) (tOr (tTest (tOp (rI0 fun i j => .bl (decide (i < j))) (tOp (rIxL K) (tVar 4) (tVar 10)) (tOp (rIxL K) (tVar 4) (tVar 8)))) (tNot (tB (tVar 3))))) rfl nd rfl rfl (sw_true rfl rfl rfl (by decide +kernel)) (pi_range1 (by rfl) T.range (pa_cons (pv 1) pa_nil))
            (blkOk_by (N := n__law_log) (sc := defScope s__law_log) (by decide +kernel)) (fun _ _ _ _ _ => pg_name (i := 10) nd rfl (.inl rfl))
            (fun _ _ _ _ _ => pts_one (PW.pt (pw_and (pt_cmpR op_ne (pv 10) (pv 8) (nomark _)) (pw_and1 (PW.pt (pw_or (pt_cmpR op_lt (pe_ix (ixL (K := K) rfl) (pv 4) (pv 10) (fun _ _ => rfl)) (pe_ix (ixL (K := K) rfl) (pv 4) (pv 8) (fun _ _ => rfl)) (nomark _)) (pw_or1 (pt_not (pt_val (pv 3))))))))))
            (fun _ _ _ _ _ => pv 10))
        (pss_one (ps_expr (pe_bm PySem.F.plainAttrs_list PySem.F.slot_list_append PySem.F.type_list_append mt_append (pv 5) (pa_cons (pe_tup (pa_cons (pv 8) (pa_cons (pe_callTy call_tuple_of (by rfl) T.tup boot_tuple (pa_cons
            (pe_lc (own := [("_law_other", 10)]) (g := gName 10) (tt := tTest (tOp rEq (tCall sp_law_draw [] E0 (tCons (tVar 0) (tCons (tOp (rI0 fun i j => .int (i + j)) (tVar 6) (tC (.int 1))) tNil))) (tC (.int 0)))) rfl nd (pi_list (pv 9)) (blkOk_by (N := n__law_log) (sc := defScope s__law_log) (by decide +kernel)) (fun _ _ _ _ _ => pg_name (i := 10) nd rfl (.inl rfl))
              (fun _ _ _ _ _ => pts_one (pt_cmpR op_eq (pe_call G1 (hr.mono (by decide)) (by rfl) m1 k1 b1 .nil pass0 (pa_cons (pv 0) (pa_cons (pe_op op_add (pv 6) pe_int) pa_nil))) pe_int (nomark _)))
              (fun _ _ _ _ _ => pv 10)) pa_nil)) pa_nil))) pa_nil)))))))
      (pss_one (ps_ret (pe_tup (pa_cons (pv 1) (pa_cons (pe_callTy call_tuple_of (by rfl) T.tup boot_tuple (pa_cons (pv 5) pa_nil)) pa_nil)))))), ?_⟩
    -- rank, rows, thin
    refine ⟨_, rfl, _, rfl, F, p, l, P, rfl, fh, hPl, by omega, fun F1 H1 u1 rk S1 P1 hu1 hrk => ?_⟩
    obtain ⟨ra, rfl, hra⟩ := hu1.row
    refine ⟨Nat.zero_le _, fun rw nrw => ?_⟩
    obtain ⟨rp, rl⟩ := P1.apart (F1 := F) (H1 := H) nrw
    have S2 := S1.newM (o := .lst []) nrw
    have P2 := P1.oth (o := .lst []) rp rl
    have rw0 : H rw = none := S1.dom _ nrw
    have rwF : F1 rw = none := S1.nofr nrw
    refine ⟨_, rfl, F1, p, l, 4, rfl, S2.fh, P2, by decide, by decide, fun H3 th S3 P3 hth => ?_⟩
    refine ⟨_, _, rfl, rfl, ?_⟩
    refine ⟨(by show 3 ≤ sizeLine; decide), fun z nz => ?_⟩
    obtain ⟨zp, zl⟩ := P3.apart (F1 := F) (H1 := H) nz
    refine ⟨z, _, rfl, SqT.of upd_same, rfl, _, _, rfl, _, _, rfl, _, _, rfl, rfl, ?_⟩
    have S4 := (S2.trans S3).newM (o := .tup [.ref ra, .ref rw, .int (1 + (th : Int))]) nz
    have P4 := P3.oth (o := .tup [.ref ra, .ref rw, .int (1 + (th : Int))]) zp zl
    have e3 : H3 rw = some (.lst []) := S3.keep (PL.not rp rl) upd_same
    have nzw : rw ≠ z := ne_of_none e3 nz
    -- the loop
    refine ⟨_, rfl, (n : Int), rfl, by omega, by omega, for_range (lo := 0) (n := n) (fun i σ H' => ∃ F5, Step (PL p l) F H F5 H' ∧ Pool F5 H' p l ∧ Same F1 F5 ∧ F5 rw = none ∧ (∃ x7 x8 x9 x10, σ = [some (.ref p), some (.int (P : Int)), some (.int (n : Int)), some (.bl b), some (.ref ra), some (.ref rw), some (.int (1 + (th : Int))), x7, x8, x9, x10]) ∧
        ∃ (xs : List V) (ds : List Dd), H' rw = some (.lst xs) ∧ DA F5 xs (ds.map eDeed) ∧ ds.length = i ∧ ∀ d ∈ ds, DeedOk P d)
      ⟨F1, S4, P4, Same.refl _, rwF, ⟨none, none, none, none, rfl⟩, [], [], by rw [upd_ne nzw]; exact e3, .nil, rfl, fun d m => nomatch m⟩ ?_ ?_⟩
    · rintro i σ H5 hi ⟨F5, S5, P5, s15, rw5, ⟨x7, x8, x9, x10, rfl⟩, xs, ds, erw, hxs, hdl, hok⟩
      refine ⟨_, rfl, _, rfl, F5, p, l, P, rfl, S5.fh, P5, hP1, by omega, fun H6 pg S6 P6 hpg => ?_⟩
      have S56 := S5.trans S6
      have erw6 : H6 rw = some (.lst xs) := S6.keep (PL.not rp rl) erw
      have hrank : F5 ra = some (.lst (rk.map V.int)) := s15 _ _ hra
      obtain ⟨rpg, hrpg⟩ : ∃ z, rk[pg]? = some z := ⟨_, List.getElem?_eq_getElem (by omega)⟩
      refine ⟨_, rfl, (P : Int), rfl, by omega, by omega, fun fr nfr => lc_it (n := P) (walk_range (lo := 0) (n := P)) (fun j H' => Pu F5 H6 F5 H' ∧ ∃ fs : List Nat, H' fr = some (.lst (fs.map nV)) ∧ (∀ x ∈ fs, x < j ∧ x ≠ pg) ∧ fs.Pairwise (· < ·) ∧ fs.length ≤ j)
        ⟨(Step.refl S6.fh).newM nfr, [], upd_same, fun x m => (nomatch m), List.Pairwise.nil, Nat.le_refl _⟩ (fun _ _ _ _ => trivial) ?_ ?_⟩
      · rintro j x H7 H8 hj ⟨S7, fs, efs, hf1, hf2, hf3⟩ ⟨rfl, rfl⟩
        have erank : H8 ra = some (.lst (rk.map V.int)) := S7.hereF hrank
        obtain ⟨rj, hrj⟩ : ∃ z, rk[j]? = some z := ⟨_, List.getElem?_eq_getElem (by omega)⟩
        have skip : Pu F5 H6 F5 H8 ∧ ∃ fs : List Nat, H8 fr = some (.lst (fs.map nV)) ∧ (∀ x ∈ fs, x < j + 1 ∧ x ≠ pg) ∧ fs.Pairwise (· < ·) ∧ fs.length ≤ j + 1 :=
          ⟨S7, fs, efs, fun x m => ⟨Nat.lt_succ_of_lt (hf1 x m).1, (hf1 x m).2⟩, hf2, Nat.le_succ_of_le hf3⟩
        have keep : j ≠ pg → ∃ acc, H8 fr = some (.lst acc) ∧ acc.length < sizeLine ∧ Pu F5 H6 F5 (upd H8 fr (.lst (acc ++ [V.int (0 + (j : Int))]))) ∧ ∃ fs : List Nat, (upd H8 fr (.lst (acc ++ [V.int (0 + (j : Int))]))) fr = some (.lst (fs.map nV)) ∧ (∀ x ∈ fs, x < j + 1 ∧ x ≠ pg) ∧ fs.Pairwise (· < ·) ∧ fs.length ≤ j + 1 := fun ne => by
          refine ⟨_, efs, by rw [List.length_map]; exact sizeN (by omega), S7.put (.inl nfr) (none_of_same S6.fh nfr) (by rw [efs]; intro z; cases z), fs ++ [j], ?_, ?_, ?_, by rw [List.length_append]; simp; omega⟩
          · rw [upd_same, List.map_append, Int.zero_add]
            rfl
          · intro x m
            rcases List.mem_append.mp m with m | m
            · exact ⟨Nat.lt_succ_of_lt (hf1 x m).1, (hf1 x m).2⟩
            · rw [List.mem_singleton.mp m]
              exact ⟨Nat.lt_succ_self _, ne⟩
          · rw [List.pairwise_append]
            refine ⟨hf2, List.pairwise_singleton _ _, fun x m y my => ?_⟩
            rw [List.mem_singleton.mp my]
            exact (hf1 x m).1
        refine ⟨rfl, ?_⟩
        refine ⟨_, rfl, _, rfl, rfl, _, rfl, ?_⟩
        by_cases c : j = pg
        · subst c
          exact iteNS (show V.int (0 + (j : Int)) = V.int (j : Int) by rw [Int.zero_add]) (iteF skip)
        · refine iteNN (fun z => c (by have := V.int.inj (show V.int (0 + (j : Int)) = V.int (pg : Int) from z); omega)) ?_
          refine ⟨_, rfl, _, rfl, ra, _, 0 + (j : Int), _, rfl, rfl, SqL.of erank, at_of (j := j) (by omega) (by rw [List.getElem?_map, hrj] <;> rfl), _, rfl, _, rfl, ra, _, (pg : Int), _, rfl, rfl, SqL.of erank, atI_nat (j := pg) (by rw [List.getElem?_map, hrpg] <;> rfl), rj, rpg, rfl, rfl, _, rfl, ?_⟩
          refine ite2 (fun e => ?_) (fun e => ?_)
          · exact iteT ⟨_, rfl, keep c⟩
          · refine ⟨_, rfl, b, rfl, ?_⟩
            cases b with
            | true => exact iteF skip
            | false => exact iteT ⟨_, rfl, keep c⟩
      · rintro H7 ⟨S7, fs, efs, hf1, hf2, hf3⟩
        have S57 := S56.trans S7.lift
        have P7 := P6.step S7
        have erw7 : H7 rw = some (.lst xs) := S7.same _ _ erw6
        obtain ⟨fp, fl⟩ := P6.apart (F1 := F) (H1 := H) nfr
        refine ⟨_, rfl, .inl ⟨rfl, _, SqL.of erw7⟩, ?_⟩
        refine ⟨_, rfl, ?_⟩
        refine ⟨_, rfl, fr, rfl, ⟨_, SqL.of efs⟩, fun D2 nD2 => lc_it (walk_list (xs := fs.map nV)) (fun j H' => Step (PL p l) F5 H7 F5 H' ∧ Pool F5 H' p l ∧ ∃ rd : List Nat, H' D2 = some (.lst (rd.map nV)) ∧ rd.Sublist (fs.take j))
          ⟨(Step.refl S7.fh).newM nD2, ?_, [], upd_same, List.nil_sublist _⟩ (fun j H' _ ⟨S, _⟩ => SqL.of (S.keep (PL.not fp fl) efs)) ?_ ?_⟩
        · obtain ⟨d1, d2⟩ := P7.apart (F1 := F) (H1 := H) nD2
          exact P7.oth d1 d2
        · rintro j x H8 H9 hj ⟨S8, P8, rd, erd, hsub⟩ ⟨rfl, hxj⟩
          obtain ⟨x, hx, rfl⟩ := nV_at hxj
          obtain ⟨d1, d2⟩ := P7.apart (F1 := F) (H1 := H) nD2
          have hrl : rd.length ≤ 10 := by
            have h1 := hsub.length_le
            rw [List.length_take] at h1
            omega
          refine ⟨rfl, ?_⟩
          refine ⟨_, rfl, _, rfl, _, _, rfl, rfl, F5, p, l, th + 2, by
            show [V.ref p, V.int (1 + (th : Int) + 1)] = [V.ref p, V.int ((th + 2 : Nat) : Int)]
            rw [show 1 + (th : Int) + 1 = ((th + 2 : Nat) : Int) by omega], S8.fh, P8, by omega, by omega, fun H10 r S10 P10 hr10 => ?_⟩
          have S810 := S8.trans S10
          have erd10 : H10 D2 = some (.lst (rd.map nV)) := S10.keep (PL.not d1 d2) erd
          have e1 : fs.take (j + 1) = fs.take j ++ [x] := by rw [List.take_add_one, hx]; rfl
          refine ⟨rfl, _, rfl, ?_⟩
          refine ite2 (fun e => ?_) (fun e => ?_)
          · refine ⟨_, rfl, _, erd10, by rw [List.length_map]; exact sizeN (by omega), S810.put (.inl nD2) (none_of_same S7.fh nD2) (by rw [erd10]; intro z; cases z), P10.oth d1 d2, rd ++ [x], ?_, ?_⟩
            · rw [upd_same, List.map_append]
              rfl
            · rw [e1]
              exact hsub.append (List.Sublist.refl _)
          · refine ⟨S810, P10, rd, erd10, ?_⟩
            rw [e1]
            exact List.Sublist.trans hsub (List.sublist_append_left _ _)
        · rintro H8 ⟨S8, P8, rd, erd, hsub⟩
          have hsub2 : rd.Sublist fs := List.Sublist.trans hsub (List.take_sublist _ _)
          have S58 := S57.trans S8
          have erw8 : H8 rw = some (.lst xs) := S8.keep (PL.not rp rl) erw7
          refine ⟨D2, _, rfl, .inl ⟨SqL.of erd, fun tp ntp => ?_⟩⟩
          have S9 := S58.newF (o := .tup (rd.map nV)) ntp
          obtain ⟨t1, t2⟩ := P8.apart (F1 := F) (H1 := H) ntp
          have P9 : Pool (upd F5 tp (.tup (rd.map nV))) (upd H8 tp (.tup (rd.map nV))) p l := (P8.fresh t1 t2).oth t1 t2
          refine ⟨(by show 2 ≤ sizeLine; decide), fun td ntd => ?_⟩
          have S10 := S9.newF (o := .tup [.int (pg : Int), .ref tp]) ntd
          obtain ⟨u1, u2⟩ := P9.apart (F1 := F) (H1 := H) ntd
          have P10 := (P9.fresh (o := .tup [.int (pg : Int), .ref tp]) u1 u2).oth (o := .tup [.int (pg : Int), .ref tp]) u1 u2
          have nrt : rw ≠ tp := ne_of_none erw8 ntp
          have nrd : rw ≠ td := fun z => by rw [← z, upd_ne nrt, erw8] at ntd; cases ntd
          have erw10 : (upd (upd H8 tp (.tup (rd.map nV))) td (.tup [.int (pg : Int), .ref tp])) rw = some (.lst xs) := by rw [upd_ne nrd, upd_ne nrt]; exact erw8
          have ntdtp : tp ≠ td := (upd_none ntd).1.symm
          have s1 := same_fresh (F := F5) (o := .tup (rd.map nV)) (S58.nofr ntp)
          have s2 := same_fresh (F := upd F5 tp (.tup (rd.map nV))) (o := .tup [.int (pg : Int), .ref tp]) (S9.nofr ntd)
          have hfl : xs.length ≤ 7 := by
            rw [hxs.len, List.length_map]
            omega
          refine ⟨rw, _, _, rfl, rfl, erw10, sizeN (by omega), ?_⟩
          refine ⟨_, S10.put (p := rw) (.inl rw0) (by rw [upd_ne nrd, upd_ne nrt]; exact rw5) (by rw [erw10]; intro z; cases z), P10.oth rp rl, s15.trans (s1.trans s2), by rw [upd_ne nrd, upd_ne nrt]; exact rw5, ⟨_, _, _, _, rfl⟩, xs ++ [.ref td], ds ++ [(pg, rd)], upd_same, ?_, by rw [List.length_append, hdl] <;> rfl, ?_⟩
          · refine (hxs.mono (s1.trans s2)).snoc_deeds (.of_deed upd_same ?_)
            rw [upd_ne ntdtp, upd_same]
          · intro d m
            rcases List.mem_append.mp m with m | m
            · exact hok d m
            · rw [List.mem_singleton.mp m]
              refine ⟨hpg, fun r mr => ?_, hf2.sublist hsub2⟩
              exact hf1 r (hsub2.subset mr)
    · rintro σ H5 ⟨F5, S5, P5, s15, rw5, ⟨x7, x8, x9, x10, rfl⟩, xs, ds, erw, hxs, hdl, hok⟩
      refine ⟨_, rfl, _, rfl, rw, _, rfl, .inl ⟨SqL.of erw, fun tp ntp => ?_⟩⟩
      have S9 := S5.newF (o := .tup xs) ntp
      obtain ⟨t1, t2⟩ := P5.apart (F1 := F) (H1 := H) ntp
      have P9 := (P5.fresh (o := .tup xs) t1 t2).oth (o := .tup xs) t1 t2
      refine ⟨(by show 2 ≤ sizeLine; decide), fun td ntd => ?_⟩
      have S10 := S9.newF (o := .tup [.int (P : Int), .ref tp]) ntd
      obtain ⟨u1, u2⟩ := P9.apart (F1 := F) (H1 := H) ntd
      have P10 := (P9.fresh (o := .tup [.int (P : Int), .ref tp]) u1 u2).oth (o := .tup [.int (P : Int), .ref tp]) u1 u2
      have ntdtp : tp ≠ td := (upd_none ntd).1.symm
      have s1 := same_fresh (F := F5) (o := .tup xs) (S5.nofr ntp)
      have s2 := same_fresh (F := upd F5 tp (.tup xs)) (o := .tup [.int (P : Int), .ref tp]) (S9.nofr ntd)
      refine q _ _ _ ds S10 P10 (.of_log (b := tp) (xs := xs) upd_same (by rw [upd_ne ntdtp, upd_same]) (hxs.mono (s1.trans s2))) ?_ hdl
      exact ⟨hP1, by omega, by omega, fun d m => (hok d m).1, fun d m => (hok d m).2.1, fun d m => (hok d m).2.2⟩
end
end K24

end
section
set_option Elab.async false
set_option linter.all false
set_option maxRecDepth 100000
set_option maxHeartbeats 4000000
namespace K24
open PySem PySem.Spec PyProof.Rows L2
theorem cut_take (xs : List V) {p : Nat} (h : p ≤ xs.length) : cutV xs none (some (p : Int)) = xs.take p := by
  unfold cutV
  rw [HT.sIx_none, show HT.sIx xs.length xs.length (some (p : Int)) = min p xs.length from HT.sIx_nat xs.length xs.length p, Nat.min_eq_left h]
  simp
theorem cut_drop (xs : List V) {p : Nat} (h : p ≤ xs.length) : cutV xs (some (p : Int)) none = xs.drop p := by
  unfold cutV
  rw [HT.sIx_none, show HT.sIx xs.length 0 (some (p : Int)) = min p xs.length from HT.sIx_nat xs.length 0 p, Nat.min_eq_left h]
  exact List.take_of_length_le (by simp)
theorem upd_keep {H : Hp} {b p : Addr} {o o' : HO} (h : H b = some o) (n : H p = none) : upd H p o' b = some o := by rw [upd_ne (ne_of_none h n)]; exact h
theorem take_drop_set {α : Type} : ∀ (l : List α) (p : Nat) (x : α), p < l.length → l.take p ++ [x] ++ l.drop (p + 1) = l.set p x
  | [], p, x, h => by simp at h
  | a :: l, 0, x, _ => by simp
  | a :: l, p + 1, x, h => by
    have := take_drop_set l p x (by simpa using h)
    simpa using this
section
variable {P : Program} {w : World} {K : PySem.W.Frag} {mg : Str → Option Value} {base : Heap}
def sp_law_table : Sp := fun vs H Q _ => ∃ (F : Hp) (v : V) (P : Nat) (ds : List Dd), vs = [v] ∧ Same F H ∧ D F v (eLog P ds) ∧ WF P ds ∧ Ret F H Q fun F' u => D F' u (eTab P ds)
theorem ok_law_table {f : Addr} {fd : FuncData} (F : Fun K "_law_table" "_law_table" s__law_table f fd) (T : Bi mg) :
    FnOk P w K mg base CX0 1 f fd ["_law_log_here"] sp_law_table := by
  refine F.ok sc__law_table (fun vs H Q E h => ?_) (fun cdv A outer s H vs Q E hr h => ?_)
  · obtain ⟨F, v, P, ds, rfl, _⟩ := h
    rfl
  · obtain ⟨F, v, P, ds, rfl, fh, hD, W, q⟩ := h
    obtain ⟨a, b, xs, rfl, ha, hb, hx⟩ := hD.log
    have hA := fh _ _ ha
    have hB := fh _ _ hb
    have hP2 := W.few
    have hl := W.short
    have hxl : xs.length = ds.length := by rw [hx.len, List.length_map]
    have nd := sc__law_table.nd
    refine ⟨_, pss_cons (ps_par (i := 1) (j := 2) rfl nd rfl rfl (by decide) rfl rfl (pa_cons (pe_op op_rep (pe_lst (pa_cons pe_int pa_nil)) (pe_ix ix_tup (pv 0) pe_int (fun _ _ => rfl))) (pa_cons (pe_lst pa_nil) pa_nil)) (by rfl))
      (pss_cons (ps_for PassesOwn.never rfl (pi_tup (pe_ix ix_tup (pv 0) pe_int (fun _ _ => rfl))) (pg_tup rfl (pgs_cons (pg_name (i := 3) nd rfl (.inl rfl)) (pgs_cons (pg_name (i := 4) nd rfl (.inl rfl)) pgs_nil)))
        (pss_cons (ps_expr (pe_bm PySem.F.plainAttrs_list PySem.F.slot_list_append PySem.F.type_list_append mt_append (pv 2) (pa_cons (pv 1) pa_nil)))
        (pss_one (ps_set (i := 1) nd rfl (.inl rfl) (pe_op op_cat (pe_op op_cat (pe_slice sl_list (pv 1) po_none (po_some (pv 3))) (pe_lst (pa_cons (pe_op op_add (pe_ix ix_list (pv 1) (pv 3) (fun _ _ => rfl)) pe_int) pa_nil)))
          (pe_slice sl_list (pv 1) (po_some (pe_op op_add (pv 3) pe_int)) po_none))))))
      (pss_one (ps_ret (pe_op op_cat (pv 2) (pe_lst (pa_cons (pv 1) pa_nil)))))), ?_⟩
    refine ⟨(by show 1 ≤ sizeLine; decide), fun z nz => ?_⟩
    have S1 : Pu F H F (upd H z (.lst [.int 0])) := (Step.refl fh).newM nz
    refine ⟨_, rfl, a, _, 0, _, rfl, rfl, SqT.of (S1.hereF ha), rfl, z, (P : Int), _, rfl, rfl, upd_same, by omega, by omega, ?_, fun r nr => ?_⟩
    · exact cut63 (by show 1 * ((P : Int)).toNat ≤ 1000; omega)
    have hrep : (List.replicate ((P : Int)).toNat [V.int 0]).flatten = (row P ds 0).map V.int := by
      rw [row_zero]
      simp
    rw [hrep]
    have S2 := S1.newM (o := .lst ((row P ds 0).map V.int)) nr
    have r0 : H r = none := S1.dom _ nr
    refine ⟨Nat.zero_le _, fun L nL => ?_⟩
    have L0 : H L = none := S2.dom _ nL
    have S3 := S2.newM (o := .lst []) nL
    have nrL : r ≠ L := ne_of_none upd_same nL
    have nLF : F L = none := none_of_same fh L0
    refine ⟨_, _, rfl, ?_⟩
    refine ⟨_, rfl, a, _, 1, _, rfl, rfl, SqT.of (S3.hereF ha), rfl, b, rfl, ⟨_, SqT.of (S3.hereF hb)⟩, for_tup (K := K) (a := b) (xs := xs) (fun i σ H' => Pu F H F H' ∧ ∃ (as : List Addr) (c : Addr) (x y : Option V), σ = [some (.ref a), some (.ref c), some (.ref L), x, y] ∧
        H' L = some (.lst (as.map V.ref)) ∧ as.length = i ∧ (H c = none ∧ c ≠ L ∧ H' c = some (.lst ((row P ds i).map V.int))) ∧ ∀ (j : Nat) (e : Addr), as[j]? = some e → H e = none ∧ e ≠ L ∧ H' e = some (.lst ((row P ds j).map V.int)))
      ⟨S3, [], r, none, none, rfl, upd_same, rfl, ⟨r0, nrL, by rw [upd_ne nrL, upd_same]⟩, fun j e h => by simp at h⟩ (fun i σ H' _ ⟨S, _⟩ => SqT.of (S.hereF hb)) ?_ ?_⟩
    · rintro i v σ H1 hv ⟨S, as, c, x, y, rfl, eL, hal, ⟨c0, cL, hcc⟩, hin⟩
      obtain ⟨d, hd, hDd⟩ := deeds_at' hx hv
      obtain ⟨e, e2, rfl, he, he2⟩ := hDd.deed
      have ok := W.all i d hd
      have hil := (List.getElem?_eq_some_iff.mp hd).1
      refine ⟨e, _, rfl, SqT.of (S.hereF he), rfl, _, _, rfl, _, _, rfl, rfl, ?_⟩
      refine ⟨_, rfl, .inl ⟨rfl, _, SqL.of eL⟩, _, rfl, L, _, _, rfl, rfl, eL, by rw [List.length_map, hal]; exact sizeN (by omega), ?_⟩
      have S4 := S.put (p := L) (o := .lst (as.map V.ref ++ [.ref c])) (.inl L0) nLF (by rw [eL]; intro z; cases z)
      have hcc4 : (upd H1 L (.lst (as.map V.ref ++ [.ref c]))) c = some (.lst ((row P ds i).map V.int)) := by rw [upd_ne cL]; exact hcc
      have eL4 : (upd H1 L (.lst (as.map V.ref ++ [.ref c]))) L = some (.lst ((as ++ [c]).map V.ref)) := by rw [upd_same, List.map_append]; rfl
      have hin4 : ∀ (j : Nat) (e : Addr), (as ++ [c])[j]? = some e → H e = none ∧ e ≠ L ∧ (upd H1 L (.lst (as.map V.ref ++ [.ref c]))) e = some (.lst ((row P ds j).map V.int)) := fun j z hz => by
        by_cases hj : j < as.length
        · rw [List.getElem?_append_left hj] at hz
          obtain ⟨h1, h2, h3⟩ := hin j z hz
          exact ⟨h1, h2, by rw [upd_ne h2]; exact h3⟩
        · have hjl := (List.getElem?_eq_some_iff.mp hz).1
          rw [List.length_append] at hjl
          have hji : j = i := by simp at hjl; omega
          subst hji
          rw [List.getElem?_append_right (by omega), hal] at hz
          have hz : c = z := by simpa using hz
          subst hz
          exact ⟨c0, cL, hcc4⟩
      generalize (upd H1 L (.lst (as.map V.ref ++ [.ref c]))) = H4 at S4 hcc4 eL4 hin4
      have hrl : ((row P ds i).map V.int).length = P := by rw [List.length_map, row_len]
      have hget : ((row P ds i).map V.int)[d.1]? = some (.int (ver ds i d.1 : Int)) := by rw [List.getElem?_map, row_at ds _ ok.1] <;> rfl
      refine ⟨_, rfl, _, rfl, (d.1 : Int), rfl, c, _, rfl, SqL.of hcc4, fun p1 n1 => ?_⟩
      rw [cut_take _ (by rw [hrl]; exact Nat.le_of_lt ok.1)]
      have S5 := S4.newM (o := .lst (((row P ds i).map V.int).take d.1)) n1
      have hc5 : (upd H4 p1 (.lst (((row P ds i).map V.int).take d.1))) c = _ := upd_keep hcc4 n1
      refine ⟨_, rfl, _, rfl, c, _, (d.1 : Int), _, rfl, rfl, SqL.of hc5, atI_nat hget, _, _, rfl, rfl, (by show 1 ≤ sizeLine; decide), fun p2 n2 => ?_⟩
      have S6 := S5.newM (o := .lst [.int ((ver ds i d.1 : Int) + 1)]) n2
      refine ⟨p1, p2, _, _, rfl, rfl, upd_keep upd_same n2, upd_same, ?_, fun p3 n3 => ?_⟩
      · refine cut63 ?_
        rw [List.length_take, hrl]
        show min d.1 P + 1 ≤ 1000
        omega
      have S7 := S6.newM (o := .lst (((row P ds i).map V.int).take d.1 ++ [.int ((ver ds i d.1 : Int) + 1)])) n3
      have hc7 := upd_keep (o' := .lst (((row P ds i).map V.int).take d.1 ++ [.int ((ver ds i d.1 : Int) + 1)])) (upd_keep (o' := .lst [.int ((ver ds i d.1 : Int) + 1)]) hc5 n2) n3
      refine ⟨_, rfl, _, rfl, _, _, rfl, rfl, _, rfl, c, _, rfl, SqL.of hc7, fun p4 n4 => ?_⟩
      have e1 : cutV ((row P ds i).map V.int) (some ((d.1 : Int) + 1)) none = ((row P ds i).map V.int).drop (d.1 + 1) := cut_drop _ (p := d.1 + 1) (by rw [hrl]; exact ok.1)
      rw [e1]
      have S8 := S7.newM (o := .lst (((row P ds i).map V.int).drop (d.1 + 1))) n4
      refine ⟨p3, p4, _, _, rfl, rfl, upd_keep upd_same n4, upd_same, ?_, fun p5 n5 => ?_⟩
      · refine cut63 ?_
        rw [List.length_append, List.length_take, List.length_drop, hrl]
        show min d.1 P + 1 + (P - (d.1 + 1)) ≤ 1000
        omega
      have S9 := S8.newM (o := .lst (((row P ds i).map V.int).take d.1 ++ [.int ((ver ds i d.1 : Int) + 1)] ++ ((row P ds i).map V.int).drop (d.1 + 1))) n5
      have keep : ∀ {b : Addr} {o : HO}, H4 b = some o → (upd (upd (upd (upd (upd H4 p1 (.lst (((row P ds i).map V.int).take d.1))) p2 (.lst [.int ((ver ds i d.1 : Int) + 1)])) p3 (.lst (((row P ds i).map V.int).take d.1 ++ [.int ((ver ds i d.1 : Int) + 1)]))) p4 (.lst (((row P ds i).map V.int).drop (d.1 + 1)))) p5 (.lst (((row P ds i).map V.int).take d.1 ++ [.int ((ver ds i d.1 : Int) + 1)] ++ ((row P ds i).map V.int).drop (d.1 + 1)))) b = some o :=
        fun h => upd_keep (upd_keep (upd_keep (upd_keep (upd_keep h n1) n2) n3) n4) n5
      have eset : ((row P ds i).map V.int).take d.1 ++ [V.int ((ver ds i d.1 : Int) + 1)] ++ ((row P ds i).map V.int).drop (d.1 + 1) = (row P ds (i + 1)).map V.int := by
        rw [take_drop_set _ _ _ (by rw [hrl]; exact ok.1), row_succ (p := d.1) (rs := d.2) hd, List.map_set]
      refine ⟨S9, as ++ [c], p5, _, _, rfl, keep eL4, by rw [List.length_append, hal] <;> rfl, ⟨S8.dom _ n5, ?_, ?_⟩, fun j z hz => ?_⟩
      · intro z
        have := S8.dom _ n5
        rw [z] at n5
        have h1 := upd_keep (o' := .lst (((row P ds i).map V.int).drop (d.1 + 1))) (upd_keep (o' := .lst (((row P ds i).map V.int).take d.1 ++ [.int ((ver ds i d.1 : Int) + 1)])) (upd_keep (o' := .lst [.int ((ver ds i d.1 : Int) + 1)]) (upd_keep (o' := .lst (((row P ds i).map V.int).take d.1)) eL4 n1) n2) n3) n4
        rw [h1] at n5
        cases n5
      · rw [upd_same, eset]
      · obtain ⟨h1, h2, h3⟩ := hin4 j z hz
        exact ⟨h1, h2, keep h3⟩
    · rintro σ H1 ⟨S, as, c, x, y, rfl, eL, hal, ⟨c0, cL, hcc⟩, hin⟩
      refine ⟨_, rfl, _, rfl, (by show 1 ≤ sizeLine; decide), fun p1 n1 => ?_⟩
      have S4 := S.newM (o := .lst [.ref c]) n1
      refine ⟨L, p1, _, _, rfl, rfl, upd_keep eL n1, upd_same, ?_, fun p2 n2 => ?_⟩
      · refine cut63 ?_
        rw [List.length_map, hal, hxl]
        show ds.length + 1 ≤ 1000
        omega
      have S5 := S4.newM (o := .lst (as.map V.ref ++ [.ref c])) n2
      refine q _ _ _ S5.all (.lst (xs := (as ++ [c]).map V.ref) (froz_new (S4.dom _ n2) (by rw [upd_same, List.map_append]; rfl)) ?_)
      have := rows_frz (H := H) (F1 := F) (H2 := upd (upd H1 p1 (.lst [.ref c])) p2 (.lst (as.map V.ref ++ [.ref c]))) (row P ds) (as ++ [c]) 0 fun j e he => by
        rw [Nat.zero_add]
        by_cases hj : j < as.length
        · rw [List.getElem?_append_left hj] at he
          obtain ⟨h1, h2, h3⟩ := hin j e he
          exact ⟨h1, upd_keep (upd_keep h3 n1) n2⟩
        · have hjl := (List.getElem?_eq_some_iff.mp he).1
          rw [List.length_append] at hjl
          have hji : j = xs.length := by simp at hjl; omega
          subst hji
          rw [List.getElem?_append_right (by omega), hal] at he
          have he : c = e := by simpa using he
          subst he
          exact ⟨c0, upd_keep (upd_keep hcc n1) n2⟩
      rw [List.length_append, hal, hxl] at this
      rw [List.range_eq_range']
      exact this
end
end K24

end
section
set_option Elab.async false
set_option linter.all false
set_option maxRecDepth 100000
set_option maxHeartbeats 4000000
namespace K24
open PySem PySem.Spec PyProof.Rows L2
theorem at_neg1 {xs : List V} {n : Nat} {v : V} (hl : xs.length = n + 1) (h : xs[n]? = some v) : atI xs (-1) = some v := by
  have e : ixN xs.length (-1) = some n := by
    unfold ixN
    rw [hl, if_neg (by decide), if_pos (by omega)]
    congr 1
    omega
  unfold atI
  rw [e]
  exact h
section
variable {P : Program} {w : World} {K : PySem.W.Frag} {mg : Str → Option Value} {base : Heap}
def sp_law_image : Sp := fun vs H Q _ => ∃ (F : Hp) (p l : Addr) (v tv : V) (P lost : Nat) (ds : List Dd), vs = [.ref p, v, tv, .int (lost : Int)] ∧ Same F H ∧ Pool F H p l ∧ D F v (eLog P ds) ∧ WF P ds ∧ D F tv (eTab P ds) ∧ lost ≤ 100 ∧
  ∀ F' H' u (im : Im), Step (PL p l) F H F' H' → Pool F' H' p l → D F' u (eImg im) → InR P ds im → Q u H'
theorem ok_law_image {f : Addr} {fd : FuncData} (F : Fun K "_law_image" "_law_image" s__law_image f fd) (T : Bi mg) (C1 : Cal P w K mg base "_law_draw" 1 ["_law_pool_here", "_law_many"] sp_law_draw) :
    FnOk P w K mg base CX0 2 f fd ["_law_pool_here", "_law_log_here", "_law_table_here", "_law_lost"] sp_law_image := by
  obtain ⟨f1, fd1, G1, m1, k1, b1⟩ := C1
  refine F.ok sc__law_image (fun vs H Q E h => ?_) (fun cdv A outer s H vs Q E hr h => ?_)
  · obtain ⟨F, p, l, v, tv, P, lost, ds, rfl, _⟩ := h
    rfl
  · obtain ⟨F, p, l, v, tv, P, lost, ds, rfl, fh, hPl, hD, W, hT, hlost, q⟩ := h
    obtain ⟨a, b, xs, rfl, ha, hb, hx⟩ := hD.log
    obtain ⟨t, rows, rfl, ht, hrows⟩ := hT.list'
    have hrl := hrows.tab_len
    have hP2 := W.few
    have hl := W.short
    have nd := sc__law_image.nd
    obtain ⟨cn, hcn, hcnr⟩ := hrows.tab (s := ds.length) (Nat.le_refl _)
    refine ⟨_, pss_cons (ps_par3 (i := 4) (j := 5) (l := 6) rfl nd rfl rfl rfl (by decide) (by decide) (by decide) rfl rfl rfl (pa_cons (pe_ix ix_list (pv 2) (pe_un un_neg pe_int) (fun _ _ => rfl)) (pa_cons (pe_ix ix_list (pv 2) (pe_call G1 (hr.mono (by decide)) (by rfl) m1 k1 b1 .nil pass0 (pa_cons (pv 0) (pa_cons (pe_callB call_len_seq (by rfl) T.len boot_len (pa_cons (pv 2) pa_nil)) pa_nil))) (fun _ _ => rfl))
          (pa_cons (pe_call G1 (hr.mono (by decide)) (by rfl) m1 k1 b1 .nil pass0 (pa_cons (pv 0) (pa_cons pe_int pa_nil))) pa_nil))) (by rfl))
      (pss_cons (ps_set (i := 7) nd rfl (.inl rfl) (pe_lst pa_nil))
      (pss_cons (ps_for PassesOwn.never rfl (pi_range1 (by rfl) T.range (pa_cons (pe_ix ix_tup (pv 1) pe_int (fun _ _ => rfl)) pa_nil)) (pg_name (i := 8) nd rfl (.inl rfl))
        (pss_cons (ps_set (i := 9) nd rfl (.inl rfl) (pe_call G1 (hr.mono (by decide)) (by rfl) m1 k1 b1 .nil pass0 (pa_cons (pv 0) (pa_cons (pe_op op_add (pe_ix ix_list (pv 4) (pv 8) (fun _ _ => rfl)) pe_int) pa_nil))))
        (pss_cons (ps_if (PW.pt (pw_and (pt_cmpR op_gt (pv 6) pe_int (nomark _)) (pw_and1 (pt_cmpR op_gt (pe_call G1 (hr.mono (by decide)) (by rfl) m1 k1 b1 .nil pass0 (pa_cons (pv 0) (pa_cons pe_int pa_nil))) pe_int (nomark _)))))
          (pss_one (ps_set (i := 9) nd rfl (.inl rfl) (pe_ix ix_list (pv 5) (pv 8) (fun _ _ => rfl)))) pss_nil)
        (pss_one (ps_expr (pe_bm PySem.F.plainAttrs_list PySem.F.slot_list_append PySem.F.type_list_append mt_append (pv 7) (pa_cons (pe_ifExp (PW.pt (pw_and (pt_cmpR op_gt (pv 3) pe_int (nomark _)) (pw_and1 (pt_cmpR op_eq (pe_call G1 (hr.mono (by decide)) (by rfl) m1 k1 b1 .nil pass0 (pa_cons (pv 0) (pa_cons (pv 3) pa_nil))) pe_int (nomark _)))))
          pe_non (pv 9)) pa_nil)))))))
      (pss_one (ps_ret (pe_callTy call_tuple_of (by rfl) T.tup boot_tuple (pa_cons (pv 7) pa_nil)))))), ?_⟩
    -- newest, row, way
    refine ⟨_, rfl, 1, rfl, t, rows, -1, _, rfl, rfl, SqL.of (fh _ _ ht), at_neg1 hrl hcn, ?_⟩
    refine ⟨_, rfl, _, rfl, _, rfl, t, _, rfl, .inl (SqL.of (fh _ _ ht)), F, p, l, ds.length + 1, by rw [hrl] <;> rfl, fh, hPl, by omega, by omega, fun H1 s S1 P1 hs => ?_⟩
    obtain ⟨cs, hcs, hcsr⟩ := hrows.tab (s := s) (by omega)
    refine ⟨t, rows, (s : Int), _, rfl, rfl, SqL.of (S1.hereF ht), atI_nat hcs, ?_⟩
    refine ⟨_, rfl, F, p, l, 3, rfl, S1.fh, P1, by decide, by decide, fun H2 way S2 P2 hway => ?_⟩
    have S12 := S1.trans S2
    refine ⟨_, _, _, rfl, ?_⟩
    refine ⟨Nat.zero_le _, fun im0 nim => ?_⟩
    obtain ⟨i1, i2⟩ := P2.apart (F1 := F) (H1 := H) nim
    have S3 := S12.newM (o := .lst []) nim
    have P3 := P2.oth (o := .lst []) i1 i2
    have im00 : H im0 = none := S12.dom _ nim
    have imF : F im0 = none := S12.nofr nim
    refine ⟨_, rfl, a, _, 0, _, rfl, rfl, SqT.of (S3.hereF ha), rfl, (P : Int), rfl, by omega, by omega, for_range (lo := 0) (n := P) (fun i σ H' => Step (PL p l) F H F H' ∧ Pool F H' p l ∧ (∃ x8 x9, σ = [some (.ref p), some (.ref a), some (.ref t), some (.int (lost : Int)), some (.ref cn), some (.ref cs), some (.int (way : Int)), some (.ref im0), x8, x9]) ∧
        ∃ im : Im, H' im0 = some (.lst (im.map oV)) ∧ im.length = i ∧ ∀ (q : Nat) z, im[q]? = some (some z) → 0 ≤ z ∧ z ≤ (ver ds ds.length q : Int))
      ⟨S3, P3, ⟨none, none, rfl⟩, [], upd_same, rfl, fun q z e => by simp at e⟩ ?_ ?_⟩
    · rintro i σ H3 hi ⟨S3, P3, ⟨x8, x9, rfl⟩, im, eim, hil, him⟩
      have hvn : ver ds ds.length i ≤ 400 := by
        have h1 := own_len ds i ds.length (Nat.le_refl _)
        have h2 := own_le ds ds.length i
        omega
      refine seq_of (fun σ' H' => Step (PL p l) F H F H' ∧ Pool F H' p l ∧ (∃ z : Int, σ' = [some (.ref p), some (.ref a), some (.ref t), some (.int (lost : Int)), some (.ref cn), some (.ref cs), some (.int (way : Int)), some (.ref im0), some (.int (i : Int)), some (.int z)] ∧ 0 ≤ z ∧ z ≤ (ver ds ds.length i : Int)) ∧ H' im0 = some (.lst (im.map oV))) ?_ (fun rest1 => ?_)
      · rintro σ H4 ⟨S4, P4, ⟨z, rfl, hz0, hz1⟩, eim4⟩
        refine seq_of (fun σ' H' => Step (PL p l) F H F H' ∧ Pool F H' p l ∧ (∃ z : Int, σ' = [some (.ref p), some (.ref a), some (.ref t), some (.int (lost : Int)), some (.ref cn), some (.ref cs), some (.int (way : Int)), some (.ref im0), some (.int (i : Int)), some (.int z)] ∧ 0 ≤ z ∧ z ≤ (ver ds ds.length i : Int)) ∧ H' im0 = some (.lst (im.map oV))) ?_ (fun rest2 => ?_)
        · rintro σ H5 ⟨S5, P5, ⟨z, rfl, hz0, hz1⟩, eim5⟩
          have fin : ∀ (H6 : Hp) (o : Option Int), Step (PL p l) F H F H6 → Pool F H6 p l → H6 im0 = some (.lst (im.map oV)) → (∀ y, o = some y → 0 ≤ y ∧ y ≤ (ver ds ds.length i : Int)) →
              Step (PL p l) F H F (upd H6 im0 (.lst (im.map oV ++ [oV o]))) ∧ Pool F (upd H6 im0 (.lst (im.map oV ++ [oV o]))) p l ∧ (∃ x8 x9, [some (V.ref p), some (V.ref a), some (V.ref t), some (V.int (lost : Int)), some (V.ref cn), some (V.ref cs), some (V.int (way : Int)), some (V.ref im0), some (V.int (i : Int)), some (V.int z)] = [some (V.ref p), some (V.ref a), some (V.ref t), some (V.int (lost : Int)), some (V.ref cn), some (V.ref cs), some (V.int (way : Int)), some (V.ref im0), x8, x9]) ∧
                ∃ im' : Im, (upd H6 im0 (.lst (im.map oV ++ [oV o]))) im0 = some (.lst (im'.map oV)) ∧ im'.length = i + 1 ∧ ∀ (q : Nat) z, im'[q]? = some (some z) → 0 ≤ z ∧ z ≤ (ver ds ds.length q : Int) := by
            intro H6 o S6 P6 e6 ho
            refine ⟨S6.put (.inl im00) imF (by rw [e6]; intro z; cases z), P6.oth i1 i2, ⟨_, _, rfl⟩, im ++ [o], by rw [upd_same, List.map_append] <;> rfl, by rw [List.length_append, hil] <;> rfl, fun q y hq => ?_⟩
            by_cases c : q < im.length
            · rw [List.getElem?_append_left c] at hq
              exact him q y hq
            · have hql := (List.getElem?_eq_some_iff.mp hq).1
              rw [List.length_append] at hql
              have hqi : q = i := by simp at hql; omega
              subst hqi
              rw [List.getElem?_append_right (by omega), hil] at hq
              exact ho y (by simpa using hq)
          have hlen : (im.map oV).length < sizeLine := by rw [List.length_map, hil]; exact sizeN (by omega)
          refine ⟨_, rfl, .inl ⟨rfl, _, SqL.of eim5⟩, ?_⟩
          refine ⟨_, rfl, _, _, rfl, rfl, _, rfl, ?_⟩
          refine ite2 (fun e => ?_) (fun e => ?_)
          · have e := of_decide_eq_true e
            refine ⟨_, rfl, _, rfl, F, p, l, lost, rfl, S5.fh, P5, by omega, by omega, fun H6 r S6 P6 hr6 => ?_⟩
            have eim6 : H6 im0 = some (.lst (im.map oV)) := S6.keep (PL.not i1 i2) eim5
            refine ⟨rfl, _, rfl, ?_⟩
            refine ite2 (fun e => ?_) (fun e => ?_)
            · exact ⟨im0, _, _, rfl, rfl, eim6, hlen, fin H6 none (S5.trans S6) P6 eim6 fun y h => nomatch h⟩
            · exact ⟨_, rfl, im0, _, _, rfl, rfl, eim6, hlen, fin H6 (some z) (S5.trans S6) P6 eim6 fun y h => by cases h; exact ⟨hz0, hz1⟩⟩
          · refine iteF ?_
            exact ⟨_, rfl, im0, _, _, rfl, rfl, eim5, hlen, fin H5 (some z) S5 P5 eim5 fun y h => by cases h; exact ⟨hz0, hz1⟩⟩
        · refine ⟨_, rfl, _, _, rfl, rfl, _, rfl, ?_⟩
          refine ite2 (fun e => ?_) (fun e => ?_)
          · refine ⟨_, rfl, F, p, l, 3, rfl, S4.fh, P4, by decide, by decide, fun H5 r S5 P5 hr5 => ?_⟩
            have eim5 : H5 im0 = some (.lst (im.map oV)) := S5.keep (PL.not i1 i2) eim4
            refine ⟨_, _, rfl, rfl, _, rfl, ?_⟩
            refine ite2 (fun e => ?_) (fun e => ?_)
            · refine ⟨_, rfl, _, rfl, cs, _, (i : Int), _, rfl, rfl, SqL.of ((S4.trans S5).hereF hcsr), atI_nat (j := i) (by rw [List.getElem?_map, row_at ds _ hi] <;> rfl), rest2 _ _ ⟨S4.trans S5, P5, ⟨_, rfl, by omega, ?_⟩, eim5⟩⟩
              have := ver_le ds s i
              omega
            · exact rest2 _ _ ⟨S4.trans S5, P5, ⟨z, rfl, hz0, hz1⟩, eim5⟩
          · exact iteF (rest2 _ _ ⟨S4, P4, ⟨z, rfl, hz0, hz1⟩, eim4⟩)
      · refine ⟨_, rfl, _, rfl, _, rfl, cn, _, 0 + (i : Int), _, rfl, rfl, SqL.of (S3.hereF hcnr), at_of (j := i) (by omega) (by rw [List.getElem?_map, row_at ds _ hi] <;> rfl), _, _, rfl, rfl, ?_⟩
        refine ⟨F, p, l, ver ds ds.length i + 1, rfl, S3.fh, P3, by omega, by omega, fun H4 r S4 P4 hr4 => ?_⟩
        refine rest1 _ _ ⟨S3.trans S4, P4, ⟨(r : Int), ?_, by omega, by omega⟩, S4.keep (PL.not i1 i2) eim⟩
        show [some (V.ref p), some (V.ref a), some (V.ref t), some (V.int (lost : Int)), some (V.ref cn), some (V.ref cs), some (V.int (way : Int)), some (V.ref im0), some (V.int (0 + (i : Int))), some (V.int (r : Int))] = [some (V.ref p), some (V.ref a), some (V.ref t), some (V.int (lost : Int)), some (V.ref cn), some (V.ref cs), some (V.int (way : Int)), some (V.ref im0), some (V.int (i : Int)), some (V.int (r : Int))]
        rw [Int.zero_add]
    · rintro σ H3 ⟨S3, P3, ⟨x8, x9, rfl⟩, im, eim, hil, him⟩
      refine ⟨_, rfl, im0, _, rfl, .inl ⟨SqL.of eim, fun c nc => ?_⟩⟩
      obtain ⟨c1, c2⟩ := P3.apart (F1 := F) (H1 := H) nc
      exact q _ _ _ im (S3.newF nc) ((P3.fresh c1 c2).oth c1 c2) (.of_img upd_same) ⟨hil, him⟩
end
end K24

end
section
set_option Elab.async false
set_option linter.all false
set_option maxRecDepth 100000
set_option maxHeartbeats 4000000
namespace K24
open PySem PySem.Spec PyProof.Rows L2
/-- the reads that do not stand at moment t -/
def mis (ds : List Dd) (im : Im) (t : Nat) (rs : List Nat) : List Int := (rs.filter fun r => !decide (im[r]? = some (some (ver ds t r : Int)))).map fun r : Nat => (r : Int)
theorem mis_snoc (ds : List Dd) (im : Im) (t : Nat) (rs : List Nat) (r : Nat) : mis ds im t (rs ++ [r]) = mis ds im t rs ++ (if im[r]? = some (some (ver ds t r : Int)) then [] else [(r : Int)]) := by
  unfold mis
  rw [List.filter_append, List.map_append]
  congr 1
  by_cases h : im[r]? = some (some (ver ds t r : Int))
  · rw [if_pos h, List.filter_cons_of_neg (by simp [h])]
    rfl
  · rw [if_neg h, List.filter_cons_of_pos (by simp [h])]
    rfl
theorem mis_len (ds : List Dd) (im : Im) (t : Nat) (rs : List Nat) : (mis ds im t rs).length ≤ rs.length := by
  unfold mis
  rw [List.length_map]
  exact List.length_filter_le _ _
theorem mis_nil {ds : List Dd} {im : Im} {t : Nat} {rs : List Nat} : (mis ds im t rs).isEmpty = true ↔ ∀ r ∈ rs, im[r]? = some (some (ver ds t r : Int)) := by
  unfold mis
  rw [List.isEmpty_iff, List.map_eq_nil_iff, List.filter_eq_nil_iff]
  constructor
  · intro h r m
    have := h r m
    simpa using this
  · intro h r m
    simp [h r m]
section
variable {P : Program} {w : World} {K : PySem.W.Frag} {mg : Str → Option Value} {base : Heap}
def sp_law_moved : Sp := fun vs H Q _ => ∃ (F : Hp) (v tv iv : V) (t : Nat) (up : Bool) (P : Nat) (ds : List Dd) (im : Im), vs = [v, tv, iv, .int ((t : Int) + 1), .int (if up = true then 1 else -1)] ∧ Same F H ∧ D F v (eLog P ds) ∧ WF P ds ∧ D F tv (eTab P ds) ∧ D F iv (eImg im) ∧
  im.length = P ∧ t < ds.length ∧ Ret F H Q fun F' u => D F' u (eImg ((moved ds im t up).getD []))
theorem ok_law_moved {f : Addr} {fd : FuncData} (F : Fun K "_law_moved" "_law_moved" s__law_moved f fd) (T : Bi mg) :
    FnOk P w K mg base CX0 1 f fd ["_law_log_here", "_law_table_here", "_law_image_here", "_law_t", "_law_way"] sp_law_moved := by
  refine F.ok sc__law_moved (fun vs H Q E h => ?_) (fun cdv A outer s H vs Q E hr h => ?_)
  · obtain ⟨F, v, tv, iv, t, up, P, ds, im, rfl, _⟩ := h
    rfl
  · obtain ⟨F, v, tv, iv, t, up, P, ds, im, rfl, fh, hD, W, hT, hI, hlen, ht, q⟩ := h
    obtain ⟨a, b, xs, rfl, ha, hb, hx⟩ := hD.log
    obtain ⟨tb, rows, rfl, htb, hrows⟩ := id hT.list'
    obtain ⟨c, hc, hcr⟩ := hrows.tab (s := t + 1) ht
    obtain ⟨⟨p, rs⟩, hd⟩ : ∃ d, ds[t]? = some d := ⟨_, List.getElem?_eq_getElem ht⟩
    obtain ⟨dv, hdv, hDd⟩ := deeds_at hx hd
    obtain ⟨e, e2, rfl, he, he2⟩ := hDd.deed
    obtain ⟨hp, hrp, hasc, _⟩ := W.at hd
    obtain ⟨i0, rfl, hi0⟩ := hI.img
    have hP2 := W.few
    have nd := sc__law_moved.nd
    have hrow : ∀ r, r < P → ((row P ds (t + 1)).map V.int)[r]? = some (.int (ver ds (t + 1) r : Int)) := fun r h => by rw [List.getElem?_map, row_at ds _ h] <;> rfl
    have hti : (t : Int) + 1 = ((t + 1 : Nat) : Int) := by omega
    refine ⟨_, pss_cons (ps_asg (pe_ix ix_tup (pe_ix ix_tup (pv 0) pe_int (fun _ _ => rfl)) (pe_op op_sub (pv 3) pe_int) (fun _ _ => rfl)) (pg_tup rfl (pgs_cons (pg_name (i := 5) nd rfl (.inr rfl)) (pgs_cons (pg_name (i := 6) nd rfl (.inl rfl)) pgs_nil))))
      (pss_cons (ps_set (i := 7) nd rfl (.inr rfl) (pe_ix ix_list (pv 1) (pv 3) (fun _ _ => rfl)))
      (pss_cons (ps_set (i := 8) nd rfl (.inr rfl) (pe_ifExp (pt_cmpR op_eq (pv 4) pe_int (nomark _)) (pe_op op_sub (pe_ix ix_list (pv 7) (pv 5) (fun _ _ => rfl)) pe_int) (pe_ix ix_list (pv 7) (pv 5) (fun _ _ => rfl))))
      (pss_cons (ps_if (PW.pt (pw_or (pt_cmpR op_ne (pe_ix ix_tup (pv 2) (pv 5) (fun _ _ => rfl)) (pv 8) (nomark _)) (pw_or1 (pt_cmpR (op_neD hr.units)
            (pe_lc (own := [("_law_read", 10)]) (g := gName 10) (tt := tTest (tOp rNe (tOp (rIxT K) (tVar 2) (tVar 10)) (tOp (rIxL K) (tVar 7) (tVar 10)))) rfl nd (pi_tup (pv 6)) (blkOk_by (N := n__law_moved) (sc := defScope s__law_moved) (by decide +kernel)) (fun _ _ _ _ _ => pg_name (i := 10) nd rfl (.inl rfl))
              (fun _ _ _ _ _ => pts_one (pt_cmpR op_ne (pe_ix (ixT (K := K) rfl) (pv 2) (pv 10) (fun _ _ => rfl)) (pe_ix (ixL (K := K) rfl) (pv 7) (pv 10) (fun _ _ => rfl)) (nomark _)))
              (fun _ _ _ _ _ => pv 10)) (pe_lst pa_nil) (nomark _)))))
          (pss_one (ps_ret (pe_tup pa_nil))) pss_nil)
      (pss_one (ps_ret (pe_callTy call_tuple_of (by rfl) T.tup boot_tuple (pa_cons
          (pe_lc (own := [("_law_other", 9)]) (g := gName 9) (tt := tYes) rfl nd (pi_range1 (by rfl) T.range (pa_cons (pe_ix ix_tup (pv 0) pe_int (fun _ _ => rfl)) pa_nil)) (blkOk_by (N := n__law_moved) (sc := defScope s__law_moved) (by decide +kernel)) (fun _ _ _ _ _ => pg_name (i := 9) nd rfl (.inl rfl))
            (fun _ _ _ _ _ => pts_nil)
            (fun _ _ _ _ _ => pe_ifExp (pt_cmpR op_eq (pv 9) (pv 5) (nomark _)) (pe_op op_add (pv 8) (pv 4)) (pe_ix (ixT (K := K) rfl) (pv 2) (pv 9) (fun _ _ => rfl)))) pa_nil))))))), ?_⟩
    refine seq_of (fun σ' H' => H' = H ∧ σ' = [some (.ref a), some (.ref tb), some (.ref i0), some (.int ((t : Int) + 1)), some (.int (if up = true then 1 else -1)), some (.int (p : Int)), some (.ref e2), none, none, none, none]) ?_ (fun rest0 => ⟨_, rfl, a, _, 1, _, rfl, rfl, SqT.of (fh _ _ ha), rfl, _, rfl, _, _, rfl, rfl, b, xs, (t : Int) + 1 - 1, _, rfl, rfl, SqT.of (fh _ _ hb), at_of (j := t) (by omega) hdv, e, _, rfl, SqT.of (fh _ _ he), rfl, _, _, rfl, _, _, rfl, rfl, rest0 _ _ ⟨rfl, rfl⟩⟩)
    rintro σ H0 ⟨rfl, rfl⟩
    refine seq_of (fun σ' H' => H' = H0 ∧ σ' = [some (.ref a), some (.ref tb), some (.ref i0), some (.int ((t : Int) + 1)), some (.int (if up = true then 1 else -1)), some (.int (p : Int)), some (.ref e2), some (.ref c), none, none, none]) ?_ (fun rest0 => ⟨_, rfl, _, rfl, tb, rows, (t : Int) + 1, _, rfl, rfl, SqL.of (fh _ _ htb), at_of (j := t + 1) hti hc, rest0 _ _ ⟨rfl, rfl⟩⟩)
    rintro σ H00 ⟨rfl, rfl⟩
    -- ahead
    refine seq_of (fun σ' H' => H' = H00 ∧ σ' = [some (.ref a), some (.ref tb), some (.ref i0), some (.int ((t : Int) + 1)), some (.int (if up = true then 1 else -1)), some (.int (p : Int)), some (.ref e2), some (.ref c), some (.int (if up = true then (ver ds (t + 1) p : Int) - 1 else (ver ds (t + 1) p : Int))), none, none]) ?_ (fun rest => ?_)
    · rintro σ H1 ⟨rfl, rfl⟩
      obtain ⟨o, ho⟩ : ∃ o, im[p]? = some o := ⟨_, List.getElem?_eq_getElem (by omega)⟩
      have hio : (im.map oV)[p]? = some (oV o) := by rw [List.getElem?_map, ho] <;> rfl
      have hscal : scal (oV o) (.int (if up = true then (ver ds (t + 1) p : Int) - 1 else (ver ds (t + 1) p : Int))) = true := by cases o <;> rfl
      refine ⟨_, rfl, _, rfl, i0, _, (p : Int), _, rfl, rfl, SqT.of (fh _ _ hi0), atI_nat (j := p) hio, _, rfl, hscal, _, rfl, ?_⟩
      -- no move: an empty tuple
      have no : ∀ (H2 : Hp) (F2 : Hp), Pu F H1 F2 H2 → ¬ (im[p]? = some (some (if up = true then (ver ds (t + 1) p : Int) - 1 else (ver ds (t + 1) p : Int))) ∧ ∀ r ∈ rs, im[r]? = some (some (ver ds (t + 1) r : Int))) →
          (([] : List V)).length ≤ sizeLine ∧ ∀ z, H2 z = none → Q (.ref z) (upd H2 z (.tup [])) := fun H2 F2 S hno => by
        refine ⟨Nat.zero_le _, fun z nz => q _ _ _ (S.newF nz) ?_⟩
        rw [moved_no hd hno]
        exact .tup upd_same .nil
      by_cases c1 : o = some (if up = true then (ver ds (t + 1) p : Int) - 1 else (ver ds (t + 1) p : Int))
      · refine iteNS (by rw [c1]; rfl) ?_
        -- the reads
        refine ⟨_, rfl, e2, rfl, ⟨_, SqT.of (fh _ _ he2)⟩, fun Dl nDl => lc_it (walk_tup (xs := rs.map nV)) (fun i H' => Pu F H1 F H' ∧ H' Dl = some (.lst ((mis ds im (t + 1) (rs.take i)).map V.int)))
          ⟨(Step.refl fh).newM nDl, upd_same⟩ (fun i H' _ ⟨S, _⟩ => SqT.of (S.hereF he2)) ?_ ?_⟩
        · rintro i x H2 H3 hi ⟨S, eD⟩ ⟨rfl, hxi⟩
          obtain ⟨r, hri, rfl⟩ := nV_at hxi
          have hrP := (hrp r (List.mem_of_getElem? hri)).1
          obtain ⟨o', ho'⟩ : ∃ o, im[r]? = some o := ⟨_, List.getElem?_eq_getElem (by omega)⟩
          have hsc : scal (oV o') (.int (ver ds (t + 1) r : Int)) = true := by cases o' <;> rfl
          have e1 : rs.take (i + 1) = rs.take i ++ [r] := by rw [List.take_add_one, hri]; rfl
          have hml : (mis ds im (t + 1) (rs.take i)).length ≤ 100 := by
            have h1 := mis_len ds im (t + 1) (rs.take i)
            rw [List.length_take] at h1
            have h2 : rs.length ≤ P := by
              have hsub : ∀ r ∈ rs, r ∈ List.range P := fun r m => List.mem_range.mpr (hrp r m).1
              have := nodup_le (l := rs) (m := List.range P) (hasc.imp fun h => Nat.ne_of_lt h) hsub
              simpa using this
            omega
          refine ⟨rfl, ?_⟩
          refine ⟨_, rfl, _, rfl, i0, _, (r : Int), _, rfl, rfl, SqT.of (S.hereF hi0), atI_nat (j := r) (by rw [List.getElem?_map, ho'] <;> rfl), _, rfl, _, rfl, c, _, (r : Int), _, rfl, rfl, SqL.of (S.hereF hcr), atI_nat (j := r) (hrow r hrP), hsc, _, rfl, ?_⟩
          rw [e1, mis_snoc]
          by_cases c2 : im[r]? = some (some (ver ds (t + 1) r : Int))
          · have c3 : oV o' = .int (ver ds (t + 1) r : Int) := by
              rw [ho'] at c2
              rw [Option.some.inj c2]
              rfl
            refine iteNS c3 ?_
            refine iteF (A := True) ⟨S, ?_⟩
            rw [if_pos c2, List.append_nil]
            exact eD
          · have c3 : ¬ oV o' = .int (ver ds (t + 1) r : Int) := fun z => c2 (by
              rw [ho']
              cases o' with
              | none => cases z
              | some y => rw [V.int.inj z])
            refine iteNN c3 ?_
            refine iteT (B := True) ⟨_, rfl, _, eD, by rw [List.length_map]; exact sizeN (by omega), S.put (.inl nDl) (none_of_same fh nDl) (by rw [eD]; intro z; cases z), ?_⟩
            rw [upd_same, if_neg c2, List.map_append]
            rfl
        · rintro H2 ⟨S, eD⟩
          rw [List.length_map, List.take_length] at eD
          refine ⟨Nat.zero_le _, fun z nz => ?_⟩
          have S2 := S.newM (o := .lst []) nz
          have eD2 : (upd H2 z (.lst [])) Dl = some (.lst ((mis ds im (t + 1) rs).map V.int)) := upd_keep eD nz
          refine ⟨eRow (mis ds im (t + 1) rs), .list [], D.dp (F := upd H2 z (.lst [])) (Same.refl _) _ _ (.of_row eD2), .lst (SqL.of upd_same) .nil, shaped_row _, shaped_row [], _, rfl, ?_⟩
          rw [eqv_row_nil]
          by_cases c2 : ∀ r ∈ rs, im[r]? = some (some (ver ds (t + 1) r : Int))
          · rw [mis_nil.mpr c2]
            refine iteF ?_
            have em : moved ds im t up = some (im.set p (some (if up = true then (ver ds (t + 1) p : Int) else (ver ds (t + 1) p : Int) - 1))) := moved_mk hd (by rw [ho, c1]) c2
            -- the new image
            refine ⟨_, rfl, a, _, 0, _, rfl, rfl, SqT.of (S2.hereF ha), rfl, (P : Int), rfl, by omega, by omega, fun Dn nDn => lc_it (n := P) (walk_range (lo := 0) (n := P)) (fun i H' => Pu F H1 F H' ∧ H' Dn = some (.lst (((im.set p (some (if up = true then (ver ds (t + 1) p : Int) else (ver ds (t + 1) p : Int) - 1))).take i).map oV)))
              ⟨S2.newM nDn, upd_same⟩ (fun _ _ _ _ => trivial) ?_ ?_⟩
            · rintro i x H3 H4 hi ⟨S3, eN⟩ ⟨rfl, rfl⟩
              have hln : (((im.set p (some (if up = true then (ver ds (t + 1) p : Int) else (ver ds (t + 1) p : Int) - 1))).take i).map oV).length < sizeLine := by
                rw [List.length_map, List.length_take]
                exact sizeN (by omega)
              have put := S3.put (p := Dn) (o := .lst (((im.set p (some (if up = true then (ver ds (t + 1) p : Int) else (ver ds (t + 1) p : Int) - 1))).take (i + 1)).map oV)) (.inl (S2.dom _ nDn)) (S2.nofr nDn) (by rw [eN]; intro z; cases z)
              refine ⟨rfl, yes (iteT ?_)⟩
              refine ⟨_, rfl, _, rfl, rfl, _, rfl, ?_⟩
              by_cases c4 : i = p
              · subst c4
                refine iteD (show V.int (0 + (i : Int)) = V.int (i : Int) by rw [Int.zero_add]) ?_
                have e3 : ((im.set i (some (if up = true then (ver ds (t + 1) i : Int) else (ver ds (t + 1) i : Int) - 1))).take (i + 1)).map oV = ((im.set i (some (if up = true then (ver ds (t + 1) i : Int) else (ver ds (t + 1) i : Int) - 1))).take i).map oV ++ [.int ((if up = true then (ver ds (t + 1) i : Int) - 1 else (ver ds (t + 1) i : Int)) + (if up = true then 1 else -1))] := by
                  rw [List.take_add_one, List.getElem?_set_self (by omega), List.map_append]
                  congr 1
                  cases up
                  · show [V.int _] = [V.int _]
                    congr 2
                  · show [V.int _] = [V.int _]
                    congr 2
                    simp
                rw [e3] at put
                refine ⟨_, rfl, _, rfl, _, _, rfl, rfl, _, eN, hln, put, ?_⟩
                rw [upd_same, e3]
              · refine iteDn (fun z => c4 (by have := V.int.inj (show V.int (0 + (i : Int)) = V.int (p : Int) from z); omega)) ?_
                obtain ⟨o', ho'⟩ : ∃ o, im[i]? = some o := ⟨_, List.getElem?_eq_getElem (by omega)⟩
                have e3 : ((im.set p (some (if up = true then (ver ds (t + 1) p : Int) else (ver ds (t + 1) p : Int) - 1))).take (i + 1)).map oV = ((im.set p (some (if up = true then (ver ds (t + 1) p : Int) else (ver ds (t + 1) p : Int) - 1))).take i).map oV ++ [oV o'] := by
                  rw [List.take_add_one, List.getElem?_set_ne (Ne.symm c4), ho', List.map_append]
                  rfl
                rw [e3] at put
                refine ⟨_, rfl, _, rfl, i0, _, 0 + (i : Int), _, rfl, rfl, SqT.of (S3.hereF hi0), at_of (j := i) (by omega) (by rw [List.getElem?_map, ho'] <;> rfl), _, eN, hln, put, ?_⟩
                rw [upd_same, e3]
            · rintro H3 ⟨S3, eN⟩
              rw [List.take_of_length_le (by rw [List.length_set]; omega)] at eN
              refine ⟨Dn, _, rfl, .inl ⟨SqL.of eN, fun z2 nz2 => q _ _ _ (S3.newF nz2) ?_⟩⟩
              rw [em]
              exact .of_img upd_same
          · have : (mis ds im (t + 1) rs).isEmpty = false := by
              cases h : (mis ds im (t + 1) rs).isEmpty with
              | false => rfl
              | true => exact absurd (mis_nil.mp h) c2
            rw [this]
            exact iteT (no _ F S2 fun z => c2 z.2)
      · refine iteNN (fun z => c1 ?_) ?_
        · cases o with
          | none => cases z
          | some y => rw [V.int.inj z]
        · exact iteT (no H1 F (.refl fh) fun z => c1 (by rw [ho] at z; exact Option.some.inj z.1))
    · refine ⟨_, rfl, rfl, _, rfl, ?_⟩
      cases up with
      | true =>
        refine iteD rfl ?_
        exact ⟨_, rfl, _, rfl, c, _, (p : Int), _, rfl, rfl, SqL.of (fh _ _ hcr), atI_nat (j := p) (hrow p hp), _, _, rfl, rfl, rest _ _ ⟨rfl, rfl⟩⟩
      | false =>
        refine iteDn (by decide) ?_
        exact ⟨_, rfl, _, rfl, c, _, (p : Int), _, rfl, rfl, SqL.of (fh _ _ hcr), atI_nat (j := p) (hrow p hp), rest _ _ ⟨rfl, rfl⟩⟩
end
end K24

end
section
set_option Elab.async false
set_option linter.all false
set_option maxRecDepth 100000
set_option maxHeartbeats 4000000
namespace K24
open PySem PySem.Spec PyProof.Rows L2
theorem any_img (S : List Im) (j : Im) : ((S.map eImg).any fun z => PyData.eqv z (eImg j)) = decide (j ∈ S) := by
  induction S with
  | nil => simp
  | cons s S ih =>
    rw [List.map_cons, List.any_cons, ih, eqv_img]
    by_cases e : s = j
    · subst e; simp
    · have : ¬ j = s := fun z => e z.symm
      simp [e, this]
def oD (o : Nat × Bool) : PyData := eGr o.1 o.2
def wayV (up : Bool) : V := .int (if up = true then 1 else -1)
section
variable {P : Program} {w : World} {K : PySem.W.Frag} {mg : Str → Option Value} {base : Heap}
def sp_law_open : Sp := fun vs H Q _ => ∃ (F : Hp) (v tv iv : V) (P : Nat) (ds : List Dd) (im : Im), vs = [v, tv, iv] ∧ Same F H ∧ D F v (eLog P ds) ∧ WF P ds ∧ D F tv (eTab P ds) ∧ D F iv (eImg im) ∧ im.length = P ∧
  Ret F H Q fun F' u => D F' u (.list ((opens ds im ds.length).map oD))
theorem ok_law_open {f : Addr} {fd : FuncData} (F : Fun K "_law_open" "_law_open" s__law_open f fd) (T : Bi mg) (C1 : Cal P w K mg base "_law_moved" 1 ["_law_log_here", "_law_table_here", "_law_image_here", "_law_t", "_law_way"] sp_law_moved) :
    FnOk P w K mg base CX0 2 f fd ["_law_log_here", "_law_table_here", "_law_image_here"] sp_law_open := by
  obtain ⟨f1, fd1, G1, m1, k1, b1⟩ := C1
  refine F.ok sc__law_open (fun vs H Q E h => ?_) (fun cdv A outer s H vs Q E hr h => ?_)
  · obtain ⟨F, v, tv, iv, P, ds, im, rfl, _⟩ := h
    rfl
  · obtain ⟨F, v, tv, iv, P, ds, im, rfl, fh, hD, W, hT, hI, hlen, q⟩ := h
    obtain ⟨a, b, xs, rfl, ha, hb, hx⟩ := id hD.log
    have hxl : xs.length = ds.length := by rw [hx.len, List.length_map]
    have hl := W.short
    have nd := sc__law_open.nd
    refine ⟨_, pss_cons (ps_set (i := 3) nd rfl (.inl rfl) (pe_lst pa_nil))
      (pss_cons (ps_for PassesOwn.never rfl (pi_range2 (by rfl) T.range (pa_cons pe_int (pa_cons (pe_op op_add (pe_callB call_len_seq (by rfl) T.len boot_len (pa_cons (pe_ix ix_tup (pv 0) pe_int (fun _ _ => rfl)) pa_nil)) pe_int) pa_nil))) (pg_name (i := 4) nd rfl (.inr rfl))
        (pss_one (ps_expr (pe_bm PySem.F.plainAttrs_list PySem.F.slot_list_extend PySem.F.type_list_extend mt_extend (pv 3) (pa_cons
          (pe_lc (own := [("_law_way", 5)]) (g := gName 5) (tt := tTest (tOp (rNeD K) (tCall sp_law_moved [] E0 (tCons (tVar 0) (tCons (tVar 1) (tCons (tVar 2) (tCons (tVar 4) (tCons (tVar 5) tNil)))))) (tTup tNil))) rfl nd (pi_tup (pe_tup (pa_cons pe_int (pa_cons (pe_un un_neg pe_int) pa_nil))))
            (blkOk_by (N := n__law_open) (sc := defScope s__law_open) (by decide +kernel)) (fun _ _ _ _ _ => pg_name (i := 5) nd rfl (.inl rfl))
            (fun _ _ _ _ _ => pts_one (pt_cmpR (neD (K := K) rfl hr.units) (pe_call G1 (hr.mono (by decide)) (by rfl) m1 k1 b1 .nil pass0 (pa_cons (pv 0) (pa_cons (pv 1) (pa_cons (pv 2) (pa_cons (pv 4) (pa_cons (pv 5) pa_nil)))))) (pe_tup pa_nil) (nomark _)))
            (fun _ _ _ _ _ => pe_tup (pa_cons (pv 4) (pa_cons (pv 5) pa_nil)))) pa_nil)))))
      (pss_one (ps_ret (pv 3)))), ?_⟩
    refine ⟨Nat.zero_le _, fun fn nf => ?_⟩
    have S1 := (Step.refl (M := No) fh).newM (o := .lst []) nf
    have nfF := none_of_same fh nf
    have en : (((xs.length : Nat) : Int) + 1 - 1).toNat = ds.length := by omega
    refine ⟨_, rfl, a, _, 1, _, rfl, rfl, SqT.of (S1.hereF ha), rfl, b, _, rfl, .inr (SqT.of (S1.hereF hb)), _, _, rfl, rfl, 1, _, rfl, ⟨by omega, by omega, by omega, by omega⟩, for_range (lo := 1) (n := (((xs.length : Nat) : Int) + 1 - 1).toNat) (fun i σ H' => ∃ F1, Pu F H F1 H' ∧ F1 fn = none ∧ (∃ x4, σ = [some (.ref a), some tv, some iv, some (.ref fn), x4, none]) ∧
        ∃ ys, H' fn = some (.lst ys) ∧ DA F1 ys ((opens ds im i).map oD))
      ⟨F, S1, nfF, ⟨none, rfl⟩, [], upd_same, .nil⟩ ?_ ?_⟩
    · rintro i σ H1 hi ⟨F1, S, nf1, ⟨x4, rfl⟩, ys, ef, hy⟩
      have hin : i < ds.length := by omega
      have e1i : (1 : Int) + (i : Int) = (i : Int) + 1 := Int.add_comm _ _
      have hyl : ys.length ≤ 800 := by
        rw [hy.len, List.length_map]
        have := opens_len ds im i
        omega
      refine ⟨_, rfl, .inl ⟨rfl, _, SqL.of ef⟩, ?_⟩
      -- the comprehension
      refine ⟨1, rfl, (by show 2 ≤ sizeLine; decide), fun tw ntw => ?_⟩
      have S2 := S.newM (o := .tup [.int 1, .int (-1)]) ntw
      have ef2 := upd_keep (o' := .tup [.int 1, .int (-1)]) ef ntw
      refine ⟨tw, rfl, ⟨_, SqT.of upd_same⟩, fun Dl nD => lc_it (walk_tup (xs := [true, false].map wayV)) (fun j H' => ∃ F2, Pu F1 (upd H1 tw (.tup [.int 1, .int (-1)])) F2 H' ∧ F2 Dl = none ∧ ∃ zs, H' Dl = some (.lst zs) ∧ DA F2 zs ((([true, false].take j).filter fun up => (moved ds im i up).isSome).map fun up => eGr i up))
        ⟨F1, (Step.refl S2.fh).newM nD, none_of_same S2.fh nD, [], upd_same, .nil⟩ (fun j H' _ ⟨F2, S, _⟩ => SqT.of (S.same _ _ upd_same)) ?_ ?_⟩
      · rintro j x H2 H3 hj ⟨F2, S3, nfD, zs, eD, hz⟩ ⟨rfl, hxj⟩
        obtain ⟨up, hup, rfl⟩ : ∃ up, [true, false][j]? = some up ∧ x = wayV up := by
          rw [List.getElem?_map] at hxj
          cases e : [true, false][j]? with
          | none => rw [e] at hxj; cases hxj
          | some up => rw [e] at hxj; exact ⟨up, rfl, (Option.some.inj hxj).symm⟩
        have S23 := S2.trans S3
        have hzl : zs.length ≤ 10 := by
          rw [hz.len, List.length_map]
          have h1 := List.length_filter_le (fun up => (moved ds im i up).isSome) ([true, false].take j)
          rw [List.length_take] at h1
          have : [true, false].length = 2 := rfl
          omega
        have e1 : [true, false].take (j + 1) = [true, false].take j ++ [up] := by rw [List.take_add_one, hup]; rfl
        refine ⟨rfl, ?_⟩
        refine ⟨_, rfl, _, rfl, _, rfl, _, rfl, _, rfl, F2, .ref a, tv, iv, i, up, P, ds, im, ?_, S3.fh, hD.mono S23.ff, W, hT.mono S23.ff, hI.mono S23.ff, hlen, hin, fun F3 H4 u S4 hu => ?_⟩
        · show [V.ref a, tv, iv, V.int (1 + (i : Int)), wayV up] ++ [] = _
          rw [e1i]
          rfl
        have S34 := S3.trans S4
        refine ⟨Nat.zero_le _, fun z nz => ?_⟩
        have S5 := S34.newM (o := .tup []) nz
        have eD5 : (upd H4 z (.tup [])) Dl = some (.lst zs) := upd_keep (S4.same _ _ eD) nz
        have nfD3 : F3 Dl = none := S4.nw _ nfD (by rw [eD]; intro z; cases z)
        refine ⟨eImg ((moved ds im i up).getD []), eImg [], D.dp S5.fh _ _ hu, .tup (SqT.of upd_same) .nil, shaped_img _, shaped_img [], _, rfl, ?_⟩
        rw [eqv_img, e1, List.filter_append, List.map_append]
        cases hm : moved ds im i up with
        | none =>
          refine iteF (A := True) ?_
          refine ⟨F3, S5, nfD3, zs, eD5, ?_⟩
          rw [List.filter_cons_of_neg (by rw [hm]; simp)]
          show DA F3 zs (_ ++ [])
          rw [List.append_nil]
          exact hz.mono S4.ff
        | some j' =>
          have hne : j' ≠ [] := by
            obtain ⟨p, rs, hd, h1, _, rfl⟩ := moved_of hm
            intro z
            have := congrArg List.length z
            rw [List.length_set, hlen] at this
            have := W.pos
            simp at *
            omega
          have hb : (!decide ((some j').getD [] = ([] : Im))) = true := by
            show (!decide (j' = [])) = true
            rw [decide_eq_false hne]
            rfl
          rw [hb]
          refine iteT ?_
          refine ⟨_, rfl, _, rfl, (by show 2 ≤ sizeLine; decide), fun c nc => ?_⟩
          have S6 := S5.newF (o := .tup [.int (1 + (i : Int)), wayV up]) nc
          have ncD : Dl ≠ c := ne_of_none eD5 nc
          have hs := same_fresh (F := F3) (o := .tup [.int (1 + (i : Int)), wayV up]) (S5.nofr nc)
          refine ⟨zs, by rw [upd_ne ncD]; exact eD5, sizeN (by omega), _, S6.put (p := Dl) (.inl nD) (by rw [upd_ne ncD]; exact nfD3) (by rw [upd_ne ncD, eD5]; intro z; cases z), by rw [upd_ne ncD]; exact nfD3, zs ++ [.ref c], upd_same, ?_⟩
          rw [List.filter_cons_of_pos (by rw [hm]; rfl)]
          refine ((hz.mono S4.ff).mono hs).snoc (.tup (xs := [.int (1 + (i : Int)), wayV up]) upd_same (.cons ?_ (.cons (.int _) .nil)))
          rw [e1i]
          exact .int _
      · rintro H2 ⟨F2, S3, nfD, zs, eD, hz⟩
        have S23 := S2.trans S3
        have ef3 : H2 fn = some (.lst ys) := S3.same _ _ ef2
        have nf2 : F2 fn = none := S3.nw _ nf1 (by rw [ef2]; intro z; cases z)
        have hzl : zs.length ≤ 10 := by
          rw [hz.len, List.length_map]
          have h1 := List.length_filter_le (fun up => (moved ds im i up).isSome) ([true, false].take ([true, false].map wayV).length)
          rw [List.length_take] at h1
          have : [true, false].length = 2 := rfl
          omega
        refine ⟨fn, Dl, _, _, rfl, rfl, ef3, eD, cut63 (by omega), ?_⟩
        refine ⟨F2, S23.put (p := fn) (.inl nf) nf2 (by rw [ef3]; intro z; cases z), nf2, ⟨_, rfl⟩, _, upd_same, ?_⟩
        rw [opens_succ, List.map_append]
        refine DA.app (hy.mono S3.ff) ?_
        have e2 : (opensAt ds im i).map oD = ([true, false].filter fun up => (moved ds im i up).isSome).map fun up => eGr i up := by
          unfold opensAt
          rw [List.map_map]
          rfl
        rw [e2]
        exact hz
    · rintro σ H1 ⟨F1, S, nf1, ⟨x4, rfl⟩, ys, ef, hy⟩
      rw [en] at hy
      exact ⟨_, rfl, q _ _ _ (S.frz nf nf1 ef) (.lst upd_same (hy.mono (same_fresh nf1)))⟩
end
end K24

end
section
set_option Elab.async false
set_option linter.all false
set_option maxRecDepth 100000
set_option maxHeartbeats 4000000
namespace K24
open PySem PySem.Spec PyProof.Rows L2
section
variable {P : Program} {w : World} {K : PySem.W.Frag} {mg : Str → Option Value} {base : Heap}
def sp_law_reached : Sp := fun vs H Q _ => ∃ (F : Hp) (v tv iv : V) (P : Nat) (ds : List Dd) (im : Im), vs = [v, tv, iv] ∧ Same F H ∧ D F v (eLog P ds) ∧ WF P ds ∧ D F tv (eTab P ds) ∧ D F iv (eImg im) ∧ InR P ds im ∧ P ≤ 4 ∧ ds.length ≤ 7 ∧
  ∀ F' H' u (S : List Im), Pu F H F' H' → D F' u (.list (S.map eImg)) → (∀ j, j ∈ S ↔ Reach ds im j) → S.length ≤ 64 → Q u H'
theorem ok_law_reached {f : Addr} {fd : FuncData} (F : Fun K "_law_reached" "_law_reached" s__law_reached f fd) (T : Bi mg) (C1 : Cal P w K mg base "_law_moved" 1 ["_law_log_here", "_law_table_here", "_law_image_here", "_law_t", "_law_way"] sp_law_moved)
    (C2 : Cal P w K mg base "_law_open" 2 ["_law_log_here", "_law_table_here", "_law_image_here"] sp_law_open) : FnOk P w K mg base CX0 3 f fd ["_law_log_here", "_law_table_here", "_law_image_here"] sp_law_reached := by
  obtain ⟨f1, fd1, G1, m1, k1, b1⟩ := C1
  obtain ⟨f2, fd2, G2, m2, k2, b2⟩ := C2
  refine F.ok sc__law_reached (fun vs H Q E h => ?_) (fun cdv A outer s H vs Q E hr h => ?_)
  · obtain ⟨F, v, tv, iv, P, ds, im, rfl, _⟩ := h
    rfl
  · obtain ⟨F, v, tv, iv, P, ds, im, rfl, fh, hD, W, hT, hI, hR, hP4, hn7, q⟩ := h
    have nd := sc__law_reached.nd
    have hu65 : A.units + 3 + 65 < cLine := by
      have := hr.un
      have e : (A.deeper (envOfC "_law_reached" (defScope s__law_reached) s.heap.objs.size f cdv)).units = A.units + 3 := rfl
      omega
    refine ⟨_, pss_cons (ps_set (i := 3) nd rfl (.inl rfl) (pe_lst (pa_cons (pv 2) pa_nil)))
      (pss_cons (ps_for PassesOwn.never rfl (pi_range1 (by rfl) T.range (pa_cons pe_int pa_nil)) (pg_name (i := 4) nd rfl (.inl rfl))
        (pss_cons (ps_if (pt_cmpR op_ge (pv 4) (pe_callB call_len_seq (by rfl) T.len boot_len (pa_cons (pv 3) pa_nil)) (nomark _)) (pss_one ps_break) pss_nil)
        (pss_cons (ps_set (i := 5) nd rfl (.inl rfl) (pe_ix ix_list (pv 3) (pv 4) (fun _ _ => rfl)))
        (pss_one (ps_for PassesOwn.never rfl (pi_list (pe_call G2 (hr.mono (by decide)) (by rfl) m2 k2 b2 .nil pass0 (pa_cons (pv 0) (pa_cons (pv 1) (pa_cons (pv 5) pa_nil))))) (pg_tup rfl (pgs_cons (pg_name (i := 6) nd rfl (.inl rfl)) (pgs_cons (pg_name (i := 7) nd rfl (.inl rfl)) pgs_nil)))
          (pss_cons (ps_set (i := 8) nd rfl (.inl rfl) (pe_call G1 (hr.mono (by decide)) (by rfl) m1 k1 b1 .nil pass0 (pa_cons (pv 0) (pa_cons (pv 1) (pa_cons (pv 5) (pa_cons (pv 6) (pa_cons (pv 7) pa_nil)))))))
          (pss_one (ps_if (pt_cmpR (op_notInD hu65) (pv 8) (pv 3) (by rfl)) (pss_one (ps_expr (pe_bm PySem.F.plainAttrs_list PySem.F.slot_list_append PySem.F.type_list_append mt_append (pv 3) (pa_cons (pv 8) pa_nil)))) pss_nil))))))))
      (pss_one (ps_ret (pv 3)))), ?_⟩
    refine seq_of (fun σ' H' => ∃ fn, H fn = none ∧ H' = upd H fn (.lst [iv]) ∧ σ' = [some v, some tv, some iv, some (.ref fn), none, none, none, none, none]) ?_ (fun rest0 => ⟨_, rfl, (by show 1 ≤ sizeLine; decide), fun fn nf => rest0 _ _ ⟨fn, nf, rfl, rfl⟩⟩)
    rintro σ0 H0 ⟨fn, nf, rfl, rfl⟩
    have S1 := (Step.refl (M := No) fh).newM (o := .lst [iv]) nf
    have nfF := none_of_same fh nf
    -- what holds at the end
    refine seq_of (fun σ' H' => ∃ F1, Pu F H F1 H' ∧ F1 fn = none ∧ (∃ x4 x5 x6 x7 x8, σ' = [some v, some tv, some iv, some (.ref fn), x4, x5, x6, x7, x8]) ∧ ∃ (S : List Im) (xs : List V) (k : Nat), H' fn = some (.lst xs) ∧ DA F1 xs (S.map eImg) ∧ Bfs ds im S k ∧ S.length ≤ k) ?_ (fun rest => ?_)
    · rintro σ H1 ⟨F1, U, nf1, ⟨x4, x5, x6, x7, x8, rfl⟩, S, xs, k, ef, hxs, B, hk⟩
      exact ⟨_, rfl, q _ _ _ S (U.frz nf nf1 ef) (.lst upd_same (hxs.mono (same_fresh nf1))) (B.full hk) (B.len hR hP4 hn7)⟩
    · refine ⟨64, rfl, by decide, by decide, for_range (lo := 0) (n := 64) (fun k σ H' => ∃ F1, Pu F H F1 H' ∧ F1 fn = none ∧ (∃ x4 x5 x6 x7 x8, σ = [some v, some tv, some iv, some (.ref fn), x4, x5, x6, x7, x8]) ∧ ∃ (S : List Im) (xs : List V), H' fn = some (.lst xs) ∧ DA F1 xs (S.map eImg) ∧ Bfs ds im S k)
        ⟨F, S1, nfF, ⟨none, none, none, none, none, rfl⟩, [im], [iv], upd_same, .cons hI .nil, Bfs.start ds im⟩ ?_ ?_⟩
      · rintro k σ H1 hk ⟨F1, U, nf1, ⟨x4, x5, x6, x7, x8, rfl⟩, S, xs, ef, hxs, B⟩
        have hxl : xs.length = S.length := by rw [hxs.len, List.length_map]
        refine ⟨_, rfl, _, rfl, fn, _, rfl, .inl (SqL.of ef), _, _, rfl, rfl, _, rfl, ?_⟩
        refine ite2 (fun e => ?_) (fun e => ?_)
        · -- break
          have e := of_decide_eq_true e
          exact rest _ _ ⟨F1, U, nf1, ⟨_, _, _, _, _, rfl⟩, S, xs, k, ef, hxs, B, by omega⟩
        · have e : ¬ ((xs.length : Nat) : Int) ≤ 0 + (k : Int) := fun z => e (decide_eq_true z)
          have hkS : k < S.length := by omega
          obtain ⟨here, hhere⟩ : ∃ here, S[k]? = some here := ⟨_, List.getElem?_eq_getElem hkS⟩
          obtain ⟨hv, hhv, hhD⟩ := hxs.at (i := k) (d := eImg here) (by rw [List.getElem?_map, hhere] <;> rfl)
          have hRh := hR.reach (B.reach here (List.mem_of_getElem? hhere))
          refine ⟨_, rfl, _, rfl, fn, xs, 0 + (k : Int), _, rfl, rfl, SqL.of ef, at_of (j := k) (by omega) hhv, ?_⟩
          refine ⟨_, rfl, _, rfl, _, rfl, F1, v, tv, hv, P, ds, here, rfl, U.fh, hD.mono U.ff, W, hT.mono U.ff, hhD, hRh.len, fun F2 H2 u U2 hu => ?_⟩
          obtain ⟨ol, os, rfl, hol, hos⟩ := hu.list'
          have hosl : os.length = (opens ds here ds.length).length := by rw [hos.len, List.length_map]
          have ef2 : H2 fn = some (.lst xs) := U2.same _ _ ef
          have nf2 : F2 fn = none := U2.nw _ nf1 (by rw [ef]; intro z; cases z)
          refine ⟨ol, rfl, ⟨_, SqL.of (U2.fh _ _ hol)⟩, for_list (K := K) (a := ol) (xs := os) (fun l σ H' => ∃ F3, Pu F H F3 H' ∧ Same F2 F3 ∧ F3 fn = none ∧ (∃ x6 x7 x8, σ = [some v, some tv, some iv, some (.ref fn), some (.int (0 + (k : Int))), some hv, x6, x7, x8]) ∧
              ∃ (S : List Im) (xs : List V), H' fn = some (.lst xs) ∧ DA F3 xs (S.map eImg) ∧ BfsIn ds im S k here l)
            ⟨F2, U.trans U2, Same.refl _, nf2, ⟨_, _, _, rfl⟩, S, xs, ef2, hxs.mono U2.ff, B.enter hhere⟩ (fun l σ H' _ ⟨F3, U, s23, _⟩ => SqL.of (U.fh _ _ (s23 _ _ hol))) ?_ ?_⟩
          · rintro l x σ H3 hxl ⟨F3, U3, s23, nf3, ⟨x6, x7, x8, rfl⟩, S, xs, ef3, hxs3, B3⟩
            obtain ⟨d, hd, hdD⟩ := hos.at' hxl
            rw [List.getElem?_map] at hd
            obtain ⟨o, ho, rfl⟩ : ∃ o, (opens ds here ds.length)[l]? = some o ∧ d = oD o := by
              cases e : (opens ds here ds.length)[l]? with
              | none => rw [e] at hd; cases hd
              | some o => rw [e] at hd; exact ⟨o, rfl, (Option.some.inj hd).symm⟩
            obtain ⟨t, up⟩ := o
            obtain ⟨ht, j, hj⟩ := opens_mem.mp (List.mem_of_getElem? ho)
            obtain ⟨oa, ow, rfl, hoa, how⟩ := D.tup' hdD
            obtain ⟨o1, o2, rfl, ho1, ho2⟩ := how.two
            obtain rfl := ho1.int'
            obtain rfl := ho2.int'
            refine ⟨oa, _, rfl, SqT.of (U3.fh _ _ (s23 _ _ hoa)), rfl, _, _, rfl, _, _, rfl, rfl, ?_⟩
            refine ⟨_, rfl, _, rfl, _, rfl, _, rfl, _, rfl, F3, v, tv, hv, t, up, P, ds, here, rfl, U3.fh, hD.mono U3.ff, W, hT.mono U3.ff, hhD.mono (U2.ff.trans s23), hRh.len, ht, fun F4 H4 u U4 hu => ?_⟩
            rw [hj] at hu
            have hu : D F4 u (eImg j) := hu
            have U34 := U3.trans U4
            have ef4 : H4 fn = some (.lst xs) := U4.same _ _ ef3
            have nf4 : F4 fn = none := U4.nw _ nf3 (by rw [ef3]; intro z; cases z)
            have hxs4 := hxs3.mono U4.ff
            refine ⟨_, rfl, _, rfl, eImg j, S.map eImg, D.dp U34.fh _ _ hu, .lst (SqL.of ef4) (DA.dp U34.fh _ _ hxs4), shaped_img j, shaped_imgs S, _, rfl, ?_⟩
            rw [any_img]
            by_cases hm : j ∈ S
            · refine iteNS hm ?_
              exact ⟨F4, U34, s23.trans U4.ff, nf4, ⟨_, _, _, rfl⟩, S, xs, ef4, hxs4, B3.old ho hj hm⟩
            · refine iteNN hm ?_
              have hSl := B3.len hR hP4 hn7
              have hxl4 : xs.length = S.length := by rw [hxs4.len, List.length_map]
              refine ⟨_, rfl, .inl ⟨rfl, _, SqL.of ef4⟩, _, rfl, fn, _, _, rfl, rfl, ef4, sizeN (by omega), ?_⟩
              refine ⟨F4, U34.put (p := fn) (.inl nf) nf4 (by rw [ef4]; intro z; cases z), s23.trans U4.ff, nf4, ⟨_, _, _, rfl⟩, S ++ [j], xs ++ [u], upd_same, ?_, B3.new ho hj hm⟩
              rw [List.map_append]
              exact hxs4.snoc hu
          · rintro σ H3 ⟨F3, U3, s23, nf3, ⟨x6, x7, x8, rfl⟩, S, xs, ef3, hxs3, B3⟩
            rw [hosl] at B3
            exact ⟨F3, U3, nf3, ⟨_, _, _, _, _, rfl⟩, S, xs, ef3, hxs3, B3.leave⟩
      · rintro σ H1 ⟨F1, U, nf1, hσ, S, xs, ef, hxs, B⟩
        exact rest _ _ ⟨F1, U, nf1, hσ, S, xs, 64, ef, hxs, B, B.len hR hP4 hn7⟩
end
end K24

end
section
set_option Elab.async false
set_option linter.all false
set_option maxRecDepth 100000
set_option maxHeartbeats 4000000
namespace K24
open PySem PySem.Spec PyProof.Rows L2
theorem Step.nofr' {M : Addr → Prop} {F H F1 H1 : Hp} {b : Addr} (s : Step M F H F1 H1) (n : F1 b = none) : F1 b = none := n
section
variable {P : Program} {w : World} {K : PySem.W.Frag} {mg : Str → Option Value} {base : Heap}
theorem newI_inR (P : Nat) (ds : List Dd) : InR P ds (newI P ds) := by
  refine ⟨newI_len P ds, fun p v e => ?_⟩
  have hp : p < P := by
    have := (List.getElem?_eq_some_iff.mp e).1
    rw [newI_len] at this
    exact this
  rw [newI_at P ds hp] at e
  have := Option.some.inj (Option.some.inj e)
  omega
def sp_law_is_told : Sp := fun vs H Q _ => ∃ (F : Hp) (p l : Addr) (v tv iv : V) (P : Nat) (ds : List Dd) (im : Im), vs = [.ref p, v, tv, iv] ∧ Same F H ∧ Pool F H p l ∧ D F v (eLog P ds) ∧ WF P ds ∧ D F tv (eTab P ds) ∧ D F iv (eImg im) ∧ InR P ds im ∧ P ≤ 4 ∧ ds.length ≤ 7 ∧
  ∀ F' H', Step (PL p l) F H F' H' → Pool F' H' p l → Q (.bl true) H'
theorem ok_law_is_told {f : Addr} {fd : FuncData} (F : Fun K "_law_is_told" "_law_is_told" s__law_is_told f fd) (T : Bi mg) (C1 : Cal P w K mg base "_law_reached" 3 ["_law_log_here", "_law_table_here", "_law_image_here"] sp_law_reached)
    (C2 : Cal P w K mg base "_law_is_truth" 1 ["_law_value", "_law_due"] sp_law_is_truth) (C3 : Cal P w K mg base "mendable" 6 ["log", "image"] sp_mendable) (C4 : Cal P w K mg base "known" 6 ["log", "image"] sp_known)
    (C5 : Cal P w K mg base "_law_draw" 1 ["_law_pool_here", "_law_many"] sp_law_draw) : FnOk P w K mg base CX0 7 f fd ["_law_pool_here", "_law_log_here", "_law_table_here", "_law_image_here"] sp_law_is_told := by
  obtain ⟨f1, fd1, G1, m1, k1, b1⟩ := C1
  obtain ⟨f2, fd2, G2, m2, k2, b2⟩ := C2
  obtain ⟨f3, fd3, G3, m3, k3, b3⟩ := C3
  obtain ⟨f4, fd4, G4, m4, k4, b4⟩ := C4
  obtain ⟨f5, fd5, G5, m5, k5, b5⟩ := C5
  refine F.ok sc__law_is_told (fun vs H Q E h => ?_) (fun cdv A outer s H vs Q E hr h => ?_)
  · obtain ⟨F, p, l, v, tv, iv, P, ds, im, rfl, _⟩ := h
    rfl
  · obtain ⟨F, p, l, v, tv, iv, P, ds, im, rfl, fh, hPl, hD, W, hT, hI, hR, hP4, hn7, q⟩ := h
    have nd := sc__law_is_told.nd
    have hP1 := W.pos
    have hu65 : A.units + 3 + 65 < cLine := by
      have := hr.un
      have e : (A.deeper (envOfC "_law_is_told" (defScope s__law_is_told) s.heap.objs.size f cdv)).units = A.units + 3 := rfl
      omega
    obtain ⟨t, rows, rfl, ht, hrows⟩ := id hT.list'
    have hrl := hrows.tab_len
    obtain ⟨cn, hcn, hcnr⟩ := hrows.tab (s := ds.length) (Nat.le_refl _)
    refine ⟨_, pss_cons (ps_set (i := 4) nd rfl (.inr rfl) (pe_call G1 (hr.mono (by decide)) (by rfl) m1 k1 b1 .nil pass0 (pa_cons (pv 1) (pa_cons (pv 2) (pa_cons (pv 3) pa_nil)))))
      (pss_cons (ps_set (i := 5) nd rfl (.inr rfl) (pe_cmpR (op_inD hu65) (pe_callTy call_tuple_of (by rfl) T.tup boot_tuple (pa_cons (pe_ix ix_list (pv 2) (pe_un un_neg pe_int) (fun _ _ => rfl)) pa_nil)) (pv 4) (by rfl)))
      (pss_cons (ps_if (pt_not (pt_val (pe_call G2 (hr.mono (by decide)) (by rfl) m2 k2 b2 .nil pass0 (pa_cons (pe_call G3 (hr.mono (by decide)) (by rfl) m3 k3 b3 .nil pass0 (pa_cons (pv 1) (pa_cons (pv 3) pa_nil))) (pa_cons (pv 5) pa_nil))))) (pss_one (ps_ret pe_bl)) pss_nil)
      (pss_cons (ps_if (pt_cmpR op_ne (pe_cmpR (op_eqD hr.units) (pe_call G4 (hr.mono (by decide)) (by rfl) m4 k4 b4 .nil pass0 (pa_cons (pv 1) (pa_cons (pv 3) pa_nil)))
          (pe_callTy call_tuple_of (by rfl) T.tup boot_tuple (pa_cons
            (pe_lc (own := [("_law_version", 9)]) (g := gName 9) (tt := tYes) rfl nd (pi_list (pe_ix ix_list (pv 2) (pe_un un_neg pe_int) (fun _ _ => rfl))) (blkOk_by (N := n__law_is_told) (sc := defScope s__law_is_told) (by decide +kernel)) (fun _ _ _ _ _ => pg_name (i := 9) nd rfl (.inl rfl))
              (fun _ _ _ _ _ => pts_nil) (fun _ _ _ _ _ => pe_tup (pa_cons pe_int (pa_cons (pv 9) pa_nil)))) pa_nil)) (nomark _)) (pv 5) (nomark _)) (pss_one (ps_ret pe_bl)) pss_nil)
      (pss_cons (ps_setLc (i := 6) (own := [("_law_turn", 7)]) (g := gName 7) (tt := tYes) rfl nd rfl rfl (sw_true rfl rfl rfl (by decide +kernel)) (pi_range1 (by rfl) T.range (pa_cons pe_int pa_nil)) (blkOk_by (N := n__law_is_told) (sc := defScope s__law_is_told) (by decide +kernel)) (fun _ _ _ _ _ => pg_name (i := 7) nd rfl (.inl rfl))
          (fun _ _ _ _ _ => pts_nil) (fun _ _ _ _ _ => pe_ix (ixL (K := K) rfl) (pv 4) (pe_call G5 (hr.mono (by decide)) (by rfl) m5 k5 b5 .nil pass0 (pa_cons (pv 0) (pa_cons (pe_callB (lenS (K := K) rfl) (by rfl) T.len boot_len (pa_cons (pv 4) pa_nil)) pa_nil))) (fun _ _ => rfl)))
      (pss_one (ps_ret (pe_cmpR (op_eqD hr.units)
        (pe_lc (own := [("_law_there", 8)]) (g := gName 8) (tt := tNot (tB (tCall sp_law_is_truth [] E0 (tCons (tCall sp_mendable [] E0 (tCons (tVar 1) (tCons (tVar 8) tNil))) (tCons (tVar 5) tNil))))) rfl nd (pi_list (pv 6)) (blkOk_by (N := n__law_is_told) (sc := defScope s__law_is_told) (by decide +kernel)) (fun _ _ _ _ _ => pg_name (i := 8) nd rfl (.inl rfl))
          (fun _ _ _ _ _ => pts_one (pt_not (pt_val (pe_call G2 (hr.mono (by decide)) (by rfl) m2 k2 b2 .nil pass0 (pa_cons (pe_call G3 (hr.mono (by decide)) (by rfl) m3 k3 b3 .nil pass0 (pa_cons (pv 1) (pa_cons (pv 8) pa_nil))) (pa_cons (pv 5) pa_nil))))))
          (fun _ _ _ _ _ => pv 8)) (pe_lst pa_nil) (nomark _)))))))), ?_⟩
    refine ⟨_, rfl, _, rfl, _, rfl, F, v, .ref t, iv, P, ds, im, rfl, fh, hD, W, hT, hI, hR, hP4, hn7, fun F1 H1 sv S U1 hsv hS hSl => ?_⟩
    obtain ⟨sa, ss, rfl, hsa, hss⟩ := id hsv.list'
    have hssl : ss.length = S.length := by rw [hss.len, List.length_map]
    refine ⟨_, rfl, 1, rfl, t, rows, -1, _, rfl, rfl, SqL.of (U1.hereF ht), at_neg1 hrl hcn, ?_⟩
    refine ⟨cn, _, rfl, .inl ⟨SqL.of (U1.hereF hcnr), fun tp ntp => ?_⟩⟩
    have U2 := U1.newF (o := .tup ((row P ds ds.length).map V.int)) ntp
    have hs1 := same_fresh (F := F1) (o := .tup ((row P ds ds.length).map V.int)) (U1.nofr ntp)
    have hn : D (upd F1 tp (.tup ((row P ds ds.length).map V.int))) (.ref tp) (eImg (newI P ds)) := by
      rw [eImg, newI_e]
      exact .tup upd_same (DA.of_ints _)
    have hsv2 := hsv.mono hs1
    refine ⟨_, rfl, eImg (newI P ds), S.map eImg, D.dp U2.fh _ _ hn, D.dp U2.fh _ _ hsv2, shaped_img _, shaped_imgs S, ?_⟩
    rw [any_img]
    obtain ⟨due, hdue⟩ : ∃ due : Bool, decide (newI P ds ∈ S) = due := ⟨_, rfl⟩
    have hdue2 : due = true ↔ Reach ds im (newI P ds) := by rw [← hdue, decide_eq_true_iff]; exact hS _
    rw [hdue]
    generalize (upd F1 tp (.tup ((row P ds ds.length).map V.int))) = F2 at U2 hsv2
    clear hn hs1 U1 hsv hsa hss
    obtain ⟨ss, hsa, hss⟩ : ∃ ss, F2 sa = some (.lst ss) ∧ DA F2 ss (S.map eImg) := by
      obtain ⟨a, xs, e, h1, h2⟩ := hsv2.list'
      cases e
      exact ⟨xs, h1, h2⟩
    have hssl : ss.length = S.length := by rw [hss.len, List.length_map]
    -- mendable is asked
    have ask : ∀ (F3 H3 : Hp) (j : Im) (jv : V) (Q' : VK), Same F2 F3 → Same F3 H3 → D F3 jv (eImg j) → Reach ds im j → (∀ F4 H4, Pu F3 H3 F4 H4 → Q' (.bl due) H4) → sp_mendable [v, jv] H3 Q' E0 := by
      intro F3 H3 j jv Q' s23 fh3 hj rj hq
      have hRj := hR.reach rj
      refine ⟨F3, v, jv, P, ds, MendP P ds j, rfl, fh3, hD.mono (U2.ff.trans s23), .inl W, .inl ⟨j, hj, Iff.rfl⟩, fun F4 H4 b U hb => ?_⟩
      have : b = due := by
        have h1 : b = true ↔ due = true := by
          rw [hb, hdue2]
          exact ⟨fun h => rj.trans h.2.2, fun h => ⟨hP1, hRj, (rj.symm W).trans h⟩⟩
        cases b <;> cases due <;> simp at h1 ⊢
      rw [this]
      exact hq F4 H4 U
    refine ⟨_, rfl, _, rfl, ?_⟩
    simp only [tNil, List.append_nil]
    apply ask F2 _ im iv _ (Same.refl _) U2.fh (hI.mono U2.ff) .refl
    intro F3 H3 U3
    refine ⟨_, rfl, due, due, rfl, _, rfl, ?_⟩
    rw [decide_eq_true (show due = due from rfl)]
    refine iteF ?_
    have U23 := U2.trans U3
    refine ⟨_, rfl, _, rfl, F3, v, iv, P, ds, im, rfl, U3.fh, hD.mono U23.ff, W, hI.mono U23.ff, hR, fun F4 H4 r ls U4 hG hC hr4 => ?_⟩
    have U24 := U23.trans U4
    refine ⟨_, rfl, 1, rfl, t, rows, -1, _, rfl, rfl, SqL.of (U24.hereF ht), at_neg1 hrl hcn, cn, rfl, ⟨_, SqL.of (U24.hereF hcnr)⟩, fun Dl nD => lc_it (walk_list (xs := (row P ds ds.length).map V.int)) (fun i H' => ∃ F5, Pu F4 H4 F5 H' ∧ F5 Dl = none ∧ ∃ zs, H' Dl = some (.lst zs) ∧ DA F5 zs (((fullL P ds).take i).map eLotT))
      ⟨F4, (Step.refl U4.fh).newM nD, none_of_same U4.fh nD, [], upd_same, .nil⟩ (fun i H' _ ⟨F5, S, _⟩ => SqL.of (S.hereF (U24.ff _ _ hcnr))) ?_ ?_⟩
    · rintro i x H5 H6 hi ⟨F5, S5, nfD, zs, eD, hz⟩ ⟨rfl, hxi⟩
      have hiP : i < P := by rw [List.length_map, row_len] at hi; exact hi
      rw [List.getElem?_map, row_at ds _ hiP] at hxi
      obtain rfl := Option.some.inj hxi
      have hzl : zs.length ≤ 10 := by
        rw [hz.len, List.length_map, List.length_take]
        omega
      refine ⟨rfl, yes (iteT ?_)⟩
      refine ⟨_, rfl, (by show 2 ≤ sizeLine; decide), fun c nc => ?_⟩
      have S6 := S5.newF (o := .tup [.int 0, .int (ver ds ds.length i : Int)]) nc
      have ncD : Dl ≠ c := ne_of_none eD nc
      refine ⟨zs, by rw [upd_ne ncD]; exact eD, sizeN (by omega), _, S6.put (p := Dl) (.inl nD) (by rw [upd_ne ncD]; exact nfD) (by rw [upd_ne ncD, eD]; intro z; cases z), by rw [upd_ne ncD]; exact nfD, zs ++ [.ref c], upd_same, ?_⟩
      rw [List.take_add_one, fullL_at P ds hiP, List.map_append]
      exact (hz.mono (same_fresh (S5.nofr nc))).snoc (.tup upd_same (.cons (.int _) (.cons (.int _) .nil)))
    · rintro H5 ⟨F5, S5, nfD, zs, eD, hz⟩
      rw [List.take_of_length_le (by rw [List.length_map, row_len]; simp [fullL])] at hz
      refine ⟨Dl, _, rfl, .inl ⟨SqL.of eD, fun c nc => ?_⟩⟩
      have S6 := S5.newF (o := .tup zs) nc
      have hs := same_fresh (F := F5) (o := .tup zs) (S5.nofr nc)
      have hfull : D (upd F5 c (.tup zs)) (.ref c) (.tuple ((fullL P ds).map eLotT)) := .tup upd_same (hz.mono hs)
      refine ⟨_, _, D.dp S6.fh _ _ ((hr4.mono S5.ff).mono hs), D.dp S6.fh _ _ hfull, shaped_lotsT _, shaped_lotsT _, ?_⟩
      rw [eqv_known]
      have hkd : decide (ls = fullL P ds) = due := by
        have h1 : decide (ls = fullL P ds) = true ↔ due = true := by
          rw [decide_eq_true_iff, hdue2, ← mend_reach W hR hG hC, mend_full W hR hG hC]
        cases hb : decide (ls = fullL P ds) <;> cases due <;> simp [hb] at h1 ⊢
      rw [hkd]
      refine ⟨_, rfl, rfl, _, rfl, iteNS rfl ?_⟩
      have U6 := U24.trans S6
      have P6 : Pool (upd F5 c (.tup zs)) (upd H5 c (.tup zs)) p l := hPl.step U6
      have s26 : Same F2 (upd F5 c (.tup zs)) := U3.ff.trans (U4.ff.trans S6.ff)
      generalize (upd F5 c (.tup zs)) = F6 at U6 P6 s26
      clear hfull S6
      refine ⟨3, rfl, by decide, by decide, fun D2 nD2 => lc_it (n := 3) (walk_range (lo := 0) (n := 3)) (fun i H' => Step (PL p l) F H F6 H' ∧ Pool F6 H' p l ∧ ∃ js zs, H' D2 = some (.lst zs) ∧ DA F6 zs (js.map eImg) ∧ js.length = i ∧ ∀ j ∈ js, j ∈ S)
        ⟨U6.lift.newM nD2, ?_, [], [], upd_same, .nil, rfl, fun j m => nomatch m⟩ (fun _ _ _ _ => trivial) ?_ ?_⟩
      · obtain ⟨d1, d2⟩ := P6.apart (F1 := F) (H1 := H) nD2
        exact P6.oth d1 d2
      · rintro i x H7 H8 hi ⟨S7, P7, js, zs, eD2, hz2, hjl, hjs⟩ ⟨rfl, rfl⟩
        obtain ⟨d1, d2⟩ := P6.apart (F1 := F) (H1 := H) nD2
        have D20 : H D2 = none := U6.dom _ nD2
        have hS1 : 1 ≤ S.length := by
          have : im ∈ S := (hS im).mpr .refl
          exact List.length_pos_of_mem this
        have hsa7 : H8 sa = some (.lst ss) := S7.fh _ _ (s26 _ _ hsa)
        refine ⟨rfl, yes (iteT ?_)⟩
        refine ⟨_, rfl, _, rfl, _, rfl, sa, ss, rfl, .inl (SqL.of hsa7), F6, p, l, ss.length, rfl, S7.fh, P7, by omega, by omega, fun H9 rr S9 P9 hrr => ?_⟩
        obtain ⟨j, hj⟩ : ∃ j, S[rr]? = some j := ⟨_, List.getElem?_eq_getElem (by omega)⟩
        obtain ⟨jv, hjv, hjD⟩ := hss.at (i := rr) (d := eImg j) (by rw [List.getElem?_map, hj] <;> rfl)
        have eD9 : H9 D2 = some (.lst zs) := S9.keep (PL.not d1 d2) eD2
        have hzl : zs.length ≤ 10 := by rw [hz2.len, List.length_map]; omega
        refine ⟨sa, ss, (rr : Int), _, rfl, rfl, SqL.of (S9.fh _ _ (s26 _ _ hsa)), atI_nat hjv, zs, eD9, sizeN (by omega), (S7.trans S9).put (p := D2) (.inl D20) (none_of_same U6.fh nD2) (by rw [eD9]; intro z; cases z), P9.oth d1 d2, js ++ [j], zs ++ [jv], upd_same, ?_, by rw [List.length_append, hjl] <;> rfl, ?_⟩
        · rw [List.map_append]
          exact hz2.snoc (hjD.mono s26)
        · intro j' m
          rcases List.mem_append.mp m with m | m
          · exact hjs j' m
          · rw [List.mem_singleton.mp m]
            exact List.mem_of_getElem? hj
      · rintro H7 ⟨S7, P7, js, zs, eD2, hz2, hjl, hjs⟩
        obtain ⟨d1, d2⟩ := P6.apart (F1 := F) (H1 := H) nD2
        have hzl : zs.length = 3 := by rw [hz2.len, List.length_map, hjl]
        -- the last row
        refine ⟨_, rfl, D2, rfl, ⟨_, SqL.of eD2⟩, fun D3 nD3 => lc_it (walk_list (xs := zs)) (fun i H' => ∃ F8, Pu F6 H7 F8 H' ∧ F8 D3 = none ∧ H' D3 = some (.lst []))
          ⟨F6, (Step.refl S7.fh).newM nD3, none_of_same S7.fh nD3, upd_same⟩ (fun i H' _ ⟨F8, S8, _⟩ => SqL.of (S8.same _ _ eD2)) ?_ ?_⟩
        · rintro i x H8 H9 hi ⟨F8, S8, nf8, eD3⟩ ⟨rfl, hxi⟩
          obtain ⟨d, hd, hdD⟩ := hz2.at' hxi
          rw [List.getElem?_map] at hd
          obtain ⟨j, hj, rfl⟩ : ∃ j, js[i]? = some j ∧ d = eImg j := by
            cases e : js[i]? with
            | none => rw [e] at hd; cases hd
            | some j => rw [e] at hd; exact ⟨j, rfl, (Option.some.inj hd).symm⟩
          have rj := (hS j).mp (hjs j (List.mem_of_getElem? hj))
          refine ⟨rfl, ?_⟩
          refine ⟨_, rfl, _, rfl, ?_⟩
          simp only [tNil, List.append_nil]
          apply ask F8 _ j x _ (s26.trans S8.ff) S8.fh (hdD.mono S8.ff) rj
          intro F10 H10 U10
          refine ⟨_, rfl, due, due, rfl, _, rfl, ?_⟩
          rw [decide_eq_true (show due = due from rfl)]
          refine iteF (A := True) ?_
          exact ⟨F10, S8.trans U10, U10.nw _ nf8 (by rw [eD3]; intro z; cases z), U10.same _ _ eD3⟩
        · rintro H8 ⟨F8, S8, nf8, eD3⟩
          refine ⟨Nat.zero_le _, fun z nz => ?_⟩
          have S9 := S8.newM (o := .lst []) nz
          have eD4 : (upd H8 z (.lst [])) D3 = some (.lst []) := upd_keep eD3 nz
          refine ⟨.list [], .list [], .lst (SqL.of eD4) .nil, .lst (SqL.of upd_same) .nil, shaped_row [], shaped_row [], ?_⟩
          exact q F8 _ (S7.trans S9.lift) (P7.step S9)
end
end K24

end
section
set_option Elab.async false
set_option linter.all false
set_option maxRecDepth 100000
set_option maxHeartbeats 8000000
namespace K24
open PySem PySem.Spec PyProof.Rows L2
theorem cat_fin {K : PySem.W.Frag} {F1 H1 : Hp} {a b : Addr} {xs ys : List V} {Q' : VK} (fh : Same F1 H1) (ha : F1 a = some (.tup xs)) (hb : F1 b = some (.tup ys)) (hx : xs ≠ []) (hl : xs.length + ys.length ≤ 1000)
    (q : ∀ F2 H2 u, Pu F1 H1 F2 H2 → F2 u = some (.tup (xs ++ ys)) → Q' (.ref u) H2) : rCatA K (.ref a) (.ref b) H1 Q' :=
  ⟨a, b, xs, ys, rfl, rfl, SqT.of (fh _ _ ha), SqT.of (fh _ _ hb), cut63 hl, fun h => absurd h hx, fun _ h => q F1 H1 a (.refl fh) (by rw [h, List.append_nil]; exact ha), fun _ _ p np => q _ _ p ((Step.refl fh).newF np) upd_same⟩
/-- what mendable refuses -/
def Bad (F : Hp) (P : Nat) (ds : List Dd) (v : V) : Prop := ImgArg F v (MendP P ds) False
theorem Bad.mono {F F' : Hp} {P : Nat} {ds : List Dd} {v : V} (h : Bad F P ds v) (s : Same F F') : Bad F' P ds v := by
  rcases h with ⟨im, h1, h2⟩ | h
  · exact .inl ⟨im, h1.mono s, h2⟩
  · exact .inr h
theorem Bad.of {F : Hp} {P : Nat} {ds : List Dd} {u : Addr} {im : Im} (h : F u = some (.tup (im.map oV))) (n : ¬ InR P ds im) : Bad F P ds (.ref u) := .inl ⟨im, .of_img h, ⟨fun z => z.elim, fun z => n z.1⟩⟩
section
variable {P : Program} {w : World} {K : PySem.W.Frag} {mg : Str → Option Value} {base : Heap}
def sp_law (K : PySem.W.Frag) : Sp := fun vs H Q _ => ∃ (a : Addr) (ns : List Int), vs = [.ref a] ∧ SqL K H a (ns.map V.int) ∧ ns.length ≤ 63 ∧ ∀ H', Q (.bl true) H'
theorem ok_law {f : Addr} {fd : FuncData} (F : Fun K "law" "law" s_law f fd) (T : Bi mg) (C1 : Cal P w K mg base "_law_pool" 1 ["_law_script"] (sp_law_pool (K := K))) (C2 : Cal P w K mg base "_law_draw" 1 ["_law_pool_here", "_law_many"] sp_law_draw)
    (C3 : Cal P w K mg base "_law_log" 3 ["_law_pool_here", "_law_pages", "_law_deeds", "_law_is_ringless"] sp_law_log) (C4 : Cal P w K mg base "_law_table" 1 ["_law_log_here"] sp_law_table)
    (C5 : Cal P w K mg base "_law_image" 2 ["_law_pool_here", "_law_log_here", "_law_table_here", "_law_lost"] sp_law_image) (C6 : Cal P w K mg base "_law_is_told" 7 ["_law_pool_here", "_law_log_here", "_law_table_here", "_law_image_here"] sp_law_is_told)
    (C7 : Cal P w K mg base "_law_is_truth" 1 ["_law_value", "_law_due"] sp_law_is_truth) (C8 : Cal P w K mg base "mendable" 6 ["log", "image"] sp_mendable) : FnOk P w K mg base CX0 8 f fd ["_law_script"] (sp_law K) := by
  obtain ⟨f1, fd1, G1, m1, k1, b1⟩ := C1
  obtain ⟨f2, fd2, G2, m2, k2, b2⟩ := C2
  obtain ⟨f3, fd3, G3, m3, k3, b3⟩ := C3
  obtain ⟨f4, fd4, G4, m4, k4, b4⟩ := C4
  obtain ⟨f5, fd5, G5, m5, k5, b5⟩ := C5
  obtain ⟨f6, fd6, G6, m6, k6, b6⟩ := C6
  obtain ⟨f7, fd7, G7, m7, k7, b7⟩ := C7
  obtain ⟨f8, fd8, G8, m8, k8, b8⟩ := C8
  refine F.ok sc_law (fun vs H Q E h => ?_) (fun cdv A outer s H vs Q E hr h => ?_)
  · obtain ⟨a, ns, rfl, _⟩ := h
    rfl
  · obtain ⟨a, ns, rfl, hS, hlen, q⟩ := h
    have nd := sc_law.nd
    refine ⟨_, pss_cons (ps_set (i := 1) nd rfl (.inl rfl) (pe_call G1 (hr.mono (by decide)) (by rfl) m1 k1 b1 .nil pass0 (pa_cons (pv 0) pa_nil)))
      (pss_cons (ps_par (i := 2) (j := 3) rfl nd rfl rfl (by decide) rfl rfl (pa_cons (pe_op op_add pe_int (pe_call G2 (hr.mono (by decide)) (by rfl) m2 k2 b2 .nil pass0 (pa_cons (pv 1) (pa_cons pe_int pa_nil)))) (pa_cons (pe_call G2 (hr.mono (by decide)) (by rfl) m2 k2 b2 .nil pass0 (pa_cons (pv 1) (pa_cons pe_int pa_nil))) pa_nil)) (by rfl))
      (pss_cons (ps_set (i := 3) nd rfl (.inl rfl) (pe_ix ix_list (pe_lst (pa_cons (pv 3) (pa_cons (pe_op op_add pe_int (pe_call G2 (hr.mono (by decide)) (by rfl) m2 k2 b2 .nil pass0 (pa_cons (pv 1) (pa_cons pe_int pa_nil)))) pa_nil))) (pe_call G2 (hr.mono (by decide)) (by rfl) m2 k2 b2 .nil pass0 (pa_cons (pv 1) (pa_cons pe_int pa_nil))) (fun _ _ => rfl)))
      (pss_cons (ps_set (i := 4) nd rfl (.inr rfl) (pe_call G3 (hr.mono (by decide)) (by rfl) m3 k3 b3 .nil pass0 (pa_cons (pv 1) (pa_cons (pv 2) (pa_cons (pv 3) (pa_cons (pe_cmpR op_eq (pe_call G2 (hr.mono (by decide)) (by rfl) m2 k2 b2 .nil pass0 (pa_cons (pv 1) (pa_cons pe_int pa_nil))) pe_int (nomark _)) pa_nil))))))
      (pss_cons (ps_set (i := 5) nd rfl (.inl rfl) (pe_call G4 (hr.mono (by decide)) (by rfl) m4 k4 b4 .nil pass0 (pa_cons (pv 4) pa_nil)))
      (pss_cons (ps_for PassesOwn.never rfl (pi_tup (pe_tup (pa_cons pe_int (pa_cons pe_int (pa_cons pe_int pa_nil))))) (pg_name (i := 6) nd rfl (.inl rfl))
        (pss_cons (ps_set (i := 7) nd rfl (.inl rfl) (pe_call G5 (hr.mono (by decide)) (by rfl) m5 k5 b5 .nil pass0 (pa_cons (pv 1) (pa_cons (pv 4) (pa_cons (pv 5) (pa_cons (pv 6) pa_nil))))))
        (pss_one (ps_if (pt_not (pt_val (pe_call G6 (hr.mono (by decide)) (by rfl) m6 k6 b6 .nil pass0 (pa_cons (pv 1) (pa_cons (pv 4) (pa_cons (pv 5) (pa_cons (pv 7) pa_nil))))))) (pss_one (ps_ret pe_bl)) pss_nil))))
      (pss_cons (ps_set (i := 8) nd rfl (.inl rfl) (pe_callTy call_tuple_of (by rfl) T.tup boot_tuple (pa_cons (pe_ix ix_list (pv 5) (pe_un un_neg pe_int) (fun _ _ => rfl)) pa_nil)))
      (pss_cons (ps_set (i := 9) nd rfl (.inl rfl) (pe_lst (pa_cons (pe_op op_catA (pv 8) (pe_tup (pa_cons pe_int pa_nil))) (pa_cons pe_str
          (pa_cons (pe_op op_catA (pe_tup (pa_cons (pe_op op_add (pe_ix ix_tup (pv 8) pe_int (fun _ _ => rfl)) pe_int) pa_nil)) (pe_slice sl_tupA (pv 8) (po_some pe_int) po_none))
          (pa_cons (pe_op op_catA (pe_tup (pa_cons (pe_un un_neg pe_int) pa_nil)) (pe_slice sl_tupA (pv 8) (po_some pe_int) po_none)) (pa_cons pe_non pa_nil)))))))
      (pss_cons (ps_if (pt_cmpR (op_neD hr.units) (pe_lc (own := [("_law_thing", 10)]) (g := gName 10) (tt := tNot (tB (tCall sp_law_is_truth [] E0 (tCons (tCall sp_mendable [] E0 (tCons (tVar 4) (tCons (tVar 10) tNil))) (tCons (tC (.bl false)) tNil))))) rfl nd (pi_list (pv 9)) (blkOk_by (N := n_law) (sc := defScope s_law) (by decide +kernel)) (fun _ _ _ _ _ => pg_name (i := 10) nd rfl (.inl rfl))
            (fun _ _ _ _ _ => pts_one (pt_not (pt_val (pe_call G7 (hr.mono (by decide)) (by rfl) m7 k7 b7 .nil pass0 (pa_cons (pe_call G8 (hr.mono (by decide)) (by rfl) m8 k8 b8 .nil pass0 (pa_cons (pv 4) (pa_cons (pv 10) pa_nil))) (pa_cons pe_bl pa_nil))))))
            (fun _ _ _ _ _ => pv 10)) (pe_lst pa_nil) (nomark _)) (pss_one (ps_ret pe_bl)) pss_nil)
      (pss_one (ps_ret (pe_and (pe_call G7 (hr.mono (by decide)) (by rfl) m7 k7 b7 .nil pass0 (pa_cons (pe_call G8 (hr.mono (by decide)) (by rfl) m8 k8 b8 .nil pass0 (pa_cons (pe_tup (pa_cons pe_int (pa_cons (pe_tup pa_nil) pa_nil))) (pa_cons (pe_tup pa_nil) pa_nil))) (pa_cons pe_bl pa_nil)))
        (pe_one (pe_call G7 (hr.mono (by decide)) (by rfl) m7 k7 b7 .nil pass0 (pa_cons (pe_call G8 (hr.mono (by decide)) (by rfl) m8 k8 b8 .nil pass0 (pa_cons (pv 4) (pa_cons (pv 8) pa_nil))) (pa_cons pe_bl pa_nil))))))))))))))), ?_⟩
    -- pool
    refine seq_of (fun σ' H' => ∃ F1 p l, Same F1 H' ∧ Pool F1 H' p l ∧ σ' = [some (.ref a), some (.ref p), none, none, none, none, none, none, none, none, none]) ?_ (fun rest => ?_)
    · rintro σ H1 ⟨F1, p, l, fh, P1, rfl⟩
      have S0 : Step (PL p l) F1 H1 F1 H1 := .refl fh
      -- pages, deeds
      refine seq_of (fun σ' H' => Step (PL p l) F1 H1 F1 H' ∧ Pool F1 H' p l ∧ ∃ pg n : Nat, 1 ≤ pg ∧ pg ≤ 4 ∧ n ≤ 7 ∧ σ' = [some (.ref a), some (.ref p), some (.int (pg : Int)), some (.int (n : Int)), none, none, none, none, none, none, none]) ?_ (fun rest => ?_)
      · rintro σ H2 ⟨S2, P2, pg, n0, hpg1, hpg4, hn0, rfl⟩
        refine seq_of (fun σ' H' => Step (PL p l) F1 H1 F1 H' ∧ Pool F1 H' p l ∧ ∃ n : Nat, n ≤ 7 ∧ σ' = [some (.ref a), some (.ref p), some (.int (pg : Int)), some (.int (n : Int)), none, none, none, none, none, none, none]) ?_ (fun rest => ?_)
        · rintro σ H3 ⟨S3, P3, n, hn, rfl⟩
          -- log
          refine seq_of (fun σ' H' => ∃ F4 lv ds, Step (PL p l) F1 H1 F4 H' ∧ Pool F4 H' p l ∧ D F4 lv (eLog pg ds) ∧ WF pg ds ∧ ds.length ≤ 7 ∧ σ' = [some (.ref a), some (.ref p), some (.int (pg : Int)), some (.int (n : Int)), some lv, none, none, none, none, none, none]) ?_ (fun rest => ?_)
          · rintro σ H4 ⟨F4, lv, ds, S4, P4, hL, W, hdl, rfl⟩
            have hP1 := W.pos
            -- table
            refine seq_of (fun σ' H' => ∃ F5 tv, Step (PL p l) F1 H1 F5 H' ∧ Pool F5 H' p l ∧ D F5 lv (eLog pg ds) ∧ D F5 tv (eTab pg ds) ∧ σ' = [some (.ref a), some (.ref p), some (.int (pg : Int)), some (.int (n : Int)), some lv, some tv, none, none, none, none, none]) ?_ (fun rest => ?_)
            · rintro σ H5 ⟨F5, tv, S5, P5, hL5, hT5, rfl⟩
              -- the three images
              refine seq_of (fun σ' H' => ∃ F6, Step (PL p l) F1 H1 F6 H' ∧ Same F5 F6 ∧ Pool F6 H' p l ∧ ∃ x6 x7, σ' = [some (.ref a), some (.ref p), some (.int (pg : Int)), some (.int (n : Int)), some lv, some tv, x6, x7, none, none, none]) ?_ (fun rest => ?_)
              · rintro σ H6 ⟨F6, S6, s56, P6, x6, x7, rfl⟩
                have hL6 := hL5.mono s56
                have hT6 := hT5.mono s56
                obtain ⟨t, rows, rfl, ht, hrows⟩ := hT6.list'
                obtain ⟨cn, hcn, hcnr⟩ := hrows.tab (s := ds.length) (Nat.le_refl _)
                have hrl := hrows.tab_len
                -- newest
                refine seq_of (fun σ' H' => ∃ F7 nt, Pu F6 H6 F7 H' ∧ F7 nt = some (.tup ((row pg ds ds.length).map V.int)) ∧ σ' = [some (.ref a), some (.ref p), some (.int (pg : Int)), some (.int (n : Int)), some lv, some (.ref t), x6, x7, some (.ref nt), none, none]) ?_ (fun rest => ?_)
                · rintro σ H7 ⟨F7, nt, S7, hnt, rfl⟩
                  have hL7 := hL6.mono S7.ff
                  have hrow0 : ((row pg ds ds.length).map V.int)[0]? = some (.int (ver ds ds.length 0 : Int)) := by rw [List.getElem?_map, row_at ds _ hP1] <;> rfl
                  have hrowl : ((row pg ds ds.length).map V.int).length = pg := by rw [List.length_map, row_len]
                  have hwhole : ¬ (HT.sIx ((row pg ds ds.length).map V.int).length 0 (some (1 : Int)) = 0 ∧ HT.sIx ((row pg ds ds.length).map V.int).length ((row pg ds ds.length).map V.int).length none = ((row pg ds ds.length).map V.int).length) := by
                    rintro ⟨h, _⟩
                    rw [show HT.sIx ((row pg ds ds.length).map V.int).length 0 (some (1 : Int)) = min 1 _ from HT.sIx_nat _ 0 1, hrowl] at h
                    omega
                  -- a changed first number is no version
                  have bad1 : ∀ (F8 : Hp) (u : Addr) (z : Int), F8 u = some (.tup ([V.int z] ++ ((row pg ds ds.length).map V.int).drop 1)) → ¬ (0 ≤ z ∧ z ≤ (ver ds ds.length 0 : Int)) → Bad F8 pg ds (.ref u) := by
                    intro F8 u z hu hz
                    refine Bad.of (im := some z :: ((row pg ds ds.length).map some).drop 1) ?_ fun R => hz (R.rng 0 z rfl)
                    rw [hu, List.map_cons, List.map_drop, List.map_map]
                    rfl
                  -- wrong
                  refine seq_of (fun σ' H' => ∃ F8 wr xs, Pu F7 H7 F8 H' ∧ H' wr = some (.lst xs) ∧ H7 wr = none ∧ (∀ x ∈ xs, Bad F8 pg ds x) ∧ xs.length ≤ 5 ∧ σ' = [some (.ref a), some (.ref p), some (.int (pg : Int)), some (.int (n : Int)), some lv, some (.ref t), x6, x7, some (.ref nt), some (.ref wr), none]) ?_ (fun rest => ?_)
                  · rintro σ H8 ⟨F8, wr, xs, S8, ewr, wr0, hbad, hxl, rfl⟩
                    have hL8 := hL7.mono S8.ff
                    have ask : ∀ (F9 H9 : Hp) (x : V) (Q' : VK), Same F8 F9 → Same F9 H9 → Bad F9 pg ds x → (∀ F10 H10, Pu F9 H9 F10 H10 → Q' (.bl false) H10) → sp_mendable [lv, x] H9 Q' E0 := by
                      intro F9 H9 x Q' s89 fh9 hb hq
                      refine ⟨F9, lv, x, pg, ds, False, rfl, fh9, hL8.mono s89, .inl W, hb, fun F10 H10 b U hb => ?_⟩
                      have : b = false := by
                        cases b with
                        | false => rfl
                        | true => exact (hb.mp rfl).2.elim
                      rw [this]
                      exact hq F10 H10 U
                    refine seq_of (fun σ' H' => ∃ F9, Pu F8 H8 F9 H' ∧ σ' = [some (.ref a), some (.ref p), some (.int (pg : Int)), some (.int (n : Int)), some lv, some (.ref t), x6, x7, some (.ref nt), some (.ref wr), none]) ?_ (fun rest => ?_)
                    · rintro σ H9 ⟨F9, S9, rfl⟩
                      -- the last row
                      have hL9 := hL8.mono S9.ff
                      refine ⟨Nat.zero_le _, fun e1 ne1 => ?_⟩
                      have S10 := S9.newF (o := .tup []) ne1
                      refine ⟨(by show 2 ≤ sizeLine; decide), fun e2 ne2 => ?_⟩
                      have S11 := S10.newF (o := .tup [.int 0, .ref e1]) ne2
                      refine ⟨Nat.zero_le _, fun e3 ne3 => ?_⟩
                      have S12 := S11.newF (o := .tup []) ne3
                      have hs1 := same_fresh (F := F9) (o := .tup []) (S9.nofr ne1)
                      have hs2 := same_fresh (F := upd F9 e1 (.tup [])) (o := .tup [.int 0, .ref e1]) (S10.nofr ne2)
                      have hs3 := same_fresh (F := upd (upd F9 e1 (.tup [])) e2 (.tup [.int 0, .ref e1])) (o := .tup []) (S11.nofr ne3)
                      refine ⟨_, .ref e2, .ref e3, 0, [], MendP 0 [] [], rfl, S12.fh, .tup (hs3 _ _ upd_same) (.cons (.int _) (.cons (.tup (hs3 _ _ (hs2 _ _ upd_same)) .nil) .nil)), .inr rfl, .inl ⟨[], .tup upd_same .nil, Iff.rfl⟩, fun F13 H13 b S13 hb => ?_⟩
                      have hbf : b = false := by
                        cases b with
                        | false => rfl
                        | true => exact absurd (hb.mp rfl).1 (by decide)
                      subst hbf
                      refine ⟨false, false, rfl, true, rfl, iteT ?_⟩
                      have S14 := (S8.trans S12).trans S13
                      refine ⟨_, rfl, _, rfl, F13, lv, .ref nt, pg, ds, MendP pg ds (newI pg ds), rfl, S13.fh, hL7.mono S14.ff, .inl W, .inl ⟨newI pg ds, ?_, Iff.rfl⟩, fun F15 H15 b S15 hb => ?_⟩
                      · rw [eImg, newI_e]
                        exact .tup (S14.ff _ _ hnt) (DA.of_ints _)
                      · have hbt : b = true := hb.mpr ⟨hP1, newI_inR pg ds, .refl⟩
                        subst hbt
                        exact ⟨true, true, rfl, q _⟩
                    · refine ⟨_, rfl, wr, rfl, ⟨_, SqL.of ewr⟩, fun D3 nD3 => lc_it (walk_list (xs := xs)) (fun i H' => ∃ F9, Pu F8 H8 F9 H' ∧ F9 D3 = none ∧ H' D3 = some (.lst []))
                        ⟨F8, (Step.refl S8.fh).newM nD3, none_of_same S8.fh nD3, upd_same⟩ (fun i H' _ ⟨F9, S9, _⟩ => SqL.of (S9.same _ _ ewr)) ?_ ?_⟩
                      · rintro i x H9 H10 hi ⟨F9, S9, nf9, eD3⟩ ⟨rfl, hxi⟩
                        refine ⟨rfl, ?_⟩
                        refine ⟨_, rfl, _, rfl, ?_⟩
                        simp only [tNil, List.append_nil]
                        apply ask F9 _ x _ S9.ff S9.fh ((hbad x (List.mem_of_getElem? hxi)).mono S9.ff)
                        intro F11 H11 U11
                        refine ⟨false, false, rfl, true, rfl, ?_⟩
                        refine iteF (A := True) ?_
                        exact ⟨F11, S9.trans U11, U11.nw _ nf9 (by rw [eD3]; intro z; cases z), U11.same _ _ eD3⟩
                      · rintro H9 ⟨F9, S9, nf9, eD3⟩
                        refine ⟨Nat.zero_le _, fun z nz => ?_⟩
                        have S10 := S9.newM (o := .lst []) nz
                        have eD4 : (upd H9 z (.lst [])) D3 = some (.lst []) := upd_keep eD3 nz
                        refine ⟨.list [], .list [], .lst (SqL.of eD4) .nil, .lst (SqL.of upd_same) .nil, shaped_row [], shaped_row [], _, rfl, ?_⟩
                        exact iteF (A := True) (rest _ _ ⟨F9, S10, rfl⟩)
                  · -- newest + (0,)
                    refine ⟨_, rfl, (by show 1 ≤ sizeLine; decide), fun z1 nz1 => ?_⟩
                    have S8 := (Step.refl (M := No) S7.fh).newF (o := .tup [.int 0]) nz1
                    have hs1 := same_fresh (F := F7) (o := .tup [.int 0]) (S7.nofr nz1)
                    refine cat_fin S8.fh (hs1 _ _ hnt) upd_same (by intro h; rw [h] at hrowl; simp at hrowl; omega) (by rw [hrowl]; show pg + 1 ≤ 1000; omega) fun F9 H9 u1 S9 hu1 => ?_
                    have U9 := S8.trans S9
                    have bad_1 : Bad F9 pg ds (.ref u1) := by
                      refine Bad.of (im := (row pg ds ds.length).map some ++ [some 0]) ?_ fun R => ?_
                      · rw [hu1, List.map_append, List.map_map]
                        rfl
                      · have := R.len
                        rw [List.length_append, List.length_map, row_len] at this
                        simp at this
                    refine ⟨_, rfl, nt, _, 0, _, rfl, rfl, SqT.of (U9.fh _ _ (U9.ff _ _ hnt)), atI_nat (j := 0) hrow0, _, _, rfl, rfl, (by show 1 ≤ sizeLine; decide), fun z2 nz2 => ?_⟩
                    have U10 := U9.newF (o := .tup [.int ((ver ds ds.length 0 : Int) + 1)]) nz2
                    refine ⟨_, rfl, 1, rfl, nt, _, rfl, SqT.of (U10.fh _ _ (U10.ff _ _ hnt)), fun h => absurd h hwhole, fun _ z3 nz3 => ?_⟩
                    rw [cut1]
                    have U11 := U10.newF (o := .tup (((row pg ds ds.length).map V.int).drop 1)) nz3
                    have hs3 := same_fresh (F := upd F9 z2 (.tup [.int ((ver ds ds.length 0 : Int) + 1)])) (o := .tup (((row pg ds ds.length).map V.int).drop 1)) (U10.nofr nz3)
                    refine cat_fin U11.fh (hs3 _ _ upd_same) upd_same (by intro h; cases h) (by rw [List.length_drop, hrowl]; show 1 + (pg - 1) ≤ 1000; omega) fun F12 H12 u2 S12 hu2 => ?_
                    have U12 := U11.trans S12
                    have bad_2 : Bad F12 pg ds (.ref u2) := bad1 F12 u2 _ hu2 (by omega)
                    have s9_12 : Same F9 F12 := (same_fresh (U9.nofr nz2)).trans (hs3.trans S12.ff)
                    refine ⟨1, rfl, (by show 1 ≤ sizeLine; decide), fun z4 nz4 => ?_⟩
                    have U13 := U12.newF (o := .tup [.int (-1)]) nz4
                    refine ⟨_, rfl, 1, rfl, nt, _, rfl, SqT.of (U13.fh _ _ (U13.ff _ _ hnt)), fun h => absurd h hwhole, fun _ z5 nz5 => ?_⟩
                    rw [cut1]
                    have U14 := U13.newF (o := .tup (((row pg ds ds.length).map V.int).drop 1)) nz5
                    have hs5 := same_fresh (F := upd F12 z4 (.tup [.int (-1)])) (o := .tup (((row pg ds ds.length).map V.int).drop 1)) (U13.nofr nz5)
                    refine cat_fin U14.fh (hs5 _ _ upd_same) upd_same (by intro h; cases h) (by rw [List.length_drop, hrowl]; show 1 + (pg - 1) ≤ 1000; omega) fun F15 H15 u3 S15 hu3 => ?_
                    have U15 := U14.trans S15
                    have bad_3 : Bad F15 pg ds (.ref u3) := bad1 F15 u3 _ hu3 (by omega)
                    have s12_15 : Same F12 F15 := (same_fresh (U12.nofr nz4)).trans (hs5.trans S15.ff)
                    refine ⟨(by show 5 ≤ sizeLine; decide), fun wr nwr => ?_⟩
                    refine rest _ _ ⟨F15, wr, _, U15.newM nwr, upd_same, U15.dom _ nwr, fun x m => ?_, Nat.le_refl _, rfl⟩
                    rcases List.mem_cons.mp m with rfl | m
                    · exact (bad_1.mono s9_12).mono s12_15
                    rcases List.mem_cons.mp m with rfl | m
                    · exact .inr ⟨.inr ⟨_, rfl⟩, fun z => z⟩
                    rcases List.mem_cons.mp m with rfl | m
                    · exact bad_2.mono s12_15
                    rcases List.mem_cons.mp m with rfl | m
                    · exact bad_3
                    rcases List.mem_cons.mp m with rfl | m
                    · exact .inr ⟨.inl rfl, fun z => z⟩
                    · cases m
                · refine ⟨_, rfl, 1, rfl, t, rows, -1, _, rfl, rfl, SqL.of (S6.fh _ _ ht), at_neg1 hrl hcn, ?_⟩
                  refine ⟨cn, _, rfl, .inl ⟨SqL.of (S6.fh _ _ hcnr), fun nt nnt => ?_⟩⟩
                  exact rest _ _ ⟨_, nt, (Step.refl S6.fh).newF nnt, upd_same, rfl⟩
              · refine ⟨(by show 3 ≤ sizeLine; decide), fun lt nlt => ?_⟩
                obtain ⟨lt1, lt2⟩ := P5.apart (F1 := F1) (H1 := H) nlt
                have S6 := S5.newM (o := .tup [.int 0, .int 0, .int 2]) nlt
                have P6 := P5.oth (o := .tup [.int 0, .int 0, .int 2]) lt1 lt2
                refine ⟨lt, rfl, ⟨_, SqT.of upd_same⟩, for_tup (K := K) (a := lt) (xs := [0, 0, 2].map nV) (fun i σ H' => H' lt = some (.tup ([0, 0, 2].map nV)) ∧ ∃ F6, Step (PL p l) F1 H1 F6 H' ∧ Same F5 F6 ∧ Pool F6 H' p l ∧ ∃ x6 x7, σ = [some (.ref a), some (.ref p), some (.int (pg : Int)), some (.int (n : Int)), some lv, some tv, x6, x7, none, none, none])
                  ⟨upd_same, F5, S6, Same.refl _, P6, none, none, rfl⟩ (fun i σ H' _ ⟨e, _⟩ => SqT.of e) ?_ ?_⟩
                · rintro i x σ H7 hxi ⟨elt, F6, S7, s56, P7, x6, x7, rfl⟩
                  obtain ⟨lost, hlost, rfl⟩ := nV_at hxi
                  have hl2 : lost ≤ 100 := by
                    have := List.mem_of_getElem? hlost
                    simp at this
                    omega
                  refine ⟨_, rfl, _, rfl, _, rfl, _, rfl, F6, p, l, lv, tv, pg, lost, ds, rfl, S7.fh, P7, hL5.mono s56, W, hT5.mono s56, hl2, fun F8 H8 iv im S8 P8 him hR => ?_⟩
                  have s68 : Same F5 F8 := s56.trans S8.ff
                  refine ⟨_, rfl, _, rfl, _, rfl, _, rfl, F8, p, l, lv, tv, iv, pg, ds, im, rfl, S8.fh, P8, hL5.mono s68, W, hT5.mono s68, him, hR, hpg4, hdl, fun F9 H9 S9 P9 => ⟨true, rfl, ?_⟩⟩
                  refine iteF ?_
                  exact ⟨S9.keep (PL.not lt1 lt2) (S8.keep (PL.not lt1 lt2) elt), F9, (S7.trans S8).trans S9, s68.trans S9.ff, P9, _, _, rfl⟩
                · rintro σ H7 ⟨elt, F6, S7, s56, P7, x6, x7, rfl⟩
                  exact rest _ _ ⟨F6, S7, s56, P7, x6, x7, rfl⟩
            · refine ⟨_, rfl, F4, lv, pg, ds, rfl, S4.fh, hL, W, fun F5 H5 tv S5 hT => ?_⟩
              exact rest _ _ ⟨F5, tv, S4.trans S5.lift, P4.step S5, hL.mono S5.ff, hT, rfl⟩
          · refine ⟨_, rfl, _, rfl, _, rfl, _, rfl, F1, p, l, 5, rfl, S3.fh, P3, by decide, by decide, fun H4 r4 S4 P4 hr4 => ?_⟩
            refine ⟨rfl, F1, p, l, pg, n, _, rfl, S4.fh, P4, hpg1, hpg4, hn, fun F5 H5 lv ds S5 P5 hL W hdl => ?_⟩
            exact rest _ _ ⟨F5, lv, ds, (S3.trans S4).trans S5, P5, hL, W, by omega, rfl⟩
        · refine ⟨_, rfl, _, rfl, F1, p, l, 3, rfl, S2.fh, P2, by decide, by decide, fun H3 r3 S3 P3 hr3 => ?_⟩
          refine ⟨_, _, rfl, rfl, (by show 2 ≤ sizeLine; decide), fun c nc => ?_⟩
          obtain ⟨c1, c2⟩ := P3.apart (F1 := F1) (H1 := H) nc
          have S4 := (S2.trans S3).newM (o := .lst [.int (n0 : Int), .int (5 + (r3 : Int))]) nc
          have P4 := P3.oth (o := .lst [.int (n0 : Int), .int (5 + (r3 : Int))]) c1 c2
          refine ⟨_, rfl, F1, p, l, 2, rfl, S4.fh, P4, by decide, by decide, fun H5 r5 S5 P5 hr5 => ?_⟩
          have ec := S5.keep (PL.not c1 c2) (upd_same (H := H3) (a := c) (o := .lst [.int (n0 : Int), .int (5 + (r3 : Int))]))
          have S45 := S4.trans S5
          match r5, hr5 with
          | 0, _ => exact ⟨c, _, 0, _, rfl, rfl, SqL.of ec, rfl, rest _ _ ⟨S45, P5, n0, hn0, rfl⟩⟩
          | 1, _ =>
            refine ⟨c, _, 1, _, rfl, rfl, SqL.of ec, rfl, rest _ _ ⟨S45, P5, 5 + r3, by omega, ?_⟩⟩
            show [some (V.ref a), some (V.ref p), some (V.int (pg : Int)), some (V.int (5 + (r3 : Int))), none, none, none, none, none, none, none] = [some (V.ref a), some (V.ref p), some (V.int (pg : Int)), some (V.int ((5 + r3 : Nat) : Int)), none, none, none, none, none, none, none]
            rw [show (5 : Int) + (r3 : Int) = ((5 + r3 : Nat) : Int) by omega]
      · refine ⟨_, rfl, F1, p, l, 4, rfl, fh, P1, by decide, by decide, fun H2 r2 S2 P2 hr2 => ?_⟩
        refine ⟨_, _, rfl, rfl, _, rfl, F1, p, l, 8, rfl, S2.fh, P2, by decide, by decide, fun H3 r3 S3 P3 hr3 => ?_⟩
        refine ⟨_, _, rfl, rest _ _ ⟨S2.trans S3, P3, 1 + r2, r3, by omega, by omega, by omega, ?_⟩⟩
        show [some (V.ref a), some (V.ref p), some (V.int (1 + (r2 : Int))), some (V.int (r3 : Int)), none, none, none, none, none, none, none] = [some (V.ref a), some (V.ref p), some (V.int ((1 + r2 : Nat) : Int)), some (V.int (r3 : Int)), none, none, none, none, none, none, none]
        rw [show (1 : Int) + (r2 : Int) = ((1 + r2 : Nat) : Int) by omega]
    · refine ⟨_, rfl, a, ns, rfl, hS, by omega, fun H1 p l S np nl hpl hx => rest _ _ ⟨fun _ => none, p, l, fun b o e => (nomatch e), ⟨hpl, rfl, rfl, hx⟩, rfl⟩⟩
end
end K24

end
section
set_option Elab.async false
set_option linter.all false
set_option maxRecDepth 100000
set_option maxHeartbeats 8000000
/-! What the top has written (printed by genz.py). -/
namespace K24
open PySem PySem.Spec PyProof.Rows L2

theorem all_mk {l : PySem.W.OpenLaw} {w : World} {K : PySem.W.Frag} {h : Heap} {mg : Str → Option Value} {fa : Addr} (X : K.In h) (G : h.Ns mainGlobals mg) (hfa : mg "law" = some (.ref fa))
    {fd6 : Addr} {odd6 and6 : Option Addr} {sld6 : Array (Option Value)} {ocd6 kVd6 dcd6 pmd6 cdd6 ctd6 : Value}
    (ad6 : PySem.W.nsIn K mainGlobals "is_whole" = some (some (.ref fd6))) (ld6 : K.lookup fd6 = some ⟨ocd6, odd6, .func (PySem.W.fnOf "is_whole" "is_whole" (defArgs s_is_whole) (defBody s_is_whole) (defScope s_is_whole) .none kVd6 dcd6 pmd6 and6 cdd6 ctd6), sld6⟩) (cd6 : PySem.W.codeIn K cdd6 "is_whole" = true) (kd6 : PySem.W.keepIn K (.ref fd6) = true)
    {fd10 : Addr} {odd10 and10 : Option Addr} {sld10 : Array (Option Value)} {ocd10 kVd10 dcd10 pmd10 cdd10 ctd10 : Value}
    (ad10 : PySem.W.nsIn K mainGlobals "is_bare_deed" = some (some (.ref fd10))) (ld10 : K.lookup fd10 = some ⟨ocd10, odd10, .func (PySem.W.fnOf "is_bare_deed" "is_bare_deed" (defArgs s_is_bare_deed) (defBody s_is_bare_deed) (defScope s_is_bare_deed) .none kVd10 dcd10 pmd10 and10 cdd10 ctd10), sld10⟩) (cd10 : PySem.W.codeIn K cdd10 "is_bare_deed" = true) (kd10 : PySem.W.keepIn K (.ref fd10) = true)
    {fd11 : Addr} {odd11 and11 : Option Addr} {sld11 : Array (Option Value)} {ocd11 kVd11 dcd11 pmd11 cdd11 ctd11 : Value}
    (ad11 : PySem.W.nsIn K mainGlobals "is_log_shape" = some (some (.ref fd11))) (ld11 : K.lookup fd11 = some ⟨ocd11, odd11, .func (PySem.W.fnOf "is_log_shape" "is_log_shape" (defArgs s_is_log_shape) (defBody s_is_log_shape) (defScope s_is_log_shape) .none kVd11 dcd11 pmd11 and11 cdd11 ctd11), sld11⟩) (cd11 : PySem.W.codeIn K cdd11 "is_log_shape" = true) (kd11 : PySem.W.keepIn K (.ref fd11) = true)
    {fd12 : Addr} {odd12 and12 : Option Addr} {sld12 : Array (Option Value)} {ocd12 kVd12 dcd12 pmd12 cdd12 ctd12 : Value}
    (ad12 : PySem.W.nsIn K mainGlobals "first_bad_deed" = some (some (.ref fd12))) (ld12 : K.lookup fd12 = some ⟨ocd12, odd12, .func (PySem.W.fnOf "first_bad_deed" "first_bad_deed" (defArgs s_first_bad_deed) (defBody s_first_bad_deed) (defScope s_first_bad_deed) .none kVd12 dcd12 pmd12 and12 cdd12 ctd12), sld12⟩) (cd12 : PySem.W.codeIn K cdd12 "first_bad_deed" = true) (kd12 : PySem.W.keepIn K (.ref fd12) = true)
    {fd13 : Addr} {odd13 and13 : Option Addr} {sld13 : Array (Option Value)} {ocd13 kVd13 dcd13 pmd13 cdd13 ctd13 : Value}
    (ad13 : PySem.W.nsIn K mainGlobals "is_log" = some (some (.ref fd13))) (ld13 : K.lookup fd13 = some ⟨ocd13, odd13, .func (PySem.W.fnOf "is_log" "is_log" (defArgs s_is_log) (defBody s_is_log) (defScope s_is_log) .none kVd13 dcd13 pmd13 and13 cdd13 ctd13), sld13⟩) (cd13 : PySem.W.codeIn K cdd13 "is_log" = true) (kd13 : PySem.W.keepIn K (.ref fd13) = true)
    {fd14 : Addr} {odd14 and14 : Option Addr} {sld14 : Array (Option Value)} {ocd14 kVd14 dcd14 pmd14 cdd14 ctd14 : Value}
    (ad14 : PySem.W.nsIn K mainGlobals "made_log" = some (some (.ref fd14))) (ld14 : K.lookup fd14 = some ⟨ocd14, odd14, .func (PySem.W.fnOf "made_log" "made_log" (defArgs s_made_log) (defBody s_made_log) (defScope s_made_log) .none kVd14 dcd14 pmd14 and14 cdd14 ctd14), sld14⟩) (cd14 : PySem.W.codeIn K cdd14 "made_log" = true) (kd14 : PySem.W.keepIn K (.ref fd14) = true)
    {fd15 : Addr} {odd15 and15 : Option Addr} {sld15 : Array (Option Value)} {ocd15 kVd15 dcd15 pmd15 cdd15 ctd15 : Value}
    (ad15 : PySem.W.nsIn K mainGlobals "own_numbers" = some (some (.ref fd15))) (ld15 : K.lookup fd15 = some ⟨ocd15, odd15, .func (PySem.W.fnOf "own_numbers" "own_numbers" (defArgs s_own_numbers) (defBody s_own_numbers) (defScope s_own_numbers) .none kVd15 dcd15 pmd15 and15 cdd15 ctd15), sld15⟩) (cd15 : PySem.W.codeIn K cdd15 "own_numbers" = true) (kd15 : PySem.W.keepIn K (.ref fd15) = true)
    {fd16 : Addr} {odd16 and16 : Option Addr} {sld16 : Array (Option Value)} {ocd16 kVd16 dcd16 pmd16 cdd16 ctd16 : Value}
    (ad16 : PySem.W.nsIn K mainGlobals "newest" = some (some (.ref fd16))) (ld16 : K.lookup fd16 = some ⟨ocd16, odd16, .func (PySem.W.fnOf "newest" "newest" (defArgs s_newest) (defBody s_newest) (defScope s_newest) .none kVd16 dcd16 pmd16 and16 cdd16 ctd16), sld16⟩) (cd16 : PySem.W.codeIn K cdd16 "newest" = true) (kd16 : PySem.W.keepIn K (.ref fd16) = true)
    {fd17 : Addr} {odd17 and17 : Option Addr} {sld17 : Array (Option Value)} {ocd17 kVd17 dcd17 pmd17 cdd17 ctd17 : Value}
    (ad17 : PySem.W.nsIn K mainGlobals "first_bad_page" = some (some (.ref fd17))) (ld17 : K.lookup fd17 = some ⟨ocd17, odd17, .func (PySem.W.fnOf "first_bad_page" "first_bad_page" (defArgs s_first_bad_page) (defBody s_first_bad_page) (defScope s_first_bad_page) .none kVd17 dcd17 pmd17 and17 cdd17 ctd17), sld17⟩) (cd17 : PySem.W.codeIn K cdd17 "first_bad_page" = true) (kd17 : PySem.W.keepIn K (.ref fd17) = true)
    {fd18 : Addr} {odd18 and18 : Option Addr} {sld18 : Array (Option Value)} {ocd18 kVd18 dcd18 pmd18 cdd18 ctd18 : Value}
    (ad18 : PySem.W.nsIn K mainGlobals "is_image" = some (some (.ref fd18))) (ld18 : K.lookup fd18 = some ⟨ocd18, odd18, .func (PySem.W.fnOf "is_image" "is_image" (defArgs s_is_image) (defBody s_is_image) (defScope s_is_image) .none kVd18 dcd18 pmd18 and18 cdd18 ctd18), sld18⟩) (cd18 : PySem.W.codeIn K cdd18 "is_image" = true) (kd18 : PySem.W.keepIn K (.ref fd18) = true)
    {fd19 : Addr} {odd19 and19 : Option Addr} {sld19 : Array (Option Value)} {ocd19 kVd19 dcd19 pmd19 cdd19 ctd19 : Value}
    (ad19 : PySem.W.nsIn K mainGlobals "made_image" = some (some (.ref fd19))) (ld19 : K.lookup fd19 = some ⟨ocd19, odd19, .func (PySem.W.fnOf "made_image" "made_image" (defArgs s_made_image) (defBody s_made_image) (defScope s_made_image) .none kVd19 dcd19 pmd19 and19 cdd19 ctd19), sld19⟩) (cd19 : PySem.W.codeIn K cdd19 "made_image" = true) (kd19 : PySem.W.keepIn K (.ref fd19) = true)
    {fd21 : Addr} {odd21 and21 : Option Addr} {sld21 : Array (Option Value)} {ocd21 kVd21 dcd21 pmd21 cdd21 ctd21 : Value}
    (ad21 : PySem.W.nsIn K mainGlobals "moment_table" = some (some (.ref fd21))) (ld21 : K.lookup fd21 = some ⟨ocd21, odd21, .func (PySem.W.fnOf "moment_table" "moment_table" (defArgs s_moment_table) (defBody s_moment_table) (defScope s_moment_table) .none kVd21 dcd21 pmd21 and21 cdd21 ctd21), sld21⟩) (cd21 : PySem.W.codeIn K cdd21 "moment_table" = true) (kd21 : PySem.W.keepIn K (.ref fd21) = true)
    {fd22 : Addr} {odd22 and22 : Option Addr} {sld22 : Array (Option Value)} {ocd22 kVd22 dcd22 pmd22 cdd22 ctd22 : Value}
    (ad22 : PySem.W.nsIn K mainGlobals "single_lots" = some (some (.ref fd22))) (ld22 : K.lookup fd22 = some ⟨ocd22, odd22, .func (PySem.W.fnOf "single_lots" "single_lots" (defArgs s_single_lots) (defBody s_single_lots) (defScope s_single_lots) .none kVd22 dcd22 pmd22 and22 cdd22 ctd22), sld22⟩) (cd22 : PySem.W.codeIn K cdd22 "single_lots" = true) (kd22 : PySem.W.keepIn K (.ref fd22) = true)
    {fd23 : Addr} {odd23 and23 : Option Addr} {sld23 : Array (Option Value)} {ocd23 kVd23 dcd23 pmd23 cdd23 ctd23 : Value}
    (ad23 : PySem.W.nsIn K mainGlobals "reads_known" = some (some (.ref fd23))) (ld23 : K.lookup fd23 = some ⟨ocd23, odd23, .func (PySem.W.fnOf "reads_known" "reads_known" (defArgs s_reads_known) (defBody s_reads_known) (defScope s_reads_known) .none kVd23 dcd23 pmd23 and23 cdd23 ctd23), sld23⟩) (cd23 : PySem.W.codeIn K cdd23 "reads_known" = true) (kd23 : PySem.W.keepIn K (.ref fd23) = true)
    {fd24 : Addr} {odd24 and24 : Option Addr} {sld24 : Array (Option Value)} {ocd24 kVd24 dcd24 pmd24 cdd24 ctd24 : Value}
    (ad24 : PySem.W.nsIn K mainGlobals "growth_of" = some (some (.ref fd24))) (ld24 : K.lookup fd24 = some ⟨ocd24, odd24, .func (PySem.W.fnOf "growth_of" "growth_of" (defArgs s_growth_of) (defBody s_growth_of) (defScope s_growth_of) .none kVd24 dcd24 pmd24 and24 cdd24 ctd24), sld24⟩) (cd24 : PySem.W.codeIn K cdd24 "growth_of" = true) (kd24 : PySem.W.keepIn K (.ref fd24) = true)
    {fd25 : Addr} {odd25 and25 : Option Addr} {sld25 : Array (Option Value)} {ocd25 kVd25 dcd25 pmd25 cdd25 ctd25 : Value}
    (ad25 : PySem.W.nsIn K mainGlobals "edge_deeds" = some (some (.ref fd25))) (ld25 : K.lookup fd25 = some ⟨ocd25, odd25, .func (PySem.W.fnOf "edge_deeds" "edge_deeds" (defArgs s_edge_deeds) (defBody s_edge_deeds) (defScope s_edge_deeds) .none kVd25 dcd25 pmd25 and25 cdd25 ctd25), sld25⟩) (cd25 : PySem.W.codeIn K cdd25 "edge_deeds" = true) (kd25 : PySem.W.keepIn K (.ref fd25) = true)
    {fd26 : Addr} {odd26 and26 : Option Addr} {sld26 : Array (Option Value)} {ocd26 kVd26 dcd26 pmd26 cdd26 ctd26 : Value}
    (ad26 : PySem.W.nsIn K mainGlobals "next_growth" = some (some (.ref fd26))) (ld26 : K.lookup fd26 = some ⟨ocd26, odd26, .func (PySem.W.fnOf "next_growth" "next_growth" (defArgs s_next_growth) (defBody s_next_growth) (defScope s_next_growth) .none kVd26 dcd26 pmd26 and26 cdd26 ctd26), sld26⟩) (cd26 : PySem.W.codeIn K cdd26 "next_growth" = true) (kd26 : PySem.W.keepIn K (.ref fd26) = true)
    {fd27 : Addr} {odd27 and27 : Option Addr} {sld27 : Array (Option Value)} {ocd27 kVd27 dcd27 pmd27 cdd27 ctd27 : Value}
    (ad27 : PySem.W.nsIn K mainGlobals "grow" = some (some (.ref fd27))) (ld27 : K.lookup fd27 = some ⟨ocd27, odd27, .func (PySem.W.fnOf "grow" "grow" (defArgs s_grow) (defBody s_grow) (defScope s_grow) .none kVd27 dcd27 pmd27 and27 cdd27 ctd27), sld27⟩) (cd27 : PySem.W.codeIn K cdd27 "grow" = true) (kd27 : PySem.W.keepIn K (.ref fd27) = true)
    {fd28 : Addr} {odd28 and28 : Option Addr} {sld28 : Array (Option Value)} {ocd28 kVd28 dcd28 pmd28 cdd28 ctd28 : Value}
    (ad28 : PySem.W.nsIn K mainGlobals "growths" = some (some (.ref fd28))) (ld28 : K.lookup fd28 = some ⟨ocd28, odd28, .func (PySem.W.fnOf "growths" "growths" (defArgs s_growths) (defBody s_growths) (defScope s_growths) .none kVd28 dcd28 pmd28 and28 cdd28 ctd28), sld28⟩) (cd28 : PySem.W.codeIn K cdd28 "growths" = true) (kd28 : PySem.W.keepIn K (.ref fd28) = true)
    {fd29 : Addr} {odd29 and29 : Option Addr} {sld29 : Array (Option Value)} {ocd29 kVd29 dcd29 pmd29 cdd29 ctd29 : Value}
    (ad29 : PySem.W.nsIn K mainGlobals "told_lots" = some (some (.ref fd29))) (ld29 : K.lookup fd29 = some ⟨ocd29, odd29, .func (PySem.W.fnOf "told_lots" "told_lots" (defArgs s_told_lots) (defBody s_told_lots) (defScope s_told_lots) .none kVd29 dcd29 pmd29 and29 cdd29 ctd29), sld29⟩) (cd29 : PySem.W.codeIn K cdd29 "told_lots" = true) (kd29 : PySem.W.keepIn K (.ref fd29) = true)
    {fd30 : Addr} {odd30 and30 : Option Addr} {sld30 : Array (Option Value)} {ocd30 kVd30 dcd30 pmd30 cdd30 ctd30 : Value}
    (ad30 : PySem.W.nsIn K mainGlobals "known" = some (some (.ref fd30))) (ld30 : K.lookup fd30 = some ⟨ocd30, odd30, .func (PySem.W.fnOf "known" "known" (defArgs s_known) (defBody s_known) (defScope s_known) .none kVd30 dcd30 pmd30 and30 cdd30 ctd30), sld30⟩) (cd30 : PySem.W.codeIn K cdd30 "known" = true) (kd30 : PySem.W.keepIn K (.ref fd30) = true)
    {fd32 : Addr} {odd32 and32 : Option Addr} {sld32 : Array (Option Value)} {ocd32 kVd32 dcd32 pmd32 cdd32 ctd32 : Value}
    (ad32 : PySem.W.nsIn K mainGlobals "bounded" = some (some (.ref fd32))) (ld32 : K.lookup fd32 = some ⟨ocd32, odd32, .func (PySem.W.fnOf "bounded" "bounded" (defArgs s_bounded) (defBody s_bounded) (defScope s_bounded) .none kVd32 dcd32 pmd32 and32 cdd32 ctd32), sld32⟩) (cd32 : PySem.W.codeIn K cdd32 "bounded" = true) (kd32 : PySem.W.keepIn K (.ref fd32) = true)
    {fd33 : Addr} {odd33 and33 : Option Addr} {sld33 : Array (Option Value)} {ocd33 kVd33 dcd33 pmd33 cdd33 ctd33 : Value}
    (ad33 : PySem.W.nsIn K mainGlobals "end_slice" = some (some (.ref fd33))) (ld33 : K.lookup fd33 = some ⟨ocd33, odd33, .func (PySem.W.fnOf "end_slice" "end_slice" (defArgs s_end_slice) (defBody s_end_slice) (defScope s_end_slice) .none kVd33 dcd33 pmd33 and33 cdd33 ctd33), sld33⟩) (cd33 : PySem.W.codeIn K cdd33 "end_slice" = true) (kd33 : PySem.W.keepIn K (.ref fd33) = true)
    {fd34 : Addr} {odd34 and34 : Option Addr} {sld34 : Array (Option Value)} {ocd34 kVd34 dcd34 pmd34 cdd34 ctd34 : Value}
    (ad34 : PySem.W.nsIn K mainGlobals "mendable" = some (some (.ref fd34))) (ld34 : K.lookup fd34 = some ⟨ocd34, odd34, .func (PySem.W.fnOf "mendable" "mendable" (defArgs s_mendable) (defBody s_mendable) (defScope s_mendable) .none kVd34 dcd34 pmd34 and34 cdd34 ctd34), sld34⟩) (cd34 : PySem.W.codeIn K cdd34 "mendable" = true) (kd34 : PySem.W.keepIn K (.ref fd34) = true)
    {fd36 : Addr} {odd36 and36 : Option Addr} {sld36 : Array (Option Value)} {ocd36 kVd36 dcd36 pmd36 cdd36 ctd36 : Value}
    (ad36 : PySem.W.nsIn K mainGlobals "_law_pool" = some (some (.ref fd36))) (ld36 : K.lookup fd36 = some ⟨ocd36, odd36, .func (PySem.W.fnOf "_law_pool" "_law_pool" (defArgs s__law_pool) (defBody s__law_pool) (defScope s__law_pool) .none kVd36 dcd36 pmd36 and36 cdd36 ctd36), sld36⟩) (cd36 : PySem.W.codeIn K cdd36 "_law_pool" = true) (kd36 : PySem.W.keepIn K (.ref fd36) = true)
    {fd37 : Addr} {odd37 and37 : Option Addr} {sld37 : Array (Option Value)} {ocd37 kVd37 dcd37 pmd37 cdd37 ctd37 : Value}
    (ad37 : PySem.W.nsIn K mainGlobals "_law_draw" = some (some (.ref fd37))) (ld37 : K.lookup fd37 = some ⟨ocd37, odd37, .func (PySem.W.fnOf "_law_draw" "_law_draw" (defArgs s__law_draw) (defBody s__law_draw) (defScope s__law_draw) .none kVd37 dcd37 pmd37 and37 cdd37 ctd37), sld37⟩) (cd37 : PySem.W.codeIn K cdd37 "_law_draw" = true) (kd37 : PySem.W.keepIn K (.ref fd37) = true)
    {fd38 : Addr} {odd38 and38 : Option Addr} {sld38 : Array (Option Value)} {ocd38 kVd38 dcd38 pmd38 cdd38 ctd38 : Value}
    (ad38 : PySem.W.nsIn K mainGlobals "_law_turned" = some (some (.ref fd38))) (ld38 : K.lookup fd38 = some ⟨ocd38, odd38, .func (PySem.W.fnOf "_law_turned" "_law_turned" (defArgs s__law_turned) (defBody s__law_turned) (defScope s__law_turned) .none kVd38 dcd38 pmd38 and38 cdd38 ctd38), sld38⟩) (cd38 : PySem.W.codeIn K cdd38 "_law_turned" = true) (kd38 : PySem.W.keepIn K (.ref fd38) = true)
    {fd39 : Addr} {odd39 and39 : Option Addr} {sld39 : Array (Option Value)} {ocd39 kVd39 dcd39 pmd39 cdd39 ctd39 : Value}
    (ad39 : PySem.W.nsIn K mainGlobals "_law_log" = some (some (.ref fd39))) (ld39 : K.lookup fd39 = some ⟨ocd39, odd39, .func (PySem.W.fnOf "_law_log" "_law_log" (defArgs s__law_log) (defBody s__law_log) (defScope s__law_log) .none kVd39 dcd39 pmd39 and39 cdd39 ctd39), sld39⟩) (cd39 : PySem.W.codeIn K cdd39 "_law_log" = true) (kd39 : PySem.W.keepIn K (.ref fd39) = true)
    {fd40 : Addr} {odd40 and40 : Option Addr} {sld40 : Array (Option Value)} {ocd40 kVd40 dcd40 pmd40 cdd40 ctd40 : Value}
    (ad40 : PySem.W.nsIn K mainGlobals "_law_table" = some (some (.ref fd40))) (ld40 : K.lookup fd40 = some ⟨ocd40, odd40, .func (PySem.W.fnOf "_law_table" "_law_table" (defArgs s__law_table) (defBody s__law_table) (defScope s__law_table) .none kVd40 dcd40 pmd40 and40 cdd40 ctd40), sld40⟩) (cd40 : PySem.W.codeIn K cdd40 "_law_table" = true) (kd40 : PySem.W.keepIn K (.ref fd40) = true)
    {fd41 : Addr} {odd41 and41 : Option Addr} {sld41 : Array (Option Value)} {ocd41 kVd41 dcd41 pmd41 cdd41 ctd41 : Value}
    (ad41 : PySem.W.nsIn K mainGlobals "_law_image" = some (some (.ref fd41))) (ld41 : K.lookup fd41 = some ⟨ocd41, odd41, .func (PySem.W.fnOf "_law_image" "_law_image" (defArgs s__law_image) (defBody s__law_image) (defScope s__law_image) .none kVd41 dcd41 pmd41 and41 cdd41 ctd41), sld41⟩) (cd41 : PySem.W.codeIn K cdd41 "_law_image" = true) (kd41 : PySem.W.keepIn K (.ref fd41) = true)
    {fd42 : Addr} {odd42 and42 : Option Addr} {sld42 : Array (Option Value)} {ocd42 kVd42 dcd42 pmd42 cdd42 ctd42 : Value}
    (ad42 : PySem.W.nsIn K mainGlobals "_law_moved" = some (some (.ref fd42))) (ld42 : K.lookup fd42 = some ⟨ocd42, odd42, .func (PySem.W.fnOf "_law_moved" "_law_moved" (defArgs s__law_moved) (defBody s__law_moved) (defScope s__law_moved) .none kVd42 dcd42 pmd42 and42 cdd42 ctd42), sld42⟩) (cd42 : PySem.W.codeIn K cdd42 "_law_moved" = true) (kd42 : PySem.W.keepIn K (.ref fd42) = true)
    {fd43 : Addr} {odd43 and43 : Option Addr} {sld43 : Array (Option Value)} {ocd43 kVd43 dcd43 pmd43 cdd43 ctd43 : Value}
    (ad43 : PySem.W.nsIn K mainGlobals "_law_is_truth" = some (some (.ref fd43))) (ld43 : K.lookup fd43 = some ⟨ocd43, odd43, .func (PySem.W.fnOf "_law_is_truth" "_law_is_truth" (defArgs s__law_is_truth) (defBody s__law_is_truth) (defScope s__law_is_truth) .none kVd43 dcd43 pmd43 and43 cdd43 ctd43), sld43⟩) (cd43 : PySem.W.codeIn K cdd43 "_law_is_truth" = true) (kd43 : PySem.W.keepIn K (.ref fd43) = true)
    {fd44 : Addr} {odd44 and44 : Option Addr} {sld44 : Array (Option Value)} {ocd44 kVd44 dcd44 pmd44 cdd44 ctd44 : Value}
    (ad44 : PySem.W.nsIn K mainGlobals "_law_open" = some (some (.ref fd44))) (ld44 : K.lookup fd44 = some ⟨ocd44, odd44, .func (PySem.W.fnOf "_law_open" "_law_open" (defArgs s__law_open) (defBody s__law_open) (defScope s__law_open) .none kVd44 dcd44 pmd44 and44 cdd44 ctd44), sld44⟩) (cd44 : PySem.W.codeIn K cdd44 "_law_open" = true) (kd44 : PySem.W.keepIn K (.ref fd44) = true)
    {fd45 : Addr} {odd45 and45 : Option Addr} {sld45 : Array (Option Value)} {ocd45 kVd45 dcd45 pmd45 cdd45 ctd45 : Value}
    (ad45 : PySem.W.nsIn K mainGlobals "_law_reached" = some (some (.ref fd45))) (ld45 : K.lookup fd45 = some ⟨ocd45, odd45, .func (PySem.W.fnOf "_law_reached" "_law_reached" (defArgs s__law_reached) (defBody s__law_reached) (defScope s__law_reached) .none kVd45 dcd45 pmd45 and45 cdd45 ctd45), sld45⟩) (cd45 : PySem.W.codeIn K cdd45 "_law_reached" = true) (kd45 : PySem.W.keepIn K (.ref fd45) = true)
    {fd46 : Addr} {odd46 and46 : Option Addr} {sld46 : Array (Option Value)} {ocd46 kVd46 dcd46 pmd46 cdd46 ctd46 : Value}
    (ad46 : PySem.W.nsIn K mainGlobals "_law_is_told" = some (some (.ref fd46))) (ld46 : K.lookup fd46 = some ⟨ocd46, odd46, .func (PySem.W.fnOf "_law_is_told" "_law_is_told" (defArgs s__law_is_told) (defBody s__law_is_told) (defScope s__law_is_told) .none kVd46 dcd46 pmd46 and46 cdd46 ctd46), sld46⟩) (cd46 : PySem.W.codeIn K cdd46 "_law_is_told" = true) (kd46 : PySem.W.keepIn K (.ref fd46) = true)
    {fd47 : Addr} {odd47 and47 : Option Addr} {sld47 : Array (Option Value)} {ocd47 kVd47 dcd47 pmd47 cdd47 ctd47 : Value}
    (ad47 : PySem.W.nsIn K mainGlobals "law" = some (some (.ref fd47))) (ld47 : K.lookup fd47 = some ⟨ocd47, odd47, .func (PySem.W.fnOf "law" "law" (defArgs s_law) (defBody s_law) (defScope s_law) .none kVd47 dcd47 pmd47 and47 cdd47 ctd47), sld47⟩) (cd47 : PySem.W.codeIn K cdd47 "law" = true) (kd47 : PySem.W.keepIn K (.ref fd47) = true)
    (z_len : PySem.W.nsIn K mainGlobals "len" = some none)
    (z_isi : PySem.W.nsIn K mainGlobals "isinstance" = some none)
    (z_tup : PySem.W.nsIn K mainGlobals "tuple" = some none)
    (z_int : PySem.W.nsIn K mainGlobals "int" = some none)
    (z_bool : PySem.W.nsIn K mainGlobals "bool" = some none)
    (z_list : PySem.W.nsIn K mainGlobals "list" = some none)
    (z_range : PySem.W.nsIn K mainGlobals "range" = some none)
    (z_enum : PySem.W.nsIn K mainGlobals "enumerate" = some none)
    (z_zip : PySem.W.nsIn K mainGlobals "zip" = some none)
    (z_max : PySem.W.nsIn K mainGlobals "max" = some none)
    (z_min : PySem.W.nsIn K mainGlobals "min" = some none)
    {tp td : Tok} (z_mp : PySem.W.nsIn K mainGlobals "MOST_PAGES" = some (some (.int 32 tp))) (z_md : PySem.W.nsIn K mainGlobals "MOST_DEEDS" = some (some (.int 400 td))) :
    ∃ fd : FuncData, (∀ (s : Shared) (v : Value), BindsTo s fd ⟨[v], []⟩ [("_law_script", v)]) ∧ ∀ base : Heap, K.In base → base.Ns mainGlobals mg → FnOk l.prog w K mg base CX0 8 fa fd ["_law_script"] (sp_law K) := by
  have e := hfa.symm.trans (PySem.W.mg_of X G ad47)
  cases e
  have T : Bi mg := ⟨PySem.W.mg_none_of X G z_len, PySem.W.mg_none_of X G z_isi, PySem.W.mg_none_of X G z_tup, PySem.W.mg_none_of X G z_int, PySem.W.mg_none_of X G z_bool, PySem.W.mg_none_of X G z_list, PySem.W.mg_none_of X G z_range, PySem.W.mg_none_of X G z_enum, PySem.W.mg_none_of X G z_zip, PySem.W.mg_none_of X G z_max, PySem.W.mg_none_of X G z_min, ⟨_, PySem.W.mg_of X G z_mp⟩, ⟨_, PySem.W.mg_of X G z_md⟩⟩
  have Fd6 := fun_mk (st := s_is_whole) ld6 cd6 kd6
  have bd6 := Fd6.binds (ps := ["thing"]) fun _ _ _ _ _ _ us hl => match us, hl with | [_], _ => rfl
  have Fd10 := fun_mk (st := s_is_bare_deed) ld10 cd10 kd10
  have bd10 := Fd10.binds (ps := ["thing", "pages"]) fun _ _ _ _ _ _ us hl => match us, hl with | [_, _], _ => rfl
  have Fd11 := fun_mk (st := s_is_log_shape) ld11 cd11 kd11
  have bd11 := Fd11.binds (ps := ["thing"]) fun _ _ _ _ _ _ us hl => match us, hl with | [_], _ => rfl
  have Fd12 := fun_mk (st := s_first_bad_deed) ld12 cd12 kd12
  have bd12 := Fd12.binds (ps := ["pages", "deeds"]) fun _ _ _ _ _ _ us hl => match us, hl with | [_, _], _ => rfl
  have Fd13 := fun_mk (st := s_is_log) ld13 cd13 kd13
  have bd13 := Fd13.binds (ps := ["thing"]) fun _ _ _ _ _ _ us hl => match us, hl with | [_], _ => rfl
  have Fd14 := fun_mk (st := s_made_log) ld14 cd14 kd14
  have bd14 := Fd14.binds (ps := ["thing"]) fun _ _ _ _ _ _ us hl => match us, hl with | [_], _ => rfl
  have Fd15 := fun_mk (st := s_own_numbers) ld15 cd15 kd15
  have bd15 := Fd15.binds (ps := ["log"]) fun _ _ _ _ _ _ us hl => match us, hl with | [_], _ => rfl
  have Fd16 := fun_mk (st := s_newest) ld16 cd16 kd16
  have bd16 := Fd16.binds (ps := ["log"]) fun _ _ _ _ _ _ us hl => match us, hl with | [_], _ => rfl
  have Fd17 := fun_mk (st := s_first_bad_page) ld17 cd17 kd17
  have bd17 := Fd17.binds (ps := ["log", "image"]) fun _ _ _ _ _ _ us hl => match us, hl with | [_, _], _ => rfl
  have Fd18 := fun_mk (st := s_is_image) ld18 cd18 kd18
  have bd18 := Fd18.binds (ps := ["log", "image"]) fun _ _ _ _ _ _ us hl => match us, hl with | [_, _], _ => rfl
  have Fd19 := fun_mk (st := s_made_image) ld19 cd19 kd19
  have bd19 := Fd19.binds (ps := ["log", "image"]) fun _ _ _ _ _ _ us hl => match us, hl with | [_, _], _ => rfl
  have Fd21 := fun_mk (st := s_moment_table) ld21 cd21 kd21
  have bd21 := Fd21.binds (ps := ["log"]) fun _ _ _ _ _ _ us hl => match us, hl with | [_], _ => rfl
  have Fd22 := fun_mk (st := s_single_lots) ld22 cd22 kd22
  have bd22 := Fd22.binds (ps := ["image"]) fun _ _ _ _ _ _ us hl => match us, hl with | [_], _ => rfl
  have Fd23 := fun_mk (st := s_reads_known) ld23 cd23 kd23
  have bd23 := Fd23.binds (ps := ["table", "lots", "reads", "t"]) fun _ _ _ _ _ _ us hl => match us, hl with | [_, _, _, _], _ => rfl
  have Fd24 := fun_mk (st := s_growth_of) ld24 cd24 kd24
  have bd24 := Fd24.binds (ps := ["log", "table", "lots", "t"]) fun _ _ _ _ _ _ us hl => match us, hl with | [_, _, _, _], _ => rfl
  have Fd25 := fun_mk (st := s_edge_deeds) ld25 cd25 kd25
  have bd25 := Fd25.binds (ps := ["numbers", "lot"]) fun _ _ _ _ _ _ us hl => match us, hl with | [_, _], _ => rfl
  have Fd26 := fun_mk (st := s_next_growth) ld26 cd26 kd26
  have bd26 := Fd26.binds (ps := ["log", "led", "table", "lots"]) fun _ _ _ _ _ _ us hl => match us, hl with | [_, _, _, _], _ => rfl
  have Fd27 := fun_mk (st := s_grow) ld27 cd27 kd27
  have bd27 := Fd27.binds (ps := ["log", "lots", "growth"]) fun _ _ _ _ _ _ us hl => match us, hl with | [_, _, _], _ => rfl
  have Fd28 := fun_mk (st := s_growths) ld28 cd28 kd28
  have bd28 := Fd28.binds (ps := ["log", "table", "image"]) fun _ _ _ _ _ _ us hl => match us, hl with | [_, _, _], _ => rfl
  have Fd29 := fun_mk (st := s_told_lots) ld29 cd29 kd29
  have bd29 := Fd29.binds (ps := ["lots"]) fun _ _ _ _ _ _ us hl => match us, hl with | [_], _ => rfl
  have Fd30 := fun_mk (st := s_known) ld30 cd30 kd30
  have bd30 := Fd30.binds (ps := ["log", "image"]) fun _ _ _ _ _ _ us hl => match us, hl with | [_, _], _ => rfl
  have Fd32 := fun_mk (st := s_bounded) ld32 cd32 kd32
  have bd32 := Fd32.binds (ps := ["row", "lots"]) fun _ _ _ _ _ _ us hl => match us, hl with | [_, _], _ => rfl
  have Fd33 := fun_mk (st := s_end_slice) ld33 cd33 kd33
  have bd33 := Fd33.binds (ps := ["log", "table", "image"]) fun _ _ _ _ _ _ us hl => match us, hl with | [_, _, _], _ => rfl
  have Fd34 := fun_mk (st := s_mendable) ld34 cd34 kd34
  have bd34 := Fd34.binds (ps := ["log", "image"]) fun _ _ _ _ _ _ us hl => match us, hl with | [_, _], _ => rfl
  have Fd36 := fun_mk (st := s__law_pool) ld36 cd36 kd36
  have bd36 := Fd36.binds (ps := ["_law_script"]) fun _ _ _ _ _ _ us hl => match us, hl with | [_], _ => rfl
  have Fd37 := fun_mk (st := s__law_draw) ld37 cd37 kd37
  have bd37 := Fd37.binds (ps := ["_law_pool_here", "_law_many"]) fun _ _ _ _ _ _ us hl => match us, hl with | [_, _], _ => rfl
  have Fd38 := fun_mk (st := s__law_turned) ld38 cd38 kd38
  have bd38 := Fd38.binds (ps := ["_law_pool_here", "_law_many"]) fun _ _ _ _ _ _ us hl => match us, hl with | [_, _], _ => rfl
  have Fd39 := fun_mk (st := s__law_log) ld39 cd39 kd39
  have bd39 := Fd39.binds (ps := ["_law_pool_here", "_law_pages", "_law_deeds", "_law_is_ringless"]) fun _ _ _ _ _ _ us hl => match us, hl with | [_, _, _, _], _ => rfl
  have Fd40 := fun_mk (st := s__law_table) ld40 cd40 kd40
  have bd40 := Fd40.binds (ps := ["_law_log_here"]) fun _ _ _ _ _ _ us hl => match us, hl with | [_], _ => rfl
  have Fd41 := fun_mk (st := s__law_image) ld41 cd41 kd41
  have bd41 := Fd41.binds (ps := ["_law_pool_here", "_law_log_here", "_law_table_here", "_law_lost"]) fun _ _ _ _ _ _ us hl => match us, hl with | [_, _, _, _], _ => rfl
  have Fd42 := fun_mk (st := s__law_moved) ld42 cd42 kd42
  have bd42 := Fd42.binds (ps := ["_law_log_here", "_law_table_here", "_law_image_here", "_law_t", "_law_way"]) fun _ _ _ _ _ _ us hl => match us, hl with | [_, _, _, _, _], _ => rfl
  have Fd43 := fun_mk (st := s__law_is_truth) ld43 cd43 kd43
  have bd43 := Fd43.binds (ps := ["_law_value", "_law_due"]) fun _ _ _ _ _ _ us hl => match us, hl with | [_, _], _ => rfl
  have Fd44 := fun_mk (st := s__law_open) ld44 cd44 kd44
  have bd44 := Fd44.binds (ps := ["_law_log_here", "_law_table_here", "_law_image_here"]) fun _ _ _ _ _ _ us hl => match us, hl with | [_, _, _], _ => rfl
  have Fd45 := fun_mk (st := s__law_reached) ld45 cd45 kd45
  have bd45 := Fd45.binds (ps := ["_law_log_here", "_law_table_here", "_law_image_here"]) fun _ _ _ _ _ _ us hl => match us, hl with | [_, _, _], _ => rfl
  have Fd46 := fun_mk (st := s__law_is_told) ld46 cd46 kd46
  have bd46 := Fd46.binds (ps := ["_law_pool_here", "_law_log_here", "_law_table_here", "_law_image_here"]) fun _ _ _ _ _ _ us hl => match us, hl with | [_, _, _, _], _ => rfl
  have Fd47 := fun_mk (st := s_law) ld47 cd47 kd47
  refine ⟨PySem.W.fnOf "law" "law" (defArgs s_law) (defBody s_law) (defScope s_law) .none kVd47 dcd47 pmd47 and47 cdd47 ctd47, fun s v => .of_eq rfl, fun base _ _ => ?_⟩
  have Cd6 : Cal l.prog w K mg base "is_whole" 1 ["thing"] sp_is_whole := ⟨_, _, ok_is_whole (k := 0) Fd6 T, PySem.W.mg_of X G ad6, kd6, bd6⟩
  have Cd10 : Cal l.prog w K mg base "is_bare_deed" 2 ["thing", "pages"] sp_is_bare_deed := ⟨_, _, ok_is_bare_deed (k := 0) Fd10 T Cd6, PySem.W.mg_of X G ad10, kd10, bd10⟩
  have Cd11 : Cal l.prog w K mg base "is_log_shape" 2 ["thing"] sp_is_log_shape := ⟨_, _, ok_is_log_shape Fd11 T Cd6, PySem.W.mg_of X G ad11, kd11, bd11⟩
  have Cd12 : Cal l.prog w K mg base "first_bad_deed" 3 ["pages", "deeds"] sp_first_bad_deed := ⟨_, _, ok_first_bad_deed Fd12 T Cd10, PySem.W.mg_of X G ad12, kd12, bd12⟩
  have Cd13 : Cal l.prog w K mg base "is_log" 4 ["thing"] sp_is_log := ⟨_, _, ok_is_log Fd13 T Cd11 Cd12, PySem.W.mg_of X G ad13, kd13, bd13⟩
  have Cd14 : Cal l.prog w K mg base "made_log" 4 ["thing"] sp_made_log := ⟨_, _, ok_made_log Fd14 T Cd11 Cd12, PySem.W.mg_of X G ad14, kd14, bd14⟩
  have Cd15 : Cal l.prog w K mg base "own_numbers" 1 ["log"] sp_own_numbers := ⟨_, _, ok_own_numbers Fd15 T, PySem.W.mg_of X G ad15, kd15, bd15⟩
  have Cd16 : Cal l.prog w K mg base "newest" 2 ["log"] sp_newest := ⟨_, _, ok_newest Fd16 T Cd15, PySem.W.mg_of X G ad16, kd16, bd16⟩
  have Cd17 : Cal l.prog w K mg base "first_bad_page" 3 ["log", "image"] sp_first_bad_page := ⟨_, _, ok_first_bad_page Fd17 T Cd16 Cd6, PySem.W.mg_of X G ad17, kd17, bd17⟩
  have Cd18 : Cal l.prog w K mg base "is_image" 5 ["log", "image"] sp_is_image := ⟨_, _, ok_is_image Fd18 T Cd13 Cd17, PySem.W.mg_of X G ad18, kd18, bd18⟩
  have Cd19 : Cal l.prog w K mg base "made_image" 5 ["log", "image"] sp_made_image := ⟨_, _, ok_made_image Fd19 T Cd14 Cd17, PySem.W.mg_of X G ad19, kd19, bd19⟩
  have Cd21 : Cal l.prog w K mg base "moment_table" 1 ["log"] sp_moment_table := ⟨_, _, ok_moment_table Fd21 T, PySem.W.mg_of X G ad21, kd21, bd21⟩
  have Cd22 : Cal l.prog w K mg base "single_lots" 1 ["image"] sp_single_lots := ⟨_, _, ok_single_lots Fd22 T, PySem.W.mg_of X G ad22, kd22, bd22⟩
  have Cd23 : Cal l.prog w K mg base "reads_known" 1 ["table", "lots", "reads", "t"] sp_reads_known := ⟨_, _, ok_reads_known Fd23 , PySem.W.mg_of X G ad23, kd23, bd23⟩
  have Cd24 : Cal l.prog w K mg base "growth_of" 2 ["log", "table", "lots", "t"] sp_growth_of := ⟨_, _, ok_growth_of Fd24 Cd23, PySem.W.mg_of X G ad24, kd24, bd24⟩
  have Cd25 : Cal l.prog w K mg base "edge_deeds" 1 ["numbers", "lot"] sp_edge_deeds := ⟨_, _, ok_edge_deeds Fd25 T, PySem.W.mg_of X G ad25, kd25, bd25⟩
  have Cd26 : Cal l.prog w K mg base "next_growth" 3 ["log", "led", "table", "lots"] sp_next_growth := ⟨_, _, ok_next_growth Fd26 Cd25 Cd24, PySem.W.mg_of X G ad26, kd26, bd26⟩
  have Cd27 : Cal l.prog w K mg base "grow" 1 ["log", "lots", "growth"] sp_grow := ⟨_, _, ok_grow Fd27 , PySem.W.mg_of X G ad27, kd27, bd27⟩
  have Cd28 : Cal l.prog w K mg base "growths" 4 ["log", "table", "image"] sp_growths := ⟨_, _, ok_growths Fd28 T Cd22 Cd15 Cd26 Cd27, PySem.W.mg_of X G ad28, kd28, bd28⟩
  have Cd29 : Cal l.prog w K mg base "told_lots" 1 ["lots"] sp_told_lots := ⟨_, _, ok_told_lots Fd29 T, PySem.W.mg_of X G ad29, kd29, bd29⟩
  have Cd30 : Cal l.prog w K mg base "known" 6 ["log", "image"] sp_known := ⟨_, _, ok_known Fd30 Cd14 Cd19 Cd21 Cd28 Cd29, PySem.W.mg_of X G ad30, kd30, bd30⟩
  have Cd32 : Cal l.prog w K mg base "bounded" 1 ["row", "lots"] sp_bounded := ⟨_, _, ok_bounded Fd32 T, PySem.W.mg_of X G ad32, kd32, bd32⟩
  have Cd33 : Cal l.prog w K mg base "end_slice" 5 ["log", "table", "image"] sp_end_slice := ⟨_, _, ok_end_slice Fd33 T Cd32 Cd28, PySem.W.mg_of X G ad33, kd33, bd33⟩
  have Cd34 : Cal l.prog w K mg base "mendable" 6 ["log", "image"] sp_mendable := ⟨_, _, ok_mendable Fd34 T Cd18 Cd21 Cd33, PySem.W.mg_of X G ad34, kd34, bd34⟩
  have Cd36 : Cal l.prog w K mg base "_law_pool" 1 ["_law_script"] (sp_law_pool (K := K)) := ⟨_, _, ok_law_pool Fd36 T, PySem.W.mg_of X G ad36, kd36, bd36⟩
  have Cd37 : Cal l.prog w K mg base "_law_draw" 1 ["_law_pool_here", "_law_many"] sp_law_draw := ⟨_, _, ok_law_draw Fd37 T, PySem.W.mg_of X G ad37, kd37, bd37⟩
  have Cd38 : Cal l.prog w K mg base "_law_turned" 2 ["_law_pool_here", "_law_many"] sp_law_turned := ⟨_, _, ok_law_turned Fd38 T Cd37, PySem.W.mg_of X G ad38, kd38, bd38⟩
  have Cd39 : Cal l.prog w K mg base "_law_log" 3 ["_law_pool_here", "_law_pages", "_law_deeds", "_law_is_ringless"] sp_law_log := ⟨_, _, ok_law_log Fd39 T Cd37 Cd38, PySem.W.mg_of X G ad39, kd39, bd39⟩
  have Cd40 : Cal l.prog w K mg base "_law_table" 1 ["_law_log_here"] sp_law_table := ⟨_, _, ok_law_table Fd40 T, PySem.W.mg_of X G ad40, kd40, bd40⟩
  have Cd41 : Cal l.prog w K mg base "_law_image" 2 ["_law_pool_here", "_law_log_here", "_law_table_here", "_law_lost"] sp_law_image := ⟨_, _, ok_law_image Fd41 T Cd37, PySem.W.mg_of X G ad41, kd41, bd41⟩
  have Cd42 : Cal l.prog w K mg base "_law_moved" 1 ["_law_log_here", "_law_table_here", "_law_image_here", "_law_t", "_law_way"] sp_law_moved := ⟨_, _, ok_law_moved Fd42 T, PySem.W.mg_of X G ad42, kd42, bd42⟩
  have Cd43 : Cal l.prog w K mg base "_law_is_truth" 1 ["_law_value", "_law_due"] sp_law_is_truth := ⟨_, _, ok_law_is_truth Fd43 T, PySem.W.mg_of X G ad43, kd43, bd43⟩
  have Cd44 : Cal l.prog w K mg base "_law_open" 2 ["_law_log_here", "_law_table_here", "_law_image_here"] sp_law_open := ⟨_, _, ok_law_open Fd44 T Cd42, PySem.W.mg_of X G ad44, kd44, bd44⟩
  have Cd45 : Cal l.prog w K mg base "_law_reached" 3 ["_law_log_here", "_law_table_here", "_law_image_here"] sp_law_reached := ⟨_, _, ok_law_reached Fd45 T Cd42 Cd44, PySem.W.mg_of X G ad45, kd45, bd45⟩
  have Cd46 : Cal l.prog w K mg base "_law_is_told" 7 ["_law_pool_here", "_law_log_here", "_law_table_here", "_law_image_here"] sp_law_is_told := ⟨_, _, ok_law_is_told Fd46 T Cd45 Cd43 Cd34 Cd30 Cd37, PySem.W.mg_of X G ad46, kd46, bd46⟩
  exact ok_law Fd47 T Cd36 Cd37 Cd39 Cd40 Cd41 Cd46 Cd43 Cd34
end K24

end
section
set_option Elab.async false
set_option linter.all false
set_option maxRecDepth 100000
open PySem PySem.W PyProof.Rows
set_option maxRecDepth 100000 in
set_option maxHeartbeats 0 in
theorem PySem.Challenge.cw_wendleaf_k24_whole_mendable_by_walking_holds : PySem.Challenge.rw_wendleaf_k24_whole_mendable_by_walking.Holds := by
  w_on; o_law; k_head; (case hw => w_witness2)
  k_fill
  refine L2.walk_of (l := PySem.Challenge.rw_wendleaf_k24_whole_mendable_by_walking) (n := 63) (k := 8) (x := "_law_script") (CX := fun _ => L2.CX0) (sp := fun w => K24.sp_law _) rfl (by decide) rfl ⟨rfl, by decide, by decide⟩ (fun w h Y => PySem.W.kIn_of Y) ?F (fun _ _ a ns hl _ hS => ⟨a, ns, rfl, hS, hl, fun _ => rfl⟩) (fun _ _ _ _ _ h => h)
  case F =>
    intro w mg fa h KX G hmg
    refine' K24.all_mk KX G hmg ?ad6 ?ld6 ?cd6 ?kd6 ?ad10 ?ld10 ?cd10 ?kd10 ?ad11 ?ld11 ?cd11 ?kd11 ?ad12 ?ld12 ?cd12 ?kd12 ?ad13 ?ld13 ?cd13 ?kd13 ?ad14 ?ld14 ?cd14 ?kd14 ?ad15 ?ld15 ?cd15 ?kd15 ?ad16 ?ld16 ?cd16 ?kd16 ?ad17 ?ld17 ?cd17 ?kd17 ?ad18 ?ld18 ?cd18 ?kd18 ?ad19 ?ld19 ?cd19 ?kd19 ?ad21 ?ld21 ?cd21 ?kd21 ?ad22 ?ld22 ?cd22 ?kd22 ?ad23 ?ld23 ?cd23 ?kd23 ?ad24 ?ld24 ?cd24 ?kd24 ?ad25 ?ld25 ?cd25 ?kd25 ?ad26 ?ld26 ?cd26 ?kd26 ?ad27 ?ld27 ?cd27 ?kd27 ?ad28 ?ld28 ?cd28 ?kd28 ?ad29 ?ld29 ?cd29 ?kd29 ?ad30 ?ld30 ?cd30 ?kd30 ?ad32 ?ld32 ?cd32 ?kd32 ?ad33 ?ld33 ?cd33 ?kd33 ?ad34 ?ld34 ?cd34 ?kd34 ?ad36 ?ld36 ?cd36 ?kd36 ?ad37 ?ld37 ?cd37 ?kd37 ?ad38 ?ld38 ?cd38 ?kd38 ?ad39 ?ld39 ?cd39 ?kd39 ?ad40 ?ld40 ?cd40 ?kd40 ?ad41 ?ld41 ?cd41 ?kd41 ?ad42 ?ld42 ?cd42 ?kd42 ?ad43 ?ld43 ?cd43 ?kd43 ?ad44 ?ld44 ?cd44 ?kd44 ?ad45 ?ld45 ?cd45 ?kd45 ?ad46 ?ld46 ?cd46 ?kd46 ?ad47 ?ld47 ?cd47 ?kd47 ?z_len ?z_isi ?z_tup ?z_int ?z_bool ?z_list ?z_range ?z_enum ?z_zip ?z_max ?z_min ?z_mp ?z_md
    (case ad6 => k_is)
    (case ld6 => k_is)
    (case cd6 => k_is)
    (case kd6 => k_is)
    (case ad10 => k_is)
    (case ld10 => k_is)
    (case cd10 => k_is)
    (case kd10 => k_is)
    (case ad11 => k_is)
    (case ld11 => k_is)
    (case cd11 => k_is)
    (case kd11 => k_is)
    (case ad12 => k_is)
    (case ld12 => k_is)
    (case cd12 => k_is)
    (case kd12 => k_is)
    (case ad13 => k_is)
    (case ld13 => k_is)
    (case cd13 => k_is)
    (case kd13 => k_is)
    (case ad14 => k_is)
    (case ld14 => k_is)
    (case cd14 => k_is)
    (case kd14 => k_is)
    (case ad15 => k_is)
    (case ld15 => k_is)
    (case cd15 => k_is)
    (case kd15 => k_is)
    (case ad16 => k_is)
    (case ld16 => k_is)
    (case cd16 => k_is)
    (case kd16 => k_is)
    (case ad17 => k_is)
    (case ld17 => k_is)
    (case cd17 => k_is)
    (case kd17 => k_is)
    (case ad18 => k_is)
    (case ld18 => k_is)
    (case cd18 => k_is)
    (case kd18 => k_is)
    (case ad19 => k_is)
    (case ld19 => k_is)
    (case cd19 => k_is)
    (case kd19 => k_is)
    (case ad21 => k_is)
    (case ld21 => k_is)
    (case cd21 => k_is)
    (case kd21 => k_is)
    (case ad22 => k_is)
    (case ld22 => k_is)
    (case cd22 => k_is)
    (case kd22 => k_is)
    (case ad23 => k_is)
    (case ld23 => k_is)
    (case cd23 => k_is)
    (case kd23 => k_is)
    (case ad24 => k_is)
    (case ld24 => k_is)
    (case cd24 => k_is)
    (case kd24 => k_is)
    (case ad25 => k_is)
    (case ld25 => k_is)
    (case cd25 => k_is)
    (case kd25 => k_is)
    (case ad26 => k_is)
    (case ld26 => k_is)
    (case cd26 => k_is)
    (case kd26 => k_is)
    (case ad27 => k_is)
    (case ld27 => k_is)
    (case cd27 => k_is)
    (case kd27 => k_is)
    (case ad28 => k_is)
    (case ld28 => k_is)
    (case cd28 => k_is)
    (case kd28 => k_is)
    (case ad29 => k_is)
    (case ld29 => k_is)
    (case cd29 => k_is)
    (case kd29 => k_is)
    (case ad30 => k_is)
    (case ld30 => k_is)
    (case cd30 => k_is)
    (case kd30 => k_is)
    (case ad32 => k_is)
    (case ld32 => k_is)
    (case cd32 => k_is)
    (case kd32 => k_is)
    (case ad33 => k_is)
    (case ld33 => k_is)
    (case cd33 => k_is)
    (case kd33 => k_is)
    (case ad34 => k_is)
    (case ld34 => k_is)
    (case cd34 => k_is)
    (case kd34 => k_is)
    (case ad36 => k_is)
    (case ld36 => k_is)
    (case cd36 => k_is)
    (case kd36 => k_is)
    (case ad37 => k_is)
    (case ld37 => k_is)
    (case cd37 => k_is)
    (case kd37 => k_is)
    (case ad38 => k_is)
    (case ld38 => k_is)
    (case cd38 => k_is)
    (case kd38 => k_is)
    (case ad39 => k_is)
    (case ld39 => k_is)
    (case cd39 => k_is)
    (case kd39 => k_is)
    (case ad40 => k_is)
    (case ld40 => k_is)
    (case cd40 => k_is)
    (case kd40 => k_is)
    (case ad41 => k_is)
    (case ld41 => k_is)
    (case cd41 => k_is)
    (case kd41 => k_is)
    (case ad42 => k_is)
    (case ld42 => k_is)
    (case cd42 => k_is)
    (case kd42 => k_is)
    (case ad43 => k_is)
    (case ld43 => k_is)
    (case cd43 => k_is)
    (case kd43 => k_is)
    (case ad44 => k_is)
    (case ld44 => k_is)
    (case cd44 => k_is)
    (case kd44 => k_is)
    (case ad45 => k_is)
    (case ld45 => k_is)
    (case cd45 => k_is)
    (case kd45 => k_is)
    (case ad46 => k_is)
    (case ld46 => k_is)
    (case cd46 => k_is)
    (case kd46 => k_is)
    (case ad47 => k_is)
    (case ld47 => k_is)
    (case cd47 => k_is)
    (case kd47 => k_is)
    (case z_len => k_is)
    (case z_isi => k_is)
    (case z_tup => k_is)
    (case z_int => k_is)
    (case z_bool => k_is)
    (case z_list => k_is)
    (case z_range => k_is)
    (case z_enum => k_is)
    (case z_zip => k_is)
    (case z_max => k_is)
    (case z_min => k_is)
    (case z_mp => k_is)
    (case z_md => k_is)

end
