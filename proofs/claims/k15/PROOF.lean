import PyProof.Rows.All
import Wide.All
import OpenK.AllK
import Wide.FinOn
import HandS.ForMost
import HandS.Walk
import HandS.Defaults
import HandS.Ends
import HandS.SlotsOwn
import HandS.ClsMeth
import KE.GoesEnum
import HandS.Star
import HandS.Deep
import HandS.More
import HandS.Style
import HandS.IsInst
import HandS.Wide
import PySem.Challenge.RW_tiespan_k15_whole_rules_of_figures
set_option linter.all false
namespace Ts

structure Row where
  a : Int
  b : Int
  c : Rat
deriving DecidableEq

abbrev Pt := Rat × Rat

/-- the value of a linear form at a point -/
def dt (a b : Rat) (p : Pt) : Rat := a * p.1 + b * p.2
def Row.at (r : Row) (p : Pt) : Rat := dt r.a r.b p
def Inn (rs : List Row) (p : Pt) : Prop := ∀ r ∈ rs, r.at p ≤ r.c
def Row.ok (r : Row) : Prop := r.a ≠ 0 ∨ r.b ≠ 0
def Oks (rs : List Row) : Prop := ∀ r ∈ rs, r.ok

theorem Inn.nil {p : Pt} : Inn [] p := fun _ h => nomatch h
theorem Inn.cons {r : Row} {rs : List Row} {p : Pt} : Inn (r :: rs) p ↔ r.at p ≤ r.c ∧ Inn rs p := by
  unfold Inn; simp
theorem Inn.append {rs ss : List Row} {p : Pt} : Inn (rs ++ ss) p ↔ Inn rs p ∧ Inn ss p := by
  unfold Inn; simp only [List.mem_append]
  exact ⟨fun h => ⟨fun r hr => h r (.inl hr), fun r hr => h r (.inr hr)⟩, fun h r hr => hr.elim (h.1 r) (h.2 r)⟩
theorem Inn.snoc {r : Row} {rs : List Row} {p : Pt} : Inn (rs ++ [r]) p ↔ Inn rs p ∧ r.at p ≤ r.c := by
  rw [Inn.append, Inn.cons]; exact ⟨fun h => ⟨h.1, h.2.1⟩, fun h => ⟨h.1, h.2, Inn.nil⟩⟩

/-- the point w + t d -/
def mv (w : Pt) (t : Rat) (d : Pt) : Pt := (w.1 + t * d.1, w.2 + t * d.2)
theorem dt_mv (a b : Rat) (w : Pt) (t : Rat) (d : Pt) : dt a b (mv w t d) = dt a b w + t * dt a b d := by
  unfold dt mv; grind
theorem Row.at_mv (r : Row) (w : Pt) (t : Rat) (d : Pt) : r.at (mv w t d) = r.at w + t * r.at d := dt_mv _ _ _ _ _

/-- convexity along a ray -/
theorem Inn.seg {rs : List Row} {w d : Pt} {t u : Rat} (h0 : Inn rs w) (h1 : Inn rs (mv w t d)) (hu : 0 ≤ u) (hut : u ≤ t) : Inn rs (mv w u d) := fun r hr => by
  have a0 := h0 r hr
  have a1 := h1 r hr
  rw [Row.at_mv] at a1 ⊢
  by_cases hd : r.at d ≤ 0
  · have := Rat.mul_le_mul_of_nonneg_left hd hu
    grind
  · have := Rat.mul_le_mul_of_nonneg_left (c := r.at d) hut (by grind)
    grind

/-- shooting a ray from a point of the figure -/
theorem shoot : ∀ (rs : List Row) (w d : Pt), Inn rs w → (∀ t, 0 ≤ t → Inn rs (mv w t d)) ∨ ∃ t, 0 ≤ t ∧ Inn rs (mv w t d) ∧ ∃ s ∈ rs, 0 < s.at d ∧ s.at (mv w t d) = s.c
  | [], w, d, _ => .inl fun _ _ => Inn.nil
  | s :: rs, w, d, h => by
    obtain ⟨h1, h2⟩ := Inn.cons.mp h
    rcases shoot rs w d h2 with k | ⟨t, ht, hin, s', hs', hpos, heq⟩
    · by_cases hd : s.at d ≤ 0
      · refine .inl fun t ht => Inn.cons.mpr ⟨?_, k t ht⟩
        rw [Row.at_mv]
        have := Rat.mul_le_mul_of_nonneg_left hd ht
        grind
      · have hd' : 0 < s.at d := by grind
        have hne : s.at d ≠ 0 := by grind
        have ht : 0 ≤ (s.c - s.at w) / s.at d := by
          rw [Rat.div_def]
          exact Rat.mul_nonneg (by grind) (Rat.le_of_lt (Rat.inv_pos.mpr hd'))
        have e : (s.c - s.at w) / s.at d * s.at d = s.c - s.at w := Rat.div_mul_cancel hne
        refine .inr ⟨(s.c - s.at w) / s.at d, ht, Inn.cons.mpr ⟨?_, k _ ht⟩, s, List.mem_cons_self, hd', ?_⟩
        · rw [Row.at_mv]; grind
        · rw [Row.at_mv]; grind
    · by_cases hc : s.at (mv w t d) ≤ s.c
      · exact .inr ⟨t, ht, Inn.cons.mpr ⟨hc, hin⟩, s', List.mem_cons_of_mem _ hs', hpos, heq⟩
      · rw [Row.at_mv] at hc
        have hd' : 0 < s.at d := by
          apply Classical.byContradiction
          intro hn
          have := Rat.mul_le_mul_of_nonneg_left (b := 0) (a := s.at d) (by grind) ht
          grind
        have hne : s.at d ≠ 0 := by grind
        have hu : 0 ≤ (s.c - s.at w) / s.at d := by
          rw [Rat.div_def]
          exact Rat.mul_nonneg (by grind) (Rat.le_of_lt (Rat.inv_pos.mpr hd'))
        have e : (s.c - s.at w) / s.at d * s.at d = s.c - s.at w := Rat.div_mul_cancel hne
        have hut : (s.c - s.at w) / s.at d ≤ t := by
          apply Classical.byContradiction
          intro hn
          have := Rat.mul_le_mul_of_nonneg_right (c := s.at d) (a := t) (b := (s.c - s.at w) / s.at d) (by grind) (by grind)
          grind
        refine .inr ⟨(s.c - s.at w) / s.at d, hu, Inn.cons.mpr ⟨?_, h2.seg hin hu hut⟩, s, List.mem_cons_self, hd', ?_⟩
        · rw [Row.at_mv]; grind
        · rw [Row.at_mv]; grind


/-! ### the bounds that rows give -/
def lmin : Option Rat → Option Rat → Option Rat
  | none, y => y
  | some x, none => some x
  | some x, some y => if y < x then some y else some x
def turn (r s : Row) : Int := r.a * s.b - r.b * s.a
def single (r : Row) (a b : Int) : Option Rat :=
  if r.a * b = r.b * a ∧ 0 < r.a * a + r.b * b then some ((if r.a ≠ 0 then (a : Rat) / (r.a : Rat) else (b : Rat) / (r.b : Rat)) * r.c) else none
def onev (r s : Row) (a b : Int) : Rat := ((a * s.b - b * s.a : Int) : Rat) / ((turn r s : Int) : Rat)
def otherv (r s : Row) (a b : Int) : Rat := ((r.a * b - r.b * a : Int) : Rat) / ((turn r s : Int) : Rat)
def pairv (r s : Row) (a b : Int) : Option Rat :=
  if turn r s ≠ 0 ∧ (0 ≤ onev r s a b ∧ 0 ≤ otherv r s a b) then some (onev r s a b * r.c + otherv r s a b * s.c) else none
/-- the bounds that a row gives, by itself and with the rows before it -/
def candsOf (pre : List Row) (r : Row) (a b : Int) : List Rat := (single r a b).toList ++ pre.filterMap fun s => pairv r s a b
def candsFrom (pre : List Row) (a b : Int) : List Row → List Rat
  | [] => []
  | r :: rest => candsOf pre r a b ++ candsFrom (pre ++ [r]) a b rest
def least1 (m : Option Rat) (v : Rat) : Option Rat := lmin m (some v)
def boundOf (rs : List Row) (a b : Int) : Option Rat := (candsFrom [] a b rs).foldl least1 none

theorem least_fold : ∀ (vs : List Rat) (m : Option Rat), match vs.foldl least1 m with
    | none => m = none ∧ vs = []
    | some x => (m = some x ∨ x ∈ vs) ∧ (∀ v ∈ vs, x ≤ v) ∧ ∀ y, m = some y → x ≤ y
  | [], none => ⟨rfl, rfl⟩
  | [], some x => ⟨.inl rfl, (fun _ h => nomatch h), (fun y e => by cases e; exact Rat.le_refl)⟩
  | v :: vs, m => by
    have ih := least_fold vs (least1 m v)
    simp only [List.foldl_cons]
    split at ih
    · rename_i e
      obtain ⟨e1, e2⟩ := ih
      cases m with
      | none => simp [least1, lmin] at e1
      | some y => simp only [least1, lmin] at e1; split at e1 <;> cases e1
    · rename_i x e
      obtain ⟨h1, h2, h3⟩ := ih
      have key : x ≤ v ∧ (∀ y, m = some y → x ≤ y) ∧ (least1 m v = some x → m = some x ∨ x = v) := by
        cases m with
        | none =>
          have q := h3 v rfl
          exact ⟨q, (fun y e => nomatch e), (fun e => Or.inr (by simp [least1, lmin] at e; exact e.symm))⟩
        | some y =>
          by_cases hv : v < y
          · have e1 : least1 (some y) v = some v := if_pos hv
            have q := h3 v e1
            refine ⟨q, fun z ez => ?_, fun e => .inr (by rw [e1] at e; cases e; rfl)⟩
            cases ez
            exact Rat.le_trans q (Rat.le_of_lt hv)
          · have e1 : least1 (some y) v = some y := if_neg hv
            have q := h3 y e1
            refine ⟨Rat.le_trans q (Rat.not_lt.mp hv), fun z ez => ?_, fun e => .inl (by rw [e1] at e; exact e)⟩
            cases ez
            exact q
      refine ⟨?_, fun u hu => ?_, key.2.1⟩
      · rcases h1 with h1 | h1
        · rcases key.2.2 h1 with z | z
          · exact .inl z
          · exact .inr (by rw [z]; exact List.mem_cons_self)
        · exact .inr (List.mem_cons_of_mem _ h1)
      · rcases List.mem_cons.mp hu with rfl | hu
        · exact key.1
        · exact h2 u hu
theorem boundOf_none {rs : List Row} {a b : Int} (h : boundOf rs a b = none) : candsFrom [] a b rs = [] := by
  have := least_fold (candsFrom [] a b rs) none
  unfold boundOf at h
  rw [h] at this
  exact this.2
theorem boundOf_some {rs : List Row} {a b : Int} {x : Rat} (h : boundOf rs a b = some x) : x ∈ candsFrom [] a b rs ∧ ∀ v ∈ candsFrom [] a b rs, x ≤ v := by
  have := least_fold (candsFrom [] a b rs) none
  unfold boundOf at h
  rw [h] at this
  exact ⟨this.1.elim (fun z => nomatch z) id, this.2.1⟩

theorem pairv_comm {r s : Row} {a b : Int} : pairv r s a b = pairv s r a b := by
  have ht : turn s r = - turn r s := by unfold turn; grind
  have h1 : onev s r a b = otherv r s a b := by
    unfold onev otherv; rw [ht]
    have : (a * r.b - b * r.a : Int) = -(r.a * b - r.b * a) := by grind
    rw [this, Rat.intCast_neg, Rat.intCast_neg]; grind
  have h2 : otherv s r a b = onev r s a b := by
    unfold onev otherv; rw [ht]
    have : (s.a * b - s.b * a : Int) = -(a * s.b - b * s.a) := by grind
    rw [this, Rat.intCast_neg, Rat.intCast_neg]; grind
  unfold pairv
  rw [h1, h2, ht]
  by_cases h : turn r s ≠ 0 ∧ (0 ≤ onev r s a b ∧ 0 ≤ otherv r s a b)
  · rw [if_pos h, if_pos ⟨by have := h.1; omega, h.2.2, h.2.1⟩, Rat.add_comm]
  · rw [if_neg h, if_neg (fun z => h ⟨by have := z.1; omega, z.2.2, z.2.1⟩)]
theorem pairv_turn {r s : Row} {a b : Int} {v : Rat} (h : pairv r s a b = some v) : turn r s ≠ 0 := by
  unfold pairv at h; split at h
  · rename_i q; exact q.1
  · cases h

theorem cands_sound {a b : Int} {v : Rat} : ∀ (rs pre : List Row), v ∈ candsFrom pre a b rs → (∃ r ∈ rs, single r a b = some v) ∨ ∃ r ∈ rs, ∃ s ∈ pre ++ rs, pairv r s a b = some v
  | r :: rs, pre, h => by
    rw [candsFrom, List.mem_append] at h
    rcases h with h | h
    · rw [candsOf, List.mem_append] at h
      rcases h with h | h
      · rw [Option.mem_toList] at h
        exact .inl ⟨r, List.mem_cons_self, h⟩
      · obtain ⟨s, hs, e⟩ := List.mem_filterMap.mp h
        exact .inr ⟨r, List.mem_cons_self, s, List.mem_append_left _ hs, e⟩
    · rcases cands_sound rs _ h with ⟨r', hr, e⟩ | ⟨r', hr, s, hs, e⟩
      · exact .inl ⟨r', List.mem_cons_of_mem _ hr, e⟩
      · refine .inr ⟨r', List.mem_cons_of_mem _ hr, s, ?_, e⟩
        simpa using hs
theorem cands_single {a b : Int} {v : Rat} {r : Row} (e : single r a b = some v) : ∀ (rs pre : List Row), r ∈ rs → v ∈ candsFrom pre a b rs
  | x :: rs, pre, h => by
    rw [candsFrom, List.mem_append]
    rcases List.mem_cons.mp h with rfl | h
    · left; rw [candsOf, List.mem_append]; left; rw [Option.mem_toList]; exact e
    · exact .inr (cands_single e rs _ h)
theorem cands_pre {a b : Int} {v : Rat} {r s : Row} (e : pairv r s a b = some v) : ∀ (rs pre : List Row), r ∈ rs → s ∈ pre → v ∈ candsFrom pre a b rs
  | x :: rs, pre, h, hs => by
    rw [candsFrom, List.mem_append]
    rcases List.mem_cons.mp h with rfl | h
    · left; rw [candsOf, List.mem_append]; right; exact List.mem_filterMap.mpr ⟨s, hs, e⟩
    · exact .inr (cands_pre e rs _ h (List.mem_append_left _ hs))
theorem cands_pair {a b : Int} {v : Rat} {r s : Row} (e : pairv r s a b = some v) : ∀ (rs pre : List Row), r ∈ rs → s ∈ rs → v ∈ candsFrom pre a b rs
  | x :: rs, pre, h, hs => by
    rw [candsFrom, List.mem_append]
    have hne : r ≠ s := fun z => by
      subst z
      exact pairv_turn e (by unfold turn; grind)
    rcases List.mem_cons.mp h with h1 | h3
    · rcases List.mem_cons.mp hs with h2 | h4
      · exact absurd (h1.trans h2.symm) hne
      · subst h1
        exact .inr (cands_pre (pairv_comm.symm.trans e) rs _ h4 (by simp))
    · rcases List.mem_cons.mp hs with h2 | h4
      · subst h2
        exact .inr (cands_pre e rs _ h3 (by simp))
      · exact .inr (cands_pair e rs _ h3 h4)

theorem sq_nonneg (x : Rat) : 0 ≤ x * x := by
  by_cases h : 0 ≤ x
  · exact Rat.mul_nonneg h h
  · have h2 : 0 ≤ -x := by grind
    have := Rat.mul_nonneg h2 h2
    grind
theorem ne_cast {n : Int} (h : n ≠ 0) : (n : Rat) ≠ 0 := fun z => h (Rat.intCast_eq_zero_iff.mp z)
/-- the certificate of a bound: v is what r (with s) gives -/
theorem single_spec {r : Row} {a b : Int} {v : Rat} (h : single r a b = some v) : ∃ k : Rat, 0 < k ∧ (a : Rat) = k * r.a ∧ (b : Rat) = k * r.b ∧ v = k * r.c := by
  unfold single at h
  split at h
  · rename_i q
    obtain ⟨q1, q2⟩ := q
    have q1' : (r.a : Rat) * b = r.b * a := by rw [← Rat.intCast_mul, ← Rat.intCast_mul, q1]
    have q2' : (0 : Rat) < (r.a : Rat) * a + r.b * b := by
      rw [← Rat.intCast_mul, ← Rat.intCast_mul, ← Rat.intCast_add]
      exact Rat.intCast_pos.mpr q2
    cases h
    have key : ∀ k : Rat, (a : Rat) = k * r.a → (b : Rat) = k * r.b → 0 < k := fun k e1 e2 => by
      apply Classical.byContradiction
      intro hn
      have hk : k ≤ 0 := Rat.not_lt.mp hn
      have h1 := sq_nonneg (r.a : Rat)
      have h2 := sq_nonneg (r.b : Rat)
      have h3 := Rat.mul_le_mul_of_nonneg_right hk h1
      have h4 := Rat.mul_le_mul_of_nonneg_right hk h2
      rw [e1, e2] at q2'
      grind
    by_cases ha : r.a ≠ 0
    · rw [if_pos ha]
      have e1 : (a : Rat) / r.a * r.a = a := Rat.div_mul_cancel (ne_cast ha)
      have hne := ne_cast ha
      have e2 : (b : Rat) = (a : Rat) / r.a * r.b := by grind
      exact ⟨(a : Rat) / r.a, key _ e1.symm e2, e1.symm, e2, rfl⟩
    · have ha0 : r.a = 0 := by simpa using ha
      rw [if_neg ha]
      have hb : r.b ≠ 0 := fun z => by rw [ha0, z] at q2; omega
      have e1 : (b : Rat) / r.b * r.b = b := Rat.div_mul_cancel (ne_cast hb)
      have hne := ne_cast hb
      have ha1 : (r.a : Rat) = 0 := by rw [ha0]; rfl
      have e2 : (a : Rat) = (b : Rat) / r.b * r.a := by
        rw [ha1] at q1' ⊢
        have : (r.b : Rat) * a = 0 := by grind
        rcases Rat.mul_eq_zero.mp this with z | z
        · exact absurd z hne
        · rw [z]; grind
      exact ⟨(b : Rat) / r.b, key _ e2 e1.symm, e2, e1.symm, rfl⟩
  · cases h
theorem single_of {r : Row} {a b : Int} {k : Rat} (hr : r.ok) (hk : 0 < k) (e1 : (a : Rat) = k * r.a) (e2 : (b : Rat) = k * r.b) : single r a b = some (k * r.c) := by
  have q1 : r.a * b = r.b * a := by
    have : ((r.a * b : Int) : Rat) = ((r.b * a : Int) : Rat) := by rw [Rat.intCast_mul, Rat.intCast_mul, e1, e2]; grind
    exact Rat.intCast_inj.mp this
  have h1 := sq_nonneg (r.a : Rat)
  have h2 := sq_nonneg (r.b : Rat)
  have h3 : (0 : Rat) < (r.a : Rat) * r.a + r.b * r.b := by
    rcases hr with z | z
    · have z' := ne_cast z
      have : (r.a : Rat) * r.a ≠ 0 := fun y => (Rat.mul_eq_zero.mp y).elim z' z'
      grind
    · have z' := ne_cast z
      have : (r.b : Rat) * r.b ≠ 0 := fun y => (Rat.mul_eq_zero.mp y).elim z' z'
      grind
  have q2 : 0 < r.a * a + r.b * b := by
    have : (0 : Rat) < ((r.a * a + r.b * b : Int) : Rat) := by
      rw [Rat.intCast_add, Rat.intCast_mul, Rat.intCast_mul, e1, e2]
      have := Rat.mul_pos hk h3
      grind
    exact Rat.intCast_pos.mp this
  unfold single
  rw [if_pos ⟨q1, q2⟩]
  by_cases ha : r.a ≠ 0
  · rw [if_pos ha, e1, Rat.mul_div_cancel (ne_cast ha)]
  · have ha0 : r.a = 0 := by simpa using ha
    have hb : r.b ≠ 0 := hr.elim (fun z => absurd ha0 z) id
    rw [if_neg ha, e2, Rat.mul_div_cancel (ne_cast hb)]
theorem pairv_spec {r s : Row} {a b : Int} {v : Rat} (h : pairv r s a b = some v) : ∃ k l : Rat, 0 ≤ k ∧ 0 ≤ l ∧ (a : Rat) = k * r.a + l * s.a ∧ (b : Rat) = k * r.b + l * s.b ∧ v = k * r.c + l * s.c ∧ turn r s ≠ 0 := by
  unfold pairv at h
  split at h
  · rename_i q
    obtain ⟨q0, q1, q2⟩ := q
    cases h
    have hne := ne_cast q0
    have e1 : onev r s a b * (turn r s : Int) = ((a * s.b - b * s.a : Int) : Rat) := Rat.div_mul_cancel hne
    have e2 : otherv r s a b * (turn r s : Int) = ((r.a * b - r.b * a : Int) : Rat) := Rat.div_mul_cancel hne
    have et : ((turn r s : Int) : Rat) = r.a * s.b - r.b * s.a := by unfold turn; rw [Rat.intCast_sub, Rat.intCast_mul, Rat.intCast_mul]
    rw [Rat.intCast_sub, Rat.intCast_mul, Rat.intCast_mul] at e1 e2
    generalize onev r s a b = k at *
    generalize otherv r s a b = l at *
    generalize ((turn r s : Int) : Rat) = t at *
    refine ⟨k, l, q1, q2, ?_, ?_, rfl, q0⟩
    · have : ((a : Rat) - (k * r.a + l * s.a)) * t = 0 := by grind
      rcases Rat.mul_eq_zero.mp this with z | z
      · grind
      · exact absurd z hne
    · have : ((b : Rat) - (k * r.b + l * s.b)) * t = 0 := by grind
      rcases Rat.mul_eq_zero.mp this with z | z
      · grind
      · exact absurd z hne
  · cases h
theorem pairv_of {r s : Row} {a b : Int} {k l : Rat} (ht : turn r s ≠ 0) (hk : 0 ≤ k) (hl : 0 ≤ l) (e1 : (a : Rat) = k * r.a + l * s.a) (e2 : (b : Rat) = k * r.b + l * s.b) : pairv r s a b = some (k * r.c + l * s.c) := by
  have et : ((turn r s : Int) : Rat) = r.a * s.b - r.b * s.a := by unfold turn; rw [Rat.intCast_sub, Rat.intCast_mul, Rat.intCast_mul]
  have hne := ne_cast ht
  have k1 : onev r s a b = k := by
    unfold onev
    have : ((a * s.b - b * s.a : Int) : Rat) = k * (turn r s : Int) := by rw [Rat.intCast_sub, Rat.intCast_mul, Rat.intCast_mul, e1, e2, et]; grind
    rw [this, Rat.mul_div_cancel hne]
  have k2 : otherv r s a b = l := by
    unfold otherv
    have : ((r.a * b - r.b * a : Int) : Rat) = l * (turn r s : Int) := by rw [Rat.intCast_sub, Rat.intCast_mul, Rat.intCast_mul, e1, e2, et]; grind
    rw [this, Rat.mul_div_cancel hne]
  unfold pairv
  rw [k1, k2, if_pos ⟨ht, hk, hl⟩]

theorem dt_lin (k : Rat) (a b : Rat) (p : Pt) : dt (k * a) (k * b) p = k * dt a b p := by unfold dt; grind
theorem dt_comb (k l a b c d : Rat) (p : Pt) : dt (k * a + l * c) (k * b + l * d) p = k * dt a b p + l * dt c d p := by unfold dt; grind

/-- weak duality -/
theorem cand_above {rs : List Row} {a b : Int} {v : Rat} (hv : v ∈ candsFrom [] a b rs) {p : Pt} (hp : Inn rs p) : dt a b p ≤ v := by
  rcases cands_sound rs [] hv with ⟨r, hr, e⟩ | ⟨r, hr, s, hs, e⟩
  · obtain ⟨k, hk, e1, e2, e3⟩ := single_spec e
    have h1 : dt r.a r.b p ≤ r.c := hp r hr
    rw [e1, e2, dt_lin, e3]
    exact Rat.mul_le_mul_of_nonneg_left h1 (Rat.le_of_lt hk)
  · obtain ⟨k, l, hk, hl, e1, e2, e3, _⟩ := pairv_spec e
    have h1 : dt r.a r.b p ≤ r.c := hp r hr
    have h2 : dt s.a s.b p ≤ s.c := hp s (by simpa using hs)
    rw [e1, e2, dt_comb, e3]
    have := Rat.mul_le_mul_of_nonneg_left h1 hk
    have := Rat.mul_le_mul_of_nonneg_left h2 hl
    grind

theorem cands_mono {rs : List Row} {r : Row} {a b : Int} {v : Rat} (h : v ∈ candsFrom [] a b rs) : v ∈ candsFrom [] a b (rs ++ [r]) := by
  rcases cands_sound rs [] h with ⟨x, hx, e⟩ | ⟨x, hx, s, hs, e⟩
  · exact cands_single e _ _ (List.mem_append_left _ hx)
  · exact cands_pair e _ _ (List.mem_append_left _ hx) (List.mem_append_left _ (by simpa using hs))

/-- the crossing of a segment with a line -/
theorem cross {r : Row} {z p : Pt} (hz : r.at z ≤ r.c) (hp : r.c < r.at p) : ∃ t, 0 ≤ t ∧ t ≤ 1 ∧ r.at (mv z t (p.1 - z.1, p.2 - z.2)) = r.c := by
  have hd : r.at (p.1 - z.1, p.2 - z.2) = r.at p - r.at z := by unfold Row.at dt; grind
  have hpos : 0 < r.at p - r.at z := by grind
  have hne : r.at p - r.at z ≠ 0 := by grind
  have e : (r.c - r.at z) / (r.at p - r.at z) * (r.at p - r.at z) = r.c - r.at z := Rat.div_mul_cancel hne
  refine ⟨(r.c - r.at z) / (r.at p - r.at z), ?_, ?_, ?_⟩
  · rw [Rat.div_def]
    exact Rat.mul_nonneg (by grind) (Rat.le_of_lt (Rat.inv_pos.mpr hpos))
  · apply Classical.byContradiction
    intro hn
    have := Rat.mul_lt_mul_of_pos_right (c := r.at p - r.at z) (a := 1) (b := (r.c - r.at z) / (r.at p - r.at z)) (by grind) hpos
    grind
  · rw [Row.at_mv, hd]; grind
theorem mv_one (z p : Pt) : mv z 1 (p.1 - z.1, p.2 - z.2) = p := by
  unfold mv; apply Prod.ext <;> simp <;> grind
/-- a point of a segment lies in the figure -/
theorem Inn.between {rs : List Row} {z p : Pt} {t : Rat} (hz : Inn rs z) (hp : Inn rs p) (h0 : 0 ≤ t) (h1 : t ≤ 1) : Inn rs (mv z t (p.1 - z.1, p.2 - z.2)) :=
  Inn.seg (t := 1) hz (by rw [mv_one]; exact hp) h0 h1

/-- one more row: where p, beyond it, is as good as all that stay -/
theorem step_up {rs : List Row} {r : Row} {a b : Int} {z p : Pt} (ho : r.ok) (hab : a ≠ 0 ∨ b ≠ 0) (hz : Inn (rs ++ [r]) z) (hp : Inn rs p) (hv : r.c < r.at p) (hbest : ∀ y, Inn (rs ++ [r]) y → dt a b y ≤ dt a b p) :
    (∃ w, Inn (rs ++ [r]) w ∧ dt a b w ∈ candsFrom [] a b (rs ++ [r])) ∨ ∀ M, ∃ w, Inn (rs ++ [r]) w ∧ M ≤ dt a b w := by
  obtain ⟨hz1, hz2⟩ := Inn.snoc.mp hz
  obtain ⟨t0, ht0, ht1, hw⟩ := cross hz2 hv
  have hwi := hz1.between hp ht0 ht1
  generalize mv z t0 (p.1 - z.1, p.2 - z.2) = w at hw hwi
  have hwr : Inn (rs ++ [r]) w := Inn.snoc.mpr ⟨hwi, by rw [hw]; exact Rat.le_refl⟩
  have hwb := hbest w hwr
  -- the direction along the line
  have main : ∀ d : Pt, r.at d = 0 → 0 < dt a b d → (∃ w, Inn (rs ++ [r]) w ∧ dt a b w ∈ candsFrom [] a b (rs ++ [r])) ∨ ∀ M, ∃ w, Inn (rs ++ [r]) w ∧ M ≤ dt a b w := by
    intro d hd0 hd1
    rcases shoot rs w d hwi with hun | ⟨t, ht, hin, s, hs, hsp, hse⟩
    · refine .inr fun M => ?_
      have hne : dt a b d ≠ 0 := by grind
      have e : (M - dt a b w) / dt a b d * dt a b d = M - dt a b w := Rat.div_mul_cancel hne
      by_cases hM : M ≤ dt a b w
      · exact ⟨w, hwr, hM⟩
      · have h0 : 0 ≤ (M - dt a b w) / dt a b d := by
          rw [Rat.div_def]
          exact Rat.mul_nonneg (by grind) (Rat.le_of_lt (Rat.inv_pos.mpr hd1))
        refine ⟨mv w _ d, Inn.snoc.mpr ⟨hun _ h0, ?_⟩, ?_⟩
        · rw [Row.at_mv, hd0, hw]; grind
        · rw [dt_mv, e]; grind
    · refine .inl ⟨mv w t d, ?_, ?_⟩
      · refine Inn.snoc.mpr ⟨hin, ?_⟩
        rw [Row.at_mv, hd0, hw]; grind
      · have hwr' : Inn (rs ++ [r]) (mv w t d) := Inn.snoc.mpr ⟨hin, by rw [Row.at_mv, hd0, hw]; grind⟩
        have hb' := hbest _ hwr'
        have hra : r.at (mv w t d) = r.c := by rw [Row.at_mv, hd0, hw]; grind
        -- (a, b) = k r + l s
        have htn : turn r s ≠ 0 := fun z0 => by
          have z1 : (r.a : Rat) * s.b - r.b * s.a = 0 := by
            rw [← Rat.intCast_mul, ← Rat.intCast_mul, ← Rat.intCast_sub]; unfold turn at z0; rw [z0]; rfl
          unfold Row.at dt at hd0 hsp
          have q1 : (r.a : Rat) * (s.a * d.1 + s.b * d.2) = 0 := by grind
          have q2 : (r.b : Rat) * (s.a * d.1 + s.b * d.2) = 0 := by grind
          have hne : (s.a : Rat) * d.1 + s.b * d.2 ≠ 0 := by grind
          rcases ho with o | o
          · exact (Rat.mul_eq_zero.mp q1).elim (ne_cast o) hne
          · exact (Rat.mul_eq_zero.mp q2).elim (ne_cast o) hne
        have hT : ((turn r s : Int) : Rat) ≠ 0 := ne_cast htn
        have eT : ((turn r s : Int) : Rat) = r.a * s.b - r.b * s.a := by unfold turn; rw [Rat.intCast_sub, Rat.intCast_mul, Rat.intCast_mul]
        have hk : ∃ k : Rat, k * (turn r s : Int) = (a : Rat) * s.b - b * s.a := ⟨_, Rat.div_mul_cancel hT⟩
        have hl : ∃ l : Rat, l * (turn r s : Int) = (r.a : Rat) * b - r.b * a := ⟨_, Rat.div_mul_cancel hT⟩
        obtain ⟨k, hk⟩ := hk
        obtain ⟨l, hl⟩ := hl
        generalize ((turn r s : Int) : Rat) = T at *
        have e1 : (a : Rat) = k * r.a + l * s.a := by
          have : ((a : Rat) - (k * r.a + l * s.a)) * T = 0 := by grind
          rcases Rat.mul_eq_zero.mp this with z | z
          · grind
          · exact absurd z hT
        have e2 : (b : Rat) = k * r.b + l * s.b := by
          have : ((b : Rat) - (k * r.b + l * s.b)) * T = 0 := by grind
          rcases Rat.mul_eq_zero.mp this with z | z
          · grind
          · exact absurd z hT
        have hl0 : 0 < l := by
          apply Classical.byContradiction
          intro hn
          have h1 : dt a b d = l * s.at d := by rw [e1, e2, dt_comb]; unfold Row.at at hd0 ⊢; rw [hd0]; grind
          have h2 := Rat.mul_le_mul_of_nonneg_right (Rat.not_lt.mp hn) (Rat.le_of_lt hsp)
          grind
        have hk0 : 0 ≤ k := by
          apply Classical.byContradiction
          intro hn
          have h1 : dt a b p = k * r.at p + l * s.at p := by rw [e1, e2, dt_comb]; rfl
          have h2 : dt a b (mv w t d) = k * r.at (mv w t d) + l * s.at (mv w t d) := by rw [e1, e2, dt_comb]; rfl
          have h3 := hp s hs
          have h4 := Rat.mul_le_mul_of_nonneg_left h3 (Rat.le_of_lt hl0)
          have h5 := Rat.mul_lt_mul_of_pos_left hv (show 0 < -k by grind)
          rw [h2, hra, hse] at hb'
          grind
        have e3 : dt a b (mv w t d) = k * r.c + l * s.c := by
          have : dt a b (mv w t d) = k * r.at (mv w t d) + l * s.at (mv w t d) := by rw [e1, e2, dt_comb]; rfl
          rw [this, hra, hse]
        rw [e3]
        exact cands_pair (pairv_of htn hk0 (Rat.le_of_lt hl0) e1 e2) _ _ (by simp) (List.mem_append_left _ hs)
  have hrc : r.at (-(r.b : Rat), (r.a : Rat)) = 0 := by unfold Row.at dt; grind
  have hrc2 : r.at ((r.b : Rat), -(r.a : Rat)) = 0 := by unfold Row.at dt; grind
  by_cases h1 : 0 < dt a b (-(r.b : Rat), (r.a : Rat))
  · exact main _ hrc h1
  by_cases h2 : 0 < dt a b ((r.b : Rat), -(r.a : Rat))
  · exact main _ hrc2 h2
  have h3 : (r.a : Rat) * b = r.b * a := by unfold dt at h1 h2; grind
  -- parallel
  have hk : ∃ k : Rat, (a : Rat) = k * r.a ∧ (b : Rat) = k * r.b := by
    rcases ho with o | o
    · have o' := ne_cast o
      have e : (a : Rat) / r.a * r.a = a := Rat.div_mul_cancel o'
      refine ⟨(a : Rat) / r.a, e.symm, ?_⟩
      grind
    · have o' := ne_cast o
      have e : (b : Rat) / r.b * r.b = b := Rat.div_mul_cancel o'
      refine ⟨(b : Rat) / r.b, ?_, e.symm⟩
      grind
  obtain ⟨k, e1, e2⟩ := hk
  have hk0 : k ≠ 0 := fun z => by
    rw [z] at e1 e2
    rcases hab with o | o
    · exact ne_cast o (by rw [e1]; grind)
    · exact ne_cast o (by rw [e2]; grind)
  have ew : dt a b w = k * r.c := by rw [e1, e2, dt_lin, ← hw]; rfl
  have ep : dt a b p = k * r.at p := by rw [e1, e2, dt_lin]; rfl
  by_cases hkp : 0 < k
  · exact .inl ⟨w, hwr, by rw [ew]; exact cands_single (single_of ho hkp e1 e2) _ _ (by simp)⟩
  · exfalso
    have h5 := Rat.mul_lt_mul_of_pos_left hv (show 0 < -k by grind)
    rw [ew, ep] at hwb
    grind

/-- strong duality: the best value is reached and is what one or two rows give, or there is no best value -/
theorem dual {a b : Int} (hab : a ≠ 0 ∨ b ≠ 0) : ∀ (n : Nat) (rs : List Row), rs.length = n → Oks rs → (∃ z, Inn rs z) →
    (∃ w, Inn rs w ∧ dt a b w ∈ candsFrom [] a b rs) ∨ ∀ M, ∃ w, Inn rs w ∧ M ≤ dt a b w
  | 0, rs, hn, _, _ => by
    obtain rfl : rs = [] := List.length_eq_zero_iff.mp hn
    refine .inr fun M => ?_
    rcases hab with o | o
    · have o' := ne_cast o
      have e : (a : Rat) * (M / a) = M := by rw [Rat.mul_comm]; exact Rat.div_mul_cancel o'
      exact ⟨(M / a, 0), Inn.nil, by unfold dt; grind⟩
    · have o' := ne_cast o
      have e : (b : Rat) * (M / b) = M := by rw [Rat.mul_comm]; exact Rat.div_mul_cancel o'
      exact ⟨(0, M / b), Inn.nil, by unfold dt; grind⟩
  | n + 1, rs, hn, ho, ⟨z, hz⟩ => by
    have hne : rs ≠ [] := fun z => by rw [z] at hn; cases hn
    obtain ⟨ss, r, rfl⟩ : ∃ ss r, rs = ss ++ [r] := ⟨rs.dropLast, rs.getLast hne, (List.dropLast_concat_getLast hne).symm⟩
    have hl : ss.length = n := by simpa using hn
    have hos : Oks ss := fun x hx => ho x (List.mem_append_left _ hx)
    have hor : r.ok := ho r (by simp)
    obtain ⟨hz1, hz2⟩ := Inn.snoc.mp hz
    rcases dual hab n ss hl hos ⟨z, hz1⟩ with ⟨p, hp, hc⟩ | hun
    · by_cases hpr : r.at p ≤ r.c
      · exact .inl ⟨p, Inn.snoc.mpr ⟨hp, hpr⟩, cands_mono hc⟩
      · exact step_up hor hab hz hp (Rat.not_le.mp hpr) fun y hy => cand_above hc (Inn.snoc.mp hy).1
    · by_cases hall : ∀ M, ∃ w, Inn (ss ++ [r]) w ∧ M ≤ dt a b w
      · exact .inr hall
      · obtain ⟨M, hM⟩ := Classical.not_forall.mp hall
        obtain ⟨p, hp, hpM⟩ := hun M
        have hpr : ¬ r.at p ≤ r.c := fun q => hM ⟨p, Inn.snoc.mpr ⟨hp, q⟩, hpM⟩
        refine step_up hor hab hz hp (Rat.not_le.mp hpr) fun y hy => ?_
        apply Classical.byContradiction
        intro hn
        exact hM ⟨y, hy, Rat.le_trans hpM (Rat.le_of_lt (Rat.not_le.mp hn))⟩

/-- what bound_of tells of a figure with a point -/
theorem bound_none {rs : List Row} {a b : Int} (hab : a ≠ 0 ∨ b ≠ 0) (ho : Oks rs) (hz : ∃ z, Inn rs z) (h : boundOf rs a b = none) (M : Rat) : ∃ w, Inn rs w ∧ M ≤ dt a b w := by
  rcases dual hab _ rs rfl ho hz with ⟨w, _, hc⟩ | hun
  · rw [boundOf_none h] at hc; cases hc
  · exact hun M
theorem bound_le {rs : List Row} {a b : Int} {v : Rat} (h : boundOf rs a b = some v) {p : Pt} (hp : Inn rs p) : dt a b p ≤ v := cand_above (boundOf_some h).1 hp
theorem bound_at {rs : List Row} {a b : Int} {v : Rat} (hab : a ≠ 0 ∨ b ≠ 0) (ho : Oks rs) (hz : ∃ z, Inn rs z) (h : boundOf rs a b = some v) : ∃ w, Inn rs w ∧ dt a b w = v := by
  rcases dual hab _ rs rfl ho hz with ⟨w, hw, hc⟩ | hun
  · exact ⟨w, hw, Rat.le_antisymm (bound_le h hw) ((boundOf_some h).2 _ hc)⟩
  · obtain ⟨w, hw, q⟩ := hun (v + 1)
    have := bound_le h hw
    exfalso; grind
/-- equal figures have equal bounds -/
theorem bound_ext {rs ss : List Row} {a b : Int} (hab : a ≠ 0 ∨ b ≠ 0) (ho : Oks rs) (ho' : Oks ss) (hz : ∃ z, Inn rs z) (e : ∀ p, Inn rs p ↔ Inn ss p) : boundOf rs a b = boundOf ss a b := by
  have hz' : ∃ z, Inn ss z := let ⟨z, q⟩ := hz; ⟨z, (e z).mp q⟩
  cases h1 : boundOf rs a b with
  | none =>
    cases h2 : boundOf ss a b with
    | none => rfl
    | some v =>
      obtain ⟨w, hw, q⟩ := bound_none hab ho hz h1 (v + 1)
      have := bound_le h2 ((e w).mp hw)
      exfalso; grind
  | some u =>
    cases h2 : boundOf ss a b with
    | none =>
      obtain ⟨w, hw, q⟩ := bound_none hab ho' hz' h2 (u + 1)
      have := bound_le h1 ((e w).mpr hw)
      exfalso; grind
    | some v =>
      obtain ⟨w, hw, q⟩ := bound_at hab ho hz h1
      obtain ⟨w', hw', q'⟩ := bound_at hab ho' hz' h2
      have := bound_le h1 ((e w').mpr hw')
      have := bound_le h2 ((e w).mp hw)
      rw [Rat.le_antisymm (show u ≤ v by grind) (show v ≤ u by grind)]
def atMost (v : Option Rat) (c : Rat) : Bool := match v with | none => false | some x => !decide (c < x)
/-- a row follows -/
theorem atMost_iff {rs : List Row} {a b : Int} {c : Rat} (hab : a ≠ 0 ∨ b ≠ 0) (ho : Oks rs) (hz : ∃ z, Inn rs z) : atMost (boundOf rs a b) c = true ↔ ∀ p, Inn rs p → dt a b p ≤ c := by
  cases h : boundOf rs a b with
  | none =>
    refine ⟨(fun z => by cases z), fun q => ?_⟩
    obtain ⟨w, hw, e⟩ := bound_none hab ho hz h (c + 1)
    have := q w hw
    exfalso; grind
  | some x =>
    simp only [atMost, Bool.not_eq_true', decide_eq_false_iff_not]
    refine ⟨fun q p hp => Rat.le_trans (bound_le h hp) (Rat.not_lt.mp q), fun q => ?_⟩
    obtain ⟨w, hw, e⟩ := bound_at hab ho hz h
    have := q w hw
    rw [e] at this
    exact Rat.not_lt.mpr this
end Ts

set_option linter.all false
namespace Ts

/-! ### directions -/
def half (r : Row) : Bool := decide (r.b < 0) || (decide (r.b = 0) && decide (r.a < 0))
def ahead (r s : Row) : Bool := if half r ≠ half s then (!half r && half s) else decide (0 < r.a * s.b - r.b * s.a)
def insDir (r : Row) : List Row → List Row
  | [] => [r]
  | x :: xs => if ahead x r = true then x :: insDir r xs else r :: x :: xs
def byDir (rs : List Row) : List Row := rs.foldl (fun f r => insDir r f) []
def Prim (r : Row) : Prop := Int.gcd r.a r.b = 1
def SameDir (r s : Row) : Prop := r.a = s.a ∧ r.b = s.b

theorem half_false {r : Row} (h : half r = false) (ho : r.ok) : 0 < r.b ∨ (r.b = 0 ∧ 0 < r.a) := by
  unfold half at h; unfold Row.ok at ho
  simp at h; omega
theorem half_true {r : Row} (h : half r = true) : r.b < 0 ∨ (r.b = 0 ∧ r.a < 0) := by
  unfold half at h; simp at h; omega
theorem ahead_irrefl (r : Row) : ahead r r = false := by
  unfold ahead; simp; grind
theorem ahead_asymm {r s : Row} (h : ahead r s = true) : ahead s r = false := by
  unfold ahead at *
  by_cases e : half r = half s
  · rw [if_neg (by simp [e])] at h
    rw [if_neg (by simp [e])]
    simp at h ⊢; grind
  · rw [if_pos e] at h
    rw [if_pos (Ne.symm e)]
    simp at h ⊢; simp [h.1]
theorem cross_trans {a b c d e f : Int} (h1 : 0 < a * d - b * c) (h2 : 0 < c * f - d * e) (hx : 0 < b ∨ (b = 0 ∧ 0 < a)) (hy : 0 < d ∨ (d = 0 ∧ 0 < c)) (hz : 0 < f ∨ (f = 0 ∧ 0 < e)) : 0 < a * f - b * e := by
  have id : (a * f - b * e) * d = (a * d - b * c) * f + (c * f - d * e) * b := by grind
  rcases hy with hd | ⟨hd, hc⟩
  · have hb : 0 ≤ b := by omega
    have hf : 0 ≤ f := by omega
    have p1 : 0 ≤ (a * d - b * c) * f := Int.mul_nonneg (by omega) hf
    have p2 : 0 ≤ (c * f - d * e) * b := Int.mul_nonneg (by omega) hb
    have hpos : 0 < (a * f - b * e) * d := by
      rw [id]
      rcases hx with hb' | ⟨hb', ha⟩
      · have : 0 < (c * f - d * e) * b := Int.mul_pos h2 hb'
        omega
      · rcases hz with hf' | ⟨hf', he⟩
        · have : 0 < (a * d - b * c) * f := Int.mul_pos h1 hf'
          omega
        · exfalso
          rw [hf'] at h2
          have : 0 < d * e := Int.mul_pos hd he
          omega
    exact Int.pos_of_mul_pos_left hpos hd
  · exfalso
    rw [hd] at h1
    have hb : 0 ≤ b := by omega
    have : 0 ≤ b * c := Int.mul_nonneg hb (by omega)
    omega
theorem ahead_trans {x y z : Row} (ox : x.ok) (oy : y.ok) (oz : z.ok) (h1 : ahead x y = true) (h2 : ahead y z = true) : ahead x z = true := by
  unfold ahead at *
  by_cases e1 : half x = half y
  · rw [if_neg (by simp [e1])] at h1
    by_cases e2 : half y = half z
    · rw [if_neg (by simp [e2])] at h2
      rw [if_neg (by simp [e1, e2])]
      have h1 := of_decide_eq_true h1
      have h2 := of_decide_eq_true h2
      refine decide_eq_true ?_
      cases hx : half x with
      | false => exact cross_trans h1 h2 (half_false hx ox) (half_false (e1 ▸ hx) oy) (half_false (e2 ▸ e1 ▸ hx) oz)
      | true =>
        have q1 := half_true hx
        have q2 := half_true (e1 ▸ hx)
        have q3 := half_true (e2 ▸ e1 ▸ hx)
        have := cross_trans (a := -x.a) (b := -x.b) (c := -y.a) (d := -y.b) (e := -z.a) (f := -z.b) (by grind) (by grind) (by omega) (by omega) (by omega)
        grind
    · rw [if_pos e2] at h2
      rw [if_pos (by rw [e1]; exact e2), e1]
      exact h2
  · rw [if_pos e1] at h1
    simp at h1
    by_cases e2 : half y = half z
    · rw [if_pos (by rw [← e2]; exact e1), ← e2]
      simp [h1]
    · rw [if_pos e2] at h2
      simp at h2
      rw [h1.2] at h2; cases h2.1
theorem isq (x : Int) : 0 ≤ x * x := by
  rcases Int.le_total 0 x with h | h
  · exact Int.mul_nonneg h h
  · have := Int.mul_nonneg (show 0 ≤ -x by omega) (show 0 ≤ -x by omega)
    grind
theorem dvd_cop {a b c : Int} (h : a ∣ b * c) (h1 : Int.gcd a b = 1) : a ∣ c := by
  have h2 : a.natAbs ∣ b.natAbs * c.natAbs := by rw [← Int.natAbs_mul]; exact Int.natAbs_dvd_natAbs.mpr h
  exact Int.natAbs_dvd_natAbs.mp (Nat.Coprime.dvd_of_dvd_mul_left (show Nat.Coprime a.natAbs b.natAbs from h1) h2)
/-- primitive rows on one line through 0, on the same side -/
theorem prim_eq {a b c d : Int} (h1 : Int.gcd a b = 1) (h2 : Int.gcd c d = 1) (hx : a * d = b * c) (hs : 0 < a * c + b * d) : a = c ∧ b = d := by
  -- a divides c and c divides a
  have d1 : a ∣ c := by
    have : a ∣ b * c := ⟨d, hx.symm⟩
    exact dvd_cop this h1
  have d2 : c ∣ a := by
    have : c ∣ d * a := ⟨b, by rw [Int.mul_comm d a, hx, Int.mul_comm]⟩
    exact dvd_cop this h2
  have d3 : b ∣ d := by
    have : b ∣ a * d := ⟨c, hx⟩
    exact dvd_cop this (by rw [Int.gcd_comm]; exact h1)
  have d4 : d ∣ b := by
    have : d ∣ c * b := ⟨a, by rw [Int.mul_comm c b, ← hx, Int.mul_comm]⟩
    exact dvd_cop this (by rw [Int.gcd_comm]; exact h2)
  have e1 : a.natAbs = c.natAbs := Nat.dvd_antisymm (Int.natAbs_dvd_natAbs.mpr d1) (Int.natAbs_dvd_natAbs.mpr d2)
  have e2 : b.natAbs = d.natAbs := Nat.dvd_antisymm (Int.natAbs_dvd_natAbs.mpr d3) (Int.natAbs_dvd_natAbs.mpr d4)
  have q1 : a = c ∨ a = -c := by omega
  have q2 : b = d ∨ b = -d := by omega
  rcases q1 with q1 | q1 <;> rcases q2 with q2 | q2
  · exact ⟨q1, q2⟩
  · subst q1 q2
    have : a * d = 0 := by grind
    rcases Int.mul_eq_zero.mp this with z | z
    · subst z; exfalso
      have : 0 ≤ d * d := isq d
      grind
    · subst z; exact ⟨rfl, by omega⟩
  · subst q1 q2
    have : b * c = 0 := by grind
    rcases Int.mul_eq_zero.mp this with z | z
    · subst z; exfalso
      have : 0 ≤ c * c := isq c
      grind
    · subst z; exact ⟨by omega, rfl⟩
  · subst q1 q2
    exfalso
    have h3 : 0 ≤ c * c := isq c
    have h4 : 0 ≤ d * d := isq d
    grind
theorem ahead_total {r s : Row} (or : r.ok) (os : s.ok) (pr : Prim r) (ps : Prim s) (hd : ¬ SameDir r s) (h : ahead r s = false) : ahead s r = true := by
  unfold ahead at *
  by_cases e : half r = half s
  · rw [if_neg (by simp [e])] at h
    rw [if_neg (by simp [e])]
    have h := of_decide_eq_false h
    refine decide_eq_true ?_
    by_cases hx : r.a * s.b = r.b * s.a
    · exfalso
      refine hd (prim_eq pr ps hx ?_)
      have key : ∀ a b c d : Int, (0 < b ∨ (b = 0 ∧ 0 < a)) → (0 < d ∨ (d = 0 ∧ 0 < c)) → a * d = b * c → 0 < a * c + b * d := by
        intro a b c d q1 q2 q3
        rcases q1 with q1 | ⟨q1, q1'⟩
        · rcases q2 with q2 | ⟨q2, q2'⟩
          · have : 0 < b * d := Int.mul_pos q1 q2
            have id : b * d * (a * c) = (b * c) * (b * c) := by grind
            have h5 : 0 ≤ (b * c) * (b * c) := isq (b * c)
            have h6 : 0 ≤ a * c := by
              apply Classical.byContradiction
              intro hn
              have := Int.mul_neg_of_pos_of_neg this (show a * c < 0 by omega)
              omega
            omega
          · subst q2
            have : 0 < b * c := Int.mul_pos q1 q2'
            omega
        · subst q1
          rcases q2 with q2 | ⟨q2, q2'⟩
          · have : 0 < a * d := Int.mul_pos q1' q2
            omega
          · subst q2
            have : 0 < a * c := Int.mul_pos q1' q2'
            omega
      cases hh : half r with
      | false => exact key _ _ _ _ (half_false hh or) (half_false (e ▸ hh) os) hx
      | true =>
        have q1 := half_true hh
        have q2 := half_true (e ▸ hh)
        have := key (-r.a) (-r.b) (-s.a) (-s.b) (by omega) (by omega) (by grind)
        grind
    · have e1 : s.a * r.b = r.b * s.a := Int.mul_comm _ _
      have e2 : s.b * r.a = r.a * s.b := Int.mul_comm _ _
      omega
  · rw [if_pos e] at h
    rw [if_pos (Ne.symm e)]
    cases h1 : half r <;> cases h2 : half s <;> simp_all

abbrev SortedD (l : List Row) : Prop := l.Pairwise fun r s => ahead r s = true
theorem sorted_ext : ∀ {l m : List Row}, SortedD l → SortedD m → (∀ x, x ∈ l ↔ x ∈ m) → l = m
  | [], [], _, _, _ => rfl
  | [], y :: ys, _, _, h => by have := (h y).mpr (by simp); cases this
  | x :: xs, [], _, _, h => by have := (h x).mp (by simp); cases this
  | x :: xs, y :: ys, h1, h2, h => by
    obtain ⟨a1, b1⟩ := List.pairwise_cons.mp h1
    obtain ⟨a2, b2⟩ := List.pairwise_cons.mp h2
    have e : x = y := by
      rcases List.mem_cons.mp ((h x).mp (by simp)) with e | e
      · exact e
      · rcases List.mem_cons.mp ((h y).mpr (by simp)) with e' | e'
        · exact e'.symm
        · have := ahead_asymm (a2 x e)
          rw [a1 y e'] at this; cases this
    subst e
    have nx : x ∉ xs := fun z => by have := a1 x z; rw [ahead_irrefl] at this; cases this
    have ny : x ∉ ys := fun z => by have := a2 x z; rw [ahead_irrefl] at this; cases this
    rw [sorted_ext b1 b2 fun z => ?_]
    refine ⟨fun hz => ?_, fun hz => ?_⟩
    · rcases List.mem_cons.mp ((h z).mp (List.mem_cons_of_mem _ hz)) with e | e
      · subst e; exact absurd hz nx
      · exact e
    · rcases List.mem_cons.mp ((h z).mpr (List.mem_cons_of_mem _ hz)) with e | e
      · subst e; exact absurd hz ny
      · exact e
theorem mem_insDir {r x : Row} : ∀ {l : List Row}, x ∈ insDir r l ↔ x = r ∨ x ∈ l
  | [] => by simp [insDir]
  | y :: l => by
    unfold insDir
    split
    · simp only [List.mem_cons, mem_insDir (l := l)]; grind
    · simp only [List.mem_cons]
theorem sorted_insDir {r : Row} (or : r.ok) (pr : Prim r) : ∀ {l : List Row}, Oks l → (∀ x ∈ l, Prim x ∧ ¬ SameDir x r) → SortedD l → SortedD (insDir r l)
  | [], _, _, _ => by simp [insDir]
  | y :: l, ho, hd, hs => by
    obtain ⟨a1, b1⟩ := List.pairwise_cons.mp hs
    have oy : y.ok := ho y (by simp)
    unfold insDir
    split
    · rename_i hy
      refine List.pairwise_cons.mpr ⟨fun z hz => ?_, sorted_insDir or pr (fun z hz => ho z (List.mem_cons_of_mem _ hz)) (fun z hz => hd z (List.mem_cons_of_mem _ hz)) b1⟩
      rcases mem_insDir.mp hz with rfl | hz
      · exact hy
      · exact a1 z hz
    · rename_i hy
      have hy' : ahead y r = false := by simpa using hy
      obtain ⟨py, dy⟩ := hd y (by simp)
      have hry := ahead_total oy or py pr dy hy'
      refine List.pairwise_cons.mpr ⟨fun z hz => ?_, hs⟩
      rcases List.mem_cons.mp hz with rfl | hz
      · exact hry
      · exact ahead_trans or oy (ho z (List.mem_cons_of_mem _ hz)) hry (a1 z hz)
/-- rows that by_direction may sort -/
structure Dirs (rs : List Row) : Prop where
  ok : Oks rs
  pr : ∀ r ∈ rs, Prim r
  df : rs.Pairwise fun r s => ¬ SameDir r s
theorem byDir_core : ∀ (rs f : List Row), Dirs rs → Oks f → SortedD f → (∀ x ∈ f, Prim x ∧ ∀ r ∈ rs, ¬ SameDir x r) →
    SortedD (rs.foldl (fun f r => insDir r f) f) ∧ ∀ x, x ∈ rs.foldl (fun f r => insDir r f) f ↔ x ∈ f ∨ x ∈ rs
  | [], f, _, _, hs, _ => ⟨hs, fun x => by simp⟩
  | r :: rs, f, hd, ho, hs, hf => by
    obtain ⟨d1, d2⟩ := List.pairwise_cons.mp hd.df
    have or := hd.ok r (by simp)
    have pr := hd.pr r (by simp)
    have s1 := sorted_insDir or pr ho (fun x hx => ⟨(hf x hx).1, (hf x hx).2 r (by simp)⟩) hs
    have ih := byDir_core rs (insDir r f) ⟨fun x hx => hd.ok x (List.mem_cons_of_mem _ hx), fun x hx => hd.pr x (List.mem_cons_of_mem _ hx), d2⟩
      (fun x hx => (mem_insDir.mp hx).elim (fun e => e ▸ or) (ho x)) s1 (fun x hx => by
        rcases mem_insDir.mp hx with rfl | hx
        · exact ⟨pr, d1⟩
        · exact ⟨(hf x hx).1, fun y hy => (hf x hx).2 y (List.mem_cons_of_mem _ hy)⟩)
    refine ⟨ih.1, fun x => ?_⟩
    rw [List.foldl_cons, ih.2 x, mem_insDir, List.mem_cons]
    grind
theorem byDir_spec {rs : List Row} (h : Dirs rs) : SortedD (byDir rs) ∧ ∀ x, x ∈ byDir rs ↔ x ∈ rs := by
  have := byDir_core rs [] h (fun x hx => nomatch hx) List.Pairwise.nil (fun x hx => nomatch hx)
  exact ⟨this.1, fun x => by rw [byDir, this.2 x]; simp⟩
theorem byDir_ext {rs ss : List Row} (h1 : Dirs rs) (h2 : Dirs ss) (h : ∀ x, x ∈ rs ↔ x ∈ ss) : byDir rs = byDir ss :=
  sorted_ext (byDir_spec h1).1 (byDir_spec h2).1 fun x => by rw [(byDir_spec h1).2, (byDir_spec h2).2, h]
theorem Inn.mem_ext {rs ss : List Row} (h : ∀ x, x ∈ rs ↔ x ∈ ss) (p : Pt) : Inn rs p ↔ Inn ss p :=
  ⟨fun q r hr => q r ((h r).mpr hr), fun q r hr => q r ((h r).mp hr)⟩
theorem Inn.byDir {rs : List Row} (h : Dirs rs) (p : Pt) : Inn (byDir rs) p ↔ Inn rs p := Inn.mem_ext (byDir_spec h).2 p
end Ts

set_option linter.all false
namespace Ts

/-! ### canonical rows, as the program makes them -/
def normal (r : Row) : Row := ⟨r.a / (Int.gcd r.a r.b : Int), r.b / (Int.gcd r.a r.b : Int), r.c * (1 / ((Int.gcd r.a r.b : Int) : Rat))⟩
def tooLow (low : Option Rat) (c : Rat) : Bool := match low with | none => false | some v => decide (v + c < 0)
def kept (found : List Row) : List Row → Option (List Row)
  | [] => some found
  | r :: rs =>
    if atMost (boundOf found r.a r.b) r.c = true then kept found rs
    else if tooLow (boundOf found (-r.a) (-r.b)) r.c = true then none
    else kept (found ++ [r]) rs
def meets (top low : Option Rat) : Option Rat := match top, low with
  | some t, some w => if t + w = 0 then some t else none
  | _, _ => none
def pointRows (x y : Rat) : List Row := [⟨1, 0, x⟩, ⟨-1, 0, -x⟩, ⟨0, 1, y⟩, ⟨0, -1, -y⟩]
def negRow (l : Row) : Row := ⟨-l.a, -l.b, -l.c⟩
def endRow (a b : Int) (v : Option Rat) : List Row := match v with | none => [] | some t => [⟨a, b, t⟩]
def lineRows (found : List Row) (l : Row) : List Row :=
  if l.b = 0 then
    match meets (boundOf found 0 1) (boundOf found 0 (-1)) with
    | some t => pointRows (l.c / (l.a : Rat)) t
    | none => [l, negRow l] ++ (endRow 0 1 (boundOf found 0 1) ++ endRow 0 (-1) (boundOf found 0 (-1)))
  else
    match meets (boundOf found 1 0) (boundOf found (-1) 0) with
    | some t => pointRows t ((l.c - (l.a : Rat) * t) / (l.b : Rat))
    | none => [l, negRow l] ++ (endRow 1 0 (boundOf found 1 0) ++ endRow (-1) 0 (boundOf found (-1) 0))
def isLine (found : List Row) (r : Row) : Bool := match boundOf found (-r.a) (-r.b) with | none => false | some low => decide (low + r.c = 0)
def prune (found : List Row) : List Row → List Row
  | [] => found
  | r :: rs => if atMost (boundOf (found.filter fun o => decide (o ≠ r)) r.a r.b) r.c = true then prune (found.filter fun o => decide (o ≠ r)) rs else prune found rs
def shape (found : List Row) : List Row := match found.find? (isLine found) with
  | some l => byDir (lineRows found l)
  | none => byDir (prune found found)
def canonical (rs : List Row) : Option (List Row) := match kept [] (rs.map normal) with
  | none => none
  | some found => some (shape found)

/-! ### normal -/
theorem normal_spec {r : Row} (ho : r.ok) : Prim (normal r) ∧ (normal r).ok ∧ ∀ p, (normal r).at p ≤ (normal r).c ↔ r.at p ≤ r.c := by
  have hg0 : Int.gcd r.a r.b ≠ 0 := fun z => by
    rw [Int.gcd_eq_zero_iff] at z
    rcases ho with o | o
    · exact o z.1
    · exact o z.2
  have hgp : 0 < Int.gcd r.a r.b := Nat.pos_of_ne_zero hg0
  have e1 : (Int.gcd r.a r.b : Int) * (r.a / (Int.gcd r.a r.b : Int)) = r.a := Int.mul_ediv_cancel' (Int.gcd_dvd_left ..)
  have e2 : (Int.gcd r.a r.b : Int) * (r.b / (Int.gcd r.a r.b : Int)) = r.b := Int.mul_ediv_cancel' (Int.gcd_dvd_right ..)
  have hpr : Prim (normal r) := by
    unfold Prim normal
    simp only
    exact Int.gcd_ediv_gcd_ediv_gcd hgp
  refine ⟨hpr, ?_, fun p => ?_⟩
  · unfold Row.ok normal
    simp only
    apply Classical.byContradiction
    intro hn
    have h1 : r.a / (Int.gcd r.a r.b : Int) = 0 := by omega
    have h2 : r.b / (Int.gcd r.a r.b : Int) = 0 := by omega
    rw [h1] at e1; rw [h2] at e2
    rcases ho with o | o
    · omega
    · omega
  · have hG : (0 : Rat) < ((Int.gcd r.a r.b : Int) : Rat) := Rat.intCast_pos.mpr (by omega)
    have hG0 : ((Int.gcd r.a r.b : Int) : Rat) ≠ 0 := by grind
    have f1 : ((Int.gcd r.a r.b : Int) : Rat) * ((r.a / (Int.gcd r.a r.b : Int) : Int) : Rat) = r.a := by rw [← Rat.intCast_mul, e1]
    have f2 : ((Int.gcd r.a r.b : Int) : Rat) * ((r.b / (Int.gcd r.a r.b : Int) : Int) : Rat) = r.b := by rw [← Rat.intCast_mul, e2]
    unfold Row.at dt normal
    simp only
    rw [← f1, ← f2]
    generalize ((r.a / (Int.gcd r.a r.b : Int) : Int) : Rat) = u at *
    generalize ((r.b / (Int.gcd r.a r.b : Int) : Int) : Rat) = v at *
    generalize ((Int.gcd r.a r.b : Int) : Rat) = g at *
    have eg : g * (1 / g) = 1 := by rw [Rat.mul_comm]; exact Rat.div_mul_cancel hG0
    have hig : 0 ≤ 1 / g := by
      rw [Rat.div_def]; exact Rat.mul_nonneg (by decide) (Rat.le_of_lt (Rat.inv_pos.mpr hG))
    generalize 1 / g = i at *
    constructor
    · intro q
      have h1 := Rat.mul_le_mul_of_nonneg_left q (Rat.le_of_lt hG)
      have h2 : g * (r.c * i) = r.c := by grind
      have h3 : g * (u * p.1 + v * p.2) = g * u * p.1 + g * v * p.2 := by grind
      rw [h2, h3] at h1
      exact h1
    · intro q
      have h1 := Rat.mul_le_mul_of_nonneg_left q hig
      have h3 : i * (g * u * p.1 + g * v * p.2) = u * p.1 + v * p.2 := by grind
      rw [h3, Rat.mul_comm i] at h1
      exact h1
theorem normal_map {rs : List Row} (ho : Oks rs) : Oks (rs.map normal) ∧ (∀ r ∈ rs.map normal, Prim r) ∧ ∀ p, Inn (rs.map normal) p ↔ Inn rs p := by
  refine ⟨fun r hr => ?_, fun r hr => ?_, fun p => ⟨fun q r hr => ?_, fun q r hr => ?_⟩⟩
  · obtain ⟨x, hx, rfl⟩ := List.mem_map.mp hr
    exact (normal_spec (ho x hx)).2.1
  · obtain ⟨x, hx, rfl⟩ := List.mem_map.mp hr
    exact (normal_spec (ho x hx)).1
  · exact ((normal_spec (ho r hr)).2.2 p).mp (q _ (List.mem_map.mpr ⟨r, hr, rfl⟩))
  · obtain ⟨x, hx, rfl⟩ := List.mem_map.mp hr
    exact ((normal_spec (ho x hx)).2.2 p).mpr (q x hx)

/-! ### kept_rows -/
theorem neg_ok {a b : Int} (h : a ≠ 0 ∨ b ≠ 0) : -a ≠ 0 ∨ -b ≠ 0 := by omega
theorem dt_neg (a b : Int) (p : Pt) : dt ((-a : Int) : Rat) ((-b : Int) : Rat) p = - dt a b p := by
  unfold dt; rw [Rat.intCast_neg, Rat.intCast_neg]; grind
theorem tooLow_iff {rs : List Row} {a b : Int} {c : Rat} (hab : a ≠ 0 ∨ b ≠ 0) (ho : Oks rs) (hz : ∃ z, Inn rs z) : tooLow (boundOf rs (-a) (-b)) c = true ↔ ∀ p, Inn rs p → c < dt a b p := by
  cases h : boundOf rs (-a) (-b) with
  | none =>
    refine ⟨(fun z => by cases z), fun q => ?_⟩
    obtain ⟨w, hw, e⟩ := bound_none (neg_ok hab) ho hz h (-c)
    have := q w hw
    rw [dt_neg] at e
    exfalso; grind
  | some x =>
    simp only [tooLow, decide_eq_true_eq]
    refine ⟨fun q p hp => ?_, fun q => ?_⟩
    · have := bound_le h hp
      rw [dt_neg] at this
      grind
    · obtain ⟨w, hw, e⟩ := bound_at (neg_ok hab) ho hz h
      have := q w hw
      rw [dt_neg] at e
      grind
theorem kept_spec : ∀ (rs found : List Row), Oks rs → Oks found → (∃ z, Inn found z) →
    match kept found rs with
    | none => ∀ p, Inn found p → ¬ Inn rs p
    | some f => (∀ p, Inn f p ↔ Inn found p ∧ Inn rs p) ∧ (∃ z, Inn f z) ∧ (∀ r ∈ f, r ∈ found ∨ r ∈ rs) ∧ (found.Nodup → f.Nodup)
  | [], found, _, _, hz => ⟨fun p => ⟨fun q => ⟨q, Inn.nil⟩, fun q => q.1⟩, hz, fun r hr => .inl hr, id⟩
  | r :: rs, found, ho, hf, hz => by
    have or : r.ok := ho r (by simp)
    have ho' : Oks rs := fun x hx => ho x (List.mem_cons_of_mem _ hx)
    rw [kept]
    by_cases h1 : atMost (boundOf found r.a r.b) r.c = true
    · rw [if_pos h1]
      have h1' := (atMost_iff or hf hz).mp h1
      have ih := kept_spec rs found ho' hf hz
      split at ih
      · exact fun p hp q => ih p hp (Inn.cons.mp q).2
      · rename_i f e
        refine ⟨fun p => ⟨fun q => ?_, fun q => ?_⟩, ih.2.1, fun x hx => (ih.2.2.1 x hx).imp id (List.mem_cons_of_mem _), ih.2.2.2⟩
        · have := (ih.1 p).mp q
          exact ⟨this.1, Inn.cons.mpr ⟨h1' p this.1, this.2⟩⟩
        · exact (ih.1 p).mpr ⟨q.1, (Inn.cons.mp q.2).2⟩
    · rw [if_neg h1]
      by_cases h2 : tooLow (boundOf found (-r.a) (-r.b)) r.c = true
      · rw [if_pos h2]
        have h2' := (tooLow_iff or hf hz).mp h2
        intro p hp q
        exact absurd (Inn.cons.mp q).1 (Rat.not_le.mpr (h2' p hp))
      · rw [if_neg h2]
        have h2' : ¬ ∀ p, Inn found p → r.c < dt r.a r.b p := fun q => h2 ((tooLow_iff or hf hz).mpr q)
        obtain ⟨p, hp⟩ := Classical.not_forall.mp h2'
        have hp1 : Inn found p := Classical.byContradiction fun q => hp fun z => absurd z q
        have hp2 : r.at p ≤ r.c := Rat.not_lt.mp fun q => hp fun _ => q
        have hf' : Oks (found ++ [r]) := fun x hx => by
          rcases List.mem_append.mp hx with hx | hx
          · exact hf x hx
          · rw [List.mem_singleton.mp hx]; exact or
        have ih := kept_spec rs (found ++ [r]) ho' hf' ⟨p, Inn.snoc.mpr ⟨hp1, hp2⟩⟩
        split at ih
        · exact fun p hp q => ih p (Inn.snoc.mpr ⟨hp, (Inn.cons.mp q).1⟩) (Inn.cons.mp q).2
        · rename_i f e
          refine ⟨fun p => ⟨fun q => ?_, fun q => ?_⟩, ih.2.1, fun x hx => ?_, fun nd => ih.2.2.2 ?_⟩
          · have := (ih.1 p).mp q
            have h3 := Inn.snoc.mp this.1
            exact ⟨h3.1, Inn.cons.mpr ⟨h3.2, this.2⟩⟩
          · have h3 := Inn.cons.mp q.2
            exact (ih.1 p).mpr ⟨Inn.snoc.mpr ⟨q.1, h3.1⟩, h3.2⟩
          · rcases ih.2.2.1 x hx with hx | hx
            · rcases List.mem_append.mp hx with hx | hx
              · exact .inl hx
              · exact .inr (by rw [List.mem_singleton.mp hx]; simp)
            · exact .inr (List.mem_cons_of_mem _ hx)
          · refine List.nodup_append.mpr ⟨nd, by simp, fun x hx y hy e => ?_⟩
            rw [List.mem_singleton.mp hy] at e
            subst e
            exact h1 ((atMost_iff or hf hz).mpr fun p hp => hp x hx)
/-- what kept_rows hands on -/
structure Found (f : List Row) : Prop where
  ok : Oks f
  pr : ∀ r ∈ f, Prim r
  pt : ∃ z, Inn f z
  nd : f.Nodup
theorem kept_some {rs f : List Row} (ho : Oks rs) (h : kept [] (rs.map normal) = some f) : Found f ∧ ∀ p, Inn f p ↔ Inn rs p := by
  obtain ⟨n1, n2, n3⟩ := normal_map ho
  have := kept_spec (rs.map normal) [] n1 (fun x hx => nomatch hx) ⟨(0, 0), Inn.nil⟩
  rw [h] at this
  obtain ⟨k1, k2, k3, k4⟩ := this
  refine ⟨⟨fun r hr => (k3 r hr).elim (fun z => nomatch z) (n1 r), fun r hr => (k3 r hr).elim (fun z => nomatch z) (n2 r), k2, k4 List.nodup_nil⟩, fun p => ?_⟩
  rw [k1, n3]
  exact ⟨fun q => q.2, fun q => ⟨Inn.nil, q⟩⟩
theorem kept_none {rs : List Row} (ho : Oks rs) (h : kept [] (rs.map normal) = none) (p : Pt) : ¬ Inn rs p := by
  obtain ⟨n1, n2, n3⟩ := normal_map ho
  have := kept_spec (rs.map normal) [] n1 (fun x hx => nomatch hx) ⟨(0, 0), Inn.nil⟩
  rw [h] at this
  rw [← n3]
  exact this p Inn.nil

/-! ### a figure within a line -/
theorem isLine_iff {f : List Row} (F : Found f) {r : Row} (hr : r ∈ f) : isLine f r = true ↔ ∀ p, Inn f p → r.at p = r.c := by
  have or := F.ok r hr
  unfold isLine
  cases h : boundOf f (-r.a) (-r.b) with
  | none =>
    refine ⟨(fun z => by cases z), fun q => ?_⟩
    obtain ⟨w, hw, e⟩ := bound_none (neg_ok or) F.ok F.pt h (-r.c + 1)
    have := q w hw
    rw [dt_neg] at e
    unfold Row.at at this
    exfalso; grind
  | some x =>
    simp only [decide_eq_true_eq]
    refine ⟨fun q p hp => ?_, fun q => ?_⟩
    · have h1 := bound_le h hp
      have h2 := hp r hr
      rw [dt_neg] at h1
      unfold Row.at at *
      grind
    · obtain ⟨w, hw, e⟩ := bound_at (neg_ok or) F.ok F.pt h
      have := q w hw
      rw [dt_neg] at e
      unfold Row.at at this
      grind
end Ts

set_option linter.all false
namespace Ts

/-! ### points, lines -/
theorem two_forms {a b c d : Rat} (h : a * d - b * c ≠ 0) {p q : Pt} (h1 : dt a b p = dt a b q) (h2 : dt c d p = dt c d q) : p = q := by
  unfold dt at h1 h2
  have e1 : (p.1 - q.1) * (a * d - b * c) = 0 := by grind
  have e2 : (p.2 - q.2) * (a * d - b * c) = 0 := by grind
  apply Prod.ext
  · rcases Rat.mul_eq_zero.mp e1 with z | z
    · grind
    · exact absurd z h
  · rcases Rat.mul_eq_zero.mp e2 with z | z
    · grind
    · exact absurd z h
theorem meets_iff {f : List Row} (F : Found f) {a b : Int} (hab : a ≠ 0 ∨ b ≠ 0) {t : Rat} : meets (boundOf f a b) (boundOf f (-a) (-b)) = some t ↔ ∀ p, Inn f p → dt a b p = t := by
  cases h1 : boundOf f a b with
  | none =>
    refine ⟨fun z => (by cases z), fun q => ?_⟩
    obtain ⟨w, hw, e⟩ := bound_none hab F.ok F.pt h1 (t + 1)
    have := q w hw
    exfalso; grind
  | some u =>
    cases h2 : boundOf f (-a) (-b) with
    | none =>
      refine ⟨fun z => (by cases z), fun q => ?_⟩
      obtain ⟨w, hw, e⟩ := bound_none (neg_ok hab) F.ok F.pt h2 (-t + 1)
      have := q w hw
      rw [dt_neg] at e
      exfalso; grind
    | some v =>
      simp only [meets]
      refine ⟨fun z p hp => ?_, fun q => ?_⟩
      · split at z
        · cases z
          have := bound_le h1 hp
          have := bound_le h2 hp
          rw [dt_neg] at this
          grind
        · cases z
      · obtain ⟨w, hw, e⟩ := bound_at hab F.ok F.pt h1
        obtain ⟨w', hw', e'⟩ := bound_at (neg_ok hab) F.ok F.pt h2
        have := q w hw
        have := q w' hw'
        rw [dt_neg] at e'
        rw [if_pos (by grind)]
        congr 1; grind
def segRows (f : List Row) (l : Row) (a b : Int) : List Row := [l, negRow l] ++ (endRow a b (boundOf f a b) ++ endRow (-a) (-b) (boundOf f (-a) (-b)))
theorem Inn.endRow {a b : Int} {v : Option Rat} {p : Pt} : Inn (endRow a b v) p ↔ ∀ x, v = some x → dt a b p ≤ x := by
  cases v with
  | none => exact ⟨(fun _ x e => nomatch e), (fun _ => Inn.nil)⟩
  | some t => exact ⟨fun h x e => by cases e; exact (Inn.cons.mp h).1, fun h => Inn.cons.mpr ⟨h t rfl, Inn.nil⟩⟩
theorem negRow_at {l : Row} {p : Pt} : (negRow l).at p ≤ (negRow l).c ↔ l.c ≤ l.at p := by
  unfold Row.at negRow; simp only; rw [dt_neg]; constructor <;> intro h <;> grind
theorem seg_iff {f : List Row} (F : Found f) {l : Row} (hl : ∀ p, Inn f p → l.at p = l.c) {a b : Int} (hab : a ≠ 0 ∨ b ≠ 0) (hx : (l.a : Rat) * b - l.b * a ≠ 0) (p : Pt) : Inn (segRows f l a b) p ↔ Inn f p := by
  unfold segRows
  rw [Inn.append, Inn.append, Inn.endRow, Inn.endRow, Inn.cons, Inn.cons, negRow_at]
  constructor
  · rintro ⟨⟨h1, h2, _⟩, h3, h4⟩
    have hp : l.at p = l.c := Rat.le_antisymm h1 h2
    have up : ∃ q, Inn f q ∧ dt a b p ≤ dt a b q := by
      cases e : boundOf f a b with
      | none => exact bound_none hab F.ok F.pt e _
      | some t =>
        obtain ⟨w, hw, e'⟩ := bound_at hab F.ok F.pt e
        exact ⟨w, hw, by rw [e']; exact h3 t e⟩
    have dn : ∃ q, Inn f q ∧ dt a b q ≤ dt a b p := by
      cases e : boundOf f (-a) (-b) with
      | none =>
        obtain ⟨w, hw, e'⟩ := bound_none (neg_ok hab) F.ok F.pt e (- dt a b p)
        rw [dt_neg] at e'
        exact ⟨w, hw, by grind⟩
      | some t =>
        obtain ⟨w, hw, e'⟩ := bound_at (neg_ok hab) F.ok F.pt e
        have := h4 t e
        rw [dt_neg] at e' this
        exact ⟨w, hw, by grind⟩
    obtain ⟨u, hu, eu⟩ := up
    obtain ⟨w, hw, ew⟩ := dn
    have lu := hl u hu
    have lw := hl w hw
    by_cases he : dt a b u = dt a b w
    · have : p = u := two_forms hx (by unfold Row.at at *; rw [hp, lu]) (by grind)
      rw [this]; exact hu
    · have hne : dt a b u - dt a b w ≠ 0 := by grind
      have hpos : 0 < dt a b u - dt a b w := by grind
      have e : (dt a b p - dt a b w) / (dt a b u - dt a b w) * (dt a b u - dt a b w) = dt a b p - dt a b w := Rat.div_mul_cancel hne
      have t0 : 0 ≤ (dt a b p - dt a b w) / (dt a b u - dt a b w) := by
        rw [Rat.div_def]; exact Rat.mul_nonneg (by grind) (Rat.le_of_lt (Rat.inv_pos.mpr hpos))
      generalize (dt a b p - dt a b w) / (dt a b u - dt a b w) = t at *
      have t1 : t ≤ 1 := by
        apply Classical.byContradiction
        intro hn
        have := Rat.mul_lt_mul_of_pos_right (c := dt a b u - dt a b w) (a := 1) (b := t) (by grind) hpos
        grind
      have hi := hw.between hu t0 t1
      have : p = mv w t (u.1 - w.1, u.2 - w.2) := by
        refine two_forms hx ?_ ?_
        · rw [dt_mv]
          have e2 : dt l.a l.b (u.1 - w.1, u.2 - w.2) = dt l.a l.b u - dt l.a l.b w := by unfold dt; grind
          unfold Row.at at *
          rw [e2, hp, lu, lw]; grind
        · rw [dt_mv]
          have e2 : dt a b (u.1 - w.1, u.2 - w.2) = dt a b u - dt a b w := by unfold dt; grind
          rw [e2, e]; grind
      rw [this]; exact hi
  · intro h
    have := hl p h
    exact ⟨⟨by rw [this]; exact Rat.le_refl, by rw [this]; exact Rat.le_refl, Inn.nil⟩, fun x e => bound_le e h, fun x e => bound_le e h⟩
theorem point_iff (x y : Rat) (p : Pt) : Inn (pointRows x y) p ↔ p = (x, y) := by
  unfold pointRows
  rw [Inn.cons, Inn.cons, Inn.cons, Inn.cons]
  unfold Row.at dt
  simp only
  constructor
  · rintro ⟨h1, h2, h3, h4, _⟩
    apply Prod.ext <;> simp only <;> grind
  · intro e
    subst e
    refine ⟨?_, ?_, ?_, ?_, Inn.nil⟩ <;> grind
theorem dirs_point (x y : Rat) : Dirs (pointRows x y) := by
  refine ⟨fun r hr => ?_, fun r hr => ?_, ?_⟩
  · simp only [pointRows, List.mem_cons, List.not_mem_nil, or_false] at hr
    unfold Row.ok
    rcases hr with rfl | rfl | rfl | rfl <;> (dsimp only; decide)
  · simp only [pointRows, List.mem_cons, List.not_mem_nil, or_false] at hr
    unfold Prim
    rcases hr with rfl | rfl | rfl | rfl <;> (dsimp only; decide)
  · simp [pointRows, SameDir]
theorem dirs_seg {f : List Row} {l : Row} {a b : Int} (ol : l.ok) (pl : Prim l) (pab : Int.gcd a b = 1) (hx : l.a * b - l.b * a ≠ 0) : Dirs (segRows f l a b) := by
  have hab : a ≠ 0 ∨ b ≠ 0 := by
    apply Classical.byContradiction
    intro hn
    have h1 : a = 0 := by omega
    have h2 : b = 0 := by omega
    rw [h1, h2] at pab; cases pab
  have mem : ∀ r, r ∈ segRows f l a b → r = l ∨ r = negRow l ∨ SameDir r ⟨a, b, 0⟩ ∨ SameDir r ⟨-a, -b, 0⟩ := fun r hr => by
    unfold segRows at hr
    rcases List.mem_append.mp hr with hr | hr
    · simp only [List.mem_cons, List.not_mem_nil, or_false] at hr
      exact hr.imp id .inl
    · rcases List.mem_append.mp hr with hr | hr
      · cases h : boundOf f a b with
        | none => rw [h] at hr; cases hr
        | some t => rw [h] at hr; rw [List.mem_singleton.mp hr]; exact .inr (.inr (.inl ⟨rfl, rfl⟩))
      · cases h : boundOf f (-a) (-b) with
        | none => rw [h] at hr; cases hr
        | some t => rw [h] at hr; rw [List.mem_singleton.mp hr]; exact .inr (.inr (.inr ⟨rfl, rfl⟩))
  refine ⟨fun r hr => ?_, fun r hr => ?_, ?_⟩
  · unfold Row.ok at *
    rcases mem r hr with rfl | rfl | ⟨h1, h2⟩ | ⟨h1, h2⟩
    · exact ol
    · exact neg_ok ol
    · simp only at h1 h2; rw [h1, h2]; exact hab
    · simp only at h1 h2; rw [h1, h2]; exact neg_ok hab
  · unfold Prim at *
    rcases mem r hr with rfl | rfl | ⟨h1, h2⟩ | ⟨h1, h2⟩
    · exact pl
    · simp only [negRow, Int.gcd_neg, Int.neg_gcd]; exact pl
    · simp only at h1 h2; rw [h1, h2]; exact pab
    · simp only at h1 h2; rw [h1, h2, Int.gcd_neg, Int.neg_gcd]; exact pab
  · have n1 : ¬ SameDir l (negRow l) := fun h => by unfold SameDir negRow Row.ok at *; simp only at h; omega
    have n2 : ∀ c d : Rat, ¬ SameDir (⟨a, b, c⟩ : Row) ⟨-a, -b, d⟩ := fun c d h => by unfold SameDir at h; simp only at h; omega
    have n3 : ∀ c : Rat, ¬ SameDir l ⟨a, b, c⟩ := fun c h => by
      unfold SameDir at h; simp only at h; rw [h.1, h.2] at hx; exact hx (by grind)
    have n4 : ∀ c : Rat, ¬ SameDir l ⟨-a, -b, c⟩ := fun c h => by
      unfold SameDir at h; simp only at h; rw [h.1, h.2] at hx; exact hx (by grind)
    have n5 : ∀ c : Rat, ¬ SameDir (negRow l) ⟨a, b, c⟩ := fun c h => by
      unfold SameDir negRow at h; simp only at h
      have e1 : l.a = -a := by omega
      have e2 : l.b = -b := by omega
      rw [e1, e2] at hx; exact hx (by grind)
    have n6 : ∀ c : Rat, ¬ SameDir (negRow l) ⟨-a, -b, c⟩ := fun c h => by
      unfold SameDir negRow at h; simp only at h
      have e1 : l.a = a := by omega
      have e2 : l.b = b := by omega
      rw [e1, e2] at hx; exact hx (by grind)
    unfold segRows
    cases h1 : boundOf f a b <;> cases h2 : boundOf f (-a) (-b) <;> simp [endRow, n1, n2, n3, n4, n5, n6]

/-- the two forms that line_rows has -/
structure LineAt (f : List Row) (l : Row) : Prop where
  F : Found f
  mem : l ∈ f
  on : ∀ p, Inn f p → l.at p = l.c
theorem LineAt.cases {f : List Row} {l : Row} (L : LineAt f l) : (∃ x y, (∀ p, Inn f p ↔ p = (x, y)) ∧ lineRows f l = pointRows x y) ∨
    ∃ a b : Int, ((l.b = 0 ∧ a = 0 ∧ b = 1) ∨ (l.b ≠ 0 ∧ a = 1 ∧ b = 0)) ∧ meets (boundOf f a b) (boundOf f (-a) (-b)) = none ∧ lineRows f l = segRows f l a b := by
  have ol := L.F.ok l L.mem
  obtain ⟨z, hz⟩ := L.F.pt
  have one : ∀ {x y : Rat}, (∀ p, Inn f p → p = (x, y)) → ∀ p, Inn f p ↔ p = (x, y) := fun {x y} h p => ⟨h p, fun e => by rw [e, ← h z hz]; exact hz⟩
  unfold lineRows
  by_cases hb : l.b = 0
  · rw [if_pos hb]
    have ha : l.a ≠ 0 := ol.elim id fun q => absurd hb q
    cases h : meets (boundOf f 0 1) (boundOf f 0 (-1)) with
    | some t =>
      left
      refine ⟨_, _, one fun p hp => ?_, rfl⟩
      have h1 := (meets_iff L.F (a := 0) (b := 1) (by decide)).mp h p hp
      have h2 := L.on p hp
      unfold Row.at dt at *
      have hb' : (l.b : Rat) = 0 := by rw [hb]; rfl
      have ha' := ne_cast ha
      have e : l.c / (l.a : Rat) * l.a = l.c := Rat.div_mul_cancel ha'
      apply Prod.ext <;> simp only
      · have : (p.1 - l.c / (l.a : Rat)) * l.a = 0 := by grind
        rcases Rat.mul_eq_zero.mp this with q | q
        · grind
        · exact absurd q ha'
      · grind
    | none => exact .inr ⟨0, 1, .inl ⟨hb, rfl, rfl⟩, h, rfl⟩
  · rw [if_neg hb]
    cases h : meets (boundOf f 1 0) (boundOf f (-1) 0) with
    | some t =>
      left
      refine ⟨_, _, one fun p hp => ?_, rfl⟩
      have h1 := (meets_iff L.F (a := 1) (b := 0) (by decide)).mp h p hp
      have h2 := L.on p hp
      unfold Row.at dt at *
      have hb' := ne_cast hb
      have e : (l.c - (l.a : Rat) * t) / (l.b : Rat) * l.b = l.c - (l.a : Rat) * t := Rat.div_mul_cancel hb'
      have hp1 : p.1 = t := by grind
      apply Prod.ext <;> simp only
      · exact hp1
      · have : (p.2 - (l.c - (l.a : Rat) * t) / (l.b : Rat)) * l.b = 0 := by rw [hp1] at h2; grind
        rcases Rat.mul_eq_zero.mp this with q | q
        · grind
        · exact absurd q hb'
    | none => exact .inr ⟨1, 0, .inr ⟨hb, rfl, rfl⟩, h, rfl⟩
theorem lineX {l : Row} {a b : Int} (ol : l.ok) (h : (l.b = 0 ∧ a = 0 ∧ b = 1) ∨ (l.b ≠ 0 ∧ a = 1 ∧ b = 0)) : l.a * b - l.b * a ≠ 0 ∧ (a ≠ 0 ∨ b ≠ 0) ∧ Int.gcd a b = 1 := by
  rcases h with ⟨h1, h2, h3⟩ | ⟨h1, h2, h3⟩
  · subst h2 h3
    refine ⟨?_, by decide, by decide⟩
    have : l.a ≠ 0 := ol.elim id fun q => absurd h1 q
    grind
  · subst h2 h3
    refine ⟨by grind, by decide, by decide⟩
theorem lineX' {l : Row} {a b : Int} (h : l.a * b - l.b * a ≠ 0) : (l.a : Rat) * b - l.b * a ≠ 0 := by
  rw [← Rat.intCast_mul, ← Rat.intCast_mul, ← Rat.intCast_sub]; exact ne_cast h
theorem LineAt.spec {f : List Row} {l : Row} (L : LineAt f l) : Dirs (lineRows f l) ∧ ∀ p, Inn (lineRows f l) p ↔ Inn f p := by
  rcases L.cases with ⟨x, y, h1, h2⟩ | ⟨a, b, h1, h2, h3⟩
  · rw [h2]
    exact ⟨dirs_point x y, fun p => by rw [point_iff, h1]⟩
  · obtain ⟨x1, x2, x3⟩ := lineX (L.F.ok l L.mem) h1
    rw [h3]
    exact ⟨dirs_seg (L.F.ok l L.mem) (L.F.pr l L.mem) x3 x1, seg_iff L.F L.on x2 (lineX' x1)⟩
/-- two lines through two points are one -/
theorem lines_same {l m : Row} (ol : l.ok) (om : m.ok) (pl : Prim l) (pm : Prim m) {p q : Pt} (hn : p ≠ q) (h1 : l.at p = l.c) (h2 : l.at q = l.c) (h3 : m.at p = m.c) (h4 : m.at q = m.c) : m = l ∨ m = negRow l := by
  have hx : l.a * m.b = l.b * m.a := by
    apply Classical.byContradiction
    intro hne
    refine hn (two_forms (a := l.a) (b := l.b) (c := m.a) (d := m.b) ?_ (h1.trans h2.symm) (h3.trans h4.symm))
    exact lineX' (b := m.b) (a := m.a) (fun z => hne (by omega))
  have hx2 : m.a * l.b = m.b * l.a := by rw [Int.mul_comm, ← hx, Int.mul_comm]
  have s1 : 0 < l.a * l.a + l.b * l.b := by
    have := isq l.a; have := isq l.b
    rcases ol with o | o
    · have : l.a * l.a ≠ 0 := fun z => (Int.mul_eq_zero.mp z).elim o o
      omega
    · have : l.b * l.b ≠ 0 := fun z => (Int.mul_eq_zero.mp z).elim o o
      omega
  have hne : l.a * m.a + l.b * m.b ≠ 0 := fun z => by
    have e1 : (l.a * l.a + l.b * l.b) * m.a = 0 := by grind
    have e2 : (l.a * l.a + l.b * l.b) * m.b = 0 := by grind
    rcases om with o | o
    · exact (Int.mul_eq_zero.mp e1).elim (by omega) o
    · exact (Int.mul_eq_zero.mp e2).elim (by omega) o
  by_cases hs : 0 < l.a * m.a + l.b * m.b
  · left
    obtain ⟨e1, e2⟩ := prim_eq pl pm hx hs
    obtain ⟨a, b, c⟩ := l
    obtain ⟨a', b', c'⟩ := m
    simp only at e1 e2
    subst e1 e2
    have : c = c' := h1.symm.trans (show Row.at ⟨a, b, c⟩ p = c' from h3)
    rw [this]
  · right
    obtain ⟨e1, e2⟩ := prim_eq (a := l.a) (b := l.b) (c := -m.a) (d := -m.b) pl (by rw [Int.gcd_neg, Int.neg_gcd]; exact pm) (by grind) (by grind)
    obtain ⟨a, b, c⟩ := l
    obtain ⟨a', b', c'⟩ := m
    simp only at e1 e2
    subst e1 e2
    have h5 : c = -c' := by
      unfold Row.at at h1 h3
      simp only at h1 h3
      rw [← h1, ← h3, dt_neg]
    unfold negRow
    simp only
    rw [h5]; congr 1 <;> grind
theorem LineAt.ext {f f' : List Row} {l l' : Row} (L : LineAt f l) (L' : LineAt f' l') (e : ∀ p, Inn f p ↔ Inn f' p) : byDir (lineRows f l) = byDir (lineRows f' l') := by
  have be : ∀ a b : Int, (a ≠ 0 ∨ b ≠ 0) → boundOf f a b = boundOf f' a b := fun a b hab => bound_ext hab L.F.ok L'.F.ok L.F.pt e
  have conv : ∀ {f : List Row} {l : Row} (L : LineAt f l) {a b : Int} {x y : Rat}, (a ≠ 0 ∨ b ≠ 0) → meets (boundOf f a b) (boundOf f (-a) (-b)) = none → ¬ ∀ p, Inn f p ↔ p = (x, y) := by
    intro f l L a b x y hab hm h
    have := (meets_iff L.F hab (t := dt a b (x, y))).mpr fun p hp => by rw [(h p).mp hp]
    rw [hm] at this; cases this
  rcases L.cases with ⟨x, y, h1, h2⟩ | ⟨a, b, h1, h2, h3⟩
  · rcases L'.cases with ⟨x', y', h1', h2'⟩ | ⟨a', b', h1', h2', h3'⟩
    · have q := (h1' (x, y)).mp ((e _).mp ((h1 _).mpr rfl))
      cases q
      rw [h2, h2']
    · exact absurd (fun p => (e p).symm.trans (h1 p)) (conv L' (lineX (L'.F.ok l' L'.mem) h1').2.1 h2')
  · rcases L'.cases with ⟨x', y', h1', h2'⟩ | ⟨a', b', h1', h2', h3'⟩
    · exact absurd (fun p => (e p).trans (h1' p)) (conv L (lineX (L.F.ok l L.mem) h1).2.1 h2)
    · obtain ⟨x1, x2, x3⟩ := lineX (L.F.ok l L.mem) h1
      obtain ⟨y1, y2, y3⟩ := lineX (L'.F.ok l' L'.mem) h1'
      -- two different points
      have two : ∃ p q, Inn f p ∧ Inn f q ∧ p ≠ q := by
        apply Classical.byContradiction
        intro hn
        obtain ⟨z, hz⟩ := L.F.pt
        have := (meets_iff L.F x2 (t := dt a b z)).mpr fun p hp => by
          have : p = z := Classical.byContradiction fun q => hn ⟨p, z, hp, hz, q⟩
          rw [this]
        rw [h2] at this; cases this
      obtain ⟨p, q, hp, hq, hne⟩ := two
      have hll := lines_same (L.F.ok l L.mem) (L'.F.ok l' L'.mem) (L.F.pr l L.mem) (L'.F.pr l' L'.mem) hne (L.on p hp) (L.on q hq) (L'.on p ((e p).mp hp)) (L'.on q ((e q).mp hq))
      have hb : (l.b = 0 ↔ l'.b = 0) := by
        rcases hll with z | z
        · rw [z]
        · rw [z]; unfold negRow; simp only; omega
      have hab : a = a' ∧ b = b' := by omega
      obtain ⟨rfl, rfl⟩ := hab
      rw [h3, h3']
      refine byDir_ext (dirs_seg (L.F.ok l L.mem) (L.F.pr l L.mem) x3 x1) (dirs_seg (L'.F.ok l' L'.mem) (L'.F.pr l' L'.mem) y3 y1) fun x => ?_
      unfold segRows
      rw [← be a b x2, ← be (-a) (-b) (neg_ok x2)]
      rcases hll with z | z
      · rw [z]
      · have : negRow (negRow l) = l := by unfold negRow; simp
        rw [z, this]
        simp only [List.mem_append, List.mem_cons, List.not_mem_nil, or_false]
        grind
end Ts

set_option linter.all false
namespace Ts

/-! ### a figure with an area -/
abbrev butRow (f : List Row) (r : Row) : List Row := f.filter fun o => decide (o ≠ r)
theorem mem_but {f : List Row} {r x : Row} : x ∈ butRow f r ↔ x ∈ f ∧ x ≠ r := by simp [butRow, List.mem_filter]
def Needed (f : List Row) (r : Row) : Prop := ∃ q, Inn (butRow f r) q ∧ r.c < r.at q
structure Pruned (f : List Row) : Prop where
  F : Found f
  nd : ∀ r ∈ f, Needed f r
theorem inn_but {f : List Row} {r : Row} (hi : ∀ q, Inn (butRow f r) q → r.at q ≤ r.c) (p : Pt) : Inn (butRow f r) p ↔ Inn f p := by
  constructor
  · intro h x hx
    by_cases e : x = r
    · rw [e]; exact hi p h
    · exact h x (mem_but.mpr ⟨hx, e⟩)
  · intro h x hx
    exact h x (mem_but.mp hx).1
theorem prune_spec : ∀ (rs f : List Row), Found f → (∀ r ∈ f, r ∈ rs ∨ Needed f r) → Pruned (prune f rs) ∧ (∀ p, Inn (prune f rs) p ↔ Inn f p) ∧ ∀ r ∈ prune f rs, r ∈ f
  | [], f, F, h => ⟨⟨F, fun r hr => (h r hr).elim (fun z => nomatch z) id⟩, fun _ => Iff.rfl, fun _ hr => hr⟩
  | r :: rs, f, F, h => by
    have hsub : ∀ x ∈ butRow f r, x ∈ f := fun x hx => (mem_but.mp hx).1
    have hob : Oks (butRow f r) := fun x hx => F.ok x (hsub x hx)
    have hzb : ∃ z, Inn (butRow f r) z := let ⟨z, hz⟩ := F.pt; ⟨z, fun x hx => hz x (hsub x hx)⟩
    rw [prune]
    by_cases hrf : r ∈ f
    · have or := F.ok r hrf
      by_cases h1 : atMost (boundOf (butRow f r) r.a r.b) r.c = true
      · rw [if_pos h1]
        have h1' := (atMost_iff or hob hzb).mp h1
        have F' : Found (butRow f r) := ⟨hob, fun x hx => F.pr x (hsub x hx), hzb, F.nd.filter _⟩
        have ih := prune_spec rs (butRow f r) F' fun x hx => by
          obtain ⟨hx1, hx2⟩ := mem_but.mp hx
          rcases h x hx1 with q | ⟨q, hq, hv⟩
          · exact .inl ((List.mem_cons.mp q).resolve_left hx2)
          · refine .inr ⟨q, fun y hy => ?_, hv⟩
            obtain ⟨hy1, hy2⟩ := mem_but.mp hy
            exact hq y (mem_but.mpr ⟨(mem_but.mp hy1).1, hy2⟩)
        exact ⟨ih.1, fun p => (ih.2.1 p).trans (inn_but h1' p), fun x hx => hsub x (ih.2.2 x hx)⟩
      · rw [if_neg h1]
        have h1' : ¬ ∀ p, Inn (butRow f r) p → dt r.a r.b p ≤ r.c := fun q => h1 ((atMost_iff or hob hzb).mpr q)
        have hn : Needed f r := by
          obtain ⟨p, hp⟩ := Classical.not_forall.mp h1'
          refine ⟨p, Classical.byContradiction fun q => hp fun z => absurd z q, ?_⟩
          exact Rat.not_le.mp fun q => hp fun _ => q
        exact prune_spec rs f F fun x hx => by
          rcases h x hx with q | q
          · rcases List.mem_cons.mp q with rfl | q
            · exact .inr hn
            · exact .inl q
          · exact .inr q
    · have hid : butRow f r = f := List.filter_eq_self.mpr fun x hx => decide_eq_true fun e => hrf (e ▸ hx)
      have hid2 : (f.filter fun o => decide (o ≠ r)) = f := hid
      rw [hid2]
      have hh : ∀ x ∈ f, x ∈ rs ∨ Needed f x := fun x hx => by
        rcases h x hx with q | q
        · rcases List.mem_cons.mp q with rfl | q
          · exact absurd hx hrf
          · exact .inl q
        · exact .inr q
      split
      · exact prune_spec rs f F hh
      · exact prune_spec rs f F hh
theorem Pruned.dirs {f : List Row} (P : Pruned f) : Dirs f := by
  refine ⟨P.F.ok, P.F.pr, P.F.nd.imp_of_mem fun {r s} hr hs hne hd => ?_⟩
  have key : ∀ r s : Row, r ∈ f → s ∈ f → r ≠ s → SameDir r s → r.c ≤ s.c → False := fun r s hr hs hne hd hc => by
    obtain ⟨q, hq, hv⟩ := P.nd s hs
    have := hq r (mem_but.mpr ⟨hr, hne⟩)
    unfold Row.at at *
    rw [hd.1, hd.2] at this
    grind
  rcases Rat.le_total (a := r.c) (b := s.c) with h | h
  · exact key r s hr hs hne hd h
  · exact key s r hs hr (Ne.symm hne) ⟨hd.1.symm, hd.2.symm⟩ h
def Strict (f : List Row) (z : Pt) : Prop := ∀ r ∈ f, r.at z < r.c
theorem mid_at (r : Row) (p q : Pt) : r.at (mv p (1/2) (q.1 - p.1, q.2 - p.2)) = (r.at p + r.at q) / 2 := by
  rw [Row.at_mv]; unfold Row.at dt; grind
theorem strict_some {f : List Row} (F : Found f) (h : ∀ r ∈ f, isLine f r = false) : ∃ z, Inn f z ∧ Strict f z := by
  have key : ∀ rs : List Row, (∀ r ∈ rs, r ∈ f) → ∃ z, Inn f z ∧ Strict rs z := by
    intro rs
    induction rs with
    | nil => intro _; obtain ⟨z, hz⟩ := F.pt; exact ⟨z, hz, fun _ h => nomatch h⟩
    | cons r rs ih =>
      intro hs
      obtain ⟨z, hz, hst⟩ := ih fun x hx => hs x (List.mem_cons_of_mem _ hx)
      have hr := hs r (by simp)
      have hnl : ¬ ∀ p, Inn f p → r.at p = r.c := fun q => by
        have := (isLine_iff F hr).mpr q
        rw [h r hr] at this; cases this
      obtain ⟨p, hp⟩ := Classical.not_forall.mp hnl
      have hp1 : Inn f p := Classical.byContradiction fun q => hp fun z => absurd z q
      have hp2 : r.at p ≠ r.c := fun q => hp fun _ => q
      have hp3 : r.at p < r.c := by have := hp1 r hr; grind
      refine ⟨mv z (1/2) (p.1 - z.1, p.2 - z.2), hz.between hp1 (by grind) (by grind), fun x hx => ?_⟩
      rw [mid_at]
      rcases List.mem_cons.mp hx with rfl | hx
      · have := hz x hr; grind
      · have := hst x hx
        have := hp1 x (hs x (List.mem_cons_of_mem _ hx))
        grind
  exact key f fun _ h => h
theorem Strict.inn {f : List Row} {z : Pt} (h : Strict f z) : Inn f z := fun r hr => Rat.le_of_lt (h r hr)
/-- each needed row of a figure with an area stands in every list of rows for it -/
theorem facet {f g : List Row} (P : Pruned f) (G : Found g) (e : ∀ p, Inn f p ↔ Inn g p) (hz : ∃ z, Strict f z) {r : Row} (hr : r ∈ f) : r ∈ g := by
  obtain ⟨z, hz⟩ := hz
  obtain ⟨q, hq, hv⟩ := P.nd r hr
  obtain ⟨t, t0, t1, hs⟩ := cross (Rat.le_of_lt (hz r hr)) hv
  have ht1 : t < 1 := by
    apply Classical.byContradiction
    intro hn
    have e1 : t = 1 := by grind
    rw [e1, mv_one] at hs
    grind
  -- the point s on the line of r, within the others
  have hso : ∀ x ∈ f, x ≠ r → x.at (mv z t (q.1 - z.1, q.2 - z.2)) < x.c := fun x hx hne => by
    have a1 := hz x hx
    have a2 := hq x (mem_but.mpr ⟨hx, hne⟩)
    rw [Row.at_mv]
    have e2 : x.at (q.1 - z.1, q.2 - z.2) = x.at q - x.at z := by unfold Row.at dt; grind
    rw [e2]
    have b1 := Rat.mul_le_mul_of_nonneg_left a2 t0
    have b2 := Rat.mul_lt_mul_of_pos_left a1 (show 0 < 1 - t by grind)
    grind
  have hrd : 0 < r.at (q.1 - z.1, q.2 - z.2) := by
    have := hz r hr
    have e2 : r.at (q.1 - z.1, q.2 - z.2) = r.at q - r.at z := by unfold Row.at dt; grind
    rw [e2]; grind
  generalize hsd : mv z t (q.1 - z.1, q.2 - z.2) = s at *
  generalize ((q.1 - z.1, q.2 - z.2) : Pt) = d at *
  have hsf : Inn f s := fun x hx => by
    by_cases hxr : x = r
    · rw [hxr, hs]; exact Rat.le_refl
    · exact Rat.le_of_lt (hso x hx hxr)
  have hsg := (e s).mp hsf
  -- a row of g that is tight at s
  have tight : ∃ x ∈ g, 0 < x.at d ∧ x.at s = x.c := by
    rcases shoot g s d hsg with k | ⟨u, hu, hin, x, hx, hxp, hxe⟩
    · have := (e _).mpr (k 1 (by decide)) r hr
      rw [Row.at_mv, hs] at this
      exfalso; grind
    · have := (e _).mpr hin r hr
      rw [Row.at_mv, hs] at this
      have hu0 : u = 0 := by
        apply Classical.byContradiction
        intro hn
        have := Rat.mul_pos (show 0 < u by grind) hrd
        grind
      rw [hu0] at hxe
      refine ⟨x, hx, hxp, ?_⟩
      rw [Row.at_mv] at hxe
      grind
  obtain ⟨x, hx, hxp, hxe⟩ := tight
  -- along the line of r, to both sides
  have along : ∀ v : Pt, r.at v = 0 → x.at v ≤ 0 := fun v hv0 => by
    have : ∃ u, 0 < u ∧ Inn f (mv s u v) := by
      rcases shoot f s v hsf with k | ⟨u, hu, hin, y, hy, hyp, hye⟩
      · exact ⟨1, by decide, k 1 (by decide)⟩
      · refine ⟨u, ?_, hin⟩
        have hne : y ≠ r := fun e => by rw [e, hv0] at hyp; grind
        have := hso y hy hne
        apply Classical.byContradiction
        intro hn
        have hu0 : u = 0 := by grind
        rw [hu0, Row.at_mv] at hye
        grind
    obtain ⟨u, hu, hin⟩ := this
    have := (e _).mp hin x hx
    rw [Row.at_mv, hxe] at this
    apply Classical.byContradiction
    intro hn
    have := Rat.mul_pos hu (show 0 < x.at v by grind)
    grind
  have or := P.F.ok r hr
  have h1 := along (-(r.b : Rat), (r.a : Rat)) (by unfold Row.at dt; grind)
  have h2 := along ((r.b : Rat), -(r.a : Rat)) (by unfold Row.at dt; grind)
  have h3 : (r.a : Rat) * x.b = r.b * x.a := by unfold Row.at dt at h1 h2; grind
  have h3' : r.a * x.b = r.b * x.a := by
    have : ((r.a * x.b : Int) : Rat) = ((r.b * x.a : Int) : Rat) := by rw [Rat.intCast_mul, Rat.intCast_mul]; exact h3
    exact Rat.intCast_inj.mp this
  -- the same side
  have h4 : 0 < r.a * x.a + r.b * x.b := by
    have h5 : (r.at d) * (x.at d) * ((r.a : Rat) * r.a + r.b * r.b) = ((r.a : Rat) * x.a + r.b * x.b) * (r.at d * r.at d) := by
      unfold Row.at dt; grind
    have h6 : (0 : Rat) < (r.a : Rat) * r.a + r.b * r.b := by
      have s1 := sq_nonneg (r.a : Rat)
      have s2 := sq_nonneg (r.b : Rat)
      rcases or with o | o
      · have : (r.a : Rat) * r.a ≠ 0 := fun y => (Rat.mul_eq_zero.mp y).elim (ne_cast o) (ne_cast o)
        grind
      · have : (r.b : Rat) * r.b ≠ 0 := fun y => (Rat.mul_eq_zero.mp y).elim (ne_cast o) (ne_cast o)
        grind
    have h7 := Rat.mul_pos (Rat.mul_pos hrd hxp) h6
    rw [h5] at h7
    have h8 : (0 : Rat) < (r.a : Rat) * x.a + r.b * x.b := by
      apply Classical.byContradiction
      intro hn
      have := Rat.mul_le_mul_of_nonneg_right (Rat.not_lt.mp hn) (sq_nonneg (r.at d))
      grind
    rw [← Rat.intCast_mul, ← Rat.intCast_mul, ← Rat.intCast_add] at h8
    exact Rat.intCast_pos.mp h8
  obtain ⟨e1, e2⟩ := prim_eq (P.F.pr r hr) (G.pr x hx) h3' h4
  have : r = x := by
    obtain ⟨a, b, c⟩ := r
    obtain ⟨a', b', c'⟩ := x
    simp only at e1 e2
    subst e1 e2
    have : c = c' := hs.symm.trans (show Row.at ⟨a, b, c⟩ s = c' from hxe)
    rw [this]
  rw [this]; exact hx
/-- a figure with an area lies in no line -/
theorem no_line {f : List Row} {l : Row} {z : Pt} (hz : Strict f z) (ol : l.ok) (h : ∀ p, Inn f p → l.at p = l.c) : False := by
  have hd : 0 < l.at ((l.a : Rat), (l.b : Rat)) := by
    unfold Row.at dt
    have s1 := sq_nonneg (l.a : Rat)
    have s2 := sq_nonneg (l.b : Rat)
    rcases ol with o | o
    · have : (l.a : Rat) * l.a ≠ 0 := fun y => (Rat.mul_eq_zero.mp y).elim (ne_cast o) (ne_cast o)
      simp only; grind
    · have : (l.b : Rat) * l.b ≠ 0 := fun y => (Rat.mul_eq_zero.mp y).elim (ne_cast o) (ne_cast o)
      simp only; grind
  have hz0 := h z hz.inn
  have : ∃ u, 0 < u ∧ Inn f (mv z u ((l.a : Rat), (l.b : Rat))) := by
    rcases shoot f z ((l.a : Rat), (l.b : Rat)) hz.inn with k | ⟨u, hu, hin, y, hy, hyp, hye⟩
    · exact ⟨1, by decide, k 1 (by decide)⟩
    · refine ⟨u, ?_, hin⟩
      have := hz y hy
      apply Classical.byContradiction
      intro hn
      have hu0 : u = 0 := by grind
      rw [hu0, Row.at_mv] at hye
      grind
  obtain ⟨u, hu, hin⟩ := this
  have := h _ hin
  rw [Row.at_mv, hz0] at this
  have := Rat.mul_pos hu hd
  grind

/-! ### canonical -/
theorem shape_cases {f : List Row} (F : Found f) : (∃ l, LineAt f l ∧ shape f = byDir (lineRows f l)) ∨
    (Pruned (prune f f) ∧ (∀ p, Inn (prune f f) p ↔ Inn f p) ∧ (∃ z, Strict f z ∧ Strict (prune f f) z) ∧ shape f = byDir (prune f f)) := by
  unfold shape
  cases h : f.find? (isLine f) with
  | some l =>
    have hm := List.mem_of_find?_eq_some h
    have hl := List.find?_some h
    exact .inl ⟨l, ⟨F, hm, (isLine_iff F hm).mp hl⟩, rfl⟩
  | none =>
    have hn : ∀ r ∈ f, isLine f r = false := fun r hr => by
      have := List.find?_eq_none.mp h r hr
      simpa using this
    obtain ⟨p1, p2, p3⟩ := prune_spec f f F fun r hr => .inl hr
    obtain ⟨z, hz, hst⟩ := strict_some F hn
    exact .inr ⟨p1, p2, ⟨z, hst, fun r hr => hst r (p3 r hr)⟩, rfl⟩
theorem shape_spec {f : List Row} (F : Found f) : Dirs (shape f) ∧ ∀ p, Inn (shape f) p ↔ Inn f p := by
  have key : ∀ {rs : List Row}, Dirs rs → Dirs (byDir rs) := fun {rs} D => by
    obtain ⟨s, m⟩ := byDir_spec D
    refine ⟨fun r hr => D.ok r ((m r).mp hr), fun r hr => D.pr r ((m r).mp hr), s.imp fun {a b} h hd => ?_⟩
    have e1 : half a = half b := by unfold half; rw [hd.1, hd.2]
    unfold ahead at h
    rw [if_neg (by simp [e1]), hd.1, hd.2] at h
    have := of_decide_eq_true h
    grind
  rcases shape_cases F with ⟨l, L, e⟩ | ⟨P, hp, _, e⟩
  · rw [e]
    exact ⟨key L.spec.1, fun p => (Inn.byDir L.spec.1 p).trans (L.spec.2 p)⟩
  · rw [e]
    exact ⟨key P.dirs, fun p => (Inn.byDir P.dirs p).trans (hp p)⟩
theorem shape_ext {f g : List Row} (F : Found f) (G : Found g) (e : ∀ p, Inn f p ↔ Inn g p) : shape f = shape g := by
  rcases shape_cases F with ⟨l, L, e1⟩ | ⟨P, hp, ⟨z, hz, hz'⟩, e1⟩
  · rcases shape_cases G with ⟨l', L', e2⟩ | ⟨P', hp', ⟨z', hz, hz'⟩, e2⟩
    · rw [e1, e2]; exact L.ext L' e
    · exact (no_line hz (F.ok l L.mem) fun p hp => L.on p ((e p).mpr hp)).elim
  · rcases shape_cases G with ⟨l', L', e2⟩ | ⟨P', hp', ⟨z', hz2, hz2'⟩, e2⟩
    · exact (no_line hz (G.ok l' L'.mem) fun p hp => L'.on p ((e p).mp hp)).elim
    · rw [e1, e2]
      have ee : ∀ p, Inn (prune f f) p ↔ Inn (prune g g) p := fun p => (hp p).trans ((e p).trans (hp' p).symm)
      refine byDir_ext P.dirs P'.dirs fun x => ⟨fun hx => ?_, fun hx => ?_⟩
      · exact facet P P'.F ee ⟨z, hz'⟩ hx
      · exact facet P' P.F (fun p => (ee p).symm) ⟨z', hz2'⟩ hx
theorem canonical_none {rs : List Row} (ho : Oks rs) (h : canonical rs = none) (p : Pt) : ¬ Inn rs p := by
  unfold canonical at h
  split at h
  · rename_i e; exact kept_none ho e p
  · cases h
theorem canonical_some {rs cs : List Row} (ho : Oks rs) (h : canonical rs = some cs) : Dirs cs ∧ (∃ z, Inn cs z) ∧ ∀ p, Inn cs p ↔ Inn rs p := by
  unfold canonical at h
  split at h
  · cases h
  · rename_i f e
    cases h
    obtain ⟨F, hp⟩ := kept_some ho e
    obtain ⟨s1, s2⟩ := shape_spec F
    exact ⟨s1, let ⟨z, hz⟩ := F.pt; ⟨z, (s2 z).mpr hz⟩, fun p => (s2 p).trans (hp p)⟩
/-- THE RULE: the canonical rows depend on the points alone -/
theorem canonical_ext {rs ss : List Row} (ho : Oks rs) (ho' : Oks ss) (e : ∀ p, Inn rs p ↔ Inn ss p) : canonical rs = canonical ss := by
  cases h1 : kept [] (rs.map normal) with
  | none =>
    cases h2 : kept [] (ss.map normal) with
    | none => unfold canonical; rw [h1, h2]
    | some g =>
      obtain ⟨G, hp⟩ := kept_some ho' h2
      obtain ⟨z, hz⟩ := G.pt
      exact absurd ((e z).mpr ((hp z).mp hz)) (kept_none ho h1 z)
  | some f =>
    obtain ⟨F, hp⟩ := kept_some ho h1
    cases h2 : kept [] (ss.map normal) with
    | none =>
      obtain ⟨z, hz⟩ := F.pt
      exact absurd ((e z).mp ((hp z).mp hz)) (kept_none ho' h2 z)
    | some g =>
      obtain ⟨G, hp'⟩ := kept_some ho' h2
      unfold canonical
      rw [h1, h2]
      exact congrArg some (shape_ext F G fun p => (hp p).trans ((e p).trans (hp' p).symm))
end Ts

set_option linter.all false
namespace Ts

/-! ### the hull, by directions -/
section
variable (A B : Pt → Prop) (S : Pt → Prop)
/-- what is below m on both figures is below m on the hull -/
def Held (a b : Rat) : Prop := ∀ m, (∀ p, A p → dt a b p ≤ m) → (∀ p, B p → dt a b p ≤ m) → ∀ x, S x → dt a b x ≤ m
end
section
variable {A B : Pt → Prop} {S : Pt → Prop}
theorem Held.swap {a b : Rat} (h : Held A B S a b) : Held B A S a b := fun m h1 h2 => h m h2 h1
theorem Held.scale {a b k : Rat} (hk : 0 < k) (h : Held A B S a b) : Held A B S (k * a) (k * b) := fun m h1 h2 x hx => by
  have hk0 : k ≠ 0 := by grind
  have e : k * (m / k) = m := by rw [Rat.mul_comm]; exact Rat.div_mul_cancel hk0
  have low : ∀ p : Pt, dt (k * a) (k * b) p ≤ m → dt a b p ≤ m / k := fun p hp => by
    rw [dt_lin] at hp
    apply Classical.byContradiction
    intro hn
    have := Rat.mul_lt_mul_of_pos_left (Rat.not_le.mp hn) hk
    grind
  have := h (m / k) (fun p hp => low p (h1 p hp)) (fun p hp => low p (h2 p hp)) x hx
  rw [dt_lin]
  have := Rat.mul_le_mul_of_nonneg_left this (Rat.le_of_lt hk)
  grind
theorem max_split {P : Rat → Prop} {u v : Rat} (h1 : v ≤ u → P u) (h2 : u ≤ v → P v) : ∃ m, u ≤ m ∧ v ≤ m ∧ P m := by
  rcases Rat.le_total (a := u) (b := v) with h | h
  · exact ⟨v, h, Rat.le_refl, h2 h⟩
  · exact ⟨u, Rat.le_refl, h, h1 h⟩
/-- one side of f: r is a row of the first figure, s of the second -/
theorem side {f1 f2 r1 r2 s1 s2 : Rat} {pA pB : Pt} (hA : A pA) (hB : B pB) (mA : ∀ p, A p → dt f1 f2 p ≤ dt f1 f2 pA) (mB : ∀ p, B p → dt f1 f2 p ≤ dt f1 f2 pB) (hle : dt f1 f2 pB ≤ dt f1 f2 pA)
    (rA : ∀ p, A p → dt r1 r2 p ≤ dt r1 r2 pA) (sB : ∀ p, B p → dt s1 s2 p ≤ dt s1 s2 pB) (hr : Held A B S r1 r2) (hs : Held A B S s1 s2)
    (hn : ∀ g1 g2, pA ≠ pB → dt g1 g2 pA = dt g1 g2 pB → (g1 ≠ 0 ∨ g2 ≠ 0) → Held A B S g1 g2)
    (hc : 0 < (f1 * r2 - f2 * r1) * (f1 * s2 - f2 * s1)) :
    (∀ z, S z → dt f1 f2 z ≤ dt f1 f2 pA) ∨ ∃ x y : Rat, 0 ≤ x ∧ 0 < y ∧ ∀ z, S z → dt (x * f1 + y * r1) (x * f2 + y * r2) z ≤ dt (x * f1 + y * r1) (x * f2 + y * r2) pA := by
  -- the nearer one of r and s
  have near : ∃ x y : Rat, 0 ≤ x ∧ 0 < y ∧ (∀ p, A p → dt (x * f1 + y * r1) (x * f2 + y * r2) p ≤ dt (x * f1 + y * r1) (x * f2 + y * r2) pA) ∧
      (∀ p, B p → dt (x * f1 + y * r1) (x * f2 + y * r2) p ≤ dt (x * f1 + y * r1) (x * f2 + y * r2) pB) ∧ Held A B S (x * f1 + y * r1) (x * f2 + y * r2) := by
    have c1 : f1 * r2 - f2 * r1 ≠ 0 := fun z => by rw [z] at hc; grind
    have c2 : f1 * s2 - f2 * s1 ≠ 0 := fun z => by rw [z] at hc; grind
    -- s = x f + y r
    obtain ⟨x, hx⟩ : ∃ x, x * (f1 * r2 - f2 * r1) = -(r1 * s2 - r2 * s1) := ⟨_, Rat.div_mul_cancel c1⟩
    obtain ⟨y, hy⟩ : ∃ y, y * (f1 * r2 - f2 * r1) = f1 * s2 - f2 * s1 := ⟨_, Rat.div_mul_cancel c1⟩
    have es1 : s1 = x * f1 + y * r1 := by
      have : (s1 - (x * f1 + y * r1)) * (f1 * r2 - f2 * r1) = 0 := by grind
      rcases Rat.mul_eq_zero.mp this with z | z
      · grind
      · exact absurd z c1
    have es2 : s2 = x * f2 + y * r2 := by
      have : (s2 - (x * f2 + y * r2)) * (f1 * r2 - f2 * r1) = 0 := by grind
      rcases Rat.mul_eq_zero.mp this with z | z
      · grind
      · exact absurd z c1
    have hy0 : 0 < y := by
      apply Classical.byContradiction
      intro hneg
      have h1 := Rat.mul_le_mul_of_nonneg_right (Rat.not_lt.mp hneg) (sq_nonneg (f1 * r2 - f2 * r1))
      have h2 : y * ((f1 * r2 - f2 * r1) * (f1 * r2 - f2 * r1)) = (f1 * r2 - f2 * r1) * (f1 * s2 - f2 * s1) := by rw [← hy]; grind
      grind
    by_cases hx0 : 0 ≤ x
    · refine ⟨x, y, hx0, hy0, fun p hp => ?_, fun p hp => ?_, ?_⟩
      · rw [dt_comb, dt_comb]
        have := Rat.mul_le_mul_of_nonneg_left (mA p hp) hx0
        have := Rat.mul_le_mul_of_nonneg_left (rA p hp) (Rat.le_of_lt hy0)
        grind
      · rw [← es1, ← es2]; exact sB p hp
      · rw [← es1, ← es2]; exact hs
    · -- r = u f + w s
      have hx1 : 0 < -x := by grind
      have hyn : y ≠ 0 := by grind
      obtain ⟨w, hw⟩ : ∃ w, w * y = 1 := ⟨1 / y, Rat.div_mul_cancel hyn⟩
      have hw0 : 0 < w := by
        apply Classical.byContradiction
        intro hneg
        have := Rat.mul_le_mul_of_nonneg_right (Rat.not_lt.mp hneg) (Rat.le_of_lt hy0)
        grind
      have er1 : r1 = (w * -x) * f1 + w * s1 := by rw [es1]; grind
      have er2 : r2 = (w * -x) * f2 + w * s2 := by rw [es2]; grind
      refine ⟨0, 1, Rat.le_refl, by decide, ?_⟩
      have z1 : (0 : Rat) * f1 + 1 * r1 = r1 := by grind
      have z2 : (0 : Rat) * f2 + 1 * r2 = r2 := by grind
      rw [z1, z2]
      refine ⟨rA, fun p hp => ?_, hr⟩
      rw [er1, er2, dt_comb, dt_comb]
      have := Rat.mul_le_mul_of_nonneg_left (mB p hp) (Rat.mul_nonneg (Rat.le_of_lt hw0) (Rat.le_of_lt hx1))
      have := Rat.mul_le_mul_of_nonneg_left (sB p hp) (Rat.le_of_lt hw0)
      grind
  obtain ⟨x, y, hx, hy, nA, nB, nH⟩ := near
  have c1 : f1 * r2 - f2 * r1 ≠ 0 := fun z => by rw [z] at hc; grind
  generalize hl1 : x * f1 + y * r1 = l1 at *
  generalize hl2 : x * f2 + y * r2 = l2 at *
  by_cases hd : dt l1 l2 pB ≤ dt l1 l2 pA
  · refine .inr ⟨x, y, hx, hy, fun z hz => ?_⟩
    rw [hl1, hl2]
    exact nH _ nA (fun p hp => Rat.le_trans (nB p hp) hd) z hz
  · -- turn to the line through both corners
    have hX : 0 < dt l1 l2 pB - dt l1 l2 pA := by grind
    have hY : 0 ≤ dt f1 f2 pA - dt f1 f2 pB := by grind
    have hne : pA ≠ pB := fun e => by rw [e] at hX; grind
    generalize hXd : dt l1 l2 pB - dt l1 l2 pA = X at *
    generalize hYd : dt f1 f2 pA - dt f1 f2 pB = Y at *
    have hperp : dt (X * f1 + Y * l1) (X * f2 + Y * l2) pA = dt (X * f1 + Y * l1) (X * f2 + Y * l2) pB := by
      rw [dt_comb, dt_comb, ← hXd, ← hYd]; grind
    have hnz : X * f1 + Y * l1 ≠ 0 ∨ X * f2 + Y * l2 ≠ 0 := by
      apply Classical.byContradiction
      intro hn0
      have q1 : X * f1 + Y * l1 = 0 := Classical.byContradiction fun z => hn0 (.inl z)
      have q2 : X * f2 + Y * l2 = 0 := Classical.byContradiction fun z => hn0 (.inr z)
      -- f and r are independent
      have e1 : (X + Y * x) * (f1 * r2 - f2 * r1) = 0 := by rw [← hl1] at q1; rw [← hl2] at q2; grind
      rcases Rat.mul_eq_zero.mp e1 with z | z
      · have := Rat.mul_nonneg hY hx; grind
      · exact c1 z
    have hheld := hn _ _ hne hperp hnz
    have key : ∀ z, S z → dt (X * f1 + Y * l1) (X * f2 + Y * l2) z ≤ dt (X * f1 + Y * l1) (X * f2 + Y * l2) pA := by
      refine hheld _ (fun p hp => ?_) (fun p hp => ?_)
      · rw [dt_comb, dt_comb]
        have := Rat.mul_le_mul_of_nonneg_left (mA p hp) (Rat.le_of_lt hX)
        have := Rat.mul_le_mul_of_nonneg_left (nA p hp) hY
        grind
      · rw [hperp, dt_comb, dt_comb]
        have := Rat.mul_le_mul_of_nonneg_left (mB p hp) (Rat.le_of_lt hX)
        have := Rat.mul_le_mul_of_nonneg_left (nB p hp) hY
        grind
    by_cases hY0 : Y = 0
    · refine .inl fun z hz => ?_
      have := key z hz
      rw [dt_comb, dt_comb, hY0] at this
      apply Classical.byContradiction
      intro hn0
      have := Rat.mul_lt_mul_of_pos_left (Rat.not_le.mp hn0) hX
      grind
    · have hY1 : 0 < Y := by grind
      refine .inr ⟨X + Y * x, Y * y, ?_, Rat.mul_pos hY1 hy, fun z hz => ?_⟩
      · have := Rat.mul_nonneg hY hx; grind
      · have e1 : (X + Y * x) * f1 + Y * y * r1 = X * f1 + Y * l1 := by rw [← hl1]; grind
        have e2 : (X + Y * x) * f2 + Y * y * r2 = X * f2 + Y * l2 := by rw [← hl2]; grind
        rw [e1, e2]
        exact key z hz
/-- both sides together -/
theorem both {f1 f2 a1 a2 b1 b2 k l : Rat} {pA : Pt} (hk : 0 < k) (hl : 0 < l) (e1 : f1 = k * a1 + l * b1) (e2 : f2 = k * a2 + l * b2)
    (h1 : (∀ z, S z → dt f1 f2 z ≤ dt f1 f2 pA) ∨ ∃ x y : Rat, 0 ≤ x ∧ 0 < y ∧ ∀ z, S z → dt (x * f1 + y * a1) (x * f2 + y * a2) z ≤ dt (x * f1 + y * a1) (x * f2 + y * a2) pA)
    (h2 : (∀ z, S z → dt f1 f2 z ≤ dt f1 f2 pA) ∨ ∃ x y : Rat, 0 ≤ x ∧ 0 < y ∧ ∀ z, S z → dt (x * f1 + y * b1) (x * f2 + y * b2) z ≤ dt (x * f1 + y * b1) (x * f2 + y * b2) pA) :
    ∀ z, S z → dt f1 f2 z ≤ dt f1 f2 pA := by
  rcases h1 with h1 | ⟨x, y, hx, hy, h1⟩
  · exact h1
  rcases h2 with h2 | ⟨u, w, hu, hw, h2⟩
  · exact h2
  intro z hz
  have q1 := h1 z hz
  have q2 := h2 z hz
  rw [dt_comb, dt_comb] at q1 q2
  have ef : ∀ p, dt f1 f2 p = k * dt a1 a2 p + l * dt b1 b2 p := fun p => by
    have := dt_comb k l a1 a2 b1 b2 p
    rw [← e1, ← e2] at this; exact this
  -- k w (first) + l y (second)
  have p1 := Rat.mul_le_mul_of_nonneg_left q1 (Rat.le_of_lt (Rat.mul_pos hk hw))
  have p2 := Rat.mul_le_mul_of_nonneg_left q2 (Rat.le_of_lt (Rat.mul_pos hl hy))
  have n1 := Rat.mul_nonneg (Rat.mul_nonneg (Rat.le_of_lt hk) (Rat.le_of_lt hw)) hx
  have n2 := Rat.mul_nonneg (Rat.mul_nonneg (Rat.le_of_lt hl) (Rat.le_of_lt hy)) hu
  have n3 := Rat.mul_pos hy hw
  have fz := ef z
  have fp := ef pA
  generalize dt f1 f2 z = Fz at *
  generalize dt f1 f2 pA = Fp at *
  generalize dt a1 a2 z = Az at *
  generalize dt a1 a2 pA = Ap at *
  generalize dt b1 b2 z = Bz at *
  generalize dt b1 b2 pA = Bp at *
  apply Classical.byContradiction
  intro hn
  have hT : 0 < k * w * x + l * y * u + y * w := by grind
  have h3 := Rat.mul_lt_mul_of_pos_left (Rat.not_le.mp hn) hT
  have h4 : (k * w * x + l * y * u + y * w) * Fz = k * w * (x * Fz + y * Az) + l * y * (u * Fz + w * Bz) := by rw [fz]; grind
  have h5 : (k * w * x + l * y * u + y * w) * Fp = k * w * (x * Fp + y * Ap) + l * y * (u * Fp + w * Bp) := by rw [fp]; grind
  rw [h4, h5] at h3
  grind
end
end Ts

set_option linter.all false
namespace Ts

/-! ### corners -/
def cornerPt (r s : Row) : Pt := (((s.b : Rat) * r.c - (r.b : Rat) * s.c) / ((turn r s : Int) : Rat), ((r.a : Rat) * s.c - (s.a : Rat) * r.c) / ((turn r s : Int) : Rat))
def keepsPt (rs : List Row) (p : Pt) : Bool := rs.all fun r => !decide (r.c < r.at p)
def cornerStep (rs : List Row) (r : Row) (found : List Pt) (s : Row) : List Pt :=
  if turn r s ≠ 0 then (if keepsPt rs (cornerPt r s) = true ∧ cornerPt r s ∉ found then found ++ [cornerPt r s] else found) else found
def cornersFrom (rs pre : List Row) (found : List Pt) : List Row → List Pt
  | [] => found
  | r :: rest => cornersFrom rs (pre ++ [r]) (pre.foldl (cornerStep rs r) found) rest
def before (p q : Pt) : Bool := if p.1 ≠ q.1 then decide (p.1 < q.1) else decide (p.2 < q.2)
def insPlace (p : Pt) : List Pt → List Pt
  | [] => [p]
  | x :: xs => if before x p = true then x :: insPlace p xs else p :: x :: xs
def byPlace (ps : List Pt) : List Pt := ps.foldl (fun f p => insPlace p f) []
def cornersOf (rs : List Row) : List Pt := byPlace (cornersFrom rs [] [] rs)

theorem keepsPt_iff {rs : List Row} {p : Pt} : keepsPt rs p = true ↔ Inn rs p := by
  unfold keepsPt Inn
  rw [List.all_eq_true]
  refine forall_congr' fun r => forall_congr' fun _ => ?_
  simp [Rat.not_lt]
theorem mem_insPlace {p x : Pt} : ∀ {l : List Pt}, x ∈ insPlace p l ↔ x = p ∨ x ∈ l
  | [] => by simp [insPlace]
  | y :: l => by
    unfold insPlace
    split
    · simp only [List.mem_cons, mem_insPlace (l := l)]; grind
    · simp only [List.mem_cons]
theorem mem_byPlace {x : Pt} (ps : List Pt) : x ∈ byPlace ps ↔ x ∈ ps := by
  have : ∀ (ps f : List Pt), x ∈ ps.foldl (fun f p => insPlace p f) f ↔ x ∈ f ∨ x ∈ ps := by
    intro ps
    induction ps with
    | nil => intro f; simp
    | cons p ps ih => intro f; rw [List.foldl_cons, ih, mem_insPlace, List.mem_cons]; grind
  rw [byPlace, this]; simp
theorem mem_cornerStep {rs : List Row} {r s : Row} {found : List Pt} {x : Pt} : x ∈ cornerStep rs r found s ↔ x ∈ found ∨ (turn r s ≠ 0 ∧ Inn rs x ∧ x = cornerPt r s) := by
  unfold cornerStep
  by_cases h1 : turn r s ≠ 0
  · rw [if_pos h1]
    by_cases h2 : keepsPt rs (cornerPt r s) = true ∧ cornerPt r s ∉ found
    · rw [if_pos h2, List.mem_append, List.mem_singleton]
      have := keepsPt_iff.mp h2.1
      constructor
      · rintro (h | h)
        · exact .inl h
        · exact .inr ⟨h1, by rw [h]; exact this, h⟩
      · rintro (h | ⟨_, _, h⟩)
        · exact .inl h
        · exact .inr h
    · rw [if_neg h2]
      constructor
      · exact .inl
      · rintro (h | ⟨_, h, e⟩)
        · exact h
        · rw [e] at h ⊢
          exact Classical.byContradiction fun q => h2 ⟨keepsPt_iff.mpr h, q⟩
  · rw [if_neg h1]
    constructor
    · exact .inl
    · rintro (h | ⟨h, _⟩)
      · exact h
      · exact absurd h h1
theorem mem_cornerFold {rs : List Row} {r : Row} {x : Pt} : ∀ (pre : List Row) (found : List Pt), x ∈ pre.foldl (cornerStep rs r) found ↔ x ∈ found ∨ ∃ s ∈ pre, turn r s ≠ 0 ∧ Inn rs x ∧ x = cornerPt r s
  | [], found => by simp
  | s :: pre, found => by
    rw [List.foldl_cons, mem_cornerFold pre, mem_cornerStep]
    simp only [List.mem_cons]
    grind
theorem mem_cornersFrom {rs : List Row} {x : Pt} : ∀ (l pre : List Row) (found : List Pt), x ∈ cornersFrom rs pre found l → x ∈ found ∨ Inn rs x
  | [], pre, found, h => .inl h
  | r :: l, pre, found, h => by
    rcases mem_cornersFrom l _ _ h with h | h
    · rcases (mem_cornerFold pre found).mp h with h | ⟨s, _, _, h, _⟩
      · exact .inl h
      · exact .inr h
    · exact .inr h
theorem cornersFrom_mono {rs : List Row} {x : Pt} : ∀ (l pre : List Row) (found : List Pt), x ∈ found → x ∈ cornersFrom rs pre found l
  | [], pre, found, h => h
  | r :: l, pre, found, h => cornersFrom_mono l _ _ ((mem_cornerFold pre found).mpr (.inl h))
theorem cornersFrom_pre {rs : List Row} {x : Pt} {r s : Row} (ht : turn r s ≠ 0) (hi : Inn rs x) (e : x = cornerPt r s) : ∀ (l pre : List Row) (found : List Pt), r ∈ l → s ∈ pre → x ∈ cornersFrom rs pre found l
  | y :: l, pre, found, h, hs => by
    rcases List.mem_cons.mp h with rfl | h
    · exact cornersFrom_mono l _ _ ((mem_cornerFold pre found).mpr (.inr ⟨s, hs, ht, hi, e⟩))
    · exact cornersFrom_pre ht hi e l _ _ h (List.mem_append_left _ hs)
theorem cornersFrom_pair {rs : List Row} {x : Pt} {r s : Row} (ht : turn r s ≠ 0) (hi : Inn rs x) (e : x = cornerPt r s) (e' : x = cornerPt s r) : ∀ (l pre : List Row) (found : List Pt), r ∈ l → s ∈ l → x ∈ cornersFrom rs pre found l
  | y :: l, pre, found, h, hs => by
    have ht' : turn s r ≠ 0 := fun z => ht (by unfold turn at *; grind)
    rcases List.mem_cons.mp h with h1 | h3
    · rcases List.mem_cons.mp hs with h2 | h4
      · rw [h1, h2] at ht; exact absurd (by unfold turn; grind) ht
      · subst h1
        exact cornersFrom_pre ht' hi e' l _ _ h4 (by simp)
    · rcases List.mem_cons.mp hs with h2 | h4
      · subst h2
        exact cornersFrom_pre ht hi e l _ _ h3 (by simp)
      · exact cornersFrom_pair ht hi e e' l _ _ h3 h4
theorem turnX {r s : Row} (h : turn r s ≠ 0) : (r.a : Rat) * s.b - r.b * s.a ≠ 0 := by
  rw [← Rat.intCast_mul, ← Rat.intCast_mul, ← Rat.intCast_sub]; exact ne_cast h
theorem corner_eq {r s : Row} (ht : turn r s ≠ 0) {p : Pt} (h1 : r.at p = r.c) (h2 : s.at p = s.c) : p = cornerPt r s := by
  have hx := turnX ht
  have eT : ((turn r s : Int) : Rat) = r.a * s.b - r.b * s.a := by unfold turn; rw [Rat.intCast_sub, Rat.intCast_mul, Rat.intCast_mul]
  unfold cornerPt
  rw [eT]
  generalize hT : (r.a : Rat) * s.b - r.b * s.a = T at *
  have e1 : p.1 * T = (s.b : Rat) * r.c - (r.b : Rat) * s.c := by unfold Row.at dt at h1 h2; rw [← hT, ← h1, ← h2]; grind
  have e2 : p.2 * T = (r.a : Rat) * s.c - (s.a : Rat) * r.c := by unfold Row.at dt at h1 h2; rw [← hT, ← h1, ← h2]; grind
  rw [← e1, ← e2, Rat.mul_div_cancel hx, Rat.mul_div_cancel hx]
theorem corner_mem {rs : List Row} {r s : Row} (hr : r ∈ rs) (hs : s ∈ rs) (ht : turn r s ≠ 0) {p : Pt} (hp : Inn rs p) (h1 : r.at p = r.c) (h2 : s.at p = s.c) : p ∈ cornersOf rs := by
  unfold cornersOf
  rw [mem_byPlace]
  exact cornersFrom_pair ht hp (corner_eq ht h1 h2) (corner_eq (fun z => ht (by unfold turn at *; grind)) h2 h1) rs [] [] hr hs
theorem corner_inn {rs : List Row} {p : Pt} (h : p ∈ cornersOf rs) : Inn rs p := by
  unfold cornersOf at h
  rw [mem_byPlace] at h
  exact (mem_cornersFrom rs [] [] h).elim (fun z => nomatch z) id

theorem num_eq (q : Rat) : (q.num : Rat) = q * (q.den : Rat) := by
  have h : (q.num : Rat) / ((q.den : Int) : Rat) = q := by rw [← Rat.divInt_eq_div]; exact Rat.num_divInt_den q
  have hd : ((q.den : Int) : Rat) ≠ 0 := ne_cast (by have := q.den_nz; omega)
  have h2 : (q.num : Rat) / ((q.den : Int) : Rat) * ((q.den : Int) : Rat) = q.num := Rat.div_mul_cancel hd
  rw [h] at h2
  rw [← h2, Rat.intCast_natCast]
/-! ### the directions of a hull -/
abbrev Dir := Int × Int
def addDir (found : List Dir) (d : Dir) : List Dir := if d ∈ found then found else found ++ [d]
def rowDirs (found : List Dir) (rs : List Row) : List Dir := rs.foldl (fun f r => addDir f (r.a, r.b)) found
def normA (p q : Pt) : Int := (q.2 - p.2).num * ((q.1 - p.1).den : Int)
def normB (p q : Pt) : Int := -(q.1 - p.1).num * ((q.2 - p.2).den : Int)
def pairDirs (found : List Dir) (p q : Pt) : List Dir :=
  if normA p q ≠ 0 ∨ normB p q ≠ 0 then
    addDir (addDir found (normA p q / (Int.gcd (normA p q) (normB p q) : Int), normB p q / (Int.gcd (normA p q) (normB p q) : Int)))
      (-(normA p q) / (Int.gcd (normA p q) (normB p q) : Int), -(normB p q) / (Int.gcd (normA p q) (normB p q) : Int))
  else found
def cornerDirs (found : List Dir) (ps qs : List Pt) : List Dir := ps.foldl (fun f p => qs.foldl (fun f q => pairDirs f p q) f) found
def directionsOf (one other : List Row) : List Dir := cornerDirs (rowDirs (rowDirs [] one) other) (cornersOf one) (cornersOf other)
def gmax (u v : Rat) : Rat := if u < v then v else u
def hullRow (one other : List Row) (d : Dir) : Option Row := match boundOf one d.1 d.2, boundOf other d.1 d.2 with
  | some u, some v => some ⟨d.1, d.2, gmax u v⟩
  | _, _ => none
def hullRows (one other : List Row) : List Row := (directionsOf one other).filterMap (hullRow one other)

theorem mem_addDir {f : List Dir} {d x : Dir} : x ∈ addDir f d ↔ x ∈ f ∨ x = d := by
  unfold addDir
  split
  · rename_i h
    constructor
    · exact .inl
    · rintro (q | q)
      · exact q
      · rw [q]; exact h
  · rw [List.mem_append, List.mem_singleton]
theorem mem_rowDirs {x : Dir} : ∀ (rs : List Row) (f : List Dir), x ∈ rowDirs f rs ↔ x ∈ f ∨ ∃ r ∈ rs, x = (r.a, r.b)
  | [], f => by simp [rowDirs]
  | r :: rs, f => by
    have := mem_rowDirs (x := x) rs (addDir f (r.a, r.b))
    unfold rowDirs at *
    rw [List.foldl_cons, this, mem_addDir]
    simp only [List.mem_cons]
    grind
/-- the two ways of a pair of corners -/
def IsWay (p q : Pt) (x : Dir) : Prop := (normA p q ≠ 0 ∨ normB p q ≠ 0) ∧
  (x = (normA p q / (Int.gcd (normA p q) (normB p q) : Int), normB p q / (Int.gcd (normA p q) (normB p q) : Int)) ∨
    x = (-(normA p q) / (Int.gcd (normA p q) (normB p q) : Int), -(normB p q) / (Int.gcd (normA p q) (normB p q) : Int)))
theorem mem_pairDirs {f : List Dir} {p q : Pt} {x : Dir} : x ∈ pairDirs f p q ↔ x ∈ f ∨ IsWay p q x := by
  unfold pairDirs IsWay
  split
  · rename_i h; rw [mem_addDir, mem_addDir]; grind
  · rename_i h
    constructor
    · exact .inl
    · rintro (z | z)
      · exact z
      · exact absurd z.1 h
theorem mem_cornerDirs1 {p : Pt} {x : Dir} : ∀ (qs : List Pt) (f : List Dir), x ∈ qs.foldl (fun f q => pairDirs f p q) f ↔ x ∈ f ∨ ∃ q ∈ qs, IsWay p q x
  | [], f => by simp
  | q :: qs, f => by
    rw [List.foldl_cons, mem_cornerDirs1 qs, mem_pairDirs]
    simp only [List.mem_cons]
    grind
theorem mem_cornerDirs {x : Dir} {qs : List Pt} : ∀ (ps : List Pt) (f : List Dir), x ∈ cornerDirs f ps qs ↔ x ∈ f ∨ ∃ p ∈ ps, ∃ q ∈ qs, IsWay p q x
  | [], f => by simp [cornerDirs]
  | p :: ps, f => by
    have := mem_cornerDirs (x := x) (qs := qs) ps (qs.foldl (fun f q => pairDirs f p q) f)
    unfold cornerDirs at *
    rw [List.foldl_cons, this, mem_cornerDirs1]
    simp only [List.mem_cons]
    grind
theorem mem_directions {one other : List Row} {x : Dir} : x ∈ directionsOf one other ↔ (∃ r ∈ one ++ other, x = (r.a, r.b)) ∨ ∃ p ∈ cornersOf one, ∃ q ∈ cornersOf other, IsWay p q x := by
  unfold directionsOf
  rw [mem_cornerDirs, mem_rowDirs, mem_rowDirs]
  simp only [List.mem_append]
  constructor
  · rintro (((h | ⟨r, h, e⟩) | ⟨r, h, e⟩) | h)
    · cases h
    · exact .inl ⟨r, .inl h, e⟩
    · exact .inl ⟨r, .inr h, e⟩
    · exact .inr h
  · rintro (⟨r, h | h, e⟩ | h)
    · exact .inl (.inl (.inr ⟨r, h, e⟩))
    · exact .inl (.inr ⟨r, h, e⟩)
    · exact .inr h
theorem way_ok {p q : Pt} {x : Dir} (h : IsWay p q x) : x.1 ≠ 0 ∨ x.2 ≠ 0 := by
  obtain ⟨h0, h⟩ := h
  have hg0 : Int.gcd (normA p q) (normB p q) ≠ 0 := fun z => by rw [Int.gcd_eq_zero_iff] at z; omega
  have d1 : (Int.gcd (normA p q) (normB p q) : Int) ∣ normA p q := Int.gcd_dvd_left ..
  have d2 : (Int.gcd (normA p q) (normB p q) : Int) ∣ normB p q := Int.gcd_dvd_right ..
  have e1 := Int.mul_ediv_cancel' d1
  have e2 := Int.mul_ediv_cancel' d2
  have e3 := Int.mul_ediv_cancel' ((Int.dvd_neg).mpr d1)
  have e4 := Int.mul_ediv_cancel' ((Int.dvd_neg).mpr d2)
  rcases h with h | h
  · rw [h]; simp only
    apply Classical.byContradiction
    intro hn
    have q1 : normA p q / (Int.gcd (normA p q) (normB p q) : Int) = 0 := by omega
    have q2 : normB p q / (Int.gcd (normA p q) (normB p q) : Int) = 0 := by omega
    rw [q1] at e1; rw [q2] at e2
    omega
  · rw [h]; simp only
    apply Classical.byContradiction
    intro hn
    have q1 : -(normA p q) / (Int.gcd (normA p q) (normB p q) : Int) = 0 := by omega
    have q2 : -(normB p q) / (Int.gcd (normA p q) (normB p q) : Int) = 0 := by omega
    rw [q1] at e3; rw [q2] at e4
    omega
theorem dirs_ok {one other : List Row} (h1 : Oks one) (h2 : Oks other) {x : Dir} (h : x ∈ directionsOf one other) : x.1 ≠ 0 ∨ x.2 ≠ 0 := by
  rcases mem_directions.mp h with ⟨r, hr, e⟩ | ⟨p, _, q, _, w⟩
  · rw [e]
    rcases List.mem_append.mp hr with hr | hr
    · exact h1 r hr
    · exact h2 r hr
  · exact way_ok w
theorem mem_hullRows {one other : List Row} {r : Row} : r ∈ hullRows one other ↔ ∃ d ∈ directionsOf one other, ∃ u v, boundOf one d.1 d.2 = some u ∧ boundOf other d.1 d.2 = some v ∧ r = ⟨d.1, d.2, gmax u v⟩ := by
  unfold hullRows
  rw [List.mem_filterMap]
  refine exists_congr fun d => and_congr_right fun _ => ?_
  unfold hullRow
  cases boundOf one d.1 d.2 <;> cases boundOf other d.1 d.2 <;> simp <;> grind
theorem hull_ok {one other : List Row} (h1 : Oks one) (h2 : Oks other) : Oks (hullRows one other) := fun r hr => by
  obtain ⟨d, hd, u, v, _, _, rfl⟩ := mem_hullRows.mp hr
  exact dirs_ok h1 h2 hd
theorem gmax_le {u v m : Rat} (h1 : u ≤ m) (h2 : v ≤ m) : gmax u v ≤ m := by unfold gmax; split <;> assumption
theorem le_gmax_l (u v : Rat) : u ≤ gmax u v := by
  unfold gmax; split
  · rename_i h; exact Rat.le_of_lt h
  · exact Rat.le_refl
theorem le_gmax_r (u v : Rat) : v ≤ gmax u v := by
  unfold gmax; split
  · exact Rat.le_refl
  · rename_i h; exact Rat.not_lt.mp h
/-- both figures lie in the hull -/
theorem hull_sup {A B : List Row} {p : Pt} (h : Inn A p ∨ Inn B p) : Inn (hullRows A B) p := fun r hr => by
  obtain ⟨d, hd, u, v, e1, e2, rfl⟩ := mem_hullRows.mp hr
  rcases h with h | h
  · exact Rat.le_trans (bound_le e1 h) (le_gmax_l u v)
  · exact Rat.le_trans (bound_le e2 h) (le_gmax_r u v)
theorem held_dir {A B : List Row} (oA : Oks A) (oB : Oks B) (zA : ∃ z, Inn A z) (zB : ∃ z, Inn B z) {d : Dir} (hd : d ∈ directionsOf A B) : Held (Inn A) (Inn B) (Inn (hullRows A B)) d.1 d.2 := fun m hA hB x hx => by
  have ok := dirs_ok oA oB hd
  cases e1 : boundOf A d.1 d.2 with
  | none =>
    obtain ⟨w, hw, q⟩ := bound_none ok oA zA e1 (m + 1)
    have := hA w hw
    exfalso; grind
  | some u =>
    cases e2 : boundOf B d.1 d.2 with
    | none =>
      obtain ⟨w, hw, q⟩ := bound_none ok oB zB e2 (m + 1)
      have := hB w hw
      exfalso; grind
    | some v =>
      obtain ⟨w, hw, q⟩ := bound_at ok oA zA e1
      obtain ⟨w', hw', q'⟩ := bound_at ok oB zB e2
      have h1 := hA w hw
      have h2 := hB w' hw'
      have h3 := hx ⟨d.1, d.2, gmax u v⟩ (mem_hullRows.mpr ⟨d, hd, u, v, e1, e2, rfl⟩)
      exact Rat.le_trans h3 (gmax_le (by grind) (by grind))
/-- a form that is equal at two corners -/
theorem held_way {A B : List Row} (oA : Oks A) (oB : Oks B) (zA : ∃ z, Inn A z) (zB : ∃ z, Inn B z) {p q : Pt} (hp : p ∈ cornersOf A) (hq : q ∈ cornersOf B) (hne : p ≠ q) {g1 g2 : Rat} (hg : dt g1 g2 p = dt g1 g2 q) (h0 : g1 ≠ 0 ∨ g2 ≠ 0) :
    Held (Inn A) (Inn B) (Inn (hullRows A B)) g1 g2 := by
  -- (normA, normB) is at right angles to q - p
  have n1 : (q.2 - p.2).num = (q.2 - p.2) * ((q.2 - p.2).den : Rat) := num_eq _
  have n2 : (q.1 - p.1).num = (q.1 - p.1) * ((q.1 - p.1).den : Rat) := num_eq _
  have d1 : ((q.2 - p.2).den : Rat) ≠ 0 := by have := (q.2 - p.2).den_nz; exact fun z => this (by exact_mod_cast z)
  have d2 : ((q.1 - p.1).den : Rat) ≠ 0 := by have := (q.1 - p.1).den_nz; exact fun z => this (by exact_mod_cast z)
  have eA : ((normA p q : Int) : Rat) = (q.2 - p.2) * (((q.2 - p.2).den : Rat) * ((q.1 - p.1).den : Rat)) := by
    unfold normA; rw [Rat.intCast_mul, n1, Rat.intCast_natCast]; grind
  have eB : ((normB p q : Int) : Rat) = -(q.1 - p.1) * (((q.2 - p.2).den : Rat) * ((q.1 - p.1).den : Rat)) := by
    unfold normB; rw [Rat.intCast_mul, Rat.intCast_neg, n2, Rat.intCast_natCast]; grind
  have hD : (((q.2 - p.2).den : Rat) * ((q.1 - p.1).den : Rat)) ≠ 0 := fun z => (Rat.mul_eq_zero.mp z).elim d1 d2
  generalize (((q.2 - p.2).den : Rat) * ((q.1 - p.1).den : Rat)) = D at *
  have hw : normA p q ≠ 0 ∨ normB p q ≠ 0 := by
    apply Classical.byContradiction
    intro hn
    have q1 : normA p q = 0 := Classical.byContradiction fun z => hn (.inl z)
    have q2 : normB p q = 0 := Classical.byContradiction fun z => hn (.inr z)
    rw [q1] at eA; rw [q2] at eB
    have z1 : (q.2 - p.2) * D = 0 := eA.symm
    have z2 : (q.1 - p.1) * D = 0 := by have : ((0 : Int) : Rat) = 0 := rfl; grind
    refine hne (Prod.ext ?_ ?_)
    · rcases Rat.mul_eq_zero.mp z2 with z | z
      · grind
      · exact absurd z hD
    · rcases Rat.mul_eq_zero.mp z1 with z | z
      · grind
      · exact absurd z hD
  have hg0 : Int.gcd (normA p q) (normB p q) ≠ 0 := fun z => by rw [Int.gcd_eq_zero_iff] at z; omega
  have dv1 : (Int.gcd (normA p q) (normB p q) : Int) ∣ normA p q := Int.gcd_dvd_left ..
  have dv2 : (Int.gcd (normA p q) (normB p q) : Int) ∣ normB p q := Int.gcd_dvd_right ..
  have w1 : (normA p q / (Int.gcd (normA p q) (normB p q) : Int), normB p q / (Int.gcd (normA p q) (normB p q) : Int)) ∈ directionsOf A B := mem_directions.mpr (.inr ⟨p, hp, q, hq, hw, .inl rfl⟩)
  have w2 : (-(normA p q) / (Int.gcd (normA p q) (normB p q) : Int), -(normB p q) / (Int.gcd (normA p q) (normB p q) : Int)) ∈ directionsOf A B := mem_directions.mpr (.inr ⟨p, hp, q, hq, hw, .inr rfl⟩)
  have e1 := Int.mul_ediv_cancel' dv1
  have e2 := Int.mul_ediv_cancel' dv2
  have e3 : -(normA p q) / (Int.gcd (normA p q) (normB p q) : Int) = -(normA p q / (Int.gcd (normA p q) (normB p q) : Int)) := Int.neg_ediv_of_dvd dv1
  have e4 : -(normB p q) / (Int.gcd (normA p q) (normB p q) : Int) = -(normB p q / (Int.gcd (normA p q) (normB p q) : Int)) := Int.neg_ediv_of_dvd dv2
  rw [e3, e4] at w2
  generalize normA p q / (Int.gcd (normA p q) (normB p q) : Int) = c at *
  generalize normB p q / (Int.gcd (normA p q) (normB p q) : Int) = e at *
  have f1 : ((Int.gcd (normA p q) (normB p q) : Int) : Rat) * c = normA p q := by rw [← Rat.intCast_mul, e1]
  have f2 : ((Int.gcd (normA p q) (normB p q) : Int) : Rat) * e = normB p q := by rw [← Rat.intCast_mul, e2]
  have hG : ((Int.gcd (normA p q) (normB p q) : Int) : Rat) ≠ 0 := ne_cast (by omega)
  generalize ((Int.gcd (normA p q) (normB p q) : Int) : Rat) = G at *
  -- g1 e = g2 c
  have par : g1 * e = g2 * c := by
    have h3 : (g1 * normB p q - g2 * normA p q) = 0 := by rw [eA, eB]; unfold dt at hg; grind
    have h4 : (g1 * e - g2 * c) * G = 0 := by rw [← f1, ← f2] at h3; grind
    rcases Rat.mul_eq_zero.mp h4 with z | z
    · grind
    · exact absurd z hG
  have hce : c ≠ 0 ∨ e ≠ 0 := by
    apply Classical.byContradiction
    intro hn
    have q1 : c = 0 := Classical.byContradiction fun z => hn (.inl z)
    have q2 : e = 0 := Classical.byContradiction fun z => hn (.inr z)
    rw [q1] at e1; rw [q2] at e2
    omega
  have hk : ∃ k : Rat, g1 = k * c ∧ g2 = k * e := by
    rcases hce with o | o
    · have o' := ne_cast o
      have q : g1 / c * c = g1 := Rat.div_mul_cancel o'
      refine ⟨g1 / c, q.symm, ?_⟩
      have : (g2 - g1 / c * e) * c = 0 := by grind
      rcases Rat.mul_eq_zero.mp this with z | z
      · grind
      · exact absurd z o'
    · have o' := ne_cast o
      have q : g2 / e * e = g2 := Rat.div_mul_cancel o'
      refine ⟨g2 / e, ?_, q.symm⟩
      have : (g1 - g2 / e * c) * e = 0 := by grind
      rcases Rat.mul_eq_zero.mp this with z | z
      · grind
      · exact absurd z o'
  obtain ⟨k, rfl, rfl⟩ := hk
  have hk0 : k ≠ 0 := fun z => by rw [z] at h0; grind
  by_cases hkp : 0 < k
  · exact (held_dir oA oB zA zB w1).scale hkp
  · have := (held_dir oA oB zA zB w2).scale (show 0 < -k by grind)
    rw [Rat.intCast_neg, Rat.intCast_neg] at this
    have z1 : -k * -(c : Rat) = k * c := by grind
    have z2 : -k * -(e : Rat) = k * e := by grind
    rw [z1, z2] at this
    exact this
end Ts

set_option linter.all false
namespace Ts

/-- what lies below m on both figures lies below m on the hull's rows -/
theorem hull_core {A B : List Row} (oA : Oks A) (oB : Oks B) (zA : ∃ z, Inn A z) (zB : ∃ z, Inn B z) {f1 f2 : Rat} {S : Pt → Prop} {pA pB : Pt}
    {r1 r2 : Row} {k1 k2 : Rat} (hr1 : r1 ∈ A) (hr2 : r2 ∈ A) (hk1 : 0 < k1) (hk2 : 0 < k2) (eA1 : f1 = k1 * r1.a + k2 * r2.a) (eA2 : f2 = k1 * r1.b + k2 * r2.b) (tA : turn r1 r2 ≠ 0) (pAi : Inn A pA) (tA1 : r1.at pA = r1.c) (tA2 : r2.at pA = r2.c)
    {s1 s2 : Row} {l1 l2 : Rat} (hs1 : s1 ∈ B) (hs2 : s2 ∈ B) (hl1 : 0 < l1) (hl2 : 0 < l2) (eB1 : f1 = l1 * s1.a + l2 * s2.a) (eB2 : f2 = l1 * s1.b + l2 * s2.b) (tB : turn s1 s2 ≠ 0) (pBi : Inn B pB) (tB1 : s1.at pB = s1.c) (tB2 : s2.at pB = s2.c)
    (hle : dt f1 f2 pB ≤ dt f1 f2 pA)
    (hR : ∀ r, r ∈ A → Held (Inn A) (Inn B) S r.a r.b) (hS : ∀ s, s ∈ B → Held (Inn A) (Inn B) S s.a s.b)
    (hn : ∀ g1 g2, pA ≠ pB → dt g1 g2 pA = dt g1 g2 pB → (g1 ≠ 0 ∨ g2 ≠ 0) → Held (Inn A) (Inn B) S g1 g2) : ∀ z, S z → dt f1 f2 z ≤ dt f1 f2 pA := by
  have mA : ∀ p, Inn A p → dt f1 f2 p ≤ dt f1 f2 pA := fun p hp => by
    rw [eA1, eA2, dt_comb, dt_comb]
    have q1 := Rat.mul_le_mul_of_nonneg_left (hp r1 hr1) (Rat.le_of_lt hk1)
    have q2 := Rat.mul_le_mul_of_nonneg_left (hp r2 hr2) (Rat.le_of_lt hk2)
    unfold Row.at at *
    rw [tA1, tA2]; grind
  have mB : ∀ p, Inn B p → dt f1 f2 p ≤ dt f1 f2 pB := fun p hp => by
    rw [eB1, eB2, dt_comb, dt_comb]
    have q1 := Rat.mul_le_mul_of_nonneg_left (hp s1 hs1) (Rat.le_of_lt hl1)
    have q2 := Rat.mul_le_mul_of_nonneg_left (hp s2 hs2) (Rat.le_of_lt hl2)
    unfold Row.at at *
    rw [tB1, tB2]; grind
  have rA1 : ∀ p, Inn A p → dt r1.a r1.b p ≤ dt r1.a r1.b pA := fun p hp => by
    have := hp r1 hr1; unfold Row.at at *; rw [tA1]; exact this
  have rA2 : ∀ p, Inn A p → dt r2.a r2.b p ≤ dt r2.a r2.b pA := fun p hp => by
    have := hp r2 hr2; unfold Row.at at *; rw [tA2]; exact this
  have sB1 : ∀ p, Inn B p → dt s1.a s1.b p ≤ dt s1.a s1.b pB := fun p hp => by
    have := hp s1 hs1; unfold Row.at at *; rw [tB1]; exact this
  have sB2 : ∀ p, Inn B p → dt s2.a s2.b p ≤ dt s2.a s2.b pB := fun p hp => by
    have := hp s2 hs2; unfold Row.at at *; rw [tB2]; exact this
  have xA := turnX tA
  have xB := turnX tB
  -- which side of f
  have c1 : f1 * r1.b - f2 * r1.a = k2 * -((r1.a : Rat) * r2.b - r1.b * r2.a) := by rw [eA1, eA2]; grind
  have c2 : f1 * r2.b - f2 * r2.a = k1 * ((r1.a : Rat) * r2.b - r1.b * r2.a) := by rw [eA1, eA2]; grind
  have d1 : f1 * s1.b - f2 * s1.a = l2 * -((s1.a : Rat) * s2.b - s1.b * s2.a) := by rw [eB1, eB2]; grind
  have d2 : f1 * s2.b - f2 * s2.a = l1 * ((s1.a : Rat) * s2.b - s1.b * s2.a) := by rw [eB1, eB2]; grind
  have pos : ∀ {u v x y : Rat}, 0 < u → 0 < v → 0 < x * y → 0 < (u * x) * (v * y) := fun {u v x y} h1 h2 h3 => by
    have := Rat.mul_pos (Rat.mul_pos h1 h2) h3
    have e : u * v * (x * y) = (u * x) * (v * y) := by grind
    rw [e] at this; exact this
  generalize (r1.a : Rat) * r2.b - r1.b * r2.a = T at *
  generalize (s1.a : Rat) * s2.b - s1.b * s2.a = U at *
  have hTU : T * U ≠ 0 := fun z => (Rat.mul_eq_zero.mp z).elim xA xB
  refine both hk1 hk2 eA1 eA2 ?_ ?_
  · by_cases hs : 0 < T * U
    · exact side pAi pBi mA mB hle rA1 sB1 (hR r1 hr1) (hS s1 hs1) hn (by rw [c1, d1]; exact pos hk2 hl2 (by grind))
    · exact side pAi pBi mA mB hle rA1 sB2 (hR r1 hr1) (hS s2 hs2) hn (by rw [c1, d2]; exact pos hk2 hl1 (by grind))
  · by_cases hs : 0 < T * U
    · exact side pAi pBi mA mB hle rA2 sB2 (hR r2 hr2) (hS s2 hs2) hn (by rw [c2, d2]; exact pos hk1 hl1 (by grind))
    · exact side pAi pBi mA mB hle rA2 sB1 (hR r2 hr2) (hS s1 hs1) hn (by rw [c2, d1]; exact pos hk1 hl2 (by grind))
/-- where a best value is reached: by one row, or in a corner -/
theorem best_cases {A : List Row} (oA : Oks A) (zA : ∃ z, Inn A z) {a b : Int} (hab : a ≠ 0 ∨ b ≠ 0) {v : Rat} (hv : ∀ p, Inn A p → dt a b p ≤ v) :
    (∃ r ∈ A, ∃ k : Rat, 0 < k ∧ (a : Rat) = k * r.a ∧ (b : Rat) = k * r.b) ∨
    ∃ r ∈ A, ∃ s ∈ A, ∃ k l : Rat, ∃ p, 0 < k ∧ 0 < l ∧ (a : Rat) = k * r.a + l * s.a ∧ (b : Rat) = k * r.b + l * s.b ∧ turn r s ≠ 0 ∧ Inn A p ∧ r.at p = r.c ∧ s.at p = s.c := by
  rcases dual hab _ A rfl oA zA with ⟨p, hp, hc⟩ | hun
  · rcases cands_sound A [] hc with ⟨r, hr, e⟩ | ⟨r, hr, s, hs, e⟩
    · obtain ⟨k, hk, e1, e2, e3⟩ := single_spec e
      exact .inl ⟨r, hr, k, hk, e1, e2⟩
    · obtain ⟨k, l, hk, hl, e1, e2, e3, ht⟩ := pairv_spec e
      have hs' : s ∈ A := by simpa using hs
      have nz : ¬ (k = 0 ∧ l = 0) := fun ⟨z1, z2⟩ => by
        rw [z1, z2] at e1 e2
        rcases hab with o | o
        · exact ne_cast o (by rw [e1]; grind)
        · exact ne_cast o (by rw [e2]; grind)
      by_cases hk0 : k = 0
      · refine .inl ⟨s, hs', l, by grind, ?_, ?_⟩
        · rw [e1, hk0]; grind
        · rw [e2, hk0]; grind
      by_cases hl0 : l = 0
      · refine .inl ⟨r, hr, k, by grind, ?_, ?_⟩
        · rw [e1, hl0]; grind
        · rw [e2, hl0]; grind
      have hk1 : 0 < k := by grind
      have hl1 : 0 < l := by grind
      have q1 := hp r hr
      have q2 := hp s hs'
      have q3 : dt a b p = k * r.at p + l * s.at p := by rw [e1, e2, dt_comb]; rfl
      rw [q3] at e3
      have t1 : r.at p = r.c := by
        apply Classical.byContradiction
        intro hn
        have := Rat.mul_lt_mul_of_pos_left (show r.at p < r.c by grind) hk1
        have := Rat.mul_le_mul_of_nonneg_left q2 hl
        grind
      have t2 : s.at p = s.c := by
        apply Classical.byContradiction
        intro hn
        have := Rat.mul_lt_mul_of_pos_left (show s.at p < s.c by grind) hl1
        have := Rat.mul_le_mul_of_nonneg_left q1 hk
        grind
      exact .inr ⟨r, hr, s, hs', k, l, p, hk1, hl1, e1, e2, ht, hp, t1, t2⟩
  · obtain ⟨w, hw, q⟩ := hun (v + 1)
    have := hv w hw
    exfalso; grind
/-- THE HULL: a row that holds both figures holds the hull -/
theorem hull_sub {A B : List Row} (oA : Oks A) (oB : Oks B) (zA : ∃ z, Inn A z) (zB : ∃ z, Inn B z) {a b : Int} (hab : a ≠ 0 ∨ b ≠ 0) {v : Rat} (hA : ∀ p, Inn A p → dt a b p ≤ v) (hB : ∀ p, Inn B p → dt a b p ≤ v) :
    ∀ x, Inn (hullRows A B) x → dt a b x ≤ v := by
  have hrow : ∀ r, r ∈ A ++ B → Held (Inn A) (Inn B) (Inn (hullRows A B)) r.a r.b := fun r hr => held_dir oA oB zA zB (mem_directions.mpr (.inl ⟨r, hr, rfl⟩))
  have direct : ∀ r, r ∈ A ++ B → ∀ k : Rat, 0 < k → (a : Rat) = k * r.a → (b : Rat) = k * r.b → ∀ x, Inn (hullRows A B) x → dt a b x ≤ v := fun r hr k hk e1 e2 => by
    have := (hrow r hr).scale hk
    rw [← e1, ← e2] at this
    exact this v hA hB
  rcases best_cases oA zA hab hA with ⟨r, hr, k, hk, e1, e2⟩ | ⟨r1, hr1, r2, hr2, k1, k2, pA, hk1, hk2, eA1, eA2, tA, pAi, tA1, tA2⟩
  · exact direct r (List.mem_append_left _ hr) k hk e1 e2
  rcases best_cases oB zB hab hB with ⟨r, hr, k, hk, e1, e2⟩ | ⟨s1, hs1, s2, hs2, l1, l2, pB, hl1, hl2, eB1, eB2, tB, pBi, tB1, tB2⟩
  · exact direct r (List.mem_append_right _ hr) k hk e1 e2
  have cA := corner_mem hr1 hr2 tA pAi tA1 tA2
  have cB := corner_mem hs1 hs2 tB pBi tB1 tB2
  have hn : ∀ g1 g2, pA ≠ pB → dt g1 g2 pA = dt g1 g2 pB → (g1 ≠ 0 ∨ g2 ≠ 0) → Held (Inn A) (Inn B) (Inn (hullRows A B)) g1 g2 := fun g1 g2 h1 h2 h3 => held_way oA oB zA zB cA cB h1 h2 h3
  rcases Rat.le_total (a := dt a b pB) (b := dt a b pA) with hle | hle
  · intro x hx
    exact Rat.le_trans (hull_core oA oB zA zB hr1 hr2 hk1 hk2 eA1 eA2 tA pAi tA1 tA2 hs1 hs2 hl1 hl2 eB1 eB2 tB pBi tB1 tB2 hle (fun r hr => hrow r (List.mem_append_left _ hr)) (fun r hr => hrow r (List.mem_append_right _ hr)) hn x hx) (hA pA pAi)
  · intro x hx
    exact Rat.le_trans (hull_core oB oA zB zA hs1 hs2 hl1 hl2 eB1 eB2 tB pBi tB1 tB2 hr1 hr2 hk1 hk2 eA1 eA2 tA pAi tA1 tA2 hle (fun r hr => (hrow r (List.mem_append_right _ hr)).swap) (fun r hr => (hrow r (List.mem_append_left _ hr)).swap)
      (fun g1 g2 h1 h2 h3 => (hn g1 g2 (Ne.symm h1) h2.symm h3).swap) x hx) (hB pB pBi)

/-! ### figures -/
/-- the canonical rows, none for the figure without a point -/
abbrev Fig := Option (List Row)
def Has : Fig → Pt → Prop
  | none, _ => False
  | some cs, p => Inn cs p
structure IsFig (F : Fig) : Prop where
  ex : ∃ rs, Oks rs ∧ F = canonical rs
theorem isFig {rs : List Row} (ho : Oks rs) : IsFig (canonical rs) := ⟨rs, ho, rfl⟩
theorem has_canonical {rs : List Row} (ho : Oks rs) (p : Pt) : Has (canonical rs) p ↔ Inn rs p := by
  cases h : canonical rs with
  | none => exact ⟨fun z => z.elim, fun z => canonical_none ho h p z⟩
  | some cs => exact (canonical_some ho h).2.2 p
theorem IsFig.some {cs : List Row} (h : IsFig (some cs)) : Dirs cs ∧ ∃ z, Inn cs z := by
  obtain ⟨rs, ho, e⟩ := h.ex
  obtain ⟨h1, h2, _⟩ := canonical_some ho e.symm
  exact ⟨h1, h2⟩
theorem IsFig.ext {F G : Fig} (hF : IsFig F) (hG : IsFig G) (h : ∀ p, Has F p ↔ Has G p) : F = G := by
  obtain ⟨rs, ho, rfl⟩ := hF.ex
  obtain ⟨ss, ho', rfl⟩ := hG.ex
  exact canonical_ext ho ho' fun p => (has_canonical ho p).symm.trans ((h p).trans (has_canonical ho' p))
def swapRow (r : Row) : Row := ⟨r.b, r.a, r.c⟩
def fmul : Fig → Fig → Fig
  | some a, some b => canonical (a ++ b)
  | _, _ => none
def fadd : Fig → Fig → Fig
  | none, B => B
  | some a, none => some a
  | some a, some b => canonical (hullRows a b)
def fturn : Fig → Fig
  | none => none
  | some a => canonical (a.map swapRow)
def fle : Fig → Fig → Bool
  | none, _ => true
  | some _, none => false
  | some a, some b => b.all fun r => atMost (boundOf a r.a r.b) r.c
def fplane : Fig := canonical []
def fnothing : Fig := canonical [⟨1, 0, 0⟩, ⟨-1, 0, -1⟩]
theorem none_isFig : IsFig none := by
  have h : Oks [⟨1, 0, 0⟩, ⟨-1, 0, -1⟩] := fun r hr => by
    simp only [List.mem_cons, List.not_mem_nil, or_false] at hr
    unfold Row.ok
    rcases hr with rfl | rfl <;> (dsimp only; decide)
  refine ⟨_, h, ?_⟩
  cases e : canonical [⟨1, 0, 0⟩, ⟨-1, 0, -1⟩] with
  | none => rfl
  | some cs =>
    obtain ⟨_, ⟨z, hz⟩, hp⟩ := canonical_some h e
    have := (hp z).mp hz
    have h1 := this ⟨1, 0, 0⟩ (by simp)
    have h2 := this ⟨-1, 0, -1⟩ (by simp)
    unfold Row.at dt at h1 h2
    simp only at h1 h2
    exfalso; grind
theorem nothing_eq : fnothing = none := by
  have h : Oks [⟨1, 0, 0⟩, ⟨-1, 0, -1⟩] := fun r hr => by
    simp only [List.mem_cons, List.not_mem_nil, or_false] at hr
    unfold Row.ok
    rcases hr with rfl | rfl <;> (dsimp only; decide)
  refine IsFig.ext (isFig h) none_isFig fun p => ⟨fun hp => ?_, fun z => z.elim⟩
  have := (has_canonical h p).mp hp
  have h1 := this ⟨1, 0, 0⟩ (by simp)
  have h2 := this ⟨-1, 0, -1⟩ (by simp)
  unfold Row.at dt at h1 h2
  simp only at h1 h2
  exfalso; grind
theorem nil_oks : Oks [] := fun _ h => nomatch h
theorem plane_isFig : IsFig fplane := isFig nil_oks
theorem has_plane (p : Pt) : Has fplane p := (has_canonical nil_oks p).mpr Inn.nil
theorem oks_append {a b : List Row} (h1 : Oks a) (h2 : Oks b) : Oks (a ++ b) := fun r hr => (List.mem_append.mp hr).elim (h1 r) (h2 r)
theorem mul_isFig {A B : Fig} (hA : IsFig A) (hB : IsFig B) : IsFig (fmul A B) := by
  cases A with
  | none => exact none_isFig
  | some a => cases B with
    | none => exact none_isFig
    | some b => exact isFig (oks_append hA.some.1.ok hB.some.1.ok)
theorem has_mul {A B : Fig} (hA : IsFig A) (hB : IsFig B) (p : Pt) : Has (fmul A B) p ↔ Has A p ∧ Has B p := by
  cases A with
  | none => exact ⟨fun z => z.elim, fun z => z.1⟩
  | some a => cases B with
    | none => exact ⟨fun z => z.elim, fun z => z.2⟩
    | some b => exact (has_canonical (oks_append hA.some.1.ok hB.some.1.ok) p).trans Inn.append
theorem add_isFig {A B : Fig} (hA : IsFig A) (hB : IsFig B) : IsFig (fadd A B) := by
  cases A with
  | none => exact hB
  | some a => cases B with
    | none => exact hA
    | some b => exact isFig (hull_ok hA.some.1.ok hB.some.1.ok)
/-- a half plane -/
def Below (a b : Int) (v : Rat) (F : Fig) : Prop := ∀ p, Has F p → dt a b p ≤ v
theorem add_sup {A B : Fig} (hA : IsFig A) (hB : IsFig B) {p : Pt} (h : Has A p ∨ Has B p) : Has (fadd A B) p := by
  cases A with
  | none => exact h.elim (fun z => z.elim) id
  | some a => cases B with
    | none => exact h.elim id fun z => z.elim
    | some b => exact (has_canonical (hull_ok hA.some.1.ok hB.some.1.ok) p).mpr (hull_sup h)
theorem add_sub {A B : Fig} (hA : IsFig A) (hB : IsFig B) {a b : Int} (hab : a ≠ 0 ∨ b ≠ 0) {v : Rat} (h1 : Below a b v A) (h2 : Below a b v B) : Below a b v (fadd A B) := by
  cases A with
  | none => exact h2
  | some x => cases B with
    | none => exact h1
    | some y => exact fun p hp => hull_sub hA.some.1.ok hB.some.1.ok hA.some.2 hB.some.2 hab h1 h2 p ((has_canonical (hull_ok hA.some.1.ok hB.some.1.ok) p).mp hp)
/-- a figure is the common part of its half planes -/
theorem has_of_below {F : Fig} (hF : IsFig F) {p : Pt} (hne : ∃ z, Has F z) (h : ∀ (a b : Int) (v : Rat), (a ≠ 0 ∨ b ≠ 0) → Below a b v F → dt a b p ≤ v) : Has F p := by
  cases F with
  | none => obtain ⟨z, hz⟩ := hne; exact hz
  | some cs => exact fun r hr => h r.a r.b r.c (hF.some.1.ok r hr) fun q hq => hq r hr
/-- a sum lies in each figure that holds both -/
theorem add_least {A B F : Fig} (hA : IsFig A) (hB : IsFig B) (hF : IsFig F) (h1 : ∀ p, Has A p → Has F p) (h2 : ∀ p, Has B p → Has F p) {p : Pt} (hp : Has (fadd A B) p) : Has F p := by
  have hne : ∃ z, Has F z := by
    cases A with
    | none => exact ⟨p, h2 p hp⟩
    | some a => obtain ⟨z, hz⟩ := hA.some.2; exact ⟨z, h1 z hz⟩
  refine has_of_below hF hne fun a b v hab hb => ?_
  exact add_sub hA hB hab (fun q hq => hb q (h1 q hq)) (fun q hq => hb q (h2 q hq)) p hp
theorem sub_trans {A B C : Fig} (h1 : ∀ p, Has A p → Has B p) (h2 : ∀ p, Has B p → Has C p) : ∀ p, Has A p → Has C p := fun p h => h2 p (h1 p h)
theorem swap_oks {a : List Row} (h : Oks a) : Oks (a.map swapRow) := fun r hr => by
  obtain ⟨x, hx, rfl⟩ := List.mem_map.mp hr
  exact (h x hx).symm
def swapPt (p : Pt) : Pt := (p.2, p.1)
theorem dt_swap (a b : Rat) (p : Pt) : dt a b (swapPt p) = dt b a p := by unfold dt swapPt; grind
theorem inn_swap {a : List Row} (p : Pt) : Inn (a.map swapRow) p ↔ Inn a (swapPt p) := by
  constructor
  · intro h r hr
    have := h _ (List.mem_map.mpr ⟨r, hr, rfl⟩)
    unfold Row.at at *
    rw [dt_swap]; exact this
  · intro h r hr
    obtain ⟨x, hx, rfl⟩ := List.mem_map.mp hr
    have := h x hx
    unfold Row.at at *
    rw [dt_swap] at this; exact this
theorem turn_isFig {A : Fig} (hA : IsFig A) : IsFig (fturn A) := by
  cases A with
  | none => exact none_isFig
  | some a => exact isFig (swap_oks hA.some.1.ok)
theorem has_turn {A : Fig} (hA : IsFig A) (p : Pt) : Has (fturn A) p ↔ Has A (swapPt p) := by
  cases A with
  | none => exact Iff.rfl
  | some a => exact (has_canonical (swap_oks hA.some.1.ok) p).trans (inn_swap p)
theorem has_turn' {A : Fig} (hA : IsFig A) (p : Pt) : Has (fturn A) (swapPt p) ↔ Has A p := has_turn hA _
theorem le_iff {A B : Fig} (hA : IsFig A) (hB : IsFig B) : fle A B = true ↔ ∀ p, Has A p → Has B p := by
  cases A with
  | none => exact ⟨fun _ p h => h.elim, fun _ => rfl⟩
  | some a => cases B with
    | none =>
      refine ⟨(fun h => by cases h), fun h => ?_⟩
      obtain ⟨z, hz⟩ := hA.some.2
      exact (h z hz).elim
    | some b =>
      unfold fle
      rw [List.all_eq_true]
      constructor
      · intro h p hp r hr
        exact (atMost_iff (hB.some.1.ok r hr) hA.some.1.ok hA.some.2).mp (h r hr) p hp
      · intro h r hr
        exact (atMost_iff (hB.some.1.ok r hr) hA.some.1.ok hA.some.2).mpr fun p hp => h p hp r hr

/-! ### the law -/
section
variable {A B C : Fig} (hA : IsFig A) (hB : IsFig B) (hC : IsFig C)
include hA
theorem mul_self : fmul A A = A := IsFig.ext (mul_isFig hA hA) hA fun p => (has_mul hA hA p).trans ⟨fun h => h.1, fun h => ⟨h, h⟩⟩
theorem add_self : fadd A A = A := IsFig.ext (add_isFig hA hA) hA fun p => ⟨fun h => add_least hA hA hA (fun _ z => z) (fun _ z => z) h, fun h => add_sup hA hA (.inl h)⟩
theorem mul_plane : fmul A fplane = A := IsFig.ext (mul_isFig hA plane_isFig) hA fun p => (has_mul hA plane_isFig p).trans ⟨fun h => h.1, fun h => ⟨h, has_plane p⟩⟩
theorem add_nothing : fadd A fnothing = A := by
  rw [nothing_eq]
  cases A <;> rfl
theorem mul_nothing : fmul A fnothing = fnothing := by
  rw [nothing_eq]
  cases A <;> rfl
theorem add_plane : fadd A fplane = fplane := IsFig.ext (add_isFig hA plane_isFig) plane_isFig fun p => ⟨fun _ => has_plane p, fun h => add_sup hA plane_isFig (.inr h)⟩
include hB
theorem mul_comm' : fmul A B = fmul B A := IsFig.ext (mul_isFig hA hB) (mul_isFig hB hA) fun p => by rw [has_mul hA hB, has_mul hB hA]; exact And.comm
theorem add_comm' : fadd A B = fadd B A := IsFig.ext (add_isFig hA hB) (add_isFig hB hA) fun p =>
  ⟨fun h => add_least hA hB (add_isFig hB hA) (fun _ z => add_sup hB hA (.inr z)) (fun _ z => add_sup hB hA (.inl z)) h,
   fun h => add_least hB hA (add_isFig hA hB) (fun _ z => add_sup hA hB (.inr z)) (fun _ z => add_sup hA hB (.inl z)) h⟩
theorem absorb : fadd A (fmul A B) = A := IsFig.ext (add_isFig hA (mul_isFig hA hB)) hA fun p =>
  ⟨fun h => add_least hA (mul_isFig hA hB) hA (fun _ z => z) (fun q z => ((has_mul hA hB q).mp z).1) h, fun h => add_sup hA (mul_isFig hA hB) (.inl h)⟩
theorem turn_mul : fturn (fmul A B) = fmul (fturn A) (fturn B) := IsFig.ext (turn_isFig (mul_isFig hA hB)) (mul_isFig (turn_isFig hA) (turn_isFig hB)) fun p => by
  rw [has_turn (mul_isFig hA hB), has_mul hA hB, has_mul (turn_isFig hA) (turn_isFig hB), has_turn hA, has_turn hB]
theorem turn_add : fturn (fadd A B) = fadd (fturn A) (fturn B) := IsFig.ext (turn_isFig (add_isFig hA hB)) (add_isFig (turn_isFig hA) (turn_isFig hB)) fun p => by
  have tt : ∀ q, swapPt (swapPt q) = q := fun q => rfl
  constructor
  · intro h
    have h1 := (has_turn (add_isFig hA hB) p).mp h
    have h2 := add_least (F := fturn (fadd (fturn A) (fturn B))) hA hB (turn_isFig (add_isFig (turn_isFig hA) (turn_isFig hB)))
      (fun q z => (has_turn (add_isFig (turn_isFig hA) (turn_isFig hB)) q).mpr (add_sup (turn_isFig hA) (turn_isFig hB) (.inl ((has_turn' hA q).mpr z))))
      (fun q z => (has_turn (add_isFig (turn_isFig hA) (turn_isFig hB)) q).mpr (add_sup (turn_isFig hA) (turn_isFig hB) (.inr ((has_turn' hB q).mpr z)))) h1
    exact (has_turn' (add_isFig (turn_isFig hA) (turn_isFig hB)) p).mp h2
  · intro h
    refine add_least (turn_isFig hA) (turn_isFig hB) (turn_isFig (add_isFig hA hB)) (fun q z => ?_) (fun q z => ?_) h
    · exact (has_turn (add_isFig hA hB) q).mpr (add_sup hA hB (.inl ((has_turn hA q).mp z)))
    · exact (has_turn (add_isFig hA hB) q).mpr (add_sup hA hB (.inr ((has_turn hB q).mp z)))
theorem le_mul : fle (fmul A B) A = true := (le_iff (mul_isFig hA hB) hA).mpr fun p h => ((has_mul hA hB p).mp h).1
theorem le_add : fle A (fadd A B) = true := (le_iff hA (add_isFig hA hB)).mpr fun p h => add_sup hA hB (.inl h)
theorem le_add_eq : fle A B = decide (fadd A B = B) := by
  refine Bool.eq_iff_iff.mpr ?_
  rw [le_iff hA hB, decide_eq_true_eq]
  constructor
  · intro h
    exact IsFig.ext (add_isFig hA hB) hB fun p => ⟨fun q => add_least hA hB hB h (fun _ z => z) q, fun q => add_sup hA hB (.inr q)⟩
  · intro h p hp
    rw [← h]
    exact add_sup hA hB (.inl hp)
theorem le_mul_eq : fle A B = decide (fmul A B = A) := by
  refine Bool.eq_iff_iff.mpr ?_
  rw [le_iff hA hB, decide_eq_true_eq]
  constructor
  · intro h
    exact IsFig.ext (mul_isFig hA hB) hA fun p => (has_mul hA hB p).trans ⟨fun q => q.1, fun q => ⟨q, h p q⟩⟩
  · intro h p hp
    rw [← h] at hp
    exact ((has_mul hA hB p).mp hp).2
include hC
theorem mul_assoc' : fmul (fmul A B) C = fmul A (fmul B C) := IsFig.ext (mul_isFig (mul_isFig hA hB) hC) (mul_isFig hA (mul_isFig hB hC)) fun p => by
  rw [has_mul (mul_isFig hA hB) hC, has_mul hA hB, has_mul hA (mul_isFig hB hC), has_mul hB hC]; exact and_assoc
theorem add_assoc' : fadd (fadd A B) C = fadd A (fadd B C) := IsFig.ext (add_isFig (add_isFig hA hB) hC) (add_isFig hA (add_isFig hB hC)) fun p => by
  have a1 := add_isFig hA hB
  have a2 := add_isFig hB hC
  have a3 := add_isFig hA a2
  have a4 := add_isFig a1 hC
  constructor
  · exact add_least a1 hC a3 (fun q z => add_least hA hB a3 (fun _ y => add_sup hA a2 (.inl y)) (fun _ y => add_sup hA a2 (.inr (add_sup hB hC (.inl y)))) z) fun q z => add_sup hA a2 (.inr (add_sup hB hC (.inr z)))
  · exact add_least hA a2 a4 (fun q z => add_sup a1 hC (.inl (add_sup hA hB (.inl z)))) fun q z => add_least hB hC a4 (fun _ y => add_sup a1 hC (.inl (add_sup hA hB (.inr y)))) (fun _ y => add_sup a1 hC (.inr y)) z
end
def fcorners : Fig → List Pt
  | none => []
  | some a => cornersOf a
def fkeeps : Fig → Pt → Bool
  | none, _ => false
  | some a, p => keepsPt a p
theorem fkeeps_iff {F : Fig} {p : Pt} : fkeeps F p = true ↔ Has F p := by
  cases F with
  | none => exact ⟨(fun h => by cases h), fun h => h.elim⟩
  | some a => exact keepsPt_iff
theorem corner_in {F : Fig} {p : Pt} (h : p ∈ fcorners F) : Has F p := by
  cases F with
  | none => cases h
  | some a => exact corner_inn h
theorem corner_keeps {F : Fig} {p : Pt} (h : p ∈ fcorners F) : fkeeps F p = true := fkeeps_iff.mpr (corner_in h)
theorem corner_add {F G : Fig} (hF : IsFig F) (hG : IsFig G) {p : Pt} (h : p ∈ fcorners F) : fkeeps (fadd F G) p = true := fkeeps_iff.mpr (add_sup hF hG (.inl (corner_in h)))
end Ts

set_option linter.all false
namespace Ts

/-! ### sizes -/
def Sz (n : Nat) (i : Int) : Prop := i.natAbs ≤ 2 ^ n
def Sq (n d : Nat) (q : Rat) : Prop := Sz n q.num ∧ Sz d (q.den : Int)
theorem Sz.mono {n m : Nat} {i : Int} (h : Sz n i) (k : n ≤ m) : Sz m i := Nat.le_trans h (Nat.pow_le_pow_right (by decide) k)
theorem Sz.of {n : Nat} {i : Int} {k : Nat} (h : i.natAbs ≤ k) (e : k ≤ 2 ^ n) : Sz n i := Nat.le_trans h e
theorem Sz.abs {n : Nat} {i j : Int} (h : Sz n i) (e : j.natAbs ≤ i.natAbs) : Sz n j := Nat.le_trans e h
theorem Sz.neg {n : Nat} {i : Int} (h : Sz n i) : Sz n (-i) := by unfold Sz at *; rw [Int.natAbs_neg]; exact h
theorem Sz.mul {n m : Nat} {i j : Int} (h : Sz n i) (k : Sz m j) : Sz (n + m) (i * j) := by
  unfold Sz at *; rw [Int.natAbs_mul, Nat.pow_add]; exact Nat.mul_le_mul h k
theorem Sz.add {n : Nat} {i j : Int} (h : Sz n i) (k : Sz n j) : Sz (n + 1) (i + j) := by
  unfold Sz at *
  rw [Nat.pow_succ]
  have := Int.natAbs_add_le i j
  omega
theorem Sz.sub {n : Nat} {i j : Int} (h : Sz n i) (k : Sz n j) : Sz (n + 1) (i - j) := by
  rw [Int.sub_eq_add_neg]; exact h.add k.neg
theorem Sz.one {n : Nat} : Sz n 1 := Nat.one_le_two_pow
theorem Sz.zero {n : Nat} : Sz n 0 := Nat.zero_le _
theorem Sq.mono {n m d e : Nat} {q : Rat} (h : Sq n d q) (k : n ≤ m) (l : d ≤ e) : Sq m e q := ⟨h.1.mono k, h.2.mono l⟩
/-- a quotient of two ints in lowest terms is not longer than they are -/
theorem low_le {i j : Int} (hj : j ≠ 0) : ((i : Rat) / (j : Rat)).num.natAbs ≤ i.natAbs ∧ ((i : Rat) / (j : Rat)).den ≤ j.natAbs := by
  have e : (i : Rat) / (j : Rat) = Rat.divInt i j := (Rat.divInt_eq_div i j).symm
  have hq := Rat.num_divInt_den (Rat.divInt i j)
  have hd := (Rat.divInt i j).den_nz
  have h1 : (Rat.divInt i j).num * j = i * ((Rat.divInt i j).den : Int) := by
    have := (Rat.divInt_eq_divInt_iff (by exact_mod_cast hd) hj).mp hq
    exact this
  rw [e]
  have hred := (Rat.divInt i j).reduced
  generalize (Rat.divInt i j).num = a at *
  generalize (Rat.divInt i j).den = b at *
  have h2 : a.natAbs * j.natAbs = i.natAbs * b := by
    have := congrArg Int.natAbs h1
    rw [Int.natAbs_mul, Int.natAbs_mul, Int.natAbs_natCast] at this
    exact this
  -- a and b have no common divisor
  have d1 : b ∣ j.natAbs := by
    have : b ∣ a.natAbs * j.natAbs := ⟨i.natAbs, by rw [h2, Nat.mul_comm]⟩
    exact Nat.Coprime.dvd_of_dvd_mul_left (Nat.coprime_comm.mp hred) this
  have d2 : a.natAbs ∣ i.natAbs := by
    have : a.natAbs ∣ i.natAbs * b := ⟨j.natAbs, h2.symm⟩
    exact Nat.Coprime.dvd_of_dvd_mul_right hred this
  have hj' : 0 < j.natAbs := by omega
  refine ⟨?_, Nat.le_of_dvd hj' d1⟩
  by_cases hi : i.natAbs = 0
  · rw [hi] at h2
    have : a.natAbs * j.natAbs = 0 := by rw [h2]; exact Nat.zero_mul _
    rcases Nat.mul_eq_zero.mp this with z | z
    · omega
    · omega
  · exact Nat.le_of_dvd (by omega) d2
theorem Sq.div {n d : Nat} {i j : Int} (hj : j ≠ 0) (h : Sz n i) (k : Sz d j) : Sq n d ((i : Rat) / (j : Rat)) := by
  obtain ⟨a, b⟩ := low_le (i := i) hj
  exact ⟨h.abs a, k.abs (by rw [Int.natAbs_natCast]; exact b)⟩
theorem den_ne (q : Rat) : (q.den : Int) ≠ 0 := by have := q.den_nz; omega
theorem q_eq (q : Rat) : (q.num : Rat) / ((q.den : Int) : Rat) = q := by rw [← Rat.divInt_eq_div]; exact Rat.num_divInt_den q
theorem add_low (q r : Rat) : ((q.num * (r.den : Int) + r.num * (q.den : Int) : Int) : Rat) / (((q.den : Int) * (r.den : Int) : Int) : Rat) = q + r := by
  have h1 := q_eq q
  have h2 := q_eq r
  have n1 := ne_cast (den_ne q)
  have n2 := ne_cast (den_ne r)
  rw [Rat.intCast_add, Rat.intCast_mul, Rat.intCast_mul, Rat.intCast_mul]
  generalize (q.num : Rat) = a at *
  generalize (r.num : Rat) = b at *
  generalize ((q.den : Int) : Rat) = c at *
  generalize ((r.den : Int) : Rat) = d at *
  have e1 : q * c = a := by rw [← h1]; exact Rat.div_mul_cancel n1
  have e2 : r * d = b := by rw [← h2]; exact Rat.div_mul_cancel n2
  have e3 : a * d + b * c = (q + r) * (c * d) := by rw [← e1, ← e2]; grind
  rw [e3]
  exact Rat.mul_div_cancel fun z => (Rat.mul_eq_zero.mp z).elim n1 n2
theorem mul_low (q r : Rat) : ((q.num * r.num : Int) : Rat) / (((q.den : Int) * (r.den : Int) : Int) : Rat) = q * r := by
  have h1 := q_eq q
  have h2 := q_eq r
  have n1 := ne_cast (den_ne q)
  have n2 := ne_cast (den_ne r)
  rw [Rat.intCast_mul, Rat.intCast_mul]
  generalize (q.num : Rat) = a at *
  generalize (r.num : Rat) = b at *
  generalize ((q.den : Int) : Rat) = c at *
  generalize ((r.den : Int) : Rat) = d at *
  have e1 : q * c = a := by rw [← h1]; exact Rat.div_mul_cancel n1
  have e2 : r * d = b := by rw [← h2]; exact Rat.div_mul_cancel n2
  have e3 : a * b = (q * r) * (c * d) := by rw [← e1, ← e2]; grind
  rw [e3]
  exact Rat.mul_div_cancel fun z => (Rat.mul_eq_zero.mp z).elim n1 n2
theorem num_ne {q : Rat} (h : q ≠ 0) : q.num ≠ 0 := fun z => h (Rat.num_eq_zero.mp z)
theorem div_low (q r : Rat) (hr : r ≠ 0) : ((q.num * (r.den : Int) : Int) : Rat) / (((q.den : Int) * r.num : Int) : Rat) = q / r := by
  have h1 := q_eq q
  have h2 := q_eq r
  have n1 := ne_cast (den_ne q)
  have n2 := ne_cast (den_ne r)
  have n3 := ne_cast (num_ne hr)
  rw [Rat.intCast_mul, Rat.intCast_mul]
  generalize (q.num : Rat) = a at *
  generalize (r.num : Rat) = b at *
  generalize ((q.den : Int) : Rat) = c at *
  generalize ((r.den : Int) : Rat) = d at *
  have e1 : q * c = a := by rw [← h1]; exact Rat.div_mul_cancel n1
  have e2 : r * d = b := by rw [← h2]; exact Rat.div_mul_cancel n2
  have e3 : a * d = (q / r) * (c * b) := by
    rw [← e1, ← e2]
    have : q / r * r = q := Rat.div_mul_cancel hr
    grind
  rw [e3]
  exact Rat.mul_div_cancel fun z => (Rat.mul_eq_zero.mp z).elim n1 n3
theorem Sq.add {n d m e : Nat} {q r : Rat} (h : Sq n d q) (k : Sq m e r) : Sq (max (n + e) (m + d) + 1) (d + e) (q + r) := by
  rw [← add_low]
  have hne : (q.den : Int) * (r.den : Int) ≠ 0 := fun z => (Int.mul_eq_zero.mp z).elim (den_ne q) (den_ne r)
  exact Sq.div hne (((h.1.mul k.2).mono (Nat.le_max_left _ _)).add ((k.1.mul h.2).mono (Nat.le_max_right _ _))) (h.2.mul k.2)
theorem Sq.mul {n d m e : Nat} {q r : Rat} (h : Sq n d q) (k : Sq m e r) : Sq (n + m) (d + e) (q * r) := by
  rw [← mul_low]
  have hne : (q.den : Int) * (r.den : Int) ≠ 0 := fun z => (Int.mul_eq_zero.mp z).elim (den_ne q) (den_ne r)
  exact Sq.div hne (h.1.mul k.1) (h.2.mul k.2)
theorem Sq.neg {n d : Nat} {q : Rat} (h : Sq n d q) : Sq n d (-q) := ⟨by rw [Rat.neg_num]; exact h.1.neg, by rw [Rat.neg_den]; exact h.2⟩
theorem Sq.sub {n d m e : Nat} {q r : Rat} (h : Sq n d q) (k : Sq m e r) : Sq (max (n + e) (m + d) + 1) (d + e) (q - r) := by
  rw [Rat.sub_eq_add_neg]; exact h.add k.neg
theorem Sq.quo {n d m e : Nat} {q r : Rat} (h : Sq n d q) (k : Sq m e r) (hr : r ≠ 0) : Sq (n + e) (d + m) (q / r) := by
  rw [← div_low q r hr]
  have hne : (q.den : Int) * r.num ≠ 0 := fun z => (Int.mul_eq_zero.mp z).elim (den_ne q) (num_ne hr)
  exact Sq.div hne (h.1.mul k.2) (h.2.mul k.1)
theorem Sq.int {n d : Nat} {i : Int} (h : Sz n i) : Sq n d (i : Rat) := by
  refine ⟨?_, ?_⟩
  · rw [Rat.num_intCast]; exact h
  · rw [Rat.den_intCast]; exact Sz.one
theorem low_exact {i j : Int} (hj : j ≠ 0) : ∃ s : Int, s ≠ 0 ∧ (s = if j < 0 then -(Int.gcd i j : Int) else (Int.gcd i j : Int)) ∧ i.fdiv s = ((i : Rat) / (j : Rat)).num ∧ j.fdiv s = (((i : Rat) / (j : Rat)).den : Int) := by
  have e : (i : Rat) / (j : Rat) = Rat.divInt i j := (Rat.divInt_eq_div i j).symm
  rw [e]
  have hq := Rat.num_divInt_den (Rat.divInt i j)
  have hd := (Rat.divInt i j).den_nz
  have h1 : (Rat.divInt i j).num * j = i * ((Rat.divInt i j).den : Int) := (Rat.divInt_eq_divInt_iff (by exact_mod_cast hd) hj).mp hq
  have hred := (Rat.divInt i j).reduced
  generalize (Rat.divInt i j).num = a at *
  generalize (Rat.divInt i j).den = b at *
  -- i = s a, j = s b
  have hbj : (b : Int) ∣ j := by
    have h2 : (b : Int) ∣ a * j := ⟨i, by rw [h1, Int.mul_comm]⟩
    refine dvd_cop h2 ?_
    rw [Int.gcd_comm]; exact hred
  obtain ⟨s, hs⟩ := hbj
  have hb0 : (b : Int) ≠ 0 := by omega
  have hs0 : s ≠ 0 := fun z => hj (by rw [hs, z, Int.mul_zero])
  have hi : i = s * a := by
    have : (b : Int) * (s * a) = (b : Int) * i := by rw [hs] at h1; grind
    exact (Int.eq_of_mul_eq_mul_left hb0 this).symm
  have hg : Int.gcd i j = s.natAbs := by
    rw [hi, hs, Int.mul_comm (b : Int) s, Int.gcd_mul_left]
    have : Int.gcd a (b : Int) = 1 := hred
    rw [this, Nat.mul_one]
  refine ⟨s, hs0, ?_, ?_, ?_⟩
  · rw [hg]
    have hbp : 0 < (b : Int) := by omega
    split
    · rename_i hlt
      have : s < 0 := by
        apply Classical.byContradiction
        intro hn
        have : 0 ≤ (b : Int) * s := Int.mul_nonneg (by omega) (by omega)
        omega
      omega
    · rename_i hlt
      have : 0 < s := by
        apply Classical.byContradiction
        intro hn
        have : (b : Int) * s < 0 := Int.mul_neg_of_pos_of_neg hbp (by omega)
        omega
      omega
  · rw [hi]; exact Int.mul_fdiv_cancel_left _ hs0
  · rw [hs, Int.mul_comm]; exact Int.mul_fdiv_cancel_left _ hs0
def LL : Nat := 33554432
end Ts

set_option linter.all false
namespace Ts
def RSz (n : Nat) (r : Row) : Prop := Sz n r.a ∧ Sz n r.b ∧ Sq n n r.c
def RsSz (n : Nat) (rs : List Row) : Prop := ∀ r ∈ rs, RSz n r
def PSz (n : Nat) (p : Pt) : Prop := Sq n n p.1 ∧ Sq n n p.2
def OSz (n d : Nat) (o : Option Rat) : Prop := ∀ v, o = some v → Sq n d v
theorem RSz.mono {n m : Nat} {r : Row} (h : RSz n r) (k : n ≤ m) : RSz m r := ⟨h.1.mono k, h.2.1.mono k, h.2.2.mono k k⟩
theorem RsSz.mono {n m : Nat} {rs : List Row} (h : RsSz n rs) (k : n ≤ m) : RsSz m rs := fun r hr => (h r hr).mono k
theorem PSz.mono {n m : Nat} {p : Pt} (h : PSz n p) (k : n ≤ m) : PSz m p := ⟨h.1.mono k k, h.2.mono k k⟩
theorem OSz.mono {n d m e : Nat} {o : Option Rat} (h : OSz n d o) (k : n ≤ m) (l : d ≤ e) : OSz m e o := fun v q => (h v q).mono k l
theorem RsSz.append {n : Nat} {rs ss : List Row} (h : RsSz n rs) (k : RsSz n ss) : RsSz n (rs ++ ss) := fun r hr => (List.mem_append.mp hr).elim (h r) (k r)
theorem Sz.ediv {n : Nat} {i j : Int} (h : Sz n i) (hj : 0 ≤ j) (hd : j ∣ i) : Sz n (i / j) := by
  refine h.abs ?_
  rw [Int.natAbs_ediv_of_dvd hd]
  exact Nat.div_le_self _ _
theorem gcd_le {n : Nat} {i j : Int} (hi : Sz n i) (hj : Sz n j) : Sz n (Int.gcd i j : Int) := by
  by_cases h0 : i = 0
  · subst h0
    refine hj.abs ?_
    rw [Int.natAbs_natCast, Int.gcd_zero_left]; exact Nat.le_refl _
  · refine hi.abs ?_
    rw [Int.natAbs_natCast]
    exact Nat.le_of_dvd (by omega) (Nat.gcd_dvd_left ..)
theorem gcd_pos {a b : Int} (h : a ≠ 0 ∨ b ≠ 0) : 0 < (Int.gcd a b : Int) := by
  have : Int.gcd a b ≠ 0 := fun z => by rw [Int.gcd_eq_zero_iff] at z; omega
  omega
theorem normal_sz {n : Nat} {r : Row} (ho : r.ok) (h : RSz n r) : RSz (n + n) (normal r) := by
  have hg := gcd_pos ho
  refine ⟨?_, ?_, ?_⟩
  · exact (h.1.ediv (Int.le_of_lt hg) (Int.gcd_dvd_left ..)).mono (by omega)
  · exact (h.2.1.ediv (Int.le_of_lt hg) (Int.gcd_dvd_right ..)).mono (by omega)
  · have e : (1 : Rat) / ((Int.gcd r.a r.b : Int) : Rat) = ((1 : Int) : Rat) / ((Int.gcd r.a r.b : Int) : Rat) := rfl
    have := h.2.2.mul (Sq.div (n := 0) (i := 1) (by omega : (Int.gcd r.a r.b : Int) ≠ 0) Sz.one (gcd_le h.1 h.2.1))
    exact this.mono (by omega) (by omega)
theorem turn_sz {n : Nat} {r s : Row} (h : RSz n r) (k : RSz n s) : Sz (n + n + 1) (turn r s) := (h.1.mul k.2.1).sub (h.2.1.mul k.1)
theorem onev_sz {n m : Nat} {r s : Row} {a b : Int} (h : RSz n r) (k : RSz n s) (ha : Sz m a) (hb : Sz m b) (ht : turn r s ≠ 0) : Sq (m + n + 1) (n + n + 1) (onev r s a b) :=
  Sq.div ht ((ha.mul k.2.1).sub (hb.mul k.1)) (turn_sz h k)
theorem otherv_sz {n m : Nat} {r s : Row} {a b : Int} (h : RSz n r) (k : RSz n s) (ha : Sz m a) (hb : Sz m b) (ht : turn r s ≠ 0) : Sq (m + n + 1) (n + n + 1) (otherv r s a b) := by
  have : Sz (m + n + 1) (r.a * b - r.b * a) := by
    rw [Int.mul_comm r.a b, Int.mul_comm r.b a]
    exact (hb.mul h.1).sub (ha.mul h.2.1)
  exact Sq.div ht this (turn_sz h k)
theorem share_sz {n m : Nat} {r : Row} {a b : Int} (ho : r.ok) (h : RSz n r) (ha : Sz m a) (hb : Sz m b) : Sq m n (if r.a ≠ 0 then (a : Rat) / (r.a : Rat) else (b : Rat) / (r.b : Rat)) := by
  split
  · rename_i q; exact Sq.div q ha h.1
  · rename_i q
    have : r.b ≠ 0 := ho.elim (fun z => absurd z (by simpa using q)) id
    exact Sq.div this hb h.2.1
theorem single_sz {n m : Nat} {r : Row} {a b : Int} {v : Rat} (ho : r.ok) (h : RSz n r) (ha : Sz m a) (hb : Sz m b) (e : single r a b = some v) : Sq (m + n) (n + n) v := by
  unfold single at e
  by_cases hc : r.a * b = r.b * a ∧ 0 < r.a * a + r.b * b
  · rw [if_pos hc] at e; cases e; exact (share_sz ho h ha hb).mul h.2.2
  · rw [if_neg hc] at e; cases e
theorem pairv_sz {n m : Nat} {r s : Row} {a b : Int} {v : Rat} (h : RSz n r) (k : RSz n s) (ha : Sz m a) (hb : Sz m b) (e : pairv r s a b = some v) : Sq (m + 5 * n + 3) (6 * n + 2) v := by
  unfold pairv at e
  by_cases hc : turn r s ≠ 0 ∧ (0 ≤ onev r s a b ∧ 0 ≤ otherv r s a b)
  · rw [if_pos hc] at e
    cases e
    have h1 := (onev_sz h k ha hb hc.1).mul h.2.2
    have h2 := (otherv_sz h k ha hb hc.1).mul k.2.2
    exact (h1.add h2).mono (by omega) (by omega)
  · rw [if_neg hc] at e; cases e
theorem cands_sz {n m : Nat} {rs : List Row} {a b : Int} (ho : Oks rs) (h : RsSz n rs) (ha : Sz m a) (hb : Sz m b) {v : Rat} (hv : v ∈ candsFrom [] a b rs) : Sq (m + 5 * n + 3) (6 * n + 2) v := by
  rcases cands_sound rs [] hv with ⟨r, hr, e⟩ | ⟨r, hr, s, hs, e⟩
  · exact (single_sz (ho r hr) (h r hr) ha hb e).mono (by omega) (by omega)
  · exact pairv_sz (h r hr) (h s (by simpa using hs)) ha hb e
theorem bound_sz {n m : Nat} {rs : List Row} {a b : Int} (ho : Oks rs) (h : RsSz n rs) (ha : Sz m a) (hb : Sz m b) : OSz (m + 5 * n + 3) (6 * n + 2) (boundOf rs a b) :=
  fun v e => cands_sz ho h ha hb (boundOf_some e).1
theorem line_sz {n : Nat} {f : List Row} {l : Row} (ho : Oks f) (h : RsSz n f) (hl : l ∈ f) : RsSz (8 * n + 4) (lineRows f l) := by
  have hL := h l hl
  have oL := ho l hl
  have bs : ∀ a b : Int, Sz 0 a → Sz 0 b → OSz (5 * n + 3) (6 * n + 2) (boundOf f a b) := fun a b ha hb => (bound_sz ho h ha hb).mono (by omega) (Nat.le_refl _)
  have z0 : Sz 0 0 := Sz.zero
  have z1 : Sz 0 1 := Sz.one
  have zm : Sz 0 (-1) := z1.neg
  have hp : ∀ {x y : Rat}, Sq (7 * n + 4) (8 * n + 2) x → Sq (7 * n + 4) (8 * n + 2) y → RsSz (8 * n + 4) (pointRows x y) := fun {x y} hx hy r hr => by
    simp only [pointRows, List.mem_cons, List.not_mem_nil, or_false] at hr
    rcases hr with rfl | rfl | rfl | rfl
    · exact ⟨z1.mono (by omega), z0.mono (by omega), hx.mono (by omega) (by omega)⟩
    · exact ⟨zm.mono (by omega), z0.mono (by omega), hx.neg.mono (by omega) (by omega)⟩
    · exact ⟨z0.mono (by omega), z1.mono (by omega), hy.mono (by omega) (by omega)⟩
    · exact ⟨z0.mono (by omega), zm.mono (by omega), hy.neg.mono (by omega) (by omega)⟩
  have he : ∀ (a b : Int) (o : Option Rat), Sz 0 a → Sz 0 b → OSz (5 * n + 3) (6 * n + 2) o → RsSz (8 * n + 4) (endRow a b o) := fun a b o ha hb hz r hr => by
    cases o with
    | none => cases hr
    | some t =>
      rw [List.mem_singleton.mp hr]
      exact ⟨ha.mono (by omega), hb.mono (by omega), (hz t rfl).mono (by omega) (by omega)⟩
  have hll : RsSz (8 * n + 4) [l, negRow l] := fun r hr => by
    simp only [List.mem_cons, List.not_mem_nil, or_false] at hr
    rcases hr with rfl | rfl
    · exact hL.mono (by omega)
    · exact ⟨hL.1.neg.mono (by omega), hL.2.1.neg.mono (by omega), hL.2.2.neg.mono (by omega) (by omega)⟩
  have hm : ∀ {a b : Int} {t : Rat} {low : Option Rat}, Sz 0 a → Sz 0 b → meets (boundOf f a b) low = some t → Sq (5 * n + 3) (6 * n + 2) t := fun {a b t low} ha hb e => by
    cases e1 : boundOf f a b with
    | none => rw [e1] at e; cases e
    | some u =>
      rw [e1] at e
      cases low with
      | none => cases e
      | some w =>
        simp only [meets] at e
        split at e
        · cases e; exact bs a b ha hb _ e1
        · cases e
  unfold lineRows
  by_cases hb : l.b = 0
  · rw [if_pos hb]
    have ha : l.a ≠ 0 := oL.elim id fun q => absurd hb q
    split
    · rename_i t e
      refine hp ?_ ((hm z0 z1 e).mono (by omega) (by omega))
      exact (hL.2.2.quo (Sq.int (d := 0) hL.1) (ne_cast ha)).mono (by omega) (by omega)
    · exact hll.append ((he _ _ _ z0 z1 (bs _ _ z0 z1)).append (he _ _ _ z0 zm (bs _ _ z0 zm)))
  · rw [if_neg hb]
    split
    · rename_i t e
      have ht := hm z1 z0 e
      refine hp (ht.mono (by omega) (by omega)) ?_
      have h1 := (Sq.int (d := 0) hL.1).mul ht
      have h2 := hL.2.2.sub h1
      exact (h2.quo (Sq.int (d := 0) hL.2.1) (ne_cast hb)).mono (by omega) (by omega)
    · exact hll.append ((he _ _ _ z1 z0 (bs _ _ z1 z0)).append (he _ _ _ zm z0 (bs _ _ zm z0)))
theorem kept_sub : ∀ (rs found f : List Row), kept found rs = some f → ∀ r ∈ f, r ∈ found ∨ r ∈ rs
  | [], found, f, h, r, hr => by rw [kept] at h; cases h; exact .inl hr
  | x :: rs, found, f, h, r, hr => by
    rw [kept] at h
    split at h
    · exact (kept_sub rs found f h r hr).imp id (List.mem_cons_of_mem _)
    · split at h
      · cases h
      · rcases kept_sub rs _ f h r hr with q | q
        · rcases List.mem_append.mp q with q | q
          · exact .inl q
          · exact .inr (by rw [List.mem_singleton.mp q]; simp)
        · exact .inr (List.mem_cons_of_mem _ q)
theorem kept_len : ∀ (rs found f : List Row), kept found rs = some f → f.length ≤ found.length + rs.length
  | [], found, f, h => by rw [kept] at h; cases h; simp
  | x :: rs, found, f, h => by
    rw [kept] at h
    split at h
    · have := kept_len rs found f h; simp; omega
    · split at h
      · cases h
      · have := kept_len rs _ f h; simp at this ⊢; omega
theorem prune_sub : ∀ (rs f : List Row), ∀ r ∈ prune f rs, r ∈ f
  | [], f, r, hr => hr
  | x :: rs, f, r, hr => by
    rw [prune] at hr
    split at hr
    · exact (List.mem_filter.mp (prune_sub rs _ r hr)).1
    · exact prune_sub rs f r hr
theorem prune_len : ∀ (rs f : List Row), (prune f rs).length ≤ f.length
  | [], f => Nat.le_refl _
  | x :: rs, f => by
    rw [prune]
    split
    · exact Nat.le_trans (prune_len rs _) (List.length_filter_le _ _)
    · exact prune_len rs f
theorem mem_byDir' {x : Row} : ∀ (rs f : List Row), x ∈ rs.foldl (fun f r => insDir r f) f ↔ x ∈ f ∨ x ∈ rs
  | [], f => by simp
  | r :: rs, f => by rw [List.foldl_cons, mem_byDir' rs, mem_insDir, List.mem_cons]; grind
theorem mem_byDir {x : Row} {rs : List Row} : x ∈ byDir rs ↔ x ∈ rs := by rw [byDir, mem_byDir']; simp
theorem insDir_len (r : Row) : ∀ l : List Row, (insDir r l).length = l.length + 1
  | [] => rfl
  | x :: l => by
    unfold insDir
    split
    · simp [insDir_len r l]
    · simp
theorem byDir_len' : ∀ (rs f : List Row), (rs.foldl (fun f r => insDir r f) f).length = f.length + rs.length
  | [], f => by simp
  | r :: rs, f => by rw [List.foldl_cons, byDir_len' rs, insDir_len]; simp; omega
theorem byDir_len (rs : List Row) : (byDir rs).length = rs.length := by rw [byDir, byDir_len']; simp
theorem line_len (f : List Row) (l : Row) : (lineRows f l).length ≤ 4 := by
  have he : ∀ (a b : Int) (o : Option Rat), (endRow a b o).length ≤ 1 := fun a b o => by cases o <;> simp [endRow]
  unfold lineRows
  split
  · split
    · simp [pointRows]
    · have := he 0 1 (boundOf f 0 1); have := he 0 (-1) (boundOf f 0 (-1)); simp; omega
  · split
    · simp [pointRows]
    · have := he 1 0 (boundOf f 1 0); have := he (-1) 0 (boundOf f (-1) 0); simp; omega
theorem shape_sz {n : Nat} {f : List Row} (ho : Oks f) (h : RsSz n f) : RsSz (8 * n + 4) (shape f) := fun r hr => by
  unfold shape at hr
  split at hr
  · rename_i l e
    exact line_sz ho h (List.mem_of_find?_eq_some e) r (mem_byDir.mp hr)
  · exact (h r (prune_sub f f r (mem_byDir.mp hr))).mono (by omega)
theorem shape_len (f : List Row) : (shape f).length ≤ f.length + 4 := by
  unfold shape
  split
  · rw [byDir_len]; have := line_len f; rename_i l e; have := line_len f l; omega
  · rw [byDir_len]; have := prune_len f f; omega
theorem normal_map_sz {n : Nat} {rs : List Row} (ho : Oks rs) (h : RsSz n rs) : RsSz (n + n) (rs.map normal) := fun r hr => by
  obtain ⟨x, hx, rfl⟩ := List.mem_map.mp hr
  exact normal_sz (ho x hx) (h x hx)
theorem canonical_sz {n : Nat} {rs cs : List Row} (ho : Oks rs) (h : RsSz n rs) (e : canonical rs = some cs) : RsSz (16 * n + 4) cs := by
  unfold canonical at e
  split at e
  · cases e
  · rename_i f hf
    cases e
    have hs := kept_sub _ _ f hf
    have hof : Oks f := fun r hr => (hs r hr).elim (fun z => nomatch z) ((normal_map ho).1 r)
    have hsz : RsSz (n + n) f := fun r hr => (hs r hr).elim (fun z => nomatch z) (normal_map_sz ho h r)
    exact (shape_sz hof hsz).mono (by omega)
theorem canonical_len {rs cs : List Row} (e : canonical rs = some cs) : cs.length ≤ rs.length + 4 := by
  unfold canonical at e
  split at e
  · cases e
  · rename_i f hf
    cases e
    have h1 := kept_len _ _ f hf
    have h2 := shape_len f
    simp at h1
    omega
/-! corners, hulls -/
theorem cornerPt_sz {n : Nat} {r s : Row} (h : RSz n r) (k : RSz n s) (ht : turn r s ≠ 0) : PSz (4 * n + 1) (cornerPt r s) := by
  have hT := Sq.int (d := 0) (turn_sz h k)
  have q : ∀ {a b : Int} {c d : Rat}, Sz n a → Sz n b → Sq n n c → Sq n n d → Sq (4 * n + 1) (4 * n + 1) (((a : Rat) * c - (b : Rat) * d) / ((turn r s : Int) : Rat)) := fun {a b c d} ha hb hc hd =>
    (((Sq.int (d := 0) ha).mul hc).sub ((Sq.int (d := 0) hb).mul hd) |>.quo hT (ne_cast ht)).mono (by omega) (by omega)
  exact ⟨q k.2.1 h.2.1 h.2.2 k.2.2, q h.1 k.1 k.2.2 h.2.2⟩
theorem cornersFrom_sz {n : Nat} {rs : List Row} : ∀ (l pre : List Row) (found : List Pt), RsSz n l → RsSz n pre → (∀ p ∈ found, PSz (4 * n + 1) p) → ∀ p ∈ cornersFrom rs pre found l, PSz (4 * n + 1) p
  | [], pre, found, _, _, hf => hf
  | r :: l, pre, found, hl, hp, hf => by
    have hr := hl r (by simp)
    refine cornersFrom_sz l (pre ++ [r]) _ (fun x hx => hl x (List.mem_cons_of_mem _ hx)) (hp.append fun x hx => by rw [List.mem_singleton.mp hx]; exact hr) fun p q => ?_
    rcases (mem_cornerFold pre found).mp q with q | ⟨s, hs, ht, _, e⟩
    · exact hf p q
    · rw [e]; exact cornerPt_sz hr (hp s hs) ht
theorem corners_sz {n : Nat} {rs : List Row} (h : RsSz n rs) : ∀ p ∈ cornersOf rs, PSz (4 * n + 1) p := fun p hp => by
  unfold cornersOf at hp
  rw [mem_byPlace] at hp
  exact cornersFrom_sz rs [] [] h (fun r hr => nomatch hr) (fun p hp => nomatch hp) p hp
theorem cornerFold_len {rs : List Row} {r : Row} : ∀ (pre : List Row) (found : List Pt), (pre.foldl (cornerStep rs r) found).length ≤ found.length + pre.length
  | [], found => by simp
  | s :: pre, found => by
    rw [List.foldl_cons]
    have h1 := cornerFold_len (rs := rs) (r := r) pre (cornerStep rs r found s)
    have h2 : (cornerStep rs r found s).length ≤ found.length + 1 := by
      unfold cornerStep
      split
      · split
        · simp
        · omega
      · omega
    simp
    omega
theorem cornersFrom_len {rs : List Row} (N : Nat) : ∀ (l pre : List Row) (found : List Pt), pre.length + l.length ≤ N → (cornersFrom rs pre found l).length ≤ found.length + l.length * N
  | [], pre, found, _ => by simp [cornersFrom]
  | r :: l, pre, found, h => by
    rw [cornersFrom]
    have h1 := cornersFrom_len (rs := rs) N l (pre ++ [r]) (pre.foldl (cornerStep rs r) found) (by simp at h ⊢; omega)
    have h2 := cornerFold_len (rs := rs) (r := r) pre found
    simp at h
    rw [List.length_cons, Nat.succ_mul]
    omega
theorem insPlace_len (p : Pt) : ∀ l : List Pt, (insPlace p l).length = l.length + 1
  | [] => rfl
  | x :: l => by
    unfold insPlace
    split
    · simp [insPlace_len p l]
    · simp
theorem byPlace_len' : ∀ (ps f : List Pt), (ps.foldl (fun f p => insPlace p f) f).length = f.length + ps.length
  | [], f => by simp
  | r :: rs, f => by rw [List.foldl_cons, byPlace_len' rs, insPlace_len]; simp; omega
theorem byPlace_len (ps : List Pt) : (byPlace ps).length = ps.length := by rw [byPlace, byPlace_len']; simp
theorem corners_len (rs : List Row) : (cornersOf rs).length ≤ rs.length * rs.length := by
  unfold cornersOf
  rw [byPlace_len]
  have := cornersFrom_len (rs := rs) rs.length rs [] [] (by simp)
  simpa using this
theorem norm_sz {k : Nat} {p q : Pt} (hp : PSz k p) (hq : PSz k q) : Sz (4 * k + 1) (normA p q) ∧ Sz (4 * k + 1) (normB p q) := by
  have h1 := hq.2.sub hp.2
  have h2 := hq.1.sub hp.1
  exact ⟨(h1.1.mul h2.2).mono (by omega), (h2.1.neg.mul h1.2).mono (by omega)⟩
theorem way_sz {k : Nat} {p q : Pt} {x : Dir} (hp : PSz k p) (hq : PSz k q) (h : IsWay p q x) : Sz (4 * k + 1) x.1 ∧ Sz (4 * k + 1) x.2 := by
  obtain ⟨h0, h⟩ := h
  obtain ⟨sA, sB⟩ := norm_sz hp hq
  have hg := gcd_pos h0
  have d1 : (Int.gcd (normA p q) (normB p q) : Int) ∣ normA p q := Int.gcd_dvd_left ..
  have d2 : (Int.gcd (normA p q) (normB p q) : Int) ∣ normB p q := Int.gcd_dvd_right ..
  rcases h with rfl | rfl
  · exact ⟨sA.ediv (Int.le_of_lt hg) d1, sB.ediv (Int.le_of_lt hg) d2⟩
  · exact ⟨sA.neg.ediv (Int.le_of_lt hg) (Int.dvd_neg.mpr d1), sB.neg.ediv (Int.le_of_lt hg) (Int.dvd_neg.mpr d2)⟩
theorem dirs_sz {n : Nat} {A B : List Row} (hA : RsSz n A) (hB : RsSz n B) {x : Dir} (h : x ∈ directionsOf A B) : Sz (16 * n + 5) x.1 ∧ Sz (16 * n + 5) x.2 := by
  rcases mem_directions.mp h with ⟨r, hr, e⟩ | ⟨p, hp, q, hq, w⟩
  · rw [e]
    have := (hA.append hB) r hr
    exact ⟨this.1.mono (by omega), this.2.1.mono (by omega)⟩
  · have := way_sz (corners_sz hA p hp) (corners_sz hB q hq) w
    exact ⟨this.1.mono (by omega), this.2.mono (by omega)⟩
theorem hull_sz {n : Nat} {A B : List Row} (oA : Oks A) (oB : Oks B) (hA : RsSz n A) (hB : RsSz n B) : RsSz (21 * n + 8) (hullRows A B) := fun r hr => by
  obtain ⟨d, hd, u, v, e1, e2, rfl⟩ := mem_hullRows.mp hr
  obtain ⟨s1, s2⟩ := dirs_sz hA hB hd
  have h1 := bound_sz oA hA s1 s2 u e1
  have h2 := bound_sz oB hB s1 s2 v e2
  refine ⟨s1.mono (by omega), s2.mono (by omega), ?_⟩
  have : gmax u v = u ∨ gmax u v = v := by unfold gmax; split <;> simp
  rcases this with e | e
  · rw [e]; exact h1.mono (by omega) (by omega)
  · rw [e]; exact h2.mono (by omega) (by omega)
theorem addDir_len (f : List Dir) (d : Dir) : (addDir f d).length ≤ f.length + 1 := by
  unfold addDir; split
  · omega
  · simp
theorem rowDirs_len : ∀ (rs : List Row) (f : List Dir), (rowDirs f rs).length ≤ f.length + rs.length
  | [], f => by simp [rowDirs]
  | r :: rs, f => by
    have h1 := rowDirs_len rs (addDir f (r.a, r.b))
    have h2 := addDir_len f (r.a, r.b)
    unfold rowDirs at *
    rw [List.foldl_cons]; simp; omega
theorem pairDirs_len (f : List Dir) (p q : Pt) : (pairDirs f p q).length ≤ f.length + 2 := by
  unfold pairDirs
  split
  · have h1 := addDir_len f (normA p q / (Int.gcd (normA p q) (normB p q) : Int), normB p q / (Int.gcd (normA p q) (normB p q) : Int))
    have h2 := addDir_len (addDir f (normA p q / (Int.gcd (normA p q) (normB p q) : Int), normB p q / (Int.gcd (normA p q) (normB p q) : Int))) (-(normA p q) / (Int.gcd (normA p q) (normB p q) : Int), -(normB p q) / (Int.gcd (normA p q) (normB p q) : Int))
    omega
  · omega
theorem cornerDirs1_len {p : Pt} : ∀ (qs : List Pt) (f : List Dir), (qs.foldl (fun f q => pairDirs f p q) f).length ≤ f.length + 2 * qs.length
  | [], f => by simp
  | q :: qs, f => by
    rw [List.foldl_cons]
    have h1 := cornerDirs1_len (p := p) qs (pairDirs f p q)
    have h2 := pairDirs_len f p q
    simp; omega
theorem cornerDirs_len {qs : List Pt} : ∀ (ps : List Pt) (f : List Dir), (cornerDirs f ps qs).length ≤ f.length + 2 * qs.length * ps.length
  | [], f => by simp [cornerDirs]
  | p :: ps, f => by
    have h1 := cornerDirs_len (qs := qs) ps (qs.foldl (fun f q => pairDirs f p q) f)
    have h2 := cornerDirs1_len (p := p) qs f
    unfold cornerDirs at *
    rw [List.foldl_cons, List.length_cons, Nat.mul_succ]
    omega
theorem directions_len (A B : List Row) : (directionsOf A B).length ≤ A.length + B.length + 2 * (cornersOf B).length * (cornersOf A).length := by
  unfold directionsOf
  have h1 := cornerDirs_len (qs := cornersOf B) (cornersOf A) (rowDirs (rowDirs [] A) B)
  have h2 := rowDirs_len B (rowDirs [] A)
  have h3 := rowDirs_len A []
  simp at h3
  omega
theorem hull_len (A B : List Row) : (hullRows A B).length ≤ (directionsOf A B).length := List.length_filterMap_le _ _
end Ts

set_option linter.all false
namespace Ts
theorem ins_split {r : Row} : ∀ (l : List Row) (j : Nat), j ≤ l.length → (∀ k y, k < j → l[k]? = some y → ahead y r = true) → (∀ y, l[j]? = some y → ahead y r = false) → insDir r l = l.take j ++ [r] ++ l.drop j
  | [], j, hj, _, _ => by
    have : j = 0 := by simpa using hj
    subst this; rfl
  | x :: l, 0, _, _, h2 => by
    have := h2 x rfl
    unfold insDir
    rw [this]; rfl
  | x :: l, j + 1, hj, h1, h2 => by
    have h0 := h1 0 x (by omega) rfl
    unfold insDir
    rw [if_pos h0, ins_split l j (by simpa using hj) (fun k y hk hy => h1 (k + 1) y (by omega) (by simpa using hy)) (fun y hy => h2 y (by simpa using hy))]
    simp
theorem insPt_split {r : Pt} : ∀ (l : List Pt) (j : Nat), j ≤ l.length → (∀ k y, k < j → l[k]? = some y → before y r = true) → (∀ y, l[j]? = some y → before y r = false) → insPlace r l = l.take j ++ [r] ++ l.drop j
  | [], j, hj, _, _ => by
    have : j = 0 := by simpa using hj
    subst this; rfl
  | x :: l, 0, _, _, h2 => by
    have := h2 x rfl
    unfold insPlace
    rw [this]; rfl
  | x :: l, j + 1, hj, h1, h2 => by
    have h0 := h1 0 x (by omega) rfl
    unfold insPlace
    rw [if_pos h0, insPt_split l j (by simpa using hj) (fun k y hk hy => h1 (k + 1) y (by omega) (by simpa using hy)) (fun y hy => h2 y (by simpa using hy))]
    simp
theorem half_lt (r s : Row) : ahead r s = (if half r ≠ half s then decide ((if half r then (1 : Int) else 0) < (if half s then 1 else 0)) else decide (0 < r.a * s.b - r.b * s.a)) := by
  unfold ahead
  cases half r <;> cases half s <;> simp
theorem num_lt (q : Rat) : decide (q.num < 0) = decide (q < 0) := decide_eq_decide.mpr (by rw [← Int.not_le, ← Rat.not_le, Rat.num_nonneg])
theorem num_eq0 (q : Rat) : decide (q.num = 0) = decide (q = 0) := decide_eq_decide.mpr Rat.num_eq_zero
end Ts

set_option Elab.async false
set_option linter.all false
set_option maxRecDepth 100000
set_option maxHeartbeats 4000000
namespace Tk
open PySem L2 Ts

/-! ### ints of any size: two operators -/
/-- the bits of an int -/
def bits (z : Int) : Nat := z.natAbs.log2 + 1
def CMulG (i j : Int) : Prop := bits i + bits j ≤ 134217728
theorem CMulG.ok {i j : Int} (h : CMulG i j) : IntMulOk i j := by
  have b : ∀ x : Int, Builtin.Int.intBits x ≤ x.natAbs.log2 + 1 := fun x => by
    unfold Builtin.Int.intBits
    split <;> omega
  have h1 := b i
  have h2 := b j
  unfold CMulG bits at h
  have e : bitsLine = 134217728 := by decide
  unfold IntMulOk
  intro z
  rw [Bool.and_eq_true] at z
  have z2 := z.2
  unfold Builtin.Int.intTooBig at z2
  have z3 := of_decide_eq_true z2
  rw [e] at z3
  omega
section
variable {X : Cx}
theorem op_mulG : OpR X (binaryOp .Mult) (rI CMulG fun i j => .int (i * j)) := opI fun _ _ _ _ _ _ _ hc q => PyProof.Rows.mul_int q hc.ok
/-- what // by a divisor of any size asks of the run -/
structure Pyl (X : Cx) : Prop where
  seer : X.base.NoSeer
  tree : X.prog.given.tree = none
  room : X.A.depth + Builtin.pylongFrames < recursionLimit
  stk : X.stack = X.env :: X.outer
  gen : X.env.scope.isGenerator = false
  co : X.env.scope.isCoroutine = false
theorem op_fdivG (L : Pyl X) : OpR X (binaryOp .FloorDiv) (rI (fun _ j => j ≠ 0) fun i j => .int (i.fdiv j)) := by
  intro pins s σ H x y v u Q I rx ry h
  obtain ⟨i, j, rfl, rfl, hc, q⟩ := h
  obtain ⟨t, rfl⟩ := rx
  obtain ⟨t', rfl⟩ := ry
  have hs : s.heap.NoSeer := L.seer.keeps I.bk
  refine PyProof.Rows.floordiv_int hc ⟨.int (i.fdiv j), H, I.tok _, ⟨_, rfl⟩, q⟩ (.inr (PylongRoom.of I.nolimit L.room (SeerAt.of (l := X.outer) hs L.tree (by rw [I.ok.frames, L.stk]) L.gen L.co I.ok.blt I.ok.glob)))
end
end Tk

set_option Elab.async false
set_option linter.all false
set_option maxRecDepth 100000
set_option maxHeartbeats 4000000
namespace Tk
open PySem L2 Ts

/-! ### what is known of a value in a heap -/
abbrev P1 := V → Hp → Prop
/-- tuples stay -/
def Te (K : PySem.W.Frag) (H H' : Hp) : Prop := ∀ a xs, SqT K H a xs → SqT K H' a xs
section
variable {K : PySem.W.Frag} {H H1 H2 H' : Hp}
theorem Te.refl : Te K H H := fun _ _ h => h
theorem Te.trans (a : Te K H H1) (b : Te K H1 H2) : Te K H H2 := fun x xs h => b x xs (a x xs h)
theorem _root_.L2.Same.te (e : Same H H') : Te K H H' := fun a xs h => by
  rcases h with (h | ⟨o, h⟩) | h
  · exact .inl (.inl (e _ _ h))
  · exact .inl (.inr ⟨o, e _ _ h⟩)
  · exact .inr h
/-- a tracked object that is no tuple is changed -/
theorem te_upd {l : Addr} {o u : HO} (h : H l = some o) (h1 : ∀ xs, o ≠ .tup xs) (h2 : ∀ ob xs, o ≠ .frz ob (.tup xs)) : Te K H (upd H l u) := fun a xs q => by
  rcases q with (q | ⟨ob, q⟩) | q
  · exact .inl (.inl (by rw [upd_ne (ne_of q h fun z => h1 _ z.symm)]; exact q))
  · exact .inl (.inr ⟨ob, by rw [upd_ne (ne_of q h fun z => h2 _ _ z.symm)]; exact q⟩)
  · exact .inr q
theorem te_lst {l : Addr} {xs : List V} {u : HO} (h : H l = some (.lst xs)) : Te K H (upd H l u) := te_upd h (fun _ z => by cases z) fun _ _ z => by cases z
theorem te_ins {l C dx : Addr} {fs : List (Str × V)} {u : HO} (h : H l = some (.ins C dx fs)) : Te K H (upd H l u) := te_upd h (fun _ z => by cases z) fun _ _ z => by cases z
theorem same_new {p : Addr} {o : HO} (h : H p = none) : Same H (upd H p o) := fun a u e => by
  rw [upd_ne (ne_of_none e h)]; exact e
/-- an object that the elder heap does not know changes -/
theorem same_mut {p : Addr} {o : HO} (e : Same H H') (h : H p = none) : Same H (upd H' p o) := fun a u q => by
  rw [upd_ne (ne_of_none q h)]; exact e a u q
end
/-- what stays when nothing tracked changes -/
class Mo (P : P1) : Prop where
  mo : ∀ {v : V} {H H' : Hp}, Same H H' → P v H → P v H'
/-- what stays while tuples stay -/
class Mt (K : PySem.W.Frag) (P : P1) : Prop where
  mt : ∀ {v : V} {H H' : Hp}, Te K H H' → P v H → P v H'
abbrev IsV (x : V) : P1 := fun v _ => v = x
abbrev IsI (i : Int) : P1 := IsV (.int i)
abbrev IsB (b : Bool) : P1 := IsV (.bl b)
abbrev IsN : P1 := IsV .non
def IsQ (K : PySem.W.Frag) (q : Rat) : P1 := fun v H => ∃ a, v = .ref a ∧ SqT K H a [.int q.num, .int (q.den : Int)]
def IsO (K : PySem.W.Frag) : Option Rat → P1
  | none => IsN
  | some q => IsQ K q
def IsRow (K : PySem.W.Frag) (r : Row) : P1 := fun v H => ∃ a c, v = .ref a ∧ SqT K H a [.int r.a, .int r.b, c] ∧ IsQ K r.c c H
def IsPt (K : PySem.W.Frag) (p : Pt) : P1 := fun v H => ∃ a x y, v = .ref a ∧ SqT K H a [x, y] ∧ IsQ K p.1 x H ∧ IsQ K p.2 y H
def IsDir (K : PySem.W.Frag) (d : Dir) : P1 := fun v H => ∃ a, v = .ref a ∧ SqT K H a [.int d.1, .int d.2]
instance (x : V) : Mo (IsV x) := ⟨fun _ h => h⟩
instance (K : PySem.W.Frag) (x : V) : Mt K (IsV x) := ⟨fun _ h => h⟩
instance (K : PySem.W.Frag) (q : Rat) : Mt K (IsQ K q) := ⟨fun e ⟨a, h1, h2⟩ => ⟨a, h1, e _ _ h2⟩⟩
instance (K : PySem.W.Frag) (q : Rat) : Mo (IsQ K q) := ⟨fun e h => Mt.mt (K := K) e.te h⟩
instance (K : PySem.W.Frag) (o : Option Rat) : Mt K (IsO K o) := ⟨fun e h => by
  cases o with
  | none => exact h
  | some q => exact Mt.mt (K := K) (P := IsQ K q) e h⟩
instance (K : PySem.W.Frag) (o : Option Rat) : Mo (IsO K o) := ⟨fun e h => Mt.mt (K := K) e.te h⟩
instance (K : PySem.W.Frag) (r : Row) : Mt K (IsRow K r) := ⟨fun e ⟨a, c, h1, h2, h3⟩ => ⟨a, c, h1, e _ _ h2, Mt.mt (K := K) e h3⟩⟩
instance (K : PySem.W.Frag) (r : Row) : Mo (IsRow K r) := ⟨fun e h => Mt.mt (K := K) e.te h⟩
instance (K : PySem.W.Frag) (p : Pt) : Mt K (IsPt K p) := ⟨fun e ⟨a, x, y, h1, h2, h3, h4⟩ => ⟨a, x, y, h1, e _ _ h2, Mt.mt (K := K) e h3, Mt.mt (K := K) e h4⟩⟩
instance (K : PySem.W.Frag) (p : Pt) : Mo (IsPt K p) := ⟨fun e h => Mt.mt (K := K) e.te h⟩
instance (K : PySem.W.Frag) (d : Dir) : Mt K (IsDir K d) := ⟨fun e ⟨a, h1, h2⟩ => ⟨a, h1, e _ _ h2⟩⟩
instance (K : PySem.W.Frag) (d : Dir) : Mo (IsDir K d) := ⟨fun e h => Mt.mt (K := K) e.te h⟩
/-- the items of a list, one by one -/
def All2 {α : Type} (P : α → P1) (vs : List V) (xs : List α) (H : Hp) : Prop := vs.length = xs.length ∧ ∀ (i : Nat) (v : V), vs[i]? = some v → ∃ x, xs[i]? = some x ∧ P x v H
def IsL {α : Type} (K : PySem.W.Frag) (P : α → P1) (xs : List α) : P1 := fun v H => ∃ a vs, v = .ref a ∧ SqL K H a vs ∧ All2 P vs xs H
section
variable {K : PySem.W.Frag} {α : Type} {P : α → P1} {vs ws : List V} {xs ys : List α} {H H' : Hp}
theorem All2.nil : All2 P [] [] H := ⟨rfl, fun i v h => by simp at h⟩
theorem All2.te [m : ∀ x, Mt K (P x)] (h : All2 P vs xs H) (e : Te K H H') : All2 P vs xs H' :=
  ⟨h.1, fun i v q => let ⟨x, h1, h2⟩ := h.2 i v q; ⟨x, h1, (m x).mt e h2⟩⟩
theorem All2.mo [m : ∀ x, Mo (P x)] (h : All2 P vs xs H) (e : Same H H') : All2 P vs xs H' :=
  ⟨h.1, fun i v q => let ⟨x, h1, h2⟩ := h.2 i v q; ⟨x, h1, (m x).mo e h2⟩⟩
theorem All2.snoc {v : V} {x : α} (h : All2 P vs xs H) (k : P x v H) : All2 P (vs ++ [v]) (xs ++ [x]) H := by
  refine ⟨by simp [h.1], fun i w q => ?_⟩
  by_cases hi : i < vs.length
  · rw [List.getElem?_append_left hi] at q
    obtain ⟨y, h1, h2⟩ := h.2 i w q
    exact ⟨y, by rw [List.getElem?_append_left (by rw [← h.1]; exact hi)]; exact h1, h2⟩
  · rw [List.getElem?_append_right (by omega)] at q
    have hi0 : i - vs.length = 0 := by
      apply Classical.byContradiction
      intro hn
      rw [List.getElem?_eq_none (by simp; omega)] at q
      cases q
    rw [hi0] at q
    cases q
    refine ⟨x, ?_, k⟩
    rw [List.getElem?_append_right (by have := h.1; omega), ← h.1, hi0]; rfl
theorem All2.append (h : All2 P vs xs H) (k : All2 P ws ys H) : All2 P (vs ++ ws) (xs ++ ys) H := by
  refine ⟨by simp [h.1, k.1], fun i w q => ?_⟩
  by_cases hi : i < vs.length
  · rw [List.getElem?_append_left hi] at q
    obtain ⟨y, h1, h2⟩ := h.2 i w q
    exact ⟨y, by rw [List.getElem?_append_left (by rw [← h.1]; exact hi)]; exact h1, h2⟩
  · rw [List.getElem?_append_right (by omega)] at q
    obtain ⟨y, h1, h2⟩ := k.2 _ w q
    exact ⟨y, by rw [List.getElem?_append_right (by have := h.1; omega), ← h.1]; exact h1, h2⟩
theorem All2.take (h : All2 P vs xs H) (n : Nat) : All2 P (vs.take n) (xs.take n) H := by
  refine ⟨by simp [h.1], fun i w q => ?_⟩
  rw [List.getElem?_take] at q
  split at q
  · rename_i hi
    obtain ⟨y, h1, h2⟩ := h.2 i w q
    exact ⟨y, by rw [List.getElem?_take, if_pos hi]; exact h1, h2⟩
  · cases q
theorem All2.drop (h : All2 P vs xs H) (n : Nat) : All2 P (vs.drop n) (xs.drop n) H := by
  refine ⟨by simp [h.1], fun i w q => ?_⟩
  rw [List.getElem?_drop] at q
  obtain ⟨y, h1, h2⟩ := h.2 _ w q
  exact ⟨y, by rw [List.getElem?_drop]; exact h1, h2⟩
theorem All2.cons {v : V} {x : α} (k : P x v H) (h : All2 P vs xs H) : All2 P (v :: vs) (x :: xs) H := by
  refine ⟨by simp [h.1], fun i w q => ?_⟩
  cases i with
  | zero => simp at q; subst q; exact ⟨x, by simp, k⟩
  | succ i => exact h.2 i w (by simpa using q)
/-- the i-th item -/
theorem All2.get (h : All2 P vs xs H) {i : Nat} {x : α} (q : xs[i]? = some x) : ∃ v, vs[i]? = some v ∧ P x v H := by
  have hi : i < xs.length := (List.getElem?_eq_some_iff.mp q).1
  have hl : i < vs.length := by rw [h.1]; exact hi
  have hv : vs[i]? = some vs[i] := List.getElem?_eq_getElem hl
  obtain ⟨y, h1, h2⟩ := h.2 i _ hv
  rw [q] at h1; cases h1
  exact ⟨_, hv, h2⟩
end
instance {α : Type} (K : PySem.W.Frag) (P : α → P1) [m : ∀ x, Mo (P x)] (xs : List α) : Mo (IsL K P xs) := ⟨fun e ⟨a, vs, h1, h2, h3⟩ => ⟨a, vs, h1, e.seq h2, h3.mo e⟩⟩

/-! ### evaluation: what an expression's reading gives, whatever is added meanwhile -/
def Ev (te : TE) (σ : L2.St) (H : Hp) (P : P1) : Prop := ∀ H1, Same H H1 → ∀ Q : VK, (∀ v H2, Same H1 H2 → P v H2 → Q v H2) → te σ H1 Q
def EvT (tt : TT) (σ : L2.St) (H : Hp) (b : Bool) : Prop := ∀ H1, Same H H1 → ∀ Q : Bool → Hp → Prop, (∀ H2, Same H1 H2 → Q b H2) → tt σ H1 Q
/-- values as they were told -/
def Fits : List P1 → List V → Hp → Prop
  | [], [], _ => True
  | P :: Ps, v :: vs, H => P v H ∧ Fits Ps vs H
  | _, _, _ => False
def EvA (ta : TA) (σ : L2.St) (H : Hp) (Ps : List P1) : Prop := ∀ H1, Same H H1 → ∀ Q : List V → Hp → Prop, (∀ vs H2, Same H1 H2 → Fits Ps vs H2 → Q vs H2) → ta σ H1 Q
section
variable {K : PySem.W.Frag} {σ : L2.St} {H H' : Hp} {te ta tb tc : TE} {tt tu : TT} {P P2 P3 : P1} {x : V}
theorem Fits.len : ∀ {Ps : List P1} {vs : List V}, Fits Ps vs H → vs.length = Ps.length
  | [], [], _ => rfl
  | P :: Ps, v :: vs, h => by simp [Fits.len h.2]
  | [], _ :: _, h => h.elim
  | _ :: _, [], h => h.elim
theorem Fits.one {vs : List V} (h : Fits [P] vs H) : ∃ v, vs = [v] ∧ P v H := by
  match vs, h with
  | [v], h => exact ⟨v, rfl, h.1⟩
theorem Fits.two {vs : List V} (h : Fits [P, P2] vs H) : ∃ v w, vs = [v, w] ∧ P v H ∧ P2 w H := by
  match vs, h with
  | [v, w], h => exact ⟨v, w, rfl, h.1, h.2.1⟩
theorem Fits.three {vs : List V} (h : Fits [P, P2, P3] vs H) : ∃ v w x, vs = [v, w, x] ∧ P v H ∧ P2 w H ∧ P3 x H := by
  match vs, h with
  | [v, w, x], h => exact ⟨v, w, x, rfl, h.1, h.2.1, h.2.2.1⟩
theorem Ev.go (h : Ev te σ H P) {Q : VK} (k : ∀ v H1, Same H H1 → P v H1 → Q v H1) : te σ H Q := h H (Same.refl H) Q k
theorem EvT.go {b : Bool} (h : EvT tt σ H b) {Q : Bool → Hp → Prop} (k : ∀ H1, Same H H1 → Q b H1) : tt σ H Q := h H (Same.refl H) Q k
theorem EvA.go {t : TA} {Ps : List P1} (h : EvA t σ H Ps) {Q : List V → Hp → Prop} (k : ∀ vs H1, Same H H1 → Fits Ps vs H1 → Q vs H1) : t σ H Q := h H (Same.refl H) Q k
theorem Ev.up (e : Same H H') (h : Ev te σ H P) : Ev te σ H' P := fun H1 a Q q => h H1 (e.trans a) Q q
theorem EvT.up {b : Bool} (e : Same H H') (h : EvT tt σ H b) : EvT tt σ H' b := fun H1 a Q q => h H1 (e.trans a) Q q
theorem Ev.imp (h : Ev te σ H P) (k : ∀ v H1, Same H H1 → P v H1 → P2 v H1) : Ev te σ H P2 := fun H1 a Q q => h H1 a Q fun v H2 b p => q v H2 b (k v H2 (a.trans b) p)
theorem ev_var {i : Nat} {v : V} (h : σ[i]? = some (some v)) (p : P v H) [m : Mo P] : Ev (tVar i) σ H P := fun H1 a _ q => ⟨v, h, q v H1 (Same.refl H1) (m.mo a p)⟩
theorem ev_v {i : Nat} {x : V} (h : σ[i]? = some (some x)) : Ev (tVar i) σ H (IsV x) := ev_var (P := IsV x) h rfl
theorem ev_c : Ev (tC x) σ H (IsV x) := fun H1 _ _ q => q x H1 (Same.refl H1) rfl
theorem ev_op {r : R2} [m : Mo P] (ha : Ev ta σ H P) (hb : Ev tb σ H P2) (hr : ∀ x y H1, Same H H1 → P x H1 → P2 y H1 → ∀ Q : VK, (∀ v H2, Same H1 H2 → P3 v H2 → Q v H2) → r x y H1 Q) : Ev (tOp r ta tb) σ H P3 := fun H1 e Q q =>
  ha H1 e _ fun x H2 e2 px => hb H2 (e.trans e2) _ fun y H3 e3 py => hr x y H3 ((e.trans e2).trans e3) (m.mo e3 px) py Q fun v H4 e4 => q v H4 ((e2.trans e3).trans e4)
theorem ev_i0 {g : Int → Int → V} {i j : Int} (ha : Ev ta σ H (IsI i)) (hb : Ev tb σ H (IsI j)) : Ev (tOp (rI0 g) ta tb) σ H (IsV (g i j)) :=
  ev_op ha hb fun x y H1 _ hx hy Q q => ⟨i, j, hx, hy, q _ H1 (Same.refl H1) rfl⟩
theorem ev_i {C : Int → Int → Prop} {g : Int → Int → V} {i j : Int} (ha : Ev ta σ H (IsI i)) (hb : Ev tb σ H (IsI j)) (hc : C i j) : Ev (tOp (rI C g) ta tb) σ H (IsV (g i j)) :=
  ev_op ha hb fun x y H1 _ hx hy Q q => ⟨i, j, hx, hy, hc, q _ H1 (Same.refl H1) rfl⟩
theorem ev_neg {i : Int} (ha : Ev ta σ H (IsI i)) : Ev (tUn (rU fun i => .int (-i)) ta) σ H (IsI (-i)) := fun H1 e Q q =>
  ha H1 e _ fun x H2 e2 px => ⟨i, px, q _ H2 e2 rfl⟩
/-- == and != of scalars -/
theorem ev_eq {x y : V} (ha : Ev ta σ H (IsV x)) (hb : Ev tb σ H (IsV y)) (hs : scal x y = true) : Ev (tOp rEq ta tb) σ H (IsB (decide (x = y))) :=
  ev_op ha hb fun _ _ H1 _ hx hy Q q => by cases hx; cases hy; exact ⟨hs, q _ H1 (Same.refl H1) rfl⟩
theorem ev_ne {x y : V} (ha : Ev ta σ H (IsV x)) (hb : Ev tb σ H (IsV y)) (hs : scal x y = true) : Ev (tOp rNe ta tb) σ H (IsB (!decide (x = y))) :=
  ev_op ha hb fun _ _ H1 _ hx hy Q q => by cases hx; cases hy; exact ⟨hs, q _ H1 (Same.refl H1) rfl⟩
theorem ev_eqI {i j : Int} (ha : Ev ta σ H (IsI i)) (hb : Ev tb σ H (IsI j)) : Ev (tOp rEq ta tb) σ H (IsB (decide (i = j))) :=
  (ev_eq ha hb rfl).imp fun v _ _ h => by
    have e : decide (V.int i = V.int j) = decide (i = j) := by rw [dec_int, Bool.beq_eq_decide_eq]
    rw [e] at h; exact h
theorem ev_neI {i j : Int} (ha : Ev ta σ H (IsI i)) (hb : Ev tb σ H (IsI j)) : Ev (tOp rNe ta tb) σ H (IsB (!decide (i = j))) :=
  (ev_ne ha hb rfl).imp fun v _ _ h => by
    have e : decide (V.int i = V.int j) = decide (i = j) := by rw [dec_int, Bool.beq_eq_decide_eq]
    rw [e] at h; exact h
/-- is None, is not None -/
theorem isO_dec {o : Option Rat} {v : V} (h : IsO K o v H) : decide (v = V.non) = o.isNone := by
  cases o with
  | none => cases h; rfl
  | some q => obtain ⟨a, e, _⟩ := h; subst e; rfl
theorem ev_isN {o : Option Rat} (ha : Ev ta σ H (IsO K o)) : Ev (tOp (fun x y H Q => y = .non ∧ Q (.bl (decide (x = .non))) H) ta (tC .non)) σ H (IsB o.isNone) :=
  ev_op ha ev_c fun _ _ H1 _ hx hy Q q => ⟨hy, by rw [isO_dec hx]; exact q _ H1 (Same.refl H1) rfl⟩
theorem ev_notN {o : Option Rat} (ha : Ev ta σ H (IsO K o)) : Ev (tOp (fun x y H Q => y = .non ∧ Q (.bl (!decide (x = .non))) H) ta (tC .non)) σ H (IsB o.isSome) :=
  ev_op ha ev_c fun _ _ H1 _ hx hy Q q => ⟨hy, by rw [isO_dec hx]; exact q _ H1 (Same.refl H1) (by cases o <;> rfl)⟩
/-- items of tuples -/
theorem ev_ix {xs : List V} {i : Nat} {p : Addr} {v : V} (ha : Ev ta σ H P) (hq : ∀ x H1, Same H H1 → P x H1 → ∃ p xs v, x = .ref p ∧ SqT K H1 p xs ∧ xs[i]? = some v ∧ P2 v H1) : Ev (tOp (rIxT K) ta (tC (.int (i : Nat)))) σ H P2 := fun H1 e Q q =>
  ha H1 e _ fun x H2 e2 px => let ⟨p, xs, v, e1, h1, h2, h3⟩ := hq x H2 (e.trans e2) px; ⟨p, xs, (i : Nat), v, e1, rfl, h1, atI_nat h2, q v H2 e2 h3⟩
theorem ev_q0 {q : Rat} (ha : Ev ta σ H (IsQ K q)) : Ev (tOp (rIxT K) ta (tC (.int 0))) σ H (IsI q.num) :=
  ev_ix (xs := []) (i := 0) (p := 0) (v := .non) ha fun _ _ _ ⟨a, h1, h2⟩ => ⟨a, _, _, h1, h2, rfl, rfl⟩
theorem ev_q1 {q : Rat} (ha : Ev ta σ H (IsQ K q)) : Ev (tOp (rIxT K) ta (tC (.int 1))) σ H (IsI (q.den : Int)) :=
  ev_ix (xs := []) (i := 1) (p := 0) (v := .non) ha fun _ _ _ ⟨a, h1, h2⟩ => ⟨a, _, _, h1, h2, rfl, rfl⟩
theorem ev_r0 {r : Row} (ha : Ev ta σ H (IsRow K r)) : Ev (tOp (rIxT K) ta (tC (.int 0))) σ H (IsI r.a) :=
  ev_ix (xs := []) (i := 0) (p := 0) (v := .non) ha fun _ _ _ ⟨a, c, h1, h2, h3⟩ => ⟨a, _, _, h1, h2, rfl, rfl⟩
theorem ev_r1 {r : Row} (ha : Ev ta σ H (IsRow K r)) : Ev (tOp (rIxT K) ta (tC (.int 1))) σ H (IsI r.b) :=
  ev_ix (xs := []) (i := 1) (p := 0) (v := .non) ha fun _ _ _ ⟨a, c, h1, h2, h3⟩ => ⟨a, _, _, h1, h2, rfl, rfl⟩
theorem ev_r2 {r : Row} (ha : Ev ta σ H (IsRow K r)) : Ev (tOp (rIxT K) ta (tC (.int 2))) σ H (IsQ K r.c) :=
  ev_ix (xs := []) (i := 2) (p := 0) (v := .non) ha fun _ _ _ ⟨a, c, h1, h2, h3⟩ => ⟨a, _, _, h1, h2, rfl, h3⟩
theorem ev_p0 {p : Pt} (ha : Ev ta σ H (IsPt K p)) : Ev (tOp (rIxT K) ta (tC (.int 0))) σ H (IsQ K p.1) :=
  ev_ix (xs := []) (i := 0) (p := 0) (v := .non) ha fun _ _ _ ⟨a, x, y, h1, h2, h3, h4⟩ => ⟨a, _, _, h1, h2, rfl, h3⟩
theorem ev_p1 {p : Pt} (ha : Ev ta σ H (IsPt K p)) : Ev (tOp (rIxT K) ta (tC (.int 1))) σ H (IsQ K p.2) :=
  ev_ix (xs := []) (i := 1) (p := 0) (v := .non) ha fun _ _ _ ⟨a, x, y, h1, h2, h3, h4⟩ => ⟨a, _, _, h1, h2, rfl, h4⟩
/-- an item of a list at a known place -/
theorem ev_ixL {α : Type} {R : α → P1} [∀ x, Mo (R x)] {xs : List α} {i : Nat} {x : α} (ha : Ev ta σ H (IsL K R xs)) (hb : Ev tb σ H (IsI (i : Nat))) (hx : xs[i]? = some x) : Ev (tOp (rIxL K) ta tb) σ H (R x) :=
  ev_op ha hb fun _ _ H1 _ ⟨a, vs, e1, h1, h2⟩ hy Q q => let ⟨v, h3, h4⟩ := h2.get hx; ⟨a, vs, (i : Nat), v, e1, hy, h1, atI_nat h3, q v H1 (Same.refl H1) h4⟩

/-! ### arguments, displays, calls -/
theorem ea_nil : EvA tNil σ H [] := fun H1 _ _ q => q [] H1 (Same.refl H1) trivial
theorem ea_cons {tr : TA} {Ps : List P1} [m : Mo P] (h : Ev te σ H P) (hr : EvA tr σ H Ps) : EvA (tCons te tr) σ H (P :: Ps) := fun H1 e _ q =>
  h H1 e _ fun x H2 e2 px => hr H2 (e.trans e2) _ fun vs H3 e3 f => q (x :: vs) H3 (e2.trans e3) ⟨m.mo e3 px, f⟩
/-- a new tuple of values -/
theorem ev_tup {t : TA} {Ps : List P1} (h : EvA t σ H Ps) (hl : Ps.length ≤ 1000) (hp : ∀ vs p H1, Fits Ps vs H1 → H1 p = none → P (.ref p) (upd H1 p (.tup vs))) : Ev (tTup t) σ H P := fun H1 e _ q =>
  h H1 e _ fun vs H2 e2 f => ⟨by rw [f.len]; exact Nat.le_trans hl (by decide), fun p np => q _ _ (e2.trans (same_new np)) (hp vs p H2 f np)⟩
theorem ev_lst {t : TA} {Ps : List P1} (h : EvA t σ H Ps) (hl : Ps.length ≤ 1000) (hp : ∀ vs p H1, Fits Ps vs H1 → H1 p = none → P (.ref p) (upd H1 p (.lst vs))) : Ev (tLst t) σ H P := fun H1 e _ q =>
  h H1 e _ fun vs H2 e2 f => ⟨by rw [f.len]; exact Nat.le_trans hl (by decide), fun p np => q _ _ (e2.trans (same_new np)) (hp vs p H2 f np)⟩
theorem ev_mkQ {i j : Int} {q : Rat} (ha : Ev ta σ H (IsI i)) (hb : Ev tb σ H (IsI j)) (e1 : i = q.num) (e2 : j = (q.den : Int)) : Ev (tTup (tCons ta (tCons tb tNil))) σ H (IsQ K q) :=
  ev_tup (ea_cons ha (ea_cons hb ea_nil)) (by show 2 ≤ 1000; decide) fun vs p H1 f np => by
    obtain ⟨v, w, rfl, rfl, rfl⟩ := f.two
    exact ⟨p, rfl, .of (by rw [upd_same, e1, e2])⟩
theorem ev_mkDir {i j : Int} (ha : Ev ta σ H (IsI i)) (hb : Ev tb σ H (IsI j)) : Ev (tTup (tCons ta (tCons tb tNil))) σ H (IsDir K (i, j)) :=
  ev_tup (ea_cons ha (ea_cons hb ea_nil)) (by show 2 ≤ 1000; decide) fun vs p H1 f np => by
    obtain ⟨v, w, rfl, rfl, rfl⟩ := f.two
    exact ⟨p, rfl, .of upd_same⟩
theorem ev_mkRow {r : Row} (ha : Ev ta σ H (IsI r.a)) (hb : Ev tb σ H (IsI r.b)) (hc : Ev tc σ H (IsQ K r.c)) : Ev (tTup (tCons ta (tCons tb (tCons tc tNil)))) σ H (IsRow K r) :=
  ev_tup (ea_cons ha (ea_cons hb (ea_cons hc ea_nil))) (by show 3 ≤ 1000; decide) fun vs p H1 f np => by
    obtain ⟨v, w, x, rfl, rfl, rfl, h⟩ := f.three
    exact ⟨p, x, rfl, .of upd_same, Mo.mo (same_new np) h⟩
theorem ev_mkPt {x y : Rat} (ha : Ev ta σ H (IsQ K x)) (hb : Ev tb σ H (IsQ K y)) : Ev (tTup (tCons ta (tCons tb tNil))) σ H (IsPt K (x, y)) :=
  ev_tup (ea_cons ha (ea_cons hb ea_nil)) (by show 2 ≤ 1000; decide) fun vs p H1 f np => by
    obtain ⟨v, w, rfl, h1, h2⟩ := f.two
    exact ⟨p, v, w, rfl, .of upd_same, Mo.mo (same_new np) h1, Mo.mo (same_new np) h2⟩
/-- what a def promises: an answer, and that what stood stands -/
def SpF (R : List V → Hp → P1 → Prop) : Sp := fun vs H Q _ => ∃ P, R vs H P ∧ ∀ v H', Same H H' → P v H' → Q v H'
theorem ev_call {R : List V → Hp → P1 → Prop} {E : XK} {t : TA} {Ps : List P1} (h : EvA t σ H Ps) (hs : ∀ vs H1, Same H H1 → Fits Ps vs H1 → R vs H1 P) : Ev (tCall (SpF R) [] E t) σ H P := fun H1 e Q q =>
  h H1 e _ fun vs H2 e2 f => ⟨P, by rw [List.append_nil]; exact hs vs H2 (e.trans e2) f, fun v H3 e3 p => q v H3 (e2.trans e3) p⟩
/-- a call of a built-in -/
theorem ev_cb {r : List V → Hp → VK → Prop} {t : TA} {Ps : List P1} (h : EvA t σ H Ps) (hr : ∀ vs H1, Same H H1 → Fits Ps vs H1 → ∀ Q : VK, (∀ v H2, Same H1 H2 → P v H2 → Q v H2) → r vs H1 Q) : Ev (tCB r t) σ H P := fun H1 e Q q =>
  h H1 e _ fun vs H2 e2 f => hr vs H2 (e.trans e2) f Q fun v H3 e3 => q v H3 (e2.trans e3)
theorem ev_abs {i : Int} (ha : Ev ta σ H (IsI i)) : Ev (tCB (fun xs H Q => ∃ i, xs = [.int i] ∧ Q (.int (if i < 0 then -i else i)) H) (tCons ta tNil)) σ H (IsI (i.natAbs : Int)) :=
  ev_cb (ea_cons ha ea_nil) fun vs H1 _ f Q q => by
    obtain ⟨v, rfl, rfl⟩ := f.one
    have e : (if i < 0 then -i else i) = (i.natAbs : Int) := by split <;> omega
    exact ⟨i, rfl, by rw [e]; exact q _ H1 (Same.refl H1) rfl⟩
theorem ev_len {α : Type} {R : α → P1} [∀ x, Mo (R x)] {xs : List α} (ha : Ev ta σ H (IsL K R xs)) : Ev (tCB (fun xs H Q => ∃ p ys, xs = [.ref p] ∧ (SqL K H p ys ∨ SqT K H p ys) ∧ Q (.int ys.length) H) (tCons ta tNil)) σ H (IsI (xs.length : Int)) :=
  ev_cb (ea_cons ha ea_nil) fun vs H1 _ f Q q => by
    obtain ⟨v, rfl, a, ws, rfl, h1, h2⟩ := f.one
    exact ⟨a, ws, rfl, .inl h1, by rw [h2.1]; exact q _ H1 (Same.refl H1) rfl⟩

/-! ### tests -/
theorem et_val {b : Bool} (h : Ev te σ H (IsB b)) : EvT (tTest te) σ H b := fun H1 e _ q => h H1 e _ fun v H2 e2 p => ⟨b, p, q H2 e2⟩
theorem et_B {b : Bool} (h : Ev te σ H (IsB b)) : EvT (tB te) σ H b := fun H1 e _ q => h H1 e _ fun v H2 e2 p => ⟨b, p, q H2 e2⟩
theorem et_not {b : Bool} (h : EvT tt σ H b) : EvT (tNot tt) σ H (!b) := fun H1 e _ q => h H1 e _ fun H2 e2 => q H2 e2
theorem et_and {a b : Bool} (h1 : EvT tt σ H a) (h2 : a = true → EvT tu σ H b) : EvT (tAnd tt tu) σ H (a && b) := fun H1 e Q q => h1 H1 e _ fun H2 e2 => by
  cases a with
  | true => exact iteT (h2 rfl H2 (e.trans e2) Q fun H3 e3 => q H3 (e2.trans e3))
  | false => exact iteF (q H2 e2)
theorem et_or {a b : Bool} (h1 : EvT tt σ H a) (h2 : a = false → EvT tu σ H b) : EvT (tOr tt tu) σ H (a || b) := fun H1 e Q q => h1 H1 e _ fun H2 e2 => by
  cases a with
  | true => exact iteT (q H2 e2)
  | false => exact iteF (h2 rfl H2 (e.trans e2) Q fun H3 e3 => q H3 (e2.trans e3))
theorem et_is {a b : Bool} (h : EvT tt σ H a) (e : a = b) : EvT tt σ H b := e ▸ h
theorem ev_is {x y : V} (h : Ev te σ H (IsV x)) (e : x = y) : Ev te σ H (IsV y) := e ▸ h
theorem ev_and {a b : Bool} (h1 : Ev ta σ H (IsB a)) (h2 : a = true → Ev tb σ H (IsB b)) : Ev (tAndV ta tb) σ H (IsB (a && b)) := fun H1 e Q q => h1 H1 e _ fun v H2 e2 p => ⟨a, p, by
  cases a with
  | true => exact iteT (h2 rfl H2 (e.trans e2) Q fun v H3 e3 => q v H3 (e2.trans e3))
  | false => exact iteF (q _ H2 e2 rfl)⟩
theorem ev_or {a b : Bool} (h1 : Ev ta σ H (IsB a)) (h2 : a = false → Ev tb σ H (IsB b)) : Ev (tOrV ta tb) σ H (IsB (a || b)) := fun H1 e Q q => h1 H1 e _ fun v H2 e2 p => ⟨a, p, by
  cases a with
  | true => exact iteT (q _ H2 e2 rfl)
  | false => exact iteF (h2 rfl H2 (e.trans e2) Q fun v H3 e3 => q v H3 (e2.trans e3))⟩
theorem ev_not {a : Bool} (h : Ev ta σ H (IsB a)) : Ev (tNotV ta) σ H (IsB (!a)) := fun H1 e _ q => h H1 e _ fun v H2 e2 p => ⟨a, p, q _ H2 e2 rfl⟩
theorem ev_if {b : Bool} (h : EvT tt σ H b) (h1 : b = true → Ev ta σ H P) (h2 : b = false → Ev tb σ H P) : Ev (tIf tt ta tb) σ H P := fun H1 e Q q => h H1 e _ fun H2 e2 => by
  cases b with
  | true => exact iteT (h1 rfl H2 (e.trans e2) Q fun v H3 e3 => q v H3 (e2.trans e3))
  | false => exact iteF (h2 rfl H2 (e.trans e2) Q fun v H3 e3 => q v H3 (e2.trans e3))
end
end Tk
namespace Tk
open PySem L2 Ts
/-! ### statements -/
section
variable {K : PySem.W.Frag} {σ : L2.St} {H H' : Hp} {te ta tb tc : TE} {tt : TT} {t u : TS} {P P2 P3 : P1} {i j l : Nat} {nx bk ct : L2.St → Hp → Prop} {rt : VK}
theorem seq_go (h : t ⟨u ⟨nx, rt, bk, ct⟩, rt, bk, ct⟩ σ H) : tSeq t u ⟨nx, rt, bk, ct⟩ σ H := h
theorem set_go (h : Ev te σ H P) (k : ∀ v H1, Same H H1 → P v H1 → nx (σ.set i (some v)) H1) : tAsg te (gName i) ⟨nx, rt, bk, ct⟩ σ H := h.go k
theorem ret_go (h : Ev te σ H P) (k : ∀ v H1, Same H H1 → P v H1 → rt v H1) : tRet te ⟨nx, rt, bk, ct⟩ σ H := h.go k
theorem expr_go (h : Ev te σ H P) (k : ∀ v H1, Same H H1 → P v H1 → nx σ H1) : tDrop te ⟨nx, rt, bk, ct⟩ σ H := h.go k
theorem par_go {t : TA} (h : EvA t σ H [P, P2]) (k : ∀ v w H1, Same H H1 → P v H1 → P2 w H1 → nx ((σ.set i (some v)).set j (some w)) H1) : tPar i j t ⟨nx, rt, bk, ct⟩ σ H := h.go fun vs H1 e f => by
  obtain ⟨v, w, rfl, h1, h2⟩ := f.two
  exact ⟨v, w, rfl, k v w H1 e h1 h2⟩
/-- an if statement -/
theorem if_go {b : Bool} (h : EvT tt σ H b) (h1 : b = true → ∀ H1, Same H H1 → t ⟨nx, rt, bk, ct⟩ σ H1) (h2 : b = false → ∀ H1, Same H H1 → u ⟨nx, rt, bk, ct⟩ σ H1) : tIfS tt t u ⟨nx, rt, bk, ct⟩ σ H := h.go fun H1 e => by
  cases b with
  | true => exact iteT (h1 rfl H1 e)
  | false => exact iteF (h2 rfl H1 e)
/-- the ways of a statement, joined -/
theorem join_go {t : TS} (M : L2.St → Hp → Prop) (h1 : ∀ σ' H', M σ' H' → nx σ' H') (h2 : ∀ nx' : L2.St → Hp → Prop, (∀ σ' H', M σ' H' → nx' σ' H') → t ⟨nx', rt, bk, ct⟩ σ H) : t ⟨nx, rt, bk, ct⟩ σ H := h2 nx h1
theorem nil_go (h : nx σ H) : tNext ⟨nx, rt, bk, ct⟩ σ H := h
/-- a, b, c = row -/
abbrev gRow (K : PySem.W.Frag) (i j l : Nat) : TG := gTup K 3 (gCons (gName i) (gCons (gName j) (gCons (gName l) gNil)))
theorem row_tg {r : Row} {v : V} {Q : L2.St → Hp → Prop} (h : IsRow K r v H) (k : ∀ c, IsQ K r.c c H → Q (((σ.set i (some (.int r.a))).set j (some (.int r.b))).set l (some c)) H) : gRow K i j l v σ H Q := by
  obtain ⟨a, c, rfl, h1, h2⟩ := h
  exact ⟨a, _, rfl, h1, rfl, _, _, rfl, _, _, rfl, _, _, rfl, rfl, k c h2⟩
theorem row_go {r : Row} (h : Ev te σ H (IsRow K r)) (k : ∀ c H1, Same H H1 → IsQ K r.c c H1 → nx (((σ.set i (some (.int r.a))).set j (some (.int r.b))).set l (some c)) H1) : tAsg te (gRow K i j l) ⟨nx, rt, bk, ct⟩ σ H :=
  h.go fun v H1 e p => row_tg p fun c hc => k c H1 e hc
end
end Tk
namespace Tk
open PySem L2 Ts
section
variable {K : PySem.W.Frag} {σ : L2.St} {H H' : Hp} {te ta tb tc : TE} {P P2 P3 : P1}
theorem bits_le {n : Nat} {i : Int} (h : Sz n i) : bits i ≤ n + 1 := by
  unfold bits
  by_cases h0 : i.natAbs = 0
  · rw [h0]; show 0 + 1 ≤ n + 1; omega
  · have : i.natAbs.log2 < n + 1 := (Nat.log2_lt h0).mpr (Nat.lt_of_le_of_lt h (Nat.pow_lt_pow_right (by decide) (by omega)))
    omega
theorem mulG {n m : Nat} {i j : Int} (h : Sz n i) (k : Sz m j) (e : n + m ≤ 134217720) : CMulG i j := by
  have := bits_le h
  have := bits_le k
  unfold CMulG
  omega
theorem mulLL {i j : Int} (h : Sz LL i) (k : Sz LL j) : CMulG i j := mulG h k (by unfold LL; omega)
theorem room_pyl {k : Nat} {A : Around} (hr : Room k A) (h : 32 ≤ k) : A.depth + Builtin.pylongFrames < recursionLimit := by
  have := hr.dp
  unfold Builtin.pylongFrames
  omega
theorem tyx_tup {a : Addr} {xs : List V} (h : SqT K H a xs) : TyX K H (.ref a) (.type "tuple") := by
  rcases h with (h | ⟨o, h⟩) | ⟨o, _, _, h, h2, _⟩
  · exact .base (.tup h)
  · exact .fTuple h
  · exact .kTuple h h2
theorem ev_isi {s T : String} {b : Bool} (ha : Ev ta σ H P) (ht : ∀ x H1, Same H H1 → P x H1 → TyX K H1 x (.type s)) (hk : kitB s T = some b) : Ev (tCB (rIsi K) (tCons ta (tCons (tC (.ty T)) tNil))) σ H (IsB b) :=
  fun H1 e Q q => ha H1 e _ fun x H2 e2 p => ⟨x, .ty T, .type s, .type T, b, rfl, .ty T, ht x H2 (e.trans e2) p, kit_ty hk, q _ H2 e2 rfl⟩
theorem ev_lenT {n : Nat} (ha : Ev ta σ H P) (ht : ∀ x H1, Same H H1 → P x H1 → ∃ p xs, x = .ref p ∧ SqT K H1 p xs ∧ xs.length = n) :
    Ev (tCB (fun xs H Q => ∃ p ys, xs = [.ref p] ∧ (SqL K H p ys ∨ SqT K H p ys) ∧ Q (.int ys.length) H) (tCons ta tNil)) σ H (IsI (n : Int)) :=
  fun H1 e Q q => ha H1 e _ fun x H2 e2 p => let ⟨a, xs, e3, h1, h2⟩ := ht x H2 (e.trans e2) p; ⟨a, xs, by rw [e3], .inr h1, by rw [h2]; exact q _ H2 e2 rfl⟩
theorem ev_eqB {x y : V} {b : Bool} (ha : Ev ta σ H (IsV x)) (hb : Ev tb σ H (IsV y)) (hs : scal x y = true) (e : decide (x = y) = b) : Ev (tOp rEq ta tb) σ H (IsB b) := e ▸ ev_eq ha hb hs
theorem et_neI {i j : Int} {b : Bool} (ha : Ev ta σ H (IsI i)) (hb : Ev tb σ H (IsI j)) (e : (!decide (i = j)) = b) : EvT (tTest (tOp rNe ta tb)) σ H b := e ▸ et_val (ev_neI ha hb)
theorem et_eqI {i j : Int} {b : Bool} (ha : Ev ta σ H (IsI i)) (hb : Ev tb σ H (IsI j)) (e : decide (i = j) = b) : EvT (tTest (tOp rEq ta tb)) σ H b := e ▸ et_val (ev_eqI ha hb)
theorem et_i0 {p : Int → Int → Bool} {i j : Int} {b : Bool} (ha : Ev ta σ H (IsI i)) (hb : Ev tb σ H (IsI j)) (e : p i j = b) : EvT (tTest (tOp (rI0 fun i j => .bl (p i j)) ta tb)) σ H b := e ▸ et_val (ev_i0 ha hb)
end
end Tk
namespace Tk
open PySem L2 Ts
/-! ### loops -/
section
variable {K : PySem.W.Frag} {σ : L2.St} {H H' : Hp} {te : TE} {g : TG} {tb : TS} {nx bk ct : L2.St → Hp → Prop} {rt : VK} {xs : List V}
/-- a value that is a list (a tuple) of these items -/
abbrev RefL (K : PySem.W.Frag) (xs : List V) : P1 := fun v H => ∃ a, v = .ref a ∧ SqL K H a xs
abbrev RefT (K : PySem.W.Frag) (xs : List V) : P1 := fun v H => ∃ a, v = .ref a ∧ SqT K H a xs
instance : Mo (RefL K xs) := ⟨fun e ⟨a, h1, h2⟩ => ⟨a, h1, e.seq h2⟩⟩
instance : Mo (RefT K xs) := ⟨fun e ⟨a, h1, h2⟩ => ⟨a, h1, e.te _ _ h2⟩⟩
/-- a loop by what holds between its turns -/
def LoopL (keep : Hp → Prop) (xs : List V) (yld : Nat → V → Hp → V → Hp → Prop) (g : TG) (tb : TS) (nx : L2.St → Hp → Prop) (rt : VK) (σ : L2.St) (H : Hp) : Prop :=
  ∃ Pv : Nat → L2.St → Hp → Prop, Pv 0 σ H ∧ (∀ i σ H, i ≤ xs.length → Pv i σ H → keep H) ∧
    (∀ i x σ H v H', xs[i]? = some x → Pv i σ H → yld i x H v H' → g v σ H' fun σ2 H2 => tb ⟨Pv (i + 1), rt, nx, Pv (i + 1)⟩ σ2 H2) ∧ ∀ σ H, Pv xs.length σ H → nx σ H
def yAt : Nat → V → Hp → V → Hp → Prop := fun _ x H v H' => v = x ∧ H' = H
def yEn : Nat → V → Hp → V → Hp → Prop := fun i x H v H' => ∃ T, v = .ref T ∧ H T = none ∧ H' = upd H T (.tup [.int (i : Nat), x])
theorem list_go (he : Ev te σ H (RefL K xs)) (k : ∀ a H1, Same H H1 → SqL K H1 a xs → LoopL (fun H2 => SqL K H2 a xs) xs yAt g tb nx rt σ H1) : tFor (iList K te) g tb ⟨nx, rt, bk, ct⟩ σ H := he.go fun v H1 e p => by
  obtain ⟨a, rfl, hx⟩ := p
  obtain ⟨Pv, h0, hl, hs, hd⟩ := k a H1 e hx
  exact ⟨a, rfl, ⟨_, hx⟩, for_list Pv h0 hl (fun i x σ H q p => hs i x σ H x H q p ⟨rfl, rfl⟩) hd⟩
theorem tuple_go (he : Ev te σ H (RefT K xs)) (k : ∀ a H1, Same H H1 → SqT K H1 a xs → LoopL (fun H2 => SqT K H2 a xs) xs yAt g tb nx rt σ H1) : tFor (iTup K te) g tb ⟨nx, rt, bk, ct⟩ σ H := he.go fun v H1 e p => by
  obtain ⟨a, rfl, hx⟩ := p
  obtain ⟨Pv, h0, hl, hs, hd⟩ := k a H1 e hx
  exact ⟨a, rfl, ⟨_, hx⟩, for_tup Pv h0 hl (fun i x σ H q p => hs i x σ H x H q p ⟨rfl, rfl⟩) hd⟩
theorem enum_go (he : Ev te σ H (RefL K xs)) (k : ∀ a H1, Same H H1 → SqL K H1 a xs → LoopL (fun H2 => SqL K H2 a xs) xs yEn g tb nx rt σ H1) : tFor (iEnum K (tCons te tNil)) g tb ⟨nx, rt, bk, ct⟩ σ H := he.go fun v H1 e p => by
  obtain ⟨a, rfl, hx⟩ := p
  obtain ⟨Pv, h0, hl, hs, hd⟩ := k a H1 e hx
  refine ⟨a, xs, rfl, hx, for_it walk_enum Pv h0 hl (fun i v σ H2 H3 hi p y => ?_) hd⟩
  obtain ⟨T, x, y, rfl, hT, rfl, e1, e2⟩ := y
  cases e1
  exact hs i y σ H2 _ _ e2 p ⟨T, rfl, hT, rfl⟩
end
/-! ### comprehensions -/
section
variable {K : PySem.W.Frag} {σ : L2.St} {H H' : Hp} {ts te : TE} {tt : TT} {g : TG} {xs : List V} {vs : List Nat} {P : P1}
/-- a list made anew -/
def NewL {α : Type} (P : α → P1) (xs : List α) : P1 := fun v H => ∃ a vs, v = .ref a ∧ H a = some (.lst vs) ∧ All2 P vs xs H
theorem NewL.isL {α : Type} {P : α → P1} {xs : List α} {v : V} {H : Hp} (h : NewL P xs v H) : IsL K P xs v H :=
  let ⟨a, vs, e, h1, h2⟩ := h; ⟨a, vs, e, .of h1, h2⟩
instance {α : Type} (P : α → P1) [m : ∀ x, Mo (P x)] (xs : List α) : Mo (NewL P xs) := ⟨fun e ⟨a, vs, h1, h2, h3⟩ => ⟨a, vs, h1, e _ _ h2, h3.mo e⟩⟩
/-- one turn of a comprehension -/
def TurnC {β : Type} (g : TG) (tt : TT) (te : TE) (vs : List Nat) (σ : L2.St) (R : β → P1) (o : Option β) (x : V) (H : Hp) : Prop :=
  g x (wipe σ vs) H fun σ2 H2 => H2 = H ∧ wipe σ2 vs = wipe σ vs ∧ match o with
    | some y => EvT tt σ2 H true ∧ Ev te σ2 H (R y)
    | none => EvT tt σ2 H false
theorem comp_core {α β : Type} {J : It} {G : Hp → Prop} {S : α → P1} {R : β → P1} [mS : ∀ a, Mo (S a)] [mR : ∀ b, Mt K (R b)] {ds : List α} {F : α → Option β} {D : Addr} {Q : V → Hp → Prop}
    (w : Walk J xs.length G (YAt xs)) (hG : ∀ H1, Same H H1 → G H1) (hx : All2 S xs ds H) (hD : H D = none) (hl : ds.length < sizeLine)
    (hs : ∀ d x H1, d ∈ ds → S d x H1 → Same H H1 → TurnC g tt te vs σ R (F d) x H1) (hg : ∀ x σ H Q Q', (∀ σ2 H2, Q σ2 H2 → Q' σ2 H2) → g x σ H Q → g x σ H Q')
    (hq : ∀ H1 ys, Same H H1 → H1 D = some (.lst ys) → All2 R ys (ds.filterMap F) H1 → Q (.ref D) H1) :
    ∃ W : Nat → Nat → Hp → Prop, (∃ m, W 0 m (upd H D (.lst []))) ∧ ∀ i m H, W i m H →
      (J.stop i H ∧ Q (.ref D) H) ∨ (J.go i H ∧ ∃ Nx : Hp → Prop, (∀ H', Nx H' → ∃ m', m' < m ∧ W (i + 1) m' H') ∧ ∀ x H', J.yld i H x H' → g x (wipe σ vs) H' fun σ2 H2 => wipe σ2 vs = wipe σ vs ∧ tt σ2 H2 fun b H3 =>
        if b = true then te σ2 H3 fun y H4 => ∃ acc, H4 D = some (.lst acc) ∧ acc.length < sizeLine ∧ Nx (upd H4 D (.lst (acc ++ [y]))) else Nx H3) := by
  refine lc_it w (fun i H1 => Same H H1 ∧ ∃ acc, H1 D = some (.lst acc) ∧ acc.length ≤ i ∧ All2 R acc ((ds.take i).filterMap F) H1) ?_ (fun i H1 _ p => hG H1 p.1) (fun i x H1 H' hi p y => ?_) fun H1 p => ?_
  · exact ⟨same_new hD, [], upd_same, Nat.zero_le _, All2.nil⟩
  · obtain ⟨rfl, hxi⟩ := y
    obtain ⟨e1, acc, ha, hal, hall⟩ := p
    obtain ⟨d, hd, hS⟩ := hx.2 i x hxi
    have hmem : d ∈ ds := List.mem_of_getElem? hd
    have htk : ds.take (i + 1) = ds.take i ++ [d] := by
      rw [List.take_add_one, hd]; rfl
    refine hg x _ _ _ _ (fun σ2 H2 q => ?_) (hs d x H' hmem (Mo.mo e1 hS) e1)
    obtain ⟨rfl, q1, q2⟩ := q
    refine ⟨q1, ?_⟩
    cases hF : F d with
    | some y =>
      rw [hF] at q2
      refine q2.1.go fun H3 e3 => iteT (Ev.go (q2.2.up e3) fun v H4 e4 hv => ?_)
      have e14 := (e1.trans e3).trans e4
      have hDl := e4 _ _ (e3 _ _ ha)
      refine ⟨acc, hDl, ?_, same_mut e14 hD, _, upd_same, by simp; omega, ?_⟩
      · have := hx.1
        omega
      · rw [htk, List.filterMap_append]
        have : [d].filterMap F = [y] := by simp [hF]
        rw [this]
        exact All2.te (K := K) ((All2.te (K := K) hall (e3.trans e4).te).snoc hv) (te_lst hDl)
    | none =>
      rw [hF] at q2
      refine q2.go fun H3 e3 => iteF ?_
      refine ⟨e1.trans e3, acc, e3 _ _ ha, by omega, ?_⟩
      rw [htk, List.filterMap_append]
      have : [d].filterMap F = [] := by simp [hF]
      rw [this, List.append_nil]
      exact All2.te (K := K) hall e3.te
  · obtain ⟨e1, acc, ha, _, hall⟩ := p
    rw [hx.1, List.take_length] at hall
    exact hq H1 acc e1 ha hall
theorem tg_name_mono {i : Nat} {x : V} {Q Q' : L2.St → Hp → Prop} (h : ∀ σ2 H2, Q σ2 H2 → Q' σ2 H2) (q : gName i x σ H Q) : gName i x σ H Q' := h _ _ q
theorem tgs_mono : ∀ {t : TGs}, (∀ {xs : List V} {σ : L2.St} {H : Hp} {Q Q' : L2.St → Hp → Prop}, (∀ σ2 H2, Q σ2 H2 → Q' σ2 H2) → t xs σ H Q → t xs σ H Q') → ∀ {n : Nat} {x : V} {σ : L2.St} {H : Hp} {Q Q' : L2.St → Hp → Prop}, (∀ σ2 H2, Q σ2 H2 → Q' σ2 H2) → gTup K n t x σ H Q → gTup K n t x σ H Q' :=
  fun {t} ht {n x σ H Q Q'} h q => let ⟨a, xs, e, h1, h2, h3⟩ := q; ⟨a, xs, e, h1, h2, ht h h3⟩
theorem tg_row_mono {i j l : Nat} {x : V} {Q Q' : L2.St → Hp → Prop} (h : ∀ σ2 H2, Q σ2 H2 → Q' σ2 H2) (q : gRow K i j l x σ H Q) : gRow K i j l x σ H Q' :=
  tgs_mono (fun {xs σ H Q Q'} h ⟨v, r, e, v2, r2, e2, v3, r3, e3, e4, q⟩ => ⟨v, r, e, v2, r2, e2, v3, r3, e3, e4, h _ _ q⟩) h q
theorem tg_two_mono {i j : Nat} {x : V} {Q Q' : L2.St → Hp → Prop} (h : ∀ σ2 H2, Q σ2 H2 → Q' σ2 H2) (q : gTup K 2 (gCons (gName i) (gCons (gName j) gNil)) x σ H Q) : gTup K 2 (gCons (gName i) (gCons (gName j) gNil)) x σ H Q' :=
  tgs_mono (fun {xs σ H Q Q'} h ⟨v, r, e, v2, r2, e2, e4, q⟩ => ⟨v, r, e, v2, r2, e2, e4, h _ _ q⟩) h q
/-- [te for g in ts if tt] over a list -/
theorem comp_list {α β : Type} {S : α → P1} {R : β → P1} [mS : ∀ a, Mo (S a)] [mR : ∀ b, Mt K (R b)] {ds : List α} (F : α → Option β) (he : Ev ts σ H (IsL K S ds)) (hl : ds.length < sizeLine)
    (hg : ∀ x σ H Q Q', (∀ σ2 H2, Q σ2 H2 → Q' σ2 H2) → g x σ H Q → g x σ H Q') (hs : ∀ d x H1, d ∈ ds → S d x H1 → Same H H1 → TurnC g tt te vs σ R (F d) x H1) :
    Ev (tLc (iList K ts) g tt te vs) σ H (NewL R (ds.filterMap F)) := fun H1 e1 Q q => he H1 e1 _ fun v H2 e2 p => by
  obtain ⟨a, ws, rfl, h1, h2⟩ := p
  refine ⟨a, rfl, ⟨_, h1⟩, fun D hD => ?_⟩
  exact comp_core (K := K) (S := S) (R := R) walk_list (fun H3 e3 => e3.seq h1) h2 hD hl (fun d x H3 hd hS e3 => hs d x H3 hd hS ((e1.trans e2).trans e3)) hg fun H3 ys e3 hy hall => q _ H3 (e2.trans e3) ⟨D, ys, rfl, hy, hall⟩
/-- .. over a tuple -/
theorem comp_tup {α β : Type} {S : α → P1} {R : β → P1} [mS : ∀ a, Mo (S a)] [mR : ∀ b, Mt K (R b)] {ds : List α} (F : α → Option β) (he : Ev ts σ H (fun v H1 => ∃ a ws, v = .ref a ∧ SqT K H1 a ws ∧ All2 S ws ds H1)) (hl : ds.length < sizeLine)
    (hg : ∀ x σ H Q Q', (∀ σ2 H2, Q σ2 H2 → Q' σ2 H2) → g x σ H Q → g x σ H Q') (hs : ∀ d x H1, d ∈ ds → S d x H1 → Same H H1 → TurnC g tt te vs σ R (F d) x H1) :
    Ev (tLc (iTup K ts) g tt te vs) σ H (NewL R (ds.filterMap F)) := fun H1 e1 Q q => he H1 e1 _ fun v H2 e2 p => by
  obtain ⟨a, ws, rfl, h1, h2⟩ := p
  refine ⟨a, rfl, ⟨_, h1⟩, fun D hD => ?_⟩
  exact comp_core (K := K) (S := S) (R := R) walk_tup (fun H3 e3 => e3.te _ _ h1) h2 hD hl (fun d x H3 hd hS e3 => hs d x H3 hd hS ((e1.trans e2).trans e3)) hg fun H3 ys e3 hy hall => q _ H3 (e2.trans e3) ⟨D, ys, rfl, hy, hall⟩
theorem et_yes : EvT tYes σ H true := fun H1 _ _ q => q H1 (Same.refl H1)
end
end Tk
namespace Tk
open PySem L2 Ts
section
variable {K : PySem.W.Frag} {σ : L2.St} {H H' : Hp} {te ta tb tc : TE} {tt : TT} {t u : TS} {P P2 P3 : P1} {i j l : Nat} {nx bk ct : L2.St → Hp → Prop} {rt : VK}
theorem while_go {c : TT} {b : TS} (Pv : L2.St → Hp → Prop) (μ : L2.St → Hp → Nat) (h0 : Pv σ H)
    (hs : ∀ σ H, Pv σ H → ∃ k, EvT c σ H k ∧ (k = true → ∀ H1, Same H H1 → b ⟨fun σ' H' => Pv σ' H' ∧ μ σ' H' < μ σ H, rt, nx, fun σ' H' => Pv σ' H' ∧ μ σ' H' < μ σ H⟩ σ H1) ∧ (k = false → ∀ H1, Same H H1 → nx σ H1)) : tWhile c b ⟨nx, rt, bk, ct⟩ σ H := by
  refine ⟨fun m σ H => m = μ σ H ∧ Pv σ H, ⟨_, rfl, h0⟩, ?_⟩
  rintro m σ H ⟨rfl, p⟩
  obtain ⟨k, he, h1, h2⟩ := hs σ H p
  refine he.go fun H1 e1 => ?_
  cases k with
  | true => exact iteT ⟨_, fun σ' H' ⟨p', l⟩ => ⟨_, l, rfl, p'⟩, h1 rfl H1 e1⟩
  | false => exact iteF (h2 rfl H1 e1)
theorem append_go {p : Addr} {vs : List V} (hi : σ[i]? = some (some (.ref p))) (hp : H p = some (.lst vs)) (hl : vs.length < sizeLine) (he : Ev te σ H P) (k : ∀ v H1, Same H H1 → P v H1 → nx σ (upd H1 p (.lst (vs ++ [v])))) :
    tDrop (tBM K "list" rAppend (tVar i) (tCons te tNil)) ⟨nx, rt, bk, ct⟩ σ H :=
  ⟨_, hi, .inl ⟨rfl, vs, .of hp⟩, he.go fun v H1 e pv => ⟨p, vs, v, rfl, rfl, e _ _ hp, hl, k v H1 e pv⟩⟩
theorem insert_go {p : Addr} {vs : List V} {n : Nat} (hi : σ[i]? = some (some (.ref p))) (hp : H p = some (.lst vs)) (hl : vs.length < sizeLine) (hn : n ≤ vs.length) (hx : Ev ta σ H (IsI (n : Int))) (he : Ev te σ H P) (k : ∀ v H1, Same H H1 → P v H1 → nx σ (upd H1 p (.lst (vs.take n ++ [v] ++ vs.drop n)))) :
    tDrop (tBM K "list" (fun x vs H Q => ∃ (l : Addr) (xs : List V) (i : Int) (y : V), x = .ref l ∧ vs = [.int i, y] ∧ H l = some (.lst xs) ∧ xs.length < sizeLine ∧ 0 ≤ i ∧ i < 2 ^ 63 ∧ Q .non (upd H l (.lst (xs.take i.toNat ++ [y] ++ xs.drop i.toNat)))) (tVar i) (tCons ta (tCons te tNil))) ⟨nx, rt, bk, ct⟩ σ H := by
  refine ⟨_, hi, .inl ⟨rfl, vs, .of hp⟩, hx.go fun x H1 e1 px => (he.up e1).go fun v H2 e2 pv => ?_⟩
  have e := e1.trans e2
  have hb : vs.length < 16777216 := hl
  refine ⟨p, vs, (n : Int), v, rfl, by rw [px], e _ _ hp, hl, by omega, ?_, ?_⟩
  · have : (n : Int) < 16777216 := by omega
    exact Int.lt_trans this (by decide)
  · have : ((n : Int)).toNat = n := Int.toNat_natCast n
    rw [this]; exact k v H2 e pv
/-- int(a test) -/
theorem ev_intB {b : Bool} (h : Ev te σ H (IsB b)) : Ev (tCB (fun xs H Q => (∃ i, xs = [.int i] ∧ Q (.int i) H) ∨ ∃ k, xs = [.bl k] ∧ Q (.int (if k then 1 else 0)) H) (tCons te tNil)) σ H (IsI (if b then 1 else 0)) :=
  fun H1 e Q q => h H1 e _ fun v H2 e2 p => .inr ⟨b, by rw [p], q _ H2 e2 rfl⟩
theorem ev_intI {i : Int} (h : Ev te σ H (IsI i)) : Ev (tCB (fun xs H Q => (∃ i, xs = [.int i] ∧ Q (.int i) H) ∨ ∃ k, xs = [.bl k] ∧ Q (.int (if k then 1 else 0)) H) (tCons te tNil)) σ H (IsI i) :=
  fun H1 e Q q => h H1 e _ fun v H2 e2 p => .inl ⟨i, by rw [p], q _ H2 e2 rfl⟩
/-- all of a list of answers -/
theorem ev_all {bs : List Bool} (h : Ev te σ H (NewL IsB bs)) : Ev (tCB (rAll K) (tCons te tNil)) σ H (IsB (bs.all id)) := fun H1 e Q q => h H1 e _ fun v H2 e2 p => by
  obtain ⟨a, vs, rfl, h1, h2⟩ := p
  have : vs = bs.map V.bl := by
    refine List.ext_getElem? fun i => ?_
    rw [List.getElem?_map]
    cases q1 : vs[i]? with
    | none =>
      have : bs[i]? = none := List.getElem?_eq_none_iff.mpr (by rw [← h2.1]; exact List.getElem?_eq_none_iff.mp q1)
      rw [this]; rfl
    | some x =>
      obtain ⟨b, e1, e3⟩ := h2.2 i x q1
      rw [e1, e3]; rfl
  subst this
  exact ⟨a, bs, rfl, .of h1, q _ H2 e2 rfl⟩
/-- list(a list) -/
theorem ev_listOf {α : Type} {R : α → P1} [∀ x, Mo (R x)] {xs : List α} (ha : Ev ta σ H (IsL K R xs)) : Ev (tCB (fun xs H Q => ∃ p ys, xs = [.ref p] ∧ (SqL K H p ys ∨ SqT K H p ys) ∧ ∀ l, H l = none → Q (.ref l) (upd H l (.lst ys))) (tCons ta tNil)) σ H (NewL R xs) :=
  fun H1 e Q q => ha H1 e _ fun v H2 e2 ⟨a, vs, e3, h1, h2⟩ => ⟨a, vs, by rw [e3], .inl h1, fun l hl => q _ _ (e2.trans (same_new hl)) ⟨l, vs, rfl, upd_same, h2.mo (same_new hl)⟩⟩
/-- two lists in one -/
theorem ev_cat {α : Type} {R : α → P1} [∀ x, Mo (R x)] {xs ys : List α} (ha : Ev ta σ H (NewL R xs)) (hb : Ev tb σ H (NewL R ys)) (hl : xs.length + ys.length ≤ sizeLine) : Ev (tOp rCat ta tb) σ H (NewL R (xs ++ ys)) :=
  ev_op ha hb fun x y H1 _ ⟨a, vs, e1, h1, h2⟩ ⟨b, ws, e3, h3, h4⟩ Q q => ⟨a, b, vs, ws, e1, e3, h1, h3, by rw [h2.1, h4.1]; exact hl, fun p np => q _ _ (same_new np) ⟨p, _, rfl, upd_same, (h2.append h4).mo (same_new np)⟩⟩
end
end Tk
namespace Tk
open PySem L2 Ts
section
variable {K : PySem.W.Frag} {σ : L2.St} {H H' : Hp} {te ta tb tc : TE} {tt : TT} {t u : TS} {P P2 P3 : P1} {i j l : Nat} {nx bk ct : L2.St → Hp → Prop} {rt : VK} {g : TG} {tbd : TS} {xs : List V}
/-- a for over a list at a known place -/
theorem listv_go {a : Addr} (he : Ev te σ H (IsV (.ref a))) (hx : SqL K H a xs) (k : ∀ H1, Same H H1 → LoopL (fun H2 => SqL K H2 a xs) xs yAt g tbd nx rt σ H1) : tFor (iList K te) g tbd ⟨nx, rt, bk, ct⟩ σ H := he.go fun v H1 e p => by
  cases p
  obtain ⟨Pv, h0, hl, hs, hd⟩ := k H1 e
  exact ⟨a, rfl, ⟨_, e.seq hx⟩, for_list Pv h0 hl (fun i x σ H q p => hs i x σ H x H q p ⟨rfl, rfl⟩) hd⟩
theorem enumv_go {a : Addr} (he : Ev te σ H (IsV (.ref a))) (hx : SqL K H a xs) (k : ∀ H1, Same H H1 → LoopL (fun H2 => SqL K H2 a xs) xs yEn g tbd nx rt σ H1) : tFor (iEnum K (tCons te tNil)) g tbd ⟨nx, rt, bk, ct⟩ σ H := he.go fun v H1 e p => by
  cases p
  obtain ⟨Pv, h0, hl, hs, hd⟩ := k H1 e
  refine ⟨a, xs, rfl, e.seq hx, for_it walk_enum Pv h0 hl (fun i v σ H2 H3 hi p y => ?_) hd⟩
  obtain ⟨T, x, y, rfl, hT, rfl, e1, e2⟩ := y
  cases e1
  exact hs i y σ H2 _ _ e2 p ⟨T, rfl, hT, rfl⟩
theorem aug_go {n d : Int} (hi : σ[i]? = some (some (.int n))) (he : Ev te σ H (IsI d)) (k : ∀ H1, Same H H1 → nx (σ.set i (some (.int (n + d)))) H1) : tAug i te (ipI fun i j => i + j) ⟨nx, rt, bk, ct⟩ σ H :=
  ⟨_, hi, he.go fun v H1 e p => ⟨n, d, rfl, p, k H1 e⟩⟩
end
end Tk
namespace Tk
open PySem L2 Ts
section
variable {X : Cx} {K : PySem.W.Frag} {e : Expr} {es : List Expr} {ta : TE} {f : Str} {pos : Pos}
/-- the same where the context's written part is named (within a comprehension) -/
theorem pg_tupK {kk : Nat} {t : TGs} {n : Nat} (hK : X.K = K) (hc : X.calm = true) (h : PGs X es t)
    (hn : (assignEach es X.env).length = n := by rfl) (hst : (assignEach es X.env).findIdx? (·.1) = none := by rfl) : PG X (.Tuple es kk pos) (gTup K n t) := by
  subst hK
  exact pg_tup hc h hn hst
theorem pe_fldK (hK : X.K = K) (he : PE X e ta) (hb : attributeBase e f X.env (eval e X.env) = eval e X.env) : PE X (.Attribute e f pos) (tFld K ta f) := by
  subst hK
  exact pe_fld he hb
variable {σ : L2.St} {H : Hp} {nx bk ct : L2.St → Hp → Prop} {rt : VK} {i : Nat}
/-- x = [] -/
theorem newlist_go (k : ∀ p, H p = none → nx (σ.set i (some (.ref p))) (upd H p (.lst []))) : tAsg (tLst tNil) (gName i) ⟨nx, rt, bk, ct⟩ σ H := ⟨by show 0 ≤ sizeLine; decide, fun p np => k p np⟩
end
end Tk

set_option Elab.async false
set_option linter.all false
set_option maxRecDepth 100000
set_option maxHeartbeats 4000000
namespace Tk
open PySem L2 Ts

/-! ### the text by places -/
def top (i : Nat) : Stmt := PySem.Challenge.pw_tiespan_k15_whole_rules_of_figures.main.body.getD i (.Pass ⟨0, 0, 0, 0⟩)
abbrev s_divisor : Stmt := top 8
abbrev s_lowest : Stmt := top 9
abbrev s_is_whole : Stmt := top 10
abbrev s_is_ratio : Stmt := top 11
abbrev s_add : Stmt := top 12
abbrev s_negative : Stmt := top 13
abbrev s_subtract : Stmt := top 14
abbrev s_multiply : Stmt := top 15
abbrev s_divide : Stmt := top 16
abbrev s_is_less : Stmt := top 17
abbrev s_least : Stmt := top 18
abbrev s_greatest : Stmt := top 19
abbrev s_is_row : Stmt := top 21
abbrev s_normal : Stmt := top 22
abbrev s_bound_of : Stmt := top 23
abbrev s_is_at_most : Stmt := top 24
abbrev s_is_ahead : Stmt := top 25
abbrev s_by_direction : Stmt := top 26
abbrev s_kept_rows : Stmt := top 27
abbrev s_line_rows : Stmt := top 28
abbrev s_point_rows : Stmt := top 29
abbrev s_canonical : Stmt := top 30
abbrev s_is_before : Stmt := top 31
abbrev s_sum_of : Stmt := top 32
abbrev s_keeps : Stmt := top 33
abbrev s_corners_of : Stmt := top 34
abbrev s_by_place : Stmt := top 35
abbrev s_directions_of : Stmt := top 36
abbrev s_hull_rows : Stmt := top 37
abbrev s_Figure___init : Stmt := inClass (top 38) 0
abbrev s_Figure_nothing : Stmt := inClass (top 38) 1
abbrev s_Figure___eq : Stmt := inClass (top 38) 3
abbrev s_Figure___contains : Stmt := inClass (top 38) 7
abbrev s_Figure___le : Stmt := inClass (top 38) 8
abbrev s_Figure___mul : Stmt := inClass (top 38) 9
abbrev s_Figure___add : Stmt := inClass (top 38) 10
abbrev s_Figure_rows : Stmt := inClass (top 38) 11
abbrev s_Figure_corners : Stmt := inClass (top 38) 12
abbrev s_Figure_turned : Stmt := inClass (top 38) 15
abbrev s_law_feed : Stmt := top 40
abbrev s_law_draw : Stmt := top 41
abbrev s_law_any : Stmt := top 42
abbrev s_law_gcd : Stmt := top 43
abbrev s_law_low : Stmt := top 44
abbrev s_law_plus : Stmt := top 45
abbrev s_law_by : Stmt := top 46
abbrev s_law_part : Stmt := top 47
abbrev s_law_rows : Stmt := top 48
abbrev s_law_spot : Stmt := top 49
abbrev s_law : Stmt := top 50

/-- a def as it stands behind the top -/
structure Df (K : PySem.W.Frag) (x qual : Str) (st : Stmt) (ps : List Str) where
  f : Addr
  fd : FuncData
  F : Fun K x qual st f fd
  b : Binds K fd ps []
abbrev Df.k {K : PySem.W.Frag} {x qual : Str} {st : Stmt} {ps : List Str} (D : Df K x qual st ps) : PySem.W.keepIn K (.ref D.f) = true := D.F.kp
/-- a def with one default, the tuple at mt -/
structure De (K : PySem.W.Frag) (x qual : Str) (st : Stmt) (ps : List Str) (mt : Addr) where
  f : Addr
  fd : FuncData
  F : FunD K x qual (defArgs st) (defBody st) (defScope st) [.ref mt] [] f fd
  b : Binds K fd ps []
/-- the rule for a def with defaults, no exception leaving it -/
theorem ok_dfl {P : Program} {w : World} {K : PySem.W.Frag} {mg : Str → Option Value} {base : Heap} {x qual : Str} {st : Stmt} {f : Addr} {fd : FuncData} {dvs : List V} {kws : List (Str × V)} {N ps : List Str} {k : Nat} {sp : Sp} (F : FunD K x qual (defArgs st) (defBody st) (defScope st) dvs kws f fd) (S : FnScope N ps (defScope st)) (len : ∀ vs H Q E, sp vs H Q E → vs.length = ps.length)
    (body : ∀ (cdv : Value) (A : Around) (outer : List Env) (s : Shared) (H : Hp) (vs : List V) (Q : VK) (E : XK), Room k (A.deeper (PyProof.Rows.envOfC qual (defScope st) s.heap.objs.size f cdv)) → sp vs H Q E → ∃ t, PSs (cxOf CX0 P w K mg base N qual (defScope st) f cdv A outer s H E).nox (defBody st) t ∧ t { nx := fun _ H' => Q .non H', rt := Q } (start N vs) H) : FnOk P w K mg base CX0 (k + 1) f fd ps sp := by
  obtain ⟨_, _, _, _, _, _, _, cdv, _, _, rfl, lk, hcd, _⟩ := F.ex
  exact fn_of lk hcd S len fun A outer s H vs Q E hr hsp => let ⟨t, h, q⟩ := body cdv A outer s H vs Q E hr hsp; ⟨t, h.nox, q⟩
/-- .. and its name -/
structure Dn (K : PySem.W.Frag) (mg : Str → Option Value) (x qual : Str) (st : Stmt) (ps : List Str) extends Df K x qual st ps where
  m : mg x = some (.ref f)
/-- a def with a star parameter -/
structure Ds (K : PySem.W.Frag) (mg : Str → Option Value) (x : Str) (st : Stmt) (pv : Str) where
  f : Addr
  ex : ∃ (oc : Value) (od : Option Addr) (kV doc pm : Value) (an : Option Addr) (cdv ct : Value) (osl : Array (Option Value)),
    K.lookup f = some ⟨oc, od, .func (PySem.W.fnOf x x (defArgs st) (defBody st) (defScope st) .none kV doc pm an cdv ct), osl⟩ ∧ PySem.W.codeIn K cdv x = true
  k : PySem.W.keepIn K (.ref f) = true
  m : mg x = some (.ref f)
/-- a method of the class at C -/
structure Dm (K : PySem.W.Frag) (C : Addr) (x qual : Str) (st : Stmt) (ps : List Str) extends Df K x qual st ps where
  at_ : Meth K C x f
/-- all that the top has made -/
structure Wd (K : PySem.W.Frag) (mg : Str → Option Value) where
  divisor : Dn K mg "divisor" "divisor" s_divisor ["one", "other"]
  lowest : Dn K mg "lowest" "lowest" s_lowest ["top", "under"]
  is_whole : Dn K mg "is_whole" "is_whole" s_is_whole ["thing"]
  is_ratio : Dn K mg "is_ratio" "is_ratio" s_is_ratio ["thing"]
  add : Dn K mg "add" "add" s_add ["one", "other"]
  negative : Dn K mg "negative" "negative" s_negative ["one"]
  subtract : Dn K mg "subtract" "subtract" s_subtract ["one", "other"]
  multiply : Dn K mg "multiply" "multiply" s_multiply ["one", "other"]
  divide : Dn K mg "divide" "divide" s_divide ["one", "other"]
  is_less : Dn K mg "is_less" "is_less" s_is_less ["one", "other"]
  least : Ds K mg "least" s_least "values"
  greatest : Ds K mg "greatest" s_greatest "values"
  is_row : Dn K mg "is_row" "is_row" s_is_row ["thing"]
  normal : Dn K mg "normal" "normal" s_normal ["row"]
  bound_of : Dn K mg "bound_of" "bound_of" s_bound_of ["rows", "a", "b"]
  is_at_most : Dn K mg "is_at_most" "is_at_most" s_is_at_most ["value", "bound"]
  is_ahead : Dn K mg "is_ahead" "is_ahead" s_is_ahead ["one", "other"]
  by_direction : Dn K mg "by_direction" "by_direction" s_by_direction ["rows"]
  kept_rows : Dn K mg "kept_rows" "kept_rows" s_kept_rows ["rows"]
  line_rows : Dn K mg "line_rows" "line_rows" s_line_rows ["rows", "line"]
  point_rows : Dn K mg "point_rows" "point_rows" s_point_rows ["x", "y"]
  canonical : Dn K mg "canonical" "canonical" s_canonical ["rows"]
  is_before : Dn K mg "is_before" "is_before" s_is_before ["one", "other"]
  sum_of : Dn K mg "sum_of" "sum_of" s_sum_of ["a", "b", "point"]
  keeps : Dn K mg "keeps" "keeps" s_keeps ["rows", "point"]
  corners_of : Dn K mg "corners_of" "corners_of" s_corners_of ["rows"]
  by_place : Dn K mg "by_place" "by_place" s_by_place ["points"]
  directions_of : Dn K mg "directions_of" "directions_of" s_directions_of ["one", "other"]
  hull_rows : Dn K mg "hull_rows" "hull_rows" s_hull_rows ["one", "other"]
  law_feed : Dn K mg "_law_feed" "_law_feed" s_law_feed ["_law_script"]
  law_draw : Dn K mg "_law_draw" "_law_draw" s_law_draw ["_law_feed_here", "_law_many"]
  law_any : Dn K mg "_law_any" "_law_any" s_law_any ["_law_feed_here", "_law_row"]
  law_gcd : Dn K mg "_law_gcd" "_law_gcd" s_law_gcd ["_law_one", "_law_two"]
  law_low : Dn K mg "_law_low" "_law_low" s_law_low ["_law_upper", "_law_lower"]
  law_plus : Dn K mg "_law_plus" "_law_plus" s_law_plus ["_law_one", "_law_two"]
  law_by : Dn K mg "_law_by" "_law_by" s_law_by ["_law_one", "_law_two"]
  law_part : Dn K mg "_law_part" "_law_part" s_law_part ["_law_feed_here", "_law_size"]
  law_rows : Dn K mg "_law_rows" "_law_rows" s_law_rows ["_law_feed_here", "_law_many"]
  law_spot : Dn K mg "_law_spot" "_law_spot" s_law_spot ["_law_a", "_law_b", "_law_point"]
  n_abs : mg "abs" = none
  n_len : mg "len" = none
  n_isinstance : mg "isinstance" = none
  n_int : mg "int" = none
  n_bool : mg "bool" = none
  n_tuple : mg "tuple" = none
  n_enumerate : mg "enumerate" = none
  n_list : mg "list" = none
  n_all : mg "all" = none
  n_range : mg "range" = none
  C : Addr
  mFig : mg "Figure" = some (.ref C)
  cls : Cls K C
  nV : NoAttr K C "void"
  nL : NoAttr K C "lines"
  zero : Addr
  mZERO : mg "ZERO" = some (.ref zero)
  zeroT : ∀ H : Hp, SqT K H zero [.int 0, .int 1]
  mt : Addr
  mtT : ∀ H : Hp, SqT K H mt []
  init : De K "__init__" "Figure.__init__" s_Figure___init ["self", "rows"] mt
  mak : Mk K C init.f
  init0 : Binds K init.fd ["self", "rows"] [.ref mt]
  m_eq : Dm K C "__eq__" "Figure.__eq__" s_Figure___eq ["self", "other"]
  m_contains : Dm K C "__contains__" "Figure.__contains__" s_Figure___contains ["self", "point"]
  m_le : Dm K C "__le__" "Figure.__le__" s_Figure___le ["self", "other"]
  m_mul : Dm K C "__mul__" "Figure.__mul__" s_Figure___mul ["self", "other"]
  m_add : Dm K C "__add__" "Figure.__add__" s_Figure___add ["self", "other"]
  m_rows : Dm K C "rows" "Figure.rows" s_Figure_rows ["self"]
  m_corners : Dm K C "corners" "Figure.corners" s_Figure_corners ["self"]
  m_turned : Dm K C "turned" "Figure.turned" s_Figure_turned ["self"]
  nothing : Df K "nothing" "Figure.nothing" s_Figure_nothing []
/-- what the run's start gives besides -/
structure Sr (P : Program) (base : Heap) : Prop where
  seer : base.NoSeer
  tree : P.given.tree = none
theorem _root_.L2.Room.units65 {k : Nat} {A : Around} (r : Room k A) : A.units + 65 < cLine := by have := r.un; omega
section
variable {X : Cx} {CX : CXT} {k : Nat} {f : Addr} {sp : Sp} {E : XK} {x : Str} {e : Expr} {es : List Expr} {t : TA} {p pos : Pos}
theorem pe_callStar (F : FnR X.prog X.w X.K X.mg X.base CX k f sp) (hr : Room k X.A) (hk : PySem.W.keepIn X.K (.ref f) = true) (hg : Gl X x) (hm : X.mg x = some (.ref f)) (hx : Passes CX X E) (ha : PA X (e :: es) t) (hd : (x == ("__debug__" : Str)) = false := by decide)
    (he : starEach (e :: es) X.env = (false, eval e X.env) :: starEach es X.env := by rfl) (hpl : (backTo pos (starEach es X.env)).any (·.1) = false := by rfl) : PE X (.Call (.Name x p) (e :: es) [] pos) (tCall sp [] E t) := by
  refine ⟨fun pins s σ H Q I h => ?_⟩
  refine wpAny_Call_Name_kw (ld_glob I hg hm ?_ hd)
  refine PySem.W.callWith_K (h₀ := X.base) I.ok.mod.kin hk (thn (ha.run pos pins s σ H _ I h) fun us s1 ⟨vs, H1, I1, r, q⟩ => ⟨I1.kIn, ?_⟩) he hpl
  have q' : sp vs H1 Q E := by
    have z : sp (vs ++ []) H1 Q E := q
    rw [List.append_nil] at z
    exact z
  exact wpAny_call (run_fnR F hr hx I1 r q')
end
end Tk

set_option Elab.async false
set_option linter.all false
set_option maxRecDepth 100000
set_option maxHeartbeats 4000000
namespace Tk
open PySem L2 Ts
section
variable {P : Program} {w : World} {K : PySem.W.Frag} {mg : Str → Option Value} {base : Heap}
/-! ### fractions -/
def rDivisor : List V → Hp → P1 → Prop := fun vs H P => ∃ i j : Int, Fits [IsI i, IsI j] vs H ∧ P = IsI (Int.gcd i j : Int)
theorem sc_divisor : FnScope ["one", "other"] ["one", "other"] (defScope s_divisor) := ⟨rfl, rfl, rfl, by decide +kernel, rfl, by decide +kernel, by decide +kernel⟩
theorem ok_divisor (S : Sr P base) (W : Wd K mg) : FnOk P w K mg base CX0 1 W.divisor.f W.divisor.fd ["one", "other"] (SpF (rDivisor)) := by
  refine W.divisor.F.ok sc_divisor (fun vs H Q E h => ?_) (fun cdv A outer s H vs Q E hr h => ?_)
  · obtain ⟨P1, ⟨i, j, f, _⟩, _⟩ := h
    exact f.len
  · obtain ⟨P1, ⟨i, j, f, rfl⟩, k⟩ := h
    obtain ⟨v, w, rfl, rfl, rfl⟩ := f.two
    refine ⟨_, (pss_cons (ps_par (i := 0) (j := 1) rfl sc_divisor.nd rfl rfl (by decide) rfl rfl (pa_cons (pe_callB call_abs (by rfl) W.n_abs (by decide +kernel) (pa_cons (pv 0) pa_nil)) (pa_cons (pe_callB call_abs (by rfl) W.n_abs (by decide +kernel) (pa_cons (pv 1) pa_nil)) pa_nil)) (by rfl))
        (pss_cons (ps_while PassesOwn.never (pt_cmpR op_gt (pv 1) pe_int (nomark _)) (pss_one (ps_par (i := 0) (j := 1) rfl sc_divisor.nd rfl rfl (by decide) rfl rfl (pa_cons (pv 1) (pa_cons (pe_op op_modN (pv 0) (pv 1)) pa_nil)) (by rfl))))
        (pss_one (ps_ret (pv 0))))), ?_⟩
    refine seq_go (par_go (ea_cons (ev_abs (ev_v rfl)) (ea_cons (ev_abs (ev_v rfl)) ea_nil)) fun _ _ H1 e1 h1 h2 => ?_)
    cases h1
    cases h2
    refine seq_go ?_
    refine while_by (fun σ H' => ∃ a b : Nat, σ = [some (.int (a : Int)), some (.int (b : Int))] ∧ Nat.gcd a b = Int.gcd i j ∧ Same H H') (fun σ _ => match σ with | [_, some (.int b)] => b.toNat | _ => 0) ⟨_, _, rfl, rfl, e1⟩ (fun σ H2 hw => ?_) (fun σ H2 Q1 Q2 hQ h2 => ?_)
    · obtain ⟨a, b, rfl, hg, e2⟩ := hw
      refine EvT.go (et_val (ev_i0 (i := (b : Int)) (ev_v rfl) ev_c)) fun H3 e3 => ?_
      by_cases hb : (0 : Int) < (b : Int)
      · rw [decide_eq_true hb]
        refine iteT ?_
        refine par_go (ea_cons (ev_v rfl) (ea_cons (ev_i (i := (a : Int)) (j := (b : Int)) (ev_v rfl) (ev_v rfl) (by omega)) ea_nil)) fun _ _ H4 e4 h1 h2 => ?_
        cases h1
        cases h2
        have em : ((a : Int).fmod (b : Int)) = ((a % b : Nat) : Int) := by rw [Int.fmod_eq_emod_of_nonneg _ (by omega)]; exact (Int.natCast_emod a b).symm
        have hlt : a % b < b := Nat.mod_lt _ (by omega)
        refine ⟨⟨b, a % b, by rw [em]; rfl, ?_, (e2.trans e3).trans e4⟩, ?_⟩
        · rw [← hg, Nat.gcd_comm b, ← Nat.gcd_rec, Nat.gcd_comm]
        · rw [em]; show ((a % b : Nat) : Int).toNat < (b : Int).toNat
          omega
      · rw [decide_eq_false hb]
        refine iteF ?_
        refine ret_go (ev_v (x := .int (a : Int)) rfl) fun v H4 e4 p => ?_
        have hb0 : b = 0 := by omega
        rw [hb0, Nat.gcd_zero_right] at hg
        exact k v H4 ((e2.trans e3).trans e4) (by rw [← hg]; exact p)
    · obtain ⟨v, hv, i', j', e1, e2, b, eb, q⟩ := h2
      exact ⟨v, hv, i', j', e1, e2, b, eb, hQ _ _ q⟩
-- END divisor
def rLowest (K : PySem.W.Frag) : List V → Hp → P1 → Prop := fun vs H P => ∃ i j : Int, Fits [IsI i, IsI j] vs H ∧ j ≠ 0 ∧ P = IsQ K ((i : Rat) / (j : Rat))
theorem sc_lowest : FnScope ["top", "under", "part"] ["top", "under"] (defScope s_lowest) := ⟨rfl, rfl, rfl, by decide +kernel, rfl, by decide +kernel, by decide +kernel⟩
theorem ok_lowest (S : Sr P base) (W : Wd K mg) : FnOk P w K mg base CX0 41 W.lowest.f W.lowest.fd ["top", "under"] (SpF (rLowest K)) := by
  refine W.lowest.F.ok sc_lowest (fun vs H Q E h => ?_) (fun cdv A outer s H vs Q E hr h => ?_)
  · obtain ⟨P1, ⟨i, j, f, _⟩, _⟩ := h
    exact f.len
  · obtain ⟨P1, ⟨i, j, f, hj, rfl⟩, k⟩ := h
    obtain ⟨v, w, rfl, rfl, rfl⟩ := f.two
    refine ⟨_, (pss_cons (ps_set (i := 2) sc_lowest.nd rfl (.inl rfl) (pe_call (ok_divisor S W) (hr.mono (by decide)) rfl W.divisor.m W.divisor.k W.divisor.b .nil pass0 (pa_cons (pv 0) (pa_cons (pv 1) pa_nil))))
        (pss_cons (ps_if (pt_cmpR op_lt (pv 1) pe_int (nomark _)) (pss_one (ps_set (i := 2) sc_lowest.nd rfl (.inl rfl) (pe_un un_neg (pv 2)))) pss_nil)
        (pss_one (ps_ret (pe_tup (pa_cons (pe_op (op_fdivG ⟨S.seer, S.tree, room_pyl hr (by decide), rfl, rfl, rfl⟩) (pv 0) (pv 2)) (pa_cons (pe_op (op_fdivG ⟨S.seer, S.tree, room_pyl hr (by decide), rfl, rfl, rfl⟩) (pv 1) (pv 2)) pa_nil))))))), ?_⟩
    obtain ⟨s', hs0, hs, e1, e2⟩ := low_exact (i := i) hj
    have fin : ∀ H1, Same H H1 → tRet (tTup (tCons (tOp (rI (fun _ j => j ≠ 0) fun i j => V.int (i.fdiv j)) (tVar 0) (tVar 2)) (tCons (tOp (rI (fun _ j => j ≠ 0) fun i j => V.int (i.fdiv j)) (tVar 1) (tVar 2)) tNil)))
        { nx := fun _ H' => Q .non H', rt := Q } [some (.int i), some (.int j), some (.int s')] H1 := fun H1 s1 =>
      ret_go (ev_mkQ (K := K) (ev_i (ev_v rfl) (ev_v rfl) hs0) (ev_i (ev_v rfl) (ev_v rfl) hs0) e1 e2) fun v H2 s2 p => k v H2 (s1.trans s2) p
    refine seq_go (set_go (ev_call (ea_cons (ev_v rfl) (ea_cons (ev_v rfl) ea_nil)) fun vs H1 _ f => ⟨i, j, f, rfl⟩) fun v H1 s1 hv => ?_)
    cases hv
    refine seq_go (if_go (et_val (ev_i0 (i := j) (ev_v rfl) ev_c)) (fun hb H2 s2 => ?_) fun hb H2 s2 => ?_)
    · have hlt := of_decide_eq_true hb
      rw [if_pos hlt] at hs
      refine set_go (ev_neg (ev_v rfl)) fun v H3 s3 hv => ?_
      cases hv
      rw [← hs]
      exact fin H3 ((s1.trans s2).trans s3)
    · have hlt := of_decide_eq_false hb
      rw [if_neg hlt] at hs
      have := fin H2 (s1.trans s2)
      rw [hs] at this
      exact this
def rWhole : List V → Hp → P1 → Prop := fun vs H P => ∃ i : Int, Fits [IsI i] vs H ∧ P = IsB (true && !false)
theorem sc_is_whole : FnScope ["thing"] ["thing"] (defScope s_is_whole) := ⟨rfl, rfl, rfl, by decide +kernel, rfl, by decide +kernel, by decide +kernel⟩
theorem ok_is_whole (S : Sr P base) (W : Wd K mg) : FnOk P w K mg base CX0 1 W.is_whole.f W.is_whole.fd ["thing"] (SpF (rWhole)) := by
  refine W.is_whole.F.ok sc_is_whole (fun vs H Q E h => ?_) (fun cdv A outer s H vs Q E hr h => ?_)
  · obtain ⟨P1, ⟨i, f, _⟩, _⟩ := h
    exact f.len
  · obtain ⟨P1, ⟨i, f, rfl⟩, k⟩ := h
    obtain ⟨v, rfl, rfl⟩ := f.one
    refine ⟨_, (pss_one (ps_ret (pe_and (pe_callB call_isi (by rfl) W.n_isinstance (by decide +kernel) (pa_cons (pv 0) (pa_cons (pe_bltn (v := .ty "int") (by rfl) W.n_int (by decide +kernel) rfl) pa_nil))) (pe_one (pe_not (pe_callB call_isi (by rfl) W.n_isinstance (by decide +kernel) (pa_cons (pv 0) (pa_cons (pe_bltn (v := .ty "bool") (by rfl) W.n_bool (by decide +kernel) rfl) pa_nil)))))))), ?_⟩
    exact ret_go (ev_and (ev_isi (ev_v rfl) (fun x H1 _ e => by cases e; exact .base (.int i)) (by decide +kernel)) fun _ => ev_not (ev_isi (ev_v rfl) (fun x H1 _ e => by cases e; exact .base (.int i)) (by decide +kernel))) k
def rRatio (K : PySem.W.Frag) : List V → Hp → P1 → Prop := fun vs H P => ∃ q : Rat, Fits [IsQ K q] vs H ∧ P = IsB true
theorem sc_is_ratio : FnScope ["thing"] ["thing"] (defScope s_is_ratio) := ⟨rfl, rfl, rfl, by decide +kernel, rfl, by decide +kernel, by decide +kernel⟩
theorem ok_is_ratio (S : Sr P base) (W : Wd K mg) : FnOk P w K mg base CX0 2 W.is_ratio.f W.is_ratio.fd ["thing"] (SpF (rRatio K)) := by
  refine W.is_ratio.F.ok sc_is_ratio (fun vs H Q E h => ?_) (fun cdv A outer s H vs Q E hr h => ?_)
  · obtain ⟨P1, ⟨i, f, _⟩, _⟩ := h
    exact f.len
  · obtain ⟨P1, ⟨q, f, rfl⟩, k⟩ := h
    obtain ⟨v, rfl, hq⟩ := f.one
    refine ⟨_, (pss_cons (ps_if (PW.pt (pw_or (pt_not (pt_val (pe_callB call_isi (by rfl) W.n_isinstance (by decide +kernel) (pa_cons (pv 0) (pa_cons (pe_bltn (v := .ty "tuple") (by rfl) W.n_tuple (by decide +kernel) rfl) pa_nil))))) (pw_or (pt_cmpR op_ne (pe_callB call_len_seq (by rfl) W.n_len (by decide +kernel) (pa_cons (pv 0) pa_nil)) pe_int (nomark _)) (pw_or (pt_not (pt_val (pe_call (ok_is_whole S W) (hr.mono (by decide)) rfl W.is_whole.m W.is_whole.k W.is_whole.b .nil pass0 (pa_cons (pe_ix ix_tup (pv 0) pe_int (fun _ _ => rfl)) pa_nil)))) (pw_or1 (pt_not (pt_val (pe_call (ok_is_whole S W) (hr.mono (by decide)) rfl W.is_whole.m W.is_whole.k W.is_whole.b .nil pass0 (pa_cons (pe_ix ix_tup (pv 0) pe_int (fun _ _ => rfl)) pa_nil))))))))) (pss_one (ps_ret pe_bl)) pss_nil)
        (pss_one (ps_ret (pe_and (pe_cmpR op_gt (pe_ix ix_tup (pv 0) pe_int (fun _ _ => rfl)) pe_int (nomark _)) (pe_one (pe_cmpR op_eq (pe_call (ok_divisor S W) (hr.mono (by decide)) rfl W.divisor.m W.divisor.k W.divisor.b .nil pass0 (pa_cons (pe_ix ix_tup (pv 0) pe_int (fun _ _ => rfl)) (pa_cons (pe_ix ix_tup (pv 0) pe_int (fun _ _ => rfl)) pa_nil))) pe_int (nomark _))))))), ?_⟩
    have t1 : ∀ x H1, Same H H1 → IsQ K q x H1 → TyX K H1 x (.type "tuple") := fun x H1 _ ⟨a, e, h1⟩ => e ▸ tyx_tup h1
    refine seq_go (if_go (b := false) (et_or (a := false) (et_not (b := true) (et_B (ev_isi (ev_var rfl hq) t1 (by decide +kernel)))) fun _ => et_or (a := false) (et_neI (i := (2 : Nat)) (ev_lenT (ev_var rfl hq) fun x H1 _ ⟨a, e, h1⟩ => ⟨a, _, e, h1, rfl⟩) ev_c (by decide)) fun _ =>
      et_or (a := false) (et_not (b := true) (et_B (ev_call (ea_cons (ev_q0 (ev_var rfl hq)) ea_nil) fun vs H1 _ f => ⟨_, f, rfl⟩))) fun _ => et_not (b := true) (et_B (ev_call (ea_cons (ev_q1 (ev_var rfl hq)) ea_nil) fun vs H1 _ f => ⟨_, f, rfl⟩))) (fun z => nomatch z) fun _ H1 e1 => ?_)
    have hq1 := Mo.mo e1 hq
    refine ret_go (ev_and (a := true) (ev_is (ev_i0 (ev_q1 (ev_var rfl hq1)) ev_c) (congrArg V.bl (decide_eq_true (show (0 : Int) < (q.den : Int) by have := q.den_nz; omega)))) fun _ =>
      ev_is (ev_eqI (ev_call (ea_cons (ev_q0 (ev_var rfl hq1)) (ea_cons (ev_q1 (ev_var rfl hq1)) ea_nil)) fun vs H1 _ f => ⟨_, _, f, rfl⟩) ev_c) (congrArg V.bl (decide_eq_true (show (Int.gcd q.num (q.den : Int) : Int) = 1 by have : Int.gcd q.num (q.den : Int) = 1 := q.reduced; rw [this]; rfl)))) fun v H2 e2 p => k v H2 (e1.trans e2) p
def rAddQ (K : PySem.W.Frag) : List V → Hp → P1 → Prop := fun vs H P => ∃ q r : Rat, Fits [IsQ K q, IsQ K r] vs H ∧ Sq LL LL q ∧ Sq LL LL r ∧ P = IsQ K (q + r)
theorem sc_add : FnScope ["one", "other"] ["one", "other"] (defScope s_add) := ⟨rfl, rfl, rfl, by decide +kernel, rfl, by decide +kernel, by decide +kernel⟩
theorem ok_add (S : Sr P base) (W : Wd K mg) : FnOk P w K mg base CX0 42 W.add.f W.add.fd ["one", "other"] (SpF (rAddQ K)) := by
  refine W.add.F.ok sc_add (fun vs H Q E h => ?_) (fun cdv A outer s H vs Q E hr h => ?_)
  · obtain ⟨P1, ⟨q, r, f, _⟩, _⟩ := h
    exact f.len
  · obtain ⟨P1, ⟨q, r, f, z1, z2, rfl⟩, k⟩ := h
    obtain ⟨v, w, rfl, hq, hr1⟩ := f.two
    refine ⟨_, (pss_one (ps_ret (pe_call (ok_lowest S W) (hr.mono (by decide)) rfl W.lowest.m W.lowest.k W.lowest.b .nil pass0 (pa_cons (pe_op op_add (pe_op op_mulG (pe_ix ix_tup (pv 0) pe_int (fun _ _ => rfl)) (pe_ix ix_tup (pv 1) pe_int (fun _ _ => rfl))) (pe_op op_mulG (pe_ix ix_tup (pv 1) pe_int (fun _ _ => rfl)) (pe_ix ix_tup (pv 0) pe_int (fun _ _ => rfl)))) (pa_cons (pe_op op_mulG (pe_ix ix_tup (pv 0) pe_int (fun _ _ => rfl)) (pe_ix ix_tup (pv 1) pe_int (fun _ _ => rfl))) pa_nil))))), ?_⟩
    refine ret_go (ev_call (ea_cons (ev_i0 (ev_i (ev_q0 (ev_var rfl hq)) (ev_q1 (ev_var rfl hr1)) (mulLL z1.1 z2.2)) (ev_i (ev_q0 (ev_var rfl hr1)) (ev_q1 (ev_var rfl hq)) (mulLL z2.1 z1.2))) (ea_cons (ev_i (ev_q1 (ev_var rfl hq)) (ev_q1 (ev_var rfl hr1)) (mulLL z1.2 z2.2)) ea_nil)) fun vs H1 _ f => ⟨_, _, f, (fun z => (Int.mul_eq_zero.mp z).elim (den_ne q) (den_ne r)), rfl⟩) fun v H1 e1 p => ?_
    rw [add_low] at p
    exact k v H1 e1 p
def rNegQ (K : PySem.W.Frag) : List V → Hp → P1 → Prop := fun vs H P => ∃ q : Rat, Fits [IsQ K q] vs H ∧ P = IsQ K (-q)
theorem sc_negative : FnScope ["one"] ["one"] (defScope s_negative) := ⟨rfl, rfl, rfl, by decide +kernel, rfl, by decide +kernel, by decide +kernel⟩
theorem ok_negative (S : Sr P base) (W : Wd K mg) : FnOk P w K mg base CX0 1 W.negative.f W.negative.fd ["one"] (SpF (rNegQ K)) := by
  refine W.negative.F.ok sc_negative (fun vs H Q E h => ?_) (fun cdv A outer s H vs Q E hr h => ?_)
  · obtain ⟨P1, ⟨q, f, _⟩, _⟩ := h
    exact f.len
  · obtain ⟨P1, ⟨q, f, rfl⟩, k⟩ := h
    obtain ⟨v, rfl, hq⟩ := f.one
    refine ⟨_, (pss_one (ps_ret (pe_tup (pa_cons (pe_un un_neg (pe_ix ix_tup (pv 0) pe_int (fun _ _ => rfl))) (pa_cons (pe_ix ix_tup (pv 0) pe_int (fun _ _ => rfl)) pa_nil))))), ?_⟩
    exact ret_go (ev_mkQ (K := K) (q := -q) (ev_neg (ev_q0 (ev_var rfl hq))) (ev_q1 (ev_var rfl hq)) (Rat.neg_num q).symm (by rw [Rat.neg_den])) k
def rSubQ (K : PySem.W.Frag) : List V → Hp → P1 → Prop := fun vs H P => ∃ q r : Rat, Fits [IsQ K q, IsQ K r] vs H ∧ Sq LL LL q ∧ Sq LL LL r ∧ P = IsQ K (q - r)
theorem sc_subtract : FnScope ["one", "other"] ["one", "other"] (defScope s_subtract) := ⟨rfl, rfl, rfl, by decide +kernel, rfl, by decide +kernel, by decide +kernel⟩
theorem ok_subtract (S : Sr P base) (W : Wd K mg) : FnOk P w K mg base CX0 43 W.subtract.f W.subtract.fd ["one", "other"] (SpF (rSubQ K)) := by
  refine W.subtract.F.ok sc_subtract (fun vs H Q E h => ?_) (fun cdv A outer s H vs Q E hr h => ?_)
  · obtain ⟨P1, ⟨q, r, f, _⟩, _⟩ := h
    exact f.len
  · obtain ⟨P1, ⟨q, r, f, z1, z2, rfl⟩, k⟩ := h
    obtain ⟨v, w, rfl, hq, hr1⟩ := f.two
    refine ⟨_, (pss_one (ps_ret (pe_call (ok_add S W) (hr.mono (by decide)) rfl W.add.m W.add.k W.add.b .nil pass0 (pa_cons (pv 0) (pa_cons (pe_call (ok_negative S W) (hr.mono (by decide)) rfl W.negative.m W.negative.k W.negative.b .nil pass0 (pa_cons (pv 1) pa_nil)) pa_nil))))), ?_⟩
    refine ret_go (ev_call (ea_cons (ev_var rfl hq) (ea_cons (ev_call (ea_cons (ev_var rfl hr1) ea_nil) fun vs H1 _ f => ⟨_, f, rfl⟩) ea_nil)) fun vs H1 _ f => ⟨_, _, f, z1, z2.neg, rfl⟩) fun v H1 e1 p => ?_
    rw [← Rat.sub_eq_add_neg] at p
    exact k v H1 e1 p
def rMulQ (K : PySem.W.Frag) : List V → Hp → P1 → Prop := fun vs H P => ∃ q r : Rat, Fits [IsQ K q, IsQ K r] vs H ∧ Sq LL LL q ∧ Sq LL LL r ∧ P = IsQ K (q * r)
theorem sc_multiply : FnScope ["one", "other"] ["one", "other"] (defScope s_multiply) := ⟨rfl, rfl, rfl, by decide +kernel, rfl, by decide +kernel, by decide +kernel⟩
theorem ok_multiply (S : Sr P base) (W : Wd K mg) : FnOk P w K mg base CX0 42 W.multiply.f W.multiply.fd ["one", "other"] (SpF (rMulQ K)) := by
  refine W.multiply.F.ok sc_multiply (fun vs H Q E h => ?_) (fun cdv A outer s H vs Q E hr h => ?_)
  · obtain ⟨P1, ⟨q, r, f, _⟩, _⟩ := h
    exact f.len
  · obtain ⟨P1, ⟨q, r, f, z1, z2, rfl⟩, k⟩ := h
    obtain ⟨v, w, rfl, hq, hr1⟩ := f.two
    refine ⟨_, (pss_one (ps_ret (pe_call (ok_lowest S W) (hr.mono (by decide)) rfl W.lowest.m W.lowest.k W.lowest.b .nil pass0 (pa_cons (pe_op op_mulG (pe_ix ix_tup (pv 0) pe_int (fun _ _ => rfl)) (pe_ix ix_tup (pv 1) pe_int (fun _ _ => rfl))) (pa_cons (pe_op op_mulG (pe_ix ix_tup (pv 0) pe_int (fun _ _ => rfl)) (pe_ix ix_tup (pv 1) pe_int (fun _ _ => rfl))) pa_nil))))), ?_⟩
    refine ret_go (ev_call (ea_cons (ev_i (ev_q0 (ev_var rfl hq)) (ev_q0 (ev_var rfl hr1)) (mulLL z1.1 z2.1)) (ea_cons (ev_i (ev_q1 (ev_var rfl hq)) (ev_q1 (ev_var rfl hr1)) (mulLL z1.2 z2.2)) ea_nil)) fun vs H1 _ f => ⟨_, _, f, (fun z => (Int.mul_eq_zero.mp z).elim (den_ne q) (den_ne r)), rfl⟩) fun v H1 e1 p => ?_
    rw [mul_low] at p
    exact k v H1 e1 p
def rDivQ (K : PySem.W.Frag) : List V → Hp → P1 → Prop := fun vs H P => ∃ q r : Rat, Fits [IsQ K q, IsQ K r] vs H ∧ Sq LL LL q ∧ Sq LL LL r ∧ r ≠ 0 ∧ P = IsQ K (q / r)
theorem sc_divide : FnScope ["one", "other"] ["one", "other"] (defScope s_divide) := ⟨rfl, rfl, rfl, by decide +kernel, rfl, by decide +kernel, by decide +kernel⟩
theorem ok_divide (S : Sr P base) (W : Wd K mg) : FnOk P w K mg base CX0 42 W.divide.f W.divide.fd ["one", "other"] (SpF (rDivQ K)) := by
  refine W.divide.F.ok sc_divide (fun vs H Q E h => ?_) (fun cdv A outer s H vs Q E hr h => ?_)
  · obtain ⟨P1, ⟨q, r, f, _⟩, _⟩ := h
    exact f.len
  · obtain ⟨P1, ⟨q, r, f, z1, z2, hne, rfl⟩, k⟩ := h
    obtain ⟨v, w, rfl, hq, hr1⟩ := f.two
    refine ⟨_, (pss_cons (ps_if (pt_cmpR op_eq (pe_ix ix_tup (pv 1) pe_int (fun _ _ => rfl)) pe_int (nomark _)) (pss_one ps_never) pss_nil)
        (pss_one (ps_ret (pe_call (ok_lowest S W) (hr.mono (by decide)) rfl W.lowest.m W.lowest.k W.lowest.b .nil pass0 (pa_cons (pe_op op_mulG (pe_ix ix_tup (pv 0) pe_int (fun _ _ => rfl)) (pe_ix ix_tup (pv 1) pe_int (fun _ _ => rfl))) (pa_cons (pe_op op_mulG (pe_ix ix_tup (pv 0) pe_int (fun _ _ => rfl)) (pe_ix ix_tup (pv 1) pe_int (fun _ _ => rfl))) pa_nil)))))), ?_⟩
    have hn := num_ne hne
    refine seq_go (if_go (et_eqI (b := false) (ev_q0 (ev_var rfl hr1)) ev_c (decide_eq_false hn)) (fun z => nomatch z) fun _ H1 e1 => ?_)
    have hq1 := Mo.mo e1 hq
    have hr2 := Mo.mo e1 hr1
    refine ret_go (ev_call (ea_cons (ev_i (ev_q0 (ev_var rfl hq1)) (ev_q1 (ev_var rfl hr2)) (mulLL z1.1 z2.2)) (ea_cons (ev_i (ev_q1 (ev_var rfl hq1)) (ev_q0 (ev_var rfl hr2)) (mulLL z1.2 z2.1)) ea_nil)) fun vs H1 _ f => ⟨_, _, f, fun z => (Int.mul_eq_zero.mp z).elim (den_ne q) hn, rfl⟩) fun v H2 e2 p => ?_
    rw [div_low q r hne] at p
    exact k v H2 (e1.trans e2) p
def rLess (K : PySem.W.Frag) : List V → Hp → P1 → Prop := fun vs H P => ∃ q r : Rat, Fits [IsQ K q, IsQ K r] vs H ∧ Sq LL LL q ∧ Sq LL LL r ∧ P = IsB (decide (q < r))
theorem sc_is_less : FnScope ["one", "other"] ["one", "other"] (defScope s_is_less) := ⟨rfl, rfl, rfl, by decide +kernel, rfl, by decide +kernel, by decide +kernel⟩
theorem ok_is_less (S : Sr P base) (W : Wd K mg) : FnOk P w K mg base CX0 1 W.is_less.f W.is_less.fd ["one", "other"] (SpF (rLess K)) := by
  refine W.is_less.F.ok sc_is_less (fun vs H Q E h => ?_) (fun cdv A outer s H vs Q E hr h => ?_)
  · obtain ⟨P1, ⟨q, r, f, _⟩, _⟩ := h
    exact f.len
  · obtain ⟨P1, ⟨q, r, f, z1, z2, rfl⟩, k⟩ := h
    obtain ⟨v, w, rfl, hq, hr1⟩ := f.two
    refine ⟨_, (pss_one (ps_ret (pe_cmpR op_lt (pe_op op_mulG (pe_ix ix_tup (pv 0) pe_int (fun _ _ => rfl)) (pe_ix ix_tup (pv 1) pe_int (fun _ _ => rfl))) (pe_op op_mulG (pe_ix ix_tup (pv 1) pe_int (fun _ _ => rfl)) (pe_ix ix_tup (pv 0) pe_int (fun _ _ => rfl))) (nomark _)))), ?_⟩
    refine ret_go (ev_i0 (ev_i (ev_q0 (ev_var rfl hq)) (ev_q1 (ev_var rfl hr1)) (mulLL z1.1 z2.2)) (ev_i (ev_q0 (ev_var rfl hr1)) (ev_q1 (ev_var rfl hq)) (mulLL z2.1 z1.2))) fun v H1 e1 p => ?_
    have e : decide (q.num * (r.den : Int) < r.num * (q.den : Int)) = decide (q < r) := decide_eq_decide.mpr (Rat.lt_iff q r).symm
    rw [e] at p
    exact k v H1 e1 p
end
end Tk

set_option Elab.async false
set_option linter.all false
set_option maxRecDepth 100000
set_option maxHeartbeats 4000000
namespace Tk
open PySem L2 Ts
section
variable {P : Program} {w : World} {K : PySem.W.Frag} {mg : Str → Option Value} {base : Heap}

/-! ### least, greatest: defs with a star -/
def OLL (o : Option Rat) : Prop := ∀ q, o = some q → Sq LL LL q
def omax : Option Rat → Option Rat → Option Rat
  | none, y => y
  | some x, none => some x
  | some x, some y => if x < y then some y else some x
theorem lmin_LL {a b : Option Rat} (ha : OLL a) (hb : OLL b) : OLL (lmin a b) := fun q e => by
  cases a with
  | none => exact hb q e
  | some x => cases b with
    | none => exact ha q e
    | some y =>
      simp only [lmin] at e
      split at e
      · exact hb q e
      · exact ha q e

theorem sc_least : FnScope ["values", "found", "value"] ["values"] (defScope s_least) := ⟨rfl, rfl, rfl, by decide +kernel, rfl, by decide +kernel, by decide +kernel⟩
def rr_least (K : PySem.W.Frag) : List V → Hp → P1 → Prop := fun vs H P => ∃ a b : Option Rat, Fits [IsO K a, IsO K b] vs H ∧ OLL a ∧ OLL b ∧ P = IsO K (lmin a b)
theorem step_least (S : Sr P base) (W : Wd K mg) {E : XK} {σ : L2.St} {H : Hp} {x f : V} {o m : Option Rat} (hx : IsO K o x H) (hf : IsO K m f H) (lo : OLL o) (lm : OLL m) {s0 : Option V} (e : σ = [s0, some f, some x]) {nx : L2.St → Hp → Prop} {rt : VK} {bk ct : L2.St → Hp → Prop}
    (k : ∀ f' H1, Same H H1 → IsO K (lmin m o) f' H1 → nx [s0, some f', some x] H1) :
    tIfS (tAnd (tTest (tOp (fun x y H Q => y = V.non ∧ Q (.bl (!decide (x = .non))) H) (tVar 2) (tC .non))) (tOr (tTest (tOp (fun x y H Q => y = V.non ∧ Q (.bl (decide (x = .non))) H) (tVar 1) (tC .non))) (tB (tCall (SpF (rLess K)) [] E (tCons (tVar 2) (tCons (tVar 1) tNil))))))
      (tAsg (tVar 2) (gName 1)) tNext ⟨nx, rt, bk, ct⟩ σ H := by
  subst e
  cases o with
  | none =>
    have em : lmin m none = m := by cases m <;> rfl
    rw [em] at k
    exact if_go (b := false) (et_and (a := false) (b := false) (et_val (ev_notN (o := none) (ev_var rfl hx))) fun z => nomatch z) (fun z => nomatch z) fun _ H1 e1 => nil_go (k f H1 e1 (Mo.mo e1 hf))
  | some q =>
    cases m with
    | none =>
      refine if_go (b := true) (et_and (a := true) (et_val (ev_notN (o := some q) (ev_var rfl hx))) fun _ => et_or (a := true) (b := true) (et_val (ev_isN (o := none) (ev_var rfl hf))) fun z => nomatch z) (fun _ H1 e1 => ?_) fun z => nomatch z
      exact set_go (ev_var rfl (Mo.mo e1 hx)) fun v H2 e2 p => k v H2 (e1.trans e2) p
    | some r =>
      refine if_go (et_and (a := true) (et_val (ev_notN (o := some q) (ev_var rfl hx))) fun _ => et_or (a := false) (et_val (ev_isN (o := some r) (ev_var rfl hf))) fun _ => et_B (ev_call (ea_cons (ev_var rfl hx) (ea_cons (ev_var rfl hf) ea_nil)) fun vs H1 _ f => ⟨_, _, f, lo q rfl, lm r rfl, rfl⟩)) (fun hb H1 e1 => ?_) fun hb H1 e1 => ?_
      · have hlt := of_decide_eq_true hb
        have em : lmin (some r) (some q) = some q := if_pos hlt
        rw [em] at k
        exact set_go (ev_var rfl (Mo.mo e1 hx)) fun v H2 e2 p => k v H2 (e1.trans e2) p
      · have hlt := of_decide_eq_false hb
        have em : lmin (some r) (some q) = some r := if_neg hlt
        rw [em] at k
        exact nil_go (k f H1 e1 (Mo.mo e1 hf))
theorem ok_least (S : Sr P base) (W : Wd K mg) : FnR P w K mg base CX0 3 W.least.f (SpF (rr_least K)) := by
  obtain ⟨oc, od, kV, doc, pm, an, cdv, ct, osl, lk, hcd⟩ := W.least.ex
  refine FnR.imp (StX.fn_star (ps := []) (pv := "values") (k := 2) (sp := fun vs H Q _ => ∃ (t : Addr) (x y : V) (a b : Option Rat), vs = [.ref t] ∧ SqT K H t [x, y] ∧ IsO K a x H ∧ IsO K b y H ∧ OLL a ∧ OLL b ∧ ∀ v H', Same H H' → IsO K (lmin a b) v H' → Q v H') lk hcd sc_least StX.cxUp_none (fun us rest hl => ?_) (fun A outer s H vs Q E hr h => ?_)) (fun vs H Q E h => ?_)
  · match us, hl with
    | [], _ => match rest with
      | [] => rfl
      | r :: rs => rfl
  · obtain ⟨t, x, y, a, b, rfl, hT, hx, hy, la, lb, k⟩ := h
    have hr : Room 2 _ := hr
    refine ⟨_, PSs.nox (pss_cons (ps_set (i := 1) sc_least.nd rfl (.inl rfl) pe_non)
        (pss_cons (ps_for PassesOwn.never rfl (pi_tup (pv 0)) (pg_name (i := 2) sc_least.nd rfl (.inl rfl)) (pss_one (ps_if (PW.pt (pw_and (pt_cmpR op_notN (pv 2) pe_non (nomark _)) (pw_and1 (PW.pt (pw_or (pt_cmpR op_isN (pv 1) pe_non (nomark _)) (pw_or1 (pt_val (pe_call (ok_is_less S W) (hr.mono (by decide)) rfl W.is_less.m W.is_less.k W.is_less.b .nil pass0 (pa_cons (pv 2) (pa_cons (pv 1) pa_nil)))))))))) (pss_one (ps_set (i := 1) sc_least.nd rfl (.inl rfl) (pv 2))) pss_nil)))
        (pss_one (ps_ret (pv 1))))), ?_⟩
    refine seq_go (set_go ev_c fun v H1 e1 hv => ?_)
    cases hv
    refine seq_go (tuple_go (xs := [x, y]) (ev_var (P := RefT K [x, y]) rfl ⟨t, rfl, e1.te _ _ hT⟩) fun t' H2 e2 hT2 => ?_)
    have e12 := e1.trans e2
    refine ⟨fun i σ H' => ∃ f s3, σ = [some (.ref t), some f, s3] ∧ Same H2 H' ∧ IsO K (match i with | 0 => none | 1 => a | _ => lmin a b) f H', ⟨_, _, rfl, Same.refl H2, rfl⟩, fun i σ H3 _ p => ?_, fun i x' σ H3 v H4 hi p hy' => ?_, fun σ H3 p => ?_⟩
    · obtain ⟨f, s3, rfl, e3, _⟩ := p
      exact e3.te _ _ hT2
    · obtain ⟨rfl, rfl⟩ := hy'
      obtain ⟨f, s3, rfl, e3, hf⟩ := p
      match i, hi with
      | 0, hi =>
        cases hi
        refine step_least S W (o := a) (m := none) (Mo.mo (e12.trans e3) hx) hf la (fun _ z => nomatch z) rfl fun f' H5 e5 hf' => ?_
        refine ⟨f', _, rfl, e3.trans e5, ?_⟩
        have em : lmin none a = a := by cases a <;> rfl
        rw [em] at hf'
        exact hf'
      | 1, hi =>
        cases hi
        refine step_least S W (o := b) (m := a) (Mo.mo (e12.trans e3) hy) hf lb la rfl fun f' H5 e5 hf' => ?_
        exact ⟨f', _, rfl, e3.trans e5, hf'⟩
    · obtain ⟨f, s3, rfl, e3, hf⟩ := p
      exact ret_go (ev_var (P := IsO K (lmin a b)) rfl hf) fun v H4 e4 p => k v H4 ((e12.trans e3).trans e4) p
  · obtain ⟨P1, ⟨a, b, f, la, lb, rfl⟩, k⟩ := h
    obtain ⟨x, y, rfl, hx, hy⟩ := f.two
    refine ⟨[], [x, y], rfl, rfl, by show 2 ≤ sizeLine; decide, fun p hp => ⟨p, x, y, a, b, rfl, .of upd_same, Mo.mo (same_new hp) hx, Mo.mo (same_new hp) hy, la, lb, fun v H' e q => k v H' ((same_new hp).trans e) q⟩⟩

theorem sc_greatest : FnScope ["values", "found", "value"] ["values"] (defScope s_greatest) := ⟨rfl, rfl, rfl, by decide +kernel, rfl, by decide +kernel, by decide +kernel⟩
def rr_greatest (K : PySem.W.Frag) : List V → Hp → P1 → Prop := fun vs H P => ∃ a b : Option Rat, Fits [IsO K a, IsO K b] vs H ∧ OLL a ∧ OLL b ∧ P = IsO K (omax a b)
theorem step_greatest (S : Sr P base) (W : Wd K mg) {E : XK} {σ : L2.St} {H : Hp} {x f : V} {o m : Option Rat} (hx : IsO K o x H) (hf : IsO K m f H) (lo : OLL o) (lm : OLL m) {s0 : Option V} (e : σ = [s0, some f, some x]) {nx : L2.St → Hp → Prop} {rt : VK} {bk ct : L2.St → Hp → Prop}
    (k : ∀ f' H1, Same H H1 → IsO K (omax m o) f' H1 → nx [s0, some f', some x] H1) :
    tIfS (tAnd (tTest (tOp (fun x y H Q => y = V.non ∧ Q (.bl (!decide (x = .non))) H) (tVar 2) (tC .non))) (tOr (tTest (tOp (fun x y H Q => y = V.non ∧ Q (.bl (decide (x = .non))) H) (tVar 1) (tC .non))) (tB (tCall (SpF (rLess K)) [] E (tCons (tVar 1) (tCons (tVar 2) tNil))))))
      (tAsg (tVar 2) (gName 1)) tNext ⟨nx, rt, bk, ct⟩ σ H := by
  subst e
  cases o with
  | none =>
    have em : omax m none = m := by cases m <;> rfl
    rw [em] at k
    exact if_go (b := false) (et_and (a := false) (b := false) (et_val (ev_notN (o := none) (ev_var rfl hx))) fun z => nomatch z) (fun z => nomatch z) fun _ H1 e1 => nil_go (k f H1 e1 (Mo.mo e1 hf))
  | some q =>
    cases m with
    | none =>
      refine if_go (b := true) (et_and (a := true) (et_val (ev_notN (o := some q) (ev_var rfl hx))) fun _ => et_or (a := true) (b := true) (et_val (ev_isN (o := none) (ev_var rfl hf))) fun z => nomatch z) (fun _ H1 e1 => ?_) fun z => nomatch z
      exact set_go (ev_var rfl (Mo.mo e1 hx)) fun v H2 e2 p => k v H2 (e1.trans e2) p
    | some r =>
      refine if_go (et_and (a := true) (et_val (ev_notN (o := some q) (ev_var rfl hx))) fun _ => et_or (a := false) (et_val (ev_isN (o := some r) (ev_var rfl hf))) fun _ => et_B (ev_call (ea_cons (ev_var rfl hf) (ea_cons (ev_var rfl hx) ea_nil)) fun vs H1 _ f => ⟨_, _, f, lm r rfl, lo q rfl, rfl⟩)) (fun hb H1 e1 => ?_) fun hb H1 e1 => ?_
      · have hlt := of_decide_eq_true hb
        have em : omax (some r) (some q) = some q := if_pos hlt
        rw [em] at k
        exact set_go (ev_var rfl (Mo.mo e1 hx)) fun v H2 e2 p => k v H2 (e1.trans e2) p
      · have hlt := of_decide_eq_false hb
        have em : omax (some r) (some q) = some r := if_neg hlt
        rw [em] at k
        exact nil_go (k f H1 e1 (Mo.mo e1 hf))
theorem ok_greatest (S : Sr P base) (W : Wd K mg) : FnR P w K mg base CX0 3 W.greatest.f (SpF (rr_greatest K)) := by
  obtain ⟨oc, od, kV, doc, pm, an, cdv, ct, osl, lk, hcd⟩ := W.greatest.ex
  refine FnR.imp (StX.fn_star (ps := []) (pv := "values") (k := 2) (sp := fun vs H Q _ => ∃ (t : Addr) (x y : V) (a b : Option Rat), vs = [.ref t] ∧ SqT K H t [x, y] ∧ IsO K a x H ∧ IsO K b y H ∧ OLL a ∧ OLL b ∧ ∀ v H', Same H H' → IsO K (omax a b) v H' → Q v H') lk hcd sc_greatest StX.cxUp_none (fun us rest hl => ?_) (fun A outer s H vs Q E hr h => ?_)) (fun vs H Q E h => ?_)
  · match us, hl with
    | [], _ => match rest with
      | [] => rfl
      | r :: rs => rfl
  · obtain ⟨t, x, y, a, b, rfl, hT, hx, hy, la, lb, k⟩ := h
    have hr : Room 2 _ := hr
    refine ⟨_, PSs.nox (pss_cons (ps_set (i := 1) sc_greatest.nd rfl (.inl rfl) pe_non)
        (pss_cons (ps_for PassesOwn.never rfl (pi_tup (pv 0)) (pg_name (i := 2) sc_greatest.nd rfl (.inl rfl)) (pss_one (ps_if (PW.pt (pw_and (pt_cmpR op_notN (pv 2) pe_non (nomark _)) (pw_and1 (PW.pt (pw_or (pt_cmpR op_isN (pv 1) pe_non (nomark _)) (pw_or1 (pt_val (pe_call (ok_is_less S W) (hr.mono (by decide)) rfl W.is_less.m W.is_less.k W.is_less.b .nil pass0 (pa_cons (pv 1) (pa_cons (pv 2) pa_nil)))))))))) (pss_one (ps_set (i := 1) sc_greatest.nd rfl (.inl rfl) (pv 2))) pss_nil)))
        (pss_one (ps_ret (pv 1))))), ?_⟩
    refine seq_go (set_go ev_c fun v H1 e1 hv => ?_)
    cases hv
    refine seq_go (tuple_go (xs := [x, y]) (ev_var (P := RefT K [x, y]) rfl ⟨t, rfl, e1.te _ _ hT⟩) fun t' H2 e2 hT2 => ?_)
    have e12 := e1.trans e2
    refine ⟨fun i σ H' => ∃ f s3, σ = [some (.ref t), some f, s3] ∧ Same H2 H' ∧ IsO K (match i with | 0 => none | 1 => a | _ => omax a b) f H', ⟨_, _, rfl, Same.refl H2, rfl⟩, fun i σ H3 _ p => ?_, fun i x' σ H3 v H4 hi p hy' => ?_, fun σ H3 p => ?_⟩
    · obtain ⟨f, s3, rfl, e3, _⟩ := p
      exact e3.te _ _ hT2
    · obtain ⟨rfl, rfl⟩ := hy'
      obtain ⟨f, s3, rfl, e3, hf⟩ := p
      match i, hi with
      | 0, hi =>
        cases hi
        refine step_greatest S W (o := a) (m := none) (Mo.mo (e12.trans e3) hx) hf la (fun _ z => nomatch z) rfl fun f' H5 e5 hf' => ?_
        refine ⟨f', _, rfl, e3.trans e5, ?_⟩
        have em : omax none a = a := by cases a <;> rfl
        rw [em] at hf'
        exact hf'
      | 1, hi =>
        cases hi
        refine step_greatest S W (o := b) (m := a) (Mo.mo (e12.trans e3) hy) hf lb la rfl fun f' H5 e5 hf' => ?_
        exact ⟨f', _, rfl, e3.trans e5, hf'⟩
    · obtain ⟨f, s3, rfl, e3, hf⟩ := p
      exact ret_go (ev_var (P := IsO K (omax a b)) rfl hf) fun v H4 e4 p => k v H4 ((e12.trans e3).trans e4) p
  · obtain ⟨P1, ⟨a, b, f, la, lb, rfl⟩, k⟩ := h
    obtain ⟨x, y, rfl, hx, hy⟩ := f.two
    refine ⟨[], [x, y], rfl, rfl, by show 2 ≤ sizeLine; decide, fun p hp => ⟨p, x, y, a, b, rfl, .of upd_same, Mo.mo (same_new hp) hx, Mo.mo (same_new hp) hy, la, lb, fun v H' e q => k v H' ((same_new hp).trans e) q⟩⟩
end
end Tk

set_option Elab.async false
set_option linter.all false
set_option maxRecDepth 100000
set_option maxHeartbeats 4000000
namespace Tk
open PySem L2 Ts
section
variable {P : Program} {w : World} {K : PySem.W.Frag} {mg : Str → Option Value} {base : Heap}

/-! ### rows -/
abbrev IsRows (K : PySem.W.Frag) (rs : List Row) : P1 := IsL K (IsRow K) rs
theorem inv_q {g : Int} (hg : 0 < g) : ((1 : Rat) / (g : Rat)).num = 1 ∧ (((1 : Rat) / (g : Rat)).den : Int) = g := by
  obtain ⟨s, h0, h1, h2, h3⟩ := low_exact (i := 1) (j := g) (by omega)
  rw [if_neg (by omega), Int.one_gcd] at h1
  subst h1
  have e : ((1 : Int) : Rat) / (g : Rat) = (1 : Rat) / (g : Rat) := rfl
  rw [e] at h2 h3
  refine ⟨h2.symm.trans (by decide), h3.symm.trans (by simp)⟩
theorem OSz.ll {n d : Nat} {o : Option Rat} (h : OSz n d o) (h1 : n ≤ LL) (h2 : d ≤ LL) : OLL o := fun q e => (h q e).mono h1 h2
def rRowOk (K : PySem.W.Frag) : List V → Hp → P1 → Prop := fun vs H P => ∃ r : Row, Fits [IsRow K r] vs H ∧ r.ok ∧ P = IsB true
theorem sc_is_row : FnScope ["thing"] ["thing"] (defScope s_is_row) := ⟨rfl, rfl, rfl, by decide +kernel, rfl, by decide +kernel, by decide +kernel⟩
theorem ok_is_row (S : Sr P base) (W : Wd K mg) : FnOk P w K mg base CX0 3 W.is_row.f W.is_row.fd ["thing"] (SpF (rRowOk K)) := by
  refine W.is_row.F.ok sc_is_row (fun vs H Q E h => ?_) (fun cdv A outer s H vs Q E hr h => ?_)
  · obtain ⟨P1, ⟨r, f, _⟩, _⟩ := h
    exact f.len
  · obtain ⟨P1, ⟨r, f, ho, rfl⟩, k⟩ := h
    obtain ⟨v, rfl, hv⟩ := f.one
    refine ⟨_, (pss_cons (ps_if (PW.pt (pw_or (pt_not (pt_val (pe_callB call_isi (by rfl) W.n_isinstance (by decide +kernel) (pa_cons (pv 0) (pa_cons (pe_bltn (v := .ty "tuple") (by rfl) W.n_tuple (by decide +kernel) rfl) pa_nil))))) (pw_or (pt_cmpR op_ne (pe_callB call_len_seq (by rfl) W.n_len (by decide +kernel) (pa_cons (pv 0) pa_nil)) pe_int (nomark _)) (pw_or (pt_not (pt_val (pe_call (ok_is_whole S W) (hr.mono (by decide)) rfl W.is_whole.m W.is_whole.k W.is_whole.b .nil pass0 (pa_cons (pe_ix ix_tup (pv 0) pe_int (fun _ _ => rfl)) pa_nil)))) (pw_or1 (pt_not (pt_val (pe_call (ok_is_whole S W) (hr.mono (by decide)) rfl W.is_whole.m W.is_whole.k W.is_whole.b .nil pass0 (pa_cons (pe_ix ix_tup (pv 0) pe_int (fun _ _ => rfl)) pa_nil))))))))) (pss_one (ps_ret pe_bl)) pss_nil)
        (pss_one (ps_ret (pe_and (pe_or (pe_cmpR op_ne (pe_ix ix_tup (pv 0) pe_int (fun _ _ => rfl)) pe_int (nomark _)) (pe_one (pe_cmpR op_ne (pe_ix ix_tup (pv 0) pe_int (fun _ _ => rfl)) pe_int (nomark _)))) (pe_one (pe_call (ok_is_ratio S W) (hr.mono (by decide)) rfl W.is_ratio.m W.is_ratio.k W.is_ratio.b .nil pass0 (pa_cons (pe_ix ix_tup (pv 0) pe_int (fun _ _ => rfl)) pa_nil))))))), ?_⟩
    have t1 : ∀ x H1, Same H H1 → IsRow K r x H1 → TyX K H1 x (.type "tuple") := fun x H1 _ ⟨a, c, e, h1, _⟩ => e ▸ tyx_tup h1
    refine seq_go (if_go (b := false) (et_or (a := false) (et_not (b := true) (et_B (ev_isi (ev_var rfl hv) t1 (by decide +kernel)))) fun _ => et_or (a := false) (et_neI (i := (3 : Nat)) (ev_lenT (ev_var rfl hv) fun x H1 _ ⟨a, c, e, h1, _⟩ => ⟨a, _, e, h1, rfl⟩) ev_c (by decide)) fun _ =>
      et_or (a := false) (et_not (b := true) (et_B (ev_call (ea_cons (ev_r0 (ev_var rfl hv)) ea_nil) fun vs H1 _ f => ⟨_, f, rfl⟩))) fun _ => et_not (b := true) (et_B (ev_call (ea_cons (ev_r1 (ev_var rfl hv)) ea_nil) fun vs H1 _ f => ⟨_, f, rfl⟩))) (fun z => nomatch z) fun _ H1 e1 => ?_)
    have hv1 := Mo.mo e1 hv
    have e0 : (!decide (r.a = 0) || !decide (r.b = 0)) = true := by
      rcases ho with o | o
      · rw [decide_eq_false o]; rfl
      · rw [decide_eq_false o]; cases decide (r.a = 0) <;> rfl
    refine ret_go (ev_and (a := true) (ev_is (ev_or (ev_neI (ev_r0 (ev_var rfl hv1)) ev_c) fun _ => ev_neI (ev_r1 (ev_var rfl hv1)) ev_c) (congrArg V.bl e0)) fun _ => ev_call (ea_cons (ev_r2 (ev_var rfl hv1)) ea_nil) fun vs H1 _ f => ⟨_, f, rfl⟩) fun v H2 e2 p => k v H2 (e1.trans e2) p
def rNormal (K : PySem.W.Frag) : List V → Hp → P1 → Prop := fun vs H P => ∃ (n : Nat) (r : Row), Fits [IsRow K r] vs H ∧ r.ok ∧ RSz n r ∧ n ≤ LL ∧ P = IsRow K (normal r)
theorem sc_normal : FnScope ["row", "part"] ["row"] (defScope s_normal) := ⟨rfl, rfl, rfl, by decide +kernel, rfl, by decide +kernel, by decide +kernel⟩
theorem ok_normal (S : Sr P base) (W : Wd K mg) : FnOk P w K mg base CX0 45 W.normal.f W.normal.fd ["row"] (SpF (rNormal K)) := by
  refine W.normal.F.ok sc_normal (fun vs H Q E h => ?_) (fun cdv A outer s H vs Q E hr h => ?_)
  · obtain ⟨P1, ⟨n, r, f, _⟩, _⟩ := h
    exact f.len
  · obtain ⟨P1, ⟨n, r, f, ho, hz, hn, rfl⟩, k⟩ := h
    obtain ⟨v, rfl, hv⟩ := f.one
    refine ⟨_, (pss_cons (ps_set (i := 1) sc_normal.nd rfl (.inl rfl) (pe_call (ok_divisor S W) (hr.mono (by decide)) rfl W.divisor.m W.divisor.k W.divisor.b .nil pass0 (pa_cons (pe_ix ix_tup (pv 0) pe_int (fun _ _ => rfl)) (pa_cons (pe_ix ix_tup (pv 0) pe_int (fun _ _ => rfl)) pa_nil))))
        (pss_one (ps_ret (pe_tup (pa_cons (pe_op (op_fdivG ⟨S.seer, S.tree, room_pyl hr (by decide), rfl, rfl, rfl⟩) (pe_ix ix_tup (pv 0) pe_int (fun _ _ => rfl)) (pv 1)) (pa_cons (pe_op (op_fdivG ⟨S.seer, S.tree, room_pyl hr (by decide), rfl, rfl, rfl⟩) (pe_ix ix_tup (pv 0) pe_int (fun _ _ => rfl)) (pv 1)) (pa_cons (pe_call (ok_multiply S W) (hr.mono (by decide)) rfl W.multiply.m W.multiply.k W.multiply.b .nil pass0 (pa_cons (pe_ix ix_tup (pv 0) pe_int (fun _ _ => rfl)) (pa_cons (pe_tup (pa_cons pe_int (pa_cons (pv 1) pa_nil))) pa_nil))) pa_nil))))))), ?_⟩
    have hg := gcd_pos ho
    refine seq_go (set_go (ev_call (ea_cons (ev_r0 (ev_var rfl hv)) (ea_cons (ev_r1 (ev_var rfl hv)) ea_nil)) fun vs H1 _ f => ⟨_, _, f, rfl⟩) fun v' H1 s1 hv' => ?_)
    cases hv'
    have hv1 := Mo.mo s1 hv
    have hne : (Int.gcd r.a r.b : Int) ≠ 0 := by omega
    have fd : ∀ i : Int, i.fdiv (Int.gcd r.a r.b : Int) = i / (Int.gcd r.a r.b : Int) := fun i => Int.fdiv_eq_ediv_of_nonneg i (by omega)
    have i1 : Sq LL LL ((1 : Rat) / ((Int.gcd r.a r.b : Int) : Rat)) := by
      have := Sq.div (n := 0) (i := 1) hne Sz.one (gcd_le hz.1 hz.2.1)
      exact this.mono (Nat.zero_le _) hn
    refine ret_go (ev_mkRow (r := normal r) (ev_is (ev_i (ev_r0 (ev_var rfl hv1)) (ev_v rfl) hne) (congrArg V.int (fd _))) (ev_is (ev_i (ev_r1 (ev_var rfl hv1)) (ev_v rfl) hne) (congrArg V.int (fd _)))
      (ev_call (ea_cons (ev_r2 (ev_var rfl hv1)) (ea_cons (ev_mkQ (K := K) (q := (1 : Rat) / ((Int.gcd r.a r.b : Int) : Rat)) ev_c (ev_v rfl) (inv_q hg).1.symm (inv_q hg).2.symm) ea_nil)) fun vs H1 _ f => ⟨_, _, f, hz.2.2.mono hn hn, i1, rfl⟩)) fun v H2 e2 p => k v H2 (s1.trans e2) p
def rAtMost (K : PySem.W.Frag) : List V → Hp → P1 → Prop := fun vs H P => ∃ (o : Option Rat) (c : Rat), Fits [IsO K o, IsQ K c] vs H ∧ OLL o ∧ Sq LL LL c ∧ P = IsB (atMost o c)
theorem sc_is_at_most : FnScope ["value", "bound"] ["value", "bound"] (defScope s_is_at_most) := ⟨rfl, rfl, rfl, by decide +kernel, rfl, by decide +kernel, by decide +kernel⟩
theorem ok_is_at_most (S : Sr P base) (W : Wd K mg) : FnOk P w K mg base CX0 2 W.is_at_most.f W.is_at_most.fd ["value", "bound"] (SpF (rAtMost K)) := by
  refine W.is_at_most.F.ok sc_is_at_most (fun vs H Q E h => ?_) (fun cdv A outer s H vs Q E hr h => ?_)
  · obtain ⟨P1, ⟨o, c, f, _⟩, _⟩ := h
    exact f.len
  · obtain ⟨P1, ⟨o, c, f, lo, lc, rfl⟩, k⟩ := h
    obtain ⟨x, y, rfl, hx, hy⟩ := f.two
    refine ⟨_, (pss_one (ps_ret (pe_and (pe_cmpR op_notN (pv 0) pe_non (nomark _)) (pe_one (pe_not (pe_call (ok_is_less S W) (hr.mono (by decide)) rfl W.is_less.m W.is_less.k W.is_less.b .nil pass0 (pa_cons (pv 1) (pa_cons (pv 0) pa_nil)))))))), ?_⟩
    cases o with
    | none =>
      exact ret_go (ev_is (ev_and (a := false) (b := false) (ev_notN (o := none) (ev_var rfl hx)) fun z => nomatch z) rfl) k
    | some q =>
      exact ret_go (ev_is (ev_and (a := true) (ev_notN (o := some q) (ev_var rfl hx)) fun _ => ev_not (ev_call (ea_cons (ev_var rfl hy) (ea_cons (ev_var (P := IsQ K q) rfl hx) ea_nil)) fun vs H1 _ f => ⟨_, _, f, lc, lo q rfl, rfl⟩)) rfl) k

theorem cands_snoc (a b : Int) : ∀ (xs pre : List Row) (r : Row), candsFrom pre a b (xs ++ [r]) = candsFrom pre a b xs ++ candsOf (pre ++ xs) r a b
  | [], pre, r => by simp [candsFrom]
  | x :: xs, pre, r => by
    rw [List.cons_append, candsFrom, candsFrom, cands_snoc a b xs, List.append_assoc, List.append_assoc]
    simp
/-- the bound after i rows, and j of those before the next one -/
def bnd1 (rs : List Row) (a b : Int) (i : Nat) : Option Rat := boundOf (rs.take i) a b
def bnd2 (rs : List Row) (a b : Int) (i : Nat) (r : Row) (j : Nat) : Option Rat := (((rs.take i).take j).filterMap fun s => pairv r s a b).foldl least1 ((single r a b).toList.foldl least1 (bnd1 rs a b i))
theorem bnd2_end {rs : List Row} {a b : Int} {i : Nat} {r : Row} (h : rs[i]? = some r) : bnd2 rs a b i r (rs.take i).length = bnd1 rs a b (i + 1) := by
  unfold bnd2 bnd1 boundOf
  have e : rs.take (i + 1) = rs.take i ++ [r] := by rw [List.take_add_one, h]; rfl
  rw [e, cands_snoc, List.foldl_append, List.take_length, List.nil_append]
  unfold candsOf
  rw [List.foldl_append]
theorem bnd2_step {rs : List Row} {a b : Int} {i : Nat} {r s : Row} {j : Nat} (h : (rs.take i)[j]? = some s) : bnd2 rs a b i r (j + 1) = lmin (bnd2 rs a b i r j) (pairv r s a b) := by
  unfold bnd2
  have e : (rs.take i).take (j + 1) = (rs.take i).take j ++ [s] := by rw [List.take_add_one, h]; rfl
  have e2 : [s].filterMap (fun s => pairv r s a b) = (pairv r s a b).toList := by cases hp : pairv r s a b <;> simp [hp]
  have e3 : ∀ (m o : Option Rat), o.toList.foldl least1 m = lmin m o := fun m o => by
    cases o with
    | none => cases m <;> rfl
    | some v => rfl
  rw [e, List.filterMap_append, List.foldl_append, e2, e3]
theorem bnd2_zero {rs : List Row} {a b : Int} {i : Nat} {r : Row} : bnd2 rs a b i r 0 = lmin (bnd1 rs a b i) (single r a b) := by
  unfold bnd2
  simp only [List.take_zero, List.filterMap_nil, List.foldl_nil]
  cases single r a b with
  | none => simp; cases bnd1 rs a b i <;> rfl
  | some v => rfl
theorem bnd_ll {n m : Nat} {rs : List Row} {a b : Int} (ho : Oks rs) (hz : RsSz n rs) (ha : Sz m a) (hb : Sz m b) (hl : m + 6 * n + 3 ≤ LL) :
    (∀ i, OLL (bnd1 rs a b i)) ∧ ∀ i r j, r ∈ rs → OLL (bnd2 rs a b i r j) := by
  have sub : ∀ i, Oks (rs.take i) ∧ RsSz n (rs.take i) := fun i => ⟨fun r hr => ho r (List.mem_of_mem_take hr), fun r hr => hz r (List.mem_of_mem_take hr)⟩
  have h1 : ∀ i, OLL (bnd1 rs a b i) := fun i => OSz.ll (bound_sz (sub i).1 (sub i).2 ha hb) (by omega) (by omega)
  refine ⟨h1, fun i r j hr => ?_⟩
  have hs : OLL (single r a b) := fun v e => (single_sz (ho r hr) (hz r hr) ha hb e).mono (by omega) (by omega)
  induction j with
  | zero => rw [bnd2_zero]; exact lmin_LL (h1 i) hs
  | succ j ih =>
    cases e : (rs.take i)[j]? with
    | some s =>
      rw [bnd2_step e]
      refine lmin_LL ih fun v q => (pairv_sz (hz r hr) ((sub i).2 s (List.mem_of_getElem? e)) ha hb q).mono (by omega) (by omega)
    | none =>
      have hle : (rs.take i).length ≤ j := List.getElem?_eq_none_iff.mp e
      have e2 : (rs.take i).take (j + 1) = (rs.take i).take j := by rw [List.take_of_length_le (by omega), List.take_of_length_le hle]
      have : bnd2 rs a b i r (j + 1) = bnd2 rs a b i r j := by unfold bnd2; rw [e2]
      rw [this]; exact ih
theorem cut_take (xs : List V) (i : Nat) (h : i ≤ xs.length) : cutV xs none (some (i : Int)) = xs.take i := by
  unfold cutV
  have e1 : HT.sIx xs.length 0 none = 0 := rfl
  have e2 : HT.sIx xs.length xs.length (some (i : Int)) = i := by
    show (if (i : Int) < 0 then ((i : Int) + (xs.length : Int)).toNat else min (i : Int).toNat xs.length) = i
    rw [if_neg (by omega)]
    omega
  rw [e1, e2]; simp

theorem sc_bound_of : FnScope ["rows", "a", "b", "found", "at", "p", "q", "c", "share", "u", "v", "d", "turn", "one", "other"] ["rows", "a", "b"] (defScope s_bound_of) := ⟨rfl, rfl, rfl, by decide +kernel, rfl, by decide +kernel, by decide +kernel⟩
def rBound (K : PySem.W.Frag) : List V → Hp → P1 → Prop := fun vs H P => ∃ (n m : Nat) (rs : List Row) (a b : Int), Fits [IsRows K rs, IsI a, IsI b] vs H ∧ Oks rs ∧ RsSz n rs ∧ Sz m a ∧ Sz m b ∧ m + 6 * n + 3 ≤ LL ∧ P = IsO K (boundOf rs a b)
theorem et_gt0 {σ : L2.St} {H : Hp} {ta : TE} {i : Int} {q : Rat} (ha : Ev ta σ H (IsI i)) (e : i = q.num) : EvT (tTest (tOp (rI0 fun i j => .bl (decide (j ≤ i))) ta (tC (.int 0)))) σ H (decide (0 ≤ q)) := by
  have : decide (0 ≤ i) = decide (0 ≤ q) := decide_eq_decide.mpr (by rw [e]; exact Rat.num_nonneg)
  rw [← this]
  exact et_val (ev_i0 ha ev_c)
theorem ok_bound_of (S : Sr P base) (W : Wd K mg) : FnOk P w K mg base CX0 45 W.bound_of.f W.bound_of.fd ["rows", "a", "b"] (SpF (rBound K)) := by
  refine W.bound_of.F.ok sc_bound_of (fun vs H Q E h => ?_) (fun cdv A outer s H vs Q E hr h => ?_)
  · obtain ⟨P1, ⟨n, m, rs, a, b, f, _⟩, _⟩ := h
    exact f.len
  · obtain ⟨P1, ⟨n, m, rs, a, b, f, ho, hz, sa, sb, hl, rfl⟩, k⟩ := h
    obtain ⟨v0, v1, v2, rfl, hrs, rfl, rfl⟩ := f.three
    obtain ⟨l, ws, rfl, hw, hall⟩ := hrs
    refine ⟨_, (pss_cons (ps_set (i := 3) sc_bound_of.nd rfl (.inl rfl) pe_non)
        (pss_cons (ps_for PassesOwn.never rfl (pi_enum (by rfl) W.n_enumerate (pa_cons (pv 0) pa_nil)) (pg_tup rfl (pgs_cons (pg_name (i := 4) sc_bound_of.nd rfl (.inl rfl)) (pgs_cons (pg_tup rfl (pgs_cons (pg_name (i := 5) sc_bound_of.nd rfl (.inl rfl)) (pgs_cons (pg_name (i := 6) sc_bound_of.nd rfl (.inl rfl)) (pgs_cons (pg_name (i := 7) sc_bound_of.nd rfl (.inl rfl)) pgs_nil)))) pgs_nil))) (pss_cons (ps_if (PW.pt (pw_and (pt_cmpR op_eq (pe_op op_mulG (pv 5) (pv 2)) (pe_op op_mulG (pv 6) (pv 1)) (nomark _)) (pw_and1 (pt_cmpR op_gt (pe_op op_add (pe_op op_mulG (pv 5) (pv 1)) (pe_op op_mulG (pv 6) (pv 2))) pe_int (nomark _))))) (pss_cons (ps_set (i := 8) sc_bound_of.nd rfl (.inl rfl) (pe_ifExp (pt_cmpR op_ne (pv 5) pe_int (nomark _)) (pe_call (ok_lowest S W) (hr.mono (by decide)) rfl W.lowest.m W.lowest.k W.lowest.b .nil pass0 (pa_cons (pv 1) (pa_cons (pv 5) pa_nil))) (pe_call (ok_lowest S W) (hr.mono (by decide)) rfl W.lowest.m W.lowest.k W.lowest.b .nil pass0 (pa_cons (pv 2) (pa_cons (pv 6) pa_nil)))))
        (pss_one (ps_set (i := 3) sc_bound_of.nd rfl (.inl rfl) (pe_callStar (ok_least S W) (hr.mono (by decide)) W.least.k rfl W.least.m pass0 (pa_cons (pv 3) (pa_cons (pe_call (ok_multiply S W) (hr.mono (by decide)) rfl W.multiply.m W.multiply.k W.multiply.b .nil pass0 (pa_cons (pv 8) (pa_cons (pv 7) pa_nil))) pa_nil)))))) pss_nil)
        (pss_one (ps_for PassesOwn.never rfl (pi_list (pe_slice sl_list (pv 0) po_none (po_some (pv 4)))) (pg_tup rfl (pgs_cons (pg_name (i := 9) sc_bound_of.nd rfl (.inl rfl)) (pgs_cons (pg_name (i := 10) sc_bound_of.nd rfl (.inl rfl)) (pgs_cons (pg_name (i := 11) sc_bound_of.nd rfl (.inl rfl)) pgs_nil)))) (pss_cons (ps_set (i := 12) sc_bound_of.nd rfl (.inl rfl) (pe_op op_sub (pe_op op_mulG (pv 5) (pv 10)) (pe_op op_mulG (pv 6) (pv 9))))
        (pss_one (ps_if (pt_cmpR op_ne (pv 12) pe_int (nomark _)) (pss_cons (ps_par (i := 13) (j := 14) rfl sc_bound_of.nd rfl rfl (by decide) rfl rfl (pa_cons (pe_call (ok_lowest S W) (hr.mono (by decide)) rfl W.lowest.m W.lowest.k W.lowest.b .nil pass0 (pa_cons (pe_op op_sub (pe_op op_mulG (pv 1) (pv 10)) (pe_op op_mulG (pv 2) (pv 9))) (pa_cons (pv 12) pa_nil))) (pa_cons (pe_call (ok_lowest S W) (hr.mono (by decide)) rfl W.lowest.m W.lowest.k W.lowest.b .nil pass0 (pa_cons (pe_op op_sub (pe_op op_mulG (pv 5) (pv 2)) (pe_op op_mulG (pv 6) (pv 1))) (pa_cons (pv 12) pa_nil))) pa_nil)) (by rfl))
        (pss_one (ps_if (PW.pt (pw_and (pt_cmpR op_ge (pe_ix ix_tup (pv 13) pe_int (fun _ _ => rfl)) pe_int (nomark _)) (pw_and1 (pt_cmpR op_ge (pe_ix ix_tup (pv 14) pe_int (fun _ _ => rfl)) pe_int (nomark _))))) (pss_one (ps_set (i := 3) sc_bound_of.nd rfl (.inl rfl) (pe_callStar (ok_least S W) (hr.mono (by decide)) W.least.k rfl W.least.m pass0 (pa_cons (pv 3) (pa_cons (pe_call (ok_add S W) (hr.mono (by decide)) rfl W.add.m W.add.k W.add.b .nil pass0 (pa_cons (pe_call (ok_multiply S W) (hr.mono (by decide)) rfl W.multiply.m W.multiply.k W.multiply.b .nil pass0 (pa_cons (pv 13) (pa_cons (pv 7) pa_nil))) (pa_cons (pe_call (ok_multiply S W) (hr.mono (by decide)) rfl W.multiply.m W.multiply.k W.multiply.b .nil pass0 (pa_cons (pv 14) (pa_cons (pv 11) pa_nil))) pa_nil))) pa_nil))))) pss_nil))) pss_nil)))))))
        (pss_one (ps_ret (pv 3))))), ?_⟩
    obtain ⟨ll1, ll2⟩ := bnd_ll ho hz sa sb hl
    have hLL : LL = 33554432 := rfl
    refine seq_go (set_go ev_c fun v H1 s1 hv => ?_)
    cases hv
    refine seq_go (enum_go (xs := ws) (ev_var (P := RefL K ws) rfl ⟨l, rfl, s1.seq hw⟩) fun l' H2 s2 hw2 => ?_)
    have s12 := s1.trans s2
    refine ⟨fun i σ H' => ∃ fv x4 x5 x6 x7 x8 x9 x10 x11 x12 x13 x14, σ = [some (.ref l), some (.int a), some (.int b), some fv, x4, x5, x6, x7, x8, x9, x10, x11, x12, x13, x14] ∧ Same H2 H' ∧ IsO K (bnd1 rs a b i) fv H',
      ⟨_, _, _, _, _, _, _, _, _, _, _, _, rfl, Same.refl H2, rfl⟩, fun i σ H3 _ p => ?_, fun i x σ H3 v H4 hi p hy => ?_, fun σ H3 p => ?_⟩
    · obtain ⟨fv, x4, x5, x6, x7, x8, x9, x10, x11, x12, x13, x14, rfl, s3, _⟩ := p
      exact s3.seq hw2
    · obtain ⟨fv, x4, x5, x6, x7, x8, x9, x10, x11, x12, x13, x14, rfl, s3, hf⟩ := p
      obtain ⟨T, rfl, hT, rfl⟩ := hy
      obtain ⟨r, hri, hrow⟩ := hall.2 i x hi
      have hmem : r ∈ rs := List.mem_of_getElem? hri
      have or := ho r hmem
      have zr := hz r hmem
      have hil : i < ws.length := (List.getElem?_eq_some_iff.mp hi).1
      have s4 : Same H2 (upd H3 T (.tup [.int (i : Nat), x])) := s3.trans (same_new hT)
      refine ⟨T, _, rfl, .of upd_same, rfl, _, _, rfl, _, _, rfl, row_tg (Mo.mo (s12.trans s4) hrow) fun c hc => ⟨rfl, ?_⟩⟩
      have hf4 : IsO K (bnd1 rs a b i) fv (upd H3 T (.tup [.int (i : Nat), x])) := Mo.mo (same_new hT) hf
      generalize upd H3 T (.tup [.int (i : Nat), x]) = H4 at *
      -- the inner loop, from whatever has been found with this row alone
      refine seq_go (join_go (fun σ' H5 => ∃ fv5 x8', σ' = [some (.ref l), some (.int a), some (.int b), some fv5, some (.int (i : Nat)), some (.int r.a), some (.int r.b), some c, x8', x9, x10, x11, x12, x13, x14] ∧ Same H4 H5 ∧ IsO K (bnd2 rs a b i r 0) fv5 H5) (fun σ' H5 hM => ?_) fun nx' inner => ?_)
      · obtain ⟨fv5, x8', rfl, s5, hf5⟩ := hM
        have hw5 : SqL K H5 l ws := (s12.trans (s4.trans s5)).seq hw
        refine list_go (xs := ws.take i) (fun H6 s6 Q6 k6 => ⟨_, rfl, _, rfl, ⟨(i : Int), rfl, l, ws, rfl, s6.seq hw5, fun p np => k6 _ _ (same_new np) ⟨p, rfl, .of (by rw [upd_same, cut_take ws i (by omega)])⟩⟩⟩) fun l6 H6 s6 hw6 => ?_
        refine ⟨fun j σ H' => ∃ fv y8 y9 y10 y11 y12 y13 y14, σ = [some (.ref l), some (.int a), some (.int b), some fv, some (.int (i : Nat)), some (.int r.a), some (.int r.b), some c, y8, y9, y10, y11, y12, y13, y14] ∧ Same H6 H' ∧ IsO K (bnd2 rs a b i r j) fv H',
          ⟨_, _, _, _, _, _, _, _, rfl, Same.refl H6, Mo.mo s6 hf5⟩, fun j σ H7 _ p => ?_, fun j x' σ H7 v H8 hj p hy => ?_, fun σ H7 p => ?_⟩
        · obtain ⟨fv, y8, y9, y10, y11, y12, y13, y14, rfl, s7, _⟩ := p
          exact s7.seq hw6
        · obtain ⟨fv, y8, y9, y10, y11, y12, y13, y14, rfl, s7, hf7⟩ := p
          obtain ⟨rfl, rfl⟩ := hy
          obtain ⟨s', hsj, hsrow⟩ := (hall.take i).2 j v hj
          have hmem' : s' ∈ rs := List.mem_of_mem_take (List.mem_of_getElem? hsj)
          have zs := hz s' hmem'
          have s47 : Same H4 H8 := s5.trans (s6.trans s7)
          refine row_tg (Mo.mo (s12.trans (s4.trans s47)) hsrow) fun d hd => ?_
          have hc8 := Mo.mo s47 hc
          have fin : ∀ fv' H9 z12 z13 z14, Same H8 H9 → IsO K (lmin (bnd2 rs a b i r j) (pairv r s' a b)) fv' H9 → ∃ fv2 w8 w9 w10 w11 w12 w13 w14, [some (V.ref l), some (.int a), some (.int b), some fv', some (.int (i : Nat)), some (.int r.a), some (.int r.b), some c, y8, some (.int s'.a), some (.int s'.b), some d, z12, z13, z14] = [some (.ref l), some (.int a), some (.int b), some fv2, some (.int (i : Nat)), some (.int r.a), some (.int r.b), some c, w8, w9, w10, w11, w12, w13, w14] ∧ Same H6 H9 ∧ IsO K (bnd2 rs a b i r (j + 1)) fv2 H9 :=
            fun fv' H9 z12 z13 z14 s9 h9 => ⟨_, _, _, _, _, _, _, _, rfl, s7.trans s9, by rw [bnd2_step hsj]; exact h9⟩
          refine seq_go (set_go (ev_i0 (ev_i (ev_v rfl) (ev_v rfl) (mulG zr.1 zs.2.1 (by omega))) (ev_i (ev_v rfl) (ev_v rfl) (mulG zr.2.1 zs.1 (by omega)))) fun v H9 s9 hv => ?_)
          cases hv
          by_cases ht : turn r s' ≠ 0
          · refine if_go (et_neI (b := true) (ev_v rfl) ev_c (by rw [show (r.a * s'.b - r.b * s'.a) = turn r s' from rfl, decide_eq_false ht]; rfl)) (fun _ H10 s10 => ?_) fun z => nomatch z
            refine seq_go (par_go (ea_cons (ev_call (ea_cons (ev_i0 (ev_i (ev_v rfl) (ev_v rfl) (mulG sa zs.2.1 (by omega))) (ev_i (ev_v rfl) (ev_v rfl) (mulG sb zs.1 (by omega)))) (ea_cons (ev_v rfl) ea_nil)) fun vs H1 _ f => ⟨_, _, f, ht, rfl⟩)
              (ea_cons (ev_call (ea_cons (ev_i0 (ev_i (ev_v rfl) (ev_v rfl) (mulG zr.1 sb (by omega))) (ev_i (ev_v rfl) (ev_v rfl) (mulG zr.2.1 sa (by omega)))) (ea_cons (ev_v rfl) ea_nil)) fun vs H1 _ f => ⟨_, _, f, ht, rfl⟩) ea_nil)) fun x1 x2 H11 s11 h1 h2 => ?_)
            have h1' : IsQ K (onev r s' a b) x1 H11 := h1
            have h2' : IsQ K (otherv r s' a b) x2 H11 := h2
            have s811 : Same H8 H11 := s9.trans (s10.trans s11)
            have q1 := (onev_sz zr zs sa sb ht).mono (m := LL) (e := LL) (by omega) (by omega)
            have q2 := (otherv_sz zr zs sa sb ht).mono (m := LL) (e := LL) (by omega) (by omega)
            refine if_go (et_and (et_gt0 (ev_q0 (ev_var rfl h1')) rfl) fun _ => et_gt0 (ev_q0 (ev_var rfl h2')) rfl) (fun hb H12 s12' => ?_) fun hb H12 s12' => ?_
            · have hb' : 0 ≤ onev r s' a b ∧ 0 ≤ otherv r s' a b := by simpa using hb
              have ep : pairv r s' a b = some (onev r s' a b * r.c + otherv r s' a b * s'.c) := if_pos ⟨ht, hb'⟩
              have s812 := s811.trans s12'
              have m1 := (onev_sz zr zs sa sb ht).mul zr.2.2
              have m2 := (otherv_sz zr zs sa sb ht).mul zs.2.2
              refine set_go (ev_call (ea_cons (ev_var rfl (Mo.mo s812 hf7)) (ea_cons (P := IsO K (some (onev r s' a b * r.c + otherv r s' a b * s'.c))) (ev_call (P := IsQ K (onev r s' a b * r.c + otherv r s' a b * s'.c)) (ea_cons (ev_call (ea_cons (ev_var rfl (Mo.mo s12' h1')) (ea_cons (ev_var rfl (Mo.mo s812 hc8)) ea_nil)) fun vs H1 _ f => ⟨_, _, f, q1, zr.2.2.mono (by omega) (by omega), rfl⟩)
                (ea_cons (ev_call (ea_cons (ev_var rfl (Mo.mo s12' h2')) (ea_cons (ev_var rfl (Mo.mo s812 hd)) ea_nil)) fun vs H1 _ f => ⟨_, _, f, q2, zs.2.2.mono (by omega) (by omega), rfl⟩) ea_nil)) fun vs H1 _ f => ⟨_, _, f, m1.mono (by omega) (by omega), m2.mono (by omega) (by omega), rfl⟩) ea_nil)) fun vs H1 _ f => ⟨_, _, f, ll2 i r j hmem, fun q e => ?_, rfl⟩) fun v H13 s13 p => ?_
              · exact (pairv_sz zr zs sa sb (ep.trans e)).mono (by omega) (by omega)
              · rw [← ep] at p
                exact fin v H13 _ _ _ (s812.trans s13) p
            · have hb' : ¬ (0 ≤ onev r s' a b ∧ 0 ≤ otherv r s' a b) := by simpa using hb
              have ep : pairv r s' a b = none := if_neg fun z => hb' z.2
              refine nil_go (fin fv H12 _ _ _ (s811.trans s12') ?_)
              rw [ep]
              have : lmin (bnd2 rs a b i r j) none = bnd2 rs a b i r j := by cases bnd2 rs a b i r j <;> rfl
              rw [this]
              exact Mo.mo (s811.trans s12') hf7
          · have ht0 : turn r s' = 0 := by simpa using ht
            refine if_go (et_neI (b := false) (ev_v rfl) ev_c (by rw [show (r.a * s'.b - r.b * s'.a) = turn r s' from rfl, ht0]; rfl)) (fun z => nomatch z) fun _ H10 s10 => ?_
            have ep : pairv r s' a b = none := if_neg fun z => ht z.1
            refine nil_go (fin fv H10 _ _ _ (s9.trans s10) ?_)
            rw [ep]
            have : lmin (bnd2 rs a b i r j) none = bnd2 rs a b i r j := by cases bnd2 rs a b i r j <;> rfl
            rw [this]
            exact Mo.mo (s9.trans s10) hf7
        · obtain ⟨fv, y8, y9, y10, y11, y12, y13, y14, rfl, s7, hf7⟩ := p
          refine ⟨_, _, _, _, _, _, _, _, _, _, _, _, rfl, s4.trans (s5.trans (s6.trans s7)), ?_⟩
          have e1 : (ws.take i).length = (rs.take i).length := by simp [hall.1]
          rw [e1, bnd2_end hri] at hf7
          exact hf7
      · refine if_go (et_and (et_val (ev_eqI (ev_i (ev_v rfl) (ev_v rfl) (mulG zr.1 sb (by omega))) (ev_i (ev_v rfl) (ev_v rfl) (mulG zr.2.1 sa (by omega))))) fun _ => et_val (ev_i0 (ev_i0 (ev_i (ev_v rfl) (ev_v rfl) (mulG zr.1 sa (by omega))) (ev_i (ev_v rfl) (ev_v rfl) (mulG zr.2.1 sb (by omega)))) ev_c)) (fun hb H5 s5 => ?_) fun hb H5 s5 => ?_
        · have hb' : r.a * b = r.b * a ∧ 0 < r.a * a + r.b * b := by simpa using hb
          have es : single r a b = some ((if r.a ≠ 0 then (a : Rat) / (r.a : Rat) else (b : Rat) / (r.b : Rat)) * r.c) := if_pos hb'
          have hsz := share_sz or zr sa sb
          have ssz := hsz.mono (m := LL) (e := LL) (by omega) (by omega)
          refine seq_go (set_go (ev_if (P := IsQ K (if r.a ≠ 0 then (a : Rat) / (r.a : Rat) else (b : Rat) / (r.b : Rat))) (et_val (ev_neI (ev_v rfl) ev_c)) (fun z => ?_) fun z => ?_) fun v H6 s6 hv => ?_)
          · have z' : r.a ≠ 0 := by simpa using z
            rw [if_pos z']
            exact ev_call (ea_cons (ev_v rfl) (ea_cons (ev_v rfl) ea_nil)) fun vs H1 _ f => ⟨_, _, f, z', rfl⟩
          · have z' : r.a = 0 := by simpa using z
            rw [if_neg (by simp [z'])]
            exact ev_call (ea_cons (ev_v rfl) (ea_cons (ev_v rfl) ea_nil)) fun vs H1 _ f => ⟨_, _, f, or.elim (fun y => absurd z' y) id, rfl⟩
          · have s46 : Same H4 H6 := s5.trans s6
            refine set_go (ev_call (ea_cons (ev_var rfl (Mo.mo s46 hf4)) (ea_cons (P := IsO K (some ((if r.a ≠ 0 then (a : Rat) / (r.a : Rat) else (b : Rat) / (r.b : Rat)) * r.c))) (ev_call (P := IsQ K ((if r.a ≠ 0 then (a : Rat) / (r.a : Rat) else (b : Rat) / (r.b : Rat)) * r.c)) (ea_cons (ev_var rfl hv) (ea_cons (ev_var rfl (Mo.mo s46 hc)) ea_nil)) fun vs H1 _ f => ⟨_, _, f, ssz, zr.2.2.mono (by omega) (by omega), rfl⟩) ea_nil)) fun vs H1 _ f => ⟨_, _, f, ll1 i, fun q e => ?_, rfl⟩) fun v7 H7 s7 p => ?_
            · exact (single_sz or zr sa sb (es.trans e)).mono (by omega) (by omega)
            · refine inner _ H7 ⟨v7, _, rfl, s46.trans s7, ?_⟩
              rw [bnd2_zero, es]; exact p
        · have hb' : ¬ (r.a * b = r.b * a ∧ 0 < r.a * a + r.b * b) := by simpa using hb
          have es : single r a b = none := if_neg hb'
          refine nil_go (inner _ H5 ⟨fv, _, rfl, s5, ?_⟩)
          rw [bnd2_zero, es]
          have : lmin (bnd1 rs a b i) none = bnd1 rs a b i := by cases bnd1 rs a b i <;> rfl
          rw [this]
          exact Mo.mo s5 hf4
    · obtain ⟨fv, x4, x5, x6, x7, x8, x9, x10, x11, x12, x13, x14, rfl, s3, hf⟩ := p
      refine ret_go (ev_var rfl hf) fun v H4 s4 p => k v H4 (s12.trans (s3.trans s4)) ?_
      have e1 : bnd1 rs a b ws.length = boundOf rs a b := by unfold bnd1; rw [hall.1, List.take_length]
      rw [e1] at p
      exact p
end
end Tk

set_option Elab.async false
set_option linter.all false
set_option maxRecDepth 100000
set_option maxHeartbeats 4000000
namespace Tk
open PySem L2 Ts
/-! ### data, for == and in -/
def encQ (q : Rat) : PyData := .tuple [.int q.num, .int (q.den : Int)]
def encRow (r : Row) : PyData := .tuple [.int r.a, .int r.b, encQ r.c]
def encPt (p : Pt) : PyData := .tuple [encQ p.1, encQ p.2]
def encDir (d : Dir) : PyData := .tuple [.int d.1, .int d.2]
def encO : Option Rat → PyData
  | none => .none
  | some q => encQ q
section
variable {K : PySem.W.Frag} {H : Hp} {v : V}
theorem dp_q {q : Rat} (h : IsQ K q v H) : Dp K H v (encQ q) := let ⟨a, e, h1⟩ := h; e ▸ .tup h1 (.cons (.int _) (.cons (.int _) .nil))
theorem dp_row {r : Row} (h : IsRow K r v H) : Dp K H v (encRow r) := let ⟨a, c, e, h1, h2⟩ := h; e ▸ .tup h1 (.cons (.int _) (.cons (.int _) (.cons (dp_q h2) .nil)))
theorem dp_pt {p : Pt} (h : IsPt K p v H) : Dp K H v (encPt p) := let ⟨a, x, y, e, h1, h2, h3⟩ := h; e ▸ .tup h1 (.cons (dp_q h2) (.cons (dp_q h3) .nil))
theorem dp_dir {d : Dir} (h : IsDir K d v H) : Dp K H v (encDir d) := let ⟨a, e, h1⟩ := h; e ▸ .tup h1 (.cons (.int _) (.cons (.int _) .nil))
theorem dp_o {o : Option Rat} (h : IsO K o v H) : Dp K H v (encO o) := by
  cases o with
  | none => cases h; exact .non
  | some q => exact dp_q h
theorem dp_all {α : Type} {R : α → P1} {enc : α → PyData} (hd : ∀ x v, R x v H → Dp K H v (enc x)) : ∀ {vs : List V} {xs : List α}, All2 R vs xs H → DpAll K H vs (xs.map enc)
  | [], [], _ => .nil
  | [], x :: xs, h => by have := h.1; simp at this
  | v :: vs, [], h => by have := h.1; simp at this
  | v :: vs, x :: xs, h => by
    obtain ⟨y, e, h1⟩ := h.2 0 v rfl
    cases e
    refine .cons (hd x v h1) (dp_all hd ⟨by have := h.1; simpa using this, fun i w q => ?_⟩)
    exact h.2 (i + 1) w q
theorem dp_list {α : Type} {R : α → P1} {enc : α → PyData} (hd : ∀ x v, R x v H → Dp K H v (enc x)) {xs : List α} (h : IsL K R xs v H) : Dp K H v (.list (xs.map enc)) :=
  let ⟨a, vs, e, h1, h2⟩ := h; e ▸ .lst h1 (dp_all hd h2)
end
theorem lay_q (q : Rat) : (encQ q).canLay0 = true := by simp [encQ, PyData.canLay0, PyData.canLayAll0]
theorem dep_q (q : Rat) : (encQ q).depth ≤ 1 := by simp [encQ, PyData.depth, PyData.depthAll]
theorem lay_row (r : Row) : (encRow r).canLay0 = true := by simp [encRow, PyData.canLay0, PyData.canLayAll0, lay_q]
theorem dep_row (r : Row) : (encRow r).depth ≤ 2 := by have := dep_q r.c; simp [encRow, PyData.depth, PyData.depthAll]; omega
theorem lay_pt (p : Pt) : (encPt p).canLay0 = true := by simp [encPt, PyData.canLay0, PyData.canLayAll0, lay_q]
theorem dep_pt (p : Pt) : (encPt p).depth ≤ 2 := by have := dep_q p.1; have := dep_q p.2; simp [encPt, PyData.depth, PyData.depthAll]; omega
theorem lay_dir (d : Dir) : (encDir d).canLay0 = true := by simp [encDir, PyData.canLay0, PyData.canLayAll0]
theorem dep_dir (d : Dir) : (encDir d).depth ≤ 2 := by simp [encDir, PyData.depth, PyData.depthAll]
theorem lay_o (o : Option Rat) : (encO o).canLay0 = true := by cases o with
  | none => simp [encO, PyData.canLay0]
  | some q => exact lay_q q
theorem dep_o (o : Option Rat) : (encO o).depth ≤ 2 := by cases o with
  | none => simp [encO, PyData.depth]
  | some q => have := dep_q q; show (encQ q).depth ≤ 2; omega
theorem shaped_of {d : PyData} (h1 : d.canLay0 = true) (h2 : d.depth ≤ 64) : SeqAt.shaped d = true := by
  show (d.canLay0 && decide (d.depth ≤ 64)) = true
  rw [h1, decide_eq_true h2]; rfl
theorem shaped_list {ds : List PyData} (h1 : ∀ d ∈ ds, d.canLay0 = true) (h2 : ∀ d ∈ ds, d.depth ≤ 2) : SeqAt.shaped (.list ds) = true := by
  have l1 : ∀ ds : List PyData, (∀ d ∈ ds, d.canLay0 = true) → PyData.canLayAll0 ds = true := by
    intro ds
    induction ds with
    | nil => intro _; simp [PyData.canLayAll0]
    | cons d ds ih => intro h; simp [PyData.canLayAll0, h d (by simp), ih fun x hx => h x (List.mem_cons_of_mem _ hx)]
  have l2 : ∀ ds : List PyData, (∀ d ∈ ds, d.depth ≤ 2) → PyData.depthAll ds ≤ 2 := by
    intro ds
    induction ds with
    | nil => intro _; simp [PyData.depthAll]
    | cons d ds ih =>
      intro h
      have := ih fun x hx => h x (List.mem_cons_of_mem _ hx)
      have := h d (by simp)
      simp [PyData.depthAll]; omega
  refine shaped_of ?_ ?_
  · simp only [PyData.canLay0]; exact l1 ds h1
  · have := l2 ds h2; simp only [PyData.depth]; omega
theorem eqv_q (q r : Rat) : PyData.eqv (encQ q) (encQ r) = decide (q = r) := by
  have e : PyData.eqv (encQ q) (encQ r) = ((q.num == r.num) && (((q.den : Int) == (r.den : Int)) && true)) := by simp only [encQ, PyData.eqv, PyData.eqvAll]
  rw [e, Bool.eq_iff_iff]
  simp only [Bool.and_eq_true, beq_iff_eq, decide_eq_true_eq, and_true]
  constructor
  · intro h
    exact Rat.ext h.1 (by have := h.2; omega)
  · intro h; rw [h]; exact ⟨rfl, rfl⟩
theorem eqv_row (q r : Row) : PyData.eqv (encRow q) (encRow r) = decide (q = r) := by
  have e : PyData.eqv (encRow q) (encRow r) = ((q.a == r.a) && ((q.b == r.b) && ((PyData.eqv (encQ q.c) (encQ r.c)) && true))) := by simp only [encRow, PyData.eqv, PyData.eqvAll]
  rw [e, eqv_q, Bool.eq_iff_iff]
  simp only [Bool.and_eq_true, beq_iff_eq, decide_eq_true_eq, and_true]
  constructor
  · intro h
    cases q; cases r
    simp only at h
    obtain ⟨rfl, rfl, rfl⟩ := h
    rfl
  · intro h; rw [h]; exact ⟨rfl, rfl, rfl⟩
theorem eqv_pt (q r : Pt) : PyData.eqv (encPt q) (encPt r) = decide (q = r) := by
  have e : PyData.eqv (encPt q) (encPt r) = ((PyData.eqv (encQ q.1) (encQ r.1)) && ((PyData.eqv (encQ q.2) (encQ r.2)) && true)) := by simp only [encPt, PyData.eqv, PyData.eqvAll]
  rw [e, eqv_q, eqv_q, Bool.eq_iff_iff]
  simp only [Bool.and_eq_true, decide_eq_true_eq, and_true]
  exact ⟨fun h => Prod.ext h.1 h.2, fun h => by rw [h]; exact ⟨rfl, rfl⟩⟩
theorem eqv_dir (q r : Dir) : PyData.eqv (encDir q) (encDir r) = decide (q = r) := by
  have e : PyData.eqv (encDir q) (encDir r) = ((q.1 == r.1) && ((q.2 == r.2) && true)) := by simp only [encDir, PyData.eqv, PyData.eqvAll]
  rw [e, Bool.eq_iff_iff]
  simp only [Bool.and_eq_true, beq_iff_eq, decide_eq_true_eq, and_true]
  exact ⟨fun h => Prod.ext h.1 h.2, fun h => by rw [h]; exact ⟨rfl, rfl⟩⟩
theorem eqv_none (o : Option Rat) : PyData.eqv (encO o) .none = o.isNone := by
  cases o with
  | none => simp [encO, PyData.eqv]
  | some q => simp [encO, encQ, PyData.eqv]
theorem eqv_rows : ∀ (rs ss : List Row), PyData.eqv (.list (rs.map encRow)) (.list (ss.map encRow)) = decide (rs = ss) := by
  have l : ∀ rs ss : List Row, PyData.eqvAll (rs.map encRow) (ss.map encRow) = decide (rs = ss) := by
    intro rs
    induction rs with
    | nil => intro ss; cases ss <;> simp [PyData.eqvAll]
    | cons r rs ih =>
      intro ss
      cases ss with
      | nil => simp [PyData.eqvAll]
      | cons s ss =>
        simp only [List.map_cons, PyData.eqvAll, eqv_row, ih]
        rw [Bool.eq_iff_iff]
        simp
  intro rs ss
  simp only [PyData.eqv]
  exact l rs ss
section
variable {K : PySem.W.Frag} {σ : L2.St} {H H' : Hp} {te ta tb tc : TE} {P P2 P3 : P1}
theorem ev_eqD [m : Mo P] {d e : PyData} (ha : Ev ta σ H P) (hb : Ev tb σ H P2) (h1 : ∀ x H1, P x H1 → Dp K H1 x d) (h2 : ∀ x H1, P2 x H1 → Dp K H1 x e) (sd : SeqAt.shaped d = true) (se : SeqAt.shaped e = true) : Ev (tOp (rEqD K) ta tb) σ H (IsB (PyData.eqv d e)) :=
  ev_op ha hb fun x y H1 _ hx hy Q q => ⟨d, e, h1 x H1 hx, h2 y H1 hy, sd, se, q _ H1 (Same.refl H1) rfl⟩
theorem ev_neD [m : Mo P] {d e : PyData} (ha : Ev ta σ H P) (hb : Ev tb σ H P2) (h1 : ∀ x H1, P x H1 → Dp K H1 x d) (h2 : ∀ x H1, P2 x H1 → Dp K H1 x e) (sd : SeqAt.shaped d = true) (se : SeqAt.shaped e = true) : Ev (tOp (rNeD K) ta tb) σ H (IsB (!PyData.eqv d e)) :=
  ev_op ha hb fun x y H1 _ hx hy Q q => ⟨d, e, h1 x H1 hx, h2 y H1 hy, sd, se, q _ H1 (Same.refl H1) rfl⟩
theorem ev_neQ {q r : Rat} (ha : Ev ta σ H (IsQ K q)) (hb : Ev tb σ H (IsQ K r)) : Ev (tOp (rNeD K) ta tb) σ H (IsB (!decide (q = r))) := by
  rw [← eqv_q]
  exact ev_neD ha hb (fun _ _ => dp_q) (fun _ _ => dp_q) (shaped_of (lay_q q) (Nat.le_trans (dep_q q) (by decide))) (shaped_of (lay_q r) (Nat.le_trans (dep_q r) (by decide)))
theorem ev_neRow {q r : Row} (ha : Ev ta σ H (IsRow K q)) (hb : Ev tb σ H (IsRow K r)) : Ev (tOp (rNeD K) ta tb) σ H (IsB (!decide (q = r))) := by
  rw [← eqv_row]
  exact ev_neD ha hb (fun _ _ => dp_row) (fun _ _ => dp_row) (shaped_of (lay_row q) (Nat.le_trans (dep_row q) (by decide))) (shaped_of (lay_row r) (Nat.le_trans (dep_row r) (by decide)))
theorem ev_eqRows {q r : List Row} (ha : Ev ta σ H (IsL K (IsRow K) q)) (hb : Ev tb σ H (IsL K (IsRow K) r)) : Ev (tOp (rEqD K) ta tb) σ H (IsB (decide (q = r))) := by
  rw [← eqv_rows]
  have s : ∀ rs : List Row, SeqAt.shaped (.list (rs.map encRow)) = true := fun rs => shaped_list (fun d hd => by obtain ⟨r, _, rfl⟩ := List.mem_map.mp hd; exact lay_row r) fun d hd => by obtain ⟨r, _, rfl⟩ := List.mem_map.mp hd; exact dep_row r
  exact ev_eqD ha hb (fun _ _ => dp_list (R := IsRow K) (enc := encRow) fun _ _ => dp_row) (fun _ _ => dp_list (R := IsRow K) (enc := encRow) fun _ _ => dp_row) (s q) (s r)
/-- x not in a list of points, of directions; None not in a list of bounds -/
theorem ev_notIn [m : Mo P] {d : PyData} {ds : List PyData} (ha : Ev ta σ H P) (hb : Ev tb σ H P2) (h1 : ∀ x H1, P x H1 → Dp K H1 x d) (h2 : ∀ x H1, P2 x H1 → Dp K H1 x (.list ds)) (sd : SeqAt.shaped d = true) (se : SeqAt.shaped (.list ds) = true) :
    Ev (tOp (rNotInD K) ta tb) σ H (IsB (!ds.any fun z => PyData.eqv z d)) :=
  ev_op ha hb fun x y H1 _ hx hy Q q => ⟨d, ds, h1 x H1 hx, h2 y H1 hy, sd, se, q _ H1 (Same.refl H1) rfl⟩
theorem any_mem {α : Type} [DecidableEq α] {enc : α → PyData} (he : ∀ a b, PyData.eqv (enc a) (enc b) = decide (a = b)) (x : α) : ∀ xs : List α, ((xs.map enc).any fun z => PyData.eqv z (enc x)) = decide (x ∈ xs)
  | [] => by simp
  | y :: xs => by
    rw [List.map_cons, List.any_cons, any_mem he x xs, he, Bool.eq_iff_iff, Bool.or_eq_true, decide_eq_true_eq, decide_eq_true_eq, decide_eq_true_eq, List.mem_cons]
    exact or_congr eq_comm Iff.rfl
theorem ev_notInPt {p : Pt} {ps : List Pt} (ha : Ev ta σ H (IsPt K p)) (hb : Ev tb σ H (IsL K (IsPt K) ps)) : Ev (tOp (rNotInD K) ta tb) σ H (IsB (!decide (p ∈ ps))) := by
  have e : (!decide (p ∈ ps)) = !((ps.map encPt).any fun z => PyData.eqv z (encPt p)) := congrArg not ((any_mem eqv_pt p ps).trans (decide_eq_decide.mpr Iff.rfl)).symm
  rw [e]
  exact ev_notIn ha hb (fun _ _ => dp_pt) (fun _ _ => dp_list (R := IsPt K) (enc := encPt) fun _ _ => dp_pt) (shaped_of (lay_pt p) (Nat.le_trans (dep_pt p) (by decide))) (shaped_list (fun d hd => by obtain ⟨r, _, rfl⟩ := List.mem_map.mp hd; exact lay_pt r) fun d hd => by obtain ⟨r, _, rfl⟩ := List.mem_map.mp hd; exact dep_pt r)
theorem ev_notInDir {p : Dir} {ps : List Dir} (ha : Ev ta σ H (IsDir K p)) (hb : Ev tb σ H (IsL K (IsDir K) ps)) : Ev (tOp (rNotInD K) ta tb) σ H (IsB (!decide (p ∈ ps))) := by
  have e : (!decide (p ∈ ps)) = !((ps.map encDir).any fun z => PyData.eqv z (encDir p)) := congrArg not ((any_mem eqv_dir p ps).trans (decide_eq_decide.mpr Iff.rfl)).symm
  rw [e]
  exact ev_notIn ha hb (fun _ _ => dp_dir) (fun _ _ => dp_list (R := IsDir K) (enc := encDir) fun _ _ => dp_dir) (shaped_of (lay_dir p) (Nat.le_trans (dep_dir p) (by decide))) (shaped_list (fun d hd => by obtain ⟨r, _, rfl⟩ := List.mem_map.mp hd; exact lay_dir r) fun d hd => by obtain ⟨r, _, rfl⟩ := List.mem_map.mp hd; exact dep_dir r)
theorem ev_noneNotIn {os : List (Option Rat)} (ha : Ev ta σ H IsN) (hb : Ev tb σ H (IsL K (IsO K) os)) : Ev (tOp (rNotInD K) ta tb) σ H (IsB (!os.any Option.isNone)) := by
  have e : ((os.map encO).any fun z => PyData.eqv z .none) = os.any Option.isNone := by
    rw [List.any_map]
    congr 1
    funext o
    exact eqv_none o
  rw [← e]
  exact ev_notIn ha hb (fun _ _ h => by cases h; exact .non) (fun _ _ => dp_list (R := IsO K) (enc := encO) fun _ _ => dp_o) (shaped_of (by simp [PyData.canLay0]) (by simp [PyData.depth])) (shaped_list (fun d hd => by obtain ⟨r, _, rfl⟩ := List.mem_map.mp hd; exact lay_o r) fun d hd => by obtain ⟨r, _, rfl⟩ := List.mem_map.mp hd; exact dep_o r)
end
end Tk
namespace Tk
open PySem L2 Ts
/-! ### a for over a list or a tuple -/
def iSeq (K : PySem.W.Frag) (tl : TE) : TI := fun σ H R => tl σ H fun x H1 => ∃ a, x = .ref a ∧ (((∃ xs, SqL K H1 a xs) ∧ R (Itl K a) H1) ∨ ((∃ xs, SqT K H1 a xs) ∧ R (Itt K a) H1))
section
variable {X : Cx} {tg : Expr}
theorem pi_seq {l : Expr} {tl : TE} (hl : PE X l tl) : PI X tg l (iSeq X.K tl) := by
  refine ⟨fun pins s σ H R I h => thn (hl.run pins s σ H _ I h) fun v s1 hv => ?_⟩
  obtain ⟨x, H1, I1, r1, a, rfl, q1⟩ := hv
  cases r1
  have fresh : ∀ b ∈ [s1.heap.objs.size], FpOk X pins H1 b := fun b hb => by
    rw [List.mem_singleton.mp hb]
    exact I1.fpOk (Nat.le_refl _) (I1.hok.fresh (Nat.le_refl _))
  rcases q1 with ⟨⟨xs, hq⟩, q⟩ | ⟨⟨xs, hq⟩, q⟩
  · obtain ⟨its, _, pl, _⟩ := I1.list hq
    exact wpAny_pyIter_list pl.isList ⟨_, _, _, _, H1, rfl, I1.kept (t' := s1.toks) fun b o e => Heap.get?_push_of_some _ e, turn_list a _, ⟨_, Heap.get?_push_size _ rfl, rfl, rfl⟩, fresh, q⟩
  · obtain ⟨its, _, pl, _⟩ := I1.tuple hq
    exact wpAny_pyIter_tuple (show s1.heap.IsTuple a its.toArray from pl) ⟨_, _, _, _, H1, rfl, I1.kept (t' := s1.toks) fun b o e => Heap.get?_push_of_some _ e, turn_tuple a _, ⟨_, Heap.get?_push_size _ rfl, rfl, rfl⟩, fresh, q⟩
end
/-- a list or a tuple of these -/
def IsS {α : Type} (K : PySem.W.Frag) (P : α → P1) (xs : List α) : P1 := fun v H => ∃ a vs, v = .ref a ∧ (SqL K H a vs ∨ SqT K H a vs) ∧ All2 P vs xs H
instance {α : Type} (K : PySem.W.Frag) (P : α → P1) [m : ∀ x, Mo (P x)] (xs : List α) : Mo (IsS K P xs) := ⟨fun e ⟨a, vs, h1, h2, h3⟩ => ⟨a, vs, h1, h2.imp e.seq (e.te _ _), h3.mo e⟩⟩
section
variable {K : PySem.W.Frag} {σ : L2.St} {H H' : Hp} {ts te : TE} {tt : TT} {g : TG} {vs : List Nat}
theorem comp_seq {α β : Type} {S : α → P1} {R : β → P1} [mS : ∀ a, Mo (S a)] [mR : ∀ b, Mt K (R b)] {ds : List α} (F : α → Option β) (he : Ev ts σ H (IsS K S ds)) (hl : ds.length < sizeLine)
    (hg : ∀ x σ H Q Q', (∀ σ2 H2, Q σ2 H2 → Q' σ2 H2) → g x σ H Q → g x σ H Q') (hs : ∀ d x H1, d ∈ ds → S d x H1 → Same H H1 → TurnC g tt te vs σ R (F d) x H1) :
    Ev (tLc (iSeq K ts) g tt te vs) σ H (NewL R (ds.filterMap F)) := fun H1 e1 Q q => he H1 e1 _ fun v H2 e2 p => by
  obtain ⟨a, ws, rfl, h1, h2⟩ := p
  refine ⟨a, rfl, ?_⟩
  rcases h1 with h1 | h1
  · refine .inl ⟨⟨_, h1⟩, fun D hD => ?_⟩
    exact comp_core (K := K) (S := S) (R := R) walk_list (fun H3 e3 => e3.seq h1) h2 hD hl (fun d x H3 hd hS e3 => hs d x H3 hd hS ((e1.trans e2).trans e3)) hg fun H3 ys e3 hy hall => q _ H3 (e2.trans e3) ⟨D, ys, rfl, hy, hall⟩
  · refine .inr ⟨⟨_, h1⟩, fun D hD => ?_⟩
    exact comp_core (K := K) (S := S) (R := R) walk_tup (fun H3 e3 => e3.te _ _ h1) h2 hD hl (fun d x H3 hd hS e3 => hs d x H3 hd hS ((e1.trans e2).trans e3)) hg fun H3 ys e3 hy hall => q _ H3 (e2.trans e3) ⟨D, ys, rfl, hy, hall⟩
end
end Tk
namespace Tk
open PySem L2 Ts
section
variable {K : PySem.W.Frag} {σ : L2.St} {H H' : Hp} {te : TE} {g : TG} {tb : TS} {nx bk ct : L2.St → Hp → Prop} {rt : VK} {i j : Nat}
theorem list_goN {α : Type} {R : α → P1} {ds : List α} (he : Ev te σ H (NewL R ds)) (k : ∀ a ws H1, Same H H1 → H1 a = some (.lst ws) → All2 R ws ds H1 → LoopL (fun H2 => SqL K H2 a ws) ws yAt g tb nx rt σ H1) : tFor (iList K te) g tb ⟨nx, rt, bk, ct⟩ σ H := he.go fun v H1 e p => by
  obtain ⟨a, ws, rfl, hx, hall⟩ := p
  obtain ⟨Pv, h0, hl, hs, hd⟩ := k a ws H1 e hx hall
  exact ⟨a, rfl, ⟨_, .of hx⟩, for_list Pv h0 hl (fun i x σ H q p => hs i x σ H x H q p ⟨rfl, rfl⟩) hd⟩
/-- a tuple of these -/
def IsU {α : Type} (K : PySem.W.Frag) (P : α → P1) (xs : List α) : P1 := fun v H => ∃ a vs, v = .ref a ∧ SqT K H a vs ∧ All2 P vs xs H
theorem tuple_goN {α : Type} {R : α → P1} {ds : List α} (he : Ev te σ H (IsU K R ds)) (k : ∀ a ws H1, Same H H1 → SqT K H1 a ws → All2 R ws ds H1 → LoopL (fun H2 => SqT K H2 a ws) ws yAt g tb nx rt σ H1) : tFor (iTup K te) g tb ⟨nx, rt, bk, ct⟩ σ H := he.go fun v H1 e p => by
  obtain ⟨a, ws, rfl, hx, hall⟩ := p
  obtain ⟨Pv, h0, hl, hs, hd⟩ := k a ws H1 e hx hall
  exact ⟨a, rfl, ⟨_, hx⟩, for_tup Pv h0 hl (fun i x σ H q p => hs i x σ H x H q p ⟨rfl, rfl⟩) hd⟩
theorem dir_tg {d : Dir} {v : V} {Q : L2.St → Hp → Prop} (h : IsDir K d v H) (k : Q ((σ.set i (some (.int d.1))).set j (some (.int d.2))) H) : gTup K 2 (gCons (gName i) (gCons (gName j) gNil)) v σ H Q := by
  obtain ⟨a, rfl, h1⟩ := h
  exact ⟨a, _, rfl, h1, rfl, _, _, rfl, _, _, rfl, rfl, k⟩
theorem ev_two {α : Type} {R : α → P1} [∀ x, Mo (R x)] {ta tb' : TE} {x y : α} (h1 : Ev ta σ H (R x)) (h2 : Ev tb' σ H (R y)) : Ev (tTup (tCons ta (tCons tb' tNil))) σ H (IsU K R [x, y]) :=
  ev_tup (ea_cons h1 (ea_cons h2 ea_nil)) (by show 2 ≤ 1000; decide) fun vs p H1 f np => by
    obtain ⟨a, b, rfl, q1, q2⟩ := f.two
    exact ⟨p, _, rfl, .of upd_same, All2.cons (Mo.mo (same_new np) q1) (All2.cons (Mo.mo (same_new np) q2) All2.nil)⟩
end
end Tk
namespace Tk
open PySem L2 Ts
/-- a list made anew, none of those that stood in H0 -/
def NewF {α : Type} (H0 : Hp) (P : α → P1) (xs : List α) : P1 := fun v H => ∃ a vs, v = .ref a ∧ H a = some (.lst vs) ∧ All2 P vs xs H ∧ H0 a = none
theorem NewF.newL {α : Type} {H0 : Hp} {P : α → P1} {xs : List α} {v : V} {H : Hp} (h : NewF H0 P xs v H) : NewL P xs v H := let ⟨a, vs, e, h1, h2, _⟩ := h; ⟨a, vs, e, h1, h2⟩
theorem NewF.back {α : Type} {H0 H1 : Hp} {P : α → P1} {xs : List α} {v : V} {H : Hp} (e : Same H0 H1) (h : NewF H1 P xs v H) : NewF H0 P xs v H := let ⟨a, vs, q, h1, h2, h3⟩ := h; ⟨a, vs, q, h1, h2, e.free h3⟩
instance {α : Type} (H0 : Hp) (P : α → P1) [m : ∀ x, Mo (P x)] (xs : List α) : Mo (NewF H0 P xs) := ⟨fun e ⟨a, vs, h1, h2, h3, h4⟩ => ⟨a, vs, h1, e _ _ h2, h3.mo e, h4⟩⟩
section
variable {K : PySem.W.Frag} {σ : L2.St} {H H' : Hp} {te ti : TE} {g : TG} {tb : TS} {nx bk ct : L2.St → Hp → Prop} {rt : VK} {i j : Nat} {P : P1}
theorem ev_callF {R : List V → Hp → P1 → Prop} {E : XK} {t : TA} {Ps : List P1} (h : EvA t σ H Ps) (hs : ∀ vs H1, Same H H1 → Fits Ps vs H1 → ∃ P', R vs H1 P' ∧ ∀ v H2, P' v H2 → P v H2) : Ev (tCall (SpF R) [] E t) σ H P := fun H1 e Q q =>
  h H1 e _ fun vs H2 e2 f => let ⟨P', h1, h2⟩ := hs vs H2 (e.trans e2) f; ⟨P', by rw [List.append_nil]; exact h1, fun v H3 e3 p => q v H3 (e2.trans e3) (h2 v H3 p)⟩
theorem list_goF {α : Type} {R : α → P1} {ds : List α} (he : Ev te σ H (NewF H R ds)) (k : ∀ a ws H1, Same H H1 → H1 a = some (.lst ws) → All2 R ws ds H1 → H a = none → LoopL (fun H2 => SqL K H2 a ws) ws yAt g tb nx rt σ H1) : tFor (iList K te) g tb ⟨nx, rt, bk, ct⟩ σ H := he.go fun v H1 e p => by
  obtain ⟨a, ws, rfl, hx, hall, hf⟩ := p
  obtain ⟨Pv, h0, hl, hs, hd⟩ := k a ws H1 e hx hall hf
  exact ⟨a, rfl, ⟨_, .of hx⟩, for_list Pv h0 hl (fun i x σ H q p => hs i x σ H x H q p ⟨rfl, rfl⟩) hd⟩
theorem cut_take' (xs : List V) (i : Nat) (h : i ≤ xs.length) : cutV xs none (some (i : Int)) = xs.take i := by
  unfold cutV
  have e1 : HT.sIx xs.length 0 none = 0 := rfl
  have e2 : HT.sIx xs.length xs.length (some (i : Int)) = i := by
    show (if (i : Int) < 0 then ((i : Int) + (xs.length : Int)).toNat else min (i : Int).toNat xs.length) = i
    rw [if_neg (by omega)]
    omega
  rw [e1, e2]; simp
theorem ev_slice {α : Type} {R : α → P1} [∀ x, Mo (R x)] {ds : List α} {a : Addr} {ws : List V} {i : Nat} (he : Ev te σ H (IsV (.ref a))) (hw : SqL K H a ws) (hall : All2 R ws ds H) (hi : Ev ti σ H (IsI (i : Int))) (hl : i ≤ ws.length) :
    Ev (tSl (rSlL K) te tNoPart (tPart ti)) σ H (NewF H R (ds.take i)) := fun H1 e1 Q q => he H1 e1 _ fun v H2 e2 p => (hi H2 (e1.trans e2) _ fun w H3 e3 pw => by
      cases p
      refine ⟨(i : Int), pw, a, ws, rfl, ((e1.trans e2).trans e3).seq hw, fun l nl => q _ _ ((e2.trans e3).trans (same_new nl)) ⟨l, ws.take i, rfl, by rw [upd_same, cut_take' ws i hl], ?_, ((e1.trans e2).trans e3).free nl⟩⟩
      exact (hall.mo (((e1.trans e2).trans e3).trans (same_new nl))).take i)
end
end Tk

set_option Elab.async false
set_option linter.all false
set_option maxRecDepth 100000
set_option maxHeartbeats 4000000
namespace Tk
open PySem L2 Ts
section
variable {P : Program} {w : World} {K : PySem.W.Frag} {mg : Str → Option Value} {base : Heap}

theorem mem_byPlace1' {x : Pt} (ps f : List Pt) : x ∈ ps.foldl (fun f p => insPlace p f) f ↔ x ∈ f ∨ x ∈ ps := by
  induction ps generalizing f with
  | nil => simp
  | cons p ps ih => rw [List.foldl_cons, ih, mem_insPlace, List.mem_cons]; grind
def rAhead (K : PySem.W.Frag) : List V → Hp → P1 → Prop := fun vs H P => ∃ r s : Row, Fits [IsRow K r, IsRow K s] vs H ∧ RSz LL r ∧ RSz LL s ∧ P = IsB (ahead r s)
theorem sc_is_ahead : FnScope ["one", "other", "halves", "row"] ["one", "other"] (defScope s_is_ahead) := ⟨rfl, rfl, rfl, by decide +kernel, rfl, by decide +kernel, by decide +kernel⟩
theorem ok_is_ahead (S : Sr P base) (W : Wd K mg) : FnOk P w K mg base CX0 2 W.is_ahead.f W.is_ahead.fd ["one", "other"] (SpF (rAhead K)) := by
  refine W.is_ahead.F.ok sc_is_ahead (fun vs H Q E h => ?_) (fun cdv A outer s H vs Q E hr h => ?_)
  · obtain ⟨P1, ⟨q, r, f, _⟩, _⟩ := h
    exact f.len
  · obtain ⟨P1, ⟨r, s', f, z1, z2, rfl⟩, k⟩ := h
    obtain ⟨v, w', rfl, hq, hr1⟩ := f.two
    refine ⟨_, (pss_cons (ps_setLc (i := 2) (own := [("row", 3)]) rfl sc_is_ahead.nd rfl rfl (sw_true rfl rfl rfl (by decide +kernel)) (pi_tup (pe_tup (pa_cons (pv 0) (pa_cons (pv 1) pa_nil)))) (blkOk_by (N := ["one", "other", "halves", "row"]) (sc := defScope s_is_ahead) (by decide +kernel)) (fun _ _ _ _ _ => (pg_name (i := 3) sc_is_ahead.nd rfl (.inl rfl))) (fun _ _ _ _ _ => pts_nil) (fun _ _ _ _ _ => (pe_callTy call_int1 (by rfl) W.n_int (by decide +kernel) (pa_cons (pe_or (pe_cmpR op_lt (pe_ix (r := rIxT K) ix_tup (pv 3) pe_int (fun _ _ => rfl)) pe_int (nomark _)) (pe_one (pe_and (pe_cmpR op_eq (pe_ix (r := rIxT K) ix_tup (pv 3) pe_int (fun _ _ => rfl)) pe_int (nomark _)) (pe_one (pe_cmpR op_lt (pe_ix (r := rIxT K) ix_tup (pv 3) pe_int (fun _ _ => rfl)) pe_int (nomark _)))))) pa_nil))))
        (pss_cons (ps_if (pt_cmpR op_ne (pe_ix ix_list (pv 2) pe_int (fun _ _ => rfl)) (pe_ix ix_list (pv 2) pe_int (fun _ _ => rfl)) (nomark _)) (pss_one (ps_ret (pe_cmpR op_lt (pe_ix ix_list (pv 2) pe_int (fun _ _ => rfl)) (pe_ix ix_list (pv 2) pe_int (fun _ _ => rfl)) (nomark _)))) pss_nil)
        (pss_one (ps_ret (pe_cmpR op_gt (pe_op op_sub (pe_op op_mulG (pe_ix ix_tup (pv 0) pe_int (fun _ _ => rfl)) (pe_ix ix_tup (pv 1) pe_int (fun _ _ => rfl))) (pe_op op_mulG (pe_ix ix_tup (pv 0) pe_int (fun _ _ => rfl)) (pe_ix ix_tup (pv 1) pe_int (fun _ _ => rfl)))) pe_int (nomark _)))))), ?_⟩
    refine seq_go (set_go (comp_tup (S := IsRow K) (R := fun b : Bool => IsI (if b then 1 else 0)) (ds := [r, s']) (fun d => some (half d)) (ev_tup (ea_cons (ev_var rfl hq) (ea_cons (ev_var rfl hr1) ea_nil)) (by show 2 ≤ 1000; decide) fun vs p H1 f np => ?_) (by show 2 < sizeLine; decide) (fun _ _ _ _ _ h q => tg_name_mono h q) fun d x H1 _ hx _ => ⟨rfl, rfl, et_yes, ?_⟩) fun v1 H1 e1 hv1 => ?_)
    · obtain ⟨a, b, rfl, h1, h2⟩ := f.two
      exact ⟨p, [a, b], rfl, .of upd_same, All2.cons (Mo.mo (same_new np) h1) (All2.cons (Mo.mo (same_new np) h2) All2.nil)⟩
    · refine ev_is (ev_intB (ev_or (ev_i0 (ev_r1 (ev_var rfl hx)) ev_c) fun _ => ev_and (ev_eqI (ev_r1 (ev_var rfl hx)) ev_c) fun _ => ev_i0 (ev_r0 (ev_var rfl hx)) ev_c)) rfl
    · have hl := hv1.isL (K := K)
      have i0 : ∀ H2, Same H1 H2 → Ev (tOp (rIxL K) (tVar 2) (tC (.int 0))) [some v, some w', some v1, none] H2 (IsI (if half r then 1 else 0)) := fun H2 e2 => ev_ixL (i := 0) (x := half r) (ev_var rfl (Mo.mo e2 hl)) ev_c rfl
      have i1 : ∀ H2, Same H1 H2 → Ev (tOp (rIxL K) (tVar 2) (tC (.int 1))) [some v, some w', some v1, none] H2 (IsI (if half s' then 1 else 0)) := fun H2 e2 => ev_ixL (i := 1) (x := half s') (ev_var rfl (Mo.mo e2 hl)) ev_c rfl
      have hh := half_lt r s'
      by_cases hd : half r ≠ half s'
      · rw [if_pos hd] at hh
        refine seq_go (if_go (et_neI (b := true) (i0 H1 (Same.refl H1)) (i1 H1 (Same.refl H1)) (by cases h1 : half r <;> cases h2 : half s' <;> simp_all)) (fun _ H2 e2 => ?_) fun z => nomatch z)
        refine ret_go (ev_i0 (i0 H2 e2) (i1 H2 e2)) fun v3 H3 e3 p => k v3 H3 (e1.trans (e2.trans e3)) ?_
        rw [hh]; exact p
      · rw [if_neg hd] at hh
        have he : half r = half s' := by simpa using hd
        refine seq_go (if_go (et_neI (b := false) (i0 H1 (Same.refl H1)) (i1 H1 (Same.refl H1)) (by rw [he, decide_eq_true rfl]; rfl)) (fun z => nomatch z) fun _ H2 e2 => nil_go ?_)
        have hq2 := Mo.mo (e1.trans e2) hq
        have hr2 := Mo.mo (e1.trans e2) hr1
        refine ret_go (ev_i0 (ev_i0 (ev_i (ev_r0 (ev_var rfl hq2)) (ev_r1 (ev_var rfl hr2)) (mulLL z1.1 z2.2.1)) (ev_i (ev_r1 (ev_var rfl hq2)) (ev_r0 (ev_var rfl hr2)) (mulLL z1.2.1 z2.1))) ev_c) fun v3 H3 e3 p => k v3 H3 (e1.trans (e2.trans e3)) ?_
        rw [hh]; exact p
def rBefore (K : PySem.W.Frag) : List V → Hp → P1 → Prop := fun vs H P => ∃ r s : Pt, Fits [IsPt K r, IsPt K s] vs H ∧ PSz LL r ∧ PSz LL s ∧ P = IsB (before r s)
theorem sc_is_before : FnScope ["one", "other"] ["one", "other"] (defScope s_is_before) := ⟨rfl, rfl, rfl, by decide +kernel, rfl, by decide +kernel, by decide +kernel⟩
theorem ok_is_before (S : Sr P base) (W : Wd K mg) : FnOk P w K mg base CX0 2 W.is_before.f W.is_before.fd ["one", "other"] (SpF (rBefore K)) := by
  refine W.is_before.F.ok sc_is_before (fun vs H Q E h => ?_) (fun cdv A outer s H vs Q E hr h => ?_)
  · obtain ⟨P1, ⟨q, r, f, _⟩, _⟩ := h
    exact f.len
  · obtain ⟨P1, ⟨r, s', f, z1, z2, rfl⟩, k⟩ := h
    obtain ⟨v, w', rfl, hq, hr1⟩ := f.two
    refine ⟨_, (pss_cons (ps_if (pt_cmpR (op_neD hr.units) (pe_ix ix_tup (pv 0) pe_int (fun _ _ => rfl)) (pe_ix ix_tup (pv 1) pe_int (fun _ _ => rfl)) (nomark _)) (pss_one (ps_ret (pe_call (ok_is_less S W) (hr.mono (by decide)) rfl W.is_less.m W.is_less.k W.is_less.b .nil pass0 (pa_cons (pe_ix ix_tup (pv 0) pe_int (fun _ _ => rfl)) (pa_cons (pe_ix ix_tup (pv 1) pe_int (fun _ _ => rfl)) pa_nil))))) pss_nil)
        (pss_one (ps_ret (pe_call (ok_is_less S W) (hr.mono (by decide)) rfl W.is_less.m W.is_less.k W.is_less.b .nil pass0 (pa_cons (pe_ix ix_tup (pv 0) pe_int (fun _ _ => rfl)) (pa_cons (pe_ix ix_tup (pv 1) pe_int (fun _ _ => rfl)) pa_nil)))))), ?_⟩
    by_cases hd : r.1 ≠ s'.1
    · have hb : before r s' = decide (r.1 < s'.1) := by unfold before; rw [if_pos hd]
      refine seq_go (if_go (et_val (ev_is (ev_neQ (ev_p0 (ev_var rfl hq)) (ev_p0 (ev_var rfl hr1))) (congrArg V.bl (show (!decide (r.1 = s'.1)) = true by rw [decide_eq_false hd]; rfl)))) (fun _ H2 e2 => ?_) fun z => nomatch z)
      refine ret_go (ev_call (ea_cons (ev_p0 (ev_var rfl (Mo.mo e2 hq))) (ea_cons (ev_p0 (ev_var rfl (Mo.mo e2 hr1))) ea_nil)) fun vs H1 _ f => ⟨_, _, f, z1.1, z2.1, rfl⟩) fun v3 H3 e3 p => k v3 H3 (e2.trans e3) ?_
      rw [hb]; exact p
    · have he : r.1 = s'.1 := by simpa using hd
      have hb : before r s' = decide (r.2 < s'.2) := by unfold before; rw [if_neg hd]
      refine seq_go (if_go (et_val (ev_is (ev_neQ (ev_p0 (ev_var rfl hq)) (ev_p0 (ev_var rfl hr1))) (congrArg V.bl (show (!decide (r.1 = s'.1)) = false by rw [decide_eq_true he]; rfl)))) (fun z => nomatch z) fun _ H2 e2 => nil_go ?_)
      refine ret_go (ev_call (ea_cons (ev_p1 (ev_var rfl (Mo.mo e2 hq))) (ea_cons (ev_p1 (ev_var rfl (Mo.mo e2 hr1))) ea_nil)) fun vs H1 _ f => ⟨_, _, f, z1.2, z2.2, rfl⟩) fun v3 H3 e3 p => k v3 H3 (e2.trans e3) ?_
      rw [hb]; exact p
def r_by_direction (K : PySem.W.Frag) : List V → Hp → P1 → Prop := fun vs H P => ∃ (n : Nat) (rs : List Row), Fits [IsL K (IsRow K) rs] vs H ∧ (∀ r ∈ rs, RSz n r) ∧ n ≤ LL ∧ rs.length < sizeLine ∧ P = NewL (IsRow K) (byDir rs)
theorem sc_by_direction : FnScope ["rows", "found", "row", "at"] ["rows"] (defScope s_by_direction) := ⟨rfl, rfl, rfl, by decide +kernel, rfl, by decide +kernel, by decide +kernel⟩
theorem ok_by_direction (S : Sr P base) (W : Wd K mg) : FnOk P w K mg base CX0 3 W.by_direction.f W.by_direction.fd ["rows"] (SpF (r_by_direction K)) := by
  refine W.by_direction.F.ok sc_by_direction (fun vs H Q E h => ?_) (fun cdv A outer s H vs Q E hr h => ?_)
  · obtain ⟨P1, ⟨n, rs, f, _⟩, _⟩ := h
    exact f.len
  · obtain ⟨P1, ⟨n, rs, f, hz, hn, hlen, rfl⟩, k⟩ := h
    obtain ⟨v0, rfl, l, ws, rfl, hw, hall⟩ := f.one
    refine ⟨_, (pss_cons (ps_set (i := 1) sc_by_direction.nd rfl (.inl rfl) (pe_lst pa_nil))
        (pss_cons (ps_for PassesOwn.never rfl (pi_list (pv 0)) (pg_name (i := 2) sc_by_direction.nd rfl (.inl rfl)) (pss_cons (ps_set (i := 3) sc_by_direction.nd rfl (.inl rfl) pe_int)
        (pss_cons (ps_while PassesOwn.never (PW.pt (pw_and (pt_cmpR op_lt (pv 3) (pe_callB call_len_seq (by rfl) W.n_len (by decide +kernel) (pa_cons (pv 1) pa_nil)) (nomark _)) (pw_and1 (pt_val (pe_call (ok_is_ahead S W) (hr.mono (by decide)) rfl W.is_ahead.m W.is_ahead.k W.is_ahead.b .nil pass0 (pa_cons (pe_ix ix_list (pv 1) (pv 3) (fun _ _ => rfl)) (pa_cons (pv 2) pa_nil))))))) (pss_one (ps_aug (i := 3) sc_by_direction.nd rfl (.inl rfl) pe_int ip_add)))
        (pss_one (ps_expr (pe_bm PySem.F.plainAttrs_list PySem.F.slot_list_insert PySem.F.type_list_insert mt_insert (pv 1) (pa_cons (pv 3) (pa_cons (pv 2) pa_nil))))))))
        (pss_one (ps_ret (pv 1))))), ?_⟩
    have flen : ∀ xs f : List Row, (xs.foldl (fun f r => insDir r f) f).length = f.length + xs.length := byDir_len'
    refine seq_go (newlist_go fun p np' => ?_)
    have s1 : Same H (upd H p (.lst [])) := same_new np'
    refine seq_go (listv_go (xs := ws) (a := l) (ev_v rfl) (s1.seq hw) fun H2 s2 => ?_)
    have e2 : Same H H2 := s1.trans s2
    have hp2 : H2 p = some (.lst []) := s2 _ _ upd_same
    refine ⟨fun i σ H' => ∃ x2 x3 vs, σ = [some (.ref l), some (.ref p), x2, x3] ∧ Same H H' ∧ H' p = some (.lst vs) ∧ All2 (IsRow K) vs ((rs.take i).foldl (fun f r => insDir r f) []) H',
      ⟨_, _, _, rfl, e2, hp2, All2.nil⟩, fun i σ H3 _ q => ?_, fun i x σ H3 v H4 hi q hy => ?_, fun σ H3 q => ?_⟩
    · obtain ⟨x2, x3, vs, rfl, e3, _⟩ := q
      exact e3.seq hw
    · obtain ⟨x2, x3, vs, rfl, e3, hp3, hall3⟩ := q
      obtain ⟨rfl, rfl⟩ := hy
      obtain ⟨r, hri, hrow⟩ := hall.2 i v hi
      have hrow3 := Mo.mo e3 hrow
      have hmem : r ∈ rs := List.mem_of_getElem? hri
      have zr := (hz r hmem).mono hn
      generalize hL : (rs.take i).foldl (fun f r => insDir r f) [] = L at hall3
      have hLlen : L.length ≤ i := by rw [← hL, flen]; simp; omega
      have hLmem : ∀ y ∈ L, y ∈ rs := fun y hy => by
        rw [← hL] at hy
        exact List.mem_of_mem_take ((mem_byDir' _ _).mp hy |>.elim (fun z => nomatch z) id)
      have hil : i < ws.length := (List.getElem?_eq_some_iff.mp hi).1
      have htk : rs.take (i + 1) = rs.take i ++ [r] := by rw [List.take_add_one, hri]; rfl
      show (tSeq _ _) ⟨_, _, _, _⟩ _ _
      refine seq_go (set_go ev_c fun v' H5 e5 hv' => ?_)
      cases hv'
      refine seq_go (join_go (fun σ H' => ∃ j : Nat, σ = [some (.ref l), some (.ref p), some v, some (.int (j : Int))] ∧ Same H4 H' ∧ j ≤ L.length ∧ (∀ k y, k < j → L[k]? = some y → ahead y r = true) ∧ ∀ y, L[j]? = some y → ahead y r = false) (fun σ' H7 hM => ?_) fun nx' stop => ?_)
      · obtain ⟨j, rfl, e7, hj, hah, hno⟩ := hM
        have hp7 := e7 _ _ hp3
        have hall7 : All2 (IsRow K) vs L H7 := hall3.mo e7
        have hsl : vs.length < sizeLine := by have := hall7.1; have := hall.1; omega
        refine insert_go (n := j) rfl hp7 hsl (by rw [hall7.1]; exact hj) (ev_v rfl) (ev_var (P := IsRow K r) rfl (Mo.mo e7 hrow3)) fun v8 H8 e8 hv8 => ?_
        have hp8 := e8 _ _ hp7
        have h8 : All2 (IsRow K) vs L H8 := hall7.mo e8
        refine ⟨_, _, _, rfl, same_mut (e3.trans (e7.trans e8)) np', upd_same, ?_⟩
        rw [htk, List.foldl_append, hL]
        show All2 (IsRow K) _ (insDir r L) _
        rw [ins_split L j hj hah hno]
        exact All2.te (K := K) (((h8.take j).snoc hv8).append (h8.drop j)) (te_lst hp8)
      refine while_go (fun σ H' => ∃ j : Nat, σ = [some (.ref l), some (.ref p), some v, some (.int (j : Int))] ∧ Same H4 H' ∧ j ≤ L.length ∧ ∀ k y, k < j → L[k]? = some y → ahead y r = true) (fun σ _ => match σ with | [_, _, _, some (.int j)] => L.length - j.toNat | _ => 0)
        ⟨0, rfl, e5, Nat.zero_le _, fun k y hk => absurd hk (Nat.not_lt_zero _)⟩ fun σ H6 hw6 => ?_
      obtain ⟨j, rfl, e6, hj, hah⟩ := hw6
      have e36 : Same H H6 := e3.trans e6
      have hp6 := e6 _ _ hp3
      have hall6 : All2 (IsRow K) vs L H6 := hall3.mo e6
      have isl : IsL K (IsRow K) L (.ref p) H6 := ⟨p, vs, rfl, .of hp6, hall6⟩
      cases hLj : L[j]? with
      | none =>
        have hjl : L.length ≤ j := List.getElem?_eq_none_iff.mp hLj
        refine ⟨false, et_and (a := false) (b := false) (et_i0 (ev_v rfl) (ev_len (ev_var (P := IsL K (IsRow K) L) rfl isl)) (decide_eq_false (by omega))) (fun z => nomatch z), (fun z => nomatch z), fun _ H7 e7 => stop _ H7 ⟨j, rfl, e6.trans e7, hj, hah, fun y hy => by rw [hLj] at hy; cases hy⟩⟩
      | some y =>
        have hjl : j < L.length := (List.getElem?_eq_some_iff.mp hLj).1
        have zy := (hz y (hLmem y (List.mem_of_getElem? hLj))).mono hn
        refine ⟨ahead y r, et_and (a := true) (et_i0 (ev_v rfl) (ev_len (ev_var (P := IsL K (IsRow K) L) rfl isl)) (decide_eq_true (by omega))) (fun _ => et_B (ev_call (ea_cons (ev_ixL (ev_var (P := IsL K (IsRow K) L) rfl isl) (ev_v rfl) hLj) (ea_cons (ev_var (P := IsRow K r) rfl (Mo.mo e6 hrow3)) ea_nil)) fun vs H1 _ f => ⟨_, _, f, zy, zr, rfl⟩)), fun hb H7 e7 => ?_, fun hb H7 e7 => stop _ H7 ⟨j, rfl, e6.trans e7, hj, hah, fun y' hy' => by rw [hLj] at hy'; cases hy'; exact hb⟩⟩
        refine aug_go (n := (j : Int)) rfl ev_c fun H8 e8 => ⟨⟨j + 1, rfl, e6.trans (e7.trans e8), hjl, fun k y' hk hy' => ?_⟩, ?_⟩
        · by_cases hkj : k < j
          · exact hah k y' hkj hy'
          · have : k = j := by omega
            subst this
            rw [hLj] at hy'; cases hy'; exact hb
        · show L.length - ((j : Int) + 1).toNat < L.length - ((j : Int)).toNat
          omega
    · obtain ⟨x2, x3, vs, rfl, e3, hp3, hall3⟩ := q
      refine ret_go (P := NewL (IsRow K) (byDir rs)) (ev_var rfl ⟨p, vs, rfl, hp3, ?_⟩) fun v H4 e4 q => k v H4 (e3.trans e4) q
      rw [hall.1, List.take_length] at hall3
      exact hall3
def r_by_place (K : PySem.W.Frag) : List V → Hp → P1 → Prop := fun vs H P => ∃ (n : Nat) (rs : List Pt), Fits [IsL K (IsPt K) rs] vs H ∧ (∀ r ∈ rs, PSz n r) ∧ n ≤ LL ∧ rs.length < sizeLine ∧ P = NewF H (IsPt K) (byPlace rs)
theorem sc_by_place : FnScope ["points", "found", "point", "at"] ["points"] (defScope s_by_place) := ⟨rfl, rfl, rfl, by decide +kernel, rfl, by decide +kernel, by decide +kernel⟩
theorem ok_by_place (S : Sr P base) (W : Wd K mg) : FnOk P w K mg base CX0 3 W.by_place.f W.by_place.fd ["points"] (SpF (r_by_place K)) := by
  refine W.by_place.F.ok sc_by_place (fun vs H Q E h => ?_) (fun cdv A outer s H vs Q E hr h => ?_)
  · obtain ⟨P1, ⟨n, rs, f, _⟩, _⟩ := h
    exact f.len
  · obtain ⟨P1, ⟨n, rs, f, hz, hn, hlen, rfl⟩, k⟩ := h
    obtain ⟨v0, rfl, l, ws, rfl, hw, hall⟩ := f.one
    refine ⟨_, (pss_cons (ps_set (i := 1) sc_by_place.nd rfl (.inl rfl) (pe_lst pa_nil))
        (pss_cons (ps_for PassesOwn.never rfl (pi_list (pv 0)) (pg_name (i := 2) sc_by_place.nd rfl (.inl rfl)) (pss_cons (ps_set (i := 3) sc_by_place.nd rfl (.inl rfl) pe_int)
        (pss_cons (ps_while PassesOwn.never (PW.pt (pw_and (pt_cmpR op_lt (pv 3) (pe_callB call_len_seq (by rfl) W.n_len (by decide +kernel) (pa_cons (pv 1) pa_nil)) (nomark _)) (pw_and1 (pt_val (pe_call (ok_is_before S W) (hr.mono (by decide)) rfl W.is_before.m W.is_before.k W.is_before.b .nil pass0 (pa_cons (pe_ix ix_list (pv 1) (pv 3) (fun _ _ => rfl)) (pa_cons (pv 2) pa_nil))))))) (pss_one (ps_aug (i := 3) sc_by_place.nd rfl (.inl rfl) pe_int ip_add)))
        (pss_one (ps_expr (pe_bm PySem.F.plainAttrs_list PySem.F.slot_list_insert PySem.F.type_list_insert mt_insert (pv 1) (pa_cons (pv 3) (pa_cons (pv 2) pa_nil))))))))
        (pss_one (ps_ret (pv 1))))), ?_⟩
    have flen : ∀ xs f : List Pt, (xs.foldl (fun f r => insPlace r f) f).length = f.length + xs.length := byPlace_len'
    refine seq_go (newlist_go fun p np' => ?_)
    have s1 : Same H (upd H p (.lst [])) := same_new np'
    refine seq_go (listv_go (xs := ws) (a := l) (ev_v rfl) (s1.seq hw) fun H2 s2 => ?_)
    have e2 : Same H H2 := s1.trans s2
    have hp2 : H2 p = some (.lst []) := s2 _ _ upd_same
    refine ⟨fun i σ H' => ∃ x2 x3 vs, σ = [some (.ref l), some (.ref p), x2, x3] ∧ Same H H' ∧ H' p = some (.lst vs) ∧ All2 (IsPt K) vs ((rs.take i).foldl (fun f r => insPlace r f) []) H',
      ⟨_, _, _, rfl, e2, hp2, All2.nil⟩, fun i σ H3 _ q => ?_, fun i x σ H3 v H4 hi q hy => ?_, fun σ H3 q => ?_⟩
    · obtain ⟨x2, x3, vs, rfl, e3, _⟩ := q
      exact e3.seq hw
    · obtain ⟨x2, x3, vs, rfl, e3, hp3, hall3⟩ := q
      obtain ⟨rfl, rfl⟩ := hy
      obtain ⟨r, hri, hrow⟩ := hall.2 i v hi
      have hrow3 := Mo.mo e3 hrow
      have hmem : r ∈ rs := List.mem_of_getElem? hri
      have zr := (hz r hmem).mono hn
      generalize hL : (rs.take i).foldl (fun f r => insPlace r f) [] = L at hall3
      have hLlen : L.length ≤ i := by rw [← hL, flen]; simp; omega
      have hLmem : ∀ y ∈ L, y ∈ rs := fun y hy => by
        rw [← hL] at hy
        exact List.mem_of_mem_take ((mem_byPlace1' _ _).mp hy |>.elim (fun z => nomatch z) id)
      have hil : i < ws.length := (List.getElem?_eq_some_iff.mp hi).1
      have htk : rs.take (i + 1) = rs.take i ++ [r] := by rw [List.take_add_one, hri]; rfl
      show (tSeq _ _) ⟨_, _, _, _⟩ _ _
      refine seq_go (set_go ev_c fun v' H5 e5 hv' => ?_)
      cases hv'
      refine seq_go (join_go (fun σ H' => ∃ j : Nat, σ = [some (.ref l), some (.ref p), some v, some (.int (j : Int))] ∧ Same H4 H' ∧ j ≤ L.length ∧ (∀ k y, k < j → L[k]? = some y → before y r = true) ∧ ∀ y, L[j]? = some y → before y r = false) (fun σ' H7 hM => ?_) fun nx' stop => ?_)
      · obtain ⟨j, rfl, e7, hj, hah, hno⟩ := hM
        have hp7 := e7 _ _ hp3
        have hall7 : All2 (IsPt K) vs L H7 := hall3.mo e7
        have hsl : vs.length < sizeLine := by have := hall7.1; have := hall.1; omega
        refine insert_go (n := j) rfl hp7 hsl (by rw [hall7.1]; exact hj) (ev_v rfl) (ev_var (P := IsPt K r) rfl (Mo.mo e7 hrow3)) fun v8 H8 e8 hv8 => ?_
        have hp8 := e8 _ _ hp7
        have h8 : All2 (IsPt K) vs L H8 := hall7.mo e8
        refine ⟨_, _, _, rfl, same_mut (e3.trans (e7.trans e8)) np', upd_same, ?_⟩
        rw [htk, List.foldl_append, hL]
        show All2 (IsPt K) _ (insPlace r L) _
        rw [insPt_split L j hj hah hno]
        exact All2.te (K := K) (((h8.take j).snoc hv8).append (h8.drop j)) (te_lst hp8)
      refine while_go (fun σ H' => ∃ j : Nat, σ = [some (.ref l), some (.ref p), some v, some (.int (j : Int))] ∧ Same H4 H' ∧ j ≤ L.length ∧ ∀ k y, k < j → L[k]? = some y → before y r = true) (fun σ _ => match σ with | [_, _, _, some (.int j)] => L.length - j.toNat | _ => 0)
        ⟨0, rfl, e5, Nat.zero_le _, fun k y hk => absurd hk (Nat.not_lt_zero _)⟩ fun σ H6 hw6 => ?_
      obtain ⟨j, rfl, e6, hj, hah⟩ := hw6
      have e36 : Same H H6 := e3.trans e6
      have hp6 := e6 _ _ hp3
      have hall6 : All2 (IsPt K) vs L H6 := hall3.mo e6
      have isl : IsL K (IsPt K) L (.ref p) H6 := ⟨p, vs, rfl, .of hp6, hall6⟩
      cases hLj : L[j]? with
      | none =>
        have hjl : L.length ≤ j := List.getElem?_eq_none_iff.mp hLj
        refine ⟨false, et_and (a := false) (b := false) (et_i0 (ev_v rfl) (ev_len (ev_var (P := IsL K (IsPt K) L) rfl isl)) (decide_eq_false (by omega))) (fun z => nomatch z), (fun z => nomatch z), fun _ H7 e7 => stop _ H7 ⟨j, rfl, e6.trans e7, hj, hah, fun y hy => by rw [hLj] at hy; cases hy⟩⟩
      | some y =>
        have hjl : j < L.length := (List.getElem?_eq_some_iff.mp hLj).1
        have zy := (hz y (hLmem y (List.mem_of_getElem? hLj))).mono hn
        refine ⟨before y r, et_and (a := true) (et_i0 (ev_v rfl) (ev_len (ev_var (P := IsL K (IsPt K) L) rfl isl)) (decide_eq_true (by omega))) (fun _ => et_B (ev_call (ea_cons (ev_ixL (ev_var (P := IsL K (IsPt K) L) rfl isl) (ev_v rfl) hLj) (ea_cons (ev_var (P := IsPt K r) rfl (Mo.mo e6 hrow3)) ea_nil)) fun vs H1 _ f => ⟨_, _, f, zy, zr, rfl⟩)), fun hb H7 e7 => ?_, fun hb H7 e7 => stop _ H7 ⟨j, rfl, e6.trans e7, hj, hah, fun y' hy' => by rw [hLj] at hy'; cases hy'; exact hb⟩⟩
        refine aug_go (n := (j : Int)) rfl ev_c fun H8 e8 => ⟨⟨j + 1, rfl, e6.trans (e7.trans e8), hjl, fun k y' hk hy' => ?_⟩, ?_⟩
        · by_cases hkj : k < j
          · exact hah k y' hkj hy'
          · have : k = j := by omega
            subst this
            rw [hLj] at hy'; cases hy'; exact hb
        · show L.length - ((j : Int) + 1).toNat < L.length - ((j : Int)).toNat
          omega
    · obtain ⟨x2, x3, vs, rfl, e3, hp3, hall3⟩ := q
      refine ret_go (P := NewF H (IsPt K) (byPlace rs)) (ev_var rfl ⟨p, vs, rfl, hp3, ?_, np'⟩) fun v H4 e4 q => k v H4 (e3.trans e4) q
      rw [hall.1, List.take_length] at hall3
      exact hall3
end
end Tk

set_option Elab.async false
set_option linter.all false
set_option maxRecDepth 100000
set_option maxHeartbeats 4000000
namespace Tk
open PySem L2 Ts
section
variable {P : Program} {w : World} {K : PySem.W.Frag} {mg : Str → Option Value} {base : Heap}

def KeptP (K : PySem.W.Frag) : Option (List Row) → P1
  | none => IsN
  | some f => NewL (IsRow K) f
instance (K : PySem.W.Frag) (o : Option (List Row)) : Mo (KeptP K o) := ⟨fun e h => by
  cases o with
  | none => exact h
  | some f => exact Mo.mo (P := NewL (IsRow K) f) e h⟩
def rKept (K : PySem.W.Frag) : List V → Hp → P1 → Prop := fun vs H P => ∃ (n : Nat) (rs : List Row), Fits [IsRows K rs] vs H ∧ Oks rs ∧ RsSz n rs ∧ 7 * n + 3 ≤ LL ∧ rs.length < sizeLine ∧ P = KeptP K (kept [] rs)
theorem sc_kept_rows : FnScope ["rows", "found", "row", "a", "b", "c", "low"] ["rows"] (defScope s_kept_rows) := ⟨rfl, rfl, rfl, by decide +kernel, rfl, by decide +kernel, by decide +kernel⟩
theorem ok_kept_rows (S : Sr P base) (W : Wd K mg) : FnOk P w K mg base CX0 46 W.kept_rows.f W.kept_rows.fd ["rows"] (SpF (rKept K)) := by
  refine W.kept_rows.F.ok sc_kept_rows (fun vs H Q E h => ?_) (fun cdv A outer s H vs Q E hr h => ?_)
  · obtain ⟨P1, ⟨n, rs, f, _⟩, _⟩ := h
    exact f.len
  · obtain ⟨P1, ⟨n, rs, f, ho, hz, hn, hlen, rfl⟩, k⟩ := h
    obtain ⟨v0, rfl, l, ws, rfl, hw, hall⟩ := f.one
    have hLL : LL = 33554432 := rfl
    refine ⟨_, (pss_cons (ps_set (i := 1) sc_kept_rows.nd rfl (.inl rfl) (pe_lst pa_nil))
        (pss_cons (ps_for PassesOwn.never rfl (pi_list (pv 0)) (pg_name (i := 2) sc_kept_rows.nd rfl (.inl rfl)) (pss_cons (ps_asg (pv 2) (pg_tup rfl (pgs_cons (pg_name (i := 3) sc_kept_rows.nd rfl (.inl rfl)) (pgs_cons (pg_name (i := 4) sc_kept_rows.nd rfl (.inl rfl)) (pgs_cons (pg_name (i := 5) sc_kept_rows.nd rfl (.inl rfl)) pgs_nil)))))
        (pss_one (ps_if (pt_not (pt_val (pe_call (ok_is_at_most S W) (hr.mono (by decide)) rfl W.is_at_most.m W.is_at_most.k W.is_at_most.b .nil pass0 (pa_cons (pe_call (ok_bound_of S W) (hr.mono (by decide)) rfl W.bound_of.m W.bound_of.k W.bound_of.b .nil pass0 (pa_cons (pv 1) (pa_cons (pv 3) (pa_cons (pv 4) pa_nil)))) (pa_cons (pv 5) pa_nil))))) (pss_cons (ps_set (i := 6) sc_kept_rows.nd rfl (.inl rfl) (pe_call (ok_bound_of S W) (hr.mono (by decide)) rfl W.bound_of.m W.bound_of.k W.bound_of.b .nil pass0 (pa_cons (pv 1) (pa_cons (pe_un un_neg (pv 3)) (pa_cons (pe_un un_neg (pv 4)) pa_nil)))))
        (pss_cons (ps_if (PW.pt (pw_and (pt_cmpR op_notN (pv 6) pe_non (nomark _)) (pw_and1 (pt_cmpR op_lt (pe_ix ix_tup (pe_call (ok_add S W) (hr.mono (by decide)) rfl W.add.m W.add.k W.add.b .nil pass0 (pa_cons (pv 6) (pa_cons (pv 5) pa_nil))) pe_int (fun _ _ => rfl)) pe_int (nomark _))))) (pss_one (ps_ret pe_non)) pss_nil)
        (pss_one (ps_expr (pe_bm PySem.F.plainAttrs_list PySem.F.slot_list_append PySem.F.type_list_append mt_append (pv 1) (pa_cons (pv 2) pa_nil)))))) pss_nil))))
        (pss_one (ps_ret (pv 1))))), ?_⟩
    refine seq_go (newlist_go fun p np' => ?_)
    have s1 : Same H (upd H p (.lst [])) := same_new np'
    refine seq_go (listv_go (xs := ws) (a := l) (ev_v rfl) (s1.seq hw) fun H2 s2 => ?_)
    have e2 : Same H H2 := s1.trans s2
    have hp2 : H2 p = some (.lst []) := s2 _ _ upd_same
    refine ⟨fun i σ H' => ∃ x2 x3 x4 x5 x6 vs L, σ = [some (.ref l), some (.ref p), x2, x3, x4, x5, x6] ∧ Same H H' ∧ H' p = some (.lst vs) ∧ All2 (IsRow K) vs L H' ∧ kept [] rs = kept L (rs.drop i) ∧ (∀ r ∈ L, r ∈ rs) ∧ L.length ≤ i,
      ⟨_, _, _, _, _, _, [], rfl, e2, hp2, All2.nil, rfl, (fun _ z => nomatch z), Nat.zero_le _⟩, fun i σ H3 _ q => ?_, fun i x σ H3 v H4 hi q hy => ?_, fun σ H3 q => ?_⟩
    · obtain ⟨x2, x3, x4, x5, x6, vs, L, rfl, e3, _⟩ := q
      exact e3.seq hw
    · obtain ⟨x2, x3, x4, x5, x6, vs, L, rfl, e3, hp3, hall3, hk, hsub, hLl⟩ := q
      obtain ⟨rfl, rfl⟩ := hy
      obtain ⟨r, hri, hrow⟩ := hall.2 i v hi
      have hrow3 := Mo.mo e3 hrow
      have hmem : r ∈ rs := List.mem_of_getElem? hri
      have zr := hz r hmem
      have or := ho r hmem
      have hil : i < ws.length := (List.getElem?_eq_some_iff.mp hi).1
      have hdrop : rs.drop i = r :: rs.drop (i + 1) := by
        obtain ⟨h1, h2⟩ := List.getElem?_eq_some_iff.mp hri
        rw [List.drop_eq_getElem_cons h1, h2]
      rw [hdrop, kept] at hk
      have oL : Oks L := fun x hx => ho x (hsub x hx)
      have zL : RsSz n L := fun x hx => hz x (hsub x hx)
      refine seq_go (row_go (ev_var rfl hrow3) fun c H5 e5 hc => ?_)
      have hp5 := e5 _ _ hp3
      have isl : ∀ H', Same H5 H' → IsRows K L (.ref p) H' := fun H' e => ⟨p, vs, rfl, .of (e _ _ hp5), hall3.mo (e5.trans e)⟩
      have b1 := bound_sz oL zL zr.1 zr.2.1
      have b2 := bound_sz oL zL zr.1.neg zr.2.1.neg
      have lc : Sq LL LL r.c := zr.2.2.mono (by omega) (by omega)
      have l1 : OLL (boundOf L r.a r.b) := OSz.ll b1 (by omega) (by omega)
      have l2 : OLL (boundOf L (-r.a) (-r.b)) := OSz.ll b2 (by omega) (by omega)
      refine if_go (b := !(atMost (boundOf L r.a r.b) r.c)) (et_not (et_B (ev_call (ea_cons (ev_call (ea_cons (ev_var rfl (isl H5 (Same.refl H5))) (ea_cons (ev_v rfl) (ea_cons (ev_v rfl) ea_nil))) fun vs H1 _ f => ⟨_, _, _, _, _, f, oL, zL, zr.1, zr.2.1, by omega, rfl⟩) (ea_cons (ev_var rfl hc) ea_nil)) fun vs H1 _ f => ⟨_, _, f, l1, lc, rfl⟩))) (fun hb H6 e6 => ?_) fun hb H6 e6 => ?_
      · have hb' : ¬ atMost (boundOf L r.a r.b) r.c = true := by simpa using hb
        rw [if_neg hb'] at hk
        refine seq_go (set_go (ev_call (ea_cons (ev_var rfl (isl H6 e6)) (ea_cons (ev_neg (ev_v rfl)) (ea_cons (ev_neg (ev_v rfl)) ea_nil))) fun vs H1 _ f => ⟨_, _, _, _, _, f, oL, zL, zr.1.neg, zr.2.1.neg, by omega, rfl⟩) fun v7 H7 e7 hlow => ?_)
        have e57 := e6.trans e7
        have hc7 := Mo.mo e57 hc
        refine seq_go (if_go (b := tooLow (boundOf L (-r.a) (-r.b)) r.c) ?_ (fun hb2 H8 e8 => ?_) fun hb2 H8 e8 => nil_go ?_)
        · cases hlo : boundOf L (-r.a) (-r.b) with
          | none =>
            rw [hlo] at hlow
            exact et_and (a := false) (b := false) (et_val (ev_notN (o := none) (ev_var rfl hlow))) fun z => nomatch z
          | some w' =>
            rw [hlo] at hlow
            have hw' : IsQ K w' v7 H7 := hlow
            refine et_and (a := true) (et_val (ev_notN (o := some w') (ev_var rfl hlow))) fun _ => ?_
            refine et_is (et_val (ev_i0 (ev_q0 (ev_call (ea_cons (ev_var rfl hw') (ea_cons (ev_var rfl hc7) ea_nil)) fun vs H1 _ f => ⟨_, _, f, l2 w' hlo, lc, rfl⟩)) ev_c)) ?_
            exact num_lt _
        · rw [if_pos hb2] at hk
          refine ret_go ev_c fun v9 H9 e9 hv9 => ?_
          cases hv9
          refine k _ _ (e3.trans (e5.trans (e57.trans (e8.trans e9)))) ?_
          rw [hk]; rfl
        · have hb2' : ¬ tooLow (boundOf L (-r.a) (-r.b)) r.c = true := by simp [hb2]
          rw [if_neg hb2'] at hk
          have e58 := e57.trans e8
          have hp8 := e58 _ _ hp5
          refine append_go rfl hp8 (by have := hall3.1; have := hall.1; omega) (ev_var (P := IsRow K r) rfl (Mo.mo (e5.trans e58) hrow3)) fun v9 H9 e9 hv9 => ?_
          have e39 := e5.trans (e58.trans e9)
          refine ⟨_, _, _, _, _, _, L ++ [r], rfl, same_mut (e3.trans e39) np', upd_same, ?_, hk, fun y hy => ?_, by simp; omega⟩
          · exact All2.te (K := K) ((hall3.mo e39).snoc hv9) (te_lst (e9 _ _ hp8))
          · rcases List.mem_append.mp hy with hy | hy
            · exact hsub y hy
            · rw [List.mem_singleton.mp hy]; exact hmem
      · have hb' : atMost (boundOf L r.a r.b) r.c = true := by simpa using hb
        rw [if_pos hb'] at hk
        refine nil_go ⟨_, _, _, _, _, vs, L, rfl, e3.trans (e5.trans e6), e6 _ _ hp5, hall3.mo (e5.trans e6), hk, hsub, by omega⟩
    · obtain ⟨x2, x3, x4, x5, x6, vs, L, rfl, e3, hp3, hall3, hk, hsub, hLl⟩ := q
      have hk' : kept [] rs = some L := by
        rw [hk, hall.1, List.drop_length]; rfl
      refine ret_go (P := KeptP K (kept [] rs)) (ev_var rfl ?_) fun v H4 e4 q => k v H4 (e3.trans e4) q
      rw [hk']
      exact ⟨p, vs, rfl, hp3, hall3⟩

theorem Fits.four {H : Hp} {P P2 P3 P4 : P1} : ∀ {vs : List V}, Fits [P, P2, P3, P4] vs H → ∃ a b c d, vs = [a, b, c, d] ∧ P a H ∧ P2 b H ∧ P3 c H ∧ P4 d H := by
  intro vs h
  cases vs with
  | nil => exact h.elim
  | cons a vs =>
    obtain ⟨h1, h⟩ := h
    obtain ⟨b, c, d, rfl, h2, h3, h4⟩ := h.three
    exact ⟨a, b, c, d, rfl, h1, h2, h3, h4⟩
theorem ev_rows2 {σ : L2.St} {H : Hp} {ta tb : TE} {r s : Row} (h1 : Ev ta σ H (IsRow K r)) (h2 : Ev tb σ H (IsRow K s)) : Ev (tLst (tCons ta (tCons tb tNil))) σ H (NewL (IsRow K) [r, s]) :=
  ev_lst (ea_cons h1 (ea_cons h2 ea_nil)) (by show 2 ≤ 1000; decide) fun vs p H1 f np => by
    obtain ⟨a, b, rfl, q1, q2⟩ := f.two
    exact ⟨p, _, rfl, upd_same, All2.cons (Mo.mo (same_new np) q1) (All2.cons (Mo.mo (same_new np) q2) All2.nil)⟩
theorem ev_rows4 {σ : L2.St} {H : Hp} {ta tb tc td : TE} {r s t u : Row} (h1 : Ev ta σ H (IsRow K r)) (h2 : Ev tb σ H (IsRow K s)) (h3 : Ev tc σ H (IsRow K t)) (h4 : Ev td σ H (IsRow K u)) : Ev (tLst (tCons ta (tCons tb (tCons tc (tCons td tNil))))) σ H (NewL (IsRow K) [r, s, t, u]) :=
  ev_lst (ea_cons h1 (ea_cons h2 (ea_cons h3 (ea_cons h4 ea_nil)))) (by show 4 ≤ 1000; decide) fun vs p H1 f np => by
    obtain ⟨a, b, c, d, rfl, q1, q2, q3, q4⟩ := f.four
    exact ⟨p, _, rfl, upd_same, All2.cons (Mo.mo (same_new np) q1) (All2.cons (Mo.mo (same_new np) q2) (All2.cons (Mo.mo (same_new np) q3) (All2.cons (Mo.mo (same_new np) q4) All2.nil)))⟩
def rPointRows (K : PySem.W.Frag) : List V → Hp → P1 → Prop := fun vs H P => ∃ x y : Rat, Fits [IsQ K x, IsQ K y] vs H ∧ P = NewL (IsRow K) (pointRows x y)
theorem sc_point_rows : FnScope ["x", "y"] ["x", "y"] (defScope s_point_rows) := ⟨rfl, rfl, rfl, by decide +kernel, rfl, by decide +kernel, by decide +kernel⟩
theorem ok_point_rows (S : Sr P base) (W : Wd K mg) : FnOk P w K mg base CX0 2 W.point_rows.f W.point_rows.fd ["x", "y"] (SpF (rPointRows K)) := by
  refine W.point_rows.F.ok sc_point_rows (fun vs H Q E h => ?_) (fun cdv A outer s H vs Q E hr h => ?_)
  · obtain ⟨P1, ⟨q, r, f, _⟩, _⟩ := h
    exact f.len
  · obtain ⟨P1, ⟨x, y, f, rfl⟩, k⟩ := h
    obtain ⟨v, w', rfl, hx, hy⟩ := f.two
    refine ⟨_, (pss_one (ps_ret (pe_lst (pa_cons (pe_tup (pa_cons pe_int (pa_cons pe_int (pa_cons (pv 0) pa_nil)))) (pa_cons (pe_tup (pa_cons (pe_un un_neg pe_int) (pa_cons pe_int (pa_cons (pe_call (ok_negative S W) (hr.mono (by decide)) rfl W.negative.m W.negative.k W.negative.b .nil pass0 (pa_cons (pv 0) pa_nil)) pa_nil)))) (pa_cons (pe_tup (pa_cons pe_int (pa_cons pe_int (pa_cons (pv 1) pa_nil)))) (pa_cons (pe_tup (pa_cons pe_int (pa_cons (pe_un un_neg pe_int) (pa_cons (pe_call (ok_negative S W) (hr.mono (by decide)) rfl W.negative.m W.negative.k W.negative.b .nil pass0 (pa_cons (pv 1) pa_nil)) pa_nil)))) pa_nil))))))), ?_⟩
    exact ret_go (P := NewL (IsRow K) (pointRows x y)) (ev_rows4 (ev_mkRow (r := ⟨1, 0, x⟩) ev_c ev_c (ev_var rfl hx)) (ev_mkRow (r := ⟨-1, 0, -x⟩) (ev_neg ev_c) ev_c (ev_call (ea_cons (ev_var rfl hx) ea_nil) fun vs H1 _ f => ⟨_, f, rfl⟩))
      (ev_mkRow (r := ⟨0, 1, y⟩) ev_c ev_c (ev_var rfl hy)) (ev_mkRow (r := ⟨0, -1, -y⟩) ev_c (ev_neg ev_c) (ev_call (ea_cons (ev_var rfl hy) ea_nil) fun vs H1 _ f => ⟨_, f, rfl⟩))) k

/-- an end of a line's rows: (a, b, a bound or None) -/
def IsEnd (K : PySem.W.Frag) (e : Int × Int × Option Rat) : P1 := fun v H => ∃ a c, v = .ref a ∧ SqT K H a [.int e.1, .int e.2.1, c] ∧ IsO K e.2.2 c H
instance (K : PySem.W.Frag) (e : Int × Int × Option Rat) : Mo (IsEnd K e) := ⟨fun s ⟨a, c, h1, h2, h3⟩ => ⟨a, c, h1, s.te _ _ h2, Mo.mo s h3⟩⟩
theorem ev_mkEnd {σ : L2.St} {H : Hp} {ta tb tc : TE} {a b : Int} {o : Option Rat} (ha : Ev ta σ H (IsI a)) (hb : Ev tb σ H (IsI b)) (hc : Ev tc σ H (IsO K o)) : Ev (tTup (tCons ta (tCons tb (tCons tc tNil)))) σ H (IsEnd K (a, b, o)) :=
  ev_tup (ea_cons ha (ea_cons hb (ea_cons hc ea_nil))) (by show 3 ≤ 1000; decide) fun vs p H1 f np => by
    obtain ⟨v, w, x, rfl, rfl, rfl, h⟩ := f.three
    exact ⟨p, x, rfl, .of upd_same, Mo.mo (same_new np) h⟩
theorem ev_ends {σ : L2.St} {H : Hp} {ta tb : TE} {r s : Int × Int × Option Rat} (h1 : Ev ta σ H (IsEnd K r)) (h2 : Ev tb σ H (IsEnd K s)) : Ev (tLst (tCons ta (tCons tb tNil))) σ H (IsL K (IsEnd K) [r, s]) :=
  ev_lst (ea_cons h1 (ea_cons h2 ea_nil)) (by show 2 ≤ 1000; decide) fun vs p H1 f np => by
    obtain ⟨a, b, rfl, q1, q2⟩ := f.two
    exact ⟨p, _, rfl, .of upd_same, All2.cons (Mo.mo (same_new np) q1) (All2.cons (Mo.mo (same_new np) q2) All2.nil)⟩
theorem ev_e2 {σ : L2.St} {H : Hp} {ta : TE} {e : Int × Int × Option Rat} (ha : Ev ta σ H (IsEnd K e)) : Ev (tOp (rIxT K) ta (tC (.int 2))) σ H (IsO K e.2.2) :=
  ev_ix (xs := []) (i := 2) (p := 0) (v := .non) ha fun _ _ _ ⟨a, c, h1, h2, h3⟩ => ⟨a, _, _, h1, h2, rfl, h3⟩
def endF (e : Int × Int × Option Rat) : Option Row := e.2.2.map fun t => ⟨e.1, e.2.1, t⟩
theorem endF_two (a b c d : Int) (o u : Option Rat) : [(a, b, o), (c, d, u)].filterMap endF = endRow a b o ++ endRow c d u := by
  cases o <;> cases u <;> rfl
theorem isEnd_row {e : Int × Int × Option Rat} {t : Rat} {v : V} {H : Hp} (he : e.2.2 = some t) (h : IsEnd K e v H) : IsRow K ⟨e.1, e.2.1, t⟩ v H := by
  obtain ⟨a, c, h1, h2, h3⟩ := h
  rw [he] at h3
  exact ⟨a, c, h1, h2, h3⟩
theorem q_int (i : Int) : ((i : Rat)).num = i ∧ (((i : Rat)).den : Int) = 1 := by
  rw [Rat.num_intCast, Rat.den_intCast]; exact ⟨rfl, rfl⟩
theorem ev_mkInt {σ : L2.St} {H : Hp} {ta tb : TE} {i : Int} (ha : Ev ta σ H (IsI i)) (hb : Ev tb σ H (IsI 1)) : Ev (tTup (tCons ta (tCons tb tNil))) σ H (IsQ K (i : Rat)) :=
  ev_mkQ ha hb (q_int i).1.symm (q_int i).2.symm
def rLineRows (K : PySem.W.Frag) : List V → Hp → P1 → Prop := fun vs H P => ∃ (n : Nat) (rs : List Row) (l : Row), Fits [IsRows K rs, IsRow K l] vs H ∧ Oks rs ∧ RsSz n rs ∧ l.ok ∧ RSz n l ∧ 8 * n + 4 ≤ LL ∧ P = NewL (IsRow K) (lineRows rs l)
theorem sc_line_rows : FnScope ["rows", "line", "a", "b", "c", "x", "top", "low", "ends", "end"] ["rows", "line"] (defScope s_line_rows) := ⟨rfl, rfl, rfl, by decide +kernel, rfl, by decide +kernel, by decide +kernel⟩
theorem ok_line_rows (S : Sr P base) (W : Wd K mg) : FnOk P w K mg base CX0 46 W.line_rows.f W.line_rows.fd ["rows", "line"] (SpF (rLineRows K)) := by
  refine W.line_rows.F.ok sc_line_rows (fun vs H Q E h => ?_) (fun cdv A outer s H vs Q E hr h => ?_)
  · obtain ⟨P1, ⟨n, rs, l, f, _⟩, _⟩ := h
    exact f.len
  · obtain ⟨P1, ⟨n, rs, l, f, ho, hz, ol, zl, hn, rfl⟩, k⟩ := h
    obtain ⟨v0, v1, rfl, hrs, hl⟩ := f.two
    have hLL : LL = 33554432 := rfl
    refine ⟨_, (pss_cons (ps_asg (pv 1) (pg_tup rfl (pgs_cons (pg_name (i := 2) sc_line_rows.nd rfl (.inl rfl)) (pgs_cons (pg_name (i := 3) sc_line_rows.nd rfl (.inl rfl)) (pgs_cons (pg_name (i := 4) sc_line_rows.nd rfl (.inl rfl)) pgs_nil)))))
        (pss_cons (ps_if (pt_cmpR op_eq (pv 3) pe_int (nomark _)) (pss_cons (ps_set (i := 5) sc_line_rows.nd rfl (.inl rfl) (pe_call (ok_divide S W) (hr.mono (by decide)) rfl W.divide.m W.divide.k W.divide.b .nil pass0 (pa_cons (pv 4) (pa_cons (pe_tup (pa_cons (pv 2) (pa_cons pe_int pa_nil))) pa_nil))))
        (pss_cons (ps_par (i := 6) (j := 7) rfl sc_line_rows.nd rfl rfl (by decide) rfl rfl (pa_cons (pe_call (ok_bound_of S W) (hr.mono (by decide)) rfl W.bound_of.m W.bound_of.k W.bound_of.b .nil pass0 (pa_cons (pv 0) (pa_cons pe_int (pa_cons pe_int pa_nil)))) (pa_cons (pe_call (ok_bound_of S W) (hr.mono (by decide)) rfl W.bound_of.m W.bound_of.k W.bound_of.b .nil pass0 (pa_cons (pv 0) (pa_cons pe_int (pa_cons (pe_un un_neg pe_int) pa_nil)))) pa_nil)) (by rfl))
        (pss_cons (ps_if (PW.pt (pw_and (pt_cmpR op_notN (pv 6) pe_non (nomark _)) (pw_and (pt_cmpR op_notN (pv 7) pe_non (nomark _)) (pw_and1 (pt_cmpR op_eq (pe_ix ix_tup (pe_call (ok_add S W) (hr.mono (by decide)) rfl W.add.m W.add.k W.add.b .nil pass0 (pa_cons (pv 6) (pa_cons (pv 7) pa_nil))) pe_int (fun _ _ => rfl)) pe_int (nomark _)))))) (pss_one (ps_ret (pe_call (ok_point_rows S W) (hr.mono (by decide)) rfl W.point_rows.m W.point_rows.k W.point_rows.b .nil pass0 (pa_cons (pv 5) (pa_cons (pv 6) pa_nil))))) pss_nil)
        (pss_one (ps_set (i := 8) sc_line_rows.nd rfl (.inl rfl) (pe_lst (pa_cons (pe_tup (pa_cons pe_int (pa_cons pe_int (pa_cons (pv 6) pa_nil)))) (pa_cons (pe_tup (pa_cons pe_int (pa_cons (pe_un un_neg pe_int) (pa_cons (pv 7) pa_nil)))) pa_nil)))))))) (pss_cons (ps_par (i := 6) (j := 7) rfl sc_line_rows.nd rfl rfl (by decide) rfl rfl (pa_cons (pe_call (ok_bound_of S W) (hr.mono (by decide)) rfl W.bound_of.m W.bound_of.k W.bound_of.b .nil pass0 (pa_cons (pv 0) (pa_cons pe_int (pa_cons pe_int pa_nil)))) (pa_cons (pe_call (ok_bound_of S W) (hr.mono (by decide)) rfl W.bound_of.m W.bound_of.k W.bound_of.b .nil pass0 (pa_cons (pv 0) (pa_cons (pe_un un_neg pe_int) (pa_cons pe_int pa_nil)))) pa_nil)) (by rfl))
        (pss_cons (ps_if (PW.pt (pw_and (pt_cmpR op_notN (pv 6) pe_non (nomark _)) (pw_and (pt_cmpR op_notN (pv 7) pe_non (nomark _)) (pw_and1 (pt_cmpR op_eq (pe_ix ix_tup (pe_call (ok_add S W) (hr.mono (by decide)) rfl W.add.m W.add.k W.add.b .nil pass0 (pa_cons (pv 6) (pa_cons (pv 7) pa_nil))) pe_int (fun _ _ => rfl)) pe_int (nomark _)))))) (pss_one (ps_ret (pe_call (ok_point_rows S W) (hr.mono (by decide)) rfl W.point_rows.m W.point_rows.k W.point_rows.b .nil pass0 (pa_cons (pv 6) (pa_cons (pe_call (ok_divide S W) (hr.mono (by decide)) rfl W.divide.m W.divide.k W.divide.b .nil pass0 (pa_cons (pe_call (ok_subtract S W) (hr.mono (by decide)) rfl W.subtract.m W.subtract.k W.subtract.b .nil pass0 (pa_cons (pv 4) (pa_cons (pe_call (ok_multiply S W) (hr.mono (by decide)) rfl W.multiply.m W.multiply.k W.multiply.b .nil pass0 (pa_cons (pe_tup (pa_cons (pv 2) (pa_cons pe_int pa_nil))) (pa_cons (pv 6) pa_nil))) pa_nil))) (pa_cons (pe_tup (pa_cons (pv 3) (pa_cons pe_int pa_nil))) pa_nil))) pa_nil))))) pss_nil)
        (pss_one (ps_set (i := 8) sc_line_rows.nd rfl (.inl rfl) (pe_lst (pa_cons (pe_tup (pa_cons pe_int (pa_cons pe_int (pa_cons (pv 6) pa_nil)))) (pa_cons (pe_tup (pa_cons (pe_un un_neg pe_int) (pa_cons pe_int (pa_cons (pv 7) pa_nil)))) pa_nil))))))))
        (pss_one (ps_ret (pe_op op_cat (pe_lst (pa_cons (pv 1) (pa_cons (pe_tup (pa_cons (pe_un un_neg (pv 2)) (pa_cons (pe_un un_neg (pv 3)) (pa_cons (pe_call (ok_negative S W) (hr.mono (by decide)) rfl W.negative.m W.negative.k W.negative.b .nil pass0 (pa_cons (pv 4) pa_nil)) pa_nil)))) pa_nil))) (pe_lc (own := [("end", 9)]) rfl sc_line_rows.nd (pi_list (pv 8)) (blkOk_by (N := ["rows", "line", "a", "b", "c", "x", "top", "low", "ends", "end"]) (sc := defScope s_line_rows) (by decide +kernel)) (fun _ _ _ _ _ => (pg_name (i := 9) sc_line_rows.nd rfl (.inl rfl))) (fun _ _ _ _ _ => (pts_one (pt_cmpR op_notN (pe_ix (r := rIxT K) ix_tup (pv 9) pe_int (fun _ _ => rfl)) pe_non (nomark _)))) (fun _ _ _ _ _ => (pv 9)))))))), ?_⟩
    have lc : Sq LL LL l.c := zl.2.2.mono (by omega) (by omega)
    have z0 : ∀ {i : Int}, i = 0 ∨ i = 1 ∨ i = -1 → Sz 0 i := fun {i} h => by
      rcases h with rfl | rfl | rfl
      · exact Sz.zero
      · exact Sz.one
      · exact (Sz.one (n := 0)).neg
    have bs : ∀ {a b : Int}, Sz 0 a → Sz 0 b → OSz (5 * n + 3) (6 * n + 2) (boundOf rs a b) := fun {a b} ha hb => (bound_sz ho hz ha hb).mono (by omega) (Nat.le_refl _)
    have bl : ∀ {a b : Int}, Sz 0 a → Sz 0 b → OLL (boundOf rs a b) := fun ha hb => OSz.ll (bs ha hb) (by omega) (by omega)
    have zi : ∀ {i : Int}, Sz n i → Sq LL LL (i : Rat) := fun {i} h => Sq.int (h.mono (by omega))
    -- what meets tells
    have mt : ∀ {σ : L2.St} {H' : Hp} {t1 : V} {t2 : V} {o1 o2 : Option Rat} {E : XK}, σ[6]? = some (some t1) → σ[7]? = some (some t2) → IsO K o1 t1 H' → IsO K o2 t2 H' → OLL o1 → OLL o2 →
        EvT (tAnd (tTest (tOp (fun x y H Q => y = V.non ∧ Q (.bl (!decide (x = .non))) H) (tVar 6) (tC .non))) (tAnd (tTest (tOp (fun x y H Q => y = V.non ∧ Q (.bl (!decide (x = .non))) H) (tVar 7) (tC .non)))
          (tTest (tOp rEq (tOp (rIxT K) (tCall (SpF (rAddQ K)) [] E (tCons (tVar 6) (tCons (tVar 7) tNil))) (tC (.int 0))) (tC (.int 0)))))) σ H' (meets o1 o2).isSome := fun {σ H' t1 t2 o1 o2 E} i1 i2 q1 q2 l1 l2 => by
      cases o1 with
      | none => exact et_and (a := false) (b := false) (et_val (ev_notN (o := none) (ev_var i1 q1))) fun z => nomatch z
      | some u =>
        cases o2 with
        | none => exact et_and (a := true) (b := false) (et_val (ev_notN (o := some u) (ev_var i1 q1))) fun _ => et_and (a := false) (b := false) (et_val (ev_notN (o := none) (ev_var i2 q2))) fun z => nomatch z
        | some w =>
          have e : (meets (some u) (some w)).isSome = decide (u + w = 0) := by
            simp only [meets]
            by_cases hz : u + w = 0
            · rw [if_pos hz, decide_eq_true hz]; rfl
            · rw [if_neg hz, decide_eq_false hz]; rfl
          rw [e]
          refine et_and (a := true) (et_val (ev_notN (o := some u) (ev_var i1 q1))) fun _ => et_and (a := true) (et_val (ev_notN (o := some w) (ev_var i2 q2))) fun _ => ?_
          refine et_is (et_val (ev_eqI (ev_q0 (ev_call (ea_cons (ev_var (P := IsQ K u) i1 q1) (ea_cons (ev_var (P := IsQ K w) i2 q2) ea_nil)) fun vs H1 _ f => ⟨_, _, f, l1 u rfl, l2 w rfl, rfl⟩)) ev_c)) ?_
          exact num_eq0 _
    have fst : ∀ {o1 o2 : Option Rat} {t : Rat} {v : V} {H' : Hp}, meets o1 o2 = some t → IsO K o1 v H' → IsQ K t v H' ∧ o1 = some t := fun {o1 o2 t v H'} hm hv => by
      cases o1 with
      | none => cases hm
      | some u =>
        cases o2 with
        | none => cases hm
        | some w =>
          simp only [meets] at hm
          by_cases hz : u + w = 0
          · rw [if_pos hz] at hm; cases hm; exact ⟨hv, rfl⟩
          · rw [if_neg hz] at hm; cases hm
    refine seq_go (row_go (ev_var rfl hl) fun c H1 e1 hc => ?_)
    have hrs1 := Mo.mo e1 hrs
    have hl1 := Mo.mo e1 hl
    refine seq_go (join_go (fun σ H' => ∃ x5 x6 x7 x8 x9 es, σ = [some v0, some v1, some (.int l.a), some (.int l.b), some c, x5, x6, x7, some x8, x9] ∧ Same H1 H' ∧ IsL K (IsEnd K) es x8 H' ∧ lineRows rs l = [l, negRow l] ++ es.filterMap endF ∧ es.length = 2) (fun σ' H2 hM => ?_) fun nx' fin => ?_)
    · obtain ⟨x5, x6, x7, x8, x9, es, rfl, e2, hes, hlr, hes2⟩ := hM
      refine ret_go (ev_cat (ev_rows2 (r := l) (s := negRow l) (ev_var rfl (Mo.mo e2 hl1)) (ev_mkRow (r := negRow l) (ev_neg (ev_v rfl)) (ev_neg (ev_v rfl)) (ev_call (ea_cons (ev_var rfl (Mo.mo e2 hc)) ea_nil) fun vs H1 _ f => ⟨_, f, rfl⟩)))
        (comp_list (K := K) (S := IsEnd K) (R := IsRow K) (ds := es) endF (ev_var rfl hes) (by rw [hes2]; decide) (fun _ _ _ _ _ h q => tg_name_mono h q) fun d x H3 _ hx _ => ⟨rfl, rfl, ?_⟩) ?_) fun v H3 e3 p => k v H3 (e1.trans (e2.trans e3)) ?_
      · cases hd : d.2.2 with
        | none =>
          have : endF d = none := by unfold endF; rw [hd]; rfl
          rw [this]
          exact et_is (et_val (ev_notN (ev_e2 (ev_var rfl hx)))) (by rw [hd]; rfl)
        | some t =>
          have : endF d = some ⟨d.1, d.2.1, t⟩ := by unfold endF; rw [hd]; rfl
          rw [this]
          exact ⟨et_is (et_val (ev_notN (ev_e2 (ev_var rfl hx)))) (by rw [hd]; rfl), ev_var rfl (isEnd_row hd hx)⟩
      · have h1 := List.length_filterMap_le endF es
        show 2 + (es.filterMap endF).length ≤ sizeLine
        exact Nat.le_trans (by omega : 2 + (es.filterMap endF).length ≤ 4) (by decide)
      · rw [hlr]; exact p
    refine if_go (et_val (ev_eqI (ev_v rfl) ev_c)) (fun hb H2 e2 => ?_) fun hb H2 e2 => ?_
    · have hb' : l.b = 0 := of_decide_eq_true hb
      have ha : l.a ≠ 0 := ol.elim id fun q => absurd hb' q
      have hlr : lineRows rs l = match meets (boundOf rs 0 1) (boundOf rs 0 (-1)) with | some t => pointRows (l.c / (l.a : Rat)) t | none => [l, negRow l] ++ (endRow 0 1 (boundOf rs 0 1) ++ endRow 0 (-1) (boundOf rs 0 (-1))) := by unfold lineRows; rw [if_pos hb']; try rfl
      refine seq_go (set_go (ev_call (ea_cons (ev_var rfl (Mo.mo e2 hc)) (ea_cons (ev_mkInt (ev_v rfl) ev_c) ea_nil)) fun vs H1 _ f => ⟨_, _, f, lc, zi zl.1, ne_cast ha, rfl⟩) fun x5 H3 e3 hx5 => ?_)
      have e13 := e2.trans e3
      have s0 := z0 (.inl rfl)
      have s1 := z0 (.inr (.inl rfl))
      have sm := z0 (.inr (.inr rfl))
      refine seq_go (par_go (ea_cons (ev_call (P := IsO K (boundOf rs 0 1)) (ea_cons (ev_var rfl (Mo.mo e13 hrs1)) (ea_cons ev_c (ea_cons ev_c ea_nil))) fun vs H1 _ f => ⟨n, 0, _, _, _, f, ho, hz, s0, s1, by omega, rfl⟩) (ea_cons (ev_call (P := IsO K (boundOf rs 0 (-1))) (ea_cons (ev_var rfl (Mo.mo e13 hrs1)) (ea_cons ev_c (ea_cons (ev_neg ev_c) ea_nil))) fun vs H1 _ f => ⟨n, 0, _, _, _, f, ho, hz, s0, sm, by omega, rfl⟩) ea_nil)) fun t1 t2 H4 e4 h1 h2 => ?_)
      have e14 := e13.trans e4
      refine seq_go (if_go (mt rfl rfl h1 h2 (bl s0 s1) (bl s0 sm)) (fun hm H5 e5 => ?_) fun hm H5 e5 => nil_go ?_)
      · obtain ⟨t, ht⟩ := Option.isSome_iff_exists.mp hm
        rw [ht] at hlr
        refine ret_go (ev_call (ea_cons (ev_var rfl (Mo.mo (e4.trans e5) hx5)) (ea_cons (ev_var rfl (Mo.mo e5 (fst ht h1).1)) ea_nil)) fun vs H1 _ f => ⟨_, _, f, rfl⟩) fun v H6 e6 p => k v H6 (e1.trans (e14.trans (e5.trans e6))) ?_
        rw [hlr]; exact p
      · have hn0 : meets (boundOf rs 0 1) (boundOf rs 0 (-1)) = none := by simpa using hm
        rw [hn0] at hlr
        refine set_go (ev_ends (ev_mkEnd ev_c ev_c (ev_var rfl (Mo.mo e5 h1))) (ev_mkEnd ev_c (ev_neg ev_c) (ev_var rfl (Mo.mo e5 h2)))) fun x8 H6 e6 h8 => fin _ _ ⟨_, _, _, _, _, [(0, 1, boundOf rs 0 1), (0, -1, boundOf rs 0 (-1))], rfl, e14.trans (e5.trans e6), h8, ?_, rfl⟩
        rw [endF_two]; exact hlr
    · have hb' : l.b ≠ 0 := of_decide_eq_false hb
      have hlr : lineRows rs l = match meets (boundOf rs 1 0) (boundOf rs (-1) 0) with | some t => pointRows t ((l.c - (l.a : Rat) * t) / (l.b : Rat)) | none => [l, negRow l] ++ (endRow 1 0 (boundOf rs 1 0) ++ endRow (-1) 0 (boundOf rs (-1) 0)) := by unfold lineRows; rw [if_neg hb']; try rfl
      have s0 := z0 (.inl rfl)
      have s1 := z0 (.inr (.inl rfl))
      have sm := z0 (.inr (.inr rfl))
      refine seq_go (par_go (ea_cons (ev_call (P := IsO K (boundOf rs 1 0)) (ea_cons (ev_var rfl (Mo.mo e2 hrs1)) (ea_cons ev_c (ea_cons ev_c ea_nil))) fun vs H1 _ f => ⟨n, 0, _, _, _, f, ho, hz, s1, s0, by omega, rfl⟩) (ea_cons (ev_call (P := IsO K (boundOf rs (-1) 0)) (ea_cons (ev_var rfl (Mo.mo e2 hrs1)) (ea_cons (ev_neg ev_c) (ea_cons ev_c ea_nil))) fun vs H1 _ f => ⟨n, 0, _, _, _, f, ho, hz, sm, s0, by omega, rfl⟩) ea_nil)) fun t1 t2 H4 e4 h1 h2 => ?_)
      have e14 := e2.trans e4
      refine seq_go (if_go (mt rfl rfl h1 h2 (bl s1 s0) (bl sm s0)) (fun hm H5 e5 => ?_) fun hm H5 e5 => nil_go ?_)
      · obtain ⟨t, ht⟩ := Option.isSome_iff_exists.mp hm
        rw [ht] at hlr
        obtain ⟨ht1, hto⟩ := fst ht h1
        have tz := bs s1 s0 t hto
        have at_ := (Sq.int (d := 0) zl.1).mul tz
        have ad := zl.2.2.sub at_
        have ht5 := Mo.mo e5 ht1
        refine ret_go (ev_call (ea_cons (ev_var rfl ht5) (ea_cons (ev_call (ea_cons (ev_call (ea_cons (ev_var rfl (Mo.mo (e14.trans e5) hc)) (ea_cons (ev_call (ea_cons (ev_mkInt (ev_v rfl) ev_c) (ea_cons (ev_var rfl ht5) ea_nil)) fun vs H1 _ f => ⟨_, _, f, zi zl.1, tz.mono (by omega) (by omega), rfl⟩) ea_nil)) fun vs H1 _ f => ⟨_, _, f, lc, at_.mono (by omega) (by omega), rfl⟩)
          (ea_cons (ev_mkInt (ev_v rfl) ev_c) ea_nil)) fun vs H1 _ f => ⟨_, _, f, ad.mono (by omega) (by omega), zi zl.2.1, ne_cast hb', rfl⟩) ea_nil)) fun vs H1 _ f => ⟨_, _, f, rfl⟩) fun v H6 e6 p => k v H6 (e1.trans (e14.trans (e5.trans e6))) ?_
        rw [hlr]; exact p
      · have hn0 : meets (boundOf rs 1 0) (boundOf rs (-1) 0) = none := by simpa using hm
        rw [hn0] at hlr
        refine set_go (ev_ends (ev_mkEnd ev_c ev_c (ev_var rfl (Mo.mo e5 h1))) (ev_mkEnd (ev_neg ev_c) ev_c (ev_var rfl (Mo.mo e5 h2)))) fun x8 H6 e6 h8 => fin _ _ ⟨_, _, _, _, _, [(1, 0, boundOf rs 1 0), (-1, 0, boundOf rs (-1) 0)], rfl, e14.trans (e5.trans e6), h8, ?_, rfl⟩
        rw [endF_two]; exact hlr
end
end Tk

set_option Elab.async false
set_option linter.all false
set_option maxRecDepth 100000
set_option maxHeartbeats 4000000
namespace Tk
open PySem L2 Ts
section
variable {P : Program} {w : World} {K : PySem.W.Frag} {mg : Str → Option Value} {base : Heap}

theorem ev_listV {σ : L2.St} {H : Hp} {te : TE} {a : Addr} {ws : List V} (he : Ev te σ H (IsV (.ref a))) (hw : SqL K H a ws) : Ev (tCB (fun xs H Q => ∃ p ys, xs = [.ref p] ∧ (SqL K H p ys ∨ SqT K H p ys) ∧ ∀ l, H l = none → Q (.ref l) (upd H l (.lst ys))) (tCons te tNil)) σ H (RefL K ws) :=
  fun H1 e Q q => he H1 e _ fun v H2 e2 p => ⟨a, ws, by rw [p], .inl ((e.trans e2).seq hw), fun l hl => q _ _ (e2.trans (same_new hl)) ⟨l, rfl, .of upd_same⟩⟩
def lineB : Option Rat → Rat → Bool
  | none, _ => false
  | some v, c => decide (v + c = 0)
theorem isLine_eq (F : List Row) (r : Row) : lineB (boundOf F (-r.a) (-r.b)) r.c = isLine F r := by
  unfold isLine
  cases boundOf F (-r.a) (-r.b) <;> rfl
/-- low is not None and add(low, c)[0] == 0 -/
theorem et_line {σ : L2.St} {H : Hp} {E : XK} {i j : Nat} {low : Option Rat} {c : Rat} {t1 t2 : V} (i1 : σ[i]? = some (some t1)) (i2 : σ[j]? = some (some t2)) (h1 : IsO K low t1 H) (h2 : IsQ K c t2 H) (l1 : OLL low) (l2 : Sq LL LL c) :
    EvT (tAnd (tTest (tOp (fun x y H Q => y = V.non ∧ Q (.bl (!decide (x = .non))) H) (tVar i) (tC .non))) (tTest (tOp rEq (tOp (rIxT K) (tCall (SpF (rAddQ K)) [] E (tCons (tVar i) (tCons (tVar j) tNil))) (tC (.int 0))) (tC (.int 0))))) σ H (lineB low c) := by
  cases low with
  | none => exact et_and (a := false) (b := false) (et_val (ev_notN (o := none) (ev_var i1 h1))) fun z => nomatch z
  | some u =>
    refine et_and (a := true) (et_val (ev_notN (o := some u) (ev_var i1 h1))) fun _ => ?_
    refine et_is (et_val (ev_eqI (ev_q0 (ev_call (ea_cons (ev_var (P := IsQ K u) i1 h1) (ea_cons (ev_var i2 h2) ea_nil)) fun vs H1 _ f => ⟨_, _, f, l1 u rfl, l2, rfl⟩)) ev_c)) ?_
    exact num_eq0 _
theorem filterMap_some {α β : Type} (f : α → β) (xs : List α) : xs.filterMap (fun x => some (f x)) = xs.map f := by
  induction xs with
  | nil => rfl
  | cons x xs ih => simp
theorem filterMap_if {α : Type} (p : α → Bool) (xs : List α) : xs.filterMap (fun x => if p x then some x else none) = xs.filter p := by
  induction xs with
  | nil => rfl
  | cons x xs ih => rw [List.filterMap_cons, List.filter_cons]; cases p x <;> simp [ih]

theorem et_B0 {σ : L2.St} {H : Hp} {te : TE} {a : Addr} (h : Ev te σ H (IsV (.ref a))) : EvT (tTest (tOp (fun x y H Q => y = .non ∧ Q (.bl (decide (x = .non))) H) te (tC .non))) σ H false :=
  et_val (ev_op h ev_c fun x y H1 _ hx hy Q q => ⟨hy, by rw [hx]; exact q _ H1 (Same.refl H1) rfl⟩)
def rCanon (K : PySem.W.Frag) : List V → Hp → P1 → Prop := fun vs H P => ∃ (n : Nat) (rs : List Row), Fits [IsS K (IsRow K) rs] vs H ∧ Oks rs ∧ RsSz n rs ∧ 17 * n + 100 ≤ LL ∧ rs.length + 10 < sizeLine ∧ P = KeptP K (canonical rs)
theorem sc_canonical : FnScope ["rows", "row", "found", "a", "b", "c", "low", "others", "other"] ["rows"] (defScope s_canonical) := ⟨rfl, rfl, rfl, by decide +kernel, rfl, by decide +kernel, by decide +kernel⟩
theorem ok_canonical (S : Sr P base) (W : Wd K mg) : FnOk P w K mg base CX0 47 W.canonical.f W.canonical.fd ["rows"] (SpF (rCanon K)) := by
  refine W.canonical.F.ok sc_canonical (fun vs H Q E h => ?_) (fun cdv A outer s H vs Q E hr h => ?_)
  · obtain ⟨P1, ⟨n, rs, f, _⟩, _⟩ := h
    exact f.len
  · obtain ⟨P1, ⟨n, rs, f, ho, hz, hn, hlen, rfl⟩, k⟩ := h
    obtain ⟨v0, rfl, hrs⟩ := f.one
    have hLL : LL = 33554432 := rfl
    refine ⟨_, (pss_cons (ps_set (i := 2) sc_canonical.nd rfl (.inl rfl) (pe_call (ok_kept_rows S W) (hr.mono (by decide)) rfl W.kept_rows.m W.kept_rows.k W.kept_rows.b .nil pass0 (pa_cons (pe_lc (own := [("row", 1)]) rfl sc_canonical.nd (pi_seq (pv 0)) (blkOk_by (N := ["rows", "row", "found", "a", "b", "c", "low", "others", "other"]) (sc := defScope s_canonical) (by decide +kernel)) (fun _ _ _ _ _ => (pg_name (i := 1) sc_canonical.nd rfl (.inl rfl))) (fun _ _ _ _ _ => pts_nil) (fun _ _ _ _ _ => (pe_call (ok_normal S W) (hr.mono (by decide)) rfl W.normal.m W.normal.k W.normal.b .nil pass0 (pa_cons (pv 1) pa_nil)))) pa_nil)))
        (pss_cons (ps_if (pt_cmpR op_isN (pv 2) pe_non (nomark _)) (pss_one (ps_ret pe_non)) pss_nil)
        (pss_cons (ps_for PassesOwn.never rfl (pi_list (pv 2)) (pg_tup rfl (pgs_cons (pg_name (i := 3) sc_canonical.nd rfl (.inl rfl)) (pgs_cons (pg_name (i := 4) sc_canonical.nd rfl (.inl rfl)) (pgs_cons (pg_name (i := 5) sc_canonical.nd rfl (.inl rfl)) pgs_nil)))) (pss_cons (ps_set (i := 6) sc_canonical.nd rfl (.inl rfl) (pe_call (ok_bound_of S W) (hr.mono (by decide)) rfl W.bound_of.m W.bound_of.k W.bound_of.b .nil pass0 (pa_cons (pv 2) (pa_cons (pe_un un_neg (pv 3)) (pa_cons (pe_un un_neg (pv 4)) pa_nil)))))
        (pss_one (ps_if (PW.pt (pw_and (pt_cmpR op_notN (pv 6) pe_non (nomark _)) (pw_and1 (pt_cmpR op_eq (pe_ix ix_tup (pe_call (ok_add S W) (hr.mono (by decide)) rfl W.add.m W.add.k W.add.b .nil pass0 (pa_cons (pv 6) (pa_cons (pv 5) pa_nil))) pe_int (fun _ _ => rfl)) pe_int (nomark _))))) (pss_one (ps_ret (pe_call (ok_by_direction S W) (hr.mono (by decide)) rfl W.by_direction.m W.by_direction.k W.by_direction.b .nil pass0 (pa_cons (pe_call (ok_line_rows S W) (hr.mono (by decide)) rfl W.line_rows.m W.line_rows.k W.line_rows.b .nil pass0 (pa_cons (pv 2) (pa_cons (pe_tup (pa_cons (pv 3) (pa_cons (pv 4) (pa_cons (pv 5) pa_nil)))) pa_nil))) pa_nil)))) pss_nil))))
        (pss_cons (ps_for PassesOwn.never rfl (pi_list (pe_callTy call_list_of (by rfl) W.n_list (by decide +kernel) (pa_cons (pv 2) pa_nil))) (pg_name (i := 1) sc_canonical.nd rfl (.inr rfl)) (pss_cons (ps_setLc (i := 7) (own := [("other", 8)]) rfl sc_canonical.nd rfl rfl (sw_true rfl rfl rfl (by decide +kernel)) (pi_list (pv 2)) (blkOk_by (N := ["rows", "row", "found", "a", "b", "c", "low", "others", "other"]) (sc := defScope s_canonical) (by decide +kernel)) (fun _ _ _ _ _ => (pg_name (i := 8) sc_canonical.nd rfl (.inl rfl))) (fun _ _ _ _ _ => (pts_one (pt_cmpR (r := rNeD K) (op_neD hr.units) (pv 8) (pv 1) (nomark _)))) (fun _ _ _ _ _ => (pv 8)))
        (pss_one (ps_if (pt_val (pe_call (ok_is_at_most S W) (hr.mono (by decide)) rfl W.is_at_most.m W.is_at_most.k W.is_at_most.b .nil pass0 (pa_cons (pe_call (ok_bound_of S W) (hr.mono (by decide)) rfl W.bound_of.m W.bound_of.k W.bound_of.b .nil pass0 (pa_cons (pv 7) (pa_cons (pe_ix ix_tup (pv 1) pe_int (fun _ _ => rfl)) (pa_cons (pe_ix ix_tup (pv 1) pe_int (fun _ _ => rfl)) pa_nil)))) (pa_cons (pe_ix ix_tup (pv 1) pe_int (fun _ _ => rfl)) pa_nil)))) (pss_one (ps_set (i := 2) sc_canonical.nd rfl (.inl rfl) (pv 7))) pss_nil))))
        (pss_one (ps_ret (pe_call (ok_by_direction S W) (hr.mono (by decide)) rfl W.by_direction.m W.by_direction.k W.by_direction.b .nil pass0 (pa_cons (pv 2) pa_nil)))))))), ?_⟩
    obtain ⟨no, npr, _⟩ := normal_map ho
    have nz := normal_map_sz ho hz
    refine seq_go (set_go (ev_call (P := KeptP K (kept [] (rs.map normal))) (ea_cons (comp_seq (K := K) (S := IsRow K) (R := IsRow K) (ds := rs) (fun d => some (normal d)) (ev_var rfl hrs) (by omega) (fun _ _ _ _ _ h q => tg_name_mono h q) fun d x H3 hd hx _ => ⟨rfl, rfl, et_yes, ev_call (ea_cons (ev_var rfl hx) ea_nil) fun vs H1 _ f => ⟨n, d, f, ho d hd, hz d hd, by omega, rfl⟩⟩) ea_nil) fun vs H1 _ f => ?_) fun v2 H1 e1 h2 => ?_)
    · obtain ⟨w1, rfl, hw1⟩ := f.one
      rw [filterMap_some] at hw1
      exact ⟨n + n, rs.map normal, ⟨hw1.isL, trivial⟩, no, nz, by omega, by rw [List.length_map]; omega, rfl⟩
    cases hk : kept [] (rs.map normal) with
    | none =>
      have hc : canonical rs = none := by unfold canonical; rw [hk]
      rw [hk] at h2
      have h2' : v2 = .non := h2
      subst h2'
      refine seq_go (if_go (et_val (ev_isN (K := K) (o := none) (ev_v rfl))) (fun _ H2 e2 => ?_) fun z => nomatch z)
      refine ret_go ev_c fun v H3 e3 p => k v H3 (e1.trans (e2.trans e3)) ?_
      rw [hc]; exact p
    | some F =>
      have hc : canonical rs = some (shape F) := by unfold canonical; rw [hk]
      rw [hk] at h2
      obtain ⟨pF, ws, rfl, hpF, hall⟩ : NewL (IsRow K) F v2 H1 := h2
      have hsub := kept_sub _ _ F hk
      have oF : Oks F := fun r hr => (hsub r hr).elim (fun z => nomatch z) (no r)
      have zF : RsSz (n + n) F := fun r hr => (hsub r hr).elim (fun z => nomatch z) (nz r)
      have lF : F.length ≤ rs.length := by have := kept_len _ _ F hk; simpa using this
      have isF : ∀ H', Same H1 H' → IsRows K F (.ref pF) H' := fun H' e => ⟨pF, ws, rfl, .of (e _ _ hpF), hall.mo e⟩
      refine seq_go (if_go (b := false) (et_B0 (ev_v rfl)) (fun z => nomatch z) fun _ H2 e2 => nil_go ?_)
      have hw2 : SqL K H2 pF ws := .of (e2 _ _ hpF)
      refine seq_go (listv_go (xs := ws) (a := pF) (ev_v rfl) hw2 fun H3 e3 => ?_)
      have e13 := e2.trans e3
      refine ⟨fun i σ H' => ∃ x1 x3 x4 x5 x6 x7 x8, σ = [some v0, x1, some (.ref pF), x3, x4, x5, x6, x7, x8] ∧ Same H3 H' ∧ ∀ r ∈ F.take i, isLine F r = false,
        ⟨_, _, _, _, _, _, _, rfl, Same.refl H3, by simp⟩, fun i σ H4 _ q => ?_, fun i x σ H4 v H5 hi q hy => ?_, fun σ H4 q => ?_⟩
      · obtain ⟨x1, x3, x4, x5, x6, x7, x8, rfl, e4, _⟩ := q
        exact .of (e4 _ _ (e13 _ _ hpF))
      · obtain ⟨x1, x3, x4, x5, x6, x7, x8, rfl, e4, hno⟩ := q
        obtain ⟨rfl, rfl⟩ := hy
        obtain ⟨r, hri, hrow⟩ := hall.2 i v hi
        have e14 := e13.trans e4
        have hmem : r ∈ F := List.mem_of_getElem? hri
        have zr := zF r hmem
        have or := oF r hmem
        refine row_tg (Mo.mo e14 hrow) fun c hc5 => ?_
        have b2 := bound_sz oF zF zr.1.neg zr.2.1.neg
        have l2 : OLL (boundOf F (-r.a) (-r.b)) := OSz.ll b2 (by omega) (by omega)
        have lc : Sq LL LL r.c := zr.2.2.mono (by omega) (by omega)
        refine seq_go (set_go (ev_call (ea_cons (ev_var rfl (isF _ e14)) (ea_cons (ev_neg (ev_v rfl)) (ea_cons (ev_neg (ev_v rfl)) ea_nil))) fun vs H1 _ f => ⟨_, _, _, _, _, f, oF, zF, zr.1.neg, zr.2.1.neg, by omega, rfl⟩) fun v7 H7 e7 hlow => ?_)
        have hc7 := Mo.mo e7 hc5
        refine if_go (b := isLine F r) (et_is (et_line rfl rfl hlow hc7 l2 lc) (isLine_eq F r)) (fun hb H8 e8 => ?_) fun hb H8 e8 => nil_go ?_
        · have hfind : F.find? (isLine F) = some r := by
            refine List.find?_eq_some_iff_append.mpr ⟨hb, F.take i, F.drop (i + 1), ?_, fun a ha => by rw [hno a ha]; rfl⟩
            obtain ⟨h1, h2⟩ := List.getElem?_eq_some_iff.mp hri
            rw [← h2, ← List.drop_eq_getElem_cons h1, List.take_append_drop]
          have hs : shape F = byDir (lineRows F r) := by unfold shape; rw [hfind]
          have e18 := e14.trans (e7.trans e8)
          refine ret_go (ev_call (P := NewL (IsRow K) (byDir (lineRows F r))) (ea_cons (ev_call (P := NewL (IsRow K) (lineRows F r)) (ea_cons (ev_var rfl (isF _ e18)) (ea_cons (ev_mkRow (r := r) (ev_v rfl) (ev_v rfl) (ev_var rfl (Mo.mo e8 hc7))) ea_nil)) fun vs H1 _ f => ⟨_, F, r, f, oF, zF, or, zr, by omega, rfl⟩) ea_nil) fun vs H1 _ f => ?_) fun v H9 e9 p => k v H9 (e1.trans (e18.trans e9)) ?_
          · obtain ⟨w1, rfl, hw1⟩ := f.one
            have := line_len F r
            exact ⟨8 * (n + n) + 4, lineRows F r, ⟨hw1.isL, trivial⟩, line_sz oF zF hmem, by omega, Nat.lt_of_le_of_lt this (by decide), rfl⟩
          · rw [hc, hs]; exact p
        · refine ⟨_, _, _, _, _, _, _, rfl, e4.trans (e7.trans e8), fun y hy => ?_⟩
          rw [List.take_add_one, hri] at hy
          rcases List.mem_append.mp hy with hy | hy
          · exact hno y hy
          · have : y = r := by simpa using hy
            rw [this]; exact hb
      · obtain ⟨x1, x3, x4, x5, x6, x7, x8, rfl, e4, hno⟩ := q
        rw [hall.1, List.take_length] at hno
        have e14 := e13.trans e4
        have hs : shape F = byDir (prune F F) := by
          have : F.find? (isLine F) = none := List.find?_eq_none.mpr fun x hx => by rw [hno x hx]; simp
          unfold shape; rw [this]
        refine seq_go (list_go (xs := ws) (ev_listV (ev_v rfl) (.of (e14 _ _ hpF))) fun l5 H5 e5 hw5 => ?_)
        have e15 := e14.trans e5
        refine ⟨fun i σ H' => ∃ x1 x3 x4 x5 x6 x7 x8 G vG, σ = [some v0, x1, some vG, x3, x4, x5, x6, x7, x8] ∧ Same H5 H' ∧ IsRows K G vG H' ∧ prune F F = prune G (F.drop i) ∧ (∀ r ∈ G, r ∈ F) ∧ G.length ≤ F.length,
          ⟨_, _, _, _, _, _, _, F, _, rfl, Same.refl H5, isF _ e15, rfl, (fun _ z => z), Nat.le_refl _⟩, fun i σ H6 _ q => ?_, fun i x σ H6 v H7 hi q hy => ?_, fun σ H6 q => ?_⟩
        · obtain ⟨x1, x3, x4, x5, x6, x7, x8, G, vG, rfl, e6, _⟩ := q
          exact e6.seq hw5
        · obtain ⟨x1, x3, x4, x5, x6, x7, x8, G, vG, rfl, e6, hG, hp, hGs, hGl⟩ := q
          obtain ⟨rfl, rfl⟩ := hy
          obtain ⟨r, hri, hrow⟩ := hall.2 i v hi
          have e16 := e15.trans e6
          have hmem : r ∈ F := List.mem_of_getElem? hri
          have zr := zF r hmem
          have hrow7 := Mo.mo e16 hrow
          have hdrop : F.drop i = r :: F.drop (i + 1) := by
            obtain ⟨h1, h2⟩ := List.getElem?_eq_some_iff.mp hri
            rw [List.drop_eq_getElem_cons h1, h2]
          rw [hdrop, prune] at hp
          have sub2 : ∀ x ∈ (G.filter fun o => decide (o ≠ r)), x ∈ F := fun x hx => hGs x (List.mem_filter.mp hx).1
          have o2 : Oks (G.filter fun o => decide (o ≠ r)) := fun x hx => oF x (sub2 x hx)
          have z2 : RsSz (n + n) (G.filter fun o => decide (o ≠ r)) := fun x hx => zF x (sub2 x hx)
          have b2 := bound_sz o2 z2 zr.1 zr.2.1
          have l2 : OLL (boundOf (G.filter fun o => decide (o ≠ r)) r.a r.b) := OSz.ll b2 (by omega) (by omega)
          refine seq_go (set_go (comp_list (K := K) (S := IsRow K) (R := IsRow K) (ds := G) (fun d => if decide (d ≠ r) then some d else none) (ev_var rfl hG) (by omega) (fun _ _ _ _ _ h q => tg_name_mono h q) fun d x H3 hd hx e3 => ⟨rfl, rfl, ?_⟩) fun v8 H8 e8 h8 => ?_)
          · have hrow3 := Mo.mo e3 hrow7
            by_cases hdr : d = r
            · rw [if_neg (by simp [hdr])]
              exact et_is (et_val (ev_neRow (ev_var rfl hx) (ev_var rfl hrow3))) (by rw [decide_eq_true hdr]; rfl)
            · rw [if_pos (by simp [hdr])]
              exact ⟨et_is (et_val (ev_neRow (ev_var rfl hx) (ev_var rfl hrow3))) (by rw [decide_eq_false hdr]; rfl), ev_var rfl hx⟩
          · rw [filterMap_if] at h8
            have hrow8 := Mo.mo e8 hrow7
            have is8 := h8.isL (K := K)
            refine if_go (b := atMost (boundOf (G.filter fun o => decide (o ≠ r)) r.a r.b) r.c) (et_B (ev_call (ea_cons (ev_call (ea_cons (ev_var rfl is8) (ea_cons (ev_r0 (ev_var rfl hrow8)) (ea_cons (ev_r1 (ev_var rfl hrow8)) ea_nil))) fun vs H1 _ f => ⟨_, _, _, _, _, f, o2, z2, zr.1, zr.2.1, by omega, rfl⟩) (ea_cons (ev_r2 (ev_var rfl hrow8)) ea_nil)) fun vs H1 _ f => ⟨_, _, f, l2, zr.2.2.mono (by omega) (by omega), rfl⟩)) (fun hb H9 e9 => ?_) fun hb H9 e9 => nil_go ?_
            · rw [if_pos hb] at hp
              refine set_go (ev_var rfl (Mo.mo e9 is8)) fun v10 H10 e10 h10 => ⟨_, _, _, _, _, _, _, _, _, rfl, e6.trans (e8.trans (e9.trans e10)), h10, hp, sub2, Nat.le_trans (List.length_filter_le _ _) hGl⟩
            · rw [if_neg (by rw [hb]; exact Bool.false_ne_true)] at hp
              exact ⟨_, _, _, _, _, _, _, G, vG, rfl, e6.trans (e8.trans e9), Mo.mo (e8.trans e9) hG, hp, hGs, hGl⟩
        · obtain ⟨x1, x3, x4, x5, x6, x7, x8, G, vG, rfl, e6, hG, hp, hGs, hGl⟩ := q
          rw [hall.1, List.drop_length] at hp
          have hp' : prune F F = G := hp
          refine ret_go (ev_call (ea_cons (ev_var rfl hG) ea_nil) fun vs H1 _ f => ⟨n + n, G, f, fun x hx => zF x (hGs x hx), by omega, by omega, rfl⟩) fun v H9 e9 p => k v H9 (e1.trans (e15.trans (e6.trans e9))) ?_
          rw [hc, hs, hp']; exact p
end
end Tk

set_option Elab.async false
set_option linter.all false
set_option maxRecDepth 100000
set_option maxHeartbeats 4000000
namespace Tk
open PySem L2 Ts
section
variable {P : Program} {w : World} {K : PySem.W.Frag} {mg : Str → Option Value} {base : Heap}
def rSum (K : PySem.W.Frag) : List V → Hp → P1 → Prop := fun vs H P => ∃ (n : Nat) (a b : Int) (p : Pt), Fits [IsI a, IsI b, IsPt K p] vs H ∧ Sz n a ∧ Sz n b ∧ PSz n p ∧ 4 * n + 8 ≤ LL ∧ P = IsQ K (dt a b p)
theorem sc_sum_of : FnScope ["a", "b", "point"] ["a", "b", "point"] (defScope s_sum_of) := ⟨rfl, rfl, rfl, by decide +kernel, rfl, by decide +kernel, by decide +kernel⟩
theorem ok_sum_of (S : Sr P base) (W : Wd K mg) : FnOk P w K mg base CX0 43 W.sum_of.f W.sum_of.fd ["a", "b", "point"] (SpF (rSum K)) := by
  refine W.sum_of.F.ok sc_sum_of (fun vs H Q E h => ?_) (fun cdv A outer s H vs Q E hr h => ?_)
  · obtain ⟨P1, ⟨n, a, b, p, f, _⟩, _⟩ := h
    exact f.len
  · obtain ⟨P1, ⟨n, a, b, p, f, sa, sb, sp, hn, rfl⟩, k⟩ := h
    obtain ⟨v0, v1, v2, rfl, rfl, rfl, hp⟩ := f.three
    have hLL : LL = 33554432 := rfl
    refine ⟨_, (pss_one (ps_ret (pe_call (ok_add S W) (hr.mono (by decide)) rfl W.add.m W.add.k W.add.b .nil pass0 (pa_cons (pe_call (ok_multiply S W) (hr.mono (by decide)) rfl W.multiply.m W.multiply.k W.multiply.b .nil pass0 (pa_cons (pe_tup (pa_cons (pv 0) (pa_cons pe_int pa_nil))) (pa_cons (pe_ix ix_tup (pv 2) pe_int (fun _ _ => rfl)) pa_nil))) (pa_cons (pe_call (ok_multiply S W) (hr.mono (by decide)) rfl W.multiply.m W.multiply.k W.multiply.b .nil pass0 (pa_cons (pe_tup (pa_cons (pv 1) (pa_cons pe_int pa_nil))) (pa_cons (pe_ix ix_tup (pv 2) pe_int (fun _ _ => rfl)) pa_nil))) pa_nil))))), ?_⟩
    have qa := Sq.int (d := 0) sa
    have qb := Sq.int (d := 0) sb
    exact ret_go (ev_call (ea_cons (ev_call (ea_cons (ev_mkInt (ev_v rfl) ev_c) (ea_cons (ev_p0 (ev_var rfl hp)) ea_nil)) fun vs H1 _ f => ⟨_, _, f, qa.mono (by omega) (by omega), sp.1.mono (by omega) (by omega), rfl⟩)
      (ea_cons (ev_call (ea_cons (ev_mkInt (ev_v rfl) ev_c) (ea_cons (ev_p1 (ev_var rfl hp)) ea_nil)) fun vs H1 _ f => ⟨_, _, f, qb.mono (by omega) (by omega), sp.2.mono (by omega) (by omega), rfl⟩) ea_nil)) fun vs H1 _ f => ⟨_, _, f, (qa.mul sp.1).mono (by omega) (by omega), (qb.mul sp.2).mono (by omega) (by omega), rfl⟩) k
def rKeeps (K : PySem.W.Frag) : List V → Hp → P1 → Prop := fun vs H P => ∃ (n : Nat) (rs : List Row) (p : Pt), Fits [IsRows K rs, IsPt K p] vs H ∧ RsSz n rs ∧ PSz n p ∧ 4 * n + 8 ≤ LL ∧ rs.length < sizeLine ∧ P = IsB (keepsPt rs p)
theorem sc_keeps : FnScope ["rows", "point", "a", "b", "c"] ["rows", "point"] (defScope s_keeps) := ⟨rfl, rfl, rfl, by decide +kernel, rfl, by decide +kernel, by decide +kernel⟩
theorem ok_keeps (S : Sr P base) (W : Wd K mg) : FnOk P w K mg base CX0 44 W.keeps.f W.keeps.fd ["rows", "point"] (SpF (rKeeps K)) := by
  refine W.keeps.F.ok sc_keeps (fun vs H Q E h => ?_) (fun cdv A outer s H vs Q E hr h => ?_)
  · obtain ⟨P1, ⟨n, rs, p, f, _⟩, _⟩ := h
    exact f.len
  · obtain ⟨P1, ⟨n, rs, p, f, hz, sp, hn, hlen, rfl⟩, k⟩ := h
    obtain ⟨v0, v1, rfl, hrs, hp⟩ := f.two
    have hLL : LL = 33554432 := rfl
    refine ⟨_, (pss_one (ps_ret (pe_callB (cr_all rfl) (by rfl) W.n_all (by decide +kernel) (pa_cons (pe_lc (own := [("a", 2), ("b", 3), ("c", 4)]) rfl sc_keeps.nd (pi_list (pv 0)) (blkOk_by (N := ["rows", "point", "a", "b", "c"]) (sc := defScope s_keeps) (by decide +kernel)) (fun _ _ _ _ _ => (pg_tupK (K := K) (n := 3) rfl rfl (pgs_cons (pg_name (i := 2) sc_keeps.nd rfl (.inl rfl)) (pgs_cons (pg_name (i := 3) sc_keeps.nd rfl (.inl rfl)) (pgs_cons (pg_name (i := 4) sc_keeps.nd rfl (.inl rfl)) pgs_nil))))) (fun _ _ _ _ _ => pts_nil) (fun _ _ _ _ _ => (pe_not (pe_call (ok_is_less S W) (hr.mono (by decide)) rfl W.is_less.m W.is_less.k W.is_less.b .nil pass0 (pa_cons (pv 4) (pa_cons (pe_call (ok_sum_of S W) (hr.mono (by decide)) rfl W.sum_of.m W.sum_of.k W.sum_of.b .nil pass0 (pa_cons (pv 2) (pa_cons (pv 3) (pa_cons (pv 1) pa_nil)))) pa_nil)))))) pa_nil)))), ?_⟩
    have e : keepsPt rs p = (rs.map fun r => !decide (r.c < r.at p)).all id := by unfold keepsPt; rw [List.all_map]; rfl
    rw [e] at k
    refine ret_go (ev_all (Ev.imp (comp_list (K := K) (g := gRow K 2 3 4) (S := IsRow K) (R := IsB) (ds := rs) (fun r => some (!decide (r.c < r.at p))) (ev_var rfl hrs) hlen (fun _ _ _ _ _ h q => tg_row_mono h q) fun d x H3 hd hx e3 => row_tg hx fun c hc => ⟨rfl, rfl, et_yes, ?_⟩) fun v H1 _ h => ?_)) k
    · have zd := hz d hd
      have s1 := ((Sq.int (d := 0) zd.1).mul sp.1).add ((Sq.int (d := 0) zd.2.1).mul sp.2)
      exact ev_not (ev_call (ea_cons (ev_var rfl hc) (ea_cons (ev_call (ea_cons (ev_v rfl) (ea_cons (ev_v rfl) (ea_cons (ev_var rfl (Mo.mo e3 hp)) ea_nil))) fun vs H1 _ f => ⟨n, _, _, _, f, zd.1, zd.2.1, sp, by omega, rfl⟩) ea_nil)) fun vs H1 _ f => ⟨_, _, f, zd.2.2.mono (by omega) (by omega), s1.mono (by omega) (by omega), rfl⟩)
    · rw [filterMap_some] at h; exact h
def rCorners (K : PySem.W.Frag) : List V → Hp → P1 → Prop := fun vs H P => ∃ (n : Nat) (rs : List Row), Fits [IsRows K rs] vs H ∧ RsSz n rs ∧ 40 * n + 40 ≤ LL ∧ rs.length * rs.length + rs.length + 10 < sizeLine ∧ P = NewF H (IsPt K) (cornersOf rs)
theorem sc_corners_of : FnScope ["rows", "found", "at", "p", "q", "c", "u", "v", "d", "turn", "x", "y"] ["rows"] (defScope s_corners_of) := ⟨rfl, rfl, rfl, by decide +kernel, rfl, by decide +kernel, by decide +kernel⟩
theorem ok_corners_of (S : Sr P base) (W : Wd K mg) : FnOk P w K mg base CX0 45 W.corners_of.f W.corners_of.fd ["rows"] (SpF (rCorners K)) := by
  refine W.corners_of.F.ok sc_corners_of (fun vs H Q E h => ?_) (fun cdv A outer s H vs Q E hr h => ?_)
  · obtain ⟨P1, ⟨n, rs, f, _⟩, _⟩ := h
    exact f.len
  · obtain ⟨P1, ⟨n, rs, f, hz, hn, hlen, rfl⟩, k⟩ := h
    obtain ⟨v0, rfl, l, ws, rfl, hw, hall⟩ := f.one
    have hLL : LL = 33554432 := rfl
    refine ⟨_, (pss_cons (ps_set (i := 1) sc_corners_of.nd rfl (.inl rfl) (pe_lst pa_nil))
        (pss_cons (ps_for PassesOwn.never rfl (pi_enum (by rfl) W.n_enumerate (pa_cons (pv 0) pa_nil)) (pg_tup rfl (pgs_cons (pg_name (i := 2) sc_corners_of.nd rfl (.inl rfl)) (pgs_cons (pg_tup rfl (pgs_cons (pg_name (i := 3) sc_corners_of.nd rfl (.inl rfl)) (pgs_cons (pg_name (i := 4) sc_corners_of.nd rfl (.inl rfl)) (pgs_cons (pg_name (i := 5) sc_corners_of.nd rfl (.inl rfl)) pgs_nil)))) pgs_nil))) (pss_one (ps_for PassesOwn.never rfl (pi_list (pe_slice sl_list (pv 0) po_none (po_some (pv 2)))) (pg_tup rfl (pgs_cons (pg_name (i := 6) sc_corners_of.nd rfl (.inl rfl)) (pgs_cons (pg_name (i := 7) sc_corners_of.nd rfl (.inl rfl)) (pgs_cons (pg_name (i := 8) sc_corners_of.nd rfl (.inl rfl)) pgs_nil)))) (pss_cons (ps_set (i := 9) sc_corners_of.nd rfl (.inl rfl) (pe_op op_sub (pe_op op_mulG (pv 3) (pv 7)) (pe_op op_mulG (pv 4) (pv 6))))
        (pss_one (ps_if (pt_cmpR op_ne (pv 9) pe_int (nomark _)) (pss_cons (ps_set (i := 10) sc_corners_of.nd rfl (.inl rfl) (pe_call (ok_divide S W) (hr.mono (by decide)) rfl W.divide.m W.divide.k W.divide.b .nil pass0 (pa_cons (pe_call (ok_subtract S W) (hr.mono (by decide)) rfl W.subtract.m W.subtract.k W.subtract.b .nil pass0 (pa_cons (pe_call (ok_multiply S W) (hr.mono (by decide)) rfl W.multiply.m W.multiply.k W.multiply.b .nil pass0 (pa_cons (pe_tup (pa_cons (pv 7) (pa_cons pe_int pa_nil))) (pa_cons (pv 5) pa_nil))) (pa_cons (pe_call (ok_multiply S W) (hr.mono (by decide)) rfl W.multiply.m W.multiply.k W.multiply.b .nil pass0 (pa_cons (pe_tup (pa_cons (pv 4) (pa_cons pe_int pa_nil))) (pa_cons (pv 8) pa_nil))) pa_nil))) (pa_cons (pe_tup (pa_cons (pv 9) (pa_cons pe_int pa_nil))) pa_nil))))
        (pss_cons (ps_set (i := 11) sc_corners_of.nd rfl (.inl rfl) (pe_call (ok_divide S W) (hr.mono (by decide)) rfl W.divide.m W.divide.k W.divide.b .nil pass0 (pa_cons (pe_call (ok_subtract S W) (hr.mono (by decide)) rfl W.subtract.m W.subtract.k W.subtract.b .nil pass0 (pa_cons (pe_call (ok_multiply S W) (hr.mono (by decide)) rfl W.multiply.m W.multiply.k W.multiply.b .nil pass0 (pa_cons (pe_tup (pa_cons (pv 3) (pa_cons pe_int pa_nil))) (pa_cons (pv 8) pa_nil))) (pa_cons (pe_call (ok_multiply S W) (hr.mono (by decide)) rfl W.multiply.m W.multiply.k W.multiply.b .nil pass0 (pa_cons (pe_tup (pa_cons (pv 6) (pa_cons pe_int pa_nil))) (pa_cons (pv 5) pa_nil))) pa_nil))) (pa_cons (pe_tup (pa_cons (pv 9) (pa_cons pe_int pa_nil))) pa_nil))))
        (pss_one (ps_if (PW.pt (pw_and (pt_val (pe_call (ok_keeps S W) (hr.mono (by decide)) rfl W.keeps.m W.keeps.k W.keeps.b .nil pass0 (pa_cons (pv 0) (pa_cons (pe_tup (pa_cons (pv 10) (pa_cons (pv 11) pa_nil))) pa_nil)))) (pw_and1 (pt_cmpR (op_notInD hr.units65) (pe_tup (pa_cons (pv 10) (pa_cons (pv 11) pa_nil))) (pv 1) (by with_unfolding_all rfl))))) (pss_one (ps_expr (pe_bm PySem.F.plainAttrs_list PySem.F.slot_list_append PySem.F.type_list_append mt_append (pv 1) (pa_cons (pe_tup (pa_cons (pv 10) (pa_cons (pv 11) pa_nil))) pa_nil)))) pss_nil)))) pss_nil))))))
        (pss_one (ps_ret (pe_call (ok_by_place S W) (hr.mono (by decide)) rfl W.by_place.m W.by_place.k W.by_place.b .nil pass0 (pa_cons (pv 1) pa_nil)))))), ?_⟩
    refine seq_go (newlist_go fun p np' => ?_)
    have s1 : Same H (upd H p (.lst [])) := same_new np'
    refine seq_go (enumv_go (xs := ws) (a := l) (ev_v rfl) (s1.seq hw) fun H2 s2 => ?_)
    have e2 : Same H H2 := s1.trans s2
    have hp2 : H2 p = some (.lst []) := s2 _ _ upd_same
    have hmul : ∀ i, i < rs.length → i * rs.length + rs.length ≤ rs.length * rs.length := fun i hi => by
      have : (i + 1) * rs.length ≤ rs.length * rs.length := Nat.mul_le_mul_right _ hi
      rw [Nat.succ_mul] at this; exact this
    refine ⟨fun i σ H' => ∃ x2 x3 x4 x5 x6 x7 x8 x9 x10 x11 vs L, σ = [some (.ref l), some (.ref p), x2, x3, x4, x5, x6, x7, x8, x9, x10, x11] ∧ Same H H' ∧ H' p = some (.lst vs) ∧ All2 (IsPt K) vs L H' ∧ cornersFrom rs [] [] rs = cornersFrom rs (rs.take i) L (rs.drop i) ∧ L.length ≤ i * rs.length,
      ⟨_, _, _, _, _, _, _, _, _, _, [], [], rfl, e2, hp2, All2.nil, rfl, Nat.zero_le _⟩, fun i σ H3 _ q => ?_, fun i x σ H3 v H4 hi q hy => ?_, fun σ H3 q => ?_⟩
    · obtain ⟨x2, x3, x4, x5, x6, x7, x8, x9, x10, x11, vs, L, rfl, e3, _⟩ := q
      exact e3.seq hw
    · obtain ⟨x2, x3, x4, x5, x6, x7, x8, x9, x10, x11, vs, L, rfl, e3, hp3, hall3, hk, hLl⟩ := q
      obtain ⟨T, rfl, hT, rfl⟩ := hy
      obtain ⟨r, hri, hrow⟩ := hall.2 i x hi
      have hmem : r ∈ rs := List.mem_of_getElem? hri
      have zr := hz r hmem
      have hil : i < ws.length := (List.getElem?_eq_some_iff.mp hi).1
      have hil' : i < rs.length := by rw [← hall.1]; exact hil
      have hm := hmul i hil'
      have hdrop : rs.drop i = r :: rs.drop (i + 1) := by
        obtain ⟨h1, h2⟩ := List.getElem?_eq_some_iff.mp hri
        rw [List.drop_eq_getElem_cons h1, h2]
      have htk : rs.take (i + 1) = rs.take i ++ [r] := by rw [List.take_add_one, hri]; rfl
      rw [hdrop, cornersFrom, ← htk] at hk
      have s4 : Same H3 (upd H3 T (.tup [.int (i : Nat), x])) := same_new hT
      refine ⟨T, _, rfl, .of upd_same, rfl, _, _, rfl, _, _, rfl, row_tg (Mo.mo (e3.trans s4) hrow) fun c hc => ⟨rfl, ?_⟩⟩
      have hp4 := s4 _ _ hp3
      have hall4 := hall3.mo s4
      have e4 := e3.trans s4
      generalize upd H3 T (.tup [.int (i : Nat), x]) = H4 at *
      refine list_goF (ev_slice (R := IsRow K) (ds := rs) (ev_v rfl) (e4.seq hw) (hall.mo e4) (ev_v rfl) (by omega)) fun l6 ws6 H6 s6 hw6 hall6 hfr => ?_
      have e6 := e4.trans s6
      have hp6 := s6 _ _ hp4
      have hlp : l6 ≠ p := fun z => by rw [z, hp4] at hfr; cases hfr
      have hN : (rs.take i).length = i := by rw [List.length_take]; omega
      refine ⟨fun j σ H' => ∃ y6 y7 y8 y9 y10 y11 vs' L', σ = [some (.ref l), some (.ref p), some (.int (i : Nat)), some (.int r.a), some (.int r.b), some c, y6, y7, y8, y9, y10, y11] ∧ Same H H' ∧ H' p = some (.lst vs') ∧ All2 (IsPt K) vs' L' H' ∧ H' l6 = some (.lst ws6) ∧ Te K H6 H' ∧ L' = ((rs.take i).take j).foldl (cornerStep rs r) L ∧ L'.length ≤ L.length + j,
        ⟨_, _, _, _, _, _, vs, L, rfl, e6, hp6, hall4.mo s6, hw6, Te.refl, rfl, Nat.le_refl _⟩, fun j σ H7 _ q => ?_, fun j x' σ H7 v H8 hj q hy => ?_, fun σ H7 q => ?_⟩
      · obtain ⟨y6, y7, y8, y9, y10, y11, vs', L', rfl, e7, hp7, hall7, hl7, _⟩ := q
        exact .of hl7
      · obtain ⟨y6, y7, y8, y9, y10, y11, vs', L', rfl, e7, hp7, hall7, hl7, t7, hL', hLl'⟩ := q
        obtain ⟨rfl, rfl⟩ := hy
        obtain ⟨s', hsj, hsrow⟩ := hall6.2 j v hj
        have hj' : j < i := by have := (List.getElem?_eq_some_iff.mp hj).1; have := hall6.1; omega
        have hmem' : s' ∈ rs := List.mem_of_mem_take (List.mem_of_getElem? hsj)
        have zs := hz s' hmem'
        have hv8 : IsRow K s' v H8 := Mt.mt (K := K) t7 hsrow
        have hc8 : IsQ K r.c c H8 := Mt.mt (K := K) t7 (Mo.mo s6 hc)
        have hsl : vs'.length < sizeLine := by have := hall7.1; omega
        refine row_tg hv8 fun d hd => ?_
        have fin : ∀ H9 z6 z7 z8 z9 z10 z11 vs2 L2, Same H H9 → H9 p = some (.lst vs2) → All2 (IsPt K) vs2 L2 H9 → H9 l6 = some (.lst ws6) → Te K H6 H9 → L2 = cornerStep rs r L' s' → ∃ y6 y7 y8 y9 y10 y11 vs' L', [some (V.ref l), some (.ref p), some (.int (i : Nat)), some (.int r.a), some (.int r.b), some c, z6, z7, z8, z9, z10, z11] = [some (.ref l), some (.ref p), some (.int (i : Nat)), some (.int r.a), some (.int r.b), some c, y6, y7, y8, y9, y10, y11] ∧ Same H H9 ∧ H9 p = some (.lst vs') ∧ All2 (IsPt K) vs' L' H9 ∧ H9 l6 = some (.lst ws6) ∧ Te K H6 H9 ∧ L' = ((rs.take i).take (j + 1)).foldl (cornerStep rs r) L ∧ L'.length ≤ L.length + (j + 1) :=
          fun H9 z6 z7 z8 z9 z10 z11 vs2 L2 a1 a2 a3 a4 a5 a6 => ⟨_, _, _, _, _, _, vs2, L2, rfl, a1, a2, a3, a4, a5, by
            rw [List.take_add_one, hsj]
            show L2 = List.foldl (cornerStep rs r) L ((rs.take i).take j ++ [s'])
            rw [List.foldl_append, ← hL']; exact a6, by
            have : (cornerStep rs r L' s').length ≤ L'.length + 1 := by
              unfold cornerStep
              split
              · split
                · simp
                · omega
              · omega
            rw [a6]; omega⟩
        refine seq_go (set_go (ev_i0 (ev_i (ev_v rfl) (ev_v rfl) (mulG zr.1 zs.2.1 (by omega))) (ev_i (ev_v rfl) (ev_v rfl) (mulG zr.2.1 zs.1 (by omega)))) fun v9 H9 s9 hv9 => ?_)
        cases hv9
        by_cases ht : turn r s' ≠ 0
        · refine if_go (et_neI (b := true) (ev_v rfl) ev_c (by rw [show (r.a * s'.b - r.b * s'.a) = turn r s' from rfl, decide_eq_false ht]; rfl)) (fun _ H10 s10 => ?_) fun z => nomatch z
          have s810 := s9.trans s10
          have co : ∀ {σ : L2.St} {H' : Hp} {E E2 E3 E4 : XK} {i1 i2 i3 i4 : Nat} {a b : Int} {c1 d1 : Rat} {vc vd : V}, σ[i1]? = some (some (.int a)) → σ[i2]? = some (some vc) → σ[i3]? = some (some (.int b)) → σ[i4]? = some (some vd) → σ[9]? = some (some (.int (turn r s'))) → IsQ K c1 vc H' → IsQ K d1 vd H' → Sz n a → Sz n b → Sq n n c1 → Sq n n d1 →
              Ev (tCall (SpF (rDivQ K)) [] E (tCons (tCall (SpF (rSubQ K)) [] E2 (tCons (tCall (SpF (rMulQ K)) [] E3 (tCons (tTup (tCons (tVar i1) (tCons (tC (.int 1)) tNil))) (tCons (tVar i2) tNil))) (tCons (tCall (SpF (rMulQ K)) [] E4 (tCons (tTup (tCons (tVar i3) (tCons (tC (.int 1)) tNil))) (tCons (tVar i4) tNil))) tNil))) (tCons (tTup (tCons (tVar 9) (tCons (tC (.int 1)) tNil))) tNil))) σ H' (IsQ K (((a : Rat) * c1 - (b : Rat) * d1) / ((turn r s' : Int) : Rat))) :=
            fun {σ H' E E2 E3 E4 i1 i2 i3 i4 a b c1 d1 vc vd} h1 h2 h3 h4 h5 hc1 hd1 za zb zc zd => by
              have m1 := (Sq.int (d := 0) za).mul zc
              have m2 := (Sq.int (d := 0) zb).mul zd
              have m3 := m1.sub m2
              have zT := Sq.int (d := 0) (turn_sz zr zs)
              exact ev_call (ea_cons (ev_call (ea_cons (ev_call (ea_cons (ev_mkInt (ev_v h1) ev_c) (ea_cons (ev_var h2 hc1) ea_nil)) fun vs H1 _ f => ⟨_, _, f, (Sq.int (d := 0) za).mono (by omega) (by omega), zc.mono (by omega) (by omega), rfl⟩)
                (ea_cons (ev_call (ea_cons (ev_mkInt (ev_v h3) ev_c) (ea_cons (ev_var h4 hd1) ea_nil)) fun vs H1 _ f => ⟨_, _, f, (Sq.int (d := 0) zb).mono (by omega) (by omega), zd.mono (by omega) (by omega), rfl⟩) ea_nil)) fun vs H1 _ f => ⟨_, _, f, m1.mono (by omega) (by omega), m2.mono (by omega) (by omega), rfl⟩)
                (ea_cons (ev_mkInt (ev_v h5) ev_c) ea_nil)) fun vs H1 _ f => ⟨_, _, f, m3.mono (by omega) (by omega), zT.mono (by omega) (by omega), ne_cast ht, rfl⟩
          have hc10 := Mo.mo s810 hc8
          have hd10 := Mo.mo s810 hd
          refine seq_go (set_go (co (i1 := 7) (i2 := 5) (i3 := 4) (i4 := 8) rfl rfl rfl rfl rfl hc10 hd10 zs.2.1 zr.2.1 zr.2.2 zs.2.2) fun v11 H11 s11 h11 => ?_)
          refine seq_go (set_go (co (i1 := 3) (i2 := 8) (i3 := 6) (i4 := 5) rfl rfl rfl rfl rfl (Mo.mo s11 hd10) (Mo.mo s11 hc10) zr.1 zs.1 zs.2.2 zr.2.2) fun v12 H12 s12 h12 => ?_)
          have s812 := s810.trans (s11.trans s12)
          have h11' : IsQ K (cornerPt r s').1 v11 H12 := Mo.mo s12 h11
          have h12' : IsQ K (cornerPt r s').2 v12 H12 := h12
          have e12 := e7.trans s812
          have hp12 := s812 _ _ hp7
          have pz := cornerPt_sz zr zs ht
          have mk : ∀ H', Same H12 H' → Ev (tTup (tCons (tVar 10) (tCons (tVar 11) tNil))) [some (V.ref l), some (.ref p), some (.int (i : Nat)), some (.int r.a), some (.int r.b), some c, some (.int s'.a), some (.int s'.b), some d, some (.int (turn r s')), some v11, some v12] H' (IsPt K (cornerPt r s')) := fun H' e => ev_mkPt (x := (cornerPt r s').1) (y := (cornerPt r s').2) (ev_var rfl (Mo.mo e h11')) (ev_var rfl (Mo.mo e h12'))
          refine if_go (b := keepsPt rs (cornerPt r s') && !decide (cornerPt r s' ∈ L')) (et_and (et_B (ev_call (ea_cons (ev_var (P := IsRows K rs) rfl ⟨l, ws, rfl, e12.seq hw, hall.mo e12⟩) (ea_cons (mk H12 (Same.refl H12)) ea_nil)) fun vs H1 _ f => ⟨4 * n + 1, _, _, f, hz.mono (by omega), pz, by omega, by omega, rfl⟩)) fun _ => et_val (ev_notInPt (mk H12 (Same.refl H12)) (ev_var (P := IsL K (IsPt K) L') rfl ⟨p, vs', rfl, .of hp12, hall7.mo s812⟩))) (fun hb H13 s13 => ?_) fun hb H13 s13 => nil_go ?_
          · have hb' : keepsPt rs (cornerPt r s') = true ∧ cornerPt r s' ∉ L' := by simpa using hb
            have s813 := s812.trans s13
            have hp13 := s813 _ _ hp7
            refine append_go rfl hp13 hsl (mk H13 s13) fun v14 H14 s14 h14 => ?_
            have s814 := s813.trans s14
            have hp14 := s14 _ _ hp13
            refine fin _ _ _ _ _ _ _ _ (L' ++ [cornerPt r s']) (same_mut (e7.trans s814) np') upd_same (All2.te (K := K) ((hall7.mo s814).snoc h14) (te_lst hp14)) (by rw [upd_ne hlp]; exact s814 _ _ hl7) (t7.trans (s814.te.trans (te_lst hp14))) ?_
            unfold cornerStep
            rw [if_pos ht, if_pos hb']
          · have hb' : ¬ (keepsPt rs (cornerPt r s') = true ∧ cornerPt r s' ∉ L') := by simpa using hb
            have s813 := s812.trans s13
            refine fin _ _ _ _ _ _ _ vs' L' (e7.trans s813) (s813 _ _ hp7) (hall7.mo s813) (s813 _ _ hl7) (t7.trans s813.te) ?_
            unfold cornerStep
            rw [if_pos ht, if_neg hb']
        · have ht0 : turn r s' = 0 := by simpa using ht
          refine if_go (et_neI (b := false) (ev_v rfl) ev_c (by rw [show (r.a * s'.b - r.b * s'.a) = turn r s' from rfl, ht0]; rfl)) (fun z => nomatch z) fun _ H10 s10 => nil_go ?_
          have s810 := s9.trans s10
          refine fin _ _ _ _ _ _ _ vs' L' (e7.trans s810) (s810 _ _ hp7) (hall7.mo s810) (s810 _ _ hl7) (t7.trans s810.te) ?_
          unfold cornerStep
          rw [if_neg ht]
      · obtain ⟨y6, y7, y8, y9, y10, y11, vs', L', rfl, e7, hp7, hall7, hl7, t7, hL', hLl'⟩ := q
        rw [hall6.1, List.take_length] at hL'
        refine ⟨_, _, _, _, _, _, _, _, _, _, vs', L', rfl, e7, hp7, hall7, by rw [hk, hL'], ?_⟩
        rw [hall6.1, hN] at hLl'
        rw [Nat.succ_mul]
        omega
    · obtain ⟨x2, x3, x4, x5, x6, x7, x8, x9, x10, x11, vs, L, rfl, e3, hp3, hall3, hk, hLl⟩ := q
      rw [hall.1, List.drop_length] at hk
      have hk' : cornersFrom rs [] [] rs = L := hk
      have hc : cornersOf rs = byPlace L := by unfold cornersOf; rw [hk']
      have zL : ∀ q ∈ L, PSz (4 * n + 1) q := fun q hq => by
        rw [← hk'] at hq
        exact cornersFrom_sz rs [] [] hz (fun r hr => nomatch hr) (fun p hp => nomatch hp) q hq
      refine ret_go (P := NewF H (IsPt K) (cornersOf rs)) (ev_callF (ea_cons (ev_var (P := IsL K (IsPt K) L) rfl ⟨p, vs, rfl, .of hp3, hall3⟩) ea_nil) fun vs1 H1 e1 f => ⟨_, ⟨4 * n + 1, L, f, zL, by omega, by rw [hall.1] at hLl; omega, rfl⟩, fun v H2 hv => by rw [hc]; exact NewF.back (e3.trans e1) hv⟩) fun v H4 e4 q => k v H4 (e3.trans e4) q
end
end Tk

set_option Elab.async false
set_option linter.all false
set_option maxRecDepth 100000
set_option maxHeartbeats 4000000
namespace Tk
open PySem L2 Ts
section
variable {P : Program} {w : World} {K : PySem.W.Frag} {mg : Str → Option Value} {base : Heap}

theorem addDir_go {σ : L2.St} {H H0 : Hp} {te : TE} {i : Nat} {p : Addr} {vs : List V} {L : List Dir} {d : Dir} {nx bk ct : L2.St → Hp → Prop} {rt : VK} (hi : σ[i]? = some (some (.ref p))) (hp : H p = some (.lst vs)) (hall : All2 (IsDir K) vs L H) (hl : L.length < sizeLine)
    (hd : ∀ H1, Same H H1 → Ev te σ H1 (IsDir K d)) (k : ∀ H1 vs', (Same H0 H → H0 p = none → Same H0 H1) → (∀ a o, a ≠ p → H a = some o → H1 a = some o) → Te K H H1 → H1 p = some (.lst vs') → All2 (IsDir K) vs' (addDir L d) H1 → nx σ H1) :
    tIfS (tTest (tOp (rNotInD K) te (tVar i))) (tDrop (tBM K "list" rAppend (tVar i) (tCons te tNil))) tNext ⟨nx, rt, bk, ct⟩ σ H := by
  refine if_go (et_val (ev_notInDir (hd H (Same.refl H)) (ev_var (P := IsL K (IsDir K) L) hi ⟨p, vs, rfl, .of hp, hall⟩))) (fun hb H1 e1 => ?_) fun hb H1 e1 => nil_go ?_
  · have hb' : d ∉ L := by simpa using hb
    have ha : addDir L d = L ++ [d] := if_neg hb'
    rw [ha] at k
    refine append_go hi (e1 _ _ hp) (by rw [hall.1]; exact hl) (hd H1 e1) fun v H2 e2 hv => ?_
    have e12 := e1.trans e2
    refine k _ _ (fun z hz => same_mut (z.trans e12) hz) (fun a o hne h => by rw [upd_ne hne]; exact e12 _ _ h) (e12.te.trans (te_lst (e12 _ _ hp))) upd_same (All2.te (K := K) ((hall.mo e12).snoc hv) (te_lst (e12 _ _ hp)))
  · have hb' : d ∈ L := by simpa using hb
    have ha : addDir L d = L := if_pos hb'
    rw [ha] at k
    exact k H1 vs (fun z _ => z.trans e1) (fun a o _ h => e1 _ _ h) e1.te (e1 _ _ hp) (hall.mo e1)
def rDirs (K : PySem.W.Frag) : List V → Hp → P1 → Prop := fun vs H P => ∃ (n : Nat) (A B : List Row), Fits [IsRows K A, IsRows K B] vs H ∧ RsSz n A ∧ RsSz n B ∧ 40 * n + 40 ≤ LL ∧ A.length * A.length + A.length + 10 < sizeLine ∧ B.length * B.length + B.length + 10 < sizeLine ∧ A.length + B.length + 2 * (cornersOf B).length * (cornersOf A).length + 10 < sizeLine ∧ P = NewF H (IsDir K) (directionsOf A B)
theorem sc_directions_of : FnScope ["one", "other", "found", "rows", "a", "b", "c", "p", "q", "across", "up", "part", "way"] ["one", "other"] (defScope s_directions_of) := ⟨rfl, rfl, rfl, by decide +kernel, rfl, by decide +kernel, by decide +kernel⟩
theorem ok_directions_of (S : Sr P base) (W : Wd K mg) : FnOk P w K mg base CX0 46 W.directions_of.f W.directions_of.fd ["one", "other"] (SpF (rDirs K)) := by
  refine W.directions_of.F.ok sc_directions_of (fun vs H Q E h => ?_) (fun cdv A outer s H vs Q E hr h => ?_)
  · obtain ⟨P1, ⟨n, A, B, f, _⟩, _⟩ := h
    exact f.len
  · obtain ⟨P1, ⟨n, A, B, f, zA, zB, hn, hlA, hlB, hlen, rfl⟩, k⟩ := h
    obtain ⟨v0, v1, rfl, hA, hB⟩ := f.two
    obtain ⟨lA, wsA, rfl, hwA, hallA⟩ := hA
    obtain ⟨lB, wsB, rfl, hwB, hallB⟩ := hB
    have hLL : LL = 33554432 := rfl
    refine ⟨_, (pss_cons (ps_set (i := 2) sc_directions_of.nd rfl (.inl rfl) (pe_lst pa_nil))
        (pss_cons (ps_for PassesOwn.never rfl (pi_tup (pe_tup (pa_cons (pv 0) (pa_cons (pv 1) pa_nil)))) (pg_name (i := 3) sc_directions_of.nd rfl (.inl rfl)) (pss_one (ps_for PassesOwn.never rfl (pi_list (pv 3)) (pg_tup rfl (pgs_cons (pg_name (i := 4) sc_directions_of.nd rfl (.inl rfl)) (pgs_cons (pg_name (i := 5) sc_directions_of.nd rfl (.inl rfl)) (pgs_cons (pg_name (i := 6) sc_directions_of.nd rfl (.inl rfl)) pgs_nil)))) (pss_one (ps_if (pt_cmpR (op_notInD hr.units65) (pe_tup (pa_cons (pv 4) (pa_cons (pv 5) pa_nil))) (pv 2) (by with_unfolding_all rfl)) (pss_one (ps_expr (pe_bm PySem.F.plainAttrs_list PySem.F.slot_list_append PySem.F.type_list_append mt_append (pv 2) (pa_cons (pe_tup (pa_cons (pv 4) (pa_cons (pv 5) pa_nil))) pa_nil)))) pss_nil)))))
        (pss_cons (ps_for PassesOwn.never rfl (pi_list (pe_call (ok_corners_of S W) (hr.mono (by decide)) rfl W.corners_of.m W.corners_of.k W.corners_of.b .nil pass0 (pa_cons (pv 0) pa_nil))) (pg_name (i := 7) sc_directions_of.nd rfl (.inl rfl)) (pss_one (ps_for PassesOwn.never rfl (pi_list (pe_call (ok_corners_of S W) (hr.mono (by decide)) rfl W.corners_of.m W.corners_of.k W.corners_of.b .nil pass0 (pa_cons (pv 1) pa_nil))) (pg_name (i := 8) sc_directions_of.nd rfl (.inl rfl)) (pss_cons (ps_par (i := 9) (j := 10) rfl sc_directions_of.nd rfl rfl (by decide) rfl rfl (pa_cons (pe_call (ok_subtract S W) (hr.mono (by decide)) rfl W.subtract.m W.subtract.k W.subtract.b .nil pass0 (pa_cons (pe_ix ix_tup (pv 8) pe_int (fun _ _ => rfl)) (pa_cons (pe_ix ix_tup (pv 7) pe_int (fun _ _ => rfl)) pa_nil))) (pa_cons (pe_call (ok_subtract S W) (hr.mono (by decide)) rfl W.subtract.m W.subtract.k W.subtract.b .nil pass0 (pa_cons (pe_ix ix_tup (pv 8) pe_int (fun _ _ => rfl)) (pa_cons (pe_ix ix_tup (pv 7) pe_int (fun _ _ => rfl)) pa_nil))) pa_nil)) (by rfl))
        (pss_cons (ps_par (i := 4) (j := 5) rfl sc_directions_of.nd rfl rfl (by decide) rfl rfl (pa_cons (pe_op op_mulG (pe_ix ix_tup (pv 10) pe_int (fun _ _ => rfl)) (pe_ix ix_tup (pv 9) pe_int (fun _ _ => rfl))) (pa_cons (pe_op op_mulG (pe_un un_neg (pe_ix ix_tup (pv 9) pe_int (fun _ _ => rfl))) (pe_ix ix_tup (pv 10) pe_int (fun _ _ => rfl))) pa_nil)) (by rfl))
        (pss_one (ps_if (PW.pt (pw_or (pt_cmpR op_ne (pv 4) pe_int (nomark _)) (pw_or1 (pt_cmpR op_ne (pv 5) pe_int (nomark _))))) (pss_cons (ps_set (i := 11) sc_directions_of.nd rfl (.inl rfl) (pe_call (ok_divisor S W) (hr.mono (by decide)) rfl W.divisor.m W.divisor.k W.divisor.b .nil pass0 (pa_cons (pv 4) (pa_cons (pv 5) pa_nil))))
        (pss_one (ps_for PassesOwn.never rfl (pi_tup (pe_tup (pa_cons (pe_tup (pa_cons (pe_op (op_fdivG ⟨S.seer, S.tree, room_pyl hr (by decide), rfl, rfl, rfl⟩) (pv 4) (pv 11)) (pa_cons (pe_op (op_fdivG ⟨S.seer, S.tree, room_pyl hr (by decide), rfl, rfl, rfl⟩) (pv 5) (pv 11)) pa_nil))) (pa_cons (pe_tup (pa_cons (pe_op (op_fdivG ⟨S.seer, S.tree, room_pyl hr (by decide), rfl, rfl, rfl⟩) (pe_un un_neg (pv 4)) (pv 11)) (pa_cons (pe_op (op_fdivG ⟨S.seer, S.tree, room_pyl hr (by decide), rfl, rfl, rfl⟩) (pe_un un_neg (pv 5)) (pv 11)) pa_nil))) pa_nil)))) (pg_name (i := 12) sc_directions_of.nd rfl (.inl rfl)) (pss_one (ps_if (pt_cmpR (op_notInD hr.units65) (pv 12) (pv 2) (by with_unfolding_all rfl)) (pss_one (ps_expr (pe_bm PySem.F.plainAttrs_list PySem.F.slot_list_append PySem.F.type_list_append mt_append (pv 2) (pa_cons (pv 12) pa_nil)))) pss_nil))))) pss_nil)))))))
        (pss_one (ps_ret (pv 2)))))), ?_⟩
    refine seq_go (newlist_go fun p np' => ?_)
    have s1 : Same H (upd H p (.lst [])) := same_new np'
    -- rows' directions
    have hA' : ∀ H', Same H H' → IsRows K A (.ref lA) H' := fun H' e => ⟨lA, wsA, rfl, e.seq hwA, hallA.mo e⟩
    have hB' : ∀ H', Same H H' → IsRows K B (.ref lB) H' := fun H' e => ⟨lB, wsB, rfl, e.seq hwB, hallB.mo e⟩
    have len0 := directions_len A B
    refine seq_go (tuple_goN (R := fun x : V × List Row => fun v H' => v = x.1) (ds := [(.ref lA, A), (.ref lB, B)]) (ev_tup (ea_cons (ev_v rfl) (ea_cons (ev_v rfl) ea_nil)) (by show 2 ≤ 1000; decide) fun vs q H1 f nq => ?_) fun t ws2 H2 s2 hw2 hall2 => ?_)
    · obtain ⟨a, b, rfl, rfl, rfl⟩ := f.two
      exact ⟨q, _, rfl, .of upd_same, All2.cons rfl (All2.cons rfl All2.nil)⟩
    have e2 : Same H H2 := s1.trans s2
    have hp2 : H2 p = some (.lst []) := s2 _ _ upd_same
    refine ⟨fun i σ H' => ∃ x3 x4 x5 x6 x7 x8 x9 x10 x11 x12 vs, σ = [some (.ref lA), some (.ref lB), some (.ref p), x3, x4, x5, x6, x7, x8, x9, x10, x11, x12] ∧ Same H H' ∧ Te K H2 H' ∧ H' p = some (.lst vs) ∧ All2 (IsDir K) vs (([A, B].take i).foldl rowDirs []) H',
      ⟨_, _, _, _, _, _, _, _, _, _, _, rfl, e2, Te.refl, hp2, All2.nil⟩, fun i σ H3 _ q => ?_, fun i x σ H3 v H4 hi q hy => ?_, fun σ H3 q => ?_⟩
    · obtain ⟨x3, x4, x5, x6, x7, x8, x9, x10, x11, x12, vs, rfl, e3, t3, _⟩ := q
      exact t3 _ _ hw2
    · obtain ⟨x3, x4, x5, x6, x7, x8, x9, x10, x11, x12, vs, rfl, e3, t3, hp3, hall3⟩ := q
      obtain ⟨rfl, rfl⟩ := hy
      obtain ⟨d, hd1, hd2⟩ := hall2.2 i v hi
      -- which list
      have pick : ∃ (l : Addr) (ws : List V) (R : List Row), v = .ref l ∧ SqL K H l ws ∧ All2 (IsRow K) ws R H ∧ RsSz n R ∧ [A, B].take (i + 1) = [A, B].take i ++ [R] ∧ (([A, B].take i).foldl rowDirs []).length + R.length ≤ A.length + B.length := by
        match i, hd1 with
        | 0, hd1 =>
          cases hd1
          exact ⟨lA, wsA, A, hd2, hwA, hallA, zA, rfl, by simp⟩
        | 1, hd1 =>
          cases hd1
          refine ⟨lB, wsB, B, hd2, hwB, hallB, zB, rfl, ?_⟩
          have := rowDirs_len A []
          show (rowDirs [] A).length + B.length ≤ _
          simp at this; omega
      obtain ⟨l, ws, R, rfl, hw, hall, zR, htk, hRl⟩ := pick
      generalize hL0 : ([A, B].take i).foldl rowDirs [] = L0 at hall3
      rw [hL0] at hRl
      refine listv_go (xs := ws) (a := l) (ev_v rfl) (e3.seq hw) fun H5 e5 => ?_
      have e35 := e3.trans e5
      refine ⟨fun j σ H' => ∃ x4 x5 x6 vs, σ = [some (.ref lA), some (.ref lB), some (.ref p), some (.ref l), x4, x5, x6, x7, x8, x9, x10, x11, x12] ∧ Same H H' ∧ Te K H2 H' ∧ H' p = some (.lst vs) ∧ All2 (IsDir K) vs (rowDirs L0 (R.take j)) H',
        ⟨_, _, _, _, rfl, e35, t3.trans e5.te, e5 _ _ hp3, hall3.mo e5⟩, fun j σ H6 _ q => ?_, fun j x' σ H6 v H7 hj q hy => ?_, fun σ H6 q => ?_⟩
      · obtain ⟨y4, y5, y6, vs', rfl, e6, _⟩ := q
        exact e6.seq hw
      · obtain ⟨y4, y5, y6, vs', rfl, e6, t6, hp6, hall6⟩ := q
        obtain ⟨rfl, rfl⟩ := hy
        obtain ⟨r, hrj, hrow⟩ := hall.2 j v hj
        refine row_tg (Mo.mo e6 hrow) fun c hc => ?_
        have hl6 := rowDirs_len (R.take j) L0
        refine addDir_go (H0 := H) (d := (r.a, r.b)) rfl hp6 hall6 (by simp at hl6; omega) (fun H8 e8 => ev_mkDir (ev_v rfl) (ev_v rfl)) fun H8 vs8 a1 a2 a3 a4 a5 => ?_
        refine ⟨_, _, _, vs8, rfl, a1 e6 np', t6.trans a3, a4, ?_⟩
        have : R.take (j + 1) = R.take j ++ [r] := by rw [List.take_add_one, hrj]; rfl
        rw [this]
        unfold rowDirs at *
        rw [List.foldl_append]
        exact a5
      · obtain ⟨y4, y5, y6, vs', rfl, e6, t6, hp6, hall6⟩ := q
        refine ⟨_, _, _, _, _, _, _, _, _, _, vs', rfl, e6, t6, hp6, ?_⟩
        rw [hall.1, List.take_length] at hall6
        rw [htk, List.foldl_append, hL0]
        exact hall6
    · obtain ⟨x3, x4, x5, x6, x7, x8, x9, x10, x11, x12, vs, rfl, e3, t3, hp3, hall3⟩ := q
      have hl2 : ws2.length = 2 := hall2.1
      rw [hl2] at hall3
      have hall3' : All2 (IsDir K) vs (rowDirs (rowDirs [] A) B) H3 := hall3
      have zcA := corners_sz zA
      have zcB := corners_sz zB
      -- corners against corners
      refine seq_go (list_goF (R := IsPt K) (ds := cornersOf A) (ev_callF (ea_cons (ev_var (P := IsRows K A) rfl (hA' _ e3)) ea_nil) fun vs1 H1 e1 f => ⟨_, ⟨n, A, f, zA, by omega, hlA, rfl⟩, fun v H2 hv => NewF.back e1 hv⟩) fun cA wA H4 s4 hcA hallcA hfA => ?_)
      have e4 := e3.trans s4
      have hAp : cA ≠ p := fun z => by rw [z, hp3] at hfA; cases hfA
      refine ⟨fun i σ H' => ∃ x3 x4 x5 x6 x7 x8 x9 x10 x11 x12 vs, σ = [some (.ref lA), some (.ref lB), some (.ref p), x3, x4, x5, x6, x7, x8, x9, x10, x11, x12] ∧ Same H H' ∧ Te K H4 H' ∧ H' cA = some (.lst wA) ∧ H' p = some (.lst vs) ∧ All2 (IsDir K) vs (cornerDirs (rowDirs (rowDirs [] A) B) ((cornersOf A).take i) (cornersOf B)) H',
        ⟨_, _, _, _, _, _, _, _, _, _, vs, rfl, e4, Te.refl, hcA, s4 _ _ hp3, hall3'.mo s4⟩, fun i σ H5 _ q => ?_, fun i x σ H5 v H6 hi q hy => ?_, fun σ H5 q => ?_⟩
      · obtain ⟨x3, x4, x5, x6, x7, x8, x9, x10, x11, x12, vs, rfl, e5, t5, hc5, _⟩ := q
        exact .of hc5
      · obtain ⟨x3, x4, x5, x6, x7, x8, x9, x10, x11, x12, vs, rfl, e5, t5, hc5, hp5, hall5⟩ := q
        obtain ⟨rfl, rfl⟩ := hy
        obtain ⟨pt, hpi, hpt⟩ := hallcA.2 i v hi
        have hpt5 : IsPt K pt v H6 := Mt.mt (K := K) t5 hpt
        have hiA : i < (cornersOf A).length := by rw [← hallcA.1]; exact (List.getElem?_eq_some_iff.mp hi).1
        have zpt := zcA pt (List.mem_of_getElem? hpi)
        have htk : (cornersOf A).take (i + 1) = (cornersOf A).take i ++ [pt] := by rw [List.take_add_one, hpi]; rfl
        generalize hL0 : cornerDirs (rowDirs (rowDirs [] A) B) ((cornersOf A).take i) (cornersOf B) = L0 at hall5
        have hL0len : L0.length + 2 * (cornersOf B).length ≤ A.length + B.length + 2 * (cornersOf B).length * (cornersOf A).length := by
          have h1 := cornerDirs_len (qs := cornersOf B) ((cornersOf A).take i) (rowDirs (rowDirs [] A) B)
          have h2 := rowDirs_len B (rowDirs [] A)
          have h3 := rowDirs_len A []
          rw [hL0] at h1
          simp only [List.length_take] at h1
          simp at h3
          have h4 : min i (cornersOf A).length = i := by omega
          rw [h4] at h1
          have h5 : 2 * (cornersOf B).length * (i + 1) ≤ 2 * (cornersOf B).length * (cornersOf A).length := Nat.mul_le_mul_left _ hiA
          rw [Nat.mul_succ] at h5
          omega
        refine list_goF (R := IsPt K) (ds := cornersOf B) (ev_callF (ea_cons (ev_var (P := IsRows K B) rfl (hB' _ e5)) ea_nil) fun vs1 H1 e1 f => ⟨_, ⟨n, B, f, zB, by omega, hlB, rfl⟩, fun v H2 hv => NewF.back e1 hv⟩) fun cB wB H7 s7 hcB hallcB hfB => ?_
        have e7 := e5.trans s7
        have hBp : cB ≠ p := fun z => by rw [z, hp5] at hfB; cases hfB
        have hpt7 := Mo.mo s7 hpt5
        refine ⟨fun j σ H' => ∃ x4 x5 x8 x9 x10 x11 x12 vs, σ = [some (.ref lA), some (.ref lB), some (.ref p), x3, x4, x5, x6, some v, x8, x9, x10, x11, x12] ∧ Same H H' ∧ Te K H7 H' ∧ H' cA = some (.lst wA) ∧ H' cB = some (.lst wB) ∧ H' p = some (.lst vs) ∧ All2 (IsDir K) vs (((cornersOf B).take j).foldl (fun f q => pairDirs f pt q) L0) H',
          ⟨_, _, _, _, _, _, _, vs, rfl, e7, Te.refl, s7 _ _ hc5, hcB, s7 _ _ hp5, hall5.mo s7⟩, fun j σ H8 _ q => ?_, fun j x' σ H8 w' H9 hj q hy => ?_, fun σ H8 q => ?_⟩
        · obtain ⟨y4, y5, y8, y9, y10, y11, y12, vs', rfl, e8, t8, ha8, hb8, _⟩ := q
          exact .of hb8
        · obtain ⟨y4, y5, y8, y9, y10, y11, y12, vs', rfl, e8, t8, ha8, hb8, hp8, hall8⟩ := q
          obtain ⟨rfl, rfl⟩ := hy
          obtain ⟨qt, hqj, hqt⟩ := hallcB.2 j w' hj
          have hqt8 : IsPt K qt w' H9 := Mt.mt (K := K) t8 hqt
          have hpt8 : IsPt K pt v H9 := Mt.mt (K := K) t8 hpt7
          have zqt := zcB qt (List.mem_of_getElem? hqj)
          have hjB : j < (cornersOf B).length := by rw [← hallcB.1]; exact (List.getElem?_eq_some_iff.mp hj).1
          have htkj : (cornersOf B).take (j + 1) = (cornersOf B).take j ++ [qt] := by rw [List.take_add_one, hqj]; rfl
          generalize hLj : ((cornersOf B).take j).foldl (fun f q => pairDirs f pt q) L0 = Lj at hall8
          have hLjl : Lj.length + 2 < sizeLine := by
            have h1 := cornerDirs1_len (p := pt) ((cornersOf B).take j) L0
            rw [hLj] at h1
            simp only [List.length_take] at h1
            omega
          obtain ⟨zn1, zn2⟩ := norm_sz zpt zqt
          have zx := zqt.1.sub zpt.1
          have zy := zqt.2.sub zpt.2
          have fin : ∀ H10 x4 x5 x9 x10 x11 x12 vs2 L2, Same H H10 → Te K H7 H10 → H10 cA = some (.lst wA) → H10 cB = some (.lst wB) → H10 p = some (.lst vs2) → All2 (IsDir K) vs2 L2 H10 → L2 = pairDirs Lj pt qt → ∃ y4 y5 y8 y9 y10 y11 y12 vs, [some (V.ref lA), some (.ref lB), some (.ref p), x3, x4, x5, x6, some v, some w', x9, x10, x11, x12] = [some (.ref lA), some (.ref lB), some (.ref p), x3, y4, y5, x6, some v, y8, y9, y10, y11, y12] ∧ Same H H10 ∧ Te K H7 H10 ∧ H10 cA = some (.lst wA) ∧ H10 cB = some (.lst wB) ∧ H10 p = some (.lst vs) ∧ All2 (IsDir K) vs (((cornersOf B).take (j + 1)).foldl (fun f q => pairDirs f pt q) L0) H10 :=
            fun H10 x4 x5 x9 x10 x11 x12 vs2 L2 a1 a2 a3 a4 a5 a6 a7 => ⟨_, _, _, _, _, _, _, vs2, rfl, a1, a2, a3, a4, a5, by
              rw [htkj, List.foldl_append, hLj]
              show All2 (IsDir K) vs2 (pairDirs Lj pt qt) H10
              rw [← a7]; exact a6⟩
          refine seq_go (par_go (ea_cons (ev_call (ea_cons (ev_p0 (ev_var rfl hqt8)) (ea_cons (ev_p0 (ev_var rfl hpt8)) ea_nil)) fun vs H1 _ f => ⟨_, _, f, zqt.1.mono (by omega) (by omega), zpt.1.mono (by omega) (by omega), rfl⟩) (ea_cons (ev_call (ea_cons (ev_p1 (ev_var rfl hqt8)) (ea_cons (ev_p1 (ev_var rfl hpt8)) ea_nil)) fun vs H1 _ f => ⟨_, _, f, zqt.2.mono (by omega) (by omega), zpt.2.mono (by omega) (by omega), rfl⟩) ea_nil)) fun ac up H10 s10 hac hup => ?_)
          refine seq_go (par_go (ea_cons (ev_i (ev_q0 (ev_var rfl hup)) (ev_q1 (ev_var rfl hac)) (mulG zy.1 zx.2 (by omega))) (ea_cons (ev_i (ev_neg (ev_q0 (ev_var rfl hac))) (ev_q1 (ev_var rfl hup)) (mulG zx.1.neg zy.2 (by omega))) ea_nil)) fun n1 n2 H11 s11 h1 h2 => ?_)
          have h1' : n1 = .int (normA pt qt) := h1
          have h2' : n2 = .int (normB pt qt) := h2
          subst h1' h2'
          have s811 := s10.trans s11
          refine if_go (b := decide (normA pt qt ≠ 0 ∨ normB pt qt ≠ 0)) (et_is (et_or (et_val (ev_neI (ev_v rfl) ev_c)) fun _ => et_val (ev_neI (ev_v rfl) ev_c)) (by by_cases q1 : normA pt qt = 0 <;> by_cases q2 : normB pt qt = 0 <;> simp [q1, q2])) (fun hb H12 s12 => ?_) fun hb H12 s12 => nil_go ?_
          · have hb' := of_decide_eq_true hb
            have s812 := s811.trans s12
            have hg := gcd_pos hb'
            have hne : (Int.gcd (normA pt qt) (normB pt qt) : Int) ≠ 0 := by omega
            have fd : ∀ i : Int, i.fdiv (Int.gcd (normA pt qt) (normB pt qt) : Int) = i / (Int.gcd (normA pt qt) (normB pt qt) : Int) := fun i => Int.fdiv_eq_ediv_of_nonneg i (by omega)
            refine seq_go (set_go (ev_call (ea_cons (ev_v rfl) (ea_cons (ev_v rfl) ea_nil)) fun vs H1 _ f => ⟨_, _, f, rfl⟩) fun v13 H13 s13 hv13 => ?_)
            cases hv13
            have hdd := fun (σ : L2.St) (H' : Hp) (h4 : σ[4]? = some (some (.int (normA pt qt)))) (h5 : σ[5]? = some (some (.int (normB pt qt)))) (h11 : σ[11]? = some (some (.int (Int.gcd (normA pt qt) (normB pt qt) : Int)))) =>
              ev_two (K := K) (R := IsDir K) (H := H') (ev_mkDir (K := K) (ev_is (ev_i (C := fun _ j => j ≠ 0) (g := fun i j => .int (i.fdiv j)) (ev_v h4) (ev_v h11) hne) (congrArg V.int (fd _))) (ev_is (ev_i (C := fun _ j => j ≠ 0) (g := fun i j => .int (i.fdiv j)) (ev_v h5) (ev_v h11) hne) (congrArg V.int (fd _))))
                (ev_mkDir (K := K) (ev_is (ev_i (C := fun _ j => j ≠ 0) (g := fun i j => .int (i.fdiv j)) (ev_neg (ev_v h4)) (ev_v h11) hne) (congrArg V.int (fd _))) (ev_is (ev_i (C := fun _ j => j ≠ 0) (g := fun i j => .int (i.fdiv j)) (ev_neg (ev_v h5)) (ev_v h11) hne) (congrArg V.int (fd _))))
            refine tuple_goN (hdd _ _ rfl rfl rfl) fun tt wt H14 s14 hwt hallt => ?_
            have s814 := s812.trans (s13.trans s14)
            have e14 := e8.trans s814
            generalize hd1 : ((normA pt qt / (Int.gcd (normA pt qt) (normB pt qt) : Int), normB pt qt / (Int.gcd (normA pt qt) (normB pt qt) : Int)) : Dir) = w1 at hallt
            generalize hd2 : ((-(normA pt qt) / (Int.gcd (normA pt qt) (normB pt qt) : Int), -(normB pt qt) / (Int.gcd (normA pt qt) (normB pt qt) : Int)) : Dir) = w2 at hallt
            refine ⟨fun m σ H' => ∃ y12 vs, σ = [some (V.ref lA), some (.ref lB), some (.ref p), x3, some (.int (normA pt qt)), some (.int (normB pt qt)), x6, some v, some w', some ac, some up, some (.int (Int.gcd (normA pt qt) (normB pt qt) : Int)), y12] ∧ Same H H' ∧ Te K H14 H' ∧ H' cA = some (.lst wA) ∧ H' cB = some (.lst wB) ∧ H' p = some (.lst vs) ∧ All2 (IsDir K) vs (([w1, w2].take m).foldl addDir Lj) H',
              ⟨_, vs', rfl, e14, Te.refl, s814 _ _ ha8, s814 _ _ hb8, s814 _ _ hp8, hall8.mo s814⟩, fun m σ H15 _ q => ?_, fun m x'' σ H15 v15 H16 hm q hy => ?_, fun σ H15 q => ?_⟩
            · obtain ⟨y12, vs2, rfl, e15, t15, _⟩ := q
              exact t15 _ _ hwt
            · obtain ⟨y12, vs2, rfl, e15, t15, ha15, hb15, hp15, hall15⟩ := q
              obtain ⟨rfl, rfl⟩ := hy
              obtain ⟨dd, hdm, hdv⟩ := hallt.2 m v15 hm
              have hdv15 : IsDir K dd v15 H16 := Mt.mt (K := K) t15 hdv
              have hm2 : m < 2 := by have := (List.getElem?_eq_some_iff.mp hdm).1; simpa using this
              have hlm : (([w1, w2].take m).foldl addDir Lj).length ≤ Lj.length + m := by
                match m, hm2 with
                | 0, _ => exact Nat.le_refl _
                | 1, _ => exact addDir_len Lj w1
              refine addDir_go (H0 := H) rfl hp15 hall15 (by omega) (fun H17 e17 => ev_var rfl (Mo.mo e17 hdv15)) fun H17 vs17 a1 a2 a3 a4 a5 => ?_
              refine ⟨_, vs17, rfl, a1 e15 np', t15.trans a3, a2 _ _ hAp ha15, a2 _ _ hBp hb15, a4, ?_⟩
              have : [w1, w2].take (m + 1) = [w1, w2].take m ++ [dd] := by rw [List.take_add_one, hdm]; rfl
              rw [this, List.foldl_append]
              exact a5
            · obtain ⟨y12, vs2, rfl, e15, t15, ha15, hb15, hp15, hall15⟩ := q
              have hl2 : wt.length = 2 := hallt.1
              rw [hl2] at hall15
              have hall15' : All2 (IsDir K) vs2 (addDir (addDir Lj w1) w2) H15 := hall15
              refine fin _ _ _ _ _ _ _ vs2 _ e15 (t8.trans (s814.te.trans t15)) ha15 hb15 hp15 hall15' ?_
              unfold pairDirs
              rw [if_pos hb', ← hd1, ← hd2]
          · have hb' := of_decide_eq_false hb
            have s812 := s811.trans s12
            refine fin _ _ _ _ _ _ _ vs' Lj (e8.trans s812) (t8.trans s812.te) (s812 _ _ ha8) (s812 _ _ hb8) (s812 _ _ hp8) (hall8.mo s812) ?_
            unfold pairDirs
            rw [if_neg hb']
        · obtain ⟨y4, y5, y8, y9, y10, y11, y12, vs', rfl, e8, t8, ha8, hb8, hp8, hall8⟩ := q
          rw [hallcB.1, List.take_length] at hall8
          refine ⟨_, _, _, _, _, _, _, _, _, _, vs', rfl, e8, t5.trans (s7.te.trans t8), ha8, hp8, ?_⟩
          have : cornerDirs (rowDirs (rowDirs [] A) B) ((cornersOf A).take (i + 1)) (cornersOf B) = (cornersOf B).foldl (fun f q => pairDirs f pt q) L0 := by
            rw [htk]
            unfold cornerDirs at *
            rw [List.foldl_append, hL0]; rfl
          rw [this]; exact hall8
      · obtain ⟨x3, x4, x5, x6, x7, x8, x9, x10, x11, x12, vs, rfl, e5, t5, hc5, hp5, hall5⟩ := q
        rw [hallcA.1, List.take_length] at hall5
        exact ret_go (P := NewF H (IsDir K) (directionsOf A B)) (ev_var rfl ⟨p, vs, rfl, hp5, hall5, np'⟩) fun v H6 e6 q => k v H6 (e5.trans e6) q
end
end Tk

set_option Elab.async false
set_option linter.all false
set_option maxRecDepth 100000
set_option maxHeartbeats 4000000
namespace Tk
open PySem L2 Ts
section
variable {P : Program} {w : World} {K : PySem.W.Frag} {mg : Str → Option Value} {base : Heap}
def rHull (K : PySem.W.Frag) : List V → Hp → P1 → Prop := fun vs H P => ∃ (n : Nat) (A B : List Row), Fits [IsRows K A, IsRows K B] vs H ∧ Oks A ∧ Oks B ∧ RsSz n A ∧ RsSz n B ∧ 40 * n + 40 ≤ LL ∧ A.length * A.length + A.length + 10 < sizeLine ∧ B.length * B.length + B.length + 10 < sizeLine ∧ A.length + B.length + 2 * (cornersOf B).length * (cornersOf A).length + 10 < sizeLine ∧ P = NewF H (IsRow K) (hullRows A B)
theorem sc_hull_rows : FnScope ["one", "other", "found", "a", "b", "bounds", "rows"] ["one", "other"] (defScope s_hull_rows) := ⟨rfl, rfl, rfl, by decide +kernel, rfl, by decide +kernel, by decide +kernel⟩
theorem ok_hull_rows (S : Sr P base) (W : Wd K mg) : FnOk P w K mg base CX0 47 W.hull_rows.f W.hull_rows.fd ["one", "other"] (SpF (rHull K)) := by
  refine W.hull_rows.F.ok sc_hull_rows (fun vs H Q E h => ?_) (fun cdv A outer s H vs Q E hr h => ?_)
  · obtain ⟨P1, ⟨n, A, B, f, _⟩, _⟩ := h
    exact f.len
  · obtain ⟨P1, ⟨n, A, B, f, oA, oB, zA, zB, hn, hlA, hlB, hlen, rfl⟩, k⟩ := h
    obtain ⟨v0, v1, rfl, hA, hB⟩ := f.two
    obtain ⟨lA, wsA, rfl, hwA, hallA⟩ := hA
    obtain ⟨lB, wsB, rfl, hwB, hallB⟩ := hB
    have hLL : LL = 33554432 := rfl
    refine ⟨_, (pss_cons (ps_set (i := 2) sc_hull_rows.nd rfl (.inl rfl) (pe_lst pa_nil))
        (pss_cons (ps_for PassesOwn.never rfl (pi_list (pe_call (ok_directions_of S W) (hr.mono (by decide)) rfl W.directions_of.m W.directions_of.k W.directions_of.b .nil pass0 (pa_cons (pv 0) (pa_cons (pv 1) pa_nil)))) (pg_tup rfl (pgs_cons (pg_name (i := 3) sc_hull_rows.nd rfl (.inr rfl)) (pgs_cons (pg_name (i := 4) sc_hull_rows.nd rfl (.inr rfl)) pgs_nil))) (pss_cons (ps_setLc (i := 5) (own := [("rows", 6)]) rfl sc_hull_rows.nd rfl rfl (sw_true rfl rfl rfl (by decide +kernel)) (pi_tup (pe_tup (pa_cons (pv 0) (pa_cons (pv 1) pa_nil)))) (blkOk_by (N := ["one", "other", "found", "a", "b", "bounds", "rows"]) (sc := defScope s_hull_rows) (by decide +kernel)) (fun _ _ _ _ _ => (pg_name (i := 6) sc_hull_rows.nd rfl (.inl rfl))) (fun _ _ _ _ _ => pts_nil) (fun _ _ _ _ _ => (pe_call (ok_bound_of S W) (hr.mono (by decide)) rfl W.bound_of.m W.bound_of.k W.bound_of.b .nil pass0 (pa_cons (pv 6) (pa_cons (pv 3) (pa_cons (pv 4) pa_nil))))))
        (pss_one (ps_if (pt_cmpR (op_notInD hr.units65) pe_non (pv 5) (by with_unfolding_all rfl)) (pss_one (ps_expr (pe_bm PySem.F.plainAttrs_list PySem.F.slot_list_append PySem.F.type_list_append mt_append (pv 2) (pa_cons (pe_tup (pa_cons (pv 3) (pa_cons (pv 4) (pa_cons (pe_callStar (ok_greatest S W) (hr.mono (by decide)) W.greatest.k rfl W.greatest.m pass0 (pa_cons (pe_ix ix_list (pv 5) pe_int (fun _ _ => rfl)) (pa_cons (pe_ix ix_list (pv 5) pe_int (fun _ _ => rfl)) pa_nil))) pa_nil)))) pa_nil)))) pss_nil))))
        (pss_one (ps_ret (pv 2))))), ?_⟩
    refine seq_go (newlist_go fun p np' => ?_)
    have s1 : Same H (upd H p (.lst [])) := same_new np'
    have hA' : ∀ H', Same H H' → IsRows K A (.ref lA) H' := fun H' e => ⟨lA, wsA, rfl, e.seq hwA, hallA.mo e⟩
    have hB' : ∀ H', Same H H' → IsRows K B (.ref lB) H' := fun H' e => ⟨lB, wsB, rfl, e.seq hwB, hallB.mo e⟩
    have len0 := directions_len A B
    refine seq_go (list_goF (R := IsDir K) (ds := directionsOf A B) (ev_callF (ea_cons (ev_var (P := IsRows K A) rfl (hA' _ s1)) (ea_cons (ev_var (P := IsRows K B) rfl (hB' _ s1)) ea_nil)) fun vs1 H1 e1 f => ⟨_, ⟨n, A, B, f, zA, zB, by omega, hlA, hlB, hlen, rfl⟩, fun v H2 hv => NewF.back e1 hv⟩) fun cA wA H4 s4 hcA hallcA hfA => ?_)
    have e4 := s1.trans s4
    have hp4 : H4 p = some (.lst []) := s4 _ _ upd_same
    have hAp : cA ≠ p := fun z => by rw [z, upd_same] at hfA; cases hfA
    refine ⟨fun i σ H' => ∃ x3 x4 x5 x6 vs, σ = [some (.ref lA), some (.ref lB), some (.ref p), x3, x4, x5, x6] ∧ Same H H' ∧ Te K H4 H' ∧ H' cA = some (.lst wA) ∧ H' p = some (.lst vs) ∧ All2 (IsRow K) vs (((directionsOf A B).take i).filterMap (hullRow A B)) H',
      ⟨_, _, _, _, _, rfl, e4, Te.refl, hcA, hp4, All2.nil⟩, fun i σ H5 _ q => ?_, fun i x σ H5 v H6 hi q hy => ?_, fun σ H5 q => ?_⟩
    · obtain ⟨x3, x4, x5, x6, vs, rfl, e5, t5, hc5, _⟩ := q
      exact .of hc5
    · obtain ⟨x3, x4, x5, x6, vs, rfl, e5, t5, hc5, hp5, hall5⟩ := q
      obtain ⟨rfl, rfl⟩ := hy
      obtain ⟨d, hdi, hd⟩ := hallcA.2 i v hi
      have hd5 : IsDir K d v H6 := Mt.mt (K := K) t5 hd
      have hmem : d ∈ directionsOf A B := List.mem_of_getElem? hdi
      obtain ⟨zd1, zd2⟩ := dirs_sz zA zB hmem
      have htk : (directionsOf A B).take (i + 1) = (directionsOf A B).take i ++ [d] := by rw [List.take_add_one, hdi]; rfl
      have hvl : vs.length < sizeLine := by
        have h1 := hall5.1
        have h2 : (((directionsOf A B).take i).filterMap (hullRow A B)).length ≤ ((directionsOf A B).take i).length := List.length_filterMap_le _ _
        have h3 : ((directionsOf A B).take i).length ≤ (directionsOf A B).length := List.length_take_le' _ _
        omega
      refine dir_tg hd5 ?_
      have bA := bound_sz oA zA zd1 zd2
      have bB := bound_sz oB zB zd1 zd2
      refine seq_go (set_go (P := NewL (IsO K) [boundOf A d.1 d.2, boundOf B d.1 d.2]) (comp_tup (K := K) (S := fun x : V × List Row => fun v H' => v = x.1) (R := IsO K) (ds := [(.ref lA, A), (.ref lB, B)]) (g := gName 6) (fun x => some (boundOf x.2 d.1 d.2)) (ev_tup (ea_cons (ev_v rfl) (ea_cons (ev_v rfl) ea_nil)) (by show 2 ≤ 1000; decide) fun vs q H1 f nq => ?_) (by show 2 < sizeLine; decide) (fun _ _ _ _ _ h q => tg_name_mono h q) fun x v H7 hx hv e7 => ⟨rfl, rfl, et_yes, ?_⟩) fun v7 H7 s7 h7 => ?_)
      · obtain ⟨a, b, rfl, rfl, rfl⟩ := f.two
        exact ⟨q, _, rfl, .of upd_same, All2.cons rfl (All2.cons rfl All2.nil)⟩
      · have hx2 : IsRows K x.2 v H7 ∧ Oks x.2 ∧ RsSz n x.2 := by
          simp only [List.mem_cons, List.not_mem_nil, or_false] at hx
          rcases hx with rfl | rfl
          · cases hv
            exact ⟨hA' _ (e5.trans e7), oA, zA⟩
          · cases hv
            exact ⟨hB' _ (e5.trans e7), oB, zB⟩
        exact ev_call (ea_cons (ev_var (P := IsRows K x.2) rfl hx2.1) (ea_cons (ev_v rfl) (ea_cons (ev_v rfl) ea_nil))) fun vs H1 _ f => ⟨n, 16 * n + 5, x.2, d.1, d.2, f, hx2.2.1, hx2.2.2, zd1, zd2, by omega, rfl⟩
      have e7 := e5.trans s7
      have fin : ∀ H8 x5 vs2 L2, Same H H8 → Te K H4 H8 → H8 cA = some (.lst wA) → H8 p = some (.lst vs2) → All2 (IsRow K) vs2 (((directionsOf A B).take i).filterMap (hullRow A B) ++ L2) H8 → L2 = (hullRow A B d).toList → ∃ y3 y4 y5 y6 vs, [some (V.ref lA), some (.ref lB), some (.ref p), some (.int d.1), some (.int d.2), x5, x6] = [some (.ref lA), some (.ref lB), some (.ref p), y3, y4, y5, y6] ∧ Same H H8 ∧ Te K H4 H8 ∧ H8 cA = some (.lst wA) ∧ H8 p = some (.lst vs) ∧ All2 (IsRow K) vs (((directionsOf A B).take (i + 1)).filterMap (hullRow A B)) H8 :=
        fun H8 x5 vs2 L2 a1 a2 a3 a4 a5 a6 => ⟨_, _, _, _, vs2, rfl, a1, a2, a3, a4, by
          rw [htk, List.filterMap_append]
          have : [d].filterMap (hullRow A B) = L2 := by
            rw [a6]
            cases hh : hullRow A B d <;> simp [hh]
          rw [this]; exact a5⟩
      refine if_go (et_val (ev_noneNotIn ev_c (ev_var (P := IsL K (IsO K) [boundOf A d.1 d.2, boundOf B d.1 d.2]) rfl h7.isL))) (fun hb H8 s8 => ?_) fun hb H8 s8 => nil_go ?_
      · have h8' : IsL K (IsO K) [boundOf A d.1 d.2, boundOf B d.1 d.2] v7 H8 := Mo.mo (P := IsL K (IsO K) [boundOf A d.1 d.2, boundOf B d.1 d.2]) s8 h7.isL
        cases ua : boundOf A d.1 d.2 with
        | none => rw [ua] at hb; simp at hb
        | some u =>
          cases ub : boundOf B d.1 d.2 with
          | none => rw [ub] at hb; simp at hb
          | some u2 =>
            rw [ua, ub] at h8'
            rw [ua] at bA
            rw [ub] at bB
            have hom : omax (some u) (some u2) = some (gmax u u2) := by show (if u < u2 then some u2 else some u) = some (if u < u2 then u2 else u); split <;> rfl
            refine append_go rfl (s8 _ _ (s7 _ _ hp5)) hvl (ev_mkRow (r := ⟨d.1, d.2, gmax u u2⟩) (ev_v rfl) (ev_v rfl) (Ev.imp (P := IsO K (some (gmax u u2))) (ev_call (Ps := [IsO K (some u), IsO K (some u2)]) (ea_cons (ev_ixL (i := 0) (ev_var (P := IsL K (IsO K) [some u, some u2]) rfl h8') ev_c rfl) (ea_cons (ev_ixL (i := 1) (ev_var (P := IsL K (IsO K) [some u, some u2]) rfl h8') ev_c rfl) ea_nil)) fun vs H1 _ f => ⟨_, _, f, fun q e => (bA q e).mono (by omega) (by omega), fun q e => (bB q e).mono (by omega) (by omega), by rw [hom]⟩) fun v H _ h => h)) fun v9 H9 s9 h9 => ?_
            have s69 := s7.trans (s8.trans s9)
            have hp9 := s69 _ _ hp5
            refine fin _ _ _ [⟨d.1, d.2, gmax u u2⟩] (same_mut (e5.trans s69) np') (t5.trans (s69.te.trans (te_lst hp9))) (by rw [upd_ne hAp]; exact s69 _ _ hc5) upd_same (All2.te (K := K) ((hall5.mo s69).snoc h9) (te_lst hp9)) ?_
            unfold hullRow
            rw [ua, ub]; rfl
      · have s68 := s7.trans s8
        refine fin _ _ vs [] (e5.trans s68) (t5.trans s68.te) (s68 _ _ hc5) (s68 _ _ hp5) (by rw [List.append_nil]; exact hall5.mo s68) ?_
        unfold hullRow
        cases ua : boundOf A d.1 d.2 with
        | none => rfl
        | some u =>
          cases ub : boundOf B d.1 d.2 with
          | none => rfl
          | some u2 => rw [ua, ub] at hb; simp at hb
    · obtain ⟨x3, x4, x5, x6, vs, rfl, e5, t5, hc5, hp5, hall5⟩ := q
      rw [hallcA.1, List.take_length] at hall5
      exact ret_go (P := NewF H (IsRow K) (hullRows A B)) (ev_var rfl ⟨p, vs, rfl, hp5, hall5, np'⟩) fun v H6 e6 q => k v H6 (e5.trans e6) q
end
end Tk

set_option Elab.async false
set_option linter.all false
set_option maxRecDepth 100000
set_option maxHeartbeats 4000000
/-! a for over enumerate(a tuple without items) -/
namespace Tk
open PySem PySem.Spec L2 Ts PyProof.Rows
theorem en_one {v : Value} {o : Obj} {G : Heap → Prop} (B : Begins v o G) : Meets (Builtin.«enumerate.__new__» ⟨[.type "enumerate", v], []⟩) (fun _ R s =>
      G s.heap ∧ R (.ok (.ret (.ref (s.heap.push o).objs.size))) { s with heap := (s.heap.push o).push { cls := .type "enumerate", data := .fields #[.none, .bool false, .ref s.heap.objs.size, rawInt 0, .none, .none] } }) :=
  .of_wp fun prog w A R s z => by
    obtain ⟨hp, g, d, tk, os⟩ := s
    obtain ⟨z1, z2⟩ := z
    have sub1 := sub_enumerate
    have it1 : ∀ {A' : Around} {E : Value → Shared → Prop} {Q : Value → Shared → Prop}, Q (.ref hp.objs.size) ⟨hp.push o, g, d, tk, os⟩ → wpAny (model prog w) A' (pyIter v) Q E ⟨hp, g, d, tk, os⟩ := fun {A' E Q} q =>
      B.iter prog w A' E ⟨hp, g, d, tk, os⟩ Q z1 q
    wp_walk using it1
    refine wpAny_stack_any fun st1 => wpAny_pure ?_
    split
    · rename_i c1 _ _ _ _ _
      cases h0 : (c1 == Value.type "enumerate")
      · wp_walk using it1
        exact ⟨_, rfl, z2⟩
      · wp_walk using it1
        exact ⟨_, rfl, z2⟩
    · wp_walk using it1
      exact ⟨_, rfl, z2⟩
section
variable {prog : Program} {w : World} {A : Around} {E : Value → Shared → Prop} {s : Shared}
theorem en_call {v : Value} {o : Obj} {G : Heap → Prop} {Q : Value → Shared → Prop} (B : Begins v o G) (g : G s.heap)
    (h : ∀ h', IsEnum h' (s.heap.objs.size + 1) s.heap.objs.size 0 .none → h'.get? s.heap.objs.size = some o → (∀ b ob, s.heap.get? b = some ob → h'.get? b = some ob) → Q (.ref (s.heap.objs.size + 1)) { s with heap := h' }) : wpAny (model prog w) A (call (.type "enumerate") [v]) Q E s := by
  refine callType_new F.called_enumerate (by decide) (F.typeCall_enumerate_1 _) (F.newCall_enumerate_1 _) (fun ob => F.args_object_init_2 ob _) F.entry_enumerate_new (en_one B) ⟨g, ?_⟩
  have n1 : (s.heap.push o).objs.size = s.heap.objs.size + 1 := Heap.size_push ..
  show _ ∧ _
  rw [n1]
  have he : IsEnum ((s.heap.push o).push { cls := .type "enumerate", data := .fields #[.none, .bool false, .ref s.heap.objs.size, rawInt 0, .none, .none] }) (s.heap.objs.size + 1) s.heap.objs.size 0 .none := by
    have z := Heap.get?_push_size (s.heap.push o) (o := { cls := .type "enumerate", data := .fields #[.none, .bool false, .ref s.heap.objs.size, rawInt 0, .none, .none] }) rfl
    rw [n1] at z
    exact z
  exact ⟨⟨_, he, rfl⟩, h _ he (Heap.get?_push_of_some _ (Heap.get?_push_size _ B.free)) fun b ob x => Heap.get?_push_of_some _ (Heap.get?_push_of_some _ x)⟩
end
/-- nothing comes -/
def It0 (K : PySem.W.Frag) (a : Addr) : It := ⟨fun _ _ => False, fun _ _ _ _ => False, fun _ H => SqT K H a []⟩
theorem turn_none {P : Program} {w : World} {K : PySem.W.Frag} {tg : Expr} (a e it : Addr) : Turn P w K tg (It0 K a) [e, it] e (fun _ h => (∃ old, IsEnum h e it 0 old) ∧ h.IsTupleIter it a 0 ∧ e ≠ it ∧ a ≠ it) where
  mem := by simp
  obj := fun i h st b hb => by
    obtain ⟨⟨old, he⟩, ⟨o, ho, hc, hd⟩, _⟩ := st
    rcases (show b = e ∨ b = it by simpa using hb) with rfl | rfl
    · exact ⟨_, he, fun v q => nomatch q⟩
    · exact ⟨o, ho, fun v q => by rw [hd] at q; cases q⟩
  keep := fun i h h' st k => let ⟨⟨old, he⟩, hi, h1, h2⟩ := st; ⟨⟨old, k e (by simp) _ he⟩, hi.at fun o q => k it (by simp) o q, h1, h2⟩
  item := fun X _ _ _ _ i pins s σ H E I hf st hg => (show False from hg).elim
  done := by
    intro X hP hw hK hc i pins s σ H E I hf st hq
    subst hP hw hK
    obtain ⟨⟨old, he⟩, hit, h1, h2⟩ := st
    obtain ⟨its, rv, pt, _⟩ := I.tuple (show SqT X.K H a [] from hq)
    cases rv
    obtain ⟨f0, f1, f2, f3, f4, f5⟩ := hf it (by simp)
    exact wpAny_pyNext_enum_endD (Draws.tuple (A := X.A.in1) (I.ok.hd hc) it a h2 #[]) he ⟨hit, pt⟩ fun h' eb => ⟨rfl, I.turned (t' := s.toks) (fun b o hb q => eb b o hb q) f0 f1 f3 f4 f5⟩
  self := fun A i s Q E st h => let ⟨⟨_, he⟩, _⟩ := st; wpAny_pyIter_enum he h
def iEn0 (K : PySem.W.Frag) (ta : TA) : TI := fun σ H R => ta σ H fun vs H1 => ∃ a, vs = [.ref a] ∧ SqT K H1 a [] ∧ R (It0 K a) H1
theorem pi_en0 {X : Cx} {e : Expr} {ta : TA} {p pos : Pos} {tg : Expr} (hg : Gl X "enumerate") (hm : X.mg "enumerate" = none) (ha : PA X [e] ta) (hs : starEach [e] X.env = [(false, eval e X.env)] := by rfl) :
    PI X tg (.Call (.Name "enumerate" p) [e] [] pos) (iEn0 X.K ta) := by
  refine ⟨fun pins s σ H R I h => ?_⟩
  refine Call_ (ld_blt I hg hm boot_enumerate (callWith_type1 (thn (ha.run pos pins s σ H _ I h) fun us s1 q => ?_) hs rfl))
  obtain ⟨vs, H1, I1, r1, a, rfl, hq, q⟩ := q
  obtain ⟨u, rfl, ru⟩ := r1.one
  cases (show u = Value.ref a from ru)
  obtain ⟨its, rv, pt, _⟩ := I1.tuple hq
  cases rv
  refine en_call (begins_tuple a #[]) pt fun h' he hit hk => wpAny_pyIter_enum he ?_
  have I2 : Inv X pins σ H1 { s1 with heap := h' } := I1.kept (t' := s1.toks) hk
  have al : a < s1.heap.objs.size := by obtain ⟨o, ho, _⟩ := pt; exact Heap.lt_size ho
  refine ⟨s1.heap.objs.size + 1, [s1.heap.objs.size + 1, s1.heap.objs.size], _, _, H1, rfl, I2, turn_none a (s1.heap.objs.size + 1) s1.heap.objs.size, ⟨⟨.none, he⟩, ⟨_, hit, rfl, rfl⟩, Nat.succ_ne_self _, Nat.ne_of_lt al⟩, fun b hb => ?_, q⟩
  have hle : s1.heap.objs.size ≤ b := by
    rcases (show b = s1.heap.objs.size + 1 ∨ b = s1.heap.objs.size by simpa using hb) with z | z
    · rw [z]; exact Nat.le_succ _
    · rw [z]; exact Nat.le_refl _
  exact I1.fpOk hle (I1.hok.fresh hle)
end Tk

set_option Elab.async false
set_option linter.all false
set_option maxRecDepth 100000
set_option maxHeartbeats 4000000
/-! own operators of an instance with a dict; a static method read off the class -/
namespace Tk
open PySem PySem.Spec L2 Ts PyProof.Rows
/-- what the class must have besides -/
structure We {K : PySem.W.Frag} {mg : Str → Option Value} (W : Wd K mg) where
  ca : PySem.W.findIn K (.ref W.C) "__class__" = some (some (.builtin "object.__class__"))
  cn : PySem.W.specialIn K (.builtin "object.__class__") "__get__" = some (some (.builtin "getset_descriptor.__get__"))
  ct : PySem.W.takesIn K (.builtin "object.__class__") = some true
  cm : PySem.W.mroIn K W.C (.type "object") = some true
  sf : PySem.W.selfFirst K W.C = true
  nf : PySem.W.notFirst K W.C (.ref W.C) = true
  ko : PySem.W.kitOne K (.ref W.C) (.ref W.C) = some true
  rd : PySem.W.readsIn K W.C (.type "type") = true
  ga : PySem.W.specialIn K (.ref W.C) "__getattribute__" = some (some (.builtin "type.__getattribute__"))
  p : Addr
  at_ : PySem.W.findCls K (.ref W.C) (.type "type") "nothing" = some (.get (.builtin "staticmethod.__get__") (.ref p) .none (.ref W.C))
  rc : ∃ rest, PySem.W.recIn K p "staticmethod" = some (.ref W.nothing.f :: rest)
def rOwnB (C : Addr) (sp : Sp) (E : XK) : R2 := fun x y H Q => ∃ a dx fs b dy gs, x = .ref a ∧ y = .ref b ∧ H a = some (.ins C dx fs) ∧ H b = some (.ins C dy gs) ∧ sp [x, y] H Q E
def rOwnNI (C : Addr) (sp : Sp) (E : XK) : R2 := fun x y H Q => ∃ a dx fs, y = .ref a ∧ H a = some (.ins C dx fs) ∧ sp [y, x] H (fun z H' => ∃ b, z = .bl b ∧ Q (.bl (!b)) H') E
section
variable {X : Cx} {CX : CXT} {n : Nat} {C g p : Addr} {sp : Sp} {E : XK}
theorem op_ownB {op : Operator} (sf : PySem.W.selfFirst X.K C = true) (hs : PySem.W.findIn X.K (.ref C) (PySem.dunder op.info.2) = some (some (.ref g))) (hf : PySem.W.isFn X.K (.ref g) = true) (F : FnR X.prog X.w X.K X.mg X.base CX n g sp)
    (hr : Room n X.A) (hx : Passes CX X E) : OpR X (binaryOp op) (rOwnB C sp E) := by
  intro pins s σ H x y v u Q I rx ry h
  obtain ⟨a, dx, fs, b, dy, gs, rfl, rfl, ha, hb, q⟩ := h
  cases (show v = Value.ref a from rx)
  cases (show u = Value.ref b from ry)
  obtain ⟨mA, O, _⟩ := ins_get I.hok ha
  obtain ⟨mB, O', _⟩ := ins_get I.hok hb
  obtain ⟨_, J, _⟩ := O.look
  obtain ⟨_, J', _⟩ := O'.look
  obtain ⟨m, hF⟩ := I.fr
  refine PySem.W.binop_K hF I.ok.mod.kin J J'.type sf hs hf (wpAny_mono (wpAny_call (run_fnR (us := [.ref a, .ref b]) (vs := [.ref a, .ref b]) F hr hx I (.cons rfl (.cons rfl .nil)) q)) (fun r s' z => ?_) fun _ _ e => e)
  obtain ⟨z', H', I', rz, qz⟩ := z
  exact SlX.cmpback rz ⟨z', H', I', rz, qz⟩
theorem op_ownC {op : CmpOp} (hop : ∀ a b, compareOp op a b = richCompare op a b) (nf : PySem.W.notFirst X.K C (.ref C) = true) (hs : PySem.W.findIn X.K (.ref C) (cmpInfo op).2.1 = some (some (.ref g))) (hf : PySem.W.isFn X.K (.ref g) = true) (F : FnR X.prog X.w X.K X.mg X.base CX n g sp)
    (hr : Room n X.A) (hx : Passes CX X E) : OpR X (compareOp op) (rOwnB C sp E) := by
  intro pins s σ H x y v u Q I rx ry h
  obtain ⟨a, dx, fs, b, dy, gs, rfl, rfl, ha, hb, q⟩ := h
  cases (show v = Value.ref a from rx)
  cases (show u = Value.ref b from ry)
  obtain ⟨mA, O, _⟩ := ins_get I.hok ha
  obtain ⟨mB, O', _⟩ := ins_get I.hok hb
  obtain ⟨_, J, _⟩ := O.look
  obtain ⟨_, J', _⟩ := O'.look
  obtain ⟨m, hF⟩ := I.fr
  rw [hop]
  refine PySem.W.cmp_K (op := op) hr.units0 hF I.ok.mod.kin J J'.type nf hs hf (wpAny_mono (wpAny_call (run_fnR (us := [.ref a, .ref b]) (vs := [.ref a, .ref b]) F hr hx I (.cons rfl (.cons rfl .nil)) q)) (fun r s' z => ?_) fun _ _ e => e)
  obtain ⟨z', H', I', rz, qz⟩ := z
  exact SlX.cmpback rz ⟨z', H', I', rz, qz⟩
theorem op_ownNI (hs : PySem.W.findIn X.K (.ref C) "__contains__" = some (some (.ref g))) (hf : PySem.W.isFn X.K (.ref g) = true) (F : FnR X.prog X.w X.K X.mg X.base CX n g sp) (hr : Room n X.A) (hx : Passes CX X E) : OpR X (compareOp .NotIn) (rOwnNI C sp E) := by
  intro pins s σ H x y v u Q I rx ry h
  obtain ⟨a, dx, fs, rfl, ha, q⟩ := h
  cases (show u = Value.ref a from ry)
  obtain ⟨mA, O, _⟩ := ins_get I.hok ha
  obtain ⟨_, J, _⟩ := O.look
  obtain ⟨m, hF⟩ := I.fr
  refine PySem.W.notIn_K hF I.ok.mod.kin J hs hf (wpAny_mono (wpAny_call (run_fnR (us := [.ref a, v]) (vs := [.ref a, x]) F hr hx I (.cons rfl (.cons rx .nil)) q)) (fun r s' z => ?_) fun _ _ e => e)
  obtain ⟨z', H', I', rz, b, rfl, qz⟩ := z
  cases (show r = Value.bool b from rz)
  exact wpAny_truthy_bool ⟨.bl (!b), H', I', rfl, qz⟩
/-- C.m(), m a static method without parameters -/
theorem pe_static {o : Expr} {m : Str} {pos apos : Pos} {mc : Value} {pl : Sem Bool} (he : PE X o (tC (.ref C))) (rd : PySem.W.readsIn X.K C mc = true) (ga : PySem.W.specialIn X.K (.ref C) "__getattribute__" = some (some (.builtin "type.__getattribute__")))
    (hat : PySem.W.findCls X.K (.ref C) mc m = some (.get (.builtin "staticmethod.__get__") (.ref p) .none (.ref C))) (rc : ∃ rest, PySem.W.recIn X.K p "staticmethod" = some (.ref g :: rest)) (hk : PySem.W.keepIn X.K (.ref g) = true)
    (F : FnR X.prog X.w X.K X.mg X.base CX n g sp) (hr : Room n X.A) (hx : Passes CX X E)
    (ht : eval (.Call (.Attribute o m apos) [] [] pos) X.env = (do
      let ov ← eval o X.env
      standAt apos.atName
      let (f, first) ← holding [ov] (getMethod ov m pl)
      callWith pos f first (backTo pos (starEach [] X.env)) (backToKw pos (keywordEach [] X.env))) := by rfl) :
    PE X (.Call (.Attribute o m apos) [] [] pos) (tCall sp [] E tNil) := by
  refine ⟨fun pins s σ H Q I h => ?_⟩
  refine PySem.W.methodCall_KW (pl := pl) (thn (he.run pins s σ H (fun x H1 => x = .ref C ∧ sp [] H1 Q E) I ⟨rfl, h⟩) fun u s1 z => ?_) ht
  obtain ⟨x, H1, I1, rx, rfl, q⟩ := z
  obtain rfl : u = Value.ref C := rx
  obtain ⟨rest, hp⟩ := rc
  refine PySem.W.method_cls I1.kIn ga (PySem.W.cls_bind I1.kIn rd hat (wpAny_call (PySem.W.sm_get (s := { s1 with toks := s1.toks + 1 }) I1.kIn hp (PySem.W.handed_on rfl ?_))))
  have I2 := I1.tok (s1.toks + 1)
  exact PySem.W.callWith_K0 (first := []) I2.kIn hk (wpAny_call (run_fnR (us := []) F hr hx I2 .nil q))
end
/-! ### figures -/
/-- the figure f as an object -/
def IsF (K : PySem.W.Frag) (C : Addr) (f : Fig) : P1 := fun v H => ∃ a dx l ws, v = .ref a ∧ H a = some (.ins C dx [("void", .bl f.isNone), ("lines", .ref l)]) ∧ H l = some (.lst ws) ∧ All2 (IsRow K) ws (f.getD []) H
instance (K : PySem.W.Frag) (C : Addr) (f : Fig) : Mo (IsF K C f) := ⟨fun e ⟨a, dx, l, ws, h1, h2, h3, h4⟩ => ⟨a, dx, l, ws, h1, e _ _ h2, e _ _ h3, h4.mo e⟩⟩
section
variable {K : PySem.W.Frag} {mg : Str → Option Value} {σ : L2.St} {H H' : Hp} {te ta tb tc : TE} {P P2 : P1} {f g : Fig} {C : Addr} {E : XK}
theorem ev_void (W : Wd K mg) (ha : Ev ta σ H (IsF K W.C f)) : Ev (tFld K ta "void") σ H (IsB f.isNone) := fun H1 e Q q => ha H1 e _ fun v H2 e2 ⟨a, dx, l, ws, h1, h2, h3, h4⟩ =>
  ⟨a, W.C, dx, _, _, h1, h2, W.cls, W.nV, rfl, q _ H2 e2 rfl⟩
theorem ev_lines (W : Wd K mg) (ha : Ev ta σ H (IsF K W.C f)) : Ev (tFld K ta "lines") σ H (NewL (IsRow K) (f.getD [])) := fun H1 e Q q => ha H1 e _ fun v H2 e2 ⟨a, dx, l, ws, h1, h2, h3, h4⟩ =>
  ⟨a, W.C, dx, _, _, h1, h2, W.cls, W.nL, rfl, q _ H2 e2 ⟨l, ws, rfl, h3, h4⟩⟩
theorem ev_ownB {R : List V → Hp → P1 → Prop} (ha : Ev ta σ H (IsF K C f)) (hb : Ev tb σ H (IsF K C g)) (hs : ∀ vs H1, Same H H1 → Fits [IsF K C f, IsF K C g] vs H1 → R vs H1 P) : Ev (tOp (rOwnB C (SpF R) E) ta tb) σ H P :=
  ev_op ha hb fun x y H1 e1 h1 h2 Q q => by
    have r1 := hs [x, y] H1 e1 ⟨h1, h2, trivial⟩
    obtain ⟨a, dx, l, ws, rfl, i1, _⟩ := h1
    obtain ⟨b, dy, l2, ws2, rfl, i2, _⟩ := h2
    exact ⟨a, dx, _, b, dy, _, rfl, rfl, i1, i2, _, r1, fun v H2 e2 p => q v H2 e2 p⟩
theorem ev_ownNI {R : List V → Hp → P1 → Prop} {b : Bool} [m : Mo P] (ha : Ev ta σ H P) (hb : Ev tb σ H (IsF K C f)) (hs : ∀ vs H1, Same H H1 → Fits [IsF K C f, P] vs H1 → R vs H1 (IsB b)) : Ev (tOp (rOwnNI C (SpF R) E) ta tb) σ H (IsB (!b)) :=
  ev_op ha hb fun x y H1 e1 h1 h2 Q q => by
    have r1 := hs [y, x] H1 e1 ⟨h2, h1, trivial⟩
    obtain ⟨a, dx, l, ws, rfl, i1, _⟩ := h2
    exact ⟨a, dx, _, rfl, i1, _, r1, fun v H2 e2 p => ⟨b, p, q _ H2 e2 rfl⟩⟩
end
end Tk

set_option Elab.async false
set_option linter.all false
set_option maxRecDepth 100000
set_option maxHeartbeats 4000000
namespace Tk
open PySem L2 Ts
section
variable {P : Program} {w : World} {K : PySem.W.Frag} {mg : Str → Option Value} {base : Heap}
theorem sc_Figure___init : FnScope ["self", "rows", "at", "row", "found"] ["self", "rows"] (defScope s_Figure___init) := ⟨rfl, rfl, rfl, by decide +kernel, rfl, by decide +kernel, by decide +kernel⟩

/-- what __init__ is asked: a new object, rows that are all valid -/
def spInit (K : PySem.W.Frag) (C : Addr) : Sp := fun vs H Q _ => ∃ (x dx : Addr) (v : V) (n : Nat) (rs : List Row), vs = [.ref x, v] ∧ H x = some (.ins C dx []) ∧ (IsRows K rs v H ∨ (rs = [] ∧ ∃ a, v = .ref a ∧ SqT K H a [])) ∧ Oks rs ∧ RsSz n rs ∧ 17 * n + 100 ≤ LL ∧ rs.length + 10 < sizeLine ∧
  ∀ H', (∀ a o, a ≠ x → H a = some o → H' a = some o) → IsF K C (canonical rs) (.ref x) H' → Q .non H'
theorem en0_go {σ : L2.St} {H : Hp} {te : TE} {g : TG} {tb : TS} {nx bk ct : L2.St → Hp → Prop} {rt : VK} {a : Addr} (he : Ev te σ H (IsV (.ref a))) (ht : SqT K H a []) (k : ∀ H1, Same H H1 → nx σ H1) : tFor (iEn0 K (tCons te tNil)) g tb ⟨nx, rt, bk, ct⟩ σ H :=
  he.go fun v H1 s1 p => by
    cases p
    exact ⟨a, rfl, s1.te _ _ ht, fun i m σ' H' => σ' = σ ∧ H' = H1, ⟨0, rfl, rfl⟩, fun i m σ' H' q => by
      obtain ⟨rfl, rfl⟩ := q
      exact .inl ⟨s1.te _ _ ht, k _ s1⟩⟩
/-- the last rows of it: canonical, two attributes -/
theorem init_end {W : Wd K mg} {x dx : Addr} {v : V} {n : Nat} {rs : List Row} {H H0 : Hp} {E : XK} {x2 x3 x4 : Option V} {rt : VK} {nx bk ct : L2.St → Hp → Prop} (e0 : Same H0 H) (hx : H x = some (.ins W.C dx [])) (hv : IsS K (IsRow K) rs v H) (oR : Oks rs) (zR : RsSz n rs) (hn : 17 * n + 100 ≤ LL) (hl : rs.length + 10 < sizeLine)
    (k : ∀ σ H', (∀ a o, a ≠ x → H0 a = some o → H' a = some o) → IsF K W.C (canonical rs) (.ref x) H' → nx σ H') :
    tSeq (tAsg (tCall (SpF (rCanon K)) [] E (tCons (tVar 1) tNil)) (gName 4)) (tSeq (sFld K (tVar 0) (tOp (fun x y H Q => y = .non ∧ Q (.bl (decide (x = .non))) H) (tVar 4) (tC .non)) "void")
      (sFld K (tVar 0) (tIf (tTest (tOp (fun x y H Q => y = .non ∧ Q (.bl (decide (x = .non))) H) (tVar 4) (tC .non))) (tLst tNil) (tVar 4)) "lines")) ⟨nx, rt, bk, ct⟩ [some (.ref x), some v, x2, x3, x4] H := by
  refine seq_go (set_go (ev_call (P := KeptP K (canonical rs)) (ea_cons (ev_var (P := IsS K (IsRow K) rs) rfl hv) ea_nil) fun vs H1 _ f => ⟨n, rs, f, oR, zR, hn, hl, rfl⟩) fun v1 H1 s1 h1 => ?_)
  have e1 := e0.trans s1
  have hx1 := s1 _ _ hx
  -- the two attributes, whatever canonical said
  have fin : ∀ (b : Bool) (l : Addr) (ws : List V) (H2 : Hp), Same H1 H2 → H2 l = some (.lst ws) → b = (canonical rs).isNone → All2 (IsRow K) ws ((canonical rs).getD []) H2 → (fun σ H' => nx σ H') [some (V.ref x), some v, x2, x3, some v1] (upd (upd H2 x (.ins W.C dx (putF "void" (.bl b) []))) x (.ins W.C dx (putF "lines" (.ref l) (putF "void" (.bl b) [])))) := fun b l ws H2 s2 hl2 hb hall => by
    refine k _ _ (fun a o ha h => by rw [upd_ne ha, upd_ne ha]; exact s2 _ _ (e1 _ _ h)) ⟨x, dx, l, ws, rfl, by rw [upd_same, hb]; rfl, ?_, ?_⟩
    · have : l ≠ x := fun z => by rw [z, s2 _ _ hx1] at hl2; cases hl2
      rw [upd_ne this, upd_ne this]; exact hl2
    · exact All2.te (K := K) (All2.te (K := K) hall (te_ins (s2 _ _ hx1))) (te_ins upd_same)
  cases hc : canonical rs with
  | none =>
    rw [hc] at h1
    cases h1
    refine seq_go ⟨.non, rfl, rfl, .ref x, rfl, x, W.C, dx, [], rfl, hx1, W.cls, W.nV, by decide, ?_⟩
    have hx2 : upd H1 x (.ins W.C dx (putF "void" (.bl true) [])) x = some (.ins W.C dx (putF "void" (.bl true) [])) := upd_same
    refine ⟨.non, rfl, rfl, true, rfl, iteT ⟨by show 0 ≤ sizeLine; decide, fun p np => ⟨.ref x, rfl, x, W.C, dx, putF "void" (.bl true) [], rfl, ?_, W.cls, W.nL, (show (1 : Nat) < 1000 by decide), ?_⟩⟩⟩
    · have np' : upd H1 x (.ins W.C dx (putF "void" (.bl true) [])) p = none := np
      rw [upd_ne (fun z => by rw [← z, hx2] at np'; cases np')]; exact hx2
    · have np' : upd H1 x (.ins W.C dx (putF "void" (.bl true) [])) p = none := np
      have hpx : p ≠ x := fun z => by rw [z, hx2] at np'; cases np'
      have np1 : H1 p = none := by rw [upd_ne hpx] at np'; exact np'
      have last := fin true p [] (upd H1 p (.lst [])) (same_new np1) upd_same (by rw [hc]; rfl) (by rw [hc]; exact All2.nil)
      have hq : ∀ A B : HO, upd (upd (upd H1 p (.lst [])) x A) x B = upd (upd (upd H1 x A) p (.lst [])) x B := fun A B => funext fun a => by
        by_cases z : a = x
        · subst z; rw [upd_same, upd_same]
        · rw [upd_ne z, upd_ne z, upd_ne z]
          by_cases z2 : a = p
          · subst z2; rw [upd_same, upd_same]
          · rw [upd_ne z2, upd_ne z2, upd_ne z]
      rw [hq] at last
      exact last
  | some L =>
    rw [hc] at h1
    obtain ⟨l, ws, rfl, hl1, hall⟩ := h1
    refine seq_go ⟨.ref l, rfl, rfl, .ref x, rfl, x, W.C, dx, [], rfl, hx1, W.cls, W.nV, by decide, ?_⟩
    exact ⟨.ref l, rfl, rfl, false, rfl, iteF ⟨.ref l, rfl, .ref x, rfl, x, W.C, dx, putF "void" (.bl false) [], rfl, upd_same, W.cls, W.nL, (show (1 : Nat) < 1000 by decide), fin false l ws H1 (Same.refl H1) hl1 (by rw [hc]; rfl) (by rw [hc]; exact hall)⟩⟩
theorem ok_init (S : Sr P base) (W : Wd K mg) : FnOk P w K mg base CX0 48 W.init.f W.init.fd ["self", "rows"] (spInit K W.C) := by
  refine ok_dfl W.init.F sc_Figure___init (fun vs H Q E h => ?_) (fun cdv A outer s H vs Q E hr h => ?_)
  · obtain ⟨x, dx, v, n, rs, rfl, _⟩ := h
    rfl
  · obtain ⟨x, dx, v, n, rs, rfl, hx, hv, oR, zR, hn, hl, k⟩ := h
    have hLL : LL = 33554432 := rfl
    rcases hv with hv | ⟨rfl, a, rfl, ht⟩
    · obtain ⟨l, ws, rfl, hw, hall⟩ := hv
      refine ⟨_, (pss_cons (ps_for PassesOwn.never rfl (pi_enum (by rfl) W.n_enumerate (pa_cons (pv 1) pa_nil)) (pg_tup rfl (pgs_cons (pg_name (i := 2) sc_Figure___init.nd rfl (.inl rfl)) (pgs_cons (pg_name (i := 3) sc_Figure___init.nd rfl (.inl rfl)) pgs_nil))) (pss_one (ps_if (pt_not (pt_val (pe_call (ok_is_row S W) (hr.mono (by decide)) rfl W.is_row.m W.is_row.k W.is_row.b .nil pass0 (pa_cons (pv 3) pa_nil)))) (pss_one ps_never) pss_nil)))
        (pss_cons (ps_set (i := 4) sc_Figure___init.nd rfl (.inl rfl) (pe_call (ok_canonical S W) (hr.mono (by decide)) rfl W.canonical.m W.canonical.k W.canonical.b .nil pass0 (pa_cons (pv 1) pa_nil)))
        (pss_cons (ps_fld (pv 0) (pe_cmpR op_isN (pv 4) pe_non (nomark _)) rfl)
        (pss_one (ps_fld (pv 0) (pe_ifExp (pt_cmpR op_isN (pv 4) pe_non (nomark _)) (pe_lst pa_nil) (pv 4)) rfl))))), ?_⟩
      refine seq_go (enumv_go (xs := ws) (a := l) (ev_v rfl) hw fun H1 s1 => ?_)
      refine ⟨fun i σ H' => ∃ x2 x3 x4, σ = [some (.ref x), some (.ref l), x2, x3, x4] ∧ Same H H', ⟨_, _, _, rfl, s1⟩, fun i σ H2 _ q => ?_, fun i v σ H2 v2 H3 hi q hy => ?_, fun σ H2 q => ?_⟩
      · obtain ⟨x2, x3, x4, rfl, e2⟩ := q
        exact e2.seq hw
      · obtain ⟨x2, x3, x4, rfl, e2⟩ := q
        obtain ⟨T, rfl, hT, rfl⟩ := hy
        obtain ⟨r, hri, hrow⟩ := hall.2 i v hi
        have s3 : Same H2 (upd H2 T (.tup [.int (i : Nat), v])) := same_new hT
        refine ⟨T, _, rfl, .of upd_same, rfl, _, _, rfl, _, _, rfl, rfl, ?_⟩
        refine if_go (et_not (et_B (ev_call (P := IsB true) (ea_cons (ev_var (P := IsRow K r) rfl (Mo.mo (e2.trans s3) hrow)) ea_nil) fun vs H1 _ f => ⟨r, f, oR r (List.mem_of_getElem? hri), rfl⟩))) (fun z => nomatch z) fun _ H4 s4 => nil_go ⟨_, _, _, rfl, e2.trans (s3.trans s4)⟩
      · obtain ⟨x2, x3, x4, rfl, e2⟩ := q
        exact init_end e2 (e2 _ _ hx) ⟨l, ws, rfl, .inl (e2.seq hw), hall.mo e2⟩ oR zR hn hl fun σ H' a1 a2 => k H' a1 a2
    · refine ⟨_, (pss_cons (ps_for PassesOwn.never rfl (pi_en0 (by rfl) W.n_enumerate (pa_cons (pv 1) pa_nil)) (pg_tup rfl (pgs_cons (pg_name (i := 2) sc_Figure___init.nd rfl (.inl rfl)) (pgs_cons (pg_name (i := 3) sc_Figure___init.nd rfl (.inl rfl)) pgs_nil))) (pss_one (ps_if (pt_not (pt_val (pe_call (ok_is_row S W) (hr.mono (by decide)) rfl W.is_row.m W.is_row.k W.is_row.b .nil pass0 (pa_cons (pv 3) pa_nil)))) (pss_one ps_never) pss_nil)))
        (pss_cons (ps_set (i := 4) sc_Figure___init.nd rfl (.inl rfl) (pe_call (ok_canonical S W) (hr.mono (by decide)) rfl W.canonical.m W.canonical.k W.canonical.b .nil pass0 (pa_cons (pv 1) pa_nil)))
        (pss_cons (ps_fld (pv 0) (pe_cmpR op_isN (pv 4) pe_non (nomark _)) rfl)
        (pss_one (ps_fld (pv 0) (pe_ifExp (pt_cmpR op_isN (pv 4) pe_non (nomark _)) (pe_lst pa_nil) (pv 4)) rfl))))), ?_⟩
      refine seq_go (en0_go (a := a) (ev_v rfl) ht fun H1 s1 => ?_)
      exact init_end s1 (s1 _ _ hx) ⟨a, [], rfl, .inr (s1.te _ _ ht), All2.nil⟩ oR zR hn hl fun σ H' a1 a2 => k H' a1 a2
end
end Tk

set_option Elab.async false
set_option linter.all false
set_option maxRecDepth 100000
set_option maxHeartbeats 4000000
namespace Tk
open PySem L2 Ts
section
variable {P : Program} {w : World} {K : PySem.W.Frag} {mg : Str → Option Value} {base : Heap}

section
variable {σ : L2.St} {H H' : Hp} {te ta tb : TE} {E : XK}
theorem ev_make {W : Wd K mg} {n : Nat} {rs : List Row} (h : Ev te σ H (IsRows K rs)) (oR : Oks rs) (zR : RsSz n rs) (hn : 17 * n + 100 ≤ LL) (hl : rs.length + 10 < sizeLine) : Ev (tMake W.C (spInit K W.C) [] E (tCons te tNil)) σ H (IsF K W.C (canonical rs)) := fun H1 e1 Q q =>
  (ea_cons h ea_nil) H1 e1 _ fun vs H2 e2 f x dx hx hdx hne => by
    obtain ⟨v, rfl, hv⟩ := f.one
    have s3 : Same H2 (upd (upd H2 dx (.own x)) x (.ins W.C dx [])) := fun a o ha => by
      rw [upd_ne (ne_of_none ha hx), upd_ne (ne_of_none ha hdx)]; exact ha
    refine ⟨x, dx, v, n, rs, rfl, upd_same, .inl (Mo.mo s3 hv), oR, zR, hn, hl, fun H' k1 k2 => ⟨rfl, q _ H' (e2.trans fun a o ha => k1 a o (ne_of_none ha hx) (s3 _ _ ha)) k2⟩⟩
theorem ev_make0 {W : Wd K mg} : Ev (tMake W.C (spInit K W.C) [.ref W.mt] E tNil) σ H (IsF K W.C fplane) := fun H1 e1 Q q x dx hx hdx hne => by
    have s3 : Same H1 (upd (upd H1 dx (.own x)) x (.ins W.C dx [])) := fun a o ha => by
      rw [upd_ne (ne_of_none ha hx), upd_ne (ne_of_none ha hdx)]; exact ha
    exact ⟨x, dx, .ref W.mt, 0, [], rfl, upd_same, .inr ⟨rfl, W.mt, rfl, W.mtT _⟩, nil_oks, (fun r hr => nomatch hr), by decide, by decide, fun H' k1 k2 => ⟨rfl, q _ H' (fun a o ha => k1 a o (ne_of_none ha hx) (s3 _ _ ha)) k2⟩⟩
theorem ev_static {R : List V → Hp → P1 → Prop} {P : P1} (hs : ∀ H1, R [] H1 P) : Ev (tCall (SpF R) [] E tNil) σ H P := ev_call ea_nil fun vs H1 _ f => by
  match vs, f with
  | [], _ => exact hs H1
end
def rNothing (K : PySem.W.Frag) (C : Addr) : List V → Hp → P1 → Prop := fun vs H P => vs = [] ∧ P = IsF K C none
theorem sc_Figure_nothing : FnScope [] [] (defScope s_Figure_nothing) := ⟨rfl, rfl, rfl, by decide +kernel, rfl, by decide +kernel, by decide +kernel⟩
theorem ok_nothing (S : Sr P base) (W : Wd K mg) : FnOk P w K mg base CX0 50 W.nothing.f W.nothing.fd [] (SpF (rNothing K W.C)) := by
  refine W.nothing.F.ok sc_Figure_nothing (fun vs H Q E h => ?_) (fun cdv A outer s H vs Q E hr h => ?_)
  · obtain ⟨P1, ⟨rfl, _⟩, _⟩ := h
    rfl
  · obtain ⟨P1, ⟨rfl, rfl⟩, k⟩ := h
    refine ⟨_, (pss_one (ps_ret (pe_make W.mak (ok_init S W) (hr.mono (by decide)) rfl W.mFig W.init.b .nil pass0 (pa_cons (pe_lst (pa_cons (pe_tup (pa_cons pe_int (pa_cons pe_int (pa_cons (pe_glob (v := .ref W.zero) rfl W.mZERO rfl) pa_nil)))) (pa_cons (pe_tup (pa_cons (pe_un un_neg pe_int) (pa_cons pe_int (pa_cons (pe_tup (pa_cons (pe_un un_neg pe_int) (pa_cons pe_int pa_nil))) pa_nil)))) pa_nil))) pa_nil)))), ?_⟩
    have oN : Oks [⟨1, 0, 0⟩, ⟨-1, 0, -1⟩] := fun r hr => by
      simp only [List.mem_cons, List.not_mem_nil, or_false] at hr
      unfold Row.ok
      rcases hr with rfl | rfl <;> (dsimp only; decide)
    have zN : RsSz 1 [⟨1, 0, 0⟩, ⟨-1, 0, -1⟩] := fun r hr => by
      simp only [List.mem_cons, List.not_mem_nil, or_false] at hr
      rcases hr with rfl | rfl <;> (unfold RSz Sq Sz; dsimp only; decide)
    have e : fnothing = none := nothing_eq
    have m : Ev (tMake W.C (spInit K W.C) [] E0 (tCons (tLst (tCons (tTup (tCons (tC (.int 1)) (tCons (tC (.int 0)) (tCons (tC (.ref W.zero)) tNil)))) (tCons (tTup (tCons (tUn (rU fun i => .int (-i)) (tC (.int 1))) (tCons (tC (.int 0)) (tCons (tTup (tCons (tUn (rU fun i => .int (-i)) (tC (.int 1))) (tCons (tC (.int 1)) tNil))) tNil)))) tNil))) tNil)) [] H (IsF K W.C fnothing) := by
      refine ev_make (n := 1) (rs := [⟨1, 0, 0⟩, ⟨-1, 0, -1⟩]) (ev_lst (Ps := [IsRow K ⟨1, 0, 0⟩, IsRow K ⟨-1, 0, -1⟩]) (ea_cons (ev_mkRow (r := ⟨1, 0, 0⟩) ev_c ev_c (Ev.imp (P := IsV (.ref W.zero)) ev_c fun v H1 _ h => ⟨W.zero, h, W.zeroT _⟩)) (ea_cons (ev_mkRow (r := ⟨-1, 0, -1⟩) (ev_neg ev_c) ev_c (ev_mkQ (i := -1) (j := 1) (ev_neg ev_c) ev_c rfl rfl)) ea_nil)) (by show 2 ≤ 1000; decide) fun vs p H1 f np => ?_) oN zN (by decide) (by decide)
      obtain ⟨a, b, rfl, h1, h2⟩ := f.two
      exact ⟨p, _, rfl, .of upd_same, All2.cons (Mo.mo (same_new np) h1) (All2.cons (Mo.mo (same_new np) h2) All2.nil)⟩
    rw [e] at m
    exact ret_go m k

theorem nothingR (S : Sr P base) (W : Wd K mg) : FnR P w K mg base CX0 50 W.nothing.f (SpF (rNothing K W.C)) :=
  FnR.imp ((ok_nothing S W).raw W.nothing.b .nil) fun vs H Q E h => by
    show SpF (rNothing K W.C) (vs ++ []) H Q E
    rw [List.append_nil]; exact h
end
end Tk

set_option Elab.async false
set_option linter.all false
set_option maxRecDepth 100000
set_option maxHeartbeats 4000000
namespace Tk
open PySem L2 Ts
section
variable {P : Program} {w : World} {K : PySem.W.Frag} {mg : Str → Option Value} {base : Heap}

/-- a figure: made by the class, its rows of this size, so many of them -/
structure Fz (n m : Nat) (F : Fig) : Prop where
  fig : IsFig F
  sz : RsSz n (F.getD [])
  len : (F.getD []).length ≤ m
theorem Fz.oks {n m : Nat} {F : Fig} (h : Fz n m F) : Oks (F.getD []) := by
  obtain ⟨rs, ho, e⟩ := h.fig.ex
  cases F with
  | none => exact nil_oks
  | some cs => exact (IsFig.some h.fig).1.ok
theorem Fz.mono {n m n' m' : Nat} {F : Fig} (h : Fz n m F) (e : n ≤ n') (e' : m ≤ m') : Fz n' m' F := ⟨h.fig, h.sz.mono e, Nat.le_trans h.len e'⟩
theorem fits_nil {vs : List V} {H : Hp} (f : Fits [] vs H) : vs = [] := by
  cases vs with
  | nil => rfl
  | cons a b => exact f.elim
theorem fmul_none {A B : Fig} (h : (A.isNone || B.isNone) = true) : fmul A B = none := by
  cases A with
  | none => rfl
  | some a =>
    cases B with
    | none => rfl
    | some b => cases h
theorem both_some {A B : Fig} (h : (A.isNone || B.isNone) = false) : ∃ a b, A = some a ∧ B = some b := by
  cases A with
  | none => cases h
  | some a =>
    cases B with
    | none => cases h
    | some b => exact ⟨a, b, rfl, rfl⟩
theorem NewF.isL {α : Type} {H0 : Hp} {R : α → P1} {xs : List α} {v : V} {H : Hp} (h : NewF H0 R xs v H) : IsL K R xs v H := (NewF.newL h).isL
def rMul (K : PySem.W.Frag) (C : Addr) : List V → Hp → P1 → Prop := fun vs H P => ∃ (n m : Nat) (A B : Fig), Fits [IsF K C A, IsF K C B] vs H ∧ Fz n m A ∧ Fz n m B ∧ 17 * n + 100 ≤ LL ∧ 2 * m + 10 < sizeLine ∧ P = IsF K C (fmul A B)
theorem sc_Figure___mul : FnScope ["self", "other"] ["self", "other"] (defScope s_Figure___mul) := ⟨rfl, rfl, rfl, by decide +kernel, rfl, by decide +kernel, by decide +kernel⟩
theorem ok_m_mul (S : Sr P base) (W : Wd K mg) (Z : We W) : FnOk P w K mg base CX0 51 W.m_mul.f W.m_mul.fd ["self", "other"] (SpF (rMul K W.C)) := by
  refine W.m_mul.F.ok sc_Figure___mul (fun vs H Q E h => ?_) (fun cdv A outer s H vs Q E hr h => ?_)
  · obtain ⟨P1, ⟨n, m, A, B, f, _⟩, _⟩ := h
    exact f.len
  · obtain ⟨P1, ⟨n, m, A, B, f, zA, zB, hn, hm, rfl⟩, k⟩ := h
    obtain ⟨v0, v1, rfl, hA, hB⟩ := f.two
    have hLL : LL = 33554432 := rfl
    have hSL : sizeLine = 16777216 := rfl
    refine ⟨_, (pss_cons (ps_if (PW.pt (pw_or (pt_val (pe_fld (pv 0) rfl)) (pw_or1 (pt_val (pe_fld (pv 1) rfl))))) (pss_one (ps_ret (pe_static (pe_glob (v := .ref W.C) rfl W.mFig rfl) Z.rd Z.ga Z.at_ Z.rc W.nothing.k (nothingR S W) (hr.mono (by decide)) pass0))) pss_nil)
        (pss_one (ps_ret (pe_make W.mak (ok_init S W) (hr.mono (by decide)) rfl W.mFig W.init.b .nil pass0 (pa_cons (pe_op op_cat (pe_fld (pv 0) rfl) (pe_fld (pv 1) rfl)) pa_nil))))), ?_⟩
    refine seq_go (if_go (et_or (et_B (ev_void W (ev_var rfl hA))) fun _ => et_B (ev_void W (ev_var rfl hB))) (fun hb H1 s1 => ?_) fun hb H1 s1 => nil_go ?_)
    · refine ret_go (P := IsF K W.C (fmul A B)) ?_ fun v H2 s2 q => k v H2 (s1.trans s2) q
      rw [fmul_none hb]
      exact ev_static fun H1 => ⟨rfl, rfl⟩
    · obtain ⟨a, b, rfl, rfl⟩ := both_some hb
      have zl : RsSz n (a ++ b) := fun r hr => (List.mem_append.mp hr).elim (zA.sz r) (zB.sz r)
      have lA : a.length ≤ m := zA.len
      have lB : b.length ≤ m := zB.len
      exact ret_go (P := IsF K W.C (fmul (some a) (some b))) (ev_make (n := n) (rs := a ++ b) (Ev.imp (ev_cat (ev_lines W (ev_var rfl (Mo.mo s1 hA))) (ev_lines W (ev_var rfl (Mo.mo s1 hB))) (by show a.length + b.length ≤ sizeLine; omega)) fun v H _ h => h.isL) (oks_append zA.oks zB.oks) zl (by omega) (by rw [List.length_append]; omega)) fun v H2 s2 q => k v H2 (s1.trans s2) q
def rAdd (K : PySem.W.Frag) (C : Addr) : List V → Hp → P1 → Prop := fun vs H P => ∃ (n m1 m2 : Nat) (A B : Fig), Fits [IsF K C A, IsF K C B] vs H ∧ Fz n m1 A ∧ Fz n m2 B ∧ 357 * n + 300 ≤ LL ∧ m1 * m1 + m1 + 10 < sizeLine ∧ m2 * m2 + m2 + 10 < sizeLine ∧ m1 + m2 + 2 * ((m2 * m2) * (m1 * m1)) + 10 < sizeLine ∧ P = IsF K C (fadd A B)
theorem sc_Figure___add : FnScope ["self", "other"] ["self", "other"] (defScope s_Figure___add) := ⟨rfl, rfl, rfl, by decide +kernel, rfl, by decide +kernel, by decide +kernel⟩
theorem ok_m_add (S : Sr P base) (W : Wd K mg) : FnOk P w K mg base CX0 50 W.m_add.f W.m_add.fd ["self", "other"] (SpF (rAdd K W.C)) := by
  refine W.m_add.F.ok sc_Figure___add (fun vs H Q E h => ?_) (fun cdv A outer s H vs Q E hr h => ?_)
  · obtain ⟨P1, ⟨n, m1, m2, A, B, f, _⟩, _⟩ := h
    exact f.len
  · obtain ⟨P1, ⟨n, m1, m2, A, B, f, zA, zB, hn, h1, h2, h3, rfl⟩, k⟩ := h
    obtain ⟨v0, v1, rfl, hA, hB⟩ := f.two
    have hLL : LL = 33554432 := rfl
    have hSL : sizeLine = 16777216 := rfl
    refine ⟨_, (pss_cons (ps_if (PW.pt (pw_or (pt_val (pe_fld (pv 0) rfl)) (pw_or1 (pt_val (pe_fld (pv 1) rfl))))) (pss_one (ps_ret (pe_ifExp (pt_val (pe_fld (pv 0) rfl)) (pv 1) (pv 0)))) pss_nil)
        (pss_one (ps_ret (pe_make W.mak (ok_init S W) (hr.mono (by decide)) rfl W.mFig W.init.b .nil pass0 (pa_cons (pe_call (ok_hull_rows S W) (hr.mono (by decide)) rfl W.hull_rows.m W.hull_rows.k W.hull_rows.b .nil pass0 (pa_cons (pe_fld (pv 0) rfl) (pa_cons (pe_fld (pv 1) rfl) pa_nil))) pa_nil))))), ?_⟩
    refine seq_go (if_go (et_or (et_B (ev_void W (ev_var rfl hA))) fun _ => et_B (ev_void W (ev_var rfl hB))) (fun hb H1 s1 => ?_) fun hb H1 s1 => nil_go ?_)
    · refine ret_go (P := IsF K W.C (fadd A B)) (ev_if (et_B (ev_void W (ev_var rfl (Mo.mo s1 hA)))) (fun hz => ?_) fun hz => ?_) fun v H2 s2 q => k v H2 (s1.trans s2) q
      · have : fadd A B = B := by
          cases A with
          | none => rfl
          | some a => cases hz
        rw [this]; exact ev_var rfl (Mo.mo s1 hB)
      · have : fadd A B = A := by
          cases A with
          | none => cases hz
          | some a =>
            cases B with
            | none => rfl
            | some b => cases hb
        rw [this]; exact ev_var rfl (Mo.mo s1 hA)
    · obtain ⟨a, b, rfl, rfl⟩ := both_some hb
      have lA : a.length ≤ m1 := zA.len
      have lB : b.length ≤ m2 := zB.len
      have oA : Oks a := zA.oks
      have oB : Oks b := zB.oks
      have cA := corners_len a
      have cB := corners_len b
      have l1 : a.length * a.length ≤ m1 * m1 := Nat.mul_le_mul lA lA
      have l2 : b.length * b.length ≤ m2 * m2 := Nat.mul_le_mul lB lB
      have l3 : (cornersOf b).length * (cornersOf a).length ≤ (m2 * m2) * (m1 * m1) := Nat.mul_le_mul (Nat.le_trans cB l2) (Nat.le_trans cA l1)
      have l4 : 2 * (cornersOf b).length * (cornersOf a).length ≤ 2 * ((m2 * m2) * (m1 * m1)) := by rw [Nat.mul_assoc]; exact Nat.mul_le_mul_left _ l3
      have hl := Nat.le_trans (hull_len a b) (directions_len a b)
      have hz := hull_sz oA oB zA.sz zB.sz
      exact ret_go (P := IsF K W.C (fadd (some a) (some b))) (ev_make (n := 21 * n + 8) (rs := hullRows a b) (Ev.imp (ev_callF (P := NewF H1 (IsRow K) (hullRows a b)) (ea_cons (P := IsRows K a) (Ev.imp (ev_lines W (ev_var rfl (Mo.mo s1 hA))) fun v H _ h => h.isL) (ea_cons (P := IsRows K b) (Ev.imp (ev_lines W (ev_var rfl (Mo.mo s1 hB))) fun v H _ h => h.isL) ea_nil)) fun vs H2 s2 f => ⟨_, ⟨n, a, b, f, oA, oB, zA.sz, zB.sz, by omega, by omega, by omega, by omega, rfl⟩, fun v H3 hv => NewF.back s2 hv⟩) fun v H _ h => NewF.isL h) (hull_ok oA oB) hz (by omega) (by omega)) fun v H2 s2 q => k v H2 (s1.trans s2) q
def rEqF (K : PySem.W.Frag) (C : Addr) : List V → Hp → P1 → Prop := fun vs H P => ∃ (A B : Fig), Fits [IsF K C A, IsF K C B] vs H ∧ P = IsB (decide (A = B))
theorem sc_Figure___eq : FnScope ["self", "other"] ["self", "other"] (defScope s_Figure___eq) := ⟨rfl, rfl, rfl, by decide +kernel, rfl, by decide +kernel, by decide +kernel⟩
theorem ok_m_eq (S : Sr P base) (W : Wd K mg) (Z : We W) : FnOk P w K mg base CX0 1 W.m_eq.f W.m_eq.fd ["self", "other"] (SpF (rEqF K W.C)) := by
  refine W.m_eq.F.ok sc_Figure___eq (fun vs H Q E h => ?_) (fun cdv A outer s H vs Q E hr h => ?_)
  · obtain ⟨P1, ⟨A, B, f, _⟩, _⟩ := h
    exact f.len
  · obtain ⟨P1, ⟨A, B, f, rfl⟩, k⟩ := h
    obtain ⟨v0, v1, rfl, hA, hB⟩ := f.two
    refine ⟨_, (pss_one (ps_ret (pe_and (pe_callB call_isi (by rfl) W.n_isinstance (by decide +kernel) (pa_cons (pv 1) (pa_cons (pe_glob (v := .ref W.C) rfl W.mFig rfl) pa_nil))) (pe_and (pe_cmpR op_eq (pe_fld (pv 0) rfl) (pe_fld (pv 1) rfl) (nomark _)) (pe_one (pe_cmpR (op_eqD hr.units) (pe_fld (pv 0) rfl) (pe_fld (pv 1) rfl) (nomark _))))))), ?_⟩
    have e : decide (A = B) = (true && (decide (V.bl A.isNone = V.bl B.isNone) && decide (A.getD [] = B.getD []))) := by
      cases A with
      | none =>
        cases B with
        | none => rfl
        | some b => simp
      | some a =>
        cases B with
        | none => simp
        | some b => simp
    refine ret_go (P := IsB (decide (A = B))) ?_ k
    rw [e]
    refine ev_and (ev_cb (ea_cons (P := IsF K W.C B) (ev_var rfl hB) (ea_cons (P := IsV (.ref W.C)) ev_c ea_nil)) fun vs H1 _ f Q q => ?_) fun _ => ev_and (ev_eq (ev_void W (ev_var rfl hA)) (ev_void W (ev_var rfl hB)) rfl) fun _ => ev_eqRows (Ev.imp (ev_lines W (ev_var rfl hA)) fun v H _ h => h.isL) (Ev.imp (ev_lines W (ev_var rfl hB)) fun v H _ h => h.isL)
    obtain ⟨a, b, rfl, ⟨x, dx, l, ws, rfl, i1, _⟩, rfl⟩ := f.two
    exact ⟨_, _, _, _, true, rfl, .own W.C, .base (.ins i1 W.cls Z.ca Z.cn Z.ct Z.cm), Z.ko, q _ H1 (Same.refl H1) rfl⟩
def rIn (K : PySem.W.Frag) (C : Addr) : List V → Hp → P1 → Prop := fun vs H P => ∃ (n : Nat) (A : Fig) (p : Pt), Fits [IsF K C A, IsPt K p] vs H ∧ RsSz n (A.getD []) ∧ PSz n p ∧ 4 * n + 8 ≤ LL ∧ (A.getD []).length < sizeLine ∧ P = IsB (fkeeps A p)
theorem sc_Figure___contains : FnScope ["self", "point"] ["self", "point"] (defScope s_Figure___contains) := ⟨rfl, rfl, rfl, by decide +kernel, rfl, by decide +kernel, by decide +kernel⟩
theorem ok_m_contains (S : Sr P base) (W : Wd K mg) : FnOk P w K mg base CX0 46 W.m_contains.f W.m_contains.fd ["self", "point"] (SpF (rIn K W.C)) := by
  refine W.m_contains.F.ok sc_Figure___contains (fun vs H Q E h => ?_) (fun cdv A outer s H vs Q E hr h => ?_)
  · obtain ⟨P1, ⟨n, A, p, f, _⟩, _⟩ := h
    exact f.len
  · obtain ⟨P1, ⟨n, A, p, f, zA, zp, hn, hl, rfl⟩, k⟩ := h
    obtain ⟨v0, v1, rfl, hA, hp⟩ := f.two
    refine ⟨_, (pss_one (ps_ret (pe_and (pe_not (pe_fld (pv 0) rfl)) (pe_one (pe_call (ok_keeps S W) (hr.mono (by decide)) rfl W.keeps.m W.keeps.k W.keeps.b .nil pass0 (pa_cons (pe_fld (pv 0) rfl) (pa_cons (pv 1) pa_nil))))))), ?_⟩
    have e : fkeeps A p = (!A.isNone && keepsPt (A.getD []) p) := by cases A <;> rfl
    refine ret_go (P := IsB (fkeeps A p)) ?_ k
    rw [e]
    exact ev_and (ev_not (ev_void W (ev_var rfl hA))) fun _ => ev_call (ea_cons (P := IsRows K (A.getD [])) (Ev.imp (ev_lines W (ev_var rfl hA)) fun v H _ h => h.isL) (ea_cons (P := IsPt K p) (ev_var rfl hp) ea_nil)) fun vs H1 _ f => ⟨n, A.getD [], p, f, zA, zp, hn, hl, rfl⟩
def rRowsF (K : PySem.W.Frag) (C : Addr) : List V → Hp → P1 → Prop := fun vs H P => ∃ (A : Fig), Fits [IsF K C A] vs H ∧ P = NewL (IsRow K) (A.getD [])
theorem sc_Figure_rows : FnScope ["self"] ["self"] (defScope s_Figure_rows) := ⟨rfl, rfl, rfl, by decide +kernel, rfl, by decide +kernel, by decide +kernel⟩
theorem ok_m_rows (S : Sr P base) (W : Wd K mg) : FnOk P w K mg base CX0 1 W.m_rows.f W.m_rows.fd ["self"] (SpF (rRowsF K W.C)) := by
  refine W.m_rows.F.ok sc_Figure_rows (fun vs H Q E h => ?_) (fun cdv A outer s H vs Q E hr h => ?_)
  · obtain ⟨P1, ⟨A, f, _⟩, _⟩ := h
    exact f.len
  · obtain ⟨P1, ⟨A, f, rfl⟩, k⟩ := h
    obtain ⟨v0, rfl, hA⟩ := f.one
    refine ⟨_, (pss_one (ps_ret (pe_callTy call_list_of (by rfl) W.n_list (by decide +kernel) (pa_cons (pe_fld (pv 0) rfl) pa_nil)))), ?_⟩
    exact ret_go (ev_listOf (Ev.imp (ev_lines W (ev_var rfl hA)) fun v H _ h => h.isL)) k
def rCornersF (K : PySem.W.Frag) (C : Addr) : List V → Hp → P1 → Prop := fun vs H P => ∃ (n : Nat) (A : Fig), Fits [IsF K C A] vs H ∧ RsSz n (A.getD []) ∧ 40 * n + 40 ≤ LL ∧ (A.getD []).length * (A.getD []).length + (A.getD []).length + 10 < sizeLine ∧ P = NewL (IsPt K) (fcorners A)
theorem sc_Figure_corners : FnScope ["self"] ["self"] (defScope s_Figure_corners) := ⟨rfl, rfl, rfl, by decide +kernel, rfl, by decide +kernel, by decide +kernel⟩
theorem ok_m_corners (S : Sr P base) (W : Wd K mg) : FnOk P w K mg base CX0 46 W.m_corners.f W.m_corners.fd ["self"] (SpF (rCornersF K W.C)) := by
  refine W.m_corners.F.ok sc_Figure_corners (fun vs H Q E h => ?_) (fun cdv A outer s H vs Q E hr h => ?_)
  · obtain ⟨P1, ⟨n, A, f, _⟩, _⟩ := h
    exact f.len
  · obtain ⟨P1, ⟨n, A, f, zA, hn, hl, rfl⟩, k⟩ := h
    obtain ⟨v0, rfl, hA⟩ := f.one
    refine ⟨_, (pss_one (ps_ret (pe_ifExp (pt_val (pe_fld (pv 0) rfl)) (pe_lst pa_nil) (pe_call (ok_corners_of S W) (hr.mono (by decide)) rfl W.corners_of.m W.corners_of.k W.corners_of.b .nil pass0 (pa_cons (pe_fld (pv 0) rfl) pa_nil))))), ?_⟩
    refine ret_go (P := NewL (IsPt K) (fcorners A)) (ev_if (et_B (ev_void W (ev_var rfl hA))) (fun hz => ?_) fun hz => ?_) k
    · cases A with
      | some a => cases hz
      | none =>
        exact ev_lst ea_nil (by show 0 ≤ 1000; decide) fun vs p H1 f np => by
          cases fits_nil f
          exact ⟨p, [], rfl, upd_same, All2.nil⟩
    · cases A with
      | none => cases hz
      | some a => exact Ev.imp (ev_callF (P := NewF H (IsPt K) (cornersOf a)) (ea_cons (P := IsRows K a) (Ev.imp (ev_lines W (ev_var rfl hA)) fun v H _ h => h.isL) ea_nil) fun vs H1 s1 f => ⟨_, ⟨n, a, f, zA, hn, hl, rfl⟩, fun v H2 hv => NewF.back s1 hv⟩) fun v H1 _ h => NewF.newL h
def rLeF (K : PySem.W.Frag) (C : Addr) : List V → Hp → P1 → Prop := fun vs H P => ∃ (n m : Nat) (A B : Fig), Fits [IsF K C A, IsF K C B] vs H ∧ Fz n m A ∧ Fz n m B ∧ 17 * n + 100 ≤ LL ∧ m < sizeLine ∧ P = IsB (fle A B)
theorem sc_Figure___le : FnScope ["self", "other", "a", "b", "c"] ["self", "other"] (defScope s_Figure___le) := ⟨rfl, rfl, rfl, by decide +kernel, rfl, by decide +kernel, by decide +kernel⟩
theorem ok_m_le (S : Sr P base) (W : Wd K mg) : FnOk P w K mg base CX0 46 W.m_le.f W.m_le.fd ["self", "other"] (SpF (rLeF K W.C)) := by
  refine W.m_le.F.ok sc_Figure___le (fun vs H Q E h => ?_) (fun cdv A outer s H vs Q E hr h => ?_)
  · obtain ⟨P1, ⟨n, m, A, B, f, _⟩, _⟩ := h
    exact f.len
  · obtain ⟨P1, ⟨n, m, A, B, f, zA, zB, hn, hm, rfl⟩, k⟩ := h
    obtain ⟨v0, v1, rfl, hA, hB⟩ := f.two
    have hLL : LL = 33554432 := rfl
    refine ⟨_, (pss_cons (ps_if (PW.pt (pw_or (pt_val (pe_fld (pv 0) rfl)) (pw_or1 (pt_val (pe_fld (pv 1) rfl))))) (pss_one (ps_ret (pe_fld (pv 0) rfl))) pss_nil)
        (pss_one (ps_ret (pe_callB (cr_all rfl) (by rfl) W.n_all (by decide +kernel) (pa_cons (pe_lc (own := [("a", 2), ("b", 3), ("c", 4)]) rfl sc_Figure___le.nd (pi_list (pe_fld (pv 1) rfl)) (blkOk_by (N := ["self", "other", "a", "b", "c"]) (sc := defScope s_Figure___le) (by decide +kernel)) (fun _ _ _ _ _ => (pg_tupK (K := K) (n := 3) rfl rfl (pgs_cons (pg_name (i := 2) sc_Figure___le.nd rfl (.inl rfl)) (pgs_cons (pg_name (i := 3) sc_Figure___le.nd rfl (.inl rfl)) (pgs_cons (pg_name (i := 4) sc_Figure___le.nd rfl (.inl rfl)) pgs_nil))))) (fun _ _ _ _ _ => pts_nil) (fun _ _ _ _ _ => (pe_call (ok_is_at_most S W) (hr.mono (by decide)) rfl W.is_at_most.m W.is_at_most.k W.is_at_most.b .nil pass0 (pa_cons (pe_call (ok_bound_of S W) (hr.mono (by decide)) rfl W.bound_of.m W.bound_of.k W.bound_of.b .nil pass0 (pa_cons (pe_fldK (K := K) rfl (pv 0) rfl) (pa_cons (pv 2) (pa_cons (pv 3) pa_nil)))) (pa_cons (pv 4) pa_nil))))) pa_nil))))), ?_⟩
    refine seq_go (if_go (et_or (et_B (ev_void W (ev_var rfl hA))) fun _ => et_B (ev_void W (ev_var rfl hB))) (fun hb H1 s1 => ?_) fun hb H1 s1 => nil_go ?_)
    · refine ret_go (P := IsB (fle A B)) ?_ fun v H2 s2 q => k v H2 (s1.trans s2) q
      have : fle A B = A.isNone := by
        cases A with
        | none => rfl
        | some a =>
          cases B with
          | none => rfl
          | some b => cases hb
      rw [this]; exact ev_void W (ev_var rfl (Mo.mo s1 hA))
    · obtain ⟨a, b, rfl, rfl⟩ := both_some hb
      have lB : b.length ≤ m := zB.len
      refine ret_go (P := IsB (fle (some a) (some b))) (ev_all (bs := b.map fun r => atMost (boundOf a r.a r.b) r.c) (Ev.imp (comp_list (K := K) (g := gRow K 2 3 4) (S := IsRow K) (R := IsB) (ds := b) (fun r => some (atMost (boundOf a r.a r.b) r.c)) (Ev.imp (ev_lines W (ev_var rfl (Mo.mo s1 hB))) fun v H _ h => h.isL) (by omega) (fun _ _ _ _ _ h q => tg_row_mono h q) fun d x H3 hd hx e3 => row_tg hx fun c hc => ⟨rfl, rfl, et_yes, ?_⟩) fun v H1 _ h => ?_) |>.imp fun v H1 _ h => ?_) fun v H2 s2 q => k v H2 (s1.trans s2) q
      · have z := zB.sz d hd
        have bz := bound_sz zA.oks zA.sz z.1 z.2.1
        exact ev_call (ea_cons (ev_call (P := IsO K (boundOf a d.a d.b)) (ea_cons (P := IsRows K a) (Ev.imp (ev_lines W (f := some a) (ev_var (P := IsF K W.C (some a)) rfl (Mo.mo (s1.trans e3) hA))) fun v H _ h => h.isL) (ea_cons (ev_v rfl) (ea_cons (ev_v rfl) ea_nil))) fun vs H1 _ f => ⟨n, n, a, d.a, d.b, f, zA.oks, zA.sz, z.1, z.2.1, by omega, rfl⟩) (ea_cons (P := IsQ K d.c) (ev_var rfl hc) ea_nil)) fun vs H1 _ f => ⟨_, _, f, fun q e => (bz q e).mono (by omega) (by omega), z.2.2.mono (by omega) (by omega), rfl⟩
      · rw [filterMap_some] at h; exact h
      · have : fle (some a) (some b) = (b.map fun r => atMost (boundOf a r.a r.b) r.c).all id := by
          show (b.all fun r => atMost (boundOf a r.a r.b) r.c) = _
          rw [List.all_map]; rfl
        rw [this]; exact h
def rTurnF (K : PySem.W.Frag) (C : Addr) : List V → Hp → P1 → Prop := fun vs H P => ∃ (n m : Nat) (A : Fig), Fits [IsF K C A] vs H ∧ Fz n m A ∧ 17 * n + 100 ≤ LL ∧ m + 10 < sizeLine ∧ P = IsF K C (fturn A)
theorem sc_Figure_turned : FnScope ["self", "a", "b", "c"] ["self"] (defScope s_Figure_turned) := ⟨rfl, rfl, rfl, by decide +kernel, rfl, by decide +kernel, by decide +kernel⟩
theorem ok_m_turned (S : Sr P base) (W : Wd K mg) (Z : We W) : FnOk P w K mg base CX0 51 W.m_turned.f W.m_turned.fd ["self"] (SpF (rTurnF K W.C)) := by
  refine W.m_turned.F.ok sc_Figure_turned (fun vs H Q E h => ?_) (fun cdv A outer s H vs Q E hr h => ?_)
  · obtain ⟨P1, ⟨n, m, A, f, _⟩, _⟩ := h
    exact f.len
  · obtain ⟨P1, ⟨n, m, A, f, zA, hn, hm, rfl⟩, k⟩ := h
    obtain ⟨v0, rfl, hA⟩ := f.one
    have hLL : LL = 33554432 := rfl
    have hSL : sizeLine = 16777216 := rfl
    refine ⟨_, (pss_one (ps_ret (pe_ifExp (pt_val (pe_fld (pv 0) rfl)) (pe_static (pe_glob (v := .ref W.C) rfl W.mFig rfl) Z.rd Z.ga Z.at_ Z.rc W.nothing.k (nothingR S W) (hr.mono (by decide)) pass0) (pe_make W.mak (ok_init S W) (hr.mono (by decide)) rfl W.mFig W.init.b .nil pass0 (pa_cons (pe_lc (own := [("a", 1), ("b", 2), ("c", 3)]) rfl sc_Figure_turned.nd (pi_list (pe_fld (pv 0) rfl)) (blkOk_by (N := ["self", "a", "b", "c"]) (sc := defScope s_Figure_turned) (by decide +kernel)) (fun _ _ _ _ _ => (pg_tupK (K := K) (n := 3) rfl rfl (pgs_cons (pg_name (i := 1) sc_Figure_turned.nd rfl (.inl rfl)) (pgs_cons (pg_name (i := 2) sc_Figure_turned.nd rfl (.inl rfl)) (pgs_cons (pg_name (i := 3) sc_Figure_turned.nd rfl (.inl rfl)) pgs_nil))))) (fun _ _ _ _ _ => pts_nil) (fun _ _ _ _ _ => (pe_tup (pa_cons (pv 2) (pa_cons (pv 1) (pa_cons (pv 3) pa_nil)))))) pa_nil))))), ?_⟩
    refine ret_go (P := IsF K W.C (fturn A)) (ev_if (et_B (ev_void W (ev_var rfl hA))) (fun hz => ?_) fun hz => ?_) k
    · cases A with
      | some a => cases hz
      | none => exact ev_static fun H1 => ⟨rfl, rfl⟩
    · cases A with
      | none => cases hz
      | some a =>
        have lA : a.length ≤ m := zA.len
        have oA : Oks a := zA.oks
        refine ev_make (n := n) (rs := a.map swapRow) (Ev.imp (comp_list (K := K) (g := gRow K 1 2 3) (S := IsRow K) (R := IsRow K) (ds := a) (fun r => some (swapRow r)) (Ev.imp (ev_lines W (ev_var rfl hA)) fun v H _ h => h.isL) (by omega) (fun _ _ _ _ _ h q => tg_row_mono h q) fun d x H3 hd hx e3 => row_tg hx fun c hc => ⟨rfl, rfl, et_yes, ev_mkRow (r := swapRow d) (ev_v rfl) (ev_v rfl) (ev_var (P := IsQ K d.c) rfl hc)⟩) fun v H1 _ h => ?_) (fun r hr => ?_) (fun r hr => ?_) (by omega) (by rw [List.length_map]; omega)
        · rw [filterMap_some] at h; exact h.isL
        · obtain ⟨d, hd, rfl⟩ := List.mem_map.mp hr
          exact (oA d hd).symm
        · obtain ⟨d, hd, rfl⟩ := List.mem_map.mp hr
          have z := zA.sz d hd
          exact ⟨z.2.1, z.1, z.2.2⟩
end
end Tk

set_option Elab.async false
set_option linter.all false
set_option maxRecDepth 100000
set_option maxHeartbeats 4000000
namespace Tk
open PySem L2 Ts
section
variable {P : Program} {w : World} {K : PySem.W.Frag} {mg : Str → Option Value} {base : Heap}
def rGcdL : List V → Hp → P1 → Prop := fun vs H P => ∃ i j : Int, Fits [IsI i, IsI j] vs H ∧ P = IsI (Int.gcd i j : Int)
theorem sc_law_gcd : FnScope ["_law_one", "_law_two"] ["_law_one", "_law_two"] (defScope s_law_gcd) := ⟨rfl, rfl, rfl, by decide +kernel, rfl, by decide +kernel, by decide +kernel⟩
theorem ok_law_gcd (S : Sr P base) (W : Wd K mg) : FnOk P w K mg base CX0 1 W.law_gcd.f W.law_gcd.fd ["_law_one", "_law_two"] (SpF (rGcdL)) := by
  refine W.law_gcd.F.ok sc_law_gcd (fun vs H Q E h => ?_) (fun cdv A outer s H vs Q E hr h => ?_)
  · obtain ⟨P1, ⟨i, j, f, _⟩, _⟩ := h
    exact f.len
  · obtain ⟨P1, ⟨i, j, f, rfl⟩, k⟩ := h
    obtain ⟨v, w, rfl, rfl, rfl⟩ := f.two
    refine ⟨_, (pss_cons (ps_par (i := 0) (j := 1) rfl sc_law_gcd.nd rfl rfl (by decide) rfl rfl (pa_cons (pe_callB call_abs (by rfl) W.n_abs (by decide +kernel) (pa_cons (pv 0) pa_nil)) (pa_cons (pe_callB call_abs (by rfl) W.n_abs (by decide +kernel) (pa_cons (pv 1) pa_nil)) pa_nil)) (by rfl))
        (pss_cons (ps_while PassesOwn.never (pt_cmpR op_ne (pv 1) pe_int (nomark _)) (pss_one (ps_par (i := 0) (j := 1) rfl sc_law_gcd.nd rfl rfl (by decide) rfl rfl (pa_cons (pv 1) (pa_cons (pe_op op_modN (pe_callTy call_int1 (by rfl) W.n_int (by decide +kernel) (pa_cons (pv 0) pa_nil)) (pv 1)) pa_nil)) (by rfl))))
        (pss_one (ps_ret (pv 0))))), ?_⟩
    refine seq_go (par_go (ea_cons (ev_abs (ev_v rfl)) (ea_cons (ev_abs (ev_v rfl)) ea_nil)) fun _ _ H1 e1 h1 h2 => ?_)
    cases h1
    cases h2
    refine seq_go (while_go (fun σ H' => ∃ a b : Nat, σ = [some (.int (a : Int)), some (.int (b : Int))] ∧ Nat.gcd a b = Int.gcd i j ∧ Same H H') (fun σ _ => match σ with | [_, some (.int b)] => b.toNat | _ => 0) ⟨_, _, rfl, rfl, e1⟩ fun σ H2 hw => ?_)
    obtain ⟨a, b, rfl, hg, e2⟩ := hw
    refine ⟨!decide ((b : Int) = 0), et_val (ev_neI (i := (b : Int)) (ev_v rfl) ev_c), fun hb H3 e3 => ?_, fun hb H3 e3 => ?_⟩
    · have hb0 : (b : Int) ≠ 0 := by simpa using hb
      refine par_go (ea_cons (ev_v rfl) (ea_cons (ev_i (i := (a : Int)) (j := (b : Int)) (ev_intI (ev_v rfl)) (ev_v rfl) hb0) ea_nil)) fun _ _ H4 e4 h1 h2 => ?_
      cases h1
      cases h2
      have em : ((a : Int).fmod (b : Int)) = ((a % b : Nat) : Int) := by rw [Int.fmod_eq_emod_of_nonneg _ (by omega)]; exact (Int.natCast_emod a b).symm
      have hlt : a % b < b := Nat.mod_lt _ (by omega)
      refine ⟨⟨b, a % b, by rw [em]; rfl, ?_, (e2.trans e3).trans e4⟩, ?_⟩
      · rw [← hg, Nat.gcd_comm b, ← Nat.gcd_rec, Nat.gcd_comm]
      · rw [em]; show ((a % b : Nat) : Int).toNat < (b : Int).toNat
        omega
    · have hb0 : (b : Int) = 0 := by simpa using hb
      refine ret_go (ev_v (x := .int (a : Int)) rfl) fun v H4 e4 p => ?_
      have hb1 : b = 0 := by omega
      rw [hb1, Nat.gcd_zero_right] at hg
      exact k v H4 ((e2.trans e3).trans e4) (by rw [← hg]; exact p)
def rLowL (K : PySem.W.Frag) : List V → Hp → P1 → Prop := fun vs H P => ∃ i j : Int, Fits [IsI i, IsI j] vs H ∧ j ≠ 0 ∧ P = IsQ K ((i : Rat) / (j : Rat))
theorem sc_law_low : FnScope ["_law_upper", "_law_lower", "_law_part_here"] ["_law_upper", "_law_lower"] (defScope s_law_low) := ⟨rfl, rfl, rfl, by decide +kernel, rfl, by decide +kernel, by decide +kernel⟩
theorem ok_law_low (S : Sr P base) (W : Wd K mg) : FnOk P w K mg base CX0 41 W.law_low.f W.law_low.fd ["_law_upper", "_law_lower"] (SpF (rLowL K)) := by
  refine W.law_low.F.ok sc_law_low (fun vs H Q E h => ?_) (fun cdv A outer s H vs Q E hr h => ?_)
  · obtain ⟨P1, ⟨i, j, f, _⟩, _⟩ := h
    exact f.len
  · obtain ⟨P1, ⟨i, j, f, hj, rfl⟩, k⟩ := h
    obtain ⟨v, w, rfl, rfl, rfl⟩ := f.two
    refine ⟨_, (pss_cons (ps_set (i := 2) sc_law_low.nd rfl (.inl rfl) (pe_call (ok_law_gcd S W) (hr.mono (by decide)) rfl W.law_gcd.m W.law_gcd.k W.law_gcd.b .nil pass0 (pa_cons (pv 0) (pa_cons (pv 1) pa_nil))))
        (pss_cons (ps_if (pt_cmpR op_lt (pv 1) pe_int (nomark _)) (pss_one (ps_set (i := 2) sc_law_low.nd rfl (.inl rfl) (pe_un un_neg (pv 2)))) pss_nil)
        (pss_one (ps_ret (pe_tup (pa_cons (pe_op (op_fdivG ⟨S.seer, S.tree, room_pyl hr (by decide), rfl, rfl, rfl⟩) (pv 0) (pv 2)) (pa_cons (pe_op (op_fdivG ⟨S.seer, S.tree, room_pyl hr (by decide), rfl, rfl, rfl⟩) (pv 1) (pv 2)) pa_nil))))))), ?_⟩
    obtain ⟨s', hs0, hs, e1, e2⟩ := low_exact (i := i) hj
    have fin : ∀ H1, Same H H1 → tRet (tTup (tCons (tOp (rI (fun _ j => j ≠ 0) fun i j => V.int (i.fdiv j)) (tVar 0) (tVar 2)) (tCons (tOp (rI (fun _ j => j ≠ 0) fun i j => V.int (i.fdiv j)) (tVar 1) (tVar 2)) tNil)))
        { nx := fun _ H' => Q .non H', rt := Q } [some (.int i), some (.int j), some (.int s')] H1 := fun H1 s1 =>
      ret_go (ev_mkQ (K := K) (ev_i (ev_v rfl) (ev_v rfl) hs0) (ev_i (ev_v rfl) (ev_v rfl) hs0) e1 e2) fun v H2 s2 p => k v H2 (s1.trans s2) p
    refine seq_go (set_go (ev_call (ea_cons (ev_v rfl) (ea_cons (ev_v rfl) ea_nil)) fun vs H1 _ f => ⟨i, j, f, rfl⟩) fun v H1 s1 hv => ?_)
    cases hv
    refine seq_go (if_go (et_val (ev_i0 (i := j) (ev_v rfl) ev_c)) (fun hb H2 s2 => ?_) fun hb H2 s2 => ?_)
    · have hlt := of_decide_eq_true hb
      rw [if_pos hlt] at hs
      refine set_go (ev_neg (ev_v rfl)) fun v H3 s3 hv => ?_
      cases hv
      rw [← hs]
      exact fin H3 ((s1.trans s2).trans s3)
    · have hlt := of_decide_eq_false hb
      rw [if_neg hlt] at hs
      have := fin H2 (s1.trans s2)
      rw [hs] at this
      exact this
def rPlusL (K : PySem.W.Frag) : List V → Hp → P1 → Prop := fun vs H P => ∃ q r : Rat, Fits [IsQ K q, IsQ K r] vs H ∧ Sq LL LL q ∧ Sq LL LL r ∧ P = IsQ K (q + r)
theorem sc_law_plus : FnScope ["_law_one", "_law_two"] ["_law_one", "_law_two"] (defScope s_law_plus) := ⟨rfl, rfl, rfl, by decide +kernel, rfl, by decide +kernel, by decide +kernel⟩
theorem ok_law_plus (S : Sr P base) (W : Wd K mg) : FnOk P w K mg base CX0 42 W.law_plus.f W.law_plus.fd ["_law_one", "_law_two"] (SpF (rPlusL K)) := by
  refine W.law_plus.F.ok sc_law_plus (fun vs H Q E h => ?_) (fun cdv A outer s H vs Q E hr h => ?_)
  · obtain ⟨P1, ⟨q, r, f, _⟩, _⟩ := h
    exact f.len
  · obtain ⟨P1, ⟨q, r, f, z1, z2, rfl⟩, k⟩ := h
    obtain ⟨v, w, rfl, hq, hr1⟩ := f.two
    refine ⟨_, (pss_one (ps_ret (pe_call (ok_law_low S W) (hr.mono (by decide)) rfl W.law_low.m W.law_low.k W.law_low.b .nil pass0 (pa_cons (pe_op op_add (pe_op op_mulG (pe_ix ix_tup (pv 0) pe_int (fun _ _ => rfl)) (pe_ix ix_tup (pv 1) pe_int (fun _ _ => rfl))) (pe_op op_mulG (pe_ix ix_tup (pv 1) pe_int (fun _ _ => rfl)) (pe_ix ix_tup (pv 0) pe_int (fun _ _ => rfl)))) (pa_cons (pe_op op_mulG (pe_ix ix_tup (pv 0) pe_int (fun _ _ => rfl)) (pe_ix ix_tup (pv 1) pe_int (fun _ _ => rfl))) pa_nil))))), ?_⟩
    refine ret_go (ev_call (ea_cons (ev_i0 (ev_i (ev_q0 (ev_var rfl hq)) (ev_q1 (ev_var rfl hr1)) (mulLL z1.1 z2.2)) (ev_i (ev_q0 (ev_var rfl hr1)) (ev_q1 (ev_var rfl hq)) (mulLL z2.1 z1.2))) (ea_cons (ev_i (ev_q1 (ev_var rfl hq)) (ev_q1 (ev_var rfl hr1)) (mulLL z1.2 z2.2)) ea_nil)) fun vs H1 _ f => ⟨_, _, f, (fun z => (Int.mul_eq_zero.mp z).elim (den_ne q) (den_ne r)), rfl⟩) fun v H1 e1 p => ?_
    rw [add_low] at p
    exact k v H1 e1 p
def rByL (K : PySem.W.Frag) : List V → Hp → P1 → Prop := fun vs H P => ∃ q r : Rat, Fits [IsQ K q, IsQ K r] vs H ∧ Sq LL LL q ∧ Sq LL LL r ∧ P = IsQ K (q * r)
theorem sc_law_by : FnScope ["_law_one", "_law_two"] ["_law_one", "_law_two"] (defScope s_law_by) := ⟨rfl, rfl, rfl, by decide +kernel, rfl, by decide +kernel, by decide +kernel⟩
theorem ok_law_by (S : Sr P base) (W : Wd K mg) : FnOk P w K mg base CX0 42 W.law_by.f W.law_by.fd ["_law_one", "_law_two"] (SpF (rByL K)) := by
  refine W.law_by.F.ok sc_law_by (fun vs H Q E h => ?_) (fun cdv A outer s H vs Q E hr h => ?_)
  · obtain ⟨P1, ⟨q, r, f, _⟩, _⟩ := h
    exact f.len
  · obtain ⟨P1, ⟨q, r, f, z1, z2, rfl⟩, k⟩ := h
    obtain ⟨v, w, rfl, hq, hr1⟩ := f.two
    refine ⟨_, (pss_one (ps_ret (pe_call (ok_law_low S W) (hr.mono (by decide)) rfl W.law_low.m W.law_low.k W.law_low.b .nil pass0 (pa_cons (pe_op op_mulG (pe_ix ix_tup (pv 0) pe_int (fun _ _ => rfl)) (pe_ix ix_tup (pv 1) pe_int (fun _ _ => rfl))) (pa_cons (pe_op op_mulG (pe_ix ix_tup (pv 0) pe_int (fun _ _ => rfl)) (pe_ix ix_tup (pv 1) pe_int (fun _ _ => rfl))) pa_nil))))), ?_⟩
    refine ret_go (ev_call (ea_cons (ev_i (ev_q0 (ev_var rfl hq)) (ev_q0 (ev_var rfl hr1)) (mulLL z1.1 z2.1)) (ea_cons (ev_i (ev_q1 (ev_var rfl hq)) (ev_q1 (ev_var rfl hr1)) (mulLL z1.2 z2.2)) ea_nil)) fun vs H1 _ f => ⟨_, _, f, (fun z => (Int.mul_eq_zero.mp z).elim (den_ne q) (den_ne r)), rfl⟩) fun v H1 e1 p => ?_
    rw [mul_low] at p
    exact k v H1 e1 p
def rSpotL (K : PySem.W.Frag) : List V → Hp → P1 → Prop := fun vs H P => ∃ (n : Nat) (a b : Int) (p : Pt), Fits [IsI a, IsI b, IsPt K p] vs H ∧ Sz n a ∧ Sz n b ∧ PSz n p ∧ 4 * n + 8 ≤ LL ∧ P = IsQ K (dt a b p)
theorem sc_law_spot : FnScope ["_law_a", "_law_b", "_law_point"] ["_law_a", "_law_b", "_law_point"] (defScope s_law_spot) := ⟨rfl, rfl, rfl, by decide +kernel, rfl, by decide +kernel, by decide +kernel⟩
theorem ok_law_spot (S : Sr P base) (W : Wd K mg) : FnOk P w K mg base CX0 43 W.law_spot.f W.law_spot.fd ["_law_a", "_law_b", "_law_point"] (SpF (rSpotL K)) := by
  refine W.law_spot.F.ok sc_law_spot (fun vs H Q E h => ?_) (fun cdv A outer s H vs Q E hr h => ?_)
  · obtain ⟨P1, ⟨n, a, b, p, f, _⟩, _⟩ := h
    exact f.len
  · obtain ⟨P1, ⟨n, a, b, p, f, sa, sb, sp, hn, rfl⟩, k⟩ := h
    obtain ⟨v0, v1, v2, rfl, rfl, rfl, hp⟩ := f.three
    have hLL : LL = 33554432 := rfl
    refine ⟨_, (pss_one (ps_ret (pe_call (ok_law_plus S W) (hr.mono (by decide)) rfl W.law_plus.m W.law_plus.k W.law_plus.b .nil pass0 (pa_cons (pe_call (ok_law_by S W) (hr.mono (by decide)) rfl W.law_by.m W.law_by.k W.law_by.b .nil pass0 (pa_cons (pe_tup (pa_cons (pv 0) (pa_cons pe_int pa_nil))) (pa_cons (pe_ix ix_tup (pv 2) pe_int (fun _ _ => rfl)) pa_nil))) (pa_cons (pe_call (ok_law_by S W) (hr.mono (by decide)) rfl W.law_by.m W.law_by.k W.law_by.b .nil pass0 (pa_cons (pe_tup (pa_cons (pv 1) (pa_cons pe_int pa_nil))) (pa_cons (pe_ix ix_tup (pv 2) pe_int (fun _ _ => rfl)) pa_nil))) pa_nil))))), ?_⟩
    have qa := Sq.int (d := 0) sa
    have qb := Sq.int (d := 0) sb
    exact ret_go (ev_call (ea_cons (ev_call (ea_cons (ev_mkInt (ev_v rfl) ev_c) (ea_cons (ev_p0 (ev_var rfl hp)) ea_nil)) fun vs H1 _ f => ⟨_, _, f, qa.mono (by omega) (by omega), sp.1.mono (by omega) (by omega), rfl⟩)
      (ea_cons (ev_call (ea_cons (ev_mkInt (ev_v rfl) ev_c) (ea_cons (ev_p1 (ev_var rfl hp)) ea_nil)) fun vs H1 _ f => ⟨_, _, f, qb.mono (by omega) (by omega), sp.2.mono (by omega) (by omega), rfl⟩) ea_nil)) fun vs H1 _ f => ⟨_, _, f, (qa.mul sp.1).mono (by omega) (by omega), (qb.mul sp.2).mono (by omega) (by omega), rfl⟩) k
end
end Tk

set_option Elab.async false
set_option linter.all false
set_option maxRecDepth 100000
set_option maxHeartbeats 4000000
namespace Tk
open PySem L2 Ts
section
variable {P : Program} {w : World} {K : PySem.W.Frag} {mg : Str → Option Value} {base : Heap}

/-! ### the feed -/
/-- all but the feed stays, tuples too -/
structure Fd (K : PySem.W.Frag) (p : Addr) (H H' : Hp) : Prop where
  bt : ∀ a o, a ≠ p → H a = some o → H' a = some o
  te : Te K H H'
  hd : ∀ c r, H p = some (.lst (.ref c :: r)) → ∃ r', H' p = some (.lst (.ref c :: r'))
theorem Fd.refl {p : Addr} {H : Hp} : Fd K p H H := ⟨fun _ _ _ h => h, Te.refl, fun _ r h => ⟨r, h⟩⟩
theorem Fd.trans {p : Addr} {H H1 H2 : Hp} (a : Fd K p H H1) (b : Fd K p H1 H2) : Fd K p H H2 := ⟨fun x o n h => b.bt x o n (a.bt x o n h), a.te.trans b.te, fun c r h => let ⟨r', h'⟩ := a.hd c r h; b.hd c r' h'⟩
theorem _root_.L2.Same.fd {p : Addr} {H H' : Hp} (e : Same H H') : Fd K p H H' := ⟨fun x o _ h => e x o h, e.te, fun _ r h => ⟨r, e _ _ h⟩⟩
theorem fd_upd {p c : Addr} {H : Hp} {r r' : List V} (h : H p = some (.lst (.ref c :: r))) : Fd K p H (upd H p (.lst (.ref c :: r'))) := ⟨fun a u n q => by rw [upd_ne n]; exact q, te_lst h, fun d q z => by rw [h] at z; cases z; exact ⟨r', upd_same⟩⟩
structure FeedAt (p : Addr) (c : Addr) (cs : List Int) (i v m : Int) (H : Hp) : Prop where
  at_ : H p = some (.lst [.ref c, .int i, .int v, .int m])
  ne : c ≠ p
  cells : H c = some (.lst (cs.map V.int))
  pos : 0 ≤ i
def Feed (p : Addr) (H : Hp) : Prop := ∃ c cs i v m, FeedAt p c cs i v m H
theorem FeedAt.same {p c : Addr} {cs : List Int} {i v m : Int} {H H' : Hp} (h : FeedAt p c cs i v m H) (e : Same H H') : FeedAt p c cs i v m H' := ⟨e _ _ h.at_, h.ne, e _ _ h.cells, h.pos⟩
theorem FeedAt.put {p c : Addr} {cs : List Int} {i v m i' v' : Int} {H : Hp} (h : FeedAt p c cs i v m H) (hi : 0 ≤ i') : FeedAt p c cs i' v' m (upd H p (.lst [.ref c, .int i', .int v', .int m])) := ⟨upd_same, h.ne, by rw [upd_ne h.ne]; exact h.cells, hi⟩
section
variable {σ : L2.St} {H H' : Hp} {te ta tb to ti : TE} {P2 : P1} {p c : Addr} {cs : List Int} {i v m : Int} {nx bk ct : L2.St → Hp → Prop} {rt : VK}
theorem ev_at {xs : List V} {j : Nat} {x : V} (ha : Ev ta σ H (IsV (.ref p))) (hb : Ev tb σ H (IsI (j : Int))) (hp : H p = some (.lst xs)) (hx : xs[j]? = some x) : Ev (tOp (rIxL K) ta tb) σ H (IsV x) :=
  ev_op ha hb fun a b H1 e1 h1 h2 Q q => by
    cases h1
    exact ⟨p, xs, (j : Nat), x, rfl, h2, .of (e1 _ _ hp), atI_nat hx, q _ H1 (Same.refl H1) rfl⟩
theorem ev_lenL {xs : List V} (ha : Ev ta σ H (IsV (.ref p))) (hp : H p = some (.lst xs)) : Ev (tCB (fun xs H Q => ∃ p ys, xs = [.ref p] ∧ (SqL K H p ys ∨ SqT K H p ys) ∧ Q (.int ys.length) H) (tCons ta tNil)) σ H (IsI (xs.length : Int)) := fun H1 e1 Q q =>
  ha H1 e1 _ fun v H2 e2 h => ⟨p, xs, by rw [show v = .ref p from h], .inl (.of (e2 _ _ (e1 _ _ hp))), q _ H2 e2 rfl⟩
/-- o[j] = e -/
theorem sub_go {xs : List V} {k : Int} {j : Nat} (he : Ev te σ H P2) (ho : Ev to σ H (IsV (.ref p))) (hi : Ev ti σ H (IsI k)) (hp : H p = some (.lst xs)) (hj : ixN xs.length k = some j) [m : Mo P2] (q : ∀ v H1, Same H H1 → P2 v H1 → nx σ (upd H1 p (.lst (xs.set j v)))) :
    tAsg te (gSub to ti rSetL) ⟨nx, rt, bk, ct⟩ σ H := he.go fun v H1 e1 h1 => (Ev.up e1 ho).go fun x H2 e2 h2 => (Ev.up (e1.trans e2) hi).go fun y H3 e3 h3 => by
  cases h2
  exact ⟨p, xs, k, j, rfl, h3, ((e1.trans e2).trans e3) _ _ hp, hj, q v H3 ((e1.trans e2).trans e3) (Mo.mo (e2.trans e3) h1)⟩
theorem ev_mulC {i j : Int} (ha : Ev ta σ H (IsI i)) (hb : Ev tb σ H (IsI j)) (h : -18446744073709551616 < j ∧ j < 18446744073709551616) : Ev (tOp (rI CMul fun i j => .int (i * j)) ta tb) σ H (IsI (i * j)) := ev_i ha hb (.inr h)
theorem ev_modC {i j : Int} (ha : Ev ta σ H (IsI i)) (hb : Ev tb σ H (IsI j)) (h : 0 < j) : Ev (tOp (rI (fun _ j => j ≠ 0) fun i j => .int (i.fmod j)) ta tb) σ H (IsI (i % j)) :=
  ev_is (ev_i ha hb (by omega)) (congrArg V.int (Int.fmod_eq_emod_of_nonneg i (by omega)))
end
def spDraw (K : PySem.W.Frag) : Sp := fun vs H Q _ => ∃ (p : Addr) (m : Int), vs = [.ref p, .int m] ∧ Feed p H ∧ 0 < m ∧ m < 1073741824 ∧ ∀ r H', 0 ≤ r → r < m → Fd K p H H' → Feed p H' → Q (.int r) H'
theorem sc_law_draw : FnScope ["_law_feed_here", "_law_many", "_law_cell", "_law_one", "_law_two", "_law_drawn"] ["_law_feed_here", "_law_many"] (defScope s_law_draw) := ⟨rfl, rfl, rfl, by decide +kernel, rfl, by decide +kernel, by decide +kernel⟩

theorem ok_law_draw (S : Sr P base) (W : Wd K mg) : FnOk P w K mg base CX0 1 W.law_draw.f W.law_draw.fd ["_law_feed_here", "_law_many"] (spDraw K) := by
  refine W.law_draw.F.ok sc_law_draw (fun vs H Q E h => ?_) (fun cdv A outer s H vs Q E hr h => ?_)
  · obtain ⟨p, m, rfl, _⟩ := h
    rfl
  · obtain ⟨p, many, rfl, ⟨c, cs, i, v, m, hf⟩, hm0, hm1, k⟩ := h
    refine ⟨_, (pss_cons (ps_if (pt_cmpR op_lt (pe_ix ix_list (pv 0) pe_int (fun _ _ => rfl)) pe_int (nomark _)) (pss_cons (ps_asg (pe_op op_add (pe_ix ix_list (pv 0) pe_int (fun _ _ => rfl)) pe_int) (pg_sub (pv 0) pe_int set_list))
        (pss_cons (ps_set (i := 2) sc_law_draw.nd rfl (.inl rfl) (pe_op op_add (pe_ix ix_list (pv 0) pe_int (fun _ _ => rfl)) (pe_op op_mul (pe_ix ix_list (pv 0) pe_int (fun _ _ => rfl)) pe_int)))
        (pss_cons (ps_if (pt_cmpR op_le (pe_ix ix_list (pv 0) pe_int (fun _ _ => rfl)) (pe_callB call_len_seq (by rfl) W.n_len (by decide +kernel) (pa_cons (pe_ix ix_list (pv 0) pe_int (fun _ _ => rfl)) pa_nil)) (nomark _)) (pss_one (ps_set (i := 2) sc_law_draw.nd rfl (.inl rfl) (pe_ix ix_list (pe_ix ix_list (pv 0) pe_int (fun _ _ => rfl)) (pe_op op_sub (pe_ix ix_list (pv 0) pe_int (fun _ _ => rfl)) pe_int) (fun _ _ => rfl)))) pss_nil)
        (pss_cons (ps_if (PW.pt (pw_or (pt_cmpR op_gt (pe_ix ix_list (pv 0) pe_int (fun _ _ => rfl)) (pe_callB call_len_seq (by rfl) W.n_len (by decide +kernel) (pa_cons (pe_ix ix_list (pv 0) pe_int (fun _ _ => rfl)) pa_nil)) (nomark _)) (pw_or1 (pt_cmpR op_lt (pv 2) (pe_op op_pow pe_int pe_int) (nomark _))))) (pss_cons (ps_set (i := 3) sc_law_draw.nd rfl (.inl rfl) (pe_op op_modN (pe_callTy call_int1 (by rfl) W.n_int (by decide +kernel) (pa_cons (pe_op op_add (pe_op op_add (pe_op op_mul (pv 2) pe_int) (pe_op op_mul (pe_ix ix_list (pv 0) pe_int (fun _ _ => rfl)) pe_int)) (pe_ix ix_list (pv 0) pe_int (fun _ _ => rfl))) pa_nil)) pe_int))
        (pss_cons (ps_set (i := 4) sc_law_draw.nd rfl (.inl rfl) (pe_op op_modN (pe_callTy call_int1 (by rfl) W.n_int (by decide +kernel) (pa_cons (pe_op op_add (pe_op op_mul (pv 3) (pv 3)) (pe_op op_mul (pe_ix ix_list (pv 0) pe_int (fun _ _ => rfl)) pe_int)) pa_nil)) pe_int))
        (pss_one (ps_ret (pe_op op_modN (pe_op op_fdiv (pe_op op_modN (pe_callTy call_int1 (by rfl) W.n_int (by decide +kernel) (pa_cons (pe_op op_add (pe_op op_mul (pv 4) pe_int) (pv 3)) pa_nil)) pe_int) pe_int) (pv 1)))))) pss_nil)
        (pss_one (ps_asg (pv 2) (pg_sub (pv 0) pe_int set_list))))))) pss_nil)
        (pss_cons (ps_set (i := 5) sc_law_draw.nd rfl (.inl rfl) (pe_op op_modN (pe_callTy call_int1 (by rfl) W.n_int (by decide +kernel) (pa_cons (pe_ix ix_list (pv 0) pe_int (fun _ _ => rfl)) pa_nil)) (pv 1)))
        (pss_cons (ps_asg (pe_op op_fdiv (pe_callTy call_int1 (by rfl) W.n_int (by decide +kernel) (pa_cons (pe_ix ix_list (pv 0) pe_int (fun _ _ => rfl)) pa_nil)) (pv 1)) (pg_sub (pv 0) pe_int set_list))
        (pss_one (ps_ret (pv 5)))))), ?_⟩
    -- the last three rows
    have tail : ∀ (H1 : Hp) (i v : Int) (x2 x3 x4 x5 : Option V), Fd K p H H1 → FeedAt p c cs i v m H1 → tSeq (tAsg (tOp (rI (fun _ j => j ≠ 0) fun i j => .int (i.fmod j)) (tCB (fun xs H Q => (∃ i, xs = [.int i] ∧ Q (.int i) H) ∨ ∃ k, xs = [.bl k] ∧ Q (.int (if k then 1 else 0)) H) (tCons (tOp (rIxL K) (tVar 0) (tC (.int 2))) tNil)) (tVar 1)) (gName 5))
        (tSeq (tAsg (tOp (rI CDiv fun i j => .int (i / j)) (tCB (fun xs H Q => (∃ i, xs = [.int i] ∧ Q (.int i) H) ∨ ∃ k, xs = [.bl k] ∧ Q (.int (if k then 1 else 0)) H) (tCons (tOp (rIxL K) (tVar 0) (tC (.int 2))) tNil)) (tVar 1)) (gSub (tVar 0) (tC (.int 2)) rSetL)) (tRet (tVar 5))) { nx := fun _ H' => Q .non H', rt := Q } [some (.ref p), some (.int many), x2, x3, x4, x5] H1 := fun H1 i v x2 x3 x4 x5 d1 f1 => by
      refine seq_go (set_go (ev_modC (ev_intI (ev_at (j := 2) (ev_v rfl) ev_c f1.at_ rfl)) (ev_v rfl) hm0) fun v2 H2 s2 h2 => ?_)
      cases h2
      have f2 := f1.same s2
      refine seq_go (sub_go (P2 := IsI (v / many)) (ev_i (ev_intI (ev_at (j := 2) (ev_v rfl) ev_c f2.at_ rfl)) (ev_v rfl) ⟨hm0, hm1⟩) (ev_v rfl) ev_c f2.at_ (j := 2) rfl fun v3 H3 s3 h3 => ?_)
      cases h3
      have f3 := f2.same s3
      refine ret_go (ev_v rfl) fun v4 H4 s4 h4 => ?_
      cases h4
      have f4 : FeedAt p c cs i (v / many) m H4 := (f3.put f3.pos).same s4
      exact k _ H4 (Int.emod_nonneg v (by omega)) (Int.emod_lt_of_pos v hm0) (d1.trans (((s2.trans s3).fd).trans ((fd_upd f3.at_).trans s4.fd))) ⟨c, cs, i, v / many, m, f4⟩
    refine seq_go (if_go (b := decide (v < 2)) (et_val (ev_i0 (i := v) (ev_at (j := 2) (ev_v rfl) ev_c hf.at_ rfl) ev_c)) (fun hb H1 s1 => ?_) fun hb H1 s1 => nil_go (tail H1 i v _ _ _ _ s1.fd (hf.same s1)))
    have f1 := hf.same s1
    refine seq_go (sub_go (P2 := IsI (i + 1)) (ev_i0 (i := i) (ev_at (j := 1) (ev_v rfl) ev_c f1.at_ rfl) ev_c) (ev_v rfl) ev_c f1.at_ (j := 1) rfl fun v2 H2 s2 h2 => ?_)
    cases h2
    have f2 : FeedAt p c cs (i + 1) v m (upd H2 p (.lst [.ref c, .int (i + 1), .int v, .int m])) := (f1.same s2).put (by have := hf.pos; omega)
    have d2 : Fd K p H (upd H2 p (.lst [.ref c, .int (i + 1), .int v, .int m])) := ((s1.trans s2).fd).trans (fd_upd (f1.same s2).at_)
    have hx : ([.ref c, .int i, .int v, .int m] : List V).set 1 (.int (i + 1)) = [.ref c, .int (i + 1), .int v, .int m] := rfl
    rw [hx]
    generalize upd H2 p (.lst [.ref c, .int (i + 1), .int v, .int m]) = H3 at f2 d2
    refine seq_go (set_go (ev_i0 (i := m) (ev_at (j := 3) (ev_v rfl) ev_c f2.at_ rfl) (ev_mulC (i := i + 1) (ev_at (j := 1) (ev_v rfl) ev_c f2.at_ rfl) ev_c (by decide))) fun v4 H4 s4 h4 => ?_)
    cases h4
    have f4 := f2.same s4
    have d4 := d2.trans s4.fd
    refine seq_go (join_go (M := fun σ' H' => ∃ cell : Int, σ' = [some (.ref p), some (.int many), some (.int cell), none, none, none] ∧ Fd K p H H' ∧ FeedAt p c cs (i + 1) v m H') (fun σ' H5 hM => ?_) fun nx' hnx => ?_)
    · obtain ⟨cell, rfl, d5, f5⟩ := hM
      refine seq_go (if_go (b := decide (((cs.map V.int).length : Int) < i + 1) || decide (cell < 10 ^ (18 : Int).toNat)) (et_or (et_val (ev_i0 (i := i + 1) (j := ((cs.map V.int).length : Int)) (ev_at (j := 1) (ev_v rfl) ev_c f5.at_ rfl) (ev_lenL (ev_at (j := 0) (ev_v rfl) ev_c f5.at_ rfl) f5.cells))) fun _ => et_val (ev_i0 (i := cell) (ev_v rfl) (ev_i ev_c ev_c (by unfold CPow; decide)))) (fun hb H6 s6 => ?_) fun hb H6 s6 => nil_go ?_)
      · have f6 := f5.same s6
        have d6 := d5.trans s6.fd
        generalize hz : cell * 48271 + (i + 1) * 69621 + m = z
        refine seq_go (set_go (P := IsI (z % 2147483647)) (ev_modC (ev_intI (ev_is (ev_i0 (i := cell * 48271 + (i + 1) * 69621) (ev_i0 (i := cell * 48271) (ev_mulC (i := cell) (ev_v rfl) ev_c (by decide)) (ev_mulC (i := i + 1) (ev_at (j := 1) (ev_v rfl) ev_c f6.at_ rfl) ev_c (by decide))) (ev_at (j := 3) (ev_v rfl) ev_c f6.at_ rfl)) (congrArg V.int hz))) ev_c (by decide)) fun v7 H7 s7 h7 => ?_)
        cases h7
        have f7 := f6.same s7
        have o1 := Int.emod_nonneg z (show (2147483647 : Int) ≠ 0 by decide)
        have o2 := Int.emod_lt_of_pos z (show (0 : Int) < 2147483647 by decide)
        generalize z % 2147483647 = one at o1 o2
        generalize hz2 : one * one + (i + 1) * 16807 = z2
        refine seq_go (set_go (P := IsI (z2 % 998244353)) (ev_modC (ev_intI (ev_is (ev_i0 (i := one * one) (ev_i (i := one) (j := one) (ev_v rfl) (ev_v rfl) (Or.inl (show (-18446744073709551616 : Int) < one ∧ one < (18446744073709551616 : Int) from ⟨by omega, by omega⟩))) (ev_mulC (i := i + 1) (ev_at (j := 1) (ev_v rfl) ev_c f7.at_ rfl) ev_c (by decide))) (congrArg V.int hz2))) ev_c (by decide)) fun v8 H8 s8 h8 => ?_)
        cases h8
        generalize z2 % 998244353 = two
        generalize hz3 : two * 40692 + one = z3
        refine ret_go (P := IsI (z3 % 2147483629 / 11 % many)) (ev_modC (ev_i (i := z3 % 2147483629) (ev_modC (ev_intI (ev_is (ev_i0 (i := two * 40692) (ev_mulC (i := two) (ev_v rfl) ev_c (by decide)) (ev_v rfl)) (congrArg V.int hz3))) ev_c (by decide)) ev_c (by unfold CDiv; decide)) (ev_v rfl) hm0) fun v9 H9 s9 h9 => ?_
        cases h9
        exact k _ H9 (Int.emod_nonneg _ (by omega)) (Int.emod_lt_of_pos _ hm0) (d6.trans ((s7.trans (s8.trans s9)).fd)) ⟨c, cs, i + 1, v, m, f7.same (s8.trans s9)⟩
      · have f6 := f5.same s6
        refine sub_go (P2 := IsI cell) (ev_v rfl) (ev_v rfl) ev_c f6.at_ (j := 2) rfl fun v7 H7 s7 h7 => ?_
        cases h7
        have f7 := f6.same s7
        exact tail _ (i + 1) cell _ _ _ _ (d5.trans ((s6.trans s7).fd.trans (fd_upd f7.at_))) (f7.put f7.pos)
    · refine if_go (b := decide (i + 1 ≤ ((cs.map V.int).length : Int))) (et_val (ev_i0 (i := i + 1) (j := ((cs.map V.int).length : Int)) (ev_at (j := 1) (ev_v rfl) ev_c f4.at_ rfl) (ev_lenL (ev_at (j := 0) (ev_v rfl) ev_c f4.at_ rfl) f4.cells))) (fun hb H5 s5 => ?_) fun hb H5 s5 => nil_go (hnx _ _ ⟨_, rfl, d4.trans s5.fd, f4.same s5⟩)
      have hb' := of_decide_eq_true hb
      have hp0 := hf.pos
      have f5 := f4.same s5
      have hlt : i.toNat < cs.length := by rw [List.length_map] at hb'; omega
      refine set_go (P := IsI (cs[i.toNat])) (ev_at (j := i.toNat) (ev_at (j := 0) (ev_v rfl) ev_c f5.at_ rfl) (ev_is (ev_i0 (i := i + 1) (ev_at (j := 1) (ev_v rfl) ev_c f5.at_ rfl) ev_c) (congrArg V.int (by omega))) f5.cells (by rw [List.getElem?_map, List.getElem?_eq_getElem hlt]; rfl)) fun v6 H6 s6 h6 => ?_
      cases h6
      exact hnx _ _ ⟨_, rfl, d4.trans (s5.trans s6).fd, f5.same s6⟩
end
end Tk

set_option Elab.async false
set_option linter.all false
set_option maxRecDepth 100000
set_option maxHeartbeats 4000000
namespace Tk
open PySem L2 Ts
section
variable {P : Program} {w : World} {K : PySem.W.Frag} {mg : Str → Option Value} {base : Heap}

/-! ### evaluation that draws -/
def EvD (K : PySem.W.Frag) (p : Addr) (te : TE) (σ : L2.St) (H : Hp) (P : P1) : Prop := ∀ H1, Fd K p H H1 → Feed p H1 → ∀ Q : VK, (∀ v H2, Fd K p H1 H2 → Feed p H2 → P v H2 → Q v H2) → te σ H1 Q
def EvDA (K : PySem.W.Frag) (p : Addr) (ta : TA) (σ : L2.St) (H : Hp) (Ps : List P1) : Prop := ∀ H1, Fd K p H H1 → Feed p H1 → ∀ Q : List V → Hp → Prop, (∀ vs H2, Fd K p H1 H2 → Feed p H2 → Fits Ps vs H2 → Q vs H2) → ta σ H1 Q
def IsZ (C : Int → Prop) : P1 := fun v _ => ∃ r : Int, v = .int r ∧ C r
instance (C : Int → Prop) : Mt K (IsZ C) := ⟨fun _ h => h⟩
/-- a fraction of this size -/
def IsQz (K : PySem.W.Frag) (n d : Nat) : P1 := fun v H => ∃ q : Rat, Sq n d q ∧ IsQ K q v H
instance (n d : Nat) : Mt K (IsQz K n d) := ⟨fun e ⟨q, h1, h2⟩ => ⟨q, h1, Mt.mt (K := K) e h2⟩⟩
theorem Feed.same {p : Addr} {H H' : Hp} (h : Feed p H) (e : Same H H') : Feed p H' := let ⟨c, cs, i, v, m, f⟩ := h; ⟨c, cs, i, v, m, f.same e⟩
section
variable {p : Addr} {σ : L2.St} {H H' : Hp} {te ta tb : TE} {tr : TA} {P1' P2' : P1} {Ps : List P1} {nx bk ct : L2.St → Hp → Prop} {rt : VK} {i j l : Nat} {E : XK} {C D : Int → Prop}
theorem evd_of (h : ∀ H1, Fd K p H H1 → Ev te σ H1 P1') : EvD K p te σ H P1' := fun H1 d f Q q => h H1 d H1 (Same.refl H1) Q fun v H2 e hv => q v H2 e.fd (f.same e) hv
theorem EvD.imp (h : EvD K p te σ H P1') (k : ∀ v H1, P1' v H1 → P2' v H1) : EvD K p te σ H P2' := fun H1 d f Q q => h H1 d f Q fun v H2 d2 f2 hv => q v H2 d2 f2 (k v H2 hv)
theorem EvD.up (d : Fd K p H H') (h : EvD K p te σ H P1') : EvD K p te σ H' P1' := fun H1 d1 => h H1 (d.trans d1)
theorem evd_z {x : Int} (hx : C x) (h : ∀ H1, Ev te σ H1 (IsI x)) : EvD K p te σ H (IsZ C) := EvD.imp (evd_of fun H1 _ => h H1) fun v _ e => ⟨x, e, hx⟩
theorem evd_i0 {g : Int → Int → Int} (ha : EvD K p ta σ H (IsZ C)) (hb : EvD K p tb σ H (IsZ D)) : EvD K p (tOp (rI0 fun i j => .int (g i j)) ta tb) σ H (IsZ fun z => ∃ i j, C i ∧ D j ∧ z = g i j) := fun H1 d f Q q =>
  ha H1 d f _ fun v H2 d2 f2 ⟨x, e1, c1⟩ => hb H2 (d.trans d2) f2 _ fun w H3 d3 f3 ⟨y, e2, c2⟩ => ⟨x, y, e1, e2, q _ H3 (d2.trans d3) f3 ⟨_, rfl, x, y, c1, c2, rfl⟩⟩
theorem evda_nil : EvDA K p tNil σ H [] := fun H1 d f Q q => q [] H1 Fd.refl f trivial
theorem evda_cons [m : Mt K P1'] (h : EvD K p te σ H P1') (hr : EvDA K p tr σ H Ps) : EvDA K p (tCons te tr) σ H (P1' :: Ps) := fun H1 d f Q q =>
  h H1 d f _ fun v H2 d2 f2 hv => hr H2 (d.trans d2) f2 _ fun vs H3 d3 f3 hvs => q (v :: vs) H3 (d2.trans d3) f3 ⟨m.mt d3.te hv, hvs⟩
theorem evd_call {R : List V → Hp → P1 → Prop} (h : EvDA K p tr σ H Ps) (hs : ∀ vs H1, Fits Ps vs H1 → ∃ P3, R vs H1 P3 ∧ ∀ v H2, P3 v H2 → P1' v H2) : EvD K p (tCall (SpF R) [] E tr) σ H P1' := fun H1 d f Q q =>
  h H1 d f _ fun vs H2 d2 f2 hvs => by
    obtain ⟨P3, h1, h2⟩ := hs vs H2 hvs
    refine ⟨P3, by rw [List.append_nil]; exact h1, fun v H3 e3 hv => q v H3 (d2.trans e3.fd) (f2.same e3) (h2 v H3 hv)⟩
theorem evd_draw {m : Int} (hi : σ[i]? = some (some (.ref p))) (he : ∀ H1, Fd K p H H1 → Ev te σ H1 (IsI m)) (h0 : 0 < m) (h1 : m < 1073741824) : EvD K p (tCall (spDraw K) [] E (tCons (tVar i) (tCons te tNil))) σ H (IsZ fun r => 0 ≤ r ∧ r < m) := fun H1 d f Q q =>
  ⟨_, hi, he H1 d H1 (Same.refl H1) _ fun v H2 e2 hv => ⟨p, m, by rw [show v = .int m from hv]; rfl, f.same e2, h0, h1, fun r H3 r0 r1 d3 f3 => q _ H3 (e2.fd.trans d3) f3 ⟨r, rfl, r0, r1⟩⟩⟩
theorem evd_if0 {P3 : P1} (hc : EvD K p ta σ H (IsZ C)) (h1 : EvD K p te σ H P3) (h2 : EvD K p tb σ H P3) : EvD K p (tIf (tTest (tOp rEq ta (tC (.int 0)))) te tb) σ H P3 := fun H1 d f Q q =>
  hc H1 d f _ fun v H2 d2 f2 ⟨x, e1, c1⟩ => by
    subst e1
    refine ⟨rfl, _, rfl, ?_⟩
    by_cases z : (V.int x) = .int 0
    · rw [decide_eq_true z]
      exact iteT (h1 H2 (d.trans d2) f2 Q fun v H3 d3 => q v H3 (d2.trans d3))
    · rw [decide_eq_false z]
      exact iteF (h2 H2 (d.trans d2) f2 Q fun v H3 d3 => q v H3 (d2.trans d3))
theorem setD_go (h : EvD K p te σ H P1') (f : Feed p H) (k : ∀ v H1, Fd K p H H1 → Feed p H1 → P1' v H1 → nx (σ.set i (some v)) H1) : tAsg te (gName i) ⟨nx, rt, bk, ct⟩ σ H := h H Fd.refl f _ k
theorem retD_go (h : EvD K p te σ H P1') (f : Feed p H) (k : ∀ v H1, Fd K p H H1 → Feed p H1 → P1' v H1 → rt v H1) : tRet te ⟨nx, rt, bk, ct⟩ σ H := h H Fd.refl f _ k
theorem parD_go {t : TA} (h : EvDA K p t σ H [P1', P2']) (f : Feed p H) (k : ∀ v w H1, Fd K p H H1 → Feed p H1 → P1' v H1 → P2' w H1 → nx ((σ.set i (some v)).set j (some w)) H1) : tPar i j t ⟨nx, rt, bk, ct⟩ σ H := h H Fd.refl f _ fun vs H1 d1 f1 hf => by
  obtain ⟨v, w, rfl, h1, h2⟩ := hf.two
  exact ⟨v, w, rfl, k v w H1 d1 f1 h1 h2⟩
end
def spPart (K : PySem.W.Frag) : Sp := fun vs H Q _ => ∃ (p : Addr) (n : Int), vs = [.ref p, .int n] ∧ Feed p H ∧ 0 ≤ n ∧ n ≤ 4 ∧ ∀ q v H', Sq 2 2 q → Fd K p H H' → Feed p H' → IsQ K q v H' → Q v H'
theorem sc_law_part : FnScope ["_law_feed_here", "_law_size", "_law_upper"] ["_law_feed_here", "_law_size"] (defScope s_law_part) := ⟨rfl, rfl, rfl, by decide +kernel, rfl, by decide +kernel, by decide +kernel⟩
theorem ok_law_part (S : Sr P base) (W : Wd K mg) : FnOk P w K mg base CX0 44 W.law_part.f W.law_part.fd ["_law_feed_here", "_law_size"] (spPart K) := by
  refine W.law_part.F.ok sc_law_part (fun vs H Q E h => ?_) (fun cdv A outer s H vs Q E hr h => ?_)
  · obtain ⟨p, n, rfl, _⟩ := h
    rfl
  · obtain ⟨p, n, rfl, f, h0, h1, k⟩ := h
    refine ⟨_, (pss_cons (ps_set (i := 2) sc_law_part.nd rfl (.inl rfl) (pe_op op_sub (pe_call (ok_law_draw S W) (hr.mono (by decide)) rfl W.law_draw.m W.law_draw.k W.law_draw.b .nil pass0 (pa_cons (pv 0) (pa_cons (pe_op op_add (pe_op op_mul pe_int (pv 1)) pe_int) pa_nil))) (pv 1)))
        (pss_one (ps_ret (pe_call (ok_law_low S W) (hr.mono (by decide)) rfl W.law_low.m W.law_low.k W.law_low.b .nil pass0 (pa_cons (pv 2) (pa_cons (pe_ifExp (pt_cmpR op_eq (pe_call (ok_law_draw S W) (hr.mono (by decide)) rfl W.law_draw.m W.law_draw.k W.law_draw.b .nil pass0 (pa_cons (pv 0) (pa_cons pe_int pa_nil))) pe_int (nomark _)) pe_int (pe_op op_add pe_int (pe_call (ok_law_draw S W) (hr.mono (by decide)) rfl W.law_draw.m W.law_draw.k W.law_draw.b .nil pass0 (pa_cons (pv 0) (pa_cons pe_int pa_nil))))) pa_nil)))))), ?_⟩
    refine seq_go (setD_go (p := p) (P1' := IsZ fun z => -4 ≤ z ∧ z ≤ 4) (EvD.imp (evd_i0 (C := fun r => 0 ≤ r ∧ r < 2 * n + 1) (D := fun z => z = n) (evd_draw (m := 2 * n + 1) rfl (fun H1 _ => ev_i0 (i := 2 * n) (ev_i (i := 2) (j := n) ev_c (ev_v rfl) (Or.inl (by decide))) ev_c) (by omega) (by omega)) (evd_z rfl fun H1 => ev_v rfl)) fun v H1 hv => ?_) f fun v2 H1 d1 f1 h2 => ?_)
    · obtain ⟨z, e, i, j, ⟨c1, c2⟩, c3, c4⟩ := hv
      exact ⟨z, e, by omega, by omega⟩
    · obtain ⟨u, rfl, u1, u2⟩ := h2
      refine retD_go (p := p) (P1' := IsQz K 2 2) (evd_call (Ps := [IsZ fun z => z = u, IsZ fun z => 1 ≤ z ∧ z ≤ 4]) (evda_cons (evd_z rfl fun H1 => ev_v rfl) (evda_cons (evd_if0 (C := fun r => 0 ≤ r ∧ r < 2) (evd_draw (m := 2) rfl (fun H1 _ => ev_c) (by decide) (by decide)) (evd_z (x := 1) (by decide) fun H1 => ev_c) (EvD.imp (evd_i0 (C := fun z => z = 1) (D := fun r => 0 ≤ r ∧ r < 4) (evd_z rfl fun H1 => ev_c) (evd_draw (m := 4) rfl (fun H1 _ => ev_c) (by decide) (by decide))) fun v H1 hv => ?_)) evda_nil)) fun vs H2 ff => ?_) f1 fun v H2 d2 f2 hq => ?_
      · obtain ⟨z, e, i, j, c1, ⟨c2, c3⟩, c4⟩ := hv
        exact ⟨z, e, by omega, by omega⟩
      · obtain ⟨a, b, rfl, ⟨x, rfl, hx⟩, y, rfl, y1, y2⟩ := ff.two
        subst hx
        refine ⟨_, ⟨x, y, ⟨rfl, rfl, trivial⟩, by omega, rfl⟩, fun v H2 hv => ⟨_, Sq.div (by omega) ?_ ?_, hv⟩⟩
        · unfold Sz; show x.natAbs ≤ 4; omega
        · unfold Sz; show y.natAbs ≤ 4; omega
      · obtain ⟨q, sq, hq⟩ := hq
        exact k q v H2 sq (d1.trans d2) f2 hq
def spAny (K : PySem.W.Frag) : Sp := fun vs H Q _ => ∃ (p l : Addr) (ws : List V) (qs : List Rat), vs = [.ref p, .ref l] ∧ Feed p H ∧ l ≠ p ∧ H l = some (.lst ws) ∧ All2 (IsQ K) ws qs H ∧ 0 < qs.length ∧ qs.length < 1000 ∧ ∀ q v H', q ∈ qs → Fd K p H H' → Feed p H' → IsQ K q v H' → Q v H'
theorem sc_law_any : FnScope ["_law_feed_here", "_law_row"] ["_law_feed_here", "_law_row"] (defScope s_law_any) := ⟨rfl, rfl, rfl, by decide +kernel, rfl, by decide +kernel, by decide +kernel⟩
theorem ok_law_any (S : Sr P base) (W : Wd K mg) : FnOk P w K mg base CX0 2 W.law_any.f W.law_any.fd ["_law_feed_here", "_law_row"] (spAny K) := by
  refine W.law_any.F.ok sc_law_any (fun vs H Q E h => ?_) (fun cdv A outer s H vs Q E hr h => ?_)
  · obtain ⟨p, l, ws, qs, rfl, _⟩ := h
    rfl
  · obtain ⟨p, l, ws, qs, rfl, f, hne, hl, hall, h0, h1, k⟩ := h
    refine ⟨_, (pss_one (ps_ret (pe_ix ix_list (pv 1) (pe_call (ok_law_draw S W) (hr.mono (by decide)) rfl W.law_draw.m W.law_draw.k W.law_draw.b .nil pass0 (pa_cons (pv 0) (pa_cons (pe_callB call_len_seq (by rfl) W.n_len (by decide +kernel) (pa_cons (pv 1) pa_nil)) pa_nil))) (fun _ _ => rfl)))), ?_⟩
    have hd : EvD K p (tCall (spDraw K) [] E0 (tCons (tVar 0) (tCons (tCB (fun xs H Q => ∃ p ys, xs = [.ref p] ∧ (SqL K H p ys ∨ SqT K H p ys) ∧ Q (.int ys.length) H) (tCons (tVar 1) tNil)) tNil))) [some (.ref p), some (.ref l)] H (IsZ fun r => 0 ≤ r ∧ r < (ws.length : Int)) := by
      have hw := hall.1
      exact evd_draw (m := (ws.length : Int)) rfl (fun H1 d1 => ev_lenL (ev_v rfl) (d1.bt _ _ hne hl)) (by omega) (by omega)
    refine ⟨.ref l, rfl, hd H Fd.refl f _ fun v H1 d1 f1 hv => ?_⟩
    obtain ⟨r, rfl, r0, r1⟩ := hv
    have hi : r.toNat < ws.length := by omega
    obtain ⟨q, hq1, hq2⟩ := hall.2 r.toNat ws[r.toNat] (List.getElem?_eq_getElem hi)
    refine ⟨l, ws, (r.toNat : Int), ws[r.toNat], rfl, by rw [Int.toNat_of_nonneg r0], .of (d1.bt _ _ hne hl), atI_nat (List.getElem?_eq_getElem hi), ?_⟩
    exact k q _ H1 (List.mem_of_getElem? hq1) d1 f1 (Mt.mt (K := K) d1.te hq2)
end
end Tk

set_option Elab.async false
set_option linter.all false
set_option maxRecDepth 100000
set_option maxHeartbeats 4000000
namespace Tk
open PySem L2 Ts
section
variable {P : Program} {w : World} {K : PySem.W.Frag} {mg : Str → Option Value} {base : Heap}

section
variable {p : Addr} {σ : L2.St} {H H' : Hp} {te ta tb : TE} {tr : TA} {P1' P2' P3' : P1} {nx bk ct : L2.St → Hp → Prop} {rt : VK} {i j l : Nat} {E : XK} {g : TG} {tbd : TS}
theorem evd_part {n : Int} (hi : σ[i]? = some (some (.ref p))) (h0 : 0 ≤ n) (h1 : n ≤ 4) : EvD K p (tCall (spPart K) [] E (tCons (tVar i) (tCons (tC (.int n)) tNil))) σ H (IsQz K 2 2) := fun H1 d f Q q =>
  ⟨_, hi, p, n, rfl, f, h0, h1, fun r v H2 hs d2 f2 hv => q v H2 d2 f2 ⟨r, hs, hv⟩⟩
theorem evd_rng {C : Int → Prop} {b : Int} (h : EvD K p te σ H (IsZ C)) (hb : ∀ r, C r → 0 ≤ r ∧ r ≤ b) (hb2 : b < 1000) (f : Feed p H)
    (k : ∀ (r : Nat) H1, (r : Int) ≤ b → Fd K p H H1 → Feed p H1 → ∃ Pv : Nat → L2.St → Hp → Prop, Pv 0 σ H1 ∧ (∀ i σ H, i < r → Pv i σ H → g (.int (i : Nat)) σ H fun σ2 H2 => tbd ⟨Pv (i + 1), rt, nx, Pv (i + 1)⟩ σ2 H2) ∧ ∀ σ H, Pv r σ H → nx σ H) : tFor (iRng1 (tCons te tNil)) g tbd ⟨nx, rt, bk, ct⟩ σ H :=
  h H Fd.refl f _ fun v H1 d1 f1 hv => by
    obtain ⟨z, rfl, hz⟩ := hv
    obtain ⟨z0, z1⟩ := hb z hz
    obtain ⟨Pv, h0, hs, hd⟩ := k z.toNat H1 (by omega) d1 f1
    have e62 : ((4611686018427387904 : Int)) = 2 ^ 62 := by decide
    refine ⟨z, rfl, by rw [← e62]; omega, by rw [← e62]; omega, for_it walk_range Pv h0 (fun _ _ _ _ _ => trivial) (fun i x σ H2 H3 hi hp hy => ?_) hd⟩
    obtain ⟨rfl, rfl⟩ := hy
    have hx : V.int (0 + ((i : Nat) : Int)) = V.int (i : Nat) := congrArg V.int (by omega)
    show g (V.int (0 + ((i : Nat) : Int))) σ _ _
    rw [hx]
    exact hs i σ _ hi hp
theorem par3D_go {t : TA} (h : EvDA K p t σ H [P1', P2', P3']) (f : Feed p H) (k : ∀ u v w H1, Fd K p H H1 → Feed p H1 → P1' u H1 → P2' v H1 → P3' w H1 → nx (((σ.set i (some u)).set j (some v)).set l (some w)) H1) : tPar3 i j l t ⟨nx, rt, bk, ct⟩ σ H := h H Fd.refl f _ fun vs H1 d1 f1 hf => by
  obtain ⟨u, v, w, rfl, h1, h2, h3⟩ := hf.three
  exact ⟨u, v, w, rfl, k u v w H1 d1 f1 h1 h2 h3⟩
end
theorem evd_any5 {p : Addr} {σ : L2.St} {H : Hp} {i : Nat} {E : XK} (hi : σ[i]? = some (some (.ref p))) {t1 t2 t3 t4 t5 : TE} {q1 q2 q3 q4 q5 : Rat} (h1 : ∀ H, Ev t1 σ H (IsQ K q1)) (h2 : ∀ H, Ev t2 σ H (IsQ K q2)) (h3 : ∀ H, Ev t3 σ H (IsQ K q3)) (h4 : ∀ H, Ev t4 σ H (IsQ K q4)) (h5 : ∀ H, Ev t5 σ H (IsQ K q5))
    (hz : ∀ q ∈ [q1, q2, q3, q4, q5], Sq 2 1 q) : EvD K p (tCall (spAny K) [] E (tCons (tVar i) (tCons (tLst (tCons t1 (tCons t2 (tCons t3 (tCons t4 (tCons t5 tNil)))))) tNil))) σ H (IsQz K 2 1) := fun H1 d f Q q => by
  have hl : Ev (tLst (tCons t1 (tCons t2 (tCons t3 (tCons t4 (tCons t5 tNil)))))) σ H1 (NewF H1 (IsQ K) [q1, q2, q3, q4, q5]) := by
    refine fun H2 e2 Q2 k2 => (ea_cons (h1 H2) (ea_cons (h2 H2) (ea_cons (h3 H2) (ea_cons (h4 H2) (ea_cons (h5 H2) ea_nil))))) H2 (Same.refl H2) _ fun vs H3 e3 ff => ?_
    obtain ⟨a1, vs1, rfl, x1, ff⟩ : ∃ a vs1, vs = a :: vs1 ∧ IsQ K q1 a H3 ∧ Fits [IsQ K q2, IsQ K q3, IsQ K q4, IsQ K q5] vs1 H3 := by
      cases vs with
      | nil => exact ff.elim
      | cons a b => exact ⟨a, b, rfl, ff.1, ff.2⟩
    obtain ⟨a2, vs2, rfl, x2, ff⟩ : ∃ a vs2, vs1 = a :: vs2 ∧ IsQ K q2 a H3 ∧ Fits [IsQ K q3, IsQ K q4, IsQ K q5] vs2 H3 := by
      cases vs1 with
      | nil => exact ff.elim
      | cons a b => exact ⟨a, b, rfl, ff.1, ff.2⟩
    obtain ⟨a3, a4, a5, rfl, x3, x4, x5⟩ := ff.three
    refine ⟨by show 5 ≤ sizeLine; decide, fun l np => k2 _ _ (e3.trans (same_new np)) ⟨l, _, rfl, upd_same, ?_, (e2.trans e3).free np⟩⟩
    have m : ∀ {q : Rat} {a : V}, IsQ K q a H3 → IsQ K q a (upd H3 l (.lst [a1, a2, a3, a4, a5])) := fun h => Mo.mo (same_new np) h
    exact All2.cons (m x1) (All2.cons (m x2) (All2.cons (m x3) (All2.cons (m x4) (All2.cons (m x5) All2.nil))))
  refine ⟨_, hi, hl H1 (Same.refl H1) _ fun v H2 e2 hv => ?_⟩
  obtain ⟨l, ws, rfl, hl2, hall, hfr⟩ := hv
  obtain ⟨c, cs, i, v, m, fa⟩ := f
  have hne : l ≠ p := fun z => by rw [z, fa.at_] at hfr; cases hfr
  exact ⟨p, l, ws, _, rfl, ⟨c, cs, i, v, m, fa.same e2⟩, hne, hl2, hall, by show 0 < 5; decide, by show 5 < 1000; decide, fun r w H3 hm d3 f3 hw => q w H3 (e2.fd.trans d3) f3 ⟨r, hz r hm, hw⟩⟩
def spRows (K : PySem.W.Frag) : Sp := fun vs H Q _ => ∃ (p : Addr) (n : Int), vs = [.ref p, .int n] ∧ Feed p H ∧ 0 ≤ n ∧ n ≤ 3 ∧ ∀ rs v H', Oks rs → RsSz 9 rs → rs.length ≤ 3 → Fd K p H H' → Feed p H' → NewL (IsRow K) rs v H' → Q v H'
theorem sc_law_rows : FnScope ["_law_feed_here", "_law_many", "_law_first_x", "_law_second_y", "_law_found", "_law_loose", "_law_k", "_law_a", "_law_b", "_law_c"] ["_law_feed_here", "_law_many"] (defScope s_law_rows) := ⟨rfl, rfl, rfl, by decide +kernel, rfl, by decide +kernel, by decide +kernel⟩
theorem ok_law_rows (S : Sr P base) (W : Wd K mg) : FnOk P w K mg base CX0 45 W.law_rows.f W.law_rows.fd ["_law_feed_here", "_law_many"] (spRows K) := by
  refine W.law_rows.F.ok sc_law_rows (fun vs H Q E h => ?_) (fun cdv A outer s H vs Q E hr h => ?_)
  · obtain ⟨p, n, rfl, _⟩ := h
    rfl
  · obtain ⟨p, n, rfl, f, h0, h1, k⟩ := h
    have hLL : LL = 33554432 := rfl
    refine ⟨_, (pss_cons (ps_par3 (i := 2) (j := 3) (l := 4) rfl sc_law_rows.nd rfl rfl rfl (by decide) (by decide) (by decide) rfl rfl rfl (pa_cons (pe_call (ok_law_part S W) (hr.mono (by decide)) rfl W.law_part.m W.law_part.k W.law_part.b .nil pass0 (pa_cons (pv 0) (pa_cons pe_int pa_nil))) (pa_cons (pe_call (ok_law_part S W) (hr.mono (by decide)) rfl W.law_part.m W.law_part.k W.law_part.b .nil pass0 (pa_cons (pv 0) (pa_cons pe_int pa_nil))) (pa_cons (pe_lst pa_nil) pa_nil))) (by rfl))
        (pss_cons (ps_set (i := 5) sc_law_rows.nd rfl (.inl rfl) (pe_cmpR op_eq (pe_call (ok_law_draw S W) (hr.mono (by decide)) rfl W.law_draw.m W.law_draw.k W.law_draw.b .nil pass0 (pa_cons (pv 0) (pa_cons pe_int pa_nil))) pe_int (nomark _)))
        (pss_cons (ps_for PassesOwn.never rfl (pi_range1 (by rfl) W.n_range (pa_cons (pe_call (ok_law_draw S W) (hr.mono (by decide)) rfl W.law_draw.m W.law_draw.k W.law_draw.b .nil pass0 (pa_cons (pv 0) (pa_cons (pe_op op_add (pv 1) pe_int) pa_nil))) pa_nil)) (pg_name (i := 6) sc_law_rows.nd rfl (.inl rfl)) (pss_cons (ps_par (i := 7) (j := 8) rfl sc_law_rows.nd rfl rfl (by decide) rfl rfl (pa_cons (pe_op op_sub (pe_call (ok_law_draw S W) (hr.mono (by decide)) rfl W.law_draw.m W.law_draw.k W.law_draw.b .nil pass0 (pa_cons (pv 0) (pa_cons pe_int pa_nil))) pe_int) (pa_cons (pe_op op_sub (pe_call (ok_law_draw S W) (hr.mono (by decide)) rfl W.law_draw.m W.law_draw.k W.law_draw.b .nil pass0 (pa_cons (pv 0) (pa_cons pe_int pa_nil))) pe_int) pa_nil)) (by rfl))
        (pss_cons (ps_set (i := 7) sc_law_rows.nd rfl (.inl rfl) (pe_ifExp (PW.pt (pw_and (pt_cmpR op_eq (pv 7) pe_int (nomark _)) (pw_and1 (pt_cmpR op_eq (pv 8) pe_int (nomark _))))) pe_int (pv 7)))
        (pss_cons (ps_set (i := 9) sc_law_rows.nd rfl (.inl rfl) (pe_call (ok_law_part S W) (hr.mono (by decide)) rfl W.law_part.m W.law_part.k W.law_part.b .nil pass0 (pa_cons (pv 0) (pa_cons pe_int pa_nil))))
        (pss_cons (ps_if (pt_not (pt_val (pv 5))) (pss_one (ps_set (i := 9) sc_law_rows.nd rfl (.inl rfl) (pe_call (ok_law_plus S W) (hr.mono (by decide)) rfl W.law_plus.m W.law_plus.k W.law_plus.b .nil pass0 (pa_cons (pe_call (ok_law_spot S W) (hr.mono (by decide)) rfl W.law_spot.m W.law_spot.k W.law_spot.b .nil pass0 (pa_cons (pv 7) (pa_cons (pv 8) (pa_cons (pe_tup (pa_cons (pv 2) (pa_cons (pv 3) pa_nil))) pa_nil)))) (pa_cons (pe_call (ok_law_any S W) (hr.mono (by decide)) rfl W.law_any.m W.law_any.k W.law_any.b .nil pass0 (pa_cons (pv 0) (pa_cons (pe_lst (pa_cons (pe_tup (pa_cons pe_int (pa_cons pe_int pa_nil))) (pa_cons (pe_tup (pa_cons pe_int (pa_cons pe_int pa_nil))) (pa_cons (pe_tup (pa_cons pe_int (pa_cons pe_int pa_nil))) (pa_cons (pe_tup (pa_cons pe_int (pa_cons pe_int pa_nil))) (pa_cons (pe_tup (pa_cons pe_int (pa_cons pe_int pa_nil))) pa_nil)))))) pa_nil))) pa_nil))))) pss_nil)
        (pss_one (ps_expr (pe_bm PySem.F.plainAttrs_list PySem.F.slot_list_append PySem.F.type_list_append mt_append (pv 4) (pa_cons (pe_tup (pa_cons (pv 7) (pa_cons (pv 8) (pa_cons (pv 9) pa_nil)))) pa_nil)))))))))
        (pss_one (ps_ret (pv 4)))))), ?_⟩
    obtain ⟨cF, csF, iF, vF, mF, fF⟩ := f
    have f : Feed p H := ⟨cF, csF, iF, vF, mF, fF⟩
    refine seq_go (par3D_go (p := p) (P1' := IsQz K 2 2) (P2' := IsQz K 2 2) (P3' := fun v H' => ∃ l, v = .ref l ∧ l ≠ p ∧ H l = none ∧ H' l = some (.lst [])) (evda_cons (evd_part rfl (by decide) (by decide)) (evda_cons (evd_part rfl (by decide) (by decide)) (fun H1 d1 f1 Q1 q1 => ⟨by show 0 ≤ sizeLine; decide, fun l np => q1 [.ref l] _ (Same.fd (same_new np)) (f1.same (same_new np)) ⟨?_, trivial⟩⟩))) f fun vx vy vl H1 d1 f1 hx hy hl => ?_)
    · obtain ⟨c1, cs1, i1, v1, m1, fa1⟩ := f1
      have hlp : l ≠ p := fun z => by rw [z, fa1.at_] at np; cases np
      refine ⟨l, rfl, hlp, ?_, upd_same⟩
      cases hH : H l with
      | none => rfl
      | some u =>
        have := d1.bt l u hlp hH
        rw [np] at this; cases this
    · obtain ⟨l, rfl, hlp, hl0, hl1⟩ := hl
      refine seq_go (setD_go (p := p) (P1' := fun v _ => ∃ b, v = .bl b) (fun H2 d2 f2 Q2 q2 => evd_draw (m := 4) rfl (fun H1 _ => ev_c) (by decide) (by decide) H2 d2 f2 _ fun v H3 d3 f3 hv => ?_) f1 fun v5 H2 d2 f2 h5 => ?_)
      · obtain ⟨r, rfl, _⟩ := hv
        exact ⟨rfl, q2 _ H3 d3 f3 ⟨_, rfl⟩⟩
      · obtain ⟨loose, rfl⟩ := h5
        refine seq_go (evd_rng (p := p) (b := 3) (evd_draw (m := n + 1) rfl (fun H1 _ => ev_i0 (i := n) (ev_v rfl) ev_c) (by omega) (by omega)) (fun r hr => by omega) (by decide) f2 fun r H3 hr d3 f3 => ?_)
        have d13 := d2.trans d3
        refine ⟨fun i σ H' => ∃ x6 x7 x8 x9 vs rs, σ = [some (.ref p), some (.int n), some vx, some vy, some (.ref l), some (.bl loose), x6, x7, x8, x9] ∧ Te K H1 H' ∧ (∀ a o, a ≠ p → a ≠ l → H1 a = some o → H' a = some o) ∧ Feed p H' ∧ (∃ r', H' p = some (.lst (.ref cF :: r'))) ∧ H' l = some (.lst vs) ∧ All2 (IsRow K) vs rs H' ∧ Oks rs ∧ RsSz 9 rs ∧ rs.length = i,
          ⟨none, none, none, none, [], [], rfl, d13.te, fun a o h1 _ h2 => d13.bt a o h1 h2, f3, (d1.trans d13).hd _ _ fF.at_, d13.bt _ _ hlp hl1, All2.nil, (fun r hr => nomatch hr), (fun r hr => nomatch hr), rfl⟩, fun i σ H4 hi q => ?_, fun σ H4 q => ?_⟩
        · obtain ⟨x6, x7, x8, x9, vs, rs, rfl, t4, b4, f4, ⟨rF, hF4⟩, hl4, hall, oR, zR, hlen⟩ := q
          have hvx : ∀ H5, Fd K p H4 H5 → IsQz K 2 2 vx H5 := fun H5 d5 => Mt.mt (K := K) (t4.trans d5.te) hx
          have hvy : ∀ H5, Fd K p H4 H5 → IsQz K 2 2 vy H5 := fun H5 d5 => Mt.mt (K := K) (t4.trans d5.te) hy
          have d7 : EvD K p (tOp (rI0 fun i j => .int (i - j)) (tCall (spDraw K) [] E0 (tCons (tVar 0) (tCons (tC (.int 7)) tNil))) (tC (.int 3))) [some (.ref p), some (.int n), some vx, some vy, some (.ref l), some (.bl loose), some (.int (i : Nat)), x7, x8, x9] H4 (IsZ fun z => -3 ≤ z ∧ z ≤ 3) := EvD.imp (evd_i0 (C := fun r => 0 ≤ r ∧ r < 7) (D := fun z => z = 3) (evd_draw (m := 7) rfl (fun H1 _ => ev_c) (by decide) (by decide)) (evd_z rfl fun H1 => ev_c)) fun v H1 hv => by
            obtain ⟨z, e, i, j, ⟨c1, c2⟩, c3, c4⟩ := hv
            exact ⟨z, e, by omega, by omega⟩
          refine seq_go (parD_go (p := p) (evda_cons d7 (evda_cons d7 evda_nil)) f4 fun va vb H5 d5 f5 ha hb => ?_)
          obtain ⟨a, rfl, a1, a2⟩ := ha
          obtain ⟨b, rfl, b1, b2⟩ := hb
          refine seq_go (set_go (P := IsV (.int (if a = 0 ∧ b = 0 then 1 else a))) (ev_if (b := decide (a = 0) && decide (b = 0)) (et_and (et_val (ev_eqI (i := a) (ev_v rfl) ev_c)) fun _ => et_val (ev_eqI (i := b) (ev_v rfl) ev_c)) (fun hz => ?_) fun hz => ?_) fun v6 H6 s6 h6 => ?_)
          · have : a = 0 ∧ b = 0 := by simpa using hz
            rw [if_pos this]; exact ev_c
          · have : ¬ (a = 0 ∧ b = 0) := by simpa using hz
            rw [if_neg this]; exact ev_v rfl
          cases h6
          generalize ha' : (if a = 0 ∧ b = 0 then 1 else a) = a'
          have ok' : (a' ≠ 0 ∨ b ≠ 0) ∧ -3 ≤ a' ∧ a' ≤ 3 := by
            rw [← ha']
            split
            · exact ⟨.inl (by decide), by decide, by decide⟩
            · rename_i hn
              refine ⟨?_, a1, a2⟩
              by_cases z : a = 0
              · exact .inr fun z2 => hn ⟨z, z2⟩
              · exact .inl z
          have f6 := f5.same s6
          have d6 : Fd K p H4 H6 := d5.trans s6.fd
          refine seq_go (setD_go (p := p) (evd_part rfl (by decide) (by decide)) f6 fun v7 H7 e7 f7 h7 => ?_)
          have d7' := d6.trans e7
          refine seq_go (join_go (M := fun σ' H' => ∃ vc, σ' = [some (.ref p), some (.int n), some vx, some vy, some (.ref l), some (.bl loose), some (.int (i : Nat)), some (.int a'), some (.int b), some vc] ∧ Fd K p H4 H' ∧ Feed p H' ∧ IsQz K 9 9 vc H') (fun σ' H8 hM => ?_) fun nx' hnx => ?_)
          · obtain ⟨vc, rfl, d8, f8, qc, zc, hc⟩ := hM
            have hl8 := d8.bt _ _ hlp hl4
            have hall8 := All2.te (K := K) hall d8.te
            have hvl : vs.length < sizeLine := by
              have h1 := hall.1
              have h2 : sizeLine = 16777216 := rfl
              omega
            refine append_go rfl hl8 hvl (ev_mkRow (r := ⟨a', b, qc⟩) (ev_v rfl) (ev_v rfl) (ev_var rfl hc)) fun v9 H9 s9 h9 => ?_
            have hl9 := s9 _ _ hl8
            refine ⟨_, _, _, _, vs ++ [v9], rs ++ [⟨a', b, qc⟩], rfl, t4.trans (d8.te.trans (s9.te.trans (te_lst hl9))), fun a o n1 n2 h => by rw [upd_ne n2]; exact s9 _ _ (d8.bt a o n1 (b4 a o n1 n2 h)), ?_, ?_, upd_same, All2.te (K := K) ((hall8.mo s9).snoc h9) (te_lst hl9), fun r hr => ?_, fun r hr => ?_, by rw [List.length_append, hlen]; rfl⟩
            · obtain ⟨c1, cs1, i1, v1, m1, fa⟩ := f8.same s9
              obtain ⟨r9, hr9⟩ := (d8.trans s9.fd).hd _ _ hF4
              have hc1 : c1 ≠ l := fun z => by
                rw [fa.at_] at hr9
                cases hr9
                rw [z] at fF
                rw [fF.cells] at hl0
                cases hl0
              exact ⟨c1, cs1, i1, v1, m1, by rw [upd_ne (Ne.symm hlp)]; exact fa.at_, fa.ne, by rw [upd_ne hc1]; exact fa.cells, fa.pos⟩
            · obtain ⟨r9, hr9⟩ := (d8.trans s9.fd).hd _ _ hF4
              exact ⟨r9, by rw [upd_ne (Ne.symm hlp)]; exact hr9⟩
            · rcases List.mem_append.mp hr with hr | hr
              · exact oR r hr
              · rw [List.mem_singleton.mp hr]; exact ok'.1
            · rcases List.mem_append.mp hr with hr | hr
              · exact zR r hr
              · rw [List.mem_singleton.mp hr]
                refine ⟨?_, ?_, zc⟩
                · unfold Sz; show a'.natAbs ≤ 512; omega
                · unfold Sz; show b.natAbs ≤ 512; omega
          · refine if_go (b := !loose) (et_not (et_B (b := loose) (ev_v rfl))) (fun hb H8 s8 => ?_) fun hb H8 s8 => nil_go ?_
            · have d8 := d7'.trans s8.fd
              have f8 := f7.same s8
              refine setD_go (p := p) (P1' := IsQz K 9 9) (evd_call (Ps := [IsQz K 7 4, IsQz K 2 1]) (evda_cons (evd_of fun H9 e9 => ?_) (evda_cons (evd_any5 (q1 := 0) (q2 := 0) (q3 := 1) (q4 := 3) (q5 := 1 / 2) rfl (fun H => ev_mkQ ev_c ev_c rfl rfl) (fun H => ev_mkQ ev_c ev_c rfl rfl) (fun H => ev_mkQ ev_c ev_c rfl rfl) (fun H => ev_mkQ ev_c ev_c rfl rfl) (fun H => ev_mkQ (i := 1) (j := 2) ev_c ev_c (by decide +kernel) (by decide +kernel)) (by unfold Sq Sz; decide +kernel)) evda_nil)) fun vs1 H9 ff => ?_) f8 fun v9 H9 e9 f9 h9 => hnx _ _ ⟨v9, rfl, d8.trans e9, f9, h9⟩
              · obtain ⟨qx, sx, ex⟩ := hvx H9 (d8.trans e9)
                obtain ⟨qy, sy, ey⟩ := hvy H9 (d8.trans e9)
                have za : Sz 2 a' := by unfold Sz; show a'.natAbs ≤ 4; omega
                have zb : Sz 2 b := by unfold Sz; show b.natAbs ≤ 4; omega
                refine Ev.imp (ev_call (P := IsQ K (dt a' b (qx, qy))) (ea_cons (ev_v rfl) (ea_cons (ev_v rfl) (ea_cons (ev_mkPt (x := qx) (y := qy) (ev_var rfl ex) (ev_var rfl ey)) ea_nil))) fun vs H1 _ f => ⟨2, a', b, (qx, qy), f, za, zb, ⟨sx, sy⟩, by omega, rfl⟩) fun v H1 _ h => ⟨_, ?_, h⟩
                exact (((Sq.int (d := 0) za).mul sx).add ((Sq.int (d := 0) zb).mul sy)).mono (by omega) (by omega)
              · obtain ⟨x, y, rfl, ⟨qx, sx, ex⟩, ⟨qy, sy, ey⟩⟩ := ff.two
                exact ⟨_, ⟨qx, qy, ⟨ex, ey, trivial⟩, sx.mono (by omega) (by omega), sy.mono (by omega) (by omega), rfl⟩, fun v H2 hv => ⟨_, (sx.add sy).mono (by omega) (by omega), hv⟩⟩
            · obtain ⟨qc, zc, hc⟩ := h7
              exact hnx _ _ ⟨v7, rfl, d7'.trans s8.fd, f7.same s8, qc, zc.mono (by decide) (by decide), Mo.mo s8 hc⟩
        · obtain ⟨x6, x7, x8, x9, vs, rs, rfl, t4, b4, f4, ⟨rF, hF4⟩, hl4, hall, oR, zR, hlen⟩ := q
          refine ret_go (P := NewL (IsRow K) rs) (ev_var rfl ⟨l, vs, rfl, hl4, hall⟩) fun v H5 s5 h5 => k rs v H5 oR zR (by omega) ⟨fun a o n h => ?_, d1.te.trans (t4.trans s5.te), fun c r z => ?_⟩ (f4.same s5) h5
          · exact s5 _ _ (b4 a o n (fun z => by rw [z, hl0] at h; cases h) (d1.bt a o n h))
          · rw [fF.at_] at z
            cases z
            exact ⟨rF, s5 _ _ hF4⟩
end
end Tk

set_option Elab.async false
set_option linter.all false
set_option maxRecDepth 100000
set_option maxHeartbeats 4000000
namespace Tk
open PySem L2 Ts
section
variable {P : Program} {w : World} {K : PySem.W.Frag} {mg : Str → Option Value} {base : Heap}

/-! ### sizes of figures -/
theorem shape_len' (f : List Row) : (shape f).length ≤ max f.length 4 := by
  unfold shape
  split
  · rw [byDir_len]
    rename_i l e
    have := line_len f l
    omega
  · rw [byDir_len]
    have := prune_len f f
    omega
theorem mk_fz {n m : Nat} {rs : List Row} (ho : Oks rs) (hz : RsSz n rs) (hl : rs.length ≤ m) : Fz (16 * n + 4) (max m 4) (canonical rs) := by
  refine ⟨isFig ho, ?_, ?_⟩
  · cases e : canonical rs with
    | none => exact fun r hr => nomatch hr
    | some cs => exact canonical_sz ho hz e
  · cases e : canonical rs with
    | none => exact Nat.zero_le _
    | some cs =>
      unfold canonical at e
      split at e
      · cases e
      · rename_i f hf
        cases e
        have h1 := kept_len _ _ f hf
        have h2 := shape_len' f
        simp only [List.length_map, List.length_nil, Nat.zero_add] at h1
        show (shape f).length ≤ max m 4
        omega
theorem none_fz {n m : Nat} : Fz n m none := ⟨none_isFig, (fun r hr => nomatch hr), Nat.zero_le _⟩
theorem plane_fz {n m : Nat} (h : 4 ≤ m) (h2 : 4 ≤ n) : Fz n m fplane := (mk_fz (n := 0) (m := 0) nil_oks (fun r hr => nomatch hr) (Nat.le_refl _)).mono (by omega) (by omega)
theorem mul_fz {n m m' k : Nat} {A B : Fig} (hA : Fz n m A) (hB : Fz n m' B) (hk : m + m' ≤ k) (h4 : 4 ≤ k) : Fz (16 * n + 4) k (fmul A B) := by
  cases A with
  | none => exact none_fz
  | some a =>
    cases B with
    | none => exact none_fz
    | some b =>
      have l1 : a.length ≤ m := hA.len
      have l2 : b.length ≤ m' := hB.len
      exact (mk_fz (m := k) (rs := a ++ b) (oks_append hA.oks hB.oks) (fun r hr => (List.mem_append.mp hr).elim (hA.sz r) (hB.sz r)) (by rw [List.length_append]; omega)).mono (Nat.le_refl _) (by omega)
theorem add_fz {n m1 m2 k : Nat} {A B : Fig} (hA : Fz n m1 A) (hB : Fz n m2 B) (hk : m1 + m2 + 2 * ((m2 * m2) * (m1 * m1)) ≤ k) (h4 : 4 ≤ k) : Fz (336 * n + 132) k (fadd A B) := by
  cases A with
  | none => exact hB.mono (by omega) (by omega)
  | some a =>
    cases B with
    | none => exact hA.mono (by omega) (by omega)
    | some b =>
      have lA : a.length ≤ m1 := hA.len
      have lB : b.length ≤ m2 := hB.len
      have cA := corners_len a
      have cB := corners_len b
      have l1 : a.length * a.length ≤ m1 * m1 := Nat.mul_le_mul lA lA
      have l2 : b.length * b.length ≤ m2 * m2 := Nat.mul_le_mul lB lB
      have l3 : (cornersOf b).length * (cornersOf a).length ≤ (m2 * m2) * (m1 * m1) := Nat.mul_le_mul (Nat.le_trans cB l2) (Nat.le_trans cA l1)
      have l4 : 2 * (cornersOf b).length * (cornersOf a).length ≤ 2 * ((m2 * m2) * (m1 * m1)) := by rw [Nat.mul_assoc]; exact Nat.mul_le_mul_left _ l3
      have hl := Nat.le_trans (hull_len a b) (directions_len a b)
      exact (mk_fz (m := k) (rs := hullRows a b) (hull_ok hA.oks hB.oks) (hull_sz hA.oks hB.oks hA.sz hB.sz) (by omega)).mono (by omega) (by omega)
theorem turn_fz {n m : Nat} {A : Fig} (hA : Fz n m A) (h4 : 4 ≤ m) : Fz (16 * n + 4) m (fturn A) := by
  cases A with
  | none => exact none_fz
  | some a =>
    have lA : a.length ≤ m := hA.len
    refine (mk_fz (n := n) (m := m) (rs := a.map swapRow) (fun r hr => ?_) (fun r hr => ?_) (by rw [List.length_map]; exact lA)).mono (Nat.le_refl _) (by omega)
    · obtain ⟨d, hd, rfl⟩ := List.mem_map.mp hr
      exact (hA.oks d hd).symm
    · obtain ⟨d, hd, rfl⟩ := List.mem_map.mp hr
      have z := hA.sz d hd
      exact ⟨z.2.1, z.1, z.2.2⟩
/-! ### displays of many, pairs -/
theorem fits_all {α : Type} {R : α → P1} {H : Hp} : ∀ (xs : List α) (vs : List V), Fits (xs.map R) vs H → All2 R vs xs H
  | [], [], _ => All2.nil
  | x :: xs, v :: vs, h => All2.cons h.1 (fits_all xs vs h.2)
  | [], _ :: _, h => h.elim
  | _ :: _, [], h => h.elim
section
variable {σ : L2.St} {H H' : Hp} {te ta tb : TE} {t : TA} {E : XK} {C : Addr} {i j : Nat}
theorem ev_listL {α : Type} {R : α → P1} [∀ x, Mo (R x)] {xs : List α} (h : EvA t σ H (xs.map R)) (hl : xs.length ≤ 1000) : Ev (tLst t) σ H (NewL R xs) :=
  ev_lst h (by rw [List.length_map]; exact hl) fun vs p H1 f np => ⟨p, vs, rfl, upd_same, (fits_all xs vs f).mo (same_new np)⟩
def IsPair (K : PySem.W.Frag) (C : Addr) (fg : Fig × Fig) : P1 := fun v H => ∃ a x y, v = .ref a ∧ SqT K H a [x, y] ∧ IsF K C fg.1 x H ∧ IsF K C fg.2 y H
instance (fg : Fig × Fig) : Mo (IsPair K C fg) := ⟨fun e ⟨a, x, y, h1, h2, h3, h4⟩ => ⟨a, x, y, h1, e.te _ _ h2, Mo.mo e h3, Mo.mo e h4⟩⟩
theorem ev_pair {F G : Fig} (ha : Ev ta σ H (IsF K C F)) (hb : Ev tb σ H (IsF K C G)) : Ev (tTup (tCons ta (tCons tb tNil))) σ H (IsPair K C (F, G)) :=
  ev_tup (ea_cons ha (ea_cons hb ea_nil)) (by show 2 ≤ 1000; decide) fun vs p H1 f np => by
    obtain ⟨v, w, rfl, h1, h2⟩ := f.two
    exact ⟨p, v, w, rfl, .of upd_same, Mo.mo (same_new np) h1, Mo.mo (same_new np) h2⟩
theorem pair_tg {fg : Fig × Fig} {v : V} {Q : L2.St → Hp → Prop} (h : IsPair K C fg v H) (k : ∀ x y, IsF K C fg.1 x H → IsF K C fg.2 y H → Q ((σ.set i (some x)).set j (some y)) H) : gTup K 2 (gCons (gName i) (gCons (gName j) gNil)) v σ H Q := by
  obtain ⟨a, x, y, rfl, h1, h2, h3⟩ := h
  exact ⟨a, _, rfl, h1, rfl, _, _, rfl, _, _, rfl, rfl, k x y h2 h3⟩
/-- a figure stays while the feed is drawn from -/
theorem isF_fd {p : Addr} {F : Fig} {v : V} (f : Feed p H) (d : Fd K p H H') (h : IsF K C F v H) : IsF K C F v H' := by
  obtain ⟨c, cs, i, w, m, fa⟩ := f
  obtain ⟨a, dx, l, ws, rfl, h2, h3, h4⟩ := h
  refine ⟨a, dx, l, ws, rfl, d.bt _ _ (fun z => by rw [z, fa.at_] at h2; cases h2) h2, d.bt _ _ (fun z => ?_) h3, All2.te (K := K) h4 d.te⟩
  rw [z, fa.at_] at h3
  cases h3
  obtain ⟨r, _, a', c', e, _⟩ := h4.2 1 (.int i) rfl
  cases e
end
/-! ### the feed is made -/
def spFeed (K : PySem.W.Frag) : Sp := fun vs H Q _ => ∃ (a : Addr) (ns : List Int), vs = [.ref a] ∧ SqL K H a (ns.map V.int) ∧ ns.length ≤ 63 ∧ ∀ p H', Same H H' → Feed p H' → Q (.ref p) H'
theorem cut63 (xs : List V) : cutV xs none (some 63) = xs.take 63 := by
  unfold cutV
  have e1 : HT.sIx xs.length 0 none = 0 := rfl
  have e2 : HT.sIx xs.length xs.length (some 63) = min 63 xs.length := by
    show (if (63 : Int) < 0 then ((63 : Int) + (xs.length : Int)).toNat else min (63 : Int).toNat xs.length) = min 63 xs.length
    rw [if_neg (by decide)]; rfl
  rw [e1, e2]
  simp
/-- the list at c, its items known -/
def IsC (c : Addr) (xs : List V) : P1 := fun v H => v = .ref c ∧ H c = some (.lst xs)
instance (c : Addr) (xs : List V) : Mo (IsC c xs) := ⟨fun e h => ⟨h.1, e _ _ h.2⟩⟩
theorem fits_four {A B C D : P1} {vs : List V} {H : Hp} (h : Fits [A, B, C, D] vs H) : ∃ a b c d, vs = [a, b, c, d] ∧ A a H ∧ B b H ∧ C c H ∧ D d H := by
  cases vs with
  | nil => exact h.elim
  | cons a vs =>
    obtain ⟨b, c, d, rfl, h1, h2, h3⟩ := Fits.three h.2
    exact ⟨a, b, c, d, rfl, h.1, h1, h2, h3⟩
theorem all2_ints {vs : List V} {zs : List Int} {H : Hp} (h : All2 IsI vs zs H) : vs = zs.map V.int := by
  refine List.ext_getElem? fun i => ?_
  rw [List.getElem?_map]
  cases e : vs[i]? with
  | none =>
    have : zs[i]? = none := List.getElem?_eq_none_iff.mpr (by rw [← h.1]; exact List.getElem?_eq_none_iff.mp e)
    rw [this]; rfl
  | some x =>
    obtain ⟨z, e1, e2⟩ := h.2 i x e
    rw [e1]
    exact congrArg some e2

theorem sc_law_feed : FnScope ["_law_script", "_law_cells", "_law_mark", "_law_cell"] ["_law_script"] (defScope s_law_feed) := ⟨rfl, rfl, rfl, by decide +kernel, rfl, by decide +kernel, by decide +kernel⟩
theorem ok_law_feed (S : Sr P base) (W : Wd K mg) : FnOk P w K mg base CX0 1 W.law_feed.f W.law_feed.fd ["_law_script"] (spFeed K) := by
  refine W.law_feed.F.ok sc_law_feed (fun vs H Q E h => ?_) (fun cdv A outer s H vs Q E hr h => ?_)
  · obtain ⟨a, ns, rfl, _⟩ := h
    rfl
  · obtain ⟨a, ns, rfl, hS, hlen, k⟩ := h
    refine ⟨_, (pss_cons (ps_setLc (i := 1) (own := [("_law_cell", 3)]) rfl sc_law_feed.nd rfl rfl (sw_true rfl rfl rfl (by decide +kernel)) (pi_list (pe_slice sl_list (pv 0) po_none (po_some pe_int))) (blkOk_by (N := ["_law_script", "_law_cells", "_law_mark", "_law_cell"]) (sc := defScope s_law_feed) (by decide +kernel)) (fun _ _ _ _ _ => (pg_name (i := 3) sc_law_feed.nd rfl (.inl rfl))) (fun _ _ _ _ _ => pts_nil) (fun _ _ _ _ _ => (pe_callTy call_int1 (by rfl) W.n_int (by decide +kernel) (pa_cons (pv 3) pa_nil))))
        (pss_cons (ps_set (i := 2) sc_law_feed.nd rfl (.inl rfl) (pe_op op_add pe_int (pe_op op_mul pe_int (pe_callB call_len_seq (by rfl) W.n_len (by decide +kernel) (pa_cons (pv 1) pa_nil)))))
        (pss_cons (ps_for PassesOwn.never rfl (pi_list (pv 1)) (pg_name (i := 3) sc_law_feed.nd rfl (.inl rfl)) (pss_one (ps_set (i := 2) sc_law_feed.nd rfl (.inl rfl) (pe_op op_modN (pe_callTy call_int1 (by rfl) W.n_int (by decide +kernel) (pa_cons (pe_op op_add (pe_op op_mul (pv 2) pe_int) (pv 3)) pa_nil)) pe_int))))
        (pss_one (ps_ret (pe_lst (pa_cons (pv 1) (pa_cons pe_int (pa_cons pe_int (pa_cons (pv 2) pa_nil)))))))))), ?_⟩
    have hall : All2 IsI (ns.map V.int) ns H := ⟨by simp, fun i v q => by
      rw [List.getElem?_map] at q
      cases e : ns[i]? with
      | none => rw [e] at q; cases q
      | some z => rw [e] at q; cases q; exact ⟨z, rfl, rfl⟩⟩
    have hsl : Ev (tSl (rSlL K) (tVar 0) tNoPart (tPart (tC (.int 63)))) [some (.ref a), none, none, none] H (NewL IsI ns) := fun H1 e1 Q q =>
      ⟨_, rfl, 63, rfl, a, _, rfl, e1.seq hS, fun l nl => q _ _ (same_new nl) ⟨l, _, rfl, upd_same, by
        rw [cut63, List.take_of_length_le (by simpa using hlen)]
        exact hall.mo (e1.trans (same_new nl))⟩⟩
    refine seq_go (set_go (comp_list (K := K) (S := IsI) (R := IsI) (ds := ns) (fun z => some z) (Ev.imp hsl fun v H _ h => h.isL) (Nat.lt_of_le_of_lt hlen (by decide)) (fun _ _ _ _ _ h q => tg_name_mono h q) fun d x H3 hd hx e3 => ⟨rfl, rfl, et_yes, ev_intI (ev_var rfl hx)⟩) fun v1 H1 s1 h1 => ?_)
    rw [filterMap_some, List.map_id'] at h1
    obtain ⟨c, vs, rfl, hc, hall1⟩ := h1
    cases all2_ints hall1
    refine seq_go (set_go (P := fun v _ => ∃ z, v = .int z) (Ev.imp (ev_i0 (i := 3834) ev_c (ev_i (i := 53) ev_c (ev_lenL (ev_v rfl) hc) (Or.inl (by decide)))) fun v H _ h => ⟨_, h⟩) fun v2 H2 s2 h2 => ?_)
    obtain ⟨z, rfl⟩ := h2
    have hc2 := s2 _ _ hc
    refine seq_go (listv_go (xs := ns.map V.int) (a := c) (ev_v rfl) (.of hc2) fun H3 s3 => ?_)
    refine ⟨fun i σ H' => ∃ z x3, σ = [some (.ref a), some (.ref c), some (.int z), x3] ∧ Same H2 H', ⟨z, _, rfl, s3⟩, fun i σ H4 _ q => ?_, fun i x σ H4 v H5 hi q hy => ?_, fun σ H4 q => ?_⟩
    · obtain ⟨z, x3, rfl, e4⟩ := q
      exact .of (e4 _ _ hc2)
    · obtain ⟨z, x3, rfl, e4⟩ := q
      obtain ⟨rfl, rfl⟩ := hy
      obtain ⟨y, rfl⟩ : ∃ y, v = V.int y := by
        rw [List.getElem?_map] at hi
        cases e : ns[i]? with
        | none => rw [e] at hi; cases hi
        | some y => rw [e] at hi; cases hi; exact ⟨y, rfl⟩
      refine set_go (P := IsI ((z * 8117 + y) % 2147483629)) (ev_modC (ev_intI (ev_i0 (i := z * 8117) (ev_mulC (i := z) (ev_v rfl) ev_c (by decide)) (ev_v rfl))) ev_c (by decide)) fun v6 H6 s6 h6 => ?_
      cases h6
      exact ⟨_, _, rfl, e4.trans s6⟩
    · obtain ⟨z, x3, rfl, e4⟩ := q
      have e04 : Same H H4 := s1.trans (s2.trans e4)
      refine ret_go (P := fun v H' => ∃ p, v = .ref p ∧ Feed p H') (ev_lst (Ps := [IsC c (ns.map V.int), IsV (.int 0), IsV (.int 0), IsV (.int z)]) (ea_cons (ev_var rfl ⟨rfl, e4 _ _ hc2⟩) (ea_cons ev_c (ea_cons ev_c (ea_cons (ev_v rfl) ea_nil)))) (by show 4 ≤ 1000; decide) fun vs p H1 f np => ?_) fun v H5 s5 h5 => ?_
      · obtain ⟨a1, a2, a3, a4, rfl, ⟨rfl, b1⟩, rfl, rfl, rfl⟩ := fits_four f
        have hne : c ≠ p := fun z => by rw [z, np] at b1; cases b1
        exact ⟨p, rfl, c, ns, 0, 0, z, upd_same, hne, by rw [upd_ne hne]; exact b1, by decide⟩
      · obtain ⟨p, rfl, hf⟩ := h5
        exact k p H5 (e04.trans s5) hf
end
end Tk

set_option Elab.async false
set_option linter.all false
set_option maxRecDepth 100000
set_option maxHeartbeats 4000000
namespace Tk
open PySem L2 Ts
section
variable {P : Program} {w : World} {K : PySem.W.Frag} {mg : Str → Option Value} {base : Heap}

theorem r_mul (S : Sr P base) (W : Wd K mg) (Z : We W) : FnR P w K mg base CX0 51 W.m_mul.f (SpF (rMul K W.C)) := FnR.imp ((ok_m_mul S W Z).raw W.m_mul.b .nil) fun vs H Q E h => by
  show SpF (rMul K W.C) (vs ++ []) H Q E
  rw [List.append_nil]; exact h
theorem r_add (S : Sr P base) (W : Wd K mg) : FnR P w K mg base CX0 50 W.m_add.f (SpF (rAdd K W.C)) := FnR.imp ((ok_m_add S W).raw W.m_add.b .nil) fun vs H Q E h => by
  show SpF (rAdd K W.C) (vs ++ []) H Q E
  rw [List.append_nil]; exact h
theorem r_eq (S : Sr P base) (W : Wd K mg) (Z : We W) : FnR P w K mg base CX0 1 W.m_eq.f (SpF (rEqF K W.C)) := FnR.imp ((ok_m_eq S W Z).raw W.m_eq.b .nil) fun vs H Q E h => by
  show SpF (rEqF K W.C) (vs ++ []) H Q E
  rw [List.append_nil]; exact h
theorem r_le (S : Sr P base) (W : Wd K mg) : FnR P w K mg base CX0 46 W.m_le.f (SpF (rLeF K W.C)) := FnR.imp ((ok_m_le S W).raw W.m_le.b .nil) fun vs H Q E h => by
  show SpF (rLeF K W.C) (vs ++ []) H Q E
  rw [List.append_nil]; exact h
theorem r_in (S : Sr P base) (W : Wd K mg) : FnR P w K mg base CX0 46 W.m_contains.f (SpF (rIn K W.C)) := FnR.imp ((ok_m_contains S W).raw W.m_contains.b .nil) fun vs H Q E h => by
  show SpF (rIn K W.C) (vs ++ []) H Q E
  rw [List.append_nil]; exact h
section
variable {W : Wd K mg} {σ : L2.St} {H H' : Hp} {te ta tb : TE} {t : TA} {E : XK} {A B D : Fig} {n m m1 m2 : Nat} {P2 : P1}
theorem ev_meth {R : List V → Hp → P1 → Prop} {C : Addr} {x : Str} (ha : Ev ta σ H (IsF K C A)) (hm : ∀ b l : V, ([("void", b), ("lines", l)] : List (Str × V)).lookup x = none) (hs : ∀ v H1, Fits [IsF K C A] [v] H1 → R [v] H1 P2) : Ev (tMeth C x (SpF R) [] E ta tNil) σ H P2 := fun H1 e1 Q q =>
  ha H1 e1 _ fun v H2 e2 hv => by
    have r := hs v H2 ⟨hv, trivial⟩
    obtain ⟨a, dx, l, ws, rfl, h2, h3, h4⟩ := hv
    exact ⟨a, dx, _, rfl, h2, hm _ _, P2, r, fun u H3 e3 hu => q u H3 (e2.trans e3) hu⟩
theorem ev_mulF (ha : Ev ta σ H (IsF K W.C A)) (hb : Ev tb σ H (IsF K W.C B)) (zA : Fz n m A) (zB : Fz n m B) (hn : 17 * n + 100 ≤ LL) (hm : 2 * m + 10 < sizeLine) : Ev (tOp (rOwnB W.C (SpF (rMul K W.C)) E) ta tb) σ H (IsF K W.C (fmul A B)) :=
  ev_ownB ha hb fun vs H1 _ f => ⟨n, m, A, B, f, zA, zB, hn, hm, rfl⟩
theorem ev_addF (ha : Ev ta σ H (IsF K W.C A)) (hb : Ev tb σ H (IsF K W.C B)) (zA : Fz n m1 A) (zB : Fz n m2 B) (hn : 357 * n + 300 ≤ LL) (h : m1 * m1 + m1 + 10 < sizeLine ∧ m2 * m2 + m2 + 10 < sizeLine ∧ m1 + m2 + 2 * ((m2 * m2) * (m1 * m1)) + 10 < sizeLine) : Ev (tOp (rOwnB W.C (SpF (rAdd K W.C)) E) ta tb) σ H (IsF K W.C (fadd A B)) :=
  ev_ownB ha hb fun vs H1 _ f => ⟨n, m1, m2, A, B, f, zA, zB, hn, h.1, h.2.1, h.2.2, rfl⟩
theorem ev_eqF (ha : Ev ta σ H (IsF K W.C A)) (hb : Ev tb σ H (IsF K W.C B)) : Ev (tOp (rOwnB W.C (SpF (rEqF K W.C)) E) ta tb) σ H (IsB (decide (A = B))) := ev_ownB ha hb fun vs H1 _ f => ⟨A, B, f, rfl⟩
theorem ev_leF (ha : Ev ta σ H (IsF K W.C A)) (hb : Ev tb σ H (IsF K W.C B)) (zA : Fz n m A) (zB : Fz n m B) (hn : 17 * n + 100 ≤ LL) (hm : m < sizeLine) : Ev (tOp (rOwnB W.C (SpF (rLeF K W.C)) E) ta tb) σ H (IsB (fle A B)) :=
  ev_ownB ha hb fun vs H1 _ f => ⟨n, m, A, B, f, zA, zB, hn, hm, rfl⟩
theorem ev_turnF (ha : Ev ta σ H (IsF K W.C A)) (zA : Fz n m A) (hn : 17 * n + 100 ≤ LL) (hm : m + 10 < sizeLine) : Ev (tMeth W.C "turned" (SpF (rTurnF K W.C)) [] E ta tNil) σ H (IsF K W.C (fturn A)) :=
  ev_meth ha (fun _ _ => rfl) fun v H1 f => ⟨n, m, A, f, zA, hn, hm, rfl⟩
theorem ev_rowsF (ha : Ev ta σ H (IsF K W.C A)) : Ev (tMeth W.C "rows" (SpF (rRowsF K W.C)) [] E ta tNil) σ H (NewL (IsRow K) (A.getD [])) := ev_meth ha (fun _ _ => rfl) fun v H1 f => ⟨A, f, rfl⟩
theorem ev_noneF {C : Addr} : Ev (tCall (SpF (rNothing K C)) [] E tNil) σ H (IsF K C none) := ev_static fun H1 => ⟨rfl, rfl⟩
end
/-- the three figures, in their slots -/
structure Abc (K : PySem.W.Frag) (C : Addr) (A B D : Fig) (σ : L2.St) (H : Hp) : Prop where
  a : ∃ v, σ[3]? = some (some v) ∧ IsF K C A v H
  b : ∃ v, σ[4]? = some (some v) ∧ IsF K C B v H
  d : ∃ v, σ[5]? = some (some v) ∧ IsF K C D v H
section
variable {C : Addr} {A B D : Fig} {σ : L2.St} {H H' : Hp}
theorem Abc.mo (h : Abc K C A B D σ H) (e : Same H H') : Abc K C A B D σ H' := ⟨let ⟨v, h1, h2⟩ := h.a; ⟨v, h1, Mo.mo e h2⟩, let ⟨v, h1, h2⟩ := h.b; ⟨v, h1, Mo.mo e h2⟩, let ⟨v, h1, h2⟩ := h.d; ⟨v, h1, Mo.mo e h2⟩⟩
theorem Abc.ea (h : Abc K C A B D σ H) : Ev (tVar 3) σ H (IsF K C A) := let ⟨_, h1, h2⟩ := h.a; ev_var h1 h2
theorem Abc.eb (h : Abc K C A B D σ H) : Ev (tVar 4) σ H (IsF K C B) := let ⟨_, h1, h2⟩ := h.b; ev_var h1 h2
theorem Abc.ed (h : Abc K C A B D σ H) : Ev (tVar 5) σ H (IsF K C D) := let ⟨_, h1, h2⟩ := h.d; ev_var h1 h2
end
/-! the pairs -/
def pairs1 (A B D : Fig) : List (Fig × Fig) := [(fmul A B, fmul B A), (fadd A B, fadd B A), (fmul (fmul A B) D, fmul A (fmul B D)), (fadd (fadd A B) D, fadd A (fadd B D)), (fmul A A, A), (fadd A A, A)]
def pairs2 (A : Fig) : List (Fig × Fig) := [(fmul A fplane, A), (fadd A none, A), (fmul A none, none), (fadd A fplane, fplane)]
def pairs3 (A B : Fig) : List (Fig × Fig) := [(fturn (fadd A B), fadd (fturn A) (fturn B)), (fturn (fmul A B), fmul (fturn A) (fturn B)), (fadd A (fmul A B), A)]
theorem pairs_eq {A B D : Fig} (hA : IsFig A) (hB : IsFig B) (hD : IsFig D) : ∀ fg ∈ (pairs1 A B D ++ pairs2 A) ++ pairs3 A B, fg.1 = fg.2 := by
  intro fg h
  have n1 : fadd A none = A := by
    have z := add_nothing hA
    rw [nothing_eq] at z; exact z
  have n2 : fmul A none = none := by
    cases A <;> rfl
  simp only [pairs1, pairs2, pairs3, List.mem_append, List.mem_cons, List.not_mem_nil, or_false] at h
  rcases h with ((rfl | rfl | rfl | rfl | rfl | rfl) | (rfl | rfl | rfl | rfl)) | (rfl | rfl | rfl)
  · exact mul_comm' hA hB
  · exact add_comm' hA hB
  · exact mul_assoc' hA hB hD
  · exact add_assoc' hA hB hD
  · exact mul_self hA
  · exact add_self hA
  · exact mul_plane hA
  · exact n1
  · exact n2
  · exact add_plane hA
  · exact turn_add hA hB
  · exact turn_mul hA hB
  · exact absorb hA hB
/-- some figure of this size -/
def IsFz (K : PySem.W.Frag) (C : Addr) (n m : Nat) : P1 := fun v H => ∃ F, Fz n m F ∧ IsF K C F v H
theorem evda_consF {p C : Addr} {σ : L2.St} {H : Hp} {te : TE} {tr : TA} {Ps : List P1} {n m : Nat} (h : EvD K p te σ H (IsFz K C n m)) (hr : EvDA K p tr σ H Ps) : EvDA K p (tCons te tr) σ H (IsFz K C n m :: Ps) := fun H1 d f Q q =>
  h H1 d f _ fun v H2 d2 f2 ⟨F, z, hv⟩ => hr H2 (d.trans d2) f2 _ fun vs H3 d3 f3 hvs => q (v :: vs) H3 (d2.trans d3) f3 ⟨⟨F, z, isF_fd f2 d3 hv⟩, hvs⟩
theorem evd_make {W : Wd K mg} {p : Addr} {σ : L2.St} {H : Hp} {i : Nat} {E E2 : XK} (hi : σ[i]? = some (some (.ref p))) : EvD K p (tMake W.C (spInit K W.C) [] E (tCons (tCall (spRows K) [] E2 (tCons (tVar i) (tCons (tC (.int 3)) tNil))) tNil)) σ H (IsFz K W.C 148 4) := fun H1 d f Q q =>
  ⟨_, hi, p, 3, rfl, f, by decide, by decide, fun rs v H2 oR zR hl d2 f2 hv x dx hx hdx hne => by
    have s3 : Same H2 (upd (upd H2 dx (.own x)) x (.ins W.C dx [])) := fun a o ha => by
      rw [upd_ne (ne_of_none ha hx), upd_ne (ne_of_none ha hdx)]; exact ha
    refine ⟨x, dx, v, 9, rs, rfl, upd_same, .inl (Mo.mo (P := IsRows K rs) s3 hv.isL), oR, zR, by decide, Nat.lt_of_le_of_lt (Nat.add_le_add_right hl 10) (by decide), fun H' k1 k2 => ⟨rfl, ?_⟩⟩
    have e : Same H2 H' := fun a o ha => k1 a o (ne_of_none ha hx) (s3 _ _ ha)
    exact q _ H' (d2.trans e.fd) (f2.same e) ⟨_, (mk_fz (n := 9) (m := 3) oR zR hl), k2⟩⟩
def spLaw (K : PySem.W.Frag) : Sp := fun vs H Q _ => ∃ (a : Addr) (ns : List Int), vs = [.ref a] ∧ SqL K H a (ns.map V.int) ∧ ns.length ≤ 63 ∧ ∀ H', Q (.bl true) H'
theorem sc_law : FnScope ["_law_script", "_law_feed_here", "_law_turn", "_law_a", "_law_b", "_law_c", "_law_pairs", "_law_one", "_law_two", "_law_point"] ["_law_script"] (defScope s_law) := ⟨rfl, rfl, rfl, by decide +kernel, rfl, by decide +kernel, by decide +kernel⟩

theorem ok_law {f : Addr} {fd : FuncData} (S : Sr P base) (W : Wd K mg) (Z : We W) (F : Fun K "law" "law" s_law f fd) : FnOk P w K mg base CX0 52 f fd ["_law_script"] (spLaw K) := by
  refine F.ok sc_law (fun vs H Q E h => ?_) (fun cdv A outer s H vs Q E hr h => ?_)
  · obtain ⟨a, ns, rfl, _⟩ := h
    rfl
  · obtain ⟨a, ns, rfl, hS, hlen, k⟩ := h
    have hLL : LL = 33554432 := rfl
    have hSL : sizeLine = 16777216 := rfl
    refine ⟨_, (pss_cons (ps_set (i := 1) sc_law.nd rfl (.inl rfl) (pe_call (ok_law_feed S W) (hr.mono (by decide)) rfl W.law_feed.m W.law_feed.k W.law_feed.b .nil pass0 (pa_cons (pv 0) pa_nil)))
        (pss_cons (ps_for PassesOwn.never rfl (pi_range1 (by rfl) W.n_range (pa_cons pe_int pa_nil)) (pg_name (i := 2) sc_law.nd rfl (.inl rfl)) (pss_cons (ps_par3 (i := 3) (j := 4) (l := 5) rfl sc_law.nd rfl rfl rfl (by decide) (by decide) (by decide) rfl rfl rfl (pa_cons (pe_make W.mak (ok_init S W) (hr.mono (by decide)) rfl W.mFig W.init.b .nil pass0 (pa_cons (pe_call (ok_law_rows S W) (hr.mono (by decide)) rfl W.law_rows.m W.law_rows.k W.law_rows.b .nil pass0 (pa_cons (pv 1) (pa_cons pe_int pa_nil))) pa_nil)) (pa_cons (pe_make W.mak (ok_init S W) (hr.mono (by decide)) rfl W.mFig W.init.b .nil pass0 (pa_cons (pe_call (ok_law_rows S W) (hr.mono (by decide)) rfl W.law_rows.m W.law_rows.k W.law_rows.b .nil pass0 (pa_cons (pv 1) (pa_cons pe_int pa_nil))) pa_nil)) (pa_cons (pe_make W.mak (ok_init S W) (hr.mono (by decide)) rfl W.mFig W.init.b .nil pass0 (pa_cons (pe_call (ok_law_rows S W) (hr.mono (by decide)) rfl W.law_rows.m W.law_rows.k W.law_rows.b .nil pass0 (pa_cons (pv 1) (pa_cons pe_int pa_nil))) pa_nil)) pa_nil))) (by rfl))
        (pss_cons (ps_set (i := 6) sc_law.nd rfl (.inl rfl) (pe_lst (pa_cons (pe_tup (pa_cons (pe_op (op_ownB Z.sf W.m_mul.at_.at_ W.m_mul.at_.fn (r_mul S W Z) (hr.mono (by decide)) pass0) (pv 3) (pv 4)) (pa_cons (pe_op (op_ownB Z.sf W.m_mul.at_.at_ W.m_mul.at_.fn (r_mul S W Z) (hr.mono (by decide)) pass0) (pv 4) (pv 3)) pa_nil))) (pa_cons (pe_tup (pa_cons (pe_op (op_ownB Z.sf W.m_add.at_.at_ W.m_add.at_.fn (r_add S W) (hr.mono (by decide)) pass0) (pv 3) (pv 4)) (pa_cons (pe_op (op_ownB Z.sf W.m_add.at_.at_ W.m_add.at_.fn (r_add S W) (hr.mono (by decide)) pass0) (pv 4) (pv 3)) pa_nil))) (pa_cons (pe_tup (pa_cons (pe_op (op_ownB Z.sf W.m_mul.at_.at_ W.m_mul.at_.fn (r_mul S W Z) (hr.mono (by decide)) pass0) (pe_op (op_ownB Z.sf W.m_mul.at_.at_ W.m_mul.at_.fn (r_mul S W Z) (hr.mono (by decide)) pass0) (pv 3) (pv 4)) (pv 5)) (pa_cons (pe_op (op_ownB Z.sf W.m_mul.at_.at_ W.m_mul.at_.fn (r_mul S W Z) (hr.mono (by decide)) pass0) (pv 3) (pe_op (op_ownB Z.sf W.m_mul.at_.at_ W.m_mul.at_.fn (r_mul S W Z) (hr.mono (by decide)) pass0) (pv 4) (pv 5))) pa_nil))) (pa_cons (pe_tup (pa_cons (pe_op (op_ownB Z.sf W.m_add.at_.at_ W.m_add.at_.fn (r_add S W) (hr.mono (by decide)) pass0) (pe_op (op_ownB Z.sf W.m_add.at_.at_ W.m_add.at_.fn (r_add S W) (hr.mono (by decide)) pass0) (pv 3) (pv 4)) (pv 5)) (pa_cons (pe_op (op_ownB Z.sf W.m_add.at_.at_ W.m_add.at_.fn (r_add S W) (hr.mono (by decide)) pass0) (pv 3) (pe_op (op_ownB Z.sf W.m_add.at_.at_ W.m_add.at_.fn (r_add S W) (hr.mono (by decide)) pass0) (pv 4) (pv 5))) pa_nil))) (pa_cons (pe_tup (pa_cons (pe_op (op_ownB Z.sf W.m_mul.at_.at_ W.m_mul.at_.fn (r_mul S W Z) (hr.mono (by decide)) pass0) (pv 3) (pv 3)) (pa_cons (pv 3) pa_nil))) (pa_cons (pe_tup (pa_cons (pe_op (op_ownB Z.sf W.m_add.at_.at_ W.m_add.at_.fn (r_add S W) (hr.mono (by decide)) pass0) (pv 3) (pv 3)) (pa_cons (pv 3) pa_nil))) pa_nil))))))))
        (pss_cons (ps_set (i := 6) sc_law.nd rfl (.inl rfl) (pe_op op_cat (pv 6) (pe_lst (pa_cons (pe_tup (pa_cons (pe_op (op_ownB Z.sf W.m_mul.at_.at_ W.m_mul.at_.fn (r_mul S W Z) (hr.mono (by decide)) pass0) (pv 3) (pe_make0 (dvs := [.ref W.mt]) W.mak (ok_init S W) (hr.mono (by decide)) rfl W.mFig W.init0 (.cons rfl .nil) pass0)) (pa_cons (pv 3) pa_nil))) (pa_cons (pe_tup (pa_cons (pe_op (op_ownB Z.sf W.m_add.at_.at_ W.m_add.at_.fn (r_add S W) (hr.mono (by decide)) pass0) (pv 3) (pe_static (pe_glob (v := .ref W.C) rfl W.mFig rfl) Z.rd Z.ga Z.at_ Z.rc W.nothing.k (nothingR S W) (hr.mono (by decide)) pass0)) (pa_cons (pv 3) pa_nil))) (pa_cons (pe_tup (pa_cons (pe_op (op_ownB Z.sf W.m_mul.at_.at_ W.m_mul.at_.fn (r_mul S W Z) (hr.mono (by decide)) pass0) (pv 3) (pe_static (pe_glob (v := .ref W.C) rfl W.mFig rfl) Z.rd Z.ga Z.at_ Z.rc W.nothing.k (nothingR S W) (hr.mono (by decide)) pass0)) (pa_cons (pe_static (pe_glob (v := .ref W.C) rfl W.mFig rfl) Z.rd Z.ga Z.at_ Z.rc W.nothing.k (nothingR S W) (hr.mono (by decide)) pass0) pa_nil))) (pa_cons (pe_tup (pa_cons (pe_op (op_ownB Z.sf W.m_add.at_.at_ W.m_add.at_.fn (r_add S W) (hr.mono (by decide)) pass0) (pv 3) (pe_make0 (dvs := [.ref W.mt]) W.mak (ok_init S W) (hr.mono (by decide)) rfl W.mFig W.init0 (.cons rfl .nil) pass0)) (pa_cons (pe_make0 (dvs := [.ref W.mt]) W.mak (ok_init S W) (hr.mono (by decide)) rfl W.mFig W.init0 (.cons rfl .nil) pass0) pa_nil))) pa_nil)))))))
        (pss_cons (ps_set (i := 6) sc_law.nd rfl (.inl rfl) (pe_op op_cat (pv 6) (pe_lst (pa_cons (pe_tup (pa_cons (pe_meth0 (pe_op (op_ownB Z.sf W.m_add.at_.at_ W.m_add.at_.fn (r_add S W) (hr.mono (by decide)) pass0) (pv 3) (pv 4)) W.cls W.m_turned.at_ (ok_m_turned S W Z) (hr.mono (by decide)) W.m_turned.b .nil pass0) (pa_cons (pe_op (op_ownB Z.sf W.m_add.at_.at_ W.m_add.at_.fn (r_add S W) (hr.mono (by decide)) pass0) (pe_meth0 (pv 3) W.cls W.m_turned.at_ (ok_m_turned S W Z) (hr.mono (by decide)) W.m_turned.b .nil pass0) (pe_meth0 (pv 4) W.cls W.m_turned.at_ (ok_m_turned S W Z) (hr.mono (by decide)) W.m_turned.b .nil pass0)) pa_nil))) (pa_cons (pe_tup (pa_cons (pe_meth0 (pe_op (op_ownB Z.sf W.m_mul.at_.at_ W.m_mul.at_.fn (r_mul S W Z) (hr.mono (by decide)) pass0) (pv 3) (pv 4)) W.cls W.m_turned.at_ (ok_m_turned S W Z) (hr.mono (by decide)) W.m_turned.b .nil pass0) (pa_cons (pe_op (op_ownB Z.sf W.m_mul.at_.at_ W.m_mul.at_.fn (r_mul S W Z) (hr.mono (by decide)) pass0) (pe_meth0 (pv 3) W.cls W.m_turned.at_ (ok_m_turned S W Z) (hr.mono (by decide)) W.m_turned.b .nil pass0) (pe_meth0 (pv 4) W.cls W.m_turned.at_ (ok_m_turned S W Z) (hr.mono (by decide)) W.m_turned.b .nil pass0)) pa_nil))) (pa_cons (pe_tup (pa_cons (pe_op (op_ownB Z.sf W.m_add.at_.at_ W.m_add.at_.fn (r_add S W) (hr.mono (by decide)) pass0) (pv 3) (pe_op (op_ownB Z.sf W.m_mul.at_.at_ W.m_mul.at_.fn (r_mul S W Z) (hr.mono (by decide)) pass0) (pv 3) (pv 4))) (pa_cons (pv 3) pa_nil))) pa_nil))))))
        (pss_cons (ps_if (pt_not (pt_val (pe_callB (cr_all rfl) (by rfl) W.n_all (by decide +kernel) (pa_cons (pe_lc (own := [("_law_one", 7), ("_law_two", 8)]) rfl sc_law.nd (pi_list (pv 6)) (blkOk_by (N := ["_law_script", "_law_feed_here", "_law_turn", "_law_a", "_law_b", "_law_c", "_law_pairs", "_law_one", "_law_two", "_law_point"]) (sc := defScope s_law) (by decide +kernel)) (fun _ _ _ _ _ => (pg_tupK (K := K) (n := 2) rfl rfl (pgs_cons (pg_name (i := 7) sc_law.nd rfl (.inl rfl)) (pgs_cons (pg_name (i := 8) sc_law.nd rfl (.inl rfl)) pgs_nil)))) (fun _ _ _ _ _ => pts_nil) (fun _ _ _ _ _ => (pe_and (pe_cmpR (r := rOwnB W.C (SpF (rEqF K W.C)) E0) (op_ownC (op := .Eq) (fun _ _ => rfl) Z.nf W.m_eq.at_.at_ W.m_eq.at_.fn (r_eq S W Z) (hr.mono (by decide)) pass0) (pv 7) (pv 8) (nomark _)) (pe_one (pe_cmpR (r := rEqD K) (op_eqD hr.units) (pe_meth0 (pv 7) W.cls W.m_rows.at_ (ok_m_rows S W) (hr.mono (by decide)) W.m_rows.b .nil pass0) (pe_meth0 (pv 8) W.cls W.m_rows.at_ (ok_m_rows S W) (hr.mono (by decide)) W.m_rows.b .nil pass0) (nomark _)))))) pa_nil)))) (pss_one (ps_ret pe_bl)) pss_nil)
        (pss_cons (ps_if (PW.pt (pw_or (pt_not (PW.pt (pw_and (pt_cmpR (op_ownC (op := .LtE) (fun _ _ => rfl) Z.nf W.m_le.at_.at_ W.m_le.at_.fn (r_le S W) (hr.mono (by decide)) pass0) (pe_op (op_ownB Z.sf W.m_mul.at_.at_ W.m_mul.at_.fn (r_mul S W Z) (hr.mono (by decide)) pass0) (pv 3) (pv 4)) (pv 3) (nomark _)) (pw_and1 (pt_cmpR (op_ownC (op := .LtE) (fun _ _ => rfl) Z.nf W.m_le.at_.at_ W.m_le.at_.fn (r_le S W) (hr.mono (by decide)) pass0) (pv 3) (pe_op (op_ownB Z.sf W.m_add.at_.at_ W.m_add.at_.fn (r_add S W) (hr.mono (by decide)) pass0) (pv 3) (pv 4)) (nomark _)))))) (pw_or (pt_cmpR op_ne (pe_cmpR (op_ownC (op := .LtE) (fun _ _ => rfl) Z.nf W.m_le.at_.at_ W.m_le.at_.fn (r_le S W) (hr.mono (by decide)) pass0) (pv 3) (pv 4) (nomark _)) (pe_cmpR (op_ownC (op := .Eq) (fun _ _ => rfl) Z.nf W.m_eq.at_.at_ W.m_eq.at_.fn (r_eq S W Z) (hr.mono (by decide)) pass0) (pe_op (op_ownB Z.sf W.m_add.at_.at_ W.m_add.at_.fn (r_add S W) (hr.mono (by decide)) pass0) (pv 3) (pv 4)) (pv 4) (nomark _)) (nomark _)) (pw_or1 (pt_cmpR op_ne (pe_cmpR (op_ownC (op := .LtE) (fun _ _ => rfl) Z.nf W.m_le.at_.at_ W.m_le.at_.fn (r_le S W) (hr.mono (by decide)) pass0) (pv 3) (pv 4) (nomark _)) (pe_cmpR (op_ownC (op := .Eq) (fun _ _ => rfl) Z.nf W.m_eq.at_.at_ W.m_eq.at_.fn (r_eq S W Z) (hr.mono (by decide)) pass0) (pe_op (op_ownB Z.sf W.m_mul.at_.at_ W.m_mul.at_.fn (r_mul S W Z) (hr.mono (by decide)) pass0) (pv 3) (pv 4)) (pv 3) (nomark _)) (nomark _)))))) (pss_one (ps_ret pe_bl)) pss_nil)
        (pss_one (ps_for PassesOwn.never rfl (pi_list (pe_meth0 (pv 3) W.cls W.m_corners.at_ (ok_m_corners S W) (hr.mono (by decide)) W.m_corners.b .nil pass0)) (pg_name (i := 9) sc_law.nd rfl (.inl rfl)) (pss_one (ps_if (PW.pt (pw_or (pt_cmpR (op_ownNI W.m_contains.at_.at_ W.m_contains.at_.fn (r_in S W) (hr.mono (by decide)) pass0) (pv 9) (pv 3) (by with_unfolding_all rfl)) (pw_or1 (pt_cmpR (op_ownNI W.m_contains.at_.at_ W.m_contains.at_.fn (r_in S W) (hr.mono (by decide)) pass0) (pv 9) (pe_op (op_ownB Z.sf W.m_add.at_.at_ W.m_add.at_.fn (r_add S W) (hr.mono (by decide)) pass0) (pv 3) (pv 5)) (by with_unfolding_all rfl))))) (pss_one (ps_ret pe_bl)) pss_nil)))))))))))
        (pss_one (ps_ret pe_bl)))), ?_⟩
    refine ⟨_, rfl, a, ns, rfl, hS, hlen, fun p H1 s1 f1 => ?_⟩
    refine seq_go (evd_rng (K := K) (p := p) (C := fun z => z = 2) (b := 2) (evd_z rfl fun H => ev_c) (fun r hr => by omega) (by decide) f1 fun r H2 hr d2 f2 => ?_)
    refine ⟨fun i σ H' => ∃ x2 x3 x4 x5 x6 x7 x8 x9, σ = [some (.ref a), some (.ref p), x2, x3, x4, x5, x6, x7, x8, x9] ∧ Feed p H', ⟨_, _, _, _, _, _, _, _, rfl, f2⟩, fun i σ H3 hi q => ?_, fun σ H3 q => ret_go (P := IsV (.bl true)) ev_c fun v H4 s4 h => by cases h; exact k H4⟩
    obtain ⟨x2, x3, x4, x5, x6, x7, x8, x9, rfl, f3⟩ := q
    refine seq_go (par3D_go (p := p) (evda_consF (evd_make rfl) (evda_consF (evd_make rfl) (evda_consF (evd_make rfl) evda_nil))) f3 fun va vb vc H4 d4 f4 ha hb hc => ?_)
    obtain ⟨A, zA, hA⟩ := ha
    obtain ⟨B, zB, hB⟩ := hb
    obtain ⟨D, zD, hD⟩ := hc
    have iA := zA.fig
    have iB := zB.fig
    have iD := zD.fig
    -- sizes
    have yA : Fz 49860 4 A := zA.mono (by decide) (by decide)
    have yB : Fz 49860 4 B := zB.mono (by decide) (by decide)
    have yD : Fz 49860 4 D := zD.mono (by decide) (by decide)
    have zAB : Fz 49860 520 (fadd A B) := add_fz zA zB (by decide) (by decide)
    have zBD : Fz 49860 520 (fadd B D) := add_fz zB zD (by decide) (by decide)
    have zAD : Fz 49860 520 (fadd A D) := add_fz zA zD (by decide) (by decide)
    have mAB : Fz 49860 8 (fmul A B) := (mul_fz zA zB (k := 8) (by decide) (by decide)).mono (by decide) (by decide)
    have mBD : Fz 49860 8 (fmul B D) := (mul_fz zB zD (k := 8) (by decide) (by decide)).mono (by decide) (by decide)
    have tA : Fz 49860 4 (fturn A) := (turn_fz zA (by decide)).mono (by decide) (by decide)
    have tB : Fz 49860 4 (fturn B) := (turn_fz zB (by decide)).mono (by decide) (by decide)
    have zP : Fz 49860 4 fplane := plane_fz (by decide) (by decide)
    have zN : Fz 49860 4 none := none_fz
    have up : ∀ {F : Fig} {m : Nat}, Fz 49860 m F → m ≤ 520 → Fz 49860 520 F := fun h e => h.mono (by decide) e
    -- the pairs
    have abc : ∀ x6 x7 x8 x9, Abc K W.C A B D [some (.ref a), some (.ref p), some (.int (i : Nat)), some va, some vb, some vc, x6, x7, x8, x9] H4 := fun x6 x7 x8 x9 => ⟨⟨_, rfl, hA⟩, ⟨_, rfl, hB⟩, ⟨_, rfl, hD⟩⟩
    have nM : 17 * 49860 + 100 ≤ LL := by decide
    have nA : 357 * 49860 + 300 ≤ LL := by decide
    refine seq_go (set_go (P := NewL (IsPair K W.C) (pairs1 A B D)) ?_ fun v5 H5 s5 h5 => ?_)
    · have h := abc x6 x7 x8 x9
      refine ev_listL (R := IsPair K W.C) (xs := pairs1 A B D) ?_ (by show 6 ≤ 1000; decide)
      exact ea_cons (ev_pair (ev_mulF h.ea h.eb yA yB nM (by decide)) (ev_mulF h.eb h.ea yB yA nM (by decide)))
        (ea_cons (ev_pair (ev_addF h.ea h.eb yA yB nA (by decide)) (ev_addF h.eb h.ea yB yA nA (by decide)))
        (ea_cons (ev_pair (ev_mulF (ev_mulF h.ea h.eb yA yB nM (by decide)) h.ed (up mAB (by decide)) (up yD (by decide)) nM (by decide)) (ev_mulF h.ea (ev_mulF h.eb h.ed yB yD nM (by decide)) (up yA (by decide)) (up mBD (by decide)) nM (by decide)))
        (ea_cons (ev_pair (ev_addF (ev_addF h.ea h.eb yA yB nA (by decide)) h.ed zAB yD nA (by decide)) (ev_addF h.ea (ev_addF h.eb h.ed yB yD nA (by decide)) yA zBD nA (by decide)))
        (ea_cons (ev_pair (ev_mulF h.ea h.ea yA yA nM (by decide)) h.ea)
        (ea_cons (ev_pair (ev_addF h.ea h.ea yA yA nA (by decide)) h.ea) ea_nil)))))
    refine seq_go (set_go (P := NewL (IsPair K W.C) (pairs1 A B D ++ pairs2 A)) ?_ fun v6 H6 s6 h6 => ?_)
    · have h := (abc (some v5) x7 x8 x9).mo s5
      refine ev_cat (ev_var rfl h5) (ev_listL (R := IsPair K W.C) (xs := pairs2 A) ?_ (by show 4 ≤ 1000; decide)) (by show 6 + 4 ≤ sizeLine; decide)
      exact ea_cons (ev_pair (ev_mulF h.ea ev_make0 yA zP nM (by decide)) h.ea)
        (ea_cons (ev_pair (ev_addF h.ea ev_noneF yA zN nA (by decide)) h.ea)
        (ea_cons (ev_pair (ev_mulF h.ea ev_noneF yA zN nM (by decide)) ev_noneF)
        (ea_cons (ev_pair (ev_addF h.ea ev_make0 yA zP nA (by decide)) ev_make0) ea_nil)))
    have s56 := s5.trans s6
    refine seq_go (set_go (P := NewL (IsPair K W.C) ((pairs1 A B D ++ pairs2 A) ++ pairs3 A B)) ?_ fun v7 H7 s7 h7 => ?_)
    · have h := (abc (some v6) x7 x8 x9).mo s56
      refine ev_cat (ev_var rfl h6) (ev_listL (R := IsPair K W.C) (xs := pairs3 A B) ?_ (by show 3 ≤ 1000; decide)) (by show 10 + 3 ≤ sizeLine; decide)
      exact ea_cons (ev_pair (ev_turnF (ev_addF h.ea h.eb yA yB nA (by decide)) zAB nM (by decide)) (ev_addF (ev_turnF h.ea yA nM (by decide)) (ev_turnF h.eb yB nM (by decide)) tA tB nA (by decide)))
        (ea_cons (ev_pair (ev_turnF (ev_mulF h.ea h.eb yA yB nM (by decide)) mAB nM (by decide)) (ev_mulF (ev_turnF h.ea yA nM (by decide)) (ev_turnF h.eb yB nM (by decide)) tA tB nM (by decide)))
        (ea_cons (ev_pair (ev_addF h.ea (ev_mulF h.ea h.eb yA yB nM (by decide)) yA mAB nA (by decide)) h.ea) ea_nil))
    have s57 := s56.trans s7
    -- all pairs are equal
    have heq := pairs_eq iA iB iD
    have hL : ((pairs1 A B D ++ pairs2 A) ++ pairs3 A B).length < sizeLine := by show 13 < sizeLine; decide
    generalize (pairs1 A B D ++ pairs2 A) ++ pairs3 A B = L at h7 heq hL
    refine seq_go (if_go (b := !true) (et_not (et_B (b := true) ?_)) (fun z => nomatch z) fun _ H8 s8 => nil_go ?_)
    · have hb : (L.map fun fg => decide (fg.1 = fg.2) && decide (fg.1.getD [] = fg.2.getD [])).all id = true := by
        rw [List.all_map, List.all_eq_true]
        intro fg hfg
        have e := heq fg hfg
        simp [e]
      refine Ev.imp (P := IsB ((L.map fun fg => decide (fg.1 = fg.2) && decide (fg.1.getD [] = fg.2.getD [])).all id)) ?_ fun v H _ h => by rw [hb] at h; exact h
      refine ev_all (bs := L.map fun fg => decide (fg.1 = fg.2) && decide (fg.1.getD [] = fg.2.getD [])) (Ev.imp (P := NewL IsB (L.filterMap fun fg => some (decide (fg.1 = fg.2) && decide (fg.1.getD [] = fg.2.getD [])))) ?_ fun v H9 _ h => by rw [filterMap_some] at h; exact h)
      refine comp_list (K := K) (g := gTup K 2 (gCons (gName 7) (gCons (gName 8) gNil))) (S := IsPair K W.C) (R := IsB) (ds := L) (fun fg => some (decide (fg.1 = fg.2) && decide (fg.1.getD [] = fg.2.getD []))) (Ev.imp (ev_var (P := NewL (IsPair K W.C) L) rfl h7) fun v H _ h => h.isL) hL (fun _ _ _ _ _ h q => tg_two_mono h q) fun fg x H9 hd hx e9 => pair_tg hx fun y z hy hz => ⟨rfl, rfl, et_yes, ?_⟩
      exact ev_and (ev_eqF (ev_var rfl hy) (ev_var rfl hz)) fun _ => ev_eqRows (Ev.imp (ev_rowsF (ev_var rfl hy)) fun v H _ h => h.isL) (Ev.imp (ev_rowsF (ev_var rfl hz)) fun v H _ h => h.isL)
    have s58 := s57.trans s8
    have h8 := (abc (some v7) x7 x8 x9).mo s58
    refine seq_go (if_go (b := false) ?_ (fun z => nomatch z) fun _ H9 s9 => nil_go ?_)
    · have e1 : (!(fle (fmul A B) A && fle A (fadd A B))) = false := by rw [le_mul iA iB, le_add iA iB]; rfl
      have e2 : (!decide (V.bl (fle A B) = V.bl (decide (fadd A B = B)))) = false := by rw [le_add_eq iA iB]; simp
      have e3 : (!decide (V.bl (fle A B) = V.bl (decide (fmul A B = A)))) = false := by rw [le_mul_eq iA iB]; simp
      have e : ((!(fle (fmul A B) A && fle A (fadd A B))) || ((!decide (V.bl (fle A B) = V.bl (decide (fadd A B = B)))) || (!decide (V.bl (fle A B) = V.bl (decide (fmul A B = A)))))) = false := by rw [e1, e2, e3]; rfl
      rw [← e]
      exact et_or (et_not (et_and (et_val (ev_leF (ev_mulF h8.ea h8.eb yA yB nM (by decide)) h8.ea mAB (yA.mono (by decide) (by decide)) nM (by decide))) fun _ => et_val (ev_leF h8.ea (ev_addF h8.ea h8.eb yA yB nA (by decide)) (up yA (by decide)) zAB nM (by decide)))) fun _ =>
        et_or (et_val (ev_ne (ev_leF h8.ea h8.eb yA yB nM (by decide)) (ev_eqF (ev_addF h8.ea h8.eb yA yB nA (by decide)) h8.eb) rfl)) fun _ => et_val (ev_ne (ev_leF h8.ea h8.eb yA yB nM (by decide)) (ev_eqF (ev_mulF h8.ea h8.eb yA yB nM (by decide)) h8.ea) rfl)
    have s59 := s58.trans s9
    have h9 := (abc (some v7) x7 x8 x9).mo s59
    refine list_goN (R := IsPt K) (ds := fcorners A) (ev_meth h9.ea (fun _ _ => rfl) fun v H f => ⟨148, A, f, zA.sz, by decide, ?_, rfl⟩) fun l ws H10 s10 hl hall => ?_
    · have l1 : (A.getD []).length ≤ 4 := zA.len
      have l2 : (A.getD []).length * (A.getD []).length ≤ 4 * 4 := Nat.mul_le_mul l1 l1
      omega
    have f10 : Feed p H10 := f4.same (s59.trans s10)
    refine ⟨fun j σ H' => ∃ y9, σ = [some (.ref a), some (.ref p), some (.int (i : Nat)), some va, some vb, some vc, some v7, x7, x8, y9] ∧ Same H10 H', ⟨_, rfl, Same.refl H10⟩, fun j σ H11 _ q => ?_, fun j x σ H11 v H12 hj q hy => ?_, fun σ H11 q => ?_⟩
    · obtain ⟨y9, rfl, e11⟩ := q
      exact .of (e11 _ _ hl)
    · obtain ⟨y9, rfl, e11⟩ := q
      obtain ⟨rfl, rfl⟩ := hy
      obtain ⟨pt, hp1, hp2⟩ := hall.2 j v hj
      have hmem : pt ∈ fcorners A := List.mem_of_getElem? hp1
      have hpt : IsPt K pt v H12 := Mo.mo e11 hp2
      have h12 := (abc (some v7) x7 x8 (some v)).mo (s59.trans (s10.trans e11))
      have zpt : PSz 593 pt := by
        cases A with
        | none => exact (nomatch hmem)
        | some c => exact corners_sz zA.sz pt hmem
      have k1 := corner_keeps hmem
      have k2 := corner_add iA iD hmem
      refine if_go (b := (!fkeeps A pt) || (!fkeeps (fadd A D) pt)) (et_or (et_val (ev_ownNI (P := IsPt K pt) (ev_var rfl hpt) h12.ea fun vs H1 _ f => ⟨593, A, pt, f, zA.sz.mono (by decide), zpt, by decide, ?_, rfl⟩)) fun _ => et_val (ev_ownNI (P := IsPt K pt) (ev_var rfl hpt) (ev_addF h12.ea h12.ed yA yD nA (by decide)) fun vs H1 _ f => ⟨49860, fadd A D, pt, f, zAD.sz, ⟨zpt.1.mono (by decide) (by decide), zpt.2.mono (by decide) (by decide)⟩, by decide, ?_, rfl⟩)) (fun z => ?_) fun _ H13 s13 => nil_go ⟨_, rfl, e11.trans s13⟩
      · exact Nat.lt_of_le_of_lt zA.len (by decide)
      · exact Nat.lt_of_le_of_lt zAD.len (by decide)
      · rw [k1, k2] at z; exact nomatch z
    · obtain ⟨y9, rfl, e11⟩ := q
      exact ⟨_, _, _, _, _, _, _, _, rfl, f10.same e11⟩
end
end Tk

set_option Elab.async false
set_option linter.all false
set_option maxRecDepth 100000
set_option maxHeartbeats 4000000
/-! the end: the law's call behind the top; the base heap keeps that no tree watches -/
namespace Tk
open PySem PySem.Spec L2 Ts PyProof.Rows
section
variable {P : Program} {w : World} {K : PySem.W.Frag} {mg mb : Str → Option Value} {fa a : Addr} {fd : FuncData} {s1 : Shared} {vs : List Value} {ns : List Int}
/-- what the heap behind the top is known to hold -/
structure Behind (K : PySem.W.Frag) (mg mb : Str → Option Value) (s1 : Shared) : Prop where
  kin : K.In s1.heap
  glob : s1.heap.Ns mainGlobals mg
  blt : s1.heap.Ns builtinsNs mb
  boot : ∀ x : Str, x ≠ "__name__" → mb x = bootBuiltins x
  lim : s1.heap.NoLimit
  gens : s1.gens = #[]
  seer : s1.heap.NoSeer
/-- a list alone is hidden -/
structure Lone (h : Heap) (H : Hp) (a : Addr) (vs : List Value) : Prop where
  at_ : h.get? a = some { cls := .type "list", data := .seq vs.toArray }
  one : ∀ b u, H b = some u → b = a
theorem Lone.stays {h : Heap} {H : Hp} (L : Lone h H a vs) {b : Addr} {o : Obj} (e : h.get? b = some o) (n : o.cls ≠ .type "list") : (hidT h H).get? b = some o := by
  refine hidT_get e ?_
  cases q : H b with
  | none => rfl
  | some u =>
    have z := L.one b u q
    subst z
    rw [L.at_] at e
    cases e
    exact absurd rfl n
theorem Lone.dict {h : Heap} {H : Hp} (L : Lone h H a vs) {b : Addr} {o : Obj} {es : Array DictEntry} {ep : Nat} (e : h.get? b = some o) (d : o.data = .dict es ep) : (hidT h H).get? b = some o := by
  refine hidT_get e ?_
  cases q : H b with
  | none => rfl
  | some u =>
    have z := L.one b u q
    subst z
    rw [L.at_] at e
    cases e
    cases (show Data.seq vs.toArray _ = Data.dict es ep from d)
theorem Lone.nsp {h : Heap} {H : Hp} (L : Lone h H a vs) {b : Addr} {m : Str → Option Value} (x : h.Ns b m) : (hidT h H).Ns b m := by
  obtain ⟨o, es, ep, e, d, r⟩ := x
  exact ⟨o, es, ep, L.dict e d, d, r⟩
theorem Lone.seer {h : Heap} {H : Hp} (L : Lone h H a vs) (S : h.NoSeer) : (hidT h H).NoSeer where
  statics := let ⟨mc, x, y⟩ := S.statics; ⟨mc, L.nsp x, y⟩
  mods := let ⟨mm, x, y⟩ := S.mods; ⟨mm, L.nsp x, y⟩
  imp := let ⟨m, x, y⟩ := S.imp; ⟨m, L.nsp x, y⟩
  main := let ⟨m, bm, ob, x, y, z, c, d⟩ := S.main; ⟨m, bm, ob, L.nsp x, y, L.stays z (by rw [c]; decide), c, d⟩
/-- one heap of tracked objects: the run from it -/
theorem end_one {H : Hp} (G : Behind K mg mb s1) (L : Lone s1.heap H a vs) (hK : H a ≠ none → K.lookup a = none) (hO : Only H) (hS : SqL K H a (ns.map V.int)) (hl : ns.length ≤ 63) (ok : HOk P w H s1.heap)
    (F : ∀ base : Heap, K.In base → base.NoSeer → FnOk P w K mg base CX0 52 fa fd ["_law_script"] (spLaw K)) (hb : ∀ (s : Shared) (u : Value), BindsTo s fd ⟨[u], []⟩ [("_law_script", u)]) :
    codeAny (model P w) callerA (.call (.ref fa) ⟨[.ref a], []⟩) (fun r s' => r = .ok (.ret (.bool true)) ∧ OldK s1.heap s'.heap ∧ s'.os = s1.os ∧ AllBare s'.gens) s1 := by
  have KB : K.In (hidT s1.heap H) := fun b o e => hidT_get (G.kin b o e) (by
    cases q : H b with
    | none => rfl
    | some u =>
      have z := L.one b u q
      subst z
      rw [hK (by rw [q]; exact fun z => nomatch z)] at e
      cases e)
  have M : Mod K mg (hidT s1.heap H) := ⟨KB, L.nsp G.glob, ⟨mb, L.nsp G.blt, G.boot⟩, let ⟨mc, x, y⟩ := G.lim; ⟨mc, L.nsp x, y⟩⟩
  have none_in : ∀ b : Addr, b ∉ ([] : List Addr) := fun b z => nomatch z
  have E1 : Env0 P w K mg (hidT s1.heap H) callerA [] s1 H := ⟨rfl, M, fun _ _ e => of_hidT e, Nat.le_of_eq (hidT_size _ _), trivial, fun b z => (none_in b z).elim, ok, .of_eq G.gens⟩
  have room : Room 52 callerA := ⟨rfl, by decide, by decide⟩
  have run := (F _ KB (L.seer G.seer)).run callerA [] s1 H ⟨[.ref a], []⟩ [.ref a] [.ref a] (fun v _ => v = .bl true) (fun _ _ _ => False) room E1 (hb s1 (.ref a)) (.cons rfl .nil) ⟨a, ns, rfl, hS, hl, fun _ => rfl⟩
  refine codeAny_mono run fun r s' z => ?_
  cases r with
  | error e => exact False.elim z
  | ok fl =>
    cases fl with
    | next => exact False.elim z
    | brk => exact False.elim z
    | cont => exact False.elim z
    | ret u =>
      obtain ⟨v, H', os, bare, un, ok', rv, rfl⟩ := z
      obtain rfl : u = Value.bool true := rv
      refine ⟨rfl, OldK.of_keep fun b o e => ?_, os, bare⟩
      cases q : H b with
      | none => exact un.keep b o e q (none_in b) (none_in b)
      | some x =>
        rcases hO b with z | ⟨ob, xs, z⟩
        · rw [q] at z
          cases z
        · obtain ⟨y1, _⟩ := ok b _ z
          obtain ⟨y2, _⟩ := ok' b _ (un.frzs b ob _ z)
          rw [y1] at e
          cases e
          exact y2
/-- the law's promise at the heap behind the top -/
theorem end_call (G : Behind K mg mb s1) (ha : s1.heap.get? a = some { cls := .type "list", data := .seq vs.toArray }) (hi : IntsAre vs ns) (hl : ns.length ≤ 63)
    (F : ∀ base : Heap, K.In base → base.NoSeer → FnOk P w K mg base CX0 52 fa fd ["_law_script"] (spLaw K)) (hb : ∀ (s : Shared) (u : Value), BindsTo s fd ⟨[u], []⟩ [("_law_script", u)]) :
    codeAny (model P w) callerA (.call (.ref fa) ⟨[.ref a], []⟩) (fun r s' => r = .ok (.ret (.bool true)) ∧ OldK s1.heap s'.heap ∧ s'.os = s1.os ∧ AllBare s'.gens) s1 := by
  have rv := vals_ints hi
  have hz : ns.length ≤ sizeLine := Nat.le_trans hl (by decide)
  cases hk : K.lookup a with
  | some o =>
    have e := G.kin a o hk
    rw [ha] at e
    cases e
    have hn : ∀ (b : Addr) (u : HO), (none : Option HO) = some u → b = a := fun b u z => nomatch z
    refine end_one (H := fun _ => none) (vs := vs) G ⟨ha, fun b u z => hn b u z⟩ (fun z => absurd rfl z) (fun _ => .inl rfl) (.inr ⟨_, vs.toArray, _, hk, rfl, rfl, rfl, ?_, by simpa using rv⟩) hl (fun b u z => nomatch (show (none : Option HO) = some u from z)) F hb
    rw [List.size_toArray, hi.length]
    exact hz
  | none =>
    have here : (fun b => if b = a then some (HO.frz { cls := .type "list", data := .seq vs.toArray } (.lst (ns.map V.int))) else none : Hp) a = some (.frz { cls := .type "list", data := .seq vs.toArray } (.lst (ns.map V.int))) := if_pos rfl
    have only : ∀ b u, (fun b => if b = a then some (HO.frz { cls := .type "list", data := .seq vs.toArray } (.lst (ns.map V.int))) else none : Hp) b = some u → b = a ∧ u = .frz { cls := .type "list", data := .seq vs.toArray } (.lst (ns.map V.int)) := fun b u z => by
      by_cases q : b = a
      · exact ⟨q, Option.some.inj (z.symm.trans (if_pos q))⟩
      · cases z.symm.trans (if_neg q)
    refine end_one (vs := vs) G ⟨ha, fun b u z => (only b u z).1⟩ (fun _ => hk) (fun b => ?_) (.inl (.inr ⟨_, here⟩)) hl (fun b u z => ?_) F hb
    · by_cases q : b = a
      · exact .inr ⟨_, _, if_pos q⟩
      · exact .inl (if_neg q)
    · obtain ⟨rfl, rfl⟩ := only b u z
      exact ⟨ha, by rw [List.length_map]; exact hz, vs, _, rv, ha⟩
end
end Tk

set_option Elab.async false
set_option linter.all false
set_option maxRecDepth 100000
set_option maxHeartbeats 4000000
namespace Tk
open PySem PySem.Spec L2 Ts PyProof.Rows
theorem all_mk {l : PySem.W.OpenLaw} {w : World} {K : PySem.W.Frag} {h : Heap} {mg : Str → Option Value} {fa : Addr} {f0 : Addr} {od0 an0 : Option Addr} {oc0 kV0 dc0 pm0 cd0 ct0 : Value} {sl0 : Array (Option Value)}
    {f1 : Addr} {od1 an1 : Option Addr} {oc1 kV1 dc1 pm1 cd1 ct1 : Value} {sl1 : Array (Option Value)}
    {f2 : Addr} {od2 an2 : Option Addr} {oc2 kV2 dc2 pm2 cd2 ct2 : Value} {sl2 : Array (Option Value)}
    {f3 : Addr} {od3 an3 : Option Addr} {oc3 kV3 dc3 pm3 cd3 ct3 : Value} {sl3 : Array (Option Value)}
    {f4 : Addr} {od4 an4 : Option Addr} {oc4 kV4 dc4 pm4 cd4 ct4 : Value} {sl4 : Array (Option Value)}
    {f5 : Addr} {od5 an5 : Option Addr} {oc5 kV5 dc5 pm5 cd5 ct5 : Value} {sl5 : Array (Option Value)}
    {f6 : Addr} {od6 an6 : Option Addr} {oc6 kV6 dc6 pm6 cd6 ct6 : Value} {sl6 : Array (Option Value)}
    {f7 : Addr} {od7 an7 : Option Addr} {oc7 kV7 dc7 pm7 cd7 ct7 : Value} {sl7 : Array (Option Value)}
    {f8 : Addr} {od8 an8 : Option Addr} {oc8 kV8 dc8 pm8 cd8 ct8 : Value} {sl8 : Array (Option Value)}
    {f9 : Addr} {od9 an9 : Option Addr} {oc9 kV9 dc9 pm9 cd9 ct9 : Value} {sl9 : Array (Option Value)}
    {f10 : Addr} {od10 an10 : Option Addr} {oc10 kV10 dc10 pm10 cd10 ct10 : Value} {sl10 : Array (Option Value)}
    {f11 : Addr} {od11 an11 : Option Addr} {oc11 kV11 dc11 pm11 cd11 ct11 : Value} {sl11 : Array (Option Value)}
    {f12 : Addr} {od12 an12 : Option Addr} {oc12 kV12 dc12 pm12 cd12 ct12 : Value} {sl12 : Array (Option Value)}
    {f13 : Addr} {od13 an13 : Option Addr} {oc13 kV13 dc13 pm13 cd13 ct13 : Value} {sl13 : Array (Option Value)}
    {f14 : Addr} {od14 an14 : Option Addr} {oc14 kV14 dc14 pm14 cd14 ct14 : Value} {sl14 : Array (Option Value)}
    {f15 : Addr} {od15 an15 : Option Addr} {oc15 kV15 dc15 pm15 cd15 ct15 : Value} {sl15 : Array (Option Value)}
    {f16 : Addr} {od16 an16 : Option Addr} {oc16 kV16 dc16 pm16 cd16 ct16 : Value} {sl16 : Array (Option Value)}
    {f17 : Addr} {od17 an17 : Option Addr} {oc17 kV17 dc17 pm17 cd17 ct17 : Value} {sl17 : Array (Option Value)}
    {f18 : Addr} {od18 an18 : Option Addr} {oc18 kV18 dc18 pm18 cd18 ct18 : Value} {sl18 : Array (Option Value)}
    {f19 : Addr} {od19 an19 : Option Addr} {oc19 kV19 dc19 pm19 cd19 ct19 : Value} {sl19 : Array (Option Value)}
    {f20 : Addr} {od20 an20 : Option Addr} {oc20 kV20 dc20 pm20 cd20 ct20 : Value} {sl20 : Array (Option Value)}
    {f21 : Addr} {od21 an21 : Option Addr} {oc21 kV21 dc21 pm21 cd21 ct21 : Value} {sl21 : Array (Option Value)}
    {f22 : Addr} {od22 an22 : Option Addr} {oc22 kV22 dc22 pm22 cd22 ct22 : Value} {sl22 : Array (Option Value)}
    {f23 : Addr} {od23 an23 : Option Addr} {oc23 kV23 dc23 pm23 cd23 ct23 : Value} {sl23 : Array (Option Value)}
    {f24 : Addr} {od24 an24 : Option Addr} {oc24 kV24 dc24 pm24 cd24 ct24 : Value} {sl24 : Array (Option Value)}
    {f25 : Addr} {od25 an25 : Option Addr} {oc25 kV25 dc25 pm25 cd25 ct25 : Value} {sl25 : Array (Option Value)}
    {f26 : Addr} {od26 an26 : Option Addr} {oc26 kV26 dc26 pm26 cd26 ct26 : Value} {sl26 : Array (Option Value)}
    {f27 : Addr} {od27 an27 : Option Addr} {oc27 kV27 dc27 pm27 cd27 ct27 : Value} {sl27 : Array (Option Value)}
    {f28 : Addr} {od28 an28 : Option Addr} {oc28 kV28 dc28 pm28 cd28 ct28 : Value} {sl28 : Array (Option Value)}
    {f29 : Addr} {od29 an29 : Option Addr} {oc29 kV29 dc29 pm29 cd29 ct29 : Value} {sl29 : Array (Option Value)}
    {f30 : Addr} {od30 an30 : Option Addr} {oc30 kV30 dc30 pm30 cd30 ct30 : Value} {sl30 : Array (Option Value)}
    {f31 : Addr} {od31 an31 : Option Addr} {oc31 kV31 dc31 pm31 cd31 ct31 : Value} {sl31 : Array (Option Value)}
    {f32 : Addr} {od32 an32 : Option Addr} {oc32 kV32 dc32 pm32 cd32 ct32 : Value} {sl32 : Array (Option Value)}
    {f33 : Addr} {od33 an33 : Option Addr} {oc33 kV33 dc33 pm33 cd33 ct33 : Value} {sl33 : Array (Option Value)}
    {f34 : Addr} {od34 an34 : Option Addr} {oc34 kV34 dc34 pm34 cd34 ct34 : Value} {sl34 : Array (Option Value)}
    {f35 : Addr} {od35 an35 : Option Addr} {oc35 kV35 dc35 pm35 cd35 ct35 : Value} {sl35 : Array (Option Value)}
    {f36 : Addr} {od36 an36 : Option Addr} {oc36 kV36 dc36 pm36 cd36 ct36 : Value} {sl36 : Array (Option Value)}
    {f37 : Addr} {od37 an37 : Option Addr} {oc37 kV37 dc37 pm37 cd37 ct37 : Value} {sl37 : Array (Option Value)}
    {f38 : Addr} {od38 an38 : Option Addr} {oc38 kV38 dc38 pm38 cd38 ct38 : Value} {sl38 : Array (Option Value)}
    {f39 : Addr} {od39 an39 : Option Addr} {oc39 kV39 dc39 pm39 cd39 ct39 : Value} {sl39 : Array (Option Value)}
    {C p z mt T : Addr} {oZ oM oT : Obj} {nZ nM nT : Nat} {uZ vZ : Tok} {rest : List Value}
    {f40 : Addr} {od40 an40 : Option Addr} {oc40 kV40 dc40 pm40 cd40 ct40 : Value} {sl40 : Array (Option Value)}
    {f41 : Addr} {od41 an41 : Option Addr} {oc41 kV41 dc41 pm41 cd41 ct41 : Value} {sl41 : Array (Option Value)}
    {f42 : Addr} {od42 an42 : Option Addr} {oc42 kV42 dc42 pm42 cd42 ct42 : Value} {sl42 : Array (Option Value)}
    {f43 : Addr} {od43 an43 : Option Addr} {oc43 kV43 dc43 pm43 cd43 ct43 : Value} {sl43 : Array (Option Value)}
    {f44 : Addr} {od44 an44 : Option Addr} {oc44 kV44 dc44 pm44 cd44 ct44 : Value} {sl44 : Array (Option Value)}
    {f45 : Addr} {od45 an45 : Option Addr} {oc45 kV45 dc45 pm45 cd45 ct45 : Value} {sl45 : Array (Option Value)}
    {f46 : Addr} {od46 an46 : Option Addr} {oc46 kV46 dc46 pm46 cd46 ct46 : Value} {sl46 : Array (Option Value)}
    {f47 : Addr} {od47 an47 : Option Addr} {oc47 kV47 dc47 pm47 cd47 ct47 : Value} {sl47 : Array (Option Value)}
    {f48 : Addr} {od48 an48 : Option Addr} {oc48 kV48 dc48 pm48 cd48 ct48 : Value} {sl48 : Array (Option Value)}
    {f49 : Addr} {od49 an49 : Option Addr} {oc49 kV49 dc49 pm49 cd49 ct49 : Value} {sl49 : Array (Option Value)}
    (tr : l.prog.given.tree = none) (X : K.In h) (G : h.Ns mainGlobals mg) (hfa : mg "law" = some (.ref fa))
    (a0 : PySem.W.nsIn K mainGlobals "divisor" = some (some (.ref f0)))
    (l0 : K.lookup f0 = some ⟨oc0, od0, .func (PySem.W.fnOf "divisor" "divisor" (defArgs s_divisor) (defBody s_divisor) (defScope s_divisor) .none kV0 dc0 pm0 an0 cd0 ct0), sl0⟩)
    (c0 : PySem.W.codeIn K cd0 "divisor" = true)
    (k0 : PySem.W.keepIn K (.ref f0) = true)
    (a1 : PySem.W.nsIn K mainGlobals "lowest" = some (some (.ref f1)))
    (l1 : K.lookup f1 = some ⟨oc1, od1, .func (PySem.W.fnOf "lowest" "lowest" (defArgs s_lowest) (defBody s_lowest) (defScope s_lowest) .none kV1 dc1 pm1 an1 cd1 ct1), sl1⟩)
    (c1 : PySem.W.codeIn K cd1 "lowest" = true)
    (k1 : PySem.W.keepIn K (.ref f1) = true)
    (a2 : PySem.W.nsIn K mainGlobals "is_whole" = some (some (.ref f2)))
    (l2 : K.lookup f2 = some ⟨oc2, od2, .func (PySem.W.fnOf "is_whole" "is_whole" (defArgs s_is_whole) (defBody s_is_whole) (defScope s_is_whole) .none kV2 dc2 pm2 an2 cd2 ct2), sl2⟩)
    (c2 : PySem.W.codeIn K cd2 "is_whole" = true)
    (k2 : PySem.W.keepIn K (.ref f2) = true)
    (a3 : PySem.W.nsIn K mainGlobals "is_ratio" = some (some (.ref f3)))
    (l3 : K.lookup f3 = some ⟨oc3, od3, .func (PySem.W.fnOf "is_ratio" "is_ratio" (defArgs s_is_ratio) (defBody s_is_ratio) (defScope s_is_ratio) .none kV3 dc3 pm3 an3 cd3 ct3), sl3⟩)
    (c3 : PySem.W.codeIn K cd3 "is_ratio" = true)
    (k3 : PySem.W.keepIn K (.ref f3) = true)
    (a4 : PySem.W.nsIn K mainGlobals "add" = some (some (.ref f4)))
    (l4 : K.lookup f4 = some ⟨oc4, od4, .func (PySem.W.fnOf "add" "add" (defArgs s_add) (defBody s_add) (defScope s_add) .none kV4 dc4 pm4 an4 cd4 ct4), sl4⟩)
    (c4 : PySem.W.codeIn K cd4 "add" = true)
    (k4 : PySem.W.keepIn K (.ref f4) = true)
    (a5 : PySem.W.nsIn K mainGlobals "negative" = some (some (.ref f5)))
    (l5 : K.lookup f5 = some ⟨oc5, od5, .func (PySem.W.fnOf "negative" "negative" (defArgs s_negative) (defBody s_negative) (defScope s_negative) .none kV5 dc5 pm5 an5 cd5 ct5), sl5⟩)
    (c5 : PySem.W.codeIn K cd5 "negative" = true)
    (k5 : PySem.W.keepIn K (.ref f5) = true)
    (a6 : PySem.W.nsIn K mainGlobals "subtract" = some (some (.ref f6)))
    (l6 : K.lookup f6 = some ⟨oc6, od6, .func (PySem.W.fnOf "subtract" "subtract" (defArgs s_subtract) (defBody s_subtract) (defScope s_subtract) .none kV6 dc6 pm6 an6 cd6 ct6), sl6⟩)
    (c6 : PySem.W.codeIn K cd6 "subtract" = true)
    (k6 : PySem.W.keepIn K (.ref f6) = true)
    (a7 : PySem.W.nsIn K mainGlobals "multiply" = some (some (.ref f7)))
    (l7 : K.lookup f7 = some ⟨oc7, od7, .func (PySem.W.fnOf "multiply" "multiply" (defArgs s_multiply) (defBody s_multiply) (defScope s_multiply) .none kV7 dc7 pm7 an7 cd7 ct7), sl7⟩)
    (c7 : PySem.W.codeIn K cd7 "multiply" = true)
    (k7 : PySem.W.keepIn K (.ref f7) = true)
    (a8 : PySem.W.nsIn K mainGlobals "divide" = some (some (.ref f8)))
    (l8 : K.lookup f8 = some ⟨oc8, od8, .func (PySem.W.fnOf "divide" "divide" (defArgs s_divide) (defBody s_divide) (defScope s_divide) .none kV8 dc8 pm8 an8 cd8 ct8), sl8⟩)
    (c8 : PySem.W.codeIn K cd8 "divide" = true)
    (k8 : PySem.W.keepIn K (.ref f8) = true)
    (a9 : PySem.W.nsIn K mainGlobals "is_less" = some (some (.ref f9)))
    (l9 : K.lookup f9 = some ⟨oc9, od9, .func (PySem.W.fnOf "is_less" "is_less" (defArgs s_is_less) (defBody s_is_less) (defScope s_is_less) .none kV9 dc9 pm9 an9 cd9 ct9), sl9⟩)
    (c9 : PySem.W.codeIn K cd9 "is_less" = true)
    (k9 : PySem.W.keepIn K (.ref f9) = true)
    (a10 : PySem.W.nsIn K mainGlobals "least" = some (some (.ref f10)))
    (l10 : K.lookup f10 = some ⟨oc10, od10, .func (PySem.W.fnOf "least" "least" (defArgs s_least) (defBody s_least) (defScope s_least) .none kV10 dc10 pm10 an10 cd10 ct10), sl10⟩)
    (c10 : PySem.W.codeIn K cd10 "least" = true)
    (k10 : PySem.W.keepIn K (.ref f10) = true)
    (a11 : PySem.W.nsIn K mainGlobals "greatest" = some (some (.ref f11)))
    (l11 : K.lookup f11 = some ⟨oc11, od11, .func (PySem.W.fnOf "greatest" "greatest" (defArgs s_greatest) (defBody s_greatest) (defScope s_greatest) .none kV11 dc11 pm11 an11 cd11 ct11), sl11⟩)
    (c11 : PySem.W.codeIn K cd11 "greatest" = true)
    (k11 : PySem.W.keepIn K (.ref f11) = true)
    (a12 : PySem.W.nsIn K mainGlobals "is_row" = some (some (.ref f12)))
    (l12 : K.lookup f12 = some ⟨oc12, od12, .func (PySem.W.fnOf "is_row" "is_row" (defArgs s_is_row) (defBody s_is_row) (defScope s_is_row) .none kV12 dc12 pm12 an12 cd12 ct12), sl12⟩)
    (c12 : PySem.W.codeIn K cd12 "is_row" = true)
    (k12 : PySem.W.keepIn K (.ref f12) = true)
    (a13 : PySem.W.nsIn K mainGlobals "normal" = some (some (.ref f13)))
    (l13 : K.lookup f13 = some ⟨oc13, od13, .func (PySem.W.fnOf "normal" "normal" (defArgs s_normal) (defBody s_normal) (defScope s_normal) .none kV13 dc13 pm13 an13 cd13 ct13), sl13⟩)
    (c13 : PySem.W.codeIn K cd13 "normal" = true)
    (k13 : PySem.W.keepIn K (.ref f13) = true)
    (a14 : PySem.W.nsIn K mainGlobals "bound_of" = some (some (.ref f14)))
    (l14 : K.lookup f14 = some ⟨oc14, od14, .func (PySem.W.fnOf "bound_of" "bound_of" (defArgs s_bound_of) (defBody s_bound_of) (defScope s_bound_of) .none kV14 dc14 pm14 an14 cd14 ct14), sl14⟩)
    (c14 : PySem.W.codeIn K cd14 "bound_of" = true)
    (k14 : PySem.W.keepIn K (.ref f14) = true)
    (a15 : PySem.W.nsIn K mainGlobals "is_at_most" = some (some (.ref f15)))
    (l15 : K.lookup f15 = some ⟨oc15, od15, .func (PySem.W.fnOf "is_at_most" "is_at_most" (defArgs s_is_at_most) (defBody s_is_at_most) (defScope s_is_at_most) .none kV15 dc15 pm15 an15 cd15 ct15), sl15⟩)
    (c15 : PySem.W.codeIn K cd15 "is_at_most" = true)
    (k15 : PySem.W.keepIn K (.ref f15) = true)
    (a16 : PySem.W.nsIn K mainGlobals "is_ahead" = some (some (.ref f16)))
    (l16 : K.lookup f16 = some ⟨oc16, od16, .func (PySem.W.fnOf "is_ahead" "is_ahead" (defArgs s_is_ahead) (defBody s_is_ahead) (defScope s_is_ahead) .none kV16 dc16 pm16 an16 cd16 ct16), sl16⟩)
    (c16 : PySem.W.codeIn K cd16 "is_ahead" = true)
    (k16 : PySem.W.keepIn K (.ref f16) = true)
    (a17 : PySem.W.nsIn K mainGlobals "by_direction" = some (some (.ref f17)))
    (l17 : K.lookup f17 = some ⟨oc17, od17, .func (PySem.W.fnOf "by_direction" "by_direction" (defArgs s_by_direction) (defBody s_by_direction) (defScope s_by_direction) .none kV17 dc17 pm17 an17 cd17 ct17), sl17⟩)
    (c17 : PySem.W.codeIn K cd17 "by_direction" = true)
    (k17 : PySem.W.keepIn K (.ref f17) = true)
    (a18 : PySem.W.nsIn K mainGlobals "kept_rows" = some (some (.ref f18)))
    (l18 : K.lookup f18 = some ⟨oc18, od18, .func (PySem.W.fnOf "kept_rows" "kept_rows" (defArgs s_kept_rows) (defBody s_kept_rows) (defScope s_kept_rows) .none kV18 dc18 pm18 an18 cd18 ct18), sl18⟩)
    (c18 : PySem.W.codeIn K cd18 "kept_rows" = true)
    (k18 : PySem.W.keepIn K (.ref f18) = true)
    (a19 : PySem.W.nsIn K mainGlobals "line_rows" = some (some (.ref f19)))
    (l19 : K.lookup f19 = some ⟨oc19, od19, .func (PySem.W.fnOf "line_rows" "line_rows" (defArgs s_line_rows) (defBody s_line_rows) (defScope s_line_rows) .none kV19 dc19 pm19 an19 cd19 ct19), sl19⟩)
    (c19 : PySem.W.codeIn K cd19 "line_rows" = true)
    (k19 : PySem.W.keepIn K (.ref f19) = true)
    (a20 : PySem.W.nsIn K mainGlobals "point_rows" = some (some (.ref f20)))
    (l20 : K.lookup f20 = some ⟨oc20, od20, .func (PySem.W.fnOf "point_rows" "point_rows" (defArgs s_point_rows) (defBody s_point_rows) (defScope s_point_rows) .none kV20 dc20 pm20 an20 cd20 ct20), sl20⟩)
    (c20 : PySem.W.codeIn K cd20 "point_rows" = true)
    (k20 : PySem.W.keepIn K (.ref f20) = true)
    (a21 : PySem.W.nsIn K mainGlobals "canonical" = some (some (.ref f21)))
    (l21 : K.lookup f21 = some ⟨oc21, od21, .func (PySem.W.fnOf "canonical" "canonical" (defArgs s_canonical) (defBody s_canonical) (defScope s_canonical) .none kV21 dc21 pm21 an21 cd21 ct21), sl21⟩)
    (c21 : PySem.W.codeIn K cd21 "canonical" = true)
    (k21 : PySem.W.keepIn K (.ref f21) = true)
    (a22 : PySem.W.nsIn K mainGlobals "is_before" = some (some (.ref f22)))
    (l22 : K.lookup f22 = some ⟨oc22, od22, .func (PySem.W.fnOf "is_before" "is_before" (defArgs s_is_before) (defBody s_is_before) (defScope s_is_before) .none kV22 dc22 pm22 an22 cd22 ct22), sl22⟩)
    (c22 : PySem.W.codeIn K cd22 "is_before" = true)
    (k22 : PySem.W.keepIn K (.ref f22) = true)
    (a23 : PySem.W.nsIn K mainGlobals "sum_of" = some (some (.ref f23)))
    (l23 : K.lookup f23 = some ⟨oc23, od23, .func (PySem.W.fnOf "sum_of" "sum_of" (defArgs s_sum_of) (defBody s_sum_of) (defScope s_sum_of) .none kV23 dc23 pm23 an23 cd23 ct23), sl23⟩)
    (c23 : PySem.W.codeIn K cd23 "sum_of" = true)
    (k23 : PySem.W.keepIn K (.ref f23) = true)
    (a24 : PySem.W.nsIn K mainGlobals "keeps" = some (some (.ref f24)))
    (l24 : K.lookup f24 = some ⟨oc24, od24, .func (PySem.W.fnOf "keeps" "keeps" (defArgs s_keeps) (defBody s_keeps) (defScope s_keeps) .none kV24 dc24 pm24 an24 cd24 ct24), sl24⟩)
    (c24 : PySem.W.codeIn K cd24 "keeps" = true)
    (k24 : PySem.W.keepIn K (.ref f24) = true)
    (a25 : PySem.W.nsIn K mainGlobals "corners_of" = some (some (.ref f25)))
    (l25 : K.lookup f25 = some ⟨oc25, od25, .func (PySem.W.fnOf "corners_of" "corners_of" (defArgs s_corners_of) (defBody s_corners_of) (defScope s_corners_of) .none kV25 dc25 pm25 an25 cd25 ct25), sl25⟩)
    (c25 : PySem.W.codeIn K cd25 "corners_of" = true)
    (k25 : PySem.W.keepIn K (.ref f25) = true)
    (a26 : PySem.W.nsIn K mainGlobals "by_place" = some (some (.ref f26)))
    (l26 : K.lookup f26 = some ⟨oc26, od26, .func (PySem.W.fnOf "by_place" "by_place" (defArgs s_by_place) (defBody s_by_place) (defScope s_by_place) .none kV26 dc26 pm26 an26 cd26 ct26), sl26⟩)
    (c26 : PySem.W.codeIn K cd26 "by_place" = true)
    (k26 : PySem.W.keepIn K (.ref f26) = true)
    (a27 : PySem.W.nsIn K mainGlobals "directions_of" = some (some (.ref f27)))
    (l27 : K.lookup f27 = some ⟨oc27, od27, .func (PySem.W.fnOf "directions_of" "directions_of" (defArgs s_directions_of) (defBody s_directions_of) (defScope s_directions_of) .none kV27 dc27 pm27 an27 cd27 ct27), sl27⟩)
    (c27 : PySem.W.codeIn K cd27 "directions_of" = true)
    (k27 : PySem.W.keepIn K (.ref f27) = true)
    (a28 : PySem.W.nsIn K mainGlobals "hull_rows" = some (some (.ref f28)))
    (l28 : K.lookup f28 = some ⟨oc28, od28, .func (PySem.W.fnOf "hull_rows" "hull_rows" (defArgs s_hull_rows) (defBody s_hull_rows) (defScope s_hull_rows) .none kV28 dc28 pm28 an28 cd28 ct28), sl28⟩)
    (c28 : PySem.W.codeIn K cd28 "hull_rows" = true)
    (k28 : PySem.W.keepIn K (.ref f28) = true)
    (a29 : PySem.W.nsIn K mainGlobals "_law_feed" = some (some (.ref f29)))
    (l29 : K.lookup f29 = some ⟨oc29, od29, .func (PySem.W.fnOf "_law_feed" "_law_feed" (defArgs s_law_feed) (defBody s_law_feed) (defScope s_law_feed) .none kV29 dc29 pm29 an29 cd29 ct29), sl29⟩)
    (c29 : PySem.W.codeIn K cd29 "_law_feed" = true)
    (k29 : PySem.W.keepIn K (.ref f29) = true)
    (a30 : PySem.W.nsIn K mainGlobals "_law_draw" = some (some (.ref f30)))
    (l30 : K.lookup f30 = some ⟨oc30, od30, .func (PySem.W.fnOf "_law_draw" "_law_draw" (defArgs s_law_draw) (defBody s_law_draw) (defScope s_law_draw) .none kV30 dc30 pm30 an30 cd30 ct30), sl30⟩)
    (c30 : PySem.W.codeIn K cd30 "_law_draw" = true)
    (k30 : PySem.W.keepIn K (.ref f30) = true)
    (a31 : PySem.W.nsIn K mainGlobals "_law_any" = some (some (.ref f31)))
    (l31 : K.lookup f31 = some ⟨oc31, od31, .func (PySem.W.fnOf "_law_any" "_law_any" (defArgs s_law_any) (defBody s_law_any) (defScope s_law_any) .none kV31 dc31 pm31 an31 cd31 ct31), sl31⟩)
    (c31 : PySem.W.codeIn K cd31 "_law_any" = true)
    (k31 : PySem.W.keepIn K (.ref f31) = true)
    (a32 : PySem.W.nsIn K mainGlobals "_law_gcd" = some (some (.ref f32)))
    (l32 : K.lookup f32 = some ⟨oc32, od32, .func (PySem.W.fnOf "_law_gcd" "_law_gcd" (defArgs s_law_gcd) (defBody s_law_gcd) (defScope s_law_gcd) .none kV32 dc32 pm32 an32 cd32 ct32), sl32⟩)
    (c32 : PySem.W.codeIn K cd32 "_law_gcd" = true)
    (k32 : PySem.W.keepIn K (.ref f32) = true)
    (a33 : PySem.W.nsIn K mainGlobals "_law_low" = some (some (.ref f33)))
    (l33 : K.lookup f33 = some ⟨oc33, od33, .func (PySem.W.fnOf "_law_low" "_law_low" (defArgs s_law_low) (defBody s_law_low) (defScope s_law_low) .none kV33 dc33 pm33 an33 cd33 ct33), sl33⟩)
    (c33 : PySem.W.codeIn K cd33 "_law_low" = true)
    (k33 : PySem.W.keepIn K (.ref f33) = true)
    (a34 : PySem.W.nsIn K mainGlobals "_law_plus" = some (some (.ref f34)))
    (l34 : K.lookup f34 = some ⟨oc34, od34, .func (PySem.W.fnOf "_law_plus" "_law_plus" (defArgs s_law_plus) (defBody s_law_plus) (defScope s_law_plus) .none kV34 dc34 pm34 an34 cd34 ct34), sl34⟩)
    (c34 : PySem.W.codeIn K cd34 "_law_plus" = true)
    (k34 : PySem.W.keepIn K (.ref f34) = true)
    (a35 : PySem.W.nsIn K mainGlobals "_law_by" = some (some (.ref f35)))
    (l35 : K.lookup f35 = some ⟨oc35, od35, .func (PySem.W.fnOf "_law_by" "_law_by" (defArgs s_law_by) (defBody s_law_by) (defScope s_law_by) .none kV35 dc35 pm35 an35 cd35 ct35), sl35⟩)
    (c35 : PySem.W.codeIn K cd35 "_law_by" = true)
    (k35 : PySem.W.keepIn K (.ref f35) = true)
    (a36 : PySem.W.nsIn K mainGlobals "_law_part" = some (some (.ref f36)))
    (l36 : K.lookup f36 = some ⟨oc36, od36, .func (PySem.W.fnOf "_law_part" "_law_part" (defArgs s_law_part) (defBody s_law_part) (defScope s_law_part) .none kV36 dc36 pm36 an36 cd36 ct36), sl36⟩)
    (c36 : PySem.W.codeIn K cd36 "_law_part" = true)
    (k36 : PySem.W.keepIn K (.ref f36) = true)
    (a37 : PySem.W.nsIn K mainGlobals "_law_rows" = some (some (.ref f37)))
    (l37 : K.lookup f37 = some ⟨oc37, od37, .func (PySem.W.fnOf "_law_rows" "_law_rows" (defArgs s_law_rows) (defBody s_law_rows) (defScope s_law_rows) .none kV37 dc37 pm37 an37 cd37 ct37), sl37⟩)
    (c37 : PySem.W.codeIn K cd37 "_law_rows" = true)
    (k37 : PySem.W.keepIn K (.ref f37) = true)
    (a38 : PySem.W.nsIn K mainGlobals "_law_spot" = some (some (.ref f38)))
    (l38 : K.lookup f38 = some ⟨oc38, od38, .func (PySem.W.fnOf "_law_spot" "_law_spot" (defArgs s_law_spot) (defBody s_law_spot) (defScope s_law_spot) .none kV38 dc38 pm38 an38 cd38 ct38), sl38⟩)
    (c38 : PySem.W.codeIn K cd38 "_law_spot" = true)
    (k38 : PySem.W.keepIn K (.ref f38) = true)
    (a39 : PySem.W.nsIn K mainGlobals "law" = some (some (.ref f39)))
    (l39 : K.lookup f39 = some ⟨oc39, od39, .func (PySem.W.fnOf "law" "law" (defArgs s_law) (defBody s_law) (defScope s_law) .none kV39 dc39 pm39 an39 cd39 ct39), sl39⟩)
    (c39 : PySem.W.codeIn K cd39 "law" = true)
    (k39 : PySem.W.keepIn K (.ref f39) = true)
    (z_abs : PySem.W.nsIn K mainGlobals "abs" = some none)
    (z_len : PySem.W.nsIn K mainGlobals "len" = some none)
    (z_isinstance : PySem.W.nsIn K mainGlobals "isinstance" = some none)
    (z_int : PySem.W.nsIn K mainGlobals "int" = some none)
    (z_bool : PySem.W.nsIn K mainGlobals "bool" = some none)
    (z_tuple : PySem.W.nsIn K mainGlobals "tuple" = some none)
    (z_enumerate : PySem.W.nsIn K mainGlobals "enumerate" = some none)
    (z_list : PySem.W.nsIn K mainGlobals "list" = some none)
    (z_all : PySem.W.nsIn K mainGlobals "all" = some none)
    (z_range : PySem.W.nsIn K mainGlobals "range" = some none)
    (aC : PySem.W.nsIn K mainGlobals "Figure" = some (some (.ref C)))
    (a40 : PySem.W.findIn K (.ref C) "__init__" = some (some (.ref f40)))
    (i40 : PySem.W.isFn K (.ref f40) = true)
    (l40 : K.lookup f40 = some ⟨oc40, od40, .func (PySem.W.fnOf "__init__" "Figure.__init__" (defArgs s_Figure___init) (defBody s_Figure___init) (defScope s_Figure___init) (.ref T) kV40 dc40 pm40 an40 cd40 ct40), sl40⟩)
    (c40 : PySem.W.codeIn K cd40 "Figure.__init__" = true)
    (k40 : PySem.W.keepIn K (.ref f40) = true)
    (lT : K.lookup T = some oT)
    (eT : oT.data = .seq ([.ref mt] : List Value).toArray nT)
    (lM : K.lookup mt = some oM)
    (eM : oM.cls = .type "tuple" ∧ oM.data = .seq #[] nM)
    (sAt : PySem.W.findCls K (.ref C) (.type "type") "nothing" = some (.get (.builtin "staticmethod.__get__") (.ref p) .none (.ref C)))
    (sRc : PySem.W.recIn K p "staticmethod" = some (.ref f41 :: rest))
    (l41 : K.lookup f41 = some ⟨oc41, od41, .func (PySem.W.fnOf "nothing" "Figure.nothing" (defArgs s_Figure_nothing) (defBody s_Figure_nothing) (defScope s_Figure_nothing) .none kV41 dc41 pm41 an41 cd41 ct41), sl41⟩)
    (c41 : PySem.W.codeIn K cd41 "Figure.nothing" = true)
    (k41 : PySem.W.keepIn K (.ref f41) = true)
    (a42 : PySem.W.findIn K (.ref C) "__eq__" = some (some (.ref f42)))
    (i42 : PySem.W.isFn K (.ref f42) = true)
    (l42 : K.lookup f42 = some ⟨oc42, od42, .func (PySem.W.fnOf "__eq__" "Figure.__eq__" (defArgs s_Figure___eq) (defBody s_Figure___eq) (defScope s_Figure___eq) .none kV42 dc42 pm42 an42 cd42 ct42), sl42⟩)
    (c42 : PySem.W.codeIn K cd42 "Figure.__eq__" = true)
    (k42 : PySem.W.keepIn K (.ref f42) = true)
    (a43 : PySem.W.findIn K (.ref C) "__contains__" = some (some (.ref f43)))
    (i43 : PySem.W.isFn K (.ref f43) = true)
    (l43 : K.lookup f43 = some ⟨oc43, od43, .func (PySem.W.fnOf "__contains__" "Figure.__contains__" (defArgs s_Figure___contains) (defBody s_Figure___contains) (defScope s_Figure___contains) .none kV43 dc43 pm43 an43 cd43 ct43), sl43⟩)
    (c43 : PySem.W.codeIn K cd43 "Figure.__contains__" = true)
    (k43 : PySem.W.keepIn K (.ref f43) = true)
    (a44 : PySem.W.findIn K (.ref C) "__le__" = some (some (.ref f44)))
    (i44 : PySem.W.isFn K (.ref f44) = true)
    (l44 : K.lookup f44 = some ⟨oc44, od44, .func (PySem.W.fnOf "__le__" "Figure.__le__" (defArgs s_Figure___le) (defBody s_Figure___le) (defScope s_Figure___le) .none kV44 dc44 pm44 an44 cd44 ct44), sl44⟩)
    (c44 : PySem.W.codeIn K cd44 "Figure.__le__" = true)
    (k44 : PySem.W.keepIn K (.ref f44) = true)
    (a45 : PySem.W.findIn K (.ref C) "__mul__" = some (some (.ref f45)))
    (i45 : PySem.W.isFn K (.ref f45) = true)
    (l45 : K.lookup f45 = some ⟨oc45, od45, .func (PySem.W.fnOf "__mul__" "Figure.__mul__" (defArgs s_Figure___mul) (defBody s_Figure___mul) (defScope s_Figure___mul) .none kV45 dc45 pm45 an45 cd45 ct45), sl45⟩)
    (c45 : PySem.W.codeIn K cd45 "Figure.__mul__" = true)
    (k45 : PySem.W.keepIn K (.ref f45) = true)
    (a46 : PySem.W.findIn K (.ref C) "__add__" = some (some (.ref f46)))
    (i46 : PySem.W.isFn K (.ref f46) = true)
    (l46 : K.lookup f46 = some ⟨oc46, od46, .func (PySem.W.fnOf "__add__" "Figure.__add__" (defArgs s_Figure___add) (defBody s_Figure___add) (defScope s_Figure___add) .none kV46 dc46 pm46 an46 cd46 ct46), sl46⟩)
    (c46 : PySem.W.codeIn K cd46 "Figure.__add__" = true)
    (k46 : PySem.W.keepIn K (.ref f46) = true)
    (a47 : PySem.W.findIn K (.ref C) "rows" = some (some (.ref f47)))
    (i47 : PySem.W.isFn K (.ref f47) = true)
    (l47 : K.lookup f47 = some ⟨oc47, od47, .func (PySem.W.fnOf "rows" "Figure.rows" (defArgs s_Figure_rows) (defBody s_Figure_rows) (defScope s_Figure_rows) .none kV47 dc47 pm47 an47 cd47 ct47), sl47⟩)
    (c47 : PySem.W.codeIn K cd47 "Figure.rows" = true)
    (k47 : PySem.W.keepIn K (.ref f47) = true)
    (a48 : PySem.W.findIn K (.ref C) "corners" = some (some (.ref f48)))
    (i48 : PySem.W.isFn K (.ref f48) = true)
    (l48 : K.lookup f48 = some ⟨oc48, od48, .func (PySem.W.fnOf "corners" "Figure.corners" (defArgs s_Figure_corners) (defBody s_Figure_corners) (defScope s_Figure_corners) .none kV48 dc48 pm48 an48 cd48 ct48), sl48⟩)
    (c48 : PySem.W.codeIn K cd48 "Figure.corners" = true)
    (k48 : PySem.W.keepIn K (.ref f48) = true)
    (a49 : PySem.W.findIn K (.ref C) "turned" = some (some (.ref f49)))
    (i49 : PySem.W.isFn K (.ref f49) = true)
    (l49 : K.lookup f49 = some ⟨oc49, od49, .func (PySem.W.fnOf "turned" "Figure.turned" (defArgs s_Figure_turned) (defBody s_Figure_turned) (defScope s_Figure_turned) .none kV49 dc49 pm49 an49 cd49 ct49), sl49⟩)
    (c49 : PySem.W.codeIn K cd49 "Figure.turned" = true)
    (k49 : PySem.W.keepIn K (.ref f49) = true)
    (pg : PySem.W.plainGet K C Str.empty = true)
    (hd : PySem.W.hasDictIn K C = true)
    (po : PySem.W.plainOver K C = true)
    (sa : PySem.W.findIn K (.ref C) "__setattr__" = some (some (.builtin "object.__setattr__")))
    (mk : PySem.W.makesIn K C = true)
    (kc : PySem.W.keepIn K (.ref C) = true)
    (nV : PySem.W.findIn K (.ref C) "void" = some none)
    (nL : PySem.W.findIn K (.ref C) "lines" = some none)
    (ca : PySem.W.findIn K (.ref C) "__class__" = some (some (.builtin "object.__class__")))
    (cn : PySem.W.specialIn K (.builtin "object.__class__") "__get__" = some (some (.builtin "getset_descriptor.__get__")))
    (ct : PySem.W.takesIn K (.builtin "object.__class__") = some true)
    (cm : PySem.W.mroIn K C (.type "object") = some true)
    (sf : PySem.W.selfFirst K C = true)
    (nf : PySem.W.notFirst K C (.ref C) = true)
    (rd : PySem.W.readsIn K C (.type "type") = true)
    (ga : PySem.W.specialIn K (.ref C) "__getattribute__" = some (some (.builtin "type.__getattribute__")))
    (aZ : PySem.W.nsIn K mainGlobals "ZERO" = some (some (.ref z)))
    (lZ : K.lookup z = some oZ)
    (eZ : oZ.cls = .type "tuple" ∧ oZ.data = .seq #[.int 0 uZ, .int 1 vZ] nZ) :
    ∃ fd : FuncData, (∀ (s : Shared) (v : Value), BindsTo s fd ⟨[v], []⟩ [("_law_script", v)]) ∧ ∀ base : Heap, K.In base → base.NoSeer → FnOk l.prog w K mg base CX0 52 fa fd ["_law_script"] (spLaw K) := by
  have e := hfa.symm.trans (PySem.W.mg_of X G a39)
  cases e
  have F0 := fun_mk (st := s_divisor) l0 c0 k0
  have b0 := F0.binds (ps := ["one", "other"]) fun _ _ _ _ _ _ us hl => match us, hl with | [_, _], _ => rfl
  have F1 := fun_mk (st := s_lowest) l1 c1 k1
  have b1 := F1.binds (ps := ["top", "under"]) fun _ _ _ _ _ _ us hl => match us, hl with | [_, _], _ => rfl
  have F2 := fun_mk (st := s_is_whole) l2 c2 k2
  have b2 := F2.binds (ps := ["thing"]) fun _ _ _ _ _ _ us hl => match us, hl with | [_], _ => rfl
  have F3 := fun_mk (st := s_is_ratio) l3 c3 k3
  have b3 := F3.binds (ps := ["thing"]) fun _ _ _ _ _ _ us hl => match us, hl with | [_], _ => rfl
  have F4 := fun_mk (st := s_add) l4 c4 k4
  have b4 := F4.binds (ps := ["one", "other"]) fun _ _ _ _ _ _ us hl => match us, hl with | [_, _], _ => rfl
  have F5 := fun_mk (st := s_negative) l5 c5 k5
  have b5 := F5.binds (ps := ["one"]) fun _ _ _ _ _ _ us hl => match us, hl with | [_], _ => rfl
  have F6 := fun_mk (st := s_subtract) l6 c6 k6
  have b6 := F6.binds (ps := ["one", "other"]) fun _ _ _ _ _ _ us hl => match us, hl with | [_, _], _ => rfl
  have F7 := fun_mk (st := s_multiply) l7 c7 k7
  have b7 := F7.binds (ps := ["one", "other"]) fun _ _ _ _ _ _ us hl => match us, hl with | [_, _], _ => rfl
  have F8 := fun_mk (st := s_divide) l8 c8 k8
  have b8 := F8.binds (ps := ["one", "other"]) fun _ _ _ _ _ _ us hl => match us, hl with | [_, _], _ => rfl
  have F9 := fun_mk (st := s_is_less) l9 c9 k9
  have b9 := F9.binds (ps := ["one", "other"]) fun _ _ _ _ _ _ us hl => match us, hl with | [_, _], _ => rfl
  have F12 := fun_mk (st := s_is_row) l12 c12 k12
  have b12 := F12.binds (ps := ["thing"]) fun _ _ _ _ _ _ us hl => match us, hl with | [_], _ => rfl
  have F13 := fun_mk (st := s_normal) l13 c13 k13
  have b13 := F13.binds (ps := ["row"]) fun _ _ _ _ _ _ us hl => match us, hl with | [_], _ => rfl
  have F14 := fun_mk (st := s_bound_of) l14 c14 k14
  have b14 := F14.binds (ps := ["rows", "a", "b"]) fun _ _ _ _ _ _ us hl => match us, hl with | [_, _, _], _ => rfl
  have F15 := fun_mk (st := s_is_at_most) l15 c15 k15
  have b15 := F15.binds (ps := ["value", "bound"]) fun _ _ _ _ _ _ us hl => match us, hl with | [_, _], _ => rfl
  have F16 := fun_mk (st := s_is_ahead) l16 c16 k16
  have b16 := F16.binds (ps := ["one", "other"]) fun _ _ _ _ _ _ us hl => match us, hl with | [_, _], _ => rfl
  have F17 := fun_mk (st := s_by_direction) l17 c17 k17
  have b17 := F17.binds (ps := ["rows"]) fun _ _ _ _ _ _ us hl => match us, hl with | [_], _ => rfl
  have F18 := fun_mk (st := s_kept_rows) l18 c18 k18
  have b18 := F18.binds (ps := ["rows"]) fun _ _ _ _ _ _ us hl => match us, hl with | [_], _ => rfl
  have F19 := fun_mk (st := s_line_rows) l19 c19 k19
  have b19 := F19.binds (ps := ["rows", "line"]) fun _ _ _ _ _ _ us hl => match us, hl with | [_, _], _ => rfl
  have F20 := fun_mk (st := s_point_rows) l20 c20 k20
  have b20 := F20.binds (ps := ["x", "y"]) fun _ _ _ _ _ _ us hl => match us, hl with | [_, _], _ => rfl
  have F21 := fun_mk (st := s_canonical) l21 c21 k21
  have b21 := F21.binds (ps := ["rows"]) fun _ _ _ _ _ _ us hl => match us, hl with | [_], _ => rfl
  have F22 := fun_mk (st := s_is_before) l22 c22 k22
  have b22 := F22.binds (ps := ["one", "other"]) fun _ _ _ _ _ _ us hl => match us, hl with | [_, _], _ => rfl
  have F23 := fun_mk (st := s_sum_of) l23 c23 k23
  have b23 := F23.binds (ps := ["a", "b", "point"]) fun _ _ _ _ _ _ us hl => match us, hl with | [_, _, _], _ => rfl
  have F24 := fun_mk (st := s_keeps) l24 c24 k24
  have b24 := F24.binds (ps := ["rows", "point"]) fun _ _ _ _ _ _ us hl => match us, hl with | [_, _], _ => rfl
  have F25 := fun_mk (st := s_corners_of) l25 c25 k25
  have b25 := F25.binds (ps := ["rows"]) fun _ _ _ _ _ _ us hl => match us, hl with | [_], _ => rfl
  have F26 := fun_mk (st := s_by_place) l26 c26 k26
  have b26 := F26.binds (ps := ["points"]) fun _ _ _ _ _ _ us hl => match us, hl with | [_], _ => rfl
  have F27 := fun_mk (st := s_directions_of) l27 c27 k27
  have b27 := F27.binds (ps := ["one", "other"]) fun _ _ _ _ _ _ us hl => match us, hl with | [_, _], _ => rfl
  have F28 := fun_mk (st := s_hull_rows) l28 c28 k28
  have b28 := F28.binds (ps := ["one", "other"]) fun _ _ _ _ _ _ us hl => match us, hl with | [_, _], _ => rfl
  have F29 := fun_mk (st := s_law_feed) l29 c29 k29
  have b29 := F29.binds (ps := ["_law_script"]) fun _ _ _ _ _ _ us hl => match us, hl with | [_], _ => rfl
  have F30 := fun_mk (st := s_law_draw) l30 c30 k30
  have b30 := F30.binds (ps := ["_law_feed_here", "_law_many"]) fun _ _ _ _ _ _ us hl => match us, hl with | [_, _], _ => rfl
  have F31 := fun_mk (st := s_law_any) l31 c31 k31
  have b31 := F31.binds (ps := ["_law_feed_here", "_law_row"]) fun _ _ _ _ _ _ us hl => match us, hl with | [_, _], _ => rfl
  have F32 := fun_mk (st := s_law_gcd) l32 c32 k32
  have b32 := F32.binds (ps := ["_law_one", "_law_two"]) fun _ _ _ _ _ _ us hl => match us, hl with | [_, _], _ => rfl
  have F33 := fun_mk (st := s_law_low) l33 c33 k33
  have b33 := F33.binds (ps := ["_law_upper", "_law_lower"]) fun _ _ _ _ _ _ us hl => match us, hl with | [_, _], _ => rfl
  have F34 := fun_mk (st := s_law_plus) l34 c34 k34
  have b34 := F34.binds (ps := ["_law_one", "_law_two"]) fun _ _ _ _ _ _ us hl => match us, hl with | [_, _], _ => rfl
  have F35 := fun_mk (st := s_law_by) l35 c35 k35
  have b35 := F35.binds (ps := ["_law_one", "_law_two"]) fun _ _ _ _ _ _ us hl => match us, hl with | [_, _], _ => rfl
  have F36 := fun_mk (st := s_law_part) l36 c36 k36
  have b36 := F36.binds (ps := ["_law_feed_here", "_law_size"]) fun _ _ _ _ _ _ us hl => match us, hl with | [_, _], _ => rfl
  have F37 := fun_mk (st := s_law_rows) l37 c37 k37
  have b37 := F37.binds (ps := ["_law_feed_here", "_law_many"]) fun _ _ _ _ _ _ us hl => match us, hl with | [_, _], _ => rfl
  have F38 := fun_mk (st := s_law_spot) l38 c38 k38
  have b38 := F38.binds (ps := ["_law_a", "_law_b", "_law_point"]) fun _ _ _ _ _ _ us hl => match us, hl with | [_, _, _], _ => rfl
  have F39 := fun_mk (st := s_law) l39 c39 k39
  have b39 := F39.binds (ps := ["_law_script"]) fun _ _ _ _ _ _ us hl => match us, hl with | [_], _ => rfl
  have F40 : FunD K "__init__" "Figure.__init__" (defArgs s_Figure___init) (defBody s_Figure___init) (defScope s_Figure___init) [.ref mt] [] f40 (PySem.W.fnOf "__init__" "Figure.__init__" (defArgs s_Figure___init) (defBody s_Figure___init) (defScope s_Figure___init) (.ref T) kV40 dc40 pm40 an40 cd40 ct40) := ⟨⟨_, _, _, _, _, _, _, _, _, _, rfl, l40, c40, .inr ⟨(fun z => nomatch z), T, oT, [.ref mt], nT, rfl, lT, eT, .cons rfl .nil⟩, .inl rfl⟩, k40⟩
  obtain ⟨dI1, rI1, bI1⟩ := F40.binds1 (ps := ["self", "rows"]) 2 1 (fun z => nomatch z) rfl fun _ _ _ _ _ _ _ us its hu hi => match us, hu, its, hi with | [_, _], _, [_], _ => ⟨_, rfl, rfl⟩
  cases rI1
  obtain ⟨dI0, rI0, bI0⟩ := F40.binds1 (ps := ["self", "rows"]) 1 0 (fun z => nomatch z) rfl fun _ _ _ _ _ _ _ us its hu hi => match us, hu, its, hi with | [_], _, [_], _ => ⟨_, rfl, rfl⟩
  obtain ⟨u0, rfl, ru⟩ := rI0.one
  cases (show u0 = Value.ref mt from ru)
  have F41 := fun_mk (st := s_Figure_nothing) l41 c41 k41
  have b41 := F41.binds (ps := []) fun _ _ _ _ _ _ us hl => match us, hl with | [], _ => rfl
  have F42 := fun_mk (st := s_Figure___eq) l42 c42 k42
  have b42 := F42.binds (ps := ["self", "other"]) fun _ _ _ _ _ _ us hl => match us, hl with | [_, _], _ => rfl
  have F43 := fun_mk (st := s_Figure___contains) l43 c43 k43
  have b43 := F43.binds (ps := ["self", "point"]) fun _ _ _ _ _ _ us hl => match us, hl with | [_, _], _ => rfl
  have F44 := fun_mk (st := s_Figure___le) l44 c44 k44
  have b44 := F44.binds (ps := ["self", "other"]) fun _ _ _ _ _ _ us hl => match us, hl with | [_, _], _ => rfl
  have F45 := fun_mk (st := s_Figure___mul) l45 c45 k45
  have b45 := F45.binds (ps := ["self", "other"]) fun _ _ _ _ _ _ us hl => match us, hl with | [_, _], _ => rfl
  have F46 := fun_mk (st := s_Figure___add) l46 c46 k46
  have b46 := F46.binds (ps := ["self", "other"]) fun _ _ _ _ _ _ us hl => match us, hl with | [_, _], _ => rfl
  have F47 := fun_mk (st := s_Figure_rows) l47 c47 k47
  have b47 := F47.binds (ps := ["self"]) fun _ _ _ _ _ _ us hl => match us, hl with | [_], _ => rfl
  have F48 := fun_mk (st := s_Figure_corners) l48 c48 k48
  have b48 := F48.binds (ps := ["self"]) fun _ _ _ _ _ _ us hl => match us, hl with | [_], _ => rfl
  have F49 := fun_mk (st := s_Figure_turned) l49 c49 k49
  have b49 := F49.binds (ps := ["self"]) fun _ _ _ _ _ _ us hl => match us, hl with | [_], _ => rfl
  let W : Wd K mg := {
    divisor := ⟨⟨f0, _, F0, b0⟩, PySem.W.mg_of X G a0⟩,
    lowest := ⟨⟨f1, _, F1, b1⟩, PySem.W.mg_of X G a1⟩,
    is_whole := ⟨⟨f2, _, F2, b2⟩, PySem.W.mg_of X G a2⟩,
    is_ratio := ⟨⟨f3, _, F3, b3⟩, PySem.W.mg_of X G a3⟩,
    add := ⟨⟨f4, _, F4, b4⟩, PySem.W.mg_of X G a4⟩,
    negative := ⟨⟨f5, _, F5, b5⟩, PySem.W.mg_of X G a5⟩,
    subtract := ⟨⟨f6, _, F6, b6⟩, PySem.W.mg_of X G a6⟩,
    multiply := ⟨⟨f7, _, F7, b7⟩, PySem.W.mg_of X G a7⟩,
    divide := ⟨⟨f8, _, F8, b8⟩, PySem.W.mg_of X G a8⟩,
    is_less := ⟨⟨f9, _, F9, b9⟩, PySem.W.mg_of X G a9⟩,
    least := ⟨f10, ⟨oc10, od10, kV10, dc10, pm10, an10, cd10, ct10, sl10, l10, c10⟩, k10, PySem.W.mg_of X G a10⟩,
    greatest := ⟨f11, ⟨oc11, od11, kV11, dc11, pm11, an11, cd11, ct11, sl11, l11, c11⟩, k11, PySem.W.mg_of X G a11⟩,
    is_row := ⟨⟨f12, _, F12, b12⟩, PySem.W.mg_of X G a12⟩,
    normal := ⟨⟨f13, _, F13, b13⟩, PySem.W.mg_of X G a13⟩,
    bound_of := ⟨⟨f14, _, F14, b14⟩, PySem.W.mg_of X G a14⟩,
    is_at_most := ⟨⟨f15, _, F15, b15⟩, PySem.W.mg_of X G a15⟩,
    is_ahead := ⟨⟨f16, _, F16, b16⟩, PySem.W.mg_of X G a16⟩,
    by_direction := ⟨⟨f17, _, F17, b17⟩, PySem.W.mg_of X G a17⟩,
    kept_rows := ⟨⟨f18, _, F18, b18⟩, PySem.W.mg_of X G a18⟩,
    line_rows := ⟨⟨f19, _, F19, b19⟩, PySem.W.mg_of X G a19⟩,
    point_rows := ⟨⟨f20, _, F20, b20⟩, PySem.W.mg_of X G a20⟩,
    canonical := ⟨⟨f21, _, F21, b21⟩, PySem.W.mg_of X G a21⟩,
    is_before := ⟨⟨f22, _, F22, b22⟩, PySem.W.mg_of X G a22⟩,
    sum_of := ⟨⟨f23, _, F23, b23⟩, PySem.W.mg_of X G a23⟩,
    keeps := ⟨⟨f24, _, F24, b24⟩, PySem.W.mg_of X G a24⟩,
    corners_of := ⟨⟨f25, _, F25, b25⟩, PySem.W.mg_of X G a25⟩,
    by_place := ⟨⟨f26, _, F26, b26⟩, PySem.W.mg_of X G a26⟩,
    directions_of := ⟨⟨f27, _, F27, b27⟩, PySem.W.mg_of X G a27⟩,
    hull_rows := ⟨⟨f28, _, F28, b28⟩, PySem.W.mg_of X G a28⟩,
    law_feed := ⟨⟨f29, _, F29, b29⟩, PySem.W.mg_of X G a29⟩,
    law_draw := ⟨⟨f30, _, F30, b30⟩, PySem.W.mg_of X G a30⟩,
    law_any := ⟨⟨f31, _, F31, b31⟩, PySem.W.mg_of X G a31⟩,
    law_gcd := ⟨⟨f32, _, F32, b32⟩, PySem.W.mg_of X G a32⟩,
    law_low := ⟨⟨f33, _, F33, b33⟩, PySem.W.mg_of X G a33⟩,
    law_plus := ⟨⟨f34, _, F34, b34⟩, PySem.W.mg_of X G a34⟩,
    law_by := ⟨⟨f35, _, F35, b35⟩, PySem.W.mg_of X G a35⟩,
    law_part := ⟨⟨f36, _, F36, b36⟩, PySem.W.mg_of X G a36⟩,
    law_rows := ⟨⟨f37, _, F37, b37⟩, PySem.W.mg_of X G a37⟩,
    law_spot := ⟨⟨f38, _, F38, b38⟩, PySem.W.mg_of X G a38⟩,
    n_abs := PySem.W.mg_none_of X G z_abs,
    n_len := PySem.W.mg_none_of X G z_len,
    n_isinstance := PySem.W.mg_none_of X G z_isinstance,
    n_int := PySem.W.mg_none_of X G z_int,
    n_bool := PySem.W.mg_none_of X G z_bool,
    n_tuple := PySem.W.mg_none_of X G z_tuple,
    n_enumerate := PySem.W.mg_none_of X G z_enumerate,
    n_list := PySem.W.mg_none_of X G z_list,
    n_all := PySem.W.mg_none_of X G z_all,
    n_range := PySem.W.mg_none_of X G z_range,
    init := ⟨f40, _, F40, bI1⟩,
    mak := ⟨mk, a40, i40, kc⟩,
    init0 := bI0,
    nothing := ⟨f41, _, F41, b41⟩,
    m_eq := ⟨⟨f42, _, F42, b42⟩, ⟨a42, i42, k42⟩⟩,
    m_contains := ⟨⟨f43, _, F43, b43⟩, ⟨a43, i43, k43⟩⟩,
    m_le := ⟨⟨f44, _, F44, b44⟩, ⟨a44, i44, k44⟩⟩,
    m_mul := ⟨⟨f45, _, F45, b45⟩, ⟨a45, i45, k45⟩⟩,
    m_add := ⟨⟨f46, _, F46, b46⟩, ⟨a46, i46, k46⟩⟩,
    m_rows := ⟨⟨f47, _, F47, b47⟩, ⟨a47, i47, k47⟩⟩,
    m_corners := ⟨⟨f48, _, F48, b48⟩, ⟨a48, i48, k48⟩⟩,
    m_turned := ⟨⟨f49, _, F49, b49⟩, ⟨a49, i49, k49⟩⟩,
    C := C,
    mFig := PySem.W.mg_of X G aC,
    cls := ⟨pg, hd, po, sa⟩,
    nV := nV,
    nL := nL,
    zero := z,
    mZERO := PySem.W.mg_of X G aZ,
    zeroT := fun H => .inr ⟨oZ, _, _, lZ, eZ.1, eZ.2, (by show 2 ≤ sizeLine; decide), .cons ⟨_, rfl⟩ (.cons ⟨_, rfl⟩ .nil)⟩,
    mt := mt,
    mtT := fun H => .inr ⟨oM, _, _, lM, eM.1, eM.2, (by show 0 ≤ sizeLine; decide), .nil⟩ }
  have Z : We W := { ca := ca, cn := cn, ct := ct, cm := cm, sf := sf, nf := nf, ko := if_pos (beq_self_eq_true _), rd := rd, ga := ga, p := p, at_ := sAt, rc := ⟨rest, sRc⟩ }
  exact ⟨_, fun s v => .of_eq rfl, fun base _ NS => ok_law ⟨NS, tr⟩ W Z F39⟩
theorem walkL {l : PySem.W.OpenLaw} {q : Program} {loose : List Str} {XP : (Str → Option Value) → Heap → Prop} {YP : World → Heap → Prop} {d : DefRec} {K : Params → PySem.W.Frag} (hn : l.most = some 63) (hdf : d.params.defaults = []) (him : importsNone q = true)
    (hY : ∀ (w : World) (h : Heap), YP w h → (K w.params).In h)
    (F : ∀ (w : World) (mg : Str → Option Value) (fa : Addr) (h : Heap), (K w.params).In h → h.Ns mainGlobals mg → mg d.name = some (.ref fa) →
      ∃ fd : FuncData, (∀ (s : Shared) (v : Value), BindsTo s fd ⟨[v], []⟩ [("_law_script", v)]) ∧ ∀ base : Heap, (K w.params).In base → base.NoSeer → FnOk l.prog w (K w.params) mg base CX0 52 fa fd ["_law_script"] (spLaw (K w.params))) :
    PySem.W.WalkO q loose XP YP l.row.toRowW d [] (fun f vs => PySem.call f vs) := by
  refine Att.attach_call hn hdf fun w s0 s1 mg mb fa o pm cd doc a vs ns G Y ho hd hcd hmg hobj hints hlen hg => ?_
  have KX := hY w _ Y
  obtain ⟨fd, hb, hF⟩ := F w mg fa _ KX G.T.g hmg
  exact end_call ⟨KX, G.T.g, G.T.b, G.T.builtins, G.T.nolimit, hg, G.T.seer him⟩ hobj hints hlen hF hb
end Tk

open PySem PySem.W PyProof.Rows
set_option maxRecDepth 100000 in
set_option maxHeartbeats 0 in
theorem PySem.Challenge.cw_tiespan_k15_whole_rules_of_figures_holds : PySem.Challenge.rw_tiespan_k15_whole_rules_of_figures.Holds := by
  w_on; o_law; k_head; (case hw => w_witness2)
  k_fill
  refine Tk.walkL (l := PySem.Challenge.rw_tiespan_k15_whole_rules_of_figures) rfl rfl ?him (fun w h Y => PySem.W.kIn_of Y) ?F
  case him => decide +kernel
  case F =>
    intro w mg fa h KX G hmg
    refine' Tk.all_mk ?tr KX G hmg ?a0 ?l0 ?c0 ?k0 ?a1 ?l1 ?c1 ?k1 ?a2 ?l2 ?c2 ?k2 ?a3 ?l3 ?c3 ?k3 ?a4 ?l4 ?c4 ?k4 ?a5 ?l5 ?c5 ?k5 ?a6 ?l6 ?c6 ?k6 ?a7 ?l7 ?c7 ?k7 ?a8 ?l8 ?c8 ?k8 ?a9 ?l9 ?c9 ?k9 ?a10 ?l10 ?c10 ?k10 ?a11 ?l11 ?c11 ?k11 ?a12 ?l12 ?c12 ?k12 ?a13 ?l13 ?c13 ?k13 ?a14 ?l14 ?c14 ?k14 ?a15 ?l15 ?c15 ?k15 ?a16 ?l16 ?c16 ?k16 ?a17 ?l17 ?c17 ?k17 ?a18 ?l18 ?c18 ?k18 ?a19 ?l19 ?c19 ?k19 ?a20 ?l20 ?c20 ?k20 ?a21 ?l21 ?c21 ?k21 ?a22 ?l22 ?c22 ?k22 ?a23 ?l23 ?c23 ?k23 ?a24 ?l24 ?c24 ?k24 ?a25 ?l25 ?c25 ?k25 ?a26 ?l26 ?c26 ?k26 ?a27 ?l27 ?c27 ?k27 ?a28 ?l28 ?c28 ?k28 ?a29 ?l29 ?c29 ?k29 ?a30 ?l30 ?c30 ?k30 ?a31 ?l31 ?c31 ?k31 ?a32 ?l32 ?c32 ?k32 ?a33 ?l33 ?c33 ?k33 ?a34 ?l34 ?c34 ?k34 ?a35 ?l35 ?c35 ?k35 ?a36 ?l36 ?c36 ?k36 ?a37 ?l37 ?c37 ?k37 ?a38 ?l38 ?c38 ?k38 ?a39 ?l39 ?c39 ?k39 ?z_abs ?z_len ?z_isinstance ?z_int ?z_bool ?z_tuple ?z_enumerate ?z_list ?z_all ?z_range ?aC ?a40 ?i40 ?l40 ?c40 ?k40 ?lT ?eT ?lM ?eM ?sAt ?sRc ?l41 ?c41 ?k41 ?a42 ?i42 ?l42 ?c42 ?k42 ?a43 ?i43 ?l43 ?c43 ?k43 ?a44 ?i44 ?l44 ?c44 ?k44 ?a45 ?i45 ?l45 ?c45 ?k45 ?a46 ?i46 ?l46 ?c46 ?k46 ?a47 ?i47 ?l47 ?c47 ?k47 ?a48 ?i48 ?l48 ?c48 ?k48 ?a49 ?i49 ?l49 ?c49 ?k49 ?pg ?hd ?po ?sa ?mk ?kc ?nV ?nL ?ca ?cn ?ct ?cm ?sf ?nf ?rd ?ga ?aZ ?lZ ?eZ
    (case tr => exact rfl)
    (case a0 => k_is)
    (case l0 => k_is)
    (case c0 => k_is)
    (case k0 => k_is)
    (case a1 => k_is)
    (case l1 => k_is)
    (case c1 => k_is)
    (case k1 => k_is)
    (case a2 => k_is)
    (case l2 => k_is)
    (case c2 => k_is)
    (case k2 => k_is)
    (case a3 => k_is)
    (case l3 => k_is)
    (case c3 => k_is)
    (case k3 => k_is)
    (case a4 => k_is)
    (case l4 => k_is)
    (case c4 => k_is)
    (case k4 => k_is)
    (case a5 => k_is)
    (case l5 => k_is)
    (case c5 => k_is)
    (case k5 => k_is)
    (case a6 => k_is)
    (case l6 => k_is)
    (case c6 => k_is)
    (case k6 => k_is)
    (case a7 => k_is)
    (case l7 => k_is)
    (case c7 => k_is)
    (case k7 => k_is)
    (case a8 => k_is)
    (case l8 => k_is)
    (case c8 => k_is)
    (case k8 => k_is)
    (case a9 => k_is)
    (case l9 => k_is)
    (case c9 => k_is)
    (case k9 => k_is)
    (case a10 => k_is)
    (case l10 => k_is)
    (case c10 => k_is)
    (case k10 => k_is)
    (case a11 => k_is)
    (case l11 => k_is)
    (case c11 => k_is)
    (case k11 => k_is)
    (case a12 => k_is)
    (case l12 => k_is)
    (case c12 => k_is)
    (case k12 => k_is)
    (case a13 => k_is)
    (case l13 => k_is)
    (case c13 => k_is)
    (case k13 => k_is)
    (case a14 => k_is)
    (case l14 => k_is)
    (case c14 => k_is)
    (case k14 => k_is)
    (case a15 => k_is)
    (case l15 => k_is)
    (case c15 => k_is)
    (case k15 => k_is)
    (case a16 => k_is)
    (case l16 => k_is)
    (case c16 => k_is)
    (case k16 => k_is)
    (case a17 => k_is)
    (case l17 => k_is)
    (case c17 => k_is)
    (case k17 => k_is)
    (case a18 => k_is)
    (case l18 => k_is)
    (case c18 => k_is)
    (case k18 => k_is)
    (case a19 => k_is)
    (case l19 => k_is)
    (case c19 => k_is)
    (case k19 => k_is)
    (case a20 => k_is)
    (case l20 => k_is)
    (case c20 => k_is)
    (case k20 => k_is)
    (case a21 => k_is)
    (case l21 => k_is)
    (case c21 => k_is)
    (case k21 => k_is)
    (case a22 => k_is)
    (case l22 => k_is)
    (case c22 => k_is)
    (case k22 => k_is)
    (case a23 => k_is)
    (case l23 => k_is)
    (case c23 => k_is)
    (case k23 => k_is)
    (case a24 => k_is)
    (case l24 => k_is)
    (case c24 => k_is)
    (case k24 => k_is)
    (case a25 => k_is)
    (case l25 => k_is)
    (case c25 => k_is)
    (case k25 => k_is)
    (case a26 => k_is)
    (case l26 => k_is)
    (case c26 => k_is)
    (case k26 => k_is)
    (case a27 => k_is)
    (case l27 => k_is)
    (case c27 => k_is)
    (case k27 => k_is)
    (case a28 => k_is)
    (case l28 => k_is)
    (case c28 => k_is)
    (case k28 => k_is)
    (case a29 => k_is)
    (case l29 => k_is)
    (case c29 => k_is)
    (case k29 => k_is)
    (case a30 => k_is)
    (case l30 => k_is)
    (case c30 => k_is)
    (case k30 => k_is)
    (case a31 => k_is)
    (case l31 => k_is)
    (case c31 => k_is)
    (case k31 => k_is)
    (case a32 => k_is)
    (case l32 => k_is)
    (case c32 => k_is)
    (case k32 => k_is)
    (case a33 => k_is)
    (case l33 => k_is)
    (case c33 => k_is)
    (case k33 => k_is)
    (case a34 => k_is)
    (case l34 => k_is)
    (case c34 => k_is)
    (case k34 => k_is)
    (case a35 => k_is)
    (case l35 => k_is)
    (case c35 => k_is)
    (case k35 => k_is)
    (case a36 => k_is)
    (case l36 => k_is)
    (case c36 => k_is)
    (case k36 => k_is)
    (case a37 => k_is)
    (case l37 => k_is)
    (case c37 => k_is)
    (case k37 => k_is)
    (case a38 => k_is)
    (case l38 => k_is)
    (case c38 => k_is)
    (case k38 => k_is)
    (case a39 => k_is)
    (case l39 => k_is)
    (case c39 => k_is)
    (case k39 => k_is)
    (case z_abs => k_is)
    (case z_len => k_is)
    (case z_isinstance => k_is)
    (case z_int => k_is)
    (case z_bool => k_is)
    (case z_tuple => k_is)
    (case z_enumerate => k_is)
    (case z_list => k_is)
    (case z_all => k_is)
    (case z_range => k_is)
    (case aC => k_is)
    (case a40 => k_is)
    (case i40 => k_is)
    (case l40 => k_is)
    (case c40 => k_is)
    (case k40 => k_is)
    (case lT => k_is)
    (case eT => exact rfl)
    (case lM => k_is)
    (case eM => exact ⟨rfl, rfl⟩)
    (case sAt => k_is)
    (case sRc => k_is)
    (case l41 => k_is)
    (case c41 => k_is)
    (case k41 => k_is)
    (case a42 => k_is)
    (case i42 => k_is)
    (case l42 => k_is)
    (case c42 => k_is)
    (case k42 => k_is)
    (case a43 => k_is)
    (case i43 => k_is)
    (case l43 => k_is)
    (case c43 => k_is)
    (case k43 => k_is)
    (case a44 => k_is)
    (case i44 => k_is)
    (case l44 => k_is)
    (case c44 => k_is)
    (case k44 => k_is)
    (case a45 => k_is)
    (case i45 => k_is)
    (case l45 => k_is)
    (case c45 => k_is)
    (case k45 => k_is)
    (case a46 => k_is)
    (case i46 => k_is)
    (case l46 => k_is)
    (case c46 => k_is)
    (case k46 => k_is)
    (case a47 => k_is)
    (case i47 => k_is)
    (case l47 => k_is)
    (case c47 => k_is)
    (case k47 => k_is)
    (case a48 => k_is)
    (case i48 => k_is)
    (case l48 => k_is)
    (case c48 => k_is)
    (case k48 => k_is)
    (case a49 => k_is)
    (case i49 => k_is)
    (case l49 => k_is)
    (case c49 => k_is)
    (case k49 => k_is)
    (case pg => k_is)
    (case hd => k_is)
    (case po => k_is)
    (case sa => k_is)
    (case mk => k_is)
    (case kc => k_is)
    (case nV => k_is)
    (case nL => k_is)
    (case ca => k_is)
    (case cn => k_is)
    (case ct => k_is)
    (case cm => k_is)
    (case sf => k_is)
    (case nf => k_is)
    (case rd => k_is)
    (case ga => k_is)
    (case aZ => k_is)
    (case lZ => k_is)
    (case eZ => exact ⟨rfl, rfl⟩)
