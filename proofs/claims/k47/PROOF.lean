import PyProof.Rows.All
import Wide.All
import OpenK.AllK
import Wide.FinOn
import HandS.Base
import HandS.Call
import HandS.List
import HandS.Comp
import HandS.Ends
import HandS.Iter
import HandS.Zip
import HandS.More
import HandS.Words
import HandS.WordsList
import HandS.Defaults
import HandS.Wide
import HandS.TupAny
import HandS.TryOnly
import HandS.Codes
import KE.KDictKeyed
import KE.KDictWalk
import KE.KDictCopyH
import HandS.SetKeys
import KE.SortData
import PySem.Challenge.RW_arcmill_k47_whole_few_pieces_whatever_is
import KE.KStateDown
import HandS.Head0
import HandS.Head1
import HandS.Head2
import HandS.HeadEnd
import HandS.HeadHook1
import HandS.HeadHook2
/-! positions on a round of length 4; arcs of it -/
namespace AM
/-- the way from a to x, to the left -/
def Dw (a x : Rat) : Rat := if a ≤ x then x - a else x - a + 4
def Rng (x : Rat) : Prop := 0 ≤ x ∧ x < 4
/-- x lies on the arc from a to b -/
def inA (a b x : Rat) : Prop := Dw a x ≤ Dw a b
theorem Dw_nn {a x : Rat} (ha : Rng a) (hx : Rng x) : 0 ≤ Dw a x ∧ Dw a x < 4 := by
  unfold Dw Rng at *
  split <;> grind
theorem Dw_zero {a x : Rat} (ha : Rng a) (hx : Rng x) : Dw a x = 0 ↔ a = x := by
  unfold Dw Rng at *
  split <;> grind
theorem Dw_self (a : Rat) : Dw a a = 0 := by
  unfold Dw
  grind
/-- ways add up, or go round -/
theorem Dw_add {a b c : Rat} (ha : Rng a) (hb : Rng b) (hc : Rng c) : Dw a b + Dw b c = Dw a c ∨ Dw a b + Dw b c = Dw a c + 4 := by
  unfold Dw Rng at *
  grind
theorem Dw_back {a b : Rat} (ha : Rng a) (hb : Rng b) (h : a ≠ b) : Dw a b + Dw b a = 4 := by
  unfold Dw Rng at *
  grind
/-- a place that lies d behind a -/
theorem Dw_at {a d : Rat} (ha : Rng a) (hd : 0 ≤ d) (hd4 : d < 4) : ∃ x, Rng x ∧ Dw a x = d := by
  unfold Dw Rng at *
  by_cases h : a + d < 4
  · exact ⟨a + d, by grind, by grind⟩
  · exact ⟨a + d - 4, by grind, by grind⟩
theorem Dw_inj {a x y : Rat} (ha : Rng a) (hx : Rng x) (hy : Rng y) (h : Dw a x = Dw a y) : x = y := by
  unfold Dw Rng at *
  grind
abbrev Arc := Rat × Rat
def ArcOk (s : Arc) : Prop := Rng s.1 ∧ Rng s.2 ∧ s.1 ≠ s.2
def inArc (s : Arc) (x : Rat) : Prop := inA s.1 s.2 x
def memA (N : List Arc) (x : Rat) : Prop := ∃ s, s ∈ N ∧ inArc s x
def Apart (s t : Arc) : Prop := ∀ x, Rng x → ¬ (inArc s x ∧ inArc t x)
/-- a lower bound of ways above 0 -/
theorem least_way {q : Rat} (hq : Rng q) : ∀ (S : List Rat), (∀ s, s ∈ S → Rng s ∧ s ≠ q) → ∃ d, 0 < d ∧ d < 4 ∧ ∀ s, s ∈ S → d ≤ Dw q s
  | [], _ => ⟨1, by grind, by grind, by simp⟩
  | s :: S, h => by
    obtain ⟨d, h1, h2, h3⟩ := least_way hq S fun t ht => h t (List.mem_cons_of_mem _ ht)
    obtain ⟨hs, hne⟩ := h s (List.mem_cons_self)
    have hp : 0 < Dw q s := by
      have a := (Dw_nn hq hs).1
      have b := Dw_zero hq hs
      grind
    by_cases hd : d ≤ Dw q s
    · refine ⟨d, h1, h2, fun t ht => ?_⟩
      rcases List.mem_cons.mp ht with rfl | ht
      · exact hd
      · exact h3 t ht
    · refine ⟨Dw q s, hp, (Dw_nn hq hs).2, fun t ht => ?_⟩
      rcases List.mem_cons.mp ht with rfl | ht
      · grind
      · have := h3 t ht
        grind
/-- just behind the end of an arc nothing lies -/
theorem gap {N : List Arc} (hok : ∀ s, s ∈ N → ArcOk s) (hsep : ∀ s t, s ∈ N → t ∈ N → s ≠ t → Apart s t) {s : Arc} (hs : s ∈ N) {x : Rat} (hx : Rng x) (hne : x ≠ s.2) :
    ∃ y, Rng y ∧ 0 < Dw s.2 y ∧ Dw s.2 y < Dw s.2 x ∧ ¬ memA N y := by
  obtain ⟨p, q⟩ := s
  obtain ⟨hp, hq, hpq⟩ := hok _ hs
  simp only at *
  have hst : ∀ t, t ∈ x :: N.map (·.1) → Rng t ∧ t ≠ q := by
    intro t ht
    rcases List.mem_cons.mp ht with rfl | ht
    · exact ⟨hx, hne⟩
    · obtain ⟨u, hu, rfl⟩ := List.mem_map.mp ht
      obtain ⟨h1, h2, h3⟩ := hok u hu
      refine ⟨h1, fun e => ?_⟩
      by_cases hup : u = (p, q)
      · rw [hup] at e
        exact hpq e
      · refine hsep _ _ hs hu (Ne.symm hup) q hq ⟨?_, ?_⟩
        · show Dw p q ≤ Dw p q
          grind
        · show Dw u.1 q ≤ Dw u.1 u.2
          rw [e, Dw_self, ← e]
          exact (Dw_nn h1 h2).1
  obtain ⟨d, d0, d4, hd⟩ := least_way hq _ hst
  obtain ⟨y, hy, hyd⟩ := Dw_at hq (d := d / 2) (by grind) (by grind)
  refine ⟨y, hy, by grind, ?_, ?_⟩
  · have := hd x List.mem_cons_self
    grind
  · rintro ⟨u, hu, hin⟩
    obtain ⟨h1, h2, h3⟩ := hok u hu
    have hdu := hd u.1 (List.mem_cons_of_mem _ (List.mem_map.mpr ⟨u, hu, rfl⟩))
    have hin : Dw u.1 y ≤ Dw u.1 u.2 := hin
    have hsum := Dw_add h1 hq hy
    have hback := Dw_back h1 hq (fun e => (hst u.1 (List.mem_cons_of_mem _ (List.mem_map.mpr ⟨u, hu, rfl⟩))).2 e)
    have hb1 := Dw_nn h1 hq
    have hb2 := Dw_nn h1 hy
    have hb3 := Dw_nn hq h1
    -- q lies on u
    have hq' : Dw u.1 q < Dw u.1 u.2 := by grind
    by_cases hup : u = (p, q)
    · rw [hup] at hq'
      grind
    · refine hsep _ _ hs hu (Ne.symm hup) q hq ⟨?_, ?_⟩
      · show Dw p q ≤ Dw p q
        grind
      · show Dw u.1 q ≤ Dw u.1 u.2
        grind
/-- arcs that don't touch are told by their points -/
theorem uniq_in {N M : List Arc} (hN : ∀ s, s ∈ N → ArcOk s) (hM : ∀ s, s ∈ M → ArcOk s) (sN : ∀ s t, s ∈ N → t ∈ N → s ≠ t → Apart s t) (sM : ∀ s t, s ∈ M → t ∈ M → s ≠ t → Apart s t)
    (h : ∀ x, Rng x → (memA N x ↔ memA M x)) {s : Arc} (hs : s ∈ N) : s ∈ M := by
  have step : ∀ {N M : List Arc}, (∀ s, s ∈ N → ArcOk s) → (∀ s, s ∈ M → ArcOk s) → (∀ s t, s ∈ M → t ∈ M → s ≠ t → Apart s t) → (∀ x, Rng x → (memA N x → memA M x)) →
      ∀ s, s ∈ N → ∃ t, t ∈ M ∧ Dw t.1 s.1 + Dw s.1 s.2 ≤ Dw t.1 t.2 := by
    intro N M hN hM sM h s hs
    obtain ⟨a, b⟩ := s
    obtain ⟨ha, hb, hab⟩ := hN _ hs
    simp only at *
    have hain : inArc (a, b) a := by
      show Dw a a ≤ Dw a b
      rw [Dw_self]
      exact (Dw_nn ha hb).1
    obtain ⟨⟨p, q⟩, ht, hin⟩ := h a ha ⟨_, hs, hain⟩
    refine ⟨(p, q), ht, ?_⟩
    obtain ⟨hp, hq, hpq⟩ := hM _ ht
    have hin : Dw p a ≤ Dw p q := hin
    simp only at *
    have claim : Dw a b ≤ Dw a q := by
      apply Classical.byContradiction
      intro hc
      have hbq : b ≠ q := by grind
      obtain ⟨y, hy, y1, y2, y3⟩ := gap hM sM ht hb hbq
      simp only at *
      refine y3 (h y hy ⟨_, hs, ?_⟩)
      show Dw a y ≤ Dw a b
      have e1 := Dw_add ha hq hy
      have e2 := Dw_add ha hq hb
      have e3 := Dw_nn ha hy
      have e4 := Dw_nn ha hb
      have e5 := Dw_nn hq hb
      have e6 := Dw_nn ha hq
      grind
    have e1 := Dw_add hp ha hq
    have e2 := Dw_nn hp ha
    have e3 := Dw_nn ha hq
    have e4 := Dw_nn hp hq
    grind
  obtain ⟨t, ht, h1⟩ := step hN hM sM (fun x hx => (h x hx).mp) s hs
  obtain ⟨u, hu, h2⟩ := step hM hN sN (fun x hx => (h x hx).mpr) t ht
  obtain ⟨a, b⟩ := s
  obtain ⟨p, q⟩ := t
  obtain ⟨ha, hb, hab⟩ := hN _ hs
  obtain ⟨hp, hq, hpq⟩ := hM _ ht
  obtain ⟨hu1, hu2, hu3⟩ := hN _ hu
  simp only at *
  have e1 := Dw_add hp ha hq
  have e2 := Dw_nn hp ha
  have e3 := Dw_nn ha hb
  have e5 := Dw_nn hp hq
  have e6 := Dw_add hu1 hp ha
  have e7 := Dw_nn hu1 hp
  have e8 := Dw_nn hu1 ha
  have e9 := Dw_nn hu1 hu2
  have hau : Dw u.1 a ≤ Dw u.1 u.2 := by grind
  have hsu : (a, b) = u := by
    apply Classical.byContradiction
    intro hne
    refine sN _ _ hs hu hne a ha ⟨?_, hau⟩
    show Dw a a ≤ Dw a b
    rw [Dw_self]
    exact e3.1
  subst hsu
  simp only at *
  have z1 : Dw p a = 0 := by grind
  have z2 : p = a := (Dw_zero hp ha).mp z1
  subst z2
  have z3 : Dw p b = Dw p q := by grind
  rw [Dw_inj hp hb hq z3]
  exact ht
theorem not_all {N : List Arc} (hN : ∀ s, s ∈ N → ArcOk s) (sN : ∀ s t, s ∈ N → t ∈ N → s ≠ t → Apart s t) : ∃ x, Rng x ∧ ¬ memA N x := by
  cases N with
  | nil => exact ⟨0, by unfold Rng; grind, fun ⟨s, hs, _⟩ => by cases hs⟩
  | cons s N =>
    obtain ⟨h1, h2, h3⟩ := hN s List.mem_cons_self
    obtain ⟨y, hy, _, _, h⟩ := gap hN sN (List.mem_cons_self) h1 h3
    exact ⟨y, hy, h⟩
/-- where a place and what lies just behind it are met, an arc leads on from it -/
theorem leads_on {P : List Arc} (hP : ∀ s, s ∈ P → ArcOk s) {h v : Rat} (hh : Rng h) (hv : 0 < v) (hv4 : v ≤ 4) (cov : ∀ x, Rng x → Dw h x < v → memA P x) :
    ∃ s, s ∈ P ∧ inArc s h ∧ s.2 ≠ h := by
  obtain ⟨d, d0, d4, hd⟩ := least_way hh ((P.map (·.1)).filter (fun t => decide (t ≠ h))) (fun t ht => by
    obtain ⟨h1, h2⟩ := List.mem_filter.mp ht
    obtain ⟨u, hu, rfl⟩ := List.mem_map.mp h1
    exact ⟨(hP u hu).1, of_decide_eq_true h2⟩)
  obtain ⟨m, m0, md, mv⟩ : ∃ m : Rat, 0 < m ∧ m < d ∧ m < v := by
    by_cases q : d ≤ v
    · exact ⟨d / 2, by grind, by grind, by grind⟩
    · exact ⟨v / 2, by grind, by grind, by grind⟩
  obtain ⟨y, hy, hyd⟩ := Dw_at hh (d := m) (by grind) (by grind)
  obtain ⟨s, hs, hin⟩ := cov y hy (by grind)
  obtain ⟨h1, h2, h3⟩ := hP s hs
  have hin : Dw s.1 y ≤ Dw s.1 s.2 := hin
  refine ⟨s, hs, ?_, ?_⟩
  · show Dw s.1 h ≤ Dw s.1 s.2
    by_cases e : s.1 = h
    · rw [e, Dw_self, ← e]
      exact (Dw_nn h1 h2).1
    · have := hd s.1 (List.mem_filter.mpr ⟨List.mem_map.mpr ⟨s, hs, rfl⟩, decide_eq_true e⟩)
      have e1 := Dw_add h1 hh hy
      have e2 := Dw_back h1 hh e
      have e3 := Dw_nn h1 hh
      have e4 := Dw_nn h1 hy
      grind
  · intro e
    by_cases e' : s.1 = h
    · exact h3 (by rw [e, e'])
    · have := hd s.1 (List.mem_filter.mpr ⟨List.mem_map.mpr ⟨s, hs, rfl⟩, decide_eq_true e'⟩)
      have e1 := Dw_add h1 hh hy
      have e2 := Dw_back h1 hh e'
      have e3 := Dw_nn h1 hh
      have e4 := Dw_nn h1 hy
      rw [e] at hin
      grind
end AM
/-! points; the way round a centre as a place on the round of length 4 -/
namespace AM
abbrev Pt := Rat × Rat
def off (p q : Pt) : Pt := (p.1 - q.1, p.2 - q.2)
def tog (p q : Pt) : Pt := (p.1 + q.1, p.2 + q.2)
def along (p q : Pt) : Rat := p.1 * q.1 + p.2 * q.2
def across (p q : Pt) : Rat := p.1 * q.2 - p.2 * q.1
def far (p q : Pt) : Rat := along (off p q) (off p q)
def sgn (x : Rat) : Int := (if 0 < x then 1 else 0) - (if x < 0 then 1 else 0)
def quarterOf (u v : Pt) : Int :=
  if 0 < sgn (along u v) ∧ 0 ≤ sgn (across u v) then 0 else if 0 < sgn (across u v) then 1 else if sgn (along u v) < 0 then 2 else 3
def ahead (c a p q : Pt) : Bool :=
  if quarterOf (off a c) (off p c) ≠ quarterOf (off a c) (off q c) then decide (quarterOf (off a c) (off p c) < quarterOf (off a c) (off q c))
  else decide (0 < across (off p c) (off q c))
def ab (x : Rat) : Rat := if 0 ≤ x then x else -x
def upper (v : Pt) : Prop := 0 < v.2 ∨ (v.2 = 0 ∧ 0 < v.1)
instance (v : Pt) : Decidable (upper v) := inferInstanceAs (Decidable (_ ∨ _))
/-- the place of a direction -/
def ang (v : Pt) : Rat := if upper v then 1 - v.1 / (ab v.1 + ab v.2) else 3 + v.1 / (ab v.1 + ab v.2)
def nz (v : Pt) : Prop := v.1 ≠ 0 ∨ v.2 ≠ 0
/-- a direction on the square of the four quarters -/
def Quad (t p q : Rat) : Prop :=
  (0 ≤ t ∧ t < 1 ∧ p = 1 - t ∧ q = t) ∨ (1 ≤ t ∧ t < 2 ∧ p = 1 - t ∧ q = 2 - t) ∨ (2 ≤ t ∧ t < 3 ∧ p = t - 3 ∧ q = 2 - t) ∨ (3 ≤ t ∧ t < 4 ∧ p = t - 3 ∧ q = t - 4)
theorem quad_of {v : Pt} (h : nz v) : ∃ s p q, 0 < s ∧ v.1 = s * p ∧ v.2 = s * q ∧ Quad (ang v) p q := by
  obtain ⟨x, y⟩ := v
  unfold nz at h
  simp only at h
  have hs : 0 < ab x + ab y := by unfold ab; grind
  refine ⟨ab x + ab y, x / (ab x + ab y), y / (ab x + ab y), hs, by grind, by grind, ?_⟩
  obtain ⟨p, hp⟩ : ∃ p, p = x / (ab x + ab y) := ⟨_, rfl⟩
  obtain ⟨q, hq⟩ : ∃ q, q = y / (ab x + ab y) := ⟨_, rfl⟩
  have ex : x = p * (ab x + ab y) := by grind
  have ey : y = q * (ab x + ab y) := by grind
  rw [← hp, ← hq]
  have ea : ang (x, y) = if upper (x, y) then 1 - p else 3 + p := by
    unfold ang
    rw [hp]
  rw [ea]
  -- signs
  have sg : ∀ z : Rat, (0 < z * (ab x + ab y) ↔ 0 < z) ∧ (z * (ab x + ab y) < 0 ↔ z < 0) := by
    intro z
    constructor
    · constructor
      · intro hz
        apply Classical.byContradiction
        intro hc
        have := Rat.mul_nonneg (a := -z) (b := ab x + ab y) (by grind) (by grind)
        grind
      · intro hz
        exact Rat.mul_pos hz hs
    · constructor
      · intro hz
        apply Classical.byContradiction
        intro hc
        have := Rat.mul_nonneg (a := z) (b := ab x + ab y) (by grind) (by grind)
        grind
      · intro hz
        have := Rat.mul_pos (a := -z) (b := ab x + ab y) (by grind) hs
        grind
  have px : (0 < x ↔ 0 < p) ∧ (x < 0 ↔ p < 0) := by
    have := sg p
    rw [← ex] at this
    exact this
  have py : (0 < y ↔ 0 < q) ∧ (y < 0 ↔ q < 0) := by
    have := sg q
    rw [← ey] at this
    exact this
  have hsum : ab p + ab q = 1 := by
    have e1 : ab x = ab p * (ab x + ab y) := by
      by_cases h0 : 0 ≤ x
      · have : ab p = p := by unfold ab; grind
        have : ab x = x := by unfold ab; grind
        grind
      · have : ab p = -p := by unfold ab; grind
        have : ab x = -x := by unfold ab; grind
        grind
    have e2 : ab y = ab q * (ab x + ab y) := by
      by_cases h0 : 0 ≤ y
      · have : ab q = q := by unfold ab; grind
        have : ab y = y := by unfold ab; grind
        grind
      · have : ab q = -q := by unfold ab; grind
        have : ab y = -y := by unfold ab; grind
        grind
    grind
  clear ex ey sg ea hp hq
  unfold Quad
  unfold ab at hsum
  by_cases h1 : upper (x, y)
  · rw [if_pos h1]
    unfold upper at h1
    simp only at h1
    by_cases h2 : 0 < x
    · left
      grind
    · right
      left
      grind
  · rw [if_neg h1]
    unfold upper at h1
    simp only at h1
    right
    right
    by_cases h2 : x < 0
    · left
      grind
    · right
      grind
theorem ang_rng {v : Pt} (h : nz v) : Rng (ang v) := by
  obtain ⟨s, p, q, _, _, _, hq⟩ := quad_of h
  unfold Quad at hq
  unfold Rng
  grind
theorem sg_mul {s z : Rat} (hs : 0 < s) : (0 < s * z ↔ 0 < z) ∧ (s * z < 0 ↔ z < 0) := by
  constructor
  · constructor
    · intro hz
      apply Classical.byContradiction
      intro hc
      have := Rat.mul_nonneg (a := s) (b := -z) (by grind) (by grind)
      grind
    · intro hz
      exact Rat.mul_pos hs hz
  · constructor
    · intro hz
      apply Classical.byContradiction
      intro hc
      have := Rat.mul_nonneg (a := s) (b := z) (by grind) (by grind)
      grind
    · intro hz
      have := Rat.mul_pos (a := s) (b := -z) hs (by grind)
      grind
/-- the sign of the crossing, of the two places -/
theorem quad_cross {t p q t' p' q' : Rat} (h : Quad t p q) (h' : Quad t' p' q') :
    (0 < p * q' - q * p' ↔ 0 < Dw t t' ∧ Dw t t' < 2) ∧ (p * q' - q * p' < 0 ↔ 2 < Dw t t') := by
  unfold Quad at h h'
  unfold Dw
  rcases h with ⟨a, b, e1, e2⟩ | ⟨a, b, e1, e2⟩ | ⟨a, b, e1, e2⟩ | ⟨a, b, e1, e2⟩ <;>
  rcases h' with ⟨a', b', e1', e2'⟩ | ⟨a', b', e1', e2'⟩ | ⟨a', b', e1', e2'⟩ | ⟨a', b', e1', e2'⟩ <;>
  rw [e1, e2, e1', e2'] <;> clear e1 e2 e1' e2'
  · grind
  · have h1 := Rat.mul_pos (a := 1 - t) (b := 2 - t') (by grind) (by grind)
    have h2 := Rat.mul_nonneg (a := t) (b := t' - 1) (by grind) (by grind)
    grind
  · grind
  · have h1 := Rat.mul_pos (a := 1 - t) (b := 4 - t') (by grind) (by grind)
    have h2 := Rat.mul_nonneg (a := t) (b := t' - 3) (by grind) (by grind)
    grind
  · have h1 := Rat.mul_pos (a := 2 - t) (b := 1 - t') (by grind) (by grind)
    have h2 := Rat.mul_nonneg (a := t - 1) (b := t') (by grind) (by grind)
    grind
  · grind
  · have h1 := Rat.mul_pos (a := 2 - t) (b := 3 - t') (by grind) (by grind)
    have h2 := Rat.mul_nonneg (a := t - 1) (b := t' - 2) (by grind) (by grind)
    grind
  · grind
  · grind
  · have h1 := Rat.mul_pos (a := 3 - t) (b := 2 - t') (by grind) (by grind)
    have h2 := Rat.mul_nonneg (a := t - 2) (b := t' - 1) (by grind) (by grind)
    grind
  · grind
  · have h1 := Rat.mul_pos (a := 3 - t) (b := 4 - t') (by grind) (by grind)
    have h2 := Rat.mul_nonneg (a := t - 2) (b := t' - 3) (by grind) (by grind)
    grind
  · have h1 := Rat.mul_pos (a := 4 - t) (b := 1 - t') (by grind) (by grind)
    have h2 := Rat.mul_nonneg (a := t - 3) (b := t') (by grind) (by grind)
    grind
  · grind
  · have h1 := Rat.mul_pos (a := 4 - t) (b := 3 - t') (by grind) (by grind)
    have h2 := Rat.mul_nonneg (a := t - 3) (b := t' - 2) (by grind) (by grind)
    grind
  · grind
theorem cross_ang {u v : Pt} (hu : nz u) (hv : nz v) :
    (0 < across u v ↔ 0 < Dw (ang u) (ang v) ∧ Dw (ang u) (ang v) < 2) ∧ (across u v < 0 ↔ 2 < Dw (ang u) (ang v)) := by
  obtain ⟨s, p, q, hs, e1, e2, h⟩ := quad_of hu
  obtain ⟨s', p', q', hs', e1', e2', h'⟩ := quad_of hv
  have k := quad_cross h h'
  have e : across u v = (s * s') * (p * q' - q * p') := by
    unfold across
    rw [e1, e2, e1', e2']
    grind
  have z := sg_mul (z := p * q' - q * p') (Rat.mul_pos hs hs')
  rw [e]
  exact ⟨z.1.trans k.1, z.2.trans k.2⟩
/-- a quarter back -/
def qback (v : Pt) : Pt := (v.2, -v.1)
theorem qback_nz {v : Pt} (h : nz v) : nz (qback v) := by
  unfold nz qback at *
  grind
theorem ang_quad {v : Pt} {s t p q : Rat} (hs : 0 < s) (e1 : v.1 = s * p) (e2 : v.2 = s * q) (h : Quad t p q) : ang v = t := by
  have hn : nz v := by
    unfold nz
    apply Classical.byContradiction
    intro hc
    have h1 : s * p = 0 := by grind
    have h2 : s * q = 0 := by grind
    have h3 : p = 0 := by
      rcases Rat.mul_eq_zero.mp h1 with z | z
      · grind
      · exact z
    have h4 : q = 0 := by
      rcases Rat.mul_eq_zero.mp h2 with z | z
      · grind
      · exact z
    unfold Quad at h
    grind
  obtain ⟨s', p', q', hs', f1, f2, h'⟩ := quad_of hn
  have k := quad_cross h h'
  have z : s * s' * (p * q' - q * p') = 0 := by
    have : (s * p) * (s' * q') - (s * q) * (s' * p') = 0 := by rw [← e1, ← e2, ← f1, ← f2]; grind
    grind
  have z' : p * q' - q * p' = 0 := by
    rcases Rat.mul_eq_zero.mp z with y | y
    · have := Rat.mul_pos hs hs'
      grind
    · exact y
  have sp : (0 < p ↔ 0 < p') ∧ (p < 0 ↔ p' < 0) := by
    have a := sg_mul (z := p) hs
    have b := sg_mul (z := p') hs'
    rw [← e1, f1] at a
    grind
  have sq : (0 < q ↔ 0 < q') ∧ (q < 0 ↔ q' < 0) := by
    have a := sg_mul (z := q) hs
    have b := sg_mul (z := q') hs'
    rw [← e2, f2] at a
    grind
  rw [z'] at k
  unfold Quad at h h'
  unfold Dw at k
  clear z e1 e2 f1 f2 hn
  grind (splits := 40)
theorem ang_qback {v : Pt} (h : nz v) : ang (qback v) = if 1 ≤ ang v then ang v - 1 else ang v + 3 := by
  obtain ⟨s, p, q, hs, e1, e2, k⟩ := quad_of h
  refine ang_quad (s := s) (p := q) (q := -p) hs e2 (by show -v.1 = s * -p; rw [e1]; grind) ?_
  unfold Quad at *
  grind
theorem along_ang {u v : Pt} (hu : nz u) (hv : nz v) :
    (0 < along u v ↔ Dw (ang u) (ang v) < 1 ∨ 3 < Dw (ang u) (ang v)) ∧ (along u v < 0 ↔ 1 < Dw (ang u) (ang v) ∧ Dw (ang u) (ang v) < 3) := by
  have k := cross_ang (qback_nz hu) hv
  have e : across (qback u) v = along u v := by
    unfold across qback along
    grind
  rw [e, ang_qback hu] at k
  have r1 := ang_rng hu
  have r2 := ang_rng hv
  unfold Rng at r1 r2
  unfold Dw at *
  grind
theorem sgn_pos {x : Rat} : 0 < sgn x ↔ 0 < x := by
  unfold sgn
  grind
theorem sgn_nn {x : Rat} : 0 ≤ sgn x ↔ 0 ≤ x := by
  unfold sgn
  grind
theorem sgn_neg {x : Rat} : sgn x < 0 ↔ x < 0 := by
  unfold sgn
  grind
theorem sgn_zero {x : Rat} : sgn x = 0 ↔ x = 0 := by
  unfold sgn
  grind
theorem quarter_ang {u v : Pt} (hu : nz u) (hv : nz v) :
    quarterOf u v = if Dw (ang u) (ang v) < 1 then 0 else if Dw (ang u) (ang v) < 2 then 1 else if Dw (ang u) (ang v) < 3 then 2 else 3 := by
  have k := cross_ang hu hv
  have l := along_ang hu hv
  have w := Dw_nn (ang_rng hu) (ang_rng hv)
  unfold quarterOf
  simp only [sgn_pos, sgn_nn, sgn_neg]
  generalize across u v = x at *
  generalize along u v = y at *
  generalize Dw (ang u) (ang v) = d at *
  grind (splits := 40)
/-- THE PLACES tell who is ahead -/
theorem ahead_ang {c a p q : Pt} (ha : nz (off a c)) (hp : nz (off p c)) (hq : nz (off q c)) :
    ahead c a p q = true ↔ Dw (ang (off a c)) (ang (off p c)) < Dw (ang (off a c)) (ang (off q c)) := by
  have k3 := (cross_ang hp hq).1
  have ra := ang_rng ha
  have rp := ang_rng hp
  have rq := ang_rng hq
  have w1 := Dw_nn ra rp
  have w2 := Dw_nn ra rq
  have w3 := Dw_nn rp rq
  have ad := Dw_add ra rp rq
  unfold ahead
  rw [quarter_ang ha hp, quarter_ang ha hq]
  generalize across (off p c) (off q c) = x3 at *
  generalize Dw (ang (off a c)) (ang (off p c)) = d1 at *
  generalize Dw (ang (off a c)) (ang (off q c)) = d2 at *
  generalize Dw (ang (off p c)) (ang (off q c)) = d3 at *
  clear ra rp rq ha hp hq
  have e1 : ∃ n1 : Int, n1 = (if d1 < 1 then 0 else if d1 < 2 then 1 else if d1 < 3 then 2 else 3 : Int) := ⟨_, rfl⟩
  have e2 : ∃ n2 : Int, n2 = (if d2 < 1 then 0 else if d2 < 2 then 1 else if d2 < 3 then 2 else 3 : Int) := ⟨_, rfl⟩
  obtain ⟨n1, h1⟩ := e1
  obtain ⟨n2, h2⟩ := e2
  rw [← h1, ← h2]
  by_cases hne : n1 = n2
  · rw [if_neg (by simpa using hne), decide_eq_true_iff]
    grind (splits := 40)
  · rw [if_pos hne, decide_eq_true_iff]
    grind (splits := 40)
theorem sq_nn (x : Rat) : 0 ≤ x * x := by
  by_cases h : 0 ≤ x
  · exact Rat.mul_nonneg h h
  · have := Rat.mul_nonneg (a := -x) (b := -x) (by grind) (by grind)
    grind
/-- points as far from a centre, in one place, are one -/
theorem far_pos {c p : Pt} : nz (off p c) ↔ far c p ≠ 0 := by
  unfold nz far along off
  simp only
  have h1 := sq_nn (c.1 - p.1)
  have h2 := sq_nn (c.2 - p.2)
  constructor
  · intro h e
    have z1 : (c.1 - p.1) * (c.1 - p.1) = 0 := by grind
    have z2 : (c.2 - p.2) * (c.2 - p.2) = 0 := by grind
    have y1 : c.1 - p.1 = 0 := by rcases Rat.mul_eq_zero.mp z1 with z | z <;> exact z
    have y2 : c.2 - p.2 = 0 := by rcases Rat.mul_eq_zero.mp z2 with z | z <;> exact z
    grind
  · intro h
    apply Classical.byContradiction
    intro hc
    have y1 : p.1 - c.1 = 0 := by grind
    have y2 : p.2 - c.2 = 0 := by grind
    have y3 : c.1 - p.1 = 0 := by grind
    have y4 : c.2 - p.2 = 0 := by grind
    rw [y3, y4] at h
    grind
theorem ang_inj {c p q : Pt} (hp : nz (off p c)) (hq : nz (off q c)) (hf : far c p = far c q) (he : ang (off p c) = ang (off q c)) : p = q := by
  obtain ⟨s, a, b, hs, e1, e2, h⟩ := quad_of hp
  obtain ⟨s', a', b', hs', e1', e2', h'⟩ := quad_of hq
  rw [he] at h
  have ea : a = a' ∧ b = b' := by
    unfold Quad at h h'
    grind (splits := 40)
  obtain ⟨rfl, rfl⟩ := ea
  have fp : far c p = s * s * (a * a + b * b) := by
    have : far c p = (off p c).1 * (off p c).1 + (off p c).2 * (off p c).2 := by
      unfold far along off
      grind
    rw [this, e1, e2]
    grind
  have fq : far c q = s' * s' * (a * a + b * b) := by
    have : far c q = (off q c).1 * (off q c).1 + (off q c).2 * (off q c).2 := by
      unfold far along off
      grind
    rw [this, e1', e2']
    grind
  have hne : a * a + b * b ≠ 0 := by
    intro z
    have := far_pos.mp hp
    rw [fp, z] at this
    grind
  have hss : (s - s') * (s + s') * (a * a + b * b) = 0 := by
    rw [fp, fq] at hf
    grind
  have hs2 : s = s' := by
    rcases Rat.mul_eq_zero.mp hss with z | z
    · rcases Rat.mul_eq_zero.mp z with y | y <;> grind
    · exact absurd z hne
  subst hs2
  have p1 : p.1 = q.1 := by
    unfold off at e1 e1'
    grind
  have p2 : p.2 = q.2 := by
    unfold off at e2 e2'
    grind
  exact Prod.ext p1 p2
end AM
/-! pieces, carriers; a carrier's places -/
namespace AM
inductive Pc where
  | dot (p : Pt) | st (p q : Pt) | arc (c p q : Pt) | ring (c p : Pt)
  deriving DecidableEq
inductive Key where
  | line (a b d : Int) | circ (c : Pt) (r : Rat)
  deriving DecidableEq
def below (a b : Rat) : Bool := decide (a < b)
def before (p q : Pt) : Bool := below p.1 q.1 || (decide (p.1 = q.1) && below p.2 q.2)
def side (a b p : Pt) : Int := sgn (across (off b a) (off p a))
theorem before_iff {p q : Pt} : before p q = true ↔ p.1 < q.1 ∨ (p.1 = q.1 ∧ p.2 < q.2) := by
  unfold before below
  simp
theorem side_zero {a b p : Pt} : side a b p = 0 ↔ across (off b a) (off p a) = 0 := sgn_zero

/-! ### lines -/
def gcd3 (a b d : Int) : Int := (Int.gcd (Int.gcd a b) d : Nat)
/-- what a row of three is divided by -/
def byOf (a b d : Int) : Int := if a < 0 ∨ (a = 0 ∧ b < 0) then 0 - gcd3 a b d else gcd3 a b d
def norm3 (a b d : Int) : Int × Int × Int := (a.fdiv (byOf a b d), b.fdiv (byOf a b d), d.fdiv (byOf a b d))
def row3 (w : Pt) (h : Rat) : Int × Int × Int :=
  let bot : Int := (w.1.den : Int) * w.2.den * h.den
  (w.2.num * (bot / w.2.den), 0 - w.1.num * (bot / w.1.den), 0 - h.num * (bot / h.den))
def lineT (p q : Pt) : Int × Int × Int :=
  let r := row3 (off q p) (across (off q p) p)
  norm3 r.1 r.2.1 r.2.2
theorem gcd3_scale (k a b d : Int) : gcd3 (k * a) (k * b) (k * d) = (k.natAbs : Int) * gcd3 a b d := by
  unfold gcd3
  rw [Int.gcd_mul_left]
  have : ((k.natAbs * Int.gcd a b : Nat) : Int).gcd (k * d) = k.natAbs * Int.gcd (Int.gcd a b) d := by
    show Nat.gcd (k.natAbs * Int.gcd a b) (k * d).natAbs = k.natAbs * Nat.gcd (Int.gcd a b) d.natAbs
    rw [Int.natAbs_mul, Nat.gcd_mul_left]
  rw [this]
  simp
theorem byOf_scale {k a b d : Int} (hk : k ≠ 0) (hab : a ≠ 0 ∨ b ≠ 0) : byOf (k * a) (k * b) (k * d) = k * byOf a b d := by
  unfold byOf
  rw [gcd3_scale]
  rcases Int.lt_or_gt_of_ne hk with h | h
  · have e : (k.natAbs : Int) = -k := by omega
    rw [e]
    have n1 : k * a < 0 ↔ 0 < a := by
      constructor
      · intro z
        apply Classical.byContradiction
        intro hc
        have := Int.mul_nonneg (a := -k) (b := -a) (by omega) (by omega)
        have e2 : -k * -a = k * a := by grind
        omega
      · intro z
        have := Int.mul_pos (a := -k) (b := a) (by omega) z
        have e2 : -k * a = -(k * a) := by grind
        omega
    have n2 : k * b < 0 ↔ 0 < b := by
      constructor
      · intro z
        apply Classical.byContradiction
        intro hc
        have := Int.mul_nonneg (a := -k) (b := -b) (by omega) (by omega)
        have e2 : -k * -b = k * b := by grind
        omega
      · intro z
        have := Int.mul_pos (a := -k) (b := b) (by omega) z
        have e2 : -k * b = -(k * b) := by grind
        omega
    have n3 : k * a = 0 ↔ a = 0 := by
      constructor
      · intro z
        rcases Int.mul_eq_zero.mp z with y | y
        · omega
        · exact y
      · intro z
        rw [z, Int.mul_zero]
    have e3 : -k * gcd3 a b d = -(k * gcd3 a b d) := by grind
    by_cases c : a < 0 ∨ (a = 0 ∧ b < 0)
    · rw [if_pos c, if_neg (by rw [n1, n2, n3]; omega), e3]
      grind
    · rw [if_neg c, if_pos (by rw [n1, n2, n3]; omega), e3]
      omega
  · have e : (k.natAbs : Int) = k := by omega
    rw [e]
    have n1 : k * a < 0 ↔ a < 0 := by
      constructor
      · intro z
        apply Classical.byContradiction
        intro hc
        have := Int.mul_nonneg (a := k) (b := a) (by omega) (by omega)
        omega
      · intro z
        have := Int.mul_pos (a := k) (b := -a) h (by omega)
        have e2 : k * -a = -(k * a) := by grind
        omega
    have n2 : k * b < 0 ↔ b < 0 := by
      constructor
      · intro z
        apply Classical.byContradiction
        intro hc
        have := Int.mul_nonneg (a := k) (b := b) (by omega) (by omega)
        omega
      · intro z
        have := Int.mul_pos (a := k) (b := -b) h (by omega)
        have e2 : k * -b = -(k * b) := by grind
        omega
    have n3 : k * a = 0 ↔ a = 0 := by
      constructor
      · intro z
        rcases Int.mul_eq_zero.mp z with y | y
        · omega
        · exact y
      · intro z
        rw [z, Int.mul_zero]
    by_cases c : a < 0 ∨ (a = 0 ∧ b < 0)
    · rw [if_pos c, if_pos (by rw [n1, n2, n3]; exact c)]
      grind
    · rw [if_neg c, if_neg (by rw [n1, n2, n3]; exact c)]
theorem gcd3_ne {a b d : Int} (hab : a ≠ 0 ∨ b ≠ 0) : gcd3 a b d ≠ 0 := by
  unfold gcd3
  intro z
  have z' : Int.gcd (Int.gcd a b) d = 0 := by omega
  have z2 := (Int.gcd_eq_zero_iff.mp z').1
  have z3 := Int.gcd_eq_zero_iff.mp (by omega : Int.gcd a b = 0)
  omega
theorem byOf_ne {a b d : Int} (hab : a ≠ 0 ∨ b ≠ 0) : byOf a b d ≠ 0 := by
  have := gcd3_ne (d := d) hab
  unfold byOf
  split <;> omega
theorem norm3_scale {k a b d : Int} (hk : k ≠ 0) (hab : a ≠ 0 ∨ b ≠ 0) : norm3 (k * a) (k * b) (k * d) = norm3 a b d := by
  unfold norm3
  rw [byOf_scale hk hab]
  have hb := byOf_ne (d := d) hab
  have f : ∀ x y : Int, (k * x).fdiv (k * y) = x.fdiv y := by
    intro x y
    rcases Int.lt_or_gt_of_ne hk with h | h
    · have e1 : k * x = (-k) * (-x) := by grind
      have e2 : k * y = (-k) * (-y) := by grind
      rw [e1, e2, Int.mul_fdiv_mul_of_pos _ _ (by omega), Int.neg_fdiv_neg]
    · rw [Int.mul_fdiv_mul_of_pos _ _ h]
  rw [f, f, f]
theorem byOf_dvd (a b d : Int) : byOf a b d ∣ a ∧ byOf a b d ∣ b ∧ byOf a b d ∣ d := by
  have h : gcd3 a b d ∣ a ∧ gcd3 a b d ∣ b ∧ gcd3 a b d ∣ d := by
    unfold gcd3
    have h1 : ((Int.gcd (Int.gcd a b) d : Nat) : Int) ∣ (Int.gcd a b : Nat) := Int.gcd_dvd_left ..
    exact ⟨Int.dvd_trans h1 (Int.gcd_dvd_left ..), Int.dvd_trans h1 (Int.gcd_dvd_right ..), Int.gcd_dvd_right ..⟩
  unfold byOf
  split
  · rw [Int.zero_sub]
    exact ⟨Int.neg_dvd.mpr h.1, Int.neg_dvd.mpr h.2.1, Int.neg_dvd.mpr h.2.2⟩
  · exact h
theorem norm3_mul (a b d : Int) : (norm3 a b d).1 * byOf a b d = a ∧ (norm3 a b d).2.1 * byOf a b d = b ∧ (norm3 a b d).2.2 * byOf a b d = d := by
  obtain ⟨h1, h2, h3⟩ := byOf_dvd a b d
  exact ⟨Int.fdiv_mul_cancel h1, Int.fdiv_mul_cancel h2, Int.fdiv_mul_cancel h3⟩
theorem num_den (x : Rat) : (x.num : Rat) = x * (x.den : Rat) := by
  have h := Rat.num_divInt_den x
  rw [Rat.divInt_eq_div] at h
  have q : ((x.den : Int) : Rat) ≠ 0 := by
    have := x.den_pos
    intro z
    have := Rat.intCast_eq_zero_iff.mp z
    omega
  have e : ((x.den : Int) : Rat) = (x.den : Rat) := Rat.intCast_natCast _
  rw [e] at h q
  grind
theorem row3_val (w : Pt) (h : Rat) : ∃ bot : Rat, bot ≠ 0 ∧ ((row3 w h).1 : Rat) = w.2 * bot ∧ ((row3 w h).2.1 : Rat) = -(w.1 * bot) ∧ ((row3 w h).2.2 : Rat) = -(h * bot) := by
  have p1 : ((w.1.den : Int)) ≠ 0 := by have := w.1.den_pos; omega
  have p2 : ((w.2.den : Int)) ≠ 0 := by have := w.2.den_pos; omega
  have p3 : ((h.den : Int)) ≠ 0 := by have := h.den_pos; omega
  have q1 : (w.1.den : Rat) ≠ 0 := by have := w.1.den_pos; exact_mod_cast (by omega : w.1.den ≠ 0)
  have q2 : (w.2.den : Rat) ≠ 0 := by have := w.2.den_pos; exact_mod_cast (by omega : w.2.den ≠ 0)
  have q3 : (h.den : Rat) ≠ 0 := by have := h.den_pos; exact_mod_cast (by omega : h.den ≠ 0)
  have e1 : (w.1.den : Int) * w.2.den * h.den / w.1.den = w.2.den * h.den := by
    rw [Int.mul_assoc, Int.mul_ediv_cancel_left _ p1]
  have e2 : (w.1.den : Int) * w.2.den * h.den / w.2.den = w.1.den * h.den := by
    rw [Int.mul_comm (w.1.den : Int), Int.mul_assoc, Int.mul_ediv_cancel_left _ p2]
  have e3 : (w.1.den : Int) * w.2.den * h.den / h.den = w.1.den * w.2.den := by
    rw [Int.mul_ediv_cancel _ p3]
  refine ⟨(w.1.den : Rat) * w.2.den * h.den, ?_, ?_, ?_, ?_⟩
  · intro z
    rcases Rat.mul_eq_zero.mp z with y | y
    · rcases Rat.mul_eq_zero.mp y with x | x
      · exact q1 x
      · exact q2 x
    · exact q3 y
  · unfold row3
    simp only
    rw [e2]
    have := num_den w.2
    push_cast
    rw [this]
    grind
  · unfold row3
    simp only
    rw [e1]
    have := num_den w.1
    push_cast
    rw [this]
    grind
  · unfold row3
    simp only
    rw [e3]
    have := num_den h
    push_cast
    rw [this]
    grind

/-- a row of three of a line: where it leads to d -/
def OnRow (t : Int × Int × Int) (p : Pt) : Prop := (t.1 : Rat) * p.1 + (t.2.1 : Rat) * p.2 = (t.2.2 : Rat)
theorem lineT_val {p q : Pt} (h : p ≠ q) : ∃ m : Rat, m ≠ 0 ∧ ((lineT p q).1 : Rat) = (off q p).2 * m ∧ ((lineT p q).2.1 : Rat) = -((off q p).1 * m) ∧ ((lineT p q).2.2 : Rat) = -(across (off q p) p * m) := by
  obtain ⟨bot, hb, e1, e2, e3⟩ := row3_val (off q p) (across (off q p) p)
  generalize hr : row3 (off q p) (across (off q p) p) = r at *
  have hw : (off q p).1 ≠ 0 ∨ (off q p).2 ≠ 0 := by
    apply Classical.byContradiction
    intro hc
    apply h
    unfold off at hc
    exact Prod.ext (by grind) (by grind)
  have hab : r.1 ≠ 0 ∨ r.2.1 ≠ 0 := by
    apply Classical.byContradiction
    intro hc
    have z1 : (r.1 : Rat) = 0 := by
      rw [show r.1 = 0 by omega]
      rfl
    have z2 : (r.2.1 : Rat) = 0 := by
      rw [show r.2.1 = 0 by omega]
      rfl
    have y1 : (off q p).2 * bot = 0 := by grind
    have y2 : (off q p).1 * bot = 0 := by grind
    rcases Rat.mul_eq_zero.mp y1 with x1 | x1
    · rcases Rat.mul_eq_zero.mp y2 with x2 | x2
      · grind
      · exact hb x2
    · exact hb x1
  have hby := byOf_ne (d := r.2.2) hab
  have hbr : ((byOf r.1 r.2.1 r.2.2 : Int) : Rat) ≠ 0 := fun z => hby (Rat.intCast_eq_zero_iff.mp z)
  obtain ⟨f1, f2, f3⟩ := norm3_mul r.1 r.2.1 r.2.2
  have el : lineT p q = norm3 r.1 r.2.1 r.2.2 := by
    unfold lineT
    rw [hr]
  rw [el]
  generalize norm3 r.1 r.2.1 r.2.2 = t at *
  generalize byOf r.1 r.2.1 r.2.2 = g at *
  have g1 : (t.1 : Rat) * (g : Rat) = (r.1 : Rat) := by rw [← f1, Rat.intCast_mul]
  have g2 : (t.2.1 : Rat) * (g : Rat) = (r.2.1 : Rat) := by rw [← f2, Rat.intCast_mul]
  have g3 : (t.2.2 : Rat) * (g : Rat) = (r.2.2 : Rat) := by rw [← f3, Rat.intCast_mul]
  refine ⟨bot / (g : Rat), ?_, ?_, ?_, ?_⟩
  · intro z
    have : bot = (bot / (g : Rat)) * (g : Rat) := by grind
    rw [z] at this
    grind
  · grind
  · grind
  · grind
theorem lineT_ab {p q : Pt} (h : p ≠ q) : (lineT p q).1 ≠ 0 ∨ (lineT p q).2.1 ≠ 0 := by
  obtain ⟨m, hm, e1, e2, e3⟩ := lineT_val h
  apply Classical.byContradiction
  intro hc
  have z1 : ((lineT p q).1 : Rat) = 0 := by
    rw [show (lineT p q).1 = 0 by omega]
    rfl
  have z2 : ((lineT p q).2.1 : Rat) = 0 := by
    rw [show (lineT p q).2.1 = 0 by omega]
    rfl
  rw [z1] at e1
  rw [z2] at e2
  have y1 : (off q p).2 * m = 0 := by grind
  have y2 : (off q p).1 * m = 0 := by grind
  have x1 := (Rat.mul_eq_zero.mp y1).resolve_right hm
  have x2 := (Rat.mul_eq_zero.mp y2).resolve_right hm
  apply h
  unfold off at x1 x2
  exact Prod.ext (by grind) (by grind)
/-- a point is on a line where it stands at no side -/
theorem onRow_iff {p q : Pt} (h : p ≠ q) (x : Pt) : OnRow (lineT p q) x ↔ across (off q p) (off x p) = 0 := by
  obtain ⟨m, hm, e1, e2, e3⟩ := lineT_val h
  unfold OnRow
  rw [e1, e2, e3]
  have e : (off q p).2 * m * x.1 + -((off q p).1 * m) * x.2 - -(across (off q p) p * m) = -(across (off q p) (off x p)) * m := by
    unfold across off
    grind
  constructor
  · intro z
    have : -(across (off q p) (off x p)) * m = 0 := by grind
    have := (Rat.mul_eq_zero.mp this).resolve_right hm
    grind
  · intro z
    rw [z] at e
    grind
theorem onRow_ends {p q : Pt} (h : p ≠ q) : OnRow (lineT p q) p ∧ OnRow (lineT p q) q := by
  rw [onRow_iff h, onRow_iff h]
  unfold across off
  grind
/-- two unlike points of a line have its row of three -/
theorem lineT_of_on {p q p' q' : Pt} (h : p ≠ q) (h' : p' ≠ q') (h1 : OnRow (lineT p q) p') (h2 : OnRow (lineT p q) q') : lineT p' q' = lineT p q := by
  rw [onRow_iff h] at h1 h2
  obtain ⟨bot, hb, e1, e2, e3⟩ := row3_val (off q p) (across (off q p) p)
  obtain ⟨bot', hb', e1', e2', e3'⟩ := row3_val (off q' p') (across (off q' p') p')
  have hl : lineT p q = norm3 (row3 (off q p) (across (off q p) p)).1 (row3 (off q p) (across (off q p) p)).2.1 (row3 (off q p) (across (off q p) p)).2.2 := rfl
  have hl' : lineT p' q' = norm3 (row3 (off q' p') (across (off q' p') p')).1 (row3 (off q' p') (across (off q' p') p')).2.1 (row3 (off q' p') (across (off q' p') p')).2.2 := rfl
  rw [hl, hl']
  generalize hr : row3 (off q p) (across (off q p) p) = r at *
  generalize hr' : row3 (off q' p') (across (off q' p') p') = r' at *
  obtain ⟨wx, hwx⟩ : ∃ wx, wx = (off q p).1 := ⟨_, rfl⟩
  obtain ⟨wy, hwy⟩ : ∃ wy, wy = (off q p).2 := ⟨_, rfl⟩
  obtain ⟨vx, hvx⟩ : ∃ vx, vx = (off q' p').1 := ⟨_, rfl⟩
  obtain ⟨vy, hvy⟩ : ∃ vy, vy = (off q' p').2 := ⟨_, rfl⟩
  have hw : wx ≠ 0 ∨ wy ≠ 0 := by
    apply Classical.byContradiction
    intro hc
    apply h
    unfold off at hwx hwy
    exact Prod.ext (by grind) (by grind)
  have hv : vx ≠ 0 ∨ vy ≠ 0 := by
    apply Classical.byContradiction
    intro hc
    apply h'
    unfold off at hvx hvy
    exact Prod.ext (by grind) (by grind)
  have par : wx * vy - wy * vx = 0 := by
    have k1 : across (off q p) (off p' p) = wx * (p'.2 - p.2) - wy * (p'.1 - p.1) := by
      unfold across
      rw [hwx, hwy]
      rfl
    have k2 : across (off q p) (off q' p) = wx * (q'.2 - p.2) - wy * (q'.1 - p.1) := by
      unfold across
      rw [hwx, hwy]
      rfl
    rw [k1] at h1
    rw [k2] at h2
    have : vx = q'.1 - p'.1 := hvx
    have : vy = q'.2 - p'.2 := hvy
    grind
  -- the factor
  obtain ⟨t, ht, f1, f2⟩ : ∃ t : Rat, t ≠ 0 ∧ vx = t * wx ∧ vy = t * wy := by
    by_cases c : wx = 0
    · have c2 : wy ≠ 0 := by grind
      have c3 : vx = 0 := by
        have : wy * vx = 0 := by grind
        exact (Rat.mul_eq_zero.mp this).resolve_left c2
      refine ⟨vy / wy, ?_, by grind, by grind⟩
      intro z
      have : vy = (vy / wy) * wy := by grind
      rw [z] at this
      grind
    · refine ⟨vx / wx, ?_, by grind, by grind⟩
      intro z
      have z2 : vx = (vx / wx) * wx := by grind
      rw [z] at z2
      have z3 : vx = 0 := by grind
      have : wx * vy = 0 := by grind
      have := (Rat.mul_eq_zero.mp this).resolve_left c
      grind
  have hh : across (off q' p') p' = t * across (off q p) p := by
    have k1 : across (off q p) (off p' p) = wx * (p'.2 - p.2) - wy * (p'.1 - p.1) := by
      unfold across
      rw [hwx, hwy]
      rfl
    have k3 : across (off q' p') p' = vx * p'.2 - vy * p'.1 := by
      unfold across
      rw [hvx, hvy]
    have k4 : across (off q p) p = wx * p.2 - wy * p.1 := by
      unfold across
      rw [hwx, hwy]
    rw [k3, k4, f1, f2]
    rw [k1] at h1
    grind
  rw [← hwy] at e1
  rw [← hwx] at e2
  rw [← hvy] at e1'
  rw [← hvx] at e2'
  -- the whole rows
  obtain ⟨s, hs⟩ : ∃ s : Rat, s = t * bot' / bot := ⟨_, rfl⟩
  have hs0 : s ≠ 0 := by
    intro z
    have z1 : t * bot' = s * bot := by grind
    rw [z] at z1
    have z2 : t * bot' = 0 := by grind
    rcases Rat.mul_eq_zero.mp z2 with y | y
    · exact ht y
    · exact hb' y
  have r1 : (r'.1 : Rat) = s * (r.1 : Rat) := by rw [e1, e1', f2, hs]; grind
  have r2 : (r'.2.1 : Rat) = s * (r.2.1 : Rat) := by rw [e2, e2', f1, hs]; grind
  have r3 : (r'.2.2 : Rat) = s * (r.2.2 : Rat) := by rw [e3, e3', hh, hs]; grind
  have sn := num_den s
  have sd : (s.den : Int) ≠ 0 := by have := s.den_pos; omega
  have snz : s.num ≠ 0 := by
    intro z
    exact hs0 (Rat.num_eq_zero.mp z)
  have hab : r.1 ≠ 0 ∨ r.2.1 ≠ 0 := by
    apply Classical.byContradiction
    intro hc
    have z1 : (r.1 : Rat) = 0 := by
      rw [show r.1 = 0 by omega]
      rfl
    have z2 : (r.2.1 : Rat) = 0 := by
      rw [show r.2.1 = 0 by omega]
      rfl
    have y1 : wy * bot = 0 := by grind
    have y2 : wx * bot = 0 := by grind
    have x1 := (Rat.mul_eq_zero.mp y1).resolve_right hb
    have x2 := (Rat.mul_eq_zero.mp y2).resolve_right hb
    grind
  have hab' : r'.1 ≠ 0 ∨ r'.2.1 ≠ 0 := by
    rcases hab with z | z
    · left
      intro y
      rw [y] at r1
      have : s * (r.1 : Rat) = 0 := by rw [← r1]; rfl
      have := (Rat.mul_eq_zero.mp this).resolve_left hs0
      exact z (Rat.intCast_eq_zero_iff.mp this)
    · right
      intro y
      rw [y] at r2
      have : s * (r.2.1 : Rat) = 0 := by rw [← r2]; rfl
      have := (Rat.mul_eq_zero.mp this).resolve_left hs0
      exact z (Rat.intCast_eq_zero_iff.mp this)
  have cross : ∀ x x' : Int, (x' : Rat) = s * (x : Rat) → (s.den : Int) * x' = s.num * x := by
    intro x x' hx
    apply Rat.intCast_inj.mp
    rw [Rat.intCast_mul, Rat.intCast_mul, hx, sn, Rat.intCast_natCast]
    grind
  rw [← norm3_scale sd hab', ← norm3_scale snz hab, cross _ _ r1, cross _ _ r2, cross _ _ r3]
end AM
/-! what lies on a carrier, and where; two pieces joined -/
namespace AM
def keyOf : Pc → Option Key
  | .dot _ => none
  | .st p q => some (.line (lineT p q).1 (lineT p q).2.1 (lineT p q).2.2)
  | .arc c p _ => some (.circ c (far c p))
  | .ring c p => some (.circ c (far c p))
def PcOk : Pc → Prop
  | .dot _ => True
  | .st p q => before p q = true
  | .arc c p q => far c p ≠ 0 ∧ far c q = far c p ∧ p ≠ q
  | .ring c p => far c p ≠ 0
def OnKey : Key → Pt → Prop
  | .line a b d, p => OnRow (a, b, d) p
  | .circ c r, p => far c p = r
def KeyOk : Key → Prop
  | .line a b _ => a ≠ 0 ∨ b ≠ 0
  | .circ _ r => r ≠ 0
/-- all numbers, in order, between 1 and 3 -/
def sq (x : Rat) : Rat := 2 + x / (1 + ab x)
theorem ab_nn (x : Rat) : 0 ≤ ab x := by
  unfold ab
  grind
theorem sq_rng (x : Rat) : 1 < sq x ∧ sq x < 3 := by
  have h := ab_nn x
  have e : x = (x / (1 + ab x)) * (1 + ab x) := by grind
  generalize hk : x / (1 + ab x) = k at *
  have hx : ab x < 1 + ab x := by grind
  have h1 : k < 1 := by
    apply Classical.byContradiction
    intro hc
    have := Rat.mul_nonneg (a := k - 1) (b := 1 + ab x) (by grind) (by grind)
    unfold ab at *
    grind
  have h2 : -1 < k := by
    apply Classical.byContradiction
    intro hc
    have := Rat.mul_nonneg (a := -1 - k) (b := 1 + ab x) (by grind) (by grind)
    unfold ab at *
    grind
  unfold sq
  rw [hk]
  grind
theorem sq_lt {x y : Rat} (h : x < y) : sq x < sq y := by
  have hx := ab_nn x
  have hy := ab_nn y
  have e1 : x / (1 + ab x) < y / (1 + ab y) := by
    rw [Rat.div_lt_iff (by grind)]
    have e2 : y / (1 + ab y) * (1 + ab x) = (y * (1 + ab x)) / (1 + ab y) := by grind
    rw [e2, Rat.lt_div_iff (by grind)]
    by_cases c1 : 0 ≤ x
    · have a1 : ab x = x := by unfold ab; grind
      have a2 : ab y = y := by unfold ab; grind
      rw [a1, a2]
      grind
    · by_cases c2 : 0 ≤ y
      · have a1 : ab x = -x := by unfold ab; grind
        have a2 : ab y = y := by unfold ab; grind
        rw [a1, a2]
        have := Rat.mul_nonneg (a := -x) (b := y) (by grind) c2
        grind
      · have a1 : ab x = -x := by unfold ab; grind
        have a2 : ab y = -y := by unfold ab; grind
        rw [a1, a2]
        grind
  unfold sq
  grind
theorem sq_iff {x y : Rat} : sq x < sq y ↔ x < y := by
  constructor
  · intro h
    apply Classical.byContradiction
    intro hc
    by_cases e : x = y
    · subst e
      grind
    · have := sq_lt (x := y) (y := x) (by grind)
      grind
  · exact sq_lt
theorem sq_inj {x y : Rat} (h : sq x = sq y) : x = y := by
  have h1 := sq_iff (x := x) (y := y)
  have h2 := sq_iff (x := y) (y := x)
  grind
/-- the place of a point on a carrier -/
def posK : Key → Pt → Rat
  | .line _ b _, p => if b = 0 then sq p.2 else sq p.1
  | .circ c _, p => ang (off p c)
theorem posK_rng {k : Key} {p : Pt} (hk : KeyOk k) (hp : OnKey k p) : Rng (posK k p) := by
  cases k with
  | line a b d =>
    have h1 := sq_rng p.1
    have h2 := sq_rng p.2
    show Rng (if b = 0 then sq p.2 else sq p.1)
    unfold Rng
    split <;> grind
  | circ c r =>
    have hp : far c p = r := hp
    have hk : r ≠ 0 := hk
    exact ang_rng (far_pos.mpr (by rw [hp]; exact hk))
theorem line_same {a b d : Int} {p q : Pt} (hk : a ≠ 0 ∨ b ≠ 0) (hp : OnRow (a, b, d) p) (hq : OnRow (a, b, d) q) :
    (b = 0 → p.1 = q.1) ∧ (b ≠ 0 → p.1 = q.1 → p.2 = q.2) := by
  unfold OnRow at hp hq
  simp only at hp hq
  constructor
  · intro hb
    subst hb
    have ha : (a : Rat) ≠ 0 := fun z => by
      have := Rat.intCast_eq_zero_iff.mp z
      omega
    have e0 : ((0 : Int) : Rat) = 0 := rfl
    rw [e0] at hp hq
    have : (a : Rat) * (p.1 - q.1) = 0 := by grind
    have := (Rat.mul_eq_zero.mp this).resolve_left ha
    grind
  · intro hb e
    have hb' : (b : Rat) ≠ 0 := fun z => hb (Rat.intCast_eq_zero_iff.mp z)
    rw [e] at hp
    have : (b : Rat) * (p.2 - q.2) = 0 := by grind
    have := (Rat.mul_eq_zero.mp this).resolve_left hb'
    grind
theorem posK_inj {k : Key} {p q : Pt} (hk : KeyOk k) (hp : OnKey k p) (hq : OnKey k q) (h : posK k p = posK k q) : p = q := by
  cases k with
  | line a b d =>
    obtain ⟨l1, l2⟩ := line_same hk hp hq
    have h : (if b = 0 then sq p.2 else sq p.1) = (if b = 0 then sq q.2 else sq q.1) := h
    by_cases hb : b = 0
    · rw [if_pos hb, if_pos hb] at h
      exact Prod.ext (l1 hb) (sq_inj h)
    · rw [if_neg hb, if_neg hb] at h
      exact Prod.ext (sq_inj h) (l2 hb (sq_inj h))
  | circ c r =>
    have hp : far c p = r := hp
    have hq : far c q = r := hq
    have hk : r ≠ 0 := hk
    exact ang_inj (far_pos.mpr (by rw [hp]; exact hk)) (far_pos.mpr (by rw [hq]; exact hk)) (by rw [hp, hq]) h
/-- on a line before is below -/
theorem before_pos {a b d : Int} {p q : Pt} (hk : a ≠ 0 ∨ b ≠ 0) (hp : OnRow (a, b, d) p) (hq : OnRow (a, b, d) q) : before p q = true ↔ posK (.line a b d) p < posK (.line a b d) q := by
  obtain ⟨l1, l2⟩ := line_same hk hp hq
  rw [before_iff]
  show _ ↔ (if b = 0 then sq p.2 else sq p.1) < (if b = 0 then sq q.2 else sq q.1)
  by_cases hb : b = 0
  · rw [if_pos hb, if_pos hb, sq_iff]
    have := l1 hb
    grind
  · rw [if_neg hb, if_neg hb, sq_iff]
    have := l2 hb
    grind
theorem before_ne {p q : Pt} (h : before p q = true) : p ≠ q := by
  rw [before_iff] at h
  rintro rfl
  grind
/-! the program's own looks -/
def liesOn : Pc → Pt → Bool
  | .dot q, p => decide (p = q)
  | .st a b, p => decide (side a b p = 0) && (!before p a && !before b p)
  | _, _ => false
def on : Pc → Pt → Bool
  | .dot q, p => liesOn (.dot q) p
  | .st a b, p => liesOn (.st a b) p
  | .ring c a, p => decide (far c p = far c a)
  | .arc c a b, p => decide (far c p = far c a) && (decide (p = a) || (decide (p = b) || ahead c a p b))
/-- the ends of a piece, as places -/
def arcOf (k : Key) : Pc → Arc
  | .dot p => (posK k p, posK k p)
  | .st p q => (posK k p, posK k q)
  | .arc _ p q => (posK k p, posK k q)
  | .ring _ p => (posK k p, posK k p)
/-- a place is met by a piece of the carrier -/
def inP (k : Key) (x : Pc) (t : Rat) : Prop :=
  match x with
  | .dot _ => False
  | .ring _ _ => True
  | .st _ _ => inArc (arcOf k x) t
  | .arc _ _ _ => inArc (arcOf k x) t
def Plain : Pc → Prop
  | .st _ _ => True
  | .arc _ _ _ => True
  | _ => False
theorem keyOk_of {x : Pc} {k : Key} (h : PcOk x) (e : keyOf x = some k) : KeyOk k := by
  cases x with
  | dot p => cases e
  | st p q =>
    cases e
    exact lineT_ab (before_ne h)
  | arc c p q =>
    cases e
    exact h.1
  | ring c p =>
    cases e
    exact h
theorem ends_on {x : Pc} {k : Key} (h : PcOk x) (e : keyOf x = some k) :
    match x with | .dot _ => True | .st p q => OnKey k p ∧ OnKey k q | .arc _ p q => OnKey k p ∧ OnKey k q | .ring _ p => OnKey k p := by
  cases x with
  | dot p => trivial
  | st p q =>
    cases e
    exact onRow_ends (before_ne h)
  | arc c p q =>
    cases e
    exact ⟨rfl, h.2.1⟩
  | ring c p =>
    cases e
    rfl
theorem arcOf_ok {x : Pc} {k : Key} (h : PcOk x) (e : keyOf x = some k) (hp : Plain x) : ArcOk (arcOf k x) := by
  have hk := keyOk_of h e
  have he := ends_on h e
  cases x with
  | dot p => exact hp.elim
  | ring c p => exact hp.elim
  | st p q =>
    refine ⟨posK_rng hk he.1, posK_rng hk he.2, fun z => ?_⟩
    exact before_ne h (posK_inj hk he.1 he.2 z)
  | arc c p q =>
    refine ⟨posK_rng hk he.1, posK_rng hk he.2, fun z => ?_⟩
    exact h.2.2 (posK_inj hk he.1 he.2 z)
theorem ahead_pos {c : Pt} {r : Rat} {a p q : Pt} (hr : r ≠ 0) (ha : far c a = r) (hp : far c p = r) (hq : far c q = r) :
    ahead c a p q = true ↔ Dw (posK (.circ c r) a) (posK (.circ c r) p) < Dw (posK (.circ c r) a) (posK (.circ c r) q) :=
  ahead_ang (far_pos.mpr (by rw [ha]; exact hr)) (far_pos.mpr (by rw [hp]; exact hr)) (far_pos.mpr (by rw [hq]; exact hr))
theorem st_lt {p q : Pt} {k : Key} (h : PcOk (.st p q)) (e : keyOf (.st p q) = some k) : posK k p < posK k q ∧ 1 < posK k p ∧ posK k q < 3 := by
  cases e
  have hk := lineT_ab (before_ne h)
  have ho := onRow_ends (before_ne h)
  refine ⟨(before_pos hk ho.1 ho.2).mp h, ?_, ?_⟩
  · show 1 < (if (lineT p q).2.1 = 0 then sq p.2 else sq p.1)
    have h1 := sq_rng p.1
    have h2 := sq_rng p.2
    split <;> grind
  · show (if (lineT p q).2.1 = 0 then sq q.2 else sq q.1) < 3
    have h1 := sq_rng q.1
    have h2 := sq_rng q.2
    split <;> grind
/-- A POINT IS ON a piece where it is on its carrier, in its place -/
theorem on_iff {x : Pc} {k : Key} (h : PcOk x) (e : keyOf x = some k) (p : Pt) : on x p = true ↔ OnKey k p ∧ inP k x (posK k p) := by
  have hk := keyOk_of h e
  have he := ends_on h e
  cases x with
  | dot q => cases e
  | ring c a =>
    cases e
    show decide (far c p = far c a) = true ↔ far c p = far c a ∧ True
    simp
  | arc c a b =>
    cases e
    obtain ⟨h1, h2, h3⟩ := h
    show (decide (far c p = far c a) && (decide (p = a) || (decide (p = b) || ahead c a p b))) = true ↔ far c p = far c a ∧ Dw (posK (.circ c (far c a)) a) (posK (.circ c (far c a)) p) ≤ Dw (posK (.circ c (far c a)) a) (posK (.circ c (far c a)) b)
    rw [Bool.and_eq_true, Bool.or_eq_true, Bool.or_eq_true, decide_eq_true_iff, decide_eq_true_iff, decide_eq_true_iff]
    constructor
    · rintro ⟨f, g⟩
      refine ⟨f, ?_⟩
      rcases g with rfl | rfl | g
      · rw [Dw_self]
        exact (Dw_nn (posK_rng hk he.1) (posK_rng hk he.2)).1
      · exact Rat.le_refl
      · have := (ahead_pos h1 rfl f h2).mp g
        grind
    · rintro ⟨f, g⟩
      refine ⟨f, ?_⟩
      by_cases c1 : p = b
      · exact .inr (.inl c1)
      · right
        right
        rw [ahead_pos h1 rfl f h2]
        have : Dw (posK (.circ c (far c a)) a) (posK (.circ c (far c a)) p) ≠ Dw (posK (.circ c (far c a)) a) (posK (.circ c (far c a)) b) := by
          intro z
          have hp : OnKey (.circ c (far c a)) p := f
          exact c1 (posK_inj hk hp he.2 (Dw_inj (posK_rng hk he.1) (posK_rng hk hp) (posK_rng hk he.2) z))
        grind
  | st a b =>
    have hl := st_lt h e
    cases e
    have hne := before_ne h
    show (decide (side a b p = 0) && (!before p a && !before b p)) = true ↔ OnRow (lineT a b) p ∧ Dw _ _ ≤ Dw _ _
    rw [Bool.and_eq_true, Bool.and_eq_true, decide_eq_true_iff, Bool.not_eq_true', Bool.not_eq_true', side_zero, ← onRow_iff hne]
    have he1 := he.1
    have he2 := he.2
    clear he h
    unfold arcOf
    simp only
    generalize lineT a b = T at *
    obtain ⟨A, B, D⟩ := T
    simp only at *
    constructor
    · rintro ⟨f, g1, g2⟩
      refine ⟨f, ?_⟩
      have k1 := before_pos hk f he1
      have k2 := before_pos hk he2 f
      rw [g1] at k1
      rw [g2] at k2
      have hp : OnKey (.line A B D) p := f
      have r := posK_rng hk hp
      unfold Rng at r
      unfold Dw
      grind
    · rintro ⟨f, g⟩
      refine ⟨f, ?_⟩
      have k1 := before_pos hk f he1
      have k2 := before_pos hk he2 f
      have hp : OnKey (.line A B D) p := f
      have r := posK_rng hk hp
      unfold Rng at r
      unfold Dw at g
      rw [← Bool.not_eq_true, ← Bool.not_eq_true, k1, k2]
      grind
end AM
/-! pieces of one carrier joined -/
namespace AM
def twoSt (a b p q : Pt) : Option Pc :=
  if before b p || before q a then none else some (.st (if before p a then p else a) (if before b q then q else b))
def twoArc (c a b p q : Pt) : Option Pc :=
  if on (.arc c a b) p && on (.arc c a b) q then (if ahead c a p q then some (.arc c a b) else some (.ring c a))
  else if on (.arc c a b) p then some (.arc c a q) else if on (.arc c a b) q then some (.arc c p b) else if on (.arc c p q) a then some (.arc c p q) else none
/-- two pieces of a carrier as one, where they touch -/
def both2 : Pc → Pc → Option Pc
  | .ring c p, _ => some (.ring c p)
  | .arc c p _, .ring _ _ => some (.ring c p)
  | .st p q, .ring _ _ => some (.ring p q)
  | .st a b, .st p q => twoSt a b p q
  | .arc c a b, .arc _ p q => twoArc c a b p q
  | _, _ => none
/-- the line through two points of a line is that line, where it is one of two points -/
theorem both_st {k : Key} {a b p q : Pt} {z : Pc} (hx : PcOk (.st a b)) (hy : PcOk (.st p q)) (ex : keyOf (.st a b) = some k) (ey : keyOf (.st p q) = some k) (h : twoSt a b p q = some z) :
    PcOk z ∧ keyOf z = some k ∧ Plain z ∧ ∀ t, Rng t → (inP k z t ↔ inP k (.st a b) t ∨ inP k (.st p q) t) := by
  have hk := keyOk_of hx ex
  have hl1 := st_lt hx ex
  have hl2 := st_lt hy ey
  have e1 := ends_on hx ex
  have e2 := ends_on hy ey
  have key2 : ∀ u v : Pt, OnKey k u → OnKey k v → before u v = true → keyOf (.st u v) = some k := by
    intro u v hu hv huv
    cases ex
    have := lineT_of_on (before_ne hx) (before_ne huv) hu hv
    show some _ = some _
    rw [this]
  obtain ⟨A, B, D, hkk⟩ : ∃ A B D, k = .line A B D := by
    cases ex
    exact ⟨_, _, _, rfl⟩
  have e11 := e1.1
  have e12 := e1.2
  have e21 := e2.1
  have e22 := e2.2
  clear e1 e2 ex ey
  subst hkk
  have c1 := before_pos hk e12 e21
  have c2 := before_pos hk e22 e11
  have c3 := before_pos hk e21 e11
  have c4 := before_pos hk e12 e22
  unfold twoSt at h
  by_cases hn : before b p || before q a
  · rw [if_pos hn] at h
    cases h
  · rw [if_neg hn] at h
    cases h
    rw [Bool.or_eq_true, c1, c2] at hn
    have hf : OnKey (.line A B D) (if before p a then p else a) := by split <;> assumption
    have hg : OnKey (.line A B D) (if before b q then q else b) := by split <;> assumption
    have pf : posK (.line A B D) (if before p a then p else a) = if posK (.line A B D) p < posK (.line A B D) a then posK (.line A B D) p else posK (.line A B D) a := by
      by_cases z : before p a = true
      · rw [if_pos z, if_pos (c3.mp z)]
      · rw [if_neg z, if_neg (fun y => z (c3.mpr y))]
    have pg : posK (.line A B D) (if before b q then q else b) = if posK (.line A B D) b < posK (.line A B D) q then posK (.line A B D) q else posK (.line A B D) b := by
      by_cases z : before b q = true
      · rw [if_pos z, if_pos (c4.mp z)]
      · rw [if_neg z, if_neg (fun y => z (c4.mpr y))]
    generalize (if before p a then p else a) = f at *
    generalize (if before b q then q else b) = g at *
    have hfg := (before_pos hk hf hg).mpr (by rw [pf, pg]; grind)
    refine ⟨hfg, key2 f g hf hg hfg, trivial, fun t ht => ?_⟩
    show Dw (posK (.line A B D) f) t ≤ Dw (posK (.line A B D) f) (posK (.line A B D) g) ↔ Dw (posK (.line A B D) a) t ≤ Dw (posK (.line A B D) a) (posK (.line A B D) b) ∨ Dw (posK (.line A B D) p) t ≤ Dw (posK (.line A B D) p) (posK (.line A B D) q)
    rw [pf, pg]
    generalize posK (.line A B D) a = xa at *
    generalize posK (.line A B D) b = xb at *
    generalize posK (.line A B D) p = xp at *
    generalize posK (.line A B D) q = xq at *
    unfold Rng at ht
    clear pf pg hf hg hfg c1 c2 c3 c4 key2 e11 e12 e21 e22 hk hx hy
    have aux : ∀ u v : Rat, 1 < u → u < v → v < 3 → (Dw u t ≤ Dw u v ↔ u ≤ t ∧ t ≤ v) := by
      intro u v h1 h2 h3
      unfold Dw
      grind
    rw [aux xa xb (by grind) (by grind) (by grind), aux xp xq (by grind) (by grind) (by grind)]
    have : (if xp < xa then xp else xa) < (if xb < xq then xq else xb) := by grind
    rw [aux _ _ (by grind) this (by grind)]
    grind
theorem none_st {k : Key} {a b p q : Pt} (hx : PcOk (.st a b)) (hy : PcOk (.st p q)) (ex : keyOf (.st a b) = some k) (ey : keyOf (.st p q) = some k) (h : twoSt a b p q = none) :
    ∀ t, Rng t → ¬ (inP k (.st a b) t ∧ inP k (.st p q) t) := by
  have hk := keyOk_of hx ex
  have hl1 := st_lt hx ex
  have hl2 := st_lt hy ey
  have e1 := ends_on hx ex
  have e2 := ends_on hy ey
  obtain ⟨A, B, D, hkk⟩ : ∃ A B D, k = .line A B D := by
    cases ex
    exact ⟨_, _, _, rfl⟩
  have e11 := e1.1
  have e12 := e1.2
  have e21 := e2.1
  have e22 := e2.2
  clear e1 e2 ex ey
  subst hkk
  have c1 := before_pos hk e12 e21
  have c2 := before_pos hk e22 e11
  unfold twoSt at h
  by_cases hn : before b p || before q a
  · rw [Bool.or_eq_true, c1, c2] at hn
    intro t ht
    show ¬ (Dw (posK (.line A B D) a) t ≤ Dw (posK (.line A B D) a) (posK (.line A B D) b) ∧ Dw (posK (.line A B D) p) t ≤ Dw (posK (.line A B D) p) (posK (.line A B D) q))
    unfold Rng at ht
    have aux : ∀ u v : Rat, 1 < u → u < v → v < 3 → (Dw u t ≤ Dw u v ↔ u ≤ t ∧ t ≤ v) := by
      intro u v h1 h2 h3
      unfold Dw
      grind
    rw [aux _ _ (by grind) (by grind) (by grind), aux _ _ (by grind) (by grind) (by grind)]
    grind
  · rw [if_neg hn] at h
    cases h
/-- arcs, by places -/
theorem arcs_both {a b p q t : Rat} (ha : Rng a) (hb : Rng b) (hp : Rng p) (hq : Rng q) (ht : Rng t) (hab : a ≠ b) (hpq : p ≠ q) :
    (inA a b p → inA a b q → Dw a p < Dw a q → (inA a b t ↔ inA a b t ∨ inA p q t)) ∧ (inA a b p → inA a b q → ¬ Dw a p < Dw a q → (inA a b t ∨ inA p q t)) ∧
    (inA a b p → ¬ inA a b q → (inA a q t ↔ inA a b t ∨ inA p q t) ∧ a ≠ q) ∧ (¬ inA a b p → inA a b q → (inA p b t ↔ inA a b t ∨ inA p q t) ∧ p ≠ b) ∧
    (¬ inA a b p → ¬ inA a b q → inA p q a → (inA p q t ↔ inA a b t ∨ inA p q t)) ∧ (¬ inA a b p → ¬ inA a b q → ¬ inA p q a → ¬ (inA a b t ∧ inA p q t)) := by
  unfold inA Dw Rng at *
  refine ⟨?_, ?_, ?_, ?_, ?_, ?_⟩ <;> grind (splits := 40)
theorem both_arc {k : Key} {c a b p q : Pt} {z : Pc} (hx : PcOk (.arc c a b)) (hy : PcOk (.arc c p q)) (ex : keyOf (.arc c a b) = some k) (ey : keyOf (.arc c p q) = some k) (h : twoArc c a b p q = some z) :
    PcOk z ∧ keyOf z = some k ∧ (∀ t, Rng t → (inP k z t ↔ inP k (.arc c a b) t ∨ inP k (.arc c p q) t)) := by
  have hk := keyOk_of hx ex
  have e1 := ends_on hx ex
  have e2 := ends_on hy ey
  have ox := arcOf_ok hx ex trivial
  have oy := arcOf_ok hy ey trivial
  have i1 : ∀ u, on (.arc c a b) u = true ↔ OnKey k u ∧ inP k (.arc c a b) (posK k u) := on_iff hx ex
  have i2 : ∀ u, on (.arc c p q) u = true ↔ OnKey k u ∧ inP k (.arc c p q) (posK k u) := on_iff hy ey
  have e11 := e1.1
  have e12 := e1.2
  have e21 := e2.1
  have e22 := e2.2
  have mk : ∀ u v : Pt, OnKey k u → OnKey k v → posK k u ≠ posK k v → PcOk (.arc c u v) ∧ keyOf (.arc c u v) = some k := by
    intro u v hu hv hne
    cases ex
    have hu : far c u = far c a := hu
    have hv : far c v = far c a := hv
    refine ⟨⟨by rw [hu]; exact hk, by rw [hu, hv], fun e => hne (by rw [e])⟩, ?_⟩
    show some _ = some _
    rw [hu]
  have ah : ahead c a p q = true ↔ Dw (posK k a) (posK k p) < Dw (posK k a) (posK k q) := by
    cases ex
    exact ahead_pos hx.1 rfl e21 e22
  have cr : ∃ r, k = .circ c r := by
    cases ex
    exact ⟨_, rfl⟩
  clear e1 e2
  have j : ∀ t, Rng t → _ := fun t ht => arcs_both (t := t) ox.1 ox.2.1 oy.1 oy.2.1 ht ox.2.2 oy.2.2
  have ip : on (.arc c a b) p = true ↔ inA (posK k a) (posK k b) (posK k p) := by rw [i1]; exact ⟨fun z => z.2, fun z => ⟨e21, z⟩⟩
  have iq : on (.arc c a b) q = true ↔ inA (posK k a) (posK k b) (posK k q) := by rw [i1]; exact ⟨fun z => z.2, fun z => ⟨e22, z⟩⟩
  have ia : on (.arc c p q) a = true ↔ inA (posK k p) (posK k q) (posK k a) := by rw [i2]; exact ⟨fun z => z.2, fun z => ⟨e11, z⟩⟩
  have j0 := j 0 (by unfold Rng; grind)
  unfold twoArc at h
  have np : on (.arc c a b) p = false → ¬ inA (posK k a) (posK k b) (posK k p) := fun e y => by rw [ip.mpr y] at e; cases e
  have nq : on (.arc c a b) q = false → ¬ inA (posK k a) (posK k b) (posK k q) := fun e y => by rw [iq.mpr y] at e; cases e
  have na : on (.arc c p q) a = false → ¬ inA (posK k p) (posK k q) (posK k a) := fun e y => by rw [ia.mpr y] at e; cases e
  cases b1 : on (.arc c a b) p with
  | true =>
    have h1 := ip.mp b1
    cases b2 : on (.arc c a b) q with
    | true =>
      have h2 := iq.mp b2
      rw [b1, b2, if_pos (by rfl)] at h
      cases b3 : ahead c a p q with
      | true =>
        rw [b3, if_pos rfl] at h
        cases h
        exact ⟨hx, ex, fun t ht => (j t ht).1 h1 h2 (ah.mp b3)⟩
      | false =>
        rw [b3, if_neg Bool.false_ne_true] at h
        cases h
        have h3 : ¬ Dw (posK k a) (posK k p) < Dw (posK k a) (posK k q) := fun y => by rw [ah.mpr y] at b3; cases b3
        refine ⟨hx.1, by rw [← ex]; rfl, fun t ht => ?_⟩
        have := (j t ht).2.1 h1 h2 h3
        show True ↔ _
        exact ⟨fun _ => this, fun _ => trivial⟩
    | false =>
      have h2 := nq b2
      rw [b1, b2, if_neg (by decide), if_pos rfl] at h
      cases h
      obtain ⟨m1, m2⟩ := mk a q e11 e22 (j0.2.2.1 h1 h2).2
      exact ⟨m1, m2, fun t ht => ((j t ht).2.2.1 h1 h2).1⟩
  | false =>
    have h1 := np b1
    cases b2 : on (.arc c a b) q with
    | true =>
      have h2 := iq.mp b2
      rw [b1, b2, if_neg (by decide), if_neg (by decide), if_pos rfl] at h
      cases h
      obtain ⟨m1, m2⟩ := mk p b e21 e12 (j0.2.2.2.1 h1 h2).2
      exact ⟨m1, m2, fun t ht => ((j t ht).2.2.2.1 h1 h2).1⟩
    | false =>
      have h2 := nq b2
      rw [b1, b2, if_neg (by decide), if_neg (by decide), if_neg (by decide)] at h
      cases b3 : on (.arc c p q) a with
      | true =>
        rw [b3, if_pos rfl] at h
        cases h
        exact ⟨hy, ey, fun t ht => (j t ht).2.2.2.2.1 h1 h2 (ia.mp b3)⟩
      | false =>
        rw [b3, if_neg Bool.false_ne_true] at h
        cases h
theorem none_arc {k : Key} {c a b p q : Pt} (hx : PcOk (.arc c a b)) (hy : PcOk (.arc c p q)) (ex : keyOf (.arc c a b) = some k) (ey : keyOf (.arc c p q) = some k) (h : twoArc c a b p q = none) :
    ∀ t, Rng t → ¬ (inP k (.arc c a b) t ∧ inP k (.arc c p q) t) := by
  have e1 := ends_on hx ex
  have e2 := ends_on hy ey
  have ox := arcOf_ok hx ex trivial
  have oy := arcOf_ok hy ey trivial
  have i1 : ∀ u, on (.arc c a b) u = true ↔ OnKey k u ∧ inP k (.arc c a b) (posK k u) := on_iff hx ex
  have i2 : ∀ u, on (.arc c p q) u = true ↔ OnKey k u ∧ inP k (.arc c p q) (posK k u) := on_iff hy ey
  have ip : on (.arc c a b) p = true ↔ inA (posK k a) (posK k b) (posK k p) := by rw [i1]; exact ⟨fun z => z.2, fun z => ⟨e2.1, z⟩⟩
  have iq : on (.arc c a b) q = true ↔ inA (posK k a) (posK k b) (posK k q) := by rw [i1]; exact ⟨fun z => z.2, fun z => ⟨e2.2, z⟩⟩
  have ia : on (.arc c p q) a = true ↔ inA (posK k p) (posK k q) (posK k a) := by rw [i2]; exact ⟨fun z => z.2, fun z => ⟨e1.1, z⟩⟩
  unfold twoArc at h
  have np : on (.arc c a b) p = false → ¬ inA (posK k a) (posK k b) (posK k p) := fun e y => by rw [ip.mpr y] at e; cases e
  have nq : on (.arc c a b) q = false → ¬ inA (posK k a) (posK k b) (posK k q) := fun e y => by rw [iq.mpr y] at e; cases e
  have na : on (.arc c p q) a = false → ¬ inA (posK k p) (posK k q) (posK k a) := fun e y => by rw [ia.mpr y] at e; cases e
  intro t ht
  have j := arcs_both (t := t) ox.1 ox.2.1 oy.1 oy.2.1 ht ox.2.2 oy.2.2
  cases b1 : on (.arc c a b) p with
  | true =>
    rw [b1] at h
    cases b2 : on (.arc c a b) q with
    | true =>
      rw [b2, if_pos (by rfl)] at h
      split at h <;> cases h
    | false =>
      rw [b2, if_neg (by decide), if_pos rfl] at h
      cases h
  | false =>
    rw [b1] at h
    cases b2 : on (.arc c a b) q with
    | true =>
      rw [b2, if_neg (by decide), if_neg (by decide), if_pos rfl] at h
      cases h
    | false =>
      rw [b2, if_neg (by decide), if_neg (by decide), if_neg (by decide)] at h
      cases b3 : on (.arc c p q) a with
      | true =>
        rw [b3, if_pos rfl] at h
        cases h
      | false => exact j.2.2.2.2.2 (np b1) (nq b2) (na b3)
end AM
/-! pieces of one carrier put together, one behind the other; what comes is told by its points -/
namespace AM
theorem both2_ok {k : Key} {x y z : Pc} (hx : PcOk x) (hy : PcOk y) (ex : keyOf x = some k) (ey : keyOf y = some k) (h : both2 x y = some z) :
    PcOk z ∧ keyOf z = some k ∧ ∀ t, Rng t → (inP k z t ↔ inP k x t ∨ inP k y t) := by
  cases x with
  | dot p => cases ex
  | ring c p =>
    cases h
    exact ⟨hx, ex, fun t _ => ⟨fun _ => .inl trivial, fun _ => trivial⟩⟩
  | st a b =>
    cases y with
    | dot p => cases ey
    | ring c p =>
      cases ex
      cases ey
    | arc c p q =>
      cases ex
      cases ey
    | st p q =>
      obtain ⟨h1, h2, _, h3⟩ := both_st hx hy ex ey h
      exact ⟨h1, h2, h3⟩
  | arc c a b =>
    cases y with
    | dot p => cases ey
    | st p q =>
      cases ex
      cases ey
    | ring c' p =>
      cases h
      refine ⟨hx.1, by rw [← ex]; rfl, fun t _ => ⟨fun _ => .inr trivial, fun _ => trivial⟩⟩
    | arc c' p q =>
      have hc : c' = c := by
        cases ex
        exact (Key.circ.inj (Option.some.inj ey)).1
      subst hc
      exact both_arc hx hy ex ey h
theorem both2_none {k : Key} {x y : Pc} (hx : PcOk x) (hy : PcOk y) (ex : keyOf x = some k) (ey : keyOf y = some k) (h : both2 x y = none) :
    ∀ t, Rng t → ¬ (inP k x t ∧ inP k y t) := by
  cases x with
  | dot p => cases ex
  | ring c p => cases h
  | st a b =>
    cases y with
    | dot p => cases ey
    | ring c p => cases h
    | arc c p q =>
      cases ex
      cases ey
    | st p q => exact none_st hx hy ex ey h
  | arc c a b =>
    cases y with
    | dot p => cases ey
    | st p q =>
      cases ex
      cases ey
    | ring c' p => cases h
    | arc c' p q =>
      have hc : c' = c := by
        cases ex
        exact (Key.circ.inj (Option.some.inj ey)).1
      subst hc
      exact none_arc hx hy ex ey h
def findBoth (x : Pc) : List Pc → Option (Nat × Pc)
  | [] => none
  | y :: r => match both2 x y with
    | some z => some (0, z)
    | none => (findBoth x r).map fun p => (p.1 + 1, p.2)
def putInN : Nat → List Pc → Pc → List Pc
  | 0, l, x => l ++ [x]
  | n + 1, l, x => match findBoth x l with
    | none => l ++ [x]
    | some (i, z) => putInN n (l.eraseIdx i) z
def putIn (l : List Pc) (x : Pc) : List Pc := putInN l.length l x
def second : Pc → Pt
  | .dot p => p
  | .st _ q => q
  | .arc _ p _ => p
  | .ring _ p => p
def putAll (l : List Pc) : List Pc := l.foldl putIn []
def joinedOn (l : List Pc) : List Pc :=
  match putAll l, l with
  | .ring c _ :: _, s :: _ => [.ring c (second s)]
  | f, _ => f
/-! ### what they keep -/
def OnC (k : Key) (l : List Pc) : Prop := ∀ x, x ∈ l → PcOk x ∧ keyOf x = some k
def setL (k : Key) (l : List Pc) (t : Rat) : Prop := ∃ x, x ∈ l ∧ inP k x t
def Aside (k : Key) (x y : Pc) : Prop := ∀ t, Rng t → ¬ (inP k x t ∧ inP k y t)
def SepL (k : Key) (l : List Pc) : Prop := l.Pairwise (Aside k)
theorem Aside.symm {k : Key} {x y : Pc} (h : Aside k x y) : Aside k y x := fun t ht q => h t ht ⟨q.2, q.1⟩
theorem findBoth_some {x : Pc} : ∀ {l : List Pc} {i : Nat} {z : Pc}, findBoth x l = some (i, z) → ∃ y, l[i]? = some y ∧ both2 x y = some z
  | [], _, _, h => by cases h
  | y :: r, i, z, h => by
    unfold findBoth at h
    split at h
    · rename_i w hw
      cases h
      exact ⟨y, rfl, hw⟩
    · cases q : findBoth x r with
      | none =>
        rw [q] at h
        cases h
      | some p =>
        obtain ⟨j, w⟩ := p
        rw [q] at h
        cases h
        obtain ⟨y', h1, h2⟩ := findBoth_some q
        exact ⟨y', h1, h2⟩
theorem findBoth_none {x : Pc} : ∀ {l : List Pc}, findBoth x l = none → ∀ y, y ∈ l → both2 x y = none
  | [], _, y, hy => by cases hy
  | w :: r, h, y, hy => by
    unfold findBoth at h
    split at h
    · cases h
    · rename_i hw
      cases q : findBoth x r with
      | some p =>
        rw [q] at h
        cases h
      | none =>
        rcases List.mem_cons.mp hy with rfl | hy
        · exact hw
        · exact findBoth_none q y hy
theorem mem_erase_or {l : List Pc} {i : Nat} {y x : Pc} (h : l[i]? = some y) : x ∈ l ↔ x ∈ l.eraseIdx i ∨ x = y := by
  induction l generalizing i with
  | nil => simp at h
  | cons a r ih =>
    cases i with
    | zero =>
      simp at h
      subst h
      simp
      exact Or.comm
    | succ i =>
      simp at h
      have := ih h
      simp [this]
      grind
theorem putInN_ok {k : Key} : ∀ (n : Nat) (l : List Pc) (x : Pc), l.length ≤ n → OnC k l → SepL k l → PcOk x → keyOf x = some k →
    OnC k (putInN n l x) ∧ SepL k (putInN n l x) ∧ ∀ t, Rng t → (setL k (putInN n l x) t ↔ setL k l t ∨ inP k x t) := by
  have last : ∀ (l : List Pc) (x : Pc), OnC k l → SepL k l → PcOk x → keyOf x = some k → (∀ y, y ∈ l → both2 x y = none) →
      OnC k (l ++ [x]) ∧ SepL k (l ++ [x]) ∧ ∀ t, Rng t → (setL k (l ++ [x]) t ↔ setL k l t ∨ inP k x t) := by
    intro l x hl hs hx ex hn
    refine ⟨fun y hy => ?_, ?_, fun t ht => ?_⟩
    · rcases List.mem_append.mp hy with hy | hy
      · exact hl y hy
      · rw [List.mem_singleton.mp hy]
        exact ⟨hx, ex⟩
    · refine List.pairwise_append.mpr ⟨hs, List.pairwise_singleton _ _, fun y hy z hz => ?_⟩
      rw [List.mem_singleton.mp hz]
      exact Aside.symm (both2_none hx (hl y hy).1 ex (hl y hy).2 (hn y hy))
    · constructor
      · rintro ⟨y, hy, hi⟩
        rcases List.mem_append.mp hy with hy | hy
        · exact .inl ⟨y, hy, hi⟩
        · rw [List.mem_singleton.mp hy] at hi
          exact .inr hi
      · rintro (⟨y, hy, hi⟩ | hi)
        · exact ⟨y, List.mem_append_left _ hy, hi⟩
        · exact ⟨x, List.mem_append_right _ (List.mem_singleton.mpr rfl), hi⟩
  intro n
  induction n with
  | zero =>
    intro l x hn hl hs hx ex
    have : l = [] := List.eq_nil_of_length_eq_zero (by omega)
    subst this
    exact last [] x hl hs hx ex (fun y hy => by cases hy)
  | succ n ih =>
    intro l x hn hl hs hx ex
    unfold putInN
    cases hf : findBoth x l with
    | none =>
      exact last l x hl hs hx ex (findBoth_none hf)
    | some p =>
      obtain ⟨i, z⟩ := p
      obtain ⟨y, hy, hb⟩ := findBoth_some hf
      have hym : y ∈ l := List.mem_of_getElem? hy
      obtain ⟨hz, ez, hset⟩ := both2_ok hx (hl y hym).1 ex (hl y hym).2 hb
      have hi : i < l.length := (List.getElem?_eq_some_iff.mp hy).1
      have hle : (l.eraseIdx i).length ≤ n := by
        rw [List.length_eraseIdx_of_lt hi]
        omega
      have sub := List.eraseIdx_sublist l i
      obtain ⟨r1, r2, r3⟩ := ih (l.eraseIdx i) z hle (fun w hw => hl w (sub.subset hw)) (List.Pairwise.sublist sub hs) hz ez
      refine ⟨r1, r2, fun t ht => ?_⟩
      show setL k (putInN n (l.eraseIdx i) z) t ↔ _
      rw [r3 t ht, hset t ht]
      constructor
      · rintro (⟨w, hw, hi⟩ | hi | hi)
        · exact .inl ⟨w, sub.subset hw, hi⟩
        · exact .inr hi
        · exact .inl ⟨y, hym, hi⟩
      · rintro (⟨w, hw, hi⟩ | hi)
        · rcases (mem_erase_or hy).mp hw with hw | rfl
          · exact .inl ⟨w, hw, hi⟩
          · exact .inr (.inr hi)
        · exact .inr (.inl hi)
theorem putAll_ok {k : Key} {l : List Pc} (hl : OnC k l) : OnC k (putAll l) ∧ SepL k (putAll l) ∧ ∀ t, Rng t → (setL k (putAll l) t ↔ setL k l t) := by
  have go : ∀ (r f : List Pc), OnC k r → OnC k f → SepL k f → OnC k (r.foldl putIn f) ∧ SepL k (r.foldl putIn f) ∧ ∀ t, Rng t → (setL k (r.foldl putIn f) t ↔ setL k f t ∨ setL k r t) := by
    intro r
    induction r with
    | nil =>
      intro f _ hf sf
      refine ⟨hf, sf, fun t _ => ⟨fun h => .inl h, ?_⟩⟩
      rintro (h | ⟨x, hx, _⟩)
      · exact h
      · cases hx
    | cons x r ih =>
      intro f hr hf sf
      obtain ⟨p1, p2, p3⟩ := putInN_ok f.length f x (Nat.le_refl _) hf sf (hr x List.mem_cons_self).1 (hr x List.mem_cons_self).2
      obtain ⟨q1, q2, q3⟩ := ih (putIn f x) (fun y hy => hr y (List.mem_cons_of_mem _ hy)) p1 p2
      refine ⟨q1, q2, fun t ht => ?_⟩
      show setL k (r.foldl putIn (putIn f x)) t ↔ _
      rw [q3 t ht]
      have p3 : setL k (putIn f x) t ↔ setL k f t ∨ inP k x t := p3 t ht
      rw [p3]
      constructor
      · rintro ((h | h) | ⟨y, hy, h⟩)
        · exact .inl h
        · exact .inr ⟨x, List.mem_cons_self, h⟩
        · exact .inr ⟨y, List.mem_cons_of_mem _ hy, h⟩
      · rintro (h | ⟨y, hy, h⟩)
        · exact .inl (.inl h)
        · rcases List.mem_cons.mp hy with rfl | hy
          · exact .inl (.inr h)
          · exact .inr ⟨y, hy, h⟩
  obtain ⟨a, b, c⟩ := go l [] hl (fun x hx => by cases hx) List.Pairwise.nil
  refine ⟨a, b, fun t ht => ?_⟩
  show setL k (l.foldl putIn []) t ↔ _
  rw [c t ht]
  constructor
  · rintro (⟨x, hx, _⟩ | h)
    · cases hx
    · exact h
  · exact .inr
theorem inP_some {k : Key} {x : Pc} (h : PcOk x) (e : keyOf x = some k) : ∃ t, Rng t ∧ inP k x t := by
  cases x with
  | dot p => cases e
  | ring c p => exact ⟨0, by unfold Rng; grind, trivial⟩
  | st p q =>
    have o := arcOf_ok h e trivial
    refine ⟨_, o.1, ?_⟩
    show Dw _ _ ≤ Dw _ _
    rw [Dw_self]
    exact (Dw_nn o.1 o.2.1).1
  | arc c p q =>
    have o := arcOf_ok h e trivial
    refine ⟨_, o.1, ?_⟩
    show Dw _ _ ≤ Dw _ _
    rw [Dw_self]
    exact (Dw_nn o.1 o.2.1).1
theorem ring_alone {k : Key} {l : List Pc} {c p : Pt} (hl : OnC k l) (hs : SepL k l) (h : Pc.ring c p ∈ l) : l = [.ring c p] := by
  induction l with
  | nil => cases h
  | cons x r ih =>
    obtain ⟨h1, h2⟩ := List.pairwise_cons.mp hs
    rcases List.mem_cons.mp h with e | h
    · cases r with
      | nil => rw [e]
      | cons y r =>
        obtain ⟨t, ht, hi⟩ := inP_some (hl y (by simp)).1 (hl y (by simp)).2
        exact (h1 y List.mem_cons_self t ht ⟨by rw [← e]; trivial, hi⟩).elim
    · obtain ⟨t, ht, hi⟩ := inP_some (hl x (by simp)).1 (hl x (by simp)).2
      exact (h1 _ h t ht ⟨hi, trivial⟩).elim
theorem ring_or_plain {k : Key} {l : List Pc} (hl : OnC k l) (hs : SepL k l) : (∃ c p, l = [.ring c p]) ∨ ∀ x, x ∈ l → Plain x := by
  by_cases h : ∃ c p, Pc.ring c p ∈ l
  · obtain ⟨c, p, h⟩ := h
    exact .inl ⟨c, p, ring_alone hl hs h⟩
  · right
    intro x hx
    cases x with
    | dot p => have := (hl _ hx).2; cases this
    | ring c p => exact (h ⟨c, p, hx⟩).elim
    | st p q => trivial
    | arc c p q => trivial
theorem inP_plain {k : Key} {x : Pc} (h : Plain x) (t : Rat) : inP k x t ↔ inArc (arcOf k x) t := by
  cases x with
  | dot p => exact h.elim
  | ring c p => exact h.elim
  | st p q => exact Iff.rfl
  | arc c p q => exact Iff.rfl
theorem arcOf_inj {k : Key} {x y : Pc} (hx : PcOk x) (hy : PcOk y) (ex : keyOf x = some k) (ey : keyOf y = some k) (px : Plain x) (py : Plain y) (h : arcOf k x = arcOf k y) : x = y := by
  have hk := keyOk_of hx ex
  have e1 := ends_on hx ex
  have e2 := ends_on hy ey
  cases x with
  | dot p => cases ex
  | ring c p => exact px.elim
  | st a b =>
    cases y with
    | dot p => cases ey
    | ring c p => exact py.elim
    | arc c p q =>
      cases ex
      cases ey
    | st p q =>
      have h1 := posK_inj hk e1.1 e2.1 (congrArg Prod.fst h)
      have h2 := posK_inj hk e1.2 e2.2 (congrArg Prod.snd h)
      rw [h1, h2]
  | arc c a b =>
    cases y with
    | dot p => cases ey
    | ring c p => exact py.elim
    | st p q =>
      cases ex
      cases ey
    | arc c' p q =>
      have hc : c' = c := by
        cases ex
        exact (Key.circ.inj (Option.some.inj ey)).1
      have h1 := posK_inj hk e1.1 e2.1 (congrArg Prod.fst h)
      have h2 := posK_inj hk e1.2 e2.2 (congrArg Prod.snd h)
      rw [h1, h2, hc]
theorem sep_arcs {k : Key} {l : List Pc} (hs : SepL k l) (hp : ∀ x, x ∈ l → Plain x) : ∀ s t, s ∈ l.map (arcOf k) → t ∈ l.map (arcOf k) → s ≠ t → Apart s t := by
  have : (l.map (arcOf k)).Pairwise Apart := by
    rw [List.pairwise_map]
    refine List.Pairwise.imp_of_mem ?_ hs
    intro x y hx hy h t ht q
    exact h t ht ⟨(inP_plain (hp x hx) t).mpr q.1, (inP_plain (hp y hy) t).mpr q.2⟩
  intro s t hs' ht' hne
  generalize l.map (arcOf k) = N at *
  clear hs hp
  induction this with
  | nil => cases hs'
  | cons h1 h2 ih =>
    rcases List.mem_cons.mp hs' with rfl | hs''
    · rcases List.mem_cons.mp ht' with rfl | ht''
      · exact (hne rfl).elim
      · exact h1 t ht''
    · rcases List.mem_cons.mp ht' with rfl | ht''
      · intro x hx q
        exact h1 s hs'' x hx ⟨q.2, q.1⟩
      · exact ih hs'' ht''
theorem set_arcs {k : Key} {l : List Pc} (hp : ∀ x, x ∈ l → Plain x) (t : Rat) : setL k l t ↔ memA (l.map (arcOf k)) t := by
  constructor
  · rintro ⟨x, hx, h⟩
    exact ⟨_, List.mem_map.mpr ⟨x, hx, rfl⟩, (inP_plain (hp x hx) t).mp h⟩
  · rintro ⟨s, hs, h⟩
    obtain ⟨x, hx, rfl⟩ := List.mem_map.mp hs
    exact ⟨x, hx, (inP_plain (hp x hx) t).mpr h⟩
theorem arcs_ok {k : Key} {l : List Pc} (hl : OnC k l) (hp : ∀ x, x ∈ l → Plain x) : ∀ s, s ∈ l.map (arcOf k) → ArcOk s := by
  intro s hs
  obtain ⟨x, hx, rfl⟩ := List.mem_map.mp hs
  exact arcOf_ok (hl x hx).1 (hl x hx).2 (hp x hx)
theorem sep_nodup {k : Key} {l : List Pc} (hl : OnC k l) (hs : SepL k l) : l.Nodup := by
  refine List.Pairwise.imp_of_mem ?_ hs
  intro x y hx hy h e
  subst e
  obtain ⟨t, ht, hi⟩ := inP_some (hl x hx).1 (hl x hx).2
  exact h t ht ⟨hi, hi⟩
/-- WHAT HAS THE SAME POINTS, and doesn't touch, is the same -/
theorem one_form {k : Key} {l m : List Pc} (hl : OnC k l) (hm : OnC k m) (sl : SepL k l) (sm : SepL k m) (h : ∀ t, Rng t → (setL k l t ↔ setL k m t)) :
    (∃ c p q, l = [.ring c p] ∧ m = [.ring c q]) ∨ ((∀ x, x ∈ l → Plain x) ∧ (∀ x, x ∈ m → Plain x) ∧ ∀ x, x ∈ l ↔ x ∈ m) := by
  have full : ∀ {l m : List Pc}, OnC k l → OnC k m → SepL k l → SepL k m → (∀ t, Rng t → (setL k l t ↔ setL k m t)) → ∀ c p, l = [.ring c p] → ∃ q, m = [.ring c q] := by
    intro l m hl hm sl sm h c p e
    rcases ring_or_plain hm sm with ⟨c', q, e'⟩ | hp
    · refine ⟨q, ?_⟩
      have k1 := (hl (.ring c p) (by rw [e]; simp)).2
      have k2 := (hm (.ring c' q) (by rw [e']; simp)).2
      have hc : c' = c := by
        cases k1
        exact (Key.circ.inj (Option.some.inj k2)).1
      rw [e', hc]
    · obtain ⟨t, ht, hn⟩ := not_all (arcs_ok hm hp) (sep_arcs sm hp)
      refine (hn ((set_arcs hp t).mp ((h t ht).mp ⟨.ring c p, by rw [e]; simp, trivial⟩))).elim
  rcases ring_or_plain hl sl with ⟨c, p, e⟩ | hp
  · obtain ⟨q, e'⟩ := full hl hm sl sm h c p e
    exact .inl ⟨c, p, q, e, e'⟩
  · rcases ring_or_plain hm sm with ⟨c, p, e⟩ | hp'
    · obtain ⟨q, e'⟩ := full hm hl sm sl (fun t ht => (h t ht).symm) c p e
      exact .inl ⟨c, q, p, e', e⟩
    · right
      refine ⟨hp, hp', ?_⟩
      have one : ∀ {l m : List Pc}, OnC k l → OnC k m → SepL k l → SepL k m → (∀ t, Rng t → (setL k l t ↔ setL k m t)) → (∀ x, x ∈ l → Plain x) → (∀ x, x ∈ m → Plain x) → ∀ x, x ∈ l → x ∈ m := by
        intro l m hl hm sl sm h hp hp' x hx
        have := uniq_in (arcs_ok hl hp) (arcs_ok hm hp') (sep_arcs sl hp) (sep_arcs sm hp') (fun t ht => by rw [← set_arcs hp, ← set_arcs hp']; exact h t ht) (List.mem_map.mpr ⟨x, hx, rfl⟩)
        obtain ⟨y, hy, e⟩ := List.mem_map.mp this
        have := arcOf_inj (hm y hy).1 (hl x hx).1 (hm y hy).2 (hl x hx).2 (hp' y hy) (hp x hx) e
        rw [← this]
        exact hy
      exact fun x => ⟨one hl hm sl sm h hp hp' x, one hm hl sm sl (fun t ht => (h t ht).symm) hp' hp x⟩
theorem second_on {k : Key} {x : Pc} (h : PcOk x) (e : keyOf x = some k) : OnKey k (second x) := by
  have := ends_on h e
  cases x with
  | dot p => cases e
  | ring c p => exact this
  | st p q => exact this.2
  | arc c p q => exact this.1
/-- the few pieces of a carrier -/
theorem joinedOn_ok {k : Key} {l : List Pc} (hl : OnC k l) (hne : l ≠ []) :
    OnC k (joinedOn l) ∧ SepL k (joinedOn l) ∧ (∀ t, Rng t → (setL k (joinedOn l) t ↔ setL k l t)) ∧ (∀ c p, joinedOn l = [.ring c p] → ∃ s r, l = s :: r ∧ p = second s) ∧ joinedOn l ≠ [] := by
  obtain ⟨h1, h2, h3⟩ := putAll_ok hl
  obtain ⟨s, r, rfl⟩ : ∃ s r, l = s :: r := by
    cases l with
    | nil => exact (hne rfl).elim
    | cons s r => exact ⟨s, r, rfl⟩
  have hnn : putAll (s :: r) ≠ [] := by
    intro z
    obtain ⟨t, ht, hi⟩ := inP_some (hl s (by simp)).1 (hl s (by simp)).2
    obtain ⟨x, hx, _⟩ := (h3 t ht).mpr ⟨s, by simp, hi⟩
    rw [z] at hx
    cases hx
  rcases ring_or_plain h1 h2 with ⟨c, p, e⟩ | hp
  · have ej : joinedOn (s :: r) = [.ring c (second s)] := by
      unfold joinedOn
      rw [e]
    have hr := h1 (.ring c p) (by rw [e]; simp)
    have hon := second_on (hl s (by simp)).1 (hl s (by simp)).2
    have hk : k = .circ c (far c p) := (Option.some.inj hr.2).symm
    have hf : far c (second s) = far c p := by
      rw [hk] at hon
      exact hon
    rw [ej]
    refine ⟨fun x hx => ?_, List.pairwise_singleton _ _, fun t ht => ?_, fun c' p' e' => ⟨s, r, rfl, ?_⟩, by simp⟩
    · rw [List.mem_singleton.mp hx]
      refine ⟨?_, ?_⟩
      · show far c (second s) ≠ 0
        rw [hf]
        exact hr.1
      · show some (Key.circ c (far c (second s))) = some k
        rw [hf, hk]
    · rw [← h3 t ht, e]
      exact ⟨fun _ => ⟨.ring c p, by simp, trivial⟩, fun _ => ⟨.ring c (second s), by simp, trivial⟩⟩
    · have := List.cons.inj e'
      exact ((Pc.ring.inj this.1).2).symm
  · have ej : joinedOn (s :: r) = putAll (s :: r) := by
      unfold joinedOn
      split
      · rename_i c p f s' r' e1 e2
        exact (hp (.ring c p) (by rw [e1]; simp)).elim
      · rfl
    rw [ej]
    refine ⟨h1, h2, h3, fun c p e => ?_, hnn⟩
    exact (hp (.ring c p) (by rw [e]; simp)).elim
end AM
/-! pieces by their carriers; the few pieces of a list, ahead of their order -/
namespace AM
def addG : List (Key × List Pc) → Key → Pc → List (Key × List Pc)
  | [], k, x => [(k, [x])]
  | (k', l) :: r, k, x => if k' = k then (k', l ++ [x]) :: r else (k', l) :: addG r k x
def groupIn (g : List (Key × List Pc)) (x : Pc) : List (Key × List Pc) := match keyOf x with
  | none => g
  | some k => addG g k x
def groups (l : List Pc) : List (Key × List Pc) := l.foldl groupIn []
def flatJ (l : List Pc) : List Pc := ((groups l).map fun p => joinedOn p.2).flatten
def dotIn (found : List Pc) (ds : List Pc) (x : Pc) : List Pc := match x with
  | .dot p => if found.any (fun y => on y p) then ds else if x ∈ ds then ds else ds ++ [x]
  | _ => ds
def dotsOf (found l : List Pc) : List Pc := l.foldl (dotIn found) []
def preJ (l : List Pc) : List Pc := flatJ l ++ dotsOf (flatJ l) l
def sel (k : Key) (l : List Pc) : List Pc := l.filter fun x => decide (keyOf x = some k)
def OkL (l : List Pc) : Prop := ∀ x, x ∈ l → PcOk x
theorem mem_sel {k : Key} {l : List Pc} {x : Pc} : x ∈ sel k l ↔ x ∈ l ∧ keyOf x = some k := by
  unfold sel
  rw [List.mem_filter, decide_eq_true_iff]
theorem sel_on {k : Key} {l : List Pc} (h : OkL l) : OnC k (sel k l) := fun x hx => ⟨h x (mem_sel.mp hx).1, (mem_sel.mp hx).2⟩
theorem addG_keys : ∀ (g : List (Key × List Pc)) (k : Key) (x : Pc), (addG g k x).map (·.1) = if k ∈ g.map (·.1) then g.map (·.1) else g.map (·.1) ++ [k]
  | [], k, x => by simp [addG]
  | (k', l) :: r, k, x => by
    unfold addG
    by_cases h : k' = k
    · rw [if_pos h]
      simp [h]
    · rw [if_neg h]
      simp only [List.map_cons, List.mem_cons]
      rw [addG_keys r k x]
      by_cases h2 : k ∈ r.map (·.1)
      · rw [if_pos h2, if_pos (Or.inr h2)]
      · rw [if_neg h2, if_neg (fun z => z.elim (fun e => h e.symm) h2)]
        rfl
theorem addG_mem : ∀ (g : List (Key × List Pc)) (k : Key) (x : Pc), (g.map (·.1)).Nodup → ∀ j m, (j, m) ∈ addG g k x ↔
    (j ≠ k ∧ (j, m) ∈ g) ∨ (j = k ∧ ((k ∉ g.map (·.1) ∧ m = [x]) ∨ ∃ m', (k, m') ∈ g ∧ m = m' ++ [x]))
  | [], k, x, _, j, m => by
    simp [addG]
  | (k', l) :: r, k, x, hn, j, m => by
    have hn' : k' ∉ r.map (·.1) ∧ (r.map (·.1)).Nodup := List.nodup_cons.mp hn
    unfold addG
    by_cases h : k' = k
    · subst h
      rw [if_pos rfl]
      simp only [List.mem_cons, List.map_cons, Prod.mk.injEq]
      constructor
      · rintro (⟨rfl, rfl⟩ | h)
        · right
          exact ⟨rfl, .inr ⟨l, .inl ⟨trivial, rfl⟩, rfl⟩⟩
        · left
          refine ⟨fun e => hn'.1 ?_, .inr h⟩
          rw [← e]
          exact List.mem_map.mpr ⟨_, h, rfl⟩
      · rintro (⟨h1, ⟨h2, _⟩ | h2⟩ | ⟨rfl, ⟨h1, _⟩ | ⟨m', ⟨_, rfl⟩ | h2, rfl⟩⟩)
        · exact (h1 h2).elim
        · exact .inr h2
        · exact (h1 (.inl trivial)).elim
        · exact .inl ⟨rfl, rfl⟩
        · exact (hn'.1 (List.mem_map.mpr ⟨_, h2, rfl⟩)).elim
    · rw [if_neg h]
      have ih := addG_mem r k x hn'.2 j m
      simp only [List.mem_cons, List.map_cons, Prod.mk.injEq]
      rw [ih]
      constructor
      · rintro (⟨rfl, rfl⟩ | ⟨h1, h2⟩ | ⟨h1, ⟨h2, h3⟩ | ⟨m', h2, h3⟩⟩)
        · exact .inl ⟨h, .inl ⟨rfl, rfl⟩⟩
        · exact .inl ⟨h1, .inr h2⟩
        · exact .inr ⟨h1, .inl ⟨fun z => z.elim (fun e => h e.symm) h2, h3⟩⟩
        · exact .inr ⟨h1, .inr ⟨m', .inr h2, h3⟩⟩
      · rintro (⟨h1, ⟨rfl, rfl⟩ | h2⟩ | ⟨h1, ⟨h2, h3⟩ | ⟨m', ⟨rfl, _⟩ | h2, h3⟩⟩)
        · exact .inl ⟨rfl, rfl⟩
        · exact .inr (.inl ⟨h1, h2⟩)
        · exact .inr (.inr ⟨h1, .inl ⟨fun z => h2 (.inr z), h3⟩⟩)
        · exact (h rfl).elim
        · exact .inr (.inr ⟨h1, .inr ⟨m', h2, h3⟩⟩)
/-- WHAT BY_CARRIERS TELLS -/
theorem groups_ok (l : List Pc) : ((groups l).map (·.1)).Nodup ∧ ∀ k m, (k, m) ∈ groups l ↔ m = sel k l ∧ m ≠ [] := by
  have go : ∀ (r p : List Pc) (g : List (Key × List Pc)), ((g.map (·.1)).Nodup ∧ ∀ k m, (k, m) ∈ g ↔ m = sel k p ∧ m ≠ []) →
      (((r.foldl groupIn g).map (·.1)).Nodup ∧ ∀ k m, (k, m) ∈ r.foldl groupIn g ↔ m = sel k (p ++ r) ∧ m ≠ []) := by
    intro r
    induction r with
    | nil =>
      intro p g h
      rw [List.append_nil]
      exact h
    | cons x r ih =>
      intro p g h
      have e : p ++ x :: r = (p ++ [x]) ++ r := by simp
      rw [e]
      refine ih (p ++ [x]) (groupIn g x) ?_
      unfold groupIn
      cases hk : keyOf x with
      | none =>
        refine ⟨h.1, fun k m => ?_⟩
        have : sel k (p ++ [x]) = sel k p := by
          unfold sel
          rw [List.filter_append]
          simp [hk]
        rw [this]
        exact h.2 k m
      | some k =>
        constructor
        · show ((addG g k x).map (·.1)).Nodup
          rw [addG_keys]
          split
          · exact h.1
          · rename_i hn
            rw [List.nodup_append]
            refine ⟨h.1, by simp, fun a ha b hb => ?_⟩
            rw [List.mem_singleton.mp hb]
            rintro rfl
            exact hn ha
        · intro j m
          show (j, m) ∈ addG g k x ↔ _
          rw [addG_mem g k x h.1 j m]
          by_cases hj : j = k
          · subst hj
            have es : sel j (p ++ [x]) = sel j p ++ [x] := by
              unfold sel
              rw [List.filter_append]
              simp [hk]
            rw [es]
            constructor
            · rintro (⟨h1, _⟩ | ⟨_, ⟨h1, h2⟩ | ⟨m', h1, h2⟩⟩)
              · exact (h1 rfl).elim
              · have : sel j p = [] := by
                  apply Classical.byContradiction
                  intro hc
                  exact h1 (List.mem_map.mpr ⟨(j, sel j p), (h.2 _ _).mpr ⟨rfl, hc⟩, rfl⟩)
                rw [this, h2]
                simp
              · rw [h2, ((h.2 _ _).mp h1).1]
                simp
            · rintro ⟨h1, h2⟩
              right
              refine ⟨rfl, ?_⟩
              by_cases hc : sel j p = []
              · left
                refine ⟨fun hm => ?_, by rw [h1, hc]; rfl⟩
                obtain ⟨⟨j', m'⟩, h3, h4⟩ := List.mem_map.mp hm
                simp only at h4
                subst h4
                obtain ⟨h5, h6⟩ := (h.2 _ _).mp h3
                exact h6 (by rw [h5, hc])
              · right
                exact ⟨sel j p, (h.2 _ _).mpr ⟨rfl, hc⟩, h1⟩
          · have es : sel j (p ++ [x]) = sel j p := by
              unfold sel
              rw [List.filter_append]
              have : ¬ some k = some j := fun e => hj (Option.some.inj e).symm
              simp [hk, this]
            rw [es]
            constructor
            · rintro (⟨_, h2⟩ | ⟨h1, _⟩)
              · exact (h.2 _ _).mp h2
              · exact (hj h1).elim
            · intro h2
              exact .inl ⟨hj, (h.2 _ _).mpr h2⟩
  have := go l [] [] ⟨by simp, fun k m => by simp [sel]⟩
  rw [List.nil_append] at this
  exact this
theorem mem_flatJ {l : List Pc} (h : OkL l) {x : Pc} : x ∈ flatJ l ↔ ∃ k, sel k l ≠ [] ∧ x ∈ joinedOn (sel k l) := by
  obtain ⟨_, hg⟩ := groups_ok l
  unfold flatJ
  rw [List.mem_flatten]
  constructor
  · rintro ⟨m, hm, hx⟩
    obtain ⟨⟨k, m'⟩, h1, rfl⟩ := List.mem_map.mp hm
    obtain ⟨h2, h3⟩ := (hg _ _).mp h1
    simp only at *
    subst h2
    exact ⟨k, h3, hx⟩
  · rintro ⟨k, h1, h2⟩
    exact ⟨_, List.mem_map.mpr ⟨(k, sel k l), (hg _ _).mpr ⟨rfl, h1⟩, rfl⟩, h2⟩
theorem flatJ_key {l : List Pc} (h : OkL l) {x : Pc} (hx : x ∈ flatJ l) : ∃ k, keyOf x = some k ∧ PcOk x ∧ sel k l ≠ [] ∧ x ∈ joinedOn (sel k l) := by
  obtain ⟨k, h1, h2⟩ := (mem_flatJ h).mp hx
  obtain ⟨o, _⟩ := joinedOn_ok (sel_on h) h1
  exact ⟨k, (o x h2).2, (o x h2).1, h1, h2⟩
theorem flatJ_nodup {l : List Pc} (h : OkL l) : (flatJ l).Nodup := by
  obtain ⟨hn, hg⟩ := groups_ok l
  unfold flatJ
  have hg' : ∀ p, p ∈ groups l → p.2 = sel p.1 l ∧ p.2 ≠ [] := fun p hp => (hg p.1 p.2).mp hp
  clear hg
  generalize groups l = g at *
  induction g with
  | nil => simp
  | cons p g ih =>
    have hn' : p.1 ∉ g.map (·.1) ∧ (g.map (·.1)).Nodup := List.nodup_cons.mp hn
    rw [List.map_cons, List.flatten_cons, List.nodup_append]
    have hp := hg' p List.mem_cons_self
    have jo := joinedOn_ok (k := p.1) (l := p.2) (by rw [hp.1]; exact sel_on h) hp.2
    refine ⟨sep_nodup jo.1 jo.2.1, ih hn'.2 (fun q hq => hg' q (List.mem_cons_of_mem _ hq)), ?_⟩
    intro a ha b hb e
    subst e
    obtain ⟨m, hm, hb⟩ := List.mem_flatten.mp hb
    obtain ⟨q, hq, rfl⟩ := List.mem_map.mp hm
    have hq' := hg' q (List.mem_cons_of_mem _ hq)
    have jo' := joinedOn_ok (k := q.1) (l := q.2) (by rw [hq'.1]; exact sel_on h) hq'.2
    have e1 := (jo.1 a ha).2
    have e2 := (jo'.1 a hb).2
    rw [e1] at e2
    refine hn'.1 ?_
    rw [Option.some.inj e2]
    exact List.mem_map.mpr ⟨q, hq, rfl⟩
/-- a point lies on a piece of the list that is no dot -/
def cov (l : List Pc) (p : Pt) : Prop := ∃ k, OnKey k p ∧ setL k (sel k l) (posK k p)
theorem any_cov {l : List Pc} (h : OkL l) (p : Pt) : (flatJ l).any (fun y => on y p) = true ↔ cov l p := by
  rw [List.any_eq_true]
  constructor
  · rintro ⟨x, hx, hon⟩
    obtain ⟨k, e, ok, hne, hj⟩ := flatJ_key h hx
    obtain ⟨h1, h2⟩ := (on_iff ok e p).mp hon
    obtain ⟨_, _, js, _⟩ := joinedOn_ok (sel_on h) hne
    exact ⟨k, h1, (js _ (posK_rng (keyOk_of ok e) h1)).mp ⟨x, hj, h2⟩⟩
  · rintro ⟨k, h1, y, hy, h2⟩
    have hne : sel k l ≠ [] := fun z => by rw [z] at hy; cases hy
    have oy := sel_on h y hy
    obtain ⟨jo, _, js, _⟩ := joinedOn_ok (sel_on h) hne
    obtain ⟨x, hx, h3⟩ := (js _ (posK_rng (keyOk_of oy.1 oy.2) h1)).mpr ⟨y, hy, h2⟩
    exact ⟨x, (mem_flatJ h).mpr ⟨k, hne, hx⟩, (on_iff (jo x hx).1 (jo x hx).2 p).mpr ⟨h1, h3⟩⟩
theorem dotsOf_ok (found l : List Pc) : (dotsOf found l).Nodup ∧ ∀ x, x ∈ dotsOf found l ↔ ∃ p, x = .dot p ∧ .dot p ∈ l ∧ ¬ found.any (fun y => on y p) = true := by
  have go : ∀ (r q ds : List Pc), (ds.Nodup ∧ ∀ x, x ∈ ds ↔ ∃ p, x = .dot p ∧ .dot p ∈ q ∧ ¬ found.any (fun y => on y p) = true) →
      ((r.foldl (dotIn found) ds).Nodup ∧ ∀ x, x ∈ r.foldl (dotIn found) ds ↔ ∃ p, x = .dot p ∧ .dot p ∈ q ++ r ∧ ¬ found.any (fun y => on y p) = true) := by
    intro r
    induction r with
    | nil =>
      intro q ds h
      rw [List.append_nil]
      exact h
    | cons x r ih =>
      intro q ds h
      have e : q ++ x :: r = (q ++ [x]) ++ r := by simp
      rw [e]
      refine ih (q ++ [x]) (dotIn found ds x) ?_
      cases x with
      | dot p =>
        unfold dotIn
        by_cases h1 : found.any (fun y => on y p) = true
        · simp only [h1, if_true]
          refine ⟨h.1, fun y => ?_⟩
          rw [h.2 y]
          constructor
          · rintro ⟨p', e1, e2, e3⟩
            exact ⟨p', e1, List.mem_append_left _ e2, e3⟩
          · rintro ⟨p', e1, e2, e3⟩
            rcases List.mem_append.mp e2 with e2 | e2
            · exact ⟨p', e1, e2, e3⟩
            · have := Pc.dot.inj (List.mem_singleton.mp e2)
              subst this
              exact (e3 h1).elim
        · simp only [if_neg h1]
          by_cases h2 : Pc.dot p ∈ ds
          · rw [if_pos h2]
            refine ⟨h.1, fun y => ?_⟩
            rw [h.2 y]
            constructor
            · rintro ⟨p', e1, e2, e3⟩
              exact ⟨p', e1, List.mem_append_left _ e2, e3⟩
            · rintro ⟨p', e1, e2, e3⟩
              rcases List.mem_append.mp e2 with e2 | e2
              · exact ⟨p', e1, e2, e3⟩
              · have := Pc.dot.inj (List.mem_singleton.mp e2)
                subst this
                rw [e1]
                exact (h.2 y).mp (e1 ▸ h2) |>.imp fun p'' hh => by rw [← e1]; exact hh
          · rw [if_neg h2]
            refine ⟨?_, fun y => ?_⟩
            · rw [List.nodup_append]
              refine ⟨h.1, by simp, fun a ha b hb => ?_⟩
              rw [List.mem_singleton.mp hb]
              rintro rfl
              exact h2 ha
            · rw [List.mem_append, h.2 y, List.mem_singleton]
              constructor
              · rintro (⟨p', e1, e2, e3⟩ | e1)
                · exact ⟨p', e1, List.mem_append_left _ e2, e3⟩
                · exact ⟨p, e1, by simp, h1⟩
              · rintro ⟨p', e1, e2, e3⟩
                rcases List.mem_append.mp e2 with e2 | e2
                · exact .inl ⟨p', e1, e2, e3⟩
                · right
                  rw [e1]
                  exact List.mem_singleton.mp e2
      | _ =>
        show ds.Nodup ∧ _
        refine ⟨h.1, fun y => ?_⟩
        show y ∈ ds ↔ _
        rw [h.2 y]
        constructor
        · rintro ⟨p', e1, e2, e3⟩
          exact ⟨p', e1, List.mem_append_left _ e2, e3⟩
        · rintro ⟨p', e1, e2, e3⟩
          rcases List.mem_append.mp e2 with e2 | e2
          · exact ⟨p', e1, e2, e3⟩
          · cases List.mem_singleton.mp e2
  have := go l [] [] ⟨by simp, fun x => by simp⟩
  rw [List.nil_append] at this
  exact this
theorem mem_preJ {l : List Pc} (h : OkL l) {x : Pc} : x ∈ preJ l ↔ x ∈ flatJ l ∨ ∃ p, x = .dot p ∧ .dot p ∈ l ∧ ¬ cov l p := by
  unfold preJ
  rw [List.mem_append, (dotsOf_ok _ _).2 x]
  constructor
  · rintro (h1 | ⟨p, h1, h2, h3⟩)
    · exact .inl h1
    · exact .inr ⟨p, h1, h2, fun z => h3 ((any_cov h p).mpr z)⟩
  · rintro (h1 | ⟨p, h1, h2, h3⟩)
    · exact .inl h1
    · exact .inr ⟨p, h1, h2, fun z => h3 ((any_cov h p).mp z)⟩
theorem preJ_nodup {l : List Pc} (h : OkL l) : (preJ l).Nodup := by
  unfold preJ
  rw [List.nodup_append]
  refine ⟨flatJ_nodup h, (dotsOf_ok _ _).1, fun a ha b hb e => ?_⟩
  subst e
  obtain ⟨p, rfl, _⟩ := ((dotsOf_ok _ _).2 a).mp hb
  obtain ⟨k, e, _⟩ := flatJ_key h ha
  cases e
theorem preJ_ok {l : List Pc} (h : OkL l) : OkL (preJ l) := by
  intro x hx
  rcases (mem_preJ h).mp hx with h1 | ⟨p, rfl, _⟩
  · obtain ⟨k, _, ok, _⟩ := flatJ_key h h1
    exact ok
  · trivial
/-- two lists of pieces have the same points -/
structure SameP (l m : List Pc) : Prop where
  sets : ∀ k t, KeyOk k → Rng t → (setL k (sel k l) t ↔ setL k (sel k m) t)
  dots : ∀ p, ¬ cov l p → (.dot p ∈ l ↔ .dot p ∈ m)
theorem sel_ne {k : Key} {l : List Pc} (h : OkL l) : sel k l ≠ [] → KeyOk k := by
  intro hne
  cases hs : sel k l with
  | nil => exact (hne hs).elim
  | cons x r =>
    have := sel_on h x (by rw [hs]; simp)
    exact keyOk_of this.1 this.2
theorem SameP.ne {l m : List Pc} (hl : OkL l) (h : SameP l m) {k : Key} (hne : sel k l ≠ []) : sel k m ≠ [] := by
  have hk := sel_ne hl hne
  cases hs : sel k l with
  | nil => exact (hne hs).elim
  | cons x r =>
    have hx := sel_on hl x (by rw [hs]; simp)
    obtain ⟨t, ht, hi⟩ := inP_some hx.1 hx.2
    obtain ⟨y, hy, _⟩ := (h.sets k t hk ht).mp ⟨x, by rw [hs]; simp, hi⟩
    intro z
    rw [z] at hy
    cases hy
theorem SameP.cov {l m : List Pc} (hl : OkL l) (hm : OkL m) (h : SameP l m) (p : Pt) : cov l p ↔ cov m p := by
  constructor
  · rintro ⟨k, h1, x, hx, hi⟩
    have ox := sel_on hl x hx
    have hk := keyOk_of ox.1 ox.2
    exact ⟨k, h1, (h.sets k _ hk (posK_rng hk h1)).mp ⟨x, hx, hi⟩⟩
  · rintro ⟨k, h1, x, hx, hi⟩
    have ox := sel_on hm x hx
    have hk := keyOk_of ox.1 ox.2
    exact ⟨k, h1, (h.sets k _ hk (posK_rng hk h1)).mpr ⟨x, hx, hi⟩⟩
theorem SameP.symm {l m : List Pc} (hl : OkL l) (hm : OkL m) (h : SameP l m) : SameP m l :=
  ⟨fun k t hk ht => (h.sets k t hk ht).symm, fun p hp => (h.dots p fun z => hp ((h.cov hl hm p).mp z)).symm⟩
def bare : Pc → Pc ⊕ (Pt × Rat)
  | .ring c p => .inr (c, far c p)
  | x => .inl x
theorem bare_mem {l m : List Pc} (hl : OkL l) (hm : OkL m) (h : SameP l m) {x : Pc} (hx : x ∈ preJ l) : ∃ y, y ∈ preJ m ∧ bare y = bare x ∧ (x = y ∨ ∃ c p q, x = .ring c p ∧ y = .ring c q ∧ sel (.circ c (far c p)) m ≠ [] ∧ y ∈ joinedOn (sel (.circ c (far c p)) m)) := by
  rcases (mem_preJ hl).mp hx with h1 | ⟨p, rfl, h1, h2⟩
  · obtain ⟨k, e, ok, hne, hj⟩ := flatJ_key hl h1
    have hne' := h.ne hl hne
    have hk := keyOk_of ok e
    obtain ⟨a1, a2, a3, _⟩ := joinedOn_ok (sel_on hl) hne
    obtain ⟨b1, b2, b3, _⟩ := joinedOn_ok (sel_on hm) hne'
    rcases one_form a1 b1 a2 b2 (fun t ht => by rw [a3 t ht, b3 t ht]; exact h.sets k t hk ht) with ⟨c, p, q, e1, e2⟩ | ⟨_, _, hxy⟩
    · rw [e1] at hj
      have hx' := List.mem_singleton.mp hj
      have hy : Pc.ring c q ∈ joinedOn (sel k m) := by rw [e2]; simp
      have k1 : k = .circ c (far c p) := by
        rw [hx'] at e
        exact (Option.some.inj e).symm
      have k2 : k = .circ c (far c q) := (Option.some.inj (b1 _ hy).2).symm
      refine ⟨.ring c q, (mem_preJ hm).mpr (.inl ((mem_flatJ hm).mpr ⟨k, hne', hy⟩)), ?_, .inr ⟨c, p, q, hx', rfl, by rw [← k1]; exact hne', by rw [← k1]; exact hy⟩⟩
      rw [hx']
      show Sum.inr (c, far c q) = Sum.inr (c, far c p)
      rw [k1] at k2
      rw [(Key.circ.inj k2).2]
    · exact ⟨x, (mem_preJ hm).mpr (.inl ((mem_flatJ hm).mpr ⟨k, hne', (hxy x).mp hj⟩)), rfl, .inl rfl⟩
  · exact ⟨.dot p, (mem_preJ hm).mpr (.inr ⟨p, rfl, (h.dots p h2).mp h1, fun z => h2 ((h.cov hl hm p).mpr z)⟩), rfl, .inl rfl⟩
theorem ring_joined {k : Key} {l : List Pc} (hl : OkL l) (hne : sel k l ≠ []) {c p : Pt} (h : Pc.ring c p ∈ joinedOn (sel k l)) : joinedOn (sel k l) = [.ring c p] := by
  obtain ⟨a1, a2, _⟩ := joinedOn_ok (sel_on hl) hne
  exact ring_alone a1 a2 h
theorem bare_inj {l : List Pc} (hl : OkL l) {x y : Pc} (hx : x ∈ preJ l) (hy : y ∈ preJ l) (h : bare x = bare y) : x = y := by
  cases x with
  | ring c p =>
    cases y with
    | ring c' p' =>
      have e : c = c' ∧ far c p = far c' p' := by
        have := Sum.inr.inj h
        exact ⟨congrArg Prod.fst this, congrArg Prod.snd this⟩
      obtain ⟨rfl, e2⟩ := e
      have key : ∀ q, Pc.ring c q ∈ preJ l → far c q = far c p → ∃ hne : sel (.circ c (far c p)) l ≠ [], joinedOn (sel (.circ c (far c p)) l) = [.ring c q] := by
        intro q hq hf
        rcases (mem_preJ hl).mp hq with h1 | ⟨p, e, _⟩
        · obtain ⟨k, e, ok, hne, hj⟩ := flatJ_key hl h1
          have : k = .circ c (far c p) := by
            rw [← hf]
            exact (Option.some.inj e).symm
          subst this
          exact ⟨hne, ring_joined hl hne hj⟩
        · cases e
      obtain ⟨_, e3⟩ := key p hx rfl
      obtain ⟨_, e4⟩ := key p' hy e2.symm
      rw [e3] at e4
      exact (List.cons.inj e4).1
    | _ => cases h
  | _ =>
    cases y with
    | ring c' p' => cases h
    | _ => exact Sum.inl.inj h
/-- THE FEW PIECES of lists with the same points are the same but for the points of rings -/
theorem bare_perm {l m : List Pc} (hl : OkL l) (hm : OkL m) (h : SameP l m) : ((preJ l).map bare).Perm ((preJ m).map bare) := by
  have nd : ∀ {l : List Pc}, OkL l → ((preJ l).map bare).Nodup := by
    intro l hl
    have := preJ_nodup hl
    unfold List.Nodup at *
    rw [List.pairwise_map]
    exact List.Pairwise.imp_of_mem (fun hx hy hne e => hne (bare_inj hl hx hy e)) this
  refine (List.perm_ext_iff_of_nodup (nd hl) (nd hm)).mpr fun b => ?_
  constructor
  · intro hb
    obtain ⟨x, hx, rfl⟩ := List.mem_map.mp hb
    obtain ⟨y, hy, e, _⟩ := bare_mem hl hm h hx
    exact List.mem_map.mpr ⟨y, hy, e⟩
  · intro hb
    obtain ⟨x, hx, rfl⟩ := List.mem_map.mp hb
    obtain ⟨y, hy, e, _⟩ := bare_mem hm hl (h.symm hl hm) hx
    exact List.mem_map.mpr ⟨y, hy, e⟩
/-- the few pieces again are the few pieces -/
theorem again_perm {l m : List Pc} (hl : OkL l) (hm : m.Perm (preJ l)) : (preJ m).Perm (preJ l) := by
  have om : OkL m := fun x hx => preJ_ok hl x (hm.mem_iff.mp hx)
  have selm : ∀ k x, x ∈ sel k m ↔ (sel k l ≠ [] ∧ x ∈ joinedOn (sel k l)) := by
    intro k x
    rw [mem_sel, hm.mem_iff, mem_preJ hl]
    constructor
    · rintro ⟨h1 | ⟨p, rfl, _⟩, e⟩
      · obtain ⟨k', e', _, hne, hj⟩ := flatJ_key hl h1
        rw [e] at e'
        cases e'
        exact ⟨hne, hj⟩
      · cases e
    · rintro ⟨h1, h2⟩
      obtain ⟨a1, _⟩ := joinedOn_ok (sel_on hl) h1
      exact ⟨.inl ((mem_flatJ hl).mpr ⟨k, h1, h2⟩), (a1 x h2).2⟩
  have hs : ∀ k t, KeyOk k → Rng t → (setL k (sel k m) t ↔ setL k (sel k l) t) := by
    intro k t hk ht
    constructor
    · rintro ⟨x, hx, hi⟩
      obtain ⟨h1, h2⟩ := (selm k x).mp hx
      obtain ⟨_, _, a3, _⟩ := joinedOn_ok (sel_on hl) h1
      exact (a3 t ht).mp ⟨x, h2, hi⟩
    · rintro ⟨x, hx, hi⟩
      have hne : sel k l ≠ [] := fun z => by rw [z] at hx; cases hx
      obtain ⟨_, _, a3, _⟩ := joinedOn_ok (sel_on hl) hne
      obtain ⟨y, hy, hi⟩ := (a3 t ht).mpr ⟨x, hx, hi⟩
      exact ⟨y, (selm k y).mpr ⟨hne, hy⟩, hi⟩
  have hcov : ∀ p, cov m p ↔ cov l p := by
    intro p
    constructor
    · rintro ⟨k, h1, x, hx, hi⟩
      have ox := sel_on om x hx
      have hk := keyOk_of ox.1 ox.2
      exact ⟨k, h1, (hs k _ hk (posK_rng hk h1)).mp ⟨x, hx, hi⟩⟩
    · rintro ⟨k, h1, x, hx, hi⟩
      have ox := sel_on hl x hx
      have hk := keyOk_of ox.1 ox.2
      exact ⟨k, h1, (hs k _ hk (posK_rng hk h1)).mpr ⟨x, hx, hi⟩⟩
  have dm : ∀ p, .dot p ∈ m ↔ .dot p ∈ l ∧ ¬ cov l p := by
    intro p
    rw [hm.mem_iff, mem_preJ hl]
    constructor
    · rintro (h1 | ⟨q, e, h1, h2⟩)
      · obtain ⟨k, e, _⟩ := flatJ_key hl h1
        cases e
      · cases e
        exact ⟨h1, h2⟩
    · rintro ⟨h1, h2⟩
      exact .inr ⟨p, rfl, h1, h2⟩
  have sp : SameP l m := ⟨fun k t hk ht => (hs k t hk ht).symm, fun p hp => ⟨fun z => (dm p).mpr ⟨z, hp⟩, fun z => ((dm p).mp z).1⟩⟩
  refine (List.perm_ext_iff_of_nodup (preJ_nodup om) (preJ_nodup hl)).mpr fun x => ?_
  -- a ring of the few pieces again has the point that it had
  have ringm : ∀ c p q, Pc.ring c p ∈ preJ l → sel (.circ c (far c p)) m ≠ [] → Pc.ring c q ∈ joinedOn (sel (.circ c (far c p)) m) → q = p := by
    intro c p q h1 h2 h3
    obtain ⟨_, _, _, b4, _⟩ := joinedOn_ok (sel_on om) h2
    obtain ⟨s, r, e1, e2⟩ := b4 c q (ring_joined om h2 h3)
    have hs' : s ∈ sel (.circ c (far c p)) m := by rw [e1]; simp
    obtain ⟨g1, g2⟩ := (selm _ _).mp hs'
    have : joinedOn (sel (.circ c (far c p)) l) = [.ring c p] := by
      rcases (mem_preJ hl).mp h1 with z | ⟨_, z, _⟩
      · obtain ⟨k, e, ok, hne, hj⟩ := flatJ_key hl z
        have : k = .circ c (far c p) := (Option.some.inj e).symm
        subst this
        exact ring_joined hl hne hj
      · cases z
    rw [this] at g2
    rw [e2, List.mem_singleton.mp g2]
    rfl
  constructor
  · intro hx
    obtain ⟨y, hy, e, h1⟩ := bare_mem om hl (sp.symm hl om) hx
    rcases h1 with rfl | ⟨c, p, q, rfl, rfl, h2, h3⟩
    · exact hy
    · -- x = ring c p of the few again, y = ring c q of the few
      have hf : far c p = far c q := by
        have := Sum.inr.inj e
        exact (congrArg Prod.snd this).symm
      rcases (mem_preJ om).mp hx with z | ⟨_, z, _⟩
      · obtain ⟨k, e', ok, hne, hj⟩ := flatJ_key om z
        have : k = .circ c (far c p) := (Option.some.inj e').symm
        subst this
        rw [hf] at hne hj
        rw [ringm c q p hy hne hj]
        exact hy
      · cases z
  · intro hx
    obtain ⟨y, hy, e, h1⟩ := bare_mem hl om sp hx
    rcases h1 with rfl | ⟨c, p, q, rfl, rfl, h2, h3⟩
    · exact hy
    · rw [ringm c p q hx h2 h3] at hy
      exact hy
end AM
/-! parts of pieces; chains -/
namespace AM
/-- ys are parts of x: no rings, with the same points -/
structure PartsOf (x : Pc) (ys : List Pc) : Prop where
  ok : OkL ys
  key : ∀ y, y ∈ ys → keyOf y = keyOf x
  plain : ∀ k, keyOf x = some k → (∀ y, y ∈ ys → Plain y) ∧ ∀ t, Rng t → (setL k ys t ↔ inP k x t)
  dot : ∀ p, x = .dot p → ∀ y, y ∈ ys ↔ y = .dot p
inductive PartsL : List Pc → List Pc → Prop
  | nil : PartsL [] []
  | snoc {l m : List Pc} {x : Pc} {ys : List Pc} : PartsL l m → PcOk x → PartsOf x ys → PartsL (l ++ [x]) (ys ++ m)
theorem PartsL.okl {l m : List Pc} (h : PartsL l m) : OkL l ∧ OkL m := by
  induction h with
  | nil => exact ⟨fun x hx => (by cases hx), fun x hx => (by cases hx)⟩
  | snoc h hx hp ih =>
    constructor
    · intro y hy
      rcases List.mem_append.mp hy with hy | hy
      · exact ih.1 y hy
      · rw [List.mem_singleton.mp hy]
        exact hx
    · intro y hy
      rcases List.mem_append.mp hy with hy | hy
      · exact hp.ok y hy
      · exact ih.2 y hy
theorem PartsL.sets {l m : List Pc} (h : PartsL l m) (k : Key) (t : Rat) (ht : Rng t) : (∃ x, x ∈ l ∧ keyOf x = some k ∧ inP k x t) ↔ ∃ x, x ∈ m ∧ keyOf x = some k ∧ inP k x t := by
  induction h with
  | nil => exact ⟨fun ⟨x, hx, _⟩ => (by cases hx), fun ⟨x, hx, _⟩ => (by cases hx)⟩
  | snoc h hx hp ih =>
    rename_i l m x ys
    constructor
    · rintro ⟨y, hy, e, hi⟩
      rcases List.mem_append.mp hy with hy | hy
      · obtain ⟨z, hz, e2, hi2⟩ := ih.mp ⟨y, hy, e, hi⟩
        exact ⟨z, List.mem_append_right _ hz, e2, hi2⟩
      · have := List.mem_singleton.mp hy
        subst this
        obtain ⟨z, hz, hi2⟩ := ((hp.plain k e).2 t ht).mpr hi
        exact ⟨z, List.mem_append_left _ hz, by rw [hp.key z hz]; exact e, hi2⟩
    · rintro ⟨y, hy, e, hi⟩
      rcases List.mem_append.mp hy with hy | hy
      · have ex : keyOf x = some k := by rw [← hp.key y hy]; exact e
        exact ⟨x, by simp, ex, ((hp.plain k ex).2 t ht).mp ⟨y, hy, hi⟩⟩
      · obtain ⟨z, hz, e2, hi2⟩ := ih.mpr ⟨y, hy, e, hi⟩
        exact ⟨z, List.mem_append_left _ hz, e2, hi2⟩
theorem PartsL.dots {l m : List Pc} (h : PartsL l m) (p : Pt) : .dot p ∈ l ↔ .dot p ∈ m := by
  induction h with
  | nil => exact Iff.rfl
  | snoc h hx hp ih =>
    rename_i l m x ys
    rw [List.mem_append, List.mem_append, List.mem_singleton, ih]
    constructor
    · rintro (h1 | h1)
      · exact .inr h1
      · exact .inl ((hp.dot p h1.symm _).mpr rfl)
    · rintro (h1 | h1)
      · right
        have hk := hp.key _ h1
        cases x with
        | dot q => exact (hp.dot q rfl _).mp h1
        | st a b => cases hk
        | arc c a b => cases hk
        | ring c a => cases hk
      · exact .inl h1
theorem PartsL.noring {l m : List Pc} (h : PartsL l m) : ∀ x, x ∈ m → ∀ k, keyOf x = some k → Plain x := by
  induction h with
  | nil => intro x hx; cases hx
  | snoc h hx hp ih =>
    rename_i l m x ys
    intro y hy k e
    rcases List.mem_append.mp hy with hy | hy
    · exact (hp.plain k (by rw [← hp.key y hy]; exact e)).1 y hy
    · exact ih y hy k e
theorem setL_sel {k : Key} {l : List Pc} {t : Rat} : setL k (sel k l) t ↔ ∃ x, x ∈ l ∧ keyOf x = some k ∧ inP k x t := by
  constructor
  · rintro ⟨x, hx, hi⟩
    exact ⟨x, (mem_sel.mp hx).1, (mem_sel.mp hx).2, hi⟩
  · rintro ⟨x, h1, h2, hi⟩
    exact ⟨x, mem_sel.mpr ⟨h1, h2⟩, hi⟩
theorem PartsL.same {l m : List Pc} (h : PartsL l m) : SameP l m :=
  ⟨fun k t _ ht => by rw [setL_sel, setL_sel]; exact h.sets k t ht, fun p _ => h.dots p⟩

/-! ### chains -/
def nul : Pc := .dot (0, 0)
def third : Pc → Pt
  | .arc _ _ q => q
  | x => second x
def centre : Pc → Pt
  | .arc c _ _ => c
  | .ring c _ => c
  | .dot p => p
  | .st p _ => p
def isSt : Pc → Bool
  | .st _ _ => true
  | _ => false
def isRound : Pc → Bool
  | .arc _ _ _ => true
  | .ring _ _ => true
  | _ => false
def isRing : Pc → Bool
  | .ring _ _ => true
  | _ => false
def someOf (f : Pc → Bool) (own : Option Key) (l : List Pc) : List Nat := (List.range l.length).filter fun k => f (l.getD k nul) && decide (keyOf (l.getD k nul) = own)
def bestSt (l : List Pc) (here : Pt) (best : Option Nat) (k : Nat) : Option Nat :=
  if on (l.getD k nul) here && (match best with | none => true | some b => before (second (l.getD b nul)) (second (l.getD k nul))) then some k else best
def bestArc (l : List Pc) (here : Pt) (best : Option Nat) (k : Nat) : Option Nat :=
  if decide (third (l.getD k nul) ≠ here) && on (l.getD k nul) here then
    (if (match best with | none => true | some b => ahead (centre (l.getD k nul)) here (third (l.getD b nul)) (third (l.getD k nul))) then some k else best) else best
def schain (l : List Pc) (some_ : List Nat) (goal : Pt) : Nat → Pt → List Nat → Option (Option (List Nat))
  | 0, _, _ => none
  | n + 1, here, found => match some_.foldl (bestSt l here) none with
    | none => some none
    | some b => if before (second (l.getD b nul)) goal = false then some (some (found ++ [b]))
      else if second (l.getD b nul) = here then some none else schain l some_ goal n (second (l.getD b nul)) (found ++ [b])
def rchain (l : List Pc) (some_ : List Nat) (c goal : Pt) : Nat → Pt → List Nat → Option (Option (List Nat))
  | 0, _, _ => none
  | n + 1, here, found => match some_.foldl (bestArc l here) none with
    | none => some none
    | some b => if third (l.getD b nul) = goal ∨ (here ≠ goal ∧ ahead c here goal (third (l.getD b nul)) = true) then some (some (found ++ [b]))
      else rchain l some_ c goal n (third (l.getD b nul)) (found ++ [b])
/-- a chain is told: r, after so many turns or fewer -/
def ChainIs (l : List Pc) (x : Pc) (n : Nat) (r : Option (List Nat)) : Prop :=
  match x with
  | .dot p => r = ((List.range l.length).find? fun k => on (l.getD k nul) p).map fun k => [k]
  | .st p q => schain l (someOf isSt (keyOf x) l) q n p [] = some r
  | .arc c p q => match (someOf isRound (keyOf x) l).find? (fun k => isRing (l.getD k nul)) with
    | some k => r = some [k]
    | none => rchain l (someOf isRound (keyOf x) l) c q n p [] = some r
  | .ring c p => match (someOf isRound (keyOf x) l).find? (fun k => isRing (l.getD k nul)) with
    | some k => r = some [k]
    | none => rchain l (someOf isRound (keyOf x) l) c p n p [] = some r
theorem mem_someOf {f : Pc → Bool} {own : Option Key} {l : List Pc} {k : Nat} : k ∈ someOf f own l ↔ k < l.length ∧ f (l.getD k nul) = true ∧ keyOf (l.getD k nul) = own := by
  unfold someOf
  rw [List.mem_filter, List.mem_range, Bool.and_eq_true, decide_eq_true_iff]
theorem getD_mem {l : List Pc} {k : Nat} (h : k < l.length) : l.getD k nul ∈ l := by
  rw [List.getD_eq_getElem?_getD, List.getElem?_eq_getElem h]
  exact List.getElem_mem h
theorem mem_getD {l : List Pc} {x : Pc} (h : x ∈ l) : ∃ k, k < l.length ∧ l.getD k nul = x := by
  obtain ⟨k, hk, e⟩ := List.getElem_of_mem h
  refine ⟨k, hk, ?_⟩
  rw [List.getD_eq_getElem?_getD, List.getElem?_eq_getElem hk]
  exact e
/-- the best of some numbers -/
theorem best_of {C : Nat → Bool} {f : Nat → Rat} {step : Option Nat → Nat → Option Nat} {S : List Nat}
    (h1 : ∀ k, k ∈ S → step none k = if C k then some k else none)
    (h2 : ∀ b k, b ∈ S → k ∈ S → C b = true → step (some b) k = if C k = true ∧ f b < f k then some k else some b) :
    (S.foldl step none = none ∧ ∀ k, k ∈ S → C k = false) ∨ ∃ b, S.foldl step none = some b ∧ b ∈ S ∧ C b = true ∧ ∀ k, k ∈ S → C k = true → f k ≤ f b := by
  have go2 : ∀ (R : List Nat) (b : Nat), (∀ k, k ∈ R → k ∈ S) → b ∈ S → C b = true → ∃ b', R.foldl step (some b) = some b' ∧ b' ∈ S ∧ C b' = true ∧ f b ≤ f b' ∧ ∀ k, k ∈ R → C k = true → f k ≤ f b' := by
    intro R
    induction R with
    | nil => intro b _ hb hc; exact ⟨b, rfl, hb, hc, Rat.le_refl, fun k hk => by cases hk⟩
    | cons k R ih =>
      intro b hR hb hc
      have hk := hR k List.mem_cons_self
      rw [List.foldl_cons, h2 b k hb hk hc]
      by_cases c : C k = true ∧ f b < f k
      · rw [if_pos c]
        obtain ⟨b', e, m, c', l1, l2⟩ := ih k (fun j hj => hR j (List.mem_cons_of_mem _ hj)) hk c.1
        refine ⟨b', e, m, c', by grind, fun j hj hcj => ?_⟩
        rcases List.mem_cons.mp hj with rfl | hj
        · exact l1
        · exact l2 j hj hcj
      · rw [if_neg c]
        obtain ⟨b', e, m, c', l1, l2⟩ := ih b (fun j hj => hR j (List.mem_cons_of_mem _ hj)) hb hc
        refine ⟨b', e, m, c', l1, fun j hj hcj => ?_⟩
        rcases List.mem_cons.mp hj with rfl | hj
        · have : ¬ f b < f j := fun z => c ⟨hcj, z⟩
          grind
        · exact l2 j hj hcj
  have go1 : ∀ (R : List Nat), (∀ k, k ∈ R → k ∈ S) → (R.foldl step none = none ∧ ∀ k, k ∈ R → C k = false) ∨ ∃ b, R.foldl step none = some b ∧ b ∈ S ∧ C b = true ∧ ∀ k, k ∈ R → C k = true → f k ≤ f b := by
    intro R
    induction R with
    | nil => intro _; exact .inl ⟨rfl, fun k hk => by cases hk⟩
    | cons k R ih =>
      intro hR
      have hk := hR k List.mem_cons_self
      rw [List.foldl_cons, h1 k hk]
      cases hc : C k with
      | true =>
        right
        obtain ⟨b', e, m, c', l1, l2⟩ := go2 R k (fun j hj => hR j (List.mem_cons_of_mem _ hj)) hk hc
        refine ⟨b', e, m, c', fun j hj hcj => ?_⟩
        rcases List.mem_cons.mp hj with rfl | hj
        · exact l1
        · exact l2 j hj hcj
      | false =>
        rcases ih (fun j hj => hR j (List.mem_cons_of_mem _ hj)) with ⟨e, h⟩ | ⟨b, e, m, c', h⟩
        · refine .inl ⟨e, fun j hj => ?_⟩
          rcases List.mem_cons.mp hj with rfl | hj
          · exact hc
          · exact h j hj
        · refine .inr ⟨b, e, m, c', fun j hj hcj => ?_⟩
          rcases List.mem_cons.mp hj with rfl | hj
          · rw [hc] at hcj
            cases hcj
          · exact h j hj hcj
  exact go1 S fun k hk => hk
/-- how many of some numbers -/
def many (S : List Nat) (P : Nat → Prop) [DecidablePred P] : Nat := (S.filter fun k => decide (P k)).length
theorem many_lt {S : List Nat} {P Q : Nat → Prop} [DecidablePred P] [DecidablePred Q] (h : ∀ k, k ∈ S → Q k → P k) {b : Nat} (hb : b ∈ S) (h1 : P b) (h2 : ¬ Q b) : many S Q < many S P := by
  unfold many
  induction S with
  | nil => cases hb
  | cons k S ih =>
    have le : ∀ S : List Nat, (∀ k, k ∈ S → Q k → P k) → (S.filter fun k => decide (Q k)).length ≤ (S.filter fun k => decide (P k)).length := by
      intro S
      induction S with
      | nil => intro _; exact Nat.le_refl _
      | cons j S ih =>
        intro h
        have := ih fun k hk => h k (List.mem_cons_of_mem _ hk)
        by_cases c : Q j
        · have := h j List.mem_cons_self c
          simp [c, this]
          omega
        · by_cases c2 : P j
          · simp [c, c2]
            omega
          · simp [c, c2]
            omega
    rcases List.mem_cons.mp hb with rfl | hb
    · have := le S fun k hk => h k (List.mem_cons_of_mem _ hk)
      simp [h1, h2]
      omega
    · have := ih (fun k hk => h k (List.mem_cons_of_mem _ hk)) hb
      by_cases c : Q k
      · have := h k List.mem_cons_self c
        simp [c, this]
        omega
      · by_cases c2 : P k
        · simp [c, c2]
          omega
        · simp [c, c2]
          omega
theorem many_le (S : List Nat) (P : Nat → Prop) [DecidablePred P] : many S P ≤ S.length := List.length_filter_le _ _
end AM
/-! chains are found -/
namespace AM
theorem reach {N : List Arc} (hok : ∀ s, s ∈ N → ArcOk s) (hsep : ∀ s t, s ∈ N → t ∈ N → s ≠ t → Apart s t) {u v : Rat} (hu : Rng u) (hv : Rng v) (cov : ∀ t, Rng t → Dw u t ≤ Dw u v → memA N t) {s : Arc} (hs : s ∈ N) (hin : inArc s u) :
    Dw u v ≤ Dw u s.2 := by
  apply Classical.byContradiction
  intro hc
  obtain ⟨h1, h2, h3⟩ := hok s hs
  have hne : v ≠ s.2 := by
    rintro rfl
    exact hc Rat.le_refl
  obtain ⟨y, hy, y1, y2, y3⟩ := gap hok hsep hs hv hne
  refine y3 (cov y hy ?_)
  have e1 := Dw_add hu h2 hy
  have e2 := Dw_add hu h2 hv
  have e3 := Dw_nn hu hy
  have e4 := Dw_nn hu hv
  have e5 := Dw_nn h2 hv
  have e6 := Dw_nn hu h2
  grind
theorem isSt_of {x : Pc} (h : isSt x = true) : ∃ p q, x = .st p q := by
  cases x with
  | st p q => exact ⟨p, q, rfl⟩
  | _ => cases h
/-! ### straight ones -/
section
variable {l : List Pc} {A B D : Int}
theorem st_some (ok : OkL l) {k : Nat} (hk : k ∈ someOf isSt (some (.line A B D)) l) : ∃ p q, l.getD k nul = .st p q ∧ PcOk (.st p q) ∧ keyOf (.st p q) = some (.line A B D) ∧ l.getD k nul ∈ l := by
  obtain ⟨h1, h2, h3⟩ := mem_someOf.mp hk
  obtain ⟨p, q, e⟩ := isSt_of h2
  have hm := getD_mem h1
  have := ok _ hm
  rw [e] at h3 this
  exact ⟨p, q, e, this, h3, hm⟩
theorem st_best (ok : OkL l) (here : Pt) :
    ((someOf isSt (some (.line A B D)) l).foldl (bestSt l here) none = none ∧ ∀ k, k ∈ someOf isSt (some (.line A B D)) l → on (l.getD k nul) here = false) ∨
    ∃ b, (someOf isSt (some (.line A B D)) l).foldl (bestSt l here) none = some b ∧ b ∈ someOf isSt (some (.line A B D)) l ∧ on (l.getD b nul) here = true ∧
      ∀ k, k ∈ someOf isSt (some (.line A B D)) l → on (l.getD k nul) here = true → posK (.line A B D) (second (l.getD k nul)) ≤ posK (.line A B D) (second (l.getD b nul)) := by
  refine best_of (C := fun k => on (l.getD k nul) here) (f := fun k => posK (.line A B D) (second (l.getD k nul))) (fun k hk => ?_) (fun b k hb hk hc => ?_)
  · unfold bestSt
    simp
  · obtain ⟨p, q, e, o1, o2, _⟩ := st_some ok hk
    obtain ⟨p', q', e', o1', o2', _⟩ := st_some ok hb
    have b1 := before_pos (keyOk_of o1 o2) (ends_on o1' o2').2 (ends_on o1 o2).2
    show (if (on (l.getD k nul) here && before (second (l.getD b nul)) (second (l.getD k nul))) = true then some k else some b) = _
    rw [e, e']
    show (if (on (Pc.st p q) here && before q' q) = true then some k else some b) = if on (Pc.st p q) here = true ∧ posK (.line A B D) q' < posK (.line A B D) q then some k else some b
    by_cases c1 : on (Pc.st p q) here = true
    · by_cases c2 : before q' q = true
      · rw [if_pos (by rw [c1, c2]; rfl), if_pos ⟨c1, b1.mp c2⟩]
      · rw [if_neg (by rw [c1, Bool.true_and]; exact c2), if_neg (fun z => c2 (b1.mpr z.2))]
    · rw [if_neg (by rw [Bool.and_eq_true]; exact fun z => c1 z.1), if_neg (fun z => c1 z.1)]
theorem sel_some {x : Pc} (h : x ∈ sel (.line A B D) l) : ∃ k, k ∈ someOf isSt (some (.line A B D)) l ∧ l.getD k nul = x := by
  obtain ⟨h1, h2⟩ := mem_sel.mp h
  obtain ⟨k, hk, e⟩ := mem_getD h1
  refine ⟨k, mem_someOf.mpr ⟨hk, ?_, by rw [e]; exact h2⟩, e⟩
  rw [e]
  cases x with
  | st p q => rfl
  | dot p => cases h2
  | arc c p q => cases h2
  | ring c p => cases h2
theorem line_plain {x : Pc} (h : keyOf x = some (.line A B D)) : Plain x := by
  cases x with
  | st p q => trivial
  | dot p => cases h
  | arc c p q => cases h
  | ring c p => cases h
theorem line_pos {p : Pt} : 1 < posK (.line A B D) p ∧ posK (.line A B D) p < 3 := by
  show 1 < (if B = 0 then sq p.2 else sq p.1) ∧ (if B = 0 then sq p.2 else sq p.1) < 3
  have h1 := sq_rng p.1
  have h2 := sq_rng p.2
  split <;> assumption
theorem st_in {a b p q here : Pt} (o1 : PcOk (.st a b)) (o2 : keyOf (.st a b) = some (.line A B D)) (h : on (.st a b) here = true) :
    posK (.line A B D) a ≤ posK (.line A B D) here ∧ posK (.line A B D) here ≤ posK (.line A B D) b := by
  obtain ⟨h1, h2⟩ := (on_iff o1 o2 here).mp h
  have h2 : Dw (posK (.line A B D) a) (posK (.line A B D) here) ≤ Dw (posK (.line A B D) a) (posK (.line A B D) b) := h2
  have l1 := line_pos (A := A) (B := B) (D := D) (p := a)
  have l2 := line_pos (A := A) (B := B) (D := D) (p := b)
  have l3 := line_pos (A := A) (B := B) (D := D) (p := here)
  have l4 := st_lt o1 o2
  unfold Dw at h2
  grind
theorem schain_ok (ok : OkL l) {p q : Pt} (hk : KeyOk (.line A B D)) (hq : OnKey (.line A B D) q)
    (cov : ∀ t, Rng t → posK (.line A B D) p ≤ t → t ≤ posK (.line A B D) q → setL (.line A B D) (sel (.line A B D) l) t) :
    ∀ (n : Nat) (here : Pt) (found : List Nat), many (someOf isSt (some (.line A B D)) l) (fun k => posK (.line A B D) here < posK (.line A B D) (second (l.getD k nul))) < n → OnKey (.line A B D) here →
      posK (.line A B D) p ≤ posK (.line A B D) here → posK (.line A B D) here < posK (.line A B D) q → ∃ r, schain l (someOf isSt (some (.line A B D)) l) q n here found = some (some r) := by
  intro n
  induction n with
  | zero => intro here found h; omega
  | succ n ih =>
    intro here found hn ho h1 h2
    have hpl : ∀ x, x ∈ sel (.line A B D) l → Plain x := fun x hx => line_plain (mem_sel.mp hx).2
    obtain ⟨s, hs, hin, hne⟩ := leads_on (P := (sel (.line A B D) l).map (arcOf (.line A B D))) (arcs_ok (sel_on ok) hpl) (h := posK (.line A B D) here) (v := posK (.line A B D) q - posK (.line A B D) here)
      (posK_rng hk ho) (by grind) (by
        have l1 := line_pos (A := A) (B := B) (D := D) (p := q)
        have l2 := line_pos (A := A) (B := B) (D := D) (p := here)
        grind) (fun x hx hd => by
        rw [← set_arcs hpl]
        have l1 := line_pos (A := A) (B := B) (D := D) (p := q)
        have l2 := line_pos (A := A) (B := B) (D := D) (p := here)
        have hx' := hx
        unfold Rng at hx'
        unfold Dw at hd
        refine cov x hx ?_ ?_ <;> grind)
    obtain ⟨x, hx, rfl⟩ := List.mem_map.mp hs
    obtain ⟨k, hkS, ek⟩ := sel_some hx
    obtain ⟨a, b, e, o1, o2, _⟩ := st_some ok hkS
    rw [ek] at e
    subst e
    have hon : on (l.getD k nul) here = true := by
      rw [ek]
      exact (on_iff o1 o2 here).mpr ⟨ho, hin⟩
    have hne : posK (.line A B D) b ≠ posK (.line A B D) here := hne
    have hin2 := st_in (p := p) (q := q) o1 o2 (by rw [ek] at hon; exact hon)
    rcases st_best (A := A) (B := B) (D := D) ok here with ⟨_, hf⟩ | ⟨bb, eb, hbS, hbon, hbm⟩
    · rw [hf k hkS] at hon
      cases hon
    · have hb := hbm k hkS hon
      rw [ek] at hb
      have hb : posK (.line A B D) b ≤ posK (.line A B D) (second (l.getD bb nul)) := hb
      unfold schain
      rw [eb]
      simp only
      by_cases c1 : before (second (l.getD bb nul)) q = false
      · rw [if_pos c1]
        exact ⟨_, rfl⟩
      · rw [if_neg c1]
        have c1' : before (second (l.getD bb nul)) q = true := by simpa using c1
        obtain ⟨a', b', e', o1', o2', _⟩ := st_some ok hbS
        have hon' : OnKey (.line A B D) (second (l.getD bb nul)) := by
          rw [e']
          exact (ends_on o1' o2').2
        have c2 : second (l.getD bb nul) ≠ here := by
          intro z
          rw [z] at hb
          grind
        rw [if_neg c2]
        refine ih _ _ ?_ hon' (by grind) ((before_pos hk hon' hq).mp c1')
        have := many_lt (S := someOf isSt (some (.line A B D)) l) (P := fun k => posK (.line A B D) here < posK (.line A B D) (second (l.getD k nul))) (Q := fun k => posK (.line A B D) (second (l.getD bb nul)) < posK (.line A B D) (second (l.getD k nul)))
          (fun j _ hj => by grind) hbS (by grind) (by grind)
        omega
theorem schain_one (ok : OkL l) (sep : SepL (.line A B D) (sel (.line A B D) l)) {p q : Pt} (hk : KeyOk (.line A B D)) (hp : OnKey (.line A B D) p) (hq : OnKey (.line A B D) q) (hpq : posK (.line A B D) p < posK (.line A B D) q)
    (cov : ∀ t, Rng t → Dw (posK (.line A B D) p) t ≤ Dw (posK (.line A B D) p) (posK (.line A B D) q) → setL (.line A B D) (sel (.line A B D) l) t) (n : Nat) :
    ∃ b, schain l (someOf isSt (some (.line A B D)) l) q (n + 1) p [] = some (some [b]) := by
  have hpl : ∀ x, x ∈ sel (.line A B D) l → Plain x := fun x hx => line_plain (mem_sel.mp hx).2
  have cov' : ∀ t, Rng t → Dw (posK (.line A B D) p) t ≤ Dw (posK (.line A B D) p) (posK (.line A B D) q) → memA ((sel (.line A B D) l).map (arcOf (.line A B D))) t := fun t ht h => (set_arcs hpl t).mp (cov t ht h)
  have rp := posK_rng hk hp
  have rq := posK_rng hk hq
  obtain ⟨x, hx, hin⟩ := cov _ rp (by rw [Dw_self]; exact (Dw_nn rp rq).1)
  obtain ⟨k, hkS, ek⟩ := sel_some hx
  obtain ⟨a, b, e, o1, o2, _⟩ := st_some ok hkS
  rw [ek] at e
  subst e
  have hon : on (l.getD k nul) p = true := by
    rw [ek]
    exact (on_iff o1 o2 p).mpr ⟨hp, hin⟩
  rcases st_best (A := A) (B := B) (D := D) ok p with ⟨_, hf⟩ | ⟨bb, eb, hbS, hbon, _⟩
  · rw [hf k hkS] at hon
    cases hon
  · obtain ⟨a', b', e', o1', o2', hm'⟩ := st_some ok hbS
    rw [e'] at hbon hm'
    have hi := ((on_iff o1' o2' p).mp hbon).2
    have r := reach (arcs_ok (sel_on ok) hpl) (sep_arcs sep hpl) rp rq cov' (s := arcOf (.line A B D) (.st a' b')) (List.mem_map.mpr ⟨_, mem_sel.mpr ⟨hm', o2'⟩, rfl⟩) hi
    have r : Dw (posK (.line A B D) p) (posK (.line A B D) q) ≤ Dw (posK (.line A B D) p) (posK (.line A B D) b') := r
    have hin2 := st_in (p := p) (q := q) o1' o2' hbon
    have hle : posK (.line A B D) q ≤ posK (.line A B D) b' := by
      unfold Dw at r
      grind
    refine ⟨bb, ?_⟩
    unfold schain
    rw [eb]
    simp only
    have c1 : before (second (l.getD bb nul)) q = false := by
      rw [e']
      cases hb : before (second (Pc.st a' b')) q with
      | false => rfl
      | true =>
        have := (before_pos hk (ends_on o1' o2').2 hq).mp hb
        grind
    rw [if_pos c1]
    rfl
end
/-! ### round ones -/
section
variable {l : List Pc} {c : Pt} {r : Rat}
theorem rd_some (ok : OkL l) (nor : ∀ x, x ∈ sel (.circ c r) l → Plain x) {k : Nat} (hk : k ∈ someOf isRound (some (.circ c r)) l) :
    ∃ p q, l.getD k nul = .arc c p q ∧ PcOk (.arc c p q) ∧ keyOf (.arc c p q) = some (.circ c r) ∧ Pc.arc c p q ∈ sel (.circ c r) l := by
  obtain ⟨h1, h2, h3⟩ := mem_someOf.mp hk
  have hm := getD_mem h1
  have hs := mem_sel.mpr ⟨hm, h3⟩
  have hp := nor _ hs
  have ho := ok _ hm
  generalize l.getD k nul = x at *
  cases x with
  | dot p => cases h3
  | st p q => cases h3
  | ring c' p => exact hp.elim
  | arc c' p q =>
    have hc : c' = c := (Key.circ.inj (Option.some.inj h3)).1
    subst hc
    exact ⟨p, q, rfl, ho, h3, hs⟩
theorem sel_round {x : Pc} (h : x ∈ sel (.circ c r) l) : ∃ k, k ∈ someOf isRound (some (.circ c r)) l ∧ l.getD k nul = x := by
  obtain ⟨h1, h2⟩ := mem_sel.mp h
  obtain ⟨k, hk, e⟩ := mem_getD h1
  refine ⟨k, mem_someOf.mpr ⟨hk, ?_, by rw [e]; exact h2⟩, e⟩
  rw [e]
  cases x with
  | st p q => cases h2
  | dot p => cases h2
  | arc c p q => rfl
  | ring c p => rfl
theorem rd_best (ok : OkL l) (nor : ∀ x, x ∈ sel (.circ c r) l → Plain x) (hr : r ≠ 0) {here : Pt} (hh : OnKey (.circ c r) here) :
    ((someOf isRound (some (.circ c r)) l).foldl (bestArc l here) none = none ∧ ∀ k, k ∈ someOf isRound (some (.circ c r)) l → (decide (third (l.getD k nul) ≠ here) && on (l.getD k nul) here) = false) ∨
    ∃ b, (someOf isRound (some (.circ c r)) l).foldl (bestArc l here) none = some b ∧ b ∈ someOf isRound (some (.circ c r)) l ∧ (decide (third (l.getD b nul) ≠ here) && on (l.getD b nul) here) = true ∧
      ∀ k, k ∈ someOf isRound (some (.circ c r)) l → (decide (third (l.getD k nul) ≠ here) && on (l.getD k nul) here) = true →
        Dw (posK (.circ c r) here) (posK (.circ c r) (third (l.getD k nul))) ≤ Dw (posK (.circ c r) here) (posK (.circ c r) (third (l.getD b nul))) := by
  refine best_of (C := fun k => decide (third (l.getD k nul) ≠ here) && on (l.getD k nul) here) (f := fun k => Dw (posK (.circ c r) here) (posK (.circ c r) (third (l.getD k nul)))) (fun k hk => ?_) (fun b k hb hk hc => ?_)
  · unfold bestArc
    simp
  · obtain ⟨p, q, e, o1, o2, _⟩ := rd_some ok nor hk
    obtain ⟨p', q', e', o1', o2', _⟩ := rd_some ok nor hb
    have b1 := ahead_pos hr hh (ends_on o1' o2').2 (ends_on o1 o2).2
    show (if (decide (third (l.getD k nul) ≠ here) && on (l.getD k nul) here) = true then (if ahead (centre (l.getD k nul)) here (third (l.getD b nul)) (third (l.getD k nul)) = true then some k else some b) else some b) = _
    rw [e, e']
    show (if (decide (q ≠ here) && on (Pc.arc c p q) here) = true then (if ahead c here q' q = true then some k else some b) else some b) = if (decide (q ≠ here) && on (Pc.arc c p q) here) = true ∧ Dw (posK (.circ c r) here) (posK (.circ c r) q') < Dw (posK (.circ c r) here) (posK (.circ c r) q) then some k else some b
    by_cases c1 : (decide (q ≠ here) && on (Pc.arc c p q) here) = true
    · rw [if_pos c1]
      by_cases c2 : ahead c here q' q = true
      · rw [if_pos c2, if_pos ⟨c1, b1.mp c2⟩]
      · rw [if_neg c2, if_neg (fun z => c2 (b1.mpr z.2))]
    · rw [if_neg c1, if_neg (fun z => c1 z.1)]
/-- the way that is left -/
def left (here goal : Rat) : Rat := if here = goal then 4 else Dw here goal
theorem rchain_ok (ok : OkL l) (nor : ∀ x, x ∈ sel (.circ c r) l → Plain x) (hr : r ≠ 0) {q : Pt} (hq : OnKey (.circ c r) q) :
    ∀ (n : Nat) (here : Pt) (found : List Nat), OnKey (.circ c r) here →
      (∀ t, Rng t → Dw (posK (.circ c r) here) t < left (posK (.circ c r) here) (posK (.circ c r) q) → setL (.circ c r) (sel (.circ c r) l) t) →
      many (someOf isRound (some (.circ c r)) l) (fun k => Dw (posK (.circ c r) (third (l.getD k nul))) (posK (.circ c r) q) < left (posK (.circ c r) here) (posK (.circ c r) q)) < n →
      ∃ rr, rchain l (someOf isRound (some (.circ c r)) l) c q n here found = some (some rr) := by
  intro n
  induction n with
  | zero => intro here found _ _ h; omega
  | succ n ih =>
    intro here found ho cov hn
    have hk : KeyOk (.circ c r) := hr
    have rh := posK_rng hk ho
    have rq := posK_rng hk hq
    have hleft : 0 < left (posK (.circ c r) here) (posK (.circ c r) q) ∧ left (posK (.circ c r) here) (posK (.circ c r) q) ≤ 4 := by
      have a := Dw_nn rh rq
      have b := Dw_zero rh rq
      unfold left
      grind
    obtain ⟨s, hs, hin, hne⟩ := leads_on (P := (sel (.circ c r) l).map (arcOf (.circ c r))) (arcs_ok (sel_on ok) nor) rh hleft.1 hleft.2 (fun x hx hd => by
      rw [← set_arcs nor]
      exact cov x hx hd)
    obtain ⟨x, hx, rfl⟩ := List.mem_map.mp hs
    obtain ⟨k, hkS, ek⟩ := sel_round hx
    obtain ⟨a, b, e, o1, o2, _⟩ := rd_some ok nor hkS
    rw [ek] at e
    subst e
    have hne : posK (.circ c r) b ≠ posK (.circ c r) here := hne
    have hon : (decide (third (l.getD k nul) ≠ here) && on (l.getD k nul) here) = true := by
      rw [ek, Bool.and_eq_true, decide_eq_true_iff]
      refine ⟨fun z => hne ?_, (on_iff o1 o2 here).mpr ⟨ho, hin⟩⟩
      have z : b = here := z
      rw [z]
    rcases rd_best ok nor hr ho with ⟨_, hf⟩ | ⟨bb, eb, hbS, hbon, hbm⟩
    · rw [hf k hkS] at hon
      cases hon
    · unfold rchain
      rw [eb]
      simp only
      obtain ⟨a', b', e', o1', o2', _⟩ := rd_some ok nor hbS
      rw [e'] at hbon ⊢
      rw [Bool.and_eq_true, decide_eq_true_iff] at hbon
      have hb1 : b' ≠ here := hbon.1
      have hon' : OnKey (.circ c r) b' := (ends_on o1' o2').2
      have rb := posK_rng hk hon'
      have hbh : posK (.circ c r) b' ≠ posK (.circ c r) here := fun z => hb1 (posK_inj hk hon' ho z)
      show ∃ rr, (if b' = q ∨ (here ≠ q ∧ ahead c here q b' = true) then some (some (found ++ [bb])) else rchain l (someOf isRound (some (.circ c r)) l) c q n b' (found ++ [bb])) = some (some rr)
      by_cases c1 : b' = q ∨ (here ≠ q ∧ ahead c here q b' = true)
      · rw [if_pos c1]
        exact ⟨_, rfl⟩
      · rw [if_neg c1]
        have c2 : posK (.circ c r) b' ≠ posK (.circ c r) q := fun z => c1 (.inl (posK_inj hk hon' hq z))
        have c3 : posK (.circ c r) here ≠ posK (.circ c r) q → ¬ Dw (posK (.circ c r) here) (posK (.circ c r) q) < Dw (posK (.circ c r) here) (posK (.circ c r) b') := by
          intro z1 z2
          refine c1 (.inr ⟨fun z => z1 (by rw [z]), (ahead_pos hr ho hq hon').mpr z2⟩)
        have d1 := Dw_add rh rb rq
        have d2 := Dw_nn rh rb
        have d3 := Dw_nn rb rq
        have d4 := Dw_nn rh rq
        have d5 := Dw_zero rh rb
        have d6 := Dw_zero rb rq
        have d7 := Dw_back rh rq
        have key : Dw (posK (.circ c r) here) (posK (.circ c r) b') + left (posK (.circ c r) b') (posK (.circ c r) q) = left (posK (.circ c r) here) (posK (.circ c r) q) := by
          unfold left
          rw [if_neg c2]
          by_cases z : posK (.circ c r) here = posK (.circ c r) q
          · rw [if_pos z, ← z]
            exact Dw_back rh rb (Ne.symm hbh)
          · rw [if_neg z]
            have := c3 z
            grind
        have dpos : 0 < Dw (posK (.circ c r) here) (posK (.circ c r) b') := by grind
        refine ih b' _ hon' (fun t ht hd => cov t ht ?_) ?_
        · have e1 := Dw_add rh rb ht
          have e2 := Dw_nn rh ht
          have e3 := Dw_nn rb ht
          grind
        · have hm := many_lt (S := someOf isRound (some (.circ c r)) l) (P := fun k => Dw (posK (.circ c r) (third (l.getD k nul))) (posK (.circ c r) q) < left (posK (.circ c r) here) (posK (.circ c r) q))
            (Q := fun k => Dw (posK (.circ c r) (third (l.getD k nul))) (posK (.circ c r) q) < left (posK (.circ c r) b') (posK (.circ c r) q)) (fun j _ hj => by grind) hbS (by
              rw [e']
              show Dw (posK (.circ c r) b') (posK (.circ c r) q) < _
              have : left (posK (.circ c r) b') (posK (.circ c r) q) = Dw (posK (.circ c r) b') (posK (.circ c r) q) := by
                unfold left
                rw [if_neg c2]
              grind) (by
              rw [e']
              show ¬ Dw (posK (.circ c r) b') (posK (.circ c r) q) < _
              have : left (posK (.circ c r) b') (posK (.circ c r) q) = Dw (posK (.circ c r) b') (posK (.circ c r) q) := by
                unfold left
                rw [if_neg c2]
              grind)
          omega
theorem rchain_one (ok : OkL l) (nor : ∀ x, x ∈ sel (.circ c r) l → Plain x) (sep : SepL (.circ c r) (sel (.circ c r) l)) (hr : r ≠ 0) {p q : Pt} (hp : OnKey (.circ c r) p) (hq : OnKey (.circ c r) q) (hpq : p ≠ q)
    (cov : ∀ t, Rng t → Dw (posK (.circ c r) p) t ≤ Dw (posK (.circ c r) p) (posK (.circ c r) q) → setL (.circ c r) (sel (.circ c r) l) t) (n : Nat) :
    ∃ b, rchain l (someOf isRound (some (.circ c r)) l) c q (n + 1) p [] = some (some [b]) := by
  have hk : KeyOk (.circ c r) := hr
  have rp := posK_rng hk hp
  have rq := posK_rng hk hq
  have cov' : ∀ t, Rng t → Dw (posK (.circ c r) p) t ≤ Dw (posK (.circ c r) p) (posK (.circ c r) q) → memA ((sel (.circ c r) l).map (arcOf (.circ c r))) t := fun t ht h => (set_arcs nor t).mp (cov t ht h)
  have hpos : 0 < Dw (posK (.circ c r) p) (posK (.circ c r) q) := by
    have a := (Dw_nn rp rq).1
    have b := Dw_zero rp rq
    have : posK (.circ c r) p ≠ posK (.circ c r) q := fun z => hpq (posK_inj hk hp hq z)
    grind
  have goes : ∀ k, k ∈ someOf isRound (some (.circ c r)) l → on (l.getD k nul) p = true → Dw (posK (.circ c r) p) (posK (.circ c r) q) ≤ Dw (posK (.circ c r) p) (posK (.circ c r) (third (l.getD k nul))) := by
    intro k hkS hon
    obtain ⟨a, b, e, o1, o2, hm⟩ := rd_some ok nor hkS
    rw [e] at hon ⊢
    have hi := ((on_iff o1 o2 p).mp hon).2
    exact reach (arcs_ok (sel_on ok) nor) (sep_arcs sep nor) rp rq cov' (s := arcOf (.circ c r) (.arc c a b)) (List.mem_map.mpr ⟨_, hm, rfl⟩) hi
  obtain ⟨x, hx, hin⟩ := cov _ rp (by rw [Dw_self]; exact (Dw_nn rp rq).1)
  obtain ⟨k, hkS, ek⟩ := sel_round hx
  have hon : on (l.getD k nul) p = true := by
    rw [ek]
    exact (on_iff (sel_on ok x hx).1 (sel_on ok x hx).2 p).mpr ⟨hp, hin⟩
  have hcand : (decide (third (l.getD k nul) ≠ p) && on (l.getD k nul) p) = true := by
    rw [Bool.and_eq_true, decide_eq_true_iff]
    refine ⟨fun z => ?_, hon⟩
    have := goes k hkS hon
    rw [z, Dw_self] at this
    grind
  rcases rd_best ok nor hr hp with ⟨_, hf⟩ | ⟨bb, eb, hbS, hbon, _⟩
  · rw [hf k hkS] at hcand
    cases hcand
  · rw [Bool.and_eq_true] at hbon
    have hg := goes bb hbS hbon.2
    obtain ⟨a', b', e', o1', o2', _⟩ := rd_some ok nor hbS
    rw [e'] at hg
    have hg : Dw (posK (.circ c r) p) (posK (.circ c r) q) ≤ Dw (posK (.circ c r) p) (posK (.circ c r) b') := hg
    refine ⟨bb, ?_⟩
    unfold rchain
    rw [eb]
    simp only
    rw [e']
    show (if b' = q ∨ (p ≠ q ∧ ahead c p q b' = true) then some (some ([] ++ [bb])) else _) = _
    have hb : OnKey (.circ c r) b' := (ends_on o1' o2').2
    rw [if_pos]
    · rfl
    · by_cases z : b' = q
      · exact .inl z
      · right
        refine ⟨hpq, (ahead_pos hr hp hq hb).mpr ?_⟩
        have : Dw (posK (.circ c r) p) (posK (.circ c r) q) ≠ Dw (posK (.circ c r) p) (posK (.circ c r) b') := by
          intro y
          exact z (posK_inj hk hb hq (Dw_inj rp (posK_rng hk hb) rq y.symm))
        grind
end
end AM
/-! the few pieces in any order, and chains of them; the whole plain law ahead of sorting -/
namespace AM
theorem sep_all {k : Key} {l : List Pc} (hs : SepL k l) : ∀ x y, x ∈ l → y ∈ l → x ≠ y → Aside k x y := by
  induction l with
  | nil => intro x y hx; cases hx
  | cons a r ih =>
    obtain ⟨h1, h2⟩ := List.pairwise_cons.mp hs
    intro x y hx hy hne
    rcases List.mem_cons.mp hx with e | hx'
    · rcases List.mem_cons.mp hy with e' | hy'
      · exact (hne (by rw [e, e'])).elim
      · rw [e]
        exact h1 y hy'
    · rcases List.mem_cons.mp hy with e' | hy'
      · rw [e']
        exact (h1 x hx').symm
      · exact ih h2 x y hx' hy' hne
section
variable {l m : List Pc}
theorem sel_few (hl : OkL l) (hm : m.Perm (preJ l)) (k : Key) (x : Pc) : x ∈ sel k m ↔ (sel k l ≠ [] ∧ x ∈ joinedOn (sel k l)) := by
  rw [mem_sel, hm.mem_iff, mem_preJ hl]
  constructor
  · rintro ⟨h1 | ⟨p, rfl, _⟩, e⟩
    · obtain ⟨k', e', _, hne, hj⟩ := flatJ_key hl h1
      rw [e] at e'
      cases e'
      exact ⟨hne, hj⟩
    · cases e
  · rintro ⟨h1, h2⟩
    obtain ⟨a1, _⟩ := joinedOn_ok (sel_on hl) h1
    exact ⟨.inl ((mem_flatJ hl).mpr ⟨k, h1, h2⟩), (a1 x h2).2⟩
theorem few_ok (hl : OkL l) (hm : m.Perm (preJ l)) : OkL m := fun x hx => preJ_ok hl x (hm.mem_iff.mp hx)
theorem few_sep (hl : OkL l) (hm : m.Perm (preJ l)) (k : Key) : SepL k (sel k m) := by
  have hn : (sel k m).Nodup := by
    unfold sel
    exact List.Pairwise.filter _ (hm.nodup_iff.mpr (preJ_nodup hl))
  refine List.Pairwise.imp_of_mem ?_ hn
  intro x y hx hy hne
  obtain ⟨h1, h2⟩ := (sel_few hl hm k x).mp hx
  obtain ⟨_, h3⟩ := (sel_few hl hm k y).mp hy
  exact sep_all (joinedOn_ok (sel_on hl) h1).2.1 x y h2 h3 hne
theorem few_set (hl : OkL l) (hm : m.Perm (preJ l)) (k : Key) (t : Rat) (ht : Rng t) : setL k (sel k m) t ↔ setL k (sel k l) t := by
  constructor
  · rintro ⟨x, hx, hi⟩
    obtain ⟨h1, h2⟩ := (sel_few hl hm k x).mp hx
    exact ((joinedOn_ok (sel_on hl) h1).2.2.1 t ht).mp ⟨x, h2, hi⟩
  · rintro ⟨x, hx, hi⟩
    have hne : sel k l ≠ [] := fun z => by rw [z] at hx; cases hx
    obtain ⟨y, hy, hi⟩ := ((joinedOn_ok (sel_on hl) hne).2.2.1 t ht).mpr ⟨x, hx, hi⟩
    exact ⟨y, (sel_few hl hm k y).mpr ⟨hne, hy⟩, hi⟩
theorem few_dot (hl : OkL l) (hm : m.Perm (preJ l)) (p : Pt) (h : Pc.dot p ∈ m) : Pc.dot p ∈ l := by
  rcases (mem_preJ hl).mp (hm.mem_iff.mp h) with h1 | ⟨q, e, h1, _⟩
  · obtain ⟨k, e, _⟩ := flatJ_key hl h1
    cases e
  · cases e
    exact h1
theorem find_on {l : List Pc} {p : Pt} {x : Pc} (hx : x ∈ l) (ho : on x p = true) : ∃ k, (List.range l.length).find? (fun k => on (l.getD k nul) p) = some k := by
  obtain ⟨k, hk, e⟩ := mem_getD hx
  cases h : (List.range l.length).find? (fun k => on (l.getD k nul) p) with
  | some j => exact ⟨j, rfl⟩
  | none =>
    have := List.find?_eq_none.mp h k (List.mem_range.mpr hk)
    rw [e] at this
    exact (this ho).elim
/-- on a circle: the one ring, or no ring -/
theorem ring_of {c : Pt} {r : Rat} (hl : OkL l) (hs : SepL (.circ c r) (sel (.circ c r) l)) :
    (∃ p, sel (.circ c r) l = [.ring c p]) ∨ ((∀ x, x ∈ sel (.circ c r) l → Plain x) ∧ (someOf isRound (some (.circ c r)) l).find? (fun j => isRing (l.getD j nul)) = none) := by
  rcases ring_or_plain (sel_on hl) hs with ⟨c', p, e⟩ | h
  · left
    have := (sel_on hl (k := .circ c r) (.ring c' p) (by rw [e]; simp)).2
    have hc : c' = c := (Key.circ.inj (Option.some.inj this)).1
    exact ⟨p, by rw [e, hc]⟩
  · exact .inr ⟨h, no_ring h⟩
where
  no_ring (h : ∀ x, x ∈ sel (.circ c r) l → Plain x) : (someOf isRound (some (.circ c r)) l).find? (fun j => isRing (l.getD j nul)) = none := by
    refine List.find?_eq_none.mpr fun j hj => ?_
    obtain ⟨h1, h2, h3⟩ := mem_someOf.mp hj
    have := h _ (mem_sel.mpr ⟨getD_mem h1, h3⟩)
    generalize l.getD j nul = x at *
    cases x with
    | ring c p => exact this.elim
    | _ => simp [isRing]
theorem ring_found {c p : Pt} {r : Rat} (h : Pc.ring c p ∈ sel (.circ c r) l) : ∃ b, (someOf isRound (some (.circ c r)) l).find? (fun j => isRing (l.getD j nul)) = some b := by
  obtain ⟨k, hk, e⟩ := sel_round h
  cases hf : (someOf isRound (some (.circ c r)) l).find? (fun j => isRing (l.getD j nul)) with
  | some b => exact ⟨b, rfl⟩
  | none =>
    have := List.find?_eq_none.mp hf k hk
    rw [e] at this
    exact (this rfl).elim
end
/-- EACH PIECE HAS A CHAIN of the few, one number long -/
theorem chain_few {l m : List Pc} (hl : OkL l) (hm : m.Perm (preJ l)) {x : Pc} (hx : x ∈ l) : ∃ b, ∀ n, ChainIs m x (n + 1) (some [b]) := by
  have om := few_ok hl hm
  have ox := hl x hx
  have cov : ∀ k t, keyOf x = some k → Rng t → inP k x t → setL k (sel k m) t := by
    intro k t e ht hi
    rw [few_set hl hm k t ht]
    exact ⟨x, mem_sel.mpr ⟨hx, e⟩, hi⟩
  cases x with
  | dot p =>
    have : ∃ y, y ∈ m ∧ on y p = true := by
      by_cases hc : AM.cov l p
      · have := (any_cov hl p).mpr hc
        obtain ⟨y, hy, ho⟩ := List.any_eq_true.mp this
        exact ⟨y, hm.mem_iff.mpr ((mem_preJ hl).mpr (.inl hy)), ho⟩
      · refine ⟨.dot p, hm.mem_iff.mpr ((mem_preJ hl).mpr (.inr ⟨p, rfl, hx, hc⟩)), ?_⟩
        show decide (p = p) = true
        simp
    obtain ⟨y, hy, ho⟩ := this
    obtain ⟨b, hb⟩ := find_on hy ho
    refine ⟨b, fun n => ?_⟩
    show some [b] = _
    rw [hb]
    rfl
  | st p q =>
    have hk := keyOk_of ox (k := .line (lineT p q).1 (lineT p q).2.1 (lineT p q).2.2) rfl
    have he := ends_on ox (k := .line (lineT p q).1 (lineT p q).2.1 (lineT p q).2.2) rfl
    have hlt := st_lt ox (k := .line (lineT p q).1 (lineT p q).2.1 (lineT p q).2.2) rfl
    have h := fun n => schain_one om (few_sep hl hm _) hk he.1 he.2 hlt.1 (fun t ht hd => cov _ t rfl ht hd) n
    obtain ⟨b, hb⟩ := h 0
    refine ⟨b, fun n => ?_⟩
    obtain ⟨b', hb'⟩ := h n
    show schain m (someOf isSt _ m) q (n + 1) p [] = some (some [b])
    have e0 : b' = b := by
      unfold schain at hb hb'
      split at hb
      · cases hb
      · rename_i b0 hb0
        rw [hb0] at hb'
        simp only at hb'
        split at hb
        · rename_i c0
          rw [if_pos c0] at hb'
          have e1 := Option.some.inj (Option.some.inj hb)
          have e2 := Option.some.inj (Option.some.inj hb')
          rw [e1] at e2
          exact (List.cons.inj e2).1.symm
        · split at hb
          · cases hb
          · cases hb
    rw [← e0]
    exact hb'
  | arc c p q =>
    obtain ⟨o1, o2, o3⟩ := ox
    show ∃ b, ∀ n, match (someOf isRound (some (.circ c (far c p))) m).find? (fun k => isRing (m.getD k nul)) with
      | some k => some [b] = some [k]
      | none => rchain m (someOf isRound (some (.circ c (far c p))) m) c q (n + 1) p [] = some (some [b])
    rcases ring_of om (few_sep hl hm (.circ c (far c p))) with ⟨p', e⟩ | ⟨hp, hn⟩
    · obtain ⟨b, hb⟩ := ring_found (l := m) (c := c) (p := p') (r := far c p) (by rw [e]; simp)
      rw [hb]
      exact ⟨b, fun _ => rfl⟩
    · rw [hn]
      have h := fun n => rchain_one om hp (few_sep hl hm _) o1 (p := p) (q := q) rfl o2 o3 (fun t ht hd => cov _ t rfl ht hd) n
      obtain ⟨b, hb⟩ := h 0
      refine ⟨b, fun n => ?_⟩
      obtain ⟨b', hb'⟩ := h n
      have e0 : b' = b := by
        unfold rchain at hb hb'
        split at hb
        · cases hb
        · rename_i b0 hb0
          rw [hb0] at hb'
          simp only at hb'
          split at hb
          · rename_i c0
            rw [if_pos c0] at hb'
            have e1 := Option.some.inj (Option.some.inj hb)
            have e2 := Option.some.inj (Option.some.inj hb')
            rw [e1] at e2
            exact (List.cons.inj e2).1.symm
          · cases hb
      rw [← e0]
      exact hb'
  | ring c p =>
    show ∃ b, ∀ n, match (someOf isRound (some (.circ c (far c p))) m).find? (fun k => isRing (m.getD k nul)) with
      | some k => some [b] = some [k]
      | none => rchain m (someOf isRound (some (.circ c (far c p))) m) c p (n + 1) p [] = some (some [b])
    rcases ring_of om (few_sep hl hm (.circ c (far c p))) with ⟨p', e⟩ | ⟨hp, hn⟩
    · obtain ⟨b, hb⟩ := ring_found (l := m) (c := c) (p := p') (r := far c p) (by rw [e]; simp)
      rw [hb]
      exact ⟨b, fun _ => rfl⟩
    · obtain ⟨t, ht, hno⟩ := not_all (arcs_ok (sel_on om) hp) (sep_arcs (few_sep hl hm _) hp)
      exact (hno ((set_arcs hp t).mp (cov _ t rfl ht trivial))).elim
/-- EACH OF THE FEW HAS A CHAIN of the parts -/
theorem chain_parts {l m f : List Pc} (h : PartsL l m) (hf : f.Perm (preJ l)) {x : Pc} (hx : x ∈ f) : ∃ r, ChainIs m x (m.length + 1) (some r) := by
  obtain ⟨hl, om⟩ := h.okl
  have ox := few_ok hl hf x hx
  have hs := h.same
  have nor : ∀ k y, y ∈ sel k m → Plain y := fun k y hy => h.noring y (mem_sel.mp hy).1 k (mem_sel.mp hy).2
  have cov : ∀ k t, KeyOk k → keyOf x = some k → Rng t → inP k x t → setL k (sel k m) t := by
    intro k t hk e ht hi
    rw [← hs.sets k t hk ht, ← few_set hl hf k t ht]
    exact ⟨x, mem_sel.mpr ⟨hx, e⟩, hi⟩
  have small : ∀ (S : List Nat) (P : Nat → Prop) [DecidablePred P] (g : Pc → Bool) (o : Option Key), S = someOf g o m → many S P < m.length + 1 := by
    intro S P _ g o e
    have h1 := many_le S P
    have h2 : S.length ≤ m.length := by
      rw [e]
      unfold someOf
      have := List.length_filter_le (fun k => g (m.getD k nul) && decide (keyOf (m.getD k nul) = o)) (List.range m.length)
      rw [List.length_range] at this
      exact this
    omega
  cases x with
  | dot p =>
    have hd := (h.dots p).mp (few_dot hl hf p hx)
    obtain ⟨b, hb⟩ := find_on (l := m) (p := p) hd (by show decide (p = p) = true; simp)
    refine ⟨[b], ?_⟩
    show some [b] = _
    rw [hb]
    rfl
  | st p q =>
    have hk := keyOk_of ox (k := .line (lineT p q).1 (lineT p q).2.1 (lineT p q).2.2) rfl
    have he := ends_on ox (k := .line (lineT p q).1 (lineT p q).2.1 (lineT p q).2.2) rfl
    have hlt := st_lt ox (k := .line (lineT p q).1 (lineT p q).2.1 (lineT p q).2.2) rfl
    exact schain_ok om (p := p) hk he.2 (fun t ht h1 h2 => cov _ t hk rfl ht (by
      show Dw _ t ≤ Dw _ _
      have l1 := hlt.1
      unfold arcOf Dw
      simp only
      grind)) (m.length + 1) p [] (small _ _ _ _ rfl) he.1 Rat.le_refl hlt.1
  | arc c p q =>
    obtain ⟨o1, o2, o3⟩ := ox
    have hk : KeyOk (.circ c (far c p)) := o1
    have rp := posK_rng hk (p := p) rfl
    have rq := posK_rng hk (p := q) o2
    show ∃ r, match (someOf isRound (some (.circ c (far c p))) m).find? (fun k => isRing (m.getD k nul)) with
      | some k => some r = some [k]
      | none => rchain m (someOf isRound (some (.circ c (far c p))) m) c q (m.length + 1) p [] = some (some r)
    rw [ring_of.no_ring (nor _)]
    refine rchain_ok om (nor _) o1 o2 (m.length + 1) p [] rfl (fun t ht hd => cov _ t hk rfl ht ?_) (small _ _ _ _ rfl)
    show Dw (posK (.circ c (far c p)) p) t ≤ Dw (posK (.circ c (far c p)) p) (posK (.circ c (far c p)) q)
    have : posK (.circ c (far c p)) p ≠ posK (.circ c (far c p)) q := fun z => o3 (posK_inj hk rfl o2 z)
    unfold left at hd
    rw [if_neg this] at hd
    grind
  | ring c p =>
    have hk : KeyOk (.circ c (far c p)) := ox
    show ∃ r, match (someOf isRound (some (.circ c (far c p))) m).find? (fun k => isRing (m.getD k nul)) with
      | some k => some r = some [k]
      | none => rchain m (someOf isRound (some (.circ c (far c p))) m) c p (m.length + 1) p [] = some (some r)
    rw [ring_of.no_ring (nor _)]
    exact rchain_ok om (nor _) ox (q := p) rfl (m.length + 1) p [] rfl (fun t ht _ => cov _ t hk rfl ht trivial) (small _ _ _ _ rfl)
end AM
/-! the parts of a piece -/
namespace AM
def arcsOf (c : Pt) : List Pt → List Pc
  | x :: y :: r => .arc c x y :: arcsOf c (y :: r)
  | _ => []
def rot (p : Pt) : Pt := (-p.2, p.1)
def atShare (c a : Pt) (t : Rat) : Pt :=
  let u := (1 - t * t) / (1 + t * t)
  let v := (t + t) / (1 + t * t)
  tog c (u * (off a c).1 - v * (off a c).2, v * (off a c).1 + u * (off a c).2)
def turns (c a : Pt) : List Pt := [tog c (rot (off a c)), tog c (rot (rot (off a c))), tog c (rot (rot (rot (off a c))))]
def quartersOf : Pc → List Pt
  | .arc c p q => p :: ((turns c p).filter fun x => ahead c p x q) ++ [q]
  | .ring c p => p :: turns c p ++ [p]
  | _ => []
def cutOf (x : Pc) (m : Pt) : List Pc :=
  match x with
  | .st p q => if !liesOn (.st p q) m || (decide (m = p) || decide (m = q)) then [.st p q] else [.st p m, .st m q]
  | _ => []
theorem off_tog (c v : Pt) : off (tog c v) c = v := by
  unfold off tog
  exact Prod.ext (by grind) (by grind)
theorem far_tog (c v : Pt) : far c (tog c v) = v.1 * v.1 + v.2 * v.2 := by
  unfold far along off tog
  grind
theorem far_eq (c p : Pt) : far c p = (off p c).1 * (off p c).1 + (off p c).2 * (off p c).2 := by
  unfold far along off
  grind
theorem far_at (c a : Pt) (t : Rat) : far c (atShare c a t) = far c a := by
  have ht : 0 < 1 + t * t := by
    have := sq_nn t
    grind
  unfold atShare
  rw [far_tog, far_eq]
  generalize (off a c).1 = x
  generalize (off a c).2 = y
  simp only
  have e1 : (1 - t * t) / (1 + t * t) * (1 + t * t) = 1 - t * t := by grind
  have e2 : (t + t) / (1 + t * t) * (1 + t * t) = t + t := by grind
  generalize (1 - t * t) / (1 + t * t) = u at *
  generalize (t + t) / (1 + t * t) = v at *
  have e3 : (u * u + v * v) * ((1 + t * t) * (1 + t * t)) = (1 + t * t) * (1 + t * t) := by
    have : (u * (1 + t * t)) * (u * (1 + t * t)) + (v * (1 + t * t)) * (v * (1 + t * t)) = (1 - t * t) * (1 - t * t) + (t + t) * (t + t) := by rw [e1, e2]
    grind
  have e4 : u * u + v * v = 1 := by
    have h0 : (1 + t * t) * (1 + t * t) ≠ 0 := by
      have := Rat.mul_pos ht ht
      grind
    have h1 : (u * u + v * v - 1) * ((1 + t * t) * (1 + t * t)) = 0 := by grind
    have := (Rat.mul_eq_zero.mp h1).resolve_right h0
    grind
  have : (u * x - v * y) * (u * x - v * y) + (v * x + u * y) * (v * x + u * y) = (u * u + v * v) * (x * x + y * y) := by grind
  rw [this, e4]
  grind
theorem far_rot (c v : Pt) : far c (tog c (rot v)) = far c (tog c v) := by
  rw [far_tog, far_tog]
  unfold rot
  grind
theorem rot_nz {v : Pt} (h : nz v) : nz (rot v) := by
  unfold nz rot at *
  grind
theorem ang_rot {v : Pt} (h : nz v) : ang (rot v) = if ang v < 3 then ang v + 1 else ang v - 3 := by
  have e : qback (rot v) = v := by
    unfold qback rot
    exact Prod.ext rfl (by grind)
  have := ang_qback (rot_nz h)
  rw [e] at this
  have r1 := ang_rng h
  have r2 := ang_rng (rot_nz h)
  unfold Rng at *
  grind
theorem far_turns {c p x : Pt} (h : x ∈ turns c p) : far c x = far c p := by
  have e0 : far c (tog c (off p c)) = far c p := by
    rw [far_tog, far_eq]
  unfold turns at h
  simp at h
  rcases h with rfl | rfl | rfl
  · rw [far_rot, e0]
  · rw [far_rot, far_rot, e0]
  · rw [far_rot, far_rot, far_rot, e0]
theorem Dw_turns {c p : Pt} (h : far c p ≠ 0) : (turns c p).map (fun x => Dw (posK (.circ c (far c p)) p) (posK (.circ c (far c p)) x)) = [1, 2, 3] := by
  have n0 := far_pos.mpr h
  have n1 := rot_nz n0
  have n2 := rot_nz n1
  have a1 := ang_rot n0
  have a2 := ang_rot n1
  have a3 := ang_rot n2
  have r := ang_rng n0
  unfold turns
  show [Dw (ang (off p c)) (ang (off (tog c (rot (off p c))) c)), Dw (ang (off p c)) (ang (off (tog c (rot (rot (off p c)))) c)), Dw (ang (off p c)) (ang (off (tog c (rot (rot (rot (off p c))))) c))] = [1, 2, 3]
  rw [off_tog, off_tog, off_tog]
  generalize ang (off p c) = t at *
  generalize ang (rot (off p c)) = t1 at *
  generalize ang (rot (rot (off p c))) = t2 at *
  generalize ang (rot (rot (rot (off p c)))) = t3 at *
  unfold Rng at r
  have g1 : Dw t t1 = 1 := by unfold Dw; grind
  have g2 : Dw t t2 = 2 := by unfold Dw; grind
  have g3 : Dw t t3 = 3 := by unfold Dw; grind
  rw [g1, g2, g3]
/-- consecutive arcs, seen from a place -/
theorem arcs_set {c : Pt} {r : Rat} (hr : r ≠ 0) {b : Rat} (hb : Rng b) : ∀ (l : List Pt) (x : Pt), OnKey (.circ c r) x → (∀ y, y ∈ l → OnKey (.circ c r) y) →
    (x :: l).Pairwise (fun y z => Dw b (posK (.circ c r) y) < Dw b (posK (.circ c r) z)) →
    OnC (.circ c r) (arcsOf c (x :: l)) ∧ (∀ y, y ∈ arcsOf c (x :: l) → Plain y) ∧
    ∀ t, Rng t → (setL (.circ c r) (arcsOf c (x :: l)) t ↔ l ≠ [] ∧ Dw b (posK (.circ c r) x) ≤ Dw b t ∧ Dw b t ≤ Dw b (posK (.circ c r) ((x :: l).getLast (List.cons_ne_nil _ _)))) := by
  intro l
  induction l with
  | nil =>
    intro x _ _ _
    refine ⟨fun y hy => (by cases hy), fun y hy => (by cases hy), fun t _ => ⟨fun ⟨y, hy, _⟩ => (by cases hy), fun h => (h.1 rfl).elim⟩⟩
  | cons z l ih =>
    intro x hx hl hp
    have hz := hl z List.mem_cons_self
    obtain ⟨hp1, hp2⟩ := List.pairwise_cons.mp hp
    have hxz := hp1 z List.mem_cons_self
    obtain ⟨i1, i2, i3⟩ := ih z hz (fun y hy => hl y (List.mem_cons_of_mem _ hy)) hp2
    have hk : KeyOk (.circ c r) := hr
    have rx := posK_rng hk hx
    have rz := posK_rng hk hz
    have hne : x ≠ z := by
      rintro rfl
      grind
    have hfx : far c x = r := hx
    have hfz : far c z = r := hz
    have ok : PcOk (.arc c x z) := ⟨by rw [hfx]; exact hr, by rw [hfx, hfz], hne⟩
    have ek : keyOf (.arc c x z) = some (.circ c r) := by
      show some (Key.circ c (far c x)) = _
      rw [hfx]
    have one : ∀ t, Rng t → (inP (.circ c r) (.arc c x z) t ↔ Dw b (posK (.circ c r) x) ≤ Dw b t ∧ Dw b t ≤ Dw b (posK (.circ c r) z)) := by
      intro t ht
      show Dw (posK (.circ c r) x) t ≤ Dw (posK (.circ c r) x) (posK (.circ c r) z) ↔ _
      have d1 := Dw_add hb rx ht
      have d2 := Dw_add hb rx rz
      have d3 := Dw_nn hb rx
      have d4 := Dw_nn hb rz
      have d5 := Dw_nn hb ht
      have d6 := Dw_nn rx ht
      have d7 := Dw_nn rx rz
      grind
    refine ⟨fun y hy => ?_, fun y hy => ?_, fun t ht => ?_⟩
    · rcases List.mem_cons.mp hy with rfl | hy
      · exact ⟨ok, ek⟩
      · exact i1 y hy
    · rcases List.mem_cons.mp hy with rfl | hy
      · trivial
      · exact i2 y hy
    · have e : setL (.circ c r) (arcsOf c (x :: z :: l)) t ↔ inP (.circ c r) (.arc c x z) t ∨ setL (.circ c r) (arcsOf c (z :: l)) t := by
        constructor
        · rintro ⟨y, hy, hi⟩
          rcases List.mem_cons.mp hy with rfl | hy
          · exact .inl hi
          · exact .inr ⟨y, hy, hi⟩
        · rintro (hi | ⟨y, hy, hi⟩)
          · exact ⟨_, List.mem_cons_self, hi⟩
          · exact ⟨y, List.mem_cons_of_mem _ hy, hi⟩
      rw [e, one t ht, i3 t ht]
      have el : (x :: z :: l).getLast (List.cons_ne_nil _ _) = (z :: l).getLast (List.cons_ne_nil _ _) := List.getLast_cons _
      rw [el]
      cases l with
      | nil =>
        simp
      | cons w l =>
        have hlast : Dw b (posK (.circ c r) z) ≤ Dw b (posK (.circ c r) ((z :: w :: l).getLast (List.cons_ne_nil _ _))) := by
          have hm : (z :: w :: l).getLast (List.cons_ne_nil _ _) ∈ w :: l := by
            rw [List.getLast_cons (List.cons_ne_nil _ _)]
            exact List.getLast_mem _
          have := (List.pairwise_cons.mp hp2).1 _ hm
          grind
        simp only [ne_eq, reduceCtorEq, not_false_eq_true, true_and]
        grind
theorem parts_arc {c p q : Pt} (h : PcOk (.arc c p q)) {mid : List Pt} (hm : ∀ y, y ∈ mid → far c y = far c p)
    (hs : (p :: mid ++ [q]).Pairwise (fun y z => Dw (posK (.circ c (far c p)) p) (posK (.circ c (far c p)) y) < Dw (posK (.circ c (far c p)) p) (posK (.circ c (far c p)) z))) :
    PartsOf (.arc c p q) (arcsOf c (p :: mid ++ [q])) := by
  obtain ⟨h1, h2, h3⟩ := h
  have hk : KeyOk (.circ c (far c p)) := h1
  have rp := posK_rng hk (p := p) rfl
  obtain ⟨o, pl, st⟩ := arcs_set h1 rp (mid ++ [q]) p rfl (fun y hy => by
    rcases List.mem_append.mp hy with hy | hy
    · exact hm y hy
    · rw [List.mem_singleton.mp hy]
      exact h2) hs
  refine ⟨fun y hy => (o y hy).1, fun y hy => (o y hy).2, fun k hk => ?_, fun p' e => (by cases e)⟩
  cases hk
  refine ⟨pl, fun t ht => ?_⟩
  rw [show p :: mid ++ [q] = p :: (mid ++ [q]) from rfl, st t ht]
  have el : (p :: (mid ++ [q])).getLast (List.cons_ne_nil _ _) = q := by
    rw [List.getLast_cons (by simp)]
    exact List.getLast_concat
  rw [el, Dw_self]
  have := (Dw_nn rp ht).1
  constructor
  · rintro ⟨_, _, h⟩
    exact h
  · intro h
    exact ⟨by simp, this, h⟩
/-- an arc cut at a point of it -/
theorem parts_at {c p q m : Pt} (h : PcOk (.arc c p q)) (ho : on (.arc c p q) m = true) (hp : m ≠ p) (hq : m ≠ q) : PartsOf (.arc c p q) (arcsOf c [p, m, q]) := by
  obtain ⟨h1, h2, h3⟩ := h
  have hk : KeyOk (.circ c (far c p)) := h1
  have h' : PcOk (.arc c p q) := ⟨h1, h2, h3⟩
  obtain ⟨g1, g2⟩ := (on_iff h' rfl m).mp ho
  have g2 : Dw (posK (.circ c (far c p)) p) (posK (.circ c (far c p)) m) ≤ Dw (posK (.circ c (far c p)) p) (posK (.circ c (far c p)) q) := g2
  have rp := posK_rng hk (p := p) rfl
  have rm := posK_rng hk g1
  have rq := posK_rng hk (p := q) h2
  have n1 : posK (.circ c (far c p)) p ≠ posK (.circ c (far c p)) m := fun z => hp (posK_inj hk rfl g1 z).symm
  have n2 : Dw (posK (.circ c (far c p)) p) (posK (.circ c (far c p)) m) ≠ Dw (posK (.circ c (far c p)) p) (posK (.circ c (far c p)) q) := fun z => hq (posK_inj hk g1 h2 (Dw_inj rp rm rq z))
  have z1 := Dw_zero rp rm
  have z2 := Dw_nn rp rm
  have z3 := Dw_self (posK (.circ c (far c p)) p)
  refine parts_arc (mid := [m]) ⟨h1, h2, h3⟩ (fun y hy => by rw [List.mem_singleton.mp hy]; exact g1) ?_
  have y1 : Dw (posK (.circ c (far c p)) p) (posK (.circ c (far c p)) p) < Dw (posK (.circ c (far c p)) p) (posK (.circ c (far c p)) m) := by grind
  have y2 : Dw (posK (.circ c (far c p)) p) (posK (.circ c (far c p)) m) < Dw (posK (.circ c (far c p)) p) (posK (.circ c (far c p)) q) := by grind
  have y3 : Dw (posK (.circ c (far c p)) p) (posK (.circ c (far c p)) p) < Dw (posK (.circ c (far c p)) p) (posK (.circ c (far c p)) q) := by grind
  show List.Pairwise _ [p, m, q]
  refine List.pairwise_cons.mpr ⟨fun y hy => ?_, List.pairwise_cons.mpr ⟨fun y hy => ?_, List.pairwise_singleton _ _⟩⟩
  · rcases List.mem_cons.mp hy with rfl | hy
    · exact y1
    · rw [List.mem_singleton.mp hy]
      exact y3
  · rw [List.mem_singleton.mp hy]
    exact y2
/-- an arc cut at its quarters -/
theorem parts_quarters {c p q : Pt} (h : PcOk (.arc c p q)) : PartsOf (.arc c p q) (arcsOf c (quartersOf (.arc c p q))) := by
  obtain ⟨h1, h2, h3⟩ := h
  have hk : KeyOk (.circ c (far c p)) := h1
  have rp := posK_rng hk (p := p) rfl
  have rq := posK_rng hk (p := q) h2
  have dt := Dw_turns h1
  have tn := fun x hx => far_turns (c := c) (p := p) (x := x) hx
  have incT : (turns c p).Pairwise (fun y z => Dw (posK (.circ c (far c p)) p) (posK (.circ c (far c p)) y) < Dw (posK (.circ c (far c p)) p) (posK (.circ c (far c p)) z)) := by
    have : ((turns c p).map (fun x => Dw (posK (.circ c (far c p)) p) (posK (.circ c (far c p)) x))).Pairwise (· < ·) := by
      rw [dt]
      decide +kernel
    rw [List.pairwise_map] at this
    exact this
  have posT : ∀ x, x ∈ turns c p → 0 < Dw (posK (.circ c (far c p)) p) (posK (.circ c (far c p)) x) := by
    intro x hx
    have : Dw (posK (.circ c (far c p)) p) (posK (.circ c (far c p)) x) ∈ (turns c p).map (fun x => Dw (posK (.circ c (far c p)) p) (posK (.circ c (far c p)) x)) := List.mem_map.mpr ⟨x, hx, rfl⟩
    rw [dt] at this
    simp at this
    grind
  have hpq : 0 < Dw (posK (.circ c (far c p)) p) (posK (.circ c (far c p)) q) := by
    have n1 : posK (.circ c (far c p)) p ≠ posK (.circ c (far c p)) q := fun z => h3 (posK_inj hk rfl h2 z)
    have z1 := Dw_zero rp rq
    have z2 := Dw_nn rp rq
    grind
  have z3 := Dw_self (posK (.circ c (far c p)) p)
  refine parts_arc (mid := (turns c p).filter fun x => ahead c p x q) ⟨h1, h2, h3⟩ (fun y hy => tn y (List.mem_filter.mp hy).1) ?_
  rw [List.cons_append, List.pairwise_cons, List.pairwise_append]
  refine ⟨fun y hy => ?_, List.Pairwise.filter _ incT, List.pairwise_singleton _ _, fun y hy z hz => ?_⟩
  · rw [z3]
    rcases List.mem_append.mp hy with hy | hy
    · exact posT y (List.mem_filter.mp hy).1
    · rw [List.mem_singleton.mp hy]
      exact hpq
  · rw [List.mem_singleton.mp hz]
    obtain ⟨hy1, hy2⟩ := List.mem_filter.mp hy
    exact (ahead_pos h1 rfl (tn y hy1) h2).mp hy2
theorem arcsOf_snoc (c : Pt) : ∀ (l : List Pt) (x y : Pt), arcsOf c (l ++ [x, y]) = arcsOf c (l ++ [x]) ++ [.arc c x y]
  | [], x, y => rfl
  | [z], x, y => rfl
  | z :: w :: l, x, y => by
    show Pc.arc c z w :: arcsOf c ((w :: l) ++ [x, y]) = Pc.arc c z w :: arcsOf c ((w :: l) ++ [x]) ++ [.arc c x y]
    rw [arcsOf_snoc c (w :: l) x y]
    rfl
/-- a ring cut at its quarters -/
theorem parts_ring {c p : Pt} (h : PcOk (.ring c p)) : PartsOf (.ring c p) (arcsOf c (quartersOf (.ring c p))) := by
  have h1 : far c p ≠ 0 := h
  have hk : KeyOk (.circ c (far c p)) := h1
  have rp := posK_rng hk (p := p) rfl
  have dt := Dw_turns h1
  obtain ⟨t1, t2, t3, et⟩ : ∃ t1 t2 t3, turns c p = [t1, t2, t3] := ⟨_, _, _, rfl⟩
  have f1 : far c t1 = far c p := far_turns (by rw [et]; simp)
  have f2 : far c t2 = far c p := far_turns (by rw [et]; simp)
  have f3 : far c t3 = far c p := far_turns (by rw [et]; simp)
  rw [et] at dt
  simp only [List.map_cons, List.map_nil, List.cons.injEq, and_true] at dt
  obtain ⟨d1, d2, d3⟩ := dt
  have r3 := posK_rng hk (p := t3) f3
  have z3 := Dw_self (posK (.circ c (far c p)) p)
  have eq : arcsOf c (quartersOf (.ring c p)) = arcsOf c (p :: [t1, t2, t3]) ++ [.arc c t3 p] := by
    show arcsOf c (p :: turns c p ++ [p]) = _
    rw [et]
    rfl
  obtain ⟨o, pl, st⟩ := arcs_set h1 rp [t1, t2, t3] p rfl (fun y hy => by
    simp at hy
    rcases hy with rfl | rfl | rfl
    · exact f1
    · exact f2
    · exact f3) (by
    have : ([p, t1, t2, t3].map (fun x => Dw (posK (.circ c (far c p)) p) (posK (.circ c (far c p)) x))).Pairwise (· < ·) := by
      simp only [List.map_cons, List.map_nil]
      rw [z3, d1, d2, d3]
      decide +kernel
    rw [List.pairwise_map] at this
    exact this)
  have hne : t3 ≠ p := by
    rintro rfl
    rw [z3] at d3
    grind
  have ok : PcOk (.arc c t3 p) := ⟨by rw [f3]; exact h1, f3.symm, hne⟩
  have ek : keyOf (.arc c t3 p) = some (.circ c (far c p)) := by
    show some (Key.circ c (far c t3)) = _
    rw [f3]
  rw [eq]
  refine ⟨fun y hy => ?_, fun y hy => ?_, fun k hk' => ?_, fun p' e => (by cases e)⟩
  · rcases List.mem_append.mp hy with hy | hy
    · exact (o y hy).1
    · rw [List.mem_singleton.mp hy]
      exact ok
  · rcases List.mem_append.mp hy with hy | hy
    · exact (o y hy).2
    · rw [List.mem_singleton.mp hy]
      exact ek
  · cases hk'
    refine ⟨fun y hy => ?_, fun t ht => ⟨fun _ => trivial, fun _ => ?_⟩⟩
    · rcases List.mem_append.mp hy with hy | hy
      · exact pl y hy
      · rw [List.mem_singleton.mp hy]
        trivial
    · by_cases hd : Dw (posK (.circ c (far c p)) p) t ≤ 3
      · obtain ⟨y, hy, hi⟩ := (st t ht).mpr ⟨by simp, by rw [z3]; exact (Dw_nn rp ht).1, by
          show _ ≤ Dw _ (posK (.circ c (far c p)) t3)
          rw [d3]
          exact hd⟩
        exact ⟨y, List.mem_append_left _ hy, hi⟩
      · refine ⟨_, List.mem_append_right _ (List.mem_singleton.mpr rfl), ?_⟩
        show Dw (posK (.circ c (far c p)) t3) t ≤ Dw (posK (.circ c (far c p)) t3) (posK (.circ c (far c p)) p)
        have e1 := Dw_add rp r3 ht
        have e2 := Dw_back rp r3 (fun z => hne (posK_inj hk f3 rfl z.symm))
        have e3 := Dw_nn rp ht
        have e4 := Dw_nn r3 ht
        grind
theorem parts_dot (p : Pt) : PartsOf (.dot p) [.dot p, .dot p] := by
  refine ⟨fun y hy => ?_, fun y hy => ?_, fun k hk => (by cases hk), fun p' e y => ?_⟩
  · simp at hy
    rw [hy]
    trivial
  · simp at hy
    rw [hy]
  · cases e
    simp
/-- a stretch cut at a point -/
theorem parts_cut {p q m : Pt} (h : PcOk (.st p q)) : PartsOf (.st p q) (cutOf (.st p q) m) := by
  have whole : PartsOf (.st p q) [.st p q] := by
    refine ⟨fun y hy => ?_, fun y hy => ?_, fun k hk => ⟨fun y hy => ?_, fun t _ => ?_⟩, fun p' e => (by cases e)⟩
    · rw [List.mem_singleton.mp hy]
      exact h
    · rw [List.mem_singleton.mp hy]
    · rw [List.mem_singleton.mp hy]
      trivial
    · constructor
      · rintro ⟨y, hy, hi⟩
        rw [List.mem_singleton.mp hy] at hi
        exact hi
      · intro hi
        exact ⟨_, List.mem_singleton.mpr rfl, hi⟩
  show PartsOf (.st p q) (if (!liesOn (.st p q) m || (decide (m = p) || decide (m = q))) = true then [.st p q] else [.st p m, .st m q])
  by_cases hc : (!liesOn (.st p q) m || (decide (m = p) || decide (m = q))) = true
  · rw [if_pos hc]
    exact whole
  · rw [if_neg hc]
    rw [Bool.or_eq_true, Bool.or_eq_true, decide_eq_true_iff, decide_eq_true_iff, Bool.not_eq_true'] at hc
    have hon : on (.st p q) m = true := by
      show liesOn (.st p q) m = true
      cases hl : liesOn (.st p q) m with
      | true => rfl
      | false => exact (hc (.inl hl)).elim
    have hmp : m ≠ p := fun e => hc (.inr (.inl e))
    have hmq : m ≠ q := fun e => hc (.inr (.inr e))
    obtain ⟨A, B, D, eK⟩ : ∃ A B D, keyOf (.st p q) = some (.line A B D) := ⟨_, _, _, rfl⟩
    have hk := keyOk_of h eK
    have he := ends_on h eK
    have hlt := st_lt h eK
    obtain ⟨g1, _⟩ := (on_iff h eK m).mp hon
    have hin := st_in (p := p) (q := q) h eK hon
    have n1 : posK (.line A B D) p ≠ posK (.line A B D) m := fun z => hmp (posK_inj hk he.1 g1 z).symm
    have n2 : posK (.line A B D) m ≠ posK (.line A B D) q := fun z => hmq (posK_inj hk g1 he.2 z)
    have b1 : before p m = true := (before_pos hk he.1 g1).mpr (by grind)
    have b2 : before m q = true := (before_pos hk g1 he.2).mpr (by grind)
    have key2 : ∀ u v : Pt, OnKey (.line A B D) u → OnKey (.line A B D) v → before u v = true → keyOf (.st u v) = some (.line A B D) := by
      intro u v hu hv huv
      have e : lineT p q = (A, B, D) := by
        have := Key.line.inj (Option.some.inj eK)
        exact Prod.ext this.1 (Prod.ext this.2.1 this.2.2)
      have := lineT_of_on (before_ne h) (before_ne huv) (by rw [e]; exact hu) (by rw [e]; exact hv)
      show some _ = some _
      rw [this, e]
    have k1 := key2 p m he.1 g1 b1
    have k2 := key2 m q g1 he.2 b2
    refine ⟨fun y hy => ?_, fun y hy => ?_, fun k hk' => ⟨fun y hy => ?_, fun t ht => ?_⟩, fun p' e => (by cases e)⟩
    · simp at hy
      rcases hy with rfl | rfl
      · exact b1
      · exact b2
    · simp at hy
      rcases hy with rfl | rfl
      · rw [k1, eK]
      · rw [k2, eK]
    · simp at hy
      rcases hy with rfl | rfl <;> trivial
    · rw [eK] at hk'
      cases hk'
      have aux : ∀ u v : Pt, posK (.line A B D) u < posK (.line A B D) v → (inP (.line A B D) (.st u v) t ↔ posK (.line A B D) u ≤ t ∧ t ≤ posK (.line A B D) v) := by
        intro u v huv
        show Dw (posK (.line A B D) u) t ≤ Dw (posK (.line A B D) u) (posK (.line A B D) v) ↔ _
        have l1 := line_pos (A := A) (B := B) (D := D) (p := u)
        have l2 := line_pos (A := A) (B := B) (D := D) (p := v)
        unfold Rng at ht
        unfold Dw
        grind
      have a1 := aux p m (by grind)
      have a2 := aux m q (by grind)
      have a3 := aux p q hlt.1
      rw [a3]
      constructor
      · rintro ⟨y, hy, hi⟩
        simp at hy
        rcases hy with rfl | rfl
        · rw [a1] at hi
          grind
        · rw [a2] at hi
          grind
      · intro hi
        by_cases c1 : t ≤ posK (.line A B D) m
        · exact ⟨.st p m, by simp, a1.mpr ⟨hi.1, c1⟩⟩
        · exact ⟨.st m q, by simp, a2.mpr ⟨by grind, hi.2⟩⟩
end AM
set_option Elab.async false
set_option linter.all false
/-! encodings, bounds -/
namespace AM
open PySem
def fD (q : Rat) : PyData := .tuple [.int q.num, .int (q.den : Int)]
def pD (p : Pt) : PyData := .tuple [fD p.1, fD p.2]
def xD : Pc → PyData
  | .dot p => .tuple [.str "dot", pD p]
  | .st p q => .tuple [.str "stretch", pD p, pD q]
  | .arc c p q => .tuple [.str "arc", pD c, pD p, pD q]
  | .ring c p => .tuple [.str "ring", pD c, pD p]
def kD : Key → PyData
  | .line a b d => .tuple [.str "line", .int a, .int b, .int d]
  | .circ c r => .tuple [.str "circle", pD c, fD r]
def bD : Pc ⊕ (Pt × Rat) → PyData
  | .inl x => xD x
  | .inr (c, r) => .tuple [.str "ring", pD c, fD r]
def lbD : Pc ⊕ (Pt × Rat) → PyData
  | .inl x => xD x
  | .inr (c, r) => .tuple [.str "ring", kD (.circ c r)]
theorem eqv_int (i j : Int) : PyData.eqv (.int i) (.int j) = decide (i = j) := by
  by_cases h : i = j <;> simp [PyData.eqv, h]
theorem eqv_str (x y : Str) : PyData.eqv (.str x) (.str y) = decide (x = y) := by
  by_cases h : x = y <;> simp [PyData.eqv, h]
theorem dec_and {p q r : Prop} [Decidable p] [Decidable q] [Decidable r] (h : p ∧ q ↔ r) : (decide p && decide q) = decide r := by
  by_cases hp : p <;> by_cases hq : q <;> simp_all
theorem eqv_fD (p q : Rat) : PyData.eqv (fD p) (fD q) = decide (p = q) := by
  unfold fD
  simp only [PyData.eqv, PyData.eqvAll, Bool.and_true]
  have : (p.num = q.num ∧ (p.den : Int) = q.den) ↔ p = q := by
    constructor
    · rintro ⟨h1, h2⟩
      exact Rat.ext h1 (by omega)
    · rintro rfl; exact ⟨rfl, rfl⟩
  by_cases h : p = q
  · subst h; simp
  · have := mt this.mp h
    simp only [h, decide_false]
    by_cases h1 : p.num = q.num
    · have h2 : ¬ (p.den : Int) = q.den := fun z => this ⟨h1, z⟩
      simp [h1, h2]
    · simp [h1]
theorem eqv_pD (p q : Pt) : PyData.eqv (pD p) (pD q) = decide (p = q) := by
  unfold pD
  rw [show PyData.eqv (.tuple [fD p.1, fD p.2]) (.tuple [fD q.1, fD q.2]) = (PyData.eqv (fD p.1) (fD q.1) && PyData.eqv (fD p.2) (fD q.2)) by simp [PyData.eqv, PyData.eqvAll], eqv_fD, eqv_fD]
  exact dec_and (by rw [Prod.ext_iff])
theorem eqv_tup2 (a b c d : PyData) : PyData.eqv (.tuple [a, b]) (.tuple [c, d]) = (PyData.eqv a c && PyData.eqv b d) := by simp [PyData.eqv, PyData.eqvAll]
theorem eqv_tup3 (a b c d e f : PyData) : PyData.eqv (.tuple [a, b, c]) (.tuple [d, e, f]) = (PyData.eqv a d && (PyData.eqv b e && PyData.eqv c f)) := by simp [PyData.eqv, PyData.eqvAll]
theorem eqv_tup4 (a b c d e f g h : PyData) : PyData.eqv (.tuple [a, b, c, d]) (.tuple [e, f, g, h]) = (PyData.eqv a e && (PyData.eqv b f && (PyData.eqv c g && PyData.eqv d h))) := by simp [PyData.eqv, PyData.eqvAll]
theorem eqv_xD (x y : Pc) : PyData.eqv (xD x) (xD y) = decide (x = y) := by
  cases x <;> cases y <;> simp only [xD, eqv_tup2, eqv_tup3, eqv_tup4, eqv_str, eqv_pD]
  case dot.dot p q => simp
  case st.st p q p' q' => simp
  case arc.arc c p q c' p' q' => simp
  case ring.ring c p c' p' => simp
  case ring.st c p q q' =>
    have hs : ("ring" : Str) ≠ "stretch" := by decide
    simp [hs]
  case st.ring c p q q' =>
    have hs : ("stretch" : Str) ≠ "ring" := by decide
    simp [hs]
  all_goals simp [PyData.eqv, PyData.eqvAll]
theorem eqv_kD (x y : Key) : PyData.eqv (kD x) (kD y) = decide (x = y) := by
  cases x <;> cases y <;> simp only [kD, eqv_tup3, eqv_tup4, eqv_str, eqv_pD, eqv_fD, eqv_int]
  case line.line => simp
  case circ.circ => simp
  all_goals simp [PyData.eqv, PyData.eqvAll]
theorem eqv_all {α : Type} [DecidableEq α] {e : α → PyData} (h : ∀ x y, PyData.eqv (e x) (e y) = decide (x = y)) : ∀ l m : List α, PyData.eqvAll (l.map e) (m.map e) = decide (l = m)
  | [], [] => by simp [PyData.eqvAll]
  | [], y :: m => by simp [PyData.eqvAll]
  | x :: l, [] => by simp [PyData.eqvAll]
  | x :: l, y :: m => by
    rw [List.map_cons, List.map_cons]
    show (PyData.eqv (e x) (e y) && PyData.eqvAll (l.map e) (m.map e)) = _
    rw [h, eqv_all h l m]
    exact dec_and (by simp)
theorem eqv_list {α : Type} [DecidableEq α] {e : α → PyData} (h : ∀ x y, PyData.eqv (e x) (e y) = decide (x = y)) (l m : List α) : PyData.eqv (.list (l.map e)) (.list (m.map e)) = decide (l = m) := by
  show PyData.eqvAll (l.map e) (m.map e) = _
  exact eqv_all h l m
/-- depth at most n, layable -/
def Shp (n : Nat) (d : PyData) : Prop := d.canLay0 = true ∧ d.depth ≤ n
theorem Shp.ok {n : Nat} {d : PyData} (h : Shp n d) (hn : n ≤ 64 := by decide) : SeqAt.shaped d = true := by
  unfold SeqAt.shaped
  rw [h.1]
  simp
  exact Nat.le_trans h.2 hn
theorem shp_fD (q : Rat) : Shp 1 (fD q) := ⟨rfl, by show max 0 (max 0 0) + 1 ≤ 1; decide⟩
theorem shp_all {n : Nat} : ∀ {ds : List PyData}, (∀ d ∈ ds, Shp n d) → PyData.canLayAll0 ds = true ∧ PyData.depthAll ds ≤ n
  | [], _ => ⟨rfl, Nat.zero_le _⟩
  | d :: ds, h => by
    obtain ⟨a, b⟩ := h d (by simp)
    obtain ⟨c, e⟩ := shp_all (ds := ds) fun x hx => h x (by simp [hx])
    exact ⟨by show (d.canLay0 && PyData.canLayAll0 ds) = true; rw [a, c]; rfl, Nat.max_le.mpr ⟨b, e⟩⟩
theorem shp_tup {n : Nat} {ds : List PyData} (h : ∀ d ∈ ds, Shp n d) : Shp (n + 1) (.tuple ds) := by
  obtain ⟨a, b⟩ := shp_all h
  exact ⟨a, Nat.succ_le_succ b⟩
theorem shp_list {n : Nat} {ds : List PyData} (h : ∀ d ∈ ds, Shp n d) : Shp (n + 1) (.list ds) := by
  obtain ⟨a, b⟩ := shp_all h
  exact ⟨a, Nat.succ_le_succ b⟩
theorem Shp.le {n m : Nat} {d : PyData} (h : Shp n d) (hn : n ≤ m) : Shp m d := ⟨h.1, Nat.le_trans h.2 hn⟩
theorem shp_pD (p : Pt) : Shp 2 (pD p) := shp_tup fun d hd => by
  simp only [List.mem_cons, List.mem_nil_iff, or_false] at hd
  rcases hd with rfl | rfl <;> exact shp_fD _
theorem shp_int (n : Nat) (i : Int) : Shp n (.int i) := ⟨rfl, Nat.zero_le _⟩
theorem shp_s1 : Shp 0 (.str "dot") := ⟨by decide +kernel, Nat.zero_le _⟩
theorem shp_s2 : Shp 0 (.str "stretch") := ⟨by decide +kernel, Nat.zero_le _⟩
theorem shp_s3 : Shp 0 (.str "arc") := ⟨by decide +kernel, Nat.zero_le _⟩
theorem shp_s4 : Shp 0 (.str "ring") := ⟨by decide +kernel, Nat.zero_le _⟩
theorem shp_s5 : Shp 0 (.str "line") := ⟨by decide +kernel, Nat.zero_le _⟩
theorem shp_s6 : Shp 0 (.str "circle") := ⟨by decide +kernel, Nat.zero_le _⟩
theorem shp_non : Shp 0 .none := ⟨rfl, Nat.zero_le _⟩
theorem shp_xD (x : Pc) : Shp 3 (xD x) := by
  cases x <;> refine shp_tup fun d hd => ?_ <;> simp only [List.mem_cons, List.mem_nil_iff, or_false] at hd
  · rcases hd with rfl | rfl
    · exact shp_s1.le (by decide)
    · exact shp_pD _
  · rcases hd with rfl | rfl | rfl
    · exact shp_s2.le (by decide)
    · exact shp_pD _
    · exact shp_pD _
  · rcases hd with rfl | rfl | rfl | rfl
    · exact shp_s3.le (by decide)
    · exact shp_pD _
    · exact shp_pD _
    · exact shp_pD _
  · rcases hd with rfl | rfl | rfl
    · exact shp_s4.le (by decide)
    · exact shp_pD _
    · exact shp_pD _
theorem shp_kD (x : Key) : Shp 3 (kD x) := by
  cases x <;> refine shp_tup fun d hd => ?_ <;> simp only [List.mem_cons, List.mem_nil_iff, or_false] at hd
  · rcases hd with rfl | rfl | rfl | rfl
    · exact shp_s5.le (by decide)
    · exact shp_int _ _
    · exact shp_int _ _
    · exact shp_int _ _
  · rcases hd with rfl | rfl | rfl
    · exact shp_s6.le (by decide)
    · exact shp_pD _
    · exact (shp_fD _).le (by decide)
/-! ### bounds -/
def Bd (n : Nat) (q : Rat) : Prop := q.num.natAbs < 2 ^ n ∧ q.den < 2 ^ n
theorem Bd.le {n m : Nat} {q : Rat} (h : Bd n q) (hn : n ≤ m) : Bd m q :=
  ⟨Nat.lt_of_lt_of_le h.1 (Nat.pow_le_pow_right (by decide) hn), Nat.lt_of_lt_of_le h.2 (Nat.pow_le_pow_right (by decide) hn)⟩
theorem bd_div {n : Nat} {t b : Int} (hb : b ≠ 0) (h1 : t.natAbs < 2 ^ n) (h2 : b.natAbs < 2 ^ n) : Bd n (Rat.divInt t b) := by
  constructor
  · rw [Rat.num_divInt]
    refine Nat.lt_of_le_of_lt ?_ h1
    rw [Int.natAbs_ediv_of_dvd]
    · rw [Int.natAbs_mul, Int.natAbs_sign_of_ne_zero hb, Nat.one_mul]
      exact Nat.div_le_self _ _
    · exact Int.dvd_trans (Int.gcd_dvd_right ..) ⟨b.sign, Int.mul_comm _ _⟩
  · rw [Rat.den_divInt, if_neg hb]
    exact Nat.lt_of_le_of_lt (Nat.div_le_self _ _) h2
theorem nat_mul_lt {a b n m : Nat} (h1 : a < 2 ^ n) (h2 : b < 2 ^ m) : a * b < 2 ^ (n + m) := by
  rw [Nat.pow_add]
  exact Nat.mul_lt_mul'' h1 h2
theorem int_mul_lt {a b : Int} {n m : Nat} (h1 : a.natAbs < 2 ^ n) (h2 : b.natAbs < 2 ^ m) : (a * b).natAbs < 2 ^ (n + m) := by
  rw [Int.natAbs_mul]
  exact nat_mul_lt h1 h2
theorem int_add_lt {a b : Int} {n : Nat} (h1 : a.natAbs < 2 ^ n) (h2 : b.natAbs < 2 ^ n) : (a + b).natAbs < 2 ^ (n + 1) := by
  rw [Nat.pow_succ]
  omega
theorem int_sub_lt {a b : Int} {n : Nat} (h1 : a.natAbs < 2 ^ n) (h2 : b.natAbs < 2 ^ n) : (a - b).natAbs < 2 ^ (n + 1) := by
  rw [Nat.pow_succ]
  omega
theorem den_ne (q : Rat) : (q.den : Int) ≠ 0 := by have := q.den_nz; omega
theorem add_div (p q : Rat) : p + q = Rat.divInt (p.num * q.den + q.num * p.den) (p.den * q.den) := by
  conv => lhs; rw [← Rat.num_divInt_den p, ← Rat.num_divInt_den q]
  rw [Rat.divInt_add_divInt _ _ (den_ne p) (den_ne q)]
theorem mul_div (p q : Rat) : p * q = Rat.divInt (p.num * q.num) (p.den * q.den) := by
  conv => lhs; rw [← Rat.num_divInt_den p, ← Rat.num_divInt_den q]
  rw [Rat.divInt_mul_divInt]
theorem sub_div (p q : Rat) : p - q = Rat.divInt (p.num * q.den - q.num * p.den) (p.den * q.den) := by
  have : p - q = p + -q := by grind
  rw [this, add_div, Rat.neg_num, Rat.neg_den]
  congr 1
  grind
theorem quo_div (p q : Rat) : p / q = Rat.divInt (p.num * q.den) (p.den * q.num) := by
  rw [Rat.div_def, Rat.inv_def]
  conv => lhs; rw [← Rat.num_divInt_den p]
  rw [Rat.divInt_mul_divInt]
theorem mm_ne {a b : Int} (h1 : a ≠ 0) (h2 : b ≠ 0) : a * b ≠ 0 := Int.mul_ne_zero h1 h2
theorem dd_ne (p q : Rat) : (p.den : Int) * q.den ≠ 0 := mm_ne (den_ne p) (den_ne q)
theorem Bd.den {n : Nat} {q : Rat} (h : Bd n q) : (q.den : Int).natAbs < 2 ^ n := by have := h.2; omega
theorem Bd.add {n m : Nat} {p q : Rat} (h1 : Bd n p) (h2 : Bd m q) : Bd (n + m + 1) (p + q) := by
  rw [add_div]
  refine bd_div (dd_ne p q) (int_add_lt (int_mul_lt h1.1 h2.den) ?_) ?_
  · rw [Nat.add_comm n m]; exact int_mul_lt h2.1 h1.den
  · exact Nat.lt_of_lt_of_le (int_mul_lt h1.den h2.den) (Nat.pow_le_pow_right (by decide) (by omega))
theorem Bd.sub {n m : Nat} {p q : Rat} (h1 : Bd n p) (h2 : Bd m q) : Bd (n + m + 1) (p - q) := by
  rw [sub_div]
  refine bd_div (dd_ne p q) (int_sub_lt (int_mul_lt h1.1 h2.den) ?_) ?_
  · rw [Nat.add_comm n m]; exact int_mul_lt h2.1 h1.den
  · exact Nat.lt_of_lt_of_le (int_mul_lt h1.den h2.den) (Nat.pow_le_pow_right (by decide) (by omega))
theorem Bd.mul {n m : Nat} {p q : Rat} (h1 : Bd n p) (h2 : Bd m q) : Bd (n + m) (p * q) := by
  rw [mul_div]
  exact bd_div (dd_ne p q) (int_mul_lt h1.1 h2.1) (int_mul_lt h1.den h2.den)
theorem num_ne {q : Rat} (h : q ≠ 0) : q.num ≠ 0 := fun z => h (Rat.num_eq_zero.mp z)
theorem Bd.quo {n m : Nat} {p q : Rat} (h1 : Bd n p) (h2 : Bd m q) (hq : q ≠ 0) : Bd (n + m) (p / q) := by
  rw [quo_div]
  exact bd_div (mm_ne (den_ne p) (num_ne hq)) (int_mul_lt h1.1 h2.den) (int_mul_lt h1.den h2.1)
def BdP (n : Nat) (p : Pt) : Prop := Bd n p.1 ∧ Bd n p.2
theorem BdP.le {n m : Nat} {p : Pt} (h : BdP n p) (hn : n ≤ m) : BdP m p := ⟨h.1.le hn, h.2.le hn⟩
theorem BdP.off {n m : Nat} {p q : Pt} (h1 : BdP n p) (h2 : BdP m q) : BdP (n + m + 1) (off p q) := ⟨h1.1.sub h2.1, h1.2.sub h2.2⟩
theorem BdP.tog {n m : Nat} {p q : Pt} (h1 : BdP n p) (h2 : BdP m q) : BdP (n + m + 1) (tog p q) := ⟨h1.1.add h2.1, h1.2.add h2.2⟩
theorem BdP.along {n m : Nat} {p q : Pt} (h1 : BdP n p) (h2 : BdP m q) : Bd (n + m + (n + m) + 1) (along p q) := (h1.1.mul h2.1).add (h1.2.mul h2.2)
theorem BdP.across {n m : Nat} {p q : Pt} (h1 : BdP n p) (h2 : BdP m q) : Bd (n + m + (n + m) + 1) (across p q) := (h1.1.mul h2.2).sub (h1.2.mul h2.1)
/-- the points of a piece -/
def PcB (n : Nat) : Pc → Prop
  | .dot p => BdP n p
  | .st p q => BdP n p ∧ BdP n q
  | .arc c p q => BdP n c ∧ BdP n p ∧ BdP n q
  | .ring c p => BdP n c ∧ BdP n p
/-- quotients as the program takes them -/
theorem divInt_fdiv (t b : Int) (hb : b ≠ 0) (by_ : Int) (hby : by_ = if b < 0 then 0 - (Int.gcd t b : Int) else (Int.gcd t b : Int)) :
    PyData.tuple [.int (t.fdiv by_), .int (b.fdiv by_)] = fD (Rat.divInt t b) := by
  have hg : (Int.gcd t b : Int) ≠ 0 := by
    have := Int.gcd_ne_zero_right (a := t) hb
    omega
  have d1 : (Int.gcd t b : Int) ∣ t := Int.gcd_dvd_left ..
  have d2 : (Int.gcd t b : Int) ∣ b := Int.gcd_dvd_right ..
  obtain ⟨x, hx⟩ := d1
  obtain ⟨y, hy⟩ := d2
  generalize hG : (Int.gcd t b : Int) = g at *
  have gpos : 0 < g := by rw [← hG] at hg ⊢; omega
  unfold fD
  rw [Rat.num_divInt, Rat.den_divInt, if_neg hb]
  have hgc : ((b.gcd t : Nat) : Int) = g := by rw [← hG, Int.gcd_comm]
  have fdiv_mul : ∀ z w : Int, w ≠ 0 → (w * z).fdiv w = z := fun z w hw => by
    rw [Int.mul_comm]; exact Int.mul_fdiv_cancel _ hw
  have e3 : ((b.natAbs / b.gcd t : Nat) : Int) = (b.natAbs : Int) / g := by rw [← hgc]; omega
  rw [hgc, e3]
  by_cases hneg : b < 0
  · rw [if_pos hneg] at hby
    have e1 : t.fdiv by_ = -x := by
      rw [hby, hx, show g * x = (0 - g) * (-x) by grind]
      exact fdiv_mul _ _ (by omega)
    have e2 : b.fdiv by_ = -y := by
      rw [hby]; conv => lhs; rw [hy]
      rw [show g * y = (0 - g) * (-y) by grind]
      exact fdiv_mul _ _ (by omega)
    rw [e1, e2, Int.sign_eq_neg_one_of_neg hneg]
    have : (b.natAbs : Int) = g * (-y) := by rw [show (b.natAbs : Int) = -b by omega]; rw [hy]; grind
    rw [this, Int.mul_ediv_cancel_left _ hg, hx, show (-1 : Int) * (g * x) = g * (-x) by grind, Int.mul_ediv_cancel_left _ hg]
  · rw [if_neg hneg] at hby
    have hpos : 0 < b := by omega
    have e1 : t.fdiv by_ = x := by rw [hby, hx]; exact fdiv_mul _ _ hg
    have e2 : b.fdiv by_ = y := by rw [hby]; conv => lhs; rw [hy]
                                   exact fdiv_mul _ _ hg
    rw [e1, e2, Int.sign_eq_one_of_pos hpos]
    have : (b.natAbs : Int) = g * y := by rw [show (b.natAbs : Int) = b by omega]; exact hy
    rw [this, Int.mul_ediv_cancel_left _ hg, hx, Int.one_mul, Int.mul_ediv_cancel_left _ hg]
theorem natlog {a n : Nat} (h : a < 2 ^ (n + 1)) : a.log2 ≤ n := by
  by_cases h0 : a = 0
  · subst h0; simp
  · have := (Nat.log2_lt h0).mpr h
    omega
end AM
set_option Elab.async false
set_option linter.all false
set_option maxRecDepth 100000
set_option maxHeartbeats 1000000
/-! What a part of a def does, told by data alone: slots hold data (tuples, numbers, texts) or lists of data. -/
namespace L3
open PySem PySem.Spec PyProof.Rows L2
/-! ### data that never changes -/
mutual
inductive Dt (K : PySem.W.Frag) (H : Hp) : V → PyData → Prop
  | non : Dt K H .non .none
  | bl (b : Bool) : Dt K H (.bl b) (.bool b)
  | int (i : Int) : Dt K H (.int i) (.int i)
  | str (x : Str) : Dt K H (.str x) (.str x)
  | tup {a : Addr} {xs : List V} {ds : List PyData} : SqT K H a xs → DtAll K H xs ds → Dt K H (.ref a) (.tuple ds)
inductive DtAll (K : PySem.W.Frag) (H : Hp) : List V → List PyData → Prop
  | nil : DtAll K H [] []
  | cons {v : V} {vs : List V} {d : PyData} {ds : List PyData} : Dt K H v d → DtAll K H vs ds → DtAll K H (v :: vs) (d :: ds)
end
/-- the heap behind: tuples and locked things stay, all others but W stay, nothing is lost -/
structure Ch (W : List Addr) (H H' : Hp) : Prop where
  tup : ∀ a xs, H a = some (.tup xs) → H' a = some (.tup xs)
  frz : ∀ a o u, H a = some (.frz o u) → H' a = some (.frz o u)
  oth : ∀ a o, a ∉ W → H a = some o → H' a = some o
  one : ∀ a, H a ≠ none → H' a ≠ none
section
variable {K : PySem.W.Frag} {W : List Addr} {H H1 H2 H' : Hp}
theorem Ch.refl : Ch W H H := ⟨fun _ _ h => h, fun _ _ _ h => h, fun _ _ _ h => h, fun _ h => h⟩
theorem Ch.trans (a : Ch W H H1) (b : Ch W H1 H2) : Ch W H H2 :=
  ⟨fun p xs h => b.tup p xs (a.tup p xs h), fun p o u h => b.frz p o u (a.frz p o u h), fun p o n h => b.oth p o n (a.oth p o n h), fun p h => b.one p (a.one p h)⟩
theorem Ch.of_same (h : Same H H') : Ch W H H' := ⟨fun a xs e => h a _ e, fun a o u e => h a _ e, fun a o _ e => h a o e, fun a n => by
  cases e : H a with
  | none => exact (n e).elim
  | some o => rw [h a o e]; simp⟩
theorem Ch.same (h : Ch [] H H') : Same H H' := fun a o e => h.oth a o (by simp) e
theorem Ch.wider {W' : List Addr} (h : Ch W H H') (s : ∀ a, a ∈ W → a ∈ W') : Ch W' H H' := ⟨h.tup, h.frz, fun a o n e => h.oth a o (fun z => n (s a z)) e, h.one⟩
theorem Ch.sqT (h : Ch W H H') {a : Addr} {xs : List V} (q : SqT K H a xs) : SqT K H' a xs := by
  rcases q with (q | ⟨o, q⟩) | q
  · exact .inl (.inl (h.tup a xs q))
  · exact .inl (.inr ⟨o, h.frz a o _ q⟩)
  · exact .inr q
theorem Ch.none_back (h : Ch W H H') {p : Addr} (n : H' p = none) : H p = none := by
  cases e : H p with
  | none => rfl
  | some o => exact (h.one p (by rw [e]; simp) n).elim
mutual
theorem Dt.ch (h : Ch W H H') : ∀ (d : PyData) (v : V), Dt K H v d → Dt K H' v d
  | .none, _, q => by cases q; exact .non
  | .bool b, _, q => by cases q; exact .bl b
  | .int i, _, q => by cases q; exact .int i
  | .str x, _, q => by cases q; exact .str x
  | .tuple ds, _, q => by
    cases q with
    | tup h1 h2 => exact .tup (h.sqT h1) (DtAll.ch h ds _ h2)
  | .list ds, _, q => by cases q
  | .dict ds, _, q => by cases q
theorem DtAll.ch (h : Ch W H H') : ∀ (ds : List PyData) (vs : List V), DtAll K H vs ds → DtAll K H' vs ds
  | [], _, q => by cases q; exact .nil
  | d :: ds, _, q => by
    cases q with
    | cons h1 h2 => exact .cons (Dt.ch h d _ h1) (DtAll.ch h ds _ h2)
end
mutual
theorem Dt.dp : ∀ (d : PyData) (v : V), Dt K H v d → Dp K H v d
  | .none, _, q => by cases q; exact .non
  | .bool b, _, q => by cases q; exact .bl b
  | .int i, _, q => by cases q; exact .int i
  | .str x, _, q => by cases q; exact .str x
  | .tuple ds, _, q => by
    cases q with
    | tup h1 h2 => exact .tup h1 (DtAll.dp ds _ h2)
  | .list ds, _, q => by cases q
  | .dict ds, _, q => by cases q
theorem DtAll.dp : ∀ (ds : List PyData) (vs : List V), DtAll K H vs ds → DpAll K H vs ds
  | [], _, q => by cases q; exact .nil
  | d :: ds, _, q => by
    cases q with
    | cons h1 h2 => exact .cons (Dt.dp d _ h1) (DtAll.dp ds _ h2)
end
theorem DtAll.length : ∀ {vs : List V} {ds : List PyData}, DtAll K H vs ds → vs.length = ds.length
  | _, _, .nil => rfl
  | _, _, .cons _ h => by rw [List.length_cons, List.length_cons, DtAll.length h]
theorem DtAll.get : ∀ {vs : List V} {ds : List PyData} {i : Nat} {d : PyData}, DtAll K H vs ds → ds[i]? = some d → ∃ v, vs[i]? = some v ∧ Dt K H v d
  | _, _, _, _, .nil, e => by simp at e
  | _, _, 0, _, .cons h _, e => by simp at e; subst e; exact ⟨_, rfl, h⟩
  | _, _, i + 1, d, .cons _ t, e => by
    obtain ⟨v, h1, h2⟩ := DtAll.get (i := i) (d := d) t (by simpa using e)
    exact ⟨v, by simpa using h1, h2⟩
theorem DtAll.getV : ∀ {vs : List V} {ds : List PyData} {i : Nat} {v : V}, DtAll K H vs ds → vs[i]? = some v → ∃ d, ds[i]? = some d ∧ Dt K H v d
  | _, _, _, _, .nil, e => by simp at e
  | _, _, 0, _, .cons h _, e => by simp at e; subst e; exact ⟨_, rfl, h⟩
  | _, _, i + 1, v, .cons _ t, e => by
    obtain ⟨d, h1, h2⟩ := DtAll.getV (i := i) (v := v) t (by simpa using e)
    exact ⟨d, by simpa using h1, h2⟩
theorem DtAll.append : ∀ {vs us : List V} {ds es : List PyData}, DtAll K H vs ds → DtAll K H us es → DtAll K H (vs ++ us) (ds ++ es)
  | _, _, _, _, .nil, h => h
  | _, _, _, _, .cons a b, h => .cons a (DtAll.append b h)
theorem DtAll.drop : ∀ {vs : List V} {ds : List PyData} (n : Nat), DtAll K H vs ds → DtAll K H (vs.drop n) (ds.drop n)
  | _, _, 0, h => h
  | _, _, _ + 1, .nil => .nil
  | _, _, n + 1, .cons _ t => DtAll.drop n t
theorem DtAll.take : ∀ {vs : List V} {ds : List PyData} (n : Nat), DtAll K H vs ds → DtAll K H (vs.take n) (ds.take n)
  | _, _, 0, _ => .nil
  | _, _, _ + 1, .nil => .nil
  | _, _, n + 1, .cons h t => .cons h (DtAll.take n t)
theorem DtAll.set : ∀ {vs : List V} {ds : List PyData} (i : Nat) {v : V} {d : PyData}, DtAll K H vs ds → Dt K H v d → DtAll K H (vs.set i v) (ds.set i d)
  | _, _, _, _, _, .nil, _ => .nil
  | _, _, 0, _, _, .cons _ t, h => .cons h t
  | _, _, i + 1, _, _, .cons a t, h => .cons a (DtAll.set i t h)
theorem DtAll.erase : ∀ {vs : List V} {ds : List PyData} (i : Nat), DtAll K H vs ds → DtAll K H (vs.eraseIdx i) (ds.eraseIdx i)
  | _, _, _, .nil => .nil
  | _, _, 0, .cons _ t => t
  | _, _, i + 1, .cons a t => .cons a (DtAll.erase i t)
theorem DtAll.at_ {vs : List V} {ds : List PyData} {i : Int} {d : PyData} (h : DtAll K H vs ds) (e : atI ds i = some d) : ∃ v, atI vs i = some v ∧ Dt K H v d := by
  unfold atI at *
  rw [h.length]
  cases q : ixN ds.length i with
  | none => rw [q] at e; cases e
  | some j =>
    rw [q] at e
    obtain ⟨v, h1, h2⟩ := h.get (show ds[j]? = some d from e)
    exact ⟨v, h1, h2⟩
end
/-! ### what a slot, a result holds -/
inductive Ent where
  /-- data -/
  | d (x : PyData)
  /-- a list of data at a; one that never changes -/
  | w (a : Addr) (ds : List PyData) | k (a : Addr) (ds : List PyData)
  /-- some list of data -/
  | r (ds : List PyData)
  /-- a new list of data -/
  | n (ds : List PyData)
/-- a list that is locked, or the module's own -/
def Locked (K : PySem.W.Frag) (H : Hp) (a : Addr) (xs : List V) : Prop := SqL K H a xs ∧ ∀ H', (∀ o u, H a = some (.frz o u) → H' a = some (.frz o u)) → SqL K H' a xs
theorem Locked.ch {K : PySem.W.Frag} {W : List Addr} {H H' : Hp} {a : Addr} {xs : List V} (h : Locked K H a xs) (c : Ch W H H') : Locked K H' a xs :=
  ⟨h.2 H' fun o u e => c.frz a o u e, fun H2 f => h.2 H2 fun o u e => f o u (c.frz a o u e)⟩
def EntOk (K : PySem.W.Frag) (H : Hp) (v : V) : Ent → Prop
  | .d x => Dt K H v x
  | .w a ds => v = .ref a ∧ ∃ xs, H a = some (.lst xs) ∧ DtAll K H xs ds
  | .k a ds => v = .ref a ∧ ∃ xs, Locked K H a xs ∧ DtAll K H xs ds
  | .r ds => ∃ a xs, v = .ref a ∧ H a = some (.lst xs) ∧ DtAll K H xs ds
  | .n ds => ∃ a xs, v = .ref a ∧ H a = some (.lst xs) ∧ DtAll K H xs ds
/-- a result: a new list was not there -/
def ResOk (K : PySem.W.Frag) (H H2 : Hp) (v : V) : Ent → Prop
  | .n ds => ∃ a xs, v = .ref a ∧ H a = none ∧ H2 a = some (.lst xs) ∧ DtAll K H2 xs ds
  | e => EntOk K H2 v e
theorem ResOk.ent {K : PySem.W.Frag} {H H2 : Hp} {v : V} {e : Ent} (h : ResOk K H H2 v e) : EntOk K H2 v e := by
  cases e with
  | n ds =>
    obtain ⟨a, xs, h1, _, h3, h4⟩ := h
    exact ⟨a, xs, h1, h3, h4⟩
  | _ => exact h
abbrev Gam := List (Option Ent)
structure Slots (K : PySem.W.Frag) (W : List Addr) (Γ : Gam) (σ : L2.St) (H : Hp) : Prop where
  len : σ.length = Γ.length
  at_ : ∀ (i : Nat) (e : Ent), Γ[i]? = some (some e) → ∃ v, σ[i]? = some (some v) ∧ EntOk K H v e
  there : ∀ a, a ∈ W → H a ≠ none
/-- the heap has only grown -/
theorem EntOk.same {K : PySem.W.Frag} {H H' : Hp} {v : V} {e : Ent} (s : Same H H') (h : EntOk K H v e) : EntOk K H' v e := by
  have c : Ch [] H H' := Ch.of_same s
  cases e with
  | d x => exact Dt.ch c x v h
  | w a ds =>
    obtain ⟨h1, xs, h2, h3⟩ := h
    exact ⟨h1, xs, s a _ h2, DtAll.ch c _ _ h3⟩
  | k a ds =>
    obtain ⟨h1, xs, h2, h3⟩ := h
    exact ⟨h1, xs, h2.ch c, DtAll.ch c _ _ h3⟩
  | r ds =>
    obtain ⟨a, xs, h1, h2, h3⟩ := h
    exact ⟨a, xs, h1, s a _ h2, DtAll.ch c _ _ h3⟩
  | n ds =>
    obtain ⟨a, xs, h1, h2, h3⟩ := h
    exact ⟨a, xs, h1, s a _ h2, DtAll.ch c _ _ h3⟩
theorem Slots.same {K : PySem.W.Frag} {W : List Addr} {Γ : Gam} {σ : L2.St} {H H' : Hp} (s : Same H H') (h : Slots K W Γ σ H) : Slots K W Γ σ H' :=
  ⟨h.len, fun i e q => by
    obtain ⟨v, h1, h2⟩ := h.at_ i e q
    exact ⟨v, h1, h2.same s⟩, fun a ha => (Ch.of_same (W := []) s).one a (h.there a ha)⟩
/-- a result that stays what it is while W changes -/
def Ent.stays : Ent → Bool
  | .d _ => true
  | .k _ _ => true
  | .n _ => true
  | _ => false
theorem ResOk.later {K : PySem.W.Frag} {W : List Addr} {Γ : Gam} {σ : L2.St} {H H1 H2 : Hp} {v : V} {e : Ent} (st : e.stays = true) (s : Slots K W Γ σ H) (h : ResOk K H H1 v e) (c : Ch W H1 H2) : ResOk K H H2 v e := by
  cases e with
  | d x => exact Dt.ch c x v h
  | k a ds =>
    obtain ⟨h1, xs, h2, h3⟩ := h
    exact ⟨h1, xs, h2.ch c, DtAll.ch c _ _ h3⟩
  | n ds =>
    obtain ⟨a, xs, h1, h2, h3, h4⟩ := h
    refine ⟨a, xs, h1, h2, c.oth a _ (fun z => s.there a z h2) h3, DtAll.ch c _ _ h4⟩
  | _ => cases st
theorem ResOk.back {K : PySem.W.Frag} {W : List Addr} {H0 H H2 : Hp} {v : V} {e : Ent} (c : Ch W H0 H) (h : ResOk K H H2 v e) : ResOk K H0 H2 v e := by
  cases e with
  | n ds =>
    obtain ⟨a, xs, h1, h2, h3, h4⟩ := h
    exact ⟨a, xs, h1, c.none_back h2, h3, h4⟩
  | _ => exact h

/-! ### expressions -/
abbrev Po := Gam → Ent → Prop
def tE (K : PySem.W.Frag) (W : List Addr) (Γ : Gam) (P : Po) : TE := fun σ H Q => Slots K W Γ σ H ∧ ∀ v H2 Γ2 r, Ch W H H2 → Slots K W Γ2 σ H2 → ResOk K H H2 v r → P Γ2 r → Q v H2
/-- e, with the slots Γ, comes to slots and a result of which P holds -/
def XE (X : Cx) (W : List Addr) (e : Expr) (Γ : Gam) (P : Po) : Prop := PE X e (tE X.K W Γ P)
def anyE (X : Cx) (W : List Addr) (e : Expr) : TE := fun σ H Q => ∃ Γ P, XE X W e Γ P ∧ tE X.K W Γ P σ H Q
theorem pe_any {X : Cx} {W : List Addr} {e : Expr} : PE X e (anyE X W e) := ⟨fun pins s σ H Q I h => by
  obtain ⟨Γ, P, h1, h2⟩ := h
  exact PE.run h1 pins s σ H Q I h2⟩
theorem PE.imp {X : Cx} {e : Expr} {t t' : TE} (h : PE X e t) (f : ∀ σ H Q, t' σ H Q → t σ H Q) : PE X e t' := ⟨fun pins s σ H Q I q => h.run pins s σ H Q I (f σ H Q q)⟩
/-- arguments -/
abbrev PoA := Gam → List Ent → Prop
inductive EntsOk (K : PySem.W.Frag) (H H2 : Hp) : List V → List Ent → Prop
  | nil : EntsOk K H H2 [] []
  | cons {v : V} {vs : List V} {e : Ent} {es : List Ent} : ResOk K H H2 v e → EntsOk K H H2 vs es → EntsOk K H H2 (v :: vs) (e :: es)
def tA (K : PySem.W.Frag) (W : List Addr) (Γ : Gam) (P : PoA) : TA := fun σ H Q => Slots K W Γ σ H ∧ ∀ vs H2 Γ2 rs, Ch W H H2 → Slots K W Γ2 σ H2 → EntsOk K H H2 vs rs → P Γ2 rs → Q vs H2
def XA (X : Cx) (W : List Addr) (es : List Expr) (Γ : Gam) (P : PoA) : Prop := PA X es (tA X.K W Γ P)
def anyA (X : Cx) (W : List Addr) (es : List Expr) : TA := fun σ H Q => ∃ Γ P, XA X W es Γ P ∧ tA X.K W Γ P σ H Q
theorem pa_any {X : Cx} {W : List Addr} {es : List Expr} : PA X es (anyA X W es) := ⟨fun pos pins s σ H Q I h => by
  obtain ⟨Γ, P, h1, h2⟩ := h
  exact PA.run h1 pos pins s σ H Q I h2⟩
theorem PA.imp {X : Cx} {es : List Expr} {t t' : TA} (h : PA X es t) (f : ∀ σ H Q, t' σ H Q → t σ H Q) : PA X es t' := ⟨fun pos pins s σ H Q I q => h.run pos pins s σ H Q I (f σ H Q q)⟩
/-- tests -/
abbrev PoT := Gam → Bool → Prop
def tT (K : PySem.W.Frag) (W : List Addr) (Γ : Gam) (P : PoT) : TT := fun σ H Q => Slots K W Γ σ H ∧ ∀ b H2 Γ2, Ch W H H2 → Slots K W Γ2 σ H2 → P Γ2 b → Q b H2
def XT (X : Cx) (W : List Addr) (e : Expr) (Γ : Gam) (P : PoT) : Prop := PT X e (tT X.K W Γ P)
def anyT (X : Cx) (W : List Addr) (e : Expr) : TT := fun σ H Q => ∃ Γ P, XT X W e Γ P ∧ tT X.K W Γ P σ H Q
theorem pt_any {X : Cx} {W : List Addr} {e : Expr} : PT X e (anyT X W e) := ⟨fun pins s σ H Q I h => by
  obtain ⟨Γ, P, h1, h2⟩ := h
  exact PT.run h1 pins s σ H Q I h2⟩
theorem PT.imp {X : Cx} {e : Expr} {t t' : TT} (h : PT X e t) (f : ∀ σ H Q, t' σ H Q → t σ H Q) : PT X e t' := ⟨fun pins s σ H Q I q => h.run pins s σ H Q I (f σ H Q q)⟩
section
variable {X : Cx} {W : List Addr} {Γ : Gam} {P : Po} {a b e : Expr} {pos p : Pos}
theorem tE.use {K : PySem.W.Frag} {Γ : Gam} {P : Po} {σ : L2.St} {H : Hp} {Q : VK} (h : tE K W Γ P σ H Q) {v : V} {H2 : Hp} {r : Ent} (s : Same H H2) (q : ResOk K H H2 v r) (hp : P Γ r) : Q v H2 := h.2 v H2 Γ r (Ch.of_same s) (h.1.same s) q hp
theorem x_var (i : Nat) {x : Str} {r : Ent} (hΓ : Γ[i]? = some (some r)) (k : P Γ r) (hn : ∀ ds, r ≠ .n ds := by intro _ z; cases z) (hN : X.N[i]? = some x := by rfl) (hv : Vis X.env.scope x := by first | exact Or.inl rfl | exact Or.inr (Or.inl rfl) | exact Or.inr (Or.inr rfl))
    (hd : (x == ("__debug__" : Str)) = false := by decide) (hcd : (x == ("__classdict__" : Str)) = false := by decide) : XE X W (.Name x p) Γ P := by
  refine PE.imp (pe_var hN hv hd hcd) fun σ H Q h => ?_
  obtain ⟨v, h1, h2⟩ := h.1.at_ i r hΓ
  refine ⟨v, h1, h.use (Same.refl H) ?_ k⟩
  cases r with
  | n ds => exact (hn ds rfl).elim
  | _ => exact h2
theorem x_int {i : Int} {j} (k : P Γ (.d (.int i))) : XE X W (.Constant (.int i) j p) Γ P := PE.imp pe_int fun σ H Q h => h.use (v := .int i) (r := .d (.int i)) (Same.refl H) (Dt.int i) k
theorem x_str {x : Str} {j} (k : P Γ (.d (.str x))) : XE X W (.Constant (.str x) j p) Γ P := PE.imp pe_str fun σ H Q h => h.use (v := .str x) (r := .d (.str x)) (Same.refl H) (Dt.str x) k
theorem x_bl {b : Bool} {j} (k : P Γ (.d (.bool b))) : XE X W (.Constant (.bool b) j p) Γ P := PE.imp pe_bl fun σ H Q h => h.use (v := .bl b) (r := .d (.bool b)) (Same.refl H) (Dt.bl b) k
theorem x_non {j} (k : P Γ (.d .none)) : XE X W (.Constant .none j p) Γ P := PE.imp pe_non fun σ H Q h => h.use (v := .non) (r := .d .none) (Same.refl H) Dt.non k
/-- what a reading gives, where its operands come to data -/
def RE (K : PySem.W.Frag) (W : List Addr) (t : TE) (Γ : Gam) (P : Po) : Prop := ∀ σ H Q, tE K W Γ P σ H Q → t σ H Q
theorem RE.xe {t : TE} (h : RE X.K W t Γ P) (q : PE X e t) : XE X W e Γ P := PE.imp q h
theorem XE.mono {P' : Po} (h : XE X W e Γ P) (f : ∀ Γ r, P Γ r → P' Γ r) : XE X W e Γ P' := PE.imp h fun σ H Q q => ⟨q.1, fun v H2 Γ2 r c s o p => q.2 v H2 Γ2 r c s o (f _ _ p)⟩
/-- a value as a test -/
def Tst (P : PoT) : Po := fun Γ r => ∃ b, r = .d (.bool b) ∧ P Γ b
theorem RE.xt {P : PoT} {t : TE} (h : RE X.K W t Γ (Tst P)) (q : PT X e (tTest t)) : XT X W e Γ P := PT.imp q fun σ H Q h2 => h σ H _ ⟨h2.1, fun v H2 Γ2 r c s o p => by
  obtain ⟨b, rfl, hp⟩ := p
  have o : Dt X.K H2 v (.bool b) := o
  cases o
  exact ⟨b, rfl, h2.2 b H2 Γ2 c s hp⟩⟩
/-- two operands, then what the operation gives -/
theorem r_two {r : R2} (ok : Gam → Ent → Ent → Po → Prop)
    (hr : ∀ σ H H1 x y r1 r2 Γ2 Q, Slots X.K W Γ2 σ H1 → ResOk X.K H H1 x r1 → ResOk X.K H H1 y r2 → Ch W H H1 → ok Γ2 r1 r2 P → (∀ v H2 Γ3 r3, Ch W H H2 → Slots X.K W Γ3 σ H2 → ResOk X.K H H2 v r3 → P Γ3 r3 → Q v H2) → r x y H1 Q)
    (h : XE X W a Γ fun Γ1 r1 => r1.stays = true ∧ XE X W b Γ1 fun Γ2 r2 => ok Γ2 r1 r2 P) : RE X.K W (tOp r (anyE X W a) (anyE X W b)) Γ P := by
  intro σ H Q q
  refine ⟨Γ, _, h, q.1, fun x H1 Γ1 r1 c1 s1 o1 p1 => ?_⟩
  obtain ⟨st, hb⟩ := p1
  refine ⟨Γ1, _, hb, s1, fun y H2 Γ2 r2 c2 s2 o2 p2 => ?_⟩
  exact hr σ H H2 x y r1 r2 Γ2 Q s2 (o1.later st q.1 c2) (o2.back c1) (c1.trans c2) p2 fun v H3 Γ3 r3 c3 s3 o3 p3 => q.2 v H3 Γ3 r3 c3 s3 o3 p3
end
end L3
set_option Elab.async false
set_option linter.all false
set_option maxRecDepth 100000
set_option maxHeartbeats 1000000
/-! the single forms of expressions and tests -/
namespace L3
open PySem PySem.Spec PyProof.Rows L2
section
variable {X : Cx} {W : List Addr} {Γ : Gam} {P : Po} {a b c e : Expr} {pos p : Pos} {k : Nat}
theorem EntOk.ofI {K : PySem.W.Frag} {H : Hp} {v : V} {i : Int} (h : EntOk K H v (.d (.int i))) : v = .int i := by
  have h : Dt K H v (.int i) := h
  cases h
  rfl
theorem EntOk.ofB {K : PySem.W.Frag} {H : Hp} {v : V} {i : Bool} (h : EntOk K H v (.d (.bool i))) : v = .bl i := by
  have h : Dt K H v (.bool i) := h
  cases h
  rfl
/-- ints in, data out -/
def Ii (C : Int → Int → Prop) (gd : Int → Int → PyData) : Gam → Ent → Ent → Po → Prop := fun Γ2 r1 r2 P => ∃ i j, r1 = .d (.int i) ∧ r2 = .d (.int j) ∧ C i j ∧ P Γ2 (.d (gd i j))
theorem r_ii {r : R2} {C : Int → Int → Prop} {g : Int → Int → V} {gd : Int → Int → PyData}
    (hr : ∀ i j H (Q : VK), C i j → Q (g i j) H → r (.int i) (.int j) H Q) (hg : ∀ i j H, Dt X.K H (g i j) (gd i j))
    (h : XE X W a Γ fun Γ1 r1 => r1.stays = true ∧ XE X W b Γ1 fun Γ2 r2 => Ii C gd Γ2 r1 r2 P) : RE X.K W (tOp r (anyE X W a) (anyE X W b)) Γ P :=
  r_two (Ii C gd) (fun σ H H1 x y r1 r2 Γ2 Q s o1 o2 c ho q => by
    obtain ⟨i, j, rfl, rfl, hc, hp⟩ := ho
    have e1 : x = .int i := o1.ent.ofI
    have e2 : y = .int j := o2.ent.ofI
    subst e1 e2
    exact hr i j H1 Q hc (q _ H1 Γ2 _ c s (show ResOk X.K H H1 (g i j) (.d (gd i j)) from hg i j H1) hp)) h
abbrev CTrue : Int → Int → Prop := fun _ _ => True
abbrev Two (X : Cx) (W : List Addr) (a b : Expr) (Γ : Gam) (ok : Gam → Ent → Ent → Prop) : Prop := XE X W a Γ fun Γ1 r1 => r1.stays = true ∧ XE X W b Γ1 fun Γ2 r2 => ok Γ2 r1 r2
theorem x_add (h : Two X W a b Γ fun Γ2 r1 r2 => Ii CTrue (fun i j => .int (i + j)) Γ2 r1 r2 P) : XE X W (.BinOp a .Add b pos) Γ P :=
  (r_ii (g := fun i j => .int (i + j)) (fun i j H Q _ q => ⟨i, j, rfl, rfl, q⟩) (fun i j H => .int _) h).xe (pe_op op_add pe_any pe_any)
theorem x_sub (h : Two X W a b Γ fun Γ2 r1 r2 => Ii CTrue (fun i j => .int (i - j)) Γ2 r1 r2 P) : XE X W (.BinOp a .Sub b pos) Γ P :=
  (r_ii (g := fun i j => .int (i - j)) (fun i j H Q _ q => ⟨i, j, rfl, rfl, q⟩) (fun i j H => .int _) h).xe (pe_op op_sub pe_any pe_any)
/-- a product below a million bits -/
theorem x_mul (h : Two X W a b Γ fun Γ2 r1 r2 => Ii CMulW (fun i j => .int (i * j)) Γ2 r1 r2 P) : XE X W (.BinOp a .Mult b pos) Γ P :=
  (r_ii (g := fun i j => .int (i * j)) (fun i j H Q c q => ⟨i, j, rfl, rfl, c, q⟩) (fun i j H => .int _) h).xe (pe_op op_mulW pe_any pe_any)
/-- // by a divisor, not 0, below 9000 bits -/
def CDivX (_ j : Int) : Prop := j ≠ 0 ∧ j.natAbs.log2 < 9000
theorem op_fdivX : OpR X (binaryOp .FloorDiv) (rI CDivX fun i j => .int (i.fdiv j)) := opI fun i j _ _ _ _ _ hc q => floordiv_int hc.1 q (.inl (PyProof.noPylong_of_log2 hc.2))
theorem x_fdiv (h : Two X W a b Γ fun Γ2 r1 r2 => Ii CDivX (fun i j => .int (i.fdiv j)) Γ2 r1 r2 P) : XE X W (.BinOp a .FloorDiv b pos) Γ P :=
  (r_ii (g := fun i j => .int (i.fdiv j)) (fun i j H Q c q => ⟨i, j, rfl, rfl, c, q⟩) (fun i j H => .int _) h).xe (pe_op op_fdivX pe_any pe_any)
theorem x_mod (h : Two X W a b Γ fun Γ2 r1 r2 => Ii (fun _ j => 0 < j) (fun i j => .int (i % j)) Γ2 r1 r2 P) : XE X W (.BinOp a .Mod b pos) Γ P :=
  (r_ii (g := fun i j => .int (i % j)) (fun i j H Q c q => ⟨i, j, rfl, rfl, c, q⟩) (fun i j H => .int _) h).xe (pe_op op_mod pe_any pe_any)
theorem x_pow (h : Two X W a b Γ fun Γ2 r1 r2 => Ii CPow (fun i j => .int (i ^ j.toNat)) Γ2 r1 r2 P) : XE X W (.BinOp a .Pow b pos) Γ P :=
  (r_ii (g := fun i j => .int (i ^ j.toNat)) (fun i j H Q c q => ⟨i, j, rfl, rfl, c, q⟩) (fun i j H => .int _) h).xe (pe_op op_pow pe_any pe_any)
theorem r_lt (h : Two X W a b Γ fun Γ2 r1 r2 => Ii CTrue (fun i j => .bool (decide (i < j))) Γ2 r1 r2 P) : RE X.K W (tOp (rI0 fun i j => .bl (decide (i < j))) (anyE X W a) (anyE X W b)) Γ P :=
  r_ii (g := fun i j => .bl (decide (i < j))) (fun i j H Q _ q => ⟨i, j, rfl, rfl, q⟩) (fun i j H => .bl _) h
theorem r_gt (h : Two X W a b Γ fun Γ2 r1 r2 => Ii CTrue (fun i j => .bool (decide (j < i))) Γ2 r1 r2 P) : RE X.K W (tOp (rI0 fun i j => .bl (decide (j < i))) (anyE X W a) (anyE X W b)) Γ P :=
  r_ii (g := fun i j => .bl (decide (j < i))) (fun i j H Q _ q => ⟨i, j, rfl, rfl, q⟩) (fun i j H => .bl _) h
theorem r_ge (h : Two X W a b Γ fun Γ2 r1 r2 => Ii CTrue (fun i j => .bool (decide (j ≤ i))) Γ2 r1 r2 P) : RE X.K W (tOp (rI0 fun i j => .bl (decide (j ≤ i))) (anyE X W a) (anyE X W b)) Γ P :=
  r_ii (g := fun i j => .bl (decide (j ≤ i))) (fun i j H Q _ q => ⟨i, j, rfl, rfl, q⟩) (fun i j H => .bl _) h
theorem x_lt (h : Two X W a b Γ fun Γ2 r1 r2 => Ii CTrue (fun i j => .bool (decide (i < j))) Γ2 r1 r2 P) : XE X W (.Compare a [.Lt] [b] pos) Γ P := (r_lt h).xe (pe_cmpR op_lt pe_any pe_any (nomark _))
theorem x_gt (h : Two X W a b Γ fun Γ2 r1 r2 => Ii CTrue (fun i j => .bool (decide (j < i))) Γ2 r1 r2 P) : XE X W (.Compare a [.Gt] [b] pos) Γ P := (r_gt h).xe (pe_cmpR op_gt pe_any pe_any (nomark _))
theorem x_ge (h : Two X W a b Γ fun Γ2 r1 r2 => Ii CTrue (fun i j => .bool (decide (j ≤ i))) Γ2 r1 r2 P) : XE X W (.Compare a [.GtE] [b] pos) Γ P := (r_ge h).xe (pe_cmpR op_ge pe_any pe_any (nomark _))
theorem t_lt {P : PoT} (h : Two X W a b Γ fun Γ2 r1 r2 => Ii CTrue (fun i j => .bool (decide (i < j))) Γ2 r1 r2 (Tst P)) : XT X W (.Compare a [.Lt] [b] pos) Γ P := (r_lt h).xt (pt_cmpR op_lt pe_any pe_any (nomark _))
theorem t_gt {P : PoT} (h : Two X W a b Γ fun Γ2 r1 r2 => Ii CTrue (fun i j => .bool (decide (j < i))) Γ2 r1 r2 (Tst P)) : XT X W (.Compare a [.Gt] [b] pos) Γ P := (r_gt h).xt (pt_cmpR op_gt pe_any pe_any (nomark _))
theorem t_ge {P : PoT} (h : Two X W a b Γ fun Γ2 r1 r2 => Ii CTrue (fun i j => .bool (decide (j ≤ i))) Γ2 r1 r2 (Tst P)) : XT X W (.Compare a [.GtE] [b] pos) Γ P := (r_ge h).xt (pt_cmpR op_ge pe_any pe_any (nomark _))
/-- what a result is, as data -/
def Ent.data : Ent → PyData
  | .d x => x
  | .w _ ds => .list ds
  | .k _ ds => .list ds
  | .r ds => .list ds
  | .n ds => .list ds
theorem EntOk.dp {K : PySem.W.Frag} {H : Hp} {v : V} {r : Ent} (h : EntOk K H v r) : Dp K H v r.data := by
  cases r with
  | d x => exact Dt.dp x v h
  | w a ds =>
    obtain ⟨rfl, xs, h1, h2⟩ := h
    exact .lst (SqL.of h1) (DtAll.dp _ _ h2)
  | k a ds =>
    obtain ⟨rfl, xs, h1, h2⟩ := h
    exact .lst h1.1 (DtAll.dp _ _ h2)
  | r ds =>
    obtain ⟨a, xs, rfl, h1, h2⟩ := h
    exact .lst (SqL.of h1) (DtAll.dp _ _ h2)
  | n ds =>
    obtain ⟨a, xs, rfl, h1, h2⟩ := h
    exact .lst (SqL.of h1) (DtAll.dp _ _ h2)
def Dd (f : PyData → PyData → Bool) : Gam → Ent → Ent → Po → Prop := fun Γ2 r1 r2 P => SeqAt.shaped r1.data = true ∧ SeqAt.shaped r2.data = true ∧ P Γ2 (.d (.bool (f r1.data r2.data)))
theorem r_cmpD {r : R2} {f : PyData → PyData → Bool}
    (hr : ∀ x y d e H (Q : VK), Dp X.K H x d → Dp X.K H y e → SeqAt.shaped d = true → SeqAt.shaped e = true → Q (.bl (f d e)) H → r x y H Q)
    (h : Two X W a b Γ fun Γ2 r1 r2 => Dd f Γ2 r1 r2 P) : RE X.K W (tOp r (anyE X W a) (anyE X W b)) Γ P :=
  r_two (Dd f) (fun σ H H1 x y r1 r2 Γ2 Q s o1 o2 c ho q => by
    obtain ⟨s1, s2, hp⟩ := ho
    exact hr x y _ _ H1 Q o1.ent.dp o2.ent.dp s1 s2 (q _ H1 Γ2 _ c s (show ResOk X.K H H1 (.bl _) (.d (.bool _)) from Dt.bl _) hp)) h
theorem x_eq (hu : Room k X.A) (h : Two X W a b Γ fun Γ2 r1 r2 => Dd PyData.eqv Γ2 r1 r2 P) : XE X W (.Compare a [.Eq] [b] pos) Γ P :=
  (r_cmpD (fun x y d e H Q h1 h2 h3 h4 q => ⟨d, e, h1, h2, h3, h4, q⟩) h).xe (pe_cmpR (op_eqD hu.units) pe_any pe_any (nomark _))
theorem x_ne (hu : Room k X.A) (h : Two X W a b Γ fun Γ2 r1 r2 => Dd (fun d e => !PyData.eqv d e) Γ2 r1 r2 P) : XE X W (.Compare a [.NotEq] [b] pos) Γ P :=
  (r_cmpD (f := fun d e => !PyData.eqv d e) (fun x y d e H Q h1 h2 h3 h4 q => ⟨d, e, h1, h2, h3, h4, q⟩) h).xe (pe_cmpR (op_neD hu.units) pe_any pe_any (nomark _))
theorem t_eq {P : PoT} (hu : Room k X.A) (h : Two X W a b Γ fun Γ2 r1 r2 => Dd PyData.eqv Γ2 r1 r2 (Tst P)) : XT X W (.Compare a [.Eq] [b] pos) Γ P :=
  (r_cmpD (fun x y d e H Q h1 h2 h3 h4 q => ⟨d, e, h1, h2, h3, h4, q⟩) h).xt (pt_cmpR (op_eqD hu.units) pe_any pe_any (nomark _))
theorem t_ne {P : PoT} (hu : Room k X.A) (h : Two X W a b Γ fun Γ2 r1 r2 => Dd (fun d e => !PyData.eqv d e) Γ2 r1 r2 (Tst P)) : XT X W (.Compare a [.NotEq] [b] pos) Γ P :=
  (r_cmpD (f := fun d e => !PyData.eqv d e) (fun x y d e H Q h1 h2 h3 h4 q => ⟨d, e, h1, h2, h3, h4, q⟩) h).xt (pt_cmpR (op_neD hu.units) pe_any pe_any (nomark _))
/-- in a tuple -/
def inTup (d e : PyData) : Bool := match e with
  | .tuple ds => ds.any fun z => PyData.eqv z d
  | _ => false
def rInT (K : PySem.W.Frag) (neg : Bool) : R2 := fun x y H Q => ∃ d ds, Dp K H x d ∧ Dp K H y (.tuple ds) ∧ SeqAt.shaped d = true ∧ SeqAt.shaped (.tuple ds) = true ∧ Q (.bl (if neg then !inTup d (.tuple ds) else inTup d (.tuple ds))) H
theorem op_inT (hu : X.A.units + 65 < cLine) : OpR X (compareOp .In) (rInT X.K false) := by
  intro pins s σ H x y v u Q I rx ry h
  obtain ⟨d, ds, hd, he, sd, se, q⟩ := h
  obtain ⟨as, r1⟩ := Dp.reads I d x v hd rx
  obtain ⟨bs, r2⟩ := Dp.reads I (.tuple ds) y u he ry
  exact SeqAt.in_tuple_reads r2 r1 (SeqAt.canLay_of_shaped se) (SeqAt.canLay_of_shaped sd) (room_in_shaped sd hu) ⟨.bl _, H, I, rfl, q⟩
theorem op_notInT (hu : X.A.units + 65 < cLine) : OpR X (compareOp .NotIn) (rInT X.K true) := by
  intro pins s σ H x y v u Q I rx ry h
  obtain ⟨d, ds, hd, he, sd, se, q⟩ := h
  obtain ⟨as, r1⟩ := Dp.reads I d x v hd rx
  obtain ⟨bs, r2⟩ := Dp.reads I (.tuple ds) y u he ry
  exact SeqAt.notIn_tuple_reads r2 r1 (SeqAt.canLay_of_shaped se) (SeqAt.canLay_of_shaped sd) (room_in_shaped sd hu) ⟨.bl _, H, I, rfl, q⟩
theorem t_inT {P : PoT} (hu : Room k X.A) (h : Two X W a b Γ fun Γ2 r1 r2 => (∃ ds, r2 = .d (.tuple ds)) ∧ Dd inTup Γ2 r1 r2 (Tst P)) (hm : behindInMarks .In b = false := by rfl) : XT X W (.Compare a [.In] [b] pos) Γ P := by
  refine RE.xt (r_two (fun Γ2 r1 r2 P => (∃ ds, r2 = .d (.tuple ds)) ∧ Dd inTup Γ2 r1 r2 P) (fun σ H H1 x y r1 r2 Γ2 Q s o1 o2 c ho q => ?_) h) (pt_cmpR (op_inT (by have := hu.un; omega)) pe_any pe_any hm)
  obtain ⟨⟨ds, rfl⟩, s1, s2, hp⟩ := ho
  exact ⟨_, ds, o1.ent.dp, o2.ent.dp, s1, s2, q _ H1 Γ2 _ c s (show ResOk X.K H H1 (.bl _) (.d (.bool _)) from Dt.bl _) hp⟩
theorem t_notInT {P : PoT} (hu : Room k X.A) (h : Two X W a b Γ fun Γ2 r1 r2 => (∃ ds, r2 = .d (.tuple ds)) ∧ Dd (fun d e => !inTup d e) Γ2 r1 r2 (Tst P)) (hm : behindInMarks .NotIn b = false := by rfl) : XT X W (.Compare a [.NotIn] [b] pos) Γ P := by
  refine RE.xt (r_two (fun Γ2 r1 r2 P => (∃ ds, r2 = .d (.tuple ds)) ∧ Dd (fun d e => !inTup d e) Γ2 r1 r2 P) (fun σ H H1 x y r1 r2 Γ2 Q s o1 o2 c ho q => ?_) h) (pt_cmpR (op_notInT (by have := hu.un; omega)) pe_any pe_any hm)
  obtain ⟨⟨ds, rfl⟩, s1, s2, hp⟩ := ho
  exact ⟨_, ds, o1.ent.dp, o2.ent.dp, s1, s2, q _ H1 Γ2 _ c s (show ResOk X.K H H1 (.bl _) (.d (.bool _)) from Dt.bl _) hp⟩
/-- is None -/
def Ent.isN : Ent → Bool
  | .d .none => true
  | _ => false
theorem EntOk.isN {K : PySem.W.Frag} {H : Hp} {v : V} {r : Ent} (h : EntOk K H v r) : decide (v = .non) = r.isN := by
  cases r with
  | d x =>
    have h : Dt K H v x := h
    cases h <;> simp [Ent.isN]
  | k a ds =>
    obtain ⟨rfl, _⟩ := h
    simp [Ent.isN]
  | w a ds =>
    obtain ⟨rfl, _⟩ := h
    simp [Ent.isN]
  | r ds =>
    obtain ⟨a, xs, rfl, _⟩ := h
    simp [Ent.isN]
  | n ds =>
    obtain ⟨a, xs, rfl, _⟩ := h
    simp [Ent.isN]
theorem x_isN {j pp} (h : XE X W a Γ fun Γ1 r => P Γ1 (.d (.bool r.isN))) : XE X W (.Compare a [.Is] [.Constant .none j pp] pos) Γ P := by
  refine PE.imp (pe_cmp (pc_isN pe_any)) fun σ H Q q => ⟨Γ, _, h, q.1, fun v H2 Γ2 r c s o p => ?_⟩
  show Q (.bl (decide (v = V.non))) H2
  rw [o.ent.isN]
  exact q.2 _ H2 Γ2 _ c s (show ResOk X.K H H2 (.bl _) (.d (.bool _)) from Dt.bl _) p
theorem x_notN {j pp} (h : XE X W a Γ fun Γ1 r => P Γ1 (.d (.bool (!r.isN)))) : XE X W (.Compare a [.IsNot] [.Constant .none j pp] pos) Γ P := by
  refine PE.imp (pe_cmp (pc_notN pe_any)) fun σ H Q q => ⟨Γ, _, h, q.1, fun v H2 Γ2 r c s o p => ?_⟩
  show Q (.bl (!decide (v = V.non))) H2
  rw [o.ent.isN]
  exact q.2 _ H2 Γ2 _ c s (show ResOk X.K H H2 (.bl _) (.d (.bool _)) from Dt.bl _) p
theorem t_isN {P : PoT} {j pp} (h : XE X W a Γ fun Γ1 r => P Γ1 r.isN) : XT X W (.Compare a [.Is] [.Constant .none j pp] pos) Γ P := by
  refine PT.imp (pt_cmp (pc_isN pe_any)) fun σ H Q q => ⟨Γ, _, h, q.1, fun v H2 Γ2 r c s o p => ⟨_, rfl, ?_⟩⟩
  rw [o.ent.isN]
  exact q.2 _ H2 Γ2 c s p
theorem t_notN {P : PoT} {j pp} (h : XE X W a Γ fun Γ1 r => P Γ1 (!r.isN)) : XT X W (.Compare a [.IsNot] [.Constant .none j pp] pos) Γ P := by
  refine PT.imp (pt_cmp (pc_notN pe_any)) fun σ H Q q => ⟨Γ, _, h, q.1, fun v H2 Γ2 r c s o p => ⟨_, rfl, ?_⟩⟩
  rw [o.ent.isN]
  exact q.2 _ H2 Γ2 c s p
/-! ### and, or, not -/
theorem t_val {P : PoT} (h : XE X W e Γ (Tst P)) (he : ∀ whole, isTrue e X.env whole = (do let v ← whole; standAt e.pos; holding [v] (truthy v)) := by intro _; rfl) : XT X W e Γ P := by
  refine PT.imp (pt_val pe_any he) fun σ H Q q => ⟨Γ, _, h, q.1, fun v H2 Γ2 r c s o p => ?_⟩
  obtain ⟨b, rfl, hp⟩ := p
  have o : Dt X.K H2 v (.bool b) := o
  cases o
  exact ⟨b, rfl, q.2 b H2 Γ2 c s hp⟩
theorem t_not {P : PoT} (h : XT X W a Γ fun Γ1 b => P Γ1 (!b)) : XT X W (.UnaryOp .Not a pos) Γ P :=
  PT.imp (pt_not pt_any) fun σ H Q q => ⟨Γ, _, h, q.1, fun b H2 Γ2 c s p => q.2 (!b) H2 Γ2 c s p⟩
def XW (X : Cx) (W : List Addr) (e : Expr) (Γ : Gam) (P : PoT) : Prop := PW X e (tT X.K W Γ P)
def anyW (X : Cx) (W : List Addr) (e : Expr) : TT := fun σ H Q => ∃ Γ P, XW X W e Γ P ∧ tT X.K W Γ P σ H Q
theorem pw_any : PW X e (anyW X W e) := ⟨fun wh pins s σ H Q I h => by
  obtain ⟨Γ, P, h1, h2⟩ := h
  exact PW.run h1 wh pins s σ H Q I h2⟩
theorem PW.imp {t t' : TT} (h : PW X e t) (f : ∀ σ H Q, t' σ H Q → t σ H Q) : PW X e t' := ⟨fun wh pins s σ H Q I q => h.run wh pins s σ H Q I (f σ H Q q)⟩
theorem t_w {P : PoT} (h : XW X W e Γ P) : XT X W e Γ P := PW.pt h
variable {rest : List Expr}
theorem w_and {P : PoT} (h : XT X W a Γ fun Γ1 b1 => (b1 = true → XW X W (.BoolOp .And (b :: rest) pos) Γ1 P) ∧ (b1 = false → P Γ1 false)) : XW X W (.BoolOp .And (a :: b :: rest) pos) Γ P :=
  PW.imp (pw_and (pt_any (W := W)) (pw_any (W := W))) fun σ H Q q => ⟨Γ, _, h, q.1, fun b1 H1 Γ1 c1 s1 p1 => by
    cases b1 with
    | true => exact ⟨Γ1, P, p1.1 rfl, s1, fun b2 H2 Γ2 c2 s2 p2 => q.2 b2 H2 Γ2 (c1.trans c2) s2 p2⟩
    | false => exact q.2 false H1 Γ1 c1 s1 (p1.2 rfl)⟩
theorem w_or {P : PoT} (h : XT X W a Γ fun Γ1 b1 => (b1 = false → XW X W (.BoolOp .Or (b :: rest) pos) Γ1 P) ∧ (b1 = true → P Γ1 true)) : XW X W (.BoolOp .Or (a :: b :: rest) pos) Γ P :=
  PW.imp (pw_or (pt_any (W := W)) (pw_any (W := W))) fun σ H Q q => ⟨Γ, _, h, q.1, fun b1 H1 Γ1 c1 s1 p1 => by
    cases b1 with
    | false => exact ⟨Γ1, P, p1.1 rfl, s1, fun b2 H2 Γ2 c2 s2 p2 => q.2 b2 H2 Γ2 (c1.trans c2) s2 p2⟩
    | true => exact q.2 true H1 Γ1 c1 s1 (p1.2 rfl)⟩
theorem w_and1 {P : PoT} (h : XT X W a Γ P) : XW X W (.BoolOp .And [a] pos) Γ P := PW.imp (pw_and1 h) fun σ H Q q => q
theorem w_or1 {P : PoT} (h : XT X W a Γ P) : XW X W (.BoolOp .Or [a] pos) Γ P := PW.imp (pw_or1 h) fun σ H Q q => q
/-- .. as values -/
theorem x_and (h : XE X W a Γ (Tst fun Γ1 b1 => (b1 = true → XE X W (.BoolOp .And (b :: rest) pos) Γ1 P) ∧ (b1 = false → P Γ1 (.d (.bool false))))) : XE X W (.BoolOp .And (a :: b :: rest) pos) Γ P :=
  PE.imp (pe_and (pe_any (W := W)) (pe_any (W := W))) fun σ H Q q => ⟨Γ, _, h, q.1, fun v H1 Γ1 r c1 s1 o p1 => by
    obtain ⟨b1, rfl, p1⟩ := p1
    have o : Dt X.K H1 v (.bool b1) := o
    cases o
    refine ⟨b1, rfl, ?_⟩
    cases b1 with
    | true => exact ⟨Γ1, P, p1.1 rfl, s1, fun v2 H2 Γ2 r2 c2 s2 o2 p2 => q.2 v2 H2 Γ2 r2 (c1.trans c2) s2 (o2.back c1) p2⟩
    | false => exact q.2 (.bl false) H1 Γ1 (.d (.bool false)) c1 s1 (Dt.bl false) (p1.2 rfl)⟩
theorem x_or (h : XE X W a Γ (Tst fun Γ1 b1 => (b1 = false → XE X W (.BoolOp .Or (b :: rest) pos) Γ1 P) ∧ (b1 = true → P Γ1 (.d (.bool true))))) : XE X W (.BoolOp .Or (a :: b :: rest) pos) Γ P :=
  PE.imp (pe_or (pe_any (W := W)) (pe_any (W := W))) fun σ H Q q => ⟨Γ, _, h, q.1, fun v H1 Γ1 r c1 s1 o p1 => by
    obtain ⟨b1, rfl, p1⟩ := p1
    have o : Dt X.K H1 v (.bool b1) := o
    cases o
    refine ⟨b1, rfl, ?_⟩
    cases b1 with
    | false => exact ⟨Γ1, P, p1.1 rfl, s1, fun v2 H2 Γ2 r2 c2 s2 o2 p2 => q.2 v2 H2 Γ2 r2 (c1.trans c2) s2 (o2.back c1) p2⟩
    | true => exact q.2 (.bl true) H1 Γ1 (.d (.bool true)) c1 s1 (Dt.bl true) (p1.2 rfl)⟩
theorem x_one {op : BoolOp} (h : XE X W a Γ P) : XE X W (.BoolOp op [a] pos) Γ P := PE.imp (pe_one h) fun σ H Q q => q
theorem x_not (h : XE X W a Γ (Tst fun Γ1 b => P Γ1 (.d (.bool (!b))))) : XE X W (.UnaryOp .Not a pos) Γ P :=
  PE.imp (pe_not (pe_any (W := W))) fun σ H Q q => ⟨Γ, _, h, q.1, fun v H1 Γ1 r c1 s1 o p1 => by
    obtain ⟨b1, rfl, p1⟩ := p1
    have o : Dt X.K H1 v (.bool b1) := o
    cases o
    exact ⟨b1, rfl, q.2 (.bl (!b1)) H1 Γ1 (.d (.bool (!b1))) c1 s1 (Dt.bl _) p1⟩⟩
theorem x_neg (h : XE X W a Γ fun Γ1 r => ∃ i, r = .d (.int i) ∧ P Γ1 (.d (.int (-i)))) : XE X W (.UnaryOp .USub a pos) Γ P :=
  PE.imp (pe_un un_neg (pe_any (W := W))) fun σ H Q q => ⟨Γ, _, h, q.1, fun v H1 Γ1 r c1 s1 o p1 => by
    obtain ⟨i, rfl, p1⟩ := p1
    have o : Dt X.K H1 v (.int i) := o
    cases o
    exact ⟨i, rfl, q.2 (.int (-i)) H1 Γ1 (.d (.int (-i))) c1 s1 (Dt.int _) p1⟩⟩
end
end L3
set_option Elab.async false
set_option linter.all false
set_option maxRecDepth 100000
set_option maxHeartbeats 1000000
/-! places, slices, displays, calls -/
namespace L3
open PySem PySem.Spec PyProof.Rows L2
theorem size_ok {n : Nat} (h : n ≤ 1000) : n ≤ sizeLine := Nat.le_trans h (by decide)
theorem size_lt {n : Nat} (h : n ≤ 1000) : n < sizeLine := Nat.lt_of_le_of_lt h (by decide)
/-- the items of a list or tuple -/
def Ent.its : Ent → Option (List PyData)
  | .d (.tuple ds) => some ds
  | .d _ => none
  | .w _ ds => some ds
  | .k _ ds => some ds
  | .r ds => some ds
  | .n ds => some ds
section
variable {K : PySem.W.Frag} {H : Hp} {v : V} {r : Ent} {ds : List PyData}
theorem EntOk.seq (h : EntOk K H v r) (e : r.its = some ds) : ∃ a xs, v = .ref a ∧ (SqL K H a xs ∨ SqT K H a xs) ∧ DtAll K H xs ds := by
  cases r with
  | d x =>
    have h : Dt K H v x := h
    cases h with
    | tup h1 h2 =>
      cases e
      exact ⟨_, _, rfl, .inr h1, h2⟩
    | _ => cases e
  | w a es =>
    cases e
    obtain ⟨rfl, xs, h1, h2⟩ := h
    exact ⟨a, xs, rfl, .inl (SqL.of h1), h2⟩
  | k a es =>
    cases e
    obtain ⟨rfl, xs, h1, h2⟩ := h
    exact ⟨a, xs, rfl, .inl h1.1, h2⟩
  | r es =>
    cases e
    obtain ⟨a, xs, rfl, h1, h2⟩ := h
    exact ⟨a, xs, rfl, .inl (SqL.of h1), h2⟩
  | n es =>
    cases e
    obtain ⟨a, xs, rfl, h1, h2⟩ := h
    exact ⟨a, xs, rfl, .inl (SqL.of h1), h2⟩
end
/-- the items of a list -/
def Ent.lst : Ent → Option (List PyData)
  | .d _ => none
  | .w _ ds => some ds
  | .k _ ds => some ds
  | .r ds => some ds
  | .n ds => some ds
theorem EntOk.list {K : PySem.W.Frag} {H : Hp} {v : V} {r : Ent} {ds : List PyData} (h : EntOk K H v r) (e : r.lst = some ds) : ∃ a xs, v = .ref a ∧ SqL K H a xs ∧ DtAll K H xs ds := by
  cases r with
  | d x => cases e
  | w a es =>
    cases e
    obtain ⟨rfl, xs, h1, h2⟩ := h
    exact ⟨a, xs, rfl, SqL.of h1, h2⟩
  | k a es =>
    cases e
    obtain ⟨rfl, xs, h1, h2⟩ := h
    exact ⟨a, xs, rfl, h1.1, h2⟩
  | r es =>
    cases e
    obtain ⟨a, xs, rfl, h1, h2⟩ := h
    exact ⟨a, xs, rfl, SqL.of h1, h2⟩
  | n es =>
    cases e
    obtain ⟨a, xs, rfl, h1, h2⟩ := h
    exact ⟨a, xs, rfl, SqL.of h1, h2⟩
/-- a list that is tracked itself -/
def Ent.own : Ent → Option (List PyData)
  | .w _ ds => some ds
  | .r ds => some ds
  | .n ds => some ds
  | _ => none
theorem EntOk.owned {K : PySem.W.Frag} {H : Hp} {v : V} {r : Ent} {ds : List PyData} (h : EntOk K H v r) (e : r.own = some ds) : ∃ a xs, v = .ref a ∧ H a = some (.lst xs) ∧ DtAll K H xs ds := by
  cases r with
  | w a es =>
    cases e
    obtain ⟨rfl, xs, h1, h2⟩ := h
    exact ⟨a, xs, rfl, h1, h2⟩
  | r es =>
    cases e
    obtain ⟨a, xs, rfl, h1, h2⟩ := h
    exact ⟨a, xs, rfl, h1, h2⟩
  | n es =>
    cases e
    obtain ⟨a, xs, rfl, h1, h2⟩ := h
    exact ⟨a, xs, rfl, h1, h2⟩
  | _ => cases e
section
variable {X : Cx} {W : List Addr} {Γ : Gam} {P : Po} {a b c e : Expr} {pos p p2 : Pos} {k : Nat} {es : List Expr}
def rIxS2 (K : PySem.W.Frag) : R2 := fun x y H Q => rIxL K x y H Q ∨ rIxT K x y H Q
theorem ix_two : IxR X (rIxS2 X.K) := ix_list.or ix_tup
theorem ix_use {K : PySem.W.Frag} {H : Hp} {x : V} {r1 : Ent} {i : Int} {ds : List PyData} {d : PyData} {Q : VK} (o : EntOk K H x r1) (hi : r1.its = some ds) (ha : atI ds i = some d) (q : ∀ v, Dt K H v d → Q v H) : rIxS2 K x (.int i) H Q := by
  obtain ⟨p, xs, rfl, hs, hd⟩ := o.seq hi
  obtain ⟨v, hv, hdv⟩ := hd.at_ ha
  rcases hs with hs | hs
  · exact .inl ⟨p, xs, i, v, rfl, rfl, hs, hv, q v hdv⟩
  · exact .inr ⟨p, xs, i, v, rfl, rfl, hs, hv, q v hdv⟩
theorem x_ix (h : Two X W a b Γ fun Γ2 r1 r2 => ∃ i ds d, r2 = .d (.int i) ∧ r1.its = some ds ∧ atI ds i = some d ∧ P Γ2 (.d d)) (hs : PlainIx b := by exact fun _ _ => rfl) : XE X W (.Subscript a b pos) Γ P :=
  (r_two (r := rIxS2 X.K) (fun Γ2 r1 r2 P => ∃ i ds d, r2 = .d (.int i) ∧ r1.its = some ds ∧ atI ds i = some d ∧ P Γ2 (.d d)) (fun σ H H1 x y r1 r2 Γ2 Q s o1 o2 c ho q => by
    obtain ⟨i, ds, d, rfl, h1, h2, hp⟩ := ho
    have e2 : y = .int i := o2.ent.ofI
    subst e2
    exact ix_use o1.ent h1 h2 fun v hv => q v H1 Γ2 (.d d) c s hv hp) h).xe (pe_ix ix_two pe_any pe_any hs)
/-- an item of what a name holds -/
theorem x_ixV (i : Nat) {x : Str} {r0 : Ent} (h0 : Γ[i]? = some (some r0)) (h : XE X W b Γ fun Γ2 r2 => ∃ r1 j ds d, Γ2[i]? = some (some r1) ∧ r2 = .d (.int j) ∧ r1.its = some ds ∧ atI ds j = some d ∧ P Γ2 (.d d)) (hs : PlainIx b := by exact fun _ _ => rfl)
    (hN : X.N[i]? = some x := by rfl) (hv : Vis X.env.scope x := by first | exact Or.inl rfl | exact Or.inr (Or.inl rfl) | exact Or.inr (Or.inr rfl))
    (hd : (x == ("__debug__" : Str)) = false := by decide) (hcd : (x == ("__classdict__" : Str)) = false := by decide) : XE X W (.Subscript (.Name x p) b pos) Γ P := by
  refine PE.imp (pe_ix ix_two (pe_var hN hv hd hcd) (pe_any (W := W)) hs) fun σ H Q q => ?_
  obtain ⟨v, h1, _⟩ := q.1.at_ i r0 h0
  refine ⟨v, h1, Γ, _, h, q.1, fun y H2 Γ2 r2 c s o p => ?_⟩
  obtain ⟨r1, j, ds, d, g1, rfl, g2, g3, hp⟩ := p
  have e2 : y = .int j := o.ent.ofI
  subst e2
  obtain ⟨v', h1', o1⟩ := s.at_ i r1 g1
  rw [h1] at h1'
  cases h1'
  exact ix_use o1 g2 g3 fun w hw => q.2 w H2 Γ2 (.d d) c s hw hp
/-! ### slices -/
def cutD {α : Type} (xs : List α) (lo hi : Option Int) : List α := (xs.drop (HT.sIx xs.length 0 lo)).take (HT.sIx xs.length xs.length hi - HT.sIx xs.length 0 lo)
theorem DtAll.cut {K : PySem.W.Frag} {H : Hp} {xs : List V} {ds : List PyData} (h : DtAll K H xs ds) (lo hi : Option Int) : DtAll K H (cutV xs lo hi) (cutD ds lo hi) := by
  unfold cutV cutD
  rw [h.length]
  exact DtAll.take _ (DtAll.drop _ h)
/-- the parts of a slice, written -/
def PartIs (e : Option Expr) (o : Option Int) : Prop := match e with
  | none => o = none
  | some (.Constant (.int i) _ _) => o = some i
  | _ => False
def tKnown (o : Option Int) : TO := fun _ H Q => Q o H
theorem po_known {e : Option Expr} {o : Option Int} (h : PartIs e o) : PO X e (tKnown o) := by
  match e, h with
  | none, h =>
    cases h
    exact po_none
  | some (.Constant (.int i) j p), h =>
    cases h
    refine ⟨fun pins s σ H Q I q => ?_⟩
    exact (po_some (X := X) (pe_int (i := i) (j := j) (pos := p))).run pins s σ H Q I ⟨i, rfl, q⟩
theorem x_sliceT {lo hi : Option Expr} (l u : Option Int) (h : XE X W a Γ fun Γ1 r => ∃ ds, r = .d (.tuple ds) ∧ P Γ1 (.d (.tuple (cutD ds l u)))) (hl : PartIs lo l := by rfl) (hu : PartIs hi u := by rfl) : XE X W (.Subscript a (.Slice lo hi none p2) pos) Γ P :=
  PE.imp (pe_slice sl_tupA (pe_any (W := W)) (po_known hl) (po_known hu)) fun σ H Q q => ⟨Γ, _, h, q.1, fun v H1 Γ1 r c s o p1 => by
    obtain ⟨ds, rfl, hp⟩ := p1
    have o : Dt X.K H1 v (.tuple ds) := o
    cases o with
    | @tup a xs _ h1 h2 =>
      refine ⟨a, xs, rfl, h1, fun hw => ?_, fun hw p np => ?_⟩
      · refine q.2 (.ref a) H1 Γ1 _ c s (show ResOk X.K H H1 (.ref a) (.d _) from ?_) hp
        have e : cutD ds l u = ds := by
          unfold cutD
          rw [← h2.length, hw.1, hw.2]
          simp [h2.length]
        rw [e]
        exact Dt.tup h1 h2
      · have sm : Same H1 (upd H1 p (.tup (cutV xs l u))) := fun b z hb => by
          rw [upd_ne (ne_of_none hb np)]
          exact hb
        refine q.2 (.ref p) _ Γ1 _ (c.trans (Ch.of_same sm)) (s.same sm) (show ResOk X.K H _ (.ref p) (.d _) from ?_) hp
        exact Dt.tup (SqT.of upd_same) ((DtAll.ch (Ch.of_same (W := []) sm) _ _ (h2.cut l u)))⟩
theorem same_new {H : Hp} {p : Addr} {o : HO} (n : H p = none) : Same H (upd H p o) := fun b z hb => by
  rw [upd_ne (ne_of_none hb n)]
  exact hb
/-- a new list comes -/
theorem new_list {K : PySem.W.Frag} {σ : L2.St} {H H1 : Hp} {Q : VK} {Γ1 : Gam} (q : tE K W Γ P σ H Q) (c : Ch W H H1) (s : Slots K W Γ1 σ H1) {xs : List V} {ds : List PyData} (hd : DtAll K H1 xs ds) (hp : P Γ1 (.n ds)) {p : Addr} (np : H1 p = none) : Q (.ref p) (upd H1 p (.lst xs)) := by
  have sm := same_new (o := .lst xs) np
  exact q.2 (.ref p) _ Γ1 (.n ds) (c.trans (Ch.of_same sm)) (s.same sm) ⟨p, _, rfl, c.none_back np, upd_same, DtAll.ch (Ch.of_same (W := []) sm) _ _ hd⟩ hp
theorem x_sliceL {lo hi : Option Expr} (l u : Option Int) (h : XE X W a Γ fun Γ1 r => ∃ ds, r.lst = some ds ∧ P Γ1 (.n (cutD ds l u))) (hl : PartIs lo l := by rfl) (hu : PartIs hi u := by rfl) : XE X W (.Subscript a (.Slice lo hi none p2) pos) Γ P :=
  PE.imp (pe_slice sl_list (pe_any (W := W)) (po_known hl) (po_known hu)) fun σ H Q q => ⟨Γ, _, h, q.1, fun v H1 Γ1 r c s o p1 => by
    obtain ⟨ds, hi, hp⟩ := p1
    obtain ⟨a, xs, rfl, hs, hd⟩ := o.ent.list hi
    exact ⟨a, xs, rfl, hs, fun p np => new_list q c s (hd.cut l u) hp np⟩⟩
/-! ### arguments, displays -/
theorem a_nil {P : PoA} (h : P Γ []) : XA X W [] Γ P := PA.imp pa_nil fun σ H Q q => q.2 [] H Γ [] Ch.refl q.1 .nil h
theorem a_cons {P : PoA} (h : XE X W e Γ fun Γ1 r => r.stays = true ∧ XA X W es Γ1 fun Γ2 rs => P Γ2 (r :: rs)) (hs : starEach (e :: es) X.env = (false, eval e X.env) :: starEach es X.env := by rfl) : XA X W (e :: es) Γ P :=
  PA.imp (pa_cons (pe_any (W := W)) (pa_any (W := W)) hs) fun σ H Q q => ⟨Γ, _, h, q.1, fun v H1 Γ1 r c1 s1 o1 p1 => ⟨Γ1, _, p1.2, s1, fun vs H2 Γ2 rs c2 s2 o2 p2 => q.2 (v :: vs) H2 Γ2 (r :: rs) (c1.trans c2) s2 (.cons (o1.later p1.1 q.1 c2) (by
    clear p2 p1 q
    induction o2 with
    | nil => exact .nil
    | cons h1 _ ih => exact .cons (h1.back c1) ih)) p2⟩⟩
/-- a name as an argument: it holds what it holds behind the others -/
theorem a_consV {P : PoA} (i : Nat) {x : Str} {r0 : Ent} (h0 : Γ[i]? = some (some r0)) (h : XA X W es Γ fun Γ2 rs => ∃ r, Γ2[i]? = some (some r) ∧ (∀ ds, r ≠ .n ds) ∧ P Γ2 (r :: rs)) (hs : starEach (.Name x p :: es) X.env = (false, eval (.Name x p) X.env) :: starEach es X.env := by rfl)
    (hN : X.N[i]? = some x := by rfl) (hv : Vis X.env.scope x := by first | exact Or.inl rfl | exact Or.inr (Or.inl rfl) | exact Or.inr (Or.inr rfl))
    (hd : (x == ("__debug__" : Str)) = false := by decide) (hcd : (x == ("__classdict__" : Str)) = false := by decide) : XA X W (.Name x p :: es) Γ P :=
  PA.imp (pa_cons (pe_var hN hv hd hcd) (pa_any (W := W)) hs) fun σ H Q q => by
    obtain ⟨v, h1, _⟩ := q.1.at_ i r0 h0
    refine ⟨v, h1, Γ, _, h, q.1, fun vs H2 Γ2 rs c2 s2 o2 p2 => ?_⟩
    obtain ⟨r, g1, g2, hp⟩ := p2
    obtain ⟨v', h1', o1⟩ := s2.at_ i r g1
    rw [h1] at h1'
    cases h1'
    refine q.2 (v :: vs) H2 Γ2 (r :: rs) c2 s2 (.cons ?_ o2) hp
    cases r with
    | n ds => exact (g2 ds rfl).elim
    | _ => exact o1
theorem ents_d {K : PySem.W.Frag} {H H2 : Hp} : ∀ {vs : List V} {ds : List PyData}, EntsOk K H H2 vs (ds.map Ent.d) → DtAll K H2 vs ds
  | _, [], h => by
    cases h
    exact .nil
  | _, d :: ds, h => by
    cases h with
    | cons h1 h2 => exact .cons h1 (ents_d h2)
theorem x_tup {x1} (h : XA X W es Γ fun Γ1 rs => ∃ ds, rs = ds.map Ent.d ∧ ds.length ≤ 1000 ∧ P Γ1 (.d (.tuple ds))) : XE X W (.Tuple es x1 pos) Γ P :=
  PE.imp (pe_tup (pa_any (W := W))) fun σ H Q q => ⟨Γ, _, h, q.1, fun vs H1 Γ1 rs c s o p1 => by
    obtain ⟨ds, rfl, hl, hp⟩ := p1
    have hd := ents_d o
    refine ⟨size_ok (by rw [hd.length]; exact hl), fun p np => ?_⟩
    have sm := same_new (o := .tup vs) np
    exact q.2 (.ref p) _ Γ1 (.d (.tuple ds)) (c.trans (Ch.of_same sm)) (s.same sm) (Dt.tup (SqT.of upd_same) (DtAll.ch (Ch.of_same (W := []) sm) _ _ hd)) hp⟩
theorem x_lst (h : XA X W es Γ fun Γ1 rs => ∃ ds, rs = ds.map Ent.d ∧ ds.length ≤ 1000 ∧ P Γ1 (.n ds)) : XE X W (.List es pos) Γ P :=
  PE.imp (pe_lst (pa_any (W := W))) fun σ H Q q => ⟨Γ, _, h, q.1, fun vs H1 Γ1 rs c s o p1 => by
    obtain ⟨ds, rfl, hl, hp⟩ := p1
    have hd := ents_d o
    exact ⟨size_ok (by rw [hd.length]; exact hl), fun p np => new_list q c s hd hp np⟩⟩
/-! ### lists put together -/
theorem x_cat (h : Two X W a b Γ fun Γ2 r1 r2 => ∃ ds es, r1.own = some ds ∧ r2.own = some es ∧ ds.length + es.length ≤ 1000 ∧ P Γ2 (.n (ds ++ es))) : XE X W (.BinOp a .Add b pos) Γ P := by
  refine PE.imp (pe_op op_cat (pe_any (W := W)) (pe_any (W := W))) fun σ H Q q => ⟨Γ, _, h, q.1, fun x H1 Γ1 r1 c1 s1 o1 p1 => ⟨Γ1, _, p1.2, s1, fun y H2 Γ2 r2 c2 s2 o2 p2 => ?_⟩⟩
  obtain ⟨ds, es, e1, e2, hl, hp⟩ := p2
  obtain ⟨l, xs, rfl, h1, d1⟩ := (o1.later p1.1 q.1 c2).ent.owned e1
  obtain ⟨l2, ys, rfl, h2, d2⟩ := o2.ent.owned e2
  exact ⟨l, l2, xs, ys, rfl, rfl, h1, h2, size_ok (by rw [d1.length, d2.length]; exact hl), fun p np => new_list q (c1.trans c2) s2 (d1.append d2) hp np⟩
/-- .. the first one a name -/
theorem x_catV (i : Nat) {x : Str} {r0 : Ent} (h0 : Γ[i]? = some (some r0)) (h : XE X W b Γ fun Γ2 r2 => ∃ r1 ds es, Γ2[i]? = some (some r1) ∧ r1.own = some ds ∧ r2.own = some es ∧ ds.length + es.length ≤ 1000 ∧ P Γ2 (.n (ds ++ es)))
    (hN : X.N[i]? = some x := by rfl) (hv : Vis X.env.scope x := by first | exact Or.inl rfl | exact Or.inr (Or.inl rfl) | exact Or.inr (Or.inr rfl))
    (hd : (x == ("__debug__" : Str)) = false := by decide) (hcd : (x == ("__classdict__" : Str)) = false := by decide) : XE X W (.BinOp (.Name x p) .Add b pos) Γ P := by
  refine PE.imp (pe_op op_cat (pe_var hN hv hd hcd) (pe_any (W := W))) fun σ H Q q => ?_
  obtain ⟨v, g1, _⟩ := q.1.at_ i r0 h0
  refine ⟨v, g1, Γ, _, h, q.1, fun y H2 Γ2 r2 c s o p => ?_⟩
  obtain ⟨r1, ds, es, k1, e1, e2, hl, hp⟩ := p
  obtain ⟨v', g1', o1⟩ := s.at_ i r1 k1
  rw [g1] at g1'
  cases g1'
  obtain ⟨l, xs, rfl, h1, d1⟩ := o1.owned e1
  obtain ⟨l2, ys, rfl, h2, d2⟩ := o.ent.owned e2
  exact ⟨l, l2, xs, ys, rfl, rfl, h1, h2, size_ok (by rw [d1.length, d2.length]; exact hl), fun p np => new_list q c s (d1.append d2) hp np⟩
theorem DtAll.rep {K : PySem.W.Frag} {H : Hp} {xs : List V} {ds : List PyData} (h : DtAll K H xs ds) : ∀ n : Nat, DtAll K H (List.replicate n xs).flatten (List.replicate n ds).flatten
  | 0 => .nil
  | n + 1 => by
    rw [List.replicate_succ, List.replicate_succ, List.flatten_cons, List.flatten_cons]
    exact h.append (DtAll.rep h n)
theorem x_rep (h : Two X W a b Γ fun Γ2 r1 r2 => ∃ ds i, r1.own = some ds ∧ r2 = .d (.int i) ∧ 0 ≤ i ∧ i ≤ 1 ∧ ds.length ≤ 1000 ∧ P Γ2 (.n (List.replicate i.toNat ds).flatten)) : XE X W (.BinOp a .Mult b pos) Γ P := by
  refine PE.imp (pe_op op_rep (pe_any (W := W)) (pe_any (W := W))) fun σ H Q q => ⟨Γ, _, h, q.1, fun x H1 Γ1 r1 c1 s1 o1 p1 => ⟨Γ1, _, p1.2, s1, fun y H2 Γ2 r2 c2 s2 o2 p2 => ?_⟩⟩
  obtain ⟨ds, i, e1, rfl, i0, i1, hl, hp⟩ := p2
  obtain ⟨l, xs, rfl, h1, d1⟩ := (o1.later p1.1 q.1 c2).ent.owned e1
  have e2 : y = .int i := o2.ent.ofI
  subst e2
  refine ⟨l, i, xs, rfl, rfl, h1, by omega, by omega, ?_, fun p np => new_list q (c1.trans c2) s2 (d1.rep _) hp np⟩
  have : i.toNat ≤ 1 := by omega
  have : xs.length * i.toNat ≤ xs.length * 1 := Nat.mul_le_mul_left _ this
  rw [d1.length] at this ⊢
  exact size_ok (by omega)
end
end L3
set_option Elab.async false
set_option linter.all false
set_option maxRecDepth 100000
set_option maxHeartbeats 1000000
/-! calls: what a def promises; calls of what is built in -/
namespace L3
open PySem PySem.Spec PyProof.Rows L2
inductive EntsIn (K : PySem.W.Frag) (H : Hp) : List V → List Ent → Prop
  | nil : EntsIn K H [] []
  | cons {v : V} {vs : List V} {e : Ent} {es : List Ent} : EntOk K H v e → EntsIn K H vs es → EntsIn K H (v :: vs) (e :: es)
theorem EntsIn.length {K : PySem.W.Frag} {H : Hp} : ∀ {vs : List V} {es : List Ent}, EntsIn K H vs es → vs.length = es.length
  | _, _, .nil => rfl
  | _, _, .cons _ h => by rw [List.length_cons, List.length_cons, EntsIn.length h]
/-- an argument's form: some list -/
def Ent.wk : Ent → Ent
  | .w _ ds => .r ds
  | .n ds => .r ds
  | e => e
theorem EntOk.wk {K : PySem.W.Frag} {H : Hp} {v : V} {e : Ent} (h : EntOk K H v e) : EntOk K H v e.wk := by
  cases e with
  | w a ds =>
    obtain ⟨rfl, xs, h1, h2⟩ := h
    exact ⟨a, xs, rfl, h1, h2⟩
  | n ds => exact h
  | _ => exact h
theorem ents_wk {K : PySem.W.Frag} {H H2 : Hp} : ∀ {vs : List V} {rs : List Ent}, EntsOk K H H2 vs rs → EntsIn K H2 vs (rs.map Ent.wk)
  | _, _, .nil => .nil
  | _, _, .cons h t => .cons h.ent.wk (ents_wk t)
/-- a def that changes nothing: from the arguments es it comes to r -/
def spD (K : PySem.W.Frag) (R : List Ent → Ent → Prop) : Sp := fun vs H Q _ => ∃ es r, R es r ∧ EntsIn K H vs es ∧ ∀ v H', Same H H' → ResOk K H H' v r → Q v H'
/-- a def that changes the list at its first argument -/
def spW (K : PySem.W.Frag) (Pre : List PyData → List Ent → Prop) (R : List PyData → List Ent → List PyData → Ent → Prop) : Sp := fun vs H Q _ =>
  ∃ a fd es, EntsIn K H vs (.w a fd :: es) ∧ Pre fd es ∧ ∀ v H' fd' r, R fd es fd' r → Ch [a] H H' → EntOk K H' (.ref a) (.w a fd') → ResOk K H H' v r → Q v H'
/-- a def of the module that keeps a promise -/
structure Callee (P : Program) (w : World) (K : PySem.W.Frag) (mg : Str → Option Value) (base : Heap) (x : Str) (k : Nat) (ps : List Str) (sp : Sp) : Prop where
  ex : ∃ f fd, mg x = some (.ref f) ∧ PySem.W.keepIn K (.ref f) = true ∧ Binds K fd ps [] ∧ FnOk P w K mg base CX0 k f fd ps sp
theorem Callee.mono {P : Program} {w : World} {K : PySem.W.Frag} {mg : Str → Option Value} {base : Heap} {x : Str} {j k : Nat} {ps : List Str} {sp : Sp} (G : Callee P w K mg base x j ps sp) (h : j ≤ k) : Callee P w K mg base x k ps sp := by
  obtain ⟨f, fd, h1, h2, h3, h4⟩ := G.ex
  exact ⟨f, fd, h1, h2, h3, h4.mono h⟩
/-- the list at a changes: what holds nothing of it stays -/
def Ent.off (a : Addr) : Ent → Prop
  | .d _ => True
  | .k _ _ => True
  | .w b _ => b ≠ a
  | _ => False
theorem EntOk.chg {K : PySem.W.Frag} {a : Addr} {H H' : Hp} {v : V} {e : Ent} (h : EntOk K H v e) (f : e.off a) (c : Ch [a] H H') : EntOk K H' v e := by
  cases e with
  | d x => exact Dt.ch c x v h
  | k b ds =>
    obtain ⟨h1, xs, h2, h3⟩ := h
    exact ⟨h1, xs, h2.ch c, DtAll.ch c _ _ h3⟩
  | w b ds =>
    obtain ⟨h1, xs, h2, h3⟩ := h
    exact ⟨h1, xs, c.oth b _ (by simp; exact f) h2, DtAll.ch c _ _ h3⟩
  | _ => exact f.elim
/-- a is held by slot i alone -/
def Alone (Γ : Gam) (i : Nat) (a : Addr) : Prop := ∀ (j : Nat) (e : Ent), j ≠ i → Γ[j]? = some (some e) → e.off a
theorem Slots.chg {K : PySem.W.Frag} {W : List Addr} {Γ : Gam} {σ : L2.St} {H H' : Hp} {a : Addr} {i : Nat} {ds ds' : List PyData} (s : Slots K W Γ σ H) (hi : Γ[i]? = some (some (.w a ds))) (al : Alone Γ i a) (c : Ch [a] H H') (n : EntOk K H' (.ref a) (.w a ds')) :
    Slots K W (Γ.set i (some (.w a ds'))) σ H' := by
  refine ⟨by rw [List.length_set]; exact s.len, fun j e hj => ?_, fun b hb => c.one b (s.there b hb)⟩
  by_cases hij : j = i
  · subst hij
    have hl : j < Γ.length := (List.getElem?_eq_some_iff.mp hi).1
    rw [List.getElem?_set_self hl] at hj
    cases hj
    obtain ⟨v, h1, h2⟩ := s.at_ j _ hi
    obtain ⟨rfl, _⟩ := h2
    exact ⟨_, h1, n⟩
  · rw [List.getElem?_set_ne (Ne.symm hij)] at hj
    obtain ⟨v, h1, h2⟩ := s.at_ j e hj
    exact ⟨v, h1, h2.chg (al j e hij hj) c⟩
section
variable {X : Cx} {W : List Addr} {Γ : Gam} {P : Po} {a b c e : Expr} {pos p p2 : Pos} {k j : Nat} {es : List Expr} {x : Str} {ps : List Str}
theorem x_call {R : List Ent → Ent → Prop} (G : Callee X.prog X.w X.K X.mg X.base x j ps (spD X.K R)) (hr : Room k X.A) (h : XA X W (e :: es) Γ fun Γ2 rs => ∃ r, R (rs.map Ent.wk) r ∧ P Γ2 r) (hj : j ≤ k := by decide) (hg : Gl X x := by rfl)
    (hdb : (x == ("__debug__" : Str)) = false := by decide) (he : starEach (e :: es) X.env = (false, eval e X.env) :: starEach es X.env := by rfl) (hpl : (backTo pos (starEach es X.env)).any (·.1) = false := by rfl) : XE X W (.Call (.Name x p) (e :: es) [] pos) Γ P := by
  obtain ⟨f, fd, h1, h2, h3, h4⟩ := G.ex
  refine PE.imp (pe_call h4 (hr.mono hj) hg h1 h2 h3 .nil pass0 (pa_any (W := W)) hdb he hpl) fun σ H Q q => ⟨Γ, _, h, q.1, fun vs H1 Γ1 rs c s o p1 => ?_⟩
  obtain ⟨r, hR, hp⟩ := p1
  rw [List.append_nil]
  exact ⟨_, r, hR, ents_wk o, fun v H' sm hv => q.2 v H' Γ1 r (c.trans (Ch.of_same sm)) (s.same sm) (hv.back c) hp⟩
theorem x_callW (i : Nat) {Pre : List PyData → List Ent → Prop} {R : List PyData → List Ent → List PyData → Ent → Prop} (G : Callee X.prog X.w X.K X.mg X.base x j ps (spW X.K Pre R)) (hr : Room k X.A)
    (h : XA X W (e :: es) Γ fun Γ2 rs => ∃ a fd rs', rs = .w a fd :: rs' ∧ Γ2[i]? = some (some (.w a fd)) ∧ Alone Γ2 i a ∧ a ∈ W ∧ Pre fd (rs'.map Ent.wk) ∧ ∀ fd' r, R fd (rs'.map Ent.wk) fd' r → P (Γ2.set i (some (.w a fd'))) r) (hj : j ≤ k := by decide) (hg : Gl X x := by rfl)
    (hdb : (x == ("__debug__" : Str)) = false := by decide) (he : starEach (e :: es) X.env = (false, eval e X.env) :: starEach es X.env := by rfl) (hpl : (backTo pos (starEach es X.env)).any (·.1) = false := by rfl) : XE X W (.Call (.Name x p) (e :: es) [] pos) Γ P := by
  obtain ⟨f, fd, h1, h2, h3, h4⟩ := G.ex
  refine PE.imp (pe_call h4 (hr.mono hj) hg h1 h2 h3 .nil pass0 (pa_any (W := W)) hdb he hpl) fun σ H Q q => ⟨Γ, _, h, q.1, fun vs H1 Γ1 rs c s o p1 => ?_⟩
  obtain ⟨a, fdd, rs', rfl, g1, g2, g3, g4, hp⟩ := p1
  rw [List.append_nil]
  cases o with
  | cons o1 o2 =>
    refine ⟨a, fdd, _, .cons o1.ent (ents_wk o2), g4, fun v H' fd' r hR ch hl hv => ?_⟩
    refine q.2 v H' _ r (c.trans (ch.wider fun b hb => ?_)) (s.chg g1 g2 ch hl) (hv.back c) (hp fd' r hR)
    rw [List.mem_singleton.mp hb]
    exact g3
/-! ### what is built in -/
theorem dt_int {K : PySem.W.Frag} {H : Hp} {v : V} {i : Int} (h : Dt K H v (.int i)) : v = .int i := by cases h; rfl
theorem dt_bool {K : PySem.W.Frag} {H : Hp} {v : V} {i : Bool} (h : Dt K H v (.bool i)) : v = .bl i := by cases h; rfl
theorem x_abs (hm : X.mg "abs" = none) (h : XA X W [a] Γ fun Γ1 rs => ∃ i, rs = [.d (.int i)] ∧ P Γ1 (.d (.int (if i < 0 then -i else i)))) (hg : Gl X "abs" := by rfl) (he : starEach [a] X.env = (false, eval a X.env) :: starEach [] X.env := by rfl) : XE X W (.Call (.Name "abs" p) [a] [] pos) Γ P :=
  PE.imp (pe_callB call_abs hg hm (by decide +kernel) (pa_any (W := W)) (he := he)) fun σ H Q q => ⟨Γ, _, h, q.1, fun vs H1 Γ1 rs c s o p1 => by
    obtain ⟨i, rfl, hp⟩ := p1
    cases o with
    | cons o1 o2 =>
      cases o2
      have e := dt_int o1
      subst e
      exact ⟨i, rfl, q.2 _ H1 Γ1 (.d _) c s (Dt.int _) hp⟩⟩
theorem x_intB (hm : X.mg "int" = none) (h : XA X W [a] Γ fun Γ1 rs => ∃ b : Bool, rs = [.d (.bool b)] ∧ P Γ1 (.d (.int (if b then 1 else 0)))) (hg : Gl X "int" := by rfl) (he : starEach [a] X.env = (false, eval a X.env) :: starEach [] X.env := by rfl) : XE X W (.Call (.Name "int" p) [a] [] pos) Γ P :=
  PE.imp (pe_callTy call_int1 hg hm (by decide +kernel) (pa_any (W := W)) (he := he)) fun σ H Q q => ⟨Γ, _, h, q.1, fun vs H1 Γ1 rs c s o p1 => by
    obtain ⟨i, rfl, hp⟩ := p1
    cases o with
    | cons o1 o2 =>
      cases o2
      have e := dt_bool o1
      subst e
      exact .inr ⟨i, rfl, q.2 _ H1 Γ1 (.d _) c s (Dt.int _) hp⟩⟩
theorem x_len (hm : X.mg "len" = none) (h : XA X W [a] Γ fun Γ1 rs => ∃ r ds, rs = [r] ∧ r.its = some ds ∧ P Γ1 (.d (.int ds.length))) (hg : Gl X "len" := by rfl) (he : starEach [a] X.env = (false, eval a X.env) :: starEach [] X.env := by rfl) : XE X W (.Call (.Name "len" p) [a] [] pos) Γ P :=
  PE.imp (pe_callB call_len_seq hg hm PySem.boot_len (pa_any (W := W)) (he := he)) fun σ H Q q => ⟨Γ, _, h, q.1, fun vs H1 Γ1 rs c s o p1 => by
    obtain ⟨r, ds, rfl, hi, hp⟩ := p1
    cases o with
    | cons o1 o2 =>
      cases o2
      obtain ⟨b, xs, rfl, hs, hd⟩ := o1.ent.seq hi
      refine ⟨b, xs, rfl, hs, ?_⟩
      rw [hd.length]
      exact q.2 _ H1 Γ1 (.d _) c s (Dt.int _) hp⟩
theorem x_list (hm : X.mg "list" = none) (h : XA X W [a] Γ fun Γ1 rs => ∃ r ds, rs = [r] ∧ r.its = some ds ∧ P Γ1 (.n ds)) (hg : Gl X "list" := by rfl) (he : starEach [a] X.env = (false, eval a X.env) :: starEach [] X.env := by rfl) : XE X W (.Call (.Name "list" p) [a] [] pos) Γ P :=
  PE.imp (pe_callTy call_list_of hg hm (by decide +kernel) (pa_any (W := W)) (he := he)) fun σ H Q q => ⟨Γ, _, h, q.1, fun vs H1 Γ1 rs c s o p1 => by
    obtain ⟨r, ds, rfl, hi, hp⟩ := p1
    cases o with
    | cons o1 o2 =>
      cases o2
      obtain ⟨b, xs, rfl, hs, hd⟩ := o1.ent.seq hi
      exact ⟨b, xs, rfl, hs, fun p np => new_list q c s hd hp np⟩⟩
theorem bools {K : PySem.W.Frag} {H : Hp} : ∀ {xs : List V} {bs : List Bool}, DtAll K H xs (bs.map PyData.bool) → xs = bs.map V.bl
  | _, [], h => by cases h; rfl
  | _, b :: bs, h => by
    cases h with
    | cons h1 h2 =>
      rw [dt_bool h1, bools h2]
      rfl
theorem x_any (hc : X.calm = true) (hm : X.mg "any" = none) (h : XA X W [a] Γ fun Γ1 rs => ∃ (r : Ent) (bs : List Bool), rs = [r] ∧ r.lst = some (bs.map PyData.bool) ∧ P Γ1 (.d (.bool (bs.any id)))) (hg : Gl X "any" := by rfl) (he : starEach [a] X.env = (false, eval a X.env) :: starEach [] X.env := by rfl) : XE X W (.Call (.Name "any" p) [a] [] pos) Γ P :=
  PE.imp (pe_callB (cr_any hc) hg hm (by decide +kernel) (pa_any (W := W)) (he := he)) fun σ H Q q => ⟨Γ, _, h, q.1, fun vs H1 Γ1 rs c s o p1 => by
    obtain ⟨r, bs, rfl, hi, hp⟩ := p1
    cases o with
    | cons o1 o2 =>
      cases o2
      obtain ⟨b, xs, rfl, hs, hd⟩ := o1.ent.list hi
      have e := bools hd
      subst e
      exact ⟨b, bs, rfl, hs, q.2 _ H1 Γ1 (.d _) c s (Dt.bl _) hp⟩⟩
theorem x_all (hc : X.calm = true) (hm : X.mg "all" = none) (h : XA X W [a] Γ fun Γ1 rs => ∃ (r : Ent) (bs : List Bool), rs = [r] ∧ r.lst = some (bs.map PyData.bool) ∧ P Γ1 (.d (.bool (bs.all id)))) (hg : Gl X "all" := by rfl) (he : starEach [a] X.env = (false, eval a X.env) :: starEach [] X.env := by rfl) : XE X W (.Call (.Name "all" p) [a] [] pos) Γ P :=
  PE.imp (pe_callB (cr_all hc) hg hm (by decide +kernel) (pa_any (W := W)) (he := he)) fun σ H Q q => ⟨Γ, _, h, q.1, fun vs H1 Γ1 rs c s o p1 => by
    obtain ⟨r, bs, rfl, hi, hp⟩ := p1
    cases o with
    | cons o1 o2 =>
      cases o2
      obtain ⟨b, xs, rfl, hs, hd⟩ := o1.ent.list hi
      have e := bools hd
      subst e
      exact ⟨b, bs, rfl, hs, q.2 _ H1 Γ1 (.d _) c s (Dt.bl _) hp⟩⟩
end
/-! ### statements -/
structure Pst where
  nx : Gam → Prop
  rt : Gam → Ent → Prop
  bk : Gam → Prop := fun _ => False
  ct : Gam → Prop := fun _ => False
/-- B: the heap that is the ground; F: which of its lists may change -/
structure Grd (B : Hp) (F W : List Addr) (H : Hp) : Prop where
  ch : Ch F B H
  w : ∀ a, a ∈ W → a ∈ F ∨ B a = none
theorem Grd.step {B : Hp} {F W : List Addr} {H H2 : Hp} (g : Grd B F W H) (c : Ch W H H2) : Grd B F W H2 :=
  ⟨⟨fun a xs e => c.tup a xs (g.ch.tup a xs e), fun a o u e => c.frz a o u (g.ch.frz a o u e), fun a o n e => c.oth a o (fun z => (g.w a z).elim n fun y => by rw [e] at y; cases y) (g.ch.oth a o n e), fun a e => c.one a (g.ch.one a e)⟩, g.w⟩
def tS (K : PySem.W.Frag) (B : Hp) (F W : List Addr) (Γ : Gam) (P : Pst) : TS := fun D σ H => Grd B F W H ∧ Slots K W Γ σ H ∧
  (∀ σ' H' Γ', Grd B F W H' → Slots K W Γ' σ' H' → P.nx Γ' → D.nx σ' H') ∧ (∀ v σ' H' Γ' r, Grd B F W H' → Slots K W Γ' σ' H' → ResOk K B H' v r → P.rt Γ' r → D.rt v H') ∧
  (∀ σ' H' Γ', Grd B F W H' → Slots K W Γ' σ' H' → P.bk Γ' → D.bk σ' H') ∧ (∀ σ' H' Γ', Grd B F W H' → Slots K W Γ' σ' H' → P.ct Γ' → D.ct σ' H')
def XS (X : Cx) (B : Hp) (F W : List Addr) (st : Stmt) (Γ : Gam) (P : Pst) : Prop := PS X st (tS X.K B F W Γ P)
def XB (X : Cx) (B : Hp) (F W : List Addr) (st : List Stmt) (Γ : Gam) (P : Pst) : Prop := PSs X st (tS X.K B F W Γ P)
def anyB (X : Cx) (st : List Stmt) : TS := fun D σ H => ∃ B F W Γ P, XB X B F W st Γ P ∧ tS X.K B F W Γ P D σ H
theorem pss_any {X : Cx} {st : List Stmt} : PSs X st (anyB X st) := ⟨fun pins s σ H D I h => by
  obtain ⟨B, F, W, Γ, P, h1, h2⟩ := h
  exact PSs.run h1 pins s σ H D I h2⟩
theorem PSs.imp {X : Cx} {st : List Stmt} {t t' : TS} (h : PSs X st t) (f : ∀ D σ H, t' D σ H → t D σ H) : PSs X st t' := ⟨fun pins s σ H D I q => h.run pins s σ H D I (f D σ H q)⟩
theorem PS.imp {X : Cx} {st : Stmt} {t t' : TS} (h : PS X st t) (f : ∀ D σ H, t' D σ H → t D σ H) : PS X st t' := ⟨fun pins s σ H D I q => h.run pins s σ H D I (f D σ H q)⟩
theorem Slots.put {K : PySem.W.Frag} {W : List Addr} {Γ : Gam} {σ : L2.St} {H : Hp} {i : Nat} {v : V} {r : Ent} (s : Slots K W Γ σ H) (h : EntOk K H v r) : Slots K W (Γ.set i (some r)) (σ.set i (some v)) H := by
  refine ⟨by rw [List.length_set, List.length_set]; exact s.len, fun j e hj => ?_, s.there⟩
  by_cases hij : j = i
  · subst hij
    have hl : j < Γ.length := by
      have := (List.getElem?_eq_some_iff.mp hj).1
      rw [List.length_set] at this
      exact this
    rw [List.getElem?_set_self hl] at hj
    cases hj
    exact ⟨v, by rw [List.getElem?_set_self (by rw [s.len]; exact hl)], h⟩
  · rw [List.getElem?_set_ne (Ne.symm hij)] at hj
    obtain ⟨u, h1, h2⟩ := s.at_ j e hj
    exact ⟨u, by rw [List.getElem?_set_ne (Ne.symm hij)]; exact h1, h2⟩
section
variable {X : Cx} {B : Hp} {F W : List Addr} {Γ : Gam} {P : Pst} {a b c e : Expr} {pos p p' p2 : Pos} {k : Nat} {rest body : List Stmt} {x y : Str} {st : Stmt}
theorem b_nil (h : P.nx Γ) : XB X B F W [] Γ P := PSs.imp pss_nil fun D σ H q => q.2.2.1 σ H Γ q.1 q.2.1 h
/-- a statement that goes on -/
theorem b_go {t : TS} (q : PS X st t) (h : ∀ (D : Ends) σ H, Grd B F W H → Slots X.K W Γ σ H → (∀ σ' H' Γ', Grd B F W H' → Slots X.K W Γ' σ' H' → XB X B F W rest Γ' P → D.nx σ' H') → t D σ H) : XB X B F W (st :: rest) Γ P := by
  refine PSs.imp (pss_cons q pss_any) fun D σ H z => ?_
  exact h { D with nx := anyB X rest D } σ H z.1 z.2.1 fun σ' H' Γ' g s hx => ⟨B, F, W, Γ', P, hx, g, s, z.2.2⟩
def Ent.old : Ent → Bool
  | .n _ => false
  | _ => true
theorem ResOk.old {K : PySem.W.Frag} {H H2 : Hp} {v : V} {r : Ent} (h : r.old = true) (o : EntOk K H2 v r) : ResOk K H H2 v r := by
  cases r with
  | n ds => cases h
  | _ => exact o
/-- name = e -/
theorem b_set (i : Nat) (hN : X.N.Nodup) (h : XE X W e Γ fun Γ1 r => r.old = true ∧ XB X B F W rest (Γ1.set i (some r)) P) (hi : X.N[i]? = some x := by rfl) (hx : Loc X.env.scope x := by first | exact .inl rfl | exact .inr rfl) (hs : swapsWith e (some (.Name x p')) pos.line X.env = pure false := by rfl)
    (hf : X.fn x = true ∨ X.env.scope.names.lookup x = some .local := by first | exact .inl rfl | exact .inr rfl) : XB X B F W (.Assign [.Name x p'] e pos :: rest) Γ P :=
  b_go (ps_set (i := i) hN hi hx (pe_any (W := W)) hs hf) fun D σ H g s q => ⟨Γ, _, h, s, fun v H2 Γ2 r c s2 o p => q _ H2 _ (g.step c) (s2.put o.ent) p.2⟩
/-- what a new list's address is not -/
def New (Γ : Gam) (a : Addr) : Prop := ∀ (j : Nat) (e : Ent), Γ[j]? = some (some e) → (∀ ds, e ≠ .r ds) → (∀ ds, e ≠ .n ds) → e.off a
/-- name = a new list -/
theorem b_setN (i : Nat) (hN : X.N.Nodup) (h : XE X W e Γ fun Γ1 r => ∃ ds, r = .n ds ∧ ∀ a, B a = none → New Γ a → a ∉ W → XB X B F W rest (Γ1.set i (some (.w a ds))) P) (hi : X.N[i]? = some x := by rfl) (hx : Loc X.env.scope x := by first | exact .inl rfl | exact .inr rfl) (hs : swapsWith e (some (.Name x p')) pos.line X.env = pure false := by rfl)
    (hf : X.fn x = true ∨ X.env.scope.names.lookup x = some .local := by first | exact .inl rfl | exact .inr rfl) : XB X B F W (.Assign [.Name x p'] e pos :: rest) Γ P :=
  b_go (ps_set (i := i) hN hi hx (pe_any (W := W)) hs hf) fun D σ H g s q => ⟨Γ, _, h, s, fun v H2 Γ2 r c s2 o p => by
    obtain ⟨ds, rfl, hp⟩ := p
    obtain ⟨a, xs, rfl, na, ha, hd⟩ := o
    refine q _ H2 _ (g.step c) (s2.put (show EntOk X.K H2 (.ref a) (.w a ds) from ⟨rfl, xs, ha, hd⟩)) (hp a (g.ch.none_back na) (fun j e hj n1 n2 => ?_) fun hw => s.there a hw na)
    obtain ⟨u, h1, h2⟩ := s.at_ j e hj
    cases e with
    | d x => trivial
    | k b es => trivial
    | w b es =>
      obtain ⟨_, ys, h3, _⟩ := h2
      exact ne_of_none h3 na
    | r es => exact (n1 es rfl).elim
    | n es => exact (n2 es rfl).elim⟩
/-- a list that this def has made, from now on also changed by what is called -/
theorem b_wide {i : Nat} {a : Addr} {ds : List PyData} (hi : Γ[i]? = some (some (.w a ds))) (ha : B a = none) (h : XB X B F (a :: W) rest Γ P) : XB X B F W rest Γ P :=
  PSs.imp h fun D σ H q => by
    have back : ∀ {H' : Hp}, Grd B F (a :: W) H' → Grd B F W H' := fun g => ⟨g.ch, fun b hb => g.w b (List.mem_cons_of_mem _ hb)⟩
    have backS : ∀ {Γ' : Gam} {σ' : L2.St} {H' : Hp}, Slots X.K (a :: W) Γ' σ' H' → Slots X.K W Γ' σ' H' := fun s => ⟨s.len, s.at_, fun b hb => s.there b (List.mem_cons_of_mem _ hb)⟩
    refine ⟨⟨q.1.ch, fun b hb => ?_⟩, ⟨q.2.1.len, q.2.1.at_, fun b hb => ?_⟩, fun σ' H' Γ' g s p => q.2.2.1 σ' H' Γ' (back g) (backS s) p, fun v σ' H' Γ' r g s o p => q.2.2.2.1 v σ' H' Γ' r (back g) (backS s) o p,
      fun σ' H' Γ' g s p => q.2.2.2.2.1 σ' H' Γ' (back g) (backS s) p, fun σ' H' Γ' g s p => q.2.2.2.2.2 σ' H' Γ' (back g) (backS s) p⟩
    · rcases List.mem_cons.mp hb with rfl | hb
      · exact .inr ha
      · exact q.1.w b hb
    · rcases List.mem_cons.mp hb with rfl | hb
      · obtain ⟨v, _, _, xs, h3, _⟩ := q.2.1.at_ i _ hi
        rw [h3]
        simp
      · exact q.2.1.there b hb
/-- return e -/
theorem b_ret (h : XE X W e Γ P.rt) : XB X B F W (.Return (some e) pos :: rest) Γ P :=
  PSs.imp (pss_cons (ps_ret (pe_any (W := W))) (pss_never (sts := rest))) fun D σ H q => ⟨Γ, _, h, q.2.1, fun v H2 Γ2 r c s2 o p => q.2.2.2.1 v σ H2 Γ2 r (q.1.step c) s2 (o.back q.1.ch) p⟩
/-- if -/
theorem b_if {A C : List Stmt} (h : XT X W c Γ fun Γ1 b => (b = true → XB X B F W A Γ1 { P with nx := fun Γ2 => XB X B F W rest Γ2 P }) ∧ (b = false → XB X B F W C Γ1 { P with nx := fun Γ2 => XB X B F W rest Γ2 P })) : XB X B F W (.If c A C pos :: rest) Γ P := by
  refine PSs.imp (pss_cons (ps_if (pt_any (W := W)) pss_any pss_any) pss_any) fun D σ H q => ⟨Γ, _, h, q.2.1, fun b1 H1 Γ1 c1 s1 p1 => ?_⟩
  have go : ∀ {Z : List Stmt}, XB X B F W Z Γ1 { P with nx := fun Γ2 => XB X B F W rest Γ2 P } → anyB X Z { D with nx := anyB X rest D } σ H1 := fun hz =>
    ⟨B, F, W, Γ1, _, hz, q.1.step c1, s1, fun σ' H' Γ' g s p => ⟨B, F, W, Γ', P, p, g, s, q.2.2⟩, q.2.2.2⟩
  cases b1 with
  | true => exact go (p1.1 rfl)
  | false => exact go (p1.2 rfl)
/-- the way of an if that is not taken -/
theorem b_never {Z : List Stmt} (h : False) : XB X B F W Z Γ P := h.elim
/-- an if whose test fails: what stands in it is not looked at -/
theorem b_skip {A : List Stmt} (h : XT X W c Γ fun Γ1 b => b = false ∧ XB X B F W rest Γ1 P) : XB X B F W (.If c A [] pos :: rest) Γ P := by
  refine PSs.imp (pss_cons (ps_if (pt_any (W := W)) pss_never pss_nil) pss_any) fun D σ H q => ⟨Γ, _, h, q.2.1, fun b1 H1 Γ1 c1 s1 p1 => ?_⟩
  obtain ⟨rfl, hp⟩ := p1
  exact ⟨B, F, W, Γ1, P, hp, q.1.step c1, s1, q.2.2⟩
/-- while -/
theorem b_while (I : Nat → Gam → Prop) (m0 : Nat) (h0 : I m0 Γ) (h : ∀ m Γ1, I m Γ1 → XT X W c Γ1 fun Γ2 b => (b = true → XB X B F W body Γ2 { nx := fun Γ3 => ∃ m', m' < m ∧ I m' Γ3, ct := fun Γ3 => ∃ m', m' < m ∧ I m' Γ3, bk := fun Γ3 => XB X B F W rest Γ3 P, rt := P.rt }) ∧ (b = false → XB X B F W rest Γ2 P))
    (hp : PassesOwn (model X.prog X.w) X.A X.env X.xe := by exact PassesOwn.never) : XB X B F W (.While c body [] pos :: rest) Γ P := by
  refine PSs.imp (pss_cons (ps_while hp (pt_any (W := W)) pss_any) pss_any) fun D σ H q => ?_
  refine ⟨fun m σ' H' => ∃ Γ', I m Γ' ∧ Grd B F W H' ∧ Slots X.K W Γ' σ' H', ⟨m0, Γ, h0, q.1, q.2.1⟩, fun m σ1 H1 hW => ?_⟩
  obtain ⟨Γ1, i1, g1, s1⟩ := hW
  refine ⟨Γ1, _, h m Γ1 i1, s1, fun b2 H2 Γ2 c2 s2 p2 => ?_⟩
  cases b2 with
  | true =>
    refine ⟨fun σ' H' => ∃ m', m' < m ∧ ∃ Γ', I m' Γ' ∧ Grd B F W H' ∧ Slots X.K W Γ' σ' H', fun σ' H' z => z, B, F, W, Γ2, _, p2.1 rfl, g1.step c2, s2, fun σ' H' Γ' g s p => ?_, q.2.2.2.1, fun σ' H' Γ' g s p => ⟨B, F, W, Γ', P, p, g, s, q.2.2⟩, fun σ' H' Γ' g s p => ?_⟩
    · obtain ⟨m', hm, hi⟩ := p
      exact ⟨m', hm, Γ', hi, g, s⟩
    · obtain ⟨m', hm, hi⟩ := p
      exact ⟨m', hm, Γ', hi, g, s⟩
  | false => exact ⟨B, F, W, Γ2, P, p2.2 rfl, g1.step c2, s2, q.2.2⟩
end
end L3
set_option Elab.async false
set_option linter.all false
set_option maxRecDepth 100000
set_option maxHeartbeats 1000000
/-! targets, loops -/
namespace L3
open PySem PySem.Spec PyProof.Rows L2
/-- a target takes the datum d -/
def tG (K : PySem.W.Frag) (W : List Addr) (Γ : Gam) (d : PyData) (Γ' : Gam) (js : List Nat) : TG := fun v σ H Q => Dt K H v d ∧ Slots K W Γ σ H ∧ ∀ σ', Slots K W Γ' σ' H → (∀ j, j ∉ js → σ'[j]? = σ[j]?) ∧ σ'.length = σ.length → Q σ' H
def XG (X : Cx) (W : List Addr) (tg : Expr) (Γ : Gam) (d : PyData) (Γ' : Gam) (js : List Nat) : Prop := PG X tg (tG X.K W Γ d Γ' js)
def anyG (X : Cx) (W : List Addr) (tg : Expr) : TG := fun v σ H Q => ∃ Γ d Γ' js, XG X W tg Γ d Γ' js ∧ tG X.K W Γ d Γ' js v σ H Q
theorem pg_any {X : Cx} {W : List Addr} {tg : Expr} : PG X tg (anyG X W tg) := ⟨fun pins s σ H v u Q I r h => by
  obtain ⟨Γ, d, Γ', js, h1, h2⟩ := h
  exact PG.run h1 pins s σ H v u Q I r h2⟩
theorem PG.imp {X : Cx} {tg : Expr} {t t' : TG} (h : PG X tg t) (f : ∀ v σ H Q, t' v σ H Q → t v σ H Q) : PG X tg t' := ⟨fun pins s σ H v u Q I r q => h.run pins s σ H v u Q I r (f v σ H Q q)⟩
section
variable {X : Cx} {W : List Addr} {Γ : Gam} {d e f : PyData} {p p1 p2 p3 : Pos} {x y z : Str}
theorem g_name (i : Nat) (hN : X.N.Nodup) (hi : X.N[i]? = some x := by rfl) (hx : Loc X.env.scope x := by first | exact .inl rfl | exact .inr rfl) (hf : X.fn x = true ∨ X.env.scope.names.lookup x = some .local := by first | exact .inl rfl | exact .inr rfl) :
    XG X W (.Name x p) Γ d (Γ.set i (some (.d d))) [i] :=
  PG.imp (pg_name hN hi hx hf) fun v σ H Q q => q.2.2 _ (q.2.1.put (r := .d d) q.1) ⟨fun j hj => by rw [List.getElem?_set_ne (fun z => hj (by simp [z]))], by simp⟩
theorem dt_two {K : PySem.W.Frag} {H : Hp} {v : V} (h : Dt K H v (.tuple [d, e])) : ∃ a v1 v2, v = .ref a ∧ SqT K H a [v1, v2] ∧ Dt K H v1 d ∧ Dt K H v2 e := by
  cases h with
  | tup h1 h2 =>
    cases h2 with
    | cons a b =>
      cases b with
      | cons c g =>
        cases g
        exact ⟨_, _, _, rfl, h1, a, c⟩
theorem dt_three {K : PySem.W.Frag} {H : Hp} {v : V} (h : Dt K H v (.tuple [d, e, f])) : ∃ a v1 v2 v3, v = .ref a ∧ SqT K H a [v1, v2, v3] ∧ Dt K H v1 d ∧ Dt K H v2 e ∧ Dt K H v3 f := by
  cases h with
  | tup h1 h2 =>
    cases h2 with
    | cons a b =>
      cases b with
      | cons c g =>
        cases g with
        | cons m n =>
          cases n
          exact ⟨_, _, _, _, rfl, h1, a, c, m⟩
theorem g_tup2 (i j : Nat) {kk} (hc : X.calm = true) (hN : X.N.Nodup) (hi : X.N[i]? = some x := by rfl) (hj : X.N[j]? = some y := by rfl) (hx : Loc X.env.scope x := by first | exact .inl rfl | exact .inr rfl) (hy : Loc X.env.scope y := by first | exact .inl rfl | exact .inr rfl)
    (hf : X.fn x = true ∨ X.env.scope.names.lookup x = some .local := by first | exact .inl rfl | exact .inr rfl) (hf2 : X.fn y = true ∨ X.env.scope.names.lookup y = some .local := by first | exact .inl rfl | exact .inr rfl)
    (hs : (assignEach [.Name x p1, .Name y p2] X.env).map (·.2) = assign (.Name x p1) X.env :: (assignEach [.Name y p2] X.env).map (·.2) := by rfl) (hs2 : (assignEach [.Name y p2] X.env).map (·.2) = assign (.Name y p2) X.env :: (assignEach [] X.env).map (·.2) := by rfl)
    (hn : (assignEach [.Name x p1, .Name y p2] X.env).length = 2 := by rfl) (hst : (assignEach [.Name x p1, .Name y p2] X.env).findIdx? (·.1) = none := by rfl) :
    XG X W (.Tuple [.Name x p1, .Name y p2] kk p) Γ (.tuple [d, e]) ((Γ.set i (some (.d d))).set j (some (.d e))) [i, j] := by
  refine PG.imp (pg_tup hc (pgs_cons (pg_name hN hi hx hf) (pgs_cons (pg_name hN hj hy hf2) pgs_nil hs2) hs) hn hst) fun v σ H Q q => ?_
  obtain ⟨a, v1, v2, rfl, h1, h2, h3⟩ := dt_two q.1
  refine ⟨a, [v1, v2], rfl, h1, rfl, v1, [v2], rfl, v2, [], rfl, rfl, ?_⟩
  refine q.2.2 _ ((q.2.1.put (r := .d d) h2).put (r := .d e) h3) ⟨fun k hk => ?_, by simp⟩
  rw [List.getElem?_set_ne (fun z => hk (by simp [z])), List.getElem?_set_ne (fun z => hk (by simp [z]))]
theorem g_tup3 (i j k : Nat) {kk} (hc : X.calm = true) (hN : X.N.Nodup) (hi : X.N[i]? = some x := by rfl) (hj : X.N[j]? = some y := by rfl) (hk : X.N[k]? = some z := by rfl) (hx : Loc X.env.scope x := by first | exact .inl rfl | exact .inr rfl) (hy : Loc X.env.scope y := by first | exact .inl rfl | exact .inr rfl) (hz : Loc X.env.scope z := by first | exact .inl rfl | exact .inr rfl)
    (hf : X.fn x = true ∨ X.env.scope.names.lookup x = some .local := by first | exact .inl rfl | exact .inr rfl) (hf2 : X.fn y = true ∨ X.env.scope.names.lookup y = some .local := by first | exact .inl rfl | exact .inr rfl) (hf3 : X.fn z = true ∨ X.env.scope.names.lookup z = some .local := by first | exact .inl rfl | exact .inr rfl)
    (hs : (assignEach [.Name x p1, .Name y p2, .Name z p3] X.env).map (·.2) = assign (.Name x p1) X.env :: (assignEach [.Name y p2, .Name z p3] X.env).map (·.2) := by rfl) (hs2 : (assignEach [.Name y p2, .Name z p3] X.env).map (·.2) = assign (.Name y p2) X.env :: (assignEach [.Name z p3] X.env).map (·.2) := by rfl) (hs3 : (assignEach [.Name z p3] X.env).map (·.2) = assign (.Name z p3) X.env :: (assignEach [] X.env).map (·.2) := by rfl)
    (hn : (assignEach [.Name x p1, .Name y p2, .Name z p3] X.env).length = 3 := by rfl) (hst : (assignEach [.Name x p1, .Name y p2, .Name z p3] X.env).findIdx? (·.1) = none := by rfl) :
    XG X W (.Tuple [.Name x p1, .Name y p2, .Name z p3] kk p) Γ (.tuple [d, e, f]) (((Γ.set i (some (.d d))).set j (some (.d e))).set k (some (.d f))) [i, j, k] := by
  refine PG.imp (pg_tup hc (pgs_cons (pg_name hN hi hx hf) (pgs_cons (pg_name hN hj hy hf2) (pgs_cons (pg_name hN hk hz hf3) pgs_nil hs3) hs2) hs) hn hst) fun v σ H Q q => ?_
  obtain ⟨a, v1, v2, v3, rfl, h1, h2, h3, h4⟩ := dt_three q.1
  refine ⟨a, [v1, v2, v3], rfl, h1, rfl, v1, [v2, v3], rfl, v2, [v3], rfl, v3, [], rfl, rfl, ?_⟩
  refine q.2.2 _ (((q.2.1.put (r := .d d) h2).put (r := .d e) h3).put (r := .d f) h4) ⟨fun m hm => ?_, by simp⟩
  rw [List.getElem?_set_ne (fun z => hm (by simp [z])), List.getElem?_set_ne (fun z => hm (by simp [z])), List.getElem?_set_ne (fun z => hm (by simp [z]))]
end
section
variable {X : Cx} {B : Hp} {F W : List Addr} {Γ : Gam} {P : Pst} {a b c e tg : Expr} {pos p p' p2 p3 p4 : Pos} {k : Nat} {rest body : List Stmt} {x y : Str} {st : Stmt}
/-- a pattern = e -/
theorem b_asg (h : XE X W e Γ fun Γ1 r => ∃ d Γ2 js, r = .d d ∧ XG X W tg Γ1 d Γ2 js ∧ XB X B F W rest Γ2 P) (hs : swapsWithSole [tg] e pos.line X.env = pure false := by rfl) (hw : swappedStores [tg] e X.env = pure none := by rfl)
    (h1 : (assignEach [tg] X.env).map (·.2) = [assign tg X.env] := by rfl) : XB X B F W (.Assign [tg] e pos :: rest) Γ P :=
  b_go (ps_asg (pe_any (W := W)) (pg_any (W := W)) hs hw h1) fun D σ H g s q => ⟨Γ, _, h, s, fun v H2 Γ1 r c s2 o p => by
    obtain ⟨d, Γ2, js, rfl, hg, hb⟩ := p
    exact ⟨Γ1, d, Γ2, js, hg, o, s2, fun σ' s' _ => q σ' H2 Γ2 (g.step c) s' hb⟩⟩
/-- x, y = a, b -/
theorem b_par (i j : Nat) {kt k2} (hc : X.calm = true) (hN : X.N.Nodup) (h : XA X W [a, b] Γ fun Γ1 rs => ∃ d1 d2, rs = [.d d1, .d d2] ∧ XB X B F W rest ((Γ1.set i (some (.d d1))).set j (some (.d d2))) P) (hi : X.N[i]? = some x := by rfl) (hj : X.N[j]? = some y := by rfl) (hij : i ≠ j := by decide)
    (hx : X.env.scope.names.lookup x = some .local := by rfl) (hy : X.env.scope.names.lookup y = some .local := by rfl) (hw : swappedStores [.Tuple [.Name x p, .Name y p2] kt p3] (.Tuple [a, b] k2 p4) X.env = pure (some [x, y]) := by rfl)
    (hs : swapsWithSole [.Tuple [.Name x p, .Name y p2] kt p3] (.Tuple [a, b] k2 p4) pos.line X.env = pure false := by rfl) : XB X B F W (.Assign [.Tuple [.Name x p, .Name y p2] kt p3] (.Tuple [a, b] k2 p4) pos :: rest) Γ P :=
  b_go (ps_par hc hN hi hj hij hx hy (pa_any (W := W)) hw hs) fun D σ H g s q => ⟨Γ, _, h, s, fun vs H2 Γ1 rs c s2 o p => by
    obtain ⟨d1, d2, rfl, hb⟩ := p
    cases o with
    | cons o1 o =>
      cases o with
      | cons o2 o =>
        cases o
        exact ⟨_, _, rfl, q _ H2 _ (g.step c) ((s2.put (r := .d d1) o1).put (r := .d d2) o2) hb⟩⟩
/-- x, y = a list of two -/
theorem b_two (i j : Nat) {kk} (hc : X.calm = true) (hN : X.N.Nodup) (h : XE X W e Γ fun Γ1 r => ∃ d1 d2, r.lst = some [d1, d2] ∧ XB X B F W rest ((Γ1.set i (some (.d d1))).set j (some (.d d2))) P) (hi : X.N[i]? = some x := by rfl) (hj : X.N[j]? = some y := by rfl)
    (hx : Loc X.env.scope x := by first | exact .inl rfl | exact .inr rfl) (hy : Loc X.env.scope y := by first | exact .inl rfl | exact .inr rfl)
    (hf : X.fn x = true ∨ X.env.scope.names.lookup x = some .local := by first | exact .inl rfl | exact .inr rfl) (hf2 : X.fn y = true ∨ X.env.scope.names.lookup y = some .local := by first | exact .inl rfl | exact .inr rfl)
    (hs : swapsWithSole [.Tuple [.Name x p, .Name y p2] kk p3] e pos.line X.env = pure false := by rfl) (hw : swappedStores [.Tuple [.Name x p, .Name y p2] kk p3] e X.env = pure none := by rfl)
    (h1 : (assignEach [.Tuple [.Name x p, .Name y p2] kk p3] X.env).map (·.2) = [assign (.Tuple [.Name x p, .Name y p2] kk p3) X.env] := by rfl)
    (hs1 : (assignEach [.Name x p, .Name y p2] X.env).map (·.2) = assign (.Name x p) X.env :: (assignEach [.Name y p2] X.env).map (·.2) := by rfl) (hs2 : (assignEach [.Name y p2] X.env).map (·.2) = assign (.Name y p2) X.env :: (assignEach [] X.env).map (·.2) := by rfl)
    (hn : (assignEach [.Name x p, .Name y p2] X.env).length = 2 := by rfl) (hst : (assignEach [.Name x p, .Name y p2] X.env).findIdx? (·.1) = none := by rfl) : XB X B F W (.Assign [.Tuple [.Name x p, .Name y p2] kk p3] e pos :: rest) Γ P :=
  b_go (ps_asg (pe_any (W := W)) (pg_lst hc (pgs_cons (pg_name hN hi hx hf) (pgs_cons (pg_name hN hj hy hf2) pgs_nil hs2) hs1) hn hst) hs hw h1) fun D σ H g s q => ⟨Γ, _, h, s, fun v H2 Γ1 r c s2 o p => by
    obtain ⟨d1, d2, hl, hb⟩ := p
    obtain ⟨a, xs, rfl, hq, hd⟩ := o.ent.list hl
    cases hd with
    | cons o1 hd =>
      cases hd with
      | cons o2 hd =>
        cases hd
        exact ⟨a, _, rfl, hq, rfl, _, _, rfl, _, _, rfl, rfl, q _ H2 _ (g.step c) ((s2.put (r := .d d1) o1).put (r := .d d2) o2) hb⟩⟩
/-! ### changing a list -/
theorem upd_lst {K : PySem.W.Frag} {H : Hp} {a : Addr} {xs ys : List V} (h : H a = some (.lst xs)) : Ch [a] H (upd H a (.lst ys)) :=
  ⟨fun b zs e => by rw [upd_ne (fun z => by rw [z, h] at e; cases e)]; exact e, fun b o u e => by rw [upd_ne (fun z => by rw [z, h] at e; cases e)]; exact e,
    fun b o n e => by rw [upd_ne (fun z => n (by simp [z]))]; exact e, fun b e => by
      by_cases hb : b = a
      · subst hb; rw [upd_same]; simp
      · rw [upd_ne hb]; exact e⟩
/-- the slots and the ground behind a list's change -/
theorem list_chg {K : PySem.W.Frag} {σ : L2.St} {H : Hp} {i : Nat} {a : Addr} {ds ds' : List PyData} {xs ys : List V} (g : Grd B F W H) (s : Slots K W Γ σ H) (hi : Γ[i]? = some (some (.w a ds))) (al : Alone Γ i a) (ha : a ∈ W) (hx : H a = some (.lst xs)) (hd : DtAll K H ys ds') :
    Grd B F W (upd H a (.lst ys)) ∧ Slots K W (Γ.set i (some (.w a ds'))) σ (upd H a (.lst ys)) := by
  have c : Ch [a] H (upd H a (.lst ys)) := upd_lst (K := K) hx
  exact ⟨g.step (c.wider fun b hb => by rw [List.mem_singleton.mp hb]; exact ha), s.chg hi al c ⟨rfl, ys, upd_same, DtAll.ch c _ _ hd⟩⟩
theorem b_append (i : Nat) {r0 : Ent} {ds0 : List PyData} (h0 : Γ[i]? = some (some r0)) (hw0 : r0.lst = some ds0) (h : XE X W e Γ fun Γ2 r => ∃ a ds d, Γ2[i]? = some (some (.w a ds)) ∧ Alone Γ2 i a ∧ a ∈ W ∧ r = .d d ∧ ds.length < 1000 ∧ XB X B F W rest (Γ2.set i (some (.w a (ds ++ [d])))) P)
    (hN : X.N[i]? = some x := by rfl) (hv : Vis X.env.scope x := by first | exact Or.inl rfl | exact Or.inr (Or.inl rfl) | exact Or.inr (Or.inr rfl)) (hd : (x == ("__debug__" : Str)) = false := by decide) (hcd : (x == ("__classdict__" : Str)) = false := by decide)
    (hbase : attributeBase (.Name x p) "append" X.env (eval (.Name x p) X.env) = eval (.Name x p) X.env := by rfl)
    (hfew : ((backTo p3 (starEach [e] X.env)).all (fun x => !x.1) && (backToKw p3 (keywordEach [] X.env)).all (fun x => x.1.isSome)
      && decide (([e] : List Expr).length + ([] : List Keyword).length + (if ([] : List Keyword).isEmpty then 0 else 1) < 30)) = true := by rfl)
    (hline : (p2.endLine == p3.line) = true := by rfl) (hs : starEach [e] X.env = (false, eval e X.env) :: starEach [] X.env := by rfl) (hplain : (backTo p3 (starEach [] X.env)).any (·.1) = false := by rfl)
    (hsw : swapsWith (.Call (.Attribute (.Name x p) "append" p2) [e] [] p3) none pos.line X.env = pure false := by rfl) : XB X B F W (.Expr (.Call (.Attribute (.Name x p) "append" p2) [e] [] p3) pos :: rest) Γ P :=
  b_go (ps_expr (pe_bm PySem.F.plainAttrs_list PySem.F.slot_list_append PySem.F.type_list_append mt_append (pe_var hN hv hd hcd) (pa_cons (pe_any (W := W)) pa_nil hs) hbase hfew hline hs hplain) hsw) fun D σ H g s q => by
    obtain ⟨v, g1, o1⟩ := s.at_ i r0 h0
    obtain ⟨a0, xs0, rfl, hq0, _⟩ := o1.list hw0
    refine ⟨_, g1, .inl ⟨rfl, _, hq0⟩, Γ, _, h, s, fun u H2 Γ2 r c s2 o p => ?_⟩
    obtain ⟨a, ds, d, g2, al, ha, rfl, hl, hb⟩ := p
    obtain ⟨v', g1', rfl, xs, h1, h2⟩ := s2.at_ i _ g2
    rw [g1] at g1'
    cases g1'
    refine ⟨_, xs, u, rfl, rfl, h1, size_lt (by rw [h2.length]; omega), ?_⟩
    obtain ⟨ga, sa⟩ := list_chg (g.step c) s2 g2 al ha h1 (h2.append (.cons o .nil))
    exact q _ _ _ ga sa hb
theorem b_extend (i : Nat) {r0 : Ent} {ds0 : List PyData} (h0 : Γ[i]? = some (some r0)) (hw0 : r0.lst = some ds0) (h : XE X W e Γ fun Γ2 r => ∃ a ds es, Γ2[i]? = some (some (.w a ds)) ∧ Alone Γ2 i a ∧ a ∈ W ∧ r.own = some es ∧ ds.length + es.length ≤ 1000 ∧ XB X B F W rest (Γ2.set i (some (.w a (ds ++ es)))) P)
    (hN : X.N[i]? = some x := by rfl) (hv : Vis X.env.scope x := by first | exact Or.inl rfl | exact Or.inr (Or.inl rfl) | exact Or.inr (Or.inr rfl)) (hd : (x == ("__debug__" : Str)) = false := by decide) (hcd : (x == ("__classdict__" : Str)) = false := by decide)
    (hbase : attributeBase (.Name x p) "extend" X.env (eval (.Name x p) X.env) = eval (.Name x p) X.env := by rfl)
    (hfew : ((backTo p3 (starEach [e] X.env)).all (fun x => !x.1) && (backToKw p3 (keywordEach [] X.env)).all (fun x => x.1.isSome)
      && decide (([e] : List Expr).length + ([] : List Keyword).length + (if ([] : List Keyword).isEmpty then 0 else 1) < 30)) = true := by rfl)
    (hline : (p2.endLine == p3.line) = true := by rfl) (hs : starEach [e] X.env = (false, eval e X.env) :: starEach [] X.env := by rfl) (hplain : (backTo p3 (starEach [] X.env)).any (·.1) = false := by rfl)
    (hsw : swapsWith (.Call (.Attribute (.Name x p) "extend" p2) [e] [] p3) none pos.line X.env = pure false := by rfl) : XB X B F W (.Expr (.Call (.Attribute (.Name x p) "extend" p2) [e] [] p3) pos :: rest) Γ P :=
  b_go (ps_expr (pe_bm PySem.F.plainAttrs_list PySem.F.slot_list_extend PySem.F.type_list_extend mt_extend (pe_var hN hv hd hcd) (pa_cons (pe_any (W := W)) pa_nil hs) hbase hfew hline hs hplain) hsw) fun D σ H g s q => by
    obtain ⟨v, g1, o1⟩ := s.at_ i r0 h0
    obtain ⟨a0, xs0, rfl, hq0, _⟩ := o1.list hw0
    refine ⟨_, g1, .inl ⟨rfl, _, hq0⟩, Γ, _, h, s, fun u H2 Γ2 r c s2 o p => ?_⟩
    obtain ⟨a, ds, es, g2, al, ha, he, hl, hb⟩ := p
    obtain ⟨v', g1', rfl, xs, h1, h2⟩ := s2.at_ i _ g2
    rw [g1] at g1'
    cases g1'
    obtain ⟨b, ys, rfl, h3, h4⟩ := o.ent.owned he
    refine ⟨_, b, xs, ys, rfl, rfl, h1, h3, size_ok (by rw [h2.length, h4.length]; exact hl), ?_⟩
    obtain ⟨ga, sa⟩ := list_chg (g.step c) s2 g2 al ha h1 (h2.append h4)
    exact q _ _ _ ga sa hb
/-- name.pop(k) -/
theorem b_pop (i : Nat) {r0 : Ent} {ds0 : List PyData} (h0 : Γ[i]? = some (some r0)) (hw0 : r0.lst = some ds0) (h : XE X W e Γ fun Γ2 r => ∃ a ds, ∃ k : Nat, Γ2[i]? = some (some (.w a ds)) ∧ Alone Γ2 i a ∧ a ∈ W ∧ r = .d (.int k) ∧ k < ds.length ∧ ds.length ≤ 1000 ∧ XB X B F W rest (Γ2.set i (some (.w a (ds.eraseIdx k)))) P)
    (hN : X.N[i]? = some x := by rfl) (hv : Vis X.env.scope x := by first | exact Or.inl rfl | exact Or.inr (Or.inl rfl) | exact Or.inr (Or.inr rfl)) (hd : (x == ("__debug__" : Str)) = false := by decide) (hcd : (x == ("__classdict__" : Str)) = false := by decide)
    (hbase : attributeBase (.Name x p) "pop" X.env (eval (.Name x p) X.env) = eval (.Name x p) X.env := by rfl)
    (hfew : ((backTo p3 (starEach [e] X.env)).all (fun x => !x.1) && (backToKw p3 (keywordEach [] X.env)).all (fun x => x.1.isSome)
      && decide (([e] : List Expr).length + ([] : List Keyword).length + (if ([] : List Keyword).isEmpty then 0 else 1) < 30)) = true := by rfl)
    (hline : (p2.endLine == p3.line) = true := by rfl) (hs : starEach [e] X.env = (false, eval e X.env) :: starEach [] X.env := by rfl) (hplain : (backTo p3 (starEach [] X.env)).any (·.1) = false := by rfl)
    (hsw : swapsWith (.Call (.Attribute (.Name x p) "pop" p2) [e] [] p3) none pos.line X.env = pure false := by rfl) : XB X B F W (.Expr (.Call (.Attribute (.Name x p) "pop" p2) [e] [] p3) pos :: rest) Γ P :=
  b_go (ps_expr (pe_bm PySem.F.plainAttrs_list PySem.F.slot_list_pop PySem.F.type_list_pop mt_popAt (pe_var hN hv hd hcd) (pa_cons (pe_any (W := W)) pa_nil hs) hbase hfew hline hs hplain) hsw) fun D σ H g s q => by
    obtain ⟨v, g1, o1⟩ := s.at_ i r0 h0
    obtain ⟨a0, xs0, rfl, hq0, _⟩ := o1.list hw0
    refine ⟨_, g1, .inl ⟨rfl, _, hq0⟩, Γ, _, h, s, fun u H2 Γ2 r c s2 o p => ?_⟩
    obtain ⟨a, ds, k, g2, al, ha, rfl, hk, hl, hb⟩ := p
    obtain ⟨v', g1', rfl, xs, h1, h2⟩ := s2.at_ i _ g2
    rw [g1] at g1'
    cases g1'
    have e2 : u = .int k := o.ent.ofI
    subst e2
    have hk2 : k < xs.length := by rw [h2.length]; exact hk
    refine ⟨_, xs, k, k, xs[k], rfl, rfl, h1, by omega, by omega, ?_, by simp [hk2], ?_⟩
    · have := seqIndex_of (k := (k : Int)) (n := xs.length) (by omega) (by omega)
      rw [this]
      rfl
    obtain ⟨ga, sa⟩ := list_chg (g.step c) s2 g2 al ha h1 (h2.erase k)
    exact q _ _ _ ga sa hb
/-- name[k] = e -/
theorem b_put (i : Nat) (h : XE X W e Γ fun Γ1 r1 => ∃ r0 d ds0, r1 = .d d ∧ Γ1[i]? = some (some r0) ∧ r0.lst = some ds0 ∧ XE X W b Γ1 fun Γ2 r2 => ∃ a ds, ∃ k : Nat, r2 = .d (.int k) ∧ Γ2[i]? = some (some (.w a ds)) ∧ Alone Γ2 i a ∧ a ∈ W ∧ k < ds.length ∧ XB X B F W rest (Γ2.set i (some (.w a (ds.set k d)))) P)
    (hN : X.N[i]? = some x := by rfl) (hv : Vis X.env.scope x := by first | exact Or.inl rfl | exact Or.inr (Or.inl rfl) | exact Or.inr (Or.inr rfl)) (hd : (x == ("__debug__" : Str)) = false := by decide) (hcd : (x == ("__classdict__" : Str)) = false := by decide)
    (hs : swapsWithSole [.Subscript (.Name x p) b p2] e pos.line X.env = pure false := by rfl) (hw : swappedStores [.Subscript (.Name x p) b p2] e X.env = pure none := by rfl)
    (h1 : (assignEach [.Subscript (.Name x p) b p2] X.env).map (·.2) = [assign (.Subscript (.Name x p) b p2) X.env] := by rfl)
    (ha : ∀ v, assign (.Subscript (.Name x p) b p2) X.env v = (do
      let ov ← holding [v] (eval (.Name x p) X.env)
      let iv ← holding [v, ov] (eval b X.env)
      standAt p2
      holding [v, ov, iv] (setItem ov iv v)
      release [v, ov, iv] []) := by intro _; rfl) : XB X B F W (.Assign [.Subscript (.Name x p) b p2] e pos :: rest) Γ P :=
  b_go (ps_asg (pe_any (W := W)) (pg_sub (pe_var hN hv hd hcd) (pe_any (W := W)) set_list ha) hs hw h1) fun D σ H g s q => ⟨Γ, _, h, s, fun v H1 Γ1 r1 c1 s1 o1 p1 => by
    obtain ⟨r0, d, ds0, rfl, g1, e0, hb⟩ := p1
    obtain ⟨u, hu, ou⟩ := s1.at_ i r0 g1
    refine ⟨u, hu, Γ1, _, hb, s1, fun y H2 Γ2 r2 c2 s2 o2 p2 => ?_⟩
    obtain ⟨a, ds, k, rfl, g2, al, haW, hk, hx⟩ := p2
    obtain ⟨v', g1', rfl, xs, h1, h2⟩ := s2.at_ i _ g2
    rw [hu] at g1'
    cases g1'
    have e2 : y = .int k := o2.ent.ofI
    subst e2
    have hk2 : k < xs.length := by rw [h2.length]; exact hk
    refine ⟨a, xs, k, k, rfl, rfl, h1, ?_, ?_⟩
    · unfold ixN
      simp
      omega
    have o1 : Dt X.K H1 v d := o1
    obtain ⟨ga, sa⟩ := list_chg ((g.step c1).step c2) s2 g2 al haW h1 (h2.set k (Dt.ch c2 _ _ o1))
    exact q _ _ _ ga sa hx⟩
end
end L3
set_option Elab.async false
set_option linter.all false
set_option maxRecDepth 100000
set_option maxHeartbeats 1000000
/-! iterables, for, list comprehensions -/
namespace L3
open PySem PySem.Spec PyProof.Rows L2 RZ
/-- while S, the iterator gives the data ys -/
def Itok (K : PySem.W.Frag) (J : It) (ys : List PyData) (S : Hp → Prop) : Prop :=
  (∀ i H, S H → i < ys.length → J.go i H) ∧ (∀ H, S H → J.stop ys.length H) ∧ (∀ i H x H', S H → J.yld i H x H' → Same H H' ∧ ∀ d, ys[i]? = some d → Dt K H' x d)
abbrev PoI := Gam → (Gam → Prop) → List PyData → Prop
def tI (K : PySem.W.Frag) (W : List Addr) (Γ : Gam) (P : PoI) : TI := fun σ H R => Slots K W Γ σ H ∧
  ∀ J H1 Γ1 ys S fz, Ch W H H1 → Slots K W Γ1 σ H1 → Itok K J ys S → (∀ Γ' σ' H2, Ch W H1 H2 → Slots K W Γ' σ' H2 → fz Γ' → S H2) → P Γ1 fz ys → R J H1
def XI (X : Cx) (W : List Addr) (tg iter : Expr) (Γ : Gam) (P : PoI) : Prop := PI X tg iter (tI X.K W Γ P)
theorem PI.imp {X : Cx} {tg e : Expr} {t t' : TI} (h : PI X tg e t) (f : ∀ σ H R, t' σ H R → t σ H R) : PI X tg e t' := ⟨fun pins s σ H R I q => h.run pins s σ H R I (f σ H R q)⟩
/-- the list at a holds ds -/
def Hold (K : PySem.W.Frag) (a : Addr) (ds : List PyData) (H : Hp) : Prop := ∃ xs, SqL K H a xs ∧ DtAll K H xs ds
theorem itok_list {K : PySem.W.Frag} {a : Addr} {ds : List PyData} : Itok K (Itl K a) ds (Hold K a ds) := by
  refine ⟨fun i H ⟨xs, h1, h2⟩ hi => ?_, fun H ⟨xs, h1, h2⟩ => ⟨xs, h1, by rw [h2.length]; exact Nat.le_refl _⟩, fun i H x H' ⟨xs, h1, h2⟩ y => ?_⟩
  · have : i < xs.length := by rw [h2.length]; exact hi
    exact ⟨xs, xs[i], h1, by simp [this]⟩
  · obtain ⟨rfl, y⟩ := y
    refine ⟨Same.refl H', fun d hd => ?_⟩
    obtain ⟨v, hv, hdv⟩ := h2.get hd
    rw [y xs h1] at hv
    cases hv
    exact hdv
def rngD (lo : Int) (n : Nat) : List PyData := (List.range n).map fun k => .int (lo + (k : Nat))
theorem itok_rng {K : PySem.W.Frag} {lo : Int} {n : Nat} : Itok K (Itr lo n) (rngD lo n) (fun _ => True) := by
  refine ⟨fun i H _ hi => by show i < n; simpa [rngD] using hi, fun H _ => by show n ≤ _; simp [rngD], fun i H x H' _ y => ?_⟩
  obtain ⟨rfl, rfl⟩ := y
  refine ⟨Same.refl H', fun d hd => ?_⟩
  have hi : i < n := by
    have := (List.getElem?_eq_some_iff.mp hd).1
    simpa [rngD] using this
  have : d = .int (lo + (i : Nat)) := by
    simp [rngD, List.getElem?_map, List.getElem?_range hi] at hd
    exact hd.symm
  rw [this]
  exact Dt.int _
def enumD (ds : List PyData) : List PyData := ds.zipIdx.map fun p => .tuple [.int (p.2 : Nat), p.1]
theorem itok_enum {K : PySem.W.Frag} {a : Addr} {ds : List PyData} : Itok K (Ite K a) (enumD ds) (Hold K a ds) := by
  refine ⟨fun i H ⟨xs, h1, h2⟩ hi => ?_, fun H ⟨xs, h1, h2⟩ => ⟨xs, h1, by rw [h2.length]; simp [enumD]⟩, fun i H x H' ⟨xs, h1, h2⟩ y => ?_⟩
  · have : i < xs.length := by rw [h2.length]; simpa [enumD] using hi
    exact ⟨xs, xs[i], h1, by simp [this]⟩
  · obtain ⟨T, z, rfl, hT, rfl, hz⟩ := y
    have sm : Same H (upd H T (.tup [.int (i : Nat), z])) := same_new hT
    refine ⟨sm, fun d hd => ?_⟩
    simp [enumD, List.getElem?_map, List.getElem?_zipIdx] at hd
    obtain ⟨d0, hd0, rfl⟩ := hd
    obtain ⟨v, hv, hdv⟩ := h2.get hd0
    rw [hz xs h1] at hv
    cases hv
    exact Dt.tup (SqT.of upd_same) (.cons (Dt.int _) (.cons (Dt.ch (Ch.of_same (W := []) sm) _ _ hdv) .nil))
def zipD (ds es : List PyData) : List PyData := (ds.zip es).map fun p => .tuple [p.1, p.2]
theorem zip_get {ds es : List PyData} {i : Nat} {d : PyData} (h : (zipD ds es)[i]? = some d) : ∃ x y, ds[i]? = some x ∧ es[i]? = some y ∧ d = .tuple [x, y] := by
  simp [zipD, List.getElem?_map, List.getElem?_zip_eq_some] at h
  obtain ⟨x, y, ⟨h1, h2⟩, h3⟩ := h
  exact ⟨x, y, h1, h2, h3.symm⟩
theorem zipD_len {ds es : List PyData} : (zipD ds es).length = min ds.length es.length := by simp [zipD]
theorem itok_zip {K : PySem.W.Frag} {a b : Addr} {ds es : List PyData} : Itok K (Itz K a b) (zipD ds es) (fun H => Hold K a ds H ∧ Hold K b es H) := by
  refine ⟨fun i H ⟨⟨xs, h1, h2⟩, ys, h3, h4⟩ hi => ?_, fun H ⟨⟨xs, h1, h2⟩, ys, h3, h4⟩ => ⟨xs, ys, h1, h3, by rw [h2.length, h4.length, zipD_len]; omega⟩, fun i H x H' ⟨⟨xs, h1, h2⟩, ys, h3, h4⟩ y => ?_⟩
  · rw [zipD_len] at hi
    have q1 : i < xs.length := by rw [h2.length]; omega
    have q2 : i < ys.length := by rw [h4.length]; omega
    exact ⟨xs, ys, xs[i], ys[i], h1, h3, by simp [q1], by simp [q2]⟩
  · obtain ⟨T, z1, z2, rfl, hT, rfl, hz, hz2⟩ := y
    have sm : Same H (upd H T (.tup [z1, z2])) := same_new hT
    refine ⟨sm, fun d hd => ?_⟩
    obtain ⟨d1, d2, e1, e2, rfl⟩ := zip_get hd
    obtain ⟨v, hv, hdv⟩ := h2.get e1
    obtain ⟨v2, hv2, hdv2⟩ := h4.get e2
    rw [hz xs h1] at hv
    rw [hz2 ys h3] at hv2
    cases hv
    cases hv2
    exact Dt.tup (SqT.of upd_same) (.cons (Dt.ch (Ch.of_same (W := []) sm) _ _ hdv) (.cons (Dt.ch (Ch.of_same (W := []) sm) _ _ hdv2) .nil))
def HoldT (K : PySem.W.Frag) (a : Addr) (ds : List PyData) (H : Hp) : Prop := ∃ xs, SqT K H a xs ∧ DtAll K H xs ds
theorem itok_zipT {K : PySem.W.Frag} {a b : Addr} {ds es : List PyData} : Itok K (ItzT K a b) (zipD ds es) (fun H => HoldT K a ds H ∧ HoldT K b es H) := by
  refine ⟨fun i H ⟨⟨xs, h1, h2⟩, ys, h3, h4⟩ hi => ?_, fun H ⟨⟨xs, h1, h2⟩, ys, h3, h4⟩ => ⟨xs, ys, h1, h3, by rw [h2.length, h4.length, zipD_len]; omega⟩, fun i H x H' ⟨⟨xs, h1, h2⟩, ys, h3, h4⟩ y => ?_⟩
  · rw [zipD_len] at hi
    have q1 : i < xs.length := by rw [h2.length]; omega
    have q2 : i < ys.length := by rw [h4.length]; omega
    exact ⟨xs, ys, xs[i], ys[i], h1, h3, by simp [q1], by simp [q2]⟩
  · obtain ⟨T, z1, z2, rfl, hT, rfl, hz, hz2⟩ := y
    have sm : Same H (upd H T (.tup [z1, z2])) := same_new hT
    refine ⟨sm, fun d hd => ?_⟩
    obtain ⟨d1, d2, e1, e2, rfl⟩ := zip_get hd
    obtain ⟨v, hv, hdv⟩ := h2.get e1
    obtain ⟨v2, hv2, hdv2⟩ := h4.get e2
    rw [hz xs h1] at hv
    rw [hz2 ys h3] at hv2
    cases hv
    cases hv2
    exact Dt.tup (SqT.of upd_same) (.cons (Dt.ch (Ch.of_same (W := []) sm) _ _ hdv) (.cons (Dt.ch (Ch.of_same (W := []) sm) _ _ hdv2) .nil))
/-- a list with an address -/
def Ent.adr : Ent → Option Addr
  | .w a _ => some a
  | .k a _ => some a
  | _ => none
theorem EntOk.hold {K : PySem.W.Frag} {H : Hp} {v : V} {r : Ent} {ds : List PyData} {a : Addr} (h : EntOk K H v r) (e : r.lst = some ds) (ea : r.adr = some a) : v = .ref a ∧ Hold K a ds H := by
  cases r with
  | w b es =>
    cases e; cases ea
    obtain ⟨rfl, xs, h1, h2⟩ := h
    exact ⟨rfl, xs, SqL.of h1, h2⟩
  | k b es =>
    cases e; cases ea
    obtain ⟨rfl, xs, h1, h2⟩ := h
    exact ⟨rfl, xs, h1.1, h2⟩
  | _ => cases ea
section
variable {X : Cx} {W : List Addr} {Γ : Gam} {P : PoI} {a b c e e2 tg : Expr} {pos p p2 p3 : Pos} {x : Str}
/-- a list that a name holds -/
theorem i_var (i : Nat) {r : Ent} {ds : List PyData} {ad : Addr} (hΓ : Γ[i]? = some (some r)) (hl : r.lst = some ds) (had : r.adr = some ad) (k : P Γ (fun Γ' => Γ'[i]? = some (some r)) ds) (hN : X.N[i]? = some x := by rfl) (hv : Vis X.env.scope x := by first | exact Or.inl rfl | exact Or.inr (Or.inl rfl) | exact Or.inr (Or.inr rfl))
    (hd : (x == ("__debug__" : Str)) = false := by decide) (hcd : (x == ("__classdict__" : Str)) = false := by decide) : XI X W tg (.Name x p) Γ P := by
  refine PI.imp (pi_list (pe_var hN hv hd hcd)) fun σ H R q => ?_
  obtain ⟨v, h1, h2⟩ := q.1.at_ i r hΓ
  obtain ⟨rfl, xs, h3, h4⟩ := h2.hold hl had
  refine ⟨_, h1, ad, rfl, ⟨xs, h3⟩, q.2 _ H Γ ds _ _ Ch.refl q.1 itok_list (fun Γ' σ' H2 c s f => ?_) k⟩
  obtain ⟨v', _, h6⟩ := s.at_ i r f
  exact (h6.hold hl had).2
/-- a new list -/
theorem i_new (h : XE X W e Γ fun Γ1 r => ∃ ds, r = .n ds ∧ P Γ1 (fun _ => True) ds) : XI X W tg e Γ P :=
  PI.imp (pi_list (pe_any (W := W))) fun σ H R q => ⟨Γ, _, h, q.1, fun v H2 Γ1 r c s o p => by
    obtain ⟨ds, rfl, hp⟩ := p
    obtain ⟨a, xs, rfl, na, ha, hd⟩ := o
    refine ⟨a, rfl, ⟨xs, SqL.of ha⟩, q.2 _ H2 Γ1 ds _ _ c s itok_list (fun Γ' σ' H3 c' s' _ => ?_) hp⟩
    exact ⟨xs, SqL.of (c'.oth a _ (fun z => q.1.there a z na) ha), DtAll.ch c' _ _ hd⟩⟩
theorem i_rng1 (hm : X.mg "range" = none) (h : XA X W [a] Γ fun Γ1 rs => ∃ j : Int, rs = [.d (.int j)] ∧ -(2 ^ 62) ≤ j ∧ j < 2 ^ 62 ∧ P Γ1 (fun _ => True) (rngD 0 j.toNat)) (hg : Gl X "range" := by rfl) (hs : starEach [a] X.env = [(false, eval a X.env)] := by rfl) : XI X W tg (.Call (.Name "range" p) [a] [] pos) Γ P :=
  PI.imp (pi_range1 hg hm (pa_any (W := W)) hs) fun σ H R q => ⟨Γ, _, h, q.1, fun vs H2 Γ1 rs c s o pp => by
    obtain ⟨j, rfl, h1, h2, hp⟩ := pp
    cases o with
    | cons o1 o2 =>
      cases o2
      have e := dt_int o1
      subst e
      exact ⟨j, rfl, h1, h2, q.2 _ H2 Γ1 _ _ _ c s itok_rng (fun _ _ _ _ _ _ => trivial) hp⟩⟩
theorem i_rng2 (hm : X.mg "range" = none) (h : XA X W [a, b] Γ fun Γ1 rs => ∃ i j : Int, rs = [.d (.int i), .d (.int j)] ∧ (-(2 ^ 62) ≤ i ∧ i < 2 ^ 62 ∧ -(2 ^ 62) ≤ j ∧ j < 2 ^ 62) ∧ P Γ1 (fun _ => True) (rngD i (j - i).toNat)) (hg : Gl X "range" := by rfl) (hs : starEach [a, b] X.env = [(false, eval a X.env), (false, eval b X.env)] := by rfl) (hs2 : starEach [b] X.env = [(false, eval b X.env)] := by rfl) : XI X W tg (.Call (.Name "range" p) [a, b] [] pos) Γ P :=
  PI.imp (pi_range2 hg hm (pa_any (W := W)) hs hs2) fun σ H R q => ⟨Γ, _, h, q.1, fun vs H2 Γ1 rs c s o pp => by
    obtain ⟨i, j, rfl, h1, hp⟩ := pp
    cases o with
    | cons o1 o2 =>
      cases o2 with
      | cons o3 o4 =>
        cases o4
        have e := dt_int o1
        have e2 := dt_int o3
        subst e e2
        exact ⟨i, j, rfl, h1, q.2 _ H2 Γ1 _ _ _ c s itok_rng (fun _ _ _ _ _ _ => trivial) hp⟩⟩
/-- enumerate(name) -/
theorem i_enum (i : Nat) {elts : List Expr} {kk : Nat} {r : Ent} {ds : List PyData} {ad : Addr} (hm : X.mg "enumerate" = none) (hΓ : Γ[i]? = some (some r)) (hl : r.lst = some ds) (had : r.adr = some ad) (k : P Γ (fun Γ' => Γ'[i]? = some (some r)) (enumD ds)) (hN : X.N[i]? = some x := by rfl) (hv : Vis X.env.scope x := by first | exact Or.inl rfl | exact Or.inr (Or.inl rfl) | exact Or.inr (Or.inr rfl))
    (hd : (x == ("__debug__" : Str)) = false := by decide) (hcd : (x == ("__classdict__" : Str)) = false := by decide) (hg : Gl X "enumerate" := by rfl) (hs : starEach [.Name x p2] X.env = [(false, eval (.Name x p2) X.env)] := by rfl) (hs2 : starEach [.Name x p2] X.env = (false, eval (.Name x p2) X.env) :: starEach [] X.env := by rfl) : XI X W (.Tuple elts kk p3) (.Call (.Name "enumerate" p) [.Name x p2] [] pos) Γ P := by
  refine PI.imp (pi_enum hg hm (pa_cons (pe_var hN hv hd hcd) pa_nil hs2) hs) fun σ H R q => ?_
  obtain ⟨v, h1, h2⟩ := q.1.at_ i r hΓ
  obtain ⟨rfl, xs, h3, h4⟩ := h2.hold hl had
  refine ⟨_, h1, ad, xs, rfl, h3, q.2 _ H Γ _ _ _ Ch.refl q.1 itok_enum (fun Γ' σ' H2 c s f => ?_) k⟩
  obtain ⟨v', _, h6⟩ := s.at_ i r f
  exact (h6.hold hl had).2
/-- zip(two tuples) -/
theorem i_zipT {elts : List Expr} {kk : Nat} (hm : X.mg "zip" = none) (h : XA X W [e, e2] Γ fun Γ1 rs => ∃ ds es, rs = [.d (.tuple ds), .d (.tuple es)] ∧ P Γ1 (fun _ => True) (zipD ds es)) (hg : Gl X "zip" := by rfl)
    (hs : starEach [e, e2] X.env = (false, eval e X.env) :: starEach [e2] X.env := by rfl) (hpl : (backTo pos (starEach [e2] X.env)).any (·.1) = false := by rfl) : XI X W (.Tuple elts kk p3) (.Call (.Name "zip" p) [e, e2] [] pos) Γ P :=
  PI.imp (pi_zipA hg hm (pa_any (W := W)) hs hpl) fun σ H R q => ⟨Γ, _, h, q.1, fun vs H2 Γ1 rs c s o pp => by
    obtain ⟨ds, es, rfl, hp⟩ := pp
    cases o with
    | cons o1 o2 =>
      cases o2 with
      | cons o3 o4 =>
        cases o4
        have o1 : Dt X.K H2 _ (.tuple ds) := o1
        have o3 : Dt X.K H2 _ (.tuple es) := o3
        cases o1 with
        | tup a1 a2 =>
          cases o3 with
          | tup b1 b2 =>
            exact ⟨_, _, _, _, rfl, .inr ⟨a1, b1, q.2 _ H2 Γ1 _ _ _ c s itok_zipT (fun Γ' σ' H3 c' s' _ => ⟨⟨_, c'.sqT a1, DtAll.ch c' _ _ a2⟩, _, c'.sqT b1, DtAll.ch c' _ _ b2⟩) hp⟩⟩⟩
/-- zip(name, new list) -/
theorem i_zipL (i : Nat) {elts : List Expr} {kk : Nat} {r : Ent} {ds : List PyData} {ad : Addr} (hm : X.mg "zip" = none) (hΓ : Γ[i]? = some (some r)) (hl : r.lst = some ds) (had : r.adr = some ad) (h : XE X W e2 Γ fun Γ1 r2 => ∃ es, Γ1[i]? = some (some r) ∧ r2 = .n es ∧ P Γ1 (fun Γ' => Γ'[i]? = some (some r)) (zipD ds es))
    (hN : X.N[i]? = some x := by rfl) (hv : Vis X.env.scope x := by first | exact Or.inl rfl | exact Or.inr (Or.inl rfl) | exact Or.inr (Or.inr rfl))
    (hd : (x == ("__debug__" : Str)) = false := by decide) (hcd : (x == ("__classdict__" : Str)) = false := by decide) (hg : Gl X "zip" := by rfl)
    (hs : starEach [.Name x p2, e2] X.env = (false, eval (.Name x p2) X.env) :: starEach [e2] X.env := by rfl) (hs2 : starEach [e2] X.env = (false, eval e2 X.env) :: starEach [] X.env := by rfl) (hpl : (backTo pos (starEach [e2] X.env)).any (·.1) = false := by rfl) : XI X W (.Tuple elts kk p3) (.Call (.Name "zip" p) [.Name x p2, e2] [] pos) Γ P := by
  refine PI.imp (pi_zip hg hm (pa_cons (pe_var hN hv hd hcd) (pa_cons (pe_any (W := W)) pa_nil hs2) hs) hs hpl) fun σ H R q => ?_
  obtain ⟨v, h1, h2⟩ := q.1.at_ i r hΓ
  obtain ⟨rfl, _⟩ := h2.hold hl had
  refine ⟨_, h1, Γ, _, h, q.1, fun y H2 Γ1 r2 c s o pp => ?_⟩
  obtain ⟨es, g1, rfl, hp⟩ := pp
  obtain ⟨b, ys, rfl, nb, hb, hdb⟩ := o
  obtain ⟨v', h1', h6⟩ := s.at_ i r g1
  rw [h1] at h1'
  cases h1'
  obtain ⟨_, xs, h3, h4⟩ := h6.hold hl had
  refine ⟨ad, b, xs, ys, rfl, h3, SqL.of hb, q.2 _ H2 Γ1 _ _ _ c s itok_zip (fun Γ' σ' H3 c' s' f => ⟨?_, ?_⟩) hp⟩
  · obtain ⟨v', _, h6⟩ := s'.at_ i r f
    exact (h6.hold hl had).2
  · exact ⟨ys, SqL.of (c'.oth b _ (fun z => q.1.there b z nb) hb), DtAll.ch c' _ _ hdb⟩
end
section
variable {X : Cx} {B : Hp} {F W : List Addr} {Γ : Gam} {P : Pst} {tg iter : Expr} {pos : Pos} {rest body : List Stmt}
theorem b_for (hc : X.calm = true) (h : XI X W tg iter Γ fun Γ1 fz ys => ∃ I : Nat → Gam → Prop, I 0 Γ1 ∧ (∀ k Γ2, I k Γ2 → fz Γ2) ∧
      (∀ k d Γ2, ys[k]? = some d → I k Γ2 → ∃ Γ3 js, XG X W tg Γ2 d Γ3 js ∧ ∀ B', (∀ a, B' a = none → B a = none) → XB X B' W W body Γ3 { nx := I (k + 1), ct := I (k + 1), bk := fun _ => False, rt := P.rt }) ∧ (∀ Γ2, I ys.length Γ2 → XB X B F W rest Γ2 P))
    (hp : PassesOwn (model X.prog X.w) X.A X.env X.xe := by exact PassesOwn.never) (hs : ∀ x, foldedSetIterable iter X.env x = pure x := by intro _; rfl) : XB X B F W (.For tg iter body [] pos :: rest) Γ P := by
  refine PSs.imp (pss_cons (ps_for hp hc h (pg_any (W := W)) pss_any hs) pss_any) fun D σ H q => ⟨q.2.1, fun J H1 Γ1 ys S fz c1 s1 it fr p1 => ?_⟩
  obtain ⟨I, i0, iz, step, fin⟩ := p1
  have g1 := q.1.step c1
  refine ⟨fun i m σ H => m = ys.length - i ∧ i ≤ ys.length ∧ ∃ Γ2, I i Γ2 ∧ Slots X.K W Γ2 σ H ∧ Ch W H1 H, ⟨ys.length, by simp, Nat.zero_le _, Γ1, i0, s1, Ch.refl⟩, ?_⟩
  rintro i m σ2 H2 ⟨rfl, hi, Γ2, i2, s2, c2⟩
  have hS := fr Γ2 σ2 H2 c2 s2 (iz i Γ2 i2)
  by_cases hlt : i < ys.length
  · refine .inr ⟨it.1 i H2 hS hlt, fun σ' H' => ∃ Γ3, I (i + 1) Γ3 ∧ Slots X.K W Γ3 σ' H' ∧ Ch W H1 H', fun σ' H' n => ⟨ys.length - (i + 1), by omega, rfl, hlt, n⟩, fun x H3 y => ?_⟩
    obtain ⟨sm, hy⟩ := it.2.2 i H2 x H3 hS y
    obtain ⟨Γ3, js, xg, xb⟩ := step i ys[i] Γ2 (by simp [hlt]) i2
    have c3 : Ch W H1 H3 := c2.trans (Ch.of_same sm)
    refine ⟨Γ2, ys[i], Γ3, js, xg, hy _ (by simp [hlt]), s2.same sm, fun σ' s' _ => ?_⟩
    refine ⟨H1, W, W, Γ3, _, xb H1 (fun a na => g1.ch.none_back na), ⟨c3, fun a ha => .inl ha⟩, s', fun σ4 H4 Γ4 g s p => ⟨Γ4, p, s, g.ch⟩, fun v σ4 H4 Γ4 r g s o p => ?_, fun _ _ _ _ _ p => p.elim, fun σ4 H4 Γ4 g s p => ⟨Γ4, p, s, g.ch⟩⟩
    exact q.2.2.2.1 v σ4 H4 Γ4 r (g1.step g.ch) s (o.back g1.ch) p
  · have e : i = ys.length := by omega
    subst e
    exact .inl ⟨it.2.1 H2 hS, B, F, W, Γ2, P, fin Γ2 i2, g1.step c2, s2, q.2.2⟩
end
/-! ### list comprehensions -/
def wipeG : Gam → List Nat → Gam
  | Γ, [] => Γ
  | Γ, v :: vs => (wipeG Γ vs).set v none
theorem wipeG_some {Γ : Gam} {i : Nat} {x : Ent} : ∀ {vs : List Nat}, (wipeG Γ vs)[i]? = some (some x) → Γ[i]? = some (some x) ∧ i ∉ vs
  | [], h => ⟨h, by simp⟩
  | v :: vs, h => by
    unfold wipeG at h
    by_cases hi : v = i
    · subst hi
      by_cases hv : v < (wipeG Γ vs).length
      · rw [List.getElem?_set_self hv] at h; cases h
      · rw [List.getElem?_eq_none (by simpa using hv)] at h; cases h
    · rw [List.getElem?_set_ne hi] at h
      obtain ⟨h1, h2⟩ := wipeG_some h
      exact ⟨h1, by simp only [List.mem_cons, not_or]; exact ⟨fun e => hi e.symm, h2⟩⟩
theorem wipeG_length (Γ : Gam) : ∀ vs : List Nat, (wipeG Γ vs).length = Γ.length
  | [] => rfl
  | v :: vs => by unfold wipeG; rw [List.length_set, wipeG_length Γ vs]
theorem wipe_get {σ : L2.St} {i : Nat} : ∀ {vs : List Nat}, i ∉ vs → (wipe σ vs)[i]? = σ[i]?
  | [], _ => rfl
  | v :: vs, h => by
    unfold wipe
    rw [List.getElem?_set_ne (fun e => h (by simp [e])), wipe_get (fun z => h (List.mem_cons_of_mem _ z))]
theorem wipe_in {σ : L2.St} {i : Nat} : ∀ {vs : List Nat}, i ∈ vs → i < σ.length → (wipe σ vs)[i]? = some none
  | v :: vs, h, hl => by
    unfold wipe
    by_cases e : v = i
    · subst e
      rw [List.getElem?_set_self (by rw [wipe_length]; exact hl)]
    · rw [List.getElem?_set_ne e]
      exact wipe_in ((List.mem_cons.mp h).resolve_left (fun z => e z.symm)) hl
theorem wipe_same {σ σ' : L2.St} {vs : List Nat} (hl : σ'.length = σ.length) (h : ∀ j, j ∉ vs → σ'[j]? = (wipe σ vs)[j]?) : wipe σ' vs = wipe σ vs := by
  apply List.ext_getElem?
  intro j
  by_cases hj : j ∈ vs
  · by_cases hlt : j < σ.length
    · rw [wipe_in hj hlt, wipe_in hj (by omega)]
    · rw [List.getElem?_eq_none (by rw [wipe_length]; omega), List.getElem?_eq_none (by rw [wipe_length]; omega)]
  · rw [wipe_get hj, h j hj]
theorem Slots.wipe {K : PySem.W.Frag} {W : List Addr} {Γ : Gam} {σ : L2.St} {H : Hp} (s : Slots K W Γ σ H) (vs : List Nat) : Slots K W (wipeG Γ vs) (L2.wipe σ vs) H :=
  ⟨by rw [wipe_length, wipeG_length]; exact s.len, fun i e h => by
    obtain ⟨h1, h2⟩ := wipeG_some h
    obtain ⟨v, h3, h4⟩ := s.at_ i e h1
    exact ⟨v, by rw [wipe_get h2]; exact h3, h4⟩, s.there⟩
theorem Slots.bare {K : PySem.W.Frag} {W : List Addr} {Γ : Gam} {σ : L2.St} {H : Hp} (s : Slots K W Γ σ H) : Slots K [] Γ σ H := ⟨s.len, s.at_, fun a ha => by simp at ha⟩
/-- only a new thing has changed -/
theorem EntOk.past {K : PySem.W.Frag} {D : Addr} {H H' : Hp} {v : V} {e : Ent} (h : EntOk K H v e) (n : H D = none) (c : Ch [D] H H') : EntOk K H' v e := by
  cases e with
  | d x => exact Dt.ch c x v h
  | k b ds =>
    obtain ⟨h1, xs, h2, h3⟩ := h
    exact ⟨h1, xs, h2.ch c, DtAll.ch c _ _ h3⟩
  | w b ds =>
    obtain ⟨h1, xs, h2, h3⟩ := h
    exact ⟨h1, xs, c.oth b _ (by simp; exact ne_of_none h2 n) h2, DtAll.ch c _ _ h3⟩
  | r ds =>
    obtain ⟨b, xs, h1, h2, h3⟩ := h
    exact ⟨b, xs, h1, c.oth b _ (by simp; exact ne_of_none h2 n) h2, DtAll.ch c _ _ h3⟩
  | n ds =>
    obtain ⟨b, xs, h1, h2, h3⟩ := h
    exact ⟨b, xs, h1, c.oth b _ (by simp; exact ne_of_none h2 n) h2, DtAll.ch c _ _ h3⟩
theorem Slots.past {K : PySem.W.Frag} {W : List Addr} {Γ : Gam} {σ : L2.St} {D : Addr} {H H' : Hp} (s : Slots K W Γ σ H) (n : H D = none) (c : Ch [D] H H') : Slots K W Γ σ H' :=
  ⟨s.len, fun i e h => by
    obtain ⟨v, h1, h2⟩ := s.at_ i e h
    exact ⟨v, h1, h2.past n c⟩, fun a ha => c.one a (s.there a ha)⟩
theorem Ch.past {W : List Addr} {D : Addr} {H H' : Hp} (n : H D = none) (c : Ch [D] H H') : Ch W H H' :=
  ⟨c.tup, c.frz, fun a o _ e => c.oth a o (by simp; exact ne_of_none e n) e, c.one⟩
abbrev blkX (X : Cx) (scope : Scope) (s : Shared) (H : Hp) (C : Addr) (cl : List (Str × Addr)) (fp : List Addr) : Cx := X.blk s H scope (compEnvC scope cl C X.env) fp
section
variable {X : Cx} {scope : Scope} {e tg iter : Expr} {ifs : List Expr} {pos : Pos}
def AE (X : Cx) (scope : Scope) (e : Expr) (Γ : Gam) (P : Po) : Prop := ∀ s H C cl fp, XE (blkX X scope s H C cl fp) [] e Γ P
def AT (X : Cx) (scope : Scope) (e : Expr) (Γ : Gam) (P : PoT) : Prop := ∀ s H C cl fp, XT (blkX X scope s H C cl fp) [] e Γ P
def AG (X : Cx) (scope : Scope) (tg : Expr) (Γ : Gam) (d : PyData) (Γ' : Gam) (js : List Nat) : Prop := ∀ s H C cl fp, XG (blkX X scope s H C cl fp) [] tg Γ d Γ' js
def aE (X : Cx) (scope : Scope) (e : Expr) : TE := fun σ H Q => ∃ Γ P, AE X scope e Γ P ∧ tE X.K [] Γ P σ H Q
def aT (X : Cx) (scope : Scope) (e : Expr) : TT := fun σ H Q => ∃ Γ P, AT X scope e Γ P ∧ tT X.K [] Γ P σ H Q
def aG (X : Cx) (scope : Scope) (tg : Expr) : TG := fun v σ H Q => ∃ Γ d Γ' js, AG X scope tg Γ d Γ' js ∧ tG X.K [] Γ d Γ' js v σ H Q
theorem ae_pe (s : Shared) (H : Hp) (C : Addr) (cl : List (Str × Addr)) (fp : List Addr) : PE (blkX X scope s H C cl fp) e (aE X scope e) := ⟨fun pins z σ h Q I q => by
  obtain ⟨Γ, P, h1, h2⟩ := q
  exact PE.run (h1 s H C cl fp) pins z σ h Q I h2⟩
theorem at_pt (s : Shared) (H : Hp) (C : Addr) (cl : List (Str × Addr)) (fp : List Addr) : PT (blkX X scope s H C cl fp) e (aT X scope e) := ⟨fun pins z σ h Q I q => by
  obtain ⟨Γ, P, h1, h2⟩ := q
  exact PT.run (h1 s H C cl fp) pins z σ h Q I h2⟩
theorem ag_pg (s : Shared) (H : Hp) (C : Addr) (cl : List (Str × Addr)) (fp : List Addr) : PG (blkX X scope s H C cl fp) tg (aG X scope tg) := ⟨fun pins z σ h v u Q I r q => by
  obtain ⟨Γ, d, Γ', js, h1, h2⟩ := q
  exact PG.run (h1 s H C cl fp) pins z σ h v u Q I r h2⟩
variable {W : List Addr} {Γ : Gam} {P : Po} {c : Expr}
/-- what a turn does -/
def Turn1 (X : Cx) (scope : Scope) (elt tg : Expr) (Γ : Gam) (vs : List Nat) (d : PyData) (ys ys' : List PyData) (tst : Gam → (Bool → Gam → Prop) → Prop) : Prop :=
  ∃ Γ3 js, AG X scope tg (wipeG Γ vs) d Γ3 js ∧ (∀ j ∈ js, j ∈ vs) ∧ tst Γ3 fun b Γ4 => (b = true → AE X scope elt Γ4 fun _ r => ∃ y, r = .d y ∧ ys' = ys ++ [y]) ∧ (b = false → ys' = ys)
abbrev PLc (X : Cx) (scope : Scope) (elt tg : Expr) (vs : List Nat) (tst : Gam → (Bool → Gam → Prop) → Prop) (P : Po) : PoI := fun Γ1 fz ys => fz Γ1 ∧ ∃ acc : Nat → List PyData, acc 0 = [] ∧ ys.length ≤ 1000 ∧ (∀ k d, ys[k]? = some d → Turn1 X scope elt tg Γ1 vs d (acc k) (acc (k + 1)) tst) ∧ P Γ1 (.n (acc ys.length))
theorem lc_go {elt : Expr} {tt : TT} {tst : Gam → (Bool → Gam → Prop) → Prop} (vs : List Nat)
    (htt : ∀ Γ σ H Q R, Slots X.K [] Γ σ H → tst Γ R → (∀ b H' Γ', Same H H' → Slots X.K [] Γ' σ H' → R b Γ' → Q b H') → tt σ H Q)
    {σ : L2.St} {H : Hp} {Q : VK} (q : tE X.K W Γ P σ H Q) : tLc (tI X.K W Γ (PLc X scope elt tg vs tst P)) (aG X scope tg) tt (aE X scope elt) vs σ H Q := by
  refine ⟨q.1, fun J H1 Γ1 ys S fz c1 s1 it fr p1 D hD => ?_⟩
  obtain ⟨f1, acc, a0, hl, step, hP⟩ := p1
  have sm0 : Same H1 (upd H1 D (.lst [])) := same_new hD
  refine ⟨fun i m H => m = ys.length - i ∧ i ≤ ys.length ∧ Ch [D] H1 H ∧ (acc i).length ≤ i ∧ ∃ vs, H D = some (.lst vs) ∧ DtAll X.K H vs (acc i), ⟨ys.length, by simp, Nat.zero_le _, Ch.of_same sm0, by rw [a0]; simp, [], upd_same, by rw [a0]; exact .nil⟩, ?_⟩
  rintro i m H2 ⟨rfl, hi, c2, hal, zs, h2, d2⟩
  have s2 : Slots X.K W Γ1 σ H2 := s1.past hD c2
  have hS := fr Γ1 σ H2 (c2.past hD) s2 f1
  by_cases hlt : i < ys.length
  · refine .inr ⟨it.1 i H2 hS hlt, fun H' => Ch [D] H1 H' ∧ (acc (i + 1)).length ≤ i + 1 ∧ ∃ zs, H' D = some (.lst zs) ∧ DtAll X.K H' zs (acc (i + 1)), fun H' n => ⟨ys.length - (i + 1), by omega, rfl, hlt, n⟩, fun x H3 y => ?_⟩
    obtain ⟨sm, hy⟩ := it.2.2 i H2 x H3 hS y
    obtain ⟨Γ3, js, xg, hjs, tq⟩ := step i ys[i] (by simp [hlt])
    have s3 : Slots X.K [] (wipeG Γ1 vs) (wipe σ vs) H3 := ((s2.same sm).wipe _).bare
    refine ⟨_, ys[i], Γ3, js, xg, hy _ (by simp [hlt]), s3, fun σ' s' agree => ⟨?_, ?_⟩⟩
    · exact wipe_same (by rw [agree.2, wipe_length]) fun j hj => agree.1 j fun z => hj (hjs j z)
    · refine htt Γ3 σ' H3 _ _ s' tq fun b H4 Γ4 sm4 s4 hb => ?_
      have h4 : H4 D = some (.lst zs) := sm4 _ _ (sm _ _ h2)
      have d4 : DtAll X.K H4 zs (acc i) := DtAll.ch ((Ch.of_same (W := []) sm).trans (Ch.of_same sm4)) _ _ d2
      have c4 : Ch [D] H1 H4 := c2.trans ((Ch.of_same sm).trans (Ch.of_same sm4))
      cases b with
      | false =>
        rw [if_neg (by decide), hb.2 rfl]
        exact ⟨c4, by omega, zs, h4, d4⟩
      | true =>
        rw [if_pos rfl]
        refine ⟨Γ4, _, hb.1 rfl, s4, fun u H5 Γ5 r c5 s5 o5 p5 => ?_⟩
        obtain ⟨y, rfl, e⟩ := p5
        have sm5 := c5.same
        have h5 : H5 D = some (.lst zs) := sm5 _ _ h4
        have o5 : Dt X.K H5 u y := o5
        have c6 : Ch [D] H5 (upd H5 D (.lst (zs ++ [u]))) := upd_lst (K := X.K) h5
        refine ⟨zs, h5, size_lt (by rw [d4.length]; omega), c4.trans ((Ch.of_same sm5).trans c6), by rw [e, List.length_append]; simp; omega, zs ++ [u], upd_same, ?_⟩
        rw [e]
        exact DtAll.ch c6 _ _ ((DtAll.ch (Ch.of_same (W := []) sm5) _ _ d4).append (.cons o5 .nil))
  · have e : i = ys.length := by omega
    subst e
    refine .inl ⟨it.2.1 H2 hS, q.2 (.ref D) H2 Γ1 (.n _) (c1.trans (c2.past hD)) s2 ⟨D, zs, rfl, ?_, h2, d2⟩ hP⟩
    exact c1.none_back hD
/-- [elt for target in iter] -/
theorem x_lc0 {elt : Expr} (own : List (Str × Nat)) (hc : X.calm = true) (hN : X.N.Nodup) (ok : BlkOk X.N X.env.scope scope own) (h : XI X W tg iter Γ (PLc X scope elt tg (own.map (·.2)) (fun Γ R => R true Γ) P))
    (hs : ∀ x, foldedSetIterable iter X.env x = pure x := by intro _; rfl) : XE X W (.ListComp elt [⟨tg, iter, [], 0⟩] scope pos) Γ P :=
  PE.imp (pe_lc hc hN h ok (fun s H C cl fp => ag_pg s H C cl fp) (fun _ _ _ _ _ => pts_nil) (fun s H C cl fp => ae_pe s H C cl fp) hs) fun σ H Q q => lc_go (own.map (·.2)) (fun Γ σ H Q R s hR k => k true H Γ (Same.refl H) s hR) q
abbrev Ts1 (X : Cx) (scope : Scope) (c : Expr) : Gam → (Bool → Gam → Prop) → Prop := fun Γ R => AT X scope c Γ fun Γ' b => R b Γ'
theorem ts1 {Γ : Gam} {σ : L2.St} {H : Hp} {Q : Bool → Hp → Prop} {R : Bool → Gam → Prop} (s : Slots X.K [] Γ σ H) (hR : Ts1 X scope c Γ R) (k : ∀ b H' Γ', Same H H' → Slots X.K [] Γ' σ H' → R b Γ' → Q b H') : aT X scope c σ H Q :=
  ⟨Γ, _, hR, s, fun b H2 Γ2 c2 s2 p => k b H2 Γ2 c2.same s2 p⟩
/-- [elt for target in iter if test] -/
theorem x_lc1 {elt : Expr} (own : List (Str × Nat)) (hc : X.calm = true) (hN : X.N.Nodup) (ok : BlkOk X.N X.env.scope scope own) (h : XI X W tg iter Γ (PLc X scope elt tg (own.map (·.2)) (Ts1 X scope c) P))
    (hs : ∀ x, foldedSetIterable iter X.env x = pure x := by intro _; rfl) : XE X W (.ListComp elt [⟨tg, iter, [c], 0⟩] scope pos) Γ P :=
  PE.imp (pe_lc hc hN h ok (fun s H C cl fp => ag_pg s H C cl fp) (fun s H C cl fp => pts_one (at_pt s H C cl fp)) (fun s H C cl fp => ae_pe s H C cl fp) hs) fun σ H Q q => lc_go (own.map (·.2)) (fun Γ σ H Q R s hR k => ts1 s hR k) q
/-- name = [elt for target in iter if test], on one line -/
theorem b_setLc {B : Hp} {F : List Addr} {Pst : Pst} {rest : List Stmt} {y : Str} {py spos : Pos} {elt : Expr} (i : Nat) (own : List (Str × Nat)) (hc : X.calm = true) (hN : X.N.Nodup) (ok : BlkOk X.N X.env.scope scope own)
    (h : XI X W tg iter Γ (PLc X scope elt tg (own.map (·.2)) (Ts1 X scope c) fun Γ1 r => ∃ ds, r = .n ds ∧ ∀ a, B a = none → New Γ a → a ∉ W → XB X B F W rest (Γ1.set i (some (.w a ds))) Pst))
    (hy : X.N[i]? = some y := by rfl) (hyl : X.env.scope.names.lookup y = some .local := by rfl) (hsw : swapsWith (.ListComp elt [⟨tg, iter, [c], 0⟩] scope pos) (some (.Name y py)) spos.line X.env = pure true := by rfl)
    (hs : ∀ x, foldedSetIterable iter X.env x = pure x := by intro _; rfl) : XB X B F W (.Assign [.Name y py] (.ListComp elt [⟨tg, iter, [c], 0⟩] scope pos) spos :: rest) Γ Pst :=
  b_go (ps_setLc hc hN hy hyl hsw h ok (fun s H C cl fp => ag_pg s H C cl fp) (fun s H C cl fp => pts_one (at_pt s H C cl fp)) (fun s H C cl fp => ae_pe s H C cl fp) hs) fun D σ H g s q =>
    lc_go (X := X) (scope := scope) (elt := elt) (tg := tg) (tt := aT X scope c) (tst := Ts1 X scope c) (P := fun Γ1 r => ∃ ds, r = .n ds ∧ ∀ a, B a = none → New Γ a → a ∉ W → XB X B F W rest (Γ1.set i (some (.w a ds))) Pst) (Q := fun v H1 => gName i v σ H1 D.nx) (own.map fun x : Str × Nat => x.2) (fun Γ σ H Q R s hR k => ts1 s hR k) ⟨s, fun v H2 Γ1 r c s2 o p => by
      obtain ⟨ds, rfl, hp⟩ := p
      obtain ⟨a, xs, rfl, na, ha, hd⟩ := o
      refine q _ H2 _ (g.step c) (s2.put (show EntOk X.K H2 (.ref a) (.w a ds) from ⟨rfl, xs, ha, hd⟩)) (hp a (g.ch.none_back na) (fun j e hj n1 n2 => ?_) fun hw => s.there a hw na)
      obtain ⟨u, h1, h2⟩ := s.at_ j e hj
      cases e with
      | d x => trivial
      | k b es => trivial
      | w b es =>
        obtain ⟨_, ys, h3, _⟩ := h2
        exact ne_of_none h3 na
      | r es => exact (n1 es rfl).elim
      | n es => exact (n2 es rfl).elim⟩
end
end L3
set_option Elab.async false
set_option linter.all false
set_option maxRecDepth 100000
set_option maxHeartbeats 1000000
/-! a def's promise from its body -/
namespace L3
open PySem PySem.Spec PyProof.Rows L2
/-- the parameters' lists, at addresses -/
def opn : List Ent → (Nat → Addr) → List Ent
  | [], _ => []
  | .r ds :: es, as => .w (as 0) ds :: opn es fun i => as (i + 1)
  | .d x :: es, as => .d x :: opn es fun i => as (i + 1)
  | .w a ds :: es, as => .w a ds :: opn es fun i => as (i + 1)
  | .k a ds :: es, as => .k a ds :: opn es fun i => as (i + 1)
  | .n ds :: es, as => .n ds :: opn es fun i => as (i + 1)
def startG (n : Nat) (es : List Ent) : Gam := es.map some ++ List.replicate (n - es.length) none
theorem opn_ok {K : PySem.W.Frag} {H : Hp} : ∀ {vs : List V} {es : List Ent}, EntsIn K H vs es → ∃ as, EntsIn K H vs (opn es as)
  | _, _, .nil => ⟨fun _ => 0, .nil⟩
  | _, _, .cons (v := v) (vs := vs) (e := e) (es := es) h t => by
    obtain ⟨as, q⟩ := opn_ok t
    cases e with
    | r ds =>
      obtain ⟨a, xs, rfl, h1, h2⟩ := h
      exact ⟨fun i => if i = 0 then a else as (i - 1), .cons ⟨rfl, xs, h1, h2⟩ q⟩
    | d x => exact ⟨fun i => as (i - 1), .cons h q⟩
    | w a ds => exact ⟨fun i => as (i - 1), .cons h q⟩
    | k a ds => exact ⟨fun i => as (i - 1), .cons h q⟩
    | n ds => exact ⟨fun i => as (i - 1), .cons h q⟩
theorem opn_len : ∀ {es : List Ent} {as : Nat → Addr}, (opn es as).length = es.length
  | [], _ => rfl
  | e :: es, as => by cases e <;> simp [opn, opn_len]
theorem start_slots {K : PySem.W.Frag} {H : Hp} {N : List Str} {vs : List V} {es : List Ent} (h : EntsIn K H vs es) (W : List Addr) (hw : ∀ a, a ∈ W → H a ≠ none) : Slots K W (startG N.length es) (L2.start N vs) H := by
  have hl := h.length
  refine ⟨by simp [startG, L2.start, hl], fun i e hi => ?_, hw⟩
  unfold startG at hi
  unfold L2.start
  have key : ∀ {vs : List V} {es : List Ent} (i : Nat) (e : Ent) (n m : Nat), EntsIn K H vs es → (es.map some ++ List.replicate n none)[i]? = some (some e) → ∃ v, (vs.map some ++ List.replicate m none)[i]? = some (some v) ∧ EntOk K H v e := by
    intro vs es i e n m h
    induction h generalizing i with
    | nil =>
      intro hi
      simp only [List.map_nil, List.nil_append] at hi
      have := List.getElem?_eq_some_iff.mp hi
      obtain ⟨_, q⟩ := this
      rw [List.getElem_replicate] at q
      cases q
    | cons a b ih =>
      intro hi
      cases i with
      | zero =>
        simp only [List.map_cons, List.cons_append, List.getElem?_cons_zero] at hi ⊢
        cases hi
        exact ⟨_, rfl, a⟩
      | succ i =>
        simp only [List.map_cons, List.cons_append, List.getElem?_cons_succ] at hi ⊢
        exact ih i hi
  exact key i e _ _ h hi
/-- the result r, held by a name or not -/
def Rt (B : Hp) (r r' : Ent) : Prop := r' = r ∨ ∃ a ds, r = .n ds ∧ r' = .w a ds ∧ B a = none
theorem Rt.ok {K : PySem.W.Frag} {B H : Hp} {v : V} {r r' : Ent} (h : Rt B r r') (o : ResOk K B H v r') : ResOk K B H v r := by
  rcases h with rfl | ⟨a, ds, rfl, rfl, hb⟩
  · exact o
  · obtain ⟨rfl, xs, h1, h2⟩ := o
    exact ⟨a, xs, rfl, hb, h1, h2⟩
abbrev cxn (P : Program) (w : World) (K : PySem.W.Frag) (mg : Str → Option Value) (base : Heap) (N : List Str) (qual : Str) (scope : Scope) (f : Addr) (cdv : Value) (A : Around) (outer : List Env) (s : Shared) (H : Hp) (E : XK) : Cx := (cxOf CX0 P w K mg base N qual scope f cdv A outer s H E).nox
section
variable {P : Program} {w : World} {K : PySem.W.Frag} {mg : Str → Option Value} {base : Heap} {x qual : Str} {pa : Arguments} {bd : List Stmt} {sc : Scope} {kws : List (Str × V)} {f : Addr} {fd : FuncData} {N ps : List Str} {k : Nat}
abbrev Bnd (x qual : Str) (pa : Arguments) (bd : List Stmt) (sc : Scope) (ps : List Str) : Prop := ∀ (kV doc pm : Value) (an : Option Addr) (cdv ct : Value) (us : List Value), us.length = ps.length → bindArgs (PySem.W.fnOf x qual pa bd sc .none kV doc pm an cdv ct) ⟨us, []⟩ = pure (ps.zip us)
theorem mk_d {R : List Ent → Ent → Prop} (F : FunD K x qual pa bd sc [] kws f fd) (hm : mg x = some (.ref f)) (S : FnScope N ps sc) (hb : Bnd x qual pa bd sc ps) (len : ∀ es r, R es r → es.length = ps.length)
    (h : ∀ (cdv : Value) (A : Around) (outer : List Env) (s : Shared) (H : Hp) (E : XK), Room k (cxn P w K mg base N qual sc f cdv A outer s H E).A → ∀ es r as, R es r → XB (cxn P w K mg base N qual sc f cdv A outer s H E) H [] [] bd (startG N.length (opn es as)) { nx := fun _ => False, rt := fun _ r' => Rt H r r' }) :
    Callee P w K mg base x (k + 1) ps (spD K R) := by
  refine ⟨f, fd, hm, F.kp, F.bindsN hb, F.ok S (fun vs H Q E ⟨es, r, hR, hi, _⟩ => by rw [hi.length]; exact len es r hR) fun cdv A outer s H vs Q E hr hsp => ?_⟩
  obtain ⟨es, r, hR, hi, hq⟩ := hsp
  obtain ⟨as, ho⟩ := opn_ok hi
  have hx := h cdv A outer s H E hr es r as hR
  refine ⟨_, PSs.nox hx, ⟨Ch.refl, fun a ha => by simp at ha⟩, start_slots ho [] (fun a ha => by simp at ha), fun _ _ _ _ _ q => q.elim, fun v σ' H' Γ' r' g s' o q => ?_, fun _ _ _ _ _ q => q.elim, fun _ _ _ _ _ q => q.elim⟩
  exact hq v H' g.ch.same (q.ok o)
theorem mk_w {Pre : List PyData → List Ent → Prop} {R : List PyData → List Ent → List PyData → Ent → Prop} (F : FunD K x qual pa bd sc [] kws f fd) (hm : mg x = some (.ref f)) (S : FnScope N ps sc) (hb : Bnd x qual pa bd sc ps) (len : ∀ fd es, Pre fd es → es.length + 1 = ps.length)
    (h : ∀ (cdv : Value) (A : Around) (outer : List Env) (s : Shared) (H : Hp) (E : XK), Room k (cxn P w K mg base N qual sc f cdv A outer s H E).A → ∀ a fd0 es as, Pre fd0 es → XB (cxn P w K mg base N qual sc f cdv A outer s H E) H [a] [a] bd (startG N.length (.w a fd0 :: opn es as)) { nx := fun _ => False, rt := fun Γ' r' => ∃ fd' r, R fd0 es fd' r ∧ Γ'[0]? = some (some (.w a fd')) ∧ Rt H r r' }) :
    Callee P w K mg base x (k + 1) ps (spW K Pre R) := by
  refine ⟨f, fd, hm, F.kp, F.bindsN hb, F.ok S (fun vs H Q E ⟨a, fd0, es, hi, hp, _⟩ => by rw [hi.length]; exact len fd0 es hp) fun cdv A outer s H vs Q E hr hsp => ?_⟩
  obtain ⟨a, fd0, es, hi, hp, hq⟩ := hsp
  cases hi with
  | cons h1 h2 =>
    obtain ⟨as, ho⟩ := opn_ok h2
    have hx := h cdv A outer s H E hr a fd0 es as hp
    have ha : ∀ b, b ∈ [a] → H b ≠ none := fun b hb => by
      obtain ⟨rfl, xs, h3, _⟩ := h1
      rw [List.mem_singleton.mp hb, h3]
      simp
    obtain ⟨rfl, _⟩ := id h1
    refine ⟨_, PSs.nox hx, ⟨Ch.refl, fun a ha => .inl ha⟩, start_slots (.cons h1 ho) [a] ha, fun _ _ _ _ _ q => q.elim, fun v σ' H' Γ' r' g s' o q => ?_, fun _ _ _ _ _ q => q.elim, fun _ _ _ _ _ q => q.elim⟩
    obtain ⟨fd', r, hR, h0, ht⟩ := q
    obtain ⟨v0, _, e0⟩ := s'.at_ 0 _ h0
    obtain ⟨rfl, e1⟩ := e0
    exact hq v H' fd' r hR g.ch ⟨rfl, e1⟩ (ht.ok o)
end
end L3
set_option Elab.async false
set_option linter.all false
set_option maxRecDepth 100000
set_option maxHeartbeats 1000000
/-! dicts whose keys are nested tuples -/
namespace L3
open PySem PySem.W PySem.Spec PyProof.Rows L2
mutual
def nk : PyData → NestedKey
  | .none => .none
  | .bool b => .num (if b then 1 else 0)
  | .int i => .num i
  | .str x => .text x
  | .tuple ds => .tup (nks ds)
  | .list _ => .none
  | .dict _ => .none
def nks : List PyData → List NestedKey
  | [] => []
  | d :: ds => nk d :: nks ds
end
mutual
theorem nested_of {X : Cx} {pins : List (Addr × Obj)} {σ : L2.St} {H : Hp} {s : Shared} (I : Inv X pins σ H s) : ∀ (d : PyData) (v : V) (u : Value), Dt X.K H v d → L2.RelV v u → NestedIs s.heap (nk d) u
  | .none, _, u, h, r => by cases h; cases u <;> simp [L2.RelV] at r; exact .none
  | .bool b, _, u, h, r => by cases h; obtain rfl : u = .bool b := r; exact .bool rfl
  | .int i, _, u, h, r => by cases h; obtain ⟨t, rfl⟩ := r; exact .int i t
  | .str x, _, u, h, r => by cases h; obtain ⟨t, rfl⟩ := r; exact .text x t
  | .tuple ds, _, u, h, r => by
    cases h with
    | tup h1 h2 =>
      obtain rfl : u = .ref _ := r
      obtain ⟨its, rv, p, hz⟩ := I.tuple h1
      obtain ⟨o, ho, hc, n, hd⟩ := p
      exact .tup ho hc hd (by simpa using nested_all I ds _ its h2 rv)
  | .list _, _, _, h, _ => by cases h
  | .dict _, _, _, h, _ => by cases h
theorem nested_all {X : Cx} {pins : List (Addr × Obj)} {σ : L2.St} {H : Hp} {s : Shared} (I : Inv X pins σ H s) : ∀ (ds : List PyData) (vs : List V) (us : List Value), DtAll X.K H vs ds → Vals vs us → NestedAll s.heap (nks ds) us
  | [], _, us, h, r => by cases h; cases r; exact .nil
  | d :: ds, _, us, h, r => by
    cases h with
    | cons h1 h2 =>
      cases r with
      | cons r1 r2 => exact .cons (nested_of I d _ _ h1 r1) (nested_all I ds _ _ h2 r2)
end
/-- the dict at d, by its entries -/
def dR (d : Addr) (es : Array DictEntry) (ep : Nat) : HO := .ext fun h => (d == sysModules) = false ∧ h.DictRaw d es ep
theorem dR_ok {P : Program} {w : World} {H : Hp} {h : Heap} {d : Addr} {es : Array DictEntry} {ep : Nat} (hs : (d == sysModules) = false) (hd : h.DictRaw d es ep) : ObjOk P w H h d (dR d es ep) :=
  ⟨⟨hs, hd⟩, by obtain ⟨o, ho, _⟩ := hd; exact ⟨o, ho⟩, fun h1 h2 x k => ⟨x.1, x.2.at k⟩⟩
theorem dR_at {X : Cx} {pins : List (Addr × Obj)} {σ : L2.St} {H : Hp} {s : Shared} {d : Addr} {es : Array DictEntry} {ep : Nat} (I : Inv X pins σ H s) (e : H d = some (dR d es ep)) : (d == sysModules) = false ∧ s.heap.DictRaw d es ep := (I.hok d _ e).1
abbrev DXs := List (NestedKey × Addr × Value)
/-- at d stands the dict of the keys and values xs -/
def DN (P : Program) (w : World) (H : Hp) (d : Addr) (xs : DXs) : Prop := ∃ es ep, H d = some (dR d es ep) ∧ es.toList = xs.map (entryOfKey (nestedKind P w)) ∧ (xs.map (·.1)).Nodup
/-- the keys of xs stand -/
def KeysIn (K : PySem.W.Frag) (H : Hp) (xs : DXs) : Prop := ∀ x ∈ xs, ∃ d, x.1 = nk d ∧ Dt K H (.ref x.2.1) d ∧ (nk d).depth ≤ 8
theorem dictOfH {X : Cx} {pins : List (Addr × Obj)} {σ : L2.St} {H : Hp} {s : Shared} {d : Addr} {xs : DXs} (I : Inv X pins σ H s) (h : DN X.prog X.w H d xs) (hk : KeysIn X.K H xs) : (d == sysModules) = false ∧ s.heap.DictOfH (nestedKind X.prog X.w) d xs := by
  obtain ⟨es, ep, e1, e2, e3⟩ := h
  obtain ⟨hs, o, ho, hc, hd⟩ := dR_at I e1
  refine ⟨hs, o, es, ep, ho, hc, hd, e2, fun x hx => ?_, e3⟩
  obtain ⟨d, f1, f2, f3⟩ := hk x hx
  refine ⟨?_, by rw [f1]; exact f3⟩
  rw [f1]
  exact nested_of I d _ _ f2 rfl
section
variable {X : Cx} {pos apos cpos p2 : Pos} {o e f : Expr}
/-- {} -/
def tNewN (P : Program) (w : World) : TE := fun _ H Q => ∀ p, H p = none → ∀ H', Same H H' → (∀ b, b ≠ p → H' b = H b) → DN P w H' p [] → Q (.ref p) H'
theorem pe_newN : PE X (.Dict [] [] pos) (tNewN X.prog X.w) := ⟨fun pins s σ H Q I h => by
  have np : H s.heap.objs.size = none := I.hok.fresh (Nat.le_refl _)
  have hb : (s.heap.objs.size == sysModules) = false := beq_eq_false_iff_ne.mpr (Ne.symm (Nat.ne_of_lt I.big))
  refine wpAny_Dict_empty ⟨.ref s.heap.objs.size, _, I.laid (a := s.heap.objs.size) (o := dR s.heap.objs.size #[] 0) (t' := s.toks) (fun _ _ q => Heap.get?_push_of_some _ q) (Nat.le_refl _) (dR_ok hb ⟨_, Heap.get?_push_size _ rfl, ⟨rfl, rfl, rfl⟩, rfl⟩), rfl, ?_⟩
  exact h _ np _ (same_new np) (fun b hb => upd_ne hb) ⟨#[], 0, upd_same, rfl, List.nodup_nil⟩⟩
theorem key_is {pins : List (Addr × Obj)} {σ : L2.St} {H : Hp} {s : Shared} {b : Addr} {d : PyData} (I : Inv X pins σ H s) (h : Dt X.K H (.ref b) d) (hd : (nk d).depth ≤ 8) : (nestedKind X.prog X.w).is s.heap (nk d) b :=
  ⟨nested_of I d _ _ h rfl, hd⟩
/-- the change of the dict at D -/
structure DCh (P : Program) (w : World) (H H' : Hp) (D : Addr) (xs : DXs) : Prop where
  dn : DN P w H' D xs
  oth : ∀ b, b ≠ D → H' b = H b
theorem dN_write {pins : List (Addr × Obj)} {σ : L2.St} {H : Hp} {s : Shared} {D : Addr} {xs : DXs} {h' : Heap} {t' : Nat} (I : Inv X pins σ H s) (hd : ∃ ys, DN X.prog X.w H D ys) (hs : (D == sysModules) = false) (hm : h'.DictOfH (nestedKind X.prog X.w) D xs) (sb : Heap.SameBut D s.heap h') :
    ∃ H', Inv X pins σ H' { s with heap := h', toks := t' } ∧ DCh X.prog X.w H H' D xs := by
  obtain ⟨ob, es, ep, ho, hc, hdt, he, _, hn⟩ := hm
  obtain ⟨ys, es0, ep0, e1, _⟩ := hd
  exact ⟨upd H D (dR D es ep), d_write I (by rw [e1]; exact True.intro) sb ⟨ob, ho⟩ (dR_ok hs ⟨ob, ho, hc, hdt⟩), ⟨es, ep, upd_same, he, hn⟩, fun b hb => upd_ne hb⟩
def tSetN (P : Program) (w : World) (K : PySem.W.Frag) (td ty tx : TE) : TE := fun σ H Q => td σ H fun x H1 => ∃ D, x = .ref D ∧ (∃ ys, DN P w H1 D ys) ∧ ty σ H1 fun y H2 => tx σ H2 fun z H3 => ∃ xs b a d, DN P w H3 D xs ∧ KeysIn K H3 xs ∧ y = .ref b ∧ Dt K H3 (.ref b) d ∧ (nk d).depth ≤ 8 ∧ z = .ref a ∧ xs.length ≤ 1000 ∧
  (∀ p, atKey xs (nk d) = some p → ∃ v, L2.RelV v p.2 ∧ Q v H3) ∧ (atKey xs (nk d) = none → ∀ H4, DCh P w H3 H4 D (xs ++ [(nk d, b, .ref a)]) → Q (.ref a) H4)
theorem pe_setN {td ty tx : TE} {k : Nat} (hu : Room k X.A) (ho : PE X o td) (he : PE X e ty) (hf : PE X f tx) (m : M2 X o "setdefault" apos e f cpos) :
    PE X (.Call (.Attribute o "setdefault" apos) [e, f] [] cpos) (tSetN X.prog X.w X.K td ty tx) := by
  refine ⟨fun pins s σ H Q I h => ?_⟩
  refine wpAny_Call_method m.base m.few m.line PySem.F.plainAttrs_dict PySem.F.slot_dict_setdefault PySem.F.type_dict_setdefault (thn (ho.run pins s σ H _ I h) fun u s1 ⟨x, H1, I1, rx, D, ex, ⟨ys, d⟩, q1⟩ => ?_)
  subst ex
  obtain rfl : u = Value.ref D := rx
  obtain ⟨es0, ep0, e1, _⟩ := id d
  obtain ⟨hs0, hr0⟩ := dR_at I1 e1
  refine ⟨hr0.typeIs, fun a ea => by cases ea; obtain ⟨ob, h1, h2, _⟩ := hr0; exact ⟨ob, h1, h2.2.1⟩, ?_⟩
  rw [m.trees]
  refine Calls.callWith_builtin rfl (Calls.evalArgs_plain (Calls.spliced_cons (thn (he.run pins s1 σ H1 _ I1 q1) fun iv s2 ⟨y, H2, I2, ry, q2⟩ =>
    Calls.spliced_cons (thn (hf.run pins s2 σ H2 _ I2 q2) fun fv s3 ⟨z, H3, I3, rz, xs, b, a, dk, dn, kin, ey, hdk, hdp, ez, hl, q3, q4⟩ => Calls.spliced_nil ?_))))
  subst ey ez
  obtain rfl : iv = Value.ref b := ry
  obtain rfl : fv = Value.ref a := rz
  obtain ⟨hs, hm⟩ := dictOfH I3 dn kin
  refine call_setdefault_heap (hsz := size_ok hl) (by show X.A.in1.units + 8 < cLine; have := hu.un; show X.A.units + 1 + 8 < cLine; omega) (key_is I3 hdk hdp) hs hm (fun p hp => ?_) fun hn h' hm' sb => ?_
  · obtain ⟨v, hv, hq⟩ := q3 p hp
    exact ⟨v, H3, I3.tok _, hv, hq⟩
  · rw [storedH_new hn] at hm'
    obtain ⟨H4, I4, ch⟩ := dN_write (t' := s3.toks + (nestedKind X.prog X.w).draws (nk dk)) I3 ⟨_, dn⟩ hs hm' sb
    exact ⟨.ref a, H4, I4, rfl, q4 hn H4 ch⟩
/-- d[y] = v -/
def tPutN (P : Program) (w : World) (K : PySem.W.Frag) (td ty tv : TE) : TS := fun Dn σ H => tv σ H fun v H1 => td σ H1 fun x H2 => ty σ H2 fun y H3 => ∃ D xs b dk u, x = .ref D ∧ DN P w H3 D xs ∧ KeysIn K H3 xs ∧ y = .ref b ∧ Dt K H3 (.ref b) dk ∧ (nk dk).depth ≤ 8 ∧ v = .bl u ∧ xs.length ≤ 1000 ∧
  ∀ H4, DCh P w H3 H4 D (storedH xs (nk dk) b (.bool u)) → Dn.nx σ H4
theorem ps_putN {td ty tv : TE} {k : Nat} {i value : Expr} {tpos : Pos} (hu : Room k X.A) (ho : PE X o td) (hi : PE X i ty) (hv : PE X value tv) (hs : swapsWith value (some (.Subscript o i tpos)) pos.line X.env = pure false := by rfl) :
    PS X (.Assign [.Subscript o i tpos] value pos) (tPutN X.prog X.w X.K td ty tv) := by
  refine ⟨fun pins s σ H Dn I h => ?_⟩
  refine wpAny_Assign_Subscript (thn (hv.run pins s σ H _ I h) fun r s1 ⟨v, H1, I1, rv, q1⟩ => thn (ho.run pins s1 σ H1 _ I1 q1) fun u s2 ⟨x, H2, I2, rx, q2⟩ => thn (hi.run pins s2 σ H2 _ I2 q2) fun iv s3 ⟨y, H3, I3, ry, D, xs, b, dk, ub, ex, dn, kin, ey, hdk, hdp, ev, hl, q3⟩ => ?_) hs
  subst ex ey ev
  obtain rfl : u = Value.ref D := rx
  obtain rfl : iv = Value.ref b := ry
  obtain rfl : r = Value.bool ub := rv
  obtain ⟨hs, hm⟩ := dictOfH I3 dn kin
  refine wpAny_setItem_heap (hsz := size_ok hl) (by show X.A.in1.units + 8 < cLine; have := hu.un; show X.A.units + 1 + 8 < cLine; omega) (key_is I3 hdk hdp) hm fun h' hm' sb => ?_
  obtain ⟨H4, I4, ch⟩ := dN_write (t' := s3.toks + (nestedKind X.prog X.w).draws (nk dk)) I3 ⟨_, dn⟩ hs hm' sb
  exact ⟨σ, H4, I4, q3 H4 ch⟩
/-- the values -/
def ItvN (d : Addr) (es : Array DictEntry) (ep : Nat) : It :=
  ⟨fun i H => H d = some (dR d es ep) ∧ i < es.size, fun i H x H' => H' = H ∧ ∃ e, es[i]? = some e ∧ L2.RelV x e.val, fun i H => H d = some (dR d es ep) ∧ es.size ≤ i⟩
theorem turn_valsN {P : Program} {w : World} {K : PySem.W.Frag} {tg : Expr} {d : Addr} {es : Array DictEntry} {ep : Nat} (it : Addr) (hv : ∀ i (hi : i < es.size), ∃ x, L2.RelV x es[i].val) : Turn P w K tg (ItvN d es ep) [it] it (fun i h => h.IsValIter it d i es.size ep) where
  mem := by simp
  obj := fun i h st b hb => by
    have e : b = it := by simpa using hb
    subst e
    obtain ⟨oi, e, c, dd⟩ := st
    exact ⟨oi, e, fun v z => by rw [dd] at z; cases z⟩
  keep := fun i h h' st k => st.at fun oi e => k it (by simp) oi e
  item := by
    intro X hP hw hK hc i pins s σ H E I hf st hg
    subst hP hw hK
    obtain ⟨hd, hi⟩ := hg
    obtain ⟨f0, f1, f2, f3, f4, f5⟩ := hf it (by simp)
    obtain ⟨_, hr⟩ := dR_at I hd
    obtain ⟨x, hx⟩ := hv i hi
    refine wpAny_pyNext_values_item_raw st hr hi fun h' st' sb => ?_
    have I1 : Inv X pins σ H { s with heap := h' } := I.turned (t' := s.toks) (fun b ob hb e => (sb.2 b hb).trans e) f0 f1 f3 f4 f5
    obtain ⟨oi, e, c, dd⟩ := id st'
    exact ⟨es[i].val, rfl, go_of (s := { s with heap := h' }) e c dd (by decide) ⟨x, H, I1, hx, ⟨rfl, es[i], by simp [hi], hx⟩, st', fun b hb => (hf b hb).1⟩⟩
  done := by
    intro X hP hw hK hc i pins s σ H E I hf st hg
    subst hP hw hK
    obtain ⟨hd, hi⟩ := hg
    obtain ⟨f0, f1, f2, f3, f4, f5⟩ := hf it (by simp)
    obtain ⟨_, hr⟩ := dR_at I hd
    exact wpAny_pyNext_values_end_raw (I.ok.hd hc) st hr hi fun h' eb => ⟨rfl, I.turned (t' := s.toks) (fun b ob hb e => eb b ob hb e) f0 f1 f3 f4 f5⟩
  self := fun A i s Q E st h => wpAny_pyIter_valiter st h
def iValsN (td : TE) : TI := fun σ H R => td σ H fun x H1 => ∃ d es ep, x = .ref d ∧ H1 d = some (dR d es ep) ∧ (∀ i (hi : i < es.size), ∃ x, L2.RelV x es[i].val) ∧ R (ItvN d es ep) H1
theorem pi_valuesN {tg : Expr} {td : TE} (he : PE X e td) (hbase : attributeBase e "values" X.env (eval e X.env) = eval e X.env := by rfl) (hline : (apos.endLine == cpos.line) = true := by rfl) : PI X tg (.Call (.Attribute e "values" apos) [] [] cpos) (iValsN td) := by
  refine ⟨fun pins s σ H R I h => ?_⟩
  refine wpAny_Call_method (T := "dict") (id := "dict.values") hbase rfl hline F.plainAttrs_dict F.slot_dict_values F.type_dict_values (thn (he.run pins s σ H _ I h) fun u s1 ⟨x, H1, I1, rx, d, es, ep, ex, hd, hv, q⟩ => ?_)
  subst ex
  obtain rfl : u = Value.ref d := rx
  obtain ⟨hs, hr⟩ := dR_at I1 hd
  refine ⟨hr.typeIs, fun a ea => by cases ea; obtain ⟨ob, h1, h2, _⟩ := hr; exact ⟨ob, h1, h2.2.1⟩, ?_⟩
  have I2 : Inv X pins σ H1 { s1 with heap := s1.heap.push { cls := .type "dict_values", data := .fields #[.ref d] } } := I1.kept (t' := s1.toks) fun b ob q => Heap.get?_push_of_some _ q
  have fin : wpAny (model X.prog X.w) X.A (pyIter (.ref s1.heap.objs.size)) (PIE X pins σ tg R) X.xe { s1 with heap := s1.heap.push { cls := .type "dict_values", data := .fields #[.ref d] } } := by
    refine wpAny_pyIter_values_raw (d := d) (es := es) (ep := ep) ⟨_, Heap.get?_push_size _ rfl, rfl, rfl⟩ (hr.at fun o e => Heap.get?_push_of_some _ e) (pi_one (tk := s1.toks) I2 _ (turn_valsN _ hv) ⟨_, Heap.get?_push_size _ rfl, rfl, rfl⟩ q)
  show wpAny _ _ (callWith cpos (.builtin "dict.values") [.ref d] [] []) _ X.xe s1
  exact method_meetsIn F.slot_dict_values F.entry_dict_values rfl (PySem.evalArgs_none ⟨rfl, hr.typeIs, F.args_dict_values_1 _, _, meets_dict_values_raw d hs, ⟨es, ep, hr⟩, fin⟩)
/-- list(d) -/
def rListN (P : Program) (w : World) : List V → Hp → VK → Prop := fun vs H Q => ∃ d xs, vs = [.ref d] ∧ DN P w H d xs ∧ xs.length ≤ 1000 ∧ ∀ l, H l = none → Q (.ref l) (upd H l (.lst (xs.map fun x => V.ref x.2.1)))
theorem cr_listN (hc : X.calm = true) : CallR X (.type "list") (rListN X.prog X.w) := by
  intro pins s σ H xs us Q I r h
  obtain ⟨d, xs, rfl, dn, hl, q⟩ := h
  obtain ⟨u, rfl, rx⟩ := vals1 r
  obtain rfl : u = Value.ref d := rx
  obtain ⟨es, ep, e1, e2, _⟩ := dn
  obtain ⟨hs, hr⟩ := dR_at I e1
  have hsz : es.size = xs.length := by rw [← Array.length_toList, e2, List.length_map]
  refine kdl_call (KdlSrc.rawDict hs) (I.ok.hd hc) hr (by rw [hsz]; exact size_ok hl) fun h' tk acc' c' kp hS hacc => ?_
  refine ⟨.ref s.heap.objs.size, _, I.laid (t' := tk) (o := .lst (xs.map fun x => V.ref x.2.1)) kp (Nat.le_refl _) ?_, rfl, q _ (I.hok.fresh (Nat.le_refl _))⟩
  refine ⟨by rw [List.length_map]; exact size_ok hl, acc'.toList, c', ?_, by rw [Array.toArray_toList]; exact hS⟩
  have key : acc'.toList = xs.map fun x => Value.ref x.2.1 := by
    apply List.ext_getElem?
    intro j
    by_cases hj : j < es.size
    · have hj2 : j < xs.length := by omega
      have hlen : acc'.size = es.size := hacc.1
      have e3 : acc'.toList[j]? = some acc'[j] := by simp [hlen, hj]
      obtain ⟨hi, e4⟩ := hacc.2 j acc'[j] (by simp [hlen, hj])
      have e5 : es.toList[j]? = some es[j] := by simp [hj]
      rw [e2, List.getElem?_map, List.getElem?_eq_getElem hj2] at e5
      have e6 : entryOfKey (nestedKind X.prog X.w) xs[j] = es[j] := by simpa using e5
      rw [e3, e4, ← e6, List.getElem?_map, List.getElem?_eq_getElem hj2]
      rfl
    · rw [List.getElem?_eq_none (by rw [Array.length_toList, hacc.1]; omega), List.getElem?_eq_none (by rw [List.length_map]; omega)]
  rw [key]
  have vals : ∀ xs : DXs, Vals (xs.map fun x => V.ref x.2.1) (xs.map fun x => Value.ref x.2.1) := fun xs => by
    induction xs with
    | nil => exact .nil
    | cons x xs ih => exact .cons rfl ih
  exact vals xs
end
end L3
set_option Elab.async false
set_option linter.all false
set_option maxRecDepth 100000
set_option maxHeartbeats 1000000
/-! what each def of the program promises -/
namespace AW
open PySem PySem.Spec PyProof.Rows L2 L3 AM
def topS (i : Nat) : Stmt := PySem.Challenge.pw_arcmill_k47_whole_few_pieces_whatever_is.main.body.getD i (.Pass ⟨0, 0, 0, 0⟩)
/-- the def i of the program, at f -/
abbrev Fd (K : PySem.W.Frag) (x : Str) (i : Nat) (kws : List (Str × V)) (f : Addr) (fd : FuncData) : Prop := FunD K x x (defArgs (topS i)) (defBody (topS i)) (defScope (topS i)) [] kws f fd
abbrev Rel := List Ent → Ent → Prop
abbrev R_divisor : Rel := fun es r => ∃ i j : Int, es = [.d (.int i), .d (.int j)] ∧ r = .d (.int (Int.gcd i j : Nat))
abbrev R_ratio : Rel := fun es r => ∃ t b : Int, es = [.d (.int t), .d (.int b)] ∧ r = .d (fD (Rat.divInt t b)) ∧ b ≠ 0 ∧ b.natAbs < 2 ^ 9000
abbrev R_plus : Rel := fun es r => ∃ p q : Rat, es = [.d (fD p), .d (fD q)] ∧ r = .d (fD (p + q)) ∧ Bd 4400 p ∧ Bd 4400 q
abbrev R_minus : Rel := fun es r => ∃ p q : Rat, es = [.d (fD p), .d (fD q)] ∧ r = .d (fD (p - q)) ∧ Bd 4400 p ∧ Bd 4400 q
abbrev R_times : Rel := fun es r => ∃ p q : Rat, es = [.d (fD p), .d (fD q)] ∧ r = .d (fD (p * q)) ∧ Bd 4400 p ∧ Bd 4400 q
abbrev R_over : Rel := fun es r => ∃ p q : Rat, es = [.d (fD p), .d (fD q)] ∧ r = .d (fD (p / q)) ∧ Bd 4400 p ∧ Bd 4400 q ∧ q ≠ 0
abbrev R_below : Rel := fun es r => ∃ p q : Rat, es = [.d (fD p), .d (fD q)] ∧ r = .d (.bool (below p q)) ∧ Bd 4400 p ∧ Bd 4400 q
abbrev R_together : Rel := fun es r => ∃ p q : Pt, es = [.d (pD p), .d (pD q)] ∧ r = .d (pD (tog p q)) ∧ BdP 4400 p ∧ BdP 4400 q
abbrev R_off : Rel := fun es r => ∃ p q : Pt, es = [.d (pD p), .d (pD q)] ∧ r = .d (pD (off p q)) ∧ BdP 4400 p ∧ BdP 4400 q
def turn1 (p : Pt) : Pt := (-p.2, p.1)
abbrev R_turned : Rel := fun es r => ∃ (p : Pt) (n : Nat), es = [.d (pD p), .d (.int n)] ∧ r = .d (pD (Nat.repeat turn1 n p)) ∧ n < 4
abbrev R_along : Rel := fun es r => ∃ p q : Pt, es = [.d (pD p), .d (pD q)] ∧ r = .d (fD (along p q)) ∧ BdP 2050 p ∧ BdP 2050 q
abbrev R_across : Rel := fun es r => ∃ p q : Pt, es = [.d (pD p), .d (pD q)] ∧ r = .d (fD (across p q)) ∧ BdP 2050 p ∧ BdP 2050 q
abbrev R_far : Rel := fun es r => ∃ p q : Pt, es = [.d (pD p), .d (pD q)] ∧ r = .d (fD (far p q)) ∧ BdP 900 p ∧ BdP 900 q
abbrev R_sign_of : Rel := fun es r => ∃ p : Rat, es = [.d (fD p)] ∧ r = .d (.int (sgn p))
abbrev R_side : Rel := fun es r => ∃ a b p : Pt, es = [.d (pD a), .d (pD b), .d (pD p)] ∧ r = .d (.int (side a b p)) ∧ BdP 900 a ∧ BdP 900 b ∧ BdP 900 p
abbrev R_before : Rel := fun es r => ∃ p q : Pt, es = [.d (pD p), .d (pD q)] ∧ r = .d (.bool (before p q)) ∧ BdP 4400 p ∧ BdP 4400 q
def lineK (p q : Pt) : AM.Key := .line (lineT p q).1 (lineT p q).2.1 (lineT p q).2.2
abbrev R_line : Rel := fun es r => ∃ p q : Pt, es = [.d (pD p), .d (pD q)] ∧ r = .d (kD (lineK p q)) ∧ BdP 500 p ∧ BdP 500 q ∧ p ≠ q
abbrev R_lies_on : Rel := fun es r => ∃ (x : Pc) (p : Pt), es = [.d (xD x), .d (pD p)] ∧ r = .d (.bool (liesOn x p)) ∧ PcB 900 x ∧ BdP 900 p ∧ (∀ c, isRound x = c → c = false)
abbrev R_cut : Rel := fun es r => ∃ p q m : Pt, es = [.d (xD (.st p q)), .d (pD m)] ∧ r = .n ((cutOf (.st p q) m).map xD) ∧ BdP 500 p ∧ BdP 500 q ∧ BdP 500 m
abbrev R_quarter_of : Rel := fun es r => ∃ p q : Pt, es = [.d (pD p), .d (pD q)] ∧ r = .d (.int (quarterOf p q)) ∧ BdP 2050 p ∧ BdP 2050 q
abbrev R_ahead : Rel := fun es r => ∃ c a p q : Pt, es = [.d (pD c), .d (pD a), .d (pD p), .d (pD q)] ∧ r = .d (.bool (AM.ahead c a p q)) ∧ BdP 900 c ∧ BdP 900 a ∧ BdP 900 p ∧ BdP 900 q
abbrev R_on : Rel := fun es r => ∃ (x : Pc) (p : Pt), es = [.d (xD x), .d (pD p)] ∧ r = .d (.bool (on x p)) ∧ PcB 900 x ∧ BdP 900 p
abbrev R_at_share : Rel := fun es r => ∃ (c a : Pt) (t : Rat), es = [.d (pD c), .d (pD a), .d (fD t)] ∧ r = .d (pD (atShare c a t)) ∧ BdP 200 c ∧ BdP 200 a ∧ Bd 20 t
abbrev R_quarters : Rel := fun es r => ∃ x : Pc, es = [.d (xD x)] ∧ r = .n ((quartersOf x).map pD) ∧ PcB 200 x ∧ isRound x = true
def keyD (x : Pc) : PyData := match AM.keyOf x with
  | some k => kD k
  | none => .none
/-- what the carrier needs -/
def CarOk (x : Pc) : Prop := PcB 500 x ∧ ∀ p q, x = .st p q → p ≠ q
abbrev R_carrier : Rel := fun es r => ∃ x : Pc, es = [.d (xD x)] ∧ r = .d (keyD x) ∧ CarOk x
def optD (o : Option Pc) : PyData := match o with
  | some x => xD x
  | none => .none
abbrev R_two_stretches : Rel := fun es r => ∃ a b p q : Pt, es = [.d (xD (.st a b)), .d (xD (.st p q))] ∧ r = .d (optD (twoSt a b p q)) ∧ PcB 500 (.st a b) ∧ PcB 500 (.st p q)
abbrev R_two_arcs : Rel := fun es r => ∃ c a b c' p q : Pt, es = [.d (xD (.arc c a b)), .d (xD (.arc c' p q))] ∧ r = .d (optD (twoArc c a b p q)) ∧ c' = c ∧ PcB 500 (.arc c a b) ∧ PcB 500 (.arc c' p q)
/-- all of one kind: stretches, or of one circle -/
def Kin (k : AM.Key) (l : List Pc) : Prop := ∀ x ∈ l, (PcOk x ∧ AM.keyOf x = some k) ∧ PcB 500 x
abbrev R_put_in : Rel := fun es r => ∃ (k : AM.Key) (l : List Pc) (x : Pc), es = [.r (l.map xD), .d (xD x)] ∧ r = .n ((putIn l x).map xD) ∧ Kin k (x :: l) ∧ l.length ≤ 200
abbrev R_joined_on : Rel := fun es r => ∃ (k : AM.Key) (l : List Pc), es = [.r (l.map xD)] ∧ r = .n ((joinedOn l).map xD) ∧ Kin k l ∧ l ≠ [] ∧ l.length ≤ 200
abbrev R_bare : Rel := fun es r => ∃ x : Pc, es = [.d (xD x)] ∧ r = .d (bD (bare x)) ∧ PcB 500 x
end AW
namespace AW
open PySem PySem.Spec PyProof.Rows L2 L3 AM
theorem log_le {a n : Nat} (h : a < 2 ^ n) : a.log2 ≤ n := by
  by_cases h0 : a = 0
  · subst h0; simp
  · exact Nat.le_of_lt ((Nat.log2_lt h0).mpr h)
theorem cm {x y : Int} {n m : Nat} (h1 : x.natAbs < 2 ^ n) (h2 : y.natAbs < 2 ^ m) (h : n + m < 1000000 := by decide) : CMulW x y := by
  have := log_le h1
  have := log_le h2
  unfold CMulW
  omega
theorem cd {x y : Int} {n : Nat} (h0 : y ≠ 0) (h1 : y.natAbs < 2 ^ n) (h : n ≤ 9000 := by decide) : CDivX x y := by
  refine ⟨h0, ?_⟩
  have q : y.natAbs < 2 ^ 9000 := Nat.lt_of_lt_of_le h1 (Nat.pow_le_pow_right (by decide) h)
  exact (Nat.log2_lt (by omega)).mpr q
theorem eqF {p q : Rat} {b : Bool} (h : PyData.eqv (Ent.data (.d (fD p))) (Ent.data (.d (fD q))) = b) : decide (p = q) = b := (eqv_fD p q).symm.trans h
theorem eqP {p q : Pt} {b : Bool} (h : PyData.eqv (Ent.data (.d (pD p))) (Ent.data (.d (pD q))) = b) : decide (p = q) = b := (eqv_pD p q).symm.trans h
theorem eqI {p q : Int} {b : Bool} (h : PyData.eqv (Ent.data (.d (.int p))) (Ent.data (.d (.int q))) = b) : decide (p = q) = b := (eqv_int p q).symm.trans h
theorem neP {p q : Pt} {b : Bool} (h : (!PyData.eqv (Ent.data (.d (pD p))) (Ent.data (.d (pD q)))) = b) : (!decide (p = q)) = b := by
  rw [← h]
  exact congrArg _ (eqv_pD p q).symm
theorem neF {p q : Rat} {b : Bool} (h : (!PyData.eqv (Ent.data (.d (fD p))) (Ent.data (.d (fD q)))) = b) : (!decide (p = q)) = b := by
  rw [← h]
  exact congrArg _ (eqv_fD p q).symm
theorem neI {p q : Int} {b : Bool} (h : (!PyData.eqv (Ent.data (.d (.int p))) (Ent.data (.d (.int q)))) = b) : (!decide (p = q)) = b := by
  rw [← h]
  exact congrArg _ (eqv_int p q).symm
theorem eqS {x y : Str} {b : Bool} (h : PyData.eqv (Ent.data (.d (.str x))) (Ent.data (.d (.str y))) = b) : decide (x = y) = b := (eqv_str x y).symm.trans h
theorem b_ifB {X : Cx} {B : Hp} {F W : List Addr} {Γ : Gam} {P : Pst} {e : Expr} {A C rest : List Stmt} {pos : Pos} (c : Bool) (h : XT X W e Γ fun Γ1 b => Γ1 = Γ ∧ b = c)
    (h1 : c = true → XB X B F W A Γ { P with nx := fun Γ2 => XB X B F W rest Γ2 P }) (h2 : c = false → XB X B F W C Γ { P with nx := fun Γ2 => XB X B F W rest Γ2 P }) : XB X B F W (.If e A C pos :: rest) Γ P :=
  b_if (PT.imp h fun σ H Q q => ⟨q.1, fun b H2 Γ2 c2 s2 p => q.2 b H2 Γ2 c2 s2 (by
    obtain ⟨rfl, rfl⟩ := p
    exact ⟨h1, h2⟩)⟩)
theorem fdiv_lt {x y : Int} {n : Nat} (h : x.natAbs < 2 ^ n) (hy : 0 < y) : (x.fdiv y).natAbs < 2 ^ n := by
  rw [Int.fdiv_eq_ediv_of_nonneg _ (by omega)]
  exact Nat.lt_of_le_of_lt (Int.natAbs_ediv_le_natAbs x y) h
def offs (a : Addr) : Gam → Prop
  | [] => True
  | none :: l => offs a l
  | some e :: l => e.off a ∧ offs a l
theorem offs_get {a : Addr} : ∀ {Γ : Gam} {j : Nat} {e : Ent}, offs a Γ → Γ[j]? = some (some e) → e.off a
  | [], _, _, _, h => by simp at h
  | none :: l, 0, _, _, h => by simp at h
  | none :: l, j + 1, _, o, h => offs_get (Γ := l) o (by simpa using h)
  | some x :: l, 0, _, o, h => by simp at h; subst h; exact o.1
  | some x :: l, j + 1, _, o, h => offs_get (Γ := l) o.2 (by simpa using h)
theorem alone_of {Γ : Gam} {i : Nat} {a : Addr} (h : offs a (Γ.set i none)) : Alone Γ i a := fun j e hj he => offs_get h (by rw [List.getElem?_set_ne (Ne.symm hj)]; exact he)
theorem rng_get {lo : Int} {n k : Nat} {d : PyData} (h : (rngD lo n)[k]? = some d) : k < n ∧ d = .int (lo + (k : Nat)) := by
  have hk : k < n := by
    have := (List.getElem?_eq_some_iff.mp h).1
    simpa [rngD] using this
  refine ⟨hk, ?_⟩
  simp [rngD, List.getElem?_map, List.getElem?_range hk] at h
  exact h.symm
theorem rng_len {lo : Int} {n : Nat} : (rngD lo n).length = n := by simp [rngD]
theorem XB.mono {X : Cx} {B : Hp} {F W : List Addr} {Γ : Gam} {P P' : Pst} {sts : List Stmt} (h : XB X B F W sts Γ P) (h1 : ∀ Γ, P.nx Γ → P'.nx Γ) (h2 : ∀ Γ r, P.rt Γ r → P'.rt Γ r) (h3 : ∀ Γ, P.bk Γ → P'.bk Γ) (h4 : ∀ Γ, P.ct Γ → P'.ct Γ) : XB X B F W sts Γ P' :=
  PSs.imp h fun D σ H q => ⟨q.1, q.2.1, fun σ' H' Γ' g s p => q.2.2.1 σ' H' Γ' g s (h1 _ p), fun v σ' H' Γ' r g s o p => q.2.2.2.1 v σ' H' Γ' r g s o (h2 _ _ p), fun σ' H' Γ' g s p => q.2.2.2.2.1 σ' H' Γ' g s (h3 _ p), fun σ' H' Γ' g s p => q.2.2.2.2.2 σ' H' Γ' g s (h4 _ p)⟩
/-- an if, its two ways joined -/
theorem b_ifJ {X : Cx} {B : Hp} {F W : List Addr} {Γ : Gam} {P : Pst} {e : Expr} {A C rest : List Stmt} {pos : Pos} (J : Gam → Prop) (h : XT X W e Γ fun Γ1 b => (b = true → XB X B F W A Γ1 { P with nx := J }) ∧ (b = false → XB X B F W C Γ1 { P with nx := J }))
    (hJ : ∀ Γ2, J Γ2 → XB X B F W rest Γ2 P) : XB X B F W (.If e A C pos :: rest) Γ P :=
  b_if (PT.imp h fun σ H Q q => ⟨q.1, fun b H2 Γ2 c2 s2 p => q.2 b H2 Γ2 c2 s2 ⟨fun hb => XB.mono (p.1 hb) hJ (fun _ _ z => z) (fun _ z => z) (fun _ z => z), fun hb => XB.mono (p.2 hb) hJ (fun _ _ z => z) (fun _ z => z) (fun _ z => z)⟩⟩)
theorem at_map {α : Type} {e : α → PyData} {l : List α} {n : Nat} {y : α} (h : l[n]? = some y) : atI (l.map e) (n : Int) = some (e y) := by
  have hl := (List.getElem?_eq_some_iff.mp h).1
  unfold atI ixN
  have : (l.map e)[n]? = some (e y) := by rw [List.getElem?_map, h]; rfl
  simp [hl]
  exact congrArg e (List.getElem?_eq_some_iff.mp h).2
theorem at_zero {d : PyData} {l : List PyData} : atI (d :: l) 0 = some d := by
  unfold atI ixN
  simp
def chainE : Option (List Nat) → Ent
  | none => .d .none
  | some ks => .n (ks.map fun k => .int (k : Nat))
/-- a chain, told in n turns -/
abbrev R_chainG (f : Pc → Bool) : Rel := fun es r => ∃ (l : List Pc) (x : Pc) (n : Nat) (o : Option (List Nat)), es = [.r (l.map xD), .d (xD x)] ∧ r = chainE o ∧ (∀ y ∈ x :: l, CarOk y) ∧ l.length ≤ 200 ∧ n ≤ 300 ∧ ChainIs l x n o ∧ f x = true
abbrev R_straight_chain : Rel := R_chainG isSt
abbrev R_round_chain : Rel := R_chainG isRound
abbrev R_chain : Rel := R_chainG fun _ => true
def natD (o : Option Nat) : PyData := match o with
  | none => .none
  | some k => .int (k : Nat)
abbrev R_furthest : Rel := fun es r => ∃ (l : List Pc) (S : List Nat) (here : Pt), es = [.r (l.map xD), .r (S.map fun k => .int (k : Nat)), .d (pD here)] ∧ r = .d (natD (S.foldl (bestArc l here) none)) ∧ (∀ k ∈ S, ∃ c p q, l[k]? = some (.arc c p q) ∧ PcB 500 (.arc c p q)) ∧ BdP 500 here ∧ S.length ≤ 200
theorem eqv_keyD (x y : Pc) : PyData.eqv (keyD x) (keyD y) = decide (AM.keyOf x = AM.keyOf y) := by
  unfold keyD
  cases h1 : AM.keyOf x with
  | none =>
    cases h2 : AM.keyOf y with
    | none => simp [PyData.eqv]
    | some k =>
      cases k <;> simp [kD, PyData.eqv]
  | some k =>
    cases h2 : AM.keyOf y with
    | none => cases k <;> simp [kD, PyData.eqv]
    | some k' =>
      simp only [Option.some.injEq]
      exact eqv_kD k k'
theorem shp_keyD (x : Pc) : Shp 3 (keyD x) := by
  unfold keyD
  cases AM.keyOf x with
  | none => exact shp_non.le (by decide)
  | some k => exact shp_kD k
theorem enum_get {l : List Pc} {k : Nat} {d : PyData} (h : (enumD (l.map xD))[k]? = some d) : ∃ y, l[k]? = some y ∧ d = .tuple [.int (k : Nat), xD y] := by
  simp [enumD, List.getElem?_map, List.getElem?_zipIdx] at h
  obtain ⟨y, h1, h2⟩ := h
  exact ⟨y, h1, h2.symm⟩
theorem getD_of {l : List Pc} {k : Nat} {y : Pc} (h : l[k]? = some y) : l.getD k nul = y := by
  rw [List.getD_eq_getElem?_getD, h]
  rfl
theorem some_step {f : Nat → Bool} (n : Nat) : ((List.range (n + 1)).filter f).map (fun k => PyData.int (k : Nat)) = ((List.range n).filter f).map (fun k => PyData.int (k : Nat)) ++ (if f n = true then [PyData.int (n : Nat)] else []) := by
  rw [List.range_succ, List.filter_append, List.map_append]
  congr 1
  simp only [List.filter_cons, List.filter_nil]
  split <;> rfl
theorem someOf_mem {f : Pc → Bool} {o : Option AM.Key} {l : List Pc} {k : Nat} (h : k ∈ someOf f o l) : ∃ y, l[k]? = some y ∧ f y = true ∧ AM.keyOf y = o := by
  unfold someOf at h
  rw [List.mem_filter, List.mem_range] at h
  obtain ⟨h1, h2⟩ := h
  have e : l[k]? = some l[k] := by simp [h1]
  rw [getD_of e, Bool.and_eq_true, decide_eq_true_eq] at h2
  exact ⟨l[k], e, h2⟩
theorem someOf_len {f : Pc → Bool} {o : Option AM.Key} {l : List Pc} : (someOf f o l).length ≤ l.length := by
  unfold someOf
  exact Nat.le_trans (List.length_filter_le ..) (by simp)
def accD (f : Nat → Bool) (n : Nat) : List PyData := ((List.range n).filter f).map fun k => PyData.int (k : Nat)
theorem accD_step (f : Nat → Bool) (n : Nat) : accD f (n + 1) = accD f n ++ (if f n = true then [PyData.int (n : Nat)] else []) := some_step n
def fOf (g : Pc → Bool) (o : Option AM.Key) (l : List Pc) (k : Nat) : Bool := g (l.getD k nul) && decide (AM.keyOf (l.getD k nul) = o)
theorem accD_all (g : Pc → Bool) (o : Option AM.Key) (l : List Pc) : accD (fOf g o l) (enumD (l.map xD)).length = (someOf g o l).map fun k => PyData.int (k : Nat) := by
  unfold accD someOf fOf
  rw [show (enumD (l.map xD)).length = l.length by simp [enumD]]
theorem fOf_of {g : Pc → Bool} {o : Option AM.Key} {l : List Pc} {k : Nat} {y : Pc} (h : l[k]? = some y) : fOf g o l k = (g y && decide (AM.keyOf y = o)) := by
  unfold fOf
  rw [getD_of h]
theorem shp_keyE (x : Pc) : SeqAt.shaped (Ent.data (.d (keyD x))) = true := (shp_keyD x).ok
theorem _root_.L3.Slots.less {K : PySem.W.Frag} {W : List Addr} {Γ Γ' : Gam} {σ : L2.St} {H : Hp} (s : Slots K W Γ σ H) (hl : Γ'.length = Γ.length) (h : ∀ (i : Nat) (e : Ent), Γ'[i]? = some (some e) → Γ[i]? = some (some e)) : Slots K W Γ' σ H :=
  ⟨by rw [hl]; exact s.len, fun i e hi => s.at_ i e (h i e hi), s.there⟩
abbrev R_alike_pieces : Rel := fun es r => ∃ l m : List Pc, es = [.r (l.map xD), .r (m.map xD)] ∧ r = .d (.bool true) ∧ ((preJ l).map bare).Perm ((preJ m).map bare) ∧ (∀ y ∈ l, PcOk y ∧ PcB 500 y) ∧ l.length ≤ 200 ∧ (∀ y ∈ m, PcOk y ∧ PcB 500 y) ∧ m.length ≤ 200
abbrev R__law_cell_at : Rel := fun es r => ∃ (a : Addr) (ns : List Int), es = [.k a (ns.map PyData.int), .d (.int 0)] ∧ r = .d (.int (ns.getD 0 0))
abbrev R__law_feed : Rel := fun es r => ∃ i : Int, es = [.d (.int i)] ∧ r = .n [.int i, .int 0, .int (if decide (10 ^ 18 ≤ i) = true then 1 else 0)]
abbrev R__law_lowest : Rel := R_ratio
abbrev R__law_sum : Rel := fun es r => ∃ (p q : Rat) (b : Int), es = [.d (fD p), .d (fD q), .d (.int b)] ∧ r = .d (fD (if b = 1 then p + q else p - q)) ∧ (b = 1 ∨ b = -1) ∧ Bd 4400 p ∧ Bd 4400 q
abbrev R__law_product : Rel := R_times
abbrev R__law_both : Rel := fun es r => ∃ (p q : Pt) (b : Int), es = [.d (pD p), .d (pD q), .d (.int b)] ∧ r = .d (pD (if b = 1 then tog p q else off p q)) ∧ (b = 1 ∨ b = -1) ∧ BdP 4400 p ∧ BdP 4400 q
abbrev R__law_at_share : Rel := fun es r => ∃ (c a : Pt) (t : Rat), es = [.d (pD c), .d (pD a), .d (fD t)] ∧ r = .d (pD (atShare c a t)) ∧ BdP 200 c ∧ BdP 200 a ∧ Bd 20 t
def mixP (p q : Pt) (t : Rat) : Pt := (p.1 + (q.1 - p.1) * t, p.2 + (q.2 - p.2) * t)
abbrev R__law_mixed : Rel := fun es r => ∃ (p q : Pt) (t : Rat), es = [.d (pD p), .d (pD q), .d (fD t)] ∧ r = .d (pD (mixP p q t)) ∧ BdP 200 p ∧ BdP 200 q ∧ Bd 20 t
abbrev R__law_first : Rel := R_before
abbrev R__law_bare : Rel := fun es r => ∃ l : List Pc, es = [.r (l.map xD)] ∧ r = .n (((l.map bare).mergeSort (PySem.W.dataLe false lbD)).map lbD) ∧ (∀ y ∈ l, PcOk y ∧ PcB 500 y) ∧ l.length ≤ 500
end AW
set_option maxHeartbeats 0
namespace AH
open PySem PySem.Spec PyProof.Rows L2 AW
def dd (x : Str) (i : Nat) : He.DefD := ⟨(x, none), x, x, defArgs (topS i), defBody (topS i), defScope (topS i), [], []⟩
def fn : List He.DefD := [dd "_law_feed" 48, dd "divisor" 5, dd "ratio" 6, dd "minus" 8, dd "off" 14, dd "times" 9, dd "across" 17, dd "line" 23, dd "plus" 7, dd "along" 16, dd "far" 18, dd "carrier" 33, dd "by_carriers" 34, dd "below" 11, dd "before" 21, dd "two_stretches" 35, dd "sign_of" 19, dd "quarter_of" 27, dd "ahead" 28, dd "side" 20, dd "lies_on" 24, dd "on" 29, dd "two_arcs" 36, dd "put_in" 37, dd "joined_on" 38, dd "joined" 39, dd "_law_cell_at" 47, dd "_law_draw" 49, dd "_law_lowest" 50, dd "_law_small" 51, dd "_law_spot" 52, dd "_law_first" 65, dd "_law_sum" 53, dd "_law_base" 66, dd "_law_both" 55, dd "_law_start_here" 62, dd "furthest" 43, dd "round_chain" 44, dd "straight_chain" 42, dd "chain" 45, dd "_law_product" 54, dd "_law_at_share" 58, dd "_law_share" 61, dd "_law_some" 63, dd "_law_mixed" 64, dd "_law_weighed" 67, dd "_law_one_here" 68, dd "together" 13, dd "turned" 15, dd "quarters" 31, dd "over" 10, dd "at_share" 30, dd "cut" 25, dd "_law_parts" 69, dd "_law_bare" 70, dd "bare" 40, dd "alike_pieces" 41, dd "law" 71]
def fa : List He.Fa := [.glo "_law_feed", .glo "divisor", .glo "ratio", .glo "minus", .glo "off", .glo "times", .glo "across", .glo "line", .glo "plus", .glo "along", .glo "far", .glo "carrier", .glo "by_carriers", .glo "below", .glo "before", .glo "two_stretches", .glo "sign_of", .glo "quarter_of", .glo "ahead", .glo "side", .glo "lies_on", .glo "on", .glo "two_arcs", .glo "put_in", .glo "joined_on", .glo "joined", .glo "_law_cell_at", .glo "_law_draw", .glo "_law_lowest", .glo "_law_small", .glo "_law_spot", .glo "_law_first", .glo "_law_sum", .glo "_law_base", .glo "_law_both", .glo "_law_start_here", .glo "furthest", .glo "round_chain", .glo "straight_chain", .glo "chain", .glo "_law_product", .glo "_law_at_share", .glo "_law_share", .glo "_law_some", .glo "_law_mixed", .glo "_law_weighed", .glo "_law_one_here", .glo "together", .glo "turned", .glo "quarters", .glo "over", .glo "at_share", .glo "cut", .glo "_law_parts", .glo "_law_bare", .glo "bare", .glo "alike_pieces", .glo "law", .free "int", .free "abs", .free "list", .free "len", .free "any", .free "sorted", .free "zip", .free "enumerate", .free "range", .free "all"]
abbrev R : PySem.W.OpenRow := PySem.W.OpenLaw.row PySem.Challenge.rw_arcmill_k47_whole_few_pieces_whatever_is
abbrev hk : PySem.W.Hook := He.hookD 4 fa fn
def ob (s : PySem.W.SharedT) : He.AlD := He.obsDG 4 fa fn (HandSHeadRun.getT s)
theorem ob_eq (s : PySem.W.SharedT) : ob s = hk.obs s.abs := He.obsDG_eq (HandSHeadRun.getT_eq s)
def loose0 : List Str := [("MillError" : Str), ("NoNumber" : Str), ("NoPiece" : Str), ("divisor" : Str), ("ratio" : Str), ("plus" : Str), ("minus" : Str), ("times" : Str), ("over" : Str), ("below" : Str), ("together" : Str), ("off" : Str), ("turned" : Str), ("along" : Str), ("across" : Str), ("far" : Str), ("sign_of" : Str), ("side" : Str), ("before" : Str), ("line" : Str), ("lies_on" : Str), ("cut" : Str), ("quarter_of" : Str), ("ahead" : Str), ("on" : Str), ("at_share" : Str), ("quarters" : Str), ("carrier" : Str), ("by_carriers" : Str), ("two_stretches" : Str), ("two_arcs" : Str), ("put_in" : Str)]
def loose1 : List Str := [("joined_on" : Str), ("joined" : Str), ("bare" : Str), ("alike_pieces" : Str), ("straight_chain" : Str), ("furthest" : Str), ("round_chain" : Str), ("chain" : Str), ("_law_cell_at" : Str), ("_law_feed" : Str), ("_law_draw" : Str), ("_law_lowest" : Str), ("_law_small" : Str), ("_law_spot" : Str), ("_law_sum" : Str), ("_law_product" : Str), ("_law_both" : Str), ("_law_along" : Str), ("_law_across" : Str), ("_law_at_share" : Str), ("_law_place" : Str), ("_law_earlier" : Str), ("_law_share" : Str), ("_law_start_here" : Str), ("_law_some" : Str), ("_law_mixed" : Str), ("_law_first" : Str), ("_law_base" : Str), ("_law_weighed" : Str), ("_law_one_here" : Str), ("_law_parts" : Str), ("_law_bare" : Str)]
def loose : List Str := loose0 ++ loose1
theorem run (w : World) : HandSHeadRun.RunEq R (PySem.W.view R.prog [71]) hk ob 4000 loose w := by
  intro os
  kernel_rfl
end AH
set_option maxHeartbeats 1000000
set_option Elab.async false
set_option linter.all false
set_option maxRecDepth 100000
set_option maxHeartbeats 1000000
/-! sorted(xs) of tuples that begin by a text, alike where the texts are one -/
namespace AZ
open PySem PySem.W PySem.SeqAt PySem.Calls PyProof.Rows
def Wk (d d' : PyData) : Prop := ∃ x r x' r', d = .tuple (.str x :: r) ∧ d' = .tuple (.str x' :: r') ∧ (x = x' → alikeAll r r' = true)
def AllWk (ds : List PyData) : Prop := ∀ d, d ∈ ds → ∀ d', d' ∈ ds → Wk d d'
theorem wk_unique {h : Heap} {d d' : PyData} {v : Value} {as as' : List Addr} (w : Wk d d') (r : Reads h v d as) (r' : Reads h v d' as') : d = d' := by
  obtain ⟨x, t, x', t', rfl, rfl, hw⟩ := w
  cases r with
  | tuple h1 h2 h3 h4 =>
    cases r' with
    | tuple k1 k2 k3 k4 =>
      rw [h1] at k1; cases k1
      rw [h3] at k3; cases k3
      generalize (Array.toList _) = vs at h4 k4
      cases h4 with
      | cons p1 p2 =>
        cases k4 with
        | cons q1 q2 =>
          have e := alike_unique (.str x) (.str x') _ _ _ (by simp [alike]) p1 q1
          cases e
          rw [alikeAll_unique t t' _ _ _ (hw rfl) p2 q2]
theorem kind_some {h : Heap} {ds : List PyData} (hal : AllWk ds) {v : Value} {d : PyData} {as : List Addr} (hd : d ∈ ds) (r : Reads h v d as) : (dataKind h ds).keyOf v = some (keyToks d) := by
  have q : ∃ d, d ∈ ds ∧ ∃ as, Reads h v d as := ⟨d, hd, as, r⟩
  have e : (dataKind h ds).keyOf v = some (keyToks q.choose) := by
    show (open Classical in if q : ∃ d, d ∈ ds ∧ ∃ as, Reads h v d as then some (keyToks q.choose) else none) = _
    rw [dif_pos q]
  obtain ⟨h1, as', h2⟩ := q.choose_spec
  rw [e, wk_unique (hal _ h1 _ hd) h2 r]
section
variable {prog : Program} {w : World} {A : Around} {E : Value → Shared → Prop} {s : Shared}
theorem lex_weak {b fin : Bool} {Q : Bool → Shared → Prop} (x x' : Str) (r r' : List PyData) (i : Nat) (vs ws : List Value) (as bs : List Addr) (ra : ReadsAll s.heap vs (.str x :: r) as) (rb : ReadsAll s.heap ws (.str x' :: r') bs) (hw : x = x' → alikeAll r r' = true)
    (hu : A.units + min (PyData.depthAll (.str x :: r)) (PyData.depthAll (.str x' :: r')) < cLine) (hf : fin = decide ((PyData.str x :: r).length < (PyData.str x' :: r').length)) (hq : Q (PyProof.Rows.lexLt itemOrd (keyToksAll (.str x :: r)) (keyToksAll (.str x' :: r'))) s) :
    KatLex prog w A b fin Q (vs.zip ws) 0 s := by
  have h1 : alike (.str x) (.str x') = true := by simp [alike]
  cases ra with
  | cons p1 p2 =>
    cases rb with
    | cons q1 q2 =>
      rw [List.zip_cons_cons]
      refine kat_cons (eqAt_alike (.str x) (.str x') A s _ _ _ _ p1 q1 h1 (room_head hu) prog w _ _ ?_)
      cases hx : PyData.eqv (.str x) (.str x') with
      | true =>
        rw [dataLt_all_yes h1 hx] at hq
        have e : x = x' := by simpa [PyData.eqv] using hx
        exact kat_yes (katLex_alike r r' 1 _ _ _ _ p2 q2 (hw e) (room_tail hu) (fun _ hi => absurd hi (by decide)) (by rw [hf]; simp only [List.length_cons, Nat.add_lt_add_iff_right]) hq)
      | false =>
        rw [dataLt_all_no h1 hx] at hq
        exact kat_no (oneLt_alike (fun _ t => by simp) p1 q1 h1 (by simp) (room_head hu) hq)
theorem sortsWeak {vs : List Value} {ds : List PyData} (e : EachIs (fun v d => ∃ as, Reads s.heap v d as) vs ds) (hal : AllWk ds) (hu : ∀ d, d ∈ ds → A.units + d.depth < cLine) : SortsAt prog w A s (dataKind s.heap ds) vs := by
  have ht : ∀ d, d ∈ ds → ∃ x r, d = .tuple (x :: r) := fun d hd => by
    obtain ⟨x, r, _, _, e, _⟩ := hal d hd d hd
    exact ⟨_, _, e⟩
  refine ⟨fun v hv => ?_, tuples' true, ?_, fun h2 E Q hq => ?_⟩
  · obtain ⟨d, hd, as, r⟩ := e.left v hv
    exact ⟨_, kind_some hal hd r⟩
  · intro E x y a b Q ha hb hq
    obtain ⟨d, as, hd, ra, rfl⟩ := dataKind_inv ha
    obtain ⟨d', as', hd', rb, rfl⟩ := dataKind_inv hb
    have hroom : A.units + min d.depth d'.depth < cLine := Nat.lt_of_le_of_lt (Nat.add_le_add_left (Nat.min_le_left _ _) _) (hu d hd)
    obtain ⟨x1, r1, x2, r2, rfl, rfl, hw⟩ := hal d hd d' hd'
    have hq' : Q (dataLt (.tuple (.str x1 :: r1)) (.tuple (.str x2 :: r2))) s := hq
    rw [dataLt_tuple] at hq'
    cases ra with
    | @tuple l o xs n _ _ h1 h2 h3 h4 =>
      cases rb with
      | @tuple l' o' xs' n' _ _ k1 k2 k3 k4 =>
        have n1 : xs.size = (PyData.str x1 :: r1).length := by simpa using SeqAt.ReadsAll.length _ _ _ h4
        have n2 : xs'.size = (PyData.str x2 :: r2).length := by simpa using SeqAt.ReadsAll.length _ _ _ k4
        exact kat_lt h1 h3 k1 k3 (lex_weak x1 x2 r1 r2 0 _ _ _ _ h4 k4 hw (by have q := SeqAt.room_in hroom; omega) (by rw [n1, n2]) hq')
  · obtain ⟨fs, t1, t2, t3⟩ := each_katTups e ht
    refine kat_kind (T := Value.type "str") t1 (by omega) (fun f hf => ?_) (by decide) hq
    obtain ⟨x, r, as, m1, m2⟩ := t3 f hf
    obtain ⟨x', r', _, _, e', _⟩ := hal _ m1 _ m1
    cases e'
    exact looks_reads m2
theorem each_keysW {h : Heap} {ds : List PyData} (hal : AllWk ds) {vs : List Value} (e : EachIs (fun v d => ∃ as, Reads h v d as) vs ds) : EachIs (fun v d => (dataKind h ds).keyOf v = some (keyToks d)) vs ds :=
  (each_mem e).mono fun _ _ ⟨⟨_, r⟩, hd⟩ => kind_some hal hd r
variable {β : Type} {vs : List Value} {bs : List β} {enc : β → PyData} {R : Value → β → Prop}
theorem sortVals_weak {h' : Heap} (e : EachIs R vs bs) (er : EachIs (fun v b => ∃ as, Reads h' v (enc b) as) vs bs) (hal : AllWk (bs.map enc)) :
    EachIs R (sortVals (dataKind h' (bs.map enc)) false vs vs) (bs.mergeSort (dataLe false enc)) :=
  sortVals_each (κ := dataKind h' (bs.map enc)) (fun b => keyToks (enc b)) e (each_of_map enc (each_keysW hal (each_map (R := fun v d => ∃ as, Reads h' v d as) enc er)))
theorem sorted_weak {l : Addr} {Q : Value → Shared → Prop} (hl : s.heap.IsList l vs.toArray) (e : EachIs R vs bs) (er : EachIs (fun v b => ∃ as, Reads s.heap v (enc b) as) vs bs) (hal : AllWk (bs.map enc)) (hL : bs.length ≤ sizeLine)
    (hu : ∀ b, b ∈ bs → A.units + 2 + (enc b).depth < cLine) (h : ∀ out, out.length = bs.length → EachIs R out (bs.mergeSort (dataLe false enc)) → Q (.ref (s.heap.objs.size + 1)) { s with heap := sortedAll s.heap vs (List.toArray out) }) :
    wpAny (model prog w) A (call (.builtin "sorted") [.ref l]) Q E s := by
  have er' : EachIs (fun v b => ∃ as, Reads (sortingHeap (copyHeap s.heap vs) (s.heap.objs.size + 1) vs) v (enc b) as) vs bs := er.mono fun _ _ ⟨as, r⟩ => ⟨as, PyProof.Rows.Reads.keeps (fun _ _ => sorting_copy_old) r⟩
  exact sorted_vals hl (sortsWeak (s := { s with heap := sortingHeap (copyHeap s.heap vs) (s.heap.objs.size + 1) vs }) (each_map (R := fun v d => ∃ as, Reads (sortingHeap (copyHeap s.heap vs) (s.heap.objs.size + 1) vs) v d as) enc er') hal (bound_map hu)) (by rw [e.length]; exact hL)
    (h _ (by rw [sortVals_length false rfl]; exact e.length) (sortVals_weak e er' hal))
end
/-! the order -/
theorem toks_inj {d d' : PyData} (h : alike d d' = true) (e : keyToks d = keyToks d') : PyData.eqv d d' = true := by
  cases q : PyData.eqv d d' with
  | true => rfl
  | false =>
    have := (toks_eqv d d' h).2 q [] [.inl 0]
    rw [e, List.append_nil, lex_irrefl] at this
    have h2 := lex_pre (keyToks d') [] [.inl 0]
    rw [List.append_nil] at h2
    rw [h2] at this
    exact absurd this (by decide)
theorem toks_wk {d d' : PyData} (h : Wk d d') (e : keyToks d = keyToks d') : PyData.eqv d d' = true := by
  obtain ⟨x, r, x', r', rfl, rfl, hw⟩ := h
  have ex : x = x' := by
    simp only [keyToks, keyToksAll, List.cons_append, List.nil_append, List.cons.injEq, Sum.inr.injEq, true_and] at e
    exact str_of_cps e.1
  subst ex
  refine toks_inj ?_ e
  show alikeAll (.str x :: r) (.str x :: r') = true
  rw [alikeAll]
  rw [hw rfl]
  simp [alike]
theorem sort_perm {β : Type} {enc : β → PyData} {l m : List β} (hinj : ∀ a b, PyData.eqv (enc a) (enc b) = true → a = b) (hw : ∀ a, a ∈ l → ∀ b, b ∈ m → Wk (enc a) (enc b)) (hp : l.Perm m) : l.mergeSort (dataLe false enc) = m.mergeSort (dataLe false enc) := by
  have T := sortLe_total (listOrd itemOrd) false fun b => keyToks (enc b)
  refine List.Perm.eq_of_pairwise (le := fun a b => dataLe false enc a b = true) (fun a b ha hb h1 h2 => ?_) (List.pairwise_mergeSort T.trans (fun a b => by
    rcases T.total a b with z | z
    · show (dataLe false enc a b || _) = true; rw [show dataLe false enc a b = true from z]; rfl
    · show (_ || dataLe false enc b a) = true; rw [show dataLe false enc b a = true from z]; simp) l) (List.pairwise_mergeSort T.trans (fun a b => by
    rcases T.total a b with z | z
    · show (dataLe false enc a b || _) = true; rw [show dataLe false enc a b = true from z]; rfl
    · show (_ || dataLe false enc b a) = true; rw [show dataLe false enc b a = true from z]; simp) m) (((List.mergeSort_perm _ _).trans hp).trans (List.mergeSort_perm _ _).symm)
  have ha' := (List.mergeSort_perm _ _).mem_iff.mp ha
  have hb' := (List.mergeSort_perm _ _).mem_iff.mp hb
  refine hinj a b (toks_wk (hw a ha' b hb') ?_)
  have h1 : (!(listOrd itemOrd).blt (keyToks (enc b)) (keyToks (enc a))) = true := h1
  have h2 : (!(listOrd itemOrd).blt (keyToks (enc a)) (keyToks (enc b))) = true := h2
  exact (listOrd itemOrd).total _ _ (by simpa using h2) (by simpa using h1)
end AZ
namespace L3
open PySem PySem.W PySem.Spec PyProof.Rows L2
theorem each_dt {K : PySem.W.Frag} {H : Hp} {β : Type} {enc : β → PyData} : ∀ {xs : List V} {us : List Value} {bs : List β}, Vals xs us → DtAll K H xs (bs.map enc) → EachIs (fun u b => ∃ x, L2.RelV x u ∧ Dt K H x (enc b)) us bs
  | _, _, [], r, h => by
    cases h
    cases r
    exact .nil
  | _, _, b :: bs, r, h => by
    cases h with
    | cons h1 h2 =>
      cases r with
      | cons r1 r2 => exact .cons ⟨_, r1, h1⟩ (each_dt r2 h2)
theorem dt_each {K : PySem.W.Frag} {H : Hp} {β : Type} {enc : β → PyData} : ∀ {us : List Value} {bs : List β}, EachIs (fun u b => ∃ x, L2.RelV x u ∧ Dt K H x (enc b)) us bs → ∃ xs, Vals xs us ∧ DtAll K H xs (bs.map enc)
  | _, _, .nil => ⟨[], .nil, .nil⟩
  | _, _, .cons ⟨x, h1, h2⟩ t => by
    obtain ⟨xs, q1, q2⟩ := dt_each t
    exact ⟨x :: xs, .cons h1 q1, .cons h2 q2⟩
theorem each_len {α β : Type} {R : α → β → Prop} : ∀ {as : List α} {bs : List β}, EachIs R as bs → as.length = bs.length
  | _, _, .nil => rfl
  | _, _, .cons _ t => by rw [List.length_cons, List.length_cons, each_len t]
def rSortedW (K : PySem.W.Frag) {β : Type} (enc : β → PyData) : List V → Hp → VK → Prop := fun vs H Q => ∃ (a : Addr) (xs : List V) (bs : List β), vs = [.ref a] ∧ SqL K H a xs ∧ DtAll K H xs (bs.map enc) ∧ AZ.AllWk (bs.map enc) ∧ (∀ b ∈ bs, (enc b).depth ≤ 64) ∧ bs.length ≤ 1000 ∧
  ∀ l ys, H l = none → DtAll K H ys ((bs.mergeSort (dataLe false enc)).map enc) → Q (.ref l) (upd H l (.lst ys))
theorem cr_sortedW {X : Cx} {β : Type} {enc : β → PyData} {k : Nat} (hr : Room k X.A) : CallR X (.builtin "sorted") (rSortedW X.K enc) := by
  intro pins s σ H vs us Q I r h
  obtain ⟨a, xs, bs, rfl, hq, hd, hw, hdep, hl, q⟩ := h
  obtain ⟨u, rfl, rx⟩ := vals1 r
  obtain rfl : u = Value.ref a := rx
  obtain ⟨its, rv, p, hz⟩ := I.list hq
  have e := each_dt (enc := enc) rv hd
  have er : EachIs (fun v b => ∃ as, Reads s.heap v (enc b) as) its bs := e.mono fun v b ⟨x, h1, h2⟩ => Dp.reads I (enc b) x v (Dt.dp _ _ h2) h1
  refine AZ.sorted_weak (R := fun u b => ∃ x, L2.RelV x u ∧ Dt X.K H x (enc b)) (vs := its) p.isList e er hw (size_ok hl) (fun b hb => by have := hr.un; have := hdep b hb; omega) fun out hlen eo => ?_
  obtain ⟨ys, v1, d1⟩ := dt_each eo
  obtain ⟨c, hc⟩ := sortedAll_at s.heap its out.toArray
  refine ⟨.ref (s.heap.objs.size + 1), _, I.laid (t' := s.toks) (o := .lst ys) (fun b o q => sortedAll_old q) (Nat.le_succ _) ⟨?_, out, c, v1, hc⟩, rfl, q _ ys (I.hok.fresh (Nat.le_succ _)) d1⟩
  rw [v1.length, hlen]
  exact size_ok hl
section
variable {X : Cx} {W : List Addr} {Γ : Gam} {P : Po} {e : Expr} {pos p : Pos} {k : Nat}
theorem x_sorted {β : Type} (enc : β → PyData) (hm : X.mg "sorted" = none) (hr : Room k X.A) (h : XA X W [e] Γ fun Γ1 rs => ∃ (r : Ent) (bs : List β), rs = [r] ∧ r.lst = some (bs.map enc) ∧ AZ.AllWk (bs.map enc) ∧ (∀ b ∈ bs, (enc b).depth ≤ 64) ∧ bs.length ≤ 1000 ∧ P Γ1 (.n ((bs.mergeSort (dataLe false enc)).map enc)))
    (hg : Gl X "sorted" := by rfl) (he : starEach [e] X.env = (false, eval e X.env) :: starEach [] X.env := by rfl) : XE X W (.Call (.Name "sorted" p) [e] [] pos) Γ P :=
  PE.imp (pe_callB (cr_sortedW (enc := enc) hr) hg hm (by decide +kernel) (pa_any (W := W)) (he := he)) fun σ H Q q => ⟨Γ, _, h, q.1, fun vs H1 Γ1 rs c s o p1 => by
    obtain ⟨r, bs, rfl, hl, h1, h2, h3, hp⟩ := p1
    cases o with
    | cons o1 o2 =>
      cases o2
      obtain ⟨a, xs, rfl, hq, hd⟩ := o1.ent.list hl
      exact ⟨a, xs, bs, rfl, hq, hd, h1, h2, h3, fun l ys nl hy => new_list q c s hy hp nl⟩⟩
end
end L3
set_option Elab.async false
set_option linter.all false
set_option maxRecDepth 100000
set_option maxHeartbeats 2000000
namespace AW
open PySem PySem.Spec PyProof.Rows L2 L3 AM
local macro_rules | `(tactic| trivial) => `(tactic| first | exact (shp_pD _).ok | exact (shp_fD _).ok | exact (shp_kD _).ok | exact (shp_xD _).ok | exact shp_keyE _ | exact shp_keyE _ | exact shp_s1.ok | exact shp_s2.ok | exact shp_s3.ok | exact shp_s4.ok | exact shp_s5.ok | exact shp_s6.ok | exact (shp_int 0 _).ok)
section
variable {w : World} {K : PySem.W.Frag} {mg : Str → Option Value} {base : Heap} {kws : List (Str × V)} {f : Addr} {fd : FuncData} {P : Program}
theorem c_divisor (F : Fd K "divisor" 5 kws f fd) (hm : mg "divisor" = some (.ref f)) (habs : mg "abs" = none) :
    Callee P w K mg base "divisor" 1 [("one" : Str), ("other" : Str)] (spD K R_divisor) := by
  refine mk_d (N := ["one", "other"]) F hm (C8.fnScope_by (by kernel_rfl)) (fun _ _ _ _ _ _ us h => match us, h with | [a, b], _ => rfl) (fun es r ⟨_, _, h, _⟩ => by rw [h]; rfl) fun cdv A outer s H E hr es r as hR => ?_
  obtain ⟨i, j, rfl, rfl⟩ := hR
  have hN : (["one", "other"] : List Str).Nodup := by decide
  refine b_set 0 hN (x_abs habs (a_cons (x_var 0 rfl ⟨rfl, a_nil ⟨_, rfl, rfl, ?_⟩⟩)))
  refine b_set 1 hN (x_abs habs (a_cons (x_var 1 rfl ⟨rfl, a_nil ⟨_, rfl, rfl, ?_⟩⟩)))
  refine b_while (fun m Γ => ∃ a : Nat, Γ = [some (.d (.int a)), some (.d (.int m))] ∧ Nat.gcd a m = Int.gcd i j) j.natAbs ⟨i.natAbs, ?_, rfl⟩ fun b Γ hI => ?_
  · show [some (Ent.d (.int (if i < 0 then -i else i))), some (Ent.d (.int (if j < 0 then -j else j)))] = _
    rw [show (if i < 0 then -i else i) = (i.natAbs : Int) by split <;> omega, show (if j < 0 then -j else j) = (j.natAbs : Int) by split <;> omega]
  · obtain ⟨a, rfl, hg⟩ := hI
    refine t_gt (x_var 1 rfl ⟨rfl, x_int ⟨_, _, rfl, rfl, trivial, _, rfl, fun hb => ?_, fun hb => ?_⟩⟩)
    · have hb : 0 < b := by simpa using hb
      refine b_par 0 1 rfl hN (a_cons (x_var 1 rfl ⟨rfl, a_cons (x_mod (x_var 0 rfl ⟨rfl, x_var 1 rfl ⟨_, _, rfl, rfl, by omega, rfl, a_nil ⟨_, _, rfl, ?_⟩⟩⟩))⟩))
      refine b_nil ⟨a % b, Nat.mod_lt _ hb, b, rfl, ?_⟩
      rw [Nat.gcd_comm, ← Nat.gcd_rec, Nat.gcd_comm]
      exact hg
    · have hb : b = 0 := by simpa using hb
      subst hb
      refine b_ret (x_var 0 rfl (.inl ?_))
      rw [← hg]
      simp
theorem c_ratio (F : Fd K "ratio" 6 kws f fd) (hm : mg "ratio" = some (.ref f))
    (G_divisor : Callee P w K mg base "divisor" 1 [("one" : Str), ("other" : Str)] (spD K R_divisor)) :
    Callee P w K mg base "ratio" 2 [("top" : Str), ("bottom" : Str)] (spD K R_ratio) := by
  refine mk_d (N := [("top" : Str), ("bottom" : Str), ("by" : Str)]) F hm (C8.fnScope_by (by kernel_rfl)) (fun _ _ _ _ _ _ us h => match us, h with | [a, b], _ => rfl) (fun es r hR => by obtain ⟨_, _, h, _⟩ := hR; rw [h]; rfl) fun cdv A outer s H E hr es r as hR => ?_
  have hN : ([("top" : Str), ("bottom" : Str), ("by" : Str)] : List Str).Nodup := by decide
  obtain ⟨t, b, rfl, rfl, hb0, hbb⟩ := hR
  have hg : (Int.gcd t b : Int) ≠ 0 := by
    have := Int.gcd_ne_zero_right (a := t) hb0
    omega
  have hgb : Int.gcd t b < 2 ^ 9000 := Nat.lt_of_le_of_lt (Nat.le_of_dvd (by omega) (Int.gcd_dvd_natAbs_right ..)) hbb
  refine b_skip (t_eq hr (x_var 1 rfl (⟨rfl, x_int (⟨(by trivial), (by trivial), _, rfl, ⟨?_, ?_⟩⟩)⟩)))
  · rw [show PyData.eqv (Ent.data (.d (.int b))) (Ent.data (.d (.int 0))) = decide (b = 0) from eqv_int _ _]
    simp [hb0]
  refine b_set 2 hN (x_call G_divisor hr (a_cons (x_var 0 rfl (⟨rfl, a_cons (x_var 1 rfl (⟨rfl, a_nil (⟨_, ⟨_, _, rfl, rfl⟩, ⟨rfl, ?_⟩⟩)⟩))⟩))))
  refine b_if (t_lt (x_var 1 rfl (⟨rfl, x_int (⟨_, _, rfl, rfl, trivial, _, rfl, ⟨fun hb => ?_, fun hb => ?_⟩⟩)⟩)))
  · have hb : b < 0 := by simpa using hb
    refine b_set 2 hN (x_sub (x_int (⟨rfl, x_var 2 rfl (⟨_, _, rfl, rfl, trivial, ⟨rfl, ?_⟩⟩)⟩)))
    refine b_nil ?_
    refine b_ret (x_tup (a_cons (x_fdiv (x_var 0 rfl (⟨rfl, x_var 2 rfl (⟨_, _, rfl, rfl, ?_, ⟨rfl, a_cons (x_fdiv (x_var 1 rfl (⟨rfl, x_var 2 rfl (⟨_, _, rfl, rfl, ?_, ⟨rfl, a_nil (⟨[_, _], rfl, Nat.le_of_ble_eq_true rfl, .inl ?_⟩)⟩⟩)⟩)))⟩⟩)⟩)))))
    · exact cd (n := 9000) (by omega) (by omega)
    · exact cd (n := 9000) (by omega) (by omega)
    exact congrArg Ent.d (divInt_fdiv t b hb0 _ (by rw [if_pos hb]))
  · have hb : ¬ b < 0 := by simpa using hb
    refine b_nil ?_
    refine b_ret (x_tup (a_cons (x_fdiv (x_var 0 rfl (⟨rfl, x_var 2 rfl (⟨_, _, rfl, rfl, ?_, ⟨rfl, a_cons (x_fdiv (x_var 1 rfl (⟨rfl, x_var 2 rfl (⟨_, _, rfl, rfl, ?_, ⟨rfl, a_nil (⟨[_, _], rfl, Nat.le_of_ble_eq_true rfl, .inl ?_⟩)⟩⟩)⟩)))⟩⟩)⟩)))))
    · exact cd (n := 9000) (by omega) (by omega)
    · exact cd (n := 9000) (by omega) (by omega)
    exact congrArg Ent.d (divInt_fdiv t b hb0 _ (by rw [if_neg hb]))
theorem c_plus (F : Fd K "plus" 7 kws f fd) (hm : mg "plus" = some (.ref f))
    (G_ratio : Callee P w K mg base "ratio" 2 [("top" : Str), ("bottom" : Str)] (spD K R_ratio)) :
    Callee P w K mg base "plus" 3 [("one" : Str), ("other" : Str)] (spD K R_plus) := by
  refine mk_d (N := [("one" : Str), ("other" : Str)]) F hm (C8.fnScope_by (by kernel_rfl)) (fun _ _ _ _ _ _ us h => match us, h with | [a, b], _ => rfl) (fun es r hR => by obtain ⟨_, _, h, _⟩ := hR; rw [h]; rfl) fun cdv A outer s H E hr es r as hR => ?_
  have hN : ([("one" : Str), ("other" : Str)] : List Str).Nodup := by decide
  obtain ⟨p, q, rfl, rfl, h1, h2⟩ := hR
  refine b_ret (x_call G_ratio hr (a_cons (x_add (x_mul (x_ix (x_var 0 rfl (⟨rfl, x_int (⟨_, _, _, rfl, rfl, rfl, ⟨rfl, x_ix (x_var 1 rfl (⟨rfl, x_int (⟨_, _, _, rfl, rfl, rfl, ⟨_, _, rfl, rfl, ?_, ⟨rfl, x_mul (x_ix (x_var 1 rfl (⟨rfl, x_int (⟨_, _, _, rfl, rfl, rfl, ⟨rfl, x_ix (x_var 0 rfl (⟨rfl, x_int (⟨_, _, _, rfl, rfl, rfl, ⟨_, _, rfl, rfl, ?_, ⟨_, _, rfl, rfl, trivial, ⟨rfl, a_cons (x_mul (x_ix (x_var 0 rfl (⟨rfl, x_int (⟨_, _, _, rfl, rfl, rfl, ⟨rfl, x_ix (x_var 1 rfl (⟨rfl, x_int (⟨_, _, _, rfl, rfl, rfl, ⟨_, _, rfl, rfl, ?_, ⟨rfl, a_nil (⟨_, ⟨_, _, rfl, rfl, ?_, ?_⟩, .inl ?_⟩)⟩⟩⟩)⟩))⟩⟩)⟩))))⟩⟩⟩⟩)⟩))⟩⟩)⟩)))⟩⟩⟩)⟩))⟩⟩)⟩)))))))
  · exact cm h1.1 h2.den
  · exact cm h2.1 h1.den
  · exact cm h1.den h2.den
  · exact dd_ne p q
  · exact Nat.lt_of_lt_of_le (int_mul_lt h1.den h2.den) (Nat.pow_le_pow_right (by decide) (by decide))
  · rw [add_div]
theorem c_minus (F : Fd K "minus" 8 kws f fd) (hm : mg "minus" = some (.ref f))
    (G_ratio : Callee P w K mg base "ratio" 2 [("top" : Str), ("bottom" : Str)] (spD K R_ratio)) :
    Callee P w K mg base "minus" 3 [("one" : Str), ("other" : Str)] (spD K R_minus) := by
  refine mk_d (N := [("one" : Str), ("other" : Str)]) F hm (C8.fnScope_by (by kernel_rfl)) (fun _ _ _ _ _ _ us h => match us, h with | [a, b], _ => rfl) (fun es r hR => by obtain ⟨_, _, h, _⟩ := hR; rw [h]; rfl) fun cdv A outer s H E hr es r as hR => ?_
  have hN : ([("one" : Str), ("other" : Str)] : List Str).Nodup := by decide
  obtain ⟨p, q, rfl, rfl, h1, h2⟩ := hR
  refine b_ret (x_call G_ratio hr (a_cons (x_sub (x_mul (x_ix (x_var 0 rfl (⟨rfl, x_int (⟨_, _, _, rfl, rfl, rfl, ⟨rfl, x_ix (x_var 1 rfl (⟨rfl, x_int (⟨_, _, _, rfl, rfl, rfl, ⟨_, _, rfl, rfl, ?_, ⟨rfl, x_mul (x_ix (x_var 1 rfl (⟨rfl, x_int (⟨_, _, _, rfl, rfl, rfl, ⟨rfl, x_ix (x_var 0 rfl (⟨rfl, x_int (⟨_, _, _, rfl, rfl, rfl, ⟨_, _, rfl, rfl, ?_, ⟨_, _, rfl, rfl, trivial, ⟨rfl, a_cons (x_mul (x_ix (x_var 0 rfl (⟨rfl, x_int (⟨_, _, _, rfl, rfl, rfl, ⟨rfl, x_ix (x_var 1 rfl (⟨rfl, x_int (⟨_, _, _, rfl, rfl, rfl, ⟨_, _, rfl, rfl, ?_, ⟨rfl, a_nil (⟨_, ⟨_, _, rfl, rfl, ?_, ?_⟩, .inl ?_⟩)⟩⟩⟩)⟩))⟩⟩)⟩))))⟩⟩⟩⟩)⟩))⟩⟩)⟩)))⟩⟩⟩)⟩))⟩⟩)⟩)))))))
  · exact cm h1.1 h2.den
  · exact cm h2.1 h1.den
  · exact cm h1.den h2.den
  · exact dd_ne p q
  · exact Nat.lt_of_lt_of_le (int_mul_lt h1.den h2.den) (Nat.pow_le_pow_right (by decide) (by decide))
  · rw [sub_div]
theorem c_times (F : Fd K "times" 9 kws f fd) (hm : mg "times" = some (.ref f))
    (G_ratio : Callee P w K mg base "ratio" 2 [("top" : Str), ("bottom" : Str)] (spD K R_ratio)) :
    Callee P w K mg base "times" 3 [("one" : Str), ("other" : Str)] (spD K R_times) := by
  refine mk_d (N := [("one" : Str), ("other" : Str)]) F hm (C8.fnScope_by (by kernel_rfl)) (fun _ _ _ _ _ _ us h => match us, h with | [a, b], _ => rfl) (fun es r hR => by obtain ⟨_, _, h, _⟩ := hR; rw [h]; rfl) fun cdv A outer s H E hr es r as hR => ?_
  have hN : ([("one" : Str), ("other" : Str)] : List Str).Nodup := by decide
  obtain ⟨p, q, rfl, rfl, h1, h2⟩ := hR
  refine b_ret (x_call G_ratio hr (a_cons (x_mul (x_ix (x_var 0 rfl (⟨rfl, x_int (⟨_, _, _, rfl, rfl, rfl, ⟨rfl, x_ix (x_var 1 rfl (⟨rfl, x_int (⟨_, _, _, rfl, rfl, rfl, ⟨_, _, rfl, rfl, ?_, ⟨rfl, a_cons (x_mul (x_ix (x_var 0 rfl (⟨rfl, x_int (⟨_, _, _, rfl, rfl, rfl, ⟨rfl, x_ix (x_var 1 rfl (⟨rfl, x_int (⟨_, _, _, rfl, rfl, rfl, ⟨_, _, rfl, rfl, ?_, ⟨rfl, a_nil (⟨_, ⟨_, _, rfl, rfl, ?_, ?_⟩, .inl ?_⟩)⟩⟩⟩)⟩))⟩⟩)⟩))))⟩⟩⟩)⟩))⟩⟩)⟩))))))
  · exact cm h1.1 h2.1
  · exact cm h1.den h2.den
  · exact dd_ne p q
  · exact Nat.lt_of_lt_of_le (int_mul_lt h1.den h2.den) (Nat.pow_le_pow_right (by decide) (by decide))
  · rw [mul_div]
theorem c_over (F : Fd K "over" 10 kws f fd) (hm : mg "over" = some (.ref f))
    (G_ratio : Callee P w K mg base "ratio" 2 [("top" : Str), ("bottom" : Str)] (spD K R_ratio)) :
    Callee P w K mg base "over" 3 [("one" : Str), ("other" : Str)] (spD K R_over) := by
  refine mk_d (N := [("one" : Str), ("other" : Str)]) F hm (C8.fnScope_by (by kernel_rfl)) (fun _ _ _ _ _ _ us h => match us, h with | [a, b], _ => rfl) (fun es r hR => by obtain ⟨_, _, h, _⟩ := hR; rw [h]; rfl) fun cdv A outer s H E hr es r as hR => ?_
  have hN : ([("one" : Str), ("other" : Str)] : List Str).Nodup := by decide
  obtain ⟨p, q, rfl, rfl, h1, h2, h3⟩ := hR
  refine b_ret (x_call G_ratio hr (a_cons (x_mul (x_ix (x_var 0 rfl (⟨rfl, x_int (⟨_, _, _, rfl, rfl, rfl, ⟨rfl, x_ix (x_var 1 rfl (⟨rfl, x_int (⟨_, _, _, rfl, rfl, rfl, ⟨_, _, rfl, rfl, ?_, ⟨rfl, a_cons (x_mul (x_ix (x_var 0 rfl (⟨rfl, x_int (⟨_, _, _, rfl, rfl, rfl, ⟨rfl, x_ix (x_var 1 rfl (⟨rfl, x_int (⟨_, _, _, rfl, rfl, rfl, ⟨_, _, rfl, rfl, ?_, ⟨rfl, a_nil (⟨_, ⟨_, _, rfl, rfl, ?_, ?_⟩, .inl ?_⟩)⟩⟩⟩)⟩))⟩⟩)⟩))))⟩⟩⟩)⟩))⟩⟩)⟩))))))
  · exact cm h1.1 h2.den
  · exact cm h1.den h2.1
  · exact mm_ne (den_ne p) (num_ne h3)
  · exact Nat.lt_of_lt_of_le (int_mul_lt h1.den h2.1) (Nat.pow_le_pow_right (by decide) (by decide))
  · rw [quo_div]
theorem c_below (F : Fd K "below" 11 kws f fd) (hm : mg "below" = some (.ref f)) :
    Callee P w K mg base "below" 1 [("one" : Str), ("other" : Str)] (spD K R_below) := by
  refine mk_d (N := [("one" : Str), ("other" : Str)]) F hm (C8.fnScope_by (by kernel_rfl)) (fun _ _ _ _ _ _ us h => match us, h with | [a, b], _ => rfl) (fun es r hR => by obtain ⟨_, _, h, _⟩ := hR; rw [h]; rfl) fun cdv A outer s H E hr es r as hR => ?_
  have hN : ([("one" : Str), ("other" : Str)] : List Str).Nodup := by decide
  obtain ⟨p, q, rfl, rfl, h1, h2⟩ := hR
  refine b_ret (x_lt (x_mul (x_ix (x_var 0 rfl (⟨rfl, x_int (⟨_, _, _, rfl, rfl, rfl, ⟨rfl, x_ix (x_var 1 rfl (⟨rfl, x_int (⟨_, _, _, rfl, rfl, rfl, ⟨_, _, rfl, rfl, ?_, ⟨rfl, x_mul (x_ix (x_var 1 rfl (⟨rfl, x_int (⟨_, _, _, rfl, rfl, rfl, ⟨rfl, x_ix (x_var 0 rfl (⟨rfl, x_int (⟨_, _, _, rfl, rfl, rfl, ⟨_, _, rfl, rfl, ?_, ⟨_, _, rfl, rfl, trivial, .inl ?_⟩⟩⟩)⟩))⟩⟩)⟩)))⟩⟩⟩)⟩))⟩⟩)⟩)))))
  · exact cm h1.1 h2.den
  · exact cm h2.1 h1.den
  · exact congrArg (fun b => Ent.d (.bool b)) (decide_eq_decide.mpr (Rat.lt_iff p q)).symm

end
end AW
set_option Elab.async false
set_option linter.all false
set_option maxRecDepth 100000
set_option maxHeartbeats 2000000
namespace AW
open PySem PySem.Spec PyProof.Rows L2 L3 AM
local macro_rules | `(tactic| trivial) => `(tactic| first | exact (shp_pD _).ok | exact (shp_fD _).ok | exact (shp_kD _).ok | exact (shp_xD _).ok | exact shp_keyE _ | exact shp_keyE _ | exact shp_s1.ok | exact shp_s2.ok | exact shp_s3.ok | exact shp_s4.ok | exact shp_s5.ok | exact shp_s6.ok | exact (shp_int 0 _).ok)
section
variable {w : World} {K : PySem.W.Frag} {mg : Str → Option Value} {base : Heap} {kws : List (Str × V)} {f : Addr} {fd : FuncData} {P : Program}
theorem c_together (F : Fd K "together" 13 kws f fd) (hm : mg "together" = some (.ref f))
    (G_plus : Callee P w K mg base "plus" 3 [("one" : Str), ("other" : Str)] (spD K R_plus)) :
    Callee P w K mg base "together" 4 [("p" : Str), ("q" : Str)] (spD K R_together) := by
  refine mk_d (N := [("p" : Str), ("q" : Str)]) F hm (C8.fnScope_by (by kernel_rfl)) (fun _ _ _ _ _ _ us h => match us, h with | [a, b], _ => rfl) (fun es r hR => by obtain ⟨_, _, h, _⟩ := hR; rw [h]; rfl) fun cdv A outer s H E hr es r as hR => ?_
  have hN : ([("p" : Str), ("q" : Str)] : List Str).Nodup := by decide
  obtain ⟨p, q, rfl, rfl, h1, h2⟩ := hR
  refine b_ret (x_tup (a_cons (x_call G_plus hr (a_cons (x_ix (x_var 0 rfl (⟨rfl, x_int (⟨_, _, _, rfl, rfl, rfl, ⟨rfl, a_cons (x_ix (x_var 1 rfl (⟨rfl, x_int (⟨_, _, _, rfl, rfl, rfl, ⟨rfl, a_nil (⟨_, ⟨_, _, rfl, rfl, ?_, ?_⟩, ⟨rfl, a_cons (x_call G_plus hr (a_cons (x_ix (x_var 0 rfl (⟨rfl, x_int (⟨_, _, _, rfl, rfl, rfl, ⟨rfl, a_cons (x_ix (x_var 1 rfl (⟨rfl, x_int (⟨_, _, _, rfl, rfl, rfl, ⟨rfl, a_nil (⟨_, ⟨_, _, rfl, rfl, ?_, ?_⟩, ⟨rfl, a_nil (⟨[_, _], rfl, Nat.le_of_ble_eq_true rfl, .inl ?_⟩)⟩⟩)⟩⟩)⟩)))⟩⟩)⟩)))))⟩⟩)⟩⟩)⟩)))⟩⟩)⟩)))))))
  · exact h1.1
  · exact h2.1
  · exact h1.2
  · exact h2.2
  · rfl
theorem c_off (F : Fd K "off" 14 kws f fd) (hm : mg "off" = some (.ref f))
    (G_minus : Callee P w K mg base "minus" 3 [("one" : Str), ("other" : Str)] (spD K R_minus)) :
    Callee P w K mg base "off" 4 [("p" : Str), ("q" : Str)] (spD K R_off) := by
  refine mk_d (N := [("p" : Str), ("q" : Str)]) F hm (C8.fnScope_by (by kernel_rfl)) (fun _ _ _ _ _ _ us h => match us, h with | [a, b], _ => rfl) (fun es r hR => by obtain ⟨_, _, h, _⟩ := hR; rw [h]; rfl) fun cdv A outer s H E hr es r as hR => ?_
  have hN : ([("p" : Str), ("q" : Str)] : List Str).Nodup := by decide
  obtain ⟨p, q, rfl, rfl, h1, h2⟩ := hR
  refine b_ret (x_tup (a_cons (x_call G_minus hr (a_cons (x_ix (x_var 0 rfl (⟨rfl, x_int (⟨_, _, _, rfl, rfl, rfl, ⟨rfl, a_cons (x_ix (x_var 1 rfl (⟨rfl, x_int (⟨_, _, _, rfl, rfl, rfl, ⟨rfl, a_nil (⟨_, ⟨_, _, rfl, rfl, ?_, ?_⟩, ⟨rfl, a_cons (x_call G_minus hr (a_cons (x_ix (x_var 0 rfl (⟨rfl, x_int (⟨_, _, _, rfl, rfl, rfl, ⟨rfl, a_cons (x_ix (x_var 1 rfl (⟨rfl, x_int (⟨_, _, _, rfl, rfl, rfl, ⟨rfl, a_nil (⟨_, ⟨_, _, rfl, rfl, ?_, ?_⟩, ⟨rfl, a_nil (⟨[_, _], rfl, Nat.le_of_ble_eq_true rfl, .inl ?_⟩)⟩⟩)⟩⟩)⟩)))⟩⟩)⟩)))))⟩⟩)⟩⟩)⟩)))⟩⟩)⟩)))))))
  · exact h1.1
  · exact h2.1
  · exact h1.2
  · exact h2.2
  · rfl
theorem c_turned (F : Fd K "turned" 15 kws f fd) (hm : mg "turned" = some (.ref f)) (hrange : mg "range" = none) :
    Callee P w K mg base "turned" 1 [("p" : Str), ("quarters" : Str)] (spD K R_turned) := by
  refine mk_d (N := [("p" : Str), ("quarters" : Str), ("x" : Str), ("y" : Str), ("turn" : Str)]) F hm (C8.fnScope_by (by kernel_rfl)) (fun _ _ _ _ _ _ us h => match us, h with | [a, b], _ => rfl) (fun es r hR => by obtain ⟨_, _, h, _⟩ := hR; rw [h]; rfl) fun cdv A outer s H E hr es r as hR => ?_
  have hN : ([("p" : Str), ("quarters" : Str), ("x" : Str), ("y" : Str), ("turn" : Str)] : List Str).Nodup := by decide
  obtain ⟨p, n, rfl, rfl, hn⟩ := hR
  refine b_asg (x_var 0 rfl (⟨_, _, _, rfl, g_tup2 2 3 rfl hN, ?_⟩))
  refine b_for rfl (i_rng1 hrange (a_cons (x_mod (x_var 1 rfl ⟨rfl, x_int ⟨_, _, rfl, rfl, (show (0:Int) < 4 by decide), rfl, a_nil ⟨_, rfl, ?_, ?_, fun k Γ => ∃ v, Γ = [some (.d (pD p)), some (.d (.int n)), some (.d (fD (Nat.repeat turn1 k p).1)), some (.d (fD (Nat.repeat turn1 k p).2)), v], ⟨_, rfl⟩, fun _ _ _ => trivial, fun k d Γ2 hk hI => ?_, fun Γ2 hI => ?_⟩⟩⟩))))
  · omega
  · omega
  · obtain ⟨v, rfl⟩ := hI
    refine ⟨_, _, g_name 4 hN, fun B' hB => ?_⟩
    refine b_par 2 3 rfl hN (a_cons (x_tup (a_cons (x_sub (x_int (⟨rfl, x_ix (x_var 3 rfl (⟨rfl, x_int (⟨_, _, _, rfl, rfl, rfl, ⟨_, _, rfl, rfl, trivial, ⟨rfl, a_cons (x_ix (x_var 3 rfl (⟨rfl, x_int (⟨_, _, _, rfl, rfl, rfl, ⟨rfl, a_nil (⟨[_, _], rfl, Nat.le_of_ble_eq_true rfl, ⟨rfl, a_cons (x_var 2 rfl (⟨rfl, a_nil (⟨_, _, rfl, ?_⟩)⟩))⟩⟩)⟩⟩)⟩)))⟩⟩⟩)⟩))⟩))))))
    refine b_nil ⟨some (.d d), ?_⟩
    have e1 : fD (turn1 (Nat.repeat turn1 k p)).1 = .tuple [.int (0 - (Nat.repeat turn1 k p).2.num), .int ((Nat.repeat turn1 k p).2.den : Int)] := by
      show fD (-(Nat.repeat turn1 k p).2) = _
      unfold fD
      rw [Rat.neg_num, Rat.neg_den]
      simp
    show [some (Ent.d (pD p)), some (Ent.d (.int n)), some (Ent.d (.tuple [.int (0 - (Nat.repeat turn1 k p).2.num), .int ((Nat.repeat turn1 k p).2.den : Int)])), some (Ent.d (fD (Nat.repeat turn1 k p).1)), some (Ent.d d)] = _
    rw [← e1]
    rfl
  · obtain ⟨v, rfl⟩ := hI
    refine b_ret (x_tup (a_cons (x_var 2 rfl (⟨rfl, a_cons (x_var 3 rfl (⟨rfl, a_nil (⟨[_, _], rfl, Nat.le_of_ble_eq_true rfl, .inl ?_⟩)⟩))⟩))))
    have e : (rngD 0 ((n : Int) % 4).toNat).length = n := by
      simp [rngD]
      omega
    rw [e]
    rfl
theorem c_along (F : Fd K "along" 16 kws f fd) (hm : mg "along" = some (.ref f))
    (G_plus : Callee P w K mg base "plus" 3 [("one" : Str), ("other" : Str)] (spD K R_plus))
    (G_times : Callee P w K mg base "times" 3 [("one" : Str), ("other" : Str)] (spD K R_times)) :
    Callee P w K mg base "along" 4 [("p" : Str), ("q" : Str)] (spD K R_along) := by
  refine mk_d (N := [("p" : Str), ("q" : Str)]) F hm (C8.fnScope_by (by kernel_rfl)) (fun _ _ _ _ _ _ us h => match us, h with | [a, b], _ => rfl) (fun es r hR => by obtain ⟨_, _, h, _⟩ := hR; rw [h]; rfl) fun cdv A outer s H E hr es r as hR => ?_
  have hN : ([("p" : Str), ("q" : Str)] : List Str).Nodup := by decide
  obtain ⟨p, q, rfl, rfl, h1, h2⟩ := hR
  refine b_ret (x_call G_plus hr (a_cons (x_call G_times hr (a_cons (x_ix (x_var 0 rfl (⟨rfl, x_int (⟨_, _, _, rfl, rfl, rfl, ⟨rfl, a_cons (x_ix (x_var 1 rfl (⟨rfl, x_int (⟨_, _, _, rfl, rfl, rfl, ⟨rfl, a_nil (⟨_, ⟨_, _, rfl, rfl, ?_, ?_⟩, ⟨rfl, a_cons (x_call G_times hr (a_cons (x_ix (x_var 0 rfl (⟨rfl, x_int (⟨_, _, _, rfl, rfl, rfl, ⟨rfl, a_cons (x_ix (x_var 1 rfl (⟨rfl, x_int (⟨_, _, _, rfl, rfl, rfl, ⟨rfl, a_nil (⟨_, ⟨_, _, rfl, rfl, ?_, ?_⟩, ⟨rfl, a_nil (⟨_, ⟨_, _, rfl, rfl, ?_, ?_⟩, .inl ?_⟩)⟩⟩)⟩⟩)⟩)))⟩⟩)⟩)))))⟩⟩)⟩⟩)⟩)))⟩⟩)⟩)))))))
  · exact h1.1.le (by decide)
  · exact h2.1.le (by decide)
  · exact h1.2.le (by decide)
  · exact h2.2.le (by decide)
  · exact (h1.1.mul h2.1).le (by decide)
  · exact (h1.2.mul h2.2).le (by decide)
  · rfl
theorem c_across (F : Fd K "across" 17 kws f fd) (hm : mg "across" = some (.ref f))
    (G_minus : Callee P w K mg base "minus" 3 [("one" : Str), ("other" : Str)] (spD K R_minus))
    (G_times : Callee P w K mg base "times" 3 [("one" : Str), ("other" : Str)] (spD K R_times)) :
    Callee P w K mg base "across" 4 [("p" : Str), ("q" : Str)] (spD K R_across) := by
  refine mk_d (N := [("p" : Str), ("q" : Str)]) F hm (C8.fnScope_by (by kernel_rfl)) (fun _ _ _ _ _ _ us h => match us, h with | [a, b], _ => rfl) (fun es r hR => by obtain ⟨_, _, h, _⟩ := hR; rw [h]; rfl) fun cdv A outer s H E hr es r as hR => ?_
  have hN : ([("p" : Str), ("q" : Str)] : List Str).Nodup := by decide
  obtain ⟨p, q, rfl, rfl, h1, h2⟩ := hR
  refine b_ret (x_call G_minus hr (a_cons (x_call G_times hr (a_cons (x_ix (x_var 0 rfl (⟨rfl, x_int (⟨_, _, _, rfl, rfl, rfl, ⟨rfl, a_cons (x_ix (x_var 1 rfl (⟨rfl, x_int (⟨_, _, _, rfl, rfl, rfl, ⟨rfl, a_nil (⟨_, ⟨_, _, rfl, rfl, ?_, ?_⟩, ⟨rfl, a_cons (x_call G_times hr (a_cons (x_ix (x_var 0 rfl (⟨rfl, x_int (⟨_, _, _, rfl, rfl, rfl, ⟨rfl, a_cons (x_ix (x_var 1 rfl (⟨rfl, x_int (⟨_, _, _, rfl, rfl, rfl, ⟨rfl, a_nil (⟨_, ⟨_, _, rfl, rfl, ?_, ?_⟩, ⟨rfl, a_nil (⟨_, ⟨_, _, rfl, rfl, ?_, ?_⟩, .inl ?_⟩)⟩⟩)⟩⟩)⟩)))⟩⟩)⟩)))))⟩⟩)⟩⟩)⟩)))⟩⟩)⟩)))))))
  · exact h1.1.le (by decide)
  · exact h2.2.le (by decide)
  · exact h1.2.le (by decide)
  · exact h2.1.le (by decide)
  · exact (h1.1.mul h2.2).le (by decide)
  · exact (h1.2.mul h2.1).le (by decide)
  · rfl
theorem c_far (F : Fd K "far" 18 kws f fd) (hm : mg "far" = some (.ref f))
    (G_off : Callee P w K mg base "off" 4 [("p" : Str), ("q" : Str)] (spD K R_off))
    (G_along : Callee P w K mg base "along" 4 [("p" : Str), ("q" : Str)] (spD K R_along)) :
    Callee P w K mg base "far" 5 [("p" : Str), ("q" : Str)] (spD K R_far) := by
  refine mk_d (N := [("p" : Str), ("q" : Str), ("way" : Str)]) F hm (C8.fnScope_by (by kernel_rfl)) (fun _ _ _ _ _ _ us h => match us, h with | [a, b], _ => rfl) (fun es r hR => by obtain ⟨_, _, h, _⟩ := hR; rw [h]; rfl) fun cdv A outer s H E hr es r as hR => ?_
  have hN : ([("p" : Str), ("q" : Str), ("way" : Str)] : List Str).Nodup := by decide
  obtain ⟨p, q, rfl, rfl, h1, h2⟩ := hR
  refine b_set 2 hN (x_call G_off hr (a_cons (x_var 0 rfl (⟨rfl, a_cons (x_var 1 rfl (⟨rfl, a_nil (⟨_, ⟨_, _, rfl, rfl, ?_, ?_⟩, ⟨rfl, ?_⟩⟩)⟩))⟩))))
  · exact h1.le (by decide)
  · exact h2.le (by decide)
  refine b_ret (x_call G_along hr (a_cons (x_var 2 rfl (⟨rfl, a_cons (x_var 2 rfl (⟨rfl, a_nil (⟨_, ⟨_, _, rfl, rfl, ?_, ?_⟩, .inl ?_⟩)⟩))⟩))))
  · exact (h1.off h2).le (by decide)
  · exact (h1.off h2).le (by decide)
  · rfl
theorem c_sign_of (F : Fd K "sign_of" 19 kws f fd) (hm : mg "sign_of" = some (.ref f)) (hint : mg "int" = none) :
    Callee P w K mg base "sign_of" 1 [("number" : Str)] (spD K R_sign_of) := by
  refine mk_d (N := [("number" : Str)]) F hm (C8.fnScope_by (by kernel_rfl)) (fun _ _ _ _ _ _ us h => match us, h with | [a], _ => rfl) (fun es r hR => by obtain ⟨_, h, _⟩ := hR; rw [h]; rfl) fun cdv A outer s H E hr es r as hR => ?_
  have hN : ([("number" : Str)] : List Str).Nodup := by decide
  obtain ⟨p, rfl, rfl⟩ := hR
  refine b_ret (x_sub (x_intB hint (a_cons (x_gt (x_ix (x_var 0 rfl (⟨rfl, x_int (⟨_, _, _, rfl, rfl, rfl, ⟨rfl, x_int (⟨_, _, rfl, rfl, trivial, ⟨rfl, a_nil (⟨_, rfl, ⟨rfl, x_intB hint (a_cons (x_lt (x_ix (x_var 0 rfl (⟨rfl, x_int (⟨_, _, _, rfl, rfl, rfl, ⟨rfl, x_int (⟨_, _, rfl, rfl, trivial, ⟨rfl, a_nil (⟨_, rfl, ⟨_, _, rfl, rfl, trivial, .inl ?_⟩⟩)⟩⟩)⟩⟩)⟩)))))⟩⟩)⟩⟩)⟩⟩)⟩)))))))
  refine congrArg (fun i => Ent.d (.int i)) ?_
  unfold sgn
  have e1 : (0 < p.num) ↔ 0 < p := by rw [Rat.lt_iff]; simp
  have e2 : (p.num < 0) ↔ p < 0 := by rw [Rat.lt_iff]; simp
  simp only [decide_eq_true_eq]
  simp only [e1, e2]
theorem c_side (F : Fd K "side" 20 kws f fd) (hm : mg "side" = some (.ref f))
    (G_sign_of : Callee P w K mg base "sign_of" 1 [("number" : Str)] (spD K R_sign_of))
    (G_across : Callee P w K mg base "across" 4 [("p" : Str), ("q" : Str)] (spD K R_across))
    (G_off : Callee P w K mg base "off" 4 [("p" : Str), ("q" : Str)] (spD K R_off)) :
    Callee P w K mg base "side" 5 [("a" : Str), ("b" : Str), ("p" : Str)] (spD K R_side) := by
  refine mk_d (N := [("a" : Str), ("b" : Str), ("p" : Str)]) F hm (C8.fnScope_by (by kernel_rfl)) (fun _ _ _ _ _ _ us h => match us, h with | [a, b, c], _ => rfl) (fun es r hR => by obtain ⟨_, _, _, h, _⟩ := hR; rw [h]; rfl) fun cdv A outer s H E hr es r as hR => ?_
  have hN : ([("a" : Str), ("b" : Str), ("p" : Str)] : List Str).Nodup := by decide
  obtain ⟨a, b, p, rfl, rfl, h1, h2, h3⟩ := hR
  refine b_ret (x_call G_sign_of hr (a_cons (x_call G_across hr (a_cons (x_call G_off hr (a_cons (x_var 1 rfl (⟨rfl, a_cons (x_var 0 rfl (⟨rfl, a_nil (⟨_, ⟨_, _, rfl, rfl, ?_, ?_⟩, ⟨rfl, a_cons (x_call G_off hr (a_cons (x_var 2 rfl (⟨rfl, a_cons (x_var 0 rfl (⟨rfl, a_nil (⟨_, ⟨_, _, rfl, rfl, ?_, ?_⟩, ⟨rfl, a_nil (⟨_, ⟨_, _, rfl, rfl, ?_, ?_⟩, ⟨rfl, a_nil (⟨_, ⟨_, rfl, rfl⟩, .inl ?_⟩)⟩⟩)⟩⟩)⟩))⟩))))⟩⟩)⟩))⟩))))))))
  · exact h2.le (by decide)
  · exact h1.le (by decide)
  · exact h3.le (by decide)
  · exact h1.le (by decide)
  · exact (h2.off h1).le (by decide)
  · exact (h3.off h1).le (by decide)
  · rfl
theorem c_before (F : Fd K "before" 21 kws f fd) (hm : mg "before" = some (.ref f))
    (G_below : Callee P w K mg base "below" 1 [("one" : Str), ("other" : Str)] (spD K R_below)) :
    Callee P w K mg base "before" 2 [("p" : Str), ("q" : Str)] (spD K R_before) := by
  refine mk_d (N := [("p" : Str), ("q" : Str)]) F hm (C8.fnScope_by (by kernel_rfl)) (fun _ _ _ _ _ _ us h => match us, h with | [a, b], _ => rfl) (fun es r hR => by obtain ⟨_, _, h, _⟩ := hR; rw [h]; rfl) fun cdv A outer s H E hr es r as hR => ?_
  have hN : ([("p" : Str), ("q" : Str)] : List Str).Nodup := by decide
  obtain ⟨p, q, rfl, rfl, h1, h2⟩ := hR
  refine b_ret (x_or (x_call G_below hr (a_cons (x_ix (x_var 0 rfl (⟨rfl, x_int (⟨_, _, _, rfl, rfl, rfl, ⟨rfl, a_cons (x_ix (x_var 1 rfl (⟨rfl, x_int (⟨_, _, _, rfl, rfl, rfl, ⟨rfl, a_nil (⟨_, ⟨_, _, rfl, rfl, ?_, ?_⟩, ⟨_, rfl, fun t1 => x_one (x_and (x_eq hr (x_ix (x_var 0 rfl (⟨rfl, x_int (⟨_, _, _, rfl, rfl, rfl, ⟨rfl, x_ix (x_var 1 rfl (⟨rfl, x_int (⟨_, _, _, rfl, rfl, rfl, ⟨(by trivial), (by trivial), ⟨_, rfl, fun t2 => x_one (x_call G_below hr (a_cons (x_ix (x_var 0 rfl (⟨rfl, x_int (⟨_, _, _, rfl, rfl, rfl, ⟨rfl, a_cons (x_ix (x_var 1 rfl (⟨rfl, x_int (⟨_, _, _, rfl, rfl, rfl, ⟨rfl, a_nil (⟨_, ⟨_, _, rfl, rfl, ?_, ?_⟩, .inl ?_⟩)⟩⟩)⟩)))⟩⟩)⟩))))), fun t2 => .inl ?_⟩⟩⟩)⟩))⟩⟩)⟩))))), fun t1 => .inl ?_⟩⟩)⟩⟩)⟩)))⟩⟩)⟩))))))
  · exact h1.1
  · exact h2.1
  · exact h1.2
  · exact h2.2
  · have := eqF t2
    simp_all [before]
  · have := eqF t2
    simp_all [before]
  · simp [before, t1]

end
end AW
set_option Elab.async false
set_option linter.all false
set_option maxRecDepth 100000
set_option maxHeartbeats 2000000
namespace AW
open PySem PySem.Spec PyProof.Rows L2 L3 AM
local macro_rules | `(tactic| trivial) => `(tactic| first | exact (shp_pD _).ok | exact (shp_fD _).ok | exact (shp_kD _).ok | exact (shp_xD _).ok | exact shp_keyE _ | exact shp_keyE _ | exact shp_s1.ok | exact shp_s2.ok | exact shp_s3.ok | exact shp_s4.ok | exact shp_s5.ok | exact shp_s6.ok | exact (shp_int 0 _).ok)
section
variable {w : World} {K : PySem.W.Frag} {mg : Str → Option Value} {base : Heap} {kws : List (Str × V)} {f : Addr} {fd : FuncData} {P : Program}
theorem c_line (F : Fd K "line" 23 kws f fd) (hm : mg "line" = some (.ref f))
    (G_off : Callee P w K mg base "off" 4 [("p" : Str), ("q" : Str)] (spD K R_off))
    (G_across : Callee P w K mg base "across" 4 [("p" : Str), ("q" : Str)] (spD K R_across))
    (G_divisor : Callee P w K mg base "divisor" 1 [("one" : Str), ("other" : Str)] (spD K R_divisor)) :
    Callee P w K mg base "line" 5 [("p" : Str), ("q" : Str)] (spD K R_line) := by
  refine mk_d (N := [("p" : Str), ("q" : Str), ("way" : Str), ("height" : Str), ("bottom" : Str), ("a" : Str), ("b" : Str), ("d" : Str), ("by" : Str)]) F hm (C8.fnScope_by (by kernel_rfl)) (fun _ _ _ _ _ _ us h => match us, h with | [a, b], _ => rfl) (fun es r hR => by obtain ⟨_, _, h, _⟩ := hR; rw [h]; rfl) fun cdv A outer s H E hr es r as hR => ?_
  have hN : ([("p" : Str), ("q" : Str), ("way" : Str), ("height" : Str), ("bottom" : Str), ("a" : Str), ("b" : Str), ("d" : Str), ("by" : Str)] : List Str).Nodup := by decide
  obtain ⟨p, q, rfl, rfl, h1, h2, hne⟩ := hR
  refine b_skip (t_eq hr (x_var 0 rfl (⟨rfl, x_var 1 rfl (⟨(by trivial), (by trivial), _, rfl, ⟨?_, ?_⟩⟩)⟩)))
  · rw [show PyData.eqv (Ent.data (.d (pD p))) (Ent.data (.d (pD q))) = decide (p = q) from eqv_pD _ _]
    simp [hne]
  refine b_set 2 hN (x_call G_off hr (a_cons (x_var 1 rfl (⟨rfl, a_cons (x_var 0 rfl (⟨rfl, a_nil (⟨_, ⟨_, _, rfl, rfl, ?_, ?_⟩, ⟨rfl, ?_⟩⟩)⟩))⟩))))
  · exact h2.le (by decide)
  · exact h1.le (by decide)
  have hw : BdP 1001 (off q p) := h2.off h1
  refine b_set 3 hN (x_call G_across hr (a_cons (x_var 2 rfl (⟨rfl, a_cons (x_var 0 rfl (⟨rfl, a_nil (⟨_, ⟨_, _, rfl, rfl, ?_, ?_⟩, ⟨rfl, ?_⟩⟩)⟩))⟩))))
  · exact hw.le (by decide)
  · exact h1.le (by decide)
  have hh : Bd 3003 (across (off q p) p) := hw.across h1
  generalize hW : off q p = W at *
  generalize hH : across W p = h at *
  have d1 : (W.1.den : Int) ≠ 0 := den_ne _
  have d2 : (W.2.den : Int) ≠ 0 := den_ne _
  have d3 : (h.den : Int) ≠ 0 := den_ne _
  have b1 := hw.1.den
  have b2 := hw.2.den
  have b3 := hh.den
  have bb : ((W.1.den : Int) * W.2.den * h.den).natAbs < 2 ^ 5005 := int_mul_lt (n := 2002) (int_mul_lt b1 b2) b3
  have q1 : (((W.1.den : Int) * W.2.den * h.den).fdiv W.1.den).natAbs < 2 ^ 5005 := fdiv_lt bb (by omega)
  have q2 : (((W.1.den : Int) * W.2.den * h.den).fdiv W.2.den).natAbs < 2 ^ 5005 := fdiv_lt bb (by omega)
  have q3 : (((W.1.den : Int) * W.2.den * h.den).fdiv h.den).natAbs < 2 ^ 5005 := fdiv_lt bb (by omega)
  refine b_set 4 hN (x_mul (x_mul (x_ix (x_ix (x_var 2 rfl (⟨rfl, x_int (⟨_, _, _, rfl, rfl, rfl, ⟨rfl, x_int (⟨_, _, _, rfl, rfl, rfl, ⟨rfl, x_ix (x_ix (x_var 2 rfl (⟨rfl, x_int (⟨_, _, _, rfl, rfl, rfl, ⟨rfl, x_int (⟨_, _, _, rfl, rfl, rfl, ⟨_, _, rfl, rfl, ?_, ⟨rfl, x_ix (x_var 3 rfl (⟨rfl, x_int (⟨_, _, _, rfl, rfl, rfl, ⟨_, _, rfl, rfl, ?_, ⟨rfl, ?_⟩⟩⟩)⟩))⟩⟩⟩)⟩⟩)⟩)))⟩⟩)⟩⟩)⟩))))))
  · exact cm b1 b2
  · exact cm (n := 2002) (int_mul_lt b1 b2) b3
  refine b_set 5 hN (x_mul (x_ix (x_ix (x_var 2 rfl (⟨rfl, x_int (⟨_, _, _, rfl, rfl, rfl, ⟨rfl, x_int (⟨_, _, _, rfl, rfl, rfl, ⟨rfl, x_fdiv (x_var 4 rfl (⟨rfl, x_ix (x_ix (x_var 2 rfl (⟨rfl, x_int (⟨_, _, _, rfl, rfl, rfl, ⟨rfl, x_int (⟨_, _, _, rfl, rfl, rfl, ⟨_, _, rfl, rfl, ?_, ⟨_, _, rfl, rfl, ?_, ⟨rfl, ?_⟩⟩⟩⟩)⟩⟩)⟩)))⟩))⟩⟩)⟩⟩)⟩)))))
  · exact cd d2 (n := 1001) b2
  · exact cm hw.2.1 q2
  refine b_set 6 hN (x_sub (x_int (⟨rfl, x_mul (x_ix (x_ix (x_var 2 rfl (⟨rfl, x_int (⟨_, _, _, rfl, rfl, rfl, ⟨rfl, x_int (⟨_, _, _, rfl, rfl, rfl, ⟨rfl, x_fdiv (x_var 4 rfl (⟨rfl, x_ix (x_ix (x_var 2 rfl (⟨rfl, x_int (⟨_, _, _, rfl, rfl, rfl, ⟨rfl, x_int (⟨_, _, _, rfl, rfl, rfl, ⟨_, _, rfl, rfl, ?_, ⟨_, _, rfl, rfl, ?_, ⟨_, _, rfl, rfl, trivial, ⟨rfl, ?_⟩⟩⟩⟩⟩)⟩⟩)⟩)))⟩))⟩⟩)⟩⟩)⟩))))⟩)))
  · exact cd d1 (n := 1001) b1
  · exact cm hw.1.1 q1
  refine b_set 7 hN (x_sub (x_int (⟨rfl, x_mul (x_ix (x_var 3 rfl (⟨rfl, x_int (⟨_, _, _, rfl, rfl, rfl, ⟨rfl, x_fdiv (x_var 4 rfl (⟨rfl, x_ix (x_var 3 rfl (⟨rfl, x_int (⟨_, _, _, rfl, rfl, rfl, ⟨_, _, rfl, rfl, ?_, ⟨_, _, rfl, rfl, ?_, ⟨_, _, rfl, rfl, trivial, ⟨rfl, ?_⟩⟩⟩⟩⟩)⟩))⟩))⟩⟩)⟩)))⟩)))
  · exact cd d3 (n := 3003) b3
  · exact cm hh.1 q3
  have fe : ∀ (z : Int) (n : Nat), z.fdiv (n : Int) = z / (n : Int) := fun z n => Int.fdiv_eq_ediv_of_nonneg _ (by omega)
  obtain ⟨a, ha⟩ : ∃ a, a = W.2.num * ((W.1.den : Int) * W.2.den * h.den).fdiv W.2.den := ⟨_, rfl⟩
  obtain ⟨b, hb⟩ : ∃ b, b = 0 - W.1.num * ((W.1.den : Int) * W.2.den * h.den).fdiv W.1.den := ⟨_, rfl⟩
  obtain ⟨d, hd⟩ : ∃ d, d = 0 - h.num * ((W.1.den : Int) * W.2.den * h.den).fdiv h.den := ⟨_, rfl⟩
  have ab_ : a.natAbs < 2 ^ 9000 := by
    rw [ha]
    exact Nat.lt_of_lt_of_le (int_mul_lt hw.2.1 q2) (Nat.pow_le_pow_right (by decide) (by decide))
  have bb_ : b.natAbs < 2 ^ 9000 := by
    rw [hb, Int.zero_sub, Int.natAbs_neg]
    exact Nat.lt_of_lt_of_le (int_mul_lt hw.1.1 q1) (Nat.pow_le_pow_right (by decide) (by decide))
  have eK : lineK p q = .line (a.fdiv (byOf a b d)) (b.fdiv (byOf a b d)) (d.fdiv (byOf a b d)) := by
    unfold lineK lineT norm3 row3
    rw [hW, hH]
    simp only
    rw [← fe, ← fe, ← fe, ← ha, ← hb, ← hd]
  have hab : a ≠ 0 ∨ b ≠ 0 := by
    have hWne : W.1 ≠ 0 ∨ W.2 ≠ 0 := by
      rw [← hW]
      unfold off
      simp only
      by_cases e1 : p.1 = q.1
      · refine .inr fun z => hne (Prod.ext e1 (by grind))
      · exact .inl fun z => e1 (by grind)
    have quo : ∀ z : Int, z ≠ 0 → (∃ y, (W.1.den : Int) * W.2.den * h.den = z * y) → ((W.1.den : Int) * W.2.den * h.den).fdiv z ≠ 0 := fun z hz ⟨y, hy⟩ e => by
      rw [hy, Int.mul_comm, Int.mul_fdiv_cancel _ hz] at e
      subst e
      rw [Int.mul_zero] at hy
      exact mm_ne (mm_ne d1 d2) d3 hy
    rcases hWne with z | z
    · refine .inr ?_
      rw [hb, Int.zero_sub]
      exact Int.neg_ne_zero.mpr (mm_ne (num_ne z) (quo _ d1 ⟨W.2.den * h.den, by grind⟩))
    · refine .inl ?_
      rw [ha]
      exact mm_ne (num_ne z) (quo _ d2 ⟨W.1.den * h.den, by grind⟩)
  have hg0 : Int.gcd a b ≠ 0 := by
    intro z
    have := Int.gcd_eq_zero_iff.mp z
    rcases hab with y | y
    · exact y this.1
    · exact y this.2
  have hg : gcd3 a b d ≠ 0 := by
    unfold gcd3
    intro z
    have := Int.gcd_eq_zero_iff.mp (show Int.gcd (Int.gcd a b) d = 0 by omega)
    omega
  have hgl : (gcd3 a b d).natAbs < 2 ^ 9000 := by
    unfold gcd3
    have e1 : Int.gcd (Int.gcd a b) d ≤ Int.gcd a b := by
      have := Int.gcd_dvd_natAbs_left (Int.gcd a b : Int) d
      exact Nat.le_of_dvd (by omega) (by simpa using this)
    have e2 : Int.gcd a b < 2 ^ 9000 := by
      rcases hab with y | y
      · exact Nat.lt_of_le_of_lt (Nat.le_of_dvd (by omega) (Int.gcd_dvd_natAbs_left ..)) ab_
      · exact Nat.lt_of_le_of_lt (Nat.le_of_dvd (by omega) (Int.gcd_dvd_natAbs_right ..)) bb_
    omega
  rw [eK]
  show XB _ _ _ _ _ [some (.d (pD p)), some (.d (pD q)), some (.d (pD W)), some (.d (fD h)), some (.d (.int ((W.1.den : Int) * W.2.den * h.den))), some (.d (.int (W.2.num * ((W.1.den : Int) * W.2.den * h.den).fdiv W.2.den))), some (.d (.int (0 - W.1.num * ((W.1.den : Int) * W.2.den * h.den).fdiv W.1.den))), some (.d (.int (0 - h.num * ((W.1.den : Int) * W.2.den * h.den).fdiv h.den))), none] _
  rw [← ha, ← hb, ← hd]
  clear ha hb hd eK
  refine b_set 8 hN (x_call G_divisor hr (a_cons (x_call G_divisor hr (a_cons (x_var 5 rfl (⟨rfl, a_cons (x_var 6 rfl (⟨rfl, a_nil (⟨_, ⟨_, _, rfl, rfl⟩, ⟨rfl, a_cons (x_var 7 rfl (⟨rfl, a_nil (⟨_, ⟨_, _, rfl, rfl⟩, ⟨rfl, ?_⟩⟩)⟩))⟩⟩)⟩))⟩))))))
  show XB _ _ _ _ _ [some (.d (pD p)), some (.d (pD q)), some (.d (pD W)), some (.d (fD h)), some (.d (.int ((W.1.den : Int) * W.2.den * h.den))), some (.d (.int a)), some (.d (.int b)), some (.d (.int d)), some (.d (.int (gcd3 a b d)))] _
  generalize hG : gcd3 a b d = g at *
  have fin : ∀ z : Int, z = byOf a b d → z ≠ 0 ∧ z.natAbs < 2 ^ 9000 := fun z e => by
    rw [e]
    unfold byOf
    rw [hG]
    split <;> omega
  refine b_ifB (decide (a < 0) || (decide (a = 0) && decide (b < 0))) (t_w (w_or (t_lt (x_var 5 rfl (⟨rfl, x_int (⟨_, _, rfl, rfl, trivial, _, rfl, ⟨fun t1 => w_or1 (t_w (w_and (t_eq hr (x_var 5 rfl (⟨rfl, x_int (⟨(by trivial), (by trivial), _, rfl, ⟨fun t2 => w_and1 (t_lt (x_var 6 rfl (⟨rfl, x_int (⟨_, _, rfl, rfl, trivial, _, rfl, ⟨rfl, ?_⟩⟩)⟩))), fun t2 => ⟨rfl, ?_⟩⟩⟩)⟩))))), fun t1 => ⟨rfl, ?_⟩⟩⟩)⟩))))) (fun hb => ?_) (fun hb => ?_)
  · simp only [t1, eqI t2, Bool.false_or, Bool.true_and]
  · simp only [t1, eqI t2, Bool.false_or, Bool.false_and]
  · simp only [t1, Bool.true_or]
  · have e : 0 - g = byOf a b d := by
      unfold byOf
      rw [if_pos (by simpa using hb), hG]
    obtain ⟨f1, f2⟩ := fin _ e
    refine b_set 8 hN (x_sub (x_int (⟨rfl, x_var 8 rfl (⟨_, _, rfl, rfl, trivial, ⟨rfl, ?_⟩⟩)⟩)))
    refine b_nil ?_
    refine b_ret (x_tup (a_cons (x_str (⟨rfl, a_cons (x_fdiv (x_var 5 rfl (⟨rfl, x_var 8 rfl (⟨_, _, rfl, rfl, ?_, ⟨rfl, a_cons (x_fdiv (x_var 6 rfl (⟨rfl, x_var 8 rfl (⟨_, _, rfl, rfl, ?_, ⟨rfl, a_cons (x_fdiv (x_var 7 rfl (⟨rfl, x_var 8 rfl (⟨_, _, rfl, rfl, ?_, ⟨rfl, a_nil (⟨[_, _, _, _], rfl, Nat.le_of_ble_eq_true rfl, .inl ?_⟩)⟩⟩)⟩)))⟩⟩)⟩)))⟩⟩)⟩)))⟩))))
    · exact cd f1 f2
    · exact cd f1 f2
    · exact cd f1 f2
    · rw [← e]
      rfl
  · have e : g = byOf a b d := by
      unfold byOf
      rw [if_neg (by simpa using hb), hG]
    obtain ⟨f1, f2⟩ := fin _ e
    refine b_nil ?_
    refine b_ret (x_tup (a_cons (x_str (⟨rfl, a_cons (x_fdiv (x_var 5 rfl (⟨rfl, x_var 8 rfl (⟨_, _, rfl, rfl, ?_, ⟨rfl, a_cons (x_fdiv (x_var 6 rfl (⟨rfl, x_var 8 rfl (⟨_, _, rfl, rfl, ?_, ⟨rfl, a_cons (x_fdiv (x_var 7 rfl (⟨rfl, x_var 8 rfl (⟨_, _, rfl, rfl, ?_, ⟨rfl, a_nil (⟨[_, _, _, _], rfl, Nat.le_of_ble_eq_true rfl, .inl ?_⟩)⟩⟩)⟩)))⟩⟩)⟩)))⟩⟩)⟩)))⟩))))
    · exact cd f1 f2
    · exact cd f1 f2
    · exact cd f1 f2
    · rw [← e]
      rfl
theorem c_quarter_of (F : Fd K "quarter_of" 27 kws f fd) (hm : mg "quarter_of" = some (.ref f))
    (G_sign_of : Callee P w K mg base "sign_of" 1 [("number" : Str)] (spD K R_sign_of))
    (G_along : Callee P w K mg base "along" 4 [("p" : Str), ("q" : Str)] (spD K R_along))
    (G_across : Callee P w K mg base "across" 4 [("p" : Str), ("q" : Str)] (spD K R_across)) :
    Callee P w K mg base "quarter_of" 5 [("one" : Str), ("other" : Str)] (spD K R_quarter_of) := by
  refine mk_d (N := [("one" : Str), ("other" : Str), ("straight" : Str), ("left" : Str)]) F hm (C8.fnScope_by (by kernel_rfl)) (fun _ _ _ _ _ _ us h => match us, h with | [a, b], _ => rfl) (fun es r hR => by obtain ⟨_, _, h, _⟩ := hR; rw [h]; rfl) fun cdv A outer s H E hr es r as hR => ?_
  have hN : ([("one" : Str), ("other" : Str), ("straight" : Str), ("left" : Str)] : List Str).Nodup := by decide
  obtain ⟨p, q, rfl, rfl, h1, h2⟩ := hR
  refine b_set 2 hN (x_call G_sign_of hr (a_cons (x_call G_along hr (a_cons (x_var 0 rfl (⟨rfl, a_cons (x_var 1 rfl (⟨rfl, a_nil (⟨_, ⟨_, _, rfl, rfl, ?_, ?_⟩, ⟨rfl, a_nil (⟨_, ⟨_, rfl, rfl⟩, ⟨rfl, ?_⟩⟩)⟩⟩)⟩))⟩))))))
  · exact h1
  · exact h2
  refine b_set 3 hN (x_call G_sign_of hr (a_cons (x_call G_across hr (a_cons (x_var 0 rfl (⟨rfl, a_cons (x_var 1 rfl (⟨rfl, a_nil (⟨_, ⟨_, _, rfl, rfl, ?_, ?_⟩, ⟨rfl, a_nil (⟨_, ⟨_, rfl, rfl⟩, ⟨rfl, ?_⟩⟩)⟩⟩)⟩))⟩))))))
  · exact h1
  · exact h2
  clear hN
  refine b_ifB (decide (0 < sgn (along p q)) && decide (0 ≤ sgn (across p q))) (t_w (w_and (t_gt (x_var 2 rfl (⟨rfl, x_int (⟨_, _, rfl, rfl, trivial, _, rfl, ⟨fun t1 => w_and1 (t_ge (x_var 3 rfl (⟨rfl, x_int (⟨_, _, rfl, rfl, trivial, _, rfl, ⟨rfl, ?_⟩⟩)⟩))), fun t1 => ⟨rfl, ?_⟩⟩⟩)⟩))))) (fun hb => ?_) (fun hb => ?_)
  · grind
  · grind
  · refine b_ret (x_int (.inl ?_))
    unfold quarterOf
    grind
  refine b_nil ?_
  refine b_if (t_gt (x_var 3 rfl (⟨rfl, x_int (⟨_, _, rfl, rfl, trivial, _, rfl, ⟨fun hb => ?_, fun hb => ?_⟩⟩)⟩)))
  · refine b_ret (x_int (.inl ?_))
    unfold quarterOf
    grind
  refine b_nil ?_
  refine b_if (t_lt (x_var 2 rfl (⟨rfl, x_int (⟨_, _, rfl, rfl, trivial, _, rfl, ⟨fun hb => ?_, fun hb => ?_⟩⟩)⟩)))
  · refine b_ret (x_int (.inl ?_))
    unfold quarterOf
    grind
  refine b_nil ?_
  refine b_ret (x_int (.inl ?_))
  unfold quarterOf
  grind

end
end AW
set_option Elab.async false
set_option linter.all false
set_option maxRecDepth 100000
set_option maxHeartbeats 2000000
namespace AW
open PySem PySem.Spec PyProof.Rows L2 L3 AM
local macro_rules | `(tactic| trivial) => `(tactic| first | exact (shp_pD _).ok | exact (shp_fD _).ok | exact (shp_kD _).ok | exact (shp_xD _).ok | exact shp_keyE _ | exact shp_keyE _ | exact shp_s1.ok | exact shp_s2.ok | exact shp_s3.ok | exact shp_s4.ok | exact shp_s5.ok | exact shp_s6.ok | exact (shp_int 0 _).ok)
section
variable {w : World} {K : PySem.W.Frag} {mg : Str → Option Value} {base : Heap} {kws : List (Str × V)} {f : Addr} {fd : FuncData} {P : Program}
theorem c_lies_on (F : Fd K "lies_on" 24 kws f fd) (hm : mg "lies_on" = some (.ref f))
    (G_side : Callee P w K mg base "side" 5 [("a" : Str), ("b" : Str), ("p" : Str)] (spD K R_side))
    (G_before : Callee P w K mg base "before" 2 [("p" : Str), ("q" : Str)] (spD K R_before)) :
    Callee P w K mg base "lies_on" 6 [("piece" : Str), ("p" : Str)] (spD K R_lies_on) := by
  refine mk_d (N := [("piece" : Str), ("p" : Str)]) F hm (C8.fnScope_by (by kernel_rfl)) (fun _ _ _ _ _ _ us h => match us, h with | [a, b], _ => rfl) (fun es r hR => by obtain ⟨_, _, h, _⟩ := hR; rw [h]; rfl) fun cdv A outer s H E hr es r as hR => ?_
  have hN : ([("piece" : Str), ("p" : Str)] : List Str).Nodup := by decide
  obtain ⟨x, m, rfl, rfl, h1, h2, h3⟩ := hR
  cases x with
  | dot q =>
    refine b_if (t_eq hr (x_ix (x_var 0 rfl (⟨rfl, x_int (⟨_, _, _, rfl, rfl, rfl, ⟨rfl, x_str (⟨(by trivial), (by trivial), _, rfl, ⟨fun hb => ?_, fun hb => ?_⟩⟩)⟩⟩)⟩))))
    · refine b_ret (x_eq hr (x_var 1 rfl (⟨rfl, x_ix (x_var 0 rfl (⟨rfl, x_int (⟨_, _, _, rfl, rfl, rfl, ⟨(by trivial), (by trivial), .inl ?_⟩⟩)⟩))⟩)))
      exact congrArg (fun b => Ent.d (.bool b)) ((eqv_pD m q).trans (by simp [liesOn, eq_comm]))
    · exact absurd (eqS hb) (by decide)
  | st p q =>
    refine b_if (t_eq hr (x_ix (x_var 0 rfl (⟨rfl, x_int (⟨_, _, _, rfl, rfl, rfl, ⟨rfl, x_str (⟨(by trivial), (by trivial), _, rfl, ⟨fun hb => ?_, fun hb => ?_⟩⟩)⟩⟩)⟩))))
    · exact absurd (eqS hb) (by decide)
    refine b_nil ?_
    obtain ⟨hp, hq⟩ := h1
    refine b_ret (x_and (x_eq hr (x_call G_side hr (a_cons (x_ix (x_var 0 rfl (⟨rfl, x_int (⟨_, _, _, rfl, rfl, rfl, ⟨rfl, a_cons (x_ix (x_var 0 rfl (⟨rfl, x_int (⟨_, _, _, rfl, rfl, rfl, ⟨rfl, a_cons (x_var 1 rfl (⟨rfl, a_nil (⟨_, ⟨_, _, _, rfl, rfl, ?_, ?_, ?_⟩, ⟨rfl, x_int (⟨(by trivial), (by trivial), ⟨_, rfl, fun t1 => x_and (x_not (x_call G_before hr (a_cons (x_var 1 rfl (⟨rfl, a_cons (x_ix (x_var 0 rfl (⟨rfl, x_int (⟨_, _, _, rfl, rfl, rfl, ⟨rfl, a_nil (⟨_, ⟨_, _, rfl, rfl, ?_, ?_⟩, ⟨_, rfl, ⟨_, rfl, fun t2 => x_one (x_not (x_call G_before hr (a_cons (x_ix (x_var 0 rfl (⟨rfl, x_int (⟨_, _, _, rfl, rfl, rfl, ⟨rfl, a_cons (x_var 1 rfl (⟨rfl, a_nil (⟨_, ⟨_, _, rfl, rfl, ?_, ?_⟩, ⟨_, rfl, .inl ?_⟩⟩)⟩))⟩⟩)⟩)))))), fun t2 => .inl ?_⟩⟩⟩)⟩⟩)⟩)))⟩))))), fun t1 => .inl ?_⟩⟩)⟩⟩)⟩))⟩⟩)⟩)))⟩⟩)⟩)))))))
    · exact hp
    · exact hq
    · exact h2
    · exact h2.le (by decide)
    · exact hp.le (by decide)
    · exact hq.le (by decide)
    · exact h2.le (by decide)
    · have := eqI t1
      simp_all [liesOn]
    · have := eqI t1
      simp_all [liesOn]
    · have := eqI t1
      simp_all [liesOn]
  | arc c p q => cases h3 _ rfl
  | ring c p => cases h3 _ rfl
theorem c_cut (F : Fd K "cut" 25 kws f fd) (hm : mg "cut" = some (.ref f))
    (G_lies_on : Callee P w K mg base "lies_on" 6 [("piece" : Str), ("p" : Str)] (spD K R_lies_on)) :
    Callee P w K mg base "cut" 7 [("piece" : Str), ("p" : Str)] (spD K R_cut) := by
  refine mk_d (N := [("piece" : Str), ("p" : Str)]) F hm (C8.fnScope_by (by kernel_rfl)) (fun _ _ _ _ _ _ us h => match us, h with | [a, b], _ => rfl) (fun es r hR => by obtain ⟨_, _, _, h, _⟩ := hR; rw [h]; rfl) fun cdv A outer s H E hr es r as hR => ?_
  have hN : ([("piece" : Str), ("p" : Str)] : List Str).Nodup := by decide
  obtain ⟨p, q, m, rfl, rfl, h1, h2, h3⟩ := hR
  have hx : PcB 900 (.st p q) := ⟨h1.le (by decide), h2.le (by decide)⟩
  refine b_ifB (!liesOn (.st p q) m || (decide (m = p) || decide (m = q))) (t_w (w_or (t_not (t_val (x_call G_lies_on hr (a_cons (x_var 0 rfl (⟨rfl, a_cons (x_var 1 rfl (⟨rfl, a_nil (⟨_, ⟨_, _, rfl, rfl, ?_, ?_, ?_⟩, ⟨_, rfl, ⟨fun t1 => w_or (t_eq hr (x_var 1 rfl (⟨rfl, x_ix (x_var 0 rfl (⟨rfl, x_int (⟨_, _, _, rfl, rfl, rfl, ⟨(by trivial), (by trivial), _, rfl, ⟨fun t2 => w_or1 (t_eq hr (x_var 1 rfl (⟨rfl, x_ix (x_var 0 rfl (⟨rfl, x_int (⟨_, _, _, rfl, rfl, rfl, ⟨(by trivial), (by trivial), _, rfl, ⟨rfl, ?_⟩⟩⟩)⟩))⟩))), fun t2 => ⟨rfl, ?_⟩⟩⟩⟩)⟩))⟩))), fun t1 => ⟨rfl, ?_⟩⟩⟩⟩)⟩))⟩)))))))) (fun hb => ?_) (fun hb => ?_)
  · exact hx
  · exact h3.le (by decide)
  · intro c e
    exact e.symm
  · rw [t1, eqP t2, Bool.false_or, Bool.false_or]
    exact eqv_pD m q
  · rw [t1, eqP t2, Bool.false_or, Bool.true_or]
  · rw [t1, Bool.true_or]
  · refine b_ret (x_lst (a_cons (x_var 0 rfl (⟨rfl, a_nil (⟨[_], rfl, Nat.le_of_ble_eq_true rfl, .inl ?_⟩)⟩))))
    refine congrArg Ent.n ?_
    unfold cutOf
    simp only [hb]
    rfl
  · refine b_nil ?_
    refine b_ret (x_lst (a_cons (x_tup (a_cons (x_str (⟨rfl, a_cons (x_ix (x_var 0 rfl (⟨rfl, x_int (⟨_, _, _, rfl, rfl, rfl, ⟨rfl, a_cons (x_var 1 rfl (⟨rfl, a_nil (⟨[_, _, _], rfl, Nat.le_of_ble_eq_true rfl, ⟨rfl, a_cons (x_tup (a_cons (x_str (⟨rfl, a_cons (x_var 1 rfl (⟨rfl, a_cons (x_ix (x_var 0 rfl (⟨rfl, x_int (⟨_, _, _, rfl, rfl, rfl, ⟨rfl, a_nil (⟨[_, _, _], rfl, Nat.le_of_ble_eq_true rfl, ⟨rfl, a_nil (⟨[_, _], rfl, Nat.le_of_ble_eq_true rfl, .inl ?_⟩)⟩⟩)⟩⟩)⟩)))⟩))⟩))))⟩⟩)⟩))⟩⟩)⟩)))⟩))))))
    refine congrArg Ent.n ?_
    unfold cutOf
    simp only [hb]
    rfl
theorem c_ahead (F : Fd K "ahead" 28 kws f fd) (hm : mg "ahead" = some (.ref f))
    (G_off : Callee P w K mg base "off" 4 [("p" : Str), ("q" : Str)] (spD K R_off))
    (G_quarter_of : Callee P w K mg base "quarter_of" 5 [("one" : Str), ("other" : Str)] (spD K R_quarter_of))
    (G_across : Callee P w K mg base "across" 4 [("p" : Str), ("q" : Str)] (spD K R_across)) :
    Callee P w K mg base "ahead" 6 [("c" : Str), ("a" : Str), ("p" : Str), ("q" : Str)] (spD K R_ahead) := by
  refine mk_d (N := [("c" : Str), ("a" : Str), ("p" : Str), ("q" : Str), ("start" : Str), ("one" : Str), ("other" : Str), ("here" : Str), ("there" : Str)]) F hm (C8.fnScope_by (by kernel_rfl)) (fun _ _ _ _ _ _ us h => match us, h with | [a, b, c, d], _ => rfl) (fun es r hR => by obtain ⟨_, _, _, _, h, _⟩ := hR; rw [h]; rfl) fun cdv A outer s H E hr es r as hR => ?_
  have hN : ([("c" : Str), ("a" : Str), ("p" : Str), ("q" : Str), ("start" : Str), ("one" : Str), ("other" : Str), ("here" : Str), ("there" : Str)] : List Str).Nodup := by decide
  obtain ⟨c, a, p, q, rfl, rfl, h1, h2, h3, h4⟩ := hR
  refine b_set 4 hN (x_call G_off hr (a_cons (x_var 1 rfl (⟨rfl, a_cons (x_var 0 rfl (⟨rfl, a_nil (⟨_, ⟨_, _, rfl, rfl, ?_, ?_⟩, ⟨rfl, ?_⟩⟩)⟩))⟩))))
  · exact h2.le (by decide)
  · exact h1.le (by decide)
  refine b_set 5 hN (x_call G_off hr (a_cons (x_var 2 rfl (⟨rfl, a_cons (x_var 0 rfl (⟨rfl, a_nil (⟨_, ⟨_, _, rfl, rfl, ?_, ?_⟩, ⟨rfl, ?_⟩⟩)⟩))⟩))))
  · exact h3.le (by decide)
  · exact h1.le (by decide)
  refine b_set 6 hN (x_call G_off hr (a_cons (x_var 3 rfl (⟨rfl, a_cons (x_var 0 rfl (⟨rfl, a_nil (⟨_, ⟨_, _, rfl, rfl, ?_, ?_⟩, ⟨rfl, ?_⟩⟩)⟩))⟩))))
  · exact h4.le (by decide)
  · exact h1.le (by decide)
  have o1 : BdP 2050 (off a c) := (h2.off h1).le (by decide)
  have o2 : BdP 2050 (off p c) := (h3.off h1).le (by decide)
  have o3 : BdP 2050 (off q c) := (h4.off h1).le (by decide)
  refine b_set 7 hN (x_call G_quarter_of hr (a_cons (x_var 4 rfl (⟨rfl, a_cons (x_var 5 rfl (⟨rfl, a_nil (⟨_, ⟨_, _, rfl, rfl, ?_, ?_⟩, ⟨rfl, ?_⟩⟩)⟩))⟩))))
  · exact o1
  · exact o2
  refine b_set 8 hN (x_call G_quarter_of hr (a_cons (x_var 4 rfl (⟨rfl, a_cons (x_var 6 rfl (⟨rfl, a_nil (⟨_, ⟨_, _, rfl, rfl, ?_, ?_⟩, ⟨rfl, ?_⟩⟩)⟩))⟩))))
  · exact o1
  · exact o3
  refine b_if (t_ne hr (x_var 7 rfl (⟨rfl, x_var 8 rfl (⟨(by trivial), (by trivial), _, rfl, ⟨fun hb => ?_, fun hb => ?_⟩⟩)⟩)))
  · have := neI hb
    refine b_ret (x_lt (x_var 7 rfl (⟨rfl, x_var 8 rfl (⟨_, _, rfl, rfl, trivial, .inl ?_⟩)⟩)))
    unfold AM.ahead
    rw [if_pos (by simpa using this)]
  · have := neI hb
    refine b_nil ?_
    refine b_ret (x_gt (x_ix (x_call G_across hr (a_cons (x_var 5 rfl (⟨rfl, a_cons (x_var 6 rfl (⟨rfl, a_nil (⟨_, ⟨_, _, rfl, rfl, ?_, ?_⟩, ⟨rfl, x_int (⟨_, _, _, rfl, rfl, rfl, ⟨rfl, x_int (⟨_, _, rfl, rfl, trivial, .inl ?_⟩)⟩⟩)⟩⟩)⟩))⟩))))))
    · exact o2
    · exact o3
    unfold AM.ahead
    rw [if_neg (by simpa using this)]
    refine congrArg (fun b => Ent.d (.bool b)) (decide_eq_decide.mpr ?_)
    rw [Rat.lt_iff]
    simp
theorem c_on (F : Fd K "on" 29 kws f fd) (hm : mg "on" = some (.ref f))
    (G_ahead : Callee P w K mg base "ahead" 6 [("c" : Str), ("a" : Str), ("p" : Str), ("q" : Str)] (spD K R_ahead))
    (G_lies_on : Callee P w K mg base "lies_on" 6 [("piece" : Str), ("p" : Str)] (spD K R_lies_on))
    (G_far : Callee P w K mg base "far" 5 [("p" : Str), ("q" : Str)] (spD K R_far)) :
    Callee P w K mg base "on" 7 [("piece" : Str), ("p" : Str)] (spD K R_on) := by
  refine mk_d (N := [("piece" : Str), ("p" : Str), ("c" : Str)]) F hm (C8.fnScope_by (by kernel_rfl)) (fun _ _ _ _ _ _ us h => match us, h with | [a, b], _ => rfl) (fun es r hR => by obtain ⟨_, _, h, _⟩ := hR; rw [h]; rfl) fun cdv A outer s H E hr es r as hR => ?_
  have hN : ([("piece" : Str), ("p" : Str), ("c" : Str)] : List Str).Nodup := by decide
  obtain ⟨x, m, rfl, rfl, h1, h2⟩ := hR
  cases x with
  | dot q =>
    refine b_ifB (true) (t_w (w_or (t_eq hr (x_ix (x_var 0 rfl (⟨rfl, x_int (⟨_, _, _, rfl, rfl, rfl, ⟨rfl, x_str (⟨(by trivial), (by trivial), _, rfl, ⟨fun t1 => w_or1 (t_eq hr (x_ix (x_var 0 rfl (⟨rfl, x_int (⟨_, _, _, rfl, rfl, rfl, ⟨rfl, x_str (⟨(by trivial), (by trivial), _, rfl, ⟨rfl, ?_⟩⟩)⟩⟩)⟩)))), fun t1 => ⟨rfl, ?_⟩⟩⟩)⟩⟩)⟩)))))) (fun hb => ?_) (fun hb => ?_)
    · exact absurd (eqS t1) (by decide)
    · rfl
    · refine b_ret (x_call G_lies_on hr (a_cons (x_var 0 rfl (⟨rfl, a_cons (x_var 1 rfl (⟨rfl, a_nil (⟨_, ⟨_, _, rfl, rfl, ?_, ?_, ?_⟩, .inl ?_⟩)⟩))⟩))))
      · exact h1
      · exact h2
      · intro c e; exact e.symm
      · rfl
    · cases hb
  | st p q =>
    refine b_ifB (true) (t_w (w_or (t_eq hr (x_ix (x_var 0 rfl (⟨rfl, x_int (⟨_, _, _, rfl, rfl, rfl, ⟨rfl, x_str (⟨(by trivial), (by trivial), _, rfl, ⟨fun t1 => w_or1 (t_eq hr (x_ix (x_var 0 rfl (⟨rfl, x_int (⟨_, _, _, rfl, rfl, rfl, ⟨rfl, x_str (⟨(by trivial), (by trivial), _, rfl, ⟨rfl, ?_⟩⟩)⟩⟩)⟩)))), fun t1 => ⟨rfl, ?_⟩⟩⟩)⟩⟩)⟩)))))) (fun hb => ?_) (fun hb => ?_)
    · exact eqv_str _ _
    · rfl
    · refine b_ret (x_call G_lies_on hr (a_cons (x_var 0 rfl (⟨rfl, a_cons (x_var 1 rfl (⟨rfl, a_nil (⟨_, ⟨_, _, rfl, rfl, ?_, ?_, ?_⟩, .inl ?_⟩)⟩))⟩))))
      · exact h1
      · exact h2
      · intro c e; exact e.symm
      · rfl
    · cases hb
  | arc c p q =>
    obtain ⟨hc, hp, hq⟩ := h1
    refine b_ifB (false) (t_w (w_or (t_eq hr (x_ix (x_var 0 rfl (⟨rfl, x_int (⟨_, _, _, rfl, rfl, rfl, ⟨rfl, x_str (⟨(by trivial), (by trivial), _, rfl, ⟨fun t1 => w_or1 (t_eq hr (x_ix (x_var 0 rfl (⟨rfl, x_int (⟨_, _, _, rfl, rfl, rfl, ⟨rfl, x_str (⟨(by trivial), (by trivial), _, rfl, ⟨rfl, ?_⟩⟩)⟩⟩)⟩)))), fun t1 => ⟨rfl, ?_⟩⟩⟩)⟩⟩)⟩)))))) (fun hb => ?_) (fun hb => ?_)
    · exact eqv_str _ _
    · exact absurd (eqS t1) (by decide)
    · cases hb
    refine b_nil ?_
    refine b_set 2 hN (x_ix (x_var 0 rfl (⟨rfl, x_int (⟨_, _, _, rfl, rfl, rfl, ⟨rfl, ?_⟩⟩)⟩)))
    refine b_if (t_ne hr (x_call G_far hr (a_cons (x_var 2 rfl (⟨rfl, a_cons (x_var 1 rfl (⟨rfl, a_nil (⟨_, ⟨_, _, rfl, rfl, ?_, ?_⟩, ⟨rfl, x_call G_far hr (a_cons (x_var 2 rfl (⟨rfl, a_cons (x_ix (x_var 0 rfl (⟨rfl, x_int (⟨_, _, _, rfl, rfl, rfl, ⟨rfl, a_nil (⟨_, ⟨_, _, rfl, rfl, ?_, ?_⟩, ⟨(by trivial), (by trivial), _, rfl, ⟨fun hb => ?_, fun hb => ?_⟩⟩⟩)⟩⟩)⟩)))⟩)))⟩⟩)⟩))⟩)))))
    · exact hc
    · exact h2
    · exact hc
    · exact hp
    · have := neF hb
      refine b_ret (x_bl (.inl ?_))
      simp_all [on]
    have hf := neF hb
    refine b_nil ?_
    refine b_ifB (decide (m = p) || decide (m = q)) (t_w (w_or (t_eq hr (x_ix (x_var 0 rfl (⟨rfl, x_int (⟨_, _, _, rfl, rfl, rfl, ⟨rfl, x_str (⟨(by trivial), (by trivial), _, rfl, ⟨fun t1 => w_or (t_eq hr (x_var 1 rfl (⟨rfl, x_ix (x_var 0 rfl (⟨rfl, x_int (⟨_, _, _, rfl, rfl, rfl, ⟨(by trivial), (by trivial), _, rfl, ⟨fun t2 => w_or1 (t_eq hr (x_var 1 rfl (⟨rfl, x_ix (x_var 0 rfl (⟨rfl, x_int (⟨_, _, _, rfl, rfl, rfl, ⟨(by trivial), (by trivial), _, rfl, ⟨rfl, ?_⟩⟩⟩)⟩))⟩))), fun t2 => ⟨rfl, ?_⟩⟩⟩⟩)⟩))⟩))), fun t1 => ⟨rfl, ?_⟩⟩⟩)⟩⟩)⟩)))))) (fun hb => ?_) (fun hb => ?_)
    · rw [eqP t2]
      exact eqv_pD m q
    · rw [eqP t2]
      rfl
    · exact absurd (eqS t1) (by decide)
    · refine b_ret (x_bl (.inl ?_))
      simp_all [on]
      grind
    · refine b_nil ?_
      refine b_ret (x_call G_ahead hr (a_cons (x_var 2 rfl (⟨rfl, a_cons (x_ix (x_var 0 rfl (⟨rfl, x_int (⟨_, _, _, rfl, rfl, rfl, ⟨rfl, a_cons (x_var 1 rfl (⟨rfl, a_cons (x_ix (x_var 0 rfl (⟨rfl, x_int (⟨_, _, _, rfl, rfl, rfl, ⟨rfl, a_nil (⟨_, ⟨_, _, _, _, rfl, rfl, ?_, ?_, ?_, ?_⟩, .inl ?_⟩)⟩⟩)⟩)))⟩))⟩⟩)⟩)))⟩))))
      · exact hc
      · exact hp
      · exact h2
      · exact hq
      · simp_all [on]
  | ring c p =>
    obtain ⟨hc, hp⟩ := h1
    refine b_ifB (false) (t_w (w_or (t_eq hr (x_ix (x_var 0 rfl (⟨rfl, x_int (⟨_, _, _, rfl, rfl, rfl, ⟨rfl, x_str (⟨(by trivial), (by trivial), _, rfl, ⟨fun t1 => w_or1 (t_eq hr (x_ix (x_var 0 rfl (⟨rfl, x_int (⟨_, _, _, rfl, rfl, rfl, ⟨rfl, x_str (⟨(by trivial), (by trivial), _, rfl, ⟨rfl, ?_⟩⟩)⟩⟩)⟩)))), fun t1 => ⟨rfl, ?_⟩⟩⟩)⟩⟩)⟩)))))) (fun hb => ?_) (fun hb => ?_)
    · exact eqv_str _ _
    · exact absurd (eqS t1) (by decide)
    · cases hb
    refine b_nil ?_
    refine b_set 2 hN (x_ix (x_var 0 rfl (⟨rfl, x_int (⟨_, _, _, rfl, rfl, rfl, ⟨rfl, ?_⟩⟩)⟩)))
    refine b_if (t_ne hr (x_call G_far hr (a_cons (x_var 2 rfl (⟨rfl, a_cons (x_var 1 rfl (⟨rfl, a_nil (⟨_, ⟨_, _, rfl, rfl, ?_, ?_⟩, ⟨rfl, x_call G_far hr (a_cons (x_var 2 rfl (⟨rfl, a_cons (x_ix (x_var 0 rfl (⟨rfl, x_int (⟨_, _, _, rfl, rfl, rfl, ⟨rfl, a_nil (⟨_, ⟨_, _, rfl, rfl, ?_, ?_⟩, ⟨(by trivial), (by trivial), _, rfl, ⟨fun hb => ?_, fun hb => ?_⟩⟩⟩)⟩⟩)⟩)))⟩)))⟩⟩)⟩))⟩)))))
    · exact hc
    · exact h2
    · exact hc
    · exact hp
    · have := neF hb
      refine b_ret (x_bl (.inl ?_))
      simp_all [on]
    have hf := neF hb
    refine b_nil ?_
    refine b_ifB true (t_w (w_or (t_eq hr (x_ix (x_var 0 rfl (⟨rfl, x_int (⟨_, _, _, rfl, rfl, rfl, ⟨rfl, x_str (⟨(by trivial), (by trivial), _, rfl, ⟨fun hb => absurd (eqS hb) (by decide), fun hb => ⟨rfl, rfl⟩⟩⟩)⟩⟩)⟩)))))) (fun hb => ?_) (fun hb => ?_)
    · refine b_ret (x_bl (.inl ?_))
      simp_all [on]
    · cases hb

end
end AW
set_option Elab.async false
set_option linter.all false
set_option maxRecDepth 100000
set_option maxHeartbeats 2000000
namespace AW
open PySem PySem.Spec PyProof.Rows L2 L3 AM
local macro_rules | `(tactic| trivial) => `(tactic| first | exact (shp_pD _).ok | exact (shp_fD _).ok | exact (shp_kD _).ok | exact (shp_xD _).ok | exact shp_keyE _ | exact shp_keyE _ | exact shp_s1.ok | exact shp_s2.ok | exact shp_s3.ok | exact shp_s4.ok | exact shp_s5.ok | exact shp_s6.ok | exact (shp_int 0 _).ok)
section
variable {w : World} {K : PySem.W.Frag} {mg : Str → Option Value} {base : Heap} {kws : List (Str × V)} {f : Addr} {fd : FuncData} {P : Program}
theorem c_carrier (F : Fd K "carrier" 33 kws f fd) (hm : mg "carrier" = some (.ref f))
    (G_line : Callee P w K mg base "line" 5 [("p" : Str), ("q" : Str)] (spD K R_line))
    (G_far : Callee P w K mg base "far" 5 [("p" : Str), ("q" : Str)] (spD K R_far)) :
    Callee P w K mg base "carrier" 6 [("piece" : Str)] (spD K R_carrier) := by
  refine mk_d (N := [("piece" : Str)]) F hm (C8.fnScope_by (by kernel_rfl)) (fun _ _ _ _ _ _ us h => match us, h with | [a], _ => rfl) (fun es r hR => by obtain ⟨_, h, _⟩ := hR; rw [h]; rfl) fun cdv A outer s H E hr es r as hR => ?_
  have hN : ([("piece" : Str)] : List Str).Nodup := by decide
  obtain ⟨x, rfl, rfl, h1, h2⟩ := hR
  cases x with
  | dot q =>
    refine b_if (t_eq hr (x_ix (x_var 0 rfl (⟨rfl, x_int (⟨_, _, _, rfl, rfl, rfl, ⟨rfl, x_str (⟨(by trivial), (by trivial), _, rfl, ⟨fun hb => ?_, fun hb => ?_⟩⟩)⟩⟩)⟩))))
    · refine b_ret (x_non (.inl ?_))
      rfl
    · exact absurd (eqS hb) (by decide)
  | st p q =>
    refine b_if (t_eq hr (x_ix (x_var 0 rfl (⟨rfl, x_int (⟨_, _, _, rfl, rfl, rfl, ⟨rfl, x_str (⟨(by trivial), (by trivial), _, rfl, ⟨fun hb => ?_, fun hb => ?_⟩⟩)⟩⟩)⟩))))
    · exact absurd (eqS hb) (by decide)
    refine b_nil ?_
    refine b_if (t_eq hr (x_ix (x_var 0 rfl (⟨rfl, x_int (⟨_, _, _, rfl, rfl, rfl, ⟨rfl, x_str (⟨(by trivial), (by trivial), _, rfl, ⟨fun hb => ?_, fun hb => ?_⟩⟩)⟩⟩)⟩))))
    · refine b_ret (x_call G_line hr (a_cons (x_ix (x_var 0 rfl (⟨rfl, x_int (⟨_, _, _, rfl, rfl, rfl, ⟨rfl, a_cons (x_ix (x_var 0 rfl (⟨rfl, x_int (⟨_, _, _, rfl, rfl, rfl, ⟨rfl, a_nil (⟨_, ⟨_, _, rfl, rfl, ?_, ?_, ?_⟩, .inl ?_⟩)⟩⟩)⟩)))⟩⟩)⟩)))))
      · exact h1.1
      · exact h1.2
      · exact h2 p q rfl
      · rfl
    · exact absurd (eqS hb) (by decide)
  | arc c p q =>
    refine b_if (t_eq hr (x_ix (x_var 0 rfl (⟨rfl, x_int (⟨_, _, _, rfl, rfl, rfl, ⟨rfl, x_str (⟨(by trivial), (by trivial), _, rfl, ⟨fun hb => ?_, fun hb => ?_⟩⟩)⟩⟩)⟩))))
    · exact absurd (eqS hb) (by decide)
    refine b_nil ?_
    refine b_if (t_eq hr (x_ix (x_var 0 rfl (⟨rfl, x_int (⟨_, _, _, rfl, rfl, rfl, ⟨rfl, x_str (⟨(by trivial), (by trivial), _, rfl, ⟨fun hb => ?_, fun hb => ?_⟩⟩)⟩⟩)⟩))))
    · exact absurd (eqS hb) (by decide)
    refine b_nil ?_
    refine b_ret (x_tup (a_cons (x_str (⟨rfl, a_cons (x_ix (x_var 0 rfl (⟨rfl, x_int (⟨_, _, _, rfl, rfl, rfl, ⟨rfl, a_cons (x_call G_far hr (a_cons (x_ix (x_var 0 rfl (⟨rfl, x_int (⟨_, _, _, rfl, rfl, rfl, ⟨rfl, a_cons (x_ix (x_var 0 rfl (⟨rfl, x_int (⟨_, _, _, rfl, rfl, rfl, ⟨rfl, a_nil (⟨_, ⟨_, _, rfl, rfl, ?_, ?_⟩, ⟨rfl, a_nil (⟨[_, _, _], rfl, Nat.le_of_ble_eq_true rfl, .inl ?_⟩)⟩⟩)⟩⟩)⟩)))⟩⟩)⟩)))))⟩⟩)⟩)))⟩))))
    · exact h1.1.le (by decide)
    · exact h1.2.1.le (by decide)
    · rfl
  | ring c p =>
    refine b_if (t_eq hr (x_ix (x_var 0 rfl (⟨rfl, x_int (⟨_, _, _, rfl, rfl, rfl, ⟨rfl, x_str (⟨(by trivial), (by trivial), _, rfl, ⟨fun hb => ?_, fun hb => ?_⟩⟩)⟩⟩)⟩))))
    · exact absurd (eqS hb) (by decide)
    refine b_nil ?_
    refine b_if (t_eq hr (x_ix (x_var 0 rfl (⟨rfl, x_int (⟨_, _, _, rfl, rfl, rfl, ⟨rfl, x_str (⟨(by trivial), (by trivial), _, rfl, ⟨fun hb => ?_, fun hb => ?_⟩⟩)⟩⟩)⟩))))
    · exact absurd (eqS hb) (by decide)
    refine b_nil ?_
    refine b_ret (x_tup (a_cons (x_str (⟨rfl, a_cons (x_ix (x_var 0 rfl (⟨rfl, x_int (⟨_, _, _, rfl, rfl, rfl, ⟨rfl, a_cons (x_call G_far hr (a_cons (x_ix (x_var 0 rfl (⟨rfl, x_int (⟨_, _, _, rfl, rfl, rfl, ⟨rfl, a_cons (x_ix (x_var 0 rfl (⟨rfl, x_int (⟨_, _, _, rfl, rfl, rfl, ⟨rfl, a_nil (⟨_, ⟨_, _, rfl, rfl, ?_, ?_⟩, ⟨rfl, a_nil (⟨[_, _, _], rfl, Nat.le_of_ble_eq_true rfl, .inl ?_⟩)⟩⟩)⟩⟩)⟩)))⟩⟩)⟩)))))⟩⟩)⟩)))⟩))))
    · exact h1.1.le (by decide)
    · exact h1.2.le (by decide)
    · rfl
theorem c_two_stretches (F : Fd K "two_stretches" 35 kws f fd) (hm : mg "two_stretches" = some (.ref f))
    (G_before : Callee P w K mg base "before" 2 [("p" : Str), ("q" : Str)] (spD K R_before)) :
    Callee P w K mg base "two_stretches" 3 [("one" : Str), ("other" : Str)] (spD K R_two_stretches) := by
  refine mk_d (N := [("one" : Str), ("other" : Str), ("first" : Str), ("last" : Str)]) F hm (C8.fnScope_by (by kernel_rfl)) (fun _ _ _ _ _ _ us h => match us, h with | [a, b], _ => rfl) (fun es r hR => by obtain ⟨_, _, _, _, h, _⟩ := hR; rw [h]; rfl) fun cdv A outer s H E hr es r as hR => ?_
  have hN : ([("one" : Str), ("other" : Str), ("first" : Str), ("last" : Str)] : List Str).Nodup := by decide
  obtain ⟨a, b, p, q, rfl, rfl, h1, h2⟩ := hR
  obtain ⟨ha, hb0⟩ := h1
  obtain ⟨hp, hq⟩ := h2
  refine b_ifB (before b p || before q a) (t_w (w_or (t_val (x_call G_before hr (a_cons (x_ix (x_var 0 rfl (⟨rfl, x_int (⟨_, _, _, rfl, rfl, rfl, ⟨rfl, a_cons (x_ix (x_var 1 rfl (⟨rfl, x_int (⟨_, _, _, rfl, rfl, rfl, ⟨rfl, a_nil (⟨_, ⟨_, _, rfl, rfl, ?_, ?_⟩, ⟨_, rfl, ⟨fun t1 => w_or1 (t_val (x_call G_before hr (a_cons (x_ix (x_var 1 rfl (⟨rfl, x_int (⟨_, _, _, rfl, rfl, rfl, ⟨rfl, a_cons (x_ix (x_var 0 rfl (⟨rfl, x_int (⟨_, _, _, rfl, rfl, rfl, ⟨rfl, a_nil (⟨_, ⟨_, _, rfl, rfl, ?_, ?_⟩, ⟨_, rfl, ⟨rfl, ?_⟩⟩⟩)⟩⟩)⟩)))⟩⟩)⟩)))))), fun t1 => ⟨rfl, ?_⟩⟩⟩⟩)⟩⟩)⟩)))⟩⟩)⟩)))))))) (fun hb => ?_) (fun hb => ?_)
  · exact hb0.le (by decide)
  · exact hp.le (by decide)
  · exact hq.le (by decide)
  · exact ha.le (by decide)
  · rw [t1, Bool.false_or]
  · rw [t1, Bool.true_or]
  · refine b_ret (x_non (.inl ?_))
    unfold twoSt
    rw [if_pos hb]
    rfl
  have hn := hb
  refine b_nil ?_
  refine b_set 2 hN (x_ix (x_var 0 rfl (⟨rfl, x_int (⟨_, _, _, rfl, rfl, rfl, ⟨rfl, ?_⟩⟩)⟩)))
  have fin : twoSt a b p q = some (.st (if before p a then p else a) (if before b q then q else b)) := by
    unfold twoSt
    rw [if_neg (by rw [hn]; decide)]
  refine b_if (t_val (x_call G_before hr (a_cons (x_ix (x_var 1 rfl (⟨rfl, x_int (⟨_, _, _, rfl, rfl, rfl, ⟨rfl, a_cons (x_var 2 rfl (⟨rfl, a_nil (⟨_, ⟨_, _, rfl, rfl, ?_, ?_⟩, ⟨_, rfl, ⟨fun hb => ?_, fun hb => ?_⟩⟩⟩)⟩))⟩⟩)⟩))))))
  · exact hp.le (by decide)
  · exact ha.le (by decide)
  · have e1 := hb
    refine b_set 2 hN (x_ix (x_var 1 rfl (⟨rfl, x_int (⟨_, _, _, rfl, rfl, rfl, ⟨rfl, ?_⟩⟩)⟩)))
    refine b_nil ?_
    refine b_set 3 hN (x_ix (x_var 0 rfl (⟨rfl, x_int (⟨_, _, _, rfl, rfl, rfl, ⟨rfl, ?_⟩⟩)⟩)))
    refine b_if (t_val (x_call G_before hr (a_cons (x_var 3 rfl (⟨rfl, a_cons (x_ix (x_var 1 rfl (⟨rfl, x_int (⟨_, _, _, rfl, rfl, rfl, ⟨rfl, a_nil (⟨_, ⟨_, _, rfl, rfl, ?_, ?_⟩, ⟨_, rfl, ⟨fun hb => ?_, fun hb => ?_⟩⟩⟩)⟩⟩)⟩)))⟩)))))
    · exact hb0.le (by decide)
    · exact hq.le (by decide)
    · refine b_set 3 hN (x_ix (x_var 1 rfl (⟨rfl, x_int (⟨_, _, _, rfl, rfl, rfl, ⟨rfl, ?_⟩⟩)⟩)))
      refine b_nil ?_
      refine b_ret (x_tup (a_cons (x_str (⟨rfl, a_cons (x_var 2 rfl (⟨rfl, a_cons (x_var 3 rfl (⟨rfl, a_nil (⟨[_, _, _], rfl, Nat.le_of_ble_eq_true rfl, .inl ?_⟩)⟩))⟩))⟩))))
      rw [fin, if_pos e1, if_pos hb]
      rfl
    · refine b_nil ?_
      refine b_ret (x_tup (a_cons (x_str (⟨rfl, a_cons (x_var 2 rfl (⟨rfl, a_cons (x_var 3 rfl (⟨rfl, a_nil (⟨[_, _, _], rfl, Nat.le_of_ble_eq_true rfl, .inl ?_⟩)⟩))⟩))⟩))))
      rw [fin, if_pos e1, if_neg (by rw [hb]; decide)]
      rfl
  · have e1 := hb
    refine b_nil ?_
    refine b_set 3 hN (x_ix (x_var 0 rfl (⟨rfl, x_int (⟨_, _, _, rfl, rfl, rfl, ⟨rfl, ?_⟩⟩)⟩)))
    refine b_if (t_val (x_call G_before hr (a_cons (x_var 3 rfl (⟨rfl, a_cons (x_ix (x_var 1 rfl (⟨rfl, x_int (⟨_, _, _, rfl, rfl, rfl, ⟨rfl, a_nil (⟨_, ⟨_, _, rfl, rfl, ?_, ?_⟩, ⟨_, rfl, ⟨fun hb => ?_, fun hb => ?_⟩⟩⟩)⟩⟩)⟩)))⟩)))))
    · exact hb0.le (by decide)
    · exact hq.le (by decide)
    · refine b_set 3 hN (x_ix (x_var 1 rfl (⟨rfl, x_int (⟨_, _, _, rfl, rfl, rfl, ⟨rfl, ?_⟩⟩)⟩)))
      refine b_nil ?_
      refine b_ret (x_tup (a_cons (x_str (⟨rfl, a_cons (x_var 2 rfl (⟨rfl, a_cons (x_var 3 rfl (⟨rfl, a_nil (⟨[_, _, _], rfl, Nat.le_of_ble_eq_true rfl, .inl ?_⟩)⟩))⟩))⟩))))
      rw [fin, if_neg (by rw [e1]; decide), if_pos hb]
      rfl
    · refine b_nil ?_
      refine b_ret (x_tup (a_cons (x_str (⟨rfl, a_cons (x_var 2 rfl (⟨rfl, a_cons (x_var 3 rfl (⟨rfl, a_nil (⟨[_, _, _], rfl, Nat.le_of_ble_eq_true rfl, .inl ?_⟩)⟩))⟩))⟩))))
      rw [fin, if_neg (by rw [e1]; decide), if_neg (by rw [hb]; decide)]
      rfl
theorem c_two_arcs (F : Fd K "two_arcs" 36 kws f fd) (hm : mg "two_arcs" = some (.ref f))
    (G_on : Callee P w K mg base "on" 7 [("piece" : Str), ("p" : Str)] (spD K R_on))
    (G_ahead : Callee P w K mg base "ahead" 6 [("c" : Str), ("a" : Str), ("p" : Str), ("q" : Str)] (spD K R_ahead)) :
    Callee P w K mg base "two_arcs" 8 [("one" : Str), ("other" : Str)] (spD K R_two_arcs) := by
  refine mk_d (N := [("one" : Str), ("other" : Str), ("c" : Str), ("a" : Str), ("b" : Str), ("p" : Str), ("q" : Str)]) F hm (C8.fnScope_by (by kernel_rfl)) (fun _ _ _ _ _ _ us h => match us, h with | [a, b], _ => rfl) (fun es r hR => by obtain ⟨_, _, _, _, _, _, h, _⟩ := hR; rw [h]; rfl) fun cdv A outer s H E hr es r as hR => ?_
  have hN : ([("one" : Str), ("other" : Str), ("c" : Str), ("a" : Str), ("b" : Str), ("p" : Str), ("q" : Str)] : List Str).Nodup := by decide
  obtain ⟨c, a, b, c', p, q, rfl, rfl, rfl, h1, h2⟩ := hR
  obtain ⟨hc, ha, hb0⟩ := h1
  obtain ⟨_, hp, hq⟩ := h2
  have k1 : PcB 900 (.arc c' a b) := ⟨hc.le (by decide), ha.le (by decide), hb0.le (by decide)⟩
  have k2 : PcB 900 (.arc c' p q) := ⟨hc.le (by decide), hp.le (by decide), hq.le (by decide)⟩
  refine b_asg (x_sliceT (some 1) none (x_var 0 rfl (⟨_, rfl, ⟨_, _, _, rfl, g_tup3 2 3 4 rfl hN, ?_⟩⟩)))
  refine b_asg (x_sliceT (some 2) none (x_var 1 rfl (⟨_, rfl, ⟨_, _, _, rfl, g_tup2 5 6 rfl hN, ?_⟩⟩)))
  refine b_ifB (on (.arc c' a b) p && on (.arc c' a b) q) (t_w (w_and (t_val (x_call G_on hr (a_cons (x_var 0 rfl (⟨rfl, a_cons (x_var 5 rfl (⟨rfl, a_nil (⟨_, ⟨_, _, rfl, rfl, ?_, ?_⟩, ⟨_, rfl, ⟨fun t1 => w_and1 (t_val (x_call G_on hr (a_cons (x_var 0 rfl (⟨rfl, a_cons (x_var 6 rfl (⟨rfl, a_nil (⟨_, ⟨_, _, rfl, rfl, ?_, ?_⟩, ⟨_, rfl, ⟨rfl, ?_⟩⟩⟩)⟩))⟩))))), fun t1 => ⟨rfl, ?_⟩⟩⟩⟩)⟩))⟩))))))) (fun hb => ?_) (fun hb => ?_)
  · exact k1
  · exact hp.le (by decide)
  · exact k1
  · exact hq.le (by decide)
  · rw [t1, Bool.true_and]
  · rw [t1, Bool.false_and]
  · have e0 := hb
    refine b_if (t_val (x_call G_ahead hr (a_cons (x_var 2 rfl (⟨rfl, a_cons (x_var 3 rfl (⟨rfl, a_cons (x_var 5 rfl (⟨rfl, a_cons (x_var 6 rfl (⟨rfl, a_nil (⟨_, ⟨_, _, _, _, rfl, rfl, ?_, ?_, ?_, ?_⟩, ⟨_, rfl, ⟨fun hb => ?_, fun hb => ?_⟩⟩⟩)⟩))⟩))⟩))⟩)))))
    · exact hc.le (by decide)
    · exact ha.le (by decide)
    · exact hp.le (by decide)
    · exact hq.le (by decide)
    · refine b_ret (x_var 0 rfl (.inl ?_))
      unfold twoArc
      rw [if_pos e0, if_pos hb]
      rfl
    · refine b_nil ?_
      refine b_ret (x_tup (a_cons (x_str (⟨rfl, a_cons (x_var 2 rfl (⟨rfl, a_cons (x_var 3 rfl (⟨rfl, a_nil (⟨[_, _, _], rfl, Nat.le_of_ble_eq_true rfl, .inl ?_⟩)⟩))⟩))⟩))))
      unfold twoArc
      rw [if_pos e0, if_neg (by rw [hb]; decide)]
      rfl
  have e0 := hb
  refine b_nil ?_
  refine b_if (t_val (x_call G_on hr (a_cons (x_var 0 rfl (⟨rfl, a_cons (x_var 5 rfl (⟨rfl, a_nil (⟨_, ⟨_, _, rfl, rfl, ?_, ?_⟩, ⟨_, rfl, ⟨fun hb => ?_, fun hb => ?_⟩⟩⟩)⟩))⟩)))))
  · exact k1
  · exact hp.le (by decide)
  · refine b_ret (x_tup (a_cons (x_str (⟨rfl, a_cons (x_var 2 rfl (⟨rfl, a_cons (x_var 3 rfl (⟨rfl, a_cons (x_var 6 rfl (⟨rfl, a_nil (⟨[_, _, _, _], rfl, Nat.le_of_ble_eq_true rfl, .inl ?_⟩)⟩))⟩))⟩))⟩))))
    unfold twoArc
    rw [if_neg (by rw [e0]; decide), if_pos hb]
    rfl
  have e1 := hb
  refine b_nil ?_
  refine b_if (t_val (x_call G_on hr (a_cons (x_var 0 rfl (⟨rfl, a_cons (x_var 6 rfl (⟨rfl, a_nil (⟨_, ⟨_, _, rfl, rfl, ?_, ?_⟩, ⟨_, rfl, ⟨fun hb => ?_, fun hb => ?_⟩⟩⟩)⟩))⟩)))))
  · exact k1
  · exact hq.le (by decide)
  · refine b_ret (x_tup (a_cons (x_str (⟨rfl, a_cons (x_var 2 rfl (⟨rfl, a_cons (x_var 5 rfl (⟨rfl, a_cons (x_var 4 rfl (⟨rfl, a_nil (⟨[_, _, _, _], rfl, Nat.le_of_ble_eq_true rfl, .inl ?_⟩)⟩))⟩))⟩))⟩))))
    unfold twoArc
    rw [if_neg (by rw [e0]; decide), if_neg (by rw [e1]; decide), if_pos hb]
    rfl
  have e2 := hb
  refine b_nil ?_
  refine b_if (t_val (x_call G_on hr (a_cons (x_var 1 rfl (⟨rfl, a_cons (x_var 3 rfl (⟨rfl, a_nil (⟨_, ⟨_, _, rfl, rfl, ?_, ?_⟩, ⟨_, rfl, ⟨fun hb => ?_, fun hb => ?_⟩⟩⟩)⟩))⟩)))))
  · exact k2
  · exact ha.le (by decide)
  · refine b_ret (x_var 1 rfl (.inl ?_))
    unfold twoArc
    rw [if_neg (by rw [e0]; decide), if_neg (by rw [e1]; decide), if_neg (by rw [e2]; decide), if_pos hb]
    rfl
  refine b_nil ?_
  refine b_ret (x_non (.inl ?_))
  unfold twoArc
  rw [if_neg (by rw [e0]; decide), if_neg (by rw [e1]; decide), if_neg (by rw [e2]; decide), if_neg (by rw [hb]; decide)]
  rfl
theorem c_bare (F : Fd K "bare" 40 kws f fd) (hm : mg "bare" = some (.ref f))
    (G_far : Callee P w K mg base "far" 5 [("p" : Str), ("q" : Str)] (spD K R_far)) :
    Callee P w K mg base "bare" 6 [("piece" : Str)] (spD K R_bare) := by
  refine mk_d (N := [("piece" : Str)]) F hm (C8.fnScope_by (by kernel_rfl)) (fun _ _ _ _ _ _ us h => match us, h with | [a], _ => rfl) (fun es r hR => by obtain ⟨_, h, _⟩ := hR; rw [h]; rfl) fun cdv A outer s H E hr es r as hR => ?_
  have hN : ([("piece" : Str)] : List Str).Nodup := by decide
  obtain ⟨x, rfl, rfl, h1⟩ := hR
  cases x with
  | ring c p =>
    refine b_if (t_eq hr (x_ix (x_var 0 rfl (⟨rfl, x_int (⟨_, _, _, rfl, rfl, rfl, ⟨rfl, x_str (⟨(by trivial), (by trivial), _, rfl, ⟨fun hb => ?_, fun hb => ?_⟩⟩)⟩⟩)⟩))))
    · refine b_ret (x_tup (a_cons (x_str (⟨rfl, a_cons (x_ix (x_var 0 rfl (⟨rfl, x_int (⟨_, _, _, rfl, rfl, rfl, ⟨rfl, a_cons (x_call G_far hr (a_cons (x_ix (x_var 0 rfl (⟨rfl, x_int (⟨_, _, _, rfl, rfl, rfl, ⟨rfl, a_cons (x_ix (x_var 0 rfl (⟨rfl, x_int (⟨_, _, _, rfl, rfl, rfl, ⟨rfl, a_nil (⟨_, ⟨_, _, rfl, rfl, ?_, ?_⟩, ⟨rfl, a_nil (⟨[_, _, _], rfl, Nat.le_of_ble_eq_true rfl, .inl ?_⟩)⟩⟩)⟩⟩)⟩)))⟩⟩)⟩)))))⟩⟩)⟩)))⟩))))
      · exact h1.1.le (by decide)
      · exact h1.2.le (by decide)
      · rfl
    · exact absurd (eqS hb) (by decide)
  | dot q =>
    refine b_if (t_eq hr (x_ix (x_var 0 rfl (⟨rfl, x_int (⟨_, _, _, rfl, rfl, rfl, ⟨rfl, x_str (⟨(by trivial), (by trivial), _, rfl, ⟨fun hb => ?_, fun hb => ?_⟩⟩)⟩⟩)⟩))))
    · exact absurd (eqS hb) (by decide)
    refine b_nil ?_
    refine b_ret (x_var 0 rfl (.inl ?_))
    rfl
  | st p q =>
    refine b_if (t_eq hr (x_ix (x_var 0 rfl (⟨rfl, x_int (⟨_, _, _, rfl, rfl, rfl, ⟨rfl, x_str (⟨(by trivial), (by trivial), _, rfl, ⟨fun hb => ?_, fun hb => ?_⟩⟩)⟩⟩)⟩))))
    · exact absurd (eqS hb) (by decide)
    refine b_nil ?_
    refine b_ret (x_var 0 rfl (.inl ?_))
    rfl
  | arc c p q =>
    refine b_if (t_eq hr (x_ix (x_var 0 rfl (⟨rfl, x_int (⟨_, _, _, rfl, rfl, rfl, ⟨rfl, x_str (⟨(by trivial), (by trivial), _, rfl, ⟨fun hb => ?_, fun hb => ?_⟩⟩)⟩⟩)⟩))))
    · exact absurd (eqS hb) (by decide)
    refine b_nil ?_
    refine b_ret (x_var 0 rfl (.inl ?_))
    rfl

end
end AW
set_option Elab.async false
set_option linter.all false
set_option maxRecDepth 100000
set_option maxHeartbeats 2000000
namespace AW
open PySem PySem.Spec PyProof.Rows L2 L3 AM
local macro_rules | `(tactic| trivial) => `(tactic| first | exact (shp_pD _).ok | exact (shp_fD _).ok | exact (shp_kD _).ok | exact (shp_xD _).ok | exact shp_keyE _ | exact shp_keyE _ | exact shp_s1.ok | exact shp_s2.ok | exact shp_s3.ok | exact shp_s4.ok | exact shp_s5.ok | exact shp_s6.ok | exact (shp_int 0 _).ok)
section
variable {w : World} {K : PySem.W.Frag} {mg : Str → Option Value} {base : Heap} {kws : List (Str × V)} {f : Addr} {fd : FuncData} {P : Program}
theorem c_at_share (F : Fd K "at_share" 30 kws f fd) (hm : mg "at_share" = some (.ref f))
    (G_times : Callee P w K mg base "times" 3 [("one" : Str), ("other" : Str)] (spD K R_times))
    (G_plus : Callee P w K mg base "plus" 3 [("one" : Str), ("other" : Str)] (spD K R_plus))
    (G_over : Callee P w K mg base "over" 3 [("one" : Str), ("other" : Str)] (spD K R_over))
    (G_off : Callee P w K mg base "off" 4 [("p" : Str), ("q" : Str)] (spD K R_off))
    (G_together : Callee P w K mg base "together" 4 [("p" : Str), ("q" : Str)] (spD K R_together))
    (G_minus : Callee P w K mg base "minus" 3 [("one" : Str), ("other" : Str)] (spD K R_minus)) :
    Callee P w K mg base "at_share" 5 [("c" : Str), ("a" : Str), ("t" : Str)] (spD K R_at_share) := by
  refine mk_d (N := [("c" : Str), ("a" : Str), ("t" : Str), ("square" : Str), ("whole" : Str), ("u" : Str), ("v" : Str), ("x" : Str), ("y" : Str)]) F hm (C8.fnScope_by (by kernel_rfl)) (fun _ _ _ _ _ _ us h => match us, h with | [a, b, c], _ => rfl) (fun es r hR => by obtain ⟨_, _, _, h, _⟩ := hR; rw [h]; rfl) fun cdv A outer s H E hr es r as hR => ?_
  have hN : ([("c" : Str), ("a" : Str), ("t" : Str), ("square" : Str), ("whole" : Str), ("u" : Str), ("v" : Str), ("x" : Str), ("y" : Str)] : List Str).Nodup := by decide
  obtain ⟨c, a, t, rfl, rfl, h1, h2, h3⟩ := hR
  have hn : 1 + t * t ≠ 0 := by
    have := sq_nn t
    grind
  have b1 : Bd 1 (1 : Rat) := ⟨by decide, by decide⟩
  have bs : Bd 40 (t * t) := h3.mul h3
  have bw : Bd 42 (1 + t * t) := b1.add bs
  have bm : Bd 42 (1 - t * t) := b1.sub bs
  have bu : Bd 84 ((1 - t * t) / (1 + t * t)) := bm.quo bw hn
  have bt : Bd 41 (t + t) := h3.add h3
  have bv : Bd 84 ((t + t) / (1 + t * t)) := (bt.quo bw hn).le (by decide)
  have bo : BdP 401 (off a c) := h2.off h1
  refine b_set 3 hN (x_call G_times hr (a_cons (x_var 2 rfl (⟨rfl, a_cons (x_var 2 rfl (⟨rfl, a_nil (⟨_, ⟨_, _, rfl, rfl, ?_, ?_⟩, ⟨rfl, ?_⟩⟩)⟩))⟩))))
  · exact h3.le (by decide)
  · exact h3.le (by decide)
  refine b_set 4 hN (x_call G_plus hr (a_cons (x_tup (a_cons (x_int (⟨rfl, a_cons (x_int (⟨rfl, a_nil (⟨[_, _], rfl, Nat.le_of_ble_eq_true rfl, ⟨rfl, a_cons (x_var 3 rfl (⟨rfl, a_nil (⟨_, ⟨1, _, rfl, rfl, ?_, ?_⟩, ⟨rfl, ?_⟩⟩)⟩))⟩⟩)⟩))⟩))))))
  · exact b1.le (by decide)
  · exact bs.le (by decide)
  refine b_set 5 hN (x_call G_over hr (a_cons (x_call G_minus hr (a_cons (x_tup (a_cons (x_int (⟨rfl, a_cons (x_int (⟨rfl, a_nil (⟨[_, _], rfl, Nat.le_of_ble_eq_true rfl, ⟨rfl, a_cons (x_var 3 rfl (⟨rfl, a_nil (⟨_, ⟨1, _, rfl, rfl, ?_, ?_⟩, ⟨rfl, a_cons (x_var 4 rfl (⟨rfl, a_nil (⟨_, ⟨_, _, rfl, rfl, ?_, ?_, ?_⟩, ⟨rfl, ?_⟩⟩)⟩))⟩⟩)⟩))⟩⟩)⟩))⟩))))))))
  · exact b1.le (by decide)
  · exact bs.le (by decide)
  · exact bm.le (by decide)
  · exact bw.le (by decide)
  · exact hn
  refine b_set 6 hN (x_call G_over hr (a_cons (x_call G_plus hr (a_cons (x_var 2 rfl (⟨rfl, a_cons (x_var 2 rfl (⟨rfl, a_nil (⟨_, ⟨_, _, rfl, rfl, ?_, ?_⟩, ⟨rfl, a_cons (x_var 4 rfl (⟨rfl, a_nil (⟨_, ⟨_, _, rfl, rfl, ?_, ?_, ?_⟩, ⟨rfl, ?_⟩⟩)⟩))⟩⟩)⟩))⟩))))))
  · exact h3.le (by decide)
  · exact h3.le (by decide)
  · exact bt.le (by decide)
  · exact bw.le (by decide)
  · exact hn
  refine b_asg (x_call G_off hr (a_cons (x_var 1 rfl (⟨rfl, a_cons (x_var 0 rfl (⟨rfl, a_nil (⟨_, ⟨_, _, rfl, rfl, ?_, ?_⟩, ⟨_, _, _, rfl, g_tup2 7 8 rfl hN, ?_⟩⟩)⟩))⟩))))
  · exact h2.le (by decide)
  · exact h1.le (by decide)
  obtain ⟨u, hu⟩ : ∃ u, u = (1 - t * t) / (1 + t * t) := ⟨_, rfl⟩
  obtain ⟨v, hv⟩ : ∃ v, v = (t + t) / (1 + t * t) := ⟨_, rfl⟩
  have eS : atShare c a t = tog c (u * (off a c).1 - v * (off a c).2, v * (off a c).1 + u * (off a c).2) := by rw [hu, hv]; rfl
  rw [eS]
  show XB _ _ _ _ _ [some (.d (pD c)), some (.d (pD a)), some (.d (fD t)), some (.d (fD (t * t))), some (.d (fD (1 + t * t))), some (.d (fD ((1 - t * t) / (1 + t * t)))), some (.d (fD ((t + t) / (1 + t * t)))), some (.d (fD (off a c).1)), some (.d (fD (off a c).2))] _
  rw [← hu, ← hv]
  rw [← hu] at bu
  rw [← hv] at bv
  clear hu hv
  have m1 := bu.mul bo.1
  have m2 := bv.mul bo.2
  have m3 := bv.mul bo.1
  have m4 := bu.mul bo.2
  refine b_ret (x_call G_together hr (a_cons (x_var 0 rfl (⟨rfl, a_cons (x_tup (a_cons (x_call G_minus hr (a_cons (x_call G_times hr (a_cons (x_var 5 rfl (⟨rfl, a_cons (x_var 7 rfl (⟨rfl, a_nil (⟨_, ⟨_, _, rfl, rfl, ?_, ?_⟩, ⟨rfl, a_cons (x_call G_times hr (a_cons (x_var 6 rfl (⟨rfl, a_cons (x_var 8 rfl (⟨rfl, a_nil (⟨_, ⟨_, _, rfl, rfl, ?_, ?_⟩, ⟨rfl, a_nil (⟨_, ⟨_, _, rfl, rfl, ?_, ?_⟩, ⟨rfl, a_cons (x_call G_plus hr (a_cons (x_call G_times hr (a_cons (x_var 6 rfl (⟨rfl, a_cons (x_var 7 rfl (⟨rfl, a_nil (⟨_, ⟨_, _, rfl, rfl, ?_, ?_⟩, ⟨rfl, a_cons (x_call G_times hr (a_cons (x_var 5 rfl (⟨rfl, a_cons (x_var 8 rfl (⟨rfl, a_nil (⟨_, ⟨_, _, rfl, rfl, ?_, ?_⟩, ⟨rfl, a_nil (⟨_, ⟨_, _, rfl, rfl, ?_, ?_⟩, ⟨rfl, a_nil (⟨[_, _], rfl, Nat.le_of_ble_eq_true rfl, ⟨rfl, a_nil (⟨_, ⟨_, (u * (off a c).1 - v * (off a c).2, v * (off a c).1 + u * (off a c).2), rfl, rfl, ?_, ?_⟩, .inl ?_⟩)⟩⟩)⟩⟩)⟩⟩)⟩))⟩))))⟩⟩)⟩))⟩))))))⟩⟩)⟩⟩)⟩))⟩))))⟩⟩)⟩))⟩))))))))⟩))))
  · exact bu.le (by decide)
  · exact bo.1.le (by decide)
  · exact bv.le (by decide)
  · exact bo.2.le (by decide)
  · exact m1.le (by decide)
  · exact m2.le (by decide)
  · exact bv.le (by decide)
  · exact bo.1.le (by decide)
  · exact bu.le (by decide)
  · exact bo.2.le (by decide)
  · exact m3.le (by decide)
  · exact m4.le (by decide)
  · exact h1.le (by decide)
  · exact ⟨(m1.sub m2).le (by decide), (m3.add m4).le (by decide)⟩
  · rfl
theorem c_quarters (F : Fd K "quarters" 31 kws f fd) (hm : mg "quarters" = some (.ref f))
    (G_off : Callee P w K mg base "off" 4 [("p" : Str), ("q" : Str)] (spD K R_off)) (hrange : mg "range" = none)
    (G_together : Callee P w K mg base "together" 4 [("p" : Str), ("q" : Str)] (spD K R_together))
    (G_turned : Callee P w K mg base "turned" 1 [("p" : Str), ("quarters" : Str)] (spD K R_turned))
    (G_ahead : Callee P w K mg base "ahead" 6 [("c" : Str), ("a" : Str), ("p" : Str), ("q" : Str)] (spD K R_ahead)) :
    Callee P w K mg base "quarters" 7 [("piece" : Str)] (spD K R_quarters) := by
  refine mk_d (N := [("piece" : Str), ("c" : Str), ("start" : Str), ("found" : Str), ("turn" : Str), ("p" : Str)]) F hm (C8.fnScope_by (by kernel_rfl)) (fun _ _ _ _ _ _ us h => match us, h with | [a], _ => rfl) (fun es r hR => by obtain ⟨_, h, _⟩ := hR; rw [h]; rfl) fun cdv A outer s H E hr es r as hR => ?_
  have hN : ([("piece" : Str), ("c" : Str), ("start" : Str), ("found" : Str), ("turn" : Str), ("p" : Str)] : List Str).Nodup := by decide
  obtain ⟨x, rfl, rfl, h1, h2⟩ := hR
  have tk : ∀ (v : Pt) (k : Nat), Nat.repeat turn1 (k + 1) v = turn1 (Nat.repeat turn1 k v) := fun _ _ => rfl
  have step : ∀ (c p : Pt) (f : Pt → Bool) (k : Nat), k < 3 → ((turns c p).take (k + 1)).filter f = ((turns c p).take k).filter f ++ (if f (tog c (Nat.repeat turn1 (k + 1) (off p c))) then [tog c (Nat.repeat turn1 (k + 1) (off p c))] else []) := by
    intro c p f k hk
    have e : (turns c p).take (k + 1) = (turns c p).take k ++ [tog c (Nat.repeat turn1 (k + 1) (off p c))] := by
      rcases k with _ | _ | _ | k
      · rfl
      · rfl
      · rfl
      · omega
    rw [e, List.filter_append]
    congr 1
    simp only [List.filter_cons, List.filter_nil]
  have bt : ∀ (n : Nat) (v : Pt) (k : Nat), BdP n v → BdP n (Nat.repeat turn1 k v) := by
    intro n v k hv
    induction k with
    | zero => exact hv
    | succ k ih =>
      rw [tk]
      refine ⟨⟨?_, ?_⟩, ih.1⟩
      · show (-(Nat.repeat turn1 k v).2).num.natAbs < _
        rw [Rat.neg_num, Int.natAbs_neg]
        exact ih.2.1
      · show (-(Nat.repeat turn1 k v).2).den < _
        rw [Rat.neg_den]
        exact ih.2.2
  cases x with
  | dot q => cases h2
  | st p q => cases h2
  | arc c p q =>
    obtain ⟨hc, hp, hq⟩ := h1
    have hs : BdP 401 (off p c) := hp.off hc
    refine b_set 1 hN (x_ix (x_var 0 rfl (⟨rfl, x_int (⟨_, _, _, rfl, rfl, rfl, ⟨rfl, ?_⟩⟩)⟩)))
    refine b_set 2 hN (x_call G_off hr (a_cons (x_ix (x_var 0 rfl (⟨rfl, x_int (⟨_, _, _, rfl, rfl, rfl, ⟨rfl, a_cons (x_var 1 rfl (⟨rfl, a_nil (⟨_, ⟨_, _, rfl, rfl, ?_, ?_⟩, ⟨rfl, ?_⟩⟩)⟩))⟩⟩)⟩)))))
    · exact hp.le (by decide)
    · exact hc.le (by decide)
    refine b_setN 3 hN (x_lst (a_cons (x_ix (x_var 0 rfl (⟨rfl, x_int (⟨_, _, _, rfl, rfl, rfl, ⟨rfl, a_nil (⟨[_], rfl, Nat.le_of_ble_eq_true rfl, ⟨_, rfl, fun a ha hnew haW => b_wide (i := 3) rfl ha ?_⟩⟩)⟩⟩)⟩)))))
    refine b_for rfl (i_rng2 hrange (a_cons (x_int ⟨rfl, a_cons (x_int ⟨rfl, a_nil ⟨_, _, rfl, by decide, fun k Γ => ∃ t m, Γ = [some (.d (xD (.arc c p q))), some (.d (pD c)), some (.d (pD (off p c))), some (.w a ((p :: ((turns c p).take k).filter fun x => AM.ahead c p x q).map pD)), t, m], ⟨_, _, rfl⟩, fun _ _ _ => trivial, fun k d Γ2 hk hI => ?_, fun Γ2 hI => ?_⟩⟩)⟩)))
    · obtain ⟨t, m, rfl⟩ := hI
      obtain ⟨hk3, hd⟩ := rng_get hk
      have hk3 : k < 3 := by simpa using hk3
      have hd : d = .int ((k + 1 : Nat) : Int) := by rw [hd]; congr 1; omega
      subst hd
      refine ⟨_, _, g_name 4 hN, fun B' hB => ?_⟩
      have br := bt 401 (off p c) (k + 1) hs
      have bm : BdP 602 (tog c (Nat.repeat turn1 (k + 1) (off p c))) := hc.tog br
      refine b_set 5 hN (x_call G_together hr (a_cons (x_var 1 rfl (⟨rfl, a_cons (x_call G_turned hr (a_cons (x_var 2 rfl (⟨rfl, a_cons (x_var 4 rfl (⟨rfl, a_nil (⟨_, ⟨_, _, rfl, rfl, ?_⟩, ⟨rfl, a_nil (⟨_, ⟨_, _, rfl, rfl, ?_, ?_⟩, ⟨rfl, ?_⟩⟩)⟩⟩)⟩))⟩))))⟩))))
      · omega
      · exact hc.le (by decide)
      · exact br.le (by decide)
      refine b_ifB (AM.ahead c p (tog c (Nat.repeat turn1 (k + 1) (off p c))) q) (t_w (w_or (t_eq hr (x_ix (x_var 0 rfl (⟨rfl, x_int (⟨_, _, _, rfl, rfl, rfl, ⟨rfl, x_str (⟨(by trivial), (by trivial), _, rfl, ⟨fun t1 => w_or1 (t_val (x_call G_ahead hr (a_cons (x_var 1 rfl (⟨rfl, a_cons (x_ix (x_var 0 rfl (⟨rfl, x_int (⟨_, _, _, rfl, rfl, rfl, ⟨rfl, a_cons (x_var 5 rfl (⟨rfl, a_cons (x_ix (x_var 0 rfl (⟨rfl, x_int (⟨_, _, _, rfl, rfl, rfl, ⟨rfl, a_nil (⟨_, ⟨_, _, _, _, rfl, rfl, ?_, ?_, ?_, ?_⟩, ⟨_, rfl, ⟨rfl, ?_⟩⟩⟩)⟩⟩)⟩)))⟩))⟩⟩)⟩)))⟩))))), fun t1 => ⟨rfl, ?_⟩⟩⟩)⟩⟩)⟩)))))) (fun hb => ?_) (fun hb => ?_)
      · exact hc.le (by decide)
      · exact hp.le (by decide)
      · exact bm.le (by decide)
      · exact hq.le (by decide)
      · rfl
      · exact absurd (eqS t1) (by decide)
      · refine b_append 3 rfl rfl (x_var 5 rfl (⟨_, _, _, rfl, alone_of (by repeat' (first | exact True.intro | apply And.intro)), List.mem_singleton_self _, rfl, ?_, ?_⟩))
        · rw [List.length_map, List.length_cons]
          have : (((turns c p).take k).filter fun x => AM.ahead c p x q).length ≤ 3 := Nat.le_trans (List.length_filter_le ..) (by rw [List.length_take]; exact Nat.min_le_right _ _)
          omega
        · refine b_nil (b_nil ⟨some (.d (.int ((k + 1 : Nat) : Int))), some (.d (pD (tog c (Nat.repeat turn1 (k + 1) (off p c))))), ?_⟩)
          rw [step c p (fun x => AM.ahead c p x q) k hk3, if_pos hb, ← List.cons_append, List.map_append]
          rfl
      · refine b_nil (b_nil ⟨some (.d (.int ((k + 1 : Nat) : Int))), some (.d (pD (tog c (Nat.repeat turn1 (k + 1) (off p c))))), ?_⟩)
        rw [step c p (fun x => AM.ahead c p x q) k hk3, if_neg (by rw [hb]; decide), List.append_nil]
        rfl
    · obtain ⟨t, m, rfl⟩ := hI
      refine b_if (t_eq hr (x_ix (x_var 0 rfl (⟨rfl, x_int (⟨_, _, _, rfl, rfl, rfl, ⟨rfl, x_str (⟨(by trivial), (by trivial), _, rfl, ⟨fun hb => ?_, fun hb => ?_⟩⟩)⟩⟩)⟩))))
      · exact absurd (eqS hb) (by decide)
      refine b_nil ?_
      refine b_ret (x_catV 3 rfl (x_lst (a_cons (x_ix (x_var 0 rfl (⟨rfl, x_int (⟨_, _, _, rfl, rfl, rfl, ⟨rfl, a_nil (⟨[_], rfl, Nat.le_of_ble_eq_true rfl, ⟨_, _, _, rfl, rfl, rfl, ?_, .inl ?_⟩⟩)⟩⟩)⟩))))))
      · rw [List.length_map, List.length_cons]
        have : (((turns c p).take (rngD 1 (4 - 1 : Int).toNat).length).filter fun x => AM.ahead c p x q).length ≤ 3 := Nat.le_trans (List.length_filter_le ..) (by rw [List.length_take]; exact Nat.min_le_right _ _)
        simp only [List.length_cons, List.length_nil]
        omega
      · refine congrArg Ent.n ?_
        unfold quartersOf
        rw [List.map_append]
        rfl
  | ring c p =>
    obtain ⟨hc, hp⟩ := h1
    have hs : BdP 401 (off p c) := hp.off hc
    refine b_set 1 hN (x_ix (x_var 0 rfl (⟨rfl, x_int (⟨_, _, _, rfl, rfl, rfl, ⟨rfl, ?_⟩⟩)⟩)))
    refine b_set 2 hN (x_call G_off hr (a_cons (x_ix (x_var 0 rfl (⟨rfl, x_int (⟨_, _, _, rfl, rfl, rfl, ⟨rfl, a_cons (x_var 1 rfl (⟨rfl, a_nil (⟨_, ⟨_, _, rfl, rfl, ?_, ?_⟩, ⟨rfl, ?_⟩⟩)⟩))⟩⟩)⟩)))))
    · exact hp.le (by decide)
    · exact hc.le (by decide)
    refine b_setN 3 hN (x_lst (a_cons (x_ix (x_var 0 rfl (⟨rfl, x_int (⟨_, _, _, rfl, rfl, rfl, ⟨rfl, a_nil (⟨[_], rfl, Nat.le_of_ble_eq_true rfl, ⟨_, rfl, fun a ha hnew haW => b_wide (i := 3) rfl ha ?_⟩⟩)⟩⟩)⟩)))))
    refine b_for rfl (i_rng2 hrange (a_cons (x_int ⟨rfl, a_cons (x_int ⟨rfl, a_nil ⟨_, _, rfl, by decide, fun k Γ => ∃ t m, Γ = [some (.d (xD (.ring c p))), some (.d (pD c)), some (.d (pD (off p c))), some (.w a ((p :: ((turns c p).take k).filter fun _ => true).map pD)), t, m], ⟨_, _, rfl⟩, fun _ _ _ => trivial, fun k d Γ2 hk hI => ?_, fun Γ2 hI => ?_⟩⟩)⟩)))
    · obtain ⟨t, m, rfl⟩ := hI
      obtain ⟨hk3, hd⟩ := rng_get hk
      have hk3 : k < 3 := by simpa using hk3
      have hd : d = .int ((k + 1 : Nat) : Int) := by rw [hd]; congr 1; omega
      subst hd
      refine ⟨_, _, g_name 4 hN, fun B' hB => ?_⟩
      have br := bt 401 (off p c) (k + 1) hs
      refine b_set 5 hN (x_call G_together hr (a_cons (x_var 1 rfl (⟨rfl, a_cons (x_call G_turned hr (a_cons (x_var 2 rfl (⟨rfl, a_cons (x_var 4 rfl (⟨rfl, a_nil (⟨_, ⟨_, _, rfl, rfl, ?_⟩, ⟨rfl, a_nil (⟨_, ⟨_, _, rfl, rfl, ?_, ?_⟩, ⟨rfl, ?_⟩⟩)⟩⟩)⟩))⟩))))⟩))))
      · omega
      · exact hc.le (by decide)
      · exact br.le (by decide)
      refine b_ifB true (t_w (w_or (t_eq hr (x_ix (x_var 0 rfl (⟨rfl, x_int (⟨_, _, _, rfl, rfl, rfl, ⟨rfl, x_str (⟨(by trivial), (by trivial), _, rfl, ⟨fun t1 => absurd (eqS t1) (by decide), fun t1 => ⟨rfl, rfl⟩⟩⟩)⟩⟩)⟩)))))) (fun hb => ?_) (fun hb => ?_)
      · refine b_append 3 rfl rfl (x_var 5 rfl (⟨_, _, _, rfl, alone_of (by repeat' (first | exact True.intro | apply And.intro)), List.mem_singleton_self _, rfl, ?_, ?_⟩))
        · rw [List.length_map, List.length_cons]
          have : (((turns c p).take k).filter fun x => true).length ≤ 3 := Nat.le_trans (List.length_filter_le ..) (by rw [List.length_take]; exact Nat.min_le_right _ _)
          omega
        · refine b_nil (b_nil ⟨some (.d (.int ((k + 1 : Nat) : Int))), some (.d (pD (tog c (Nat.repeat turn1 (k + 1) (off p c))))), ?_⟩)
          rw [step c p (fun x => true) k hk3, if_pos rfl, ← List.cons_append, List.map_append]
          rfl
      · cases hb
    · obtain ⟨t, m, rfl⟩ := hI
      refine b_if (t_eq hr (x_ix (x_var 0 rfl (⟨rfl, x_int (⟨_, _, _, rfl, rfl, rfl, ⟨rfl, x_str (⟨(by trivial), (by trivial), _, rfl, ⟨fun hb => ?_, fun hb => ?_⟩⟩)⟩⟩)⟩))))
      · refine b_ret (x_catV 3 rfl (x_lst (a_cons (x_ix (x_var 0 rfl (⟨rfl, x_int (⟨_, _, _, rfl, rfl, rfl, ⟨rfl, a_nil (⟨[_], rfl, Nat.le_of_ble_eq_true rfl, ⟨_, _, _, rfl, rfl, rfl, ?_, .inl ?_⟩⟩)⟩⟩)⟩))))))
        · rw [List.length_map, List.length_cons]
          have : (((turns c p).take (rngD 1 (4 - 1 : Int).toNat).length).filter fun x => true).length ≤ 3 := Nat.le_trans (List.length_filter_le ..) (by rw [List.length_take]; exact Nat.min_le_right _ _)
          simp only [List.length_cons, List.length_nil]
          omega
        · refine congrArg Ent.n ?_
          unfold quartersOf
          rw [List.map_append]
          rfl
      · exact absurd (eqS hb) (by decide)

end
end AW
set_option Elab.async false
set_option linter.all false
set_option maxRecDepth 100000
set_option maxHeartbeats 2000000
namespace AW
open PySem PySem.Spec PyProof.Rows L2 L3 AM
local macro_rules | `(tactic| trivial) => `(tactic| first | exact (shp_pD _).ok | exact (shp_fD _).ok | exact (shp_kD _).ok | exact (shp_xD _).ok | exact shp_keyE _ | exact shp_keyE _ | exact shp_s1.ok | exact shp_s2.ok | exact shp_s3.ok | exact shp_s4.ok | exact shp_s5.ok | exact shp_s6.ok | exact (shp_int 0 _).ok)
section
variable {w : World} {K : PySem.W.Frag} {mg : Str → Option Value} {base : Heap} {kws : List (Str × V)} {f : Addr} {fd : FuncData} {P : Program}
theorem find_skip {x : Pc} : ∀ {l : List Pc} {n : Nat} {y z : Pc}, (∀ w ∈ l.take n, both2 x w = none) → l[n]? = some y → both2 x y = some z → findBoth x l = some (n, z)
  | [], _, _, _, _, h, _ => by simp at h
  | a :: l, 0, y, z, _, h, e => by
    simp at h
    subst h
    unfold findBoth
    rw [e]
  | a :: l, n + 1, y, z, h0, h, e => by
    unfold findBoth
    rw [h0 a (by simp)]
    rw [find_skip (n := n) (fun w hw => h0 w (by simp [hw])) (by simpa using h) e]
    rfl
theorem find_no {x : Pc} : ∀ {l : List Pc}, (∀ w ∈ l, both2 x w = none) → findBoth x l = none
  | [], _ => rfl
  | a :: l, h => by
    unfold findBoth
    rw [h a (by simp), find_no fun w hw => h w (by simp [hw])]
    rfl
theorem put_one {n : Nat} {l : List Pc} {x z : Pc} {i : Nat} (hn : l.length ≤ n) (h : findBoth x l = some (i, z)) (hi : i < l.length) : putInN n l x = putInN (l.eraseIdx i).length (l.eraseIdx i) z := by
  have ext : ∀ (m : Nat) (l : List Pc) (x : Pc), l.length ≤ m → putInN m l x = putInN l.length l x := by
    intro m
    induction m using Nat.strongRecOn with
    | ind m ih =>
      intro l x hl
      cases m with
      | zero =>
        have : l = [] := List.length_eq_zero_iff.mp (by omega)
        subst this
        rfl
      | succ m =>
        cases l with
        | nil => simp [putInN, findBoth]
        | cons a r =>
          simp only [List.length_cons]
          unfold putInN
          cases e : findBoth x (a :: r) with
          | none => rfl
          | some p =>
            obtain ⟨i, z⟩ := p
            simp only
            obtain ⟨y, hy, _⟩ := findBoth_some e
            have hi := (List.getElem?_eq_some_iff.mp hy).1
            have hle : ((a :: r).eraseIdx i).length = r.length := by rw [List.length_eraseIdx_of_lt hi]; simp
            rw [ih m (by omega) _ z (by rw [hle]; simp at hl; omega)]
            by_cases hm : r.length < m + 1
            · rw [ih r.length hm _ z (by rw [hle]; exact Nat.le_refl _)]
            · have : m = r.length := by simp at hl; omega
              subst this
              rw [hle]
  rw [ext n l x hn]
  have hl0 : ∃ m, l.length = m + 1 := ⟨l.length - 1, by omega⟩
  obtain ⟨m, hm⟩ := hl0
  rw [hm]
  conv => lhs; unfold putInN
  rw [h]
  simp only
  exact ext _ _ _ (by rw [List.length_eraseIdx_of_lt hi]; omega)
theorem put_none {n : Nat} {l : List Pc} {x : Pc} (h : findBoth x l = none) : putInN n l x = l ++ [x] := by
  cases n with
  | zero => rfl
  | succ n => unfold putInN; rw [h]
theorem both_bd {k : AM.Key} {x y z : Pc} (hx : Kin k [x, y]) (h : both2 x y = some z) : (PcOk z ∧ AM.keyOf z = some k) ∧ PcB 500 z := by
  obtain ⟨⟨o1, e1⟩, b1⟩ := hx x (by simp)
  obtain ⟨⟨o2, e2⟩, b2⟩ := hx y (by simp)
  obtain ⟨o3, e3, _⟩ := both2_ok o1 o2 e1 e2 h
  refine ⟨⟨o3, e3⟩, ?_⟩
  cases x <;> cases y <;> simp only [both2] at h
  all_goals first
    | (cases h; done)
    | (simp only [Option.some.injEq] at h; subst h; first | exact b1 | exact ⟨b1.1, b1.2.1⟩ | exact ⟨b1.1, b1.2⟩)
    | skip
  · unfold twoSt at h
    split at h
    · cases h
    · simp only [Option.some.injEq] at h
      subst h
      refine ⟨?_, ?_⟩ <;> split <;> first | exact b1.1 | exact b1.2 | exact b2.1 | exact b2.2
  · unfold twoArc at h
    have ec : ∀ {c a b c' p q : Pt}, AM.keyOf (.arc c a b) = some k → AM.keyOf (.arc c' p q) = some k → c' = c := fun h1 h2 => by
      have := h1.trans h2.symm
      simp only [AM.keyOf, Option.some.injEq, Key.circ.injEq] at this
      exact this.1.symm
    split at h
    · split at h
      · cases h; exact b1
      · cases h; exact ⟨b1.1, b1.2.1⟩
    · split at h
      · cases h; exact ⟨b1.1, b1.2.1, b2.2.2⟩
      · split at h
        · cases h; exact ⟨b1.1, b2.2.1, b1.2.2⟩
        · split at h
          · cases h; exact ⟨b1.1, b2.2.1, b2.2.2⟩
          · cases h
theorem c_put_in (F : Fd K "put_in" 37 kws f fd) (hm : mg "put_in" = some (.ref f)) (hlist : mg "list" = none) (hlen : mg "len" = none)
    (G_two_stretches : Callee P w K mg base "two_stretches" 3 [("one" : Str), ("other" : Str)] (spD K R_two_stretches))
    (G_two_arcs : Callee P w K mg base "two_arcs" 8 [("one" : Str), ("other" : Str)] (spD K R_two_arcs)) :
    Callee P w K mg base "put_in" 9 [("some" : Str), ("piece" : Str)] (spD K R_put_in) := by
  refine mk_d (N := [("some" : Str), ("piece" : Str), ("left" : Str), ("at" : Str), ("both" : Str)]) F hm (C8.fnScope_by (by kernel_rfl)) (fun _ _ _ _ _ _ us h => match us, h with | [a, b], _ => rfl) (fun es r hR => by obtain ⟨_, _, _, h, _⟩ := hR; rw [h]; rfl) fun cdv A outer s H E hr es r as hR => ?_
  have hN : ([("some" : Str), ("piece" : Str), ("left" : Str), ("at" : Str), ("both" : Str)] : List Str).Nodup := by decide
  obtain ⟨k, l, x, rfl, rfl, hk, hl⟩ := hR
  refine b_setN 2 hN (x_list hlist (a_consV 0 rfl (a_nil ⟨_, rfl, (fun _ z => nomatch z), _, _, rfl, rfl, _, rfl, fun a ha hnew haW => b_wide (i := 2) rfl ha ?_⟩)))
  have hne : as 0 ≠ a := hnew 0 _ rfl (fun _ z => nomatch z) (fun _ z => nomatch z)
  refine b_set 3 hN (x_int (⟨rfl, ?_⟩))
  refine b_while (fun m Γ => ∃ (L : List Pc) (y : Pc) (t : Nat) (v : Option Ent), m = L.length * 1001 + (L.length - t) ∧ Γ = [some (.w (as 0) (l.map xD)), some (.d (xD y)), some (.w a (L.map xD)), some (.d (.int t)), v] ∧ t ≤ L.length ∧ L.length ≤ 200 ∧ Kin k (y :: L) ∧ putIn l x = putInN L.length L y ∧ ∀ w ∈ L.take t, both2 y w = none) _ ⟨l, x, 0, _, rfl, rfl, Nat.zero_le _, hl, hk, rfl, fun w hw => by simp at hw⟩ fun m Γ hI => ?_
  obtain ⟨L, y, t, v, rfl, rfl, ht, hL, hK, hp, hno⟩ := hI
  refine t_lt (x_var 3 rfl (⟨rfl, x_len hlen (a_consV 2 rfl (a_nil (⟨_, rfl, (fun _ z => nomatch z), ⟨_, _, rfl, rfl, ⟨_, _, rfl, rfl, trivial, _, rfl, ⟨fun hb => ?_, fun hb => ?_⟩⟩⟩⟩)))⟩))
  · have htl : t < L.length := by simpa using hb
    obtain ⟨z, hz⟩ : ∃ z, L[t]? = some z := ⟨L[t], by simp [htl]⟩
    have hzm : z ∈ L := List.mem_of_getElem? hz
    have hK2 : Kin k [y, z] := fun w hw => by
      simp only [List.mem_cons, List.mem_nil_iff, or_false] at hw
      rcases hw with rfl | rfl
      · exact hK w (by simp)
      · exact hK w (by simp [hzm])
    have hat := at_map (e := xD) hz
    refine b_set 4 hN (x_non (⟨rfl, ?_⟩))
    refine b_ifJ (fun Γ => Γ = [some (.w (as 0) (l.map xD)), some (.d (xD y)), some (.w a (L.map xD)), some (.d (.int t)), some (.d (optD (both2 y z)))]) ?_ fun Γ hΓ => ?_
    · obtain ⟨⟨o1, e1⟩, b1⟩ := hK2 y (by simp)
      obtain ⟨⟨o2, e2⟩, b2⟩ := hK2 z (by simp)
      clear hK2 hzm hz hno hp hK
      cases y with
      | dot p => cases e1
      | ring c p =>
        refine (t_w (w_or (t_eq hr (x_ix (x_var 1 rfl (⟨rfl, x_int (⟨_, _, _, rfl, rfl, rfl, ⟨rfl, x_str (⟨(by trivial), (by trivial), _, rfl, ⟨fun t1 => absurd (eqS t1) (by decide), fun t1 => ⟨fun _ => ?_, fun h => nomatch h⟩⟩⟩)⟩⟩)⟩))))))
        refine b_set 4 hN (x_tup (a_cons (x_str (⟨rfl, a_cons (x_ix (x_var 1 rfl (⟨rfl, x_int (⟨_, _, _, rfl, rfl, rfl, ⟨rfl, a_cons (x_ix (x_var 1 rfl (⟨rfl, x_int (⟨_, _, _, rfl, rfl, rfl, ⟨rfl, a_nil (⟨[_, _, _], rfl, Nat.le_of_ble_eq_true rfl, ⟨rfl, ?_⟩⟩)⟩⟩)⟩)))⟩⟩)⟩)))⟩))))
        refine b_nil ?_
        cases z <;> rfl
      | st p q =>
        cases z with
        | dot p => cases e2
        | ring c' p' =>
          exfalso
          have := e1.trans e2.symm
          simp [AM.keyOf] at this
        | arc c' p' q' =>
          exfalso
          have := e1.trans e2.symm
          simp [AM.keyOf] at this
        | st p' q' =>
          refine (t_w (w_or (t_eq hr (x_ix (x_var 1 rfl (⟨rfl, x_int (⟨_, _, _, rfl, rfl, rfl, ⟨rfl, x_str (⟨(by trivial), (by trivial), _, rfl, ⟨fun t1 => w_or1 (t_eq hr (x_ix (x_ixV 2 rfl (x_var 3 rfl (⟨_, _, _, _, rfl, rfl, rfl, hat, ⟨rfl, x_int (⟨_, _, _, rfl, rfl, rfl, ⟨rfl, x_str (⟨(by trivial), (by trivial), _, rfl, ⟨fun t2 => absurd (eqS t2) (by decide), fun t2 => ?_⟩⟩)⟩⟩)⟩⟩))))), fun t1 => absurd (eqS t1) (by decide)⟩⟩)⟩⟩)⟩))))))
          refine b_if (t_eq hr (x_ix (x_var 1 rfl (⟨rfl, x_int (⟨_, _, _, rfl, rfl, rfl, ⟨rfl, x_str (⟨(by trivial), (by trivial), _, rfl, ⟨fun hb => ?_, fun hb => absurd (eqS hb) (by decide)⟩⟩)⟩⟩)⟩))))
          refine b_set 4 hN (x_call G_two_stretches hr (a_cons (x_var 1 rfl (⟨rfl, a_cons (x_ixV 2 rfl (x_var 3 rfl (⟨_, _, _, _, rfl, rfl, rfl, hat, ⟨rfl, a_nil (⟨_, ⟨_, _, _, _, rfl, rfl, ?_, ?_⟩, ⟨rfl, ?_⟩⟩)⟩⟩)))⟩))))
          · exact b1
          · exact b2
          exact b_nil (b_nil rfl)
      | arc c p q =>
        cases z with
        | dot p => cases e2
        | st p' q' =>
          exfalso
          have := e1.trans e2.symm
          simp [AM.keyOf] at this
        | ring c' p' =>
          refine (t_w (w_or (t_eq hr (x_ix (x_var 1 rfl (⟨rfl, x_int (⟨_, _, _, rfl, rfl, rfl, ⟨rfl, x_str (⟨(by trivial), (by trivial), _, rfl, ⟨fun t1 => w_or1 (t_eq hr (x_ix (x_ixV 2 rfl (x_var 3 rfl (⟨_, _, _, _, rfl, rfl, rfl, hat, ⟨rfl, x_int (⟨_, _, _, rfl, rfl, rfl, ⟨rfl, x_str (⟨(by trivial), (by trivial), _, rfl, ⟨fun t2 => ?_, fun t2 => absurd (eqS t2) (by decide)⟩⟩)⟩⟩)⟩⟩))))), fun t1 => absurd (eqS t1) (by decide)⟩⟩)⟩⟩)⟩))))))
          refine b_set 4 hN (x_tup (a_cons (x_str (⟨rfl, a_cons (x_ix (x_var 1 rfl (⟨rfl, x_int (⟨_, _, _, rfl, rfl, rfl, ⟨rfl, a_cons (x_ix (x_var 1 rfl (⟨rfl, x_int (⟨_, _, _, rfl, rfl, rfl, ⟨rfl, a_nil (⟨[_, _, _], rfl, Nat.le_of_ble_eq_true rfl, ⟨rfl, ?_⟩⟩)⟩⟩)⟩)))⟩⟩)⟩)))⟩))))
          exact b_nil rfl
        | arc c' p' q' =>
          refine (t_w (w_or (t_eq hr (x_ix (x_var 1 rfl (⟨rfl, x_int (⟨_, _, _, rfl, rfl, rfl, ⟨rfl, x_str (⟨(by trivial), (by trivial), _, rfl, ⟨fun t1 => w_or1 (t_eq hr (x_ix (x_ixV 2 rfl (x_var 3 rfl (⟨_, _, _, _, rfl, rfl, rfl, hat, ⟨rfl, x_int (⟨_, _, _, rfl, rfl, rfl, ⟨rfl, x_str (⟨(by trivial), (by trivial), _, rfl, ⟨fun t2 => absurd (eqS t2) (by decide), fun t2 => ?_⟩⟩)⟩⟩)⟩⟩))))), fun t1 => absurd (eqS t1) (by decide)⟩⟩)⟩⟩)⟩))))))
          refine b_if (t_eq hr (x_ix (x_var 1 rfl (⟨rfl, x_int (⟨_, _, _, rfl, rfl, rfl, ⟨rfl, x_str (⟨(by trivial), (by trivial), _, rfl, ⟨fun hb => absurd (eqS hb) (by decide), fun hb => ?_⟩⟩)⟩⟩)⟩))))
          refine b_set 4 hN (x_call G_two_arcs hr (a_cons (x_var 1 rfl (⟨rfl, a_cons (x_ixV 2 rfl (x_var 3 rfl (⟨_, _, _, _, rfl, rfl, rfl, hat, ⟨rfl, a_nil (⟨_, ⟨_, _, _, _, _, _, rfl, rfl, ?_, ?_, ?_⟩, ⟨rfl, ?_⟩⟩)⟩⟩)))⟩))))
          · have := e1.trans e2.symm
            simp only [AM.keyOf, Option.some.injEq, Key.circ.injEq] at this
            exact this.1.symm
          · exact b1
          · exact b2
          exact b_nil (b_nil rfl)
    · subst hΓ
      cases hB : both2 y z with
      | none =>
        refine b_if (t_isN (x_var 4 rfl (⟨fun hb => ?_, fun hb => nomatch hb⟩)))
        refine b_set 3 hN (x_add (x_var 3 rfl (⟨rfl, x_int (⟨_, _, rfl, rfl, trivial, ⟨rfl, ?_⟩⟩)⟩)))
        refine b_nil (b_nil ⟨_, ?_, L, y, t + 1, _, rfl, rfl, htl, hL, hK, hp, fun w hw => ?_⟩)
        · omega
        · rw [List.take_add_one, hz] at hw
          simp only [Option.toList_some, List.mem_append, List.mem_singleton] at hw
          rcases hw with hw | rfl
          · exact hno w hw
          · exact hB
      | some u =>
        have hu := both_bd hK2 hB
        have hnN : Ent.isN (.d (xD u)) = false := by cases u <;> rfl
        refine b_if (t_isN (x_var 4 rfl (⟨fun hb => ?_, fun hb => ?_⟩)))
        · have hb : Ent.isN (.d (xD u)) = true := hb
          rw [hnN] at hb
          cases hb
        refine b_set 1 hN (x_var 4 rfl (⟨rfl, ?_⟩))
        refine b_pop 2 rfl rfl (x_var 3 rfl ⟨_, _, _, rfl, alone_of ⟨hne, True.intro, True.intro, True.intro, True.intro⟩, List.mem_singleton_self _, rfl, ?_, ?_, ?_⟩)
        · rw [List.length_map]; exact htl
        · rw [List.length_map]; omega
        refine b_set 3 hN (x_int (⟨rfl, ?_⟩))
        have hel : (L.eraseIdx t).length = L.length - 1 := List.length_eraseIdx_of_lt htl
        have hme : (L.map xD).eraseIdx t = (L.eraseIdx t).map xD := by rw [List.eraseIdx_eq_take_drop_succ, List.eraseIdx_eq_take_drop_succ, List.map_append, List.map_take, List.map_drop]
        refine b_nil (b_nil ⟨_, ?_, L.eraseIdx t, u, 0, _, rfl, by rw [hme]; rfl, Nat.zero_le _, by omega, fun w hw => ?_, ?_, fun w hw => by simp at hw⟩)
        · rw [hel]; omega
        · rcases List.mem_cons.mp hw with rfl | hw
          · exact hu
          · exact hK w (List.mem_cons_of_mem _ (List.mem_of_mem_eraseIdx hw))
        · rw [hp]
          exact put_one (Nat.le_refl _) (find_skip hno hz hB) htl
  · have htl : t = L.length := by
      have : ¬ t < L.length := by simpa using hb
      omega
    refine b_ret (x_catV 2 rfl (x_lst (a_cons (x_var 1 rfl ⟨rfl, a_nil ⟨[_], rfl, Nat.le_of_ble_eq_true rfl, _, _, _, rfl, rfl, rfl, ?_, .inl ?_⟩⟩))))
    · rw [List.length_map]
      simp only [List.length_cons, List.length_nil]
      omega
    · rw [hp, put_none (find_no (by rw [htl, List.take_length] at hno; exact hno)), List.map_append]
      rfl
theorem putN_kin {k : AM.Key} : ∀ (n : Nat) (l : List Pc) (x : Pc), Kin k (x :: l) → Kin k (putInN n l x) ∧ (putInN n l x).length ≤ l.length + 1 ∧ putInN n l x ≠ []
  | 0, l, x, h => by
    refine ⟨fun w hw => h w ?_, by simp [putInN], by simp [putInN]⟩
    simp only [putInN, List.mem_append, List.mem_singleton] at hw
    rcases hw with hw | rfl
    · simp [hw]
    · simp
  | n + 1, l, x, h => by
    unfold putInN
    cases e : findBoth x l with
    | none =>
      refine ⟨fun w hw => h w ?_, by simp, by simp⟩
      simp only [List.mem_append, List.mem_singleton] at hw
      rcases hw with hw | rfl
      · simp [hw]
      · simp
    | some p =>
      obtain ⟨i, z⟩ := p
      obtain ⟨y, hy, hb⟩ := findBoth_some e
      have hi := (List.getElem?_eq_some_iff.mp hy).1
      have hym : y ∈ l := List.mem_of_getElem? hy
      have hz := both_bd (k := k) (x := x) (y := y) (fun w hw => by
        simp only [List.mem_cons, List.mem_nil_iff, or_false] at hw
        rcases hw with rfl | rfl
        · exact h w (by simp)
        · exact h w (by simp [hym])) hb
      obtain ⟨q1, q2, q3⟩ := putN_kin n (l.eraseIdx i) z (fun w hw => by
        rcases List.mem_cons.mp hw with rfl | hw
        · exact hz
        · exact h w (List.mem_cons_of_mem _ (List.mem_of_mem_eraseIdx hw)))
      exact ⟨q1, by rw [List.length_eraseIdx_of_lt hi] at q2; show (putInN n (l.eraseIdx i) z).length ≤ _; omega, q3⟩
theorem putAll_kin {k : AM.Key} {l : List Pc} (h : Kin k l) : ∀ n, n ≤ l.length → Kin k ((l.take n).foldl putIn []) ∧ ((l.take n).foldl putIn []).length ≤ n ∧ (n ≠ 0 → (l.take n).foldl putIn [] ≠ [])
  | 0, _ => ⟨fun w hw => by simp at hw, by simp, fun z => (z rfl).elim⟩
  | n + 1, hn => by
    obtain ⟨a, b, c⟩ := putAll_kin h n (by omega)
    have hx : l[n]? = some l[n] := by simp
    have e : (l.take (n + 1)).foldl putIn [] = putIn ((l.take n).foldl putIn []) l[n] := by
      rw [List.take_add_one, hx, List.foldl_append]
      rfl
    rw [e]
    obtain ⟨q1, q2, q3⟩ := putN_kin (k := k) ((l.take n).foldl putIn []).length ((l.take n).foldl putIn []) l[n] (fun w hw => by
      rcases List.mem_cons.mp hw with rfl | hw
      · exact h _ (List.getElem_mem _)
      · exact a w hw)
    exact ⟨q1, Nat.le_trans q2 (by omega), fun _ => q3⟩
theorem c_joined_on (F : Fd K "joined_on" 38 kws f fd) (hm : mg "joined_on" = some (.ref f))
    (G_put_in : Callee P w K mg base "put_in" 9 [("some" : Str), ("piece" : Str)] (spD K R_put_in)) :
    Callee P w K mg base "joined_on" 10 [("some" : Str)] (spD K R_joined_on) := by
  refine mk_d (N := [("some" : Str), ("found" : Str), ("piece" : Str)]) F hm (C8.fnScope_by (by kernel_rfl)) (fun _ _ _ _ _ _ us h => match us, h with | [a], _ => rfl) (fun es r hR => by obtain ⟨_, _, h, _⟩ := hR; rw [h]; rfl) fun cdv A outer s H E hr es r as hR => ?_
  have hN : ([("some" : Str), ("found" : Str), ("piece" : Str)] : List Str).Nodup := by decide
  obtain ⟨k, l, rfl, rfl, hk, hne, hl⟩ := hR
  refine b_setN 1 hN (x_lst (a_nil ⟨[], rfl, Nat.le_of_ble_eq_true rfl, _, rfl, fun a ha hnew haW => ?_⟩))
  refine b_for rfl (i_var 0 rfl rfl rfl ⟨fun n Γ => ∃ a v, Γ = [some (.w (as 0) (l.map xD)), some (.w a (((l.take n).foldl putIn []).map xD)), v] ∧ H a = none, ⟨a, none, rfl, ha⟩, fun n Γ hI => ?_, fun n d Γ hd hI => ?_, fun Γ hI => ?_⟩)
  · obtain ⟨a, v, rfl, _⟩ := hI
    rfl
  · obtain ⟨a, v, rfl, hB⟩ := hI
    rw [List.getElem?_map] at hd
    obtain ⟨x, hx, rfl⟩ := Option.map_eq_some_iff.mp hd
    have hnl := (List.getElem?_eq_some_iff.mp hx).1
    obtain ⟨q1, q2, _⟩ := putAll_kin hk n (Nat.le_of_lt hnl)
    refine ⟨_, _, g_name 2 hN, fun B' hB' => ?_⟩
    refine b_setN 1 hN (x_call G_put_in hr (a_consV 1 rfl (a_cons (x_var 2 rfl ⟨rfl, a_nil ⟨_, rfl, (fun _ z => nomatch z), _, ⟨k, (l.take n).foldl putIn [], x, rfl, rfl, ?_, ?_⟩, _, rfl, fun a' ha' hnew' haW' => ?_⟩⟩))))
    · intro w hw
      rcases List.mem_cons.mp hw with rfl | hw
      · exact hk _ (List.mem_of_getElem? hx)
      · exact q1 w hw
    · omega
    refine b_nil ⟨a', some (.d (xD x)), ?_, hB' _ ha'⟩
    rw [List.take_add_one, hx, List.foldl_append]
    rfl
  · obtain ⟨a, v, rfl, hB⟩ := hI
    rw [List.length_map, List.take_length] at *
    obtain ⟨q1, q2, q3⟩ := putAll_kin hk l.length (Nat.le_refl _)
    rw [List.take_length] at q1 q2 q3
    have hp : putAll l ≠ [] := q3 (by
      intro z
      exact hne (List.length_eq_zero_iff.mp z))
    have eP : l.foldl putIn [] = putAll l := rfl
    rw [eP] at q1 ⊢
    cases hP : putAll l with
    | nil => exact (hp hP).elim
    | cons f0 fr =>
      rw [hP] at q1
      have e0 := (q1 f0 (by simp)).1.2
      cases l with
      | nil => exact (hne rfl).elim
      | cons s sr =>
        have es := (hk s (by simp)).1.2
        cases f0 with
        | dot p => cases e0
        | st p q =>
          refine b_if (t_eq hr (x_ix (x_ixV 1 rfl (x_int (⟨_, _, _, _, rfl, rfl, rfl, at_zero, ⟨rfl, x_int (⟨_, _, _, rfl, rfl, rfl, ⟨rfl, x_str (⟨(by trivial), (by trivial), _, rfl, ⟨fun hb => absurd (eqS hb) (by decide), fun hb => ?_⟩⟩)⟩⟩)⟩⟩)))))
          refine b_nil ?_
          refine b_ret (x_var 1 rfl (.inr ⟨a, _, rfl, ?_, hB⟩))
          unfold joinedOn
          rw [hP]
        | arc c p q =>
          refine b_if (t_eq hr (x_ix (x_ixV 1 rfl (x_int (⟨_, _, _, _, rfl, rfl, rfl, at_zero, ⟨rfl, x_int (⟨_, _, _, rfl, rfl, rfl, ⟨rfl, x_str (⟨(by trivial), (by trivial), _, rfl, ⟨fun hb => absurd (eqS hb) (by decide), fun hb => ?_⟩⟩)⟩⟩)⟩⟩)))))
          refine b_nil ?_
          refine b_ret (x_var 1 rfl (.inr ⟨a, _, rfl, ?_, hB⟩))
          unfold joinedOn
          rw [hP]
        | ring c p =>
          refine b_if (t_eq hr (x_ix (x_ixV 1 rfl (x_int (⟨_, _, _, _, rfl, rfl, rfl, at_zero, ⟨rfl, x_int (⟨_, _, _, rfl, rfl, rfl, ⟨rfl, x_str (⟨(by trivial), (by trivial), _, rfl, ⟨fun hb => ?_, fun hb => absurd (eqS hb) (by decide)⟩⟩)⟩⟩)⟩⟩)))))
          have eJ : joinedOn (s :: sr) = [.ring c (second s)] := by
            unfold joinedOn
            rw [hP]
          rw [eJ]
          cases s with
          | dot p => cases es
          | st p' q' =>
            refine b_ret (x_lst (a_cons (x_tup (a_cons (x_str (⟨rfl, a_cons (x_ix (x_ixV 1 rfl (x_int (⟨_, _, _, _, rfl, rfl, rfl, at_zero, ⟨rfl, x_int (⟨_, _, _, rfl, rfl, rfl, ⟨rfl, a_cons (x_ix (x_ixV 0 rfl (x_int (⟨_, _, _, _, rfl, rfl, rfl, at_zero, ⟨rfl, x_int (⟨_, _, _, rfl, rfl, rfl, ⟨rfl, a_nil (⟨[_, _, _], rfl, Nat.le_of_ble_eq_true rfl, ⟨rfl, a_nil (⟨[_], rfl, Nat.le_of_ble_eq_true rfl, .inl rfl⟩)⟩⟩)⟩⟩)⟩⟩))))⟩⟩)⟩⟩))))⟩))))))
          | arc c' p' q' =>
            refine b_ret (x_lst (a_cons (x_tup (a_cons (x_str (⟨rfl, a_cons (x_ix (x_ixV 1 rfl (x_int (⟨_, _, _, _, rfl, rfl, rfl, at_zero, ⟨rfl, x_int (⟨_, _, _, rfl, rfl, rfl, ⟨rfl, a_cons (x_ix (x_ixV 0 rfl (x_int (⟨_, _, _, _, rfl, rfl, rfl, at_zero, ⟨rfl, x_int (⟨_, _, _, rfl, rfl, rfl, ⟨rfl, a_nil (⟨[_, _, _], rfl, Nat.le_of_ble_eq_true rfl, ⟨rfl, a_nil (⟨[_], rfl, Nat.le_of_ble_eq_true rfl, .inl rfl⟩)⟩⟩)⟩⟩)⟩⟩))))⟩⟩)⟩⟩))))⟩))))))
          | ring c' p' =>
            refine b_ret (x_lst (a_cons (x_tup (a_cons (x_str (⟨rfl, a_cons (x_ix (x_ixV 1 rfl (x_int (⟨_, _, _, _, rfl, rfl, rfl, at_zero, ⟨rfl, x_int (⟨_, _, _, rfl, rfl, rfl, ⟨rfl, a_cons (x_ix (x_ixV 0 rfl (x_int (⟨_, _, _, _, rfl, rfl, rfl, at_zero, ⟨rfl, x_int (⟨_, _, _, rfl, rfl, rfl, ⟨rfl, a_nil (⟨[_, _, _], rfl, Nat.le_of_ble_eq_true rfl, ⟨rfl, a_nil (⟨[_], rfl, Nat.le_of_ble_eq_true rfl, .inl rfl⟩)⟩⟩)⟩⟩)⟩⟩))))⟩⟩)⟩⟩))))⟩))))))

end
end AW
set_option Elab.async false
set_option linter.all false
set_option maxRecDepth 100000
set_option maxHeartbeats 2000000
namespace AW
open PySem PySem.Spec PyProof.Rows L2 L3 AM
local macro_rules | `(tactic| trivial) => `(tactic| first | exact (shp_pD _).ok | exact (shp_fD _).ok | exact (shp_kD _).ok | exact (shp_xD _).ok | exact shp_keyE _ | exact shp_keyE _ | exact shp_s1.ok | exact shp_s2.ok | exact shp_s3.ok | exact shp_s4.ok | exact shp_s5.ok | exact shp_s6.ok | exact (shp_int 0 _).ok)
section
variable {w : World} {K : PySem.W.Frag} {mg : Str → Option Value} {base : Heap} {kws : List (Str × V)} {f : Addr} {fd : FuncData} {P : Program}
theorem c_straight_chain (F : Fd K "straight_chain" 42 kws f fd) (hm : mg "straight_chain" = some (.ref f))
    (G_carrier : Callee P w K mg base "carrier" 6 [("piece" : Str)] (spD K R_carrier)) (henumerate : mg "enumerate" = none)
    (G_before : Callee P w K mg base "before" 2 [("p" : Str), ("q" : Str)] (spD K R_before))
    (G_on : Callee P w K mg base "on" 7 [("piece" : Str), ("p" : Str)] (spD K R_on)) :
    Callee P w K mg base "straight_chain" 8 [("pieces" : Str), ("piece" : Str)] (spD K R_straight_chain) := by
  refine mk_d (N := [("pieces" : Str), ("piece" : Str), ("own" : Str), ("k" : Str), ("some" : Str), ("here" : Str), ("found" : Str), ("best" : Str), ("other" : Str)]) F hm (C8.fnScope_by (by kernel_rfl)) (fun _ _ _ _ _ _ us h => match us, h with | [a, b], _ => rfl) (fun es r hR => by obtain ⟨_, _, _, _, h, _⟩ := hR; rw [h]; rfl) fun cdv A outer s H E hr es r as hR => ?_
  have hN : ([("pieces" : Str), ("piece" : Str), ("own" : Str), ("k" : Str), ("some" : Str), ("here" : Str), ("found" : Str), ("best" : Str), ("other" : Str)] : List Str).Nodup := by decide
  obtain ⟨l, x, n, o, rfl, rfl, hc, hl, hn, hch, hx⟩ := hR
  cases x with
  | dot p => cases hx
  | arc c p q => cases hx
  | ring c p => cases hx
  | st p q =>
  have hcx := hc (.st p q) (by simp)
  refine b_set 2 hN (x_call G_carrier hr (a_cons (x_var 1 rfl (⟨rfl, a_nil (⟨_, ⟨_, rfl, rfl, ?_⟩, ⟨rfl, ?_⟩⟩)⟩))))
  · exact hcx
  refine b_setLc 4 [("k", 3), ("other", 8)] rfl hN (blkOk_by (by kernel_rfl)) (i_enum 0 henumerate rfl rfl rfl ⟨rfl, accD (fOf isSt (AM.keyOf (.st p q)) l), rfl, by simp [enumD]; omega, fun j d hd => ?_, _, rfl, fun a1 ha1 hnew1 haW1 => ?_⟩)
  · obtain ⟨y, hy, rfl⟩ := enum_get hd
    have hyl : y ∈ l := List.mem_of_getElem? hy
    rw [accD_step, fOf_of hy]
    refine ⟨_, _, fun s H C cl fp => g_tup2 3 8 rfl hN, by decide, fun s H C cl fp => ?_⟩
    cases y with
    | st u v =>
      refine t_w (w_and (t_eq hr (x_ix (x_var 8 rfl (⟨rfl, x_int (⟨_, _, _, rfl, rfl, rfl, ⟨rfl, x_str (⟨(by trivial), (by trivial), _, rfl, ⟨fun t1 => w_and1 (t_eq hr (x_call G_carrier hr (a_cons (x_var 8 rfl (⟨rfl, a_nil (⟨_, ⟨_, rfl, rfl, ?_⟩, ⟨rfl, x_var 2 rfl (⟨(by trivial), (by trivial), _, rfl, ⟨fun t2 => ?_, fun t2 => ?_⟩⟩)⟩⟩)⟩))))), fun t1 => absurd (eqS t1) (by decide)⟩⟩)⟩⟩)⟩)))))
      · exact hc _ (List.mem_cons_of_mem _ hyl)
      · have e : (isSt (.st u v) && decide (AM.keyOf (.st u v) = AM.keyOf (.st p q))) = true := (eqv_keyD _ _).symm.trans t2
        rw [if_pos e]
        exact fun s H C cl fp => x_var 3 rfl ⟨_, rfl, rfl⟩
      · have e : (isSt (.st u v) && decide (AM.keyOf (.st u v) = AM.keyOf (.st p q))) = false := (eqv_keyD _ _).symm.trans t2
        rw [if_neg (by rw [e]; decide), List.append_nil]
    | dot u =>
      refine t_w (w_and (t_eq hr (x_ix (x_var 8 rfl (⟨rfl, x_int (⟨_, _, _, rfl, rfl, rfl, ⟨rfl, x_str (⟨(by trivial), (by trivial), _, rfl, ⟨fun t1 => absurd (eqS t1) (by decide), fun t1 => ⟨fun h => (nomatch h), fun _ => ?_⟩⟩⟩)⟩⟩)⟩)))))
      rw [if_neg (by simp [isSt]), List.append_nil]
    | arc c u v =>
      refine t_w (w_and (t_eq hr (x_ix (x_var 8 rfl (⟨rfl, x_int (⟨_, _, _, rfl, rfl, rfl, ⟨rfl, x_str (⟨(by trivial), (by trivial), _, rfl, ⟨fun t1 => absurd (eqS t1) (by decide), fun t1 => ⟨fun h => (nomatch h), fun _ => ?_⟩⟩⟩)⟩⟩)⟩)))))
      rw [if_neg (by simp [isSt]), List.append_nil]
    | ring c u =>
      refine t_w (w_and (t_eq hr (x_ix (x_var 8 rfl (⟨rfl, x_int (⟨_, _, _, rfl, rfl, rfl, ⟨rfl, x_str (⟨(by trivial), (by trivial), _, rfl, ⟨fun t1 => absurd (eqS t1) (by decide), fun t1 => ⟨fun h => (nomatch h), fun _ => ?_⟩⟩⟩)⟩⟩)⟩)))))
      rw [if_neg (by simp [isSt]), List.append_nil]
  rw [accD_all]
  obtain ⟨S, hS⟩ : ∃ S, S = someOf isSt (AM.keyOf (.st p q)) l := ⟨_, rfl⟩
  have hmem : ∀ k ∈ S, ∃ u v, l[k]? = some (.st u v) ∧ PcB 500 (.st u v) := fun k hk => by
    rw [hS] at hk
    obtain ⟨y, hy, hf, _⟩ := someOf_mem hk
    have hcy := hc y (List.mem_cons_of_mem _ (List.mem_of_getElem? hy))
    cases y with
    | st u v => exact ⟨u, v, hy, hcy.1⟩
    | _ => cases hf
  have hSl : S.length ≤ 200 := by rw [hS]; exact Nat.le_trans someOf_len hl
  have hch : schain l S q n p [] = some o := by rw [hS]; exact hch
  rw [← hS]
  clear hS
  have hn1 : as 0 ≠ a1 := hnew1 0 _ rfl (fun _ z => nomatch z) (fun _ z => nomatch z)
  refine b_set 5 hN (x_ix (x_var 1 rfl (⟨rfl, x_int (⟨_, _, _, rfl, rfl, rfl, ⟨rfl, ?_⟩⟩)⟩)))
  refine b_setN 6 hN (x_lst (a_nil ⟨[], rfl, Nat.le_of_ble_eq_true rfl, _, rfl, fun a2 ha2 hnew2 haW2 => b_wide (i := 6) rfl ha2 ?_⟩))
  have hn2 : as 0 ≠ a2 := hnew2 0 _ rfl (fun _ z => nomatch z) (fun _ z => nomatch z)
  have hn3 : a1 ≠ a2 := hnew2 4 _ rfl (fun _ z => nomatch z) (fun _ z => nomatch z)
  refine b_while (fun m Γ => ∃ (here : Pt) (fd : List Nat) (v3 v7 : Option PyData), Γ = [some (.w (as 0) (l.map xD)), some (.d (xD (.st p q))), some (.d (keyD (.st p q))), v3.map Ent.d, some (.w a1 (S.map fun k => PyData.int (k : Nat))), some (.d (pD here)), some (.w a2 (fd.map fun k => PyData.int (k : Nat))), v7.map Ent.d, none] ∧ schain l S q m here fd = some o ∧ fd.length + m ≤ 300 ∧ BdP 500 here) n ⟨p, [], none, none, rfl, hch, by simp; omega, hcx.1.1⟩ fun m Γ hI => ?_
  obtain ⟨here, fd, v3, v7, rfl, hsc, hlen, hbh⟩ := hI
  refine t_val (x_bl (⟨_, rfl, ⟨fun hb => ?_, fun hb => ?_⟩⟩))
  · cases m with
    | zero => cases hsc
    | succ m =>
    refine b_set 7 hN (x_non (⟨rfl, ?_⟩))
    refine b_for rfl (i_var 4 rfl rfl rfl ⟨fun j Γ => ∃ v3 : Option PyData, Γ = [some (.w (as 0) (l.map xD)), some (.d (xD (.st p q))), some (.d (keyD (.st p q))), v3.map Ent.d, some (.w a1 (S.map fun k => PyData.int (k : Nat))), some (.d (pD here)), some (.w a2 (fd.map fun k => PyData.int (k : Nat))), some (.d (natD ((S.take j).foldl (bestSt l here) none))), none] ∧ ∀ b, (S.take j).foldl (bestSt l here) none = some b → b ∈ S, ⟨v3, rfl, fun b hb => by simp at hb⟩, fun j Γ hI => ?_, fun j d Γ hd hI => ?_, fun Γ hI => ?_⟩)
    · obtain ⟨v3, rfl, _⟩ := hI
      rfl
    · obtain ⟨v3, rfl, hbS⟩ := hI
      rw [List.getElem?_map] at hd
      obtain ⟨k, hk, rfl⟩ := Option.map_eq_some_iff.mp hd
      have hkS : k ∈ S := List.mem_of_getElem? hk
      obtain ⟨u, v, hkl, hkb⟩ := hmem k hkS
      have hk9 : PcB 900 (.st u v) := ⟨hkb.1.le (by decide), hkb.2.le (by decide)⟩
      have hat := at_map (e := xD) hkl
      have stp : (S.take (j + 1)).foldl (bestSt l here) none = bestSt l here ((S.take j).foldl (bestSt l here) none) k := by
        rw [List.take_add_one, hk, List.foldl_append]
        rfl
      refine ⟨_, _, g_name 3 hN, fun B' hB' => ?_⟩
      obtain ⟨best, hbest⟩ : ∃ best, best = (S.take j).foldl (bestSt l here) none := ⟨_, rfl⟩
      rw [← hbest] at hbS stp ⊢
      cases best with
      | none =>
        have eb : bestSt l here none k = if on (.st u v) here then some k else none := by
          unfold bestSt
          rw [getD_of hkl, Bool.and_true]
        refine b_ifB (on (.st u v) here) (t_w (w_and (t_val (x_call G_on hr (a_cons (x_ixV 0 rfl (x_var 3 rfl (⟨_, _, _, _, rfl, rfl, rfl, hat, ⟨rfl, a_cons (x_var 5 rfl (⟨rfl, a_nil (⟨_, ⟨_, _, rfl, rfl, ?_, ?_⟩, ⟨_, rfl, ⟨fun t1 => w_and1 (t_w (w_or (t_isN (x_var 7 rfl (⟨fun t2 => absurd t2 (by decide), fun t2 => ⟨rfl, ?_⟩⟩))))), fun t1 => ⟨rfl, ?_⟩⟩⟩⟩)⟩))⟩⟩)))))))) (fun hb => ?_) (fun hb => ?_)
        · exact hk9
        · exact hbh.le (by decide)
        · exact t1.symm
        · exact t1.symm
        · refine b_set 7 hN (x_var 3 rfl (⟨rfl, ?_⟩))
          exact b_nil (b_nil ⟨some (.int (k : Nat)), by rw [stp, eb, if_pos hb]; rfl, fun b h => by rw [stp, eb, if_pos hb] at h; cases h; exact hkS⟩)
        · exact b_nil (b_nil ⟨some (.int (k : Nat)), by rw [stp, eb, if_neg (by rw [hb]; decide)]; rfl, fun b h => by rw [stp, eb, if_neg (by rw [hb]; decide)] at h; cases h⟩)
      | some b0 =>
        have hb0 := hbS b0 rfl
        obtain ⟨u0, v0, hkl0, hkb0⟩ := hmem b0 hb0
        have hat0 := at_map (e := xD) hkl0
        have eb : bestSt l here (some b0) k = if on (.st u v) here && before v0 v then some k else some b0 := by
          unfold bestSt
          rw [getD_of hkl]
          show (if (on (Pc.st u v) here && before (second (l.getD b0 nul)) (second (.st u v))) = true then some k else some b0) = _
          rw [getD_of hkl0]
          rfl
        refine b_ifB (on (.st u v) here && before v0 v) (t_w (w_and (t_val (x_call G_on hr (a_cons (x_ixV 0 rfl (x_var 3 rfl (⟨_, _, _, _, rfl, rfl, rfl, hat, ⟨rfl, a_cons (x_var 5 rfl (⟨rfl, a_nil (⟨_, ⟨_, _, rfl, rfl, ?_, ?_⟩, ⟨_, rfl, ⟨fun t1 => w_and1 (t_w (w_or (t_isN (x_var 7 rfl (⟨fun t2 => w_or1 (t_val (x_call G_before hr (a_cons (x_ix (x_ixV 0 rfl (x_var 7 rfl (⟨_, _, _, _, rfl, rfl, rfl, hat0, ⟨rfl, x_int (⟨_, _, _, rfl, rfl, rfl, ⟨rfl, a_cons (x_ix (x_ixV 0 rfl (x_var 3 rfl (⟨_, _, _, _, rfl, rfl, rfl, hat, ⟨rfl, x_int (⟨_, _, _, rfl, rfl, rfl, ⟨rfl, a_nil (⟨_, ⟨_, _, rfl, rfl, ?_, ?_⟩, ⟨_, rfl, ⟨rfl, ?_⟩⟩⟩)⟩⟩)⟩⟩))))⟩⟩)⟩⟩))))))), fun t2 => Bool.noConfusion (show false = true from t2)⟩))))), fun t1 => ⟨rfl, ?_⟩⟩⟩⟩)⟩))⟩⟩)))))))) (fun hb => ?_) (fun hb => ?_)
        · exact hk9
        · exact hbh.le (by decide)
        · exact hkb0.2.le (by decide)
        · exact hkb.2.le (by decide)
        · rw [t1, Bool.true_and]
        · rw [t1, Bool.false_and]
        · refine b_set 7 hN (x_var 3 rfl (⟨rfl, ?_⟩))
          exact b_nil (b_nil ⟨some (.int (k : Nat)), by rw [stp, eb, if_pos hb]; rfl, fun b h => by rw [stp, eb, if_pos hb] at h; cases h; exact hkS⟩)
        · exact b_nil (b_nil ⟨some (.int (k : Nat)), by rw [stp, eb, if_neg (by rw [hb]; decide)]; rfl, fun b h => by rw [stp, eb, if_neg (by rw [hb]; decide)] at h; cases h; exact hb0⟩)
    · obtain ⟨v3, rfl, hbS⟩ := hI
      rw [List.length_map, List.take_length] at *
      unfold schain at hsc
      generalize S.foldl (bestSt l here) none = best at *
      cases best with
      | none =>
        refine b_if (t_isN (x_var 7 rfl (⟨fun hb => ?_, fun hb => absurd hb (by decide)⟩)))
        refine b_ret (x_non (.inl ?_))
        have : o = none := by simpa using hsc.symm
        rw [this]
        rfl
      | some b =>
        obtain ⟨u, v, hkl, hkb⟩ := hmem b (hbS b rfl)
        have hat := at_map (e := xD) hkl
        simp only [getD_of hkl] at hsc
        refine b_if (t_isN (x_var 7 rfl (⟨fun hb => Bool.noConfusion (show false = true from hb), fun hb => ?_⟩)))
        refine b_nil ?_
        refine b_append 6 rfl rfl (x_var 7 rfl (⟨_, _, _, rfl, alone_of (by cases v3 <;> (repeat' (first | exact True.intro | assumption | apply And.intro))), List.mem_singleton_self _, rfl, ?_, ?_⟩))
        · rw [List.length_map]; omega
        have efd : (fd.map fun k => PyData.int (k : Nat)) ++ [natD (some b)] = (fd ++ [b]).map fun k => PyData.int (k : Nat) := by rw [List.map_append]; rfl
        refine b_if (t_not (t_val (x_call G_before hr (a_cons (x_ix (x_ixV 0 rfl (x_var 7 rfl (⟨_, _, _, _, rfl, rfl, rfl, hat, ⟨rfl, x_int (⟨_, _, _, rfl, rfl, rfl, ⟨rfl, a_cons (x_ix (x_var 1 rfl (⟨rfl, x_int (⟨_, _, _, rfl, rfl, rfl, ⟨rfl, a_nil (⟨_, ⟨_, _, rfl, rfl, ?_, ?_⟩, ⟨_, rfl, ⟨fun hb => ?_, fun hb => ?_⟩⟩⟩)⟩⟩)⟩)))⟩⟩)⟩⟩))))))))
        · exact hkb.2.le (by decide)
        · exact hcx.1.2.le (by decide)
        · have hb : before v q = false := by simpa using hb
          refine b_ret (x_var 6 rfl (.inr ⟨a2, _, ?_, by rw [efd], ha2⟩))
          have : o = some (fd ++ [b]) := by simpa [second, hb] using hsc.symm
          rw [this]
          rfl
        have hb1 : before v q = true := by simpa using hb
        refine b_nil ?_
        refine b_if (t_eq hr (x_ix (x_ixV 0 rfl (x_var 7 rfl (⟨_, _, _, _, rfl, rfl, rfl, hat, ⟨rfl, x_int (⟨_, _, _, rfl, rfl, rfl, ⟨rfl, x_var 5 rfl (⟨(by trivial), (by trivial), _, rfl, ⟨fun hb => ?_, fun hb => ?_⟩⟩)⟩⟩)⟩⟩)))))
        · have hb := eqP hb
          have hb : v = here := by simpa using hb
          refine b_ret (x_non (.inl ?_))
          have : o = none := by
            subst hb
            simpa [second, hb1] using hsc.symm
          rw [this]
          rfl
        have hb2 := eqP hb
        have hb2 : ¬ v = here := by simpa using hb2
        refine b_nil ?_
        refine b_set 5 hN (x_ix (x_ixV 0 rfl (x_var 7 rfl (⟨_, _, _, _, rfl, rfl, rfl, hat, ⟨rfl, x_int (⟨_, _, _, rfl, rfl, rfl, ⟨rfl, ?_⟩⟩)⟩⟩))))
        refine b_nil ⟨m, Nat.lt_succ_self _, v, fd ++ [b], v3, some _, by rw [← efd]; rfl, ?_, ?_, hkb.2⟩
        · simpa [second, hb1, hb2] using hsc
        · rw [List.length_append]
          simp only [List.length_cons, List.length_nil]
          omega
  · exact absurd hb (by decide)

end
end AW
set_option Elab.async false
set_option linter.all false
set_option maxRecDepth 100000
set_option maxHeartbeats 2000000
namespace AW
open PySem PySem.Spec PyProof.Rows L2 L3 AM
local macro_rules | `(tactic| trivial) => `(tactic| first | exact (shp_pD _).ok | exact (shp_fD _).ok | exact (shp_kD _).ok | exact (shp_xD _).ok | exact shp_keyE _ | exact shp_keyE _ | exact shp_s1.ok | exact shp_s2.ok | exact shp_s3.ok | exact shp_s4.ok | exact shp_s5.ok | exact shp_s6.ok | exact (shp_int 0 _).ok)
section
variable {w : World} {K : PySem.W.Frag} {mg : Str → Option Value} {base : Heap} {kws : List (Str × V)} {f : Addr} {fd : FuncData} {P : Program}
theorem bestArc_of {l : List Pc} {k : Nat} {c p q here : Pt} (h : l[k]? = some (.arc c p q)) (best : Option Nat) : bestArc l here best k =
    if (!decide (q = here) && on (.arc c p q) here) = true then (match best with | none => some k | some b => if AM.ahead c here (third (l.getD b nul)) q = true then some k else some b) else best := by
  unfold bestArc
  rw [getD_of h]
  have e : decide (third (Pc.arc c p q) ≠ here) = !decide (q = here) := decide_not
  rw [e]
  cases best <;> rfl
theorem c_furthest (F : Fd K "furthest" 43 kws f fd) (hm : mg "furthest" = some (.ref f))
    (G_on : Callee P w K mg base "on" 7 [("piece" : Str), ("p" : Str)] (spD K R_on))
    (G_ahead : Callee P w K mg base "ahead" 6 [("c" : Str), ("a" : Str), ("p" : Str), ("q" : Str)] (spD K R_ahead)) :
    Callee P w K mg base "furthest" 8 [("pieces" : Str), ("some" : Str), ("here" : Str)] (spD K R_furthest) := by
  refine mk_d (N := [("pieces" : Str), ("some" : Str), ("here" : Str), ("best" : Str), ("k" : Str), ("c" : Str), ("first" : Str), ("last" : Str)]) F hm (C8.fnScope_by (by kernel_rfl)) (fun _ _ _ _ _ _ us h => match us, h with | [a, b, c], _ => rfl) (fun es r hR => by obtain ⟨_, _, _, h, _⟩ := hR; rw [h]; rfl) fun cdv A outer s H E hr es r as hR => ?_
  have hN : ([("pieces" : Str), ("some" : Str), ("here" : Str), ("best" : Str), ("k" : Str), ("c" : Str), ("first" : Str), ("last" : Str)] : List Str).Nodup := by decide
  obtain ⟨l, S, here, rfl, rfl, hmem, hbh, hSl⟩ := hR
  refine b_set 3 hN (x_non (⟨rfl, ?_⟩))
  refine b_for rfl (i_var 1 rfl rfl rfl ⟨fun j Γ => ∃ v4 v5 v6 v7 : Option PyData, Γ = [some (.w (as 0) (l.map xD)), some (.w (as 1) (S.map fun k => PyData.int (k : Nat))), some (.d (pD here)), some (.d (natD ((S.take j).foldl (bestArc l here) none))), v4.map Ent.d, v5.map Ent.d, v6.map Ent.d, v7.map Ent.d] ∧ ∀ b, (S.take j).foldl (bestArc l here) none = some b → b ∈ S, ⟨none, none, none, none, rfl, fun b hb => by simp at hb⟩, fun j Γ hI => ?_, fun j d Γ hd hI => ?_, fun Γ hI => ?_⟩)
  · obtain ⟨v4, v5, v6, v7, rfl, _⟩ := hI
    rfl
  · obtain ⟨v4, v5, v6, v7, rfl, hbS⟩ := hI
    rw [List.getElem?_map] at hd
    obtain ⟨k, hk, rfl⟩ := Option.map_eq_some_iff.mp hd
    have hkS : k ∈ S := List.mem_of_getElem? hk
    obtain ⟨c, p, q, hkl, hkb⟩ := hmem k hkS
    have hk9 : PcB 900 (.arc c p q) := ⟨hkb.1.le (by decide), hkb.2.1.le (by decide), hkb.2.2.le (by decide)⟩
    have hat := at_map (e := xD) hkl
    have stp : (S.take (j + 1)).foldl (bestArc l here) none = bestArc l here ((S.take j).foldl (bestArc l here) none) k := by
      rw [List.take_add_one, hk, List.foldl_append]
      rfl
    refine ⟨_, _, g_name 4 hN, fun B' hB' => ?_⟩
    obtain ⟨best, hbest⟩ : ∃ best, best = (S.take j).foldl (bestArc l here) none := ⟨_, rfl⟩
    rw [← hbest] at hbS stp ⊢
    refine b_asg (x_sliceT (some 1) none (x_ixV 0 rfl (x_var 4 rfl (⟨_, _, _, _, rfl, rfl, rfl, hat, ⟨_, rfl, ⟨_, _, _, rfl, g_tup3 5 6 7 rfl hN, ?_⟩⟩⟩))))
    rw [bestArc_of hkl] at stp
    refine b_ifB (!decide (q = here) && on (.arc c p q) here) (t_w (w_and (t_ne hr (x_var 7 rfl (⟨rfl, x_var 2 rfl (⟨(by trivial), (by trivial), _, rfl, ⟨fun t1 => w_and1 (t_val (x_call G_on hr (a_cons (x_ixV 0 rfl (x_var 4 rfl (⟨_, _, _, _, rfl, rfl, rfl, hat, ⟨rfl, a_cons (x_var 2 rfl (⟨rfl, a_nil (⟨_, ⟨_, _, rfl, rfl, ?_, ?_⟩, ⟨_, rfl, ⟨rfl, ?_⟩⟩⟩)⟩))⟩⟩)))))), fun t1 => ⟨rfl, ?_⟩⟩⟩)⟩))))) (fun hb => ?_) (fun hb => ?_)
    · exact hk9
    · exact hbh.le (by decide)
    · rw [neP t1, Bool.true_and]
    · rw [neP t1, Bool.false_and]
    · rw [if_pos hb] at stp
      cases best with
      | none =>
        refine b_ifB true (t_w (w_or (t_isN (x_var 3 rfl (⟨fun t1 => absurd t1 (by decide), fun t1 => ⟨rfl, rfl⟩⟩))))) (fun hb2 => ?_) (fun hb2 => nomatch hb2)
        refine b_set 3 hN (x_var 4 rfl (⟨rfl, ?_⟩))
        exact b_nil (b_nil (b_nil ⟨some (.int (k : Nat)), some _, some _, some _, by rw [stp]; rfl, fun b h => by rw [stp] at h; cases h; exact hkS⟩))
      | some b0 =>
        have hb0 := hbS b0 rfl
        obtain ⟨c0, p0, q0, hkl0, hkb0⟩ := hmem b0 hb0
        have hat0 := at_map (e := xD) hkl0
        have stp : (S.take (j + 1)).foldl (bestArc l here) none = if AM.ahead c here q0 q = true then some k else some b0 := by
          rw [stp]
          show (if AM.ahead c here (third (l.getD b0 nul)) q = true then some k else some b0) = _
          rw [getD_of hkl0]
          rfl
        refine b_ifB (AM.ahead c here q0 q) (t_w (w_or (t_isN (x_var 3 rfl (⟨fun t1 => w_or1 (t_val (x_call G_ahead hr (a_cons (x_var 5 rfl (⟨rfl, a_cons (x_var 2 rfl (⟨rfl, a_cons (x_ix (x_ixV 0 rfl (x_var 3 rfl (⟨_, _, _, _, rfl, rfl, rfl, hat0, ⟨rfl, x_int (⟨_, _, _, rfl, rfl, rfl, ⟨rfl, a_cons (x_var 7 rfl (⟨rfl, a_nil (⟨_, ⟨_, _, _, _, rfl, rfl, ?_, ?_, ?_, ?_⟩, ⟨_, rfl, ⟨rfl, rfl⟩⟩⟩)⟩))⟩⟩)⟩⟩))))⟩))⟩))))), fun t1 => Bool.noConfusion (show false = true from t1)⟩))))) (fun hb2 => ?_) (fun hb2 => ?_)
        · exact hk9.1
        · exact hbh.le (by decide)
        · exact hkb0.2.2.le (by decide)
        · exact hk9.2.2
        · refine b_set 3 hN (x_var 4 rfl (⟨rfl, ?_⟩))
          exact b_nil (b_nil (b_nil ⟨some (.int (k : Nat)), some _, some _, some _, by rw [stp, if_pos hb2]; rfl, fun b h => by rw [stp, if_pos hb2] at h; cases h; exact hkS⟩))
        · exact b_nil (b_nil (b_nil ⟨some (.int (k : Nat)), some _, some _, some _, by rw [stp, if_neg (by rw [hb2]; decide)]; rfl, fun b h => by rw [stp, if_neg (by rw [hb2]; decide)] at h; cases h; exact hb0⟩))
    · rw [if_neg (by rw [hb]; decide)] at stp
      exact b_nil (b_nil ⟨some (.int (k : Nat)), some _, some _, some _, by rw [stp]; rfl, fun b h => by rw [stp] at h; exact hbS b h⟩)
  · obtain ⟨v4, v5, v6, v7, rfl, hbS⟩ := hI
    rw [List.length_map, List.take_length]
    refine b_ret (x_var 3 rfl (.inl ?_))
    rfl

end
end AW
set_option Elab.async false
set_option linter.all false
set_option maxRecDepth 100000
set_option maxHeartbeats 2000000
namespace AW
open PySem PySem.Spec PyProof.Rows L2 L3 AM
local macro_rules | `(tactic| trivial) => `(tactic| first | exact (shp_pD _).ok | exact (shp_fD _).ok | exact (shp_kD _).ok | exact (shp_xD _).ok | exact shp_keyE _ | exact shp_keyE _ | exact shp_s1.ok | exact shp_s2.ok | exact shp_s3.ok | exact shp_s4.ok | exact shp_s5.ok | exact shp_s6.ok | exact (shp_int 0 _).ok)
section
variable {w : World} {K : PySem.W.Frag} {mg : Str → Option Value} {base : Heap} {kws : List (Str × V)} {f : Addr} {fd : FuncData} {P : Program}
theorem find_take {S : List Nat} {f : Nat → Bool} {j k : Nat} (h : ∀ i ∈ S.take j, f i = false) (hk : S[j]? = some k) (hf : f k = true) : S.find? f = some k := by
  induction S generalizing j with
  | nil => simp at hk
  | cons a S ih =>
    cases j with
    | zero =>
      simp at hk
      subst hk
      simp [hf]
    | succ j =>
      have h0 := h a (by simp)
      rw [List.find?_cons, h0]
      exact ih (j := j) (fun i hi => h i (by simp [hi])) (by simpa using hk)
theorem c_round_chain (F : Fd K "round_chain" 44 kws f fd) (hm : mg "round_chain" = some (.ref f))
    (G_carrier : Callee P w K mg base "carrier" 6 [("piece" : Str)] (spD K R_carrier))
    (G_furthest : Callee P w K mg base "furthest" 8 [("pieces" : Str), ("some" : Str), ("here" : Str)] (spD K R_furthest)) (henumerate : mg "enumerate" = none) (hlen : mg "len" = none)
    (G_ahead : Callee P w K mg base "ahead" 6 [("c" : Str), ("a" : Str), ("p" : Str), ("q" : Str)] (spD K R_ahead)) :
    Callee P w K mg base "round_chain" 9 [("pieces" : Str), ("piece" : Str)] (spD K R_round_chain) := by
  refine mk_d (N := [("pieces" : Str), ("piece" : Str), ("own" : Str), ("k" : Str), ("some" : Str), ("c" : Str), ("here" : Str), ("goal" : Str), ("found" : Str), ("best" : Str), ("there" : Str), ("other" : Str)]) F hm (C8.fnScope_by (by kernel_rfl)) (fun _ _ _ _ _ _ us h => match us, h with | [a, b], _ => rfl) (fun es r hR => by obtain ⟨_, _, _, _, h, _⟩ := hR; rw [h]; rfl) fun cdv A outer s H E hr es r as hR => ?_
  have hN : ([("pieces" : Str), ("piece" : Str), ("own" : Str), ("k" : Str), ("some" : Str), ("c" : Str), ("here" : Str), ("goal" : Str), ("found" : Str), ("best" : Str), ("there" : Str), ("other" : Str)] : List Str).Nodup := by decide
  obtain ⟨l, x, n, o, rfl, rfl, hc, hl, hn, hch, hx⟩ := hR
  have hcx := hc x (by simp)
  obtain ⟨c, p, g, ds, hits, hd1, hd2, hd3, hcb, hpb, hgb, hch⟩ : ∃ (c p g : Pt) (ds : List PyData), Ent.its (.d (xD x)) = some ds ∧ atI ds 1 = some (pD c) ∧ atI ds 2 = some (pD p) ∧ atI ds ((ds.length : Int) - 1) = some (pD g) ∧ BdP 500 c ∧ BdP 500 p ∧ BdP 500 g ∧
      (match (someOf isRound (AM.keyOf x) l).find? (fun k => isRing (l.getD k nul)) with
        | some k => o = some [k]
        | none => rchain l (someOf isRound (AM.keyOf x) l) c g n p [] = some o) := by
    cases x with
    | dot p => cases hx
    | st p q => cases hx
    | arc c p q => exact ⟨c, p, q, _, rfl, rfl, rfl, rfl, hcx.1.1, hcx.1.2.1, hcx.1.2.2, hch⟩
    | ring c p => exact ⟨c, p, p, _, rfl, rfl, rfl, rfl, hcx.1.1, hcx.1.2, hcx.1.2, hch⟩
  refine b_set 2 hN (x_call G_carrier hr (a_cons (x_var 1 rfl (⟨rfl, a_nil (⟨_, ⟨_, rfl, rfl, ?_⟩, ⟨rfl, ?_⟩⟩)⟩))))
  · exact hcx
  refine b_setLc 4 [("k", 3), ("other", 11)] rfl hN (blkOk_by (by kernel_rfl)) (i_enum 0 henumerate rfl rfl rfl ⟨rfl, accD (fOf isRound (AM.keyOf x) l), rfl, by simp [enumD]; omega, fun j d hd => ?_, _, rfl, fun a1 ha1 hnew1 haW1 => ?_⟩)
  · obtain ⟨y, hy, rfl⟩ := enum_get hd
    have hyl : y ∈ l := List.mem_of_getElem? hy
    have hyc := hc _ (List.mem_cons_of_mem _ hyl)
    rw [accD_step, fOf_of hy]
    refine ⟨_, _, fun s H C cl fp => g_tup2 3 11 rfl hN, by decide, fun s H C cl fp => ?_⟩
    have tup : Shp 1 (.tuple [.str "arc", .str "ring"]) := ⟨by decide +kernel, by decide⟩
    cases y with
    | dot u =>
      refine t_w (w_and (t_inT hr (x_ix (x_var 11 rfl (⟨rfl, x_int (⟨_, _, _, rfl, rfl, rfl, ⟨rfl, x_tup (a_cons (x_str (⟨rfl, a_cons (x_str (⟨rfl, a_nil (⟨[_, _], rfl, Nat.le_of_ble_eq_true rfl, ⟨⟨_, rfl⟩, shp_s1.ok, tup.ok, _, rfl, ⟨fun t1 => absurd t1 (by decide), fun t1 => ⟨fun h => (nomatch h), fun _ => ?_⟩⟩⟩⟩)⟩))⟩)))⟩⟩)⟩)))))
      rw [if_neg (by simp [isRound]), List.append_nil]
    | st u v =>
      refine t_w (w_and (t_inT hr (x_ix (x_var 11 rfl (⟨rfl, x_int (⟨_, _, _, rfl, rfl, rfl, ⟨rfl, x_tup (a_cons (x_str (⟨rfl, a_cons (x_str (⟨rfl, a_nil (⟨[_, _], rfl, Nat.le_of_ble_eq_true rfl, ⟨⟨_, rfl⟩, shp_s2.ok, tup.ok, _, rfl, ⟨fun t1 => absurd t1 (by decide), fun t1 => ⟨fun h => (nomatch h), fun _ => ?_⟩⟩⟩⟩)⟩))⟩)))⟩⟩)⟩)))))
      rw [if_neg (by simp [isRound]), List.append_nil]
    | arc e u v =>
      refine t_w (w_and (t_inT hr (x_ix (x_var 11 rfl (⟨rfl, x_int (⟨_, _, _, rfl, rfl, rfl, ⟨rfl, x_tup (a_cons (x_str (⟨rfl, a_cons (x_str (⟨rfl, a_nil (⟨[_, _], rfl, Nat.le_of_ble_eq_true rfl, ⟨⟨_, rfl⟩, shp_s3.ok, tup.ok, _, rfl, ⟨fun t1 => w_and1 (t_eq hr (x_call G_carrier hr (a_cons (x_var 11 rfl (⟨rfl, a_nil (⟨_, ⟨_, rfl, rfl, ?_⟩, ⟨rfl, x_var 2 rfl (⟨(by trivial), (by trivial), _, rfl, ⟨fun t2 => ?_, fun t2 => ?_⟩⟩)⟩⟩)⟩))))), fun t1 => absurd t1 (by decide)⟩⟩⟩)⟩))⟩)))⟩⟩)⟩)))))
      · exact hyc
      · have e : (isRound (.arc e u v) && decide (AM.keyOf (.arc e u v) = AM.keyOf x)) = true := (eqv_keyD _ _).symm.trans t2
        rw [if_pos e]
        exact fun s H C cl fp => x_var 3 rfl ⟨_, rfl, rfl⟩
      · have e : (isRound (.arc e u v) && decide (AM.keyOf (.arc e u v) = AM.keyOf x)) = false := (eqv_keyD _ _).symm.trans t2
        rw [if_neg (by rw [e]; decide), List.append_nil]
    | ring e u =>
      refine t_w (w_and (t_inT hr (x_ix (x_var 11 rfl (⟨rfl, x_int (⟨_, _, _, rfl, rfl, rfl, ⟨rfl, x_tup (a_cons (x_str (⟨rfl, a_cons (x_str (⟨rfl, a_nil (⟨[_, _], rfl, Nat.le_of_ble_eq_true rfl, ⟨⟨_, rfl⟩, shp_s4.ok, tup.ok, _, rfl, ⟨fun t1 => w_and1 (t_eq hr (x_call G_carrier hr (a_cons (x_var 11 rfl (⟨rfl, a_nil (⟨_, ⟨_, rfl, rfl, ?_⟩, ⟨rfl, x_var 2 rfl (⟨(by trivial), (by trivial), _, rfl, ⟨fun t2 => ?_, fun t2 => ?_⟩⟩)⟩⟩)⟩))))), fun t1 => absurd t1 (by decide)⟩⟩⟩)⟩))⟩)))⟩⟩)⟩)))))
      · exact hyc
      · have e : (isRound (.ring e u) && decide (AM.keyOf (.ring e u) = AM.keyOf x)) = true := (eqv_keyD _ _).symm.trans t2
        rw [if_pos e]
        exact fun s H C cl fp => x_var 3 rfl ⟨_, rfl, rfl⟩
      · have e : (isRound (.ring e u) && decide (AM.keyOf (.ring e u) = AM.keyOf x)) = false := (eqv_keyD _ _).symm.trans t2
        rw [if_neg (by rw [e]; decide), List.append_nil]
  rw [accD_all]
  obtain ⟨S, hS⟩ : ∃ S, S = someOf isRound (AM.keyOf x) l := ⟨_, rfl⟩
  have hmem : ∀ k ∈ S, ∃ y, l[k]? = some y ∧ isRound y = true ∧ PcB 500 y := fun k hk => by
    rw [hS] at hk
    obtain ⟨y, hy, hf, _⟩ := someOf_mem hk
    exact ⟨y, hy, hf, (hc y (List.mem_cons_of_mem _ (List.mem_of_getElem? hy))).1⟩
  have hSl : S.length ≤ 200 := by rw [hS]; exact Nat.le_trans someOf_len hl
  rw [← hS] at hch ⊢
  clear hS
  have hn1 : as 0 ≠ a1 := hnew1 0 _ rfl (fun _ z => nomatch z) (fun _ z => nomatch z)
  refine b_for rfl (i_var 4 rfl rfl rfl ⟨fun j Γ => ∃ v3 : Option PyData, Γ = [some (.w (as 0) (l.map xD)), some (.d (xD x)), some (.d (keyD x)), v3.map Ent.d, some (.w a1 (S.map fun k => PyData.int (k : Nat))), none, none, none, none, none, none, none] ∧ ∀ k ∈ S.take j, isRing (l.getD k nul) = false, ⟨none, rfl, fun b hb => by simp at hb⟩, fun j Γ hI => ?_, fun j d Γ hd hI => ?_, fun Γ hI => ?_⟩)
  · obtain ⟨v3, rfl, _⟩ := hI
    rfl
  · obtain ⟨v3, rfl, hno⟩ := hI
    rw [List.getElem?_map] at hd
    obtain ⟨k, hk, rfl⟩ := Option.map_eq_some_iff.mp hd
    have hkS : k ∈ S := List.mem_of_getElem? hk
    obtain ⟨y, hkl, hky, hkb⟩ := hmem k hkS
    have hat := at_map (e := xD) hkl
    refine ⟨_, _, g_name 3 hN, fun B' hB' => ?_⟩
    cases y with
    | dot u => cases hky
    | st u v => cases hky
    | arc e u v =>
      refine b_if (t_eq hr (x_ix (x_ixV 0 rfl (x_var 3 rfl (⟨_, _, _, _, rfl, rfl, rfl, hat, ⟨rfl, x_int (⟨_, _, _, rfl, rfl, rfl, ⟨rfl, x_str (⟨(by trivial), (by trivial), _, rfl, ⟨fun hb => absurd (eqS hb) (by decide), fun hb => ?_⟩⟩)⟩⟩)⟩⟩)))))
      refine b_nil (b_nil ⟨some (.int (k : Nat)), rfl, fun i hi => ?_⟩)
      rw [List.take_add_one, hk] at hi
      simp only [Option.toList_some, List.mem_append, List.mem_singleton] at hi
      rcases hi with hi | rfl
      · exact hno i hi
      · rw [getD_of hkl]; rfl
    | ring e u =>
      refine b_if (t_eq hr (x_ix (x_ixV 0 rfl (x_var 3 rfl (⟨_, _, _, _, rfl, rfl, rfl, hat, ⟨rfl, x_int (⟨_, _, _, rfl, rfl, rfl, ⟨rfl, x_str (⟨(by trivial), (by trivial), _, rfl, ⟨fun hb => ?_, fun hb => absurd (eqS hb) (by decide)⟩⟩)⟩⟩)⟩⟩)))))
      rw [find_take (f := fun k => isRing (l.getD k nul)) hno hk (by show isRing (l.getD k nul) = true; rw [getD_of hkl]; rfl)] at hch
      simp only at hch
      refine b_ret (x_lst (a_cons (x_var 3 rfl (⟨rfl, a_nil (⟨[_], rfl, Nat.le_of_ble_eq_true rfl, .inl ?_⟩)⟩))))
      rw [hch]
      rfl
  · obtain ⟨v3, rfl, hno⟩ := hI
    rw [List.length_map, List.take_length] at hno
    have hfn : S.find? (fun k => isRing (l.getD k nul)) = none := List.find?_eq_none.mpr fun k hk => by rw [hno k hk]; decide
    rw [hfn] at hch
    simp only at hch
    have hmem2 : ∀ k ∈ S, ∃ c p q, l[k]? = some (.arc c p q) ∧ PcB 500 (.arc c p q) := fun k hk => by
      obtain ⟨y, hy, hr1, hb⟩ := hmem k hk
      have hr2 := hno k hk
      rw [getD_of hy] at hr2
      cases y with
      | arc e u v => exact ⟨e, u, v, hy, hb⟩
      | ring e u => cases hr2
      | dot u => cases hr1
      | st u v => cases hr1
    refine b_set 5 hN (x_ix (x_var 1 rfl (⟨rfl, x_int (⟨_, _, _, rfl, hits, hd1, ⟨rfl, ?_⟩⟩)⟩)))
    refine b_set 6 hN (x_ix (x_var 1 rfl (⟨rfl, x_int (⟨_, _, _, rfl, hits, hd2, ⟨rfl, ?_⟩⟩)⟩)))
    refine b_set 7 hN (x_ix (x_var 1 rfl (⟨rfl, x_sub (x_len hlen (a_cons (x_var 1 rfl (⟨rfl, a_nil (⟨_, _, rfl, hits, ⟨rfl, x_int (⟨_, _, rfl, rfl, trivial, ⟨_, _, _, rfl, hits, hd3, ⟨rfl, ?_⟩⟩⟩)⟩⟩)⟩))))⟩)))
    refine b_setN 8 hN (x_lst (a_nil ⟨[], rfl, Nat.le_of_ble_eq_true rfl, _, rfl, fun a2 ha2 hnew2 haW2 => b_wide (i := 8) rfl ha2 ?_⟩))
    have hn2 : as 0 ≠ a2 := hnew2 0 _ rfl (fun _ z => nomatch z) (fun _ z => nomatch z)
    have hn3 : a1 ≠ a2 := hnew2 4 _ rfl (fun _ z => nomatch z) (fun _ z => nomatch z)
    refine b_while (fun m Γ => ∃ (here : Pt) (fd : List Nat) (v9 v10 : Option PyData), Γ = [some (.w (as 0) (l.map xD)), some (.d (xD x)), some (.d (keyD x)), v3.map Ent.d, some (.w a1 (S.map fun k => PyData.int (k : Nat))), some (.d (pD c)), some (.d (pD here)), some (.d (pD g)), some (.w a2 (fd.map fun k => PyData.int (k : Nat))), v9.map Ent.d, v10.map Ent.d, none] ∧ rchain l S c g m here fd = some o ∧ fd.length + m ≤ 300 ∧ BdP 500 here) n ⟨p, [], none, none, rfl, hch, by simp; omega, hpb⟩ fun m Γ hI => ?_
    obtain ⟨here, fd, v9, v10, rfl, hsc, hlen', hbh⟩ := hI
    refine t_val (x_bl (⟨_, rfl, ⟨fun hb => ?_, fun hb => absurd hb (by decide)⟩⟩))
    cases m with
    | zero => cases hsc
    | succ m =>
    refine b_set 9 hN (x_call G_furthest hr (a_consV 0 rfl (a_consV 4 rfl (a_cons (x_var 6 rfl (⟨rfl, a_nil (⟨_, rfl, (fun _ z => nomatch z), ⟨_, rfl, (fun _ z => nomatch z), ⟨_, ⟨_, _, _, rfl, rfl, hmem2, hbh, hSl⟩, ⟨rfl, ?_⟩⟩⟩⟩)⟩))))))
    have hbS : ∀ (R : List Nat) (b0 : Option Nat) b, R.foldl (bestArc l here) b0 = some b → b ∈ R ∨ b0 = some b := by
      intro R
      induction R with
      | nil => intro b0 b h; exact .inr h
      | cons a R ih =>
        intro b0 b h
        rcases ih _ b h with h1 | h1
        · exact .inl (List.mem_cons_of_mem _ h1)
        · have e : bestArc l here b0 a = some a ∨ bestArc l here b0 a = b0 := by
            unfold bestArc
            (repeat' split) <;> simp
          rcases e with e | e
          · rw [e] at h1
            cases h1
            exact .inl (by simp)
          · exact .inr (e ▸ h1)
    have hbS := hbS S none
    unfold rchain at hsc
    generalize S.foldl (bestArc l here) none = best at *
    cases best with
    | none =>
      refine b_if (t_isN (x_var 9 rfl (⟨fun hb => ?_, fun hb => absurd hb (by decide)⟩)))
      refine b_ret (x_non (.inl ?_))
      have : o = none := by simpa using hsc.symm
      rw [this]
      rfl
    | some b =>
      have hbm : b ∈ S := (hbS b rfl).resolve_right (fun z => nomatch z)
      obtain ⟨e, u, v, hkl, hkb⟩ := hmem2 b hbm
      have hat := at_map (e := xD) hkl
      simp only [getD_of hkl] at hsc
      refine b_if (t_isN (x_var 9 rfl (⟨fun hb => Bool.noConfusion (show false = true from hb), fun hb => ?_⟩)))
      refine b_nil ?_
      refine b_append 8 rfl rfl (x_var 9 rfl (⟨_, _, _, rfl, alone_of (by cases v3 <;> cases v10 <;> (repeat' (first | exact True.intro | assumption | apply And.intro))), List.mem_singleton_self _, rfl, ?_, ?_⟩))
      · rw [List.length_map]; omega
      have efd : (fd.map fun k => PyData.int (k : Nat)) ++ [natD (some b)] = (fd ++ [b]).map fun k => PyData.int (k : Nat) := by rw [List.map_append]; rfl
      refine b_set 10 hN (x_ix (x_ixV 0 rfl (x_var 9 rfl (⟨_, _, _, _, rfl, rfl, rfl, hat, ⟨rfl, x_int (⟨_, _, _, rfl, rfl, rfl, ⟨rfl, ?_⟩⟩)⟩⟩))))
      have hsc : (if v = g ∨ here ≠ g ∧ AM.ahead c here g v = true then some (some (fd ++ [b])) else rchain l S c g m v (fd ++ [b])) = some o := hsc
      refine b_ifB (decide (v = g) || (!decide (here = g) && AM.ahead c here g v)) (t_w (w_or (t_eq hr (x_var 10 rfl (⟨rfl, x_var 7 rfl (⟨(by trivial), (by trivial), _, rfl, ⟨fun t1 => w_or1 (t_w (w_and (t_ne hr (x_var 6 rfl (⟨rfl, x_var 7 rfl (⟨(by trivial), (by trivial), _, rfl, ⟨fun t2 => w_and1 (t_val (x_call G_ahead hr (a_cons (x_var 5 rfl (⟨rfl, a_cons (x_var 6 rfl (⟨rfl, a_cons (x_var 7 rfl (⟨rfl, a_cons (x_var 10 rfl (⟨rfl, a_nil (⟨_, ⟨_, _, _, _, rfl, rfl, ?_, ?_, ?_, ?_⟩, ⟨_, rfl, ⟨rfl, ?_⟩⟩⟩)⟩))⟩))⟩))⟩))))), fun t2 => ⟨rfl, ?_⟩⟩⟩)⟩))))), fun t1 => ⟨rfl, ?_⟩⟩⟩)⟩))))) (fun hb => ?_) (fun hb => ?_)
      · exact hcb.le (by decide)
      · exact hbh.le (by decide)
      · exact hgb.le (by decide)
      · exact hkb.2.2.le (by decide)
      · rw [eqP t1, neP t2, Bool.false_or, Bool.true_and]
      · rw [eqP t1, neP t2, Bool.false_or, Bool.false_and]
      · rw [eqP t1, Bool.true_or]
      · refine b_ret (x_var 8 rfl (.inr ⟨a2, _, ?_, by rw [efd], ha2⟩))
        rw [if_pos (by simpa using hb)] at hsc
        have : o = some (fd ++ [b]) := by simpa using hsc.symm
        rw [this]
        rfl
      · rw [if_neg (by simpa using hb)] at hsc
        refine b_nil ?_
        refine b_set 6 hN (x_var 10 rfl (⟨rfl, ?_⟩))
        refine b_nil ⟨m, Nat.lt_succ_self _, v, fd ++ [b], some (.int (b : Nat)), some (pD v), by rw [← efd]; rfl, hsc, ?_, hkb.2.2⟩
        rw [List.length_append]
        simp only [List.length_cons, List.length_nil]
        omega
theorem c_chain (F : Fd K "chain" 45 kws f fd) (hm : mg "chain" = some (.ref f))
    (G_round_chain : Callee P w K mg base "round_chain" 9 [("pieces" : Str), ("piece" : Str)] (spD K R_round_chain)) (henumerate : mg "enumerate" = none)
    (G_straight_chain : Callee P w K mg base "straight_chain" 8 [("pieces" : Str), ("piece" : Str)] (spD K R_straight_chain))
    (G_on : Callee P w K mg base "on" 7 [("piece" : Str), ("p" : Str)] (spD K R_on)) :
    Callee P w K mg base "chain" 10 [("pieces" : Str), ("piece" : Str)] (spD K R_chain) := by
  refine mk_d (N := [("pieces" : Str), ("piece" : Str), ("k" : Str), ("other" : Str)]) F hm (C8.fnScope_by (by kernel_rfl)) (fun _ _ _ _ _ _ us h => match us, h with | [a, b], _ => rfl) (fun es r hR => by obtain ⟨_, _, _, _, h, _⟩ := hR; rw [h]; rfl) fun cdv A outer s H E hr es r as hR => ?_
  have hN : ([("pieces" : Str), ("piece" : Str), ("k" : Str), ("other" : Str)] : List Str).Nodup := by decide
  obtain ⟨l, x, n, o, rfl, rfl, hc, hl, hn, hch, _⟩ := hR
  have hcx := hc x (by simp)
  cases x with
  | dot p =>
    refine b_if (t_eq hr (x_ix (x_var 1 rfl (⟨rfl, x_int (⟨_, _, _, rfl, rfl, rfl, ⟨rfl, x_str (⟨(by trivial), (by trivial), _, rfl, ⟨fun hb => ?_, fun hb => ?_⟩⟩)⟩⟩)⟩))))
    · refine b_for rfl (i_enum 0 henumerate rfl rfl rfl ⟨fun j Γ => ∃ v2 v3 : Option PyData, Γ = [some (.w (as 0) (l.map xD)), some (.d (xD (.dot p))), v2.map Ent.d, v3.map Ent.d] ∧ ∀ i < j, on (l.getD i nul) p = false, ⟨none, none, rfl, fun i hi => by omega⟩, fun j Γ hI => ?_, fun j d Γ hd hI => ?_, fun Γ hI => ?_⟩)
      · obtain ⟨v2, v3, rfl, _⟩ := hI
        rfl
      · obtain ⟨v2, v3, rfl, hno⟩ := hI
        obtain ⟨y, hy, rfl⟩ := enum_get hd
        have hyc := (hc _ (List.mem_cons_of_mem _ (List.mem_of_getElem? hy))).1
        refine ⟨_, _, g_tup2 2 3 rfl hN, fun B' hB' => ?_⟩
        refine b_if (t_val (x_call G_on hr (a_cons (x_var 3 rfl (⟨rfl, a_cons (x_ix (x_var 1 rfl (⟨rfl, x_int (⟨_, _, _, rfl, rfl, rfl, ⟨rfl, a_nil (⟨_, ⟨_, _, rfl, rfl, ?_, ?_⟩, ⟨_, rfl, ⟨fun hb => ?_, fun hb => ?_⟩⟩⟩)⟩⟩)⟩)))⟩)))))
        · cases y
          · exact BdP.le hyc (by decide)
          · exact ⟨hyc.1.le (by decide), hyc.2.le (by decide)⟩
          · exact ⟨hyc.1.le (by decide), hyc.2.1.le (by decide), hyc.2.2.le (by decide)⟩
          · exact ⟨hyc.1.le (by decide), hyc.2.le (by decide)⟩
        · exact BdP.le hcx.1 (by decide)
        · refine b_ret (x_lst (a_cons (x_var 2 rfl (⟨rfl, a_nil (⟨[_], rfl, Nat.le_of_ble_eq_true rfl, .inl ?_⟩)⟩))))
          have hjl := (List.getElem?_eq_some_iff.mp hy).1
          have : (List.range l.length).find? (fun k => on (l.getD k nul) p) = some j := by
            refine find_take (j := j) (fun i hi => ?_) (by simp [hjl]) (by rw [getD_of hy]; exact hb)
            rw [List.take_range, List.mem_range] at hi
            exact hno i (by omega)
          have ho : o = some [j] := by
            have h2 : o = ((List.range l.length).find? fun k => on (l.getD k nul) p).map fun k => [k] := hch
            rw [h2, this]
            rfl
          rw [ho]
          rfl
        · refine b_nil (b_nil ⟨some _, some _, rfl, fun i hi => ?_⟩)
          by_cases e : i = j
          · subst e
            rw [getD_of hy]
            exact hb
          · exact hno i (by omega)
      · obtain ⟨v2, v3, rfl, hno⟩ := hI
        refine b_ret (x_non (.inl ?_))
        have ho : o = none := by
          have h2 : o = ((List.range l.length).find? fun k => on (l.getD k nul) p).map fun k => [k] := hch
          rw [h2, List.find?_eq_none.mpr fun k hk => ?_]
          · rfl
          · rw [List.mem_range] at hk
            rw [hno k (by simpa [enumD] using hk)]
            decide
        rw [ho]
        rfl
    · exact absurd (eqS hb) (by decide)
  | st p q =>
    refine b_if (t_eq hr (x_ix (x_var 1 rfl (⟨rfl, x_int (⟨_, _, _, rfl, rfl, rfl, ⟨rfl, x_str (⟨(by trivial), (by trivial), _, rfl, ⟨fun hb => ?_, fun hb => ?_⟩⟩)⟩⟩)⟩))))
    · exact absurd (eqS hb) (by decide)
    refine b_nil ?_
    refine b_if (t_eq hr (x_ix (x_var 1 rfl (⟨rfl, x_int (⟨_, _, _, rfl, rfl, rfl, ⟨rfl, x_str (⟨(by trivial), (by trivial), _, rfl, ⟨fun hb => ?_, fun hb => ?_⟩⟩)⟩⟩)⟩))))
    · refine b_ret (x_call G_straight_chain hr (a_consV 0 rfl (a_cons (x_var 1 rfl (⟨rfl, a_nil (⟨_, rfl, (fun _ z => nomatch z), ⟨_, ⟨_, _, _, _, rfl, rfl, hc, hl, hn, hch, rfl⟩, .inl rfl⟩⟩)⟩)))))
    · exact absurd (eqS hb) (by decide)
  | arc c p q =>
    refine b_if (t_eq hr (x_ix (x_var 1 rfl (⟨rfl, x_int (⟨_, _, _, rfl, rfl, rfl, ⟨rfl, x_str (⟨(by trivial), (by trivial), _, rfl, ⟨fun hb => ?_, fun hb => ?_⟩⟩)⟩⟩)⟩))))
    · exact absurd (eqS hb) (by decide)
    refine b_nil ?_
    refine b_if (t_eq hr (x_ix (x_var 1 rfl (⟨rfl, x_int (⟨_, _, _, rfl, rfl, rfl, ⟨rfl, x_str (⟨(by trivial), (by trivial), _, rfl, ⟨fun hb => ?_, fun hb => ?_⟩⟩)⟩⟩)⟩))))
    · exact absurd (eqS hb) (by decide)
    refine b_nil ?_
    refine b_ret (x_call G_round_chain hr (a_consV 0 rfl (a_cons (x_var 1 rfl (⟨rfl, a_nil (⟨_, rfl, (fun _ z => nomatch z), ⟨_, ⟨_, _, _, _, rfl, rfl, hc, hl, hn, hch, rfl⟩, .inl rfl⟩⟩)⟩)))))
  | ring c p =>
    refine b_if (t_eq hr (x_ix (x_var 1 rfl (⟨rfl, x_int (⟨_, _, _, rfl, rfl, rfl, ⟨rfl, x_str (⟨(by trivial), (by trivial), _, rfl, ⟨fun hb => ?_, fun hb => ?_⟩⟩)⟩⟩)⟩))))
    · exact absurd (eqS hb) (by decide)
    refine b_nil ?_
    refine b_if (t_eq hr (x_ix (x_var 1 rfl (⟨rfl, x_int (⟨_, _, _, rfl, rfl, rfl, ⟨rfl, x_str (⟨(by trivial), (by trivial), _, rfl, ⟨fun hb => ?_, fun hb => ?_⟩⟩)⟩⟩)⟩))))
    · exact absurd (eqS hb) (by decide)
    refine b_nil ?_
    refine b_ret (x_call G_round_chain hr (a_consV 0 rfl (a_cons (x_var 1 rfl (⟨rfl, a_nil (⟨_, rfl, (fun _ z => nomatch z), ⟨_, ⟨_, _, _, _, rfl, rfl, hc, hl, hn, hch, rfl⟩, .inl rfl⟩⟩)⟩)))))

end
end AW
set_option Elab.async false
set_option linter.all false
set_option maxRecDepth 100000
set_option maxHeartbeats 1000000
/-! the dict of the groups -/
namespace AW
open PySem PySem.Spec PyProof.Rows L2 L3 AM
theorem nk_fD {p q : Rat} (h : nk (fD p) = nk (fD q)) : p = q := by
  simp only [fD, nk, nks, NestedKey.tup.injEq, List.cons.injEq, NestedKey.num.injEq, and_true] at h
  exact Rat.ext h.1 (by omega)
theorem nk_pD {p q : Pt} (h : nk (pD p) = nk (pD q)) : p = q := by
  have h : NestedKey.tup [nk (fD p.1), nk (fD p.2)] = NestedKey.tup [nk (fD q.1), nk (fD q.2)] := h
  simp only [NestedKey.tup.injEq, List.cons.injEq, and_true] at h
  exact Prod.ext (nk_fD h.1) (nk_fD h.2)
theorem nk_kD {k k' : AM.Key} (h : nk (kD k) = nk (kD k')) : k = k' := by
  cases k with
  | line a b d =>
    cases k' with
    | line a' b' d' =>
      simp only [kD, nk, nks, NestedKey.tup.injEq, List.cons.injEq, NestedKey.num.injEq, and_true, true_and] at h
      obtain ⟨rfl, rfl, rfl⟩ := h
      rfl
    | circ c r =>
      have h : NestedKey.tup [.text "line", .num a, .num b, .num d] = NestedKey.tup [.text "circle", nk (pD c), nk (fD r)] := h
      simp at h
  | circ c r =>
    cases k' with
    | line a' b' d' =>
      have h : NestedKey.tup [.text "circle", nk (pD c), nk (fD r)] = NestedKey.tup [.text "line", .num a', .num b', .num d'] := h
      simp at h
    | circ c' r' =>
      have h : NestedKey.tup [.text "circle", nk (pD c), nk (fD r)] = NestedKey.tup [.text "circle", nk (pD c'), nk (fD r')] := h
      simp only [NestedKey.tup.injEq, List.cons.injEq, and_true, true_and] at h
      rw [nk_pD h.1, nk_fD h.2]
theorem nk_xD {x y : Pc} (h : nk (xD x) = nk (xD y)) : x = y := by
  have sh : ∀ {a b : Pc}, nk (xD a) = nk (xD b) → PyData.eqv (xD a) (xD b) = true → a = b := fun _ e => by rw [eqv_xD] at e; simpa using e
  cases x <;> cases y <;> simp only [xD, nk, nks, NestedKey.tup.injEq, List.cons.injEq, NestedKey.text.injEq, and_true, true_and] at h
  case dot.dot p q => rw [nk_pD h]
  case st.st p q p' q' => rw [nk_pD h.1, nk_pD h.2]
  case arc.arc c p q c' p' q' => rw [nk_pD h.1, nk_pD h.2.1, nk_pD h.2.2]
  case ring.ring c p c' p' => rw [nk_pD h.1, nk_pD h.2]
  all_goals first | exact absurd h.1 (by decide) | exact absurd h (by decide) | (simp at h; done)
theorem dp_kD (k : AM.Key) : (nk (kD k)).depth ≤ 8 := by cases k <;> exact Nat.le_of_ble_eq_true rfl
theorem dp_xD (x : Pc) : (nk (xD x)).depth ≤ 8 := by cases x <;> exact Nat.le_of_ble_eq_true rfl
/-- the dict at D holds the groups g, by the entries xs; H0: the heap at the entry -/
structure GX (K : PySem.W.Frag) (P : Program) (w : World) (H0 H : Hp) (D : Addr) (g : List (AM.Key × List Pc)) (xs : DXs) : Prop where
  dn : DN P w H D xs
  len : xs.length = g.length
  all : ∀ (j : Nat) (k : AM.Key) (l : List Pc), g[j]? = some (k, l) → ∃ (b a : Addr) (vs : List V), xs[j]? = some (nk (kD k), b, .ref a) ∧ Dt K H (.ref b) (kD k) ∧ H0 a = none ∧ H a = some (.lst vs) ∧ DtAll K H vs (l.map xD)
  dis : ∀ (i j : Nat) (q : NestedKey) (b : Addr) (q' : NestedKey) (b' a : Addr), xs[i]? = some (q, b, .ref a) → xs[j]? = some (q', b', .ref a) → i = j
  new : H0 D = none
  same : Same H0 H
def Gd (K : PySem.W.Frag) (P : Program) (w : World) (H0 H : Hp) (D : Addr) (g : List (AM.Key × List Pc)) : Prop := ∃ xs, GX K P w H0 H D g xs
theorem _root_.L3.DN.same {P : Program} {w : World} {H H' : Hp} {D : Addr} {xs : DXs} (h : DN P w H D xs) (e : H' D = H D) : DN P w H' D xs := by
  obtain ⟨es, ep, h1, h2⟩ := h
  exact ⟨es, ep, by rw [e]; exact h1, h2⟩
theorem _root_.L3.DN.there {P : Program} {w : World} {H : Hp} {D : Addr} {xs : DXs} (h : DN P w H D xs) : ∃ o, H D = some o ∧ (∀ ys, o ≠ .lst ys) ∧ (∀ ys, o ≠ .tup ys) ∧ ∀ a b, o ≠ .frz a b := by
  obtain ⟨es, ep, h1, _⟩ := h
  exact ⟨_, h1, fun _ z => (nomatch z), fun _ z => (nomatch z), fun _ _ z => (nomatch z)⟩
theorem GX.grow {K : PySem.W.Frag} {P : Program} {w : World} {H0 H H' : Hp} {D : Addr} {g : List (AM.Key × List Pc)} {xs : DXs} (h : GX K P w H0 H D g xs) (s : Same H H') : GX K P w H0 H' D g xs := by
  obtain ⟨h1, h2, h3, h4, h5, h6⟩ := h
  have c : Ch [] H H' := Ch.of_same s
  obtain ⟨o, ho, _⟩ := h1.there
  refine ⟨h1.same (by rw [ho, s _ _ ho]), h2, fun j k l e => ?_, h4, h5, fun a o e => s a o (h6 a o e)⟩
  obtain ⟨b, a, vs, f1, f2, f3, f4, f5⟩ := h3 j k l e
  exact ⟨b, a, vs, f1, Dt.ch c _ _ f2, f3, s _ _ f4, DtAll.ch c _ _ f5⟩
theorem dch_ch {P : Program} {w : World} {H H' : Hp} {D : Addr} {ys xs : DXs} (h : DN P w H D ys) (c : DCh P w H H' D xs) : Ch [D] H H' := by
  obtain ⟨o, ho, n1, n2, n3⟩ := h.there
  refine ⟨fun a zs e => ?_, fun a ob u e => ?_, fun a ob n e => ?_, fun a n => ?_⟩
  · rw [c.oth a (fun z => by subst z; rw [ho] at e; cases e; exact n2 _ rfl)]; exact e
  · rw [c.oth a (fun z => by subst z; rw [ho] at e; cases e; exact n3 _ _ rfl)]; exact e
  · rw [c.oth a (by simpa using n)]; exact e
  · by_cases hb : a = D
    · subst hb
      obtain ⟨o', ho', _⟩ := c.dn.there
      rw [ho']; simp
    · rw [c.oth a hb]; exact n
/-- a key comes, with an empty list -/
theorem GX.key {K : PySem.W.Frag} {P : Program} {w : World} {H0 H H' : Hp} {D : Addr} {g : List (AM.Key × List Pc)} {k : AM.Key} {b a : Addr} {xs : DXs} (h : GX K P w H0 H D g xs) (hk : Dt K H (.ref b) (kD k)) (ha : H a = some (.lst [])) (h0 : H0 a = none)
    (hn : ∀ (j : Nat) (q : NestedKey) (b' : Addr), xs[j]? ≠ some (q, b', .ref a)) (c : DCh P w H H' D (xs ++ [(nk (kD k), b, .ref a)])) : GX K P w H0 H' D (g ++ [(k, [])]) (xs ++ [(nk (kD k), b, .ref a)]) := by
  obtain ⟨hx, hg, hall, hdis, _, _⟩ := id h
  have ch := dch_ch hx c
  obtain ⟨o, ho, n1, n2, n3⟩ := hx.there
  have ln : ∀ a' vs, H a' = some (.lst vs) → H' a' = some (.lst vs) := fun a' vs e => by
    rw [c.oth a' (fun z => by subst z; rw [ho] at e; cases e; exact n1 _ rfl)]; exact e
  refine ⟨c.dn, by simp [hg], fun j k' l e => ?_, fun i j q b1 q' b2 a' e1 e2 => ?_, h.new, fun a' o' e => ?_⟩
  · by_cases hj : j < g.length
    · rw [List.getElem?_append_left hj] at e
      obtain ⟨b1, a1, vs, f1, f2, f3, f4, f5⟩ := hall j k' l e
      exact ⟨b1, a1, vs, by rw [List.getElem?_append_left (by omega)]; exact f1, Dt.ch ch _ _ f2, f3, ln _ _ f4, DtAll.ch ch _ _ f5⟩
    · rw [List.getElem?_append_right (by omega)] at e
      have hj2 : j - g.length = 0 := by
        have := (List.getElem?_eq_some_iff.mp e).1
        simp at this
        omega
      rw [hj2] at e
      simp at e
      obtain ⟨rfl, rfl⟩ := e
      refine ⟨b, a, [], by rw [List.getElem?_append_right (by omega), hg, hj2]; rfl, Dt.ch ch _ _ hk, h0, ln _ _ ha, .nil⟩
  · have sp : ∀ i q b1, (xs ++ [(nk (kD k), b, Value.ref a)])[i]? = some (q, b1, .ref a') → (i < xs.length ∧ xs[i]? = some (q, b1, .ref a')) ∨ (i = xs.length ∧ a' = a) := fun i q b1 e => by
      by_cases hi : i < xs.length
      · rw [List.getElem?_append_left hi] at e
        exact .inl ⟨hi, e⟩
      · rw [List.getElem?_append_right (by omega)] at e
        have hj2 : i - xs.length = 0 := by
          have := (List.getElem?_eq_some_iff.mp e).1
          simp at this
          omega
        rw [hj2] at e
        simp at e
        exact .inr ⟨by omega, e.2.2.symm⟩
    rcases sp i q b1 e1 with ⟨p1, p2⟩ | ⟨p1, p2⟩
    · rcases sp j q' b2 e2 with ⟨p3, p4⟩ | ⟨p3, p4⟩
      · exact hdis i j q b1 q' b2 a' p2 p4
      · subst p4; exact (hn i q b1 p2).elim
    · rcases sp j q' b2 e2 with ⟨p3, p4⟩ | ⟨p3, p4⟩
      · subst p2; exact (hn j q' b2 p4).elim
      · omega
  · rw [c.oth a' (fun z => by subst z; rw [h.new] at e; cases e)]
    exact h.same a' o' e
/-- a piece comes behind a list of the groups -/
theorem GX.app {K : PySem.W.Frag} {P : Program} {w : World} {H0 H : Hp} {D a : Addr} {g : List (AM.Key × List Pc)} {j : Nat} {k : AM.Key} {l : List Pc} {x : Pc} {v : V} {xs : DXs} {vs : List V} {b : Addr} (h : GX K P w H0 H D g xs) (hj : g[j]? = some (k, l)) (hxj : xs[j]? = some (nk (kD k), b, .ref a)) (ha : H a = some (.lst vs)) (hv : Dt K H v (xD x)) :
    GX K P w H0 (upd H a (.lst (vs ++ [v]))) D (g.set j (k, l ++ [x])) xs := by
  obtain ⟨hx, hg, hall, hdis, h0, hs⟩ := id h
  have c : Ch [a] H (upd H a (.lst (vs ++ [v]))) := upd_lst (K := K) ha
  obtain ⟨o, ho, n1, n2, n3⟩ := hx.there
  have hDa : D ≠ a := fun z => by subst z; rw [ho] at ha; cases ha; exact n1 _ rfl
  obtain ⟨b0, a0, vs0, f1, f2, f3, f4, f5⟩ := hall j k l hj
  rw [hxj] at f1
  cases f1
  rw [ha] at f4
  cases f4
  refine ⟨hx.same (upd_ne hDa), by rw [List.length_set]; exact hg, fun i k' l' e => ?_, hdis, h0, fun a' o' e => ?_⟩
  · by_cases hij : j = i
    · subst hij
      rw [List.getElem?_set_self (List.getElem?_eq_some_iff.mp hj).1] at e
      cases e
      refine ⟨b, a, vs ++ [v], hxj, Dt.ch c _ _ f2, f3, upd_same, ?_⟩
      rw [List.map_append]
      exact DtAll.ch c _ _ (f5.append (.cons hv .nil))
    · rw [List.getElem?_set_ne hij] at e
      obtain ⟨b1, a1, vs1, g1, g2, g3, g4, g5⟩ := hall i k' l' e
      have hne : a1 ≠ a := fun z => by subst z; exact hij (hdis j i _ _ _ _ _ hxj g1)
      exact ⟨b1, a1, vs1, g1, Dt.ch c _ _ g2, g3, by rw [upd_ne hne]; exact g4, DtAll.ch c _ _ g5⟩
  · rw [upd_ne (fun z => by subst z; rw [f3] at e; cases e)]
    exact hs a' o' e
theorem addG_new {g : List (AM.Key × List Pc)} {k : AM.Key} {x : Pc} (h : ∀ (j : Nat) (l : List Pc), g[j]? ≠ some (k, l)) : addG g k x = g ++ [(k, [x])] := by
  induction g with
  | nil => rfl
  | cons p g ih =>
    obtain ⟨k', l'⟩ := p
    unfold addG
    rw [if_neg (fun z => by subst z; exact h 0 l' rfl), ih fun j l e => h (j + 1) l (by simpa using e)]
    rfl
theorem addG_old {g : List (AM.Key × List Pc)} {k : AM.Key} {x : Pc} {j : Nat} {l : List Pc} (h : ∀ (i : Nat) (l' : List Pc), g[i]? = some (k, l') → j ≤ i) (hj : g[j]? = some (k, l)) : addG g k x = g.set j (k, l ++ [x]) := by
  induction g generalizing j with
  | nil => simp at hj
  | cons p g ih =>
    obtain ⟨k', l'⟩ := p
    unfold addG
    cases j with
    | zero =>
      simp at hj
      obtain ⟨rfl, rfl⟩ := hj
      rw [if_pos rfl]
      rfl
    | succ j =>
      rw [if_neg (fun z => by subst z; have := h 0 l' rfl; omega), ih (j := j) (fun i l e => by have := h (i + 1) l (by simpa using e); omega) (by simpa using hj)]
      rfl
/-- the promise of by_carriers -/
def spBy (P : Program) (w : World) (K : PySem.W.Frag) : Sp := fun vs H Q _ => ∃ l : List Pc, EntsIn K H vs [.r (l.map xD)] ∧ (∀ y ∈ l, CarOk y) ∧ l.length ≤ 200 ∧ ∀ D H', Gd K P w H H' D (groups l) → Q (.ref D) H'
end AW
set_option Elab.async false
set_option linter.all false
set_option maxRecDepth 100000
set_option maxHeartbeats 1000000
namespace AW
open PySem PySem.Spec PyProof.Rows L2 L3 AM
theorem take_succ {α : Type} {l : List α} {i : Nat} {x : α} (h : l[i]? = some x) : l.take (i + 1) = l.take i ++ [x] := by rw [List.take_add_one, h]; rfl
theorem groups_succ {l : List Pc} {i : Nat} {x : Pc} (h : l[i]? = some x) : groups (l.take (i + 1)) = groupIn (groups (l.take i)) x := by
  unfold groups
  rw [take_succ h, List.foldl_append]
  rfl
theorem addG_len (k : AM.Key) (x : Pc) : ∀ g : List (AM.Key × List Pc), (addG g k x).length ≤ g.length + 1
  | [] => by simp [addG]
  | (k', l) :: g => by
    unfold addG
    split
    · simp
    · simp only [List.length_cons]
      have := addG_len k x g
      omega
theorem groups_len (l : List Pc) : ∀ n, n ≤ l.length → (groups (l.take n)).length ≤ n
  | 0, _ => by simp [groups]
  | n + 1, h => by
    have hx : l[n]? = some l[n] := by simp
    rw [groups_succ hx]
    have := groups_len l n (by omega)
    unfold groupIn
    split
    · omega
    · have := addG_len ‹_› l[n] (groups (l.take n))
      omega
theorem addG_each {k : AM.Key} {x : Pc} {n : Nat} : ∀ {g : List (AM.Key × List Pc)}, (∀ p ∈ g, p.2.length ≤ n) → ∀ p ∈ addG g k x, p.2.length ≤ n + 1
  | [], _, p, hp => by
    simp [addG] at hp
    subst hp
    simp
  | (k', l) :: g, h, p, hp => by
    unfold addG at hp
    split at hp
    · rcases List.mem_cons.mp hp with rfl | hp
      · have := h (k', l) (by simp)
        simp at this ⊢
        omega
      · have := h p (List.mem_cons_of_mem _ hp)
        omega
    · rcases List.mem_cons.mp hp with rfl | hp
      · have := h (k', l) (by simp)
        simp at this ⊢
        omega
      · exact addG_each (fun q hq => h q (List.mem_cons_of_mem _ hq)) p hp
theorem groups_each (l : List Pc) : ∀ n, n ≤ l.length → ∀ p ∈ groups (l.take n), p.2.length ≤ n
  | 0, _, p, hp => by simp [groups] at hp
  | n + 1, h, p, hp => by
    have hx : l[n]? = some l[n] := by simp
    rw [groups_succ hx] at hp
    have ih := groups_each l n (by omega)
    unfold groupIn at hp
    split at hp
    · have := ih p hp
      omega
    · exact addG_each ih p hp
theorem dt_ref {K : PySem.W.Frag} {H : Hp} {v : V} {k : AM.Key} (h : Dt K H v (kD k)) : ∃ b, v = .ref b := by
  cases k <;> cases h <;> exact ⟨_, rfl⟩
section
variable {w : World} {K : PySem.W.Frag} {mg : Str → Option Value} {base : Heap} {kws : List (Str × V)} {f : Addr} {fd : FuncData} {P : Program}
local macro_rules | `(tactic| trivial) => `(tactic| first | exact shp_s1.ok | exact shp_s2.ok | exact shp_s3.ok | exact shp_s4.ok)
theorem c_by_carriers (F : Fd K "by_carriers" 34 kws f fd) (hm : mg "by_carriers" = some (.ref f))
    (G_carrier : Callee P w K mg base "carrier" 6 [("piece" : Str)] (spD K R_carrier)) :
    Callee P w K mg base "by_carriers" 7 [("pieces" : Str)] (spBy P w K) := by
  have hN : ([("pieces" : Str), ("found" : Str), ("piece" : Str)] : List Str).Nodup := by decide
  refine ⟨f, fd, hm, F.kp, F.bindsN (fun _ _ _ _ _ _ us h => match us, h with | [a], _ => rfl), F.ok (N := [("pieces" : Str), ("found" : Str), ("piece" : Str)]) (C8.fnScope_by (by kernel_rfl)) (fun vs H Q E ⟨l, hi, _⟩ => by rw [hi.length]; rfl) fun cdv A outer s H vs Q E hr hsp => ?_⟩
  obtain ⟨l, hi, hc, hl, hq⟩ := hsp
  have hr : Room 6 (cxn P w K mg base [("pieces" : Str), ("found" : Str), ("piece" : Str)] "by_carriers" (defScope (topS 34)) f cdv A outer s H E).A := hr
  refine ⟨_, PSs.nox (X := cxOf CX0 P w K mg base [("pieces" : Str), ("found" : Str), ("piece" : Str)] "by_carriers" (defScope (topS 34)) f cdv A outer s H E) (pss_cons (ps_set (i := 1) hN rfl (.inl rfl) pe_newN) (pss_cons (ps_for PassesOwn.never rfl (pi_list (pe_var (i := 0) rfl (.inl rfl))) (pg_name (i := 2) hN rfl (.inl rfl))
    (pss_cons (ps_if (pt_any (W := [])) (pss_cons (ps_expr (pe_bm PySem.F.plainAttrs_list PySem.F.slot_list_append PySem.F.type_list_append mt_append (pe_setN hr (pe_var (i := 1) rfl (.inl rfl)) (pe_any (W := [])) (pe_any (W := [])) ⟨rfl, rfl, rfl, rfl⟩) (pa_cons (pe_any (W := [])) pa_nil))) pss_nil) pss_nil) pss_nil)) (pss_cons (ps_ret (pe_var (i := 1) rfl (.inl rfl))) pss_nil))), ?_⟩
  cases hi with
  | @cons v0 _ _ _ h1 h2 =>
  cases h2
  obtain ⟨a0, zs, rfl, h3, h4⟩ := h1
  intro p np H1 sm1 oth1 dn1
  have g0 : Gd K P w H H1 p (groups (l.take 0)) := ⟨[], dn1, rfl, fun j k l e => by simp [groups] at e, fun i j q b q' b' a e => by simp at e, np, sm1⟩
  refine ⟨.ref a0, rfl, a0, rfl, ⟨zs, SqL.of (sm1 _ _ h3)⟩, fun i m σ H' => m = l.length - i ∧ i ≤ l.length ∧ (∃ v2, σ = [some (.ref a0), some (.ref p), v2]) ∧ Gd K P w H H' p (groups (l.take i)), ⟨l.length, by simp, Nat.zero_le _, ⟨none, rfl⟩, g0⟩, ?_⟩
  rintro i m σ H2 ⟨rfl, hil, ⟨v2, rfl⟩, xs, gd⟩
  have hz : zs.length = l.length := by rw [h4.length, List.length_map]
  have hzl : SqL K H2 a0 zs := SqL.of (gd.same _ _ h3)
  by_cases hlt : i < l.length
  · have hx : l[i]? = some l[i] := by simp [hlt]
    have hcx := hc l[i] (List.getElem_mem _)
    refine .inr ⟨⟨zs, zs[i], hzl, by simp [hz, hlt]⟩, fun σ' H' => (∃ v2, σ' = [some (.ref a0), some (.ref p), v2]) ∧ Gd K P w H H' p (groups (l.take (i + 1))), fun σ' H' n => ⟨l.length - (i + 1), by omega, rfl, hlt, n.1, n.2⟩, fun v H3 y => ?_⟩
    obtain ⟨rfl, hv⟩ := y
    have hv := hv zs hzl
    obtain ⟨d, hd1, hd2⟩ := h4.getV hv
    rw [List.getElem?_map, hx] at hd1
    cases hd1
    have hdx : Dt K H3 v (xD l[i]) := Dt.ch (Ch.of_same (W := []) gd.same) _ _ hd2
    rw [groups_succ hx]
    generalize hX : l[i] = x at *
    have sl : ∀ H4, Same H3 H4 → Slots K [] [some (.w a0 (l.map xD)), none, some (.d (xD x))] [some (.ref a0), some (.ref p), some v] H4 := fun H4 s4 => by
      refine ⟨rfl, fun j e he => ?_, fun a ha => by simp at ha⟩
      rcases j with _ | _ | _ | j
      · cases he
        exact ⟨_, rfl, rfl, zs, s4 _ _ (gd.same _ _ h3), DtAll.ch (Ch.of_same (W := []) (fun a o e => s4 a o (gd.same a o e))) _ _ h4⟩
      · cases he
      · cases he
        exact ⟨_, rfl, Dt.ch (Ch.of_same (W := []) s4) _ _ hdx⟩
      · simp at he
    cases hk : AM.keyOf x with
    | none =>
      have egi : groupIn (groups (l.take i)) x = groups (l.take i) := by unfold groupIn; rw [hk]
      rw [egi]
      cases x with
      | dot q =>
        refine ⟨_, fun Γ b => b = false, t_ne hr (x_ix (x_var 2 rfl (⟨rfl, x_int (⟨_, _, _, rfl, rfl, rfl, ⟨rfl, x_str (⟨(by trivial), (by trivial), _, rfl, ?_⟩)⟩⟩)⟩))), sl _ (Same.refl _), fun b H4 Γ2 c4 s4 hb => ?_⟩
        · show (!PyData.eqv (.str "dot") (.str "dot")) = false
          decide
        · have hb : b = false := hb
          subst hb
          exact ⟨⟨_, rfl⟩, xs, gd.grow c4.same⟩
      | _ => cases hk
    | some k =>
      have egi : groupIn (groups (l.take i)) x = addG (groups (l.take i)) k x := by unfold groupIn; rw [hk]
      rw [egi]
      have hkey : keyD x = kD k := by unfold keyD; rw [hk]
      refine ⟨[some (.w a0 (l.map xD)), none, some (.d (xD x))], fun Γ b => b = true, ?_, sl _ (Same.refl _), fun b H4 Γ2 c4 s4 hb => ?_⟩
      · cases x with
        | dot q => cases hk
        | st p q => exact t_ne hr (x_ix (x_var 2 rfl (⟨rfl, x_int (⟨_, _, _, rfl, rfl, rfl, ⟨rfl, x_str (⟨(by trivial), (by trivial), _, rfl, (by show (!PyData.eqv (.str "stretch") (.str "dot")) = true; decide)⟩)⟩⟩)⟩)))
        | arc c p q => exact t_ne hr (x_ix (x_var 2 rfl (⟨rfl, x_int (⟨_, _, _, rfl, rfl, rfl, ⟨rfl, x_str (⟨(by trivial), (by trivial), _, rfl, (by show (!PyData.eqv (.str "arc") (.str "dot")) = true; decide)⟩)⟩⟩)⟩)))
        | ring c p => exact t_ne hr (x_ix (x_var 2 rfl (⟨rfl, x_int (⟨_, _, _, rfl, rfl, rfl, ⟨rfl, x_str (⟨(by trivial), (by trivial), _, rfl, (by show (!PyData.eqv (.str "ring") (.str "dot")) = true; decide)⟩)⟩⟩)⟩)))
      have hb : b = true := hb
      subst hb
      have g4 := gd.grow c4.same
      refine ⟨.ref p, rfl, p, rfl, ⟨xs, g4.dn⟩, _, fun Γ r => r = .d (kD k), x_call G_carrier hr (a_cons (x_var 2 rfl (⟨rfl, a_nil (⟨_, ⟨x, rfl, rfl, hcx⟩, ?_⟩)⟩))), sl _ c4.same, fun y H5 Γ5 r5 c5 s5 o5 e5 => ?_⟩
      · rw [hkey]
      have e5 : r5 = .d (kD k) := e5
      subst e5
      have o5 : Dt K H5 y (kD k) := o5
      obtain ⟨b, rfl⟩ := dt_ref o5
      have s45 : Same H3 H5 := fun a o e => c5.same a o (c4.same a o e)
      refine ⟨_, fun Γ r => r = .n [], x_lst (a_nil ⟨[], rfl, Nat.le_of_ble_eq_true rfl, rfl⟩), sl _ s45, fun z H6 Γ6 r6 c6 s6 o6 e6 => ?_⟩
      have e6 : r6 = .n [] := e6
      subst e6
      obtain ⟨a, zs6, rfl, na, ha6, hd6⟩ := o6
      cases hd6
      have s46 : Same H3 H6 := fun a o e => c6.same a o (s45 a o e)
      have g5 := g4.grow c5.same
      have g6 := g5.grow c6.same
      have okb : Dt K H6 (.ref b) (kD k) := Dt.ch c6 _ _ o5
      have hxl : xs.length ≤ 200 := by
        rw [g6.len]
        have := groups_len l i hil
        omega
      have idx : ∀ (j : Nat) (y : NestedKey × Addr × Value), xs[j]? = some y → ∃ k' l' b' a' vs', (groups (l.take i))[j]? = some (k', l') ∧ y = (nk (kD k'), b', .ref a') ∧ Dt K H5 (.ref b') (kD k') ∧ H a' = none ∧ H5 a' = some (.lst vs') ∧ vs'.length ≤ 200 := fun j y hj => by
        have hjl : j < (groups (l.take i)).length := by
          have := (List.getElem?_eq_some_iff.mp hj).1
          rw [g6.len] at this
          exact this
        have e0 : (groups (l.take i))[j]? = some ((groups (l.take i))[j].1, (groups (l.take i))[j].2) := by simp [hjl]
        obtain ⟨b', a', vs', f1, f2, f3, f4, f5⟩ := g5.all j _ _ e0
        rw [hj] at f1
        cases f1
        refine ⟨_, _, b', a', vs', e0, rfl, f2, f3, f4, ?_⟩
        rw [f5.length, List.length_map]
        have := groups_each l i hil _ (List.getElem_mem hjl)
        omega
      have kin : KeysIn K H6 xs := fun y hy => by
        obtain ⟨j, hj⟩ := List.mem_iff_getElem?.mp hy
        obtain ⟨k', l', b', a', vs', f1, rfl, f2, _⟩ := idx j y hj
        exact ⟨_, rfl, Dt.ch c6 _ _ f2, dp_kD _⟩
      have xnd : ∀ (i1 j1 : Nat) (q : NestedKey) (r1 r2 : Addr × Value), xs[i1]? = some (q, r1) → xs[j1]? = some (q, r2) → i1 = j1 := fun i1 j1 q r1 r2 e1 e2 => by
        obtain ⟨_, _, _, _, nd⟩ := g6.dn
        exact idxH_unique nd e1 e2
      have hnew : ∀ (j : Nat) (q : NestedKey) (b' : Addr), xs[j]? ≠ some (q, b', .ref a) := fun j q b' e => by
        obtain ⟨k', l', b'', a', vs', f1, f2, _, _, f3, _⟩ := idx j _ e
        cases f2
        rw [na] at f3
        cases f3
      have h0a : H a = none := by
        cases e : H a with
        | none => rfl
        | some o => rw [g5.same _ _ e] at na; cases na
      refine ⟨xs, b, a, kD k, g6.dn, kin, rfl, okb, dp_kD k, rfl, by omega, fun pr hpr => ?_, fun hno H7 ch => ?_⟩
      · unfold atKey at hpr
        obtain ⟨y, hy, rfl⟩ := Option.map_eq_some_iff.mp hpr
        have hy1 : y.1 = nk (kD k) := by simpa using List.find?_some hy
        obtain ⟨j, hj⟩ := List.mem_iff_getElem?.mp (List.mem_of_find?_eq_some hy)
        obtain ⟨k', l', b', a', vs', f1, rfl, f2, f3, f4, f5⟩ := idx j y hj
        have ek : k' = k := nk_kD hy1
        subst ek
        have ha' : H6 a' = some (.lst vs') := c6.same _ _ f4
        refine ⟨.ref a', rfl, .inl ⟨rfl, _, SqL.of ha'⟩, _, fun Γ r => r = .d (xD x), x_var 2 rfl rfl, sl _ s46, fun v8 H8 Γ8 r8 c8 s8 o8 e8 => ?_⟩
        have e8 : r8 = .d (xD x) := e8
        subst e8
        have o8 : Dt K H8 v8 (xD x) := o8
        refine ⟨a', vs', v8, rfl, rfl, c8.same _ _ ha', size_lt (by omega), ⟨some v, rfl⟩, xs, ?_⟩
        rw [addG_old (j := j) (l := l') (fun i' l'' e' => ?_) f1]
        · exact (g6.grow c8.same).app f1 hj (c8.same _ _ ha') o8
        · obtain ⟨b2, a2, vs2, e2, _⟩ := g6.all i' _ _ e'
          exact Nat.le_of_eq (xnd j i' _ _ _ hj e2)
      · have nok : ∀ (j : Nat) (l' : List Pc), (groups (l.take i))[j]? ≠ some (k, l') := fun j l' e => by
          obtain ⟨b2, a2, vs2, e2, _⟩ := g6.all j _ _ e
          obtain ⟨_, _, _, _, nd⟩ := g6.dn
          rw [atKey_of_get nd e2] at hno
          cases hno
        have g7 := g6.key okb ha6 h0a hnew ch
        have hD6 := g6.dn
        have cc := dch_ch g6.dn ch
        have ha7 : H7 a = some (.lst []) := by
          obtain ⟨o, ho, n1, _⟩ := hD6.there
          rw [ch.oth a (fun z => by subst z; rw [ho] at ha6; cases ha6; exact n1 _ rfl)]
          exact ha6
        have sl7 : Slots K [] [some (.w a0 (l.map xD)), none, some (.d (xD x))] [some (.ref a0), some (.ref p), some v] H7 := by
          refine ⟨rfl, fun j e he => ?_, fun a ha => by simp at ha⟩
          rcases j with _ | _ | _ | j
          · cases he
            exact ⟨_, rfl, rfl, zs, g7.same _ _ h3, DtAll.ch (Ch.of_same (W := []) g7.same) _ _ h4⟩
          · cases he
          · cases he
            exact ⟨_, rfl, Dt.ch cc _ _ (Dt.ch (Ch.of_same (W := []) s46) _ _ hdx)⟩
          · simp at he
        refine ⟨.inl ⟨rfl, _, SqL.of ha7⟩, _, fun Γ r => r = .d (xD x), x_var 2 rfl rfl, sl7, fun v8 H8 Γ8 r8 c8 s8 o8 e8 => ?_⟩
        have e8 : r8 = .d (xD x) := e8
        subst e8
        have o8 : Dt K H8 v8 (xD x) := o8
        refine ⟨a, [], v8, rfl, rfl, c8.same _ _ ha7, size_lt (by simp), ⟨some v, rfl⟩, xs ++ [(nk (kD k), b, Value.ref a)], ?_⟩
        rw [addG_new nok]
        have hj : (groups (l.take i) ++ [(k, ([] : List Pc))])[(groups (l.take i)).length]? = some (k, []) := by rw [List.getElem?_append_right (Nat.le_refl _)]; simp
        have hjx : (xs ++ [(nk (kD k), b, Value.ref a)])[(groups (l.take i)).length]? = some (nk (kD k), b, .ref a) := by rw [← g6.len, List.getElem?_append_right (Nat.le_refl _)]; simp
        have := (g7.grow c8.same).app (x := x) hj hjx (c8.same _ _ ha7) o8
        rw [List.set_append_right _ _ (Nat.le_refl _)] at this
        simpa using this
  · refine .inl ⟨⟨zs, hzl, by omega⟩, .ref p, rfl, ?_⟩
    have e : i = l.length := by omega
    subst e
    rw [List.take_length] at gd
    exact hq p H2 ⟨xs, gd⟩
end
end AW
set_option Elab.async false
set_option linter.all false
set_option maxRecDepth 100000
set_option maxHeartbeats 1000000
namespace AW
open PySem PySem.Spec PyProof.Rows L2 L3 AM
def srt (m : List Pc) : List Pc := m.mergeSort (PySem.W.dataLe false xD)
abbrev R_joined : Rel := fun es r => ∃ l : List Pc, es = [.r (l.map xD)] ∧ r = .n ((srt (preJ l)).map xD) ∧ (∀ y ∈ l, PcOk y ∧ PcB 500 y) ∧ l.length ≤ 200
theorem carOk_of {y : Pc} (h : PcOk y ∧ PcB 500 y) : CarOk y := ⟨h.2, fun p q e z => by
  subst e z
  have h1 : before p p = true := h.1
  rw [before_iff] at h1
  grind⟩
theorem str_wk {x y : Pc} : AZ.Wk (xD x) (xD y) := by
  cases x <;> cases y <;> exact ⟨_, _, _, _, rfl, rfl, fun h => by first | exact absurd h (by decide) | rfl⟩
theorem xD_depth (x : Pc) : (xD x).depth ≤ 64 := Nat.le_trans (shp_xD x).2 (by decide)
theorem wk_all (l : List Pc) : AZ.AllWk (l.map xD) := fun d hd d' hd' => by
  obtain ⟨x, _, rfl⟩ := List.mem_map.mp hd
  obtain ⟨y, _, rfl⟩ := List.mem_map.mp hd'
  exact str_wk
theorem groups_kin {l : List Pc} (h : ∀ y ∈ l, PcOk y ∧ PcB 500 y) : ∀ p ∈ groups l, Kin p.1 p.2 ∧ p.2 ≠ [] := by
  have addk : ∀ (g : List (AM.Key × List Pc)) (k : AM.Key) (x : Pc), (PcOk x ∧ PcB 500 x) → AM.keyOf x = some k → (∀ p ∈ g, Kin p.1 p.2 ∧ p.2 ≠ []) → ∀ p ∈ addG g k x, Kin p.1 p.2 ∧ p.2 ≠ [] := by
    intro g k x hx hk
    induction g with
    | nil =>
      intro _ p hp
      simp [addG] at hp
      subst hp
      exact ⟨fun y hy => by simp at hy; subst hy; exact ⟨⟨hx.1, hk⟩, hx.2⟩, by simp⟩
    | cons q g ih =>
      intro hg p hp
      obtain ⟨k', l'⟩ := q
      unfold addG at hp
      split at hp
      · rename_i e
        subst e
        rcases List.mem_cons.mp hp with rfl | hp
        · refine ⟨fun y hy => ?_, by simp⟩
          rcases List.mem_append.mp hy with hy | hy
          · exact (hg (k', l') (by simp)).1 y hy
          · simp at hy; subst hy; exact ⟨⟨hx.1, hk⟩, hx.2⟩
        · exact hg p (List.mem_cons_of_mem _ hp)
      · rcases List.mem_cons.mp hp with rfl | hp
        · exact hg (k', l') (by simp)
        · exact ih (fun r hr => hg r (List.mem_cons_of_mem _ hr)) p hp
  have go : ∀ n, n ≤ l.length → ∀ p ∈ groups (l.take n), Kin p.1 p.2 ∧ p.2 ≠ [] := by
    intro n
    induction n with
    | zero => intro _ p hp; simp [groups] at hp
    | succ n ih =>
      intro hn p hp
      have hx : l[n]? = some l[n] := by simp
      rw [groups_succ hx] at hp
      unfold groupIn at hp
      split at hp
      · exact ih (by omega) p hp
      · exact addk _ _ _ (h _ (List.getElem_mem _)) ‹_› (ih (by omega)) p hp
  have := go l.length (Nat.le_refl _)
  rw [List.take_length] at this
  exact this
theorem joined_len {k : AM.Key} {l : List Pc} (h : Kin k l) : (joinedOn l).length ≤ l.length := by
  have := (putAll_kin h l.length (Nat.le_refl _)).2.1
  rw [List.take_length] at this
  unfold joinedOn
  split
  · rename_i e1 _
    simp
  · exact this
def sumL : List (AM.Key × List Pc) → Nat
  | [] => 0
  | p :: g => p.2.length + sumL g
theorem sum_add (k : AM.Key) (x : Pc) : ∀ g, sumL (addG g k x) = sumL g + 1
  | [] => rfl
  | (k', l) :: g => by
    unfold addG
    split
    · simp only [sumL, List.length_append, List.length_cons, List.length_nil]; omega
    · simp only [sumL]; rw [sum_add k x g]; omega
theorem sum_groups (l : List Pc) : ∀ n, n ≤ l.length → sumL (groups (l.take n)) ≤ n
  | 0, _ => by simp [groups, sumL]
  | n + 1, h => by
    have hx : l[n]? = some l[n] := by simp
    rw [groups_succ hx]
    have := sum_groups l n (by omega)
    unfold groupIn
    split
    · omega
    · rw [sum_add]; omega
theorem flat_len : ∀ (g : List (AM.Key × List Pc)), (∀ p ∈ g, Kin p.1 p.2) → ((g.map fun p => joinedOn p.2).flatten).length ≤ sumL g
  | [], _ => by simp [sumL]
  | p :: g, h => by
    have h1 := joined_len (h p (by simp))
    have h2 := flat_len g fun q hq => h q (List.mem_cons_of_mem _ hq)
    simp only [List.map_cons, List.flatten_cons, List.length_append, sumL]
    omega
theorem dh_new {xs : DXs} {k : NestedKey} (h : ∀ y ∈ xs, y.1 ≠ k) : atKey xs k = none := by
  unfold atKey
  rw [List.find?_eq_none.mpr fun y hy => by simpa using h y hy]
  rfl
/-- the dict of dots -/
structure Dd (K : PySem.W.Frag) (P : Program) (w : World) (H : Hp) (p : Addr) (ds : List Pc) (xs : DXs) : Prop where
  dn : DN P w H p xs
  len : xs.length = ds.length
  all : ∀ (j : Nat) (x : Pc), ds[j]? = some x → ∃ b : Addr, xs[j]? = some (nk (xD x), b, .bool true) ∧ Dt K H (.ref b) (xD x)
theorem Dd.idx {K : PySem.W.Frag} {P : Program} {w : World} {H : Hp} {p : Addr} {ds : List Pc} {xs : DXs} (h : Dd K P w H p ds xs) {j : Nat} {y : NestedKey × Addr × Value} (hj : xs[j]? = some y) : ∃ x b, ds[j]? = some x ∧ y = (nk (xD x), b, .bool true) ∧ Dt K H (.ref b) (xD x) := by
  have hl := (List.getElem?_eq_some_iff.mp hj).1
  rw [h.len] at hl
  obtain ⟨b, h1, h2⟩ := h.all j ds[j] (by simp [hl])
  rw [hj] at h1
  cases h1
  exact ⟨ds[j], b, by simp [hl], rfl, h2⟩
theorem Dd.grow {K : PySem.W.Frag} {P : Program} {w : World} {W : List Addr} {H H' : Hp} {p : Addr} {ds : List Pc} {xs : DXs} (h : Dd K P w H p ds xs) (c : Ch W H H') (hp : p ∉ W) : Dd K P w H' p ds xs := by
  obtain ⟨o, ho, _⟩ := h.dn.there
  exact ⟨h.dn.same (by rw [ho]; exact c.oth p o hp ho), h.len, fun j x e => by
    obtain ⟨b, f1, f2⟩ := h.all j x e
    exact ⟨b, f1, Dt.ch c _ _ f2⟩⟩
theorem Dd.kin {K : PySem.W.Frag} {P : Program} {w : World} {H : Hp} {p : Addr} {ds : List Pc} {xs : DXs} (h : Dd K P w H p ds xs) : KeysIn K H xs := fun y hy => by
  obtain ⟨j, hj⟩ := List.mem_iff_getElem?.mp hy
  obtain ⟨x, b, _, rfl, h2⟩ := h.idx hj
  exact ⟨xD x, rfl, h2, dp_xD x⟩
/-- a dot is laid in -/
theorem Dd.put {K : PySem.W.Frag} {P : Program} {w : World} {H H' : Hp} {p b : Addr} {ds : List Pc} {xs : DXs} {x : Pc} (h : Dd K P w H p ds xs) (hb : Dt K H (.ref b) (xD x)) (c : DCh P w H H' p (storedH xs (nk (xD x)) b (.bool true))) :
    ∃ xs', Dd K P w H' p (if x ∈ ds then ds else ds ++ [x]) xs' := by
  have ch := dch_ch h.dn c
  by_cases hx : x ∈ ds
  · rw [if_pos hx]
    have e : storedH xs (nk (xD x)) b (.bool true) = xs := by
      obtain ⟨j, hj⟩ := List.mem_iff_getElem?.mp hx
      obtain ⟨b', h1, _⟩ := h.all j x hj
      obtain ⟨_, _, _, _, nd⟩ := h.dn
      rw [storedH_old (atKey_of_get nd h1)]
      apply List.ext_getElem?
      intro i
      rw [List.getElem?_map]
      cases hi : xs[i]? with
      | none => rfl
      | some y =>
        obtain ⟨x', b'', _, rfl, _⟩ := h.idx hi
        simp only [Option.map_some, putAt]
        split <;> rfl
    rw [e] at c
    exact ⟨xs, c.dn, h.len, fun j x' e' => by
      obtain ⟨b', f1, f2⟩ := h.all j x' e'
      exact ⟨b', f1, Dt.ch ch _ _ f2⟩⟩
  · rw [if_neg hx]
    have hno : atKey xs (nk (xD x)) = none := dh_new fun y hy e => by
      obtain ⟨j, hj⟩ := List.mem_iff_getElem?.mp hy
      obtain ⟨x', b', f1, rfl, _⟩ := h.idx hj
      exact hx (nk_xD e ▸ List.mem_of_getElem? f1)
    rw [storedH_new hno] at c
    refine ⟨_, c.dn, by simp [h.len], fun j x' e' => ?_⟩
    by_cases hj : j < ds.length
    · rw [List.getElem?_append_left hj] at e'
      obtain ⟨b', f1, f2⟩ := h.all j x' e'
      exact ⟨b', by rw [List.getElem?_append_left (by rw [h.len]; exact hj)]; exact f1, Dt.ch ch _ _ f2⟩
    · rw [List.getElem?_append_right (by omega)] at e'
      have hj2 : j - ds.length = 0 := by
        have := (List.getElem?_eq_some_iff.mp e').1
        simp at this
        omega
      rw [hj2] at e'
      simp at e'
      subst e'
      exact ⟨b, by rw [List.getElem?_append_right (by rw [h.len]; omega), h.len, hj2]; rfl, Dt.ch ch _ _ hb⟩
theorem dots_len (found : List Pc) (l : List Pc) : ∀ n, n ≤ l.length → ((l.take n).foldl (dotIn found) []).length ≤ n
  | 0, _ => by simp
  | n + 1, h => by
    have hx : l[n]? = some l[n] := by simp
    rw [take_succ hx, List.foldl_append]
    have := dots_len found l n (by omega)
    simp only [List.foldl_cons, List.foldl_nil]
    generalize List.foldl (dotIn found) [] (l.take n) = F at *
    unfold dotIn
    split
    · split
      · omega
      · split
        · omega
        · simp; omega
    · omega
end AW
set_option Elab.async false
set_option linter.all false
set_option maxRecDepth 100000
set_option maxHeartbeats 2000000
namespace AW
open PySem PySem.Spec PyProof.Rows L2 L3 AM
local macro_rules | `(tactic| trivial) => `(tactic| first | exact shp_s1.ok | exact shp_s2.ok | exact shp_s3.ok | exact shp_s4.ok)
section
variable {w : World} {K : PySem.W.Frag} {mg : Str → Option Value} {base : Heap} {kws : List (Str × V)} {f : Addr} {fd : FuncData} {P : Program}
abbrev jN : List Str := [("pieces" : Str), ("found" : Str), ("some" : Str), ("dots" : Str), ("piece" : Str), ("other" : Str)]
def flatG (g : List (AM.Key × List Pc)) : List Pc := (g.map fun p => joinedOn p.2).flatten
/-- the slots of joined, without its dict -/
def Jn (K : PySem.W.Frag) (a0 a1 : Addr) (l fl : List Pc) (σ : L2.St) (H : Hp) : Prop := σ.length = 6 ∧ σ[0]? = some (some (.ref a0)) ∧ σ[1]? = some (some (.ref a1)) ∧ (∃ zs, H a0 = some (.lst zs) ∧ DtAll K H zs (l.map xD)) ∧ ∃ z1, H a1 = some (.lst z1) ∧ DtAll K H z1 (fl.map xD)
theorem jn_of {a0 a1 : Addr} {l fl : List Pc} {σ : L2.St} {H : Hp} {W : List Addr} (s : Slots K W [some (.w a0 (l.map xD)), some (.w a1 (fl.map xD)), none, none, none, none] σ H) : Jn K a0 a1 l fl σ H := by
  obtain ⟨v0, σ0, e0⟩ := s.at_ 0 _ rfl
  obtain ⟨rfl, zs, h3, h4⟩ := e0
  obtain ⟨v1, σ1, e1⟩ := s.at_ 1 _ rfl
  obtain ⟨rfl, z1, h5, h6⟩ := e1
  exact ⟨s.len, σ0, σ1, ⟨zs, h3, h4⟩, z1, h5, h6⟩
theorem Jn.slots {a0 a1 : Addr} {l fl : List Pc} {σ : L2.St} {H : Hp} (s : Jn K a0 a1 l fl σ H) : Slots K [a1] [some (.w a0 (l.map xD)), some (.w a1 (fl.map xD)), none, none, none, none] σ H := by
  obtain ⟨h1, h2, h3, ⟨zs, h4, h5⟩, z1, h6, h7⟩ := s
  refine ⟨h1, fun i e he => ?_, fun a ha => by rw [List.mem_singleton.mp ha, h6]; simp⟩
  rcases i with _ | _ | _ | _ | _ | _ | i
  · cases he; exact ⟨_, h2, rfl, zs, h4, h5⟩
  · cases he; exact ⟨_, h3, rfl, z1, h6, h7⟩
  all_goals first | (cases he; done) | (simp at he; done)
theorem Jn.set {a0 a1 : Addr} {l fl : List Pc} {σ : L2.St} {H : Hp} {v : Option V} (s : Jn K a0 a1 l fl σ H) (i : Nat) (h0 : i ≠ 0) (h1 : i ≠ 1) : Jn K a0 a1 l fl (σ.set i v) H := by
  obtain ⟨q1, q2, q3, q4⟩ := s
  exact ⟨by rw [List.length_set]; exact q1, by rw [List.getElem?_set_ne h0]; exact q2, by rw [List.getElem?_set_ne h1]; exact q3, q4⟩
theorem Dd.vals {H : Hp} {p : Addr} {ds : List Pc} {xs : DXs} (h : Dd K P w H p ds xs) : DtAll K H (xs.map fun x => V.ref x.2.1) (ds.map xD) := by
  have key : ∀ (ds : List Pc) (xs : DXs), xs.length = ds.length → (∀ (j : Nat) (x : Pc), ds[j]? = some x → ∃ b : Addr, xs[j]? = some (nk (xD x), b, .bool true) ∧ Dt K H (.ref b) (xD x)) → DtAll K H (xs.map fun x => V.ref x.2.1) (ds.map xD) := by
    intro ds
    induction ds with
    | nil =>
      intro xs hl _
      have : xs = [] := List.length_eq_zero_iff.mp hl
      subst this
      exact .nil
    | cons d ds ih =>
      intro xs hl ha
      cases xs with
      | nil => simp at hl
      | cons y ys =>
        obtain ⟨b, h1, h2⟩ := ha 0 d rfl
        simp at h1
        subst h1
        exact .cons h2 (ih ys (by simpa using hl) fun j x e => by simpa using ha (j + 1) x (by simpa using e))
  exact key ds xs h.len h.all
def onsD (fl : List Pc) (q : Pt) (n : Nat) : List PyData := (fl.take n).map fun y => .bool (on y q)
theorem onsD_step {fl : List Pc} {q : Pt} {n : Nat} {y : Pc} (h : fl[n]? = some y) : onsD fl q (n + 1) = onsD fl q n ++ [.bool (on y q)] := by
  unfold onsD
  rw [take_succ h, List.map_append]
  rfl
theorem onsD_all (fl : List Pc) (q : Pt) : onsD fl q fl.length = (fl.map fun y => on y q).map PyData.bool := by
  unfold onsD
  rw [List.take_length, List.map_map]
  rfl
theorem second_bd {x : Pc} (h : PcB 500 x) : BdP 500 (second x) := by
  cases x
  · exact h
  · exact h.2
  · exact h.2.1
  · exact h.2
theorem joined_bd {k : AM.Key} {l : List Pc} (h : Kin k l) {x : Pc} (hx : x ∈ joinedOn l) : PcB 500 x := by
  have q := (putAll_kin h l.length (Nat.le_refl _)).1
  rw [List.take_length] at q
  unfold joinedOn at hx
  split at hx
  · rename_i c p fr s sr e
    simp at hx
    subst hx
    have e' : List.foldl putIn [] (s :: sr) = Pc.ring c p :: fr := e
    have := (q (.ring c p) (by rw [e']; simp)).2
    exact ⟨this.1, second_bd (h s (by simp)).2⟩
  · exact (q x hx).2
theorem flatJ_bd {l : List Pc} (h : ∀ y ∈ l, PcOk y ∧ PcB 500 y) {x : Pc} (hx : x ∈ flatJ l) : PcB 500 x := by
  unfold flatJ at hx
  rw [List.mem_flatten] at hx
  obtain ⟨m, hm, hx⟩ := hx
  obtain ⟨p, hp, rfl⟩ := List.mem_map.mp hm
  exact joined_bd (groups_kin h p hp).1 hx
theorem c_joined (F : Fd K "joined" 39 kws f fd) (hm : mg "joined" = some (.ref f)) (hany : mg "any" = none) (hsorted : mg "sorted" = none) (hlist : mg "list" = none)
    (G_by : Callee P w K mg base "by_carriers" 7 [("pieces" : Str)] (spBy P w K))
    (G_joined_on : Callee P w K mg base "joined_on" 10 [("some" : Str)] (spD K R_joined_on))
    (G_on : Callee P w K mg base "on" 7 [("piece" : Str), ("p" : Str)] (spD K R_on)) :
    Callee P w K mg base "joined" 11 [("pieces" : Str)] (spD K R_joined) := by
  refine mk_d (N := jN) F hm (C8.fnScope_by (by kernel_rfl)) (fun _ _ _ _ _ _ us h => match us, h with | [a], _ => rfl) (fun es r hR => by obtain ⟨_, h, _⟩ := hR; rw [h]; rfl) fun cdv A outer s H E hr es r as hR => ?_
  have hN : jN.Nodup := by decide
  obtain ⟨l, rfl, rfl, hok, hl⟩ := hR
  refine b_setN 1 hN (x_lst (a_nil ⟨[], rfl, Nat.le_of_ble_eq_true rfl, _, rfl, fun a1 ha1 hnew1 haW1 => b_wide (i := 1) rfl ha1 ?_⟩))
  have hne : as 0 ≠ a1 := hnew1 0 _ rfl (fun _ z => nomatch z) (fun _ z => nomatch z)
  obtain ⟨fB, fdB, m1, m2, m3, m4⟩ := G_by.ex
  have hkin := groups_kin hok
  have hgl : sumL (groups l) ≤ 200 := by
    have := sum_groups l l.length (Nat.le_refl _)
    rw [List.take_length] at this
    omega
  have hflat : ∀ i, (flatG ((groups l).take i)).length ≤ 200 := fun i => by
    have h1 : ∀ (g : List (AM.Key × List Pc)) (i : Nat), sumL (g.take i) ≤ sumL g := by
      intro g
      induction g with
      | nil => intro i; simp [sumL]
      | cons p g ih =>
        intro i
        cases i with
        | zero => simp [sumL]
        | succ i => simp only [List.take_succ_cons, sumL]; have := ih i; omega
    have h2 := flat_len ((groups l).take i) fun p hp => (hkin p (List.mem_of_mem_take hp)).1
    have h3 := h1 (groups l) i
    unfold flatG
    omega
  refine PSs.imp (pss_cons (ps_for PassesOwn.never rfl (pi_valuesN (pe_call m4 (hr.mono (by decide)) rfl m1 m2 m3 .nil pass0 (pa_cons (pe_var (i := 0) rfl (.inl rfl)) pa_nil))) (pg_name (i := 2) hN rfl (.inl rfl)) pss_any)
    (pss_cons (ps_set (i := 3) hN rfl (.inl rfl) pe_newN)
    (pss_cons (ps_for PassesOwn.never rfl (pi_list (pe_var (i := 0) rfl (.inl rfl))) (pg_name (i := 4) hN rfl (.inr rfl)) (pss_cons (ps_if (pt_any (W := [a1])) (pss_cons (ps_putN hr (pe_var (i := 3) rfl (.inl rfl)) (pe_var (i := 4) rfl (.inr (.inl rfl))) pe_bl) pss_nil) pss_nil) pss_nil))
    (pss_cons (ps_ret (pe_callB (cr_sortedW (enc := xD) hr) rfl hsorted (by decide +kernel) (pa_cons (pe_op op_cat (pe_var (i := 1) rfl (.inl rfl)) (pe_callTy (cr_listN rfl) rfl hlist (by decide +kernel) (pa_cons (pe_var (i := 3) rfl (.inl rfl)) pa_nil))) pa_nil))) pss_nil)))) fun D σ H1 q => ?_
  obtain ⟨gr, sl, _, qrt, _, _⟩ := q
  obtain ⟨v0, σ0, e0⟩ := sl.at_ 0 _ rfl
  obtain ⟨rfl, zs, h3, h4⟩ := e0
  obtain ⟨v1, σ1, e1⟩ := sl.at_ 1 _ rfl
  obtain ⟨rfl, z1, h5, h6⟩ := e1
  refine ⟨.ref (as 0), σ0, l, .cons ⟨as 0, zs, rfl, h3, h4⟩ .nil, fun y hy => carOk_of (hok y hy), hl, fun Dc H2 gd => ?_⟩
  obtain ⟨xs, gx⟩ := gd
  obtain ⟨es, ep, d1, d2, d3⟩ := id gx.dn
  have hesz : es.size = (groups l).length := by rw [← Array.length_toList, d2, List.length_map, gx.len]
  have hval : ∀ i (hi : i < es.size), ∃ (k : AM.Key) (lg : List Pc) (a : Addr) (vs : List V), (groups l)[i]? = some (k, lg) ∧ es[i].val = .ref a ∧ H1 a = none ∧ H2 a = some (.lst vs) ∧ DtAll K H2 vs (lg.map xD) := fun i hi => by
    have hg : i < (groups l).length := by omega
    have e0 : (groups l)[i]? = some ((groups l)[i].1, (groups l)[i].2) := by simp [hg]
    obtain ⟨b, a, vs, f1, f2, f3, f4, f5⟩ := gx.all i _ _ e0
    have e5 : es.toList[i]? = some es[i] := by simp [hi]
    rw [d2, List.getElem?_map, f1] at e5
    have e6 : entryOfKey (nestedKind P w) (nk (kD (groups l)[i].1), b, .ref a) = es[i] := by simpa using e5
    exact ⟨_, _, a, vs, e0, by rw [← e6]; rfl, f3, f4, f5⟩
  have hDn : Dc ≠ a1 := fun z => by subst z; rw [gx.new] at h5; cases h5
  refine ⟨Dc, es, ep, rfl, d1, fun i hi => by obtain ⟨_, _, a, _, _, e, _⟩ := hval i hi; exact ⟨.ref a, by rw [e]; rfl⟩, ?_⟩
  have gr2 : Grd H [] [a1] H2 := gr.step (Ch.of_same gx.same)
  refine ⟨fun i m σ' H' => m = es.size - i ∧ i ≤ es.size ∧ Slots K [a1] [some (.w (as 0) (l.map xD)), some (.w a1 ((flatG ((groups l).take i)).map xD)), none, none, none, none] σ' H' ∧ Ch [a1] H2 H', ⟨es.size, by simp, Nat.zero_le _, sl.same gx.same, Ch.refl⟩, ?_⟩
  rintro i m σ2 H3 ⟨rfl, hi, sl', ch'⟩
  have hD' : H3 Dc = some (dR Dc es ep) := ch'.oth _ _ (by simpa using hDn) d1
  by_cases hlt : i < es.size
  · refine .inr ⟨⟨hD', hlt⟩, fun σ' H' => Slots K [a1] [some (.w (as 0) (l.map xD)), some (.w a1 ((flatG ((groups l).take (i + 1))).map xD)), none, none, none, none] σ' H' ∧ Ch [a1] H2 H', fun σ' H' n => ⟨es.size - (i + 1), by omega, rfl, hlt, n⟩, fun x H4 y => ?_⟩
    obtain ⟨rfl, e, he, hx⟩ := y
    obtain ⟨k, lg, a, vs, g1, g2, g3, g4, g5⟩ := hval i hlt
    have ee : es[i] = e := by simpa [hlt] using he
    rw [← ee, g2] at hx
    have ex : x = .ref a := by
      cases x with
      | ref b => cases hx; rfl
      | int _ => obtain ⟨_, z⟩ := hx; cases z
      | str _ => obtain ⟨_, z⟩ := hx; cases z
      | _ => first | (cases hx; done) | (obtain ⟨_, z⟩ := hx; cases z; done) | (exact hx.elim)
    subst ex
    have hane : a ≠ a1 := fun z => by subst z; rw [g3] at h5; cases h5
    have okA : EntOk K H4 (.ref a) (.w a (lg.map xD)) := ⟨rfl, vs, ch'.oth _ _ (by simpa using hane) g4, DtAll.ch ch' _ _ g5⟩
    have hmem : (k, lg) ∈ groups l := List.mem_of_getElem? g1
    obtain ⟨kin, lne⟩ := hkin _ hmem
    have lgl : lg.length ≤ 200 := by
      have : ∀ (g : List (AM.Key × List Pc)), (k, lg) ∈ g → lg.length ≤ sumL g := by
        intro g
        induction g with
        | nil => intro h; simp at h
        | cons p g ih =>
          intro h
          rcases List.mem_cons.mp h with rfl | h
          · simp only [sumL]; omega
          · have := ih h; simp only [sumL]; omega
      have := this _ hmem
      omega
    have efl : flatG ((groups l).take (i + 1)) = flatG ((groups l).take i) ++ joinedOn lg := by
      unfold flatG
      rw [take_succ g1, List.map_append, List.flatten_append]
      simp
    refine ⟨H2, [a1], [a1], [some (.w (as 0) (l.map xD)), some (.w a1 ((flatG ((groups l).take i)).map xD)), some (.w a (lg.map xD)), none, none, none], { nx := fun Γ' => Γ' = [some (.w (as 0) (l.map xD)), some (.w a1 ((flatG ((groups l).take (i + 1))).map xD)), some (.w a (lg.map xD)), none, none, none], rt := fun _ _ => False },
      b_extend 1 rfl rfl (x_call G_joined_on hr (a_consV 2 rfl (a_nil ⟨_, rfl, (fun _ z => nomatch z), _, ⟨k, lg, rfl, rfl, kin, lne, lgl⟩, a1, _, _, rfl, alone_of (by repeat' (first | exact True.intro | assumption | apply And.intro)), List.mem_singleton_self _, rfl, ?_, b_nil ?_⟩))), ⟨ch', fun b hb => .inl hb⟩, sl'.put (i := 2) okA, fun σ4 H5 Γ4 g s p => ?_, fun _ _ _ _ _ _ _ _ p => p.elim, fun _ _ _ _ _ p => p.elim, fun _ _ _ _ _ p => p.elim⟩
    · rw [List.length_map, List.length_map]
      have h1 : (joinedOn lg).length ≤ lg.length := joined_len kin
      have h2 := hflat i
      omega
    · rw [efl, List.map_append]
      rfl
    · have p : Γ4 = _ := p
      subst p
      exact ⟨s.less rfl fun j e h => by
        rcases j with _ | _ | _ | _ | _ | _ | j
        · exact h
        · exact h
        all_goals first | (cases h; done) | (simp at h; done), g.ch⟩
  · refine .inl ⟨⟨hD', by omega⟩, ?_⟩
    have ei : i = es.size := by omega
    subst ei
    rw [hesz, List.take_length] at sl'
    have gr3 : Grd H [] [a1] H3 := gr2.step ch'
    have eF : flatG (groups l) = flatJ l := rfl
    rw [eF] at sl'
    have hfl : (flatJ l).length ≤ 200 := by
      have := hflat (groups l).length
      rw [List.take_length] at this
      exact this
    intro p np H4 sm oth dn
    have hp0 : H p = none := gr3.ch.none_back np
    have J0 := jn_of (sl'.same sm)
    have pne : p ≠ as 0 ∧ p ≠ a1 := by
      obtain ⟨_, _, _, ⟨zs', q1, _⟩, z1', q2, _⟩ := jn_of sl'
      exact ⟨fun z => (by rw [← z, np] at q1; cases q1), fun z => (by rw [← z, np] at q2; cases q2)⟩
    have J1 : Jn K (as 0) a1 l (flatJ l) (σ2.set 3 (some (.ref p))) H4 := J0.set 3 (by decide) (by decide)
    refine ⟨.ref (as 0), J1.2.1, as 0, rfl, by obtain ⟨_, _, _, ⟨zs', q1, _⟩, _⟩ := J1; exact ⟨zs', SqL.of q1⟩, fun j m σ' H' => m = l.length - j ∧ j ≤ l.length ∧ Jn K (as 0) a1 l (flatJ l) σ' H' ∧ σ'[3]? = some (some (.ref p)) ∧ Ch [] H H' ∧ ∃ xs, Dd K P w H' p ((l.take j).foldl (dotIn (flatJ l)) []) xs,
      ⟨l.length, by simp, Nat.zero_le _, J1, by rw [List.getElem?_set_self (by rw [J0.1]; decide)], gr3.ch.trans (Ch.of_same sm), [], dn, rfl, fun j x h => by simp at h⟩, ?_⟩
    rintro j m σ3 H5 ⟨rfl, hj, J, hσ3, cH, xs5, dd⟩
    obtain ⟨jl, j0, j1, ⟨zs5, q1, q2⟩, z15, q3, q4⟩ := id J
    have hz5 : zs5.length = l.length := by rw [q2.length, List.length_map]
    by_cases hjl : j < l.length
    · have hx : l[j]? = some l[j] := by simp [hjl]
      have hyok := hok l[j] (List.getElem_mem _)
      refine .inr ⟨⟨zs5, zs5[j]'(by omega), SqL.of q1, by simp [hz5, hjl]⟩, fun σ' H' => Jn K (as 0) a1 l (flatJ l) σ' H' ∧ σ'[3]? = some (some (.ref p)) ∧ Ch [] H H' ∧ ∃ xs, Dd K P w H' p ((l.take (j + 1)).foldl (dotIn (flatJ l)) []) xs, fun σ' H' n => ⟨l.length - (j + 1), by omega, rfl, hjl, n⟩, fun v H6 y => ?_⟩
      obtain ⟨rfl, hv⟩ := y
      have hv := hv zs5 (SqL.of q1)
      obtain ⟨d, hd1, hd2⟩ := q2.getV hv
      rw [List.getElem?_map, hx] at hd1
      cases hd1
      rw [take_succ hx, List.foldl_append]
      simp only [List.foldl_cons, List.foldl_nil]
      generalize hF : (l.take j).foldl (dotIn (flatJ l)) [] = ds at dd ⊢
      have hds : ds.length ≤ 200 := by
        rw [← hF]
        have := dots_len (flatJ l) l j hj
        omega
      generalize l[j] = x at hd2 hyok ⊢
      have sl6 : Slots K [a1] [some (.w (as 0) (l.map xD)), some (.w a1 ((flatJ l).map xD)), none, none, some (.d (xD x)), none] (σ3.set 4 (some v)) H6 := J.slots.put (i := 4) (r := .d (xD x)) hd2
      have hσ4 : (σ3.set 4 (some v))[4]? = some (some v) := by rw [List.getElem?_set_self (by rw [jl]; decide)]
      have hσ3' : (σ3.set 4 (some v))[3]? = some (some (.ref p)) := by rw [List.getElem?_set_ne (by decide)]; exact hσ3
      have J6 : Jn K (as 0) a1 l (flatJ l) (σ3.set 4 (some v)) H6 := J.set 4 (by decide) (by decide)
      have go7 : ∀ (Γ7 : Gam) (H7 : Hp), Ch [a1] H6 H7 → Slots K [a1] Γ7 (σ3.set 4 (some v)) H7 → Γ7 = [some (.w (as 0) (l.map xD)), some (.w a1 ((flatJ l).map xD)), none, none, some (.d (xD x)), none] →
          Jn K (as 0) a1 l (flatJ l) (σ3.set 4 (some v)) H7 ∧ Ch [] H H7 ∧ Dd K P w H7 p ds xs5 ∧ Dt K H7 v (xD x) := fun Γ7 H7 c7 s7 e7 => by
        subst e7
        refine ⟨jn_of (s7.less rfl fun j e h => by
          rcases j with _ | _ | _ | _ | _ | _ | j
          · exact h
          · exact h
          all_goals first | (cases h; done) | (simp at h; done)), ((⟨cH, fun b hb => .inr (by rw [List.mem_singleton.mp hb]; exact ha1)⟩ : Grd H [] [a1] H6).step c7).ch, dd.grow c7 (by simpa using pne.2), Dt.ch c7 _ _ hd2⟩
      cases x with
      | st u1 u2 =>
        refine ⟨_, fun Γ b => Γ = [some (.w (as 0) (l.map xD)), some (.w a1 ((flatJ l).map xD)), none, none, some (.d (xD (.st u1 u2))), none] ∧ b = false, t_w (w_and (t_eq hr (x_ix (x_var 4 rfl (⟨rfl, x_int (⟨_, _, _, rfl, rfl, rfl, ⟨rfl, x_str (⟨(by trivial), (by trivial), _, rfl, ⟨fun t1 => absurd (eqS t1) (by decide), fun t1 => ⟨rfl, rfl⟩⟩⟩)⟩⟩)⟩))))), sl6, fun b H7 Γ7 c7 s7 hb => ?_⟩
        obtain ⟨e7, rfl⟩ := hb
        obtain ⟨a, b, c, d⟩ := go7 Γ7 H7 c7 s7 e7
        exact ⟨a, hσ3', b, xs5, c⟩
      | arc u1 u2 u3 =>
        refine ⟨_, fun Γ b => Γ = [some (.w (as 0) (l.map xD)), some (.w a1 ((flatJ l).map xD)), none, none, some (.d (xD (.arc u1 u2 u3))), none] ∧ b = false, t_w (w_and (t_eq hr (x_ix (x_var 4 rfl (⟨rfl, x_int (⟨_, _, _, rfl, rfl, rfl, ⟨rfl, x_str (⟨(by trivial), (by trivial), _, rfl, ⟨fun t1 => absurd (eqS t1) (by decide), fun t1 => ⟨rfl, rfl⟩⟩⟩)⟩⟩)⟩))))), sl6, fun b H7 Γ7 c7 s7 hb => ?_⟩
        obtain ⟨e7, rfl⟩ := hb
        obtain ⟨a, b, c, d⟩ := go7 Γ7 H7 c7 s7 e7
        exact ⟨a, hσ3', b, xs5, c⟩
      | ring u1 u2 =>
        refine ⟨_, fun Γ b => Γ = [some (.w (as 0) (l.map xD)), some (.w a1 ((flatJ l).map xD)), none, none, some (.d (xD (.ring u1 u2))), none] ∧ b = false, t_w (w_and (t_eq hr (x_ix (x_var 4 rfl (⟨rfl, x_int (⟨_, _, _, rfl, rfl, rfl, ⟨rfl, x_str (⟨(by trivial), (by trivial), _, rfl, ⟨fun t1 => absurd (eqS t1) (by decide), fun t1 => ⟨rfl, rfl⟩⟩⟩)⟩⟩)⟩))))), sl6, fun b H7 Γ7 c7 s7 hb => ?_⟩
        obtain ⟨e7, rfl⟩ := hb
        obtain ⟨a, b, c, d⟩ := go7 Γ7 H7 c7 s7 e7
        exact ⟨a, hσ3', b, xs5, c⟩
      | dot q =>
        refine ⟨_, fun Γ b => Γ = [some (.w (as 0) (l.map xD)), some (.w a1 ((flatJ l).map xD)), none, none, some (.d (xD (.dot q))), none] ∧ b = !((flatJ l).any fun z => on z q), t_w (w_and (t_eq hr (x_ix (x_var 4 rfl (⟨rfl, x_int (⟨_, _, _, rfl, rfl, rfl, ⟨rfl, x_str (⟨(by trivial), (by trivial), _, rfl, ⟨fun t1 => ?_, fun t1 => absurd (eqS t1) (by decide)⟩⟩)⟩⟩)⟩))))), sl6, fun b H7 Γ7 c7 s7 hb => ?_⟩
        · refine w_and1 (t_not (t_val (x_any rfl hany (a_cons (x_lc0 [("other", 5)] rfl hN (blkOk_by (by kernel_rfl)) (i_var 1 rfl rfl rfl ⟨rfl, onsD (flatJ l) q, rfl, by rw [List.length_map]; omega, fun j d hd => ?_, ?_⟩))))))
          · rw [List.getElem?_map] at hd
            obtain ⟨y, hy, rfl⟩ := Option.map_eq_some_iff.mp hd
            have hyb := flatJ_bd hok (List.mem_of_getElem? hy)
            have hy9 : PcB 900 y := by
              cases y
              · exact BdP.le hyb (by decide)
              · exact ⟨hyb.1.le (by decide), hyb.2.le (by decide)⟩
              · exact ⟨hyb.1.le (by decide), hyb.2.1.le (by decide), hyb.2.2.le (by decide)⟩
              · exact ⟨hyb.1.le (by decide), hyb.2.le (by decide)⟩
            refine ⟨_, _, fun s H C cl fp => g_name 5 hN, by decide, fun _ => fun s H C cl fp => ?_, fun h => nomatch h⟩
            exact x_call G_on hr (a_cons (x_var 5 rfl ⟨rfl, a_cons (x_ix (x_var 4 rfl ⟨rfl, x_int ⟨_, _, _, rfl, rfl, rfl, rfl, a_nil ⟨_, ⟨y, q, rfl, rfl, hy9, BdP.le hyok.2 (by decide)⟩, _, rfl, onsD_step hy⟩⟩⟩))⟩))
          · refine ⟨rfl, a_nil ⟨_, (flatJ l).map fun y => on y q, rfl, ?_, _, rfl, rfl, ?_⟩⟩
            · rw [List.length_map]
              exact congrArg some (onsD_all _ _)
            · rw [List.any_map]
              rfl
        · obtain ⟨e7, hb⟩ := hb
          obtain ⟨J7, cH7, dd7, hv7⟩ := go7 Γ7 H7 c7 s7 e7
          cases ha : (flatJ l).any fun z => on z q with
          | true =>
            rw [ha] at hb
            have hb : b = false := hb
            subst hb
            have e : dotIn (flatJ l) ds (.dot q) = ds := by show (if ((flatJ l).any fun y => on y q) = true then ds else (if Pc.dot q ∈ ds then ds else ds ++ [Pc.dot q])) = _; rw [if_pos ha]
            rw [e]
            exact ⟨J7, hσ3', cH7, xs5, dd7⟩
          | false =>
            rw [ha] at hb
            have hb : b = true := hb
            subst hb
            have e : dotIn (flatJ l) ds (.dot q) = if Pc.dot q ∈ ds then ds else ds ++ [.dot q] := by show (if ((flatJ l).any fun y => on y q) = true then ds else (if Pc.dot q ∈ ds then ds else ds ++ [Pc.dot q])) = _; rw [if_neg (by rw [ha]; decide)]
            rw [e]
            obtain ⟨b7, rfl⟩ : ∃ b7, v = .ref b7 := by cases hv7; exact ⟨_, rfl⟩
            refine ⟨.ref p, hσ3', .ref b7, hσ4, p, xs5, b7, xD (.dot q), true, rfl, dd7.dn, dd7.kin, rfl, hv7, dp_xD _, rfl, by rw [dd7.len]; omega, fun H8 ch8 => ?_⟩
            obtain ⟨xs8, dd8⟩ := dd7.put hv7 ch8
            have c8 := dch_ch dd7.dn ch8
            obtain ⟨r1, r2, r3, ⟨r4, r5, r6⟩, r7, r8, r9⟩ := J7
            refine ⟨⟨r1, r2, r3, ⟨r4, by rw [ch8.oth _ (Ne.symm pne.1)]; exact r5, DtAll.ch c8 _ _ r6⟩, r7, by rw [ch8.oth _ (Ne.symm pne.2)]; exact r8, DtAll.ch c8 _ _ r9⟩, hσ3', ?_, xs8, dd8⟩
            exact ((⟨cH7, fun b hb => .inr (by rw [List.mem_singleton.mp hb]; exact hp0)⟩ : Grd H [] [p] H7).step c8).ch
    · refine .inl ⟨⟨zs5, SqL.of q1, by omega⟩, ?_⟩
      have ej : j = l.length := by omega
      subst ej
      rw [List.take_length] at dd
      have eD : l.foldl (dotIn (flatJ l)) [] = dotsOf (flatJ l) l := rfl
      rw [eD] at dd
      have hdl : (dotsOf (flatJ l) l).length ≤ 200 := by
        have := dots_len (flatJ l) l l.length (Nat.le_refl _)
        rw [List.take_length, eD] at this
        omega
      have hpm : p ∉ ([] : List Addr) := by simp
      refine ⟨.ref a1, j1, .ref p, hσ3, p, xs5, rfl, dd.dn, by rw [dd.len]; omega, fun l2 nl2 => ?_⟩
      have s2 := same_new (o := .lst (xs5.map fun x => V.ref x.2.1)) nl2
      have hdots : DtAll K (upd H5 l2 (.lst (xs5.map fun x => V.ref x.2.1))) (xs5.map fun x => V.ref x.2.1) ((dotsOf (flatJ l) l).map xD) := DtAll.ch (Ch.of_same (W := []) s2) _ _ (dd.vals)
      refine ⟨a1, l2, z15, _, rfl, rfl, s2 _ _ q3, upd_same, size_ok (by rw [q4.length, List.length_map, List.length_map, dd.len]; omega), fun l3 nl3 => ?_⟩
      have s3 := same_new (o := .lst (z15 ++ xs5.map fun x => V.ref x.2.1)) nl3
      have s23 : Same H5 (upd (upd H5 l2 (.lst (xs5.map fun x => V.ref x.2.1))) l3 (.lst (z15 ++ xs5.map fun x => V.ref x.2.1))) := fun a o e => s3 a o (s2 a o e)
      refine ⟨l3, _, preJ l, rfl, SqL.of upd_same, ?_, wk_all _, fun b _ => xD_depth b, ?_, fun l4 ys nl4 hys => ?_⟩
      · unfold preJ
        rw [List.map_append]
        exact (DtAll.ch (Ch.of_same (W := []) s23) _ _ q4).append (DtAll.ch (Ch.of_same (W := []) s3) _ _ hdots)
      · unfold preJ
        rw [List.length_append]
        omega
      · have s4 := same_new (o := .lst ys) nl4
        have s234 : Same H5 _ := fun a o e => s4 a o (s23 a o e)
        have cE : Ch [] H _ := cH.trans (Ch.of_same s234)
        refine qrt (.ref l4) σ3 _ _ (.n ((srt (preJ l)).map xD)) ⟨cE, fun b hb => .inr (by rw [List.mem_singleton.mp hb]; exact ha1)⟩ (J.slots.same s234) ⟨l4, ys, rfl, (cH.trans (Ch.of_same s23)).none_back nl4, upd_same, DtAll.ch (Ch.of_same (W := []) s4) _ _ hys⟩ (.inl rfl)
end
end AW
set_option Elab.async false
set_option linter.all false
set_option maxRecDepth 100000
set_option maxHeartbeats 2000000
namespace AW
open PySem PySem.Spec PyProof.Rows L2 L3 AM
local macro_rules | `(tactic| trivial) => `(tactic| first | exact (shp_pD _).ok | exact (shp_fD _).ok | exact (shp_kD _).ok | exact (shp_xD _).ok | exact shp_keyE _ | exact shp_keyE _ | exact shp_s1.ok | exact shp_s2.ok | exact shp_s3.ok | exact shp_s4.ok | exact shp_s5.ok | exact shp_s6.ok | exact (shp_int 0 _).ok)
section
variable {w : World} {K : PySem.W.Frag} {mg : Str → Option Value} {base : Heap} {kws : List (Str × V)} {f : Addr} {fd : FuncData} {P : Program}
theorem c__law_cell_at (F : Fd K "_law_cell_at" 47 kws f fd) (hm : mg "_law_cell_at" = some (.ref f)) (hlen : mg "len" = none) :
    Callee P w K mg base "_law_cell_at" 1 [("_law_script" : Str), ("_law_k" : Str)] (spD K R__law_cell_at) := by
  refine mk_d (N := [("_law_script" : Str), ("_law_k" : Str)]) F hm (C8.fnScope_by (by kernel_rfl)) (fun _ _ _ _ _ _ us h => match us, h with | [a, b], _ => rfl) (fun es r hR => by obtain ⟨_, _, h, _⟩ := hR; rw [h]; rfl) fun cdv A outer s H E hr es r as hR => ?_
  have hN : ([("_law_script" : Str), ("_law_k" : Str)] : List Str).Nodup := by decide
  obtain ⟨a, ns, rfl, rfl⟩ := hR
  refine b_if (t_lt (x_var 1 rfl (⟨rfl, x_len hlen (a_consV 0 rfl (a_nil (⟨_, rfl, (fun _ z => nomatch z), ⟨_, _, rfl, rfl, ⟨_, _, rfl, rfl, trivial, _, rfl, ⟨fun hb => ?_, fun hb => ?_⟩⟩⟩⟩)))⟩)))
  · have hb : 0 < (ns.map PyData.int).length := by simpa using hb
    cases ns with
    | nil => simp at hb
    | cons n ns =>
      refine b_ret (x_ixV 0 rfl (x_var 1 rfl (⟨_, _, _, _, rfl, rfl, rfl, at_zero, .inl ?_⟩)))
      rfl
  · have hb : ¬ 0 < (ns.map PyData.int).length := by simpa using hb
    refine b_nil ?_
    refine b_ret (x_int (.inl ?_))
    cases ns with
    | nil => rfl
    | cons n ns => simp at hb
theorem c__law_feed (F : Fd K "_law_feed" 48 kws f fd) (hm : mg "_law_feed" = some (.ref f)) (hint : mg "int" = none) :
    Callee P w K mg base "_law_feed" 1 [("_law_cell" : Str)] (spD K R__law_feed) := by
  refine mk_d (N := [("_law_cell" : Str)]) F hm (C8.fnScope_by (by kernel_rfl)) (fun _ _ _ _ _ _ us h => match us, h with | [a], _ => rfl) (fun es r hR => by obtain ⟨_, h, _⟩ := hR; rw [h]; rfl) fun cdv A outer s H E hr es r as hR => ?_
  have hN : ([("_law_cell" : Str)] : List Str).Nodup := by decide
  obtain ⟨i, rfl, rfl⟩ := hR
  refine b_ret (x_lst (a_cons (x_var 0 rfl (⟨rfl, a_cons (x_int (⟨rfl, a_cons (x_intB hint (a_cons (x_ge (x_var 0 rfl (⟨rfl, x_pow (x_int (⟨rfl, x_int (⟨_, _, rfl, rfl, ?_, ⟨_, _, rfl, rfl, trivial, ⟨rfl, a_nil (⟨_, rfl, ⟨rfl, a_nil (⟨[_, _, _], rfl, Nat.le_of_ble_eq_true rfl, .inl ?_⟩)⟩⟩)⟩⟩⟩)⟩))⟩)))))⟩))⟩))))
  · exact ⟨by decide, by decide, by decide⟩
  · rfl
theorem c__law_lowest (F : Fd K "_law_lowest" 50 kws f fd) (hm : mg "_law_lowest" = some (.ref f)) (habs : mg "abs" = none) :
    Callee P w K mg base "_law_lowest" 1 [("_law_top" : Str), ("_law_bottom" : Str)] (spD K R__law_lowest) := by
  refine mk_d (N := [("_law_top" : Str), ("_law_bottom" : Str), ("_law_one_here" : Str), ("_law_other" : Str)]) F hm (C8.fnScope_by (by kernel_rfl)) (fun _ _ _ _ _ _ us h => match us, h with | [a, b], _ => rfl) (fun es r hR => by obtain ⟨_, _, h, _⟩ := hR; rw [h]; rfl) fun cdv A outer s H E hr es r as hR => ?_
  have hN : ([("_law_top" : Str), ("_law_bottom" : Str), ("_law_one_here" : Str), ("_law_other" : Str)] : List Str).Nodup := by decide
  obtain ⟨t, b, rfl, rfl, hb0, hbb⟩ := hR
  have hg : (Int.gcd t b : Int) ≠ 0 := by
    have := Int.gcd_ne_zero_right (a := t) hb0
    omega
  have hgb : Int.gcd t b < 2 ^ 9000 := Nat.lt_of_le_of_lt (Nat.le_of_dvd (by omega) (Int.gcd_dvd_natAbs_right ..)) hbb
  refine b_set 2 hN (x_abs habs (a_cons (x_var 0 rfl (⟨rfl, a_nil (⟨_, rfl, ⟨rfl, ?_⟩⟩)⟩))))
  refine b_set 3 hN (x_abs habs (a_cons (x_var 1 rfl (⟨rfl, a_nil (⟨_, rfl, ⟨rfl, ?_⟩⟩)⟩))))
  refine b_while (fun m Γ => ∃ a : Nat, Γ = [some (.d (.int t)), some (.d (.int b)), some (.d (.int a)), some (.d (.int m))] ∧ Nat.gcd a m = Int.gcd t b) b.natAbs ⟨t.natAbs, ?_, rfl⟩ fun c Γ hI => ?_
  · show [some (Ent.d (.int t)), some (Ent.d (.int b)), some (Ent.d (.int (if t < 0 then -t else t))), some (Ent.d (.int (if b < 0 then -b else b)))] = _
    rw [show (if t < 0 then -t else t) = (t.natAbs : Int) by split <;> omega, show (if b < 0 then -b else b) = (b.natAbs : Int) by split <;> omega]
  · obtain ⟨a, rfl, hga⟩ := hI
    refine t_gt (x_var 3 rfl (⟨rfl, x_int (⟨_, _, rfl, rfl, trivial, _, rfl, ⟨fun hb => ?_, fun hb => ?_⟩⟩)⟩))
    · have hc : 0 < c := by simpa using hb
      refine b_par 2 3 rfl hN (a_cons (x_var 3 rfl ⟨rfl, a_cons (x_mod (x_var 2 rfl ⟨rfl, x_var 3 rfl ⟨_, _, rfl, rfl, by omega, rfl, a_nil ⟨_, _, rfl, ?_⟩⟩⟩))⟩))
      refine b_nil ⟨a % c, Nat.mod_lt _ hc, c, rfl, ?_⟩
      rw [Nat.gcd_comm, ← Nat.gcd_rec, Nat.gcd_comm]
      exact hga
    · have hc : c = 0 := by simpa using hb
      subst hc
      have ea : a = Int.gcd t b := by rw [← hga]; simp
      subst ea
      refine b_if (t_lt (x_var 1 rfl (⟨rfl, x_int (⟨_, _, rfl, rfl, trivial, _, rfl, ⟨fun hb => ?_, fun hb => ?_⟩⟩)⟩)))
      · have hb : b < 0 := by simpa using hb
        refine b_set 2 hN (x_sub (x_int (⟨rfl, x_var 2 rfl (⟨_, _, rfl, rfl, trivial, ⟨rfl, ?_⟩⟩)⟩)))
        refine b_nil ?_
        refine b_ret (x_tup (a_cons (x_fdiv (x_var 0 rfl (⟨rfl, x_var 2 rfl (⟨_, _, rfl, rfl, ?_, ⟨rfl, a_cons (x_fdiv (x_var 1 rfl (⟨rfl, x_var 2 rfl (⟨_, _, rfl, rfl, ?_, ⟨rfl, a_nil (⟨[_, _], rfl, Nat.le_of_ble_eq_true rfl, .inl ?_⟩)⟩⟩)⟩)))⟩⟩)⟩)))))
        · exact cd (n := 9000) (by omega) (by omega)
        · exact cd (n := 9000) (by omega) (by omega)
        exact congrArg Ent.d (divInt_fdiv t b hb0 _ (by rw [if_pos hb]))
      · have hb : ¬ b < 0 := by simpa using hb
        refine b_nil ?_
        refine b_ret (x_tup (a_cons (x_fdiv (x_var 0 rfl (⟨rfl, x_var 2 rfl (⟨_, _, rfl, rfl, ?_, ⟨rfl, a_cons (x_fdiv (x_var 1 rfl (⟨rfl, x_var 2 rfl (⟨_, _, rfl, rfl, ?_, ⟨rfl, a_nil (⟨[_, _], rfl, Nat.le_of_ble_eq_true rfl, .inl ?_⟩)⟩⟩)⟩)))⟩⟩)⟩)))))
        · exact cd (n := 9000) (by omega) (by omega)
        · exact cd (n := 9000) (by omega) (by omega)
        exact congrArg Ent.d (divInt_fdiv t b hb0 _ (by rw [if_neg hb]))
theorem c__law_sum (F : Fd K "_law_sum" 53 kws f fd) (hm : mg "_law_sum" = some (.ref f))
    (G__law_lowest : Callee P w K mg base "_law_lowest" 1 [("_law_top" : Str), ("_law_bottom" : Str)] (spD K R__law_lowest)) :
    Callee P w K mg base "_law_sum" 2 [("_law_one_here" : Str), ("_law_other" : Str), ("_law_by" : Str)] (spD K R__law_sum) := by
  refine mk_d (N := [("_law_one_here" : Str), ("_law_other" : Str), ("_law_by" : Str)]) F hm (C8.fnScope_by (by kernel_rfl)) (fun _ _ _ _ _ _ us h => match us, h with | [a, b, c], _ => rfl) (fun es r hR => by obtain ⟨_, _, _, h, _⟩ := hR; rw [h]; rfl) fun cdv A outer s H E hr es r as hR => ?_
  have hN : ([("_law_one_here" : Str), ("_law_other" : Str), ("_law_by" : Str)] : List Str).Nodup := by decide
  obtain ⟨p, q, b, rfl, rfl, hb, h1, h2⟩ := hR
  have bb : b.natAbs < 2 ^ 1 := by rcases hb with rfl | rfl <;> decide
  refine b_ret (x_call G__law_lowest hr (a_cons (x_add (x_mul (x_ix (x_var 0 rfl (⟨rfl, x_int (⟨_, _, _, rfl, rfl, rfl, ⟨rfl, x_ix (x_var 1 rfl (⟨rfl, x_int (⟨_, _, _, rfl, rfl, rfl, ⟨_, _, rfl, rfl, ?_, ⟨rfl, x_mul (x_mul (x_var 2 rfl (⟨rfl, x_ix (x_var 1 rfl (⟨rfl, x_int (⟨_, _, _, rfl, rfl, rfl, ⟨_, _, rfl, rfl, ?_, ⟨rfl, x_ix (x_var 0 rfl (⟨rfl, x_int (⟨_, _, _, rfl, rfl, rfl, ⟨_, _, rfl, rfl, ?_, ⟨_, _, rfl, rfl, trivial, ⟨rfl, a_cons (x_mul (x_ix (x_var 0 rfl (⟨rfl, x_int (⟨_, _, _, rfl, rfl, rfl, ⟨rfl, x_ix (x_var 1 rfl (⟨rfl, x_int (⟨_, _, _, rfl, rfl, rfl, ⟨_, _, rfl, rfl, ?_, ⟨rfl, a_nil (⟨_, ⟨_, _, rfl, rfl, ?_, ?_⟩, .inl ?_⟩)⟩⟩⟩)⟩))⟩⟩)⟩))))⟩⟩⟩⟩)⟩))⟩⟩⟩)⟩))⟩)))⟩⟩⟩)⟩))⟩⟩)⟩)))))))
  · exact cm h1.1 h2.den
  · exact cm bb h2.1
  · exact cm (n := 1 + 4400) (int_mul_lt bb h2.1) h1.den
  · exact cm h1.den h2.den
  · exact dd_ne p q
  · exact Nat.lt_of_lt_of_le (int_mul_lt h1.den h2.den) (Nat.pow_le_pow_right (by decide) (by decide))
  · rcases hb with rfl | rfl
    · rw [if_pos rfl, add_div]
      refine congrArg (fun z => Ent.d (fD (Rat.divInt z _))) ?_
      grind
    · rw [if_neg (by decide), sub_div]
      refine congrArg (fun z => Ent.d (fD (Rat.divInt z _))) ?_
      grind
theorem c__law_product (F : Fd K "_law_product" 54 kws f fd) (hm : mg "_law_product" = some (.ref f))
    (G__law_lowest : Callee P w K mg base "_law_lowest" 1 [("_law_top" : Str), ("_law_bottom" : Str)] (spD K R__law_lowest)) :
    Callee P w K mg base "_law_product" 2 [("_law_one_here" : Str), ("_law_other" : Str)] (spD K R__law_product) := by
  refine mk_d (N := [("_law_one_here" : Str), ("_law_other" : Str)]) F hm (C8.fnScope_by (by kernel_rfl)) (fun _ _ _ _ _ _ us h => match us, h with | [a, b], _ => rfl) (fun es r hR => by obtain ⟨_, _, h, _⟩ := hR; rw [h]; rfl) fun cdv A outer s H E hr es r as hR => ?_
  have hN : ([("_law_one_here" : Str), ("_law_other" : Str)] : List Str).Nodup := by decide
  obtain ⟨p, q, rfl, rfl, h1, h2⟩ := hR
  refine b_ret (x_call G__law_lowest hr (a_cons (x_mul (x_ix (x_var 0 rfl (⟨rfl, x_int (⟨_, _, _, rfl, rfl, rfl, ⟨rfl, x_ix (x_var 1 rfl (⟨rfl, x_int (⟨_, _, _, rfl, rfl, rfl, ⟨_, _, rfl, rfl, ?_, ⟨rfl, a_cons (x_mul (x_ix (x_var 0 rfl (⟨rfl, x_int (⟨_, _, _, rfl, rfl, rfl, ⟨rfl, x_ix (x_var 1 rfl (⟨rfl, x_int (⟨_, _, _, rfl, rfl, rfl, ⟨_, _, rfl, rfl, ?_, ⟨rfl, a_nil (⟨_, ⟨_, _, rfl, rfl, ?_, ?_⟩, .inl ?_⟩)⟩⟩⟩)⟩))⟩⟩)⟩))))⟩⟩⟩)⟩))⟩⟩)⟩))))))
  · exact cm h1.1 h2.1
  · exact cm h1.den h2.den
  · exact dd_ne p q
  · exact Nat.lt_of_lt_of_le (int_mul_lt h1.den h2.den) (Nat.pow_le_pow_right (by decide) (by decide))
  · rw [mul_div]
theorem c__law_both (F : Fd K "_law_both" 55 kws f fd) (hm : mg "_law_both" = some (.ref f))
    (G__law_sum : Callee P w K mg base "_law_sum" 2 [("_law_one_here" : Str), ("_law_other" : Str), ("_law_by" : Str)] (spD K R__law_sum)) :
    Callee P w K mg base "_law_both" 3 [("_law_p" : Str), ("_law_q" : Str), ("_law_by" : Str)] (spD K R__law_both) := by
  refine mk_d (N := [("_law_p" : Str), ("_law_q" : Str), ("_law_by" : Str)]) F hm (C8.fnScope_by (by kernel_rfl)) (fun _ _ _ _ _ _ us h => match us, h with | [a, b, c], _ => rfl) (fun es r hR => by obtain ⟨_, _, _, h, _⟩ := hR; rw [h]; rfl) fun cdv A outer s H E hr es r as hR => ?_
  have hN : ([("_law_p" : Str), ("_law_q" : Str), ("_law_by" : Str)] : List Str).Nodup := by decide
  obtain ⟨p, q, b, rfl, rfl, hb, h1, h2⟩ := hR
  refine b_ret (x_tup (a_cons (x_call G__law_sum hr (a_cons (x_ix (x_var 0 rfl (⟨rfl, x_int (⟨_, _, _, rfl, rfl, rfl, ⟨rfl, a_cons (x_ix (x_var 1 rfl (⟨rfl, x_int (⟨_, _, _, rfl, rfl, rfl, ⟨rfl, a_cons (x_var 2 rfl (⟨rfl, a_nil (⟨_, ⟨_, _, _, rfl, rfl, ?_, ?_, ?_⟩, ⟨rfl, a_cons (x_call G__law_sum hr (a_cons (x_ix (x_var 0 rfl (⟨rfl, x_int (⟨_, _, _, rfl, rfl, rfl, ⟨rfl, a_cons (x_ix (x_var 1 rfl (⟨rfl, x_int (⟨_, _, _, rfl, rfl, rfl, ⟨rfl, a_cons (x_var 2 rfl (⟨rfl, a_nil (⟨_, ⟨_, _, _, rfl, rfl, ?_, ?_, ?_⟩, ⟨rfl, a_nil (⟨[_, _], rfl, Nat.le_of_ble_eq_true rfl, .inl ?_⟩)⟩⟩)⟩))⟩⟩)⟩)))⟩⟩)⟩)))))⟩⟩)⟩))⟩⟩)⟩)))⟩⟩)⟩)))))))
  · exact hb
  · exact h1.1
  · exact h2.1
  · exact hb
  · exact h1.2
  · exact h2.2
  · rcases hb with rfl | rfl <;> rfl
theorem c__law_mixed (F : Fd K "_law_mixed" 64 kws f fd) (hm : mg "_law_mixed" = some (.ref f))
    (G__law_both : Callee P w K mg base "_law_both" 3 [("_law_p" : Str), ("_law_q" : Str), ("_law_by" : Str)] (spD K R__law_both))
    (G__law_sum : Callee P w K mg base "_law_sum" 2 [("_law_one_here" : Str), ("_law_other" : Str), ("_law_by" : Str)] (spD K R__law_sum))
    (G__law_product : Callee P w K mg base "_law_product" 2 [("_law_one_here" : Str), ("_law_other" : Str)] (spD K R__law_product)) :
    Callee P w K mg base "_law_mixed" 4 [("_law_p" : Str), ("_law_q" : Str), ("_law_by" : Str)] (spD K R__law_mixed) := by
  refine mk_d (N := [("_law_p" : Str), ("_law_q" : Str), ("_law_by" : Str), ("_law_way" : Str)]) F hm (C8.fnScope_by (by kernel_rfl)) (fun _ _ _ _ _ _ us h => match us, h with | [a, b, c], _ => rfl) (fun es r hR => by obtain ⟨_, _, _, h, _⟩ := hR; rw [h]; rfl) fun cdv A outer s H E hr es r as hR => ?_
  have hN : ([("_law_p" : Str), ("_law_q" : Str), ("_law_by" : Str), ("_law_way" : Str)] : List Str).Nodup := by decide
  obtain ⟨p, q, t, rfl, rfl, h1, h2, h3⟩ := hR
  refine b_set 3 hN (x_call G__law_both hr (a_cons (x_var 1 rfl (⟨rfl, a_cons (x_var 0 rfl (⟨rfl, a_cons (x_neg (x_int (⟨_, rfl, ⟨rfl, a_nil (⟨_, ⟨_, _, _, rfl, rfl, ?_, ?_, ?_⟩, ⟨rfl, ?_⟩⟩)⟩⟩)))⟩))⟩))))
  · decide
  · exact h2.le (by decide)
  · exact h1.le (by decide)
  show XB _ _ _ _ _ [some (.d (pD p)), some (.d (pD q)), some (.d (fD t)), some (.d (pD (off q p)))] _
  have ho : BdP 401 (off q p) := h2.off h1
  refine b_ret (x_tup (a_cons (x_call G__law_sum hr (a_cons (x_ix (x_var 0 rfl (⟨rfl, x_int (⟨_, _, _, rfl, rfl, rfl, ⟨rfl, a_cons (x_call G__law_product hr (a_cons (x_ix (x_var 3 rfl (⟨rfl, x_int (⟨_, _, _, rfl, rfl, rfl, ⟨rfl, a_cons (x_var 2 rfl (⟨rfl, a_nil (⟨_, ⟨_, _, rfl, rfl, ?_, ?_⟩, ⟨rfl, a_cons (x_int (⟨rfl, a_nil (⟨_, ⟨_, _, _, rfl, rfl, ?_, ?_, ?_⟩, ⟨rfl, a_cons (x_call G__law_sum hr (a_cons (x_ix (x_var 0 rfl (⟨rfl, x_int (⟨_, _, _, rfl, rfl, rfl, ⟨rfl, a_cons (x_call G__law_product hr (a_cons (x_ix (x_var 3 rfl (⟨rfl, x_int (⟨_, _, _, rfl, rfl, rfl, ⟨rfl, a_cons (x_var 2 rfl (⟨rfl, a_nil (⟨_, ⟨_, _, rfl, rfl, ?_, ?_⟩, ⟨rfl, a_cons (x_int (⟨rfl, a_nil (⟨_, ⟨_, _, _, rfl, rfl, ?_, ?_, ?_⟩, ⟨rfl, a_nil (⟨[_, _], rfl, Nat.le_of_ble_eq_true rfl, .inl ?_⟩)⟩⟩)⟩))⟩⟩)⟩))⟩⟩)⟩)))))⟩⟩)⟩)))))⟩⟩)⟩))⟩⟩)⟩))⟩⟩)⟩)))))⟩⟩)⟩)))))))
  · exact ho.1.le (by decide)
  · exact h3.le (by decide)
  · decide
  · exact h1.1.le (by decide)
  · exact (ho.1.mul h3).le (by decide)
  · exact ho.2.le (by decide)
  · exact h3.le (by decide)
  · decide
  · exact h1.2.le (by decide)
  · exact (ho.2.mul h3).le (by decide)
  · rfl
theorem c__law_first (F : Fd K "_law_first" 65 kws f fd) (hm : mg "_law_first" = some (.ref f)) (hzip : mg "zip" = none) :
    Callee P w K mg base "_law_first" 1 [("_law_p" : Str), ("_law_q" : Str)] (spD K R__law_first) := by
  refine mk_d (N := [("_law_p" : Str), ("_law_q" : Str), ("_law_one_here" : Str), ("_law_other" : Str)]) F hm (C8.fnScope_by (by kernel_rfl)) (fun _ _ _ _ _ _ us h => match us, h with | [a, b], _ => rfl) (fun es r hR => by obtain ⟨_, _, h, _⟩ := hR; rw [h]; rfl) fun cdv A outer s H E hr es r as hR => ?_
  have hN : ([("_law_p" : Str), ("_law_q" : Str), ("_law_one_here" : Str), ("_law_other" : Str)] : List Str).Nodup := by decide
  obtain ⟨p, q, rfl, rfl, h1, h2⟩ := hR
  refine b_for rfl (i_zipT hzip (a_cons (x_var 0 rfl ⟨rfl, a_cons (x_var 1 rfl ⟨rfl, a_nil ⟨_, _, rfl, fun k Γ => ∃ v2 v3, Γ = [some (.d (pD p)), some (.d (pD q)), v2, v3] ∧ (k = 0 ∨ p.1 = q.1) ∧ (k < 2 ∨ p.2 = q.2), ⟨_, _, rfl, .inl rfl, .inl (by decide)⟩, fun _ _ _ => trivial, fun k d Γ2 hk hI => ?_, fun Γ2 hI => ?_⟩⟩)⟩)))
  · obtain ⟨v2, v3, rfl, e1, e2⟩ := hI
    rcases k with _ | _ | k
    · simp [zipD] at hk
      subst hk
      refine ⟨_, _, g_tup2 2 3 rfl hN, fun B' hB => ?_⟩
      refine b_if (t_ne hr (x_var 2 rfl (⟨rfl, x_var 3 rfl (⟨(by trivial), (by trivial), _, rfl, ⟨fun hb => ?_, fun hb => ?_⟩⟩)⟩)))
      · have hb := neF hb
        have hb : ¬ p.1 = q.1 := by simpa using hb
        refine b_ret (x_lt (x_mul (x_ix (x_var 2 rfl (⟨rfl, x_int (⟨_, _, _, rfl, rfl, rfl, ⟨rfl, x_ix (x_var 3 rfl (⟨rfl, x_int (⟨_, _, _, rfl, rfl, rfl, ⟨_, _, rfl, rfl, ?_, ⟨rfl, x_mul (x_ix (x_var 3 rfl (⟨rfl, x_int (⟨_, _, _, rfl, rfl, rfl, ⟨rfl, x_ix (x_var 2 rfl (⟨rfl, x_int (⟨_, _, _, rfl, rfl, rfl, ⟨_, _, rfl, rfl, ?_, ⟨_, _, rfl, rfl, trivial, .inl ?_⟩⟩⟩)⟩))⟩⟩)⟩)))⟩⟩⟩)⟩))⟩⟩)⟩)))))
        · exact cm h1.1.1 h2.1.den
        · exact cm h2.1.1 h1.1.den
        · refine congrArg (fun b => Ent.d (.bool b)) ?_
          unfold before below
          simp only [hb, decide_false, Bool.false_and, Bool.or_false]
          exact (decide_eq_decide.mpr (Rat.lt_iff p.1 q.1)).symm
      · have hb := neF hb
        have hb : p.1 = q.1 := by simpa using hb
        refine b_nil (b_nil ⟨_, _, rfl, .inr hb, .inl (by decide)⟩)
    · simp [zipD] at hk
      subst hk
      have e1 : p.1 = q.1 := by simpa using e1
      refine ⟨_, _, g_tup2 2 3 rfl hN, fun B' hB => ?_⟩
      refine b_if (t_ne hr (x_var 2 rfl (⟨rfl, x_var 3 rfl (⟨(by trivial), (by trivial), _, rfl, ⟨fun hb => ?_, fun hb => ?_⟩⟩)⟩)))
      · have hb := neF hb
        refine b_ret (x_lt (x_mul (x_ix (x_var 2 rfl (⟨rfl, x_int (⟨_, _, _, rfl, rfl, rfl, ⟨rfl, x_ix (x_var 3 rfl (⟨rfl, x_int (⟨_, _, _, rfl, rfl, rfl, ⟨_, _, rfl, rfl, ?_, ⟨rfl, x_mul (x_ix (x_var 3 rfl (⟨rfl, x_int (⟨_, _, _, rfl, rfl, rfl, ⟨rfl, x_ix (x_var 2 rfl (⟨rfl, x_int (⟨_, _, _, rfl, rfl, rfl, ⟨_, _, rfl, rfl, ?_, ⟨_, _, rfl, rfl, trivial, .inl ?_⟩⟩⟩)⟩))⟩⟩)⟩)))⟩⟩⟩)⟩))⟩⟩)⟩)))))
        · exact cm h1.2.1 h2.2.den
        · exact cm h2.2.1 h1.2.den
        · refine congrArg (fun b => Ent.d (.bool b)) ?_
          unfold before below
          have n1 : ¬ p.1 < q.1 := by grind
          simp only [e1, decide_true, Bool.true_and]
          rw [show decide (q.1 < q.1) = false from by simp, Bool.false_or]
          exact (decide_eq_decide.mpr (Rat.lt_iff p.2 q.2)).symm
      · have hb := neF hb
        have hb : p.2 = q.2 := by simpa using hb
        refine b_nil (b_nil ⟨_, _, rfl, .inr e1, .inr hb⟩)
    · simp [zipD] at hk
  · obtain ⟨v2, v3, rfl, e1, e2⟩ := hI
    have e1 : p.1 = q.1 := by simpa [zipD] using e1
    have e2 : p.2 = q.2 := by simpa [zipD] using e2
    refine b_ret (x_bl (.inl ?_))
    refine congrArg (fun b => Ent.d (.bool b)) ?_
    unfold before below
    rw [e1, e2]
    simp

end
end AW
set_option Elab.async false
set_option linter.all false
set_option maxRecDepth 100000
set_option maxHeartbeats 1000000
/-! what the law's own draws promise -/
namespace AW
open PySem PySem.Spec PyProof.Rows L2 L3 AM
def Fk (m : Nat) (fd : List PyData) : Prop := ∃ (c fl : Int) (k : Nat), fd = [.int c, .int (k : Nat), .int fl] ∧ k ≤ m
/-- a def that draws from the feed: c times or fewer; its result f x, T of x -/
def spF (K : PySem.W.Frag) (N c : Nat) {ι : Type} (A : List Ent → Prop) (T : List Ent → ι → Prop) (f : ι → Ent) : Sp :=
  spW K (fun fd es => (∃ m, m ≤ N ∧ Fk m fd) ∧ A es) (fun fd es fd' r => (∀ m, Fk m fd → Fk (m + c) fd') ∧ ∃ x, T es x ∧ r = f x)
theorem Fk.le {m n : Nat} {fd : List PyData} (h : Fk m fd) (hn : m ≤ n) : Fk n fd := by
  obtain ⟨c, fl, k, e, hk⟩ := h
  exact ⟨c, fl, k, e, Nat.le_trans hk hn⟩
section
variable {X : Cx} {W : List Addr} {Γ : Gam} {P : Po} {e : Expr} {pos p : Pos} {k j : Nat} {es : List Expr} {x : Str} {ps : List Str}
theorem x_from {N c : Nat} {ι : Type} {A : List Ent → Prop} {T : List Ent → ι → Prop} {f : ι → Ent} (G : Callee X.prog X.w X.K X.mg X.base x j ps (spF X.K N c A T f)) (hr : Room k X.A)
    (h : XA X W (e :: es) Γ fun Γ2 rs => ∃ a fd rs' m, rs = .w a fd :: rs' ∧ Γ2[0]? = some (some (.w a fd)) ∧ Alone Γ2 0 a ∧ a ∈ W ∧ Fk m fd ∧ m ≤ N ∧ A (rs'.map Ent.wk) ∧ ∀ fd' x, Fk (m + c) fd' → T (rs'.map Ent.wk) x → P (Γ2.set 0 (some (.w a fd'))) (f x)) (hj : j ≤ k := by decide) (hg : Gl X x := by rfl)
    (hdb : (x == ("__debug__" : Str)) = false := by decide) (he : starEach (e :: es) X.env = (false, eval e X.env) :: starEach es X.env := by rfl) (hpl : (backTo pos (starEach es X.env)).any (·.1) = false := by rfl) : XE X W (.Call (.Name x p) (e :: es) [] pos) Γ P := by
  refine x_callW 0 G hr (PA.imp h fun σ H Q q => ⟨q.1, fun vs H2 Γ2 rs c s o hp => q.2 vs H2 Γ2 rs c s o ?_⟩) hj hg hdb he hpl
  obtain ⟨a, fd, rs', m, h1, h2, h3, h4, h5, h6, h7, h8⟩ := hp
  exact ⟨a, fd, rs', h1, h2, h3, h4, ⟨⟨m, h6, h5⟩, h7⟩, fun fd' r ⟨hF, x, hx, hr⟩ => by
    subst hr
    exact h8 fd' x (hF m h5) hx⟩
end
abbrev T_draw (es : List Ent) (i : Int) : Prop := ∃ many : Int, es = [.d (.int many)] ∧ 0 ≤ i ∧ i < many
abbrev sp_draw (K : PySem.W.Frag) : Sp := spF K 100000 1 (fun es => ∃ many : Int, es = [.d (.int many)] ∧ 0 < many ∧ many < 2 ^ 60) T_draw fun i => .d (.int i)
abbrev sp_small (K : PySem.W.Frag) : Sp := spF K 90000 3 (fun es => es = []) (fun _ q => Bd 20 q) fun q => .d (fD q)
abbrev sp_spot (K : PySem.W.Frag) : Sp := spF K 80000 6 (fun es => es = []) (fun _ p => BdP 20 p) fun p => .d (pD p)
abbrev sp_share (K : PySem.W.Frag) : Sp := spF K 90000 3 (fun es => es = []) (fun _ q => Bd 10 q) fun q => .d (fD q)
abbrev sp_start (K : PySem.W.Frag) : Sp := spF K 70000 12 (fun es => es = []) (fun _ (x : Pt × Pt) => BdP 20 x.1 ∧ BdP 41 x.2 ∧ far x.1 x.2 ≠ 0) fun x => .d (.tuple [pD x.1, pD x.2])
abbrev sp_base (K : PySem.W.Frag) : Sp := spF K 70000 12 (fun es => es = []) (fun _ (x : Pt × Pt) => BdP 25 x.1 ∧ BdP 25 x.2) fun x => .d (.tuple [pD x.1, pD x.2])
abbrev sp_some (K : PySem.W.Frag) : Sp := spF K 70000 8 (fun es => ∃ c a : Pt, es = [.d (pD c), .d (pD a), .d (.int 2)] ∧ BdP 20 c ∧ BdP 41 a)
  (fun es (x : Pt × Pt) => ∃ c a : Pt, es = [.d (pD c), .d (pD a), .d (.int 2)] ∧ BdP 190 x.1 ∧ BdP 190 x.2 ∧ far c x.1 = far c a ∧ far c x.2 = far c a) fun x => .n [pD x.1, pD x.2]
abbrev sp_weighed (K : PySem.W.Frag) : Sp := spF K 70000 1 (fun es => ∃ p q : Pt, es = [.d (.tuple [pD p, pD q])] ∧ BdP 25 p ∧ BdP 25 q) (fun _ p => BdP 90 p) fun p => .d (pD p)
/-- a piece as the law draws it -/
def Drawn (x : Pc) : Prop := PcOk x ∧ PcB 190 x ∧ (∀ c, (∃ p q, x = .arc c p q) ∨ (∃ p, x = .ring c p) → BdP 20 c) ∧ ∀ p q, x = .st p q → BdP 90 p ∧ BdP 90 q
abbrev sp_one (K : PySem.W.Frag) : Sp := spF K 60000 20 (fun es => ∃ p q c a : Pt, es = [.d (.tuple [pD p, pD q]), .d (pD c), .d (pD a)] ∧ BdP 25 p ∧ BdP 25 q ∧ BdP 20 c ∧ BdP 41 a ∧ far c a ≠ 0) (fun _ x => Drawn x) fun x => .d (xD x)
abbrev sp_parts (K : PySem.W.Frag) : Sp := spF K 60000 1 (fun es => ∃ x : Pc, es = [.d (xD x)] ∧ Drawn x) (fun es (ys : List Pc) => ∃ x : Pc, es = [.d (xD x)] ∧ PartsOf x ys ∧ (∀ y ∈ ys, PcB 500 y) ∧ ys.length ≤ 4) fun ys => .n (ys.map xD)
theorem fk_split {N : Nat} {fd0 : List PyData} (h : ∃ m, m ≤ N ∧ Fk m fd0) : ∃ k, Fk k fd0 ∧ k ≤ N ∧ ∀ m, Fk m fd0 → k ≤ m := by
  obtain ⟨m, hm, c, fl, k, rfl, hk⟩ := h
  refine ⟨k, ⟨c, fl, k, rfl, Nat.le_refl _⟩, by omega, fun m' ⟨c', fl', k', e, hk'⟩ => ?_⟩
  cases e
  exact hk'
end AW
set_option Elab.async false
set_option linter.all false
set_option maxRecDepth 100000
set_option maxHeartbeats 2000000
namespace AW
open PySem PySem.Spec PyProof.Rows L2 L3 AM
local macro_rules | `(tactic| trivial) => `(tactic| first | exact (shp_pD _).ok | exact (shp_fD _).ok | exact (shp_kD _).ok | exact (shp_xD _).ok | exact shp_keyE _ | exact shp_keyE _ | exact shp_s1.ok | exact shp_s2.ok | exact shp_s3.ok | exact shp_s4.ok | exact shp_s5.ok | exact shp_s6.ok | exact (shp_int 0 _).ok)
section
variable {w : World} {K : PySem.W.Frag} {mg : Str → Option Value} {base : Heap} {kws : List (Str × V)} {f : Addr} {fd : FuncData} {P : Program}
theorem c__law_draw (F : Fd K "_law_draw" 49 kws f fd) (hm : mg "_law_draw" = some (.ref f)) :
    Callee P w K mg base "_law_draw" 1 [("_law_from" : Str), ("_law_many" : Str)] (sp_draw K) := by
  refine mk_w (N := [("_law_from" : Str), ("_law_many" : Str), ("_law_k" : Str), ("_law_found" : Str), ("_law_number" : Str)]) F hm (C8.fnScope_by (by kernel_rfl)) (fun _ _ _ _ _ _ us h => match us, h with | [a, b], _ => rfl) (fun fd es hA => by obtain ⟨_, _, h, _⟩ := hA; rw [h]; rfl) fun cdv A outer s H E hr a fd0 es as hA => ?_
  have hN : ([("_law_from" : Str), ("_law_many" : Str), ("_law_k" : Str), ("_law_found" : Str), ("_law_number" : Str)] : List Str).Nodup := by decide
  obtain ⟨hF, many, rfl, hm0, hm1⟩ := hA
  obtain ⟨k, ⟨c, fl, k', rfl, hk'⟩, hkN, hmin⟩ := fk_split hF
  have hkk : k = k' := by
    have := hmin k' ⟨c, fl, k', rfl, Nat.le_refl _⟩
    omega
  subst hkk
  have al : ∀ (v2 v3 v4 : Option PyData) (fd : List PyData), Alone [some (.w a fd), some (.d (.int many)), v2.map Ent.d, v3.map Ent.d, v4.map Ent.d] 0 a := fun v2 v3 v4 fd => alone_of (by cases v2 <;> cases v3 <;> cases v4 <;> (repeat' (first | exact True.intro | apply And.intro)))
  refine b_set 2 hN (x_ixV 0 rfl (x_int (⟨_, _, _, _, rfl, rfl, rfl, (rfl : atI [PyData.int c, .int (k : Nat), .int fl] 1 = _), ⟨rfl, ?_⟩⟩)))
  refine b_put 0 (x_add (x_var 2 rfl (⟨rfl, x_int (⟨_, _, rfl, rfl, trivial, ⟨_, _, _, rfl, rfl, rfl, x_int (⟨a, _, 1, rfl, rfl, al (some (.int (k : Nat))) none none _, List.mem_singleton_self _, Nat.le_of_ble_eq_true rfl, ?_⟩)⟩⟩)⟩)))
  have fin : ∀ (c' : Int) (i : Int), 0 ≤ i → i < many → ∃ fd' r, ((∀ m, Fk m [.int c, .int (k : Nat), .int fl] → Fk (m + 1) fd') ∧ ∃ x : Int, T_draw [.d (.int many)] x ∧ r = .d (.int x)) ∧ some (some (Ent.w a [PyData.int c', .int ((k : Int) + 1), .int fl])) = some (some (.w a fd')) ∧ Rt H r (.d (.int i)) := fun c' i h0 h1 => by
    refine ⟨_, _, ⟨fun m hm => ⟨c', fl, k + 1, by simp, by have := hmin m hm; omega⟩, i, ⟨many, rfl, h0, h1⟩, rfl⟩, rfl, .inl rfl⟩
  have hlog : many.natAbs.log2 < 9000 := by
    have := log_le (a := many.natAbs) (n := 60) (by omega)
    omega
  show XB _ _ _ _ _ [some (.w a [.int c, .int ((k : Int) + 1), .int fl]), some (.d (.int many)), some (.d (.int (k : Nat))), none, none] _
  refine b_ifB (decide (fl = 1) && decide (0 < c)) (t_w (w_and (t_eq hr (x_ixV 0 rfl (x_int (⟨_, _, _, _, rfl, rfl, rfl, (rfl : atI [PyData.int c, .int ((k : Int) + 1), .int fl] 2 = _), ⟨rfl, x_int (⟨(by trivial), (by trivial), _, rfl, ⟨fun t1 => w_and1 (t_gt (x_ixV 0 rfl (x_int (⟨_, _, _, _, rfl, rfl, rfl, (rfl : atI [PyData.int c, .int ((k : Int) + 1), .int fl] 0 = _), ⟨rfl, x_int (⟨_, _, rfl, rfl, trivial, _, rfl, ⟨rfl, ?_⟩⟩)⟩⟩)))), fun t1 => ⟨rfl, ?_⟩⟩⟩)⟩⟩)))))) (fun hb => ?_) (fun hb => ?_)
  · rw [eqI t1, Bool.true_and]
  · rw [eqI t1, Bool.false_and]
  · refine b_set 3 hN (x_mod (x_ixV 0 rfl (x_int (⟨_, _, _, _, rfl, rfl, rfl, (rfl : atI [PyData.int c, .int ((k : Int) + 1), .int fl] 0 = _), ⟨rfl, x_var 1 rfl (⟨_, _, rfl, rfl, hm0, ⟨rfl, ?_⟩⟩)⟩⟩))))
    refine b_put 0 (x_fdiv (x_ixV 0 rfl (x_int (⟨_, _, _, _, rfl, rfl, rfl, (rfl : atI [PyData.int c, .int ((k : Int) + 1), .int fl] 0 = _), ⟨rfl, x_var 1 rfl (⟨_, _, rfl, rfl, ⟨by omega, hlog⟩, ⟨_, _, _, rfl, rfl, rfl, x_int (⟨a, _, 0, rfl, rfl, al (some (.int (k : Nat))) (some (.int (c % many))) none _, List.mem_singleton_self _, Nat.le_of_ble_eq_true rfl, ?_⟩)⟩⟩)⟩⟩))))
    refine b_ret (x_var 3 rfl (fin _ _ (Int.emod_nonneg _ (by omega)) (Int.emod_lt_of_pos _ hm0)))
  · refine b_nil ?_
    have hkb : (k : Int).natAbs < 2 ^ 17 := by omega
    refine b_set 4 hN (x_mod (x_mul (x_add (x_add (x_mod (x_ixV 0 rfl (x_int (⟨_, _, _, _, rfl, rfl, rfl, (rfl : atI [PyData.int c, .int ((k : Int) + 1), .int fl] 0 = _), ⟨rfl, x_pow (x_int (⟨rfl, x_int (⟨_, _, rfl, rfl, ⟨by decide, by decide, by decide⟩, ⟨_, _, rfl, rfl, ?_, ⟨rfl, x_mul (x_mul (x_int (⟨rfl, x_var 2 rfl (⟨_, _, rfl, rfl, ?_, ⟨rfl, x_var 2 rfl (⟨_, _, rfl, rfl, ?_, ⟨_, _, rfl, rfl, trivial, ⟨rfl, x_var 2 rfl (⟨_, _, rfl, rfl, trivial, ⟨rfl, x_int (⟨_, _, rfl, rfl, ?_, ⟨rfl, x_int (⟨_, _, rfl, rfl, ?_, ⟨rfl, ?_⟩⟩)⟩⟩)⟩⟩)⟩⟩⟩)⟩⟩)⟩)))⟩⟩⟩)⟩))⟩⟩))))))))
    · show (0 : Int) < 10 ^ (Int.toNat 18)
      decide
    · exact cm (n := 13) (m := 17) (by decide) hkb
    · exact cm (n := 30) (m := 17) (int_mul_lt (n := 13) (by decide) hkb) hkb
    · have e1 : (c % 10 ^ (Int.toNat 18)).natAbs < 2 ^ 60 := by
        have h1 := Int.emod_nonneg c (show (10 : Int) ^ (Int.toNat 18) ≠ 0 by decide)
        have h2 := Int.emod_lt_of_pos c (show (0 : Int) < 10 ^ (Int.toNat 18) by decide)
        have h3 : (10 : Int) ^ (Int.toNat 18) = 1000000000000000000 := by decide
        omega
      have e2 : ((7919 : Int) * (k : Nat) * (k : Nat)).natAbs < 2 ^ 60 := Nat.lt_of_lt_of_le (int_mul_lt (n := 30) (m := 17) (int_mul_lt (n := 13) (by decide) hkb) hkb) (Nat.pow_le_pow_right (by decide) (by decide))
      have e3 : ((k : Nat) : Int).natAbs < 2 ^ 61 := Nat.lt_of_lt_of_le hkb (Nat.pow_le_pow_right (by decide) (by decide))
      exact cm (n := 62) (m := 16) (int_add_lt (int_add_lt e1 e2) e3) (by decide)
    · show (0 : Int) < 2305843009213693951
      decide
    obtain ⟨z, hz⟩ : ∃ z : Int, z = (c % 10 ^ (Int.toNat 18) + 7919 * (k : Nat) * (k : Nat) + (k : Nat)) * 48271 % 2305843009213693951 := ⟨_, rfl⟩
    have hzb : z.natAbs < 2 ^ 62 := by
      have h1 := Int.emod_nonneg ((c % 10 ^ (Int.toNat 18) + 7919 * (k : Nat) * (k : Nat) + (k : Nat)) * 48271) (show (2305843009213693951 : Int) ≠ 0 by decide)
      have h2 := Int.emod_lt_of_pos ((c % 10 ^ (Int.toNat 18) + 7919 * (k : Nat) * (k : Nat) + (k : Nat)) * 48271) (show (0 : Int) < 2305843009213693951 by decide)
      rw [← hz] at h1 h2
      omega
    show XB _ _ _ _ _ [some (.w a [.int c, .int ((k : Int) + 1), .int fl]), some (.d (.int many)), some (.d (.int (k : Nat))), none, some (.d (.int ((c % 10 ^ (Int.toNat 18) + 7919 * (k : Nat) * (k : Nat) + (k : Nat)) * 48271 % 2305843009213693951)))] _
    rw [← hz]
    clear hz
    refine b_set 4 hN (x_mod (x_add (x_mul (x_var 4 rfl (⟨rfl, x_int (⟨_, _, rfl, rfl, ?_, ⟨rfl, x_int (⟨_, _, rfl, rfl, trivial, ⟨rfl, x_int (⟨_, _, rfl, rfl, ?_, ⟨rfl, ?_⟩⟩)⟩⟩)⟩⟩)⟩)))))
    · exact cm (n := 62) (m := 62) hzb (by decide)
    · show (0 : Int) < 2305843009213693921
      decide
    refine b_ret (x_mod (x_fdiv (x_var 4 rfl (⟨rfl, x_int (⟨_, _, rfl, rfl, ⟨by decide, by decide⟩, ⟨rfl, x_var 1 rfl (⟨_, _, rfl, rfl, hm0, fin _ _ (Int.emod_nonneg _ (by omega)) (Int.emod_lt_of_pos _ hm0)⟩)⟩⟩)⟩))))

end
end AW
set_option Elab.async false
set_option linter.all false
set_option maxRecDepth 100000
set_option maxHeartbeats 2000000
namespace AW
open PySem PySem.Spec PyProof.Rows L2 L3 AM
local macro_rules | `(tactic| trivial) => `(tactic| first | exact (shp_pD _).ok | exact (shp_fD _).ok | exact (shp_kD _).ok | exact (shp_xD _).ok | exact shp_keyE _ | exact shp_keyE _ | exact shp_s1.ok | exact shp_s2.ok | exact shp_s3.ok | exact shp_s4.ok | exact shp_s5.ok | exact shp_s6.ok | exact (shp_int 0 _).ok)
section
variable {w : World} {K : PySem.W.Frag} {mg : Str → Option Value} {base : Heap} {kws : List (Str × V)} {f : Addr} {fd : FuncData} {P : Program}
theorem bd_int {n : Nat} {i : Int} (h : i.natAbs < 2 ^ n) (hn : 0 < n) : Bd n (i : Rat) := ⟨by simpa using h, by show 1 < 2 ^ n; exact Nat.one_lt_two_pow (by omega)⟩
theorem fD_int (i : Int) : PyData.tuple [.int i, .int 1] = fD (i : Rat) := by
  unfold fD
  simp
theorem bd_low {n : Nat} {t b : Int} (hb : 0 < b) (h1 : t.natAbs < 2 ^ n) (h2 : b.natAbs < 2 ^ n) : Bd n (Rat.divInt t b) := bd_div (by omega) h1 h2
def sel5 (x : Int) : Rat := if x = 0 then 0 else if x = 1 then 1 else if x = 2 then -1 else if x = 3 then 1 / 2 else -2
theorem t5 {x : Int} (h : T_draw [.d (.int 5)] x) : 0 ≤ x ∧ x < 5 := by
  obtain ⟨_, e, l, u⟩ := h
  cases e
  exact ⟨l, u⟩
theorem sel5_bd (x : Int) : Bd 10 (sel5 x) := by
  unfold sel5
  (repeat' split) <;> exact ⟨by decide +kernel, by decide +kernel⟩
theorem at5 {x : Int} (h : 0 ≤ x ∧ x < 5) : atI [PyData.tuple [.int 0, .int 1], .tuple [.int 1, .int 1], .tuple [.int (-1), .int 1], .tuple [.int 1, .int 2], .tuple [.int (-2), .int 1]] x = some (fD (sel5 x)) := by
  obtain ⟨h0, h1⟩ := h
  have : x = 0 ∨ x = 1 ∨ x = 2 ∨ x = 3 ∨ x = 4 := by omega
  rcases this with rfl | rfl | rfl | rfl | rfl <;> first | rfl | kernel_rfl
theorem c__law_small (F : Fd K "_law_small" 51 kws f fd) (hm : mg "_law_small" = some (.ref f))
    (G__law_draw : Callee P w K mg base "_law_draw" 1 [("_law_from" : Str), ("_law_many" : Str)] (sp_draw K))
    (G__law_lowest : Callee P w K mg base "_law_lowest" 1 [("_law_top" : Str), ("_law_bottom" : Str)] (spD K R__law_lowest)) :
    Callee P w K mg base "_law_small" 2 [("_law_from" : Str)] (sp_small K) := by
  refine mk_w (N := [("_law_from" : Str), ("_law_way" : Str)]) F hm (C8.fnScope_by (by kernel_rfl)) (fun _ _ _ _ _ _ us h => match us, h with | [a], _ => rfl) (fun fd es hA => by rw [hA.2]; rfl) fun cdv A outer s H E hr a fd0 es as hA => ?_
  have hN : ([("_law_from" : Str), ("_law_way" : Str)] : List Str).Nodup := by decide
  obtain ⟨hF, rfl⟩ := hA
  obtain ⟨k, F0, hkN, hmin⟩ := fk_split hF
  refine b_set 1 hN (x_from G__law_draw hr (a_consV 0 rfl (a_cons (x_int (⟨rfl, a_nil (⟨_, rfl, (fun _ z => nomatch z), ⟨_, _, _, _, rfl, rfl, (alone_of (by repeat' (first | exact True.intro | assumption | apply And.intro))), (List.mem_singleton_self _), F0, (by omega), ⟨_, rfl, (by decide), (by decide)⟩, fun fd1 x1 F1 T1 => ⟨rfl, ?_⟩⟩⟩)⟩)))))
  obtain ⟨_, _, l1, u1⟩ := T1
  refine b_if (t_lt (x_var 1 rfl (⟨rfl, x_int (⟨_, _, rfl, rfl, trivial, _, rfl, ⟨fun hb => ?_, fun hb => ?_⟩⟩)⟩)))
  · refine b_ret (x_tup (a_cons (x_sub (x_from G__law_draw hr (a_consV 0 rfl (a_cons (x_int (⟨rfl, a_nil (⟨_, rfl, (fun _ z => nomatch z), ⟨_, _, _, _, rfl, rfl, (alone_of (by repeat' (first | exact True.intro | assumption | apply And.intro))), (List.mem_singleton_self _), F1, (by omega), ⟨_, rfl, (by decide), (by decide)⟩, fun fd2 x2 F2 T2 => ⟨rfl, x_int (⟨_, _, rfl, rfl, trivial, ⟨rfl, a_cons (x_int (⟨rfl, a_nil (⟨[_, _], rfl, Nat.le_of_ble_eq_true rfl, ?_⟩)⟩))⟩⟩)⟩⟩⟩)⟩))))))))
    obtain ⟨_, e2, l2, u2⟩ := T2
    cases e2
    refine ⟨_, _, ⟨fun m hm => F2.le (by have := hmin m hm; omega), ((x2 - 4 : Int) : Rat), bd_int (Nat.lt_of_lt_of_le (m := 16) (by omega) (by decide)) (by decide), rfl⟩, rfl, .inl ?_⟩
    exact congrArg Ent.d (fD_int _)
  refine b_nil ?_
  refine b_if (t_lt (x_var 1 rfl (⟨rfl, x_int (⟨_, _, rfl, rfl, trivial, _, rfl, ⟨fun hb => ?_, fun hb => ?_⟩⟩)⟩)))
  · refine b_ret (x_call G__law_lowest hr (a_cons (x_sub (x_from G__law_draw hr (a_consV 0 rfl (a_cons (x_int (⟨rfl, a_nil (⟨_, rfl, (fun _ z => nomatch z), ⟨_, _, _, _, rfl, rfl, (alone_of (by repeat' (first | exact True.intro | assumption | apply And.intro))), (List.mem_singleton_self _), F1, (by omega), ⟨_, rfl, (by decide), (by decide)⟩, fun fd2 x2 F2 T2 => ⟨rfl, x_int (⟨_, _, rfl, rfl, trivial, ⟨rfl, a_cons (x_add (x_int (⟨rfl, x_from G__law_draw hr (a_consV 0 rfl (a_cons (x_int (⟨rfl, a_nil (⟨_, rfl, (fun _ z => nomatch z), ⟨_, _, _, _, rfl, rfl, (alone_of (by repeat' (first | exact True.intro | assumption | apply And.intro))), (List.mem_singleton_self _), F2, (by omega), ⟨_, rfl, (by decide), (by decide)⟩, fun fd3 x3 F3 T3 => ⟨_, _, rfl, rfl, trivial, ⟨rfl, a_nil (⟨_, ⟨_, _, rfl, rfl, ?_, ?_⟩, ?_⟩)⟩⟩⟩⟩)⟩))))⟩)))⟩⟩)⟩⟩⟩)⟩))))))))
    · obtain ⟨_, e3, l3, u3⟩ := T3
      omega
    · obtain ⟨_, e3, l3, u3⟩ := T3
      cases e3
      exact Nat.lt_of_lt_of_le (m := 2 ^ 20) (by omega) (Nat.pow_le_pow_right (by decide) (by decide))
    · obtain ⟨_, e2, l2, u2⟩ := T2
      cases e2
      obtain ⟨_, e3, l3, u3⟩ := T3
      cases e3
      exact ⟨_, _, ⟨fun m hm => F3.le (by have := hmin m hm; omega), Rat.divInt (x2 - 20) (1 + x3), bd_low (by omega) (by omega) (by omega), rfl⟩, rfl, .inl rfl⟩
  refine b_nil ?_
  refine b_ret (x_call G__law_lowest hr (a_cons (x_sub (x_from G__law_draw hr (a_consV 0 rfl (a_cons (x_mul (x_int (⟨rfl, x_pow (x_int (⟨rfl, x_int (⟨_, _, rfl, rfl, ?_, ⟨_, _, rfl, rfl, ?_, ⟨rfl, a_nil (⟨_, rfl, (fun _ z => nomatch z), ⟨_, _, _, _, rfl, rfl, (alone_of (by repeat' (first | exact True.intro | assumption | apply And.intro))), (List.mem_singleton_self _), F1, (by omega), ⟨_, rfl, (by decide), (by decide)⟩, fun fd2 x2 F2 T2 => ⟨rfl, x_pow (x_int (⟨rfl, x_int (⟨_, _, rfl, rfl, ?_, ⟨_, _, rfl, rfl, trivial, ⟨rfl, a_cons (x_add (x_int (⟨rfl, x_from G__law_draw hr (a_consV 0 rfl (a_cons (x_pow (x_int (⟨rfl, x_int (⟨_, _, rfl, rfl, ?_, ⟨rfl, a_nil (⟨_, rfl, (fun _ z => nomatch z), ⟨_, _, _, _, rfl, rfl, (alone_of (by repeat' (first | exact True.intro | assumption | apply And.intro))), (List.mem_singleton_self _), F2, (by omega), ⟨_, rfl, (by decide), (by decide)⟩, fun fd3 x3 F3 T3 => ⟨_, _, rfl, rfl, trivial, ⟨rfl, a_nil (⟨_, ⟨_, _, rfl, rfl, ?_, ?_⟩, ?_⟩)⟩⟩⟩⟩)⟩⟩)⟩)))))⟩)))⟩⟩⟩)⟩))⟩⟩⟩)⟩⟩⟩)⟩))⟩)))))))))
  · exact ⟨by decide, by decide, by decide⟩
  · exact cm (n := 3) (m := 21) (by decide) (by decide)
  · exact ⟨by decide, by decide, by decide⟩
  · exact ⟨by decide, by decide, by decide⟩
  · obtain ⟨_, e3, l3, u3⟩ := T3
    omega
  · obtain ⟨_, e3, l3, u3⟩ := T3
    cases e3
    have h3 : (10 : Int) ^ (Int.toNat 4) = 10000 := by decide
    exact Nat.lt_of_lt_of_le (m := 2 ^ 20) (by omega) (Nat.pow_le_pow_right (by decide) (by decide))
  · obtain ⟨_, e2, l2, u2⟩ := T2
    cases e2
    obtain ⟨_, e3, l3, u3⟩ := T3
    cases e3
    have h3 : (10 : Int) ^ (Int.toNat 4) = 10000 := by decide
    have h6 : (10 : Int) ^ (Int.toNat 6) = 1000000 := by decide
    exact ⟨_, _, ⟨fun m hm => F3.le (by have := hmin m hm; omega), Rat.divInt (x2 - 10 ^ (Int.toNat 6)) (1 + x3), bd_low (by omega) (by omega) (by omega), rfl⟩, rfl, .inl rfl⟩
theorem c__law_spot (F : Fd K "_law_spot" 52 kws f fd) (hm : mg "_law_spot" = some (.ref f))
    (G__law_small : Callee P w K mg base "_law_small" 2 [("_law_from" : Str)] (sp_small K)) :
    Callee P w K mg base "_law_spot" 3 [("_law_from" : Str)] (sp_spot K) := by
  refine mk_w (N := [("_law_from" : Str), ("_law_x" : Str)]) F hm (C8.fnScope_by (by kernel_rfl)) (fun _ _ _ _ _ _ us h => match us, h with | [a], _ => rfl) (fun fd es hA => by rw [hA.2]; rfl) fun cdv A outer s H E hr a fd0 es as hA => ?_
  have hN : ([("_law_from" : Str), ("_law_x" : Str)] : List Str).Nodup := by decide
  obtain ⟨hF, rfl⟩ := hA
  obtain ⟨k, F0, hkN, hmin⟩ := fk_split hF
  refine b_set 1 hN (x_from G__law_small hr (a_consV 0 rfl (a_nil (⟨_, rfl, (fun _ z => nomatch z), ⟨_, _, _, _, rfl, rfl, (alone_of (by repeat' (first | exact True.intro | assumption | apply And.intro))), (List.mem_singleton_self _), F0, (by omega), rfl, fun fd1 x1 F1 T1 => ⟨rfl, ?_⟩⟩⟩))))
  refine b_ret (x_tup (a_cons (x_var 1 rfl (⟨rfl, a_cons (x_from G__law_small hr (a_consV 0 rfl (a_nil (⟨_, rfl, (fun _ z => nomatch z), ⟨_, _, _, _, rfl, rfl, (alone_of (by repeat' (first | exact True.intro | assumption | apply And.intro))), (List.mem_singleton_self _), F1, (by omega), rfl, fun fd2 x2 F2 T2 => ⟨rfl, a_nil (⟨[_, _], rfl, Nat.le_of_ble_eq_true rfl, ?_⟩)⟩⟩⟩))))⟩))))
  exact ⟨_, _, ⟨fun m hm => F2.le (by have := hmin m hm; omega), (x1, x2), ⟨T1, T2⟩, rfl⟩, rfl, .inl rfl⟩
theorem c__law_share (F : Fd K "_law_share" 61 kws f fd) (hm : mg "_law_share" = some (.ref f))
    (G__law_draw : Callee P w K mg base "_law_draw" 1 [("_law_from" : Str), ("_law_many" : Str)] (sp_draw K))
    (G__law_lowest : Callee P w K mg base "_law_lowest" 1 [("_law_top" : Str), ("_law_bottom" : Str)] (spD K R__law_lowest)) :
    Callee P w K mg base "_law_share" 2 [("_law_from" : Str)] (sp_share K) := by
  refine mk_w (N := [("_law_from" : Str), ("_law_way" : Str)]) F hm (C8.fnScope_by (by kernel_rfl)) (fun _ _ _ _ _ _ us h => match us, h with | [a], _ => rfl) (fun fd es hA => by rw [hA.2]; rfl) fun cdv A outer s H E hr a fd0 es as hA => ?_
  have hN : ([("_law_from" : Str), ("_law_way" : Str)] : List Str).Nodup := by decide
  obtain ⟨hF, rfl⟩ := hA
  obtain ⟨k, F0, hkN, hmin⟩ := fk_split hF
  refine b_set 1 hN (x_from G__law_draw hr (a_consV 0 rfl (a_cons (x_int (⟨rfl, a_nil (⟨_, rfl, (fun _ z => nomatch z), ⟨_, _, _, _, rfl, rfl, (alone_of (by repeat' (first | exact True.intro | assumption | apply And.intro))), (List.mem_singleton_self _), F0, (by omega), ⟨_, rfl, (by decide), (by decide)⟩, fun fd1 x1 F1 T1 => ⟨rfl, ?_⟩⟩⟩)⟩)))))
  obtain ⟨_, _, l1, u1⟩ := T1
  refine b_if (t_eq hr (x_var 1 rfl (⟨rfl, x_int (⟨(by trivial), (by trivial), _, rfl, ⟨fun hb => ?_, fun hb => ?_⟩⟩)⟩)))
  · refine b_ret (x_ix (x_lst (a_cons (x_tup (a_cons (x_int (⟨rfl, a_cons (x_int (⟨rfl, a_nil (⟨[_, _], rfl, Nat.le_of_ble_eq_true rfl, ⟨rfl, a_cons (x_tup (a_cons (x_int (⟨rfl, a_cons (x_int (⟨rfl, a_nil (⟨[_, _], rfl, Nat.le_of_ble_eq_true rfl, ⟨rfl, a_cons (x_tup (a_cons (x_neg (x_int (⟨_, rfl, ⟨rfl, a_cons (x_int (⟨rfl, a_nil (⟨[_, _], rfl, Nat.le_of_ble_eq_true rfl, ⟨rfl, a_cons (x_tup (a_cons (x_int (⟨rfl, a_cons (x_int (⟨rfl, a_nil (⟨[_, _], rfl, Nat.le_of_ble_eq_true rfl, ⟨rfl, a_cons (x_tup (a_cons (x_neg (x_int (⟨_, rfl, ⟨rfl, a_cons (x_int (⟨rfl, a_nil (⟨[_, _], rfl, Nat.le_of_ble_eq_true rfl, ⟨rfl, a_nil (⟨[_, _, _, _, _], rfl, Nat.le_of_ble_eq_true rfl, ⟨rfl, x_from G__law_draw hr (a_consV 0 rfl (a_cons (x_int (⟨rfl, a_nil (⟨_, rfl, (fun _ z => nomatch z), ⟨_, _, _, _, rfl, rfl, (alone_of (by repeat' (first | exact True.intro | assumption | apply And.intro))), (List.mem_singleton_self _), F1, (by omega), ⟨_, rfl, (by decide), (by decide)⟩, fun fd2 x2 F2 T2 => ⟨_, _, _, rfl, rfl, at5 (t5 T2), ?_⟩⟩⟩)⟩))))⟩⟩)⟩⟩)⟩))⟩⟩)))))⟩⟩)⟩))⟩))))⟩⟩)⟩))⟩⟩)))))⟩⟩)⟩))⟩))))⟩⟩)⟩))⟩)))))))
    exact ⟨_, _, ⟨fun m hm => F2.le (by have := hmin m hm; omega), sel5 x2, sel5_bd x2, rfl⟩, rfl, .inl rfl⟩
  refine b_nil ?_
  refine b_if (t_eq hr (x_var 1 rfl (⟨rfl, x_int (⟨(by trivial), (by trivial), _, rfl, ⟨fun hb => ?_, fun hb => ?_⟩⟩)⟩)))
  · refine b_ret (x_call G__law_lowest hr (a_cons (x_sub (x_from G__law_draw hr (a_consV 0 rfl (a_cons (x_int (⟨rfl, a_nil (⟨_, rfl, (fun _ z => nomatch z), ⟨_, _, _, _, rfl, rfl, (alone_of (by repeat' (first | exact True.intro | assumption | apply And.intro))), (List.mem_singleton_self _), F1, (by omega), ⟨_, rfl, (by decide), (by decide)⟩, fun fd2 x2 F2 T2 => ⟨rfl, x_int (⟨_, _, rfl, rfl, trivial, ⟨rfl, a_cons (x_add (x_int (⟨rfl, x_from G__law_draw hr (a_consV 0 rfl (a_cons (x_int (⟨rfl, a_nil (⟨_, rfl, (fun _ z => nomatch z), ⟨_, _, _, _, rfl, rfl, (alone_of (by repeat' (first | exact True.intro | assumption | apply And.intro))), (List.mem_singleton_self _), F2, (by omega), ⟨_, rfl, (by decide), (by decide)⟩, fun fd3 x3 F3 T3 => ⟨_, _, rfl, rfl, trivial, ⟨rfl, a_nil (⟨_, ⟨_, _, rfl, rfl, ?_, ?_⟩, ?_⟩)⟩⟩⟩⟩)⟩))))⟩)))⟩⟩)⟩⟩⟩)⟩))))))))
    · obtain ⟨_, e3, l3, u3⟩ := T3
      omega
    · obtain ⟨_, e3, l3, u3⟩ := T3
      cases e3
      exact Nat.lt_of_lt_of_le (m := 2 ^ 20) (by omega) (Nat.pow_le_pow_right (by decide) (by decide))
    · obtain ⟨_, e2, l2, u2⟩ := T2
      cases e2
      obtain ⟨_, e3, l3, u3⟩ := T3
      cases e3
      exact ⟨_, _, ⟨fun m hm => F3.le (by have := hmin m hm; omega), Rat.divInt (x2 - 20) (1 + x3), bd_low (by omega) (by omega) (by omega), rfl⟩, rfl, .inl rfl⟩
  refine b_nil ?_
  refine b_ret (x_call G__law_lowest hr (a_cons (x_sub (x_from G__law_draw hr (a_consV 0 rfl (a_cons (x_mul (x_int (⟨rfl, x_pow (x_int (⟨rfl, x_int (⟨_, _, rfl, rfl, ?_, ⟨_, _, rfl, rfl, ?_, ⟨rfl, a_nil (⟨_, rfl, (fun _ z => nomatch z), ⟨_, _, _, _, rfl, rfl, (alone_of (by repeat' (first | exact True.intro | assumption | apply And.intro))), (List.mem_singleton_self _), F1, (by omega), ⟨_, rfl, (by decide), (by decide)⟩, fun fd2 x2 F2 T2 => ⟨rfl, x_pow (x_int (⟨rfl, x_int (⟨_, _, rfl, rfl, ?_, ⟨_, _, rfl, rfl, trivial, ⟨rfl, a_cons (x_add (x_int (⟨rfl, x_from G__law_draw hr (a_consV 0 rfl (a_cons (x_pow (x_int (⟨rfl, x_int (⟨_, _, rfl, rfl, ?_, ⟨rfl, a_nil (⟨_, rfl, (fun _ z => nomatch z), ⟨_, _, _, _, rfl, rfl, (alone_of (by repeat' (first | exact True.intro | assumption | apply And.intro))), (List.mem_singleton_self _), F2, (by omega), ⟨_, rfl, (by decide), (by decide)⟩, fun fd3 x3 F3 T3 => ⟨_, _, rfl, rfl, trivial, ⟨rfl, a_nil (⟨_, ⟨_, _, rfl, rfl, ?_, ?_⟩, ?_⟩)⟩⟩⟩⟩)⟩⟩)⟩)))))⟩)))⟩⟩⟩)⟩))⟩⟩⟩)⟩⟩⟩)⟩))⟩)))))))))
  · exact ⟨by decide, by decide, by decide⟩
  · exact cm (n := 3) (m := 21) (by decide) (by decide)
  · exact ⟨by decide, by decide, by decide⟩
  · exact ⟨by decide, by decide, by decide⟩
  · obtain ⟨_, e3, l3, u3⟩ := T3
    omega
  · obtain ⟨_, e3, l3, u3⟩ := T3
    cases e3
    have h3 : (10 : Int) ^ (Int.toNat 3) = 1000 := by decide
    exact Nat.lt_of_lt_of_le (m := 2 ^ 20) (by omega) (Nat.pow_le_pow_right (by decide) (by decide))
  · obtain ⟨_, e2, l2, u2⟩ := T2
    cases e2
    obtain ⟨_, e3, l3, u3⟩ := T3
    cases e3
    have h3 : (10 : Int) ^ (Int.toNat 3) = 1000 := by decide
    exact ⟨_, _, ⟨fun m hm => F3.le (by have := hmin m hm; omega), Rat.divInt (x2 - 10 ^ (Int.toNat 3)) (1 + x3), bd_low (by omega) (by omega) (by omega), rfl⟩, rfl, .inl rfl⟩
theorem c__law_start_here (F : Fd K "_law_start_here" 62 kws f fd) (hm : mg "_law_start_here" = some (.ref f))
    (G__law_spot : Callee P w K mg base "_law_spot" 3 [("_law_from" : Str)] (sp_spot K))
    (G__law_both : Callee P w K mg base "_law_both" 3 [("_law_p" : Str), ("_law_q" : Str), ("_law_by" : Str)] (spD K R__law_both)) :
    Callee P w K mg base "_law_start_here" 4 [("_law_from" : Str)] (sp_start K) := by
  refine mk_w (N := [("_law_from" : Str), ("_law_c" : Str), ("_law_way" : Str)]) F hm (C8.fnScope_by (by kernel_rfl)) (fun _ _ _ _ _ _ us h => match us, h with | [a], _ => rfl) (fun fd es hA => by rw [hA.2]; rfl) fun cdv A outer s H E hr a fd0 es as hA => ?_
  have hN : ([("_law_from" : Str), ("_law_c" : Str), ("_law_way" : Str)] : List Str).Nodup := by decide
  obtain ⟨hF, rfl⟩ := hA
  obtain ⟨k, F0, hkN, hmin⟩ := fk_split hF
  refine b_set 1 hN (x_from G__law_spot hr (a_consV 0 rfl (a_nil (⟨_, rfl, (fun _ z => nomatch z), ⟨_, _, _, _, rfl, rfl, (alone_of (by repeat' (first | exact True.intro | assumption | apply And.intro))), (List.mem_singleton_self _), F0, (by omega), rfl, fun fd1 x1 F1 T1 => ⟨rfl, ?_⟩⟩⟩))))
  refine b_set 2 hN (x_from G__law_spot hr (a_consV 0 rfl (a_nil (⟨_, rfl, (fun _ z => nomatch z), ⟨_, _, _, _, rfl, rfl, (alone_of (by repeat' (first | exact True.intro | assumption | apply And.intro))), (List.mem_singleton_self _), F1, (by omega), rfl, fun fd2 x2 F2 T2 => ⟨rfl, ?_⟩⟩⟩))))
  have leaf : ∀ v : Pt, BdP 20 v → v ≠ (0, 0) → ∃ fd' r, ((∀ m, Fk m fd0 → Fk (m + 12) fd') ∧ ∃ x : Pt × Pt, (BdP 20 x.1 ∧ BdP 41 x.2 ∧ far x.1 x.2 ≠ 0) ∧ r = .d (.tuple [pD x.1, pD x.2])) ∧ some (some (Ent.w a fd2)) = some (some (.w a fd')) ∧ Rt H r (.d (.tuple [pD x1, pD (tog x1 v)])) := fun v hv hv0 => by
    refine ⟨_, _, ⟨fun m hm => F2.le (by have := hmin m hm; omega), (x1, tog x1 v), ⟨T1, T1.tog hv, ?_⟩, rfl⟩, rfl, .inl rfl⟩
    rw [far_tog]
    intro z
    have h1 := sq_nn v.1
    have h2 := sq_nn v.2
    have e1 : v.1 * v.1 = 0 := by grind
    have e2 : v.2 * v.2 = 0 := by grind
    have e3 : v.1 = 0 := by grind
    have e4 : v.2 = 0 := by grind
    exact hv0 (Prod.ext e3 e4)
  have z0 : PyData.tuple [.tuple [.int 0, .int 1], .tuple [.int 0, .int 1]] = pD (0, 0) := rfl
  have z1 : PyData.tuple [.tuple [.int 1, .int 1], .tuple [.int 0, .int 1]] = pD (1, 0) := rfl
  refine b_if (t_eq hr (x_var 2 rfl (⟨rfl, x_tup (a_cons (x_tup (a_cons (x_int (⟨rfl, a_cons (x_int (⟨rfl, a_nil (⟨[_, _], rfl, Nat.le_of_ble_eq_true rfl, ⟨rfl, a_cons (x_tup (a_cons (x_int (⟨rfl, a_cons (x_int (⟨rfl, a_nil (⟨[_, _], rfl, Nat.le_of_ble_eq_true rfl, ⟨rfl, a_nil (⟨[_, _], rfl, Nat.le_of_ble_eq_true rfl, ⟨(by trivial), (shp_pD (0, 0)).ok, _, rfl, ⟨fun hb => ?_, fun hb => ?_⟩⟩⟩)⟩⟩)⟩))⟩))))⟩⟩)⟩))⟩)))))⟩)))
  · refine b_set 2 hN (x_tup (a_cons (x_tup (a_cons (x_int (⟨rfl, a_cons (x_int (⟨rfl, a_nil (⟨[_, _], rfl, Nat.le_of_ble_eq_true rfl, ⟨rfl, a_cons (x_tup (a_cons (x_int (⟨rfl, a_cons (x_int (⟨rfl, a_nil (⟨[_, _], rfl, Nat.le_of_ble_eq_true rfl, ⟨rfl, a_nil (⟨[_, _], rfl, Nat.le_of_ble_eq_true rfl, ⟨rfl, ?_⟩⟩)⟩⟩)⟩))⟩))))⟩⟩)⟩))⟩))))))
    refine b_nil ?_
    refine b_ret (x_tup (a_cons (x_var 1 rfl (⟨rfl, a_cons (x_call G__law_both hr (a_cons (x_var 1 rfl (⟨rfl, a_cons (x_var 2 rfl (⟨rfl, a_cons (x_int (⟨rfl, a_nil (⟨_, ⟨_, ((1, 0) : Pt), _, rfl, rfl, ?_, ?_, ?_⟩, ⟨rfl, a_nil (⟨[_, _], rfl, Nat.le_of_ble_eq_true rfl, ?_⟩)⟩⟩)⟩))⟩))⟩))))⟩))))
    · decide
    · exact BdP.le T1 (by decide)
    · exact ⟨⟨by decide, by decide⟩, ⟨by decide, by decide⟩⟩
    · exact leaf (1, 0) ⟨⟨by decide, by decide⟩, ⟨by decide, by decide⟩⟩ (by decide)
  · have hb := eqP (p := x2) (q := (0, 0)) hb
    have hb : x2 ≠ (0, 0) := by simpa using hb
    refine b_nil ?_
    refine b_ret (x_tup (a_cons (x_var 1 rfl (⟨rfl, a_cons (x_call G__law_both hr (a_cons (x_var 1 rfl (⟨rfl, a_cons (x_var 2 rfl (⟨rfl, a_cons (x_int (⟨rfl, a_nil (⟨_, ⟨_, _, _, rfl, rfl, ?_, ?_, ?_⟩, ⟨rfl, a_nil (⟨[_, _], rfl, Nat.le_of_ble_eq_true rfl, ?_⟩)⟩⟩)⟩))⟩))⟩))))⟩))))
    · decide
    · exact BdP.le T1 (by decide)
    · exact BdP.le T2 (by decide)
    · exact leaf x2 T2 hb
theorem c__law_base (F : Fd K "_law_base" 66 kws f fd) (hm : mg "_law_base" = some (.ref f))
    (G__law_spot : Callee P w K mg base "_law_spot" 3 [("_law_from" : Str)] (sp_spot K))
    (G__law_first : Callee P w K mg base "_law_first" 1 [("_law_p" : Str), ("_law_q" : Str)] (spD K R__law_first))
    (G__law_sum : Callee P w K mg base "_law_sum" 2 [("_law_one_here" : Str), ("_law_other" : Str), ("_law_by" : Str)] (spD K R__law_sum)) :
    Callee P w K mg base "_law_base" 4 [("_law_from" : Str)] (sp_base K) := by
  refine mk_w (N := [("_law_from" : Str), ("_law_p" : Str), ("_law_q" : Str)]) F hm (C8.fnScope_by (by kernel_rfl)) (fun _ _ _ _ _ _ us h => match us, h with | [a], _ => rfl) (fun fd es hA => by rw [hA.2]; rfl) fun cdv A outer s H E hr a fd0 es as hA => ?_
  have hN : ([("_law_from" : Str), ("_law_p" : Str), ("_law_q" : Str)] : List Str).Nodup := by decide
  obtain ⟨hF, rfl⟩ := hA
  obtain ⟨k, F0, hkN, hmin⟩ := fk_split hF
  refine b_set 1 hN (x_from G__law_spot hr (a_consV 0 rfl (a_nil (⟨_, rfl, (fun _ z => nomatch z), ⟨_, _, _, _, rfl, rfl, (alone_of (by repeat' (first | exact True.intro | assumption | apply And.intro))), (List.mem_singleton_self _), F0, (by omega), rfl, fun fd1 x1 F1 T1 => ⟨rfl, ?_⟩⟩⟩))))
  refine b_set 2 hN (x_from G__law_spot hr (a_consV 0 rfl (a_nil (⟨_, rfl, (fun _ z => nomatch z), ⟨_, _, _, _, rfl, rfl, (alone_of (by repeat' (first | exact True.intro | assumption | apply And.intro))), (List.mem_singleton_self _), F1, (by omega), rfl, fun fd2 x2 F2 T2 => ⟨rfl, ?_⟩⟩⟩))))
  have T1 : BdP 20 x1 := T1
  have T2 : BdP 20 x2 := T2
  have leaf : ∀ u v : Pt, BdP 25 u → BdP 25 v → ∃ fd' r, ((∀ m, Fk m fd0 → Fk (m + 12) fd') ∧ ∃ x : Pt × Pt, (BdP 25 x.1 ∧ BdP 25 x.2) ∧ r = .d (.tuple [pD x.1, pD x.2])) ∧ some (some (Ent.w a fd2)) = some (some (.w a fd')) ∧ Rt H r (.d (.tuple [pD u, pD v])) := fun u v hu hv =>
    ⟨_, _, ⟨fun m hm => F2.le (by have := hmin m hm; omega), (u, v), ⟨hu, hv⟩, rfl⟩, rfl, .inl rfl⟩
  have b1 : Bd 1 (1 : Rat) := ⟨by decide, by decide⟩
  refine b_if (t_eq hr (x_var 1 rfl (⟨rfl, x_var 2 rfl (⟨(by trivial), (by trivial), _, rfl, ⟨fun hb => ?_, fun hb => ?_⟩⟩)⟩)))
  · refine b_set 2 hN (x_tup (a_cons (x_ix (x_var 1 rfl (⟨rfl, x_int (⟨_, _, _, rfl, rfl, rfl, ⟨rfl, a_cons (x_call G__law_sum hr (a_cons (x_ix (x_var 1 rfl (⟨rfl, x_int (⟨_, _, _, rfl, rfl, rfl, ⟨rfl, a_cons (x_tup (a_cons (x_int (⟨rfl, a_cons (x_int (⟨rfl, a_nil (⟨[_, _], rfl, Nat.le_of_ble_eq_true rfl, ⟨rfl, a_cons (x_int (⟨rfl, a_nil (⟨_, ⟨_, 1, _, rfl, rfl, ?_, ?_, ?_⟩, ⟨rfl, a_nil (⟨[_, _], rfl, Nat.le_of_ble_eq_true rfl, ⟨rfl, ?_⟩⟩)⟩⟩)⟩))⟩⟩)⟩))⟩))))⟩⟩)⟩)))))⟩⟩)⟩)))))
    · decide
    · exact T1.2.le (by decide)
    · exact b1.le (by decide)
    refine b_nil ?_
    have T3 : BdP 25 (x1.1, x1.2 + 1) := ⟨T1.1.le (by decide), (T1.2.add b1).le (by decide)⟩
    show XB _ _ _ _ _ [some (.w a fd2), some (.d (pD x1)), some (.d (pD (x1.1, x1.2 + 1)))] _
    refine b_if (t_val (x_call G__law_first hr (a_cons (x_var 2 rfl (⟨rfl, a_cons (x_var 1 rfl (⟨rfl, a_nil (⟨_, ⟨_, _, rfl, rfl, ?_, ?_⟩, ⟨_, rfl, ⟨fun hb => ?_, fun hb => ?_⟩⟩⟩)⟩))⟩)))))
    · exact T3.le (by decide)
    · exact T1.le (by decide)
    · refine b_ret (x_tup (a_cons (x_var 2 rfl (⟨rfl, a_cons (x_var 1 rfl (⟨rfl, a_nil (⟨[_, _], rfl, Nat.le_of_ble_eq_true rfl, ?_⟩)⟩))⟩))))
      exact leaf _ _ T3 (T1.le (by decide))
    · refine b_nil ?_
      refine b_ret (x_tup (a_cons (x_var 1 rfl (⟨rfl, a_cons (x_var 2 rfl (⟨rfl, a_nil (⟨[_, _], rfl, Nat.le_of_ble_eq_true rfl, ?_⟩)⟩))⟩))))
      exact leaf _ _ (T1.le (by decide)) T3
  · refine b_nil ?_
    refine b_if (t_val (x_call G__law_first hr (a_cons (x_var 2 rfl (⟨rfl, a_cons (x_var 1 rfl (⟨rfl, a_nil (⟨_, ⟨_, _, rfl, rfl, ?_, ?_⟩, ⟨_, rfl, ⟨fun hb => ?_, fun hb => ?_⟩⟩⟩)⟩))⟩)))))
    · exact T2.le (by decide)
    · exact T1.le (by decide)
    · refine b_ret (x_tup (a_cons (x_var 2 rfl (⟨rfl, a_cons (x_var 1 rfl (⟨rfl, a_nil (⟨[_, _], rfl, Nat.le_of_ble_eq_true rfl, ?_⟩)⟩))⟩))))
      exact leaf _ _ (T2.le (by decide)) (T1.le (by decide))
    · refine b_nil ?_
      refine b_ret (x_tup (a_cons (x_var 1 rfl (⟨rfl, a_cons (x_var 2 rfl (⟨rfl, a_nil (⟨[_, _], rfl, Nat.le_of_ble_eq_true rfl, ?_⟩)⟩))⟩))))
      exact leaf _ _ (T1.le (by decide)) (T2.le (by decide))
theorem c__law_weighed (F : Fd K "_law_weighed" 67 kws f fd) (hm : mg "_law_weighed" = some (.ref f))
    (G__law_mixed : Callee P w K mg base "_law_mixed" 4 [("_law_p" : Str), ("_law_q" : Str), ("_law_by" : Str)] (spD K R__law_mixed))
    (G__law_lowest : Callee P w K mg base "_law_lowest" 1 [("_law_top" : Str), ("_law_bottom" : Str)] (spD K R__law_lowest))
    (G__law_draw : Callee P w K mg base "_law_draw" 1 [("_law_from" : Str), ("_law_many" : Str)] (sp_draw K)) :
    Callee P w K mg base "_law_weighed" 5 [("_law_from" : Str), ("_law_line" : Str)] (sp_weighed K) := by
  refine mk_w (N := [("_law_from" : Str), ("_law_line" : Str)]) F hm (C8.fnScope_by (by kernel_rfl)) (fun _ _ _ _ _ _ us h => match us, h with | [a, b], _ => rfl) (fun fd es hA => by obtain ⟨_, _, _, h, _⟩ := hA; rw [h]; rfl) fun cdv A outer s H E hr a fd0 es as hA => ?_
  have hN : ([("_law_from" : Str), ("_law_line" : Str)] : List Str).Nodup := by decide
  obtain ⟨hF, p, q, rfl, h1, h2⟩ := hA
  obtain ⟨k, F0, hkN, hmin⟩ := fk_split hF
  refine b_ret (x_call G__law_mixed hr (a_cons (x_ix (x_var 1 rfl (⟨rfl, x_int (⟨_, _, _, rfl, rfl, rfl, ⟨rfl, a_cons (x_ix (x_var 1 rfl (⟨rfl, x_int (⟨_, _, _, rfl, rfl, rfl, ⟨rfl, a_cons (x_call G__law_lowest hr (a_cons (x_sub (x_from G__law_draw hr (a_consV 0 rfl (a_cons (x_int (⟨rfl, a_nil (⟨_, rfl, (fun _ z => nomatch z), ⟨_, _, _, _, rfl, rfl, (alone_of (by repeat' (first | exact True.intro | assumption | apply And.intro))), (List.mem_singleton_self _), F0, (by omega), ⟨_, rfl, (by decide), (by decide)⟩, fun fd1 x1 F1 T1 => ⟨rfl, x_int (⟨_, _, rfl, rfl, trivial, ⟨rfl, a_cons (x_int (⟨rfl, a_nil (⟨_, ⟨_, _, rfl, rfl, ?_, ?_⟩, ⟨rfl, a_nil (⟨_, ⟨_, _, _, rfl, rfl, ?_, ?_, ?_⟩, ?_⟩)⟩⟩)⟩))⟩⟩)⟩⟩⟩)⟩))))))))⟩⟩)⟩)))⟩⟩)⟩)))))
  · decide
  · exact Nat.lt_of_lt_of_le (m := 2 ^ 20) (by decide) (Nat.pow_le_pow_right (by decide) (by decide))
  · exact h1.le (by decide)
  · exact h2.le (by decide)
  · obtain ⟨_, e1, l1, u1⟩ := T1
    cases e1
    exact bd_low (by decide) (by omega) (by decide)
  · obtain ⟨_, e1, l1, u1⟩ := T1
    cases e1
    have ht : Bd 6 (Rat.divInt (x1 - 8) 8) := bd_low (by decide) (by omega) (by decide)
    have b1 := ((h2.1.sub h1.1).mul ht)
    have b2 := ((h2.2.sub h1.2).mul ht)
    exact ⟨_, _, ⟨fun m hm => F1.le (by have := hmin m hm; omega), mixP p q (Rat.divInt (x1 - 8) 8), ⟨(h1.1.add b1).le (by decide), (h1.2.add b2).le (by decide)⟩, rfl⟩, rfl, .inl rfl⟩

end
end AW
set_option Elab.async false
set_option linter.all false
set_option maxRecDepth 100000
set_option maxHeartbeats 2000000
namespace AW
open PySem PySem.Spec PyProof.Rows L2 L3 AM
local macro_rules | `(tactic| trivial) => `(tactic| first | exact (shp_pD _).ok | exact (shp_fD _).ok | exact (shp_kD _).ok | exact (shp_xD _).ok | exact shp_keyE _ | exact shp_keyE _ | exact shp_s1.ok | exact shp_s2.ok | exact shp_s3.ok | exact shp_s4.ok | exact shp_s5.ok | exact shp_s6.ok | exact (shp_int 0 _).ok)
section
variable {w : World} {K : PySem.W.Frag} {mg : Str → Option Value} {base : Heap} {kws : List (Str × V)} {f : Addr} {fd : FuncData} {P : Program}
theorem sh_nd (t : Rat) : ∃ N D : Rat, (t.num : Rat) = N ∧ ((t.den : Int) : Rat) = D ∧ D ≠ 0 ∧ t = N / D := by
  refine ⟨_, _, rfl, rfl, ?_, ?_⟩
  · intro z
    have := t.den_nz
    have : ((t.den : Int) : Rat) = ((0 : Int) : Rat) := z
    rw [Rat.intCast_inj] at this
    omega
  · rw [← Rat.divInt_eq_div, Rat.num_divInt_den]
theorem sh_u (t : Rat) : Rat.divInt ((t.den : Int) * t.den - t.num * t.num) ((t.den : Int) * t.den + t.num * t.num) = (1 - t * t) / (1 + t * t) := by
  obtain ⟨N, D, h1, h2, h3, h4⟩ := sh_nd t
  rw [Rat.divInt_eq_div, Rat.intCast_sub, Rat.intCast_add, Rat.intCast_mul, Rat.intCast_mul, h1, h2, h4]
  have n1 := sq_nn N
  have n2 := sq_nn D
  have n3 : D * D + N * N ≠ 0 := fun z => by
    have z2 : D * D = 0 := by grind
    rcases Rat.mul_eq_zero.mp z2 with z3 | z3 <;> exact h3 z3
  have n4 : 1 + N / D * (N / D) ≠ 0 := by
    have := sq_nn (N / D)
    grind
  grind
theorem sh_v (t : Rat) : Rat.divInt (2 * t.num * t.den) ((t.den : Int) * t.den + t.num * t.num) = (t + t) / (1 + t * t) := by
  obtain ⟨N, D, h1, h2, h3, h4⟩ := sh_nd t
  rw [Rat.divInt_eq_div, Rat.intCast_add, Rat.intCast_mul, Rat.intCast_mul, Rat.intCast_mul, Rat.intCast_mul, h1, h2, h4]
  have n1 := sq_nn N
  have n2 := sq_nn D
  have n3 : D * D + N * N ≠ 0 := fun z => by
    have z2 : D * D = 0 := by grind
    rcases Rat.mul_eq_zero.mp z2 with z3 | z3 <;> exact h3 z3
  have n4 : 1 + N / D * (N / D) ≠ 0 := by
    have := sq_nn (N / D)
    grind
  show ((2 : Int) : Rat) * N * D / (D * D + N * N) = _
  have e2 : ((2 : Int) : Rat) = 2 := rfl
  rw [e2]
  grind
theorem sh_bd {c a : Pt} {t : Rat} (h1 : BdP 20 c) (h2 : BdP 41 a) (h3 : Bd 10 t) : BdP 190 (atShare c a t) := by
  have hT := h3.1
  have hB := h3.den
  have hBB : ((t.den : Int) * t.den).natAbs < 2 ^ 20 := int_mul_lt hB hB
  have hTT : (t.num * t.num).natAbs < 2 ^ 20 := int_mul_lt hT hT
  have hw0 : (t.den : Int) * t.den + t.num * t.num ≠ 0 := by
    have h1 : 0 < (t.den : Int) * t.den := Int.mul_pos (by have := t.den_nz; omega) (by have := t.den_nz; omega)
    have h2 : 0 ≤ t.num * t.num := by
      rcases Int.le_total 0 t.num with z | z
      · exact Int.mul_nonneg z z
      · exact Int.mul_nonneg_of_nonpos_of_nonpos z z
    omega
  have hwb : ((t.den : Int) * t.den + t.num * t.num).natAbs < 2 ^ 21 := int_add_lt hBB hTT
  have b2 : ((2 : Int) * t.num * t.den).natAbs < 2 ^ 22 := int_mul_lt (n := 12) (int_mul_lt (n := 2) (by decide) hT) hB
  have bu : Bd 21 ((1 - t * t) / (1 + t * t)) := by rw [← sh_u]; exact bd_div hw0 (int_sub_lt hBB hTT) hwb
  have bv : Bd 22 ((t + t) / (1 + t * t)) := by rw [← sh_v]; exact bd_div hw0 b2 (Nat.lt_of_lt_of_le hwb (by decide))
  have bo : BdP 62 (off a c) := h2.off h1
  have r1 := (bu.mul bo.1).sub (bv.mul bo.2)
  have r2 := (bv.mul bo.1).add (bu.mul bo.2)
  exact ⟨(h1.1.add r1).le (by decide), (h1.2.add r2).le (by decide)⟩
theorem c__law_at_share (F : Fd K "_law_at_share" 58 kws f fd) (hm : mg "_law_at_share" = some (.ref f))
    (G__law_lowest : Callee P w K mg base "_law_lowest" 1 [("_law_top" : Str), ("_law_bottom" : Str)] (spD K R__law_lowest))
    (G__law_both : Callee P w K mg base "_law_both" 3 [("_law_p" : Str), ("_law_q" : Str), ("_law_by" : Str)] (spD K R__law_both))
    (G__law_sum : Callee P w K mg base "_law_sum" 2 [("_law_one_here" : Str), ("_law_other" : Str), ("_law_by" : Str)] (spD K R__law_sum))
    (G__law_product : Callee P w K mg base "_law_product" 2 [("_law_one_here" : Str), ("_law_other" : Str)] (spD K R__law_product)) :
    Callee P w K mg base "_law_at_share" 4 [("_law_c" : Str), ("_law_a" : Str), ("_law_t" : Str)] (spD K R__law_at_share) := by
  refine mk_d (N := [("_law_c" : Str), ("_law_a" : Str), ("_law_t" : Str), ("_law_top" : Str), ("_law_bottom" : Str), ("_law_whole_here" : Str), ("_law_u" : Str), ("_law_v" : Str), ("_law_x" : Str), ("_law_y" : Str), ("_law_way" : Str)]) F hm (C8.fnScope_by (by kernel_rfl)) (fun _ _ _ _ _ _ us h => match us, h with | [a, b, c], _ => rfl) (fun es r hR => by obtain ⟨_, _, _, h, _⟩ := hR; rw [h]; rfl) fun cdv A outer s H E hr es r as hR => ?_
  have hN : ([("_law_c" : Str), ("_law_a" : Str), ("_law_t" : Str), ("_law_top" : Str), ("_law_bottom" : Str), ("_law_whole_here" : Str), ("_law_u" : Str), ("_law_v" : Str), ("_law_x" : Str), ("_law_y" : Str), ("_law_way" : Str)] : List Str).Nodup := by decide
  obtain ⟨c, a, t, rfl, rfl, h1, h2, h3⟩ := hR
  have hT := h3.1
  have hB := h3.den
  have hBB : ((t.den : Int) * t.den).natAbs < 2 ^ 40 := int_mul_lt hB hB
  have hTT : (t.num * t.num).natAbs < 2 ^ 40 := int_mul_lt hT hT
  have hw0 : (t.den : Int) * t.den + t.num * t.num ≠ 0 := by
    have h1 : 0 < (t.den : Int) * t.den := Int.mul_pos (by have := t.den_nz; omega) (by have := t.den_nz; omega)
    have h2 : 0 ≤ t.num * t.num := by
      rcases Int.le_total 0 t.num with z | z
      · exact Int.mul_nonneg z z
      · exact Int.mul_nonneg_of_nonpos_of_nonpos z z
    omega
  have hwb : ((t.den : Int) * t.den + t.num * t.num).natAbs < 2 ^ 41 := int_add_lt hBB hTT
  have hw9 : ((t.den : Int) * t.den + t.num * t.num).natAbs < 2 ^ 9000 := Nat.lt_of_lt_of_le hwb (Nat.pow_le_pow_right (by decide) (by decide))
  have b2 : ((2 : Int) * t.num * t.den).natAbs < 2 ^ 42 := int_mul_lt (n := 22) (int_mul_lt (n := 2) (by decide) hT) hB
  have bu : Bd 42 ((1 - t * t) / (1 + t * t)) := by rw [← sh_u]; exact bd_div hw0 (Nat.lt_of_lt_of_le (int_sub_lt hBB hTT) (by decide)) (Nat.lt_of_lt_of_le hwb (by decide))
  have bv : Bd 42 ((t + t) / (1 + t * t)) := by rw [← sh_v]; exact bd_div hw0 b2 (Nat.lt_of_lt_of_le hwb (by decide))
  have bo : BdP 401 (off a c) := h2.off h1
  refine b_asg (x_var 2 rfl (⟨_, _, _, rfl, g_tup2 3 4 rfl hN, ?_⟩))
  refine b_set 5 hN (x_add (x_mul (x_var 4 rfl (⟨rfl, x_var 4 rfl (⟨_, _, rfl, rfl, ?_, ⟨rfl, x_mul (x_var 3 rfl (⟨rfl, x_var 3 rfl (⟨_, _, rfl, rfl, ?_, ⟨_, _, rfl, rfl, trivial, ⟨rfl, ?_⟩⟩⟩)⟩))⟩⟩)⟩))))
  · exact cm hB hB
  · exact cm hT hT
  refine b_set 6 hN (x_call G__law_lowest hr (a_cons (x_sub (x_mul (x_var 4 rfl (⟨rfl, x_var 4 rfl (⟨_, _, rfl, rfl, ?_, ⟨rfl, x_mul (x_var 3 rfl (⟨rfl, x_var 3 rfl (⟨_, _, rfl, rfl, ?_, ⟨_, _, rfl, rfl, trivial, ⟨rfl, a_cons (x_var 5 rfl (⟨rfl, a_nil (⟨_, ⟨_, _, rfl, rfl, ?_, ?_⟩, ⟨rfl, ?_⟩⟩)⟩))⟩⟩⟩)⟩))⟩⟩)⟩))))))
  · exact cm hB hB
  · exact cm hT hT
  · exact hw0
  · exact hw9
  refine b_set 7 hN (x_call G__law_lowest hr (a_cons (x_mul (x_mul (x_int (⟨rfl, x_var 3 rfl (⟨_, _, rfl, rfl, ?_, ⟨rfl, x_var 4 rfl (⟨_, _, rfl, rfl, ?_, ⟨rfl, a_cons (x_var 5 rfl (⟨rfl, a_nil (⟨_, ⟨_, _, rfl, rfl, ?_, ?_⟩, ⟨rfl, ?_⟩⟩)⟩))⟩⟩)⟩⟩)⟩))))))
  · exact cm (n := 2) (by decide) hT
  · exact cm (n := 22) (int_mul_lt (n := 2) (by decide) hT) hB
  · exact hw0
  · exact hw9
  refine b_asg (x_call G__law_both hr (a_cons (x_var 1 rfl (⟨rfl, a_cons (x_var 0 rfl (⟨rfl, a_cons (x_neg (x_int (⟨_, rfl, ⟨rfl, a_nil (⟨_, ⟨_, _, _, rfl, rfl, ?_, ?_, ?_⟩, ⟨_, _, _, rfl, g_tup2 8 9 rfl hN, ?_⟩⟩)⟩⟩)))⟩))⟩))))
  · decide
  · exact h2.le (by decide)
  · exact h1.le (by decide)
  show XB _ _ _ _ _ [some (.d (pD c)), some (.d (pD a)), some (.d (fD t)), some (.d (.int t.num)), some (.d (.int t.den)), some (.d (.int ((t.den : Int) * t.den + t.num * t.num))), some (.d (fD (Rat.divInt ((t.den : Int) * t.den - t.num * t.num) ((t.den : Int) * t.den + t.num * t.num)))), some (.d (fD (Rat.divInt (2 * t.num * t.den) ((t.den : Int) * t.den + t.num * t.num)))), some (.d (fD (off a c).1)), some (.d (fD (off a c).2)), none] _
  rw [sh_u, sh_v]
  obtain ⟨u, hu⟩ : ∃ u, u = (1 - t * t) / (1 + t * t) := ⟨_, rfl⟩
  obtain ⟨v, hv⟩ : ∃ v, v = (t + t) / (1 + t * t) := ⟨_, rfl⟩
  have eS : atShare c a t = tog c (u * (off a c).1 - v * (off a c).2, v * (off a c).1 + u * (off a c).2) := by rw [hu, hv]; rfl
  rw [eS, ← hu, ← hv]
  rw [← hu] at bu
  rw [← hv] at bv
  clear hu hv eS
  have m1 := bu.mul bo.1
  have m2 := bv.mul bo.2
  have m3 := bv.mul bo.1
  have m4 := bu.mul bo.2
  refine b_set 10 hN (x_tup (a_cons (x_call G__law_sum hr (a_cons (x_call G__law_product hr (a_cons (x_var 6 rfl (⟨rfl, a_cons (x_var 8 rfl (⟨rfl, a_nil (⟨_, ⟨_, _, rfl, rfl, ?_, ?_⟩, ⟨rfl, a_cons (x_call G__law_product hr (a_cons (x_var 7 rfl (⟨rfl, a_cons (x_var 9 rfl (⟨rfl, a_nil (⟨_, ⟨_, _, rfl, rfl, ?_, ?_⟩, ⟨rfl, a_cons (x_neg (x_int (⟨_, rfl, ⟨rfl, a_nil (⟨_, ⟨_, _, _, rfl, rfl, ?_, ?_, ?_⟩, ⟨rfl, a_cons (x_call G__law_sum hr (a_cons (x_call G__law_product hr (a_cons (x_var 7 rfl (⟨rfl, a_cons (x_var 8 rfl (⟨rfl, a_nil (⟨_, ⟨_, _, rfl, rfl, ?_, ?_⟩, ⟨rfl, a_cons (x_call G__law_product hr (a_cons (x_var 6 rfl (⟨rfl, a_cons (x_var 9 rfl (⟨rfl, a_nil (⟨_, ⟨_, _, rfl, rfl, ?_, ?_⟩, ⟨rfl, a_cons (x_int (⟨rfl, a_nil (⟨_, ⟨_, _, _, rfl, rfl, ?_, ?_, ?_⟩, ⟨rfl, a_nil (⟨[_, _], rfl, Nat.le_of_ble_eq_true rfl, ⟨rfl, ?_⟩⟩)⟩⟩)⟩))⟩⟩)⟩))⟩))))⟩⟩)⟩))⟩))))))⟩⟩)⟩⟩)))⟩⟩)⟩))⟩))))⟩⟩)⟩))⟩))))))))
  · exact bu.le (by decide)
  · exact bo.1.le (by decide)
  · exact bv.le (by decide)
  · exact bo.2.le (by decide)
  · decide
  · exact m1.le (by decide)
  · exact m2.le (by decide)
  · exact bv.le (by decide)
  · exact bo.1.le (by decide)
  · exact bu.le (by decide)
  · exact bo.2.le (by decide)
  · decide
  · exact m3.le (by decide)
  · exact m4.le (by decide)
  refine b_ret (x_call G__law_both hr (a_cons (x_var 0 rfl (⟨rfl, a_cons (x_var 10 rfl (⟨rfl, a_cons (x_int (⟨rfl, a_nil (⟨_, ⟨_, (u * (off a c).1 - v * (off a c).2, v * (off a c).1 + u * (off a c).2), _, rfl, rfl, ?_, ?_, ?_⟩, .inl ?_⟩)⟩))⟩))⟩))))
  · decide
  · exact h1.le (by decide)
  · exact ⟨(m1.sub m2).le (by decide), (m3.add m4).le (by decide)⟩
  · rfl
theorem c__law_some (F : Fd K "_law_some" 63 kws f fd) (hm : mg "_law_some" = some (.ref f)) (hrange : mg "range" = none)
    (G__law_at_share : Callee P w K mg base "_law_at_share" 4 [("_law_c" : Str), ("_law_a" : Str), ("_law_t" : Str)] (spD K R__law_at_share))
    (G__law_share : Callee P w K mg base "_law_share" 2 [("_law_from" : Str)] (sp_share K))
    (G__law_draw : Callee P w K mg base "_law_draw" 1 [("_law_from" : Str), ("_law_many" : Str)] (sp_draw K))
    (G__law_both : Callee P w K mg base "_law_both" 3 [("_law_p" : Str), ("_law_q" : Str), ("_law_by" : Str)] (spD K R__law_both)) :
    Callee P w K mg base "_law_some" 5 [("_law_from" : Str), ("_law_c" : Str), ("_law_a" : Str), ("_law_many" : Str)] (sp_some K) := by
  refine mk_w (N := [("_law_from" : Str), ("_law_c" : Str), ("_law_a" : Str), ("_law_many" : Str), ("_law_found" : Str), ("_law_k" : Str), ("_law_p" : Str)]) F hm (C8.fnScope_by (by kernel_rfl)) (fun _ _ _ _ _ _ us h => match us, h with | [a, b, c, d], _ => rfl) (fun fd es hA => by obtain ⟨_, _, _, h, _⟩ := hA; rw [h]; rfl) fun cdv A outer s H E hr a fd0 es as hA => ?_
  have hN : ([("_law_from" : Str), ("_law_c" : Str), ("_law_a" : Str), ("_law_many" : Str), ("_law_found" : Str), ("_law_k" : Str), ("_law_p" : Str)] : List Str).Nodup := by decide
  obtain ⟨hF, c, a0, rfl, h1, h2⟩ := hA
  obtain ⟨k, F0, hkN, hmin⟩ := fk_split hF
  refine b_setN 4 hN (x_lst (a_nil ⟨[], rfl, Nat.le_of_ble_eq_true rfl, _, rfl, fun a2 ha2 hnew2 haW2 => b_wide (i := 4) rfl ha2 ?_⟩))
  have hne : a ≠ a2 := hnew2 0 _ rfl (fun _ z => nomatch z) (fun _ z => nomatch z)
  have hne2 : a2 ≠ a := Ne.symm hne
  refine b_for rfl (i_rng1 hrange (a_cons (x_var 3 rfl ⟨rfl, a_nil ⟨_, rfl, by decide, by decide, fun j Γ => ∃ (fd : List PyData) (ps : List Pt) (v5 v6 : Option PyData), Γ = [some (.w a fd), some (.d (pD c)), some (.d (pD a0)), some (.d (.int 2)), some (.w a2 (ps.map pD)), v5.map Ent.d, v6.map Ent.d] ∧ ps.length = j ∧ Fk (k + 4 * j) fd ∧ ∀ p ∈ ps, BdP 190 p ∧ far c p = far c a0, ⟨fd0, [], none, none, rfl, rfl, F0, fun p hp => by simp at hp⟩, fun _ _ _ => trivial, fun j d Γ2 hk hI => ?_, fun Γ2 hI => ?_⟩⟩)))
  · obtain ⟨fd, ps, v5, v6, rfl, hl, F1, hps⟩ := hI
    obtain ⟨hj2, hd⟩ := rng_get hk
    have hj2 : j < 2 := by simpa using hj2
    refine ⟨_, _, g_name 5 hN, fun B' hB' => ?_⟩
    refine b_set 6 hN (x_call G__law_at_share hr (a_cons (x_var 1 rfl (⟨rfl, a_cons (x_var 2 rfl (⟨rfl, a_cons (x_from G__law_share hr (a_consV 0 rfl (a_nil (⟨_, rfl, (fun _ z => nomatch z), ⟨_, _, _, _, rfl, rfl, (alone_of (by cases v6 <;> repeat' (first | exact True.intro | assumption | apply And.intro))), (by simp), F1, (by omega), rfl, fun fd2 x2 F2 T2 => ⟨rfl, a_nil (⟨_, ⟨_, _, _, rfl, rfl, ?_, ?_, ?_⟩, ⟨rfl, ?_⟩⟩)⟩⟩⟩))))⟩))⟩))))
    · exact h1.le (by decide)
    · exact h2.le (by decide)
    · exact Bd.le T2 (by decide)
    have T2 : Bd 10 x2 := T2
    have hp1 : BdP 190 (atShare c a0 x2) ∧ far c (atShare c a0 x2) = far c a0 := by
      exact ⟨sh_bd h1 h2 T2, far_at _ _ _⟩
    refine b_ifJ (fun Γ => ∃ (fd : List PyData) (p : Pt), Γ = [some (.w a fd), some (.d (pD c)), some (.d (pD a0)), some (.d (.int 2)), some (.w a2 (ps.map pD)), some (.d d), some (.d (pD p))] ∧ Fk (k + 4 * (j + 1)) fd ∧ BdP 190 p ∧ far c p = far c a0) (t_eq hr (x_from G__law_draw hr (a_consV 0 rfl (a_cons (x_int (⟨rfl, a_nil (⟨_, rfl, (fun _ z => nomatch z), ⟨_, _, _, _, rfl, rfl, (alone_of (by repeat' (first | exact True.intro | assumption | apply And.intro))), (by simp), F2, (by omega), ⟨_, rfl, (by decide), (by decide)⟩, fun fd3 x3 F3 T3 => ⟨rfl, x_int (⟨(by trivial), (by trivial), _, rfl, ⟨fun hb => ?_, fun hb => ?_⟩⟩)⟩⟩⟩)⟩)))))) fun Γ hJ => ?_
    · refine b_set 6 hN (x_call G__law_both hr (a_cons (x_call G__law_both hr (a_cons (x_var 1 rfl (⟨rfl, a_cons (x_var 1 rfl (⟨rfl, a_cons (x_int (⟨rfl, a_nil (⟨_, ⟨_, _, _, rfl, rfl, ?_, ?_, ?_⟩, ⟨rfl, a_cons (x_var 2 rfl (⟨rfl, a_cons (x_neg (x_int (⟨_, rfl, ⟨rfl, a_nil (⟨_, ⟨_, _, _, rfl, rfl, ?_, ?_, ?_⟩, ⟨rfl, ?_⟩⟩)⟩⟩)))⟩))⟩⟩)⟩))⟩))⟩))))))
      · decide
      · exact h1.le (by decide)
      · exact h1.le (by decide)
      · decide
      · exact (h1.tog h1).le (by decide)
      · exact h2.le (by decide)
      refine b_nil ⟨fd3, off (tog c c) a0, rfl, F3.le (by omega), ((h1.tog h1).off h2).le (by decide), ?_⟩
      unfold far along off tog
      grind
    · exact b_nil ⟨fd3, atShare c a0 x2, rfl, F3.le (by omega), hp1⟩
    · obtain ⟨fd4, p, rfl, F4, hp, hf⟩ := hJ
      refine b_append 4 rfl rfl (x_var 6 rfl (⟨_, _, _, rfl, alone_of (by repeat' (first | exact True.intro | assumption | apply And.intro)), (by simp), rfl, ?_, ?_⟩))
      · rw [List.length_map]; omega
      · refine b_nil ⟨fd4, ps ++ [p], some d, some (pD p), by rw [List.map_append]; rfl, by simp [hl], F4, fun q hq => ?_⟩
        rcases List.mem_append.mp hq with hq | hq
        · exact hps q hq
        · simp at hq; subst hq; exact ⟨hp, hf⟩
  · obtain ⟨fd, ps, v5, v6, rfl, hl, F1, hps⟩ := hI
    have hl2 : ps.length = 2 := by rw [hl, rng_len]; rfl
    rw [rng_len] at F1
    obtain ⟨p, q, rfl⟩ : ∃ p q, ps = [p, q] := by
      match ps, hl2 with
      | [p, q], _ => exact ⟨p, q, rfl⟩
    have hp := hps p (by simp)
    have hq := hps q (by simp)
    refine b_ret (x_var 4 rfl ⟨_, _, ⟨fun m hm => F1.le (by have := hmin m hm; omega), (p, q), ⟨c, a0, rfl, hp.1, hq.1, hp.2, hq.2⟩, rfl⟩, rfl, .inr ⟨a2, _, rfl, rfl, ha2⟩⟩)

end
end AW
set_option Elab.async false
set_option linter.all false
set_option maxRecDepth 100000
set_option maxHeartbeats 2000000
namespace AW
open PySem PySem.Spec PyProof.Rows L2 L3 AM
local macro_rules | `(tactic| trivial) => `(tactic| first | exact (shp_pD _).ok | exact (shp_fD _).ok | exact (shp_kD _).ok | exact (shp_xD _).ok | exact shp_keyE _ | exact shp_keyE _ | exact shp_s1.ok | exact shp_s2.ok | exact shp_s3.ok | exact shp_s4.ok | exact shp_s5.ok | exact shp_s6.ok | exact (shp_int 0 _).ok)
section
variable {w : World} {K : PySem.W.Frag} {mg : Str → Option Value} {base : Heap} {kws : List (Str × V)} {f : Addr} {fd : FuncData} {P : Program}
theorem pD_inj {p q : Pt} (h : pD p = pD q) : p = q := by
  have := eqv_pD p q
  rw [h, eqv_pD] at this
  simpa using this
def sel3 (a b c : Pt) (x : Int) : Pt := if x = 0 then a else if x = 1 then b else c
theorem t3 {x : Int} (h : T_draw [.d (.int 3)] x) : 0 ≤ x ∧ x < 3 := by
  obtain ⟨_, e, l, u⟩ := h
  cases e
  exact ⟨l, u⟩
theorem at3 {a b c : Pt} {x : Int} (h : 0 ≤ x ∧ x < 3) : atI [pD a, pD b, pD c] x = some (pD (sel3 a b c x)) := by
  obtain ⟨h0, h1⟩ := h
  have : x = 0 ∨ x = 1 ∨ x = 2 := by omega
  rcases this with rfl | rfl | rfl <;> rfl
theorem sel3_bd {a b c : Pt} {x : Int} (h1 : BdP 190 a) (h2 : BdP 190 b) (h3 : BdP 190 c) : BdP 190 (sel3 a b c x) := by
  unfold sel3
  split
  · exact h1
  · split
    · exact h2
    · exact h3
theorem before_tot {p q : Pt} (h : p ≠ q) (hb : before q p = false) : before p q = true := by
  rw [before_iff]
  have hb : ¬ (before q p = true) := by rw [hb]; decide
  rw [before_iff] at hb
  by_cases e : p.1 = q.1
  · have : p.2 ≠ q.2 := fun z => h (Prod.ext e z)
    refine .inr ⟨e, ?_⟩
    grind
  · refine .inl ?_
    grind
theorem c__law_one_here (F : Fd K "_law_one_here" 68 kws f fd) (hm : mg "_law_one_here" = some (.ref f))
    (G__law_draw : Callee P w K mg base "_law_draw" 1 [("_law_from" : Str), ("_law_many" : Str)] (sp_draw K))
    (G__law_some : Callee P w K mg base "_law_some" 5 [("_law_from" : Str), ("_law_c" : Str), ("_law_a" : Str), ("_law_many" : Str)] (sp_some K))
    (G__law_weighed : Callee P w K mg base "_law_weighed" 5 [("_law_from" : Str), ("_law_line" : Str)] (sp_weighed K))
    (G__law_first : Callee P w K mg base "_law_first" 1 [("_law_p" : Str), ("_law_q" : Str)] (spD K R__law_first))
    (G__law_spot : Callee P w K mg base "_law_spot" 3 [("_law_from" : Str)] (sp_spot K)) :
    Callee P w K mg base "_law_one_here" 6 [("_law_from" : Str), ("_law_line" : Str), ("_law_c" : Str), ("_law_a" : Str)] (sp_one K) := by
  refine mk_w (N := [("_law_from" : Str), ("_law_line" : Str), ("_law_c" : Str), ("_law_a" : Str), ("_law_way" : Str), ("_law_p" : Str), ("_law_q" : Str)]) F hm (C8.fnScope_by (by kernel_rfl)) (fun _ _ _ _ _ _ us h => match us, h with | [a, b, c, d], _ => rfl) (fun fd es hA => by obtain ⟨_, _, _, _, _, h, _⟩ := hA; rw [h]; rfl) fun cdv A outer s H E hr a fd0 es as hA => ?_
  have hN : ([("_law_from" : Str), ("_law_line" : Str), ("_law_c" : Str), ("_law_a" : Str), ("_law_way" : Str), ("_law_p" : Str), ("_law_q" : Str)] : List Str).Nodup := by decide
  obtain ⟨hF, p0, q0, c, a0, rfl, h1, h2, h3, h4, h5⟩ := hA
  obtain ⟨k, F0, hkN, hmin⟩ := fk_split hF
  refine b_set 4 hN (x_from G__law_draw hr (a_consV 0 rfl (a_cons (x_int (⟨rfl, a_nil (⟨_, rfl, (fun _ z => nomatch z), ⟨_, _, _, _, rfl, rfl, (alone_of (by repeat' (first | exact True.intro | assumption | apply And.intro))), (List.mem_singleton_self _), F0, (by omega), ⟨_, rfl, (by decide), (by decide)⟩, fun fd1 x1 F1 T1 => ⟨rfl, ?_⟩⟩⟩)⟩)))))
  obtain ⟨_, e1, l1, u1⟩ := T1
  cases e1
  refine b_two 5 6 rfl hN (x_from G__law_some hr (a_consV 0 rfl (a_cons (x_var 2 rfl (⟨rfl, a_cons (x_var 3 rfl (⟨rfl, a_cons (x_int (⟨rfl, a_nil (⟨_, rfl, (fun _ z => nomatch z), ⟨_, _, _, _, rfl, rfl, (alone_of (by repeat' (first | exact True.intro | assumption | apply And.intro))), (List.mem_singleton_self _), F1, (by omega), ?_, fun fd2 x2 F2 T2 => ⟨_, _, rfl, ?_⟩⟩⟩)⟩))⟩))⟩)))))
  · exact ⟨c, a0, rfl, h3, h4⟩
  obtain ⟨c', a', e2, b1, b2, f1, f2⟩ := T2
  obtain ⟨ec, ea⟩ : pD c = pD c' ∧ pD a0 = pD a' := by
    simp [Ent.wk] at e2
    exact e2
  have ec := pD_inj ec
  have ea := pD_inj ea
  subst ec ea
  obtain ⟨p, q⟩ := x2
  have b1 : BdP 190 p := b1
  have b2 : BdP 190 q := b2
  have f1 : far c p = far c a0 := f1
  have f2 : far c q = far c a0 := f2
  show XB _ _ _ _ _ [some (.w a fd2), some (.d (.tuple [pD p0, pD q0])), some (.d (pD c)), some (.d (pD a0)), some (.d (.int x1)), some (.d (pD p)), some (.d (pD q))] _
  have leaf : ∀ (n : Nat) (fd : List PyData) (x : Pc), Fk n fd → n ≤ k + 20 → Drawn x → ∃ fd' r, ((∀ m, Fk m fd0 → Fk (m + 20) fd') ∧ ∃ x : Pc, Drawn x ∧ r = .d (xD x)) ∧ some (some (Ent.w a fd)) = some (some (.w a fd')) ∧ Rt H r (.d (xD x)) := fun n fd x hF hn hx =>
    ⟨_, _, ⟨fun m hm => hF.le (by have := hmin m hm; omega), x, hx, rfl⟩, rfl, .inl rfl⟩
  have dDot : ∀ m : Pt, BdP 190 m → Drawn (.dot m) := fun m hm => ⟨True.intro, hm, fun c hc => (by
    rcases hc with ⟨_, _, z⟩ | ⟨_, z⟩ <;> cases z), fun _ _ z => nomatch z⟩
  have dSt : ∀ u v : Pt, BdP 90 u → BdP 90 v → before u v = true → Drawn (.st u v) := fun u v hu hv hb => ⟨hb, ⟨hu.le (by decide), hv.le (by decide)⟩, fun c hc => (by
    rcases hc with ⟨_, _, z⟩ | ⟨_, z⟩ <;> cases z), fun _ _ z => by cases z; exact ⟨hu, hv⟩⟩
  refine b_if (t_eq hr (x_var 4 rfl (⟨rfl, x_int (⟨(by trivial), (by trivial), _, rfl, ⟨fun hb => ?_, fun hb => ?_⟩⟩)⟩)))
  · refine b_ret (x_tup (a_cons (x_str (⟨rfl, a_cons (x_ix (x_lst (a_cons (x_from G__law_spot hr (a_consV 0 rfl (a_nil (⟨_, rfl, (fun _ z => nomatch z), ⟨_, _, _, _, rfl, rfl, (alone_of (by repeat' (first | exact True.intro | assumption | apply And.intro))), (List.mem_singleton_self _), F2, (by omega), rfl, fun fd3 x3 F3 T3 => ⟨rfl, a_cons (x_var 5 rfl (⟨rfl, a_cons (x_from G__law_weighed hr (a_consV 0 rfl (a_cons (x_var 1 rfl (⟨rfl, a_nil (⟨_, rfl, (fun _ z => nomatch z), ⟨_, _, _, _, rfl, rfl, (alone_of (by repeat' (first | exact True.intro | assumption | apply And.intro))), (List.mem_singleton_self _), F3, (by omega), ?_, fun fd4 x4 F4 T4 => ⟨rfl, a_nil (⟨[_, _, _], rfl, Nat.le_of_ble_eq_true rfl, ⟨rfl, x_from G__law_draw hr (a_consV 0 rfl (a_cons (x_int (⟨rfl, a_nil (⟨_, rfl, (fun _ z => nomatch z), ⟨_, _, _, _, rfl, rfl, (alone_of (by repeat' (first | exact True.intro | assumption | apply And.intro))), (List.mem_singleton_self _), F4, (by omega), ⟨_, rfl, (by decide), (by decide)⟩, fun fd5 x5 F5 T5 => ⟨_, _, _, rfl, rfl, at3 (t3 T5), ⟨rfl, a_nil (⟨[_, _], rfl, Nat.le_of_ble_eq_true rfl, ?_⟩)⟩⟩⟩⟩)⟩))))⟩⟩)⟩⟩⟩)⟩)))))⟩))⟩⟩⟩)))))))⟩))))
    · exact ⟨p0, q0, rfl, h1, h2⟩
    · exact leaf _ fd5 (.dot (sel3 x3 p x4 x5)) F5 (by omega) (dDot _ (sel3_bd (BdP.le T3 (by decide)) b1 (BdP.le T4 (by decide))))
  refine b_nil ?_
  refine b_ifJ (fun Γ => ∃ fd, Γ = [some (.w a fd), some (.d (.tuple [pD p0, pD q0])), some (.d (pD c)), some (.d (pD a0)), some (.d (.int x1)), some (.d (pD p)), some (.d (pD q))] ∧ Fk (k + 10) fd) (t_w (w_and (t_eq hr (x_var 4 rfl (⟨rfl, x_int (⟨(by trivial), (by trivial), _, rfl, ⟨fun t1 => w_and1 (t_eq hr (x_from G__law_draw hr (a_consV 0 rfl (a_cons (x_int (⟨rfl, a_nil (⟨_, rfl, (fun _ z => nomatch z), ⟨_, _, _, _, rfl, rfl, (alone_of (by repeat' (first | exact True.intro | assumption | apply And.intro))), (List.mem_singleton_self _), F2, (by omega), ⟨_, rfl, (by decide), (by decide)⟩, fun fd3 x3 F3 T3 => ⟨rfl, x_int (⟨(by trivial), (by trivial), _, rfl, ⟨fun hb => ?_, fun hb => ?_⟩⟩)⟩⟩⟩)⟩)))))), fun t1 => ⟨fun hb => ?_, fun hb => ?_⟩⟩⟩)⟩))))) fun Γ hJ => ?_
  · refine b_ret (x_tup (a_cons (x_str (⟨rfl, a_cons (x_var 2 rfl (⟨rfl, a_cons (x_var 5 rfl (⟨rfl, a_nil (⟨[_, _, _], rfl, Nat.le_of_ble_eq_true rfl, ?_⟩)⟩))⟩))⟩))))
    exact leaf _ fd3 (.ring c p) F3 (by omega) ⟨show far c p ≠ 0 by rw [f1]; exact h5, ⟨h3.le (by decide), b1⟩, fun c' hc => (by
      rcases hc with ⟨_, _, z⟩ | ⟨_, z⟩
      · cases z
      · cases z; exact h3), fun _ _ z => nomatch z⟩
  · exact b_nil ⟨fd3, rfl, F3⟩
  · cases hb
  · exact b_nil ⟨fd2, rfl, F2.le (by omega)⟩
  obtain ⟨fd3, rfl, F3⟩ := hJ
  refine b_ifB (decide (x1 < 5) && !decide (p = q)) (t_w (w_and (t_lt (x_var 4 rfl (⟨rfl, x_int (⟨_, _, rfl, rfl, trivial, _, rfl, ⟨fun t1 => w_and1 (t_ne hr (x_var 5 rfl (⟨rfl, x_var 6 rfl (⟨(by trivial), (by trivial), _, rfl, ⟨rfl, ?_⟩⟩)⟩))), fun t1 => ⟨rfl, ?_⟩⟩⟩)⟩))))) (fun hb => ?_) (fun hb => ?_)
  · rw [t1, Bool.true_and]
    exact congrArg _ (eqv_pD p q)
  · rw [t1, Bool.false_and]
  · refine b_ret (x_tup (a_cons (x_str (⟨rfl, a_cons (x_var 2 rfl (⟨rfl, a_cons (x_var 5 rfl (⟨rfl, a_cons (x_var 6 rfl (⟨rfl, a_nil (⟨[_, _, _, _], rfl, Nat.le_of_ble_eq_true rfl, ?_⟩)⟩))⟩))⟩))⟩))))
    have hpq : p ≠ q := by
      intro z
      subst z
      simp at hb
    exact leaf _ fd3 (.arc c p q) F3 (by omega) ⟨⟨by rw [f1]; exact h5, by rw [f1, f2], hpq⟩, ⟨h3.le (by decide), b1, b2⟩, fun c' hc => (by
      rcases hc with ⟨_, _, z⟩ | ⟨_, z⟩
      · cases z; exact h3
      · cases z), fun _ _ z => nomatch z⟩
  refine b_nil ?_
  refine b_set 5 hN (x_from G__law_weighed hr (a_consV 0 rfl (a_cons (x_var 1 rfl (⟨rfl, a_nil (⟨_, rfl, (fun _ z => nomatch z), ⟨_, _, _, _, rfl, rfl, (alone_of (by repeat' (first | exact True.intro | assumption | apply And.intro))), (List.mem_singleton_self _), F3, (by omega), ?_, fun fd4 x4 F4 T4 => ⟨rfl, ?_⟩⟩⟩)⟩)))))
  · exact ⟨p0, q0, rfl, h1, h2⟩
  refine b_set 6 hN (x_from G__law_weighed hr (a_consV 0 rfl (a_cons (x_var 1 rfl (⟨rfl, a_nil (⟨_, rfl, (fun _ z => nomatch z), ⟨_, _, _, _, rfl, rfl, (alone_of (by repeat' (first | exact True.intro | assumption | apply And.intro))), (List.mem_singleton_self _), F4, (by omega), ?_, fun fd5 x5 F5 T5 => ⟨rfl, ?_⟩⟩⟩)⟩)))))
  · exact ⟨p0, q0, rfl, h1, h2⟩
  have T4 : BdP 90 x4 := T4
  have T5 : BdP 90 x5 := T5
  refine b_if (t_eq hr (x_var 5 rfl (⟨rfl, x_var 6 rfl (⟨(by trivial), (by trivial), _, rfl, ⟨fun hb => ?_, fun hb => ?_⟩⟩)⟩)))
  · refine b_ret (x_tup (a_cons (x_str (⟨rfl, a_cons (x_var 5 rfl (⟨rfl, a_nil (⟨[_, _], rfl, Nat.le_of_ble_eq_true rfl, ?_⟩)⟩))⟩))))
    exact leaf _ fd5 (.dot x4) F5 (by omega) (dDot _ (T4.le (by decide)))
  have hne := eqP hb
  have hne : x4 ≠ x5 := by simpa using hne
  refine b_nil ?_
  refine b_if (t_val (x_call G__law_first hr (a_cons (x_var 6 rfl (⟨rfl, a_cons (x_var 5 rfl (⟨rfl, a_nil (⟨_, ⟨_, _, rfl, rfl, ?_, ?_⟩, ⟨_, rfl, ⟨fun hb => ?_, fun hb => ?_⟩⟩⟩)⟩))⟩)))))
  · exact T5.le (by decide)
  · exact T4.le (by decide)
  · refine b_ret (x_tup (a_cons (x_str (⟨rfl, a_cons (x_var 6 rfl (⟨rfl, a_cons (x_var 5 rfl (⟨rfl, a_nil (⟨[_, _, _], rfl, Nat.le_of_ble_eq_true rfl, ?_⟩)⟩))⟩))⟩))))
    exact leaf _ fd5 (.st x5 x4) F5 (by omega) (dSt _ _ T5 T4 hb)
  · refine b_nil ?_
    refine b_ret (x_tup (a_cons (x_str (⟨rfl, a_cons (x_var 5 rfl (⟨rfl, a_cons (x_var 6 rfl (⟨rfl, a_nil (⟨[_, _, _], rfl, Nat.le_of_ble_eq_true rfl, ?_⟩)⟩))⟩))⟩))))
    exact leaf _ fd5 (.st x4 x5) F5 (by omega) (dSt _ _ T4 T5 (before_tot hne hb))

end
end AW
set_option Elab.async false
set_option linter.all false
set_option maxRecDepth 100000
set_option maxHeartbeats 2000000
namespace AW
open PySem PySem.Spec PyProof.Rows L2 L3 AM
local macro_rules | `(tactic| trivial) => `(tactic| first | exact (shp_pD _).ok | exact (shp_fD _).ok | exact (shp_kD _).ok | exact (shp_xD _).ok | exact shp_keyE _ | exact shp_keyE _ | exact shp_s1.ok | exact shp_s2.ok | exact shp_s3.ok | exact shp_s4.ok | exact shp_s5.ok | exact shp_s6.ok | exact (shp_int 0 _).ok)
section
variable {w : World} {K : PySem.W.Frag} {mg : Str → Option Value} {base : Heap} {kws : List (Str × V)} {f : Addr} {fd : FuncData} {P : Program}
theorem b_ifBJ {X : Cx} {B : Hp} {F W : List Addr} {Γ : Gam} {P : Pst} {e : Expr} {A C rest : List Stmt} {pos : Pos} (c : Bool) (J : Gam → Prop) (h : XT X W e Γ fun Γ1 b => Γ1 = Γ ∧ b = c)
    (h1 : c = true → XB X B F W A Γ { P with nx := J }) (h2 : c = false → XB X B F W C Γ { P with nx := J }) (hJ : ∀ Γ2, J Γ2 → XB X B F W rest Γ2 P) : XB X B F W (.If e A C pos :: rest) Γ P :=
  b_ifJ J (PT.imp h fun σ H Q q => ⟨q.1, fun b H2 Γ2 c2 s2 p => q.2 b H2 Γ2 c2 s2 (by
    obtain ⟨rfl, rfl⟩ := p
    exact ⟨h1, h2⟩)⟩) hJ
theorem bd_low2 {n : Nat} {t b : Int} (hb : 0 < b) (h1 : t.natAbs < 2 ^ n) (h2 : b.natAbs < 2 ^ n) : Bd n (Rat.divInt t b) := bd_div (by omega) h1 h2
def arcsD (c : Pt) (pts : List Pt) (n : Nat) : List PyData := ((pts.zip (pts.drop 1)).take n).map fun p => xD (.arc c p.1 p.2)
theorem arcs_zip (c : Pt) : ∀ pts : List Pt, (pts.zip (pts.drop 1)).map (fun p => Pc.arc c p.1 p.2) = arcsOf c pts
  | [] => rfl
  | [_] => rfl
  | x :: y :: r => by
    have := arcs_zip c (y :: r)
    simp only [List.drop_succ_cons, List.drop_zero, List.zip_cons_cons, List.map_cons, arcsOf] at this ⊢
    rw [this]
theorem arcsD_all (c : Pt) (pts : List Pt) : arcsD c pts (zipD (pts.map pD) ((pts.drop 1).map pD)).length = (arcsOf c pts).map xD := by
  unfold arcsD
  rw [List.take_of_length_le (by simp [zipD]), ← arcs_zip, List.map_map]
  rfl
theorem arcs_mem {c : Pt} : ∀ {pts : List Pt} {y : Pc}, y ∈ arcsOf c pts → ∃ p q, y = .arc c p q ∧ p ∈ pts ∧ q ∈ pts
  | [], _, h => by simp [arcsOf] at h
  | [_], _, h => by simp [arcsOf] at h
  | a :: b :: r, y, h => by
    rcases List.mem_cons.mp (show y ∈ .arc c a b :: arcsOf c (b :: r) from h) with rfl | h
    · exact ⟨a, b, rfl, by simp, by simp⟩
    · obtain ⟨p, q, e, h1, h2⟩ := arcs_mem h
      exact ⟨p, q, e, List.mem_cons_of_mem _ h1, List.mem_cons_of_mem _ h2⟩
theorem arcs_len {c : Pt} : ∀ pts : List Pt, (arcsOf c pts).length ≤ pts.length - 1
  | [] => by simp [arcsOf]
  | [_] => by simp [arcsOf]
  | a :: b :: r => by
    have := arcs_len (c := c) (b :: r)
    simp only [arcsOf, List.length_cons] at this ⊢
    omega
theorem cut_one (ds : List PyData) : L3.cutD ds (some 1) none = ds.drop 1 := by
  show List.take (ds.length - min 1 ds.length) (ds.drop (min 1 ds.length)) = _
  cases ds <;> simp
theorem arcsD_step {c : Pt} {pts : List Pt} {j : Nat} {d : PyData} (h : (zipD (pts.map pD) ((pts.drop 1).map pD))[j]? = some d) : ∃ p q : Pt, d = .tuple [pD p, pD q] ∧ arcsD c pts (j + 1) = arcsD c pts j ++ [xD (.arc c p q)] := by
  obtain ⟨x, y, h1, h2, rfl⟩ := L3.zip_get h
  rw [List.getElem?_map] at h1 h2
  obtain ⟨p, e1, rfl⟩ := Option.map_eq_some_iff.mp h1
  obtain ⟨q, e2, rfl⟩ := Option.map_eq_some_iff.mp h2
  refine ⟨p, q, rfl, ?_⟩
  have e3 : (pts.zip (pts.drop 1))[j]? = some (p, q) := List.getElem?_zip_eq_some.mpr ⟨e1, e2⟩
  unfold arcsD
  rw [List.take_add_one, e3]
  simp
theorem sh_bd2 {c a : Pt} {t : Rat} (h1 : BdP 20 c) (h2 : BdP 190 a) (h3 : Bd 5 t) : BdP 500 (atShare c a t) := by
  have hn : 1 + t * t ≠ 0 := by
    have := sq_nn t
    grind
  have b1 : Bd 1 (1 : Rat) := ⟨by decide, by decide⟩
  have bs := h3.mul h3
  have bu := (b1.sub bs).quo (b1.add bs) hn
  have bv := (h3.add h3).quo (b1.add bs) hn
  have bo : BdP 211 (off a c) := h2.off h1
  have r1 := (bu.mul bo.1).sub (bv.mul bo.2)
  have r2 := (bv.mul bo.1).add (bu.mul bo.2)
  exact ⟨(h1.1.add r1).le (by decide), (h1.2.add r2).le (by decide)⟩
theorem c__law_parts (F : Fd K "_law_parts" 69 kws f fd) (hm : mg "_law_parts" = some (.ref f))
    (G_quarters : Callee P w K mg base "quarters" 7 [("piece" : Str)] (spD K R_quarters))
    (G_at_share : Callee P w K mg base "at_share" 5 [("c" : Str), ("a" : Str), ("t" : Str)] (spD K R_at_share))
    (G__law_lowest : Callee P w K mg base "_law_lowest" 1 [("_law_top" : Str), ("_law_bottom" : Str)] (spD K R__law_lowest))
    (G_cut : Callee P w K mg base "cut" 7 [("piece" : Str), ("p" : Str)] (spD K R_cut))
    (G_on : Callee P w K mg base "on" 7 [("piece" : Str), ("p" : Str)] (spD K R_on))
    (G__law_draw : Callee P w K mg base "_law_draw" 1 [("_law_from" : Str), ("_law_many" : Str)] (sp_draw K))
    (G__law_mixed : Callee P w K mg base "_law_mixed" 4 [("_law_p" : Str), ("_law_q" : Str), ("_law_by" : Str)] (spD K R__law_mixed)) (hzip : mg "zip" = none) :
    Callee P w K mg base "_law_parts" 8 [("_law_from" : Str), ("_law_piece" : Str)] (sp_parts K) := by
  refine mk_w (N := [("_law_from" : Str), ("_law_piece" : Str), ("_law_by" : Str), ("_law_points" : Str), ("_law_at" : Str), ("_law_p" : Str), ("_law_q" : Str)]) F hm (C8.fnScope_by (by kernel_rfl)) (fun _ _ _ _ _ _ us h => match us, h with | [a, b], _ => rfl) (fun fd es hA => by obtain ⟨_, _, h, _⟩ := hA; rw [h]; rfl) fun cdv A outer s H E hr a fd0 es as hA => ?_
  have hN : ([("_law_from" : Str), ("_law_piece" : Str), ("_law_by" : Str), ("_law_points" : Str), ("_law_at" : Str), ("_law_p" : Str), ("_law_q" : Str)] : List Str).Nodup := by decide
  obtain ⟨hF, x, rfl, hok, hpb, hcb, hsb⟩ := hA
  obtain ⟨k, F0, hkN, hmin⟩ := fk_split hF
  -- the arcs between points
  have rr : ∀ (m : Pt) (c p : Pt), BdP 20 c → BdP 190 p → m ∈ turns c p → BdP 500 m := by
    intro m c p h1 h2 hm
    have ho : BdP 211 (off p c) := h2.off h1
    have nb : ∀ v : Pt, BdP 211 v → BdP 211 (rot v) := fun v hv => ⟨⟨by show (-v.2).num.natAbs < _; rw [Rat.neg_num, Int.natAbs_neg]; exact hv.2.1, by show (-v.2).den < _; rw [Rat.neg_den]; exact hv.2.2⟩, hv.1⟩
    simp only [turns, List.mem_cons, List.mem_nil_iff, or_false] at hm
    rcases hm with rfl | rfl | rfl
    · exact (h1.tog (nb _ ho)).le (by decide)
    · exact (h1.tog (nb _ (nb _ ho))).le (by decide)
    · exact (h1.tog (nb _ (nb _ (nb _ ho)))).le (by decide)
  cases x with
  | dot p =>
    refine b_if (t_eq hr (x_ix (x_var 1 rfl (⟨rfl, x_int (⟨_, _, _, rfl, rfl, rfl, ⟨rfl, x_str (⟨(by trivial), (by trivial), _, rfl, ⟨fun hb => ?_, fun hb => ?_⟩⟩)⟩⟩)⟩))))
    · refine b_ret (x_lst (a_cons (x_var 1 rfl (⟨rfl, a_cons (x_var 1 rfl (⟨rfl, a_nil (⟨[_, _], rfl, Nat.le_of_ble_eq_true rfl, ?_⟩)⟩))⟩))))
      exact ⟨_, _, ⟨fun m hm => F0.le (by have := hmin m hm; omega), [.dot p, .dot p], ⟨.dot p, rfl, parts_dot p, fun y hy => by
        simp at hy
        subst hy
        exact BdP.le hpb (by decide), by simp⟩, rfl⟩, rfl, .inl rfl⟩
    · exact absurd (eqS hb) (by decide)
  | st p q =>
    refine b_if (t_eq hr (x_ix (x_var 1 rfl (⟨rfl, x_int (⟨_, _, _, rfl, rfl, rfl, ⟨rfl, x_str (⟨(by trivial), (by trivial), _, rfl, ⟨fun hb => ?_, fun hb => ?_⟩⟩)⟩⟩)⟩))))
    · exact absurd (eqS hb) (by decide)
    refine b_nil ?_
    refine b_if (t_eq hr (x_ix (x_var 1 rfl (⟨rfl, x_int (⟨_, _, _, rfl, rfl, rfl, ⟨rfl, x_str (⟨(by trivial), (by trivial), _, rfl, ⟨fun hb => ?_, fun hb => ?_⟩⟩)⟩⟩)⟩))))
    · refine b_set 2 hN (x_call G__law_lowest hr (a_cons (x_from G__law_draw hr (a_consV 0 rfl (a_cons (x_int (⟨rfl, a_nil (⟨_, rfl, (fun _ z => nomatch z), ⟨_, _, _, _, rfl, rfl, (alone_of (by repeat' (first | exact True.intro | assumption | apply And.intro))), (List.mem_singleton_self _), F0, (by omega), ⟨_, rfl, (by decide), (by decide)⟩, fun fd1 x1 F1 T1 => ⟨rfl, a_cons (x_int (⟨rfl, a_nil (⟨_, ⟨_, _, rfl, rfl, ?_, ?_⟩, ⟨rfl, ?_⟩⟩)⟩))⟩⟩⟩)⟩)))))))
      · decide
      · exact Nat.lt_of_lt_of_le (m := 2 ^ 20) (by decide) (Nat.pow_le_pow_right (by decide) (by decide))
      obtain ⟨_, e1, l1, u1⟩ := T1
      cases e1
      have ht : Bd 5 (Rat.divInt x1 11) := bd_low2 (by decide) (by omega) (by decide)
      obtain ⟨s1, s2⟩ := hsb p q rfl
      have b1 := ((s2.1.sub s1.1).mul ht)
      have b2 := ((s2.2.sub s1.2).mul ht)
      have hm5 : BdP 500 (mixP p q (Rat.divInt x1 11)) := ⟨(s1.1.add b1).le (by decide), (s1.2.add b2).le (by decide)⟩
      refine b_ret (x_call G_cut hr (a_cons (x_var 1 rfl (⟨rfl, a_cons (x_call G__law_mixed hr (a_cons (x_ix (x_var 1 rfl (⟨rfl, x_int (⟨_, _, _, rfl, rfl, rfl, ⟨rfl, a_cons (x_ix (x_var 1 rfl (⟨rfl, x_int (⟨_, _, _, rfl, rfl, rfl, ⟨rfl, a_cons (x_var 2 rfl (⟨rfl, a_nil (⟨_, ⟨_, _, _, rfl, rfl, ?_, ?_, ?_⟩, ⟨rfl, a_nil (⟨_, ⟨_, _, _, rfl, rfl, ?_, ?_, ?_⟩, ?_⟩)⟩⟩)⟩))⟩⟩)⟩)))⟩⟩)⟩)))))⟩))))
      · exact hpb.1.le (by decide)
      · exact hpb.2.le (by decide)
      · exact ht.le (by decide)
      · exact hpb.1.le (by decide)
      · exact hpb.2.le (by decide)
      · exact hm5
      · refine ⟨_, _, ⟨fun m hm => F1.le (by have := hmin m hm; omega), cutOf (.st p q) (mixP p q (Rat.divInt x1 11)), ⟨.st p q, rfl, parts_cut hok, fun y hy => ?_, ?_⟩, rfl⟩, rfl, .inl rfl⟩
        · unfold cutOf at hy
          simp only at hy
          split at hy
          · simp at hy
            subst hy
            exact ⟨hpb.1.le (by decide), hpb.2.le (by decide)⟩
          · simp at hy
            rcases hy with rfl | rfl
            · exact ⟨hpb.1.le (by decide), hm5⟩
            · exact ⟨hm5, hpb.2.le (by decide)⟩
        · unfold cutOf
          simp only
          split <;> simp
    · exact absurd (eqS hb) (by decide)
  | arc c p q =>
    obtain ⟨hc, hp, hq⟩ := hpb
    have hc20 := hcb c (.inl ⟨p, q, rfl⟩)
    refine b_if (t_eq hr (x_ix (x_var 1 rfl (⟨rfl, x_int (⟨_, _, _, rfl, rfl, rfl, ⟨rfl, x_str (⟨(by trivial), (by trivial), _, rfl, ⟨fun hb => ?_, fun hb => ?_⟩⟩)⟩⟩)⟩))))
    · exact absurd (eqS hb) (by decide)
    refine b_nil ?_
    refine b_if (t_eq hr (x_ix (x_var 1 rfl (⟨rfl, x_int (⟨_, _, _, rfl, rfl, rfl, ⟨rfl, x_str (⟨(by trivial), (by trivial), _, rfl, ⟨fun hb => ?_, fun hb => ?_⟩⟩)⟩⟩)⟩))))
    · exact absurd (eqS hb) (by decide)
    refine b_nil ?_
    refine b_setN 3 hN (x_call G_quarters hr (a_cons (x_var 1 rfl (⟨rfl, a_nil (⟨_, ⟨.arc c p q, rfl, rfl, ⟨hc.le (by decide), hp.le (by decide), hq.le (by decide)⟩, rfl⟩, ⟨_, rfl, fun a1 ha1 hnew1 haW1 => ?_⟩⟩)⟩))))
    have hne : a ≠ a1 := hnew1 0 _ rfl (fun _ z => nomatch z) (fun _ z => nomatch z)
    have hne2 : a1 ≠ a := Ne.symm hne
    refine b_set 4 hN (x_call G_at_share hr (a_cons (x_ix (x_var 1 rfl (⟨rfl, x_int (⟨_, _, _, rfl, rfl, rfl, ⟨rfl, a_cons (x_ix (x_var 1 rfl (⟨rfl, x_int (⟨_, _, _, rfl, rfl, rfl, ⟨rfl, a_cons (x_call G__law_lowest hr (a_cons (x_add (x_int (⟨rfl, x_from G__law_draw hr (a_consV 0 rfl (a_cons (x_int (⟨rfl, a_nil (⟨_, rfl, (fun _ z => nomatch z), ⟨_, _, _, _, rfl, rfl, (alone_of (by repeat' (first | exact True.intro | assumption | apply And.intro))), (List.mem_singleton_self _), F0, (by omega), ⟨_, rfl, (by decide), (by decide)⟩, fun fd1 x1 F1 T1 => ⟨_, _, rfl, rfl, trivial, ⟨rfl, a_cons (x_int (⟨rfl, a_nil (⟨_, ⟨_, _, rfl, rfl, ?_, ?_⟩, ⟨rfl, a_nil (⟨_, ⟨_, _, _, rfl, rfl, ?_, ?_, ?_⟩, ⟨rfl, ?_⟩⟩)⟩⟩)⟩))⟩⟩⟩⟩)⟩))))⟩)))))⟩⟩)⟩)))⟩⟩)⟩)))))
    · omega
    · exact Nat.lt_of_lt_of_le (m := 2 ^ 20) (by decide) (Nat.pow_le_pow_right (by decide) (by decide))
    · exact hc.le (by decide)
    · exact hp.le (by decide)
    · obtain ⟨_, e1, l1, u1⟩ := T1
      cases e1
      exact bd_low2 (by decide) (by omega) (by decide)
    obtain ⟨_, e1, l1, u1⟩ := T1
    cases e1
    have ht : Bd 5 (Rat.divInt (1 + x1) 11) := bd_low2 (by decide) (by omega) (by decide)
    obtain ⟨m, hm⟩ : ∃ m, m = atShare c p (Rat.divInt (1 + x1) 11) := ⟨_, rfl⟩
    have hm5 : BdP 500 m := by rw [hm]; exact sh_bd2 hc20 hp ht
    have qb : ∀ y ∈ quartersOf (.arc c p q), BdP 500 y := fun y hy => by
      simp only [quartersOf, List.mem_append, List.mem_cons, List.mem_filter, List.mem_singleton, List.mem_nil_iff, or_false, List.cons_append] at hy
      rcases hy with rfl | hy | rfl
      · exact hp.le (by decide)
      · exact rr y c p hc20 hp hy.1
      · exact hq.le (by decide)
    have ql : (quartersOf (.arc c p q)).length ≤ 5 := by
      have : ((turns c p).filter fun x => AM.ahead c p x q).length ≤ 3 := Nat.le_trans (List.length_filter_le ..) (Nat.le_refl _)
      simp only [quartersOf, List.length_append, List.length_cons, List.length_nil]
      omega
    have tup : Shp 3 (.tuple [pD p, pD q]) := shp_tup fun d hd => by
      simp only [List.mem_cons, List.mem_nil_iff, or_false] at hd
      rcases hd with rfl | rfl <;> exact shp_pD _
    have kx : PcB 900 (.arc c p q) := ⟨hc.le (by decide), hp.le (by decide), hq.le (by decide)⟩
    show XB _ _ _ _ _ [some (.w a fd1), some (.d (xD (.arc c p q))), none, some (.w a1 ((quartersOf (.arc c p q)).map pD)), some (.d (pD (atShare c p (Rat.divInt (1 + x1) 11)))), none, none] _
    rw [← hm]
    clear hm
    refine b_ifBJ (on (.arc c p q) m && !(decide (p = m) || decide (q = m))) (fun Γ => ∃ (a' : Addr) (pts : List Pt), Γ = [some (.w a fd1), some (.d (xD (.arc c p q))), none, some (.w a' (pts.map pD)), some (.d (pD m)), none, none] ∧ PartsOf (.arc c p q) (arcsOf c pts) ∧ (∀ y ∈ pts, BdP 500 y) ∧ pts.length ≤ 5) (t_w (w_and (t_eq hr (x_ix (x_var 1 rfl (⟨rfl, x_int (⟨_, _, _, rfl, rfl, rfl, ⟨rfl, x_str (⟨(by trivial), (by trivial), _, rfl, ⟨fun t1 => w_and (t_val (x_call G_on hr (a_cons (x_var 1 rfl (⟨rfl, a_cons (x_var 4 rfl (⟨rfl, a_nil (⟨_, ⟨_, _, rfl, rfl, ?_, ?_⟩, ⟨_, rfl, ⟨fun t2 => w_and1 (t_notInT hr (x_var 4 rfl (⟨rfl, x_sliceT (some 2) none (x_var 1 rfl (⟨_, rfl, ⟨⟨_, rfl⟩, (by trivial), tup.ok, _, rfl, ⟨rfl, ?_⟩⟩⟩))⟩))), fun t2 => ⟨rfl, ?_⟩⟩⟩⟩)⟩))⟩))))), fun t1 => ⟨rfl, ?_⟩⟩⟩)⟩⟩)⟩)))))) (fun hb => ?_) (fun hb => ?_) fun Γ hJ => ?_
    · exact kx
    · exact hm5.le (by decide)
    · rw [t2, Bool.true_and]
      refine congrArg _ ?_
      show ([pD p, pD q].any fun z => PyData.eqv z (pD m)) = _
      simp [eqv_pD]
    · rw [t2, Bool.false_and]
    · exact absurd (eqS t1) (by decide)
    · refine b_setN 3 hN (x_lst (a_cons (x_ix (x_var 1 rfl (⟨rfl, x_int (⟨_, _, _, rfl, rfl, rfl, ⟨rfl, a_cons (x_var 4 rfl (⟨rfl, a_cons (x_ix (x_var 1 rfl (⟨rfl, x_int (⟨_, _, _, rfl, rfl, rfl, ⟨rfl, a_nil (⟨[_, _, _], rfl, Nat.le_of_ble_eq_true rfl, ⟨_, rfl, fun a3 ha3 hnew3 haW3 => ?_⟩⟩)⟩⟩)⟩)))⟩))⟩⟩)⟩)))))
      have hb : on (.arc c p q) m = true ∧ ¬ p = m ∧ ¬ q = m := by simpa using hb
      refine b_nil ⟨a3, [p, m, q], rfl, parts_at hok hb.1 (fun z => hb.2.1 z.symm) (fun z => hb.2.2 z.symm), fun y hy => ?_, by simp⟩
      simp only [List.mem_cons, List.mem_nil_iff, or_false] at hy
      rcases hy with rfl | rfl | rfl
      · exact hp.le (by decide)
      · exact hm5
      · exact hq.le (by decide)
    · exact b_nil ⟨a1, _, rfl, parts_quarters hok, qb, ql⟩
    obtain ⟨a', pts, rfl, hpo, hpb, hpl⟩ := hJ
    refine b_ret (x_lc0 [("_law_p", 5), ("_law_q", 6)] rfl hN (blkOk_by (by kernel_rfl)) (i_zipL 3 hzip rfl rfl rfl (x_sliceL (some 1) none (x_var 3 rfl ⟨_, rfl, _, rfl, rfl, rfl, arcsD c pts, rfl, by simp [zipD]; omega, fun j d hd => ?_, ?_⟩))))
    · rw [cut_one, ← List.map_drop] at hd
      obtain ⟨y, z, rfl, he⟩ := arcsD_step (c := c) hd
      refine ⟨_, _, fun s H C cl fp => g_tup2 5 6 rfl hN, by decide, fun _ => fun s H C cl fp => ?_, fun h => nomatch h⟩
      exact x_tup (a_cons (x_str ⟨rfl, a_cons (x_ix (x_var 1 rfl ⟨rfl, x_int ⟨_, _, _, rfl, rfl, rfl, ⟨rfl, a_cons (x_var 5 rfl ⟨rfl, a_cons (x_var 6 rfl ⟨rfl, a_nil ⟨[_, _, _, _], rfl, Nat.le_of_ble_eq_true rfl, _, rfl, he⟩⟩)⟩)⟩⟩⟩))⟩))
    · rw [cut_one, ← List.map_drop, arcsD_all]
      refine ⟨_, _, ⟨fun m' hm' => F1.le (by have := hmin m' hm'; omega), arcsOf c pts, ⟨_, rfl, hpo, fun y hy => ?_, ?_⟩, rfl⟩, rfl, .inl rfl⟩
      · obtain ⟨y1, z1, rfl, m1, m2⟩ := arcs_mem hy
        exact ⟨hc.le (by decide), hpb _ m1, hpb _ m2⟩
      · have := arcs_len (c := c) pts
        omega
  | ring c p =>
    obtain ⟨hc, hp⟩ := hpb
    have hc20 := hcb c (.inr ⟨p, rfl⟩)
    refine b_if (t_eq hr (x_ix (x_var 1 rfl (⟨rfl, x_int (⟨_, _, _, rfl, rfl, rfl, ⟨rfl, x_str (⟨(by trivial), (by trivial), _, rfl, ⟨fun hb => ?_, fun hb => ?_⟩⟩)⟩⟩)⟩))))
    · exact absurd (eqS hb) (by decide)
    refine b_nil ?_
    refine b_if (t_eq hr (x_ix (x_var 1 rfl (⟨rfl, x_int (⟨_, _, _, rfl, rfl, rfl, ⟨rfl, x_str (⟨(by trivial), (by trivial), _, rfl, ⟨fun hb => ?_, fun hb => ?_⟩⟩)⟩⟩)⟩))))
    · exact absurd (eqS hb) (by decide)
    refine b_nil ?_
    refine b_setN 3 hN (x_call G_quarters hr (a_cons (x_var 1 rfl (⟨rfl, a_nil (⟨_, ⟨.ring c p, rfl, rfl, ⟨hc.le (by decide), hp.le (by decide)⟩, rfl⟩, ⟨_, rfl, fun a1 ha1 hnew1 haW1 => ?_⟩⟩)⟩))))
    have hne : a ≠ a1 := hnew1 0 _ rfl (fun _ z => nomatch z) (fun _ z => nomatch z)
    have hne2 : a1 ≠ a := Ne.symm hne
    refine b_set 4 hN (x_call G_at_share hr (a_cons (x_ix (x_var 1 rfl (⟨rfl, x_int (⟨_, _, _, rfl, rfl, rfl, ⟨rfl, a_cons (x_ix (x_var 1 rfl (⟨rfl, x_int (⟨_, _, _, rfl, rfl, rfl, ⟨rfl, a_cons (x_call G__law_lowest hr (a_cons (x_add (x_int (⟨rfl, x_from G__law_draw hr (a_consV 0 rfl (a_cons (x_int (⟨rfl, a_nil (⟨_, rfl, (fun _ z => nomatch z), ⟨_, _, _, _, rfl, rfl, (alone_of (by repeat' (first | exact True.intro | assumption | apply And.intro))), (List.mem_singleton_self _), F0, (by omega), ⟨_, rfl, (by decide), (by decide)⟩, fun fd1 x1 F1 T1 => ⟨_, _, rfl, rfl, trivial, ⟨rfl, a_cons (x_int (⟨rfl, a_nil (⟨_, ⟨_, _, rfl, rfl, ?_, ?_⟩, ⟨rfl, a_nil (⟨_, ⟨_, _, _, rfl, rfl, ?_, ?_, ?_⟩, ⟨rfl, ?_⟩⟩)⟩⟩)⟩))⟩⟩⟩⟩)⟩))))⟩)))))⟩⟩)⟩)))⟩⟩)⟩)))))
    · omega
    · exact Nat.lt_of_lt_of_le (m := 2 ^ 20) (by decide) (Nat.pow_le_pow_right (by decide) (by decide))
    · exact hc.le (by decide)
    · exact hp.le (by decide)
    · obtain ⟨_, e1, l1, u1⟩ := T1
      cases e1
      exact bd_low2 (by decide) (by omega) (by decide)
    obtain ⟨_, e1, l1, u1⟩ := T1
    cases e1
    have ht : Bd 5 (Rat.divInt (1 + x1) 11) := bd_low2 (by decide) (by omega) (by decide)
    obtain ⟨m, hm⟩ : ∃ m, m = atShare c p (Rat.divInt (1 + x1) 11) := ⟨_, rfl⟩
    have hm5 : BdP 500 m := by rw [hm]; exact sh_bd2 hc20 hp ht
    have qb : ∀ y ∈ quartersOf (.ring c p), BdP 500 y := fun y hy => by
      simp only [quartersOf, List.mem_append, List.mem_cons, List.mem_singleton, List.mem_nil_iff, or_false, List.cons_append] at hy
      rcases hy with rfl | hy | rfl
      · exact hp.le (by decide)
      · exact rr y c p hc20 hp hy
      · exact hp.le (by decide)
    have ql : (quartersOf (.ring c p)).length ≤ 5 := by simp [quartersOf, turns]
    show XB _ _ _ _ _ [some (.w a fd1), some (.d (xD (.ring c p))), none, some (.w a1 ((quartersOf (.ring c p)).map pD)), some (.d (pD (atShare c p (Rat.divInt (1 + x1) 11)))), none, none] _
    rw [← hm]
    clear hm
    refine b_ifBJ false (fun Γ => ∃ (a' : Addr) (pts : List Pt), Γ = [some (.w a fd1), some (.d (xD (.ring c p))), none, some (.w a' (pts.map pD)), some (.d (pD m)), none, none] ∧ PartsOf (.ring c p) (arcsOf c pts) ∧ (∀ y ∈ pts, BdP 500 y) ∧ pts.length ≤ 5) (t_w (w_and (t_eq hr (x_ix (x_var 1 rfl (⟨rfl, x_int (⟨_, _, _, rfl, rfl, rfl, ⟨rfl, x_str (⟨(by trivial), (by trivial), _, rfl, ⟨fun t1 => w_and (t_val (x_call G_on hr (a_cons (x_var 1 rfl (⟨rfl, a_cons (x_var 4 rfl (⟨rfl, a_nil (⟨_, ⟨_, _, rfl, rfl, ?_, ?_⟩, ⟨_, rfl, ⟨fun t2 => w_and1 (t_notInT hr (x_var 4 rfl (⟨rfl, x_sliceT (some 2) none (x_var 1 rfl (⟨_, rfl, ⟨⟨_, rfl⟩, (by trivial), absurd (eqS t1) (by decide), _, rfl, ⟨rfl, ?_⟩⟩⟩))⟩))), fun t2 => ⟨rfl, ?_⟩⟩⟩⟩)⟩))⟩))))), fun t1 => ⟨rfl, ?_⟩⟩⟩)⟩⟩)⟩)))))) (fun hb => ?_) (fun hb => ?_) fun Γ hJ => ?_
    all_goals first | exact absurd (eqS t1) (by decide) | exact Bool.noConfusion (show false = true from hb) | rfl | exact b_nil ⟨a1, _, rfl, parts_ring hok, qb, ql⟩ | skip
    obtain ⟨a', pts, rfl, hpo, hpb, hpl⟩ := hJ
    refine b_ret (x_lc0 [("_law_p", 5), ("_law_q", 6)] rfl hN (blkOk_by (by kernel_rfl)) (i_zipL 3 hzip rfl rfl rfl (x_sliceL (some 1) none (x_var 3 rfl ⟨_, rfl, _, rfl, rfl, rfl, arcsD c pts, rfl, by simp [zipD]; omega, fun j d hd => ?_, ?_⟩))))
    · rw [cut_one, ← List.map_drop] at hd
      obtain ⟨y, z, rfl, he⟩ := arcsD_step (c := c) hd
      refine ⟨_, _, fun s H C cl fp => g_tup2 5 6 rfl hN, by decide, fun _ => fun s H C cl fp => ?_, fun h => nomatch h⟩
      exact x_tup (a_cons (x_str ⟨rfl, a_cons (x_ix (x_var 1 rfl ⟨rfl, x_int ⟨_, _, _, rfl, rfl, rfl, ⟨rfl, a_cons (x_var 5 rfl ⟨rfl, a_cons (x_var 6 rfl ⟨rfl, a_nil ⟨[_, _, _, _], rfl, Nat.le_of_ble_eq_true rfl, _, rfl, he⟩⟩)⟩)⟩⟩⟩))⟩))
    · rw [cut_one, ← List.map_drop, arcsD_all]
      refine ⟨_, _, ⟨fun m' hm' => F1.le (by have := hmin m' hm'; omega), arcsOf c pts, ⟨_, rfl, hpo, fun y hy => ?_, ?_⟩, rfl⟩, rfl, .inl rfl⟩
      · obtain ⟨y1, z1, rfl, m1, m2⟩ := arcs_mem hy
        exact ⟨hc.le (by decide), hpb _ m1, hpb _ m2⟩
      · have := arcs_len (c := c) pts
        omega

end
end AW
set_option Elab.async false
set_option linter.all false
set_option maxRecDepth 100000
set_option maxHeartbeats 1000000
/-! the encodings of bare pieces, and lists of them -/
namespace AW
open PySem PySem.Spec PyProof.Rows L2 L3 AM
theorem eqvAll_map {β : Type} {enc : β → PyData} (h : ∀ a, PyData.eqv (enc a) (enc a) = true) : ∀ l : List β, PyData.eqvAll (l.map enc) (l.map enc) = true
  | [] => by simp [PyData.eqvAll]
  | a :: l => by simp [PyData.eqvAll, h a, eqvAll_map h l]
theorem eqv_map {β : Type} {enc : β → PyData} (h : ∀ a, PyData.eqv (enc a) (enc a) = true) (l : List β) : PyData.eqv (.list (l.map enc)) (.list (l.map enc)) = true := by
  simp only [PyData.eqv]
  exact eqvAll_map h l
theorem fD_pD (p : Pt) (r : Rat) : PyData.eqv (pD p) (fD r) = false := by
  simp [pD, fD, PyData.eqv, PyData.eqvAll]
theorem fD_pD' (p : Pt) (r : Rat) : PyData.eqv (fD r) (pD p) = false := by
  simp [pD, fD, PyData.eqv, PyData.eqvAll]
theorem eqv_bD : ∀ a b : Pc ⊕ (Pt × Rat), PyData.eqv (bD a) (bD b) = decide (a = b)
  | .inl x, .inl y => by simp only [bD, eqv_xD]; simp
  | .inr (c, r), .inr (c', r') => by simp only [bD, eqv_tup3, eqv_str, eqv_pD, eqv_fD]; simp
  | .inl x, .inr (c, r) => by
    cases x <;> simp [bD, xD, PyData.eqv, PyData.eqvAll, fD_pD, eqv_str]
  | .inr (c, r), .inl x => by
    cases x <;> simp [bD, xD, PyData.eqv, PyData.eqvAll, fD_pD', eqv_str]
theorem eqv_lbD : ∀ a b : Pc ⊕ (Pt × Rat), PyData.eqv (lbD a) (lbD b) = decide (a = b)
  | .inl x, .inl y => by simp only [lbD, eqv_xD]; simp
  | .inr (c, r), .inr (c', r') => by simp only [lbD, eqv_tup2, eqv_str, eqv_kD]; simp
  | .inl x, .inr (c, r) => by
    cases x <;> simp [lbD, xD, PyData.eqv, PyData.eqvAll, eqv_str] <;> exact fun h => absurd h (by decide)
  | .inr (c, r), .inl x => by
    cases x <;> simp [lbD, xD, PyData.eqv, PyData.eqvAll, eqv_str] <;> exact fun h => absurd h (by decide)
theorem bD_wk (x y : Pc) : AZ.Wk (bD (bare x)) (bD (bare y)) := by
  cases x <;> cases y <;> exact ⟨_, _, _, _, rfl, rfl, fun h => by first | exact absurd h (by decide) | rfl⟩
theorem lbD_wk (x y : Pc) : AZ.Wk (lbD (bare x)) (lbD (bare y)) := by
  cases x <;> cases y <;> exact ⟨_, _, _, _, rfl, rfl, fun h => by first | exact absurd h (by decide) | rfl⟩
theorem shp_bD : ∀ a : Pc ⊕ (Pt × Rat), Shp 4 (bD a)
  | .inl x => (shp_xD x).le (by decide)
  | .inr (c, r) => by
    refine shp_tup fun d hd => ?_
    simp only [List.mem_cons, List.mem_nil_iff, or_false] at hd
    rcases hd with rfl | rfl | rfl
    · exact shp_s4.le (by decide)
    · exact (shp_pD c).le (by decide)
    · exact (shp_fD r).le (by decide)
theorem shp_lbD : ∀ a : Pc ⊕ (Pt × Rat), Shp 4 (lbD a)
  | .inl x => (shp_xD x).le (by decide)
  | .inr (c, r) => by
    refine shp_tup fun d hd => ?_
    simp only [List.mem_cons, List.mem_nil_iff, or_false] at hd
    rcases hd with rfl | rfl
    · exact shp_s4.le (by decide)
    · exact shp_kD _
theorem shp_map {β : Type} {enc : β → PyData} (h : ∀ a, Shp 4 (enc a)) (l : List β) : SeqAt.shaped (.list (l.map enc)) = true := by
  refine (shp_list (n := 4) fun d hd => ?_).ok
  obtain ⟨a, _, rfl⟩ := List.mem_map.mp hd
  exact h a
theorem bs_wk (l : List Pc) : AZ.AllWk ((l.map bare).map bD) := fun d hd d' hd' => by
  rw [List.map_map] at hd hd'
  obtain ⟨x, _, rfl⟩ := List.mem_map.mp hd
  obtain ⟨y, _, rfl⟩ := List.mem_map.mp hd'
  exact bD_wk x y
theorem lbs_wk (l : List Pc) : AZ.AllWk ((l.map bare).map lbD) := fun d hd d' hd' => by
  rw [List.map_map] at hd hd'
  obtain ⟨x, _, rfl⟩ := List.mem_map.mp hd
  obtain ⟨y, _, rfl⟩ := List.mem_map.mp hd'
  exact lbD_wk x y
/-- two lists of bare pieces that are one another's permutations sort to one list -/
theorem sort_bare {l m : List Pc} (h : (l.map bare).Perm (m.map bare)) : (l.map bare).mergeSort (PySem.W.dataLe false bD) = (m.map bare).mergeSort (PySem.W.dataLe false bD) :=
  AZ.sort_perm (fun a b e => by rw [eqv_bD] at e; simpa using e) (fun a ha b hb => by
    obtain ⟨x, _, rfl⟩ := List.mem_map.mp ha
    obtain ⟨y, _, rfl⟩ := List.mem_map.mp hb
    exact bD_wk x y) h
theorem sort_lbare {l m : List Pc} (h : (l.map bare).Perm (m.map bare)) : (l.map bare).mergeSort (PySem.W.dataLe false lbD) = (m.map bare).mergeSort (PySem.W.dataLe false lbD) :=
  AZ.sort_perm (fun a b e => by rw [eqv_lbD] at e; simpa using e) (fun a ha b hb => by
    obtain ⟨x, _, rfl⟩ := List.mem_map.mp ha
    obtain ⟨y, _, rfl⟩ := List.mem_map.mp hb
    exact lbD_wk x y) h
theorem srt_perm (l : List Pc) : (srt l).Perm l := List.mergeSort_perm ..
theorem sort_srt {l m : List Pc} (h : l.Perm m) : srt l = srt m := AZ.sort_perm (fun a b e => by rw [eqv_xD] at e; simpa using e) (fun a _ b _ => str_wk) h
end AW
set_option Elab.async false
set_option linter.all false
set_option maxRecDepth 100000
set_option maxHeartbeats 2000000
namespace AW
open PySem PySem.Spec PyProof.Rows L2 L3 AM
local macro_rules | `(tactic| trivial) => `(tactic| first | exact (shp_pD _).ok | exact (shp_fD _).ok | exact (shp_kD _).ok | exact (shp_xD _).ok | exact shp_keyE _ | exact shp_keyE _ | exact shp_s1.ok | exact shp_s2.ok | exact shp_s3.ok | exact shp_s4.ok | exact shp_s5.ok | exact shp_s6.ok | exact (shp_int 0 _).ok)
section
variable {w : World} {K : PySem.W.Frag} {mg : Str → Option Value} {base : Heap} {kws : List (Str × V)} {f : Addr} {fd : FuncData} {P : Program}
theorem srt_len (l : List Pc) : (srt l).length = l.length := (srt_perm l).length_eq
theorem len_preJ {l : List Pc} (h1 : ∀ y ∈ l, PcOk y ∧ PcB 500 y) (h2 : l.length ≤ 200) : (preJ l).length ≤ 500 := by
  unfold preJ flatJ
  have hkin := groups_kin h1
  have a1 := flat_len (groups l) fun p hp => (hkin p hp).1
  have a2 := sum_groups l l.length (Nat.le_refl _)
  have a3 := dots_len (((groups l).map fun p => joinedOn p.2).flatten) l l.length (Nat.le_refl _)
  rw [List.take_length] at a2 a3
  rw [List.length_append]
  unfold dotsOf
  omega
def tkB (ps : List Pc) (k : Nat) : List PyData := ((ps.map bare).map bD).take k
theorem tkB_all (ps : List Pc) : tkB ps (ps.map xD).length = (ps.map bare).map bD := List.take_of_length_le (by simp)
theorem tkB_step {ps : List Pc} {k : Nat} {d : PyData} (hd : (ps.map xD)[k]? = some d) : ∃ y, d = xD y ∧ y ∈ ps ∧ tkB ps (k + 1) = tkB ps k ++ [bD (bare y)] := by
  rw [List.getElem?_map] at hd
  obtain ⟨y, hy, rfl⟩ := Option.map_eq_some_iff.mp hd
  refine ⟨y, rfl, List.mem_of_getElem? hy, ?_⟩
  unfold tkB
  rw [List.take_add_one, List.getElem?_map, List.getElem?_map, hy]
  rfl
theorem preJ_bd {ps : List Pc} (h : ∀ y ∈ ps, PcOk y ∧ PcB 500 y) : ∀ y ∈ srt (preJ ps), PcB 500 y := fun y hy => by
  have hy := (srt_perm _).mem_iff.mp hy
  rcases (mem_preJ fun x hx => (h x hx).1).mp hy with hy | ⟨p, rfl, hy, _⟩
  · exact flatJ_bd h hy
  · exact (h _ hy).2
theorem c_alike_pieces (F : Fd K "alike_pieces" 41 kws f fd) (hm : mg "alike_pieces" = some (.ref f)) (hsorted : mg "sorted" = none)
    (G_bare : Callee P w K mg base "bare" 6 [("piece" : Str)] (spD K R_bare))
    (G_joined : Callee P w K mg base "joined" 11 [("pieces" : Str)] (spD K R_joined)) :
    Callee P w K mg base "alike_pieces" 12 [("one" : Str), ("other" : Str)] (spD K R_alike_pieces) := by
  refine mk_d (N := [("one" : Str), ("other" : Str), ("piece" : Str)]) F hm (C8.fnScope_by (by kernel_rfl)) (fun _ _ _ _ _ _ us h => match us, h with | [a, b], _ => rfl) (fun es r hR => by obtain ⟨_, _, h, _⟩ := hR; rw [h]; rfl) fun cdv A outer s H E hr es r as hR => ?_
  have hN : ([("one" : Str), ("other" : Str), ("piece" : Str)] : List Str).Nodup := by decide
  obtain ⟨l, m, rfl, rfl, hpm, hl, hl2, hm1, hm2⟩ := hR
  refine b_ret (x_eq hr (x_sorted bD hsorted hr (a_cons (x_lc0 [("piece", 2)] rfl hN (blkOk_by (by kernel_rfl)) (i_new (x_call G_joined hr (a_consV 0 rfl (a_nil ⟨_, rfl, (fun _ z => nomatch z), _, ⟨l, rfl, rfl, hl, hl2⟩, _, rfl, True.intro, tkB (srt (preJ l)), rfl, ?_, fun k d hd => ?_, ?_⟩))))))))
  · rw [List.length_map, srt_len]
    exact Nat.le_trans (len_preJ hl hl2) (by decide)
  · obtain ⟨y, rfl, hy, e⟩ := tkB_step hd
    refine ⟨_, _, fun s H C cl fp => g_name 2 hN, by decide, fun _ => fun s H C cl fp => ?_, fun h => nomatch h⟩
    exact x_call G_bare (by assumption) (a_cons (x_var 2 rfl ⟨rfl, a_nil ⟨_, ⟨y, rfl, rfl, preJ_bd hl y hy⟩, _, rfl, e⟩⟩))
  rw [tkB_all]
  refine ⟨rfl, a_nil ⟨_, (srt (preJ l)).map bare, rfl, rfl, bs_wk _, fun b _ => Nat.le_trans (shp_bD b).2 (by decide), ?_, rfl, ?_⟩⟩
  · rw [List.length_map, srt_len]
    exact Nat.le_trans (len_preJ hl hl2) (by decide)
  refine x_sorted bD hsorted hr (a_cons (x_lc0 [("piece", 2)] rfl hN (blkOk_by (by kernel_rfl)) (i_new (x_call G_joined hr (a_consV 1 rfl (a_nil ⟨_, rfl, (fun _ z => nomatch z), _, ⟨m, rfl, rfl, hm1, hm2⟩, _, rfl, True.intro, tkB (srt (preJ m)), rfl, ?_, fun k d hd => ?_, ?_⟩))))))
  · rw [List.length_map, srt_len]
    exact Nat.le_trans (len_preJ hm1 hm2) (by decide)
  · obtain ⟨y, rfl, hy, e⟩ := tkB_step hd
    refine ⟨_, _, fun s H C cl fp => g_name 2 hN, by decide, fun _ => fun s H C cl fp => ?_, fun h => nomatch h⟩
    exact x_call G_bare (by assumption) (a_cons (x_var 2 rfl ⟨rfl, a_nil ⟨_, ⟨y, rfl, rfl, preJ_bd hm1 y hy⟩, _, rfl, e⟩⟩))
  rw [tkB_all]
  refine ⟨rfl, a_nil ⟨_, (srt (preJ m)).map bare, rfl, rfl, bs_wk _, fun b _ => Nat.le_trans (shp_bD b).2 (by decide), ?_, shp_map shp_bD _, shp_map shp_bD _, ?_⟩⟩
  · rw [List.length_map, srt_len]
    exact Nat.le_trans (len_preJ hm1 hm2) (by decide)
  have e := sort_bare (((srt_perm (preJ l)).map bare).trans (hpm.trans ((srt_perm (preJ m)).map bare).symm))
  show Rt H _ (.d (.bool (PyData.eqv (.list (List.map bD ((List.map bare (srt (preJ l))).mergeSort (PySem.W.dataLe false bD)))) (.list (List.map bD ((List.map bare (srt (preJ m))).mergeSort (PySem.W.dataLe false bD)))))))
  rw [e, eqv_map (fun a => by rw [eqv_bD]; simp)]
  exact .inl rfl
def lbK (ps : List Pc) (k : Nat) : List PyData := ((ps.map bare).map lbD).take k
theorem lbK_all (ps : List Pc) : lbK ps (ps.map xD).length = (ps.map bare).map lbD := List.take_of_length_le (by simp)
theorem lbK_step {ps : List Pc} {k : Nat} {d : PyData} (hd : (ps.map xD)[k]? = some d) : ∃ y, d = xD y ∧ y ∈ ps ∧ lbK ps (k + 1) = lbK ps k ++ [lbD (bare y)] := by
  rw [List.getElem?_map] at hd
  obtain ⟨y, hy, rfl⟩ := Option.map_eq_some_iff.mp hd
  refine ⟨y, rfl, List.mem_of_getElem? hy, ?_⟩
  unfold lbK
  rw [List.take_add_one, List.getElem?_map, List.getElem?_map, hy]
  rfl
theorem c__law_bare (F : Fd K "_law_bare" 70 kws f fd) (hm : mg "_law_bare" = some (.ref f)) (hsorted : mg "sorted" = none) (hint : mg "int" = none)
    (G_carrier : Callee P w K mg base "carrier" 6 [("piece" : Str)] (spD K R_carrier)) :
    Callee P w K mg base "_law_bare" 7 [("_law_pieces" : Str)] (spD K R__law_bare) := by
  refine mk_d (N := [("_law_pieces" : Str), ("_law_found" : Str), ("_law_piece" : Str)]) F hm (C8.fnScope_by (by kernel_rfl)) (fun _ _ _ _ _ _ us h => match us, h with | [a], _ => rfl) (fun es r hR => by obtain ⟨_, h, _⟩ := hR; rw [h]; rfl) fun cdv A outer s H E hr es r as hR => ?_
  have hN : ([("_law_pieces" : Str), ("_law_found" : Str), ("_law_piece" : Str)] : List Str).Nodup := by decide
  obtain ⟨l, rfl, rfl, hl, hl2⟩ := hR
  refine b_setN 1 hN (x_lst (a_nil ⟨[], rfl, Nat.le_of_ble_eq_true rfl, _, rfl, fun a ha hnew haW => ?_⟩))
  refine b_wide (i := 1) rfl ha ?_
  refine b_for rfl (i_var 0 rfl rfl rfl ⟨fun n Γ => ∃ v, Γ = [some (.w (as 0) (l.map xD)), some (.w a (lbK l n)), v], ⟨none, rfl⟩, fun n Γ hI => ?_, fun n d Γ hd hI => ?_, fun Γ hI => ?_⟩)
  · obtain ⟨v, rfl⟩ := hI
    rfl
  · obtain ⟨v, rfl⟩ := hI
    obtain ⟨y, rfl, hy, e⟩ := lbK_step hd
    refine ⟨_, _, g_name 2 hN, fun B' hB' => ?_⟩
    have hc := carOk_of (hl y hy)
    have hy1 := (hl y hy).2
    obtain ⟨z, hz⟩ : ∃ z, z = lbD (bare y) := ⟨_, rfl⟩
    have hl9 : (lbK l n).length < 1000 := by
      unfold lbK
      rw [List.length_take, List.length_map, List.length_map]
      omega
    have hne : as 0 ≠ a := hnew 0 _ rfl (fun _ z => nomatch z) (fun _ z => nomatch z)
    rw [← hz] at e
    cases y
    all_goals
      refine b_append 1 rfl rfl (x_ix (x_lst (a_cons (x_var 2 rfl ⟨rfl, a_cons (x_tup (a_cons (x_str ⟨rfl, a_cons (x_call G_carrier hr (a_cons (x_var 2 rfl ⟨rfl, a_nil ⟨_, ⟨_, rfl, rfl, hc⟩, rfl, a_nil ⟨[_, _], rfl, Nat.le_of_ble_eq_true rfl, rfl, a_nil ⟨[_, _], rfl, Nat.le_of_ble_eq_true rfl, rfl, x_intB hint (a_cons (x_eq hr (x_ix (x_var 2 rfl ⟨rfl, x_int ⟨_, _, _, rfl, rfl, rfl, rfl, x_str ⟨(by trivial), (by trivial), rfl, a_nil ⟨_, rfl, _, _, z, rfl, rfl, ?_, a, _, z, rfl, (alone_of (by repeat' (first | exact True.intro | assumption | apply And.intro))), (List.mem_singleton_self _), rfl, ?_, b_nil (by rw [← e]; exact ⟨_, rfl⟩)⟩⟩⟩⟩))))⟩⟩⟩⟩)))⟩)))⟩))))
      · rw [hz]
        first | (rw [if_neg (fun t => absurd (eqS t) (by decide))]; rfl) | (rw [if_pos (by show PyData.eqv (.str _) (.str _) = true; rw [eqv_str]; decide)]; rfl)
      · exact hl9
  · obtain ⟨v, rfl⟩ := hI
    rw [lbK_all]
    refine b_ret (x_sorted lbD hsorted hr (a_consV 1 rfl (a_nil ⟨_, rfl, (fun _ z => nomatch z), _, l.map bare, rfl, rfl, lbs_wk _, fun b _ => Nat.le_trans (shp_lbD b).2 (by decide), ?_, ?_⟩)))
    · rw [List.length_map]
      omega
    · exact .inl rfl

end
end AW
set_option Elab.async false
set_option linter.all false
set_option maxRecDepth 100000
set_option maxHeartbeats 2000000
namespace AW
open PySem PySem.Spec PyProof.Rows L2 L3 AM
local macro_rules | `(tactic| trivial) => `(tactic| first | exact (shp_pD _).ok | exact (shp_fD _).ok | exact (shp_kD _).ok | exact (shp_xD _).ok | exact shp_keyE _ | exact shp_keyE _ | exact shp_s1.ok | exact shp_s2.ok | exact shp_s3.ok | exact shp_s4.ok | exact shp_s5.ok | exact shp_s6.ok | exact (shp_int 0 _).ok)
section
variable {w : World} {K : PySem.W.Frag} {mg : Str → Option Value} {base : Heap} {kws : List (Str × V)} {f : Addr} {fd : FuncData} {P : Program}
theorem x_fromI {X : Cx} {W : List Addr} {Γ : Gam} {P : Po} {e : Expr} {pos p : Pos} {k j : Nat} {es : List Expr} {x : Str} {ps : List Str} {N c : Nat} {ι : Type} {A : List Ent → Prop} {T : List Ent → ι → Prop} {f : ι → Ent} (i : Nat) (G : Callee X.prog X.w X.K X.mg X.base x j ps (spF X.K N c A T f)) (hr : Room k X.A)
    (h : XA X W (e :: es) Γ fun Γ2 rs => ∃ a fd rs' m, rs = .w a fd :: rs' ∧ Γ2[i]? = some (some (.w a fd)) ∧ Alone Γ2 i a ∧ a ∈ W ∧ Fk m fd ∧ m ≤ N ∧ A (rs'.map Ent.wk) ∧ ∀ fd' x, Fk (m + c) fd' → T (rs'.map Ent.wk) x → P (Γ2.set i (some (.w a fd'))) (f x)) (hj : j ≤ k := by decide) (hg : Gl X x := by rfl)
    (hdb : (x == ("__debug__" : Str)) = false := by decide) (he : starEach (e :: es) X.env = (false, eval e X.env) :: starEach es X.env := by rfl) (hpl : (backTo pos (starEach es X.env)).any (·.1) = false := by rfl) : XE X W (.Call (.Name x p) (e :: es) [] pos) Γ P := by
  refine x_callW i G hr (PA.imp h fun σ H Q q => ⟨q.1, fun vs H2 Γ2 rs c s o hp => q.2 vs H2 Γ2 rs c s o ?_⟩) hj hg hdb he hpl
  obtain ⟨a, fd, rs', m, h1, h2, h3, h4, h5, h6, h7, h8⟩ := hp
  exact ⟨a, fd, rs', h1, h2, h3, h4, ⟨⟨m, h6, h5⟩, h7⟩, fun fd' r ⟨hF, x, hx, hr⟩ => by
    subst hr
    exact h8 fd' x (hF m h5) hx⟩
/-- the cells that make the pieces -/
def cells (ns : List Int) : List Int := (ns.drop 1).take 5 ++ if ns.length < 2 then [0] else []
theorem cells_len (ns : List Int) : 1 ≤ (cells ns).length ∧ (cells ns).length ≤ 5 := by
  unfold cells
  split <;> simp <;> omega
theorem cells_data (ns : List Int) : L3.cutD (ns.map PyData.int) (some 1) (some 6) ++ (List.replicate ((if decide (((ns.map PyData.int).length : Int) < 2) then (1 : Int) else 0)).toNat [PyData.int 0]).flatten = (cells ns).map PyData.int := by
  have e : L3.cutD (ns.map PyData.int) (some 1) (some 6) = ((ns.drop 1).take 5).map PyData.int := by
    show List.take (min 6 (ns.map PyData.int).length - min 1 (ns.map PyData.int).length) ((ns.map PyData.int).drop (min 1 (ns.map PyData.int).length)) = _
    cases ns with
    | nil => rfl
    | cons n ns =>
      simp only [List.length_map, List.length_cons, List.map_cons]
      rw [show min 1 (ns.length + 1) = 1 by omega]
      simp only [List.drop_succ_cons, List.drop_zero, ← List.map_take]
      congr 1
      by_cases h : ns.length ≤ 5
      · rw [List.take_of_length_le (by omega), List.take_of_length_le (by omega)]
      · rw [show min 6 (ns.length + 1) - 1 = 5 by omega]
  rw [e]
  unfold cells
  rw [List.map_append]
  congr 1
  by_cases h : ns.length < 2
  · rw [if_pos h, if_pos (by simp; omega)]
    rfl
  · rw [if_neg h, if_neg (by simp; omega)]
    rfl
def pick {α : Type} (x : Int) (p q : α) : α := if x = 0 then p else q
theorem pick_at {p q : Pt × Pt} {es : List Ent} {x : Int} (he : es = [.d (.int 2)]) (h : T_draw es x) : atI [PyData.tuple [pD p.1, pD p.2], PyData.tuple [pD q.1, pD q.2]] x = some (PyData.tuple [pD (pick x p q).1, pD (pick x p q).2]) := by
  subst he
  obtain ⟨m, e, h0, h1⟩ := h
  cases e
  have : x = 0 ∨ x = 1 := by omega
  rcases this with rfl | rfl <;> rfl
theorem pick_all {α : Type} {P : α → Prop} {p q : α} (x : Int) (h1 : P p) (h2 : P q) : P (pick x p q) := by
  unfold pick
  split
  · exact h1
  · exact h2
theorem last_at {l : List Pc} {x : Pc} : atI (l.map xD ++ [xD x]) (-1) = some (xD x) := by
  unfold atI ixN
  rw [List.length_append, List.length_map, List.length_singleton, if_neg (by decide), if_pos (by omega)]
  show (l.map xD ++ [xD x])[(-1 + ((l.length + 1 : Nat) : Int)).toNat]? = _
  rw [show (-1 + ((l.length + 1 : Nat) : Int)).toNat = l.length by omega]
  simp
theorem len2 {l : List Pc} (h1 : ∀ y ∈ l, PcOk y ∧ PcB 500 y) : (preJ l).length ≤ 2 * l.length := by
  unfold preJ flatJ
  have hkin := groups_kin h1
  have a1 := flat_len (groups l) fun p hp => (hkin p hp).1
  have a2 := sum_groups l l.length (Nat.le_refl _)
  have a3 := dots_len (((groups l).map fun p => joinedOn p.2).flatten) l l.length (Nat.le_refl _)
  rw [List.take_length] at a2 a3
  rw [List.length_append]
  unfold dotsOf
  omega
theorem shp_xs (l : List Pc) : SeqAt.shaped (.list (l.map xD)) = true := shp_map (fun a => (shp_xD a).le (by decide)) l
theorem trues (n : Nat) : List.replicate (n + 1) (PyData.bool true) = List.replicate n (PyData.bool true) ++ [PyData.bool true] := List.replicate_succ'
abbrev R_law : Rel := fun es r => ∃ (a : Addr) (ns : List Int), es = [.k a (ns.map PyData.int)] ∧ r = .d (.bool true) ∧ ns.length ≤ 63
/-- one turn of the pieces: what holds of the pieces, the parts -/
structure Made (n : Nat) (ps qs : List Pc) : Prop where
  parts : PartsL ps qs
  drawn : ∀ y ∈ ps, Drawn y
  bd : ∀ y ∈ qs, PcB 500 y
  len : ps.length = n
  few : qs.length ≤ 4 * n
theorem Made.snoc {n : Nat} {ps qs : List Pc} (h : Made n ps qs) {x : Pc} {ys : List Pc} (hx : Drawn x) (hp : PartsOf x ys) (hb : ∀ y ∈ ys, PcB 500 y) (hl : ys.length ≤ 4) : Made (n + 1) (ps ++ [x]) (ys ++ qs) where
  parts := .snoc h.parts hx.1 hp
  drawn y hy := by
    rcases List.mem_append.mp hy with hy | hy
    · exact h.drawn y hy
    · rw [List.mem_singleton.mp hy]; exact hx
  bd y hy := by
    rcases List.mem_append.mp hy with hy | hy
    · exact hb y hy
    · exact h.bd y hy
  len := by rw [List.length_append, h.len]; rfl
  few := by
    rw [List.length_append]
    have := h.few
    omega
theorem Made.ok1 {n : Nat} {ps qs : List Pc} (h : Made n ps qs) : ∀ y ∈ ps, PcOk y ∧ PcB 500 y := fun y hy => ⟨(h.drawn y hy).1, by
  have := (h.drawn y hy).2.1
  cases y with
  | dot p => exact BdP.le this (by decide)
  | st p q => exact ⟨this.1.le (by decide), this.2.le (by decide)⟩
  | arc c p q => exact ⟨this.1.le (by decide), this.2.1.le (by decide), this.2.2.le (by decide)⟩
  | ring c p => exact ⟨this.1.le (by decide), this.2.le (by decide)⟩⟩
theorem Made.ok2 {n : Nat} {ps qs : List Pc} (h : Made n ps qs) : ∀ y ∈ qs, PcOk y ∧ PcB 500 y := fun y hy => ⟨h.parts.okl.2 y hy, h.bd y hy⟩
abbrev LawG (ad : Addr) (ns : List Int) (x1 x2 x3 x4 : Pt × Pt) (a1 a2 a3 a4 a5 : Addr) (fd : List PyData) (ps qs : List Pc) (u6 u7 u8 u9 u10 u11 : Option Ent) : Gam :=
  [some (.k ad (ns.map PyData.int)), some (.w a1 fd), some (.w a2 [.tuple [pD x1.1, pD x1.2], .tuple [pD x2.1, pD x2.2]]), some (.w a3 [.tuple [pD x3.1, pD x3.2], .tuple [pD x4.1, pD x4.2]]), some (.w a4 (ps.map xD)), some (.w a5 (qs.map xD)), u6, u7, u8, u9, u10, u11]
theorem mk_dF {N ps : List Str} {qual : Str} {pa : Arguments} {bd : List Stmt} {sc : Scope} {x : Str} {k : Nat} {R : List Ent → Ent → Prop} (F : FunD K x qual pa bd sc [] kws f fd) (S : FnScope N ps sc) (len : ∀ es r, R es r → es.length = ps.length)
    (h : ∀ (cdv : Value) (A : Around) (outer : List Env) (s : Shared) (H : Hp) (E : XK), Room k (cxn P w K mg base N qual sc f cdv A outer s H E).A → ∀ es r as, R es r → XB (cxn P w K mg base N qual sc f cdv A outer s H E) H [] [] bd (startG N.length (opn es as)) { nx := fun _ => False, rt := fun _ r' => Rt H r r' }) :
    FnOk P w K mg base CX0 (k + 1) f fd ps (spD K R) := by
  refine F.ok S (fun vs H Q E ⟨es, r, hR, hi, _⟩ => by rw [hi.length]; exact len es r hR) fun cdv A outer s H vs Q E hr hsp => ?_
  obtain ⟨es, r, hR, hi, hq⟩ := hsp
  obtain ⟨as, ho⟩ := opn_ok hi
  have hx := h cdv A outer s H E hr es r as hR
  refine ⟨_, PSs.nox hx, ⟨Ch.refl, fun a ha => by simp at ha⟩, start_slots ho [] (fun a ha => by simp at ha), fun _ _ _ _ _ q => q.elim, fun v σ' H' Γ' r' g s' o q => ?_, fun _ _ _ _ _ q => q.elim, fun _ _ _ _ _ q => q.elim⟩
  exact hq v H' g.ch.same (q.ok o)
theorem c_law (F : Fd K "law" 71 kws f fd)
    (G__law_feed : Callee P w K mg base "_law_feed" 1 [("_law_cell" : Str)] (spD K R__law_feed))
    (G_joined : Callee P w K mg base "joined" 11 [("pieces" : Str)] (spD K R_joined))
    (G__law_cell_at : Callee P w K mg base "_law_cell_at" 1 [("_law_script" : Str), ("_law_k" : Str)] (spD K R__law_cell_at))
    (G__law_base : Callee P w K mg base "_law_base" 4 [("_law_from" : Str)] (sp_base K))
    (G__law_start_here : Callee P w K mg base "_law_start_here" 4 [("_law_from" : Str)] (sp_start K))
    (G_chain : Callee P w K mg base "chain" 10 [("pieces" : Str), ("piece" : Str)] (spD K R_chain)) (hall : mg "all" = none) (hint : mg "int" = none)
    (G__law_draw : Callee P w K mg base "_law_draw" 1 [("_law_from" : Str), ("_law_many" : Str)] (sp_draw K))
    (G__law_one_here : Callee P w K mg base "_law_one_here" 6 [("_law_from" : Str), ("_law_line" : Str), ("_law_c" : Str), ("_law_a" : Str)] (sp_one K))
    (G__law_parts : Callee P w K mg base "_law_parts" 8 [("_law_from" : Str), ("_law_piece" : Str)] (sp_parts K))
    (G__law_bare : Callee P w K mg base "_law_bare" 7 [("_law_pieces" : Str)] (spD K R__law_bare))
    (G_alike_pieces : Callee P w K mg base "alike_pieces" 12 [("one" : Str), ("other" : Str)] (spD K R_alike_pieces)) (hlen : mg "len" = none) :
    FnOk P w K mg base CX0 13 f fd [("_law_script" : Str)] (spD K R_law) := by
  refine mk_dF (N := [("_law_script" : Str), ("_law_from" : Str), ("_law_lines" : Str), ("_law_rounds" : Str), ("_law_pieces" : Str), ("_law_parts_here" : Str), ("_law_cell" : Str), ("_law_c" : Str), ("_law_a" : Str), ("_law_found" : Str), ("_law_piece" : Str), ("_law_chain" : Str)]) F (C8.fnScope_by (by kernel_rfl)) (fun es r hR => by obtain ⟨_, _, h, _⟩ := hR; rw [h]; rfl) fun cdv A outer s H E hr es r as hR => ?_
  have hN : ([("_law_script" : Str), ("_law_from" : Str), ("_law_lines" : Str), ("_law_rounds" : Str), ("_law_pieces" : Str), ("_law_parts_here" : Str), ("_law_cell" : Str), ("_law_c" : Str), ("_law_a" : Str), ("_law_found" : Str), ("_law_piece" : Str), ("_law_chain" : Str)] : List Str).Nodup := by decide
  obtain ⟨ad, ns, rfl, rfl, hns⟩ := hR
  refine b_setN 1 hN (x_call G__law_feed hr (a_cons (x_call G__law_cell_at hr (a_consV 0 rfl (a_cons (x_int ⟨rfl, a_nil ⟨_, rfl, (fun _ z => nomatch z), _, ⟨ad, ns, rfl, rfl⟩, rfl, a_nil ⟨_, ⟨_, rfl, rfl⟩, _, rfl, fun a1 ha1 hnew1 haW1 => b_wide (i := 1) rfl ha1 ?_⟩⟩⟩))))))
  have F0 : Fk 0 [.int (ns.getD 0 0), .int 0, .int (if decide (10 ^ 18 ≤ ns.getD 0 0) = true then 1 else 0)] := ⟨_, _, 0, rfl, Nat.le_refl _⟩
  revert F0
  generalize [PyData.int (ns.getD 0 0), .int 0, .int (if decide (10 ^ 18 ≤ ns.getD 0 0) = true then 1 else 0)] = fd0
  intro F0
  show XB _ _ _ _ _ [some (.k ad (ns.map PyData.int)), some (.w a1 fd0), none, none, none, none, none, none, none, none, none, none] _
  refine b_setN 2 hN (x_lst (a_cons (x_fromI 1 G__law_base hr (a_consV 1 rfl (a_nil ⟨_, rfl, (fun _ z => nomatch z), ⟨_, _, _, 0, rfl, rfl, (alone_of (by repeat' (first | exact True.intro | assumption | apply And.intro))), (List.mem_singleton_self _), F0, (by omega), rfl, fun fd1 x1 F1 T1 => ⟨rfl, a_cons (x_fromI 1 G__law_base hr (a_consV 1 rfl (a_nil ⟨_, rfl, (fun _ z => nomatch z), ⟨_, _, _, 12, rfl, rfl, (alone_of (by repeat' (first | exact True.intro | assumption | apply And.intro))), (List.mem_singleton_self _), F1, (by omega), rfl, fun fd2 x2 F2 T2 => ⟨rfl, a_nil ⟨[_, _], rfl, Nat.le_of_ble_eq_true rfl, _, rfl, fun a2 ha2 hnewa2 haWa2 => ?_⟩⟩⟩⟩)))⟩⟩⟩)))))
  have n12 : a1 ≠ a2 := hnewa2 1 _ rfl (fun _ z => nomatch z) (fun _ z => nomatch z)
  have n21 := Ne.symm n12
  show XB _ _ _ _ _ [some (.k ad (ns.map PyData.int)), some (.w a1 fd2), some (.w a2 [.tuple [pD x1.1, pD x1.2], .tuple [pD x2.1, pD x2.2]]), none, none, none, none, none, none, none, none, none] _
  refine b_setN 3 hN (x_lst (a_cons (x_fromI 1 G__law_start_here hr (a_consV 1 rfl (a_nil ⟨_, rfl, (fun _ z => nomatch z), ⟨_, _, _, 24, rfl, rfl, (alone_of (by repeat' (first | exact True.intro | assumption | apply And.intro))), (List.mem_singleton_self _), F2, (by omega), rfl, fun fd3 x3 F3 T3 => ⟨rfl, a_cons (x_fromI 1 G__law_start_here hr (a_consV 1 rfl (a_nil ⟨_, rfl, (fun _ z => nomatch z), ⟨_, _, _, 36, rfl, rfl, (alone_of (by repeat' (first | exact True.intro | assumption | apply And.intro))), (List.mem_singleton_self _), F3, (by omega), rfl, fun fd4 x4 F4 T4 => ⟨rfl, a_nil ⟨[_, _], rfl, Nat.le_of_ble_eq_true rfl, _, rfl, fun a3 ha3 hnewa3 haWa3 => ?_⟩⟩⟩⟩)))⟩⟩⟩)))))
  have n13 : a1 ≠ a3 := hnewa3 1 _ rfl (fun _ z => nomatch z) (fun _ z => nomatch z)
  have n23 : a2 ≠ a3 := hnewa3 2 _ rfl (fun _ z => nomatch z) (fun _ z => nomatch z)
  refine b_setN 4 hN (x_lst (a_nil ⟨[], rfl, Nat.le_of_ble_eq_true rfl, _, rfl, fun a4 ha4 hnewa4 haW4 => b_wide (i := 4) rfl ha4 ?_⟩))
  refine b_setN 5 hN (x_lst (a_nil ⟨[], rfl, Nat.le_of_ble_eq_true rfl, _, rfl, fun a5 ha5 hnewa5 haW5 => ?_⟩))
  have n14 : a1 ≠ a4 := hnewa4 1 _ rfl (fun _ z => nomatch z) (fun _ z => nomatch z)
  have n24 : a2 ≠ a4 := hnewa4 2 _ rfl (fun _ z => nomatch z) (fun _ z => nomatch z)
  have n34 : a3 ≠ a4 := hnewa4 3 _ rfl (fun _ z => nomatch z) (fun _ z => nomatch z)
  have n54 : a5 ≠ a4 := Ne.symm (hnewa5 4 _ rfl (fun _ z => nomatch z) (fun _ z => nomatch z))
  show XB _ _ _ _ _ (LawG ad ns x1 x2 x3 x4 a1 a2 a3 a4 a5 fd4 [] [] none none none none none none) _
  have hB : ∀ x, BdP 25 (pick x x1 x2).1 ∧ BdP 25 (pick x x1 x2).2 := fun x => pick_all (P := fun z : Pt × Pt => BdP 25 z.1 ∧ BdP 25 z.2) x T1 T2
  have hS : ∀ x, BdP 20 (pick x x3 x4).1 ∧ BdP 41 (pick x x3 x4).2 ∧ far (pick x x3 x4).1 (pick x x3 x4).2 ≠ 0 := fun x => pick_all (P := fun z : Pt × Pt => BdP 20 z.1 ∧ BdP 41 z.2 ∧ far z.1 z.2 ≠ 0) x T3 T4
  clear hnew1 hnewa2 hnewa3 hnewa4 hnewa5
  refine b_for rfl (i_new (x_cat (x_sliceL (some 1) (some 6) (x_var 0 rfl ⟨_, rfl, rfl, x_rep (x_lst (a_cons (x_int ⟨rfl, a_nil ⟨[_], rfl, Nat.le_of_ble_eq_true rfl, rfl, x_intB hint (a_cons (x_lt (x_len hlen (a_consV 0 rfl (a_nil ⟨_, rfl, (fun _ z => nomatch z), _, _, rfl, rfl, rfl, x_int ⟨_, _, rfl, rfl, trivial, rfl, a_nil ⟨_, rfl, _, _, rfl, rfl, ?_, ?_, Nat.le_of_ble_eq_true rfl, _, _, rfl, rfl, ?_, (cells ns).map PyData.int, congrArg Ent.n (cells_data ns), fun n Γ => ∃ (a1 a5 : Addr) (fd : List PyData) (ps qs : List Pc) (u6 : Option Ent) (v : Option (PyData × PyData)), Γ = LawG ad ns x1 x2 x3 x4 a1 a2 a3 a4 a5 fd ps qs u6 (v.map fun p => .d p.1) (v.map fun p => .d p.2) none none none ∧ Made n ps qs ∧ a1 ≠ a4 ∧ a5 ≠ a4, ?_, fun _ _ _ => trivial, fun n d Γ hd hI => ?_, fun Γ hI => ?_⟩⟩⟩))))) ⟩⟩)))⟩))))
  · split <;> decide
  · split <;> decide
  · rw [← List.length_append, cells_data, List.length_map]
    have := (cells_len ns).2
    omega
  · exact ⟨a1, a5, fd4, [], [], none, none, rfl, ⟨.nil, fun y hy => (by simp at hy), fun y hy => (by simp at hy), rfl, Nat.le_refl _⟩, n14, n54⟩
  · obtain ⟨b1, b5, fd, ps, qs, u6, v, rfl, hM, n14, n54⟩ := hI
    rw [List.getElem?_map] at hd
    obtain ⟨i, hi, rfl⟩ := Option.map_eq_some_iff.mp hd
    have hn5 := (List.getElem?_eq_some_iff.mp hi).1
    have hc5 := (cells_len ns).2
    have hf := hM.few
    refine ⟨_, _, g_name 6 hN, fun B' hB' => ?_⟩
    refine b_setN 1 hN (x_call G__law_feed hr (a_cons (x_var 6 rfl ⟨rfl, a_nil ⟨_, ⟨_, rfl, rfl⟩, _, rfl, fun a6 ha6 hnew6 haW6 => b_wide (i := 1) rfl ha6 ?_⟩⟩)))
    have m2 : a2 ≠ a6 := hnew6 2 _ rfl (fun _ z => nomatch z) (fun _ z => nomatch z)
    have m3 : a3 ≠ a6 := hnew6 3 _ rfl (fun _ z => nomatch z) (fun _ z => nomatch z)
    have m4 : a4 ≠ a6 := hnew6 4 _ rfl (fun _ z => nomatch z) (fun _ z => nomatch z)
    have m5 : b5 ≠ a6 := hnew6 5 _ rfl (fun _ z => nomatch z) (fun _ z => nomatch z)
    have m6 := Ne.symm m4
    have F0 : Fk 0 [.int i, .int 0, .int (if decide (10 ^ 18 ≤ i) = true then 1 else 0)] := ⟨_, _, 0, rfl, Nat.le_refl _⟩
    revert F0
    generalize [PyData.int i, .int 0, .int (if decide (10 ^ 18 ≤ i) = true then 1 else 0)] = fd0
    intro F0
    clear hnew6
    show XB _ _ _ _ _ (LawG ad ns x1 x2 x3 x4 a6 a2 a3 a4 b5 fd0 ps qs (some (.d (.int i))) (v.map fun p => .d p.1) (v.map fun p => .d p.2) none none none) _
    clear hi
    cases v
    all_goals
      refine b_asg (x_ixV 3 rfl (x_fromI 1 G__law_draw hr (a_consV 1 rfl (a_cons (x_int ⟨rfl, a_nil ⟨_, rfl, (fun _ z => nomatch z), _, _, _, 0, rfl, rfl, (alone_of (by repeat' (first | exact True.intro | assumption | apply And.intro))), (by simp), F0, (by omega), ⟨_, rfl, (by decide), (by decide)⟩, fun fd5 x5 F5 T5 => ⟨_, _, _, _, rfl, rfl, rfl, pick_at rfl T5, _, _, _, rfl, g_tup2 7 8 rfl hN, ?_⟩⟩⟩)))))
      refine b_append 4 rfl rfl (x_fromI 1 G__law_one_here hr (a_consV 1 rfl (a_cons (x_ixV 2 rfl (x_fromI 1 G__law_draw hr (a_consV 1 rfl (a_cons (x_int ⟨rfl, a_nil ⟨_, rfl, (fun _ z => nomatch z), _, _, _, 1, rfl, rfl, (alone_of (by repeat' (first | exact True.intro | assumption | apply And.intro))), (by simp), F5, (by omega), ⟨_, rfl, (by decide), (by decide)⟩, fun fd6 x6 F6 T6 => ⟨_, _, _, _, rfl, rfl, rfl, pick_at rfl T6, rfl, a_cons (x_var 7 rfl ⟨rfl, a_cons (x_var 8 rfl ⟨rfl, a_nil ⟨_, rfl, (fun _ z => nomatch z), _, _, _, 2, rfl, rfl, (alone_of (by repeat' (first | exact True.intro | assumption | apply And.intro))), (by simp), F6, (by omega), ⟨_, _, _, _, rfl, (hB x6).1, (hB x6).2, (hS x5).1, (hS x5).2.1, (hS x5).2.2⟩, fun fd7 x7 F7 T7 => ⟨a4, _, _, rfl, (alone_of (by repeat' (first | exact True.intro | assumption | apply And.intro))), (by simp), rfl, ?_, ?_⟩⟩⟩)⟩)⟩⟩⟩))))))))
      · rw [List.length_map, hM.len]
        omega
      refine b_setN 5 hN (x_cat (x_fromI 1 G__law_parts hr (a_consV 1 rfl (a_cons (x_ixV 4 rfl (x_neg (x_int ⟨_, rfl, _, _, _, _, rfl, rfl, rfl, last_at, rfl, a_nil ⟨_, rfl, (fun _ z => nomatch z), _, _, _, 22, rfl, rfl, (alone_of (by repeat' (first | exact True.intro | assumption | apply And.intro))), (by simp), F7, (by omega), ⟨x7, rfl, T7⟩, fun fd8 ys F8 T8 => ⟨rfl, x_var 5 rfl ⟨_, _, rfl, rfl, ?_, _, rfl, fun a9 ha9 hnew9 haW9 => ?_⟩⟩⟩⟩)))))))
      · obtain ⟨_, _, _, _, hl⟩ := T8
        rw [List.length_map, List.length_map]
        omega
      obtain ⟨x', e', hp', hb', hl'⟩ := T8
      have ex : x7 = x' := by
        have e2 : xD x7 = xD x' := by
          injection e' with e3
          injection e3
        have := eqv_xD x7 x'
        rw [e2, eqv_xD x' x'] at this
        simpa using this.symm
      subst ex
      have n94 : a9 ≠ a4 := Ne.symm (hnew9 4 _ rfl (fun _ z => nomatch z) (fun _ z => nomatch z))
      refine b_nil ⟨a6, a9, fd8, ps ++ [x7], ys ++ qs, some (.d (.int i)), some (pD (pick x5 x3 x4).1, pD (pick x5 x3 x4).2), ?_, hM.snoc T7 hp' hb' hl', m6, n94⟩
      have q1 : List.map xD ps ++ [xD x7] = List.map xD (ps ++ [x7]) := by simp
      have q2 : List.map xD ys ++ List.map xD qs = List.map xD (ys ++ qs) := by simp
      rw [q1, q2]
      rfl
  · obtain ⟨b1, b5, fd, ps, qs, u6, v, rfl, hM, n14, n54⟩ := hI
    rw [List.length_map] at hM
    have hc5 := (cells_len ns).2
    have hfew := hM.few
    have hlen1 := hM.len
    have ok1 := hM.ok1
    have ok2 := hM.ok2
    have okl := hM.parts.okl
    have hbp := bare_perm okl.1 okl.2 hM.parts.same
    have hl1 := len2 ok1
    have hl2 := len2 ok2
    have s1 : ∀ l : List Pc, (∀ y ∈ l, PcOk y ∧ PcB 500 y) → ∀ y ∈ srt (preJ l), PcOk y ∧ PcB 500 y := fun l h y hy => ⟨preJ_ok (fun x hx => (h x hx).1) y ((srt_perm _).mem_iff.mp hy), preJ_bd h y hy⟩
    have ok3 := s1 ps ok1
    have ok4 := s1 qs ok2
    have hfp := srt_perm (preJ ps)
    have hfl := srt_len (preJ ps)
    have hql := srt_len (preJ qs)
    have wag := sort_srt (again_perm okl.1 hfp)
    have hsl := sort_lbare (((srt_perm (preJ qs)).map bare).trans (hbp.symm.trans (hfp.map bare).symm))
    refine b_setN 9 hN (x_call G_joined hr (a_consV 4 rfl (a_nil ⟨_, rfl, (fun _ z => nomatch z), _, ⟨ps, rfl, rfl, ok1, by omega⟩, _, rfl, fun a9 ha9 hnew9 haW9 => ?_⟩)))
    obtain ⟨fnd, fe⟩ : ∃ fnd, fnd = srt (preJ ps) := ⟨_, rfl⟩
    rw [← fe] at ok3 hfp hfl wag hsl ⊢
    show XB _ _ _ _ _ (LawG ad ns x1 x2 x3 x4 b1 a2 a3 a4 b5 fd ps qs u6 (v.map fun p => .d p.1) (v.map fun p => .d p.2) (some (.w a9 (fnd.map xD))) none none) _
    refine b_ifB false (t_w (w_or (t_ne hr (x_call G__law_bare hr (a_cons (x_call G_joined hr (a_consV 5 rfl (a_nil ⟨_, rfl, (fun _ z => nomatch z), _, ⟨qs, rfl, rfl, ok2, by omega⟩, rfl, a_nil ⟨_, ⟨srt (preJ qs), rfl, rfl, ok4, by omega⟩, rfl, x_call G__law_bare hr (a_consV 9 rfl (a_nil ⟨_, rfl, (fun _ z => nomatch z), _, ⟨fnd, rfl, rfl, ok3, by omega⟩, shp_map shp_lbD _, shp_map shp_lbD _, _, rfl, fun t1 => w_or1 (t_not (t_val (x_call G_alike_pieces hr (a_consV 5 rfl (a_consV 4 rfl (a_nil ⟨_, rfl, (fun _ z => nomatch z), _, rfl, (fun _ z => nomatch z), _, ⟨qs, ps, rfl, rfl, hbp.symm, ok2, by omega, ok1, by omega⟩, _, rfl, rfl, rfl⟩)))))), fun t1 => ⟨rfl, ?_⟩⟩))⟩⟩)))))))) (fun hb => ?_) (fun hb => ?_)
    · have t1 : (!PyData.eqv (.list (List.map lbD ((List.map bare (srt (preJ qs))).mergeSort (PySem.W.dataLe false lbD)))) (.list (List.map lbD ((List.map bare fnd).mergeSort (PySem.W.dataLe false lbD))))) = true := t1
      rw [hsl, eqv_map (fun a => by rw [eqv_lbD]; simp)] at t1
      exact absurd t1 (by decide)
    · exact Bool.noConfusion (show false = true from hb)
    refine b_nil ?_
    have c3 : ∀ (l : List Pc) (x : Pc), (∀ y ∈ l, PcOk y ∧ PcB 500 y) → (PcOk x ∧ PcB 500 x) → ∀ y ∈ x :: l, CarOk y := fun l x h1 h2 y hy => by
      rcases List.mem_cons.mp hy with rfl | hy
      · exact carOk_of h2
      · exact carOk_of (h1 y hy)
    refine b_for rfl (i_var 4 rfl rfl rfl ⟨fun n Γ => ∃ u10 u11 : Option Ent, Γ = LawG ad ns x1 x2 x3 x4 b1 a2 a3 a4 b5 fd ps qs u6 (v.map fun p => .d p.1) (v.map fun p => .d p.2) (some (.w a9 (fnd.map xD))) u10 u11, ⟨none, none, rfl⟩, fun n Γ hI => ?_, fun n d Γ hd hI => ?_, fun Γ hI => ?_⟩)
    · obtain ⟨u10, u11, rfl⟩ := hI
      rfl
    · obtain ⟨u10, u11, rfl⟩ := hI
      rw [List.getElem?_map] at hd
      obtain ⟨y, hy, rfl⟩ := Option.map_eq_some_iff.mp hd
      have hy := List.mem_of_getElem? hy
      obtain ⟨b, hb⟩ := chain_few okl.1 hfp hy
      refine ⟨_, _, g_name 10 hN, fun B' hB' => ?_⟩
      refine b_setN 11 hN (x_call G_chain hr (a_consV 9 rfl (a_cons (x_var 10 rfl ⟨rfl, a_nil ⟨_, rfl, (fun _ z => nomatch z), _, ⟨fnd, y, 0 + 1, some [b], rfl, rfl, c3 _ _ ok3 (ok1 y hy), by omega, by decide, hb 0, rfl⟩, _, rfl, fun a11 ha11 hnew11 haW11 => ?_⟩⟩))))
      refine b_ifB false (t_w (w_or (t_isN (x_var 11 rfl ⟨fun t1 => w_or1 (t_ne hr (x_len hlen (a_consV 11 rfl (a_nil ⟨_, rfl, (fun _ z => nomatch z), _, _, rfl, rfl, rfl, x_int ⟨(by trivial), (by trivial), _, rfl, rfl, ?_⟩⟩)))), fun t1 => ⟨rfl, ?_⟩⟩)))) (fun hb => ?_) (fun hb => ?_)
      · rfl
      · exact t1.symm
      · exact Bool.noConfusion (show false = true from hb)
      · exact b_nil (b_nil ⟨_, _, rfl⟩)
    · obtain ⟨u10, u11, rfl⟩ := hI
      refine b_if (t_not (t_val (x_all rfl hall (a_cons (x_lc0 [("_law_piece", 10)] rfl hN (blkOk_by (by kernel_rfl)) (i_var 9 rfl rfl rfl ⟨rfl, fun k => List.replicate k (PyData.bool true), rfl, by rw [List.length_map]; omega, fun n d hd => ?_, ?_⟩))))))
      · rw [List.getElem?_map] at hd
        obtain ⟨y, hy, rfl⟩ := Option.map_eq_some_iff.mp hd
        have hy := List.mem_of_getElem? hy
        obtain ⟨r, hrr⟩ := chain_parts hM.parts hfp hy
        refine ⟨_, _, fun s H C cl fp => g_name 10 hN, by decide, fun _ => fun s H C cl fp => ?_, fun h => nomatch h⟩
        exact x_notN (x_call G_chain (by assumption) (a_consV 5 rfl (a_cons (x_var 10 rfl ⟨rfl, a_nil ⟨_, rfl, (fun _ z => nomatch z), _, ⟨qs, y, qs.length + 1, some r, rfl, rfl, c3 _ _ ok2 (ok3 y hy), by omega, by omega, hrr, rfl⟩, _, rfl, trues n⟩⟩))))
      · refine ⟨rfl, a_nil ⟨_, List.replicate (fnd.map xD).length true, rfl, by rw [List.map_replicate]; rfl, _, rfl, ?_⟩⟩
        rw [show (List.replicate (fnd.map xD).length true).all id = true by simp]
        refine ⟨fun hb => absurd hb (by decide), fun hb => b_nil ?_⟩
        refine b_ret (x_and (x_eq hr (x_call G_joined hr (a_consV 9 rfl (a_nil ⟨_, rfl, (fun _ z => nomatch z), _, ⟨fnd, rfl, rfl, ok3, by omega⟩, rfl, x_var 9 rfl ⟨shp_xs _, shp_xs _, _, rfl, fun t1 => x_one (x_eq hr (x_call G_joined hr (a_consV 4 rfl (a_nil ⟨_, rfl, (fun _ z => nomatch z), _, ⟨ps, rfl, rfl, ok1, by omega⟩, rfl, x_var 9 rfl ⟨shp_xs _, shp_xs _, ?_⟩⟩)))), fun t1 => ?_⟩⟩)))))
        · show Rt H (.d (.bool true)) (.d (.bool (PyData.eqv (.list ((srt (preJ ps)).map xD)) (.list (fnd.map xD)))))
          rw [← fe, eqv_map (fun a => by rw [eqv_xD]; simp)]
          exact .inl rfl
        · have t1 : PyData.eqv (.list ((srt (preJ fnd)).map xD)) (.list (fnd.map xD)) = false := t1
          rw [wag, eqv_map (fun a => by rw [eqv_xD]; simp)] at t1
          exact absurd t1 (by decide)

end
end AW
set_option Elab.async false
set_option linter.all false
set_option maxRecDepth 100000
set_option maxHeartbeats 0
namespace AH
open PySem PySem.Spec PyProof.Rows L2 AW
theorem facts {P : Program} {w : World} {K : PySem.W.Frag} {h : Heap} {mg : Str → Option Value} {f : Addr} (X : K.In h) (G : h.Ns mainGlobals mg) (hfa : mg ("law" : Str) = some (.ref f)) (c : He.SaysD fa fn K) :
    ∃ fd : FuncData, (∀ (s : Shared) (v : Value), BindsTo s fd ⟨[v], []⟩ [("_law_script", v)]) ∧ ∀ base : Heap, K.In base → base.Ns mainGlobals mg → FnOk P w K mg base CX0 13 f fd ["_law_script"] (L3.spD K R_law) := by
  obtain ⟨fd__law_feed, F__law_feed⟩ := c.def_ 0 (d := dd "_law_feed" 48) rfl
  obtain ⟨fd_divisor, F_divisor⟩ := c.def_ 1 (d := dd "divisor" 5) rfl
  obtain ⟨fd_ratio, F_ratio⟩ := c.def_ 2 (d := dd "ratio" 6) rfl
  obtain ⟨fd_minus, F_minus⟩ := c.def_ 3 (d := dd "minus" 8) rfl
  obtain ⟨fd_off, F_off⟩ := c.def_ 4 (d := dd "off" 14) rfl
  obtain ⟨fd_times, F_times⟩ := c.def_ 5 (d := dd "times" 9) rfl
  obtain ⟨fd_across, F_across⟩ := c.def_ 6 (d := dd "across" 17) rfl
  obtain ⟨fd_line, F_line⟩ := c.def_ 7 (d := dd "line" 23) rfl
  obtain ⟨fd_plus, F_plus⟩ := c.def_ 8 (d := dd "plus" 7) rfl
  obtain ⟨fd_along, F_along⟩ := c.def_ 9 (d := dd "along" 16) rfl
  obtain ⟨fd_far, F_far⟩ := c.def_ 10 (d := dd "far" 18) rfl
  obtain ⟨fd_carrier, F_carrier⟩ := c.def_ 11 (d := dd "carrier" 33) rfl
  obtain ⟨fd_by_carriers, F_by_carriers⟩ := c.def_ 12 (d := dd "by_carriers" 34) rfl
  obtain ⟨fd_below, F_below⟩ := c.def_ 13 (d := dd "below" 11) rfl
  obtain ⟨fd_before, F_before⟩ := c.def_ 14 (d := dd "before" 21) rfl
  obtain ⟨fd_two_stretches, F_two_stretches⟩ := c.def_ 15 (d := dd "two_stretches" 35) rfl
  obtain ⟨fd_sign_of, F_sign_of⟩ := c.def_ 16 (d := dd "sign_of" 19) rfl
  obtain ⟨fd_quarter_of, F_quarter_of⟩ := c.def_ 17 (d := dd "quarter_of" 27) rfl
  obtain ⟨fd_ahead, F_ahead⟩ := c.def_ 18 (d := dd "ahead" 28) rfl
  obtain ⟨fd_side, F_side⟩ := c.def_ 19 (d := dd "side" 20) rfl
  obtain ⟨fd_lies_on, F_lies_on⟩ := c.def_ 20 (d := dd "lies_on" 24) rfl
  obtain ⟨fd_on, F_on⟩ := c.def_ 21 (d := dd "on" 29) rfl
  obtain ⟨fd_two_arcs, F_two_arcs⟩ := c.def_ 22 (d := dd "two_arcs" 36) rfl
  obtain ⟨fd_put_in, F_put_in⟩ := c.def_ 23 (d := dd "put_in" 37) rfl
  obtain ⟨fd_joined_on, F_joined_on⟩ := c.def_ 24 (d := dd "joined_on" 38) rfl
  obtain ⟨fd_joined, F_joined⟩ := c.def_ 25 (d := dd "joined" 39) rfl
  obtain ⟨fd__law_cell_at, F__law_cell_at⟩ := c.def_ 26 (d := dd "_law_cell_at" 47) rfl
  obtain ⟨fd__law_draw, F__law_draw⟩ := c.def_ 27 (d := dd "_law_draw" 49) rfl
  obtain ⟨fd__law_lowest, F__law_lowest⟩ := c.def_ 28 (d := dd "_law_lowest" 50) rfl
  obtain ⟨fd__law_small, F__law_small⟩ := c.def_ 29 (d := dd "_law_small" 51) rfl
  obtain ⟨fd__law_spot, F__law_spot⟩ := c.def_ 30 (d := dd "_law_spot" 52) rfl
  obtain ⟨fd__law_first, F__law_first⟩ := c.def_ 31 (d := dd "_law_first" 65) rfl
  obtain ⟨fd__law_sum, F__law_sum⟩ := c.def_ 32 (d := dd "_law_sum" 53) rfl
  obtain ⟨fd__law_base, F__law_base⟩ := c.def_ 33 (d := dd "_law_base" 66) rfl
  obtain ⟨fd__law_both, F__law_both⟩ := c.def_ 34 (d := dd "_law_both" 55) rfl
  obtain ⟨fd__law_start_here, F__law_start_here⟩ := c.def_ 35 (d := dd "_law_start_here" 62) rfl
  obtain ⟨fd_furthest, F_furthest⟩ := c.def_ 36 (d := dd "furthest" 43) rfl
  obtain ⟨fd_round_chain, F_round_chain⟩ := c.def_ 37 (d := dd "round_chain" 44) rfl
  obtain ⟨fd_straight_chain, F_straight_chain⟩ := c.def_ 38 (d := dd "straight_chain" 42) rfl
  obtain ⟨fd_chain, F_chain⟩ := c.def_ 39 (d := dd "chain" 45) rfl
  obtain ⟨fd__law_product, F__law_product⟩ := c.def_ 40 (d := dd "_law_product" 54) rfl
  obtain ⟨fd__law_at_share, F__law_at_share⟩ := c.def_ 41 (d := dd "_law_at_share" 58) rfl
  obtain ⟨fd__law_share, F__law_share⟩ := c.def_ 42 (d := dd "_law_share" 61) rfl
  obtain ⟨fd__law_some, F__law_some⟩ := c.def_ 43 (d := dd "_law_some" 63) rfl
  obtain ⟨fd__law_mixed, F__law_mixed⟩ := c.def_ 44 (d := dd "_law_mixed" 64) rfl
  obtain ⟨fd__law_weighed, F__law_weighed⟩ := c.def_ 45 (d := dd "_law_weighed" 67) rfl
  obtain ⟨fd__law_one_here, F__law_one_here⟩ := c.def_ 46 (d := dd "_law_one_here" 68) rfl
  obtain ⟨fd_together, F_together⟩ := c.def_ 47 (d := dd "together" 13) rfl
  obtain ⟨fd_turned, F_turned⟩ := c.def_ 48 (d := dd "turned" 15) rfl
  obtain ⟨fd_quarters, F_quarters⟩ := c.def_ 49 (d := dd "quarters" 31) rfl
  obtain ⟨fd_over, F_over⟩ := c.def_ 50 (d := dd "over" 10) rfl
  obtain ⟨fd_at_share, F_at_share⟩ := c.def_ 51 (d := dd "at_share" 30) rfl
  obtain ⟨fd_cut, F_cut⟩ := c.def_ 52 (d := dd "cut" 25) rfl
  obtain ⟨fd__law_parts, F__law_parts⟩ := c.def_ 53 (d := dd "_law_parts" 69) rfl
  obtain ⟨fd__law_bare, F__law_bare⟩ := c.def_ 54 (d := dd "_law_bare" 70) rfl
  obtain ⟨fd_bare, F_bare⟩ := c.def_ 55 (d := dd "bare" 40) rfl
  obtain ⟨fd_alike_pieces, F_alike_pieces⟩ := c.def_ 56 (d := dd "alike_pieces" 41) rfl
  obtain ⟨fd_law, F_law⟩ := c.def_ 57 (d := dd "law" 71) rfl
  have e := hfa.symm.trans (He.glo_ok X G (c.fact 57 (f := .glo "law") rfl))
  cases e
  have m__law_feed := He.glo_ok X G (c.fact 0 (f := .glo "_law_feed") rfl)
  have m_divisor := He.glo_ok X G (c.fact 1 (f := .glo "divisor") rfl)
  have m_ratio := He.glo_ok X G (c.fact 2 (f := .glo "ratio") rfl)
  have m_minus := He.glo_ok X G (c.fact 3 (f := .glo "minus") rfl)
  have m_off := He.glo_ok X G (c.fact 4 (f := .glo "off") rfl)
  have m_times := He.glo_ok X G (c.fact 5 (f := .glo "times") rfl)
  have m_across := He.glo_ok X G (c.fact 6 (f := .glo "across") rfl)
  have m_line := He.glo_ok X G (c.fact 7 (f := .glo "line") rfl)
  have m_plus := He.glo_ok X G (c.fact 8 (f := .glo "plus") rfl)
  have m_along := He.glo_ok X G (c.fact 9 (f := .glo "along") rfl)
  have m_far := He.glo_ok X G (c.fact 10 (f := .glo "far") rfl)
  have m_carrier := He.glo_ok X G (c.fact 11 (f := .glo "carrier") rfl)
  have m_by_carriers := He.glo_ok X G (c.fact 12 (f := .glo "by_carriers") rfl)
  have m_below := He.glo_ok X G (c.fact 13 (f := .glo "below") rfl)
  have m_before := He.glo_ok X G (c.fact 14 (f := .glo "before") rfl)
  have m_two_stretches := He.glo_ok X G (c.fact 15 (f := .glo "two_stretches") rfl)
  have m_sign_of := He.glo_ok X G (c.fact 16 (f := .glo "sign_of") rfl)
  have m_quarter_of := He.glo_ok X G (c.fact 17 (f := .glo "quarter_of") rfl)
  have m_ahead := He.glo_ok X G (c.fact 18 (f := .glo "ahead") rfl)
  have m_side := He.glo_ok X G (c.fact 19 (f := .glo "side") rfl)
  have m_lies_on := He.glo_ok X G (c.fact 20 (f := .glo "lies_on") rfl)
  have m_on := He.glo_ok X G (c.fact 21 (f := .glo "on") rfl)
  have m_two_arcs := He.glo_ok X G (c.fact 22 (f := .glo "two_arcs") rfl)
  have m_put_in := He.glo_ok X G (c.fact 23 (f := .glo "put_in") rfl)
  have m_joined_on := He.glo_ok X G (c.fact 24 (f := .glo "joined_on") rfl)
  have m_joined := He.glo_ok X G (c.fact 25 (f := .glo "joined") rfl)
  have m__law_cell_at := He.glo_ok X G (c.fact 26 (f := .glo "_law_cell_at") rfl)
  have m__law_draw := He.glo_ok X G (c.fact 27 (f := .glo "_law_draw") rfl)
  have m__law_lowest := He.glo_ok X G (c.fact 28 (f := .glo "_law_lowest") rfl)
  have m__law_small := He.glo_ok X G (c.fact 29 (f := .glo "_law_small") rfl)
  have m__law_spot := He.glo_ok X G (c.fact 30 (f := .glo "_law_spot") rfl)
  have m__law_first := He.glo_ok X G (c.fact 31 (f := .glo "_law_first") rfl)
  have m__law_sum := He.glo_ok X G (c.fact 32 (f := .glo "_law_sum") rfl)
  have m__law_base := He.glo_ok X G (c.fact 33 (f := .glo "_law_base") rfl)
  have m__law_both := He.glo_ok X G (c.fact 34 (f := .glo "_law_both") rfl)
  have m__law_start_here := He.glo_ok X G (c.fact 35 (f := .glo "_law_start_here") rfl)
  have m_furthest := He.glo_ok X G (c.fact 36 (f := .glo "furthest") rfl)
  have m_round_chain := He.glo_ok X G (c.fact 37 (f := .glo "round_chain") rfl)
  have m_straight_chain := He.glo_ok X G (c.fact 38 (f := .glo "straight_chain") rfl)
  have m_chain := He.glo_ok X G (c.fact 39 (f := .glo "chain") rfl)
  have m__law_product := He.glo_ok X G (c.fact 40 (f := .glo "_law_product") rfl)
  have m__law_at_share := He.glo_ok X G (c.fact 41 (f := .glo "_law_at_share") rfl)
  have m__law_share := He.glo_ok X G (c.fact 42 (f := .glo "_law_share") rfl)
  have m__law_some := He.glo_ok X G (c.fact 43 (f := .glo "_law_some") rfl)
  have m__law_mixed := He.glo_ok X G (c.fact 44 (f := .glo "_law_mixed") rfl)
  have m__law_weighed := He.glo_ok X G (c.fact 45 (f := .glo "_law_weighed") rfl)
  have m__law_one_here := He.glo_ok X G (c.fact 46 (f := .glo "_law_one_here") rfl)
  have m_together := He.glo_ok X G (c.fact 47 (f := .glo "together") rfl)
  have m_turned := He.glo_ok X G (c.fact 48 (f := .glo "turned") rfl)
  have m_quarters := He.glo_ok X G (c.fact 49 (f := .glo "quarters") rfl)
  have m_over := He.glo_ok X G (c.fact 50 (f := .glo "over") rfl)
  have m_at_share := He.glo_ok X G (c.fact 51 (f := .glo "at_share") rfl)
  have m_cut := He.glo_ok X G (c.fact 52 (f := .glo "cut") rfl)
  have m__law_parts := He.glo_ok X G (c.fact 53 (f := .glo "_law_parts") rfl)
  have m__law_bare := He.glo_ok X G (c.fact 54 (f := .glo "_law_bare") rfl)
  have m_bare := He.glo_ok X G (c.fact 55 (f := .glo "bare") rfl)
  have m_alike_pieces := He.glo_ok X G (c.fact 56 (f := .glo "alike_pieces") rfl)
  have b_int := He.free_ok X G (c.fact 58 (f := .free "int") rfl)
  have b_abs := He.free_ok X G (c.fact 59 (f := .free "abs") rfl)
  have b_list := He.free_ok X G (c.fact 60 (f := .free "list") rfl)
  have b_len := He.free_ok X G (c.fact 61 (f := .free "len") rfl)
  have b_any := He.free_ok X G (c.fact 62 (f := .free "any") rfl)
  have b_sorted := He.free_ok X G (c.fact 63 (f := .free "sorted") rfl)
  have b_zip := He.free_ok X G (c.fact 64 (f := .free "zip") rfl)
  have b_enumerate := He.free_ok X G (c.fact 65 (f := .free "enumerate") rfl)
  have b_range := He.free_ok X G (c.fact 66 (f := .free "range") rfl)
  have b_all := He.free_ok X G (c.fact 67 (f := .free "all") rfl)
  have b := FunD.bindsA (ps := ["_law_script"]) F_law fun _ _ _ _ _ _ us hl => match us, hl with | [_], _ => rfl
  refine ⟨fd_law, fun s v => b s [v] rfl, fun base _ _ => ?_⟩
  have C__law_feed := c__law_feed (P := P) (w := w) (base := base) F__law_feed m__law_feed (hint := b_int)
  have C_divisor := c_divisor (P := P) (w := w) (base := base) F_divisor m_divisor (habs := b_abs)
  have C_ratio := c_ratio (P := P) (w := w) (base := base) F_ratio m_ratio (G_divisor := C_divisor)
  have C_minus := c_minus (P := P) (w := w) (base := base) F_minus m_minus (G_ratio := C_ratio)
  have C_off := c_off (P := P) (w := w) (base := base) F_off m_off (G_minus := C_minus)
  have C_times := c_times (P := P) (w := w) (base := base) F_times m_times (G_ratio := C_ratio)
  have C_across := c_across (P := P) (w := w) (base := base) F_across m_across (G_minus := C_minus) (G_times := C_times)
  have C_line := c_line (P := P) (w := w) (base := base) F_line m_line (G_off := C_off) (G_across := C_across) (G_divisor := C_divisor)
  have C_plus := c_plus (P := P) (w := w) (base := base) F_plus m_plus (G_ratio := C_ratio)
  have C_along := c_along (P := P) (w := w) (base := base) F_along m_along (G_plus := C_plus) (G_times := C_times)
  have C_far := c_far (P := P) (w := w) (base := base) F_far m_far (G_off := C_off) (G_along := C_along)
  have C_carrier := c_carrier (P := P) (w := w) (base := base) F_carrier m_carrier (G_line := C_line) (G_far := C_far)
  have C_by_carriers := c_by_carriers (P := P) (w := w) (base := base) F_by_carriers m_by_carriers (G_carrier := C_carrier)
  have C_below := c_below (P := P) (w := w) (base := base) F_below m_below 
  have C_before := c_before (P := P) (w := w) (base := base) F_before m_before (G_below := C_below)
  have C_two_stretches := c_two_stretches (P := P) (w := w) (base := base) F_two_stretches m_two_stretches (G_before := C_before)
  have C_sign_of := c_sign_of (P := P) (w := w) (base := base) F_sign_of m_sign_of (hint := b_int)
  have C_quarter_of := c_quarter_of (P := P) (w := w) (base := base) F_quarter_of m_quarter_of (G_sign_of := C_sign_of) (G_along := C_along) (G_across := C_across)
  have C_ahead := c_ahead (P := P) (w := w) (base := base) F_ahead m_ahead (G_off := C_off) (G_quarter_of := C_quarter_of) (G_across := C_across)
  have C_side := c_side (P := P) (w := w) (base := base) F_side m_side (G_sign_of := C_sign_of) (G_across := C_across) (G_off := C_off)
  have C_lies_on := c_lies_on (P := P) (w := w) (base := base) F_lies_on m_lies_on (G_side := C_side) (G_before := C_before)
  have C_on := c_on (P := P) (w := w) (base := base) F_on m_on (G_ahead := C_ahead) (G_lies_on := C_lies_on) (G_far := C_far)
  have C_two_arcs := c_two_arcs (P := P) (w := w) (base := base) F_two_arcs m_two_arcs (G_on := C_on) (G_ahead := C_ahead)
  have C_put_in := c_put_in (P := P) (w := w) (base := base) F_put_in m_put_in (hlist := b_list) (hlen := b_len) (G_two_stretches := C_two_stretches) (G_two_arcs := C_two_arcs)
  have C_joined_on := c_joined_on (P := P) (w := w) (base := base) F_joined_on m_joined_on (G_put_in := C_put_in)
  have C_joined := c_joined (P := P) (w := w) (base := base) F_joined m_joined (hany := b_any) (hsorted := b_sorted) (hlist := b_list) (G_by := C_by_carriers) (G_joined_on := C_joined_on) (G_on := C_on)
  have C__law_cell_at := c__law_cell_at (P := P) (w := w) (base := base) F__law_cell_at m__law_cell_at (hlen := b_len)
  have C__law_draw := c__law_draw (P := P) (w := w) (base := base) F__law_draw m__law_draw 
  have C__law_lowest := c__law_lowest (P := P) (w := w) (base := base) F__law_lowest m__law_lowest (habs := b_abs)
  have C__law_small := c__law_small (P := P) (w := w) (base := base) F__law_small m__law_small (G__law_draw := C__law_draw) (G__law_lowest := C__law_lowest)
  have C__law_spot := c__law_spot (P := P) (w := w) (base := base) F__law_spot m__law_spot (G__law_small := C__law_small)
  have C__law_first := c__law_first (P := P) (w := w) (base := base) F__law_first m__law_first (hzip := b_zip)
  have C__law_sum := c__law_sum (P := P) (w := w) (base := base) F__law_sum m__law_sum (G__law_lowest := C__law_lowest)
  have C__law_base := c__law_base (P := P) (w := w) (base := base) F__law_base m__law_base (G__law_spot := C__law_spot) (G__law_first := C__law_first) (G__law_sum := C__law_sum)
  have C__law_both := c__law_both (P := P) (w := w) (base := base) F__law_both m__law_both (G__law_sum := C__law_sum)
  have C__law_start_here := c__law_start_here (P := P) (w := w) (base := base) F__law_start_here m__law_start_here (G__law_spot := C__law_spot) (G__law_both := C__law_both)
  have C_furthest := c_furthest (P := P) (w := w) (base := base) F_furthest m_furthest (G_on := C_on) (G_ahead := C_ahead)
  have C_round_chain := c_round_chain (P := P) (w := w) (base := base) F_round_chain m_round_chain (henumerate := b_enumerate) (hlen := b_len) (G_carrier := C_carrier) (G_furthest := C_furthest) (G_ahead := C_ahead)
  have C_straight_chain := c_straight_chain (P := P) (w := w) (base := base) F_straight_chain m_straight_chain (henumerate := b_enumerate) (G_carrier := C_carrier) (G_before := C_before) (G_on := C_on)
  have C_chain := c_chain (P := P) (w := w) (base := base) F_chain m_chain (henumerate := b_enumerate) (G_round_chain := C_round_chain) (G_straight_chain := C_straight_chain) (G_on := C_on)
  have C__law_product := c__law_product (P := P) (w := w) (base := base) F__law_product m__law_product (G__law_lowest := C__law_lowest)
  have C__law_at_share := c__law_at_share (P := P) (w := w) (base := base) F__law_at_share m__law_at_share (G__law_lowest := C__law_lowest) (G__law_both := C__law_both) (G__law_sum := C__law_sum) (G__law_product := C__law_product)
  have C__law_share := c__law_share (P := P) (w := w) (base := base) F__law_share m__law_share (G__law_draw := C__law_draw) (G__law_lowest := C__law_lowest)
  have C__law_some := c__law_some (P := P) (w := w) (base := base) F__law_some m__law_some (hrange := b_range) (G__law_at_share := C__law_at_share) (G__law_share := C__law_share) (G__law_draw := C__law_draw) (G__law_both := C__law_both)
  have C__law_mixed := c__law_mixed (P := P) (w := w) (base := base) F__law_mixed m__law_mixed (G__law_both := C__law_both) (G__law_sum := C__law_sum) (G__law_product := C__law_product)
  have C__law_weighed := c__law_weighed (P := P) (w := w) (base := base) F__law_weighed m__law_weighed (G__law_mixed := C__law_mixed) (G__law_lowest := C__law_lowest) (G__law_draw := C__law_draw)
  have C__law_one_here := c__law_one_here (P := P) (w := w) (base := base) F__law_one_here m__law_one_here (G__law_draw := C__law_draw) (G__law_some := C__law_some) (G__law_weighed := C__law_weighed) (G__law_first := C__law_first) (G__law_spot := C__law_spot)
  have C_together := c_together (P := P) (w := w) (base := base) F_together m_together (G_plus := C_plus)
  have C_turned := c_turned (P := P) (w := w) (base := base) F_turned m_turned (hrange := b_range)
  have C_quarters := c_quarters (P := P) (w := w) (base := base) F_quarters m_quarters (hrange := b_range) (G_off := C_off) (G_together := C_together) (G_turned := C_turned) (G_ahead := C_ahead)
  have C_over := c_over (P := P) (w := w) (base := base) F_over m_over (G_ratio := C_ratio)
  have C_at_share := c_at_share (P := P) (w := w) (base := base) F_at_share m_at_share (G_times := C_times) (G_plus := C_plus) (G_over := C_over) (G_off := C_off) (G_together := C_together) (G_minus := C_minus)
  have C_cut := c_cut (P := P) (w := w) (base := base) F_cut m_cut (G_lies_on := C_lies_on)
  have C__law_parts := c__law_parts (P := P) (w := w) (base := base) F__law_parts m__law_parts (hzip := b_zip) (G_quarters := C_quarters) (G_at_share := C_at_share) (G__law_lowest := C__law_lowest) (G_cut := C_cut) (G_on := C_on) (G__law_draw := C__law_draw) (G__law_mixed := C__law_mixed)
  have C__law_bare := c__law_bare (P := P) (w := w) (base := base) F__law_bare m__law_bare (hsorted := b_sorted) (hint := b_int) (G_carrier := C_carrier)
  have C_bare := c_bare (P := P) (w := w) (base := base) F_bare m_bare (G_far := C_far)
  have C_alike_pieces := c_alike_pieces (P := P) (w := w) (base := base) F_alike_pieces m_alike_pieces (hsorted := b_sorted) (G_bare := C_bare) (G_joined := C_joined)
  exact c_law (P := P) (w := w) (base := base) F_law (hall := b_all) (hint := b_int) (hlen := b_len) (G__law_feed := C__law_feed) (G_joined := C_joined) (G__law_cell_at := C__law_cell_at) (G__law_base := C__law_base) (G__law_start_here := C__law_start_here) (G_chain := C_chain) (G__law_draw := C__law_draw) (G__law_one_here := C__law_one_here) (G__law_parts := C__law_parts) (G__law_bare := C__law_bare) (G_alike_pieces := C_alike_pieces)
theorem locked {K : PySem.W.Frag} {H : Hp} {a : Addr} {xs : List V} (hO : Only H) (q : SqL K H a xs) : L3.Locked K H a xs := by
  refine ⟨q, fun H2 hf => ?_⟩
  rcases q with (q | ⟨o, q⟩) | q
  · rcases hO a with e | ⟨o, ys, e⟩ <;> rw [q] at e <;> cases e
  · exact .inl (.inr ⟨o, hf o _ q⟩)
  · exact .inr q
theorem intsD {K : PySem.W.Frag} {H : Hp} : ∀ ns : List Int, L3.DtAll K H (ns.map V.int) (ns.map PyData.int)
  | [] => .nil
  | n :: ns => .cons (.int n) (intsD ns)
theorem ends {K : PySem.W.Frag} (H : Hp) (a : Addr) (ns : List Int) (hl : ns.length ≤ 63) (hO : Only H) (hS : SqL K H a (ns.map V.int)) : L3.spD K R_law [.ref a] H (fun v _ => v = .bl true) fun _ _ _ => False :=
  ⟨[.k a (ns.map PyData.int)], .d (.bool true), ⟨a, ns, rfl, rfl, hl⟩, .cons ⟨rfl, _, locked hO hS, intsD ns⟩ .nil, fun v H' _ ho => by
    have ho : L3.Dt K H' v (.bool true) := ho
    cases ho
    rfl⟩
end AH
open PySem PySem.W PySem.Calls PyProof.Rows
theorem PySem.Challenge.cw_arcmill_k47_whole_few_pieces_whatever_is_holds : PySem.Challenge.rw_arcmill_k47_whole_few_pieces_whatever_is.Holds := by
  w_on; o_law
  refine HandSHeadRun.head_any (r := OpenLaw.row PySem.Challenge.rw_arcmill_k47_whole_few_pieces_whatever_is) (q := view (OpenLaw.row PySem.Challenge.rw_arcmill_k47_whole_few_pieces_whatever_is).prog [71]) (H := AH.hk) (ob := AH.ob) (M := 4000) (loose := AH.loose) (d := HandSHeadRun.topDef (OpenLaw.row PySem.Challenge.rw_arcmill_k47_whole_few_pieces_whatever_is).prog 71) (kwd := []) AH.ob_eq
    (by kernel_rfl) (fun s => by kernel_rfl) AH.run (by kernel_rfl) (by kernel_rfl) (by kernel_rfl) (by rfl) (by first | assumption | decide +kernel) (by decide +kernel) ⟨rfl, rfl, rfl, rfl, rfl, by decide +kernel⟩ ?hw ?hc
  case hw => w_witness2
  case hc =>
    refine L2.walk_ofE (l := PySem.Challenge.rw_arcmill_k47_whole_few_pieces_whatever_is) (n := 63) (k := 13) (x := "_law_script") (CX := L2.CX0) rfl (by decide) (by kernel_rfl) ⟨rfl, by decide, by decide⟩ ?F (fun _ _ _ _ z => z)
    intro w mg fa h Y G hmg0
    obtain ⟨K, KX, c⟩ := Y
    have hmg : mg ("law" : PySem.Str) = some (.ref fa) := by
      have e : (HandSHeadRun.topDef (OpenLaw.row PySem.Challenge.rw_arcmill_k47_whole_few_pieces_whatever_is).prog 71).name = ("law" : PySem.Str) := by kernel_rfl
      rw [← e]
      exact hmg0
    obtain ⟨fd, hb, hF⟩ := AH.facts (P := (PySem.Challenge.rw_arcmill_k47_whole_few_pieces_whatever_is).prog) (w := w) KX G hmg c
    exact ⟨K, fd, L3.spD K AW.R_law, KX, hb, fun H a ns hl hO hS => AH.ends H a ns hl hO hS, hF⟩
