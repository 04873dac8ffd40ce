import PyProof.Rows.All
import Wide.All
import OpenK.AllK
import Wide.FinOn
import PyProof.EqAt
import PyProof.EqKinds
import PyProof.TupleCall
import KE.KStateDown
import Lean
import KE.KDictKeyed
import KE.KExcInit
import KE.OsGo
import KE.KDictLaw
import KE.SortData
import KE.KDictPairs
import KE.KDictCopyH
import KE.DataMinMax
import PyProof.P3In
import HandS.ForMost
import HandS.Exc
import HandS.ExcOwn
import HandS.TryOnly
import HandS.WordsExc
import HandS.Deep
import HandS.Defaults
import HandS.IsInst
import HandS.Wide
import HandS.Flow
import HandS.Style
import HandS.More
import HandS.Codes
import HandS.Lambda
import HandS.TupLen
import HandS.TupAny
import HandS.EndTab
import HandS.HeadWalk
import HandS.Head0
import HandS.Head1
import HandS.Head2
import HandS.HeadEnd
import HandS.HeadHook1
import HandS.HeadHook2
import HandS.HeadHook3
import HandS.HeadHook4
import PySem.Challenge.RW_outleap_k09_whole_undefined_rays
set_option Elab.async false
set_option linter.all false
set_option maxRecDepth 100000
set_option maxHeartbeats 4000000
namespace KP
open PySem PySem.Spec PyProof.Rows L2
/-! ### the text by places -/
def top (i : Nat) : Stmt := PySem.Challenge.pw_outleap_k09_whole_undefined_rays.main.body.getD i (.Pass ⟨0, 0, 0, 0⟩)
abbrev s_InvalidPolygon_uinitu : Stmt := inClass (top 1) 0
abbrev s_InvalidPoint_uinitu : Stmt := inClass (top 2) 0
abbrev s_NotOutside_uinitu : Stmt := inClass (top 3) 0
abbrev s_Undefined_uinitu : Stmt := inClass (top 4) 0
abbrev s_is_int : Stmt := top 6
abbrev s_is_int_in : Stmt := top 7
abbrev s_gcd : Stmt := top 8
abbrev s_cross : Stmt := top 9
abbrev s_difference : Stmt := top 10
abbrev s_is_point_shape : Stmt := top 14
abbrev s_is_point : Stmt := top 15
abbrev s_require_point : Stmt := top 16
abbrev s_reflected : Stmt := top 17
abbrev s_edge_side : Stmt := top 18
abbrev s_edge_sides : Stmt := top 19
abbrev s_lies_outside : Stmt := top 20
abbrev s_require_outside : Stmt := top 21
abbrev s_tangent_index : Stmt := top 23
abbrev s_back_tangent_index : Stmt := top 24
abbrev s_image : Stmt := top 25
abbrev s_back_image : Stmt := top 26
abbrev s_require_defined : Stmt := top 27
abbrev s_tangent_vertex : Stmt := top 28
abbrev s_reflect : Stmt := top 29
abbrev s_reflect_back : Stmt := top 30
abbrev s_is_vertex : Stmt := top 35
abbrev s_is_convex : Stmt := top 36
abbrev s_require_vertices : Stmt := top 37
abbrev s_Polygon_uinitu : Stmt := inClass (top 38) 0
abbrev s_Polygon_uequ : Stmt := inClass (top 38) 1
abbrev s_Polygon_ulenu : Stmt := inClass (top 38) 2
abbrev s_Polygon_vertices : Stmt := inClass (top 38) 3
abbrev s_Polygon_vertex : Stmt := inClass (top 38) 4
abbrev s_Polygon_edge : Stmt := inClass (top 38) 5
abbrev s__law_pen : Stmt := top 40
abbrev s__law_draw : Stmt := top 41
abbrev s__law_pick : Stmt := top 42
abbrev s__law_great : Stmt := top 43
abbrev s__law_gcd : Stmt := top 44
abbrev s__law_cross : Stmt := top 45
abbrev s__law_point_form : Stmt := top 46
abbrev s__law_is_convex : Stmt := top 47
abbrev s__law_from_least : Stmt := top 48
abbrev s__law_directions : Stmt := top 49
abbrev s__law_far_shift : Stmt := top 50
abbrev s__law_far_rows : Stmt := top 51
abbrev s__law_modulus : Stmt := top 52
abbrev s__law_map_corner : Stmt := top 53
abbrev s__law_mapped : Stmt := top 54
abbrev s__law_table : Stmt := top 55
abbrev s__law_shapes : Stmt := top 56
abbrev s__law_shape : Stmt := top 57
abbrev s__law_round : Stmt := top 58
abbrev s__law_any_shape : Stmt := top 59
abbrev s__law_stuck : Stmt := top 60
abbrev s__law_rays : Stmt := top 61
abbrev s__law_beside : Stmt := top 62
abbrev s__law_side_right : Stmt := top 63
abbrev s_law : Stmt := top 64
end KP

/-! Plain mathematics: tangents of a strictly convex polygon seen from outside. No program here. -/
set_option maxHeartbeats 4000000
namespace KM
abbrev Pt := Int × Int
/-- cross and dot product -/
def cr (a b : Pt) : Int := a.1 * b.2 - a.2 * b.1
def dt (a b : Pt) : Int := a.1 * b.1 + a.2 * b.2
def df (a b : Pt) : Pt := (a.1 - b.1, a.2 - b.2)
/-- vertex i, the index wraps around -/
def vt (cs : List Pt) (i : Nat) : Pt := cs.getD (i % cs.length) (0, 0)
def ed (cs : List Pt) (i : Nat) : Pt := df (vt cs (i + 1)) (vt cs i)
/-- the side of edge i on which p = (x, y, d) lies -/
def sd (cs : List Pt) (p : Pt) (d : Int) (i : Nat) : Int := cr (ed cs i) (p.1 - (vt cs i).1 * d, p.2 - (vt cs i).2 * d)
/-- how far along edge i -/
def al (cs : List Pt) (p : Pt) (d : Int) (i : Nat) : Int := dt (ed cs i) (p.1 - (vt cs i).1 * d, p.2 - (vt cs i).2 * d)
def nn (a : Pt) : Int := a.1 * a.1 + a.2 * a.2
/-- strictly convex, counterclockwise -/
structure Conv (cs : List Pt) : Prop where
  len : 3 ≤ cs.length
  lft : ∀ i j, j % cs.length ≠ i % cs.length → j % cs.length ≠ (i + 1) % cs.length → 0 < cr (ed cs i) (df (vt cs j) (vt cs i))

theorem vt_mod (cs : List Pt) (i j : Nat) (h : i % cs.length = j % cs.length) : vt cs i = vt cs j := by
  unfold vt; rw [h]
theorem mod_succ {n i j : Nat} (h : i % n = j % n) : (i + 1) % n = (j + 1) % n := by
  rw [Nat.add_mod, h, ← Nat.add_mod]
theorem ed_mod (cs : List Pt) (i j : Nat) (h : i % cs.length = j % cs.length) : ed cs i = ed cs j := by
  unfold ed; rw [vt_mod cs i j h, vt_mod cs (i + 1) (j + 1) (mod_succ h)]
theorem sd_mod (cs : List Pt) (p : Pt) (d : Int) (i j : Nat) (h : i % cs.length = j % cs.length) : sd cs p d i = sd cs p d j := by
  unfold sd; rw [ed_mod cs i j h, vt_mod cs i j h]
theorem al_mod (cs : List Pt) (p : Pt) (d : Int) (i j : Nat) (h : i % cs.length = j % cs.length) : al cs p d i = al cs p d j := by
  unfold al; rw [ed_mod cs i j h, vt_mod cs i j h]

theorem mod_ne_succ {n i : Nat} (hn : 3 ≤ n) : i % n ≠ (i + 1) % n := by
  intro h
  have h1 : i % n < n := Nat.mod_lt _ (by omega)
  rw [Nat.add_mod, Nat.mod_eq_of_lt (show 1 < n by omega)] at h
  by_cases c : i % n + 1 < n
  · rw [Nat.mod_eq_of_lt c] at h; omega
  · have e : i % n + 1 = n := by omega
    rw [e, Nat.mod_self] at h; omega
theorem mod_ne_succ2 {n i : Nat} (hn : 3 ≤ n) : i % n ≠ (i + 2) % n := by
  intro h
  have h1 : i % n < n := Nat.mod_lt _ (by omega)
  rw [Nat.add_mod, Nat.mod_eq_of_lt (show 2 < n by omega)] at h
  by_cases c : i % n + 2 < n
  · rw [Nat.mod_eq_of_lt c] at h; omega
  · obtain ⟨r, hr⟩ : ∃ r, i % n + 2 = n + r := ⟨i % n + 2 - n, by omega⟩
    rw [hr, Nat.add_mod_left, Nat.mod_eq_of_lt (show r < n by omega)] at h; omega

theorem mod_pred {n i j : Nat} (h : (i + 1) % n = (j + 1) % n) : i % n = j % n := by
  rcases Nat.eq_zero_or_pos n with hn | hn
  · subst hn; simp only [Nat.mod_zero] at h ⊢; omega
  · have e : ∀ k, (k + 1 + (n - 1)) % n = k % n := fun k => by
      rw [show k + 1 + (n - 1) = k + n by omega, Nat.add_mod_right]
    rw [← e i, ← e j, Nat.add_mod, h, ← Nat.add_mod]
section
variable {cs : List Pt}
/-- weakly left -/
theorem Conv.wl (C : Conv cs) (i j : Nat) : 0 ≤ cr (ed cs i) (df (vt cs j) (vt cs i)) := by
  by_cases h1 : j % cs.length = i % cs.length
  · rw [vt_mod cs j i h1]; simp [cr, df]
  · by_cases h2 : j % cs.length = (i + 1) % cs.length
    · rw [vt_mod cs j (i + 1) h2]
      show 0 ≤ cr (ed cs i) (ed cs i)
      unfold cr
      rw [Int.mul_comm]; omega
    · exact Int.le_of_lt (C.lft i j h1 h2)
/-- consecutive edges turn left -/
theorem Conv.turn (C : Conv cs) (i : Nat) : 0 < cr (ed cs i) (ed cs (i + 1)) := by
  have h := C.lft i (i + 2) (fun h => mod_ne_succ2 C.len h.symm) (fun h => mod_ne_succ C.len h.symm)
  have e : cr (ed cs i) (ed cs (i + 1)) = cr (ed cs i) (df (vt cs (i + 2)) (vt cs i)) := by
    unfold ed cr df
    simp only [Nat.add_assoc, Nat.reduceAdd]
    grind
  rw [e]; exact h
theorem pos_of_mul {a b : Int} (ha : 0 < a) (h : 0 < a * b) : 0 < b := by
  rcases Int.lt_trichotomy b 0 with hb | hb | hb
  · have := Int.mul_neg_of_pos_of_neg ha hb; omega
  · subst hb; simp at h
  · exact hb
theorem neg_of_mul {a b : Int} (ha : 0 < a) (h : a * b < 0) : b < 0 := by
  have : 0 < a * (-b) := by rw [Int.mul_neg]; omega
  have := pos_of_mul ha this
  omega
theorem sq_nonneg (a : Int) : 0 ≤ a * a := by
  rcases Int.le_total 0 a with h | h
  · exact Int.mul_nonneg h h
  · have := Int.mul_nonneg (show 0 ≤ -a by omega) (show 0 ≤ -a by omega)
    rw [Int.neg_mul_neg] at this
    exact this
theorem nn_pos {a : Pt} (h : a ≠ (0, 0)) : 0 < nn a := by
  unfold nn
  have p := sq_nonneg a.1
  have q := sq_nonneg a.2
  rcases Int.lt_or_eq_of_le (Int.add_nonneg p q) with z | z
  · exact z
  · exfalso
    have a0 : a.1 * a.1 = 0 := by omega
    have b0 : a.2 * a.2 = 0 := by omega
    have a1 : a.1 = 0 := by rcases Int.mul_eq_zero.mp a0 with z | z <;> exact z
    have b1 : a.2 = 0 := by rcases Int.mul_eq_zero.mp b0 with z | z <;> exact z
    exact h (Prod.ext a1 b1)
theorem cr_ne {a b : Pt} (h : cr a b ≠ 0) : a ≠ (0, 0) := by
  intro e; rw [e] at h; simp [cr] at h
theorem ed_pos (C : Conv cs) (i : Nat) : 0 < nn (ed cs i) := nn_pos (cr_ne (b := ed cs (i + 1)) (by have := C.turn i; omega))
/-- the side of the edge before, measured from the vertex between -/
theorem sd_prev (cs : List Pt) (p : Pt) (d : Int) (i : Nat) : sd cs p d i = cr (ed cs i) (p.1 - (vt cs (i + 1)).1 * d, p.2 - (vt cs (i + 1)).2 * d) := by
  unfold sd ed cr df; grind
/-- a vertex w as seen from vertex i + 1, in the frame of the two edges that meet there -/
theorem frame (cs : List Pt) (i j : Nat) (q : Pt) :
    cr (ed cs i) (ed cs (i + 1)) * cr q (df (vt cs j) (vt cs (i + 1))) =
      cr (ed cs i) (df (vt cs j) (vt cs i)) * cr q (ed cs (i + 1)) - cr (ed cs (i + 1)) (df (vt cs j) (vt cs (i + 1))) * cr q (ed cs i) := by
  unfold ed cr df; grind
/-- the vector from p to vertex i -/
def tw (cs : List Pt) (p : Pt) (d : Int) (i : Nat) : Pt := ((vt cs i).1 * d - p.1, (vt cs i).2 * d - p.2)
theorem sd_tw (cs : List Pt) (p : Pt) (d : Int) (i : Nat) : sd cs p d i = cr (tw cs p d i) (ed cs i) := by
  unfold sd tw cr; grind
theorem sd_tw1 (cs : List Pt) (p : Pt) (d : Int) (i : Nat) : sd cs p d i = cr (tw cs p d (i + 1)) (ed cs i) := by
  rw [sd_prev]; unfold tw cr; grind
/-- seen from a tangent vertex all others lie left (s = 1) -/
theorem left_of (C : Conv cs) {p : Pt} {d : Int} {i : Nat} (h1 : sd cs p d i < 0) (h2 : 0 < sd cs p d (i + 1)) {j : Nat} (hj : j % cs.length ≠ (i + 1) % cs.length) :
    0 < cr (tw cs p d (i + 1)) (df (vt cs j) (vt cs (i + 1))) := by
  have D := C.turn i
  have e := frame cs i j (tw cs p d (i + 1))
  rw [← sd_tw1, ← sd_tw] at e
  have A := C.wl i j
  have B := C.wl (i + 1) j
  refine pos_of_mul D ?_
  rw [e]
  have a1 := Int.mul_nonneg A (Int.le_of_lt h2)
  have b1 := Int.mul_nonneg B (show 0 ≤ - sd cs p d i by omega)
  by_cases c : j % cs.length = i % cs.length
  · have Bp : 0 < cr (ed cs (i + 1)) (df (vt cs j) (vt cs (i + 1))) := C.lft (i + 1) j hj (by rw [c]; exact mod_ne_succ2 C.len)
    have := Int.mul_pos Bp (show 0 < - sd cs p d i by omega)
    rw [Int.mul_neg] at this
    omega
  · have Ap : 0 < cr (ed cs i) (df (vt cs j) (vt cs i)) := C.lft i j c hj
    have := Int.mul_pos Ap h2
    rw [Int.mul_neg] at b1
    omega
theorem right_of (C : Conv cs) {p : Pt} {d : Int} {i : Nat} (h1 : 0 < sd cs p d i) (h2 : sd cs p d (i + 1) < 0) {j : Nat} (hj : j % cs.length ≠ (i + 1) % cs.length) :
    cr (tw cs p d (i + 1)) (df (vt cs j) (vt cs (i + 1))) < 0 := by
  have D := C.turn i
  have e := frame cs i j (tw cs p d (i + 1))
  rw [← sd_tw1, ← sd_tw] at e
  have A := C.wl i j
  have B := C.wl (i + 1) j
  refine neg_of_mul D ?_
  rw [e]
  have a1 := Int.mul_nonneg A (show 0 ≤ - sd cs p d (i + 1) by omega)
  have b1 := Int.mul_nonneg B (Int.le_of_lt h1)
  rw [Int.mul_neg] at a1
  by_cases c : j % cs.length = i % cs.length
  · have Bp : 0 < cr (ed cs (i + 1)) (df (vt cs j) (vt cs (i + 1))) := C.lft (i + 1) j hj (by rw [c]; exact mod_ne_succ2 C.len)
    have := Int.mul_pos Bp h1
    omega
  · have Ap : 0 < cr (ed cs i) (df (vt cs j) (vt cs i)) := C.lft i j c hj
    have := Int.mul_pos Ap (show 0 < - sd cs p d (i + 1) by omega)
    rw [Int.mul_neg] at this
    omega
/-- tangent vertices are unique -/
theorem tan_unique (C : Conv cs) {p : Pt} {d : Int} (hd : 0 < d) {i k : Nat} (h1 : sd cs p d i < 0) (h2 : 0 < sd cs p d (i + 1)) (h3 : sd cs p d k < 0) (h4 : 0 < sd cs p d (k + 1)) :
    (i + 1) % cs.length = (k + 1) % cs.length := by
  refine Classical.byContradiction fun ne => ?_
  have a := Int.mul_pos hd (left_of C h1 h2 (j := k + 1) (fun z => ne z.symm))
  have b := Int.mul_pos hd (left_of C h3 h4 (j := i + 1) ne)
  have e : d * cr (tw cs p d (i + 1)) (df (vt cs (k + 1)) (vt cs (i + 1))) + d * cr (tw cs p d (k + 1)) (df (vt cs (i + 1)) (vt cs (k + 1))) = 0 := by
    unfold tw cr df; grind
  omega
theorem back_unique (C : Conv cs) {p : Pt} {d : Int} (hd : 0 < d) {i k : Nat} (h1 : 0 < sd cs p d i) (h2 : sd cs p d (i + 1) < 0) (h3 : 0 < sd cs p d k) (h4 : sd cs p d (k + 1) < 0) :
    (i + 1) % cs.length = (k + 1) % cs.length := by
  refine Classical.byContradiction fun ne => ?_
  have a := Int.mul_neg_of_pos_of_neg hd (right_of C h1 h2 (j := k + 1) (fun z => ne z.symm))
  have b := Int.mul_neg_of_pos_of_neg hd (right_of C h3 h4 (j := i + 1) ne)
  have e : d * cr (tw cs p d (i + 1)) (df (vt cs (k + 1)) (vt cs (i + 1))) + d * cr (tw cs p d (k + 1)) (df (vt cs (i + 1)) (vt cs (k + 1))) = 0 := by
    unfold tw cr df; grind
  omega
/-- on the line of edge k: the offset is along the edge -/
theorem on_line {e r q : Pt} (h : cr e r = 0) : nn e * cr q r = dt e r * cr q e := by
  unfold nn cr dt at *; grind
/-- where a tangent vertex is, no edge's line holds p before the edge's start -/
theorem tan_no_before (C : Conv cs) {p : Pt} {d : Int} (hd : 0 < d) {i : Nat} (h1 : sd cs p d i < 0) (h2 : 0 < sd cs p d (i + 1)) (k : Nat) (hk : sd cs p d k = 0) : ¬ al cs p d k < 0 := by
  intro ha
  by_cases c1 : k % cs.length = (i + 1) % cs.length
  · rw [sd_mod cs p d k (i + 1) c1] at hk; omega
  · by_cases c2 : k % cs.length = i % cs.length
    · rw [sd_mod cs p d k i c2] at hk; omega
    · have h3 := left_of C h1 h2 (j := k) c1
      have N := ed_pos C k
      have on := on_line (q := tw cs p d (i + 1)) hk
      have e1 : cr (tw cs p d (i + 1)) (p.1 - (vt cs k).1 * d, p.2 - (vt cs k).2 * d) = - (d * cr (tw cs p d (i + 1)) (df (vt cs k) (vt cs (i + 1)))) := by
        unfold tw cr df; grind
      have z1 : cr (tw cs p d (i + 1)) (p.1 - (vt cs k).1 * d, p.2 - (vt cs k).2 * d) < 0 := by
        rw [e1]; have := Int.mul_pos hd h3; omega
      have z2 : nn (ed cs k) * cr (tw cs p d (i + 1)) (p.1 - (vt cs k).1 * d, p.2 - (vt cs k).2 * d) < 0 := Int.mul_neg_of_pos_of_neg N z1
      rw [on] at z2
      have z3 : 0 < cr (tw cs p d (i + 1)) (ed cs k) := by
        have : 0 < (- al cs p d k) * cr (tw cs p d (i + 1)) (ed cs k) := by
          rw [Int.neg_mul]; unfold al; omega
        exact pos_of_mul (by omega) this
      have z4 := C.lft k (i + 1) (fun z => c1 z.symm) (fun z => c2 (by
        have : (i + 1) % cs.length = (k + 1) % cs.length := z
        have hn := C.len
        have a1 := Nat.mod_lt i (show 0 < cs.length by omega)
        have a2 := Nat.mod_lt k (show 0 < cs.length by omega)
        exact (mod_pred this).symm))
      have e2 : cr (tw cs p d (i + 1)) (ed cs k) = - (d * cr (ed cs k) (df (vt cs (i + 1)) (vt cs k))) - sd cs p d k * (-1) := by
        unfold tw sd cr df; grind
      have := Int.mul_pos hd z4
      omega
/-- where a back tangent vertex is, no edge's line holds p beyond the edge's end -/
theorem back_no_beyond (C : Conv cs) {p : Pt} {d : Int} (hd : 0 < d) {i : Nat} (h1 : 0 < sd cs p d i) (h2 : sd cs p d (i + 1) < 0) (k : Nat) (hk : sd cs p d k = 0) : ¬ d * nn (ed cs k) < al cs p d k := by
  intro ha
  by_cases c1 : k % cs.length = (i + 1) % cs.length
  · rw [sd_mod cs p d k (i + 1) c1] at hk; omega
  · by_cases c2 : k % cs.length = i % cs.length
    · rw [sd_mod cs p d k i c2] at hk; omega
    · have N := ed_pos C k
      have on := on_line (q := tw cs p d (i + 1)) hk
      have z4 := C.lft k (i + 1) (fun z => c1 z.symm) (fun z => c2 (mod_pred z).symm)
      have e2 : cr (tw cs p d (i + 1)) (ed cs k) = - (d * cr (ed cs k) (df (vt cs (i + 1)) (vt cs k))) - sd cs p d k * (-1) := by
        unfold tw sd cr df; grind
      have z5 : cr (tw cs p d (i + 1)) (ed cs k) < 0 := by
        have := Int.mul_pos hd z4
        omega
      have e1 : cr (tw cs p d (i + 1)) (p.1 - (vt cs k).1 * d, p.2 - (vt cs k).2 * d) = - (d * cr (tw cs p d (i + 1)) (df (vt cs k) (vt cs (i + 1)))) := by
        unfold tw cr df; grind
      have a0 : 0 < al cs p d k := by have := Int.mul_pos hd N; omega
      have h3 := right_of C h1 h2 (j := k) c1
      have z1 : 0 < cr (tw cs p d (i + 1)) (p.1 - (vt cs k).1 * d, p.2 - (vt cs k).2 * d) := by
        rw [e1]; have := Int.mul_neg_of_pos_of_neg hd h3; omega
      have z2 := Int.mul_pos N z1
      rw [on] at z2
      have z3 : dt (ed cs k) (p.1 - (vt cs k).1 * d, p.2 - (vt cs k).2 * d) * cr (tw cs p d (i + 1)) (ed cs k) < 0 := Int.mul_neg_of_pos_of_neg a0 z5
      omega
/-- walking on from a place where P holds to one where it does not: the step where it ends -/
theorem change (P : Nat → Prop) [DecidablePred P] {a : Nat} (h0 : P a) : ∀ t, ¬ P (a + t) → ∃ i, P i ∧ ¬ P (i + 1)
  | 0, h => absurd h0 h
  | t + 1, h => by
    by_cases c : P (a + t)
    · exact ⟨a + t, c, h⟩
    · exact change P h0 t c
theorem reach {n : Nat} (hn : 0 < n) (j m : Nat) : ∃ t, (j + t) % n = m % n := by
  refine ⟨m % n + (n - j % n), ?_⟩
  have a := Nat.mod_lt j hn
  have b := Nat.mod_lt m hn
  have e : j + (m % n + (n - j % n)) = m % n + n * (j / n + 1) := by
    have := Nat.div_add_mod j n
    rw [Nat.mul_add, Nat.mul_one]
    omega
  rw [e, Nat.add_mul_mod_self_left, Nat.mod_mod]
/-- no edge's line holds p before the edge's start: a tangent vertex stands -/
theorem tan_exists (C : Conv cs) {p : Pt} {d : Int} {j m : Nat} (hj : sd cs p d j < 0) (hm : 0 < sd cs p d m) (hb : ∀ k, sd cs p d k = 0 → ¬ al cs p d k < 0) : ∃ i, sd cs p d i < 0 ∧ 0 < sd cs p d (i + 1) := by
  have hn := C.len
  obtain ⟨t, ht⟩ := reach (show 0 < cs.length by omega) j m
  obtain ⟨i, h1, h2⟩ := change (fun i => sd cs p d i < 0) hj t (by rw [sd_mod cs p d (j + t) m ht]; omega)
  refine ⟨i, h1, ?_⟩
  rcases Int.lt_or_eq_of_le (show 0 ≤ sd cs p d (i + 1) by omega) with z | z
  · exact z
  · exfalso
    have N := ed_pos C (i + 1)
    have on := on_line (q := ed cs i) z.symm
    rw [← sd_prev] at on
    have T := C.turn i
    have x1 := Int.mul_neg_of_pos_of_neg N h1
    rw [on] at x1
    refine hb (i + 1) z.symm ?_
    refine neg_of_mul T ?_
    rw [Int.mul_comm]
    exact x1
/-- no edge's line holds p beyond the edge's end: a back tangent vertex stands -/
theorem back_exists (C : Conv cs) {p : Pt} {d : Int} {j m : Nat} (hj : sd cs p d j < 0) (hm : 0 < sd cs p d m) (hb : ∀ k, sd cs p d k = 0 → ¬ d * nn (ed cs k) < al cs p d k) : ∃ i, 0 < sd cs p d i ∧ sd cs p d (i + 1) < 0 := by
  have hn := C.len
  obtain ⟨t, ht⟩ := reach (show 0 < cs.length by omega) m j
  obtain ⟨i, h1, h2⟩ := change (fun i => 0 ≤ sd cs p d i) (show 0 ≤ sd cs p d m by omega) t (by rw [sd_mod cs p d (m + t) j ht]; omega)
  have h2 : sd cs p d (i + 1) < 0 := by omega
  refine ⟨i, ?_, h2⟩
  rcases Int.lt_or_eq_of_le h1 with z | z
  · exact z
  · exfalso
    have N := ed_pos C i
    have T := C.turn i
    have on := on_line (q := ed cs (i + 1)) (show cr (ed cs i) (p.1 - (vt cs (i + 1)).1 * d, p.2 - (vt cs (i + 1)).2 * d) = 0 by rw [← sd_prev]; exact z.symm)
    have x1 := Int.mul_neg_of_pos_of_neg N h2
    unfold sd at x1
    rw [on] at x1
    have e1 : cr (ed cs (i + 1)) (ed cs i) = - cr (ed cs i) (ed cs (i + 1)) := by unfold cr; grind
    rw [e1, Int.mul_neg] at x1
    have y : 0 < dt (ed cs i) (p.1 - (vt cs (i + 1)).1 * d, p.2 - (vt cs (i + 1)).2 * d) := by
      refine pos_of_mul T ?_
      rw [Int.mul_comm]; omega
    refine hb i z.symm ?_
    have e2 : al cs p d i = d * nn (ed cs i) + dt (ed cs i) (p.1 - (vt cs (i + 1)).1 * d, p.2 - (vt cs (i + 1)).2 * d) := by
      unfold al dt nn ed df; grind
    omega
end
end KM

/-! Plain mathematics: maps, rotations and reversals of convex polygons; extremal corners; points near an edge's line. -/
set_option maxHeartbeats 4000000
namespace KM
/-! ### vertices of made lists -/
theorem vt_of {cs : List Pt} {i : Nat} {c : Pt} (h : cs[i % cs.length]? = some c) : vt cs i = c := by
  unfold vt; rw [List.getD_eq_getElem?_getD, h]; rfl
theorem vt_some {cs : List Pt} (hne : 0 < cs.length) (i : Nat) : cs[i % cs.length]? = some (vt cs i) := by
  have h := Nat.mod_lt i hne
  rw [List.getElem?_eq_getElem h]
  congr 1
  exact (vt_of (List.getElem?_eq_getElem h)).symm
theorem vt_map (f : Pt → Pt) {cs : List Pt} (hne : 0 < cs.length) (i : Nat) : vt (cs.map f) i = f (vt cs i) := by
  refine vt_of ?_
  rw [List.length_map, List.getElem?_map, vt_some hne]; rfl
theorem vt_rot {cs : List Pt} {j : Nat} (hj : j < cs.length) (i : Nat) : vt (cs.drop j ++ cs.take j) i = vt cs (i + j) := by
  have hl : (cs.drop j ++ cs.take j).length = cs.length := by rw [List.length_append, List.length_drop, List.length_take]; omega
  have hi := Nat.mod_lt i (show 0 < cs.length by omega)
  refine vt_of ?_
  rw [hl]
  have e : (i + j) % cs.length = (i % cs.length + j) % cs.length := (Nat.mod_add_mod i _ j).symm
  have h2 := vt_some (show 0 < cs.length by omega) (i + j)
  rw [e] at h2
  by_cases c : i % cs.length < cs.length - j
  · rw [List.getElem?_append_left (by rw [List.length_drop]; exact c), List.getElem?_drop, Nat.add_comm j]
    rw [Nat.mod_eq_of_lt (by omega)] at h2
    exact h2
  · rw [List.getElem?_append_right (by rw [List.length_drop]; omega), List.length_drop, List.getElem?_take, if_pos (by omega)]
    rw [Nat.mod_eq_sub_mod (by omega), Nat.mod_eq_of_lt (by omega)] at h2
    rw [← h2]; congr 1; omega
theorem vt_rev {cs : List Pt} (hne : 0 < cs.length) (i : Nat) : vt cs.reverse i = vt cs (cs.length - 1 - i % cs.length) := by
  have hi := Nat.mod_lt i hne
  refine vt_of ?_
  rw [List.length_reverse, List.getElem?_reverse hi]
  have h2 := vt_some hne (cs.length - 1 - i % cs.length)
  rw [Nat.mod_eq_of_lt (show cs.length - 1 - i % cs.length < cs.length by omega)] at h2
  exact h2
/-! ### kept convexity -/
def lin (a b c d p q : Int) (z : Pt) : Pt := (a * z.1 + b * z.2 + p, c * z.1 + d * z.2 + q)
theorem cr_lin (a b c d p q : Int) (x y z u : Pt) : cr (df (lin a b c d p q x) (lin a b c d p q y)) (df (lin a b c d p q z) (lin a b c d p q u)) = (a * d - b * c) * cr (df x y) (df z u) := by
  unfold lin cr df; grind
theorem conv_lin {a b c d p q : Int} (hd : 0 < a * d - b * c) {cs : List Pt} (C : Conv cs) : Conv (cs.map (lin a b c d p q)) := by
  have hn := C.len
  refine ⟨by rw [List.length_map]; exact hn, fun i j h1 h2 => ?_⟩
  rw [List.length_map] at h1 h2
  unfold ed
  rw [vt_map _ (by omega), vt_map _ (by omega), vt_map _ (by omega), cr_lin]
  exact Int.mul_pos hd (C.lft i j h1 h2)
theorem conv_lin_rev {a b c d p q : Int} (hd : a * d - b * c < 0) {cs : List Pt} (C : Conv cs) : Conv (cs.map (lin a b c d p q)).reverse := by
  have hn := C.len
  have hl : (cs.map (lin a b c d p q)).length = cs.length := List.length_map _
  refine ⟨by rw [List.length_reverse, hl]; exact hn, fun i j h1 h2 => ?_⟩
  rw [List.length_reverse, hl] at h1 h2
  have hpos : 0 < cs.length := by omega
  have hi := Nat.mod_lt i hpos
  have hj := Nat.mod_lt j hpos
  unfold ed
  rw [vt_rev (by omega), vt_rev (by omega), vt_rev (by omega), hl, vt_map _ hpos, vt_map _ hpos, vt_map _ hpos, cr_lin]
  -- the reversed edge is the edge before, turned about
  have hs : (i + 1) % cs.length = if i % cs.length + 1 < cs.length then i % cs.length + 1 else 0 := by
    rw [Nat.add_mod, Nat.mod_eq_of_lt (show 1 < cs.length by omega)]
    split
    · exact Nat.mod_eq_of_lt (by assumption)
    · rw [show i % cs.length + 1 = cs.length by omega, Nat.mod_self]
  generalize i % cs.length = I at *
  generalize (i + 1) % cs.length = I1 at *
  generalize j % cs.length = J at *
  have key : cr (df (vt cs (cs.length - 1 - I1)) (vt cs (cs.length - 1 - I))) (df (vt cs (cs.length - 1 - J)) (vt cs (cs.length - 1 - I))) < 0 := by
    have hI1 : I1 < cs.length := by rw [hs]; split <;> omega
    have e1 : (cs.length - 1 - I1 + 1) % cs.length = (cs.length - 1 - I) % cs.length := by
      rw [hs]
      by_cases c : I + 1 < cs.length
      · rw [if_pos c]; congr 1; omega
      · rw [if_neg c]
        rw [show cs.length - 1 - 0 + 1 = cs.length by omega, show cs.length - 1 - I = 0 by omega, Nat.mod_self, Nat.zero_mod]
    have hv : vt cs (cs.length - 1 - I) = vt cs (cs.length - 1 - I1 + 1) := vt_mod _ _ _ e1.symm
    have L := C.lft (cs.length - 1 - I1) (cs.length - 1 - J) ?_ ?_
    · rw [hv]
      have e : ∀ x y z : Pt, cr (df x y) (df z y) = - cr (df y x) (df z x) := by intro x y z; unfold cr df; grind
      rw [e]
      unfold ed at L
      omega
    · intro z
      rw [Nat.mod_eq_of_lt (show cs.length - 1 - J < cs.length by omega), Nat.mod_eq_of_lt (show cs.length - 1 - I1 < cs.length by omega)] at z
      exact h2 (by omega)
    · rw [e1]
      intro z
      rw [Nat.mod_eq_of_lt (show cs.length - 1 - J < cs.length by omega), Nat.mod_eq_of_lt (show cs.length - 1 - I < cs.length by omega)] at z
      exact h1 (by omega)
  have := Int.mul_pos (show 0 < - (a * d - b * c) by omega) (show 0 < - cr (df (vt cs (cs.length - 1 - I1)) (vt cs (cs.length - 1 - I))) (df (vt cs (cs.length - 1 - J)) (vt cs (cs.length - 1 - I))) by omega)
  rw [Int.neg_mul_neg] at this
  exact this
theorem conv_rot {cs : List Pt} {j : Nat} (hj : j < cs.length) (C : Conv cs) : Conv (cs.drop j ++ cs.take j) := by
  have hl : (cs.drop j ++ cs.take j).length = cs.length := by rw [List.length_append, List.length_drop, List.length_take]; omega
  have cancel : ∀ x y, (x + j) % cs.length = (y + j) % cs.length → x % cs.length = y % cs.length := by
    intro x y h
    have g : ∀ x, (x + j + (cs.length - j)) % cs.length = x % cs.length := fun x => by rw [show x + j + (cs.length - j) = x + cs.length by omega, Nat.add_mod_right]
    rw [← g x, ← g y, Nat.add_mod, h, ← Nat.add_mod]
  refine ⟨by rw [hl]; exact C.len, fun i k h1 h2 => ?_⟩
  rw [hl] at h1 h2
  unfold ed
  rw [vt_rot hj, vt_rot hj, vt_rot hj]
  have L := C.lft (i + j) (k + j) (fun z => h1 (cancel _ _ z)) (fun z => h2 (cancel _ _ (by rw [show i + 1 + j = i + j + 1 by omega]; exact z)))
  unfold ed at L
  rw [show i + 1 + j = i + j + 1 by omega]
  exact L
/-- by running through the corners -/
def chk (cs : List Pt) : Bool := decide (3 ≤ cs.length) && (List.range cs.length).all fun i => (List.range cs.length).all fun j => decide (j = i) || decide (j = (i + 1) % cs.length) || decide (0 < cr (ed cs i) (df (vt cs j) (vt cs i)))
theorem conv_chk {cs : List Pt} (h : chk cs = true) : Conv cs := by
  unfold chk at h
  rw [Bool.and_eq_true] at h
  have hn : 3 ≤ cs.length := of_decide_eq_true h.1
  refine ⟨hn, fun i j h1 h2 => ?_⟩
  have hi := Nat.mod_lt i (show 0 < cs.length by omega)
  have hj := Nat.mod_lt j (show 0 < cs.length by omega)
  have a := List.all_eq_true.mp (List.all_eq_true.mp h.2 (i % cs.length) (List.mem_range.mpr hi)) (j % cs.length) (List.mem_range.mpr hj)
  rw [Bool.or_eq_true, Bool.or_eq_true] at a
  rw [ed_mod cs i (i % cs.length) (Nat.mod_mod _ _).symm, vt_mod cs i (i % cs.length) (Nat.mod_mod _ _).symm, vt_mod cs j (j % cs.length) (Nat.mod_mod _ _).symm]
  rcases a with (a | a) | a
  · exact absurd (of_decide_eq_true a) h1
  · exact absurd (of_decide_eq_true a) (by rw [Nat.add_mod, Nat.mod_mod, ← Nat.add_mod]; exact h2)
  · exact of_decide_eq_true a
/-- all corners apart, each corner that is not an edge's lies left of it -/
theorem conv_nodup {cs : List Pt} (hn : 3 ≤ cs.length) (nd : cs.Nodup) (h : ∀ k, k < cs.length → ∀ c ∈ cs, c = vt cs k ∨ c = vt cs (k + 1) ∨ 0 < cr (ed cs k) (df c (vt cs k))) : Conv cs := by
  have hpos : 0 < cs.length := by omega
  have inj : ∀ i j, vt cs i = vt cs j → i % cs.length = j % cs.length := by
    intro i j e
    have a := vt_some hpos i
    have b := vt_some hpos j
    rw [e, ← b] at a
    have hi := Nat.mod_lt i hpos
    exact (List.getElem?_inj hi nd).mp a
  refine ⟨hn, fun i j h1 h2 => ?_⟩
  have hi := Nat.mod_lt i hpos
  have m : vt cs j ∈ cs := List.mem_of_getElem? (vt_some hpos j)
  have e0 : i % cs.length % cs.length = i % cs.length := Nat.mod_mod _ _
  rcases h (i % cs.length) hi (vt cs j) m with z | z | z
  · exact absurd ((inj _ _ z).trans e0) h1
  · exact absurd ((inj _ _ z).trans (mod_succ e0)) h2
  · rw [ed_mod cs _ _ e0, vt_mod cs _ _ e0] at z
    exact z
/-! ### extremal corners -/
section
variable {cs : List Pt}
theorem nonneg_of_mul {a b : Int} (ha : 0 < a) (h : 0 ≤ a * b) : 0 ≤ b := by
  rcases (show b < 0 ∨ 0 ≤ b by omega) with z | z
  · have := Int.mul_neg_of_pos_of_neg ha z; omega
  · exact z
theorem nonpos_of_mul {a b : Int} (ha : 0 < a) (h : a * b ≤ 0) : b ≤ 0 := by
  rcases (show 0 < b ∨ b ≤ 0 by omega) with z | z
  · have := Int.mul_pos ha z; omega
  · exact z
/-- where x rises no further than u -/
def Comp (cs : List Pt) (u x : Pt) : Prop := ∀ i, (0 ≤ cr u (ed cs i) → 0 ≤ cr x (ed cs i)) ∧ (cr u (ed cs i) ≤ 0 → cr x (ed cs i) ≤ 0)
theorem cr_df (x a b : Pt) : cr x (df a b) = cr x a - cr x b := by unfold cr df; grind
/-- a corner that is highest among its neighbours is highest -/
theorem top_of (C : Conv cs) (x : Pt) (i : Nat) (h1 : 0 ≤ cr x (ed cs i)) (h2 : cr x (ed cs (i + 1)) ≤ 0) (j : Nat) : cr x (vt cs j) ≤ cr x (vt cs (i + 1)) := by
  have D := C.turn i
  have e := frame cs i j x
  have a := Int.mul_nonneg (C.wl i j) (show 0 ≤ - cr x (ed cs (i + 1)) by omega)
  have b := Int.mul_nonneg (C.wl (i + 1) j) h1
  rw [Int.mul_neg] at a
  have c := nonpos_of_mul (b := cr x (df (vt cs j) (vt cs (i + 1)))) D (by omega)
  rw [cr_df] at c
  omega
theorem low_of (C : Conv cs) (x : Pt) (i : Nat) (h1 : cr x (ed cs i) ≤ 0) (h2 : 0 ≤ cr x (ed cs (i + 1))) (j : Nat) : cr x (vt cs (i + 1)) ≤ cr x (vt cs j) := by
  have D := C.turn i
  have e := frame cs i j x
  have a := Int.mul_nonneg (C.wl i j) h2
  have b := Int.mul_nonneg (C.wl (i + 1) j) (show 0 ≤ - cr x (ed cs i) by omega)
  rw [Int.mul_neg] at b
  have c := nonneg_of_mul (b := cr x (df (vt cs j) (vt cs (i + 1)))) D (by omega)
  rw [cr_df] at c
  omega
theorem par_zero {x a b : Pt} (hx : x ≠ (0, 0)) (h1 : cr x a = 0) (h2 : cr x b = 0) : cr a b = 0 := by
  have N := nn_pos hx
  have e : nn x * cr a b = dt x a * cr x b - dt x b * cr x a := by unfold nn cr dt; grind
  rw [h1, h2, Int.mul_zero, Int.mul_zero, Int.sub_zero] at e
  rcases Int.mul_eq_zero.mp e with z | z
  · omega
  · exact z
theorem back_ix {n i : Nat} (hn : 0 < n) : (i + (n - 1) + 1) % n = i % n := by
  rw [show i + (n - 1) + 1 = i + n by omega, Nat.add_mod_right]
/-- from the highest corner by u to the lowest: across x -/
theorem across (C : Conv cs) {u x : Pt} (hx : x ≠ (0, 0)) (hc : Comp cs u x) {n f : Nat} (hn : ∀ j, cr u (vt cs j) ≤ cr u (vt cs n)) (hf : ∀ j, cr u (vt cs f) ≤ cr u (vt cs j)) : cr x (df (vt cs f) (vt cs n)) ≠ 0 := by
  intro z
  have hp : 0 < cs.length := by have := C.len; omega
  have top : ∀ j, cr x (vt cs j) ≤ cr x (vt cs n) := by
    intro j
    have e := vt_mod cs _ _ (back_ix (i := n) hp)
    have a := hn (n + (cs.length - 1))
    have b := hn (n + (cs.length - 1) + 1 + 1)
    have t := top_of C x (n + (cs.length - 1)) ((hc _).1 (by unfold ed; rw [cr_df, e]; omega)) ((hc _).2 (by unfold ed; rw [cr_df, e]; omega)) j
    rw [e] at t
    exact t
  have low : ∀ j, cr x (vt cs f) ≤ cr x (vt cs j) := by
    intro j
    have e := vt_mod cs _ _ (back_ix (i := f) hp)
    have a := hf (f + (cs.length - 1))
    have b := hf (f + (cs.length - 1) + 1 + 1)
    have t := low_of C x (f + (cs.length - 1)) ((hc _).2 (by unfold ed; rw [cr_df, e]; omega)) ((hc _).1 (by unfold ed; rw [cr_df, e]; omega)) j
    rw [e] at t
    exact t
  rw [cr_df] at z
  have same : ∀ i j, cr x (vt cs i) = cr x (vt cs j) := fun i j => by
    have a1 := top i; have a2 := top j; have b1 := low i; have b2 := low j; omega
  have z0 : ∀ i, cr x (ed cs i) = 0 := fun i => by
    unfold ed; rw [cr_df, same (i + 1) i]; omega
  have := par_zero hx (z0 0) (z0 1)
  have T := C.turn 0
  rw [Nat.zero_add] at T
  omega
/-- up: of the half plane -/
def Up (e : Pt) : Prop := 0 < e.2 ∨ (e.2 = 0 ∧ 0 < e.1)
theorem Up.ne {e : Pt} (h : Up e) : e ≠ (0, 0) := by
  intro z; rw [z] at h; unfold Up at h; simp at h
def ng (e : Pt) : Pt := (0 - e.1, 0 - e.2)
theorem cr_ng (a b : Pt) : cr (ng a) b = - cr a b := by unfold ng cr; grind
theorem cr_ng2 (a b : Pt) : cr a (ng b) = - cr a b := by unfold ng cr; grind
theorem cr_sw (a b : Pt) : cr a b = - cr b a := by unfold cr; grind
theorem cr_self (a : Pt) : cr a a = 0 := by unfold cr; grind
/-- neighbours among the directions see each edge on the same side -/
theorem same_side {ws : List Pt} (up : ∀ e ∈ ws, Up e) (srt : ws.Pairwise fun a b => 0 ≤ cr a b) {k : Nat} {w0 e e' : Pt} (h0 : ws[0]? = some w0) (hk : ws[k]? = some e) (hk' : (ws ++ [ng w0])[k + 1]? = some e') {w : Pt} (hw : w ∈ ws) :
    (0 ≤ cr e w ∧ 0 ≤ cr e' w) ∨ (cr e w ≤ 0 ∧ cr e' w ≤ 0) := by
  have sr : ∀ (i j : Nat) (a b : Pt), i < j → ws[i]? = some a → ws[j]? = some b → 0 ≤ cr a b := by
    intro i j a b hij ha hb
    obtain ⟨hi, ea⟩ := List.getElem?_eq_some_iff.mp ha
    obtain ⟨hj, eb⟩ := List.getElem?_eq_some_iff.mp hb
    have := List.pairwise_iff_getElem.mp srt i j hi hj hij
    rw [ea, eb] at this
    exact this
  have sr' : ∀ (i j : Nat) (a b : Pt), i ≤ j → ws[i]? = some a → ws[j]? = some b → 0 ≤ cr a b := by
    intro i j a b hij ha hb
    by_cases c : i = j
    · subst c
      rw [ha] at hb
      cases hb
      rw [cr_self]; exact Int.le_refl _
    · exact sr i j a b (by omega) ha hb
  obtain ⟨j, hj⟩ := List.mem_iff_getElem?.mp hw
  have hkl := (List.getElem?_eq_some_iff.mp hk).1
  have hjl := (List.getElem?_eq_some_iff.mp hj).1
  by_cases c : j ≤ k
  · refine .inr ⟨?_, ?_⟩
    · have := sr' j k w e c hj hk
      rw [cr_sw]; omega
    · by_cases c2 : k + 1 < ws.length
      · rw [List.getElem?_append_left c2] at hk'
        have := sr' j (k + 1) w e' (by omega) hj hk'
        rw [cr_sw]; omega
      · rw [List.getElem?_append_right (by omega)] at hk'
        have e2 : ng w0 = e' := by
          rw [show k + 1 - ws.length = 0 by omega] at hk'
          exact Option.some.inj hk'
        rw [← e2, cr_ng]
        have := sr' 0 j w0 w (by omega) h0 hj
        omega
  · have c2 : k + 1 < ws.length := by omega
    rw [List.getElem?_append_left c2] at hk'
    exact .inl ⟨sr' k j e w (by omega) hk hj, sr' (k + 1) j e' w (by omega) hk' hj⟩
theorem along {w E : Pt} (h : cr E w = 0) (x : Pt) : nn w * cr x E = dt w E * cr x w := by
  unfold nn cr dt at *; grind
theorem comp_of {ws : List Pt} (up : ∀ e ∈ ws, Up e) (all : ∀ i, ∃ e ∈ ws, cr (ed cs i) e = 0) {e e' : Pt} (h : ∀ w ∈ ws, (0 ≤ cr e w ∧ 0 ≤ cr e' w) ∨ (cr e w ≤ 0 ∧ cr e' w ≤ 0)) :
    Comp cs (e.1 + e'.1, e.2 + e'.2) e ∧ Comp cs (e.1 + e'.1, e.2 + e'.2) e' := by
  have hu : ∀ E, cr (e.1 + e'.1, e.2 + e'.2) E = cr e E + cr e' E := by intro E; unfold cr; grind
  have sm : ∀ i, (0 ≤ cr e (ed cs i) ∧ 0 ≤ cr e' (ed cs i)) ∨ (cr e (ed cs i) ≤ 0 ∧ cr e' (ed cs i) ≤ 0) := by
    intro i
    obtain ⟨w, hw, hz⟩ := all i
    have N := nn_pos (up w hw).ne
    have a := along hz e
    have b := along hz e'
    rcases Int.le_total 0 (dt w (ed cs i)) with d | d
    · rcases h w hw with ⟨h1, h2⟩ | ⟨h1, h2⟩
      · exact .inl ⟨nonneg_of_mul N (by rw [a]; exact Int.mul_nonneg d h1), nonneg_of_mul N (by rw [b]; exact Int.mul_nonneg d h2)⟩
      · exact .inr ⟨nonpos_of_mul N (by rw [a]; exact Int.mul_nonpos_of_nonneg_of_nonpos d h1), nonpos_of_mul N (by rw [b]; exact Int.mul_nonpos_of_nonneg_of_nonpos d h2)⟩
    · rcases h w hw with ⟨h1, h2⟩ | ⟨h1, h2⟩
      · exact .inr ⟨nonpos_of_mul N (by rw [a]; exact Int.mul_nonpos_of_nonpos_of_nonneg d h1), nonpos_of_mul N (by rw [b]; exact Int.mul_nonpos_of_nonpos_of_nonneg d h2)⟩
      · exact .inl ⟨nonneg_of_mul N (by rw [a]; exact Int.mul_nonneg_of_nonpos_of_nonpos d h1), nonneg_of_mul N (by rw [b]; exact Int.mul_nonneg_of_nonpos_of_nonpos d h2)⟩
  refine ⟨fun i => ?_, fun i => ?_⟩ <;> rw [hu] <;> rcases sm i with ⟨h1, h2⟩ | ⟨h1, h2⟩ <;> constructor <;> intro z <;> omega
/-! ### directions in order -/
theorem up_trans {a b c : Pt} (ha : Up a) (hb : Up b) (hc : Up c) (h1 : 0 ≤ cr a b) (h2 : 0 < cr b c) : 0 < cr a c := by
  unfold Up at ha hb hc
  have id1 : b.2 * cr a c = c.2 * cr a b + a.2 * cr b c := by unfold cr; grind
  have id2 : b.1 * cr a c = c.1 * cr a b + a.1 * cr b c := by unfold cr; grind
  rcases hb with hb | ⟨hb, hb1⟩
  · refine pos_of_mul hb ?_
    rw [id1]
    have t1 : 0 ≤ c.2 * cr a b := Int.mul_nonneg (by omega) h1
    rcases ha with ha | ⟨ha, ha1⟩
    · have := Int.mul_pos ha h2; omega
    · rw [ha] at id1 ⊢
      rcases hc with hc | ⟨hc, hc1⟩
      · have e : cr a b = a.1 * b.2 := by unfold cr; rw [ha]; grind
        have := Int.mul_pos ha1 hb
        have := Int.mul_pos hc (show 0 < cr a b by omega)
        omega
      · have e : cr b c = - (b.2 * c.1) := by unfold cr; rw [hc]; grind
        have := Int.mul_pos hb hc1
        omega
  · have e1 : cr a b = - (a.2 * b.1) := by unfold cr; rw [hb]; grind
    have ha2 : a.2 = 0 := by
      rcases ha with ha | ⟨ha, _⟩
      · have := Int.mul_pos ha hb1; omega
      · exact ha
    have ha1 : 0 < a.1 := by
      rcases ha with ha | ⟨_, ha⟩
      · omega
      · exact ha
    refine pos_of_mul hb1 ?_
    rw [id2]
    have e2 : cr a b = 0 := by rw [e1, ha2]; grind
    rw [e2]
    have := Int.mul_pos ha1 h2
    omega
/-- put in behind all that turn to it -/
theorem insert_sorted {ws : List Pt} {w : Pt} (up : ∀ e ∈ ws, Up e) (hw : Up w) (srt : ws.Pairwise fun a b => 0 ≤ cr a b) :
    (ws.take (ws.filter fun e => decide (0 < cr e w)).length ++ [w] ++ ws.drop (ws.filter fun e => decide (0 < cr e w)).length).Pairwise fun a b => 0 ≤ cr a b := by
  have key : ∀ ws : List Pt, (∀ e ∈ ws, Up e) → (ws.Pairwise fun a b => 0 ≤ cr a b) → (∀ x ∈ ws.take (ws.filter fun e => decide (0 < cr e w)).length, 0 < cr x w) ∧ (∀ x ∈ ws.drop (ws.filter fun e => decide (0 < cr e w)).length, cr x w ≤ 0) := by
    intro ws
    induction ws with
    | nil => intro _ _; simp
    | cons x ws ih =>
      intro up srt
      rw [List.pairwise_cons] at srt
      obtain ⟨i1, i2⟩ := ih (fun e he => up e (List.mem_cons_of_mem _ he)) srt.2
      by_cases c : 0 < cr x w
      · rw [List.filter_cons, if_pos (decide_eq_true c), List.length_cons, List.take_succ_cons, List.drop_succ_cons]
        refine ⟨fun y hy => ?_, i2⟩
        rcases List.mem_cons.mp hy with rfl | hy
        · exact c
        · exact i1 y hy
      · have none_ : ws.filter (fun e => decide (0 < cr e w)) = [] := by
          refine List.filter_eq_nil_iff.mpr fun y hy hz => ?_
          have hz : 0 < cr y w := of_decide_eq_true hz
          exact c (up_trans (up x (List.mem_cons_self ..)) (up y (List.mem_cons_of_mem _ hy)) hw (srt.1 y hy) hz)
        rw [List.filter_cons, if_neg (by rw [decide_eq_true_iff]; exact c), none_, List.length_nil, List.take_zero, List.drop_zero]
        rw [none_, List.length_nil, List.drop_zero] at i2
        refine ⟨fun y hy => absurd hy (List.not_mem_nil), fun y hy => ?_⟩
        rcases List.mem_cons.mp hy with rfl | hy
        · omega
        · exact i2 y hy
  obtain ⟨k1, k2⟩ := key ws up srt
  generalize (ws.filter fun e => decide (0 < cr e w)).length = m at *
  have sp : (ws.take m ++ ws.drop m).Pairwise fun a b => 0 ≤ cr a b := by rw [List.take_append_drop]; exact srt
  rw [List.pairwise_append] at sp
  obtain ⟨s1, s2, s3⟩ := sp
  rw [List.append_assoc, List.pairwise_append]
  refine ⟨s1, ?_, fun a ha b hb => ?_⟩
  · rw [List.singleton_append, List.pairwise_cons]
    refine ⟨fun y hy => ?_, s2⟩
    have := k2 y hy
    rw [cr_sw]; omega
  · rcases List.mem_append.mp hb with hb | hb
    · have e : b = w := by simpa using hb
      rw [e]; exact Int.le_of_lt (k1 a ha)
    · exact s3 a ha b hb
end
end KM

set_option Elab.async false
set_option linter.all false
set_option maxRecDepth 100000
set_option maxHeartbeats 4000000
namespace KP
open PySem PySem.Spec PyProof.Rows L2 KM
/-! ### the heap grows; points, lists of points -/
theorem Same.new {H : Hp} {p : Addr} {o : HO} (h : H p = none) : Same H (upd H p o) := fun b u e => by
  rw [upd_ne (ne_of_none e h)]; exact e
theorem Same.newer {G H : Hp} {p : Addr} {o : HO} (e : Same G H) (h : H p = none) : Same G (upd H p o) := Same.trans e (Same.new h)
/-- what G does not know may change -/
theorem Same.mut {G H : Hp} {p : Addr} {o : HO} (e : Same G H) (h : G p = none) : Same G (upd H p o) := fun b u z => by
  rw [upd_ne (ne_of_none z h)]; exact e b u z
theorem rd_same {H H' : Hp} {a : Addr} {u : HO} (e : Same H H') (h : Rd H a u) : Rd H' a u := by
  rcases h with h | ⟨o, h⟩
  · exact Or.inl (e _ _ h)
  · exact Or.inr ⟨o, e _ _ h⟩
theorem sqL {K : PySem.W.Frag} {H H' : Hp} {a : Addr} {xs : List V} (e : Same H H') (h : SqL K H a xs) : SqL K H' a xs := by
  rcases h with h | h
  · exact Or.inl (rd_same e h)
  · exact Or.inr h
theorem sqT {K : PySem.W.Frag} {H H' : Hp} {a : Addr} {xs : List V} (e : Same H H') (h : SqT K H a xs) : SqT K H' a xs := by
  rcases h with h | h
  · exact Or.inl (rd_same e h)
  · exact Or.inr h
theorem tup_of {K : PySem.W.Frag} {H : Hp} {a : Addr} {xs : List V} (h : H a = some (.tup xs)) : SqT K H a xs := Or.inl (Or.inl h)
theorem lst_of {K : PySem.W.Frag} {H : Hp} {a : Addr} {xs : List V} (h : H a = some (.lst xs)) : SqL K H a xs := Or.inl (Or.inl h)
/-- a tuple of ints -/
def TI (K : PySem.W.Frag) (H : Hp) (v : V) (ns : List Int) : Prop := ∃ p, v = .ref p ∧ SqT K H p (ns.map V.int)
abbrev IsPt (K : PySem.W.Frag) (H : Hp) (v : V) (c : Pt) : Prop := TI K H v [c.1, c.2]
theorem TI.mono {K : PySem.W.Frag} {H H' : Hp} {v : V} {ns : List Int} (e : Same H H') (h : TI K H v ns) : TI K H' v ns := by
  obtain ⟨p, q, r⟩ := h; exact ⟨p, q, sqT e r⟩
/-- a list of points -/
abbrev PtV (K : PySem.W.Frag) (H : Hp) (vs : List V) (cs : List Pt) : Prop := Paired (IsPt K H) vs cs
def PtL (K : PySem.W.Frag) (H : Hp) (a : Addr) (cs : List Pt) : Prop := ∃ vs, SqL K H a vs ∧ PtV K H vs cs
theorem PtV.mono {K : PySem.W.Frag} {H H' : Hp} {vs : List V} {cs : List Pt} (e : Same H H') (h : PtV K H vs cs) : PtV K H' vs cs := Paired.mapP h fun _ _ z => TI.mono e z
theorem PtL.mono {K : PySem.W.Frag} {H H' : Hp} {a : Addr} {cs : List Pt} (e : Same H H') (h : PtL K H a cs) : PtL K H' a cs := by
  obtain ⟨vs, q, r⟩ := h; exact ⟨vs, sqL e q, PtV.mono e r⟩
theorem pair_len {α β : Type} {F : α → β → Prop} : ∀ {xs : List α} {ys : List β}, Paired F xs ys → xs.length = ys.length
  | _, _, .nil => rfl
  | _, _, .cons _ t => by rw [List.length_cons, List.length_cons, pair_len t]
theorem pair_get {α β : Type} {F : α → β → Prop} : ∀ {xs : List α} {ys : List β} {i : Nat} {x : α}, Paired F xs ys → xs[i]? = some x → ∃ y, ys[i]? = some y ∧ F x y
  | _, _, _, _, .nil, e => by simp at e
  | _, _, 0, _, .cons r _, e => by simp at e; subst e; exact ⟨_, rfl, r⟩
  | _, _, i + 1, x, .cons _ t, e => by
    obtain ⟨u, h1, h2⟩ := pair_get (i := i) t (by simpa using e)
    exact ⟨u, by simpa using h1, h2⟩
theorem pair_get' {α β : Type} {F : α → β → Prop} : ∀ {xs : List α} {ys : List β} {i : Nat} {y : β}, Paired F xs ys → ys[i]? = some y → ∃ x, xs[i]? = some x ∧ F x y
  | _, _, _, _, .nil, e => by simp at e
  | _, _, 0, _, .cons r _, e => by simp at e; subst e; exact ⟨_, rfl, r⟩
  | _, _, i + 1, x, .cons _ t, e => by
    obtain ⟨u, h1, h2⟩ := pair_get' (i := i) t (by simpa using e)
    exact ⟨u, by simpa using h1, h2⟩
theorem pair_app {α β : Type} {F : α → β → Prop} : ∀ {xs xs' : List α} {ys ys' : List β}, Paired F xs ys → Paired F xs' ys' → Paired F (xs ++ xs') (ys ++ ys')
  | _, _, _, _, .nil, s => s
  | _, _, _, _, .cons r t, s => .cons r (pair_app t s)
theorem pair_take {α β : Type} {F : α → β → Prop} : ∀ {xs : List α} {ys : List β} (n : Nat), Paired F xs ys → Paired F (xs.take n) (ys.take n)
  | _, _, 0, _ => .nil
  | _, _, _ + 1, .nil => .nil
  | _, _, n + 1, .cons r t => .cons r (pair_take n t)
theorem pair_drop {α β : Type} {F : α → β → Prop} : ∀ {xs : List α} {ys : List β} (n : Nat), Paired F xs ys → Paired F (xs.drop n) (ys.drop n)
  | _, _, 0, r => r
  | _, _, _ + 1, .nil => .nil
  | _, _, n + 1, .cons _ t => pair_drop n t
theorem pair_rev {α β : Type} {F : α → β → Prop} : ∀ {xs : List α} {ys : List β}, Paired F xs ys → Paired F xs.reverse ys.reverse
  | _, _, .nil => .nil
  | _, _, .cons r t => by rw [List.reverse_cons, List.reverse_cons]; exact pair_app (pair_rev t) (.cons r .nil)
/-- a new object -/
theorem new_o {H : Hp} {o : HO} {Q : V → Hp → Prop} (h : ∀ p H', H p = none → Same H H' → H' p = some o → Q (.ref p) H') : ∀ p, H p = none → Q (.ref p) (upd H p o) :=
  fun p hp => h p _ hp (Same.new hp) upd_same
theorem gen_up {H H' : Hp} {p : Addr} {o : HO} (hp : H p = none) (e : upd H p o = H') : Same H H' ∧ H' p = some o := by
  subst e; exact ⟨Same.new hp, upd_same⟩
theorem szT {xs : List V} (h : xs.length ≤ 1000) : xs.length ≤ sizeLine := Nat.le_trans h (by decide)
theorem szL {n : Nat} (h : n < 1000) : n < sizeLine := Nat.lt_of_lt_of_le h (by decide)
theorem iteD {c : Prop} [Decidable c] {A B : Prop} (hc : c) (h : A) : if decide c = true then A else B := by
  rw [decide_eq_true hc]; exact iteT h
theorem iteDn {c : Prop} [Decidable c] {A B : Prop} (hc : ¬ c) (h : B) : if decide c = true then A else B := by
  rw [decide_eq_false hc]; exact iteF h
/-- not c, c false -/
theorem iteNT {c : Prop} [Decidable c] {A B : Prop} (hc : ¬ c) (h : A) : if (!decide c) = true then A else B := by
  rw [decide_eq_false hc]; exact iteT h
theorem ite2D {c : Prop} [Decidable c] {A B : Prop} (h1 : c → A) (h2 : ¬ c → B) : if decide c = true then A else B := by
  by_cases h : c
  · exact iteD h (h1 h)
  · exact iteDn h (h2 h)
theorem bl_of {c : Prop} [Decidable c] {Q : VK} {H : Hp} (hc : c) (h : Q (.bl true) H) : Q (.bl (decide c)) H := by
  rw [decide_eq_true hc]; exact h
/-! ### the defs' facts -/
/-- a def of the top -/
structure DefT (K : PySem.W.Frag) (mg : Str → Option Value) (x : Str) (st : Stmt) (ps : List Str) : Prop where
  ex : ∃ fd, FunD K x x (defArgs st) (defBody st) (defScope st) [] [] (He.ga K x) fd ∧ Binds K fd ps []
  g : mg x = some (.ref (He.ga K x))
/-- a method -/
structure MetT (K : PySem.W.Frag) (C : Addr) (m qual : Str) (st : Stmt) (ps : List Str) : Prop where
  ex : ∃ fd, FunD K m qual (defArgs st) (defBody st) (defScope st) [] [] (He.ma K C m) fd ∧ Binds K fd ps []
/-- what is free, what the module's constants are -/
structure Txt (K : PySem.W.Frag) (mg : Str → Option Value) : Prop where
  f_isinstance : mg "isinstance" = none
  f_int : mg "int" = none
  f_bool : mg "bool" = none
  f_abs : mg "abs" = none
  f_len : mg "len" = none
  f_tuple : mg "tuple" = none
  f_list : mg "list" = none
  f_all : mg "all" = none
  f_min : mg "min" = none
  f_max : mg "max" = none
  f_range : mg "range" = none
  f_enumerate : mg "enumerate" = none
  f_dict : mg "dict" = none
  m_MAX_DENOMINATOR : ∃ u, mg "MAX_DENOMINATOR" = some u ∧ RelV (.int 1000000) u
  m_MAX_DISTANCE : ∃ u, mg "MAX_DISTANCE" = some u ∧ RelV (.int (10 ^ 40)) u
  m_MAX_COORDINATE : ∃ u, mg "MAX_COORDINATE" = some u ∧ RelV (.int 60) u
  m_MIN_VERTICES : ∃ u, mg "MIN_VERTICES" = some u ∧ RelV (.int 3) u
  m_MAX_VERTICES : ∃ u, mg "MAX_VERTICES" = some u ∧ RelV (.int 6) u
/-- the class Polygon, at C -/
structure PolyT (K : PySem.W.Frag) (mg : Str → Option Value) (C : Addr) : Prop where
  cl : Cls K C
  nC : NoAttr K C "cycle"
  mV : Meth K C "vertex" (He.ma K C "vertex")
  mE : Meth K C "edge" (He.ma K C "edge")
  mL : Meth K C "__len__" (He.ma K C "__len__")
  ini : Mk K C (He.ma K C "__init__")
  g : mg "Polygon" = some (.ref C)
section
variable {P : Program} {w : World} {K : PySem.W.Frag} {mg : Str → Option Value} {base : Heap}
/-- a def that lets nothing out: its promise, by its body -/
theorem mkC {x : Str} {st : Stmt} {N ps : List Str} {k : Nat} {sp : Sp} (D : DefT K mg x st ps) (S : FnScope N ps (defScope st)) (len : ∀ vs H Q E, sp vs H Q E → vs.length = ps.length)
    (hbody : ∀ (cdv : Value) (A : Around) (outer : List Env) (s : Shared) (H : Hp) (vs : List V) (Q : VK) (E : XK), Room k (A.deeper (envOfC x (defScope st) s.heap.objs.size (He.ga K x) cdv)) → sp vs H Q E →
      ∃ t, PSs (cxOf C8.CX0 P w K mg base N x (defScope st) (He.ga K x) cdv A outer s H E).nox (defBody st) t ∧ t { nx := fun _ H' => Q .non H', rt := Q } (start N vs) H) : C8.Cal P w K mg base (k + 1) x sp [] := by
  obtain ⟨fd, F, b⟩ := D.ex
  refine ⟨_, fd, ps, [], F.ok S len (fun cdv A outer s H vs Q E hr h => ?_), D.g, F.kp, b, .nil⟩
  obtain ⟨t, h1, h2⟩ := hbody cdv A outer s H vs Q E hr h
  exact ⟨t, h1.nox, h2⟩
theorem mkM {C : Addr} {m qual : Str} {st : Stmt} {N ps : List Str} {k : Nat} {sp : Sp} (D : MetT K C m qual st ps) (c : Cls K C) (me : Meth K C m (He.ma K C m)) (S : FnScope N ps (defScope st)) (len : ∀ vs H Q E, sp vs H Q E → vs.length = ps.length)
    (hbody : ∀ (cdv : Value) (A : Around) (outer : List Env) (s : Shared) (H : Hp) (vs : List V) (Q : VK) (E : XK), Room k (A.deeper (envOfC qual (defScope st) s.heap.objs.size (He.ma K C m) cdv)) → sp vs H Q E →
      ∃ t, PSs (cxOf C8.CX0 P w K mg base N qual (defScope st) (He.ma K C m) cdv A outer s H E).nox (defBody st) t ∧ t { nx := fun _ H' => Q .non H', rt := Q } (start N vs) H) : C8.Met P w K mg base (k + 1) C m sp [] := by
  obtain ⟨fd, F, b⟩ := D.ex
  refine ⟨_, fd, ps, [], c, me, F.ok S len (fun cdv A outer s H vs Q E hr h => ?_), b, .nil⟩
  obtain ⟨t, h1, h2⟩ := hbody cdv A outer s H vs Q E hr h
  exact ⟨t, h1.nox, h2⟩
theorem mkI {C : Addr} {x qual : Str} {st : Stmt} {N ps : List Str} {k : Nat} {sp : Sp} (D : MetT K C "__init__" qual st ps) (M : Mk K C (He.ma K C "__init__")) (g : mg x = some (.ref C)) (S : FnScope N ps (defScope st)) (len : ∀ vs H Q E, sp vs H Q E → vs.length = ps.length)
    (hbody : ∀ (cdv : Value) (A : Around) (outer : List Env) (s : Shared) (H : Hp) (vs : List V) (Q : VK) (E : XK), Room k (A.deeper (envOfC qual (defScope st) s.heap.objs.size (He.ma K C "__init__") cdv)) → sp vs H Q E →
      ∃ t, PSs (cxOf C8.CX0 P w K mg base N qual (defScope st) (He.ma K C "__init__") cdv A outer s H E).nox (defBody st) t ∧ t { nx := fun _ H' => Q .non H', rt := Q } (start N vs) H) : C8.Mak P w K mg base (k + 1) x C sp [] := by
  obtain ⟨fd, F, b⟩ := D.ex
  refine ⟨_, fd, ps, [], M, F.ok S len (fun cdv A outer s H vs Q E hr h => ?_), g, b, .nil⟩
  obtain ⟨t, h1, h2⟩ := hbody cdv A outer s H vs Q E hr h
  exact ⟨t, h1.nox, h2⟩
/-- a def that may raise -/
structure CalX (P : Program) (w : World) (K : PySem.W.Frag) (mg : Str → Option Value) (base : Heap) (k : Nat) (x : Str) (sp : Sp) : Prop where
  ex : ∃ (f : Addr) (fd : FuncData) (ps : List Str), FnOk P w K mg base (L2.CX P w) k f fd ps sp ∧ mg x = some (.ref f) ∧ PySem.W.keepIn K (.ref f) = true ∧ Binds K fd ps []
theorem mkX {x : Str} {st : Stmt} {N ps : List Str} {k : Nat} {sp : Sp} (D : DefT K mg x st ps) (S : FnScope N ps (defScope st)) (len : ∀ vs H Q E, sp vs H Q E → vs.length = ps.length)
    (hbody : ∀ (cdv : Value) (A : Around) (outer : List Env) (s : Shared) (H : Hp) (vs : List V) (Q : VK) (E : XK), Room k (A.deeper (envOfC x (defScope st) s.heap.objs.size (He.ga K x) cdv)) → sp vs H Q E →
      ∃ t, PSs (cxOf (L2.CX P w) P w K mg base N x (defScope st) (He.ga K x) cdv A outer s H E) (defBody st) t ∧ t { nx := fun _ H' => Q .non H', rt := Q } (start N vs) H) : CalX P w K mg base (k + 1) x sp := by
  obtain ⟨fd, F, b⟩ := D.ex
  exact ⟨_, fd, ps, F.ok S len hbody, D.g, F.kp, b⟩
end
section
variable {X : Cx} {k j : Nat} {C : Addr} {x m : Str} {sp : Sp} {dvs : List V} {p pos apos : Pos} {e o : Expr} {es : List Expr} {ta : TE} {t : TA}
theorem hu65 {A : Around} {k : Nat} (hr : Room k A) : A.units + 65 < cLine := by have := hr.un; omega
/-- a def without arguments -/
theorem pe_c0 (c : C8.Cal X.prog X.w X.K X.mg X.base k x sp []) (hr : Room j X.A) (hk : k ≤ j) (hg : Gl X x) (hdb : (x == ("__debug__" : Str)) = false := by decide) :
    PE X (.Call (.Name x p) [] [] pos) (tCall sp [] C8.E0 tNil) := by
  obtain ⟨f, fd, ps, ds, F, hm, kp, b, d⟩ := c.ex
  cases d
  exact pe_call0 F (hr.mono hk) hg hm kp b .nil C8.pass0 hdb
/-- a def that may raise, called where E takes what leaves it -/
theorem pe_cXE {E : XK} (c : CalX X.prog X.w X.K X.mg X.base k x sp) (hr : Room j X.A) (hk : k ≤ j) (hg : Gl X x) (hx : Passes (L2.CX X.prog X.w) X E) (ha : PA X (e :: es) t)
    (hdb : (x == ("__debug__" : Str)) = false := by decide) (he : starEach (e :: es) X.env = (false, eval e X.env) :: starEach es X.env := by rfl) (hpl : (backTo pos (starEach es X.env)).any (·.1) = false := by rfl) :
    PE X (.Call (.Name x p) (e :: es) [] pos) (tCall sp [] E t) := by
  obtain ⟨f, fd, ps, F, hm, kp, b⟩ := c.ex
  exact pe_call F (hr.mono hk) hg hm kp b .nil hx ha hdb he hpl
/-- .. where nothing leaves it -/
theorem pe_cX (c : CalX X.prog X.w X.K X.mg X.base k x sp) (hr : Room j X.A) (hk : k ≤ j) (hg : Gl X x) (ha : PA X (e :: es) t)
    (hdb : (x == ("__debug__" : Str)) = false := by decide) (he : starEach (e :: es) X.env = (false, eval e X.env) :: starEach es X.env := by rfl) (hpl : (backTo pos (starEach es X.env)).any (·.1) = false := by rfl) :
    PE X (.Call (.Name x p) (e :: es) [] pos) (tCall sp [] L2.E0 t) := pe_cXE c hr hk hg passL ha hdb he hpl
end
/-! ### further rules -/
section
variable {X : Cx}
/-- x not in t, t a tuple of data of any depth -/
def rNotInDT (K : PySem.W.Frag) : R2 := fun x y H Q => ∃ d ds, Dp K H x d ∧ Dp K H y (.tuple ds) ∧ SeqAt.shaped d = true ∧ SeqAt.shaped (.tuple ds) = true ∧ Q (.bl (!ds.any fun z => PyData.eqv z d)) H
theorem op_notInDT (hu : X.A.units + 65 < cLine) : OpR X (compareOp .NotIn) (rNotInDT X.K) := by
  intro pins s σ H x y v u Q I rx ry h
  obtain ⟨d, ds, h1, h2, s1, s2, q⟩ := h
  obtain ⟨as1, e1⟩ := Dp.reads I d x v h1 rx
  obtain ⟨as2, e2⟩ := Dp.reads I (.tuple ds) y u h2 ry
  refine SeqAt.notIn_tuple_reads e2 e1 (SeqAt.canLay_of_shaped s2) (SeqAt.canLay_of_shaped s1) (room_in_shaped s1 hu) ?_
  exact ⟨.bl _, H, I, rfl, q⟩
end
end KP

set_option Elab.async false
set_option linter.all false
set_option maxRecDepth 100000
set_option maxHeartbeats 4000000
namespace KP
open PySem PySem.Spec PyProof.Rows L2 KM
/-! ### what is told of points and polygons -/
def Sm (c : Pt) : Prop := (-(2 ^ 63) < c.1 ∧ c.1 < 2 ^ 63) ∧ (-(2 ^ 63) < c.2 ∧ c.2 < 2 ^ 63)
def Bd (cs : List Pt) : Prop := ∀ c ∈ cs, (-60 ≤ c.1 ∧ c.1 ≤ 60) ∧ (-60 ≤ c.2 ∧ c.2 ≤ 60)
def lexLe (a b : Pt) : Prop := a.1 < b.1 ∨ (a.1 = b.1 ∧ a.2 ≤ b.2)
structure GoodPoly (cs : List Pt) : Prop where
  conv : Conv cs
  bd : Bd cs
  len : cs.length ≤ 6
  least : ∀ c ∈ cs, lexLe (vt cs 0) c
/-- a point in form -/
structure GoodP (x y d : Int) : Prop where
  pos : 1 ≤ d
  top : d ≤ 1000000
  one : Int.gcd (Int.gcd x y) d = 1
  x1 : -(10 ^ 40 * d) ≤ x
  x2 : x ≤ 10 ^ 40 * d
  y1 : -(10 ^ 40 * d) ≤ y
  y2 : y ≤ 10 ^ 40 * d
/-- the place before i in a list of n -/
def TanAt (cs : List Pt) (x y d : Int) (i : Nat) : Prop := sd cs (x, y) d (i + (cs.length - 1)) < 0 ∧ 0 < sd cs (x, y) d i
def BackAt (cs : List Pt) (x y d : Int) (i : Nat) : Prop := sd cs (x, y) d i < 0 ∧ 0 < sd cs (x, y) d (i + (cs.length - 1))
def Outs (cs : List Pt) (x y d : Int) : Prop := ∃ k, k < cs.length ∧ sd cs (x, y) d k < 0
/-- a polygon object of the class at C, its cycle the list cs -/
def PolyAt (K : PySem.W.Frag) (C : Addr) (H : Hp) (v : V) (cs : List Pt) : Prop := ∃ a dx l, v = .ref a ∧ H a = some (.ins C dx [(("cycle" : Str), V.ref l)]) ∧ PtL K H l cs
theorem PolyAt.mono {K : PySem.W.Frag} {C : Addr} {H H' : Hp} {v : V} {cs : List Pt} (e : Same H H') (h : PolyAt K C H v cs) : PolyAt K C H' v cs := by
  obtain ⟨a, dx, l, h1, h2, h3⟩ := h; exact ⟨a, dx, l, h1, e _ _ h2, PtL.mono e h3⟩
/-! ### the program's promises -/
def spIsInt : Sp := fun vs H Q _ => ∃ i : Int, vs = [.int i] ∧ Q (.bl true) H
def spIsIntIn : Sp := fun vs H Q _ => ∃ v lo hi : Int, vs = [.int v, .int lo, .int hi] ∧ lo ≤ v ∧ v ≤ hi ∧ Q (.bl true) H
def spGcd : Sp := fun vs H Q _ => ∃ a b : Int, vs = [.int a, .int b] ∧ Q (.int (Int.gcd a b)) H
section
variable (K : PySem.W.Frag)
def spCross : Sp := fun vs H Q _ => ∃ (v1 v2 : V) (a b : Pt), vs = [v1, v2] ∧ IsPt K H v1 a ∧ IsPt K H v2 b ∧ Sm a ∧ Q (.int (cr a b)) H
def spDifference : Sp := fun vs H Q _ => ∃ (v1 v2 : V) (a b : Pt), vs = [v1, v2] ∧ IsPt K H v1 a ∧ IsPt K H v2 b ∧ ∀ v H', Same H H' → IsPt K H' v (df a b) → Q v H'
def spShapeP : Sp := fun vs H Q _ => ∃ (v : V) (x y d : Int), vs = [v] ∧ TI K H v [x, y, d] ∧ 1 ≤ d ∧ Int.gcd (Int.gcd x y) d = 1 ∧ ∀ H', Same H H' → Q (.bl true) H'
def spIsPoint : Sp := fun vs H Q _ => ∃ (v : V) (x y d : Int), vs = [v] ∧ TI K H v [x, y, d] ∧ GoodP x y d ∧ ∀ H', Same H H' → Q (.bl true) H'
def spReqPoint : Sp := fun vs H Q _ => ∃ (v : V) (x y d : Int), vs = [v] ∧ TI K H v [x, y, d] ∧ GoodP x y d ∧ ∀ H', Same H H' → Q .non H'
def spReflected : Sp := fun vs H Q _ => ∃ (v c : V) (x y d : Int) (z : Pt), vs = [v, c] ∧ TI K H v [x, y, d] ∧ IsPt K H c z ∧ ((-60 ≤ z.1 ∧ z.1 ≤ 60) ∧ (-60 ≤ z.2 ∧ z.2 ≤ 60)) ∧ ∀ p H', Same H H' → Q (.ref p) H'
variable (C : Addr)
def spLen : Sp := fun vs H Q _ => ∃ (s : V) (cs : List Pt), vs = [s] ∧ PolyAt K C H s cs ∧ Q (.int (cs.length : Nat)) H
def spVertex : Sp := fun vs H Q _ => ∃ (s : V) (k : Nat) (cs : List Pt), vs = [s, .int (k : Nat)] ∧ PolyAt K C H s cs ∧ cs ≠ [] ∧ ∀ v, IsPt K H v (vt cs k) → Q v H
def spEdge : Sp := fun vs H Q _ => ∃ (s : V) (k : Nat) (cs : List Pt), vs = [s, .int (k : Nat)] ∧ PolyAt K C H s cs ∧ cs ≠ [] ∧ ∀ v H', Same H H' → IsPt K H' v (ed cs k) → Q v H'
def spEdgeSide : Sp := fun vs H Q _ => ∃ (s v : V) (k : Nat) (cs : List Pt) (x y d : Int), vs = [s, .int (k : Nat), v] ∧ PolyAt K C H s cs ∧ cs ≠ [] ∧ Bd cs ∧ TI K H v [x, y, d] ∧ ∀ H', Same H H' → Q (.int (sd cs (x, y) d k)) H'
def sdL (cs : List Pt) (x y d : Int) : List Int := (List.range cs.length).map fun k => sd cs (x, y) d k
def spEdgeSides : Sp := fun vs H Q _ => ∃ (s v : V) (cs : List Pt) (x y d : Int), vs = [s, v] ∧ PolyAt K C H s cs ∧ cs ≠ [] ∧ cs.length ≤ 6 ∧ Bd cs ∧ TI K H v [x, y, d] ∧ ∀ p H', Same H H' → H' p = some (.lst ((sdL cs x y d).map V.int)) → Q (.ref p) H'
def spLiesOut : Sp := fun vs H Q _ => ∃ (s v : V) (cs : List Pt) (x y d : Int), vs = [s, v] ∧ PolyAt K C H s cs ∧ cs.length ≤ 6 ∧ Bd cs ∧ TI K H v [x, y, d] ∧ Outs cs x y d ∧ ∀ H', Same H H' → Q (.bl true) H'
def spReqOut : Sp := fun vs H Q _ => ∃ (s v : V) (cs : List Pt) (x y d : Int), vs = [s, v] ∧ PolyAt K C H s cs ∧ cs.length ≤ 6 ∧ Bd cs ∧ TI K H v [x, y, d] ∧ GoodP x y d ∧ Outs cs x y d ∧ ∀ H', Same H H' → Q .non H'
def spTan (R : List Pt → Int → Int → Int → Nat → Prop) : Sp := fun vs H Q _ => ∃ (s v : V) (cs : List Pt) (x y d : Int), vs = [s, v] ∧ PolyAt K C H s cs ∧ cs ≠ [] ∧ cs.length ≤ 6 ∧ Bd cs ∧ TI K H v [x, y, d] ∧
  (∀ H', Same H H' → (∀ i, i < cs.length → ¬ R cs x y d i) → Q .non H') ∧ ∀ H' (i : Nat), Same H H' → i < cs.length → R cs x y d i → Q (.int (i : Nat)) H'
def spImage (R : List Pt → Int → Int → Int → Nat → Prop) : Sp := fun vs H Q _ => ∃ (s v : V) (cs : List Pt) (x y d : Int), vs = [s, v] ∧ PolyAt K C H s cs ∧ cs ≠ [] ∧ cs.length ≤ 6 ∧ Bd cs ∧ TI K H v [x, y, d] ∧
  (∀ H', Same H H' → (∀ i, i < cs.length → ¬ R cs x y d i) → Q .non H') ∧ ∀ H' p (i : Nat), Same H H' → i < cs.length → R cs x y d i → Q (.ref p) H'
variable (CU : Addr)
/-- Undefined(0) leaves -/
def UndE (H : Hp) (E : XK) : Prop := ∀ (d : Addr) (H' : Hp), Same H H' → H' d = some (.xd [(("steps" : Str), .int 0)]) → E (.ref CU) (some d) H'
def spReqDef : Sp := fun vs H Q E => ∃ r : V, vs = [r] ∧ (r = .non → UndE CU H E) ∧ (r ≠ .non → Q r H)
def spReflect (R : List Pt → Int → Int → Int → Nat → Prop) : Sp := fun vs H Q E => ∃ (s v : V) (cs : List Pt) (x y d : Int), vs = [s, v] ∧ PolyAt K C H s cs ∧ cs.length ≤ 6 ∧ Bd cs ∧ TI K H v [x, y, d] ∧ GoodP x y d ∧ Outs cs x y d ∧
  ((∀ i, i < cs.length → ¬ R cs x y d i) → UndE CU H E) ∧ ∀ H' v (i : Nat), Same H H' → i < cs.length → R cs x y d i → Q v H'
def spTangent : Sp := fun vs H Q E => ∃ (s v : V) (cs : List Pt) (x y d : Int), vs = [s, v] ∧ PolyAt K C H s cs ∧ cs.length ≤ 6 ∧ Bd cs ∧ TI K H v [x, y, d] ∧ GoodP x y d ∧ Outs cs x y d ∧
  ((∀ i, i < cs.length → ¬ TanAt cs x y d i) → UndE CU H E) ∧ ∀ H' (i : Nat), Same H H' → i < cs.length → TanAt cs x y d i → Q (.int (i : Nat)) H'
def spIsVertex : Sp := fun vs H Q _ => ∃ (v : V) (z : Pt), vs = [v] ∧ IsPt K H v z ∧ ((-60 ≤ z.1 ∧ z.1 ≤ 60) ∧ (-60 ≤ z.2 ∧ z.2 ≤ 60)) ∧ ∀ H', Same H H' → Q (.bl true) H'
def spIsConvex : Sp := fun vs H Q _ => ∃ (a : Addr) (cs : List Pt), vs = [.ref a] ∧ PtL K H a cs ∧ Conv cs ∧ Bd cs ∧ cs.length ≤ 6 ∧ ∀ H', Same H H' → Q (.bl true) H'
def spReqVerts : Sp := fun vs H Q _ => ∃ (a : Addr) (cs : List Pt), vs = [.ref a] ∧ PtL K H a cs ∧ Conv cs ∧ Bd cs ∧ cs.length ≤ 6 ∧ ∀ H', Same H H' → Q .non H'
def spInit : Sp := fun vs H Q _ => ∃ (p dx a : Addr) (cs : List Pt), vs = [.ref p, .ref a] ∧ H p = some (.ins C dx []) ∧ PtL K H a cs ∧ GoodPoly cs ∧
  ∀ H', (∀ b o, b ≠ p → H b = some o → H' b = some o) → PolyAt K C H' (.ref p) cs → Q .non H'
/-! ### the law's promises -/
/-- the heap without the pen -/
def wo (d : Addr) (H : Hp) : Hp := fun b => if b = d then none else H b
theorem wo_at {d : Addr} {H : Hp} : wo d H d = none := if_pos rfl
theorem wo_ne {d b : Addr} {H : Hp} (h : b ≠ d) : wo d H b = H b := if_neg h
theorem wo_le {d : Addr} {H : Hp} : Same (wo d H) H := fun b o e => by
  by_cases h : b = d
  · rw [h, wo_at] at e; cases e
  · rw [wo_ne h] at e; exact e
theorem wo_up {d : Addr} {H H' : Hp} (e : Same (wo d H) H') : Same (wo d H) (wo d H') := fun b o z => by
  by_cases h : b = d
  · rw [h, wo_at] at z; cases z
  · rw [wo_ne h]; exact e b o z
theorem same_wo {d : Addr} {G H : Hp} (e : Same G H) (h : G d = none) : Same G (wo d H) := fun b o z => by
  by_cases c : b = d
  · rw [c, h] at z; cases z
  · rw [wo_ne c]; exact e b o z
def penO (c : Addr) (t l : Int) : HO := .dK [(Sum.inr ("cells" : Str), .ref c), (Sum.inr ("turn" : Str), .int t), (Sum.inr ("left" : Str), .int l)]
def Pen (H : Hp) (d : Addr) (t : Int) : Prop := ∃ (c : Addr) (l : Int) (ns : List Int), H d = some (penO c t l) ∧ H c = some (.lst (ns.map V.int)) ∧ ns.length ≤ 63 ∧ 0 ≤ l ∧ 0 ≤ t
theorem Pen.new {H : Hp} {d p : Addr} {t : Int} {o : HO} (h : Pen H d t) (hp : H p = none) : Pen (upd H p o) d t := by
  obtain ⟨c, l, ns, h1, h2, h3⟩ := h
  exact ⟨c, l, ns, Same.new hp _ _ h1, Same.new hp _ _ h2, h3⟩
theorem Pen.mono {H H' : Hp} {d : Addr} {t : Int} (e : Same H H') (h : Pen H d t) : Pen H' d t := by
  obtain ⟨c, l, ns, h1, h2, h3⟩ := h
  exact ⟨c, l, ns, e _ _ h1, e _ _ h2, h3⟩
def spPen : Sp := fun vs H Q _ => ∃ (a : Addr) (ns : List Int), vs = [.ref a] ∧ SqL K H a (ns.map V.int) ∧ ns.length ≤ 63 ∧ ∀ d H', H d = none → Same H H' → Pen H' d 0 → Q (.ref d) H'
/-- the pen's cells lie at c -/
def Cells (H : Hp) (d c : Addr) : Prop := ∃ t l, H d = some (penO c t l)
theorem Cells.mono {H H' : Hp} {d c : Addr} (e : Same H H') (h : Cells H d c) : Cells H' d c := by
  obtain ⟨t, l, h⟩ := h
  exact ⟨t, l, e _ _ h⟩
theorem Cells.eq {H : Hp} {d c c' : Addr} {t l : Int} (h : Cells H d c) (h' : H d = some (penO c' t l)) : c = c' := by
  obtain ⟨t1, l1, h1⟩ := h
  rw [h'] at h1
  unfold penO at h1
  cases h1
  rfl
theorem Cells.upd {H : Hp} {d c D : Addr} {o : HO} (h : Cells H d c) (h1 : D ≠ d) : Cells (upd H D o) d c := by
  obtain ⟨t, l, h⟩ := h
  exact ⟨t, l, by rw [upd_ne (Ne.symm h1)]; exact h⟩
theorem pen_upd {H : Hp} {d c D : Addr} {o : HO} {t : Int} (h : Pen H d t) (hc : Cells H d c) (h1 : D ≠ d) (h2 : D ≠ c) : Pen (upd H D o) d t := by
  obtain ⟨c', l, ns, z1, z2, z3⟩ := h
  have e := hc.eq z1
  subst e
  exact ⟨c, l, ns, by rw [upd_ne (Ne.symm h1)]; exact z1, by rw [upd_ne (Ne.symm h2)]; exact z2, z3⟩
def spDraw : Sp := fun vs H Q _ => ∃ (d : Addr) (m t : Int), vs = [.ref d, .int m] ∧ 0 < m ∧ m < 1073741824 ∧ Pen H d t ∧ t ≤ 1000000 ∧ ∀ (r t' : Int) H', 0 ≤ r → r < m → Same (wo d H) H' → Pen H' d t' → t' ≤ t + 1 → (∀ c, Cells H d c → Cells H' d c) → Q (.int r) H'
def spPick : Sp := fun vs H Q _ => ∃ (d a : Addr) (t : Int) (xs : List V), vs = [.ref d, .ref a] ∧ SqL K (wo d H) a xs ∧ xs ≠ [] ∧ xs.length ≤ 100 ∧ Pen H d t ∧ t ≤ 1000000 ∧
  ∀ (i : Nat) (v : V) (t' : Int) H', xs[i]? = some v → Same (wo d H) H' → Pen H' d t' → t' ≤ t + 1 → Q v H'
def spGreat : Sp := fun vs H Q _ => ∃ (d : Addr) (f : Nat) (t : Int), vs = [.ref d, .int (f : Nat)] ∧ f ≤ 20 ∧ Pen H d t ∧ t ≤ 900000 ∧ ∀ (r t' : Int) H', 0 ≤ r → r < 10 ^ f → Same (wo d H) H' → Pen H' d t' → t' ≤ t + f → Q (.int r) H'
def spForm : Sp := fun vs H Q _ => ∃ x y d : Int, vs = [.int x, .int y, .int d] ∧ 0 < d ∧ d < 2 ^ 60 ∧ ∀ (v : V) H' (g x' y' d' : Int), Same H H' → 0 < g → x = g * x' → y = g * y' → d = g * d' → Int.gcd (Int.gcd x' y') d' = 1 → TI K H' v [x', y', d'] → Q v H'
def spLConvex : Sp := fun vs H Q _ => ∃ (a : Addr) (cs : List Pt), vs = [.ref a] ∧ PtL K H a cs ∧ Bd cs ∧ cs.length ≤ 100 ∧ 3 ≤ cs.length ∧ ∀ (b : Bool) H', Same H H' → (b = true → Conv cs) → Q (.bl b) H'
def spLeast : Sp := fun vs H Q _ => ∃ (a : Addr) (cs : List Pt), vs = [.ref a] ∧ PtL K H a cs ∧ cs ≠ [] ∧ cs.length ≤ 100 ∧
  ∀ (p : Addr) H' (j : Nat), Same H H' → H p = none → j < cs.length → (∀ c ∈ cs, lexLe (vt cs j) c) → PtL K H' p (cs.drop j ++ cs.take j) → Q (.ref p) H'
/-- the directions -/
structure DirsOk (cs ws : List Pt) : Prop where
  ne : ws ≠ []
  len : ws.length ≤ cs.length
  up : ∀ e ∈ ws, 0 < e.2 ∨ (e.2 = 0 ∧ 0 < e.1)
  bd : ∀ e ∈ ws, (-120 ≤ e.1 ∧ e.1 ≤ 120) ∧ (-120 ≤ e.2 ∧ e.2 ≤ 120)
  srt : ws.Pairwise fun a b => 0 ≤ cr a b
  all : ∀ i, i < cs.length → ∃ e ∈ ws, cr (ed cs i) e = 0
/-- a list of points that may be joined -/
def PtM (K : PySem.W.Frag) (H : Hp) (a : Addr) (cs : List Pt) : Prop := ∃ vs, H a = some (.lst vs) ∧ PtV K H vs cs
theorem PtM.l {K : PySem.W.Frag} {H : Hp} {a : Addr} {cs : List Pt} (h : PtM K H a cs) : PtL K H a cs := by
  obtain ⟨vs, h1, h2⟩ := h
  exact ⟨vs, lst_of h1, h2⟩
theorem PtM.mono {K : PySem.W.Frag} {H H' : Hp} {a : Addr} {cs : List Pt} (e : Same H H') (h : PtM K H a cs) : PtM K H' a cs := by
  obtain ⟨vs, h1, h2⟩ := h
  exact ⟨vs, e _ _ h1, PtV.mono e h2⟩
def spDirs : Sp := fun vs H Q _ => ∃ (a : Addr) (cs : List Pt), vs = [.ref a] ∧ PtL K H a cs ∧ Conv cs ∧ Bd cs ∧ cs.length ≤ 6 ∧ ∀ (p : Addr) H' ws, Same H H' → PtM K H' p ws → DirsOk cs ws → Q (.ref p) H'
def add (a b : Pt) : Pt := (a.1 + b.1, a.2 + b.2)
def B240 (e : Pt) : Prop := (-240 ≤ e.1 ∧ e.1 ≤ 240) ∧ (-240 ≤ e.2 ∧ e.2 ≤ 240)
structure FarOk (cs : List Pt) (u : Pt) (n f : Nat) : Prop where
  n1 : n < cs.length
  f1 : f < cs.length
  n2 : ∀ c ∈ cs, cr u c ≤ cr u (vt cs n)
  f2 : ∀ c ∈ cs, cr u (vt cs f) ≤ cr u c
def sh (cs : List Pt) (n f : Nat) : Pt := (2 * ((vt cs f).1 - (vt cs n).1), 2 * ((vt cs f).2 - (vt cs n).2))
def spFarShift : Sp := fun vs H Q _ => ∃ (a : Addr) (v1 v2 : V) (cs : List Pt) (e1 e2 : Pt), vs = [.ref a, v1, v2] ∧ PtL K H a cs ∧ cs ≠ [] ∧ cs.length ≤ 6 ∧ IsPt K H v1 e1 ∧ IsPt K H v2 e2 ∧ B240 e1 ∧ B240 e2 ∧
  ∀ (p : Addr) H' (s : V) (n f : Nat), Same H H' → FarOk cs (add e1 e2) n f → SqT K H' p [.int (n : Nat), .int (f : Nat), s] → IsPt K H' s (sh cs n f) → Q (.ref p) H'
/-- a row of eight -/
def Row8 (K : PySem.W.Frag) (H : Hp) (v : V) : Prop := ∃ (p : Addr) (x1 x2 x3 x4 x5 : V) (a b c : Int), v = .ref p ∧ SqT K H p [x1, x2, x3, x4, x5, .int a, .int b, .int c] ∧ (0 < a ∧ a < 1000000) ∧ (0 < b ∧ b < 1000000)
def spFarRows : Sp := fun vs H Q _ => ∃ (a : Addr) (cs : List Pt), vs = [.ref a] ∧ PtL K H a cs ∧ Conv cs ∧ Bd cs ∧ cs.length ≤ 6 ∧ ∀ (p : Addr) H' xs, Same H H' → SqL K H' p xs → (∀ x ∈ xs, Row8 K H' x) → xs.length ≤ 6 → Q (.ref p) H'
def spModulus : Sp := fun vs H Q _ => ∃ (a : Addr) (cs : List Pt), vs = [.ref a] ∧ PtL K H a cs ∧ Conv cs ∧ Bd cs ∧ cs.length ≤ 6 ∧ ∀ (m : Int) H', Same H H' → Q (.int m) H'
/-- an affine map -/
structure Tab (a b c d p q : Int) : Prop where
  det : a * d - b * c = 1 ∨ a * d - b * c = -1
  ba : -1000 ≤ a ∧ a ≤ 1000
  bb : -1000 ≤ b ∧ b ≤ 1000
  bc : -1000 ≤ c ∧ c ≤ 1000
  bd : -1000 ≤ d ∧ d ≤ 1000
  bp : -1000 ≤ p ∧ p ≤ 1000
  bq : -1000 ≤ q ∧ q ≤ 1000
def mapc (a b c d p q : Int) (z : Pt) : Pt := (a * z.1 + b * z.2 + p, c * z.1 + d * z.2 + q)
def spMapC : Sp := fun vs H Q _ => ∃ (v z : V) (a b c d p q : Int) (x : Pt), vs = [v, z] ∧ TI K H v [a, b, c, d, p, q] ∧ IsPt K H z x ∧ ((-1000 ≤ a ∧ a ≤ 1000) ∧ (-1000 ≤ b ∧ b ≤ 1000) ∧ (-1000 ≤ c ∧ c ≤ 1000) ∧ (-1000 ≤ d ∧ d ≤ 1000)) ∧
  ∀ v' H', Same H H' → IsPt K H' v' (mapc a b c d p q x) → Q v' H'
def spMapped : Sp := fun vs H Q _ => ∃ (v : V) (l : Addr) (a b c d p q : Int) (cs : List Pt), vs = [v, .ref l] ∧ TI K H v [a, b, c, d, p, q] ∧ Tab a b c d p q ∧ PtL K H l cs ∧ Conv cs ∧ cs.length ≤ 6 ∧
  ∀ r H' cs', Same H H' → H r = none → PtL K H' r cs' → Conv cs' → cs'.length = cs.length → (∀ c ∈ cs', lexLe (vt cs' 0) c) → Q (.ref r) H'
def spTable : Sp := fun vs H Q _ => ∃ (e : Addr) (t : Int), vs = [.ref e, .int 20] ∧ Pen H e t ∧ t ≤ 900000 ∧ ∀ (v : V) H' (t' a b c d p q : Int), Same (wo e H) H' → Pen H' e t' → t' ≤ t + 6 → Tab a b c d p q → TI K (wo e H') v [a, b, c, d, p, q] → Q v H'
def shapes : List (List Pt) := [[(0, 0), (1, 0), (0, 1)], [(0, 0), (1, 0), (1, 1), (0, 1)], [(0, 0), (2, 0), (1, 1), (0, 1)],
  [(0, 0), (1, 0), (2, 1), (2, 2), (1, 2), (0, 1)], [(0, 0), (2, 0), (2, 1), (1, 2), (0, 2)], [(0, 0), (2, 0), (2, 1), (0, 1)], [(0, 0), (1, 0), (2, 1), (1, 1)],
  [(0, 0), (1, 0), (1, 1), (0, 2)], [(0, 0), (3, 0), (0, 1)], [(0, 0), (3, 0), (1, 2), (0, 2)], [(0, 1), (1, 0), (2, 1), (1, 2)],
  [(0, 0), (2, 1), (1, 2)], [(0, 0), (1, 0), (1, 1), (0, 1)], [(0, 0), (2, 0), (1, 2)], [(0, 1), (1, 0), (2, 2), (1, 2)], [(1, 0), (2, 0), (3, 2), (2, 4), (1, 4)], [(0, 0), (1, 0), (3, 1), (3, 2), (2, 3), (1, 2)]]
/-- a list of lists of points -/
def LLs (K : PySem.W.Frag) (H : Hp) (a : Addr) (css : List (List Pt)) : Prop := ∃ vs, SqL K H a vs ∧ Paired (fun v cs => ∃ l, v = .ref l ∧ PtL K H l cs) vs css
theorem LLs.mono {K : PySem.W.Frag} {H H' : Hp} {a : Addr} {css : List (List Pt)} (e : Same H H') (h : LLs K H a css) : LLs K H' a css := by
  obtain ⟨vs, q, r⟩ := h
  exact ⟨vs, sqL e q, Paired.mapP r fun _ _ ⟨l, h1, h2⟩ => ⟨l, h1, PtL.mono e h2⟩⟩
def spShapes : Sp := fun vs H Q _ => vs = [] ∧ ∀ (p : Addr) H', Same H H' → LLs K H' p shapes → Q (.ref p) H'
def spShape : Sp := fun vs H Q _ => ∃ (e : Addr) (t : Int), vs = [.ref e] ∧ Pen H e t ∧ t ≤ 800000 ∧ ∀ (p : Addr) H' (t' : Int) cs, Same (wo e H) H' → Pen H' e t' → t' ≤ t + 9 → PtL K (wo e H') p cs → GoodPoly cs → Q (.ref p) H'
def spRound : Sp := fun vs H Q _ => ∃ (v : V) (a : Addr) (m : Pt) (cs : List Pt), vs = [v, .ref a] ∧ IsPt K H v m ∧ PtL K H a cs ∧ Bd (m :: cs) ∧ cs.length ≤ 10 ∧ ∀ (p : Addr) H' cs', Same H H' → PtM K H' p cs' → cs'.length = cs.length → (∀ c ∈ cs', c ∈ cs) → Q (.ref p) H'
def spAny : Sp := fun vs H Q _ => ∃ (e : Addr) (t : Int), vs = [.ref e] ∧ Pen H e t ∧ t ≤ 700000 ∧ ∀ (p : Addr) H' (t' : Int) cs, Same (wo e H) H' → Pen H' e t' → t' ≤ t + 200 → PtL K (wo e H') p cs → GoodPoly cs → Q (.ref p) H'
/-- before an edge's start, beyond an edge's end -/
def Before (cs : List Pt) (x y d : Int) : Prop := ∃ k, k < cs.length ∧ sd cs (x, y) d k = 0 ∧ al cs (x, y) d k < 0
def Beyond (cs : List Pt) (x y d : Int) : Prop := ∃ k, k < cs.length ∧ sd cs (x, y) d k = 0 ∧ d * nn (ed cs k) < al cs (x, y) d k
def spRays : Sp := fun vs H Q _ => ∃ (v : V) (a : Addr) (cs : List Pt) (x y d : Int), vs = [.ref a, v] ∧ PtL K H a cs ∧ cs ≠ [] ∧ Bd cs ∧ cs.length ≤ 6 ∧ TI K H v [x, y, d] ∧ (0 < d ∧ d < 2 ^ 60) ∧
  ∀ (p : Addr) H' (b1 b2 : Bool), Same H H' → (b1 = true ↔ Before cs x y d) → (b2 = true ↔ Beyond cs x y d) → SqT K H' p [.bl b1, .bl b2] → Q (.ref p) H'
def spBeside : Sp := fun vs H Q _ => ∃ (v : V) (z : Pt) (x y d s : Int), vs = [.int x, .int y, .int d, v, .int s] ∧ IsPt K H v z ∧ ((-120 ≤ z.1 ∧ z.1 ≤ 120) ∧ (-120 ≤ z.2 ∧ z.2 ≤ 120)) ∧ (0 < d ∧ d ≤ 9) ∧ (-1 ≤ s ∧ s ≤ 1) ∧
  ∀ (v' : V) H' (g x' y' d' : Int), Same H H' → 0 < g → x * 50000 - s * z.2 = g * x' → y * 50000 + s * z.1 = g * y' → d * 50000 = g * d' → Int.gcd (Int.gcd x' y') d' = 1 → TI K H' v' [x', y', d'] → Q v' H'
def spSide (T : List (Addr × Str)) : Sp := fun vs H Q _ => ∃ (s : V) (a : Addr) (k : Nat) (d t : Int) (cs : List Pt), vs = [s, .ref a, .int (k : Nat), .int d, .int t] ∧ PolyAt K C H s cs ∧ PtL K H a cs ∧ GoodPoly cs ∧ k < cs.length ∧ (1 ≤ d ∧ d ≤ 9) ∧ (1 ≤ t ∧ t ≤ 10 ^ 20) ∧
  LamX.Tabs T H ∧ ∀ H', LamX.ExtN H H' → LamX.Tabs T H' → Q (.bl true) H'
def spLaw (T : List (Addr × Str)) : Sp := fun vs H Q _ => ∃ (a : Addr) (ns : List Int), vs = [.ref a] ∧ SqL K H a (ns.map V.int) ∧ ns.length ≤ 63 ∧ LamX.Tabs T H ∧ ∀ H', Q (.bl true) H'
end
end KP

set_option Elab.async false
set_option linter.all false
set_option maxRecDepth 100000
set_option maxHeartbeats 4000000
namespace KP
open PySem PySem.Spec PyProof.Rows L2 KM
/-! ### points as data -/
def ptD (c : Pt) : PyData := .tuple [.int c.1, .int c.2]
theorem ptD_inj {a b : Pt} (h : ptD a = ptD b) : a = b := by
  unfold ptD at h
  injection h with h
  injection h with h1 h2
  injection h1 with h1
  injection h2 with h2 _
  injection h2 with h2
  exact Prod.ext h1 h2
theorem ptD_eqv (a b : Pt) : PyData.eqv (ptD a) (ptD b) = decide (a = b) := by
  have e : PyData.eqv (ptD a) (ptD b) = ((a.1 == b.1) && ((a.2 == b.2) && true)) := by simp only [ptD, PyData.eqv, PyData.eqvAll]
  rw [e]
  by_cases h : a = b
  · subst h; simp
  · rw [decide_eq_false h]
    by_cases h1 : a.1 = b.1
    · have h2 : a.2 ≠ b.2 := fun z => h (Prod.ext h1 z)
      simp [h1, h2]
    · simp [h1]
theorem ptD_lay (c : Pt) : (ptD c).canLay0 = true := by simp [ptD, PyData.canLay0, PyData.canLayAll0]
theorem ptD_depth (c : Pt) : (ptD c).depth = 1 := by simp [ptD, PyData.depth, PyData.depthAll]
theorem ptDs_lay : ∀ cs : List Pt, PyData.canLayAll0 (cs.map ptD) = true
  | [] => by simp [PyData.canLayAll0]
  | c :: cs => by simp [PyData.canLayAll0, ptD_lay c, ptDs_lay cs]
theorem ptDs_depth : ∀ cs : List Pt, PyData.depthAll (cs.map ptD) ≤ 1
  | [] => by simp [PyData.depthAll]
  | c :: cs => by
    have h1 := ptDs_depth cs
    have h2 := ptD_depth c
    simp only [List.map_cons, PyData.depthAll]
    omega
theorem ptD_shaped (c : Pt) : SeqAt.shaped (ptD c) = true := by
  unfold SeqAt.shaped
  rw [ptD_lay, ptD_depth]; rfl
theorem ptDs_shaped (cs : List Pt) : SeqAt.shaped (.list (cs.map ptD)) = true := by
  have h1 := ptDs_depth cs
  unfold SeqAt.shaped
  rw [Bool.and_eq_true]
  refine ⟨by simp only [PyData.canLay0]; exact ptDs_lay cs, decide_eq_true ?_⟩
  simp only [PyData.depth]; omega
theorem ptDt_shaped (cs : List Pt) : SeqAt.shaped (.tuple (cs.map ptD)) = true := by
  have h1 := ptDs_depth cs
  unfold SeqAt.shaped
  rw [Bool.and_eq_true]
  refine ⟨by simp only [PyData.canLay0]; exact ptDs_lay cs, decide_eq_true ?_⟩
  simp only [PyData.depth]; omega
theorem dp_pt {K : PySem.W.Frag} {H : Hp} {v : V} {c : Pt} (h : IsPt K H v c) : Dp K H v (ptD c) := by
  obtain ⟨p, rfl, h⟩ := h
  exact .tup h (.cons (.int _) (.cons (.int _) .nil))
theorem dp_pts {K : PySem.W.Frag} {H : Hp} : ∀ {vs : List V} {cs : List Pt}, PtV K H vs cs → DpAll K H vs (cs.map ptD)
  | _, _, .nil => .nil
  | _, _, .cons h t => .cons (dp_pt h) (dp_pts t)
theorem dp_ptl {K : PySem.W.Frag} {H : Hp} {a : Addr} {cs : List Pt} (h : PtL K H a cs) : Dp K H (.ref a) (.list (cs.map ptD)) := by
  obtain ⟨vs, h1, h2⟩ := h
  exact .lst h1 (dp_pts h2)
theorem any_pt (cs : List Pt) (c : Pt) : ((cs.map ptD).any fun z => PyData.eqv z (ptD c)) = decide (c ∈ cs) := by
  induction cs with
  | nil => simp
  | cons d cs ih =>
    rw [List.map_cons, List.any_cons, ih, ptD_eqv]
    by_cases h : c = d
    · subst h; simp
    · have h' : ¬ d = c := fun z => h z.symm
      simp [h, h']
/-- the first least point -/
def minP (x : Pt) (xs : List Pt) : Pt := xs.foldl (fun a y => if y.1 < a.1 ∨ (y.1 = a.1 ∧ y.2 < a.2) then y else a) x
theorem lexLe_refl (a : Pt) : lexLe a a := Or.inr ⟨rfl, Int.le_refl _⟩
theorem lexLe_trans {a b c : Pt} (h1 : lexLe a b) (h2 : lexLe b c) : lexLe a c := by
  unfold lexLe at *; omega
theorem lexLe_total {a b : Pt} (h : ¬ (b.1 < a.1 ∨ (b.1 = a.1 ∧ b.2 < a.2))) : lexLe a b := by
  unfold lexLe; omega
theorem minP_le : ∀ (xs : List Pt) (x : Pt), lexLe (minP x xs) x ∧ ∀ c ∈ xs, lexLe (minP x xs) c
  | [], x => ⟨lexLe_refl x, fun _ h => by cases h⟩
  | y :: xs, x => by
    show lexLe (minP (if y.1 < x.1 ∨ (y.1 = x.1 ∧ y.2 < x.2) then y else x) xs) x ∧ ∀ c ∈ y :: xs, lexLe (minP (if y.1 < x.1 ∨ (y.1 = x.1 ∧ y.2 < x.2) then y else x) xs) c
    by_cases h : y.1 < x.1 ∨ (y.1 = x.1 ∧ y.2 < x.2)
    · rw [if_pos h]
      obtain ⟨h1, h2⟩ := minP_le xs y
      refine ⟨lexLe_trans h1 (by unfold lexLe; omega), fun c hc => ?_⟩
      rcases List.mem_cons.mp hc with e | hc
      · rw [e]; exact h1
      · exact h2 c hc
    · rw [if_neg h]
      obtain ⟨h1, h2⟩ := minP_le xs x
      refine ⟨h1, fun c hc => ?_⟩
      rcases List.mem_cons.mp hc with e | hc
      · rw [e]; exact lexLe_trans h1 (lexLe_total h)
      · exact h2 c hc
theorem minD_pt : ∀ (xs : List Pt) (x : Pt), PySem.W.minD (ptD x) (xs.map ptD) = ptD (minP x xs)
  | [], x => rfl
  | y :: xs, x => by
    show PySem.W.minD (if PySem.W.dataLt (ptD y) (ptD x) = true then ptD y else ptD x) (xs.map ptD) = ptD (minP (if y.1 < x.1 ∨ (y.1 = x.1 ∧ y.2 < x.2) then y else x) xs)
    have e : PySem.W.dataLt (ptD y) (ptD x) = decide (y.1 < x.1 ∨ (y.1 = x.1 ∧ y.2 < x.2)) := PySem.W.dataLt_ii _ _ _ _
    rw [e]
    by_cases h : y.1 < x.1 ∨ (y.1 = x.1 ∧ y.2 < x.2)
    · rw [if_pos h, if_pos (decide_eq_true h)]; exact minD_pt xs y
    · rw [if_neg h, if_neg (fun z => h (of_decide_eq_true z))]; exact minD_pt xs x
theorem alike_pt (cs : List Pt) : PySem.W.AlikeAll (cs.map ptD) := by
  refine ⟨fun x hx y hy => ?_, fun x hx => ?_⟩
  · obtain ⟨a, _, rfl⟩ := List.mem_map.mp hx
    obtain ⟨b, _, rfl⟩ := List.mem_map.mp hy
    simp [ptD, PySem.W.alike, PySem.W.alikeAll]
  · obtain ⟨a, _, rfl⟩ := List.mem_map.mp hx
    unfold ptD; intro z; cases z
section
variable {X : Cx}
/-- min of a list of points: one of them, none is less -/
def rMinP (K : PySem.W.Frag) : List V → Hp → VK → Prop := fun xs H Q => ∃ (a : Addr) (vs : List V) (cs : List Pt), xs = [.ref a] ∧ SqL K H a vs ∧ PtV K H vs cs ∧ cs ≠ [] ∧
  ∀ (i : Nat) (v : V) (m : Pt), vs[i]? = some v → cs[i]? = some m → (∀ c ∈ cs, lexLe m c) → Q v H
theorem cr_minD (hc : X.calm = true) (hu : X.A.units + 65 < cLine) : CallR X (.builtin "min") (rMinP X.K) := by
  intro pins s σ H xs us Q I r h
  obtain ⟨a, vs, cs, rfl, hs, hp, hne, q⟩ := h
  obtain ⟨its, rv, hl, _⟩ := I.list hs
  rw [Vals.ref1 r]
  obtain ⟨as, hr⟩ := Dp.readsAll I (cs.map ptD) vs its (dp_pts hp) rv
  cases cs with
  | nil => exact absurd rfl hne
  | cons c0 cs =>
    have hdep := ptDs_depth (c0 :: cs)
    rw [List.map_cons] at hdep
    have hal := alike_pt (c0 :: cs)
    rw [List.map_cons] at hal hr
    refine PySem.W.min_list_data (I.ok.hd hc) hl.isList (show ReadsAll s.heap its.toArray.toList (ptD c0 :: cs.map ptD) as from hr) hal (by omega) fun i v h' tk bs hv hrd hk => ?_
    have hv' : its[i]? = some v := by simpa using hv
    obtain ⟨y, hy, ry⟩ : ∃ y, vs[i]? = some y ∧ RelV y v := pair_get' (F := RelV) rv hv'
    obtain ⟨m, hm, hpm⟩ := pair_get hp hy
    have I' := I.kept (t' := tk) hk
    obtain ⟨bs', r'⟩ := Dp.reads I' (ptD m) y v (dp_pt hpm) ry
    have e1 := SeqAt.readOf_eq (ptD_lay m) r'
    rw [minD_pt] at hrd
    have e2 := SeqAt.readOf_eq (ptD_lay (minP c0 cs)) hrd
    have em : m = minP c0 cs := ptD_inj (e1.symm.trans e2)
    obtain ⟨l1, l2⟩ := minP_le cs c0
    refine ⟨y, H, I', ry, q i y m hy hm fun c hc => ?_⟩
    rw [em]
    rcases List.mem_cons.mp hc with e | hc
    · rw [e]; exact l1
    · exact l2 c hc
/-- len of an instance of one's own, by its __len__ -/
def rLenP (C : Addr) (sp : Sp) : List V → Hp → VK → Prop := fun xs H Q => ∃ (a dx : Addr) (fs : List (Str × V)), xs = [.ref a] ∧ H a = some (.ins C dx fs) ∧ sp [.ref a] H (fun v H1 => ∃ n : Int, v = .int n ∧ (0 ≤ n ∧ n < 2 ^ 63) ∧ Q (.int n) H1) C8.E0
theorem call_lenP {C : Addr} {k j : Nat} {sp : Sp} (c : C8.Met X.prog X.w X.K X.mg X.base k C "__len__" sp []) (hr : Room j X.A) (hk : k + 1 ≤ j) : CallR X (.builtin "len") (rLenP C sp) := by
  intro pins s σ H xs us Q I r h
  obtain ⟨a, dx, fs, rfl, ha, hs⟩ := h
  rw [Vals.ref1 r]
  obtain ⟨f, fd, ps, ds, hc, hm, F, b, d⟩ := c.ex
  cases d
  obtain ⟨mA, O, _, _⟩ := ins_get I.hok ha
  obtain ⟨od, IA, _⟩ := O.look
  obtain ⟨m, fr⟩ := I.fr
  refine PySem.W.len_K fr I.ok.mod.kin IA hm.at_ hm.fn ?_
  have hl : ([.ref a] : List Value).length = ps.length := F.len [.ref a] _ _ _ hs
  refine wpAny_call (codeAny_mono (F.run X.A.in1 X.stack s H ⟨[.ref a], []⟩ [.ref a] [.ref a] _ _ (hr.mono hk).in1 I.env0.in1 (b s [.ref a] I.kIn hl) (.cons rfl .nil) hs) fun r s' hq => ?_)
  cases r with
  | error e => exact (show False from hq).elim
  | ok fl =>
    cases fl with
    | next => exact False.elim hq
    | brk => exact False.elim hq
    | cont => exact False.elim hq
    | ret u =>
      obtain ⟨v, H', I', rv, n, ev, hb, q⟩ := I.after hq
      subst ev
      obtain ⟨t, rfl⟩ : ∃ t, u = Value.int n t := rv
      exact ⟨hb, .int n, H', I'.tok _, ⟨_, rfl⟩, q⟩
/-- len of a list or a tuple -/
def rLenQ (K : PySem.W.Frag) : List V → Hp → VK → Prop := fun xs H Q => ∃ p ys, xs = [.ref p] ∧ (SqL K H p ys ∨ SqT K H p ys) ∧ Q (.int ys.length) H
/-- what a call hands back, called: one of some defs -/
def tCC (Fs : Addr → Prop) (sp : Sp) (tf : TE) (ta : TA) : TE := fun σ H Q => tf σ H fun x H1 => ∃ f, x = .ref f ∧ Fs f ∧ ta σ H1 fun vs H2 => sp vs H2 Q C8.E0
theorem pe_cc {Fs : Addr → Prop} {sp : Sp} {k j : Nat} {g : Expr} {fs es : List Expr} {e : Expr} {tf : TE} {ta : TA} {p1 pos : Pos} {kws : List Keyword} (A : ∀ f, Fs f → C8.CalAt X.prog X.w X.K X.mg X.base k f sp) (hr : Room j X.A) (hk : k ≤ j) (hf : PE X (.Call g fs kws p1) tf) (ha : PA X (e :: es) ta)
    (he : starEach (e :: es) X.env = (false, eval e X.env) :: starEach es X.env := by rfl) (hpl : (backTo pos (starEach es X.env)).any (·.1) = false := by rfl) : PE X (.Call (.Call g fs kws p1) (e :: es) [] pos) (tCC Fs sp tf ta) := by
  refine ⟨fun pins s σ H Q I h => ?_⟩
  refine Call_ (thn (hf.run pins s σ H _ I h) fun u s1 ⟨x, H1, I1, rx, f0, ex, hF, ht⟩ => ?_)
  subst ex
  obtain rfl : u = Value.ref f0 := rx
  obtain ⟨fd, ps, F, hkp, hb⟩ := (A f0 hF).ex
  refine PySem.W.callWith_K (h₀ := X.base) I.ok.mod.kin hkp (thn (ha.run pos pins s1 σ H1 _ I1 ht) fun us s2 ⟨vs, H2, I2, r, q⟩ => ⟨I2.kIn, ?_⟩) he hpl
  exact run_fn (dvs := []) F (hr.mono hk) hb .nil C8.pass0 I2 r (by rw [List.append_nil]; exact q)
/-! ### dict(xs), xs a list of pairs (point, True); its len -/
/-- at d: some dict of n entries -/
def rawD (d : Addr) (n : Nat) : HO := .ext fun h => (d == sysModules) = false ∧ ∃ es ep, h.DictRaw d es ep ∧ es.size = n
theorem rawD_ok {P : Program} {w : World} {H : Hp} {h : Heap} {d : Addr} {es : Array DictEntry} {ep : Nat} (hd : (d == sysModules) = false) (x : h.DictRaw d es ep) : ObjOk P w H h d (rawD d es.size) := by
  refine ⟨⟨hd, es, ep, x, rfl⟩, ?_, fun h1 h2 z k => ?_⟩
  · obtain ⟨o, ho, _⟩ := x
    exact ⟨o, ho⟩
  · obtain ⟨z1, es', ep', y, e⟩ := z
    exact ⟨z1, es', ep', y.at k, e⟩
def rLenR : List V → Hp → VK → Prop := fun xs H Q => ∃ (d : Addr) (n : Nat), xs = [.ref d] ∧ H d = some (rawD d n) ∧ n ≤ 1000 ∧ Q (.int (n : Nat)) H
theorem call_len_dR : CallR X (.builtin "len") rLenR := by
  intro pins s σ H xs us Q I r h
  obtain ⟨d, n, rfl, hd, hn, q⟩ := h
  rw [Vals.ref1 r]
  have x : ObjOk X.prog X.w H s.heap d (rawD d n) := I.hok d _ hd
  obtain ⟨⟨hs, es, ep, hr, e⟩, _, _⟩ := x
  subst e
  refine call_len_slot (n := ((es.size : Nat) : Int)) hr.typeIs PySem.F.slot_dict_len (fun Q' hq => call_len_raw hs hr hq) (by omega) (by omega) ?_
  exact ⟨.int ((es.size : Nat) : Int), H, I.tok _, ⟨_, rfl⟩, q⟩
def PairB (K : PySem.W.Frag) (H : Hp) (v : V) (c : Pt) : Prop := ∃ p x, v = .ref p ∧ SqT K H p [x, .bl true] ∧ IsPt K H x c
theorem key_of {pins : List (Addr × Obj)} {σ : L2.St} {H : Hp} {s : Shared} (I : Inv X pins σ H s) {x : V} {u : Value} {c : Pt} (h : IsPt X.K H x c) (r : RelV x u) : ∃ q, u = .ref q ∧ IsTupleKey (intKind X.prog X.w) s.heap [c.1, c.2] q := by
  obtain ⟨q, rfl, hq⟩ := h
  obtain rfl : u = Value.ref q := r
  obtain ⟨its, rv, ⟨o, ho, hc, n, hd⟩, _⟩ := I.tuple hq
  obtain ⟨u1, u2, e, r1, r2⟩ := vals2 rv
  obtain ⟨t1, rfl⟩ : ∃ t, u1 = Value.int c.1 t := r1
  obtain ⟨t2, rfl⟩ : ∃ t, u2 = Value.int c.2 t := r2
  subst e
  exact ⟨q, rfl, o, _, n, ho, hc, hd, .cons (intKind_is _ _ _ _) (.cons (intKind_is _ _ _ _) .nil)⟩
theorem pairs_at {pins : List (Addr × Obj)} {σ : L2.St} {H : Hp} {s : Shared} (I : Inv X pins σ H s) : ∀ {vs : List V} {cs : List Pt} {its : List Value}, Paired (PairB X.K H) vs cs → Vals vs its →
    ∃ ps : List (Addr × Addr), its = ps.map (fun p => Value.ref p.1) ∧ ps.length = cs.length ∧ ∀ (j : Nat) (b q : Addr), ps[j]? = some (b, q) → ∃ c, cs[j]? = some c ∧ s.heap.IsTuple b #[.ref q, .bool true] ∧ IsTupleKey (intKind X.prog X.w) s.heap [c.1, c.2] q
  | _, _, _, .nil, .nil => ⟨[], rfl, rfl, fun j b q e => by simp at e⟩
  | _, _, _, .cons (b := c) h t, .cons (b := u) r rt => by
    obtain ⟨ps, e1, e2, e3⟩ := pairs_at I t rt
    obtain ⟨p, x, rfl, hp, hx⟩ := h
    obtain rfl : u = Value.ref p := r
    obtain ⟨its, rv, ⟨o, ho, hc, n, hd⟩, _⟩ := I.tuple hp
    obtain ⟨u1, u2, e, r1, r2⟩ := vals2 rv
    obtain ⟨q, rfl, hk⟩ := key_of I hx r1
    obtain rfl : u2 = Value.bool true := r2
    subst e
    refine ⟨(p, q) :: ps, by rw [e1]; rfl, by rw [List.length_cons, List.length_cons, e2], fun j b q' e => ?_⟩
    cases j with
    | zero =>
      have e' : (p, q) = (b, q') := Option.some.inj e
      injection e' with ea eb
      subst ea eb
      exact ⟨c, rfl, ⟨o, ho, hc, n, hd⟩, hk⟩
    | succ j => exact e3 j b q' (by simpa using e)
theorem merged_len {α : Type} [DecidableEq α] : ∀ (kvs acc : List (α × Value)), (acc.map (·.1)).Nodup → (merged acc kvs).length ≤ acc.length + kvs.length ∧ ((merged acc kvs).length = acc.length + kvs.length → ((acc ++ kvs).map (·.1)).Nodup)
  | [], acc, h => ⟨Nat.le_refl _, fun _ => by rw [List.append_nil]; exact h⟩
  | p :: r, acc, h => by
    show (merged (stored acc p.1 p.2) r).length ≤ _ ∧ ((merged (stored acc p.1 p.2) r).length = _ → _)
    have hl := length_stored acc p.1 p.2
    have hk := keys_stored acc p.1 p.2
    by_cases c : p.1 ∈ acc.map (·.1)
    · rw [if_pos c] at hl hk
      obtain ⟨i1, i2⟩ := merged_len r (stored acc p.1 p.2) (by rw [hk]; exact h)
      rw [List.length_cons]
      exact ⟨by omega, fun z => by omega⟩
    · rw [if_neg c] at hl hk
      have hn : ((stored acc p.1 p.2).map (·.1)).Nodup := by
        rw [hk]
        exact List.nodup_append.mpr ⟨h, by simp, fun a ha b hb => by
          have : b = p.1 := by simpa using hb
          rw [this]; intro z; rw [z] at ha; exact c ha⟩
      obtain ⟨i1, i2⟩ := merged_len r (stored acc p.1 p.2) hn
      rw [List.length_cons]
      refine ⟨by omega, fun z => ?_⟩
      have i3 := i2 (by omega)
      rw [List.map_append, hk] at i3
      rw [List.map_append, List.map_cons]
      simpa using i3
def rDictP (K : PySem.W.Frag) : List V → Hp → VK → Prop := fun xs H Q => ∃ (a : Addr) (vs : List V) (cs : List Pt), xs = [.ref a] ∧ SqL K H a vs ∧ Paired (PairB K H) vs cs ∧
  ∀ (d : Addr) (n : Nat), n ≤ cs.length → (n = cs.length → cs.Nodup) → H d = none → Q (.ref d) (upd H d (rawD d n))
theorem call_dictT (hc : X.calm = true) (hu : X.A.units + 65 < cLine) : CallR X (.type "dict") (rDictP X.K) := by
  intro pins s σ H xs us Q I r h
  obtain ⟨a, vs, cs, rfl, hs, hp, q⟩ := h
  rw [Vals.ref1 r]
  obtain ⟨its, rv, ⟨o, n, ho, hcl, hdn, hdt⟩, hz⟩ := I.list hs
  obtain ⟨ps, e1, e2, e3⟩ := pairs_at I hp rv
  have hn : (⟨a, 0⟩ : Addr × Nat).1 = a := rfl
  -- the keys and values
  let prs : List (Value × Value) := ps.map fun p => (Value.ref p.2, Value.bool true)
  let pks : List (List Int × Addr × Value) := (ps.zip cs).map fun x => ([x.2.1, x.2.2], x.1.2, Value.bool true)
  have lz : (ps.zip cs).length = ps.length := by rw [List.length_zip, e2, Nat.min_self]
  have at_ : ∀ (j : Nat) (p : Addr × Addr), ps[j]? = some p → ∃ c, cs[j]? = some c ∧ (ps.zip cs)[j]? = some (p, c) ∧ s.heap.IsTuple p.1 #[.ref p.2, .bool true] ∧ IsTupleKey (intKind X.prog X.w) s.heap [c.1, c.2] p.2 := fun j p e => by
    obtain ⟨c, h1, h2, h3⟩ := e3 j p.1 p.2 e
    exact ⟨c, h1, by rw [List.getElem?_zip_eq_some]; exact ⟨e, h1⟩, h2, h3⟩
  have hlen : its.length = ps.length := by rw [e1, List.length_map]
  refine dict_keyed (knd := tupleKind (intKind X.prog X.w)) (kvs := pairsH pks) tupleKind_stays (PairArg.list a its.toArray (fun j => ((ps[j]?).map (·.1)).getD 0) prs) (I.ok.hd hc) ?_ ⟨⟨o, n, ho, hcl, hdn, hdt⟩, ?_, ?_⟩ ⟨pks, rfl, ⟨?_, ?_⟩, ?_⟩ ?_ ?_ ?_
  · show X.A.units + 1 + 1 < cLine
    omega
  · show its.toArray.size = (ps.map _).length
    rw [List.size_toArray, List.length_map, hlen]
  · intro j k v hj
    rw [List.getElem?_map] at hj
    cases e : ps[j]? with
    | none => rw [e] at hj; cases hj
    | some p =>
      rw [e] at hj
      cases hj
      obtain ⟨c, _, _, h2, _⟩ := at_ j p e
      refine ⟨?_, .inl ?_⟩
      · simp [e1, e]
      · show s.heap.IsTuple (((ps[j]?).map (·.1)).getD 0) _
        rw [e]; exact h2
  · show ((ps.zip cs).map _).length = (ps.map _).length
    rw [List.length_map, List.length_map, lz]
  · intro i key v hi
    have hi' : (ps.map fun p => (Value.ref p.2, Value.bool true))[i]? = some (key, v) := hi
    rw [List.getElem?_map] at hi'
    cases e : ps[i]? with
    | none => rw [e] at hi'; cases hi'
    | some p =>
      rw [e] at hi'
      cases hi'
      obtain ⟨c, _, h1, _, _⟩ := at_ i p e
      refine ⟨[c.1, c.2], p.2, ?_, rfl⟩
      show ((ps.zip cs).map _)[i]? = _
      rw [List.getElem?_map, h1]; rfl
  · intro x hx
    obtain ⟨y, hy, rfl⟩ := List.mem_map.mp hx
    obtain ⟨j, hj⟩ := List.mem_iff_getElem?.mp hy
    have hj' := List.getElem?_zip_eq_some.mp hj
    obtain ⟨c, h1, _, _, h3⟩ := at_ j y.1 hj'.1
    have : y.2 = c := Option.some.inj (hj'.2.symm.trans h1)
    rw [this]
    exact h3
  · intro h' hk k b x
    exact tupleKind_stays.stays (fun b o vs n e _ => hk b o (by simp) e) x
  · show (ps.map _).length ≤ sizeLine
    rw [List.length_map, ← hlen, ← rv.length]; exact hz
  · intro h' tk hm hk
    obtain ⟨es, ep, hr, hsz, _⟩ := hm.walk
    have hsm : (s.heap.objs.size == sysModules) = false := beq_eq_false_iff_ne.mpr (Nat.ne_of_gt I.big)
    have hlp : (pairsH pks).length = cs.length := by
      rw [pairsH_length]
      show ((ps.zip cs).map _).length = _
      rw [List.length_map, lz, e2]
    obtain ⟨m1, m2⟩ := merged_len (pairsH pks) [] (by simp)
    rw [List.length_nil, Nat.zero_add, hlp] at m1 m2
    rw [← hsz] at m1 m2
    refine ⟨.ref s.heap.objs.size, upd H s.heap.objs.size (rawD s.heap.objs.size es.size), I.laid (t' := tk) (fun b o e => hk b o (by simp) e) (Nat.le_refl _) (rawD_ok hsm hr), rfl, q _ _ m1 (fun z => ?_) (I.hok.fresh (Nat.le_refl _))⟩
    have z2 := m2 z
    rw [List.nil_append] at z2
    have ek : (pairsH pks).map (·.1) = cs.map fun c => [c.1, c.2] := by
      unfold pairsH
      show (((ps.zip cs).map fun x => ([x.2.1, x.2.2], x.1.2, Value.bool true)).map fun x => (x.1, x.2.2)).map (·.1) = _
      rw [List.map_map, List.map_map]
      have : cs = (ps.zip cs).map (·.2) := by rw [List.map_snd_zip (by omega)]
      conv => rhs; rw [this, List.map_map]
      rfl
    rw [ek] at z2
    have inj : ∀ (l : List Pt), (l.map fun c => [c.1, c.2]).Nodup → l.Nodup := by
      intro l
      induction l with
      | nil => intro _; exact List.nodup_nil
      | cons x l ih =>
        intro hn
        rw [List.map_cons, List.nodup_cons] at hn
        exact List.nodup_cons.mpr ⟨fun hx => hn.1 (List.mem_map.mpr ⟨x, hx, rfl⟩), ih hn.2⟩
    exact inj cs z2
end
end KP

set_option Elab.async false
set_option linter.all false
set_option maxRecDepth 100000
set_option maxHeartbeats 4000000
/-! Undefined: an own class over RuntimeError whose __init__ stores one field. Made, raised, caught, its field read. -/
namespace PySem
namespace UndX
open PySem.W PySem.Calls PyProof.Rows PySem.HandSPX Builtin Builtin.ObjectAttr
abbrev reB : List Value := [.type "RuntimeError", .type "Exception", .type "BaseException", .type "object"]
/-- the written part of the class at C, its __init__ at fI -/
structure UndT (K : Frag) (mg : Str → Option Value) (C fI : Addr) : Prop where
  gC : mg "Undefined" = some (.ref C)
  mkI : excInitIn K C reB "RuntimeError.__new__" = true
  ov : excOver K C reB = true
  hd : (clsIn K C).any (·.hasDict) = true
  ga : findIn K (.ref C) "__getattribute__" = some (some (.builtin "BaseException.__getattribute__"))
  gg : findIn K (.ref C) "__getattr__" = some none
  sa : findIn K (.ref C) "__setattr__" = some (some (.builtin "object.__setattr__"))
  noN : findIn K (.ref C) "steps" = some none
  iC : findIn K (.ref C) "__init__" = some (some (.ref fI))
  tC : typeIn K (.ref fI) = some (.type "function")
  kC : keepIn K (.ref C) = true
  exC : subIn K (.ref C) (.type "BaseException") = some true
  tyC : typeIn K (.ref C) = some (.type "type")
  hdC : hasDictIn K C = true
  te : exmOne K (.ref C) (.ref C) = some true
  fn : ∃ (oc : Value) (od : Option Addr) (doc pm dV kV : Value) (an : Option Addr) (cdv ct : Value) (osl : Array (Option Value)),
    K.lookup fI = some ⟨oc, od, .func (fnOf "__init__" "Undefined.__init__" (L2.defArgs KP.s_Undefined_uinitu) (L2.defBody KP.s_Undefined_uinitu) (L2.defScope KP.s_Undefined_uinitu) dV kV doc pm an cdv ct), osl⟩ ∧ codeIn K cdv "Undefined.__init__" = true ∧ dV = .none
/-- the heap but for x stands: so does the written part where it does not hold x -/
theorem cells_ld {M : Model} {s : Shared} {name : Str} {scope : Scope} {L a : Addr} {cd : Value} {m : Str → Option Value} {x : Str} {pos : Pos} {v : Value} {Q : Value → Shared → Prop} {A : Around} {E : Value → Shared → Prop} (hn : s.heap.Ns L m) (hv : m x = some v) (h : Q v s)
    (hk : scope.kind = .function := by rfl) (hl : (envOfC name scope L a cd).kindOf x = some .local := by rfl) (hd : (x == ("__debug__" : Str)) = false := by decide) :
    wpAny M A (eval (.Name x pos) (envOfC name scope L a cd)) Q E s := wpAny_Name (wpAny_loadName_local hk hl hn hv h) hd
/-- self.steps = v on a new exception -/
theorem store_first {prog : Program} {w : World} {A : Around} {R : Result → Shared → Prop} {hp : Heap} {g : Array GenState} {d : Drawn} {t : Nat} {os : OsState} {K : Frag} {name : Str} {tk : Tok} {v : Value} {x C : Addr} {fv : Array Value}
    (X : K.In hp) (hx : hp.get? x = some { cls := .ref C, data := .fields fv }) (ov : excOver K C reB = true) (hhd : (clsIn K C).any (·.hasDict) = true) (ht : takerIn K C name = some none)
    (hq : ∀ h' tk' dx, (∀ b o, b ≠ x → hp.get? b = some o → h'.get? b = some o) → hp.objs.size ≤ dx → dx ≠ x → h'.get? x = some { cls := .ref C, dict := some dx, data := .fields fv } →
      h'.Ns1 dx (fun y => if y = name then some v else none) → R (.ok (.ret .none)) ⟨h', g, d, tk', os⟩) :
    codeAny (model prog w) A (.call (.builtin "object.__setattr__") ⟨[.ref x, .str name tk, v], []⟩) R ⟨hp, g, d, t, os⟩ := by
  have I : InstAt hp x { cls := .ref C, data := .fields fv } C none := ⟨hx, rfl, rfl, trivial⟩
  have hxs : x ≠ hp.objs.size := Nat.ne_of_lt (Heap.lt_size hx)
  refine osa_openX F.store_RuntimeError X I ov ht fun b => ?_
  obtain ⟨cd, hcd, hh⟩ := any_some hhd
  have hcls : Looks (model prog w) hp (classData C) cd := looks_clsIn X hcd
  obtain ⟨nm, bs, mro, ns, qn, hdd, sn, sb, ab, col, del⟩ := cd
  dsimp only at hh
  subst hh
  show wpAny _ _ (storeInOwnDict (.ref x) (.ref C) (.str name tk) name v b) _ _ _
  unfold storeInOwnDict ownDictForStores
  repeat (first | with_reducible refine store_in_new ?_ ?_ | with_reducible refine wpAny_loadPart_at hx ?_ | with_reducible refine hcls.at ?_ | wp_step)
  · exact ⟨_, #[], _, (Heap.get?_update_ne _ _ _ _ hxs.symm).trans (Heap.get?_push_at rfl rfl), rfl, fun e he => absurd he (by simp), fun _ => rfl⟩
  · intro h' tk' hn' hs
    have old : (hp.push { cls := .type "dict", data := .dict #[] }).get? x = some { cls := .ref C, data := .fields fv } := Heap.get?_push_of_some _ hx
    refine hq h' tk' hp.objs.size (fun c o hc ho => ?_) (Nat.le_refl _) hxs.symm ?_ hn'
    · exact (hs.2 c (Nat.ne_of_lt (Heap.lt_size ho))).trans ((Heap.get?_update_ne _ _ _ _ hc).trans (Heap.get?_push_of_some _ ho))
    · exact (hs.2 x hxs).trans (Heap.get?_update_self _ old rfl)
/-- what __init__ leaves of the new exception at x -/
structure Inited (h h' : Heap) (x C dx t1 : Addr) (v : Value) : Prop where
  keep : ∀ b o, b ≠ x → h.get? b = some o → h'.get? b = some o
  obj : h'.get? x = some { cls := .ref C, dict := some dx, data := .fields #[.ref t1, .none, .none, .none, .bool false, .none] }
  dbig : h.objs.size ≤ dx
  dne : dx ≠ x
  ns : h'.Ns1 dx (fun y => if y = "steps" then some v else none)
/-- an Undefined that is made -/
structure Made (h h' : Heap) (e C d : Addr) (v : Value) : Prop where
  keep : ∀ b o, h.get? b = some o → h'.get? b = some o
  new : h.objs.size ≤ e
  obj : ∃ oe vs, h'.get? e = some oe ∧ oe.cls = .ref C ∧ oe.dict = some d ∧ oe.data = .fields vs ∧ vs[1]? = some .none
  dbig : h.objs.size ≤ d
  dne : d ≠ e
  ns : h'.Ns1 d (fun y => if y = "steps" then some v else none)
section
variable {prog : Program} {w : World} {A : Around} {R : Result → Shared → Prop} {s : Shared} {K : Frag} {mg : Str → Option Value} {C fI : Addr}
theorem und_init (T : UndT K mg C fI) {x t0 : Addr} {v : Value} (X : K.In s.heap) (hlim : s.heap.NoLimit) (hx : s.heap.get? x = some (excO C t0)) (hroom : A.depth < recursionLimit)
    (hq : ∀ h' tk dx, Inited s.heap h' x C dx t0 v → R (.ok (.ret .none)) { s with heap := h', toks := tk }) :
    codeAny (model prog w) A (.call (.ref fI) ⟨[.ref x, v], []⟩) R s := by
  obtain ⟨oc, od, doc, pm, dV, kV, an, cdv, ct, osl, ho, hcd, rfl⟩ := T.fn
  refine Att.call_fn (binds := [("self", .ref x), ("steps", v)]) X hlim ho hcd hroom (BindsTo.of_eq (by first | rfl | with_unfolding_all rfl)) (by first | rfl | decide | with_unfolding_all rfl) (fun s₁ IC => ?_) rfl rfl rfl
  obtain ⟨h₁, tk₁, rfl⟩ := IC.toInCall.same
  have k : ∀ b o, s.heap.get? b = some o → h₁.get? b = some o := IC.toInCall.keep
  have hn := IC.toInCall.ns
  have X₁ : K.In h₁ := X.keeps k
  have hx₁ := k _ _ hx
  show wpAny _ _ (execs [.Assign [.Attribute (.Name "self" _) "steps" _] (.Name "steps" _) _] _) _ _ _
  refine wpAny_execs_cons (plainObj_wpAny_Assign_Attribute ?_)
  refine cells_ld (v := v) hn (by first | rfl | with_unfolding_all rfl | kernel_rfl) (cells_ld (v := .ref x) hn (by first | rfl | with_unfolding_all rfl | kernel_rfl) ?_)
  refine set_plain X₁ (ox := excO C t0) (od := none) ⟨hx₁, rfl, rfl, trivial⟩ T.sa ?_
  refine store_first X₁ hx₁ T.ov T.hd (L2.NoAttr.taker T.noN) (fun h₃ tk₃ dx k₃ dn dne hx₃ hn₃ => ?_)
  have z : s.heap.objs.size < h₁.objs.size := hn.lt
  exact wpAny_execs_nil (hq h₃ tk₃ dx ⟨fun b o hb e => k₃ b o hb (k b o e), hx₃, Nat.le_of_lt (Nat.lt_of_lt_of_le z dn), dne, hn₃⟩)
theorem und_made (T : UndT K mg C fI) {v : Value} (X : K.In s.heap) (hlim : s.heap.NoLimit) (hroom : A.depth + 1 < recursionLimit)
    (hq : ∀ h' tk e d, Made s.heap h' e C d v → R (.ok (.ret (.ref e))) { s with heap := h', toks := tk }) :
    codeAny (model prog w) A (.call (.ref C) ⟨[v], []⟩) R s := by
  obtain ⟨nm, N, q, bs, bm, hdct, sn, sub, ab, col, dd, k0, k1, k2, k3, k5, hC, hT⟩ := excInit_of X T.mkI
  obtain ⟨hp, g, dr, tk, os⟩ := s
  have k : ∀ b o, hp.get? b = some o → ((hp.push (kdv_tup [v])).push (excO C hp.objs.size)).get? b = some o := fun b o e => Heap.get?_push_of_some _ (Heap.get?_push_of_some _ e)
  have hget : ((hp.push (kdv_tup [v])).push (excO C hp.objs.size)).get? (hp.objs.size + 1) = some (excO C hp.objs.size) := by heap_get
  refine call_own F.excBase_RuntimeError hT hC (looks_findIn X T.iC) (fun self => bind_fn X self T.tC) (by rw [sizeLine_eq]; exact (by decide : 1 ≤ 16777216)) ?_
  refine und_init (s := ⟨(hp.push (kdv_tup [v])).push (excO C hp.objs.size), g, dr, tk, os⟩) T (X.keeps k) (hlim.keeps k) hget ?_ fun h' tk' dx ⟨k', hx, dn, dne, hns⟩ => ?_
  · show A.depth + 1 < recursionLimit
    exact hroom
  · have old : ∀ b o, hp.get? b = some o → h'.get? b = some o := fun b o e => k' b o (Nat.ne_of_lt (Nat.lt_succ_of_lt (Heap.lt_size e))) (k b o e)
    have z : hp.objs.size + 1 + 1 ≤ dx := by
      first
        | (simpa only [Heap.size_push] using dn)
        | exact dn
        | (have q := dn; rw [Heap.size_push, Heap.size_push] at q; exact q)
    exact ⟨rfl, hq h' tk' (hp.objs.size + 1) dx ⟨old, Nat.le_succ _, ⟨_, _, hx, rfl, rfl, rfl, rfl⟩, Nat.le_trans (Nat.le_trans (Nat.le_succ _) (Nat.le_succ _)) z, dne, hns⟩⟩
end
end UndX
end PySem
namespace KP
open PySem PySem.Spec PyProof.Rows L2 KM
theorem relO_steps {v : V} {v' : Value} (r : RelV v v') (f : Str) : RelO (List.lookup f [(("steps" : Str), v)]) (if f = "steps" then some v' else none) := by
  by_cases hw : f = "steps"
  · subst hw
    rw [if_pos rfl]
    have q : List.lookup ("steps" : Str) [(("steps" : Str), v)] = some v := by simp [List.lookup]
    rw [q]
    exact r
  · rw [if_neg hw]
    have qw : (f == ("steps" : Str)) = false := by simpa using hw
    have q2 : List.lookup f [(("steps" : Str), v)] = none := by simp [List.lookup, qw]
    rw [q2]
    trivial
section
variable {X : Cx} {C fI : Addr}
/-- Undefined(e) -/
def tMkU (C : Addr) (ta : TA) : L2.St → Hp → XK → Prop := fun σ H Q => ta σ H fun vs H1 => ∃ v, vs = [v] ∧ ∀ d, H1 d = none → Q (.ref C) (some d) (upd H1 d (.xd [(("steps" : Str), v)]))
theorem pmk_u {a : Expr} {ta : TA} {p pos : Pos} {k : Nat} (T : PySem.UndX.UndT X.K X.mg C fI) (hr : Room k X.A) (ha : PA X [a] ta) (hg : Gl X "Undefined" := by rfl)
    (he : starEach (a :: []) X.env = (false, eval a X.env) :: starEach [] X.env := by rfl) (hpl : (backTo pos (starEach [] X.env)).any (·.1) = false := by rfl) :
    PMk X (.Call (.Name "Undefined" p) [a] [] pos) (tMkU C ta) := by
  intro pins s σ H Q I h
  refine wpAny_Call_Name_kw (ld_glob I hg T.gC ?_)
  refine PySem.W.callWith_K (h₀ := X.base) I.ok.mod.kin T.kC (thn (ha.run pos pins s σ H _ I h) fun us s1 hh => ?_) he hpl
  obtain ⟨vs, H1, I1, r1, v, ev, q1⟩ := hh
  subst ev
  refine ⟨I1.kIn, ?_⟩
  obtain ⟨v', rfl, rv⟩ := vals1 r1
  show wpAny _ _ (call (.ref C) [v']) _ _ _
  have hlim := I1.nolimit
  obtain ⟨hp, g, dr, tk, os⟩ := s1
  refine wpAny_call (PySem.UndX.und_made T I1.kIn hlim (by have := hr.dp; omega) fun h' tk' e d M => ?_)
  show MkP X pins σ Q (.ref e) ⟨h', g, dr, tk', os⟩
  obtain ⟨oe, fv, hoe, hc, hd, hdat, h1⟩ := M.obj
  have hns := M.ns
  obtain ⟨G', g1, g2⟩ := restrict h' fun b => decide (b ≠ e)
  have gk : ∀ b, b ≠ e → G'.get? b = h'.get? b := fun b hb => g1 b (decide_eq_true hb)
  have ge : G'.get? e = none := g2 e (by simp)
  have old : ∀ b o, hp.get? b = some o → G'.get? b = some o := fun b o q => (gk b (Nat.ne_of_lt (Nat.lt_of_lt_of_le (Heap.lt_size q) M.new))).trans (M.keep b o q)
  have ob : ObjOk X.prog X.w (upd H1 d (.xd [(("steps" : Str), v)])) G' d (.xd [(("steps" : Str), v)]) :=
    ⟨_, hns.at (fun o q => (gk d M.dne).trans q), fun f => relO_steps rv f⟩
  have J : Inv X pins σ (upd H1 d (.xd [(("steps" : Str), v)])) ⟨G', g, dr, tk', os⟩ := I1.laid (t' := tk') old M.dbig ob
  refine ⟨e, oe, fv, ⟨G', g, dr, tk', os⟩, _, .ref C, some d, rfl, J, fun b o q => ?_, ge, hoe, ⟨hc, hd⟩, hdat, h1, ?_, rfl, I1.bare, raises_own T.exC T.tyC, q1 d (I1.hok.fresh M.dbig)⟩
  · by_cases hb : b = e
    · have q' : G'.get? b = some o := q
      rw [hb, ge] at q'; cases q'
    · exact (gk b hb).symm.trans q
  · rw [upd_ne (Ne.symm M.dne)]
    exact I1.hok.fresh M.new
/-- raise Undefined(e) -/
theorem ps_raiseU {a : Expr} {ta : TA} {W : WX} {p pos pos2 : Pos} {k : Nat} (hc : X.calm = true) (T : PySem.UndX.UndT X.K X.mg C fI) (hr : Room k X.A) (tk : Takes X W) (ha : PA X [a] ta) (hg : Gl X "Undefined" := by rfl)
    (he : starEach (a :: []) X.env = (false, eval a X.env) :: starEach [] X.env := by rfl) (hpl : (backTo pos (starEach [] X.env)).any (·.1) = false := by rfl) :
    PS X (.Raise (some (.Call (.Name "Undefined" p) [a] [] pos)) none pos2) (fun _ σ H => tMkU C ta σ H fun cls d H' => W cls d σ H') := ps_raise hc tk (pmk_u T hr ha hg he hpl)
/-- e.steps, e the exception that the suite holds -/
def tSteps (C : Addr) (a : Addr) (cls : Value) (d : Option Addr) (te : TE) : TE := fun σ H Q => te σ H fun x H1 => x = .ref a ∧ cls = .ref C ∧ ∃ (dd : Addr) (v : V), d = some dd ∧ H1 dd = some (.xd [(("steps" : Str), v)]) ∧ Q v H1
theorem pe_steps {a : Addr} {oe : Obj} {cls : Value} {d : Option Addr} {pn : List (Addr × Obj)} {e : Expr} {te : TE} {pos : Pos} (T : PySem.UndX.UndT X.K X.mg C fI) (hz : Zc cls d oe) (hf : ∃ vs, oe.data = .fields vs) (he : PE (X.suite a ((a, oe) :: pn)) e te)
    (hb : attributeBase e "steps" X.env (eval e X.env) = eval e X.env := by rfl) :
    PE (X.suite a ((a, oe) :: pn)) (.Attribute e "steps" pos) (tSteps C a cls d te) := by
  refine ⟨fun pins s σ H Q I h => ?_⟩
  refine attr_of hb (thn (he.run pins s σ H _ I h) fun u s1 hh => ?_)
  obtain ⟨x, H1, I1, rx, ex, ec, dd, v, ed, ea, q⟩ := hh
  subst ex
  obtain rfl : u = Value.ref a := rx
  subst ec
  subst ed
  obtain ⟨ha, _⟩ := I1.pin (a, oe) (List.mem_append_left _ List.mem_cons_self)
  obtain ⟨vs, hd⟩ := hf
  have hx : ObjOk X.prog X.w H1 s1.heap dd (.xd [(("steps" : Str), v)]) := I1.hok dd _ ea
  obtain ⟨mA, hns, hr⟩ := hx
  obtain ⟨od, ho, hl⟩ := lookIn_ns hns
  have l : List.lookup ("steps" : Str) [(("steps" : Str), v)] = some v := by simp [List.lookup]
  obtain ⟨u, hu, ru⟩ := RelO.some_of (v := v) (o := mA "steps") (by rw [← l]; exact hr "steps")
  have J : PySem.W.InstAt s1.heap a oe C (some od) := ⟨ha, hz.1, by unfold PySem.W.notCls; rw [hd] <;> rfl, by rw [hz.2]; exact ho⟩
  exact PySem.HandSPX.exc_get I1.kIn J T.ga T.gg T.exC (PySem.W.findObj_own T.hdC T.noN rfl (by rw [hl, hu])) (handed_of ru) ⟨v, H1, I1.tok _, ru, q⟩
end
end KP

set_option Elab.async false
set_option linter.all false
set_option maxRecDepth 100000
set_option maxHeartbeats 4000000
namespace KP
open PySem PySem.Spec PyProof.Rows L2 KM
/-! ### list comprehensions whose turns only add objects -/
/-- one turn: Q' behind an element, R where it is dropped -/
abbrev LcTurn (g : TG) (tt : TT) (te : TE) (vs : List Nat) (σ : L2.St) (x : V) (H : Hp) (Q' : V → Hp → Prop) (R : Hp → Prop) : Prop :=
  g x (wipe σ vs) H fun σ2 H2 => wipe σ2 vs = wipe σ vs ∧ tt σ2 H2 fun b H3 => if b = true then te σ2 H3 Q' else R H3
/-- behind i items: the list so far -/
def LcAt (G : Hp) (D : Addr) (Rel : Nat → V → Hp → Prop) (i : Nat) (H : Hp) : Prop :=
  Same G H ∧ ∃ ys, H D = some (.lst ys) ∧ ys.length = i ∧ ∀ j y, ys[j]? = some y → Rel j y (wo D H)
theorem lcat_zero {G H1 : Hp} {D : Addr} {Rel : Nat → V → Hp → Prop} (hG : Same G H1) (hD : H1 D = none) : LcAt G D Rel 0 (upd H1 D (.lst [])) :=
  ⟨Same.newer hG hD, [], upd_same, rfl, fun j y e => by simp at e⟩
theorem lcat_next {G H H4 : Hp} {D : Addr} {Rel : Nat → V → Hp → Prop} (gd : G D = none) (mono : ∀ i y H H', Rel i y H → Same H H' → Rel i y H') {i : Nat} {y : V} {ys : List V} (h : Same G H) (hy : H D = some (.lst ys)) (hl : ys.length = i) (hr : ∀ j y, ys[j]? = some y → Rel j y (wo D H))
    (hi : i < 1000) (e : Same H H4) (r : Rel i y (wo D H4)) : ∃ acc, H4 D = some (.lst acc) ∧ acc.length < sizeLine ∧ LcAt G D Rel (i + 1) (upd H4 D (.lst (acc ++ [y]))) := by
  have ew : Same (wo D H) (wo D H4) := fun b o z => by
    by_cases c : b = D
    · rw [c, wo_at] at z; cases z
    · rw [wo_ne c] at z ⊢; exact e _ _ z
  have eu : wo D (upd H4 D (.lst (ys ++ [y]))) = wo D H4 := by
    funext b
    by_cases c : b = D
    · rw [c, wo_at, wo_at]
    · rw [wo_ne c, wo_ne c, upd_ne c]
  refine ⟨ys, e _ _ hy, szL (by omega), Same.mut (Same.trans h e) gd, ys ++ [y], upd_same, by rw [List.length_append, hl]; rfl, fun j z hz => ?_⟩
  rw [eu]
  by_cases c : j < ys.length
  · rw [List.getElem?_append_left c] at hz
    exact mono _ _ _ _ (hr j z hz) ew
  · rw [List.getElem?_append_right (by omega)] at hz
    have hj : j = i := by
      by_cases c2 : j - ys.length = 0
      · omega
      · have : 1 ≤ j - ys.length := by omega
        rw [List.getElem?_eq_none (by simpa using this)] at hz; cases hz
    subst hj
    rw [hl, Nat.sub_self] at hz
    have : y = z := Option.some.inj hz
    subst this
    exact r
section
variable {K : PySem.W.Frag} {a : Addr} {xs : List V} {g : TG} {tt : TT} {te : TE} {vs : List Nat} {σ : L2.St} {H1 : Hp} {D : Addr} {Qd : Hp → Prop}
theorem gd_of {G H1 : Hp} (hG : Same G H1) (hD : H1 D = none) : G D = none := by
  cases e : G D with
  | none => rfl
  | some o => rw [hG _ _ e] at hD; cases hD
/-- [e for x in xs], over a list -/
theorem lc_mapL (G : Hp) (Rel : Nat → V → Hp → Prop) (mono : ∀ i y H H', Rel i y H → Same H H' → Rel i y H') (hG : Same G H1) (hD : H1 D = none) (hs : SqL K G a xs) (hn : xs.length ≤ 1000)
    (step : ∀ i x H', xs[i]? = some x → Same G H' → ∀ (Q' : V → Hp → Prop) (R : Hp → Prop), (∀ y H'', Same H' H'' → Rel i y (wo D H'') → Q' y H'') → (∃ zs, H' D = some (.lst zs)) → LcTurn g tt te vs σ x H' Q' R)
    (done : ∀ ys H', Same G H' → H' D = some (.lst ys) → ys.length = xs.length → (∀ j y, ys[j]? = some y → Rel j y (wo D H')) → Qd H') :
    ∃ W : Nat → Nat → Hp → Prop, (∃ m, W 0 m (upd H1 D (.lst []))) ∧ ∀ i m H, W i m H →
      ((Itl K a).stop i H ∧ Qd H) ∨ ((Itl K a).go i H ∧ ∃ Nx : Hp → Prop, (∀ H', Nx H' → ∃ m', m' < m ∧ W (i + 1) m' H') ∧ ∀ x H', (Itl K a).yld i H x H' → g x (wipe σ vs) H' fun σ2 H2 => wipe σ2 vs = wipe σ vs ∧ tt σ2 H2 fun b H3 =>
        if b = true then te σ2 H3 fun y H4 => ∃ acc, H4 D = some (.lst acc) ∧ acc.length < sizeLine ∧ Nx (upd H4 D (.lst (acc ++ [y]))) else Nx H3) := by
  refine lc_list (xs := xs) (LcAt G D Rel) (lcat_zero hG hD) (fun i H _ z => sqL z.1 hs) (fun i x H hx ⟨h1, ys, h2, h3, h4⟩ => ?_) (fun H ⟨h1, ys, h2, h3, h4⟩ => done ys H h1 h2 h3 h4)
  have hi : i < xs.length := (List.getElem?_eq_some_iff.mp hx).1
  refine step i x H hx h1 _ _ (fun y H'' e r => lcat_next (gd_of hG hD) mono h1 h2 h3 h4 (by omega) e r) ⟨ys, h2⟩
/-- .. over a tuple -/
theorem lc_mapT (G : Hp) (Rel : Nat → V → Hp → Prop) (mono : ∀ i y H H', Rel i y H → Same H H' → Rel i y H') (hG : Same G H1) (hD : H1 D = none) (hs : SqT K G a xs) (hn : xs.length ≤ 1000)
    (step : ∀ i x H', xs[i]? = some x → Same G H' → ∀ (Q' : V → Hp → Prop) (R : Hp → Prop), (∀ y H'', Same H' H'' → Rel i y (wo D H'') → Q' y H'') → (∃ zs, H' D = some (.lst zs)) → LcTurn g tt te vs σ x H' Q' R)
    (done : ∀ ys H', Same G H' → H' D = some (.lst ys) → ys.length = xs.length → (∀ j y, ys[j]? = some y → Rel j y (wo D H')) → Qd H') :
    ∃ W : Nat → Nat → Hp → Prop, (∃ m, W 0 m (upd H1 D (.lst []))) ∧ ∀ i m H, W i m H →
      ((Itt K a).stop i H ∧ Qd H) ∨ ((Itt K a).go i H ∧ ∃ Nx : Hp → Prop, (∀ H', Nx H' → ∃ m', m' < m ∧ W (i + 1) m' H') ∧ ∀ x H', (Itt K a).yld i H x H' → g x (wipe σ vs) H' fun σ2 H2 => wipe σ2 vs = wipe σ vs ∧ tt σ2 H2 fun b H3 =>
        if b = true then te σ2 H3 fun y H4 => ∃ acc, H4 D = some (.lst acc) ∧ acc.length < sizeLine ∧ Nx (upd H4 D (.lst (acc ++ [y]))) else Nx H3) := by
  refine lc_tup (xs := xs) (LcAt G D Rel) (lcat_zero hG hD) (fun i H _ z => sqT z.1 hs) (fun i x H hx ⟨h1, ys, h2, h3, h4⟩ => ?_) (fun H ⟨h1, ys, h2, h3, h4⟩ => done ys H h1 h2 h3 h4)
  have hi : i < xs.length := (List.getElem?_eq_some_iff.mp hx).1
  refine step i x H hx h1 _ _ (fun y H'' e r => lcat_next (gd_of hG hD) mono h1 h2 h3 h4 (by omega) e r) ⟨ys, h2⟩
/-- .. over a range -/
theorem lc_mapR {lo : Int} {n : Nat} (G : Hp) (Rel : Nat → V → Hp → Prop) (mono : ∀ i y H H', Rel i y H → Same H H' → Rel i y H') (hG : Same G H1) (hD : H1 D = none) (hn : n ≤ 1000)
    (step : ∀ i H', i < n → Same G H' → ∀ (Q' : V → Hp → Prop) (R : Hp → Prop), (∀ y H'', Same H' H'' → Rel i y (wo D H'') → Q' y H'') → (∃ zs, H' D = some (.lst zs)) → LcTurn g tt te vs σ (.int (lo + i)) H' Q' R)
    (done : ∀ ys H', Same G H' → H' D = some (.lst ys) → ys.length = n → (∀ j y, ys[j]? = some y → Rel j y (wo D H')) → Qd H') :
    ∃ W : Nat → Nat → Hp → Prop, (∃ m, W 0 m (upd H1 D (.lst []))) ∧ ∀ i m H, W i m H →
      ((Itr lo n).stop i H ∧ Qd H) ∨ ((Itr lo n).go i H ∧ ∃ Nx : Hp → Prop, (∀ H', Nx H' → ∃ m', m' < m ∧ W (i + 1) m' H') ∧ ∀ x H', (Itr lo n).yld i H x H' → g x (wipe σ vs) H' fun σ2 H2 => wipe σ2 vs = wipe σ vs ∧ tt σ2 H2 fun b H3 =>
        if b = true then te σ2 H3 fun y H4 => ∃ acc, H4 D = some (.lst acc) ∧ acc.length < sizeLine ∧ Nx (upd H4 D (.lst (acc ++ [y]))) else Nx H3) := by
  refine lc_range (LcAt G D Rel) (lcat_zero hG hD) (fun i H hi ⟨h1, ys, h2, h3, h4⟩ => ?_) (fun H ⟨h1, ys, h2, h3, h4⟩ => done ys H h1 h2 h3 h4)
  refine step i H hi h1 _ _ (fun y H'' e r => lcat_next (gd_of hG hD) mono h1 h2 h3 h4 (by omega) e r) ⟨ys, h2⟩
/-- [c for c in xs if p c], over a list of points -/
def LcF (K : PySem.W.Frag) (G : Hp) (D : Addr) (vs0 : List V) (cs : List Pt) (p : Pt → Bool) (i : Nat) (H : Hp) : Prop :=
  Same G H ∧ ∃ ys, H D = some (.lst ys) ∧ ys.length ≤ i ∧ PtV K G ys ((cs.take i).filter p)
theorem take_snoc {α : Type} {l : List α} {i : Nat} {x : α} (h : l[i]? = some x) : l.take (i + 1) = l.take i ++ [x] := by
  rw [List.take_add_one, h]; rfl
theorem lc_filter {cs : List Pt} (p : Pt → Bool) (G : Hp) (hG : Same G H1) (hD : H1 D = none) (hs : SqL K G a xs) (hp : PtV K G xs cs) (hn : xs.length ≤ 1000)
    (step : ∀ (i : Nat) (x : V) (c : Pt) (H' : Hp), xs[i]? = some x → cs[i]? = some c → IsPt K G x c → Same G H' → ∀ (Q' : V → Hp → Prop) (R : Hp → Prop), (p c = true → ∀ H'', Same H' H'' → Q' x H'') → (p c = false → ∀ H'', Same H' H'' → R H'') → LcTurn g tt te vs σ x H' Q' R)
    (done : ∀ ys H', Same G H' → H' D = some (.lst ys) → PtV K G ys (cs.filter p) → ys.length ≤ xs.length → Qd H') :
    ∃ W : Nat → Nat → Hp → Prop, (∃ m, W 0 m (upd H1 D (.lst []))) ∧ ∀ i m H, W i m H →
      ((Itl K a).stop i H ∧ Qd H) ∨ ((Itl K a).go i H ∧ ∃ Nx : Hp → Prop, (∀ H', Nx H' → ∃ m', m' < m ∧ W (i + 1) m' H') ∧ ∀ x H', (Itl K a).yld i H x H' → g x (wipe σ vs) H' fun σ2 H2 => wipe σ2 vs = wipe σ vs ∧ tt σ2 H2 fun b H3 =>
        if b = true then te σ2 H3 fun y H4 => ∃ acc, H4 D = some (.lst acc) ∧ acc.length < sizeLine ∧ Nx (upd H4 D (.lst (acc ++ [y]))) else Nx H3) := by
  have hcl := pair_len hp
  have gd := gd_of hG hD
  refine lc_list (xs := xs) (LcF K G D xs cs p) ⟨Same.newer hG hD, [], upd_same, Nat.le_refl _, .nil⟩ (fun i H _ z => sqL z.1 hs) (fun i x H hx ⟨h1, ys, h2, h3, h4⟩ => ?_) (fun H ⟨h1, ys, h2, h3, h4⟩ => done ys H h1 h2 (by rw [hcl, List.take_length] at h4; exact h4) h3)
  have hi : i < xs.length := (List.getElem?_eq_some_iff.mp hx).1
  obtain ⟨c, hc, hxc⟩ := pair_get hp hx
  refine step i x c H hx hc hxc h1 _ _ (fun hpc H'' e => ?_) (fun hpc H'' e => ?_)
  · refine ⟨ys, e _ _ h2, szL (by omega), Same.mut (Same.trans h1 e) gd, ys ++ [x], upd_same, by rw [List.length_append]; simp; omega, ?_⟩
    rw [take_snoc hc, List.filter_append, List.filter_cons, if_pos hpc, List.filter_nil]
    exact pair_app h4 (.cons hxc .nil)
  · refine ⟨Same.trans h1 e, ys, e _ _ h2, by omega, ?_⟩
    rw [take_snoc hc, List.filter_append, List.filter_cons, if_neg (by rw [hpc]; exact Bool.false_ne_true), List.filter_nil, List.append_nil]
    exact h4
end
theorem turn_yes {te : TE} {vs : List Nat} {σ : L2.St} {x : V} {H : Hp} {Q' : V → Hp → Prop} {R : Hp → Prop} {i : Nat} (h : wipe ((wipe σ vs).set i (some x)) vs = wipe σ vs) (h2 : te ((wipe σ vs).set i (some x)) H Q') : LcTurn (gName i) tYes te vs σ x H Q' R := by
  refine ⟨h, ?_⟩
  show if true = true then te ((wipe σ vs).set i (some x)) H Q' else R H
  rw [if_pos rfl]
  exact h2
/-- a tuple's type -/
theorem tyT {K : PySem.W.Frag} {H : Hp} {p : Addr} {xs : List V} (h : SqT K H p xs) : TyX K H (.ref p) (.type "tuple") := by
  rcases h with (h | ⟨o, h⟩) | ⟨o, its, n, h, hc, _⟩
  · exact .base (.tup h)
  · exact .fTuple h
  · exact .kTuple h hc
theorem tyL {K : PySem.W.Frag} {H : Hp} {p : Addr} {xs : List V} (h : SqL K H p xs) : TyX K H (.ref p) (.type "list") := by
  rcases h with (h | ⟨o, h⟩) | ⟨o, its, n, h, hc, _⟩
  · exact .base (.lst h)
  · exact .base (.frz h)
  · exact .kList h hc
theorem bools_of {ys : List V} (h : ∀ (j : Nat) (y : V), ys[j]? = some y → y = .bl true) : ys = (List.replicate ys.length true).map V.bl := by
  refine List.ext_getElem? fun j => ?_
  rw [List.getElem?_map]
  by_cases c : j < ys.length
  · rw [List.getElem?_replicate, if_pos c, List.getElem?_eq_getElem c, h j _ (List.getElem?_eq_getElem c)]
    rfl
  · rw [List.getElem?_eq_none (by omega), List.getElem?_replicate, if_neg c]
    rfl
theorem all_rep (n : Nat) : (List.replicate n true).all id = true := by
  induction n with
  | zero => rfl
  | succ n ih => rw [List.replicate_succ, List.all_cons, ih]; rfl
end KP

set_option Elab.async false
set_option linter.all false
set_option maxRecDepth 100000
set_option maxHeartbeats 4000000
namespace KP
open PySem PySem.Spec PyProof.Rows L2 KM
/-! ### steps of a reading -/
local macro_rules | `(tactic| walk_at "lift") => `(tactic| first
  | assumption
  | exact tup_of (by assumption)
  | exact lst_of (by assumption)
  | (refine sqT (by assumption) ?_; walk_at "lift")
  | (refine sqL (by assumption) ?_; walk_at "lift")
  | (refine TI.mono (by assumption) ?_; walk_at "lift")
  | (refine PtL.mono (by assumption) ?_; walk_at "lift")
  | (refine PtV.mono (by assumption) ?_; walk_at "lift")
  | (refine PolyAt.mono (by assumption) ?_; walk_at "lift"))
local macro_rules | `(tactic| walk_at "cond") => `(tactic| first
  | (refine (id ?_ : (_ : Prop)); omega)
  | (refine And.intro ?_ ?_ <;> omega)
  | (refine Or.inl (And.intro ?_ ?_) <;> omega)
  | (refine Or.inr (And.intro ?_ ?_) <;> omega)
  | (refine And.intro ?_ (And.intro ?_ ?_) <;> first | omega | decide))
local macro_rules | `(tactic| walk_at "new") => `(tactic| (intro p np; generalize hU : upd _ p _ = H3; have hU2 := gen_up np hU; clear hU; obtain ⟨e3, h3⟩ := hU2))
local macro_rules | `(tactic| walk_at "step") => `(tactic| first
  | (refine ⟨_, _, rfl, rfl, ?c, ?_⟩; (case c => walk_at "cond"))
  | refine ⟨_, _, rfl, rfl, ?_⟩
  | (refine ⟨_, ?xs, _, ?v, rfl, rfl, ?a, ?b, ?_⟩; (case a => walk_at "lift"); (case b => rfl))
  | refine ⟨_, rfl, ?_⟩
  | (refine ⟨_, _, rfl, Or.inl ?a, ?_⟩; (case a => walk_at "lift"))
  | (refine ⟨_, _, rfl, Or.inr ?a, ?_⟩; (case a => walk_at "lift"))
  | (refine ⟨szT (Nat.le_of_ble_eq_true rfl), ?_⟩; walk_at "new"))
local macro_rules | `(tactic| walk_at "go") => `(tactic| repeat walk_at "step")
section
variable {P : Program} {w : World} {K : PySem.W.Frag} {mg : Str → Option Value} {base : Heap}
/-! ### gcd -/
theorem gcd_abs (a : Int) : (if a < 0 then -a else a) = (a.natAbs : Int) := by split <;> omega
theorem gcd_step (x y : Int) (hx : 0 ≤ x) (hy : 0 < y) : Int.gcd y (x % y) = Int.gcd x y ∧ 0 ≤ x % y ∧ x % y < y := by
  refine ⟨?_, Int.emod_nonneg _ (by omega), Int.emod_lt_of_pos _ hy⟩
  obtain ⟨m, rfl⟩ := Int.eq_ofNat_of_zero_le hx
  obtain ⟨n, rfl⟩ := Int.eq_ofNat_of_zero_le (Int.le_of_lt hy)
  rw [← Int.natCast_emod]
  show Nat.gcd n (m % n) = Nat.gcd m n
  rw [Nat.gcd_comm, ← Nat.gcd_rec, Nat.gcd_comm]
theorem sc_gcd : FnScope ["first", "second"] ["first", "second"] (defScope s_gcd) := ⟨rfl, rfl, rfl, by decide +kernel, rfl, by decide +kernel, by decide +kernel⟩
theorem gcd_read (a b : Int) (H : Hp) (Q : VK) (h : Q (.int (Int.gcd a b)) H) (D : Ends) (hD : ∀ x y : Int, Int.gcd x y = Int.gcd a b → 0 ≤ x → y = 0 → D.nx [some (.int x), some (.int y)] H) :
  tWhile (tTest (tOp (rI0 fun i j => .bl (decide (j < i))) (tVar 1) (tC (.int 0)))) (tPar 0 1 (tCons (tVar 1) (tCons (tOp (rI (fun _ j => 0 < j) fun i j => .int (i % j)) (tVar 0) (tVar 1)) tNil))) D [some (.int (a.natAbs : Int)), some (.int (b.natAbs : Int))] H := by
  refine while_by (fun σ H' => ∃ x y : Int, σ = [some (.int x), some (.int y)] ∧ 0 ≤ x ∧ 0 ≤ y ∧ Int.gcd x y = Int.gcd a b ∧ H' = H) (fun σ _ => match σ with | [_, some (.int y)] => y.toNat | _ => 0) ⟨_, _, rfl, by omega, by omega, rfl, rfl⟩ ?_ ?_
  · rintro σ H' ⟨x, y, rfl, hx, hy, e, rfl⟩
    refine ⟨_, rfl, _, _, rfl, rfl, _, rfl, ?_⟩
    refine ite2 (fun c => ?_) (fun c => ?_)
    · have hy' : 0 < y := of_decide_eq_true c
      obtain ⟨e1, e2, e3⟩ := gcd_step x y hx hy'
      refine ⟨_, rfl, _, rfl, _, rfl, _, _, rfl, rfl, hy', _, _, rfl, ⟨_, _, rfl, hy, e2, e1.trans e, rfl⟩, ?_⟩
      show (x % y).toNat < y.toNat
      omega
    · have hy' : ¬ 0 < y := fun z => c (decide_eq_true z)
      exact hD x y e hx (by omega)
  · rintro σ H' Q1 Q2 hQ ⟨v, h1, i, j, h2, h3, k, h4, h5⟩
    exact ⟨v, h1, i, j, h2, h3, k, h4, hQ _ _ h5⟩
theorem ok_gcd (T : Txt K mg) (D : DefT K mg "gcd" s_gcd ["first", "second"]) : C8.Cal P w K mg base 1 "gcd" spGcd [] := by
  refine mkC D sc_gcd (fun vs H Q E h => ?_) (fun cdv A outer s H vs Q E hr h => ?_)
  · obtain ⟨_, _, rfl, _⟩ := h; rfl
  · obtain ⟨a, b, rfl, k⟩ := h
    refine ⟨_, (pss_cons (ps_par (i := 0) (j := 1) (by rfl) sc_gcd.nd rfl rfl (by decide) rfl rfl (pa_cons (pe_callB call_abs (by rfl) T.f_abs (by decide +kernel) (pa_cons (pv 0) pa_nil)) (pa_cons (pe_callB call_abs (by rfl) T.f_abs (by decide +kernel) (pa_cons (pv 1) pa_nil)) pa_nil)) (by rfl))
      (pss_cons (ps_while PassesOwn.never (pt_cmpR op_gt (pv 1) pe_int (nomark _)) (pss_one (ps_par (i := 0) (j := 1) (by rfl) sc_gcd.nd rfl rfl (by decide) rfl rfl (pa_cons (pv 1) (pa_cons (pe_op op_mod (pv 0) (pv 1)) pa_nil)) (by rfl))))
      (pss_one (ps_ret (pv 0))))), ?_⟩
    refine ⟨_, rfl, _, rfl, _, rfl, _, rfl, _, _, rfl, ?_⟩
    show tSeq _ _ _ [some (.int (if a < 0 then -a else a)), some (.int (if b < 0 then -b else b))] H
    rw [gcd_abs, gcd_abs]
    refine gcd_read a b H Q k _ fun x y e hx hy => ?_
    refine ⟨_, rfl, ?_⟩
    subst hy
    have e' : x = (Int.gcd a b : Int) := by rw [← e, Int.gcd_zero_right]; omega
    rw [e']
    exact k
theorem sc__law_gcd : FnScope ["_law_one", "_law_two"] ["_law_one", "_law_two"] (defScope s__law_gcd) := ⟨rfl, rfl, rfl, by decide +kernel, rfl, by decide +kernel, by decide +kernel⟩
theorem ok_lgcd (T : Txt K mg) (D : DefT K mg "_law_gcd" s__law_gcd ["_law_one", "_law_two"]) : C8.Cal P w K mg base 1 "_law_gcd" spGcd [] := by
  refine mkC D sc__law_gcd (fun vs H Q E h => ?_) (fun cdv A outer s H vs Q E hr h => ?_)
  · obtain ⟨_, _, rfl, _⟩ := h; rfl
  · obtain ⟨a, b, rfl, k⟩ := h
    refine ⟨_, (pss_cons (ps_par (i := 0) (j := 1) (by rfl) sc__law_gcd.nd rfl rfl (by decide) rfl rfl (pa_cons (pe_callB call_abs (by rfl) T.f_abs (by decide +kernel) (pa_cons (pv 0) pa_nil)) (pa_cons (pe_callB call_abs (by rfl) T.f_abs (by decide +kernel) (pa_cons (pv 1) pa_nil)) pa_nil)) (by rfl))
      (pss_cons (ps_while PassesOwn.never (pt_cmpR op_gt (pv 1) pe_int (nomark _)) (pss_one (ps_par (i := 0) (j := 1) (by rfl) sc__law_gcd.nd rfl rfl (by decide) rfl rfl (pa_cons (pv 1) (pa_cons (pe_op op_mod (pv 0) (pv 1)) pa_nil)) (by rfl))))
      (pss_one (ps_ret (pv 0))))), ?_⟩
    refine ⟨_, rfl, _, rfl, _, rfl, _, rfl, _, _, rfl, ?_⟩
    show tSeq _ _ _ [some (.int (if a < 0 then -a else a)), some (.int (if b < 0 then -b else b))] H
    rw [gcd_abs, gcd_abs]
    refine gcd_read a b H Q k _ fun x y e hx hy => ?_
    refine ⟨_, rfl, ?_⟩
    subst hy
    have e' : x = (Int.gcd a b : Int) := by rw [← e, Int.gcd_zero_right]; omega
    rw [e']
    exact k
/-! ### cross, difference, whole numbers -/
theorem sc_cross : FnScope ["first", "second"] ["first", "second"] (defScope s_cross) := ⟨rfl, rfl, rfl, by decide +kernel, rfl, by decide +kernel, by decide +kernel⟩
theorem ok_cross (T : Txt K mg) (D : DefT K mg "cross" s_cross ["first", "second"]) : C8.Cal P w K mg base 1 "cross" (spCross K) [] := by
  refine mkC D sc_cross (fun vs H Q E h => ?_) (fun cdv A outer s H vs Q E hr h => ?_)
  · obtain ⟨_, _, _, _, rfl, _⟩ := h; rfl
  · obtain ⟨v1, v2, a, b, rfl, ⟨p1, rfl, h1⟩, ⟨p2, rfl, h2⟩, ⟨⟨m1, m2⟩, m3, m4⟩, k⟩ := h
    refine ⟨_, (pss_one (ps_ret (pe_op op_sub (pe_op op_mul (pe_ix ix_tup (pv 0) pe_int (fun _ _ => rfl)) (pe_ix ix_tup (pv 1) pe_int (fun _ _ => rfl))) (pe_op op_mul (pe_ix ix_tup (pv 0) pe_int (fun _ _ => rfl)) (pe_ix ix_tup (pv 1) pe_int (fun _ _ => rfl)))))), ?_⟩
    walk_at "go"
    exact k
theorem sc__law_cross : FnScope ["_law_one", "_law_two"] ["_law_one", "_law_two"] (defScope s__law_cross) := ⟨rfl, rfl, rfl, by decide +kernel, rfl, by decide +kernel, by decide +kernel⟩
theorem ok_lcross (T : Txt K mg) (D : DefT K mg "_law_cross" s__law_cross ["_law_one", "_law_two"]) : C8.Cal P w K mg base 1 "_law_cross" (spCross K) [] := by
  refine mkC D sc__law_cross (fun vs H Q E h => ?_) (fun cdv A outer s H vs Q E hr h => ?_)
  · obtain ⟨_, _, _, _, rfl, _⟩ := h; rfl
  · obtain ⟨v1, v2, a, b, rfl, ⟨p1, rfl, h1⟩, ⟨p2, rfl, h2⟩, ⟨⟨m1, m2⟩, m3, m4⟩, k⟩ := h
    refine ⟨_, (pss_one (ps_ret (pe_op op_sub (pe_op op_mul (pe_ix ix_tup (pv 0) pe_int (fun _ _ => rfl)) (pe_ix ix_tup (pv 1) pe_int (fun _ _ => rfl))) (pe_op op_mul (pe_ix ix_tup (pv 0) pe_int (fun _ _ => rfl)) (pe_ix ix_tup (pv 1) pe_int (fun _ _ => rfl)))))), ?_⟩
    walk_at "go"
    exact k
theorem sc_difference : FnScope ["first", "second"] ["first", "second"] (defScope s_difference) := ⟨rfl, rfl, rfl, by decide +kernel, rfl, by decide +kernel, by decide +kernel⟩
theorem ok_difference (T : Txt K mg) (D : DefT K mg "difference" s_difference ["first", "second"]) : C8.Cal P w K mg base 1 "difference" (spDifference K) [] := by
  refine mkC D sc_difference (fun vs H Q E h => ?_) (fun cdv A outer s H vs Q E hr h => ?_)
  · obtain ⟨_, _, _, _, rfl, _⟩ := h; rfl
  · obtain ⟨v1, v2, a, b, rfl, ⟨p1, rfl, h1⟩, ⟨p2, rfl, h2⟩, k⟩ := h
    refine ⟨_, (pss_one (ps_ret (pe_tup (pa_cons (pe_op op_sub (pe_ix ix_tup (pv 0) pe_int (fun _ _ => rfl)) (pe_ix ix_tup (pv 1) pe_int (fun _ _ => rfl))) (pa_cons (pe_op op_sub (pe_ix ix_tup (pv 0) pe_int (fun _ _ => rfl)) (pe_ix ix_tup (pv 1) pe_int (fun _ _ => rfl))) pa_nil))))), ?_⟩
    walk_at "go"
    exact k _ _ (by assumption) ⟨_, rfl, tup_of (by assumption)⟩
theorem sc_is_int : FnScope ["value"] ["value"] (defScope s_is_int) := ⟨rfl, rfl, rfl, by decide +kernel, rfl, by decide +kernel, by decide +kernel⟩
theorem ok_is_int (T : Txt K mg) (D : DefT K mg "is_int" s_is_int ["value"]) : C8.Cal P w K mg base 1 "is_int" spIsInt [] := by
  refine mkC D sc_is_int (fun vs H Q E h => ?_) (fun cdv A outer s H vs Q E hr h => ?_)
  · obtain ⟨_, rfl, _⟩ := h; rfl
  · obtain ⟨i, rfl, k⟩ := h
    refine ⟨_, (pss_one (ps_ret (pe_and (pe_callB call_isi (by rfl) T.f_isinstance (by decide +kernel) (pa_cons (pv 0) (pa_cons (pe_bltn (by rfl) T.f_int (by decide +kernel) (v := .ty "int") rfl) pa_nil))) (pe_one (pe_not (pe_callB call_isi (by rfl) T.f_isinstance (by decide +kernel) (pa_cons (pv 0) (pa_cons (pe_bltn (by rfl) T.f_bool (by decide +kernel) (v := .ty "bool") rfl) pa_nil)))))))), ?_⟩
    refine ⟨_, rfl, _, _, _, _, _, rfl, .ty _, .base (.int _), kit_ty (r := true) (by decide +kernel), ?_⟩
    refine ⟨_, rfl, iteT ?_⟩
    refine ⟨_, rfl, _, _, _, _, _, rfl, .ty _, .base (.int _), kit_ty (r := false) (by decide +kernel), ?_⟩
    exact ⟨_, rfl, k⟩
theorem sc_is_int_in : FnScope ["value", "low", "high"] ["value", "low", "high"] (defScope s_is_int_in) := ⟨rfl, rfl, rfl, by decide +kernel, rfl, by decide +kernel, by decide +kernel⟩
theorem ok_is_int_in (T : Txt K mg) (D : DefT K mg "is_int_in" s_is_int_in ["value", "low", "high"]) (c_is_int : C8.Cal P w K mg base 1 "is_int" spIsInt []) : C8.Cal P w K mg base 2 "is_int_in" spIsIntIn [] := by
  refine mkC D sc_is_int_in (fun vs H Q E h => ?_) (fun cdv A outer s H vs Q E hr h => ?_)
  · obtain ⟨_, _, _, rfl, _⟩ := h; rfl
  · obtain ⟨v, lo, hi, rfl, h1, h2, k⟩ := h
    refine ⟨_, (pss_one (ps_ret (pe_and (C8.pe_c c_is_int hr (by decide) rfl (pa_cons (pv 0) pa_nil)) (pe_one (pe_chain op_le op_le (pv 1) (pv 0) (pv 2)))))), ?_⟩
    refine ⟨_, rfl, _, rfl, _, rfl, iteT ?_⟩
    refine ⟨_, rfl, _, rfl, _, _, rfl, rfl, _, rfl, ?_⟩
    rw [decide_eq_true h1]
    refine iteT ⟨_, rfl, _, _, rfl, rfl, ?_⟩
    show Q (.bl (decide (v ≤ hi))) H
    rw [decide_eq_true h2]
    exact k
end
end KP

set_option Elab.async false
set_option linter.all false
set_option maxRecDepth 100000
set_option maxHeartbeats 4000000
namespace KP
open PySem PySem.Spec PyProof.Rows L2 KM
/-! ### steps of a reading -/
local macro_rules | `(tactic| walk_at "lift") => `(tactic| first
  | assumption
  | exact tup_of (by assumption)
  | exact lst_of (by assumption)
  | (refine sqT (by assumption) ?_; walk_at "lift")
  | (refine sqL (by assumption) ?_; walk_at "lift")
  | (refine TI.mono (by assumption) ?_; walk_at "lift")
  | (refine PtL.mono (by assumption) ?_; walk_at "lift")
  | (refine PtV.mono (by assumption) ?_; walk_at "lift")
  | (refine PolyAt.mono (by assumption) ?_; walk_at "lift"))
local macro_rules | `(tactic| walk_at "cond") => `(tactic| first
  | (refine (id ?_ : (_ : Prop)); omega)
  | (refine And.intro ?_ ?_ <;> omega)
  | (refine Or.inl (And.intro ?_ ?_) <;> omega)
  | (refine Or.inr (And.intro ?_ ?_) <;> omega)
  | (refine And.intro ?_ (And.intro ?_ ?_) <;> first | omega | decide))
local macro_rules | `(tactic| walk_at "new") => `(tactic| (intro p np; generalize hU : upd _ p _ = H3; have hU2 := gen_up np hU; clear hU; obtain ⟨e3, h3⟩ := hU2))
local macro_rules | `(tactic| walk_at "step") => `(tactic| first
  | (refine ⟨_, _, rfl, rfl, ?c, ?_⟩; (case c => walk_at "cond"))
  | refine ⟨_, _, rfl, rfl, ?_⟩
  | (refine ⟨_, ?xs, _, ?v, rfl, rfl, ?a, ?b, ?_⟩; (case a => walk_at "lift"); (case b => rfl))
  | refine ⟨_, rfl, ?_⟩
  | (refine ⟨_, _, rfl, Or.inl ?a, ?_⟩; (case a => walk_at "lift"))
  | (refine ⟨_, _, rfl, Or.inr ?a, ?_⟩; (case a => walk_at "lift"))
  | (refine ⟨szT (Nat.le_of_ble_eq_true rfl), ?_⟩; walk_at "new"))
local macro_rules | `(tactic| walk_at "go") => `(tactic| repeat walk_at "step")
section
variable {P : Program} {w : World} {K : PySem.W.Frag} {mg : Str → Option Value} {base : Heap}
theorem int_at {ns : List Int} {i : Nat} {x : V} (h : (ns.map V.int)[i]? = some x) : ∃ n, x = .int n ∧ n ∈ ns := by
  rw [List.getElem?_map] at h
  cases e : ns[i]? with
  | none => rw [e] at h; cases h
  | some n => rw [e] at h; exact ⟨n, (Option.some.inj h).symm, List.mem_of_getElem? e⟩
theorem sc_is_point_shape : FnScope ["value", "number"] ["value"] (defScope s_is_point_shape) := ⟨rfl, rfl, rfl, by decide +kernel, rfl, by decide +kernel, by decide +kernel⟩
theorem ok_shapeP (T : Txt K mg) (D : DefT K mg "is_point_shape" s_is_point_shape ["value"]) (c_is_int : C8.Cal P w K mg base 1 "is_int" spIsInt []) (c_gcd : C8.Cal P w K mg base 1 "gcd" spGcd []) : C8.Cal P w K mg base 2 "is_point_shape" (spShapeP K) [] := by
  refine mkC D sc_is_point_shape (fun vs H Q E h => ?_) (fun cdv A outer s H vs Q E hr h => ?_)
  · obtain ⟨_, _, _, _, rfl, _⟩ := h; rfl
  · obtain ⟨v, x, y, d, rfl, ⟨p, rfl, ht⟩, hd, hg, k⟩ := h
    refine ⟨_, (pss_cons (ps_if (PW.pt (pw_or (pt_not (pt_val (pe_callB call_isi (by rfl) T.f_isinstance (by decide +kernel) (pa_cons (pv 0) (pa_cons (pe_bltn (by rfl) T.f_tuple (by decide +kernel) (v := .ty "tuple") rfl) pa_nil))))) (pw_or (pt_cmpR op_ne (pe_callB call_len_seq (by rfl) T.f_len PySem.boot_len (pa_cons (pv 0) pa_nil)) pe_int (nomark _)) (pw_or1 (pt_not (pt_val (pe_callB (cr_all rfl) (by rfl) T.f_all (by decide +kernel) (pa_cons (pe_lc (own := [("number", 1)]) (g := gName 1) (tt := tYes) (by rfl) sc_is_point_shape.nd (pi_tup (pv 0)) (blkOk_by (own := [("number", 1)]) (N := ["value", "number"]) (sc := defScope s_is_point_shape) (by decide +kernel)) (fun _ _ _ _ _ => (pg_name (i := 1) sc_is_point_shape.nd rfl (Or.inl rfl))) (fun _ _ _ _ _ => pts_nil) (fun _ _ _ _ _ => (C8.pe_c c_is_int hr (by decide) rfl (pa_cons (pv 1) pa_nil)))) pa_nil)))))))) (pss_one (ps_ret pe_bl)) pss_nil)
      (pss_one (ps_ret (pe_and (pe_cmpR op_ge (pe_ix ix_tup (pv 0) pe_int (fun _ _ => rfl)) pe_int (nomark _)) (pe_one (pe_cmpR op_eq (C8.pe_c c_gcd hr (by decide) rfl (pa_cons (C8.pe_c c_gcd hr (by decide) rfl (pa_cons (pe_ix ix_tup (pv 0) pe_int (fun _ _ => rfl)) (pa_cons (pe_ix ix_tup (pv 0) pe_int (fun _ _ => rfl)) pa_nil))) (pa_cons (pe_ix ix_tup (pv 0) pe_int (fun _ _ => rfl)) pa_nil))) pe_int (nomark _))))))), ?_⟩
    refine ⟨_, rfl, _, _, _, _, _, rfl, .ty _, tyT ht, kit_ty (r := true) (by decide +kernel), _, rfl, iteF ?_⟩
    refine ⟨_, rfl, _, _, rfl, Or.inr ht, rfl, _, rfl, iteNS rfl ?_⟩
    refine ⟨_, rfl, p, rfl, ⟨_, ht⟩, fun D hD => lc_mapT H (fun _ y _ => y = .bl true) (fun _ _ _ _ h _ => h) (Same.refl H) hD ht (Nat.le_of_ble_eq_true rfl) (fun i x H' hx e Q' R hq _ => ?_) (fun ys H' e hy hl hb => ?_)⟩
    · obtain ⟨n, rfl, _⟩ := int_at hx
      exact turn_yes rfl ⟨_, rfl, n, rfl, hq _ _ (Same.refl _) rfl⟩
    · refine ⟨D, List.replicate ys.length true, rfl, by rw [← bools_of hb]; exact lst_of hy, ?_⟩
      rw [all_rep]
      refine ⟨_, rfl, iteF ?_⟩
      walk_at "go"
      refine iteD hd ?_
      walk_at "go"
      refine ⟨_, _, rfl, ?_⟩
      walk_at "go"
      refine bl_of (by rw [hg]; rfl) (k _ e)
theorem sc_is_point : FnScope ["value", "limit", "number"] ["value"] (defScope s_is_point) := ⟨rfl, rfl, rfl, by decide +kernel, rfl, by decide +kernel, by decide +kernel⟩
theorem ok_isPoint (T : Txt K mg) (D : DefT K mg "is_point" s_is_point ["value"]) (c_is_int_in : C8.Cal P w K mg base 2 "is_int_in" spIsIntIn []) (c_is_point_shape : C8.Cal P w K mg base 2 "is_point_shape" (spShapeP K) []) : C8.Cal P w K mg base 3 "is_point" (spIsPoint K) [] := by
  refine mkC D sc_is_point (fun vs H Q E h => ?_) (fun cdv A outer s H vs Q E hr h => ?_)
  · obtain ⟨_, _, _, _, rfl, _⟩ := h; rfl
  · obtain ⟨v, x, y, d, rfl, ⟨p, rfl, ht⟩, ⟨g1, g2, g3, g4, g5, g6, g7⟩, k⟩ := h
    refine ⟨_, (pss_cons (ps_if (PW.pt (pw_or (pt_not (pt_val (C8.pe_c c_is_point_shape hr (by decide) rfl (pa_cons (pv 0) pa_nil)))) (pw_or1 (pt_cmpR op_gt (pe_ix ix_tup (pv 0) pe_int (fun _ _ => rfl)) (C8.pe_gc (x := "MAX_DENOMINATOR") rfl T.m_MAX_DENOMINATOR) (nomark _))))) (pss_one (ps_ret pe_bl)) pss_nil)
      (pss_cons (ps_set (i := 1) sc_is_point.nd rfl (Or.inr rfl) (pe_op op_mul (C8.pe_gc (x := "MAX_DISTANCE") rfl T.m_MAX_DISTANCE) (pe_ix ix_tup (pv 0) pe_int (fun _ _ => rfl))))
      (pss_one (ps_ret (pe_callB (cr_all rfl) (by rfl) T.f_all (by decide +kernel) (pa_cons (pe_lc (own := [("number", 2)]) (g := gName 2) (tt := tYes) (by rfl) sc_is_point.nd (pi_tup (pe_slice sl_tup (pv 0) po_none (po_some pe_int))) (blkOk_by (own := [("number", 2)]) (N := ["value", "limit", "number"]) (sc := defScope s_is_point) (by decide +kernel)) (fun _ _ _ _ _ => (pg_name (i := 2) sc_is_point.nd rfl (Or.inl rfl))) (fun _ _ _ _ _ => pts_nil) (fun _ _ _ _ _ => (C8.pe_c c_is_int_in hr (by decide) rfl (pa_cons (pv 2) (pa_cons (pe_un un_neg (pv 1)) (pa_cons (pv 1) pa_nil)))))) pa_nil)))))), ?_⟩
    refine ⟨_, rfl, _, x, y, d, rfl, ⟨p, rfl, ht⟩, g1, g3, fun H1 e1 => ?_⟩
    refine ⟨_, rfl, iteF ?_⟩
    walk_at "go"
    refine iteDn (by omega) ?_
    -- limit = MAX_DISTANCE * value[2]
    walk_at "go"
    refine ⟨p, _, rfl, sqT e1 ht, fun z => absurd z.2 (show ¬ HT.sIx 3 3 (some 2) = 3 by decide), fun t nt => ?_⟩
    have e2 : Same H1 (upd H1 t (.tup (cutV ([x, y, d].map V.int) none (some 2)))) := Same.new nt
    have h2' : (upd H1 t (.tup (cutV ([x, y, d].map V.int) none (some 2)))) t = some (.tup ([x, y].map V.int)) := upd_same
    generalize upd H1 t (.tup (cutV ([x, y, d].map V.int) none (some 2))) = H2 at e2 h2' ⊢
    refine ⟨t, rfl, ⟨_, tup_of h2'⟩, fun D hD => lc_mapT H2 (fun _ y _ => y = .bl true) (fun _ _ _ _ h _ => h) (Same.refl H2) hD (tup_of h2') (Nat.le_of_ble_eq_true rfl) (fun i x1 H' hx e Q' R hq _ => ?_) (fun ys H' e hy hl hb => ?_)⟩
    · obtain ⟨n, rfl, hn⟩ := int_at hx
      refine turn_yes rfl ?_
      walk_at "go"
      have b : -(10 ^ 40 * d) ≤ n ∧ n ≤ 10 ^ 40 * d := by
        rcases List.mem_cons.mp hn with rfl | hn
        · exact ⟨g4, g5⟩
        · have : n = y := by simpa using hn
          rw [this]; exact ⟨g6, g7⟩
      exact ⟨_, _, _, rfl, b.1, b.2, hq _ _ (Same.refl _) rfl⟩
    · refine ⟨D, List.replicate ys.length true, rfl, by rw [← bools_of hb]; exact lst_of hy, ?_⟩
      rw [all_rep]
      exact k _ (Same.trans e1 (Same.trans e2 e))
theorem sc_require_point : FnScope ["point"] ["point"] (defScope s_require_point) := ⟨rfl, rfl, rfl, by decide +kernel, rfl, by decide +kernel, by decide +kernel⟩
theorem ok_reqPoint (T : Txt K mg) (D : DefT K mg "require_point" s_require_point ["point"]) (c_is_point : C8.Cal P w K mg base 3 "is_point" (spIsPoint K) []) : C8.Cal P w K mg base 4 "require_point" (spReqPoint K) [] := by
  refine mkC D sc_require_point (fun vs H Q E h => ?_) (fun cdv A outer s H vs Q E hr h => ?_)
  · obtain ⟨_, _, _, _, rfl, _⟩ := h; rfl
  · obtain ⟨v, x, y, d, rfl, ht, g, k⟩ := h
    refine ⟨_, (pss_one (ps_if (pt_not (pt_val (C8.pe_c c_is_point hr (by decide) rfl (pa_cons (pv 0) pa_nil)))) (pss_one ps_never) pss_nil)), ?_⟩
    refine ⟨_, rfl, _, x, y, d, rfl, ht, g, fun H1 e1 => ?_⟩
    refine ⟨_, rfl, iteF ?_⟩
    exact k _ e1
theorem sc_reflected : FnScope ["point", "vertex", "x", "y", "denominator"] ["point", "vertex"] (defScope s_reflected) := ⟨rfl, rfl, rfl, by decide +kernel, rfl, by decide +kernel, by decide +kernel⟩
theorem ok_reflected (T : Txt K mg) (D : DefT K mg "reflected" s_reflected ["point", "vertex"]) : C8.Cal P w K mg base 1 "reflected" (spReflected K) [] := by
  refine mkC D sc_reflected (fun vs H Q E h => ?_) (fun cdv A outer s H vs Q E hr h => ?_)
  · obtain ⟨_, _, _, _, _, _, rfl, _⟩ := h; rfl
  · obtain ⟨v, c, x, y, d, z, rfl, ⟨p, rfl, ht⟩, ⟨q, rfl, hz⟩, ⟨⟨b1, b2⟩, b3, b4⟩, k⟩ := h
    refine ⟨_, (pss_cons (ps_asg (pv 0) (pg_tup rfl (pgs_cons (pg_name (i := 2) sc_reflected.nd rfl (Or.inl rfl)) (pgs_cons (pg_name (i := 3) sc_reflected.nd rfl (Or.inl rfl)) (pgs_cons (pg_name (i := 4) sc_reflected.nd rfl (Or.inl rfl)) pgs_nil)))))
      (pss_one (ps_ret (pe_tup (pa_cons (pe_op op_sub (pe_op op_mul (pe_op op_mul pe_int (pe_ix ix_tup (pv 1) pe_int (fun _ _ => rfl))) (pv 4)) (pv 2)) (pa_cons (pe_op op_sub (pe_op op_mul (pe_op op_mul pe_int (pe_ix ix_tup (pv 1) pe_int (fun _ _ => rfl))) (pv 4)) (pv 3)) (pa_cons (pv 4) pa_nil))))))), ?_⟩
    refine ⟨_, rfl, p, _, rfl, ht, rfl, _, _, rfl, _, _, rfl, _, _, rfl, rfl, ?_⟩
    walk_at "go"
    exact k _ _ (by assumption)
end
end KP

set_option Elab.async false
set_option linter.all false
set_option maxRecDepth 100000
set_option maxHeartbeats 4000000
namespace KP
open PySem PySem.Spec PyProof.Rows L2 KM
/-! ### steps of a reading -/
local macro_rules | `(tactic| walk_at "lift") => `(tactic| first
  | assumption
  | exact tup_of (by assumption)
  | exact lst_of (by assumption)
  | (refine sqT (by assumption) ?_; walk_at "lift")
  | (refine sqL (by assumption) ?_; walk_at "lift")
  | (refine TI.mono (by assumption) ?_; walk_at "lift")
  | (refine PtL.mono (by assumption) ?_; walk_at "lift")
  | (refine PtV.mono (by assumption) ?_; walk_at "lift")
  | (refine PolyAt.mono (by assumption) ?_; walk_at "lift"))
local macro_rules | `(tactic| walk_at "cond") => `(tactic| first
  | (refine (id ?_ : (_ : Prop)); omega)
  | (refine And.intro ?_ ?_ <;> omega)
  | (refine Or.inl (And.intro ?_ ?_) <;> omega)
  | (refine Or.inr (And.intro ?_ ?_) <;> omega)
  | (refine And.intro ?_ (And.intro ?_ ?_) <;> first | omega | decide))
local macro_rules | `(tactic| walk_at "new") => `(tactic| (intro p np; generalize hU : upd _ p _ = H3; have hU2 := gen_up np hU; clear hU; obtain ⟨e3, h3⟩ := hU2))
local macro_rules | `(tactic| walk_at "step") => `(tactic| first
  | (refine ⟨_, _, rfl, rfl, ?c, ?_⟩; (case c => walk_at "cond"))
  | refine ⟨_, _, rfl, rfl, ?_⟩
  | (refine ⟨_, ?xs, _, ?v, rfl, rfl, ?a, ?b, ?_⟩; (case a => walk_at "lift"); (case b => rfl))
  | refine ⟨_, rfl, ?_⟩
  | (refine ⟨_, _, rfl, Or.inl ?a, ?_⟩; (case a => walk_at "lift"))
  | (refine ⟨_, _, rfl, Or.inr ?a, ?_⟩; (case a => walk_at "lift"))
  | (refine ⟨szT (Nat.le_of_ble_eq_true rfl), ?_⟩; walk_at "new"))
local macro_rules | `(tactic| walk_at "go") => `(tactic| repeat walk_at "step")
/-! ### vertices and edges of a list of points -/
theorem vt_get {K : PySem.W.Frag} {H : Hp} {vs : List V} {cs : List Pt} (hp : PtV K H vs cs) (hne : cs ≠ []) (k : Nat) : ∃ v, vs[k % cs.length]? = some v ∧ IsPt K H v (vt cs k) := by
  have hl : k % cs.length < cs.length := Nat.mod_lt _ (List.length_pos_iff.mpr hne)
  obtain ⟨v, h1, h2⟩ := pair_get' hp (List.getElem?_eq_getElem hl)
  refine ⟨v, h1, ?_⟩
  have e : vt cs k = cs[k % cs.length] := by
    unfold vt
    rw [List.getD_eq_getElem?_getD, List.getElem?_eq_getElem hl]; rfl
  rw [e]; exact h2
theorem vt_mem {cs : List Pt} (hne : cs ≠ []) (k : Nat) : vt cs k ∈ cs := by
  have hl : k % cs.length < cs.length := Nat.mod_lt _ (List.length_pos_iff.mpr hne)
  unfold vt
  rw [List.getD_eq_getElem?_getD, List.getElem?_eq_getElem hl]
  exact List.getElem_mem hl
theorem ed_bd {cs : List Pt} (hne : cs ≠ []) (B : Bd cs) (k : Nat) : (-120 ≤ (ed cs k).1 ∧ (ed cs k).1 ≤ 120) ∧ (-120 ≤ (ed cs k).2 ∧ (ed cs k).2 ≤ 120) := by
  have h1 := B _ (vt_mem hne k)
  have h2 := B _ (vt_mem hne (k + 1))
  unfold ed df
  exact ⟨⟨by show -120 ≤ _ - _; omega, by show _ - _ ≤ (120 : Int); omega⟩, by show -120 ≤ _ - _; omega, by show _ - _ ≤ (120 : Int); omega⟩
theorem ed_sm {cs : List Pt} (hne : cs ≠ []) (B : Bd cs) (k : Nat) : Sm (ed cs k) := by
  have h := ed_bd hne B k
  unfold Sm; omega
theorem lk_cycle (v : V) : ([(("cycle" : Str), v)] : List (Str × V)).lookup ("cycle" : Str) = some v := by simp [List.lookup]
theorem lk_vertex (v : V) : ([(("cycle" : Str), v)] : List (Str × V)).lookup ("vertex" : Str) = none := by
  have : (("vertex" : Str) == ("cycle" : Str)) = false := by decide +kernel
  simp [List.lookup, this]
theorem lk_edge (v : V) : ([(("cycle" : Str), v)] : List (Str × V)).lookup ("edge" : Str) = none := by
  have : (("edge" : Str) == ("cycle" : Str)) = false := by decide +kernel
  simp [List.lookup, this]
section
variable {K : PySem.W.Frag} {g : TG} {tt : TT} {te : TE} {vs : List Nat} {σ : L2.St} {H1 : Hp} {D : Addr} {Qd : Hp → Prop}
/-- [e for k in range(n)] -/
theorem lc_map0 {n : Nat} (G : Hp) (Rel : Nat → V → Hp → Prop) (mono : ∀ i y H H', Rel i y H → Same H H' → Rel i y H') (hG : Same G H1) (hD : H1 D = none) (hn : n ≤ 1000)
    (step : ∀ (i : Nat) (H' : Hp), i < n → Same G H' → ∀ (Q' : V → Hp → Prop) (R : Hp → Prop), (∀ y H'', Same H' H'' → Rel i y (wo D H'') → Q' y H'') → (∃ zs, H' D = some (.lst zs)) → LcTurn g tt te vs σ (.int (i : Nat)) H' Q' R)
    (done : ∀ ys H', Same G H' → H' D = some (.lst ys) → ys.length = n → (∀ j y, ys[j]? = some y → Rel j y (wo D H')) → Qd H') :
    ∃ W : Nat → Nat → Hp → Prop, (∃ m, W 0 m (upd H1 D (.lst []))) ∧ ∀ i m H, W i m H →
      ((Itr 0 n).stop i H ∧ Qd H) ∨ ((Itr 0 n).go i H ∧ ∃ Nx : Hp → Prop, (∀ H', Nx H' → ∃ m', m' < m ∧ W (i + 1) m' H') ∧ ∀ x H', (Itr 0 n).yld i H x H' → g x (wipe σ vs) H' fun σ2 H2 => wipe σ2 vs = wipe σ vs ∧ tt σ2 H2 fun b H3 =>
        if b = true then te σ2 H3 fun y H4 => ∃ acc, H4 D = some (.lst acc) ∧ acc.length < sizeLine ∧ Nx (upd H4 D (.lst (acc ++ [y]))) else Nx H3) :=
  lc_mapR G Rel mono hG hD hn (fun i H' hi e Q' R hq hn => by
    rw [show (0 : Int) + (i : Nat) = (i : Nat) from Int.zero_add _]
    exact step i H' hi e Q' R hq hn) done
theorem ints_rng {ys : List V} {n : Nat} {f : Nat → Int} (hl : ys.length = n) (h : ∀ (j : Nat) (y : V), ys[j]? = some y → y = .int (f j)) : ys = ((List.range n).map f).map V.int := by
  refine List.ext_getElem? fun j => ?_
  rw [List.getElem?_map, List.getElem?_map]
  by_cases c : j < ys.length
  · rw [List.getElem?_eq_getElem c, List.getElem?_range (by omega), h j _ (List.getElem?_eq_getElem c)]
    rfl
  · rw [List.getElem?_eq_none (by omega), List.getElem?_eq_none (by simp; omega)]
    rfl
end
section
variable {P : Program} {w : World} {K : PySem.W.Frag} {mg : Str → Option Value} {base : Heap} {C : Addr}
theorem sc_Polygon_ulenu : FnScope ["self"] ["self"] (defScope s_Polygon_ulenu) := ⟨rfl, rfl, rfl, by decide +kernel, rfl, by decide +kernel, by decide +kernel⟩
theorem ok_plen (T : Txt K mg) (Y : PolyT K mg C) (D : MetT K C "__len__" "Polygon.__len__" s_Polygon_ulenu ["self"]) : C8.Met P w K mg base 1 C "__len__" (spLen K C) [] := by
  refine mkM D Y.cl Y.mL sc_Polygon_ulenu (fun vs H Q E h => ?_) (fun cdv A outer s H vs Q E hr h => ?_)
  · obtain ⟨_, _, rfl, _⟩ := h; rfl
  · obtain ⟨v, cs, rfl, ⟨a, dx, l, rfl, ha, vs, hs, hp⟩, k⟩ := h
    refine ⟨_, (pss_one (ps_ret (pe_callB call_len_seq (by rfl) T.f_len PySem.boot_len (pa_cons (pe_fld (pv 0) rfl) pa_nil)))), ?_⟩
    refine ⟨_, rfl, a, C, dx, _, _, rfl, ha, Y.cl, Y.nC, lk_cycle _, l, vs, rfl, .inl hs, ?_⟩
    rw [pair_len hp]
    exact k
theorem sc_Polygon_vertex : FnScope ["self", "index"] ["self", "index"] (defScope s_Polygon_vertex) := ⟨rfl, rfl, rfl, by decide +kernel, rfl, by decide +kernel, by decide +kernel⟩
theorem ok_vertex (T : Txt K mg) (Y : PolyT K mg C) (D : MetT K C "vertex" "Polygon.vertex" s_Polygon_vertex ["self", "index"]) : C8.Met P w K mg base 1 C "vertex" (spVertex K C) [] := by
  refine mkM D Y.cl Y.mV sc_Polygon_vertex (fun vs H Q E h => ?_) (fun cdv A outer s H vs Q E hr h => ?_)
  · obtain ⟨_, _, _, rfl, _⟩ := h; rfl
  · obtain ⟨v, k, cs, rfl, ⟨a, dx, l, rfl, ha, vs, hs, hp⟩, hne, kk⟩ := h
    refine ⟨_, (pss_one (ps_ret (pe_ix ix_list (pe_fld (pv 0) rfl) (pe_op op_mod (pv 1) (pe_callB call_len_seq (by rfl) T.f_len PySem.boot_len (pa_cons (pe_fld (pv 0) rfl) pa_nil))) (fun _ _ => rfl)))), ?_⟩
    have hl := pair_len hp
    have hpos : 0 < cs.length := List.length_pos_iff.mpr hne
    obtain ⟨v, h1, h2⟩ := vt_get hp hne k
    refine ⟨_, rfl, a, C, dx, _, _, rfl, ha, Y.cl, Y.nC, lk_cycle _, _, rfl, _, rfl, a, C, dx, _, _, rfl, ha, Y.cl, Y.nC, lk_cycle _, l, vs, rfl, .inl hs, _, _, rfl, rfl, by omega, ?_⟩
    refine ⟨l, vs, _, v, rfl, rfl, hs, at_of (j := k % cs.length) ?_ h1, kk v h2⟩
    rw [hl]; exact (Int.natCast_emod _ _).symm
theorem sc_Polygon_edge : FnScope ["self", "index"] ["self", "index"] (defScope s_Polygon_edge) := ⟨rfl, rfl, rfl, by decide +kernel, rfl, by decide +kernel, by decide +kernel⟩
theorem ok_edge (T : Txt K mg) (Y : PolyT K mg C) (D : MetT K C "edge" "Polygon.edge" s_Polygon_edge ["self", "index"]) (c_Polygon_vertex : C8.Met P w K mg base 1 C "vertex" (spVertex K C) []) (c_difference : C8.Cal P w K mg base 1 "difference" (spDifference K) []) :
    C8.Met P w K mg base 2 C "edge" (spEdge K C) [] := by
  refine mkM D Y.cl Y.mE sc_Polygon_edge (fun vs H Q E h => ?_) (fun cdv A outer s H vs Q E hr h => ?_)
  · obtain ⟨_, _, _, rfl, _⟩ := h; rfl
  · obtain ⟨v, k, cs, rfl, ⟨a, dx, l, rfl, ha, hl⟩, hne, kk⟩ := h
    refine ⟨_, (pss_one (ps_ret (C8.pe_c c_difference hr (by decide) rfl (pa_cons (C8.pe_mt c_Polygon_vertex hr (by decide) (pv 0) (pa_cons (pe_op op_add (pv 1) pe_int) pa_nil)) (pa_cons (C8.pe_mt c_Polygon_vertex hr (by decide) (pv 0) (pa_cons (pv 1) pa_nil)) pa_nil))))), ?_⟩
    refine ⟨_, rfl, a, dx, _, rfl, ha, lk_vertex _, _, rfl, _, _, rfl, rfl, _, k + 1, cs, rfl, ⟨a, dx, l, rfl, ha, hl⟩, hne, fun v1 h1 => ?_⟩
    refine ⟨_, rfl, a, dx, _, rfl, ha, lk_vertex _, _, rfl, _, k, cs, rfl, ⟨a, dx, l, rfl, ha, hl⟩, hne, fun v2 h2 => ?_⟩
    exact ⟨v1, v2, _, _, rfl, h1, h2, kk⟩
theorem sc_edge_side : FnScope ["polygon", "index", "point", "x", "y", "denominator", "vertex"] ["polygon", "index", "point"] (defScope s_edge_side) := ⟨rfl, rfl, rfl, by decide +kernel, rfl, by decide +kernel, by decide +kernel⟩
theorem ok_edgeSide (T : Txt K mg) (D : DefT K mg "edge_side" s_edge_side ["polygon", "index", "point"]) (c_Polygon_vertex : C8.Met P w K mg base 1 C "vertex" (spVertex K C) []) (c_Polygon_edge : C8.Met P w K mg base 2 C "edge" (spEdge K C) [])
    (c_cross : C8.Cal P w K mg base 1 "cross" (spCross K) []) : C8.Cal P w K mg base 3 "edge_side" (spEdgeSide K C) [] := by
  refine mkC D sc_edge_side (fun vs H Q E h => ?_) (fun cdv A outer s H vs Q E hr h => ?_)
  · obtain ⟨_, _, _, _, _, _, _, rfl, _⟩ := h; rfl
  · obtain ⟨s1, v, k, cs, x, y, d, rfl, ⟨a, dx, l, rfl, ha, hl⟩, hne, B, ⟨p, rfl, ht⟩, kk⟩ := h
    refine ⟨_, (pss_cons (ps_asg (pv 2) (pg_tup rfl (pgs_cons (pg_name (i := 3) sc_edge_side.nd rfl (Or.inl rfl)) (pgs_cons (pg_name (i := 4) sc_edge_side.nd rfl (Or.inl rfl)) (pgs_cons (pg_name (i := 5) sc_edge_side.nd rfl (Or.inl rfl)) pgs_nil)))))
      (pss_cons (ps_set (i := 6) sc_edge_side.nd rfl (Or.inl rfl) (C8.pe_mt c_Polygon_vertex hr (by decide) (pv 0) (pa_cons (pv 1) pa_nil)))
      (pss_one (ps_ret (C8.pe_c c_cross hr (by decide) rfl (pa_cons (C8.pe_mt c_Polygon_edge hr (by decide) (pv 0) (pa_cons (pv 1) pa_nil)) (pa_cons (pe_tup (pa_cons (pe_op op_sub (pv 3) (pe_op op_mul (pe_ix ix_tup (pv 6) pe_int (fun _ _ => rfl)) (pv 5))) (pa_cons (pe_op op_sub (pv 4) (pe_op op_mul (pe_ix ix_tup (pv 6) pe_int (fun _ _ => rfl)) (pv 5))) pa_nil))) pa_nil))))))), ?_⟩
    refine ⟨_, rfl, p, _, rfl, ht, rfl, _, _, rfl, _, _, rfl, _, _, rfl, rfl, ?_⟩
    refine ⟨_, rfl, a, dx, _, rfl, ha, lk_vertex _, _, rfl, _, k, cs, rfl, ⟨a, dx, l, rfl, ha, hl⟩, hne, fun v1 h1 => ?_⟩
    obtain ⟨q, rfl, hq⟩ := h1
    have b1 := B _ (vt_mem hne k)
    refine ⟨_, rfl, a, dx, _, rfl, ha, lk_edge _, _, rfl, _, k, cs, rfl, ⟨a, dx, l, rfl, ha, hl⟩, hne, fun v2 H1 e1 h2 => ?_⟩
    walk_at "go"
    rename_i p3 H3 np3 e3 h3
    exact ⟨v2, .ref p3, ed cs k, (x - (vt cs k).1 * d, y - (vt cs k).2 * d), rfl, TI.mono e3 h2, ⟨p3, rfl, tup_of h3⟩, ed_sm hne B k, kk _ (Same.trans e1 e3)⟩
theorem sc_edge_sides : FnScope ["polygon", "point", "index"] ["polygon", "point"] (defScope s_edge_sides) := ⟨rfl, rfl, rfl, by decide +kernel, rfl, by decide +kernel, by decide +kernel⟩
theorem ok_edgeSides (T : Txt K mg) (D : DefT K mg "edge_sides" s_edge_sides ["polygon", "point"]) (c_Polygon_len : C8.Met P w K mg base 1 C "__len__" (spLen K C) [])
    (c_edge_side : C8.Cal P w K mg base 3 "edge_side" (spEdgeSide K C) []) : C8.Cal P w K mg base 4 "edge_sides" (spEdgeSides K C) [] := by
  refine mkC D sc_edge_sides (fun vs H Q E h => ?_) (fun cdv A outer s H vs Q E hr h => ?_)
  · obtain ⟨_, _, _, _, _, _, rfl, _⟩ := h; rfl
  · obtain ⟨s1, v, cs, x, y, d, rfl, hY, hne, hn6, B, ht, kk⟩ := h
    obtain ⟨a, dx, l, rfl, ha, hl⟩ := id hY
    refine ⟨_, (pss_one (ps_ret (pe_lc (own := [("index", 2)]) (g := gName 2) (tt := tYes) (by rfl) sc_edge_sides.nd (pi_range1 (by rfl) T.f_range (pa_cons (pe_callB (call_lenP c_Polygon_len hr (by decide)) (by rfl) T.f_len PySem.boot_len (pa_cons (pv 0) pa_nil)) pa_nil)) (blkOk_by (own := [("index", 2)]) (N := ["polygon", "point", "index"]) (sc := defScope s_edge_sides) (by decide +kernel)) (fun _ _ _ _ _ => (pg_name (i := 2) sc_edge_sides.nd rfl (Or.inl rfl))) (fun _ _ _ _ _ => pts_nil) (fun _ _ _ _ _ => (C8.pe_c c_edge_side hr (by decide) rfl (pa_cons (pv 0) (pa_cons (pv 2) (pa_cons (pv 1) pa_nil)))))))), ?_⟩
    refine ⟨_, rfl, a, dx, _, rfl, ha, _, cs, rfl, hY, _, rfl, ⟨by omega, by omega⟩, _, rfl, by omega, by omega, fun D hD =>
      lc_map0 H (fun i y1 _ => y1 = .int (sd cs (x, y) d i)) (fun _ _ _ _ h _ => h) (Same.refl H) hD (by show cs.length ≤ 1000; omega) (fun i H' hi e Q' R hq _ => ?_) (fun ys H' e hy hl hb => ?_)⟩
    · refine turn_yes rfl ?_
      refine ⟨_, rfl, _, rfl, _, rfl, ?_⟩
      exact ⟨_, _, i, cs, x, y, d, rfl, PolyAt.mono e hY, hne, B, TI.mono e ht, fun H'' e2 => hq _ _ e2 rfl⟩
    · refine kk D H' e ?_
      rw [hy, ints_rng hl hb]
      rfl
theorem sc_lies_outside : FnScope ["polygon", "point"] ["polygon", "point"] (defScope s_lies_outside) := ⟨rfl, rfl, rfl, by decide +kernel, rfl, by decide +kernel, by decide +kernel⟩
theorem ok_liesOut (T : Txt K mg) (D : DefT K mg "lies_outside" s_lies_outside ["polygon", "point"]) (c_edge_sides : C8.Cal P w K mg base 4 "edge_sides" (spEdgeSides K C) []) : C8.Cal P w K mg base 5 "lies_outside" (spLiesOut K C) [] := by
  refine mkC D sc_lies_outside (fun vs H Q E h => ?_) (fun cdv A outer s H vs Q E hr h => ?_)
  · obtain ⟨_, _, _, _, _, _, rfl, _⟩ := h; rfl
  · obtain ⟨s1, v, cs, x, y, d, rfl, hY, hn6, B, ht, ⟨k, hk, hs⟩, kk⟩ := h
    have hne : cs ≠ [] := by intro z; rw [z] at hk; exact absurd hk (Nat.not_lt_zero _)
    refine ⟨_, (pss_one (ps_ret (pe_cmpR op_lt (pe_callB (cr_min rfl) (by rfl) T.f_min (by decide +kernel) (pa_cons (C8.pe_c c_edge_sides hr (by decide) rfl (pa_cons (pv 0) (pa_cons (pv 1) pa_nil))) pa_nil)) pe_int (nomark _)))), ?_⟩
    refine ⟨_, rfl, _, rfl, _, _, cs, x, y, d, rfl, hY, hne, hn6, B, ht, fun p H1 e1 hp => ?_⟩
    refine ⟨p, sdL cs x y d, rfl, lst_of hp, by unfold sdL; rw [List.length_map, List.length_range]; omega, fun m hm hle => ?_⟩
    refine ⟨_, _, rfl, rfl, ?_⟩
    have hk' : sd cs (x, y) d k ∈ sdL cs x y d := List.mem_map.mpr ⟨k, List.mem_range.mpr hk, rfl⟩
    have := hle _ hk'
    exact bl_of (by omega) (kk _ e1)
theorem sc_require_outside : FnScope ["polygon", "point"] ["polygon", "point"] (defScope s_require_outside) := ⟨rfl, rfl, rfl, by decide +kernel, rfl, by decide +kernel, by decide +kernel⟩
theorem ok_reqOut (T : Txt K mg) (D : DefT K mg "require_outside" s_require_outside ["polygon", "point"]) (c_require_point : C8.Cal P w K mg base 4 "require_point" (spReqPoint K) []) (c_lies_outside : C8.Cal P w K mg base 5 "lies_outside" (spLiesOut K C) []) :
    C8.Cal P w K mg base 6 "require_outside" (spReqOut K C) [] := by
  refine mkC D sc_require_outside (fun vs H Q E h => ?_) (fun cdv A outer s H vs Q E hr h => ?_)
  · obtain ⟨_, _, _, _, _, _, rfl, _⟩ := h; rfl
  · obtain ⟨s1, v, cs, x, y, d, rfl, hY, hn6, B, ht, g, ho, kk⟩ := h
    refine ⟨_, (pss_cons (ps_expr (C8.pe_c c_require_point hr (by decide) rfl (pa_cons (pv 1) pa_nil)))
      (pss_one (ps_if (pt_not (pt_val (C8.pe_c c_lies_outside hr (by decide) rfl (pa_cons (pv 0) (pa_cons (pv 1) pa_nil))))) (pss_one ps_never) pss_nil))), ?_⟩
    refine ⟨_, rfl, v, x, y, d, rfl, ht, g, fun H1 e1 => ?_⟩
    refine ⟨_, rfl, _, rfl, _, _, cs, x, y, d, rfl, PolyAt.mono e1 hY, hn6, B, TI.mono e1 ht, ho, fun H2 e2 => ?_⟩
    refine ⟨_, rfl, iteF ?_⟩
    exact kk _ (Same.trans e1 e2)
end
end KP

set_option Elab.async false
set_option linter.all false
set_option maxRecDepth 100000
set_option maxHeartbeats 4000000
namespace KP
open PySem PySem.Spec PyProof.Rows L2 KM
/-! ### steps of a reading -/
local macro_rules | `(tactic| walk_at "lift") => `(tactic| first
  | assumption
  | exact tup_of (by assumption)
  | exact lst_of (by assumption)
  | (refine sqT (by assumption) ?_; walk_at "lift")
  | (refine sqL (by assumption) ?_; walk_at "lift")
  | (refine TI.mono (by assumption) ?_; walk_at "lift")
  | (refine PtL.mono (by assumption) ?_; walk_at "lift")
  | (refine PtV.mono (by assumption) ?_; walk_at "lift")
  | (refine PolyAt.mono (by assumption) ?_; walk_at "lift"))
local macro_rules | `(tactic| walk_at "cond") => `(tactic| first
  | (refine (id ?_ : (_ : Prop)); omega)
  | (refine And.intro ?_ ?_ <;> omega)
  | (refine Or.inl (And.intro ?_ ?_) <;> omega)
  | (refine Or.inr (And.intro ?_ ?_) <;> omega)
  | (refine And.intro ?_ (And.intro ?_ ?_) <;> first | omega | decide))
local macro_rules | `(tactic| walk_at "new") => `(tactic| (intro p np; generalize hU : upd _ p _ = H3; have hU2 := gen_up np hU; clear hU; obtain ⟨e3, h3⟩ := hU2))
local macro_rules | `(tactic| walk_at "step") => `(tactic| first
  | (refine ⟨_, _, rfl, rfl, ?c, ?_⟩; (case c => walk_at "cond"))
  | refine ⟨_, _, rfl, rfl, ?_⟩
  | (refine ⟨_, ?xs, _, ?v, rfl, rfl, ?a, ?b, ?_⟩; (case a => walk_at "lift"); (case b => rfl))
  | refine ⟨_, rfl, ?_⟩
  | (refine ⟨_, _, rfl, Or.inl ?a, ?_⟩; (case a => walk_at "lift"))
  | (refine ⟨_, _, rfl, Or.inr ?a, ?_⟩; (case a => walk_at "lift"))
  | (refine ⟨szT (Nat.le_of_ble_eq_true rfl), ?_⟩; walk_at "new"))
local macro_rules | `(tactic| walk_at "go") => `(tactic| repeat walk_at "step")
/-! ### for i, x in enumerate(xs) -/
theorem for_enumX {K : PySem.W.Frag} {a : Addr} {xs : List V} {g : TG} {tb : TS} {D : Ends} {σ : L2.St} {H : Hp} (Pv : Nat → L2.St → Hp → Prop) (h0 : Pv 0 σ H) (hl : ∀ i σ H, i ≤ xs.length → Pv i σ H → SqL K H a xs)
    (hs : ∀ (i : Nat) (x : V) (σ : L2.St) (H : Hp), xs[i]? = some x → Pv i σ H → ∀ (T : Addr) (H' : Hp), H T = none → Same H H' → H' T = some (.tup [.int (i : Nat), x]) → g (.ref T) σ H' fun σ2 H2 => tb { D with nx := Pv (i + 1), ct := Pv (i + 1), bk := D.nx } σ2 H2) (hd : ∀ σ H, Pv xs.length σ H → D.nx σ H) :
    ∃ W : Nat → Nat → L2.St → Hp → Prop, (∃ m, W 0 m σ H) ∧ ∀ i m σ H, W i m σ H →
      ((Ite K a).stop i H ∧ D.nx σ H) ∨ ((Ite K a).go i H ∧ ∃ N : L2.St → Hp → Prop, (∀ σ' H', N σ' H' → ∃ m', m' < m ∧ W (i + 1) m' σ' H') ∧ ∀ x H', (Ite K a).yld i H x H' → g x σ H' fun σ2 H2 => tb { D with nx := N, ct := N, bk := D.nx } σ2 H2) := by
  refine ⟨fun i m σ H => m = xs.length - i ∧ i ≤ xs.length ∧ Pv i σ H, ⟨xs.length, by simp, Nat.zero_le _, h0⟩, ?_⟩
  rintro i m σ H ⟨rfl, hi, p⟩
  have q := hl i σ H hi p
  by_cases c : i < xs.length
  · refine .inr ⟨⟨xs, xs[i], q, by simp [c]⟩, Pv (i + 1), fun σ' H' p' => ⟨xs.length - (i + 1), by omega, rfl, c, p'⟩, fun v H' y => ?_⟩
    obtain ⟨T, x, rfl, nT, rfl, hx⟩ := y
    exact hs i x σ H (hx xs q) p T _ nT (Same.new nT) upd_same
  · have e : i = xs.length := by omega
    subst e
    exact .inl ⟨⟨xs, q, Nat.le_refl _⟩, hd σ H p⟩
theorem at_prev {xs : List V} {i : Nat} {v : V} (hi : i < xs.length) (h : xs[(i + (xs.length - 1)) % xs.length]? = some v) : atI xs ((i : Int) - 1) = some v := by
  by_cases c : i = 0
  · subst c
    rw [Nat.zero_add, Nat.mod_eq_of_lt (by omega)] at h
    have : ((0 : Nat) : Int) - 1 = -1 := by omega
    rw [this]
    have hz : xs = xs.dropLast ++ [v] := by
      have hn : xs ≠ [] := by intro z; rw [z] at hi; exact absurd hi (Nat.not_lt_zero _)
      have h2 : xs.getLast hn = v := by
        rw [List.getLast_eq_getElem]
        exact (List.getElem?_eq_some_iff.mp h).2
      rw [← h2]; exact (List.dropLast_concat_getLast hn).symm
    rw [hz]
    exact atI_last _ _
  · have e : (i + (xs.length - 1)) % xs.length = i - 1 := by
      rw [show i + (xs.length - 1) = (i - 1) + xs.length by omega, Nat.add_mod_right, Nat.mod_eq_of_lt (by omega)]
    rw [e] at h
    exact at_of (j := i - 1) (by omega) h
theorem sdL_len (cs : List Pt) (x y d : Int) : ((sdL cs x y d).map V.int).length = cs.length := by unfold sdL; simp
theorem sdL_at {cs : List Pt} {x y d : Int} {k : Nat} (h : k < cs.length) : ((sdL cs x y d).map V.int)[k]? = some (.int (sd cs (x, y) d k)) := by
  unfold sdL
  rw [List.getElem?_map, List.getElem?_map, List.getElem?_range h]; rfl
theorem sd_prev_at {cs : List Pt} {x y d : Int} {i : Nat} (hi : i < cs.length) : atI ((sdL cs x y d).map V.int) ((i : Int) - 1) = some (.int (sd cs (x, y) d (i + (cs.length - 1)))) := by
  have hl := sdL_len cs x y d
  have hm : (i + (cs.length - 1)) % cs.length < cs.length := Nat.mod_lt _ (by omega)
  refine at_prev (by omega) ?_
  rw [hl, sdL_at hm, sd_mod cs (x, y) d _ (i + (cs.length - 1)) (Nat.mod_mod _ _)]
section
variable {P : Program} {w : World} {K : PySem.W.Frag} {mg : Str → Option Value} {base : Heap} {C CU fU : Addr}
/-- what stands between two turns of the search -/
def Srch (cs : List Pt) (x y d : Int) (R : List Pt → Int → Int → Int → Nat → Prop) (s v sl : V) (H : Hp) (i : Nat) (σ : L2.St) (H' : Hp) : Prop :=
  ∃ v1 v2, σ = [some s, some v, some sl, v1, v2] ∧ Same H H' ∧ ∀ j, j < i → ¬ R cs x y d j
theorem srch_next {cs : List Pt} {x y d : Int} {R : List Pt → Int → Int → Int → Nat → Prop} {s v sl : V} {H H' : Hp} {i : Nat} {σ : L2.St} {v1 v2 : Option V} (e : σ = [some s, some v, some sl, v1, v2]) (hs : Same H H') (hj : ∀ j, j < i → ¬ R cs x y d j) (hn : ¬ R cs x y d i) : Srch cs x y d R s v sl H (i + 1) σ H' :=
  ⟨v1, v2, e, hs, fun j h => by
    by_cases c : j = i
    · rw [c]; exact hn
    · exact hj j (by omega)⟩
theorem sc_tangent_index : FnScope ["polygon", "point", "sides", "index", "side"] ["polygon", "point"] (defScope s_tangent_index) := ⟨rfl, rfl, rfl, by decide +kernel, rfl, by decide +kernel, by decide +kernel⟩
theorem ok_tanIx (T : Txt K mg) (D : DefT K mg "tangent_index" s_tangent_index ["polygon", "point"]) (c_edge_sides : C8.Cal P w K mg base 4 "edge_sides" (spEdgeSides K C) []) : C8.Cal P w K mg base 5 "tangent_index" (spTan K C TanAt) [] := by
  refine mkC D sc_tangent_index (fun vs H Q E h => ?_) (fun cdv A outer s H vs Q E hr h => ?_)
  · obtain ⟨_, _, _, _, _, _, rfl, _⟩ := h; rfl
  · obtain ⟨s1, v, cs, x, y, d, rfl, hY, hne, hn6, B, ht, k1, k2⟩ := h
    refine ⟨_, (pss_cons (ps_set (i := 2) sc_tangent_index.nd rfl (Or.inl rfl) (C8.pe_c c_edge_sides hr (by decide) rfl (pa_cons (pv 0) (pa_cons (pv 1) pa_nil))))
      (pss_cons (ps_for PassesOwn.never rfl (pi_enum (by rfl) T.f_enumerate (pa_cons (pv 2) pa_nil)) (pg_tup rfl (pgs_cons (pg_name (i := 3) sc_tangent_index.nd rfl (Or.inl rfl)) (pgs_cons (pg_name (i := 4) sc_tangent_index.nd rfl (Or.inl rfl)) pgs_nil))) (pss_one (ps_if (pt_chain op_lt op_lt (pe_ix ix_list (pv 2) (pe_op op_sub (pv 3) pe_int) (fun _ _ => rfl)) pe_int (pv 4)) (pss_one (ps_ret (pv 3))) pss_nil)))
      (pss_one (ps_ret pe_non)))), ?_⟩
    refine ⟨_, rfl, _, rfl, _, _, cs, x, y, d, rfl, hY, hne, hn6, B, ht, fun p H1 e1 hp => ?_⟩
    have hl := sdL_len cs x y d
    refine ⟨_, rfl, p, _, rfl, lst_of hp, for_enumX (xs := (sdL cs x y d).map V.int) (Srch cs x y d TanAt s1 v (.ref p) H1) ⟨none, none, rfl, Same.refl _, fun j h => absurd h (Nat.not_lt_zero _)⟩ (fun i σ H _ ⟨_, _, _, e, _⟩ => sqL e (lst_of hp)) ?_ ?_⟩
    · rintro i z σ H2 hz ⟨v1, v2, rfl, e2, hj⟩ T1 H3 nT e3 hT
      have hi : i < cs.length := by have := (List.getElem?_eq_some_iff.mp hz).1; omega
      rw [sdL_at hi] at hz
      cases hz
      refine ⟨T1, _, rfl, tup_of hT, rfl, _, _, rfl, _, _, rfl, rfl, ?_⟩
      refine ⟨_, rfl, _, rfl, _, _, rfl, rfl, p, _, _, _, rfl, rfl, sqL e3 (sqL e2 (lst_of hp)), sd_prev_at hi, _, _, rfl, rfl, _, rfl, ?_⟩
      refine ite2D (fun c1 => ?_) (fun c1 => ?_)
      · refine ⟨_, rfl, _, _, rfl, rfl, _, rfl, ite2D (fun c2 => ?_) (fun c2 => ?_)⟩
        · exact ⟨_, rfl, k2 _ i (Same.trans e1 (Same.trans e2 e3)) hi ⟨c1, c2⟩⟩
        · exact srch_next rfl (Same.trans e2 e3) hj fun z => c2 z.2
      · refine ⟨_, rfl, iteF ?_⟩
        exact srch_next rfl (Same.trans e2 e3) hj fun z => c1 z.1
    · rintro σ H2 ⟨v1, v2, rfl, e2, hj⟩
      rw [hl] at hj
      exact k1 _ (Same.trans e1 e2) hj
theorem sc_back_tangent_index : FnScope ["polygon", "point", "sides", "index", "side"] ["polygon", "point"] (defScope s_back_tangent_index) := ⟨rfl, rfl, rfl, by decide +kernel, rfl, by decide +kernel, by decide +kernel⟩
theorem ok_backIx (T : Txt K mg) (D : DefT K mg "back_tangent_index" s_back_tangent_index ["polygon", "point"]) (c_edge_sides : C8.Cal P w K mg base 4 "edge_sides" (spEdgeSides K C) []) : C8.Cal P w K mg base 5 "back_tangent_index" (spTan K C BackAt) [] := by
  refine mkC D sc_back_tangent_index (fun vs H Q E h => ?_) (fun cdv A outer s H vs Q E hr h => ?_)
  · obtain ⟨_, _, _, _, _, _, rfl, _⟩ := h; rfl
  · obtain ⟨s1, v, cs, x, y, d, rfl, hY, hne, hn6, B, ht, k1, k2⟩ := h
    refine ⟨_, (pss_cons (ps_set (i := 2) sc_back_tangent_index.nd rfl (Or.inl rfl) (C8.pe_c c_edge_sides hr (by decide) rfl (pa_cons (pv 0) (pa_cons (pv 1) pa_nil))))
      (pss_cons (ps_for PassesOwn.never rfl (pi_enum (by rfl) T.f_enumerate (pa_cons (pv 2) pa_nil)) (pg_tup rfl (pgs_cons (pg_name (i := 3) sc_back_tangent_index.nd rfl (Or.inl rfl)) (pgs_cons (pg_name (i := 4) sc_back_tangent_index.nd rfl (Or.inl rfl)) pgs_nil))) (pss_one (ps_if (pt_chain op_lt op_lt (pv 4) pe_int (pe_ix ix_list (pv 2) (pe_op op_sub (pv 3) pe_int) (fun _ _ => rfl))) (pss_one (ps_ret (pv 3))) pss_nil)))
      (pss_one (ps_ret pe_non)))), ?_⟩
    refine ⟨_, rfl, _, rfl, _, _, cs, x, y, d, rfl, hY, hne, hn6, B, ht, fun p H1 e1 hp => ?_⟩
    have hl := sdL_len cs x y d
    refine ⟨_, rfl, p, _, rfl, lst_of hp, for_enumX (xs := (sdL cs x y d).map V.int) (Srch cs x y d BackAt s1 v (.ref p) H1) ⟨none, none, rfl, Same.refl _, fun j h => absurd h (Nat.not_lt_zero _)⟩ (fun i σ H _ ⟨_, _, _, e, _⟩ => sqL e (lst_of hp)) ?_ ?_⟩
    · rintro i z σ H2 hz ⟨v1, v2, rfl, e2, hj⟩ T1 H3 nT e3 hT
      have hi : i < cs.length := by have := (List.getElem?_eq_some_iff.mp hz).1; omega
      rw [sdL_at hi] at hz
      cases hz
      refine ⟨T1, _, rfl, tup_of hT, rfl, _, _, rfl, _, _, rfl, rfl, ?_⟩
      refine ⟨_, rfl, _, _, rfl, rfl, _, rfl, ?_⟩
      refine ite2D (fun c1 => ?_) (fun c1 => ?_)
      · refine ⟨_, rfl, _, rfl, _, _, rfl, rfl, p, _, _, _, rfl, rfl, sqL e3 (sqL e2 (lst_of hp)), sd_prev_at hi, _, _, rfl, rfl, _, rfl, ite2D (fun c2 => ?_) (fun c2 => ?_)⟩
        · exact ⟨_, rfl, k2 _ i (Same.trans e1 (Same.trans e2 e3)) hi ⟨c1, c2⟩⟩
        · exact srch_next rfl (Same.trans e2 e3) hj fun z => c2 z.2
      · refine ⟨_, rfl, iteF ?_⟩
        exact srch_next rfl (Same.trans e2 e3) hj fun z => c1 z.1
    · rintro σ H2 ⟨v1, v2, rfl, e2, hj⟩
      rw [hl] at hj
      exact k1 _ (Same.trans e1 e2) hj
theorem vt_mem' {cs : List Pt} (hne : cs ≠ []) (k : Nat) : vt cs k ∈ cs := by
  have hl : k % cs.length < cs.length := Nat.mod_lt _ (List.length_pos_iff.mpr hne)
  unfold vt
  rw [List.getD_eq_getElem?_getD, List.getElem?_eq_getElem hl]
  exact List.getElem_mem hl
theorem lk_vertex' (v : V) : ([(("cycle" : Str), v)] : List (Str × V)).lookup ("vertex" : Str) = none := by
  have : (("vertex" : Str) == ("cycle" : Str)) = false := by decide +kernel
  simp [List.lookup, this]
theorem sc_image : FnScope ["polygon", "point", "index"] ["polygon", "point"] (defScope s_image) := ⟨rfl, rfl, rfl, by decide +kernel, rfl, by decide +kernel, by decide +kernel⟩
theorem ok_image (T : Txt K mg) (D : DefT K mg "image" s_image ["polygon", "point"]) (c_tangent_index : C8.Cal P w K mg base 5 "tangent_index" (spTan K C TanAt) []) (c_reflected : C8.Cal P w K mg base 1 "reflected" (spReflected K) [])
    (c_Polygon_vertex : C8.Met P w K mg base 1 C "vertex" (spVertex K C) []) : C8.Cal P w K mg base 6 "image" (spImage K C TanAt) [] := by
  refine mkC D sc_image (fun vs H Q E h => ?_) (fun cdv A outer s H vs Q E hr h => ?_)
  · obtain ⟨_, _, _, _, _, _, rfl, _⟩ := h; rfl
  · obtain ⟨s1, v, cs, x, y, d, rfl, hY, hne, hn6, B, ht, k1, k2⟩ := h
    refine ⟨_, (pss_cons (ps_set (i := 2) sc_image.nd rfl (Or.inl rfl) (C8.pe_c c_tangent_index hr (by decide) rfl (pa_cons (pv 0) (pa_cons (pv 1) pa_nil))))
      (pss_one (ps_ret (pe_ifExp (pt_cmpR op_isN (pv 2) pe_non (nomark _)) pe_non (C8.pe_c c_reflected hr (by decide) rfl (pa_cons (pv 1) (pa_cons (C8.pe_mt c_Polygon_vertex hr (by decide) (pv 0) (pa_cons (pv 2) pa_nil)) pa_nil))))))), ?_⟩
    refine ⟨_, rfl, _, rfl, _, _, cs, x, y, d, rfl, hY, hne, hn6, B, ht, fun H1 e1 hno => ?_, fun H1 i e1 hi hR => ?_⟩
    · refine ⟨_, rfl, rfl, _, rfl, iteD rfl ?_⟩
      exact k1 _ e1 hno
    · refine ⟨_, rfl, rfl, _, rfl, iteDn (fun z => by cases z) ?_⟩
      obtain ⟨a, dx, l, rfl, ha, hl⟩ := PolyAt.mono e1 hY
      refine ⟨_, rfl, _, rfl, a, dx, _, rfl, ha, lk_vertex' _, _, rfl, _, i, cs, rfl, ⟨a, dx, l, rfl, ha, hl⟩, hne, fun v2 h2 => ?_⟩
      exact ⟨v, v2, x, y, d, _, rfl, TI.mono e1 ht, h2, B _ (vt_mem' hne i), fun p H2 e2 => k2 _ p i (Same.trans e1 e2) hi hR⟩
theorem sc_back_image : FnScope ["polygon", "point", "index"] ["polygon", "point"] (defScope s_back_image) := ⟨rfl, rfl, rfl, by decide +kernel, rfl, by decide +kernel, by decide +kernel⟩
theorem ok_backImage (T : Txt K mg) (D : DefT K mg "back_image" s_back_image ["polygon", "point"]) (c_back_tangent_index : C8.Cal P w K mg base 5 "back_tangent_index" (spTan K C BackAt) []) (c_reflected : C8.Cal P w K mg base 1 "reflected" (spReflected K) [])
    (c_Polygon_vertex : C8.Met P w K mg base 1 C "vertex" (spVertex K C) []) : C8.Cal P w K mg base 6 "back_image" (spImage K C BackAt) [] := by
  refine mkC D sc_back_image (fun vs H Q E h => ?_) (fun cdv A outer s H vs Q E hr h => ?_)
  · obtain ⟨_, _, _, _, _, _, rfl, _⟩ := h; rfl
  · obtain ⟨s1, v, cs, x, y, d, rfl, hY, hne, hn6, B, ht, k1, k2⟩ := h
    refine ⟨_, (pss_cons (ps_set (i := 2) sc_back_image.nd rfl (Or.inl rfl) (C8.pe_c c_back_tangent_index hr (by decide) rfl (pa_cons (pv 0) (pa_cons (pv 1) pa_nil))))
      (pss_one (ps_ret (pe_ifExp (pt_cmpR op_isN (pv 2) pe_non (nomark _)) pe_non (C8.pe_c c_reflected hr (by decide) rfl (pa_cons (pv 1) (pa_cons (C8.pe_mt c_Polygon_vertex hr (by decide) (pv 0) (pa_cons (pv 2) pa_nil)) pa_nil))))))), ?_⟩
    refine ⟨_, rfl, _, rfl, _, _, cs, x, y, d, rfl, hY, hne, hn6, B, ht, fun H1 e1 hno => ?_, fun H1 i e1 hi hR => ?_⟩
    · refine ⟨_, rfl, rfl, _, rfl, iteD rfl ?_⟩
      exact k1 _ e1 hno
    · refine ⟨_, rfl, rfl, _, rfl, iteDn (fun z => by cases z) ?_⟩
      obtain ⟨a, dx, l, rfl, ha, hl⟩ := PolyAt.mono e1 hY
      refine ⟨_, rfl, _, rfl, a, dx, _, rfl, ha, lk_vertex' _, _, rfl, _, i, cs, rfl, ⟨a, dx, l, rfl, ha, hl⟩, hne, fun v2 h2 => ?_⟩
      exact ⟨v, v2, x, y, d, _, rfl, TI.mono e1 ht, h2, B _ (vt_mem' hne i), fun p H2 e2 => k2 _ p i (Same.trans e1 e2) hi hR⟩
/-! ### Undefined(0) -/
theorem UndE.mono {H H' : Hp} {E : XK} (e : Same H H') (h : UndE CU H E) : UndE CU H' E := fun d H2 e2 hd => h d H2 (Same.trans e e2) hd
theorem sc_require_defined : FnScope ["result"] ["result"] (defScope s_require_defined) := ⟨rfl, rfl, rfl, by decide +kernel, rfl, by decide +kernel, by decide +kernel⟩
theorem ok_reqDef (T : Txt K mg) (TU : PySem.UndX.UndT K mg CU fU) (D : DefT K mg "require_defined" s_require_defined ["result"]) : CalX P w K mg base 2 "require_defined" (spReqDef CU) := by
  refine mkX D sc_require_defined (fun vs H Q E h => ?_) (fun cdv A outer s H vs Q E hr h => ?_)
  · obtain ⟨_, rfl, _⟩ := h; rfl
  · obtain ⟨r, rfl, k1, k2⟩ := h
    refine ⟨_, (pss_cons (ps_if (pt_cmpR op_isN (pv 0) pe_non (nomark _)) (pss_one (ps_raiseU rfl TU hr (takes_of rfl rfl rfl rfl) (pa_cons pe_int pa_nil))) pss_nil)
      (pss_one (ps_ret (pv 0)))), ?_⟩
    refine ⟨_, rfl, rfl, _, rfl, ite2D (fun e => ?_) (fun e => ?_)⟩
    · exact ⟨_, rfl, fun d hd => k1 e d _ (Same.new hd) upd_same⟩
    · exact ⟨_, rfl, k2 e⟩
theorem sc_tangent_vertex : FnScope ["polygon", "point"] ["polygon", "point"] (defScope s_tangent_vertex) := ⟨rfl, rfl, rfl, by decide +kernel, rfl, by decide +kernel, by decide +kernel⟩
theorem ok_tangent (T : Txt K mg) (D : DefT K mg "tangent_vertex" s_tangent_vertex ["polygon", "point"]) (c_require_outside : C8.Cal P w K mg base 6 "require_outside" (spReqOut K C) []) (c_tangent_index : C8.Cal P w K mg base 5 "tangent_index" (spTan K C TanAt) [])
    (c_require_defined : CalX P w K mg base 2 "require_defined" (spReqDef CU)) : CalX P w K mg base 7 "tangent_vertex" (spTangent K C CU) := by
  refine mkX D sc_tangent_vertex (fun vs H Q E h => ?_) (fun cdv A outer s H vs Q E hr h => ?_)
  · obtain ⟨_, _, _, _, _, _, rfl, _⟩ := h; rfl
  · obtain ⟨s1, v, cs, x, y, d, rfl, hY, hn6, B, ht, g, ho, k1, k2⟩ := h
    have hne : cs ≠ [] := by obtain ⟨k, hk, _⟩ := ho; intro z; rw [z] at hk; exact absurd hk (Nat.not_lt_zero _)
    refine ⟨_, (pss_cons (ps_expr (C8.pe_c c_require_outside hr (by decide) rfl (pa_cons (pv 0) (pa_cons (pv 1) pa_nil))))
      (pss_one (ps_ret (pe_cXE c_require_defined hr (by decide) rfl (passes_call (takes_of rfl rfl rfl rfl) (fun _ _ _ _ z => z)) (pa_cons (C8.pe_c c_tangent_index hr (by decide) rfl (pa_cons (pv 0) (pa_cons (pv 1) pa_nil))) pa_nil))))), ?_⟩
    refine ⟨_, rfl, _, rfl, _, _, cs, x, y, d, rfl, hY, hn6, B, ht, g, ho, fun H1 e1 => ?_⟩
    refine ⟨_, rfl, _, rfl, _, _, cs, x, y, d, rfl, PolyAt.mono e1 hY, hne, hn6, B, TI.mono e1 ht, fun H2 e2 hno => ?_, fun H2 i e2 hi hR => ?_⟩
    · exact ⟨_, rfl, fun _ => UndE.mono (Same.trans e1 e2) (k1 hno), fun z => absurd rfl z⟩
    · have hz : ∀ n : Int, V.int n ≠ V.non := fun n z => nomatch z
      exact ⟨_, rfl, ⟨fun z => absurd z (hz _), fun _ => k2 _ i (Same.trans e1 e2) hi hR⟩⟩
theorem sc_reflect : FnScope ["polygon", "point"] ["polygon", "point"] (defScope s_reflect) := ⟨rfl, rfl, rfl, by decide +kernel, rfl, by decide +kernel, by decide +kernel⟩
theorem ok_reflect (T : Txt K mg) (D : DefT K mg "reflect" s_reflect ["polygon", "point"]) (c_require_outside : C8.Cal P w K mg base 6 "require_outside" (spReqOut K C) []) (c_image : C8.Cal P w K mg base 6 "image" (spImage K C TanAt) [])
    (c_require_defined : CalX P w K mg base 2 "require_defined" (spReqDef CU)) : CalX P w K mg base 7 "reflect" (spReflect K C CU TanAt) := by
  refine mkX D sc_reflect (fun vs H Q E h => ?_) (fun cdv A outer s H vs Q E hr h => ?_)
  · obtain ⟨_, _, _, _, _, _, rfl, _⟩ := h; rfl
  · obtain ⟨s1, v, cs, x, y, d, rfl, hY, hn6, B, ht, g, ho, k1, k2⟩ := h
    have hne : cs ≠ [] := by obtain ⟨k, hk, _⟩ := ho; intro z; rw [z] at hk; exact absurd hk (Nat.not_lt_zero _)
    refine ⟨_, (pss_cons (ps_expr (C8.pe_c c_require_outside hr (by decide) rfl (pa_cons (pv 0) (pa_cons (pv 1) pa_nil))))
      (pss_one (ps_ret (pe_cXE c_require_defined hr (by decide) rfl (passes_call (takes_of rfl rfl rfl rfl) (fun _ _ _ _ z => z)) (pa_cons (C8.pe_c c_image hr (by decide) rfl (pa_cons (pv 0) (pa_cons (pv 1) pa_nil))) pa_nil))))), ?_⟩
    refine ⟨_, rfl, _, rfl, _, _, cs, x, y, d, rfl, hY, hn6, B, ht, g, ho, fun H1 e1 => ?_⟩
    refine ⟨_, rfl, _, rfl, _, _, cs, x, y, d, rfl, PolyAt.mono e1 hY, hne, hn6, B, TI.mono e1 ht, fun H2 e2 hno => ?_, fun H2 p i e2 hi hR => ?_⟩
    · exact ⟨_, rfl, fun _ => UndE.mono (Same.trans e1 e2) (k1 hno), fun z => absurd rfl z⟩
    · have hz : ∀ n : Addr, V.ref n ≠ V.non := fun n z => nomatch z
      exact ⟨_, rfl, ⟨fun z => absurd z (hz _), fun _ => k2 _ _ i (Same.trans e1 e2) hi hR⟩⟩
theorem sc_reflect_back : FnScope ["polygon", "point"] ["polygon", "point"] (defScope s_reflect_back) := ⟨rfl, rfl, rfl, by decide +kernel, rfl, by decide +kernel, by decide +kernel⟩
theorem ok_reflectBack (T : Txt K mg) (D : DefT K mg "reflect_back" s_reflect_back ["polygon", "point"]) (c_require_outside : C8.Cal P w K mg base 6 "require_outside" (spReqOut K C) []) (c_back_image : C8.Cal P w K mg base 6 "back_image" (spImage K C BackAt) [])
    (c_require_defined : CalX P w K mg base 2 "require_defined" (spReqDef CU)) : CalX P w K mg base 7 "reflect_back" (spReflect K C CU BackAt) := by
  refine mkX D sc_reflect_back (fun vs H Q E h => ?_) (fun cdv A outer s H vs Q E hr h => ?_)
  · obtain ⟨_, _, _, _, _, _, rfl, _⟩ := h; rfl
  · obtain ⟨s1, v, cs, x, y, d, rfl, hY, hn6, B, ht, g, ho, k1, k2⟩ := h
    have hne : cs ≠ [] := by obtain ⟨k, hk, _⟩ := ho; intro z; rw [z] at hk; exact absurd hk (Nat.not_lt_zero _)
    refine ⟨_, (pss_cons (ps_expr (C8.pe_c c_require_outside hr (by decide) rfl (pa_cons (pv 0) (pa_cons (pv 1) pa_nil))))
      (pss_one (ps_ret (pe_cXE c_require_defined hr (by decide) rfl (passes_call (takes_of rfl rfl rfl rfl) (fun _ _ _ _ z => z)) (pa_cons (C8.pe_c c_back_image hr (by decide) rfl (pa_cons (pv 0) (pa_cons (pv 1) pa_nil))) pa_nil))))), ?_⟩
    refine ⟨_, rfl, _, rfl, _, _, cs, x, y, d, rfl, hY, hn6, B, ht, g, ho, fun H1 e1 => ?_⟩
    refine ⟨_, rfl, _, rfl, _, _, cs, x, y, d, rfl, PolyAt.mono e1 hY, hne, hn6, B, TI.mono e1 ht, fun H2 e2 hno => ?_, fun H2 p i e2 hi hR => ?_⟩
    · exact ⟨_, rfl, fun _ => UndE.mono (Same.trans e1 e2) (k1 hno), fun z => absurd rfl z⟩
    · have hz : ∀ n : Addr, V.ref n ≠ V.non := fun n z => nomatch z
      exact ⟨_, rfl, ⟨fun z => absurd z (hz _), fun _ => k2 _ _ i (Same.trans e1 e2) hi hR⟩⟩
end
end KP

set_option Elab.async false
set_option linter.all false
set_option maxRecDepth 100000
set_option maxHeartbeats 4000000
namespace KP
open PySem PySem.Spec PyProof.Rows L2 KM
/-! ### steps of a reading -/
local macro_rules | `(tactic| walk_at "lift") => `(tactic| first
  | assumption
  | exact tup_of (by assumption)
  | exact lst_of (by assumption)
  | (refine sqT (by assumption) ?_; walk_at "lift")
  | (refine sqL (by assumption) ?_; walk_at "lift")
  | (refine TI.mono (by assumption) ?_; walk_at "lift")
  | (refine PtL.mono (by assumption) ?_; walk_at "lift")
  | (refine PtV.mono (by assumption) ?_; walk_at "lift")
  | (refine PolyAt.mono (by assumption) ?_; walk_at "lift"))
local macro_rules | `(tactic| walk_at "cond") => `(tactic| first
  | (refine (id ?_ : (_ : Prop)); omega)
  | (refine And.intro ?_ ?_ <;> omega)
  | (refine Or.inl (And.intro ?_ ?_) <;> omega)
  | (refine Or.inr (And.intro ?_ ?_) <;> omega)
  | (refine And.intro ?_ (And.intro ?_ ?_) <;> first | omega | decide))
local macro_rules | `(tactic| walk_at "new") => `(tactic| (intro p np; generalize hU : upd _ p _ = H3; have hU2 := gen_up np hU; clear hU; obtain ⟨e3, h3⟩ := hU2))
local macro_rules | `(tactic| walk_at "step") => `(tactic| first
  | (refine ⟨_, _, rfl, rfl, ?c, ?_⟩; (case c => walk_at "cond"))
  | refine ⟨_, _, rfl, rfl, ?_⟩
  | (refine ⟨_, ?xs, _, ?v, rfl, rfl, ?a, ?b, ?_⟩; (case a => walk_at "lift"); (case b => rfl))
  | refine ⟨_, rfl, ?_⟩
  | (refine ⟨_, _, rfl, Or.inl ?a, ?_⟩; (case a => walk_at "lift"))
  | (refine ⟨_, _, rfl, Or.inr ?a, ?_⟩; (case a => walk_at "lift"))
  | (refine ⟨szT (Nat.le_of_ble_eq_true rfl), ?_⟩; walk_at "new"))
local macro_rules | `(tactic| walk_at "go") => `(tactic| repeat walk_at "step")
theorem vt_at {K : PySem.W.Frag} {H : Hp} {vs : List V} {cs : List Pt} {i : Nat} {x : V} (hp : PtV K H vs cs) (h : vs[i]? = some x) : IsPt K H x (vt cs i) := by
  obtain ⟨c, h1, h2⟩ := pair_get hp h
  obtain ⟨h3, h4⟩ := List.getElem?_eq_some_iff.mp h1
  have e : vt cs i = c := by
    unfold vt
    rw [Nat.mod_eq_of_lt h3, List.getD_eq_getElem?_getD, h1]; rfl
  rw [e]; exact h2
theorem mod_far {n i j : Nat} (h : 3 ≤ n) (hj : j + 2 < n) : (i + (2 + j)) % n ≠ i % n ∧ (i + (2 + j)) % n ≠ (i + 1) % n := by
  have e : ∀ t, t < n → (i % n + t) % n = if i % n + t < n then i % n + t else i % n + t - n := fun t ht => by
    have := Nat.mod_lt i (show 0 < n by omega)
    split
    · exact Nat.mod_eq_of_lt (by assumption)
    · rw [Nat.mod_eq_sub_mod (by omega), Nat.mod_eq_of_lt (by omega)]
  have hm := Nat.mod_lt i (show 0 < n by omega)
  have e0 : ∀ t, (i + t) % n = (i % n + t) % n := fun t => by rw [Nat.add_mod, Nat.add_mod (i % n) t, Nat.mod_mod]
  rw [e0, e0, e _ (by omega), e _ (by omega)]
  constructor <;> (split <;> try split) <;> omega
theorem lexLe_anti {a b : Pt} (h1 : lexLe a b) (h2 : lexLe b a) : a = b := by
  unfold lexLe at h1 h2
  exact Prod.ext (by omega) (by omega)
theorem rd_wo {H : Hp} {p a : Addr} {u o : HO} (hp : H p = some o) (hu : o ≠ u) (hf : ∀ q, o ≠ .frz q u) (h : Rd H a u) : Rd (wo p H) a u := by
  rcases h with h | ⟨q, h⟩
  · refine .inl ?_
    rw [wo_ne (by intro z; rw [z, hp] at h; exact hu (Option.some.inj h))]; exact h
  · refine .inr ⟨q, ?_⟩
    rw [wo_ne (by intro z; rw [z, hp] at h; exact hf q (Option.some.inj h))]; exact h
theorem sqL_wo {K : PySem.W.Frag} {H : Hp} {p a C dx : Addr} {fs : List (Str × V)} {xs : List V} (hp : H p = some (.ins C dx fs)) (h : SqL K H a xs) : SqL K (wo p H) a xs := by
  rcases h with h | h
  · exact .inl (rd_wo hp (fun z => nomatch z) (fun _ z => nomatch z) h)
  · exact .inr h
theorem sqT_wo {K : PySem.W.Frag} {H : Hp} {p a C dx : Addr} {fs : List (Str × V)} {xs : List V} (hp : H p = some (.ins C dx fs)) (h : SqT K H a xs) : SqT K (wo p H) a xs := by
  rcases h with h | h
  · exact .inl (rd_wo hp (fun z => nomatch z) (fun _ z => nomatch z) h)
  · exact .inr h
theorem ptL_wo {K : PySem.W.Frag} {H : Hp} {p a C dx : Addr} {fs : List (Str × V)} {cs : List Pt} (hp : H p = some (.ins C dx fs)) (h : PtL K H a cs) : PtL K (wo p H) a cs := by
  obtain ⟨vs, h1, h2⟩ := h
  exact ⟨vs, sqL_wo hp h1, Paired.mapP h2 fun _ _ ⟨q, e, t⟩ => ⟨q, e, sqT_wo hp t⟩⟩
section
variable {P : Program} {w : World} {K : PySem.W.Frag} {mg : Str → Option Value} {base : Heap} {C : Addr}
theorem sc_is_vertex : FnScope ["value", "number"] ["value"] (defScope s_is_vertex) := ⟨rfl, rfl, rfl, by decide +kernel, rfl, by decide +kernel, by decide +kernel⟩
theorem ok_isVertex (T : Txt K mg) (D : DefT K mg "is_vertex" s_is_vertex ["value"]) (c_is_int_in : C8.Cal P w K mg base 2 "is_int_in" spIsIntIn []) : C8.Cal P w K mg base 3 "is_vertex" (spIsVertex K) [] := by
  refine mkC D sc_is_vertex (fun vs H Q E h => ?_) (fun cdv A outer s H vs Q E hr h => ?_)
  · obtain ⟨_, _, rfl, _⟩ := h; rfl
  · obtain ⟨v, z, rfl, ⟨p, rfl, ht⟩, ⟨b1, b2⟩, k⟩ := h
    refine ⟨_, (pss_cons (ps_if (PW.pt (pw_or (pt_not (pt_val (pe_callB call_isi (by rfl) T.f_isinstance (by decide +kernel) (pa_cons (pv 0) (pa_cons (pe_bltn (by rfl) T.f_tuple (by decide +kernel) (v := .ty "tuple") rfl) pa_nil))))) (pw_or1 (pt_cmpR op_ne (pe_callB call_len_seq (by rfl) T.f_len PySem.boot_len (pa_cons (pv 0) pa_nil)) pe_int (nomark _))))) (pss_one (ps_ret pe_bl)) pss_nil)
      (pss_one (ps_ret (pe_callB (cr_all rfl) (by rfl) T.f_all (by decide +kernel) (pa_cons (pe_lc (own := [("number", 1)]) (g := gName 1) (tt := tYes) (by rfl) sc_is_vertex.nd (pi_tup (pv 0)) (blkOk_by (own := [("number", 1)]) (N := ["value", "number"]) (sc := defScope s_is_vertex) (by decide +kernel)) (fun _ _ _ _ _ => (pg_name (i := 1) sc_is_vertex.nd rfl (Or.inl rfl))) (fun _ _ _ _ _ => pts_nil) (fun _ _ _ _ _ => (C8.pe_c c_is_int_in hr (by decide) rfl (pa_cons (pv 1) (pa_cons (pe_un un_neg (C8.pe_gc (x := "MAX_COORDINATE") rfl T.m_MAX_COORDINATE)) (pa_cons (C8.pe_gc (x := "MAX_COORDINATE") rfl T.m_MAX_COORDINATE) pa_nil)))))) pa_nil))))), ?_⟩
    refine ⟨_, rfl, _, _, _, _, _, rfl, .ty _, tyT ht, kit_ty (r := true) (by decide +kernel), _, rfl, iteF ?_⟩
    refine ⟨_, rfl, _, _, rfl, Or.inr ht, rfl, _, rfl, iteNS rfl ?_⟩
    refine ⟨_, rfl, p, rfl, ⟨_, ht⟩, fun D hD => lc_mapT H (fun _ y _ => y = .bl true) (fun _ _ _ _ h _ => h) (Same.refl H) hD ht (Nat.le_of_ble_eq_true rfl) (fun i x H' hx e Q' R hq _ => ?_) (fun ys H' e hy hl hb => ?_)⟩
    · obtain ⟨n, rfl, hn⟩ := int_at hx
      have b : -60 ≤ n ∧ n ≤ 60 := by
        rcases List.mem_cons.mp hn with rfl | hn
        · exact b1
        · have : n = z.2 := by simpa using hn
          rw [this]; exact b2
      refine turn_yes rfl ⟨_, rfl, ?_⟩
      walk_at "go"
      exact ⟨_, _, _, rfl, b.1, b.2, hq _ _ (Same.refl _) rfl⟩
    · refine ⟨D, List.replicate ys.length true, rfl, by rw [← bools_of hb]; exact lst_of hy, ?_⟩
      rw [all_rep]
      exact k _ e
theorem sc_is_convex : FnScope ["vertices", "index", "vertex", "direction", "others", "offset", "other"] ["vertices"] (defScope s_is_convex) := ⟨rfl, rfl, rfl, by decide +kernel, rfl, by decide +kernel, by decide +kernel⟩
theorem ok_isConvex (T : Txt K mg) (D : DefT K mg "is_convex" s_is_convex ["vertices"]) (c_difference : C8.Cal P w K mg base 1 "difference" (spDifference K) []) (c_cross : C8.Cal P w K mg base 1 "cross" (spCross K) []) : C8.Cal P w K mg base 2 "is_convex" (spIsConvex K) [] := by
  refine mkC D sc_is_convex (fun vs H Q E h => ?_) (fun cdv A outer s H vs Q E hr h => ?_)
  · obtain ⟨_, _, rfl, _⟩ := h; rfl
  · obtain ⟨a, cs, rfl, ⟨vs, hs, hp⟩, cv, B, hn, k⟩ := h
    refine ⟨_, (pss_cons (ps_for PassesOwn.never rfl (pi_enum (by rfl) T.f_enumerate (pa_cons (pv 0) pa_nil)) (pg_tup rfl (pgs_cons (pg_name (i := 1) sc_is_convex.nd rfl (Or.inr rfl)) (pgs_cons (pg_name (i := 2) sc_is_convex.nd rfl (Or.inr rfl)) pgs_nil))) (pss_cons (ps_set (i := 3) sc_is_convex.nd rfl (Or.inr rfl) (C8.pe_c c_difference hr (by decide) rfl (pa_cons (pe_ix ix_list (pv 0) (pe_op op_mod (pe_op op_add (pv 1) pe_int) (pe_callB call_len_seq (by rfl) T.f_len PySem.boot_len (pa_cons (pv 0) pa_nil))) (fun _ _ => rfl)) (pa_cons (pv 2) pa_nil))))
      (pss_cons (ps_setLc (i := 4) (own := [("offset", 5)]) (g := gName 5) (tt := tYes) (by rfl) sc_is_convex.nd rfl rfl (sw_true rfl rfl rfl (by decide +kernel)) (pi_range2 (by rfl) T.f_range (pa_cons pe_int (pa_cons (pe_callB call_len_seq (by rfl) T.f_len PySem.boot_len (pa_cons (pv 0) pa_nil)) pa_nil))) (blkOk_by (own := [("offset", 5)]) (N := ["vertices", "index", "vertex", "direction", "others", "offset", "other"]) (sc := defScope s_is_convex) (by decide +kernel)) (fun _ _ _ _ _ => (pg_name (i := 5) sc_is_convex.nd rfl (Or.inl rfl))) (fun _ _ _ _ _ => pts_nil) (fun _ _ _ _ _ => (pe_ix (show IxR _ (rIxL K) from ix_list) (pv 0) (pe_op op_mod (pe_op op_add (pv 1) (pv 5)) (pe_callB (show CallR _ _ (rLenQ K) from call_len_seq) (by rfl) T.f_len PySem.boot_len (pa_cons (pv 0) pa_nil))) (fun _ _ => rfl))))
      (pss_one (ps_if (pt_not (pt_val (pe_callB (cr_all rfl) (by rfl) T.f_all (by decide +kernel) (pa_cons (pe_lc (own := [("other", 6)]) (g := gName 6) (tt := tYes) (by rfl) sc_is_convex.nd (pi_list (pv 4)) (blkOk_by (own := [("other", 6)]) (N := ["vertices", "index", "vertex", "direction", "others", "offset", "other"]) (sc := defScope s_is_convex) (by decide +kernel)) (fun _ _ _ _ _ => (pg_name (i := 6) sc_is_convex.nd rfl (Or.inl rfl))) (fun _ _ _ _ _ => pts_nil) (fun _ _ _ _ _ => (pe_cmpR op_gt (C8.pe_c c_cross hr (by decide) rfl (pa_cons (pv 3) (pa_cons (C8.pe_c c_difference hr (by decide) rfl (pa_cons (pv 6) (pa_cons (pv 2) pa_nil))) pa_nil))) pe_int (nomark _)))) pa_nil)))) (pss_one (ps_ret pe_bl)) pss_nil)))))
      (pss_one (ps_ret pe_bl))), ?_⟩
    have hl := pair_len hp
    have hne : cs ≠ [] := by intro z; have := cv.len; rw [z] at this; exact absurd this (by decide)
    have h3 := cv.len
    refine ⟨_, rfl, a, vs, rfl, hs, for_enumX (xs := vs) (fun i σ H' => ∃ x1 x2 x3 x4, σ = [some (.ref a), x1, x2, x3, x4, none, none] ∧ Same H H') ⟨none, none, none, none, rfl, Same.refl _⟩ (fun i σ H _ ⟨_, _, _, _, _, e⟩ => sqL e hs) ?_ ?_⟩
    · rintro i z σ H2 hz ⟨x1, x2, x3, x4, rfl, e2⟩ T1 H3 nT e3 hT
      have hi : i < cs.length := by have := (List.getElem?_eq_some_iff.mp hz).1; omega
      have hzi := vt_at hp hz
      have e23 := Same.trans e2 e3
      refine ⟨T1, _, rfl, tup_of hT, rfl, _, _, rfl, _, _, rfl, rfl, ?_⟩
      obtain ⟨v1, g1, g2⟩ := vt_get hp hne (i + 1)
      refine ⟨_, rfl, _, rfl, _, _, rfl, rfl, _, rfl, _, _, rfl, .inl (sqL e23 hs), _, _, rfl, rfl, by omega, a, vs, _, v1, rfl, rfl, sqL e23 hs, at_of (j := (i + 1) % cs.length) (by rw [hl]; exact (Int.natCast_emod _ _).symm) g1, _, rfl, ?_⟩
      refine ⟨_, _, _, _, rfl, TI.mono e23 g2, TI.mono e23 hzi, fun vd H4 e4 hd => ?_⟩
      have e24 := Same.trans e23 e4
      refine ⟨_, rfl, _, _, rfl, .inl (sqL e24 hs), _, _, rfl, by omega, fun D hD => lc_mapR (lo := 2) (n := ((vs.length : Int) - 2).toNat) H4 (fun j y G => IsPt K G y (vt cs (i + (2 + j)))) (fun _ _ _ _ h e => TI.mono e h) (Same.refl H4) hD (by omega) (fun j H5 hj e5 Q' R hq _ => ?_) (fun ys H5 e5 hy hly hb => ?_)⟩
      · refine turn_yes rfl ?_
        obtain ⟨v2, f1, f2⟩ := vt_get hp hne (i + (2 + j))
        have e25 := Same.trans e24 e5
        refine ⟨_, rfl, _, rfl, _, rfl, _, _, rfl, rfl, _, rfl, _, _, rfl, .inl (sqL e25 hs), _, _, rfl, rfl, by omega, a, vs, _, v2, rfl, rfl, sqL e25 hs, at_of (j := (i + (2 + j)) % cs.length) ?_ f1, ?_⟩
        · rw [hl]; push_cast; rfl
        · exact hq _ _ (Same.refl _) (TI.mono (same_wo (Same.trans e24 e5) (gd_of e24 hD)) f2)
      · have e25 := Same.trans e24 e5
        have hb2 : ∀ (j : Nat) (y : V), ys[j]? = some y → IsPt K H5 y (vt cs (i + (2 + j))) := fun j y h => TI.mono wo_le (hb j y h)
        refine ⟨_, rfl, D, rfl, ⟨_, lst_of hy⟩, fun D2 hD2 => lc_mapL H5 (fun j y G => y = .bl true) (fun _ _ _ _ h _ => h) (Same.refl H5) hD2 (lst_of hy) (by omega) (fun j y H6 hj e6 Q' R hq _ => ?_) (fun zs H6 e6 hz hlz hbz => ?_)⟩
        · refine turn_yes rfl ?_
          have hjl := (List.getElem?_eq_some_iff.mp hj).1
          have ed56 := Same.trans e5 e6
          refine ⟨_, rfl, _, rfl, _, rfl, _, _, _, _, rfl, TI.mono e6 (hb2 j y hj), TI.mono (Same.trans e25 e6) hzi, fun vx H7 e7 hx => ?_⟩
          refine ⟨_, _, _, _, rfl, TI.mono (Same.trans ed56 e7) hd, hx, ed_sm hne B i, ?_⟩
          refine ⟨_, _, rfl, rfl, ?_⟩
          refine hq _ _ e7 ?_
          have hpos := cv.lft i (i + (2 + j)) (mod_far (by omega) (by omega)).1 (mod_far (by omega) (by omega)).2
          exact congrArg V.bl (decide_eq_true hpos)
        · refine ⟨D2, List.replicate zs.length true, rfl, by rw [← bools_of hbz]; exact lst_of hz, ?_⟩
          rw [all_rep]
          refine ⟨_, rfl, iteF ?_⟩
          exact ⟨_, _, _, _, rfl, Same.trans e25 e6⟩
    · rintro σ H2 ⟨x1, x2, x3, x4, rfl, e2⟩
      exact k _ e2
theorem sc_require_vertices : FnScope ["value", "vertex"] ["value"] (defScope s_require_vertices) := ⟨rfl, rfl, rfl, by decide +kernel, rfl, by decide +kernel, by decide +kernel⟩
theorem ok_reqVerts (T : Txt K mg) (D : DefT K mg "require_vertices" s_require_vertices ["value"]) (c_is_vertex : C8.Cal P w K mg base 3 "is_vertex" (spIsVertex K) []) (c_is_convex : C8.Cal P w K mg base 2 "is_convex" (spIsConvex K) []) : C8.Cal P w K mg base 4 "require_vertices" (spReqVerts K) [] := by
  refine mkC D sc_require_vertices (fun vs H Q E h => ?_) (fun cdv A outer s H vs Q E hr h => ?_)
  · obtain ⟨_, _, rfl, _⟩ := h; rfl
  · obtain ⟨a, cs, rfl, ⟨vs, hs, hp⟩, cv, B, hn, k⟩ := h
    refine ⟨_, (pss_cons (ps_if (PW.pt (pw_or (pt_not (pt_val (pe_callB call_isiT (by rfl) T.f_isinstance (by decide +kernel) (pa_cons (pv 0) (pa_cons (pe_tup (pa_cons (pe_bltn (by rfl) T.f_list (by decide +kernel) (v := .ty "list") rfl) (pa_cons (pe_bltn (by rfl) T.f_tuple (by decide +kernel) (v := .ty "tuple") rfl) pa_nil))) pa_nil))))) (pw_or1 (pt_not (pt_chain op_le op_le (C8.pe_gc (x := "MIN_VERTICES") rfl T.m_MIN_VERTICES) (pe_callB call_len_seq (by rfl) T.f_len PySem.boot_len (pa_cons (pv 0) pa_nil)) (C8.pe_gc (x := "MAX_VERTICES") rfl T.m_MAX_VERTICES)))))) (pss_one ps_never) pss_nil)
      (pss_cons (ps_if (pt_not (pt_val (pe_callB (cr_all rfl) (by rfl) T.f_all (by decide +kernel) (pa_cons (pe_lc (own := [("vertex", 1)]) (g := gName 1) (tt := tYes) (by rfl) sc_require_vertices.nd (pi_list (pv 0)) (blkOk_by (own := [("vertex", 1)]) (N := ["value", "vertex"]) (sc := defScope s_require_vertices) (by decide +kernel)) (fun _ _ _ _ _ => (pg_name (i := 1) sc_require_vertices.nd rfl (Or.inl rfl))) (fun _ _ _ _ _ => pts_nil) (fun _ _ _ _ _ => (C8.pe_c c_is_vertex hr (by decide) rfl (pa_cons (pv 1) pa_nil)))) pa_nil)))) (pss_one ps_never) pss_nil)
      (pss_one (ps_if (pt_not (pt_val (C8.pe_c c_is_convex hr (by decide) rfl (pa_cons (pv 0) pa_nil)))) (pss_one ps_never) pss_nil)))), ?_⟩
    have hl := pair_len hp
    have h3 := cv.len
    refine ⟨_, rfl, Nat.le_of_ble_eq_true rfl, fun t nt => ?_⟩
    have e1 : Same H (upd H t (.tup [V.ty "list", V.ty "tuple"])) := Same.new nt
    have ht : (upd H t (.tup [V.ty "list", V.ty "tuple"])) t = some (.tup [V.ty "list", V.ty "tuple"]) := upd_same
    generalize upd H t (.tup [V.ty "list", V.ty "tuple"]) = H1 at e1 ht
    refine ⟨_, t, _, _, _, _, rfl, ht, .cons (.ty _) (.cons (.ty _) .nil), tyL (sqL e1 hs), kitAny_cons (b := true) (kit_ty (by decide +kernel)) (fun z => nomatch z) (fun _ => rfl), _, rfl, iteF ?_⟩
    refine ⟨_, rfl, _, _, rfl, .inl (sqL e1 hs), _, _, rfl, rfl, _, rfl, iteD (by omega) ?_⟩
    refine ⟨_, _, rfl, rfl, _, rfl, iteNS (by omega) ?_⟩
    refine ⟨_, rfl, a, rfl, ⟨vs, sqL e1 hs⟩, fun D hD => lc_mapL H1 (fun j y G => y = .bl true) (fun _ _ _ _ h _ => h) (Same.refl H1) hD (sqL e1 hs) (by omega) (fun j y H2 hj e2 Q' R hq _ => ?_) (fun ys H2 e2 hy hly hb => ?_)⟩
    · obtain ⟨z, hz, hyz⟩ := pair_get hp hj
      refine turn_yes rfl ?_
      refine ⟨_, rfl, _, z, rfl, TI.mono (Same.trans e1 e2) hyz, B z (List.mem_of_getElem? hz), fun H3 e3 => ?_⟩
      exact hq _ _ e3 rfl
    · refine ⟨D, List.replicate ys.length true, rfl, by rw [← bools_of hb]; exact lst_of hy, ?_⟩
      rw [all_rep]
      refine ⟨_, rfl, iteF ?_⟩
      refine ⟨_, rfl, a, cs, rfl, PtL.mono (Same.trans e1 e2) ⟨vs, hs, hp⟩, cv, B, hn, fun H3 e3 => ?_⟩
      refine ⟨_, rfl, iteF ?_⟩
      exact k _ (Same.trans (Same.trans e1 e2) e3)
theorem sc_Polygon_uinitu : FnScope ["self", "vertices", "first"] ["self", "vertices"] (defScope s_Polygon_uinitu) := ⟨rfl, rfl, rfl, by decide +kernel, rfl, by decide +kernel, by decide +kernel⟩
theorem ok_init (T : Txt K mg) (Y : PolyT K mg C) (D : MetT K C "__init__" "Polygon.__init__" s_Polygon_uinitu ["self", "vertices"]) (c_require_vertices : C8.Cal P w K mg base 4 "require_vertices" (spReqVerts K) []) : C8.Mak P w K mg base 5 "Polygon" C (spInit K C) [] := by
  refine mkI D Y.ini Y.g sc_Polygon_uinitu (fun vs H Q E h => ?_) (fun cdv A outer s H vs Q E hr h => ?_)
  · obtain ⟨_, _, _, _, rfl, _⟩ := h; rfl
  · obtain ⟨p, dx, a, cs, rfl, hpo, hL, g, k⟩ := h
    refine ⟨_, (pss_cons (ps_expr (C8.pe_c c_require_vertices hr (by decide) rfl (pa_cons (pv 1) pa_nil)))
      (pss_cons (ps_set (i := 2) sc_Polygon_uinitu.nd rfl (Or.inl rfl) (pe_bm PySem.F.plainAttrs_list PySem.F.slot_list_index PySem.F.type_list_index (mt_indexD (hu65 hr)) (pe_callTy call_list_of (by rfl) T.f_list (by decide +kernel) (pa_cons (pv 1) pa_nil)) (pa_cons (pe_callB (cr_minD rfl (hu65 hr)) (by rfl) T.f_min (by decide +kernel) (pa_cons (pv 1) pa_nil)) pa_nil)))
      (pss_one (ps_fld (pv 0) (pe_op op_cat (pe_callTy call_list_of (by rfl) T.f_list (by decide +kernel) (pa_cons (pe_slice sl_list (pv 1) (po_some (pv 2)) po_none) pa_nil)) (pe_callTy call_list_of (by rfl) T.f_list (by decide +kernel) (pa_cons (pe_slice sl_list (pv 1) po_none (po_some (pv 2))) pa_nil))) rfl)))), ?_⟩
    obtain ⟨cv, B, hn, hle⟩ := g
    have h3 := cv.len
    have hne : cs ≠ [] := by intro z; rw [z] at h3; exact absurd h3 (by decide)
    obtain ⟨vs, hs, hp⟩ := id (ptL_wo hpo hL)
    have hl := pair_len hp
    refine ⟨_, rfl, a, cs, rfl, hL, cv, B, hn, fun H1 e1 => ?_⟩
    have w1 : Same (wo p H) H1 := Same.trans wo_le e1
    refine ⟨_, rfl, a, vs, rfl, .inl (sqL w1 hs), fun l1 n1 => ?_⟩
    generalize hU : upd H1 l1 (.lst vs) = H2
    obtain ⟨e2, hl1⟩ := gen_up n1 hU
    clear hU
    have w2 := Same.trans w1 e2
    refine ⟨.inl ⟨rfl, vs, lst_of hl1⟩, ?_⟩
    refine ⟨_, rfl, a, vs, cs, rfl, sqL w2 hs, PtV.mono w2 hp, hne, fun i v m hv hm hmin => ?_⟩
    have em : m = vt cs 0 := lexLe_anti (hmin _ (vt_mem hne 0)) (hle m (List.mem_of_getElem? hm))
    have hv0 : (cs.map ptD)[0]? = some (ptD m) := by
      rw [em, List.getElem?_map]
      unfold vt
      rw [Nat.zero_mod, List.getD_eq_getElem?_getD, List.getElem?_eq_getElem (by omega)]; rfl
    obtain ⟨m2, hm2, hvm⟩ := pair_get hp hv
    have : m2 = m := Option.some.inj (hm2.symm.trans hm)
    subst this
    refine ⟨l1, v, _, _, 0, _, rfl, rfl, dp_ptl ⟨vs, lst_of hl1, PtV.mono w2 hp⟩, dp_pt (TI.mono w2 hvm), ptDs_shaped cs, ptD_shaped _, hv0, ?_, fun m' z' hlt => absurd hlt (Nat.not_lt_zero _), ?_⟩
    · rw [ptD_eqv]; exact decide_eq_true rfl
    refine ⟨_, rfl, _, rfl, _, rfl, a, vs, rfl, sqL w2 hs, fun l2 n2 => ?_⟩
    generalize hU : upd H2 l2 _ = H3
    obtain ⟨e3, hl2⟩ := gen_up n2 hU
    clear hU
    have w3 := Same.trans w2 e3
    refine ⟨l2, _, rfl, .inl (lst_of hl2), fun l3 n3 => ?_⟩
    generalize hU : upd H3 l3 _ = H4
    obtain ⟨e4, hl3⟩ := gen_up n3 hU
    clear hU
    have w4 := Same.trans w3 e4
    refine ⟨_, rfl, _, rfl, _, rfl, a, vs, rfl, sqL w4 hs, fun l4 n4 => ?_⟩
    generalize hU : upd H4 l4 _ = H5
    obtain ⟨e5, hl4⟩ := gen_up n4 hU
    clear hU
    have w5 := Same.trans w4 e5
    refine ⟨l4, _, rfl, .inl (lst_of hl4), fun l5 n5 => ?_⟩
    generalize hU : upd H5 l5 _ = H6
    obtain ⟨e6, hl5⟩ := gen_up n5 hU
    clear hU
    have w6 := Same.trans w5 e6
    have c1 : cutV vs (some ((0 : Nat) : Int)) none = vs := by
      have s1 : HT.sIx vs.length 0 (some ((0 : Nat) : Int)) = 0 := by unfold HT.sIx; simp
      have s2 : HT.sIx vs.length vs.length none = vs.length := by unfold HT.sIx; simp
      unfold cutV; rw [s1, s2]; simp
    have c2 : cutV vs none (some ((0 : Nat) : Int)) = [] := by
      have s1 : HT.sIx vs.length vs.length (some ((0 : Nat) : Int)) = 0 := by unfold HT.sIx; simp
      unfold cutV; rw [s1]; simp
    rw [c1] at hl2 hl3
    rw [c2] at hl4 hl5
    refine ⟨l3, l5, vs, [], rfl, rfl, e6 _ _ (e5 _ _ hl3), hl5, by show vs.length + 0 ≤ sizeLine; exact szT (by omega), fun l6 n6 => ?_⟩
    generalize hU : upd H6 l6 _ = H7
    obtain ⟨e7, hl6⟩ := gen_up n6 hU
    clear hU
    have w7 := Same.trans w6 e7
    have e17 : Same H H7 := Same.trans e1 (Same.trans e2 (Same.trans e3 (Same.trans e4 (Same.trans e5 (Same.trans e6 e7)))))
    rw [List.append_nil] at hl6
    have hp7 := e17 _ _ hpo
    refine ⟨_, rfl, p, C, dx, [], rfl, hp7, Y.cl, Y.nC, by decide, ?_⟩
    refine k _ (fun b o hb h => by rw [upd_ne hb]; exact e17 b o h) ⟨p, dx, l6, rfl, upd_same, vs, lst_of ?_, PtV.mono (Same.mut w7 wo_at) hp⟩
    rw [upd_ne (by intro z; rw [z, hp7] at hl6; cases hl6)]
    exact hl6
end
end KP

set_option Elab.async false
set_option linter.all false
set_option maxRecDepth 100000
set_option maxHeartbeats 4000000
namespace KP
open PySem PySem.Spec PyProof.Rows L2 KM
/-! ### steps of a reading -/
local macro_rules | `(tactic| walk_at "lift") => `(tactic| first
  | assumption
  | exact tup_of (by assumption)
  | exact lst_of (by assumption)
  | (refine sqT (by assumption) ?_; walk_at "lift")
  | (refine sqL (by assumption) ?_; walk_at "lift")
  | (refine TI.mono (by assumption) ?_; walk_at "lift")
  | (refine PtL.mono (by assumption) ?_; walk_at "lift")
  | (refine PtV.mono (by assumption) ?_; walk_at "lift")
  | (refine PolyAt.mono (by assumption) ?_; walk_at "lift"))
local macro_rules | `(tactic| walk_at "cond") => `(tactic| first
  | (refine (id ?_ : (_ : Prop)); omega)
  | (refine And.intro ?_ ?_ <;> omega)
  | (refine Or.inl (And.intro ?_ ?_) <;> omega)
  | (refine Or.inr (And.intro ?_ ?_) <;> omega)
  | (refine And.intro ?_ (And.intro ?_ ?_) <;> first | omega | decide))
local macro_rules | `(tactic| walk_at "new") => `(tactic| (intro p np; generalize hU : upd _ p _ = H3; have hU2 := gen_up np hU; clear hU; obtain ⟨e3, h3⟩ := hU2))
local macro_rules | `(tactic| walk_at "step") => `(tactic| first
  | (refine ⟨_, _, rfl, rfl, ?c, ?_⟩; (case c => walk_at "cond"))
  | refine ⟨_, _, rfl, rfl, ?_⟩
  | (refine ⟨_, ?xs, _, ?v, rfl, rfl, ?a, ?b, ?_⟩; (case a => walk_at "lift"); (case b => rfl))
  | refine ⟨_, rfl, ?_⟩
  | (refine ⟨_, _, rfl, Or.inl ?a, ?_⟩; (case a => walk_at "lift"))
  | (refine ⟨_, _, rfl, Or.inr ?a, ?_⟩; (case a => walk_at "lift"))
  | (refine ⟨szT (Nat.le_of_ble_eq_true rfl), ?_⟩; walk_at "new"))
local macro_rules | `(tactic| walk_at "go") => `(tactic| repeat walk_at "step")
section
variable {H : Hp} {d c : Addr} {t l : Int}
theorem pen_left (h : H d = some (penO c t l)) : DGet H d (.str "left") (some (.int l)) := .inl ⟨_, Sum.inr "left", .inl h, rfl, rfl⟩
theorem pen_turn (h : H d = some (penO c t l)) : DGet H d (.str "turn") (some (.int t)) := .inl ⟨_, Sum.inr "turn", .inl h, rfl, rfl⟩
theorem pen_cells (h : H d = some (penO c t l)) : DGet H d (.str "cells") (some (.ref c)) := .inl ⟨_, Sum.inr "cells", .inl h, rfl, rfl⟩
theorem put_left {m : Int} (h : H d = some (penO c t l)) : DPut H d (.str "left") (.int m) (upd H d (penO c t m)) := .inl ⟨_, Sum.inr "left", h, rfl, szL (Nat.lt_of_lt_of_le (show 3 < 4 by omega) (by decide)), rfl⟩
theorem put_turn {m : Int} (h : H d = some (penO c t l)) : DPut H d (.str "turn") (.int m) (upd H d (penO c m l)) := .inl ⟨_, Sum.inr "turn", h, rfl, szL (Nat.lt_of_lt_of_le (show 3 < 4 by omega) (by decide)), rfl⟩
theorem dpAll_ints {K : PySem.W.Frag} : ∀ ns : List Int, DpAll K H (ns.map V.int) (ns.map PyData.int)
  | [] => .nil
  | n :: ns => .cons (.int n) (dpAll_ints ns)
theorem ints_lay : ∀ ns : List Int, PyData.canLayAll0 (ns.map PyData.int) = true
  | [] => by simp [PyData.canLayAll0]
  | c :: cs => by simp [PyData.canLayAll0, PyData.canLay0, ints_lay cs]
theorem ints_depth : ∀ ns : List Int, PyData.depthAll (ns.map PyData.int) ≤ 1
  | [] => by simp [PyData.depthAll]
  | c :: cs => by
    have h1 := ints_depth cs
    simp only [List.map_cons, PyData.depthAll, PyData.depth]
    omega
theorem shaped_ints (ns : List Int) : SeqAt.shaped (.list (ns.map PyData.int)) = true := by
  have h1 := ints_depth ns
  unfold SeqAt.shaped
  rw [Bool.and_eq_true]
  refine ⟨by simp only [PyData.canLay0]; exact ints_lay ns, decide_eq_true ?_⟩
  simp only [PyData.depth]; omega
theorem fun_join {c : Prop} [Decidable c] {A F : Int → Prop} (h : ∀ z, F z) (hA : (∀ z, F z) → ∀ z, c → A z) : ∀ z, if c then A z else F z := fun z => ite2 (hA h z) (fun _ => h z)
theorem prime_at (t : Int) (ht : 0 ≤ t) : ∃ q : Int, atI ([2147483647, 2147483629, 2147483587, 2147483579, 2147483563].map V.int) (t % 5) = some (.int q) ∧ 0 < q ∧ q < 2147483648 := by
  have h : t % 5 = 0 ∨ t % 5 = 1 ∨ t % 5 = 2 ∨ t % 5 = 3 ∨ t % 5 = 4 := by omega
  rcases h with h | h | h | h | h <;> rw [h] <;> exact ⟨_, rfl, by omega, by omega⟩
theorem md {a q : Int} (h : 0 < q) : 0 ≤ a % q ∧ a % q < q := ⟨Int.emod_nonneg _ (by omega), Int.emod_lt_of_pos _ h⟩
end
section
variable {P : Program} {w : World} {K : PySem.W.Frag} {mg : Str → Option Value} {base : Heap} {C : Addr}
theorem sc__law_pen : FnScope ["_law_script"] ["_law_script"] (defScope s__law_pen) := ⟨rfl, rfl, rfl, by decide +kernel, rfl, by decide +kernel, by decide +kernel⟩
theorem ok_pen (T : Txt K mg) (D : DefT K mg "_law_pen" s__law_pen ["_law_script"]) : C8.Cal P w K mg base 1 "_law_pen" (spPen K) [] := by
  refine mkC D sc__law_pen (fun vs H Q E h => ?_) (fun cdv A outer s H vs Q E hr h => ?_)
  · obtain ⟨_, _, rfl, _⟩ := h; rfl
  · obtain ⟨a, ns, rfl, ha, hn, k⟩ := h
    refine ⟨_, (pss_one (ps_ret (pe_disp (pps_cons pe_str (pe_callTy call_list_of (by rfl) T.f_list (by decide +kernel) (pa_cons (pe_slice sl_list (pv 0) po_none (po_some pe_int)) pa_nil)) (pps_cons pe_str pe_int (pps_cons pe_str pe_int pps_nil))) (by rfl) (by rfl) (fun z => by cases z) (by decide)))), ?_⟩
    refine fun p np => ?_
    have e1 : Same H (upd H p (.dK [])) := Same.new np
    have h1 : (upd H p (.dK [])) p = some (.dK []) := upd_same
    generalize upd H p (.dK []) = H1 at e1 h1
    refine ⟨_, rfl, _, rfl, a, _, rfl, sqL e1 ha, fun l2 n2 => ?_⟩
    generalize hU : upd H1 l2 _ = H2
    obtain ⟨e2, h2⟩ := gen_up n2 hU
    clear hU
    refine ⟨l2, _, rfl, .inl (lst_of h2), fun l3 n3 => ?_⟩
    generalize hU : upd H2 l3 _ = H3
    obtain ⟨e3, h3⟩ := gen_up n3 hU
    clear hU
    have hp3 := e3 _ _ (e2 _ _ h1)
    have hcut : cutV (ns.map V.int) none (some ((63 : Nat) : Int)) = (ns.take 63).map V.int := by
      have s1 : HT.sIx (ns.map V.int).length 0 none = 0 := by unfold HT.sIx; simp
      have s2 : HT.sIx (ns.map V.int).length (ns.map V.int).length (some ((63 : Nat) : Int)) = (ns.map V.int).length := by unfold HT.sIx; simp; omega
      unfold cutV; rw [s1, s2, List.drop_zero, Nat.sub_zero, List.take_length, List.take_of_length_le (by omega)]
    refine ⟨hp3, [(Sum.inr ("cells" : Str), .ref l3), (Sum.inr ("turn" : Str), .int 0), (Sum.inr ("left" : Str), .int 0)], rfl, Nat.le_of_ble_eq_true rfl, ?_⟩
    refine k _ _ np (Same.mut (Same.trans e1 (Same.trans e2 e3)) np) ⟨l3, 0, ns.take 63, upd_same, ?_, by rw [List.length_take]; omega, by omega, by omega⟩
    have h3' : H3 l3 = some (.lst ((ns.take 63).map V.int)) := by rw [h3]; exact congrArg (fun z => some (HO.lst z)) hcut
    rw [upd_ne (by intro z; rw [z, hp3] at h3'; cases h3')]
    exact h3'
theorem sc__law_draw : FnScope ["_law_pen_here", "_law_many", "_law_digit", "_law_turn", "_law_cell", "_law_primes", "_law_prime", "_law_drawn"] ["_law_pen_here", "_law_many"] (defScope s__law_draw) := ⟨rfl, rfl, rfl, by decide +kernel, rfl, by decide +kernel, by decide +kernel⟩
theorem ok_draw (T : Txt K mg) (D : DefT K mg "_law_draw" s__law_draw ["_law_pen_here", "_law_many"]) : C8.Cal P w K mg base 1 "_law_draw" spDraw [] := by
  refine mkC D sc__law_draw (fun vs H Q E h => ?_) (fun cdv A outer s H vs Q E hr h => ?_)
  · obtain ⟨_, _, _, rfl, _⟩ := h; rfl
  · obtain ⟨d, m, t, rfl, hm, hm2, hp, ht, k⟩ := h
    refine ⟨_, (pss_cons (ps_if (pt_cmpR op_gt (pe_dget (hu_of hr) (pv 0) pe_str (fun _ _ => rfl)) pe_int (nomark _)) (pss_cons (ps_set (i := 2) sc__law_draw.nd rfl (Or.inl rfl) (pe_op op_mod (pe_dget (hu_of hr) (pv 0) pe_str (fun _ _ => rfl)) (pv 1)))
      (pss_cons (ps_dput (hu_of hr) (pv 0) pe_str (pe_op op_fdiv (pe_dget (hu_of hr) (pv 0) pe_str (fun _ _ => rfl)) (pv 1)) rfl)
      (pss_one (ps_ret (pv 2))))) pss_nil)
      (pss_cons (ps_set (i := 3) sc__law_draw.nd rfl (Or.inl rfl) (pe_dget (hu_of hr) (pv 0) pe_str (fun _ _ => rfl)))
      (pss_cons (ps_dput (hu_of hr) (pv 0) pe_str (pe_op op_add (pv 3) pe_int) rfl)
      (pss_cons (ps_set (i := 4) sc__law_draw.nd rfl (Or.inl rfl) (pe_op op_add (pe_op op_mul pe_int (pv 3)) pe_int))
      (pss_cons (ps_if (pt_cmpR (op_neD hr.units) (pe_dget (hu_of hr) (pv 0) pe_str (fun _ _ => rfl)) (pe_lst pa_nil) (nomark _)) (pss_one (ps_set (i := 4) sc__law_draw.nd rfl (Or.inl rfl) (pe_ix ix_list (pe_dget (hu_of hr) (pv 0) pe_str (fun _ _ => rfl)) (pe_op op_mod (pv 3) (pe_callB call_len_seq (by rfl) T.f_len PySem.boot_len (pa_cons (pe_dget (hu_of hr) (pv 0) pe_str (fun _ _ => rfl)) pa_nil))) (fun _ _ => rfl)))) pss_nil)
      (pss_cons (ps_if (PW.pt (pw_and (pt_cmpR op_lt (pv 3) (pe_callB call_len_seq (by rfl) T.f_len PySem.boot_len (pa_cons (pe_dget (hu_of hr) (pv 0) pe_str (fun _ _ => rfl)) pa_nil)) (nomark _)) (pw_and1 (pt_cmpR op_ge (pe_callB call_abs (by rfl) T.f_abs (by decide +kernel) (pa_cons (pv 4) pa_nil)) (pe_op op_pow pe_int pe_int) (nomark _))))) (pss_cons (ps_dput (hu_of hr) (pv 0) pe_str (pe_op op_fdiv (pe_op op_sub (pe_callB call_abs (by rfl) T.f_abs (by decide +kernel) (pa_cons (pv 4) pa_nil)) (pe_op op_pow pe_int pe_int)) (pv 1)) rfl)
      (pss_one (ps_ret (pe_op op_mod (pe_op op_sub (pe_callB call_abs (by rfl) T.f_abs (by decide +kernel) (pa_cons (pv 4) pa_nil)) (pe_op op_pow pe_int pe_int)) (pv 1))))) pss_nil)
      (pss_cons (ps_set (i := 5) sc__law_draw.nd rfl (Or.inl rfl) (pe_lst (pa_cons pe_int (pa_cons pe_int (pa_cons pe_int (pa_cons pe_int (pa_cons pe_int pa_nil)))))))
      (pss_cons (ps_set (i := 6) sc__law_draw.nd rfl (Or.inl rfl) (pe_ix ix_list (pv 5) (pe_op op_mod (pv 3) pe_int) (fun _ _ => rfl)))
      (pss_cons (ps_set (i := 7) sc__law_draw.nd rfl (Or.inl rfl) (pe_op op_mod (pe_op op_add (pe_op op_add (pe_op op_mul (pe_op op_mod (pv 4) (pv 6)) pe_int) (pe_op op_mul (pe_op op_mul pe_int (pv 3)) (pv 3))) pe_int) (pv 6)))
      (pss_cons (ps_set (i := 7) sc__law_draw.nd rfl (Or.inl rfl) (pe_op op_mod (pe_op op_mul (pv 7) (pe_op op_add (pv 7) pe_int)) (pe_ix ix_list (pv 5) (pe_op op_mod (pe_op op_add (pv 3) pe_int) pe_int) (fun _ _ => rfl))))
      (pss_one (ps_ret (pe_op op_mod (pe_op op_fdiv (pe_op op_mod (pe_op op_mul (pv 7) (pv 7)) pe_int) pe_int) (pv 1)))))))))))))), ?_⟩
    obtain ⟨c, l, ns, h1, h2, hn, hl, ht0⟩ := hp
    have ncd : c ≠ d := by intro z; rw [z, h1] at h2; cases h2
    refine ⟨_, rfl, d, _, rfl, pen_left h1, _, _, rfl, rfl, _, rfl, ite2D (fun c1 => ?_) (fun c1 => ?_)⟩
    · refine ⟨_, rfl, d, _, rfl, pen_left h1, _, rfl, _, _, rfl, rfl, hm, ?_⟩
      refine ⟨_, rfl, d, _, rfl, pen_left h1, _, rfl, _, _, rfl, rfl, ⟨hm, hm2⟩, _, rfl, d, _, rfl, put_left h1, ?_⟩
      refine ⟨_, rfl, k _ t _ (Int.emod_nonneg _ (by omega)) (Int.emod_lt_of_pos _ hm) (Same.mut wo_le wo_at) ⟨c, l / m, ns, upd_same, by rw [upd_ne ncd]; exact h2, hn, Int.ediv_nonneg hl (by omega), ht0⟩ (by omega) (fun c' hc => by rw [hc.eq h1]; exact ⟨_, _, upd_same⟩)⟩
    · refine ⟨_, rfl, d, _, rfl, pen_turn h1, ?_⟩
      refine ⟨_, rfl, _, _, rfl, rfl, _, rfl, d, _, rfl, put_turn h1, ?_⟩
      have q1 : (upd H d (penO c (t + 1) l)) d = some (penO c (t + 1) l) := upd_same
      have q2 : (upd H d (penO c (t + 1) l)) c = some (.lst (ns.map V.int)) := by rw [upd_ne ncd]; exact h2
      have e1 : Same (wo d H) (upd H d (penO c (t + 1) l)) := Same.mut wo_le wo_at
      generalize upd H d (penO c (t + 1) l) = H1 at q1 q2 e1
      refine ⟨_, rfl, _, _, rfl, rfl, .inl (by omega), _, _, rfl, rfl, ?_⟩
      show gName 4 (V.int (41 * t + 17)) _ _ _
      generalize 41 * t + 17 = z0
      refine ⟨_, rfl, d, _, rfl, pen_cells q1, Nat.zero_le _, fun p np => ?_⟩
      generalize hU : upd H1 p _ = H2
      obtain ⟨e2, hp2⟩ := gen_up np hU
      clear hU
      have q1' := e2 _ _ q1
      have q2' := e2 _ _ q2
      have e12 := Same.trans e1 e2
      refine ⟨_, _, .lst (lst_of q2') (dpAll_ints ns), .lst (lst_of hp2) .nil, shaped_ints ns, rfl, _, rfl, ?_⟩
      revert z0
      refine fun_join (fun z0 => ?_) (fun rest z0 c2 => ?_)
      rotate_left
      · have hns : ns ≠ [] := by
          intro z
          subst z
          exact absurd c2 (by simp [PyData.eqv, PyData.eqvAll])
        have hpos : 0 < ns.length := List.length_pos_iff.mpr hns
        have hj : (t.toNat % ns.length) < ns.length := Nat.mod_lt _ hpos
        refine ⟨_, rfl, d, _, rfl, pen_cells q1', _, rfl, _, rfl, d, _, rfl, pen_cells q1', c, _, rfl, .inl (lst_of q2'), _, _, rfl, rfl, by rw [List.length_map]; omega, c, _, _, .int ns[t.toNat % ns.length], rfl, rfl, lst_of q2', at_of (j := t.toNat % ns.length) ?_ ?_, ?_⟩
        · rw [List.length_map]
          push_cast
          rw [Int.toNat_of_nonneg ht0]
        · rw [List.getElem?_map, List.getElem?_eq_getElem hj]; rfl
        · exact rest _
      · have eP : (10 : Int) ^ (18 : Int).toNat = 10 ^ 18 := rfl
        refine ⟨_, rfl, _, rfl, d, _, rfl, pen_cells q1', c, _, rfl, .inl (lst_of q2'), _, _, rfl, rfl, _, rfl, ?_⟩
        have last : ∀ (r : Int), 0 ≤ r → r < m → ∀ H3, Same H2 H3 → Q (.int r) H3 := fun r u0 u1 H3 e3 =>
          k r (t + 1) H3 u0 u1 (Same.trans e12 e3) ⟨c, l, ns, e3 _ _ q1', e3 _ _ q2', hn, hl, by omega⟩ (by omega) (fun c' hc => by rw [hc.eq h1]; exact ⟨_, _, e3 _ _ q1'⟩)
        refine (fun (rest : _) => ite2D (fun c3 => ?_) (fun c3 => iteF rest)) ?_
        · refine ⟨_, rfl, _, rfl, _, _, rfl, rfl, ⟨by omega, by omega, by decide⟩, _, _, rfl, rfl, _, rfl, ite2D (fun c4 => ?_) (fun c4 => rest)⟩
          have c4' : (10 : Int) ^ 18 ≤ (if z0 < 0 then -z0 else z0) := c4
          generalize (if z0 < 0 then -z0 else z0) = y0 at c4' ⊢
          refine ⟨_, rfl, _, rfl, _, _, rfl, rfl, ⟨by omega, by omega, by decide⟩, _, _, rfl, rfl, _, rfl, _, _, rfl, rfl, ⟨hm, hm2⟩, _, rfl, d, _, rfl, put_left q1', ?_⟩
          refine ⟨_, rfl, _, rfl, _, _, rfl, rfl, ⟨by omega, by omega, by decide⟩, _, _, rfl, rfl, _, rfl, _, _, rfl, rfl, hm, ?_⟩
          refine k _ (t + 1) _ (md hm).1 (md hm).2 (Same.mut e12 wo_at) ⟨c, _, ns, upd_same, by rw [upd_ne ncd]; exact q2', hn, ?_, by omega⟩ (by omega) (fun c' hc => by rw [hc.eq h1]; exact ⟨_, _, upd_same⟩)
          refine Int.ediv_nonneg ?_ (by omega)
          have : (10 : Int) ^ (18 : Int).toNat = 10 ^ 18 := rfl
          omega
        · refine ⟨Nat.le_of_ble_eq_true rfl, fun p5 n5 => ?_⟩
          generalize hU : upd H2 p5 _ = H3
          obtain ⟨e3, h5⟩ := gen_up n5 hU
          clear hU
          obtain ⟨q, a1, a2, a3⟩ := prime_at t ht0
          obtain ⟨q', b1, b2, b3⟩ := prime_at (t + 3) (by omega)
          refine ⟨_, rfl, _, rfl, _, _, rfl, rfl, (by omega), p5, _, _, _, rfl, rfl, lst_of h5, a1, ?_⟩
          have m1 := md (a := z0) a2
          refine ⟨_, rfl, _, rfl, _, _, rfl, rfl, a2, _, _, rfl, rfl, .inl (by omega), _, rfl, _, _, rfl, rfl, .inl (by omega), _, rfl, _, _, rfl, rfl, .inr (by omega), _, _, rfl, rfl, _, _, rfl, rfl, _, rfl, _, _, rfl, rfl, a2, ?_⟩
          generalize z0 % q * 48271 + 40692 * t * t + 31 = x1
          have m2 := md (a := x1) a2
          refine ⟨_, rfl, _, rfl, _, _, rfl, rfl, _, _, rfl, rfl, .inl (by omega), _, rfl, _, rfl, _, _, rfl, rfl, _, _, rfl, rfl, (by omega), p5, _, _, _, rfl, rfl, lst_of h5, b1, _, _, rfl, rfl, b2, ?_⟩
          generalize x1 % q * (x1 % q + 69621) = x2
          have m3 := md (a := x2) b2
          refine ⟨_, rfl, _, rfl, _, _, rfl, rfl, .inl (by omega), _, _, rfl, rfl, (by omega), _, _, rfl, rfl, ⟨by omega, by omega⟩, _, rfl, _, _, rfl, rfl, hm, ?_⟩
          exact last _ (md hm).1 (md hm).2 _ e3
theorem sc__law_pick : FnScope ["_law_pen_here", "_law_options"] ["_law_pen_here", "_law_options"] (defScope s__law_pick) := ⟨rfl, rfl, rfl, by decide +kernel, rfl, by decide +kernel, by decide +kernel⟩
theorem ok_pick (T : Txt K mg) (D : DefT K mg "_law_pick" s__law_pick ["_law_pen_here", "_law_options"]) (c__law_draw : C8.Cal P w K mg base 1 "_law_draw" spDraw []) : C8.Cal P w K mg base 2 "_law_pick" (spPick K) [] := by
  refine mkC D sc__law_pick (fun vs H Q E h => ?_) (fun cdv A outer s H vs Q E hr h => ?_)
  · obtain ⟨_, _, _, _, rfl, _⟩ := h; rfl
  · obtain ⟨d, a, t, xs, rfl, hs, hne, hn, hp, ht, k⟩ := h
    refine ⟨_, (pss_one (ps_ret (pe_ix ix_list (pv 1) (C8.pe_c c__law_draw hr (by decide) rfl (pa_cons (pv 0) (pa_cons (pe_callB call_len_seq (by rfl) T.f_len PySem.boot_len (pa_cons (pv 1) pa_nil)) pa_nil))) (fun _ _ => rfl)))), ?_⟩
    have hs' : SqL K H a xs := sqL wo_le hs
    obtain ⟨c, l, ns, h1, h2, h3⟩ := id hp
    refine ⟨_, rfl, _, rfl, _, rfl, a, _, rfl, .inl hs', ?_⟩
    have hlen : 0 < xs.length := List.length_pos_iff.mpr hne
    refine ⟨d, _, t, rfl, by omega, by omega, hp, ht, fun r t' H' h0 hlt e hp' ht' _ => ?_⟩
    obtain ⟨j, rfl⟩ := Int.eq_ofNat_of_zero_le h0
    have hj : j < xs.length := by omega
    exact ⟨a, xs, _, _, rfl, rfl, sqL e hs, at_of (j := j) rfl (List.getElem?_eq_getElem hj), k j _ t' H' (List.getElem?_eq_getElem hj) e hp' ht'⟩
theorem sc__law_great : FnScope ["_law_pen_here", "_law_figures", "_law_result", "_law_k"] ["_law_pen_here", "_law_figures"] (defScope s__law_great) := ⟨rfl, rfl, rfl, by decide +kernel, rfl, by decide +kernel, by decide +kernel⟩
theorem ok_great (T : Txt K mg) (D : DefT K mg "_law_great" s__law_great ["_law_pen_here", "_law_figures"]) (c__law_draw : C8.Cal P w K mg base 1 "_law_draw" spDraw []) : C8.Cal P w K mg base 2 "_law_great" spGreat [] := by
  refine mkC D sc__law_great (fun vs H Q E h => ?_) (fun cdv A outer s H vs Q E hr h => ?_)
  · obtain ⟨_, _, _, rfl, _⟩ := h; rfl
  · obtain ⟨d, f, t, rfl, hf, hp, ht, k⟩ := h
    refine ⟨_, (pss_cons (ps_set (i := 2) sc__law_great.nd rfl (Or.inl rfl) pe_int)
      (pss_cons (ps_for PassesOwn.never rfl (pi_range1 (by rfl) T.f_range (pa_cons (pv 1) pa_nil)) (pg_name (i := 3) sc__law_great.nd rfl (Or.inl rfl)) (pss_one (ps_set (i := 2) sc__law_great.nd rfl (Or.inl rfl) (pe_op op_add (pe_op op_mul pe_int (pv 2)) (C8.pe_c c__law_draw hr (by decide) rfl (pa_cons (pv 0) (pa_cons pe_int pa_nil)))))))
      (pss_one (ps_ret (pv 2))))), ?_⟩
    refine ⟨_, rfl, _, rfl, by omega, by omega, ?_⟩
    refine for_range (n := f) (fun i σ H' => ∃ r t' x3, σ = [some (.ref d), some (.int (f : Nat)), some (.int r), x3] ∧ 0 ≤ r ∧ r < 10 ^ i ∧ Same (wo d H) H' ∧ Pen H' d t' ∧ t' ≤ t + (i : Nat)) ⟨0, t, none, rfl, by omega, by decide, wo_le, hp, by omega⟩ ?_ ?_
    · rintro i σ H' hi ⟨r, t', x3, rfl, r0, r1, e, hp', ht'⟩
      refine ⟨_, rfl, _, _, rfl, rfl, .inl (by omega), _, rfl, d, _, t', rfl, by omega, by omega, hp', by omega, fun r2 t2 H2 b0 b1 e2 hp2 ht2 _ => ?_⟩
      have hpow : (10 : Int) ^ (i + 1) = 10 ^ i * 10 := Int.pow_succ _ _
      exact ⟨_, _, rfl, rfl, _, _, _, rfl, by omega, by omega, Same.trans (wo_up e) e2, hp2, by omega⟩
    · rintro σ H' ⟨r, t', x3, rfl, r0, r1, e, hp', ht'⟩
      exact ⟨_, rfl, k _ _ _ r0 r1 e hp' ht'⟩
end
end KP

set_option Elab.async false
set_option linter.all false
set_option maxRecDepth 100000
set_option maxHeartbeats 4000000
namespace KP
open PySem PySem.Spec PyProof.Rows L2 KM
/-! ### steps of a reading -/
local macro_rules | `(tactic| walk_at "lift") => `(tactic| first
  | assumption
  | exact tup_of (by assumption)
  | exact lst_of (by assumption)
  | (refine sqT (by assumption) ?_; walk_at "lift")
  | (refine sqL (by assumption) ?_; walk_at "lift")
  | (refine TI.mono (by assumption) ?_; walk_at "lift")
  | (refine PtL.mono (by assumption) ?_; walk_at "lift")
  | (refine PtV.mono (by assumption) ?_; walk_at "lift")
  | (refine PolyAt.mono (by assumption) ?_; walk_at "lift"))
local macro_rules | `(tactic| walk_at "cond") => `(tactic| first
  | (refine (id ?_ : (_ : Prop)); omega)
  | (refine And.intro ?_ ?_ <;> omega)
  | (refine Or.inl (And.intro ?_ ?_) <;> omega)
  | (refine Or.inr (And.intro ?_ ?_) <;> omega)
  | (refine And.intro ?_ (And.intro ?_ ?_) <;> first | omega | decide))
local macro_rules | `(tactic| walk_at "new") => `(tactic| (intro p np; generalize hU : upd _ p _ = H3; have hU2 := gen_up np hU; clear hU; obtain ⟨e3, h3⟩ := hU2))
local macro_rules | `(tactic| walk_at "step") => `(tactic| first
  | (refine ⟨_, _, rfl, rfl, ?c, ?_⟩; (case c => walk_at "cond"))
  | refine ⟨_, _, rfl, rfl, ?_⟩
  | (refine ⟨_, ?xs, _, ?v, rfl, rfl, ?a, ?b, ?_⟩; (case a => walk_at "lift"); (case b => rfl))
  | refine ⟨_, rfl, ?_⟩
  | (refine ⟨_, _, rfl, Or.inl ?a, ?_⟩; (case a => walk_at "lift"))
  | (refine ⟨_, _, rfl, Or.inr ?a, ?_⟩; (case a => walk_at "lift"))
  | (refine ⟨szT (Nat.le_of_ble_eq_true rfl), ?_⟩; walk_at "new"))
local macro_rules | `(tactic| walk_at "go") => `(tactic| repeat walk_at "step")
theorem log2_lt {n : Int} (h0 : 0 < n) (h1 : n < 2 ^ 60) : n.natAbs.log2 < 9000 := by
  have h : n.natAbs.log2 < 60 := (Nat.log2_lt (by omega)).mpr (by omega)
  omega
theorem form_law (x y d : Int) (hd : 0 < d) : ∃ g : Int, g = (Int.gcd (Int.gcd x y) d : Int) ∧ 0 < g ∧ g ≤ d ∧ x = g * (x / g) ∧ y = g * (y / g) ∧ d = g * (d / g) ∧ Int.gcd (Int.gcd (x / g) (y / g)) (d / g) = 1 := by
  refine ⟨_, rfl, ?_⟩
  have p : 0 < Int.gcd (Int.gcd x y) d := Int.gcd_pos_iff.mpr (.inr (by omega))
  have dd : ((Int.gcd (Int.gcd x y) d : Nat) : Int) ∣ d := Int.gcd_dvd_right ..
  have dg : ((Int.gcd (Int.gcd x y) d : Nat) : Int) ∣ (Int.gcd x y : Nat) := Int.gcd_dvd_left ..
  have dx : ((Int.gcd (Int.gcd x y) d : Nat) : Int) ∣ x := Int.dvd_trans dg (Int.gcd_dvd_left ..)
  have dy : ((Int.gcd (Int.gcd x y) d : Nat) : Int) ∣ y := Int.dvd_trans dg (Int.gcd_dvd_right ..)
  have ex := (Int.mul_ediv_cancel' dx).symm
  have ey := (Int.mul_ediv_cancel' dy).symm
  have ed := (Int.mul_ediv_cancel' dd).symm
  refine ⟨by omega, Int.le_of_dvd hd dd, ex, ey, ed, ?_⟩
  generalize hg : Int.gcd (Int.gcd x y) d = g at *
  have e : g = g * Int.gcd (Int.gcd (x / (g : Int)) (y / (g : Int))) (d / (g : Int)) := by
    have e1 : Int.gcd x y = g * Int.gcd (x / (g : Int)) (y / (g : Int)) := by
      conv => lhs; rw [ex, ey, Int.gcd_mul_left]
      simp
    have e2 : Int.gcd (Int.gcd x y) d = g * Int.gcd (Int.gcd (x / (g : Int)) (y / (g : Int))) (d / (g : Int)) := by
      conv => lhs; rw [e1, ed]
      push_cast
      rw [Int.gcd_mul_left]
      simp
    exact hg.symm.trans e2
  have e' : g * 1 = g * Int.gcd (Int.gcd (x / (g : Int)) (y / (g : Int))) (d / (g : Int)) := by rw [Nat.mul_one]; exact e
  exact (Nat.eq_of_mul_eq_mul_left p e').symm
/-- of the first i edges, as the law walks them -/
def BefI (cs : List Pt) (x y d : Int) (i : Nat) : Prop := ∃ k, k < i ∧ sd cs (x, y) d (k + (cs.length - 1)) = 0 ∧ al cs (x, y) d (k + (cs.length - 1)) < 0
def BeyI (cs : List Pt) (x y d : Int) (i : Nat) : Prop := ∃ k, k < i ∧ sd cs (x, y) d (k + (cs.length - 1)) = 0 ∧ d * nn (ed cs (k + (cs.length - 1))) < al cs (x, y) d (k + (cs.length - 1))
theorem mod_back {n k : Nat} (h : k < n) : ((k + 1) % n + (n - 1)) % n = k % n := by
  by_cases c : k + 1 < n
  · rw [Nat.mod_eq_of_lt c, show k + 1 + (n - 1) = k + n by omega, Nat.add_mod_right]
  · rw [show k + 1 = n by omega, Nat.mod_self, Nat.zero_add, show k = n - 1 by omega]
theorem before_iff (cs : List Pt) (x y d : Int) (hne : cs ≠ []) : Before cs x y d ↔ BefI cs x y d cs.length := by
  have hpos : 0 < cs.length := List.length_pos_iff.mpr hne
  constructor
  · rintro ⟨k, hk, h1, h2⟩
    have e := mod_back hk
    exact ⟨(k + 1) % cs.length, Nat.mod_lt _ hpos, by rw [sd_mod cs _ _ _ _ e]; exact h1, by rw [al_mod cs _ _ _ _ e]; exact h2⟩
  · rintro ⟨k, hk, h1, h2⟩
    have e : (k + (cs.length - 1)) % cs.length % cs.length = (k + (cs.length - 1)) % cs.length := Nat.mod_mod _ _
    exact ⟨(k + (cs.length - 1)) % cs.length, Nat.mod_lt _ hpos, by rw [sd_mod cs _ _ _ _ e]; exact h1, by rw [al_mod cs _ _ _ _ e]; exact h2⟩
theorem beyond_iff (cs : List Pt) (x y d : Int) (hne : cs ≠ []) : Beyond cs x y d ↔ BeyI cs x y d cs.length := by
  have hpos : 0 < cs.length := List.length_pos_iff.mpr hne
  constructor
  · rintro ⟨k, hk, h1, h2⟩
    have e := mod_back hk
    exact ⟨(k + 1) % cs.length, Nat.mod_lt _ hpos, by rw [sd_mod cs _ _ _ _ e]; exact h1, by rw [al_mod cs _ _ _ _ e, ed_mod cs _ _ e]; exact h2⟩
  · rintro ⟨k, hk, h1, h2⟩
    have e : (k + (cs.length - 1)) % cs.length % cs.length = (k + (cs.length - 1)) % cs.length := Nat.mod_mod _ _
    exact ⟨(k + (cs.length - 1)) % cs.length, Nat.mod_lt _ hpos, by rw [sd_mod cs _ _ _ _ e]; exact h1, by rw [al_mod cs _ _ _ _ e, ed_mod cs _ _ e]; exact h2⟩
theorem exS {i : Nat} {p : Nat → Prop} : (∃ k, k < i + 1 ∧ p k) ↔ (∃ k, k < i ∧ p k) ∨ p i := by
  constructor
  · rintro ⟨k, hk, h⟩
    by_cases c : k = i
    · rw [← c]; exact .inr h
    · exact .inl ⟨k, by omega, h⟩
  · rintro (⟨k, hk, h⟩ | h)
    · exact ⟨k, by omega, h⟩
    · exact ⟨i, by omega, h⟩
theorem bl_iff {c : Prop} [Decidable c] {A : Prop} (h : c ↔ A) : decide c = true ↔ A := by rw [decide_eq_true_iff]; exact h
theorem first_at : ∀ (cs : List Pt) (i : Nat) (m : Pt), cs[i]? = some m → ∃ j : Nat, cs[j]? = some m ∧ ∀ t : Nat, t < j → ∀ u, cs[t]? = some u → ¬ u = m
  | [], i, m, h => by simp at h
  | c :: cs, i, m, h => by
    by_cases e : c = m
    · exact ⟨0, by rw [e]; rfl, fun t ht => absurd ht (Nat.not_lt_zero _)⟩
    · cases i with
      | zero => exact absurd (Option.some.inj h) e
      | succ i =>
        obtain ⟨j, h1, h2⟩ := first_at cs i m (by simpa using h)
        refine ⟨j + 1, by simpa using h1, fun t ht u hu => ?_⟩
        cases t with
        | zero => have : c = u := Option.some.inj hu; rw [← this]; exact e
        | succ t => exact h2 t (by omega) u (by simpa using hu)
theorem cut_from {vs : List V} {j : Nat} (h : j ≤ vs.length) : cutV vs (some ((j : Nat) : Int)) none = vs.drop j := by
  have s1 : HT.sIx vs.length 0 (some ((j : Nat) : Int)) = j := by unfold HT.sIx; simp; split <;> omega
  have s2 : HT.sIx vs.length vs.length none = vs.length := by unfold HT.sIx; simp
  unfold cutV; rw [s1, s2]; exact List.take_of_length_le (by rw [List.length_drop]; omega)
theorem cut_to {vs : List V} {j : Nat} (h : j ≤ vs.length) : cutV vs none (some ((j : Nat) : Int)) = vs.take j := by
  have s1 : HT.sIx vs.length 0 none = 0 := by unfold HT.sIx; simp
  have s2 : HT.sIx vs.length vs.length (some ((j : Nat) : Int)) = j := by unfold HT.sIx; simp; split <;> omega
  unfold cutV; rw [s1, s2]; simp
section
variable {P : Program} {w : World} {K : PySem.W.Frag} {mg : Str → Option Value} {base : Heap} {C : Addr}
theorem sc__law_point_form : FnScope ["_law_x", "_law_y", "_law_d", "_law_both"] ["_law_x", "_law_y", "_law_d"] (defScope s__law_point_form) := ⟨rfl, rfl, rfl, by decide +kernel, rfl, by decide +kernel, by decide +kernel⟩
theorem ok_form (T : Txt K mg) (D : DefT K mg "_law_point_form" s__law_point_form ["_law_x", "_law_y", "_law_d"]) (c__law_gcd : C8.Cal P w K mg base 1 "_law_gcd" spGcd []) : C8.Cal P w K mg base 2 "_law_point_form" (spForm K) [] := by
  refine mkC D sc__law_point_form (fun vs H Q E h => ?_) (fun cdv A outer s H vs Q E hr h => ?_)
  · obtain ⟨_, _, _, rfl, _⟩ := h; rfl
  · obtain ⟨x, y, d, rfl, hd, hd2, k⟩ := h
    refine ⟨_, (pss_cons (ps_set (i := 3) sc__law_point_form.nd rfl (Or.inl rfl) (C8.pe_c c__law_gcd hr (by decide) rfl (pa_cons (C8.pe_c c__law_gcd hr (by decide) rfl (pa_cons (pv 0) (pa_cons (pv 1) pa_nil))) (pa_cons (pv 2) pa_nil))))
      (pss_one (ps_ret (pe_tup (pa_cons (pe_op op_fdivW (pv 0) (pv 3)) (pa_cons (pe_op op_fdivW (pv 1) (pv 3)) (pa_cons (pe_op op_fdivW (pv 2) (pv 3)) pa_nil))))))), ?_⟩
    obtain ⟨g, hg, g1, g2, ex, ey, ed, e1⟩ := form_law x y d hd
    refine ⟨_, rfl, _, rfl, _, _, rfl, _, rfl, _, _, rfl, ?_⟩
    show gName 3 (V.int _) _ _ _
    rw [← hg]
    have hw : ∀ i, CDivW i g := fun i => ⟨g1, log2_lt g1 (by omega)⟩
    refine ⟨_, rfl, _, rfl, _, _, rfl, rfl, hw _, _, rfl, _, rfl, _, _, rfl, rfl, hw _, _, rfl, _, rfl, _, _, rfl, rfl, hw _, ?_⟩
    walk_at "go"
    exact k _ _ g _ _ _ (by assumption) g1 ex ey ed e1 ⟨_, rfl, tup_of (by assumption)⟩
theorem sc__law_beside : FnScope ["_law_x", "_law_y", "_law_d", "_law_way", "_law_side"] ["_law_x", "_law_y", "_law_d", "_law_way", "_law_side"] (defScope s__law_beside) := ⟨rfl, rfl, rfl, by decide +kernel, rfl, by decide +kernel, by decide +kernel⟩
theorem ok_beside (T : Txt K mg) (D : DefT K mg "_law_beside" s__law_beside ["_law_x", "_law_y", "_law_d", "_law_way", "_law_side"]) (c__law_point_form : C8.Cal P w K mg base 2 "_law_point_form" (spForm K) []) : C8.Cal P w K mg base 3 "_law_beside" (spBeside K) [] := by
  refine mkC D sc__law_beside (fun vs H Q E h => ?_) (fun cdv A outer s H vs Q E hr h => ?_)
  · obtain ⟨_, _, _, _, _, _, rfl, _⟩ := h; rfl
  · obtain ⟨v, z, x, y, d, sd0, rfl, ⟨p, rfl, hz⟩, ⟨⟨b1, b2⟩, b3, b4⟩, ⟨d1, d2⟩, ⟨s1, s2⟩, k⟩ := h
    refine ⟨_, (pss_one (ps_ret (C8.pe_c c__law_point_form hr (by decide) rfl (pa_cons (pe_op op_sub (pe_op op_mul (pv 0) pe_int) (pe_op op_mul (pv 4) (pe_ix ix_tup (pv 3) pe_int (fun _ _ => rfl)))) (pa_cons (pe_op op_add (pe_op op_mul (pv 1) pe_int) (pe_op op_mul (pv 4) (pe_ix ix_tup (pv 3) pe_int (fun _ _ => rfl)))) (pa_cons (pe_op op_mul (pv 2) pe_int) pa_nil)))))), ?_⟩
    walk_at "go"
    exact ⟨_, _, _, rfl, by omega, by omega, k⟩
theorem sc__law_map_corner : FnScope ["_law_table_here", "_law_corner", "_law_a", "_law_b", "_law_c", "_law_d", "_law_p", "_law_q"] ["_law_table_here", "_law_corner"] (defScope s__law_map_corner) := ⟨rfl, rfl, rfl, by decide +kernel, rfl, by decide +kernel, by decide +kernel⟩
theorem ok_mapC (T : Txt K mg) (D : DefT K mg "_law_map_corner" s__law_map_corner ["_law_table_here", "_law_corner"]) : C8.Cal P w K mg base 1 "_law_map_corner" (spMapC K) [] := by
  refine mkC D sc__law_map_corner (fun vs H Q E h => ?_) (fun cdv A outer s H vs Q E hr h => ?_)
  · obtain ⟨_, _, _, _, _, _, _, _, _, rfl, _⟩ := h; rfl
  · obtain ⟨v, z, a, b, c, d, p0, q0, x, rfl, ⟨p, rfl, ht⟩, ⟨q, rfl, hz⟩, ⟨⟨a1, a2⟩, ⟨b1, b2⟩, ⟨c1, c2⟩, d1, d2⟩, k⟩ := h
    refine ⟨_, (pss_cons (ps_asg (pv 0) (pg_tup rfl (pgs_cons (pg_name (i := 2) sc__law_map_corner.nd rfl (Or.inl rfl)) (pgs_cons (pg_name (i := 3) sc__law_map_corner.nd rfl (Or.inl rfl)) (pgs_cons (pg_name (i := 4) sc__law_map_corner.nd rfl (Or.inl rfl)) (pgs_cons (pg_name (i := 5) sc__law_map_corner.nd rfl (Or.inl rfl)) (pgs_cons (pg_name (i := 6) sc__law_map_corner.nd rfl (Or.inl rfl)) (pgs_cons (pg_name (i := 7) sc__law_map_corner.nd rfl (Or.inl rfl)) pgs_nil))))))))
      (pss_one (ps_ret (pe_tup (pa_cons (pe_op op_add (pe_op op_add (pe_op op_mul (pv 2) (pe_ix ix_tup (pv 1) pe_int (fun _ _ => rfl))) (pe_op op_mul (pv 3) (pe_ix ix_tup (pv 1) pe_int (fun _ _ => rfl)))) (pv 6)) (pa_cons (pe_op op_add (pe_op op_add (pe_op op_mul (pv 4) (pe_ix ix_tup (pv 1) pe_int (fun _ _ => rfl))) (pe_op op_mul (pv 5) (pe_ix ix_tup (pv 1) pe_int (fun _ _ => rfl)))) (pv 7)) pa_nil)))))), ?_⟩
    refine ⟨_, rfl, p, _, rfl, ht, rfl, _, _, rfl, _, _, rfl, _, _, rfl, _, _, rfl, _, _, rfl, _, _, rfl, rfl, ?_⟩
    walk_at "go"
    exact k _ _ (by assumption) ⟨_, rfl, tup_of (by assumption)⟩
theorem sc__law_from_least : FnScope ["_law_corners", "_law_k"] ["_law_corners"] (defScope s__law_from_least) := ⟨rfl, rfl, rfl, by decide +kernel, rfl, by decide +kernel, by decide +kernel⟩
theorem ok_least (T : Txt K mg) (D : DefT K mg "_law_from_least" s__law_from_least ["_law_corners"]) : C8.Cal P w K mg base 1 "_law_from_least" (spLeast K) [] := by
  refine mkC D sc__law_from_least (fun vs H Q E h => ?_) (fun cdv A outer s H vs Q E hr h => ?_)
  · obtain ⟨_, _, rfl, _⟩ := h; rfl
  · obtain ⟨a, cs, rfl, ⟨vs, hs, hp⟩, hne, hn, k⟩ := h
    refine ⟨_, (pss_cons (ps_set (i := 1) sc__law_from_least.nd rfl (Or.inl rfl) (pe_bm PySem.F.plainAttrs_list PySem.F.slot_list_index PySem.F.type_list_index (mt_indexD (hu65 hr)) (pv 0) (pa_cons (pe_callB (cr_minD rfl (hu65 hr)) (by rfl) T.f_min (by decide +kernel) (pa_cons (pv 0) pa_nil)) pa_nil)))
      (pss_one (ps_ret (pe_op op_cat (pe_slice sl_list (pv 0) (po_some (pv 1)) po_none) (pe_slice sl_list (pv 0) po_none (po_some (pv 1))))))), ?_⟩
    have hl := pair_len hp
    refine ⟨_, rfl, .inl ⟨rfl, vs, hs⟩, _, rfl, a, vs, cs, rfl, hs, hp, hne, fun i v m hv hm hmin => ?_⟩
    obtain ⟨j, hj, hfst⟩ := first_at cs i m hm
    have hjl : j < cs.length := (List.getElem?_eq_some_iff.mp hj).1
    obtain ⟨m2, hm2, hvm⟩ := pair_get hp hv
    have : m2 = m := Option.some.inj (hm2.symm.trans hm)
    subst this
    have hds : (cs.map ptD)[j]? = some (ptD m2) := by rw [List.getElem?_map, hj]; rfl
    refine ⟨a, v, _, _, j, _, rfl, rfl, dp_ptl ⟨vs, hs, hp⟩, dp_pt hvm, ptDs_shaped cs, ptD_shaped _, hds, ?_, ?_, ?_⟩
    · rw [ptD_eqv]; exact decide_eq_true rfl
    · intro t z' ht hz
      rw [List.getElem?_map] at hz
      cases e : cs[t]? with
      | none => rw [e] at hz; cases hz
      | some u =>
        rw [e] at hz
        have : ptD u = z' := Option.some.inj hz
        rw [← this, ptD_eqv]
        exact decide_eq_false (hfst t ht u e)
    refine ⟨_, rfl, _, rfl, _, rfl, a, vs, rfl, hs, fun l2 n2 => ?_⟩
    generalize hU : upd H l2 _ = H3
    obtain ⟨e3, hl2⟩ := gen_up n2 hU
    clear hU
    refine ⟨_, rfl, _, rfl, _, rfl, a, vs, rfl, sqL e3 hs, fun l4 n4 => ?_⟩
    generalize hU : upd H3 l4 _ = H5
    obtain ⟨e5, hl4⟩ := gen_up n4 hU
    clear hU
    have c1 : cutV vs (some ((j : Nat) : Int)) none = vs.drop j := cut_from (by omega)
    have c2 : cutV vs none (some ((j : Nat) : Int)) = vs.take j := cut_to (by omega)
    rw [c1] at hl2
    rw [c2] at hl4
    have e35 := Same.trans e3 e5
    refine ⟨l2, l4, vs.drop j, vs.take j, rfl, rfl, e5 _ _ hl2, hl4, by rw [List.length_drop, List.length_take]; exact Nat.le_trans (show _ ≤ 1000 by omega) (by decide), fun l6 n6 => ?_⟩
    generalize hU : upd H5 l6 _ = H7
    obtain ⟨e7, hl6⟩ := gen_up n6 hU
    clear hU
    have hm' : vt cs j = m2 := by
      unfold vt
      rw [Nat.mod_eq_of_lt hjl, List.getD_eq_getElem?_getD, hj]; rfl
    exact k l6 H7 j (Same.trans e35 e7) (gd_of e35 n6) hjl (by rw [hm']; exact hmin) ⟨_, lst_of hl6, PtV.mono (Same.trans e35 e7) (pair_app (pair_drop j hp) (pair_take j hp))⟩
theorem sc__law_round : FnScope ["_law_middle", "_law_items", "_law_result", "_law_c", "_law_way", "_law_ahead", "_law_o"] ["_law_middle", "_law_items"] (defScope s__law_round) := ⟨rfl, rfl, rfl, by decide +kernel, rfl, by decide +kernel, by decide +kernel⟩
theorem ok_round (T : Txt K mg) (D : DefT K mg "_law_round" s__law_round ["_law_middle", "_law_items"]) (c__law_cross : C8.Cal P w K mg base 1 "_law_cross" (spCross K) []) : C8.Cal P w K mg base 2 "_law_round" (spRound K) [] := by
  refine mkC D sc__law_round (fun vs H Q E h => ?_) (fun cdv A outer s H vs Q E hr h => ?_)
  · obtain ⟨_, _, _, _, rfl, _⟩ := h; rfl
  · obtain ⟨v, a, m, cs, rfl, ⟨p, rfl, hm⟩, ⟨vs, hs, hp⟩, B, hn, k⟩ := h
    refine ⟨_, (pss_cons (ps_set (i := 2) sc__law_round.nd rfl (Or.inl rfl) (pe_lst pa_nil))
      (pss_cons (ps_for PassesOwn.never rfl (pi_list (pv 1)) (pg_name (i := 3) sc__law_round.nd rfl (Or.inl rfl)) (pss_cons (ps_set (i := 4) sc__law_round.nd rfl (Or.inr rfl) (pe_tup (pa_cons (pe_op op_sub (pe_ix ix_tup (pv 3) pe_int (fun _ _ => rfl)) (pe_ix ix_tup (pv 0) pe_int (fun _ _ => rfl))) (pa_cons (pe_op op_sub (pe_ix ix_tup (pv 3) pe_int (fun _ _ => rfl)) (pe_ix ix_tup (pv 0) pe_int (fun _ _ => rfl))) pa_nil))))
      (pss_cons (ps_setLc (i := 5) (own := [("_law_o", 6)]) (g := gName 6) (tt := _) (by rfl) sc__law_round.nd rfl rfl (sw_true rfl rfl rfl (by decide +kernel)) (pi_list (pv 2)) (blkOk_by (own := [("_law_o", 6)]) (N := ["_law_middle", "_law_items", "_law_result", "_law_c", "_law_way", "_law_ahead", "_law_o"]) (sc := defScope s__law_round) (by decide +kernel)) (fun _ _ _ _ _ => (pg_name (i := 6) sc__law_round.nd rfl (Or.inl rfl))) (fun _ _ _ _ _ => pts_one (pt_cmpR op_gt (C8.pe_c c__law_cross hr (by decide) rfl (pa_cons (pe_tup (pa_cons (pe_op op_sub (pe_ix (show IxR _ (rIxT K) from ix_tup) (pv 6) pe_int (fun _ _ => rfl)) (pe_ix (show IxR _ (rIxT K) from ix_tup) (pv 0) pe_int (fun _ _ => rfl))) (pa_cons (pe_op op_sub (pe_ix (show IxR _ (rIxT K) from ix_tup) (pv 6) pe_int (fun _ _ => rfl)) (pe_ix (show IxR _ (rIxT K) from ix_tup) (pv 0) pe_int (fun _ _ => rfl))) pa_nil))) (pa_cons (pv 4) pa_nil))) pe_int (nomark _))) (fun _ _ _ _ _ => (pv 6)))
      (pss_one (ps_expr (pe_bm PySem.F.plainAttrs_list PySem.F.slot_list_insert PySem.F.type_list_insert mt_insert (pv 2) (pa_cons (pe_callB call_len_seq (by rfl) T.f_len PySem.boot_len (pa_cons (pv 5) pa_nil)) (pa_cons (pv 3) pa_nil))))))))
      (pss_one (ps_ret (pv 2))))), ?_⟩
    have hl := pair_len hp
    refine ⟨Nat.zero_le _, fun l nl => ?_⟩
    generalize hU : upd H l _ = H1
    obtain ⟨e1, hl1⟩ := gen_up nl hU
    clear hU
    have bm := B m (List.mem_cons_self ..)
    refine ⟨_, rfl, a, rfl, ⟨vs, sqL e1 hs⟩, for_list (xs := vs) (fun i σ H' => ∃ x3 x4 x5 ys cs', σ = [some (.ref p), some (.ref a), some (.ref l), x3, x4, x5, none] ∧ Same H H' ∧ H' l = some (.lst ys) ∧ PtV K H ys cs' ∧ cs'.length = i ∧ ∀ c ∈ cs', c ∈ cs)
      ⟨none, none, none, [], [], rfl, e1, hl1, .nil, rfl, fun c h => absurd h (List.not_mem_nil)⟩ (fun i σ H' _ ⟨_, _, _, _, _, _, e, _⟩ => sqL e hs) ?_ ?_⟩
    · rintro i z σ H2 hz ⟨x3, x4, x5, ys, cs', rfl, e2, hy, hyp, hyl, hyc⟩
      have hi : i < vs.length := (List.getElem?_eq_some_iff.mp hz).1
      obtain ⟨c, hc, ⟨q, rfl, hq⟩⟩ := pair_get hp hz
      have bc := B c (List.mem_cons_of_mem _ (List.mem_of_getElem? hc))
      have hm2 := sqT e2 hm
      have hq2 := sqT e2 hq
      walk_at "go"
      rename_i t nt H3 e3 ht
      have e23 := Same.trans e2 e3
      have hyl2 := pair_len hyp
      refine ⟨⟨ys, lst_of (e3 _ _ hy)⟩, fun D hD => lc_filter (cs := cs') (fun o => decide (0 < cr (o.1 - m.1, o.2 - m.2) (c.1 - m.1, c.2 - m.2))) H3 (Same.refl H3) hD (lst_of (e3 _ _ hy)) (PtV.mono e23 hyp) (by omega) (fun j x o H4 hx ho hxo e4 Q' R h1 h2 => ?_) (fun zs H4 e4 hz hzp hzl => ?_)⟩
      · obtain ⟨q2, rfl, hq2⟩ := hxo
        have bo := B o (List.mem_cons_of_mem _ (hyc _ (List.mem_of_getElem? ho)))
        have hm4 := sqT (Same.trans e23 e4) hm
        have hq4 := sqT e4 hq2
        refine ⟨rfl, ?_⟩
        walk_at "go"
        rename_i t5 nt5 H5 e5 ht5
        refine ⟨_, _, (o.1 - m.1, o.2 - m.2), (c.1 - m.1, c.2 - m.2), rfl, ⟨_, rfl, tup_of ht5⟩, ⟨_, rfl, tup_of (e5 _ _ (e4 _ _ ht))⟩, ⟨⟨by show _ < _ - _; omega, by show _ - _ < (_ : Int); omega⟩, by show _ < _ - _; omega, by show _ - _ < (_ : Int); omega⟩, ?_⟩
        refine ⟨_, _, rfl, rfl, _, rfl, ?_⟩
        by_cases c0 : 0 < cr (o.1 - m.1, o.2 - m.2) (c.1 - m.1, c.2 - m.2)
        · exact iteD c0 ⟨_, rfl, h1 (decide_eq_true c0) _ e5⟩
        · exact iteDn c0 (h2 (decide_eq_false c0) _ e5)
      · have hlH := e4 _ _ (e3 _ _ hy)
        refine ⟨_, rfl, .inl ⟨rfl, ys, lst_of hlH⟩, _, rfl, D, _, rfl, .inl (lst_of hz), _, rfl, ?_⟩
        have hn2 : zs.length ≤ ys.length := hzl
        refine ⟨l, ys, _, _, rfl, rfl, hlH, szL (by omega), by omega, by omega, ?_⟩
        rw [Int.toNat_natCast]
        refine ⟨_, _, _, _, cs'.take zs.length ++ [c] ++ cs'.drop zs.length, rfl, Same.mut (Same.trans e23 e4) nl, upd_same, pair_app (pair_app (pair_take _ hyp) (.cons ⟨q, rfl, hq⟩ .nil)) (pair_drop _ hyp), ?_, ?_⟩
        · rw [List.length_append, List.length_append, List.length_take, List.length_drop, List.length_singleton]; omega
        · intro u hu
          rcases List.mem_append.mp hu with hu | hu
          · rcases List.mem_append.mp hu with hu | hu
            · exact hyc u (List.mem_of_mem_take hu)
            · have : u = c := by simpa using hu
              rw [this]; exact List.mem_of_getElem? hc
          · exact hyc u (List.mem_of_mem_drop hu)
    · rintro σ H2 ⟨x3, x4, x5, ys, cs', rfl, e2, hy, hyp, hyl, hyc⟩
      exact ⟨_, rfl, k l H2 cs' e2 ⟨ys, hy, PtV.mono e2 hyp⟩ (by omega) hyc⟩
theorem sc__law_rays : FnScope ["_law_vertices", "_law_place", "_law_x", "_law_y", "_law_d", "_law_behind", "_law_beyond", "_law_k", "_law_a", "_law_b", "_law_way", "_law_far", "_law_along"] ["_law_vertices", "_law_place"] (defScope s__law_rays) := ⟨rfl, rfl, rfl, by decide +kernel, rfl, by decide +kernel, by decide +kernel⟩
theorem ok_rays (T : Txt K mg) (D : DefT K mg "_law_rays" s__law_rays ["_law_vertices", "_law_place"]) (c__law_cross : C8.Cal P w K mg base 1 "_law_cross" (spCross K) []) : C8.Cal P w K mg base 2 "_law_rays" (spRays K) [] := by
  refine mkC D sc__law_rays (fun vs H Q E h => ?_) (fun cdv A outer s H vs Q E hr h => ?_)
  · obtain ⟨_, _, _, _, _, _, rfl, _⟩ := h; rfl
  · obtain ⟨v, a, cs, x, y, d, rfl, ⟨vs, hs, hp⟩, hne, B, hn, ⟨p, rfl, ht⟩, ⟨d1, d2⟩, k⟩ := h
    refine ⟨_, (pss_cons (ps_asg (pv 1) (pg_tup rfl (pgs_cons (pg_name (i := 2) sc__law_rays.nd rfl (Or.inl rfl)) (pgs_cons (pg_name (i := 3) sc__law_rays.nd rfl (Or.inl rfl)) (pgs_cons (pg_name (i := 4) sc__law_rays.nd rfl (Or.inl rfl)) pgs_nil)))))
      (pss_cons (ps_asg (pe_tup (pa_cons pe_bl (pa_cons pe_bl pa_nil))) (pg_tup rfl (pgs_cons (pg_name (i := 5) sc__law_rays.nd rfl (Or.inl rfl)) (pgs_cons (pg_name (i := 6) sc__law_rays.nd rfl (Or.inl rfl)) pgs_nil))))
      (pss_cons (ps_for PassesOwn.never rfl (pi_range1 (by rfl) T.f_range (pa_cons (pe_callB call_len_seq (by rfl) T.f_len PySem.boot_len (pa_cons (pv 0) pa_nil)) pa_nil)) (pg_name (i := 7) sc__law_rays.nd rfl (Or.inl rfl)) (pss_cons (ps_par (i := 8) (j := 9) (by rfl) sc__law_rays.nd rfl rfl (by decide) rfl rfl (pa_cons (pe_ix ix_list (pv 0) (pe_op op_sub (pv 7) pe_int) (fun _ _ => rfl)) (pa_cons (pe_ix ix_list (pv 0) (pv 7) (fun _ _ => rfl)) pa_nil)) (by rfl))
      (pss_cons (ps_par (i := 10) (j := 11) (by rfl) sc__law_rays.nd rfl rfl (by decide) rfl rfl (pa_cons (pe_tup (pa_cons (pe_op op_sub (pe_ix ix_tup (pv 9) pe_int (fun _ _ => rfl)) (pe_ix ix_tup (pv 8) pe_int (fun _ _ => rfl))) (pa_cons (pe_op op_sub (pe_ix ix_tup (pv 9) pe_int (fun _ _ => rfl)) (pe_ix ix_tup (pv 8) pe_int (fun _ _ => rfl))) pa_nil))) (pa_cons (pe_tup (pa_cons (pe_op op_sub (pv 2) (pe_op op_mul (pe_ix ix_tup (pv 8) pe_int (fun _ _ => rfl)) (pv 4))) (pa_cons (pe_op op_sub (pv 3) (pe_op op_mul (pe_ix ix_tup (pv 8) pe_int (fun _ _ => rfl)) (pv 4))) pa_nil))) pa_nil)) (by rfl))
      (pss_one (ps_if (pt_cmpR op_eq (C8.pe_c c__law_cross hr (by decide) rfl (pa_cons (pv 10) (pa_cons (pv 11) pa_nil))) pe_int (nomark _)) (pss_cons (ps_set (i := 12) sc__law_rays.nd rfl (Or.inl rfl) (pe_op op_add (pe_op op_mul (pe_ix ix_tup (pv 10) pe_int (fun _ _ => rfl)) (pe_ix ix_tup (pv 11) pe_int (fun _ _ => rfl))) (pe_op op_mul (pe_ix ix_tup (pv 10) pe_int (fun _ _ => rfl)) (pe_ix ix_tup (pv 11) pe_int (fun _ _ => rfl)))))
      (pss_cons (ps_set (i := 5) sc__law_rays.nd rfl (Or.inl rfl) (pe_or (pv 5) (pe_one (pe_cmpR op_lt (pv 12) pe_int (nomark _)))))
      (pss_one (ps_set (i := 6) sc__law_rays.nd rfl (Or.inl rfl) (pe_or (pv 6) (pe_one (pe_cmpR op_gt (pv 12) (pe_op op_mul (pv 4) (pe_op op_add (pe_op op_mul (pe_ix ix_tup (pv 10) pe_int (fun _ _ => rfl)) (pe_ix ix_tup (pv 10) pe_int (fun _ _ => rfl))) (pe_op op_mul (pe_ix ix_tup (pv 10) pe_int (fun _ _ => rfl)) (pe_ix ix_tup (pv 10) pe_int (fun _ _ => rfl))))) (nomark _)))))))) pss_nil)))))
      (pss_one (ps_ret (pe_tup (pa_cons (pv 5) (pa_cons (pv 6) pa_nil)))))))), ?_⟩
    have hl := pair_len hp
    refine ⟨_, rfl, p, _, rfl, ht, rfl, _, _, rfl, _, _, rfl, _, _, rfl, rfl, ?_⟩
    refine ⟨Nat.le_of_ble_eq_true rfl, fun t nt => ?_⟩
    generalize hU : upd H t _ = H1
    obtain ⟨e1, ht1⟩ := gen_up nt hU
    clear hU
    refine ⟨t, _, rfl, tup_of ht1, rfl, _, _, rfl, _, _, rfl, rfl, ?_⟩
    refine ⟨_, rfl, _, _, rfl, .inl (sqL e1 hs), _, rfl, by omega, by omega, ?_⟩
    refine for_range (n := ((vs.length : Nat) : Int).toNat) (fun i σ H' => ∃ (b1 b2 : Bool) (x7 x8 x9 x10 x11 x12 : Option V), σ = [some (.ref a), some (.ref p), some (.int x), some (.int y), some (.int d), some (.bl b1), some (.bl b2), x7, x8, x9, x10, x11, x12] ∧ Same H H' ∧
      (b1 = true ↔ BefI cs x y d i) ∧ (b2 = true ↔ BeyI cs x y d i)) ⟨false, false, none, none, none, none, none, none, rfl, e1, ⟨fun z => (nomatch z), fun ⟨_, z, _⟩ => absurd z (Nat.not_lt_zero _)⟩, ⟨fun z => (nomatch z), fun ⟨_, z, _⟩ => absurd z (Nat.not_lt_zero _)⟩⟩ ?_ ?_
    · rintro i σ H2 hi ⟨b1, b2, x7, x8, x9, x10, x11, x12, rfl, e2, i1, i2⟩
      have hic : i < cs.length := by omega
      obtain ⟨va, ga, ⟨qa, ea, ha⟩⟩ := vt_get hp hne (i + (cs.length - 1))
      obtain ⟨vb, gb, ⟨qb, eb, hb⟩⟩ := vt_get hp hne i
      subst ea eb
      have ha2 := sqT e2 ha
      have hb2 := sqT e2 hb
      have hs2 := sqL e2 hs
      rw [Nat.mod_eq_of_lt hic] at gb
      refine ⟨_, rfl, _, rfl, _, _, rfl, rfl, a, vs, _, .ref qa, rfl, rfl, hs2, ?at1, _, rfl, _, rfl, a, vs, _, .ref qb, rfl, rfl, hs2, at_of (j := i) (by omega) gb, _, _, rfl, ?_⟩
      case at1 => rw [show ((0 : Int) + (i : Nat)) - 1 = ((i : Nat) : Int) - 1 by omega]; exact at_prev (by omega) (by rw [hl]; exact ga)
      have Ba := B _ (vt_mem hne (i + (cs.length - 1)))
      have Bb := B _ (vt_mem hne i)
      walk_at "go"
      rename_i pw npw H3 e3 hw pf npf H4 e4 hf
      have e24 := Same.trans e3 e4
      have hw4 := e4 _ _ hw
      have heW : ed cs (i + (cs.length - 1)) = ((vt cs i).1 - (vt cs (i + (cs.length - 1))).1, (vt cs i).2 - (vt cs (i + (cs.length - 1))).2) := by
        unfold ed
        rw [vt_mod cs (i + (cs.length - 1) + 1) i (by rw [show i + (cs.length - 1) + 1 = i + cs.length by omega, Nat.add_mod_right])]
        rfl
      have hsd : cr ((vt cs i).1 - (vt cs (i + (cs.length - 1))).1, (vt cs i).2 - (vt cs (i + (cs.length - 1))).2) (x - (vt cs (i + (cs.length - 1))).1 * d, y - (vt cs (i + (cs.length - 1))).2 * d) = sd cs (x, y) d (i + (cs.length - 1)) := by
        unfold sd; rw [heW]
      have hal : ((vt cs i).1 - (vt cs (i + (cs.length - 1))).1) * (x - (vt cs (i + (cs.length - 1))).1 * d) + ((vt cs i).2 - (vt cs (i + (cs.length - 1))).2) * (y - (vt cs (i + (cs.length - 1))).2 * d) = al cs (x, y) d (i + (cs.length - 1)) := by
        unfold al; rw [heW]; rfl
      have hnn : ((vt cs i).1 - (vt cs (i + (cs.length - 1))).1) * ((vt cs i).1 - (vt cs (i + (cs.length - 1))).1) + ((vt cs i).2 - (vt cs (i + (cs.length - 1))).2) * ((vt cs i).2 - (vt cs (i + (cs.length - 1))).2) = nn (ed cs (i + (cs.length - 1))) := by
        rw [heW]; rfl
      refine ⟨_, _, rfl, _, rfl, _, rfl, _, _, ((vt cs i).1 - (vt cs (i + (cs.length - 1))).1, (vt cs i).2 - (vt cs (i + (cs.length - 1))).2), (x - (vt cs (i + (cs.length - 1))).1 * d, y - (vt cs (i + (cs.length - 1))).2 * d), rfl, ⟨_, rfl, tup_of hw4⟩, ⟨_, rfl, tup_of hf⟩,
        ⟨⟨by show _ < _ - _; omega, by show _ - _ < (_ : Int); omega⟩, by show _ < _ - _; omega, by show _ - _ < (_ : Int); omega⟩, ?_⟩
      rw [hsd]
      refine ⟨rfl, _, rfl, ite2D (fun c => ?_) (fun c => ?_)⟩
      · have s0 : sd cs (x, y) d (i + (cs.length - 1)) = 0 := V.int.inj c
        have J1 : BefI cs x y d (i + 1) ↔ (BefI cs x y d i ∨ al cs (x, y) d (i + (cs.length - 1)) < 0) := by
          unfold BefI; rw [exS, s0]; simp
        have J2 : BeyI cs x y d (i + 1) ↔ (BeyI cs x y d i ∨ d * nn (ed cs (i + (cs.length - 1))) < al cs (x, y) d (i + (cs.length - 1))) := by
          unfold BeyI; rw [exS, s0]; simp
        have tw4 := tup_of (K := K) hw4
        have tf4 := tup_of (K := K) hf
        cases b1 <;> cases b2 <;> (repeat first | walk_at "step" | refine iteT ?_ | refine iteF ?_) <;> refine ⟨_, _, _, _, _, _, _, _, rfl, Same.trans e2 e24, ?_, ?_⟩
        · refine bl_iff ?_
          rw [J1, ← i1]; simp; omega
        · refine bl_iff ?_
          rw [J2, ← i2]; simp; rw [← hnn, ← hal]
        · refine bl_iff ?_
          rw [J1, ← i1]; simp; omega
        · rw [J2, ← i2]; simp
        · rw [J1, ← i1]; simp
        · refine bl_iff ?_
          rw [J2, ← i2]; simp; rw [← hnn, ← hal]
        · rw [J1, ← i1]; simp
        · rw [J2, ← i2]; simp
      · have s0 : ¬ sd cs (x, y) d (i + (cs.length - 1)) = 0 := fun z => c (by rw [z])
        refine ⟨b1, b2, _, _, _, _, _, _, rfl, Same.trans e2 e24, ?_, ?_⟩
        · rw [i1]; unfold BefI; rw [exS]; simp [s0]
        · rw [i2]; unfold BeyI; rw [exS]; simp [s0]
    · rintro σ H2 ⟨b1, b2, x7, x8, x9, x10, x11, x12, rfl, e2, i1, i2⟩
      walk_at "go"
      rename_i t3 nt3 H3 e3 ht3
      refine k _ _ b1 b2 (Same.trans e2 e3) ?_ ?_ (tup_of ht3)
      · rw [i1]; rw [Int.toNat_natCast, hl]; exact (before_iff cs x y d hne).symm
      · rw [i2]; rw [Int.toNat_natCast, hl]; exact (beyond_iff cs x y d hne).symm
end
end KP

set_option Elab.async false
set_option linter.all false
set_option maxRecDepth 100000
set_option maxHeartbeats 4000000
namespace KP
open PySem PySem.Spec PyProof.Rows L2 KM
/-! ### steps of a reading -/
local macro_rules | `(tactic| walk_at "lift") => `(tactic| first
  | assumption
  | exact tup_of (by assumption)
  | exact lst_of (by assumption)
  | (refine sqT (by assumption) ?_; walk_at "lift")
  | (refine sqL (by assumption) ?_; walk_at "lift")
  | (refine TI.mono (by assumption) ?_; walk_at "lift")
  | (refine PtL.mono (by assumption) ?_; walk_at "lift")
  | (refine PtV.mono (by assumption) ?_; walk_at "lift")
  | (refine PolyAt.mono (by assumption) ?_; walk_at "lift"))
local macro_rules | `(tactic| walk_at "cond") => `(tactic| first
  | (refine (id ?_ : (_ : Prop)); omega)
  | (refine And.intro ?_ ?_ <;> omega)
  | (refine Or.inl (And.intro ?_ ?_) <;> omega)
  | (refine Or.inr (And.intro ?_ ?_) <;> omega)
  | (refine And.intro ?_ (And.intro ?_ ?_) <;> first | omega | decide))
local macro_rules | `(tactic| walk_at "new") => `(tactic| (intro p np; generalize hU : upd _ p _ = H3; have hU2 := gen_up np hU; clear hU; obtain ⟨e3, h3⟩ := hU2))
local macro_rules | `(tactic| walk_at "step") => `(tactic| first
  | (refine ⟨_, _, rfl, rfl, ?c, ?_⟩; (case c => walk_at "cond"))
  | refine ⟨_, _, rfl, rfl, ?_⟩
  | (refine ⟨_, ?xs, _, ?v, rfl, rfl, ?a, ?b, ?_⟩; (case a => walk_at "lift"); (case b => rfl))
  | refine ⟨_, rfl, ?_⟩
  | (refine ⟨_, _, rfl, Or.inl ?a, ?_⟩; (case a => walk_at "lift"))
  | (refine ⟨_, _, rfl, Or.inr ?a, ?_⟩; (case a => walk_at "lift"))
  | (refine ⟨szT (Nat.le_of_ble_eq_true rfl), ?_⟩; walk_at "new"))
local macro_rules | `(tactic| walk_at "go") => `(tactic| repeat walk_at "step")
theorem paired_of {α β : Type} {F : α → β → Prop} : ∀ {xs : List α} {ys : List β}, xs.length = ys.length → (∀ (j : Nat) (x : α), xs[j]? = some x → ∃ y, ys[j]? = some y ∧ F x y) → Paired F xs ys
  | [], [], _, _ => .nil
  | [], _ :: _, h, _ => by simp at h
  | _ :: _, [], h, _ => by simp at h
  | x :: xs, y :: ys, h, f => by
    obtain ⟨z, h1, h2⟩ := f 0 x rfl
    have e : y = z := Option.some.inj h1
    subst e
    exact .cons h2 (paired_of (by simpa using h) fun j u hu => f (j + 1) u (by simpa using hu))
theorem PairB.mono {K : PySem.W.Frag} {H H' : Hp} {v : V} {c : Pt} (e : Same H H') (h : PairB K H v c) : PairB K H' v c := by
  obtain ⟨p, x, h1, h2, h3⟩ := h
  exact ⟨p, x, h1, sqT e h2, TI.mono e h3⟩
section
variable {P : Program} {w : World} {K : PySem.W.Frag} {mg : Str → Option Value} {base : Heap} {C : Addr}
/-- what the first i corners' edges have on their left -/
def LeftI (cs : List Pt) (i : Nat) : Prop := ∀ k, k < i → ∀ c ∈ cs, c = vt cs k ∨ c = vt cs (k + 1) ∨ 0 < cr (ed cs k) (df c (vt cs k))
def LeftJ (cs : List Pt) (i j : Nat) : Prop := ∀ m, m < j → ∀ c, cs[m]? = some c → c = vt cs i ∨ c = vt cs (i + 1) ∨ 0 < cr (ed cs i) (df c (vt cs i))
theorem sc__law_is_convex : FnScope ["_law_corners", "_law_k", "_law_a", "_law_b", "_law_way", "_law_c"] ["_law_corners"] (defScope s__law_is_convex) := ⟨rfl, rfl, rfl, by decide +kernel, rfl, by decide +kernel, by decide +kernel⟩
theorem ok_lconvex (T : Txt K mg) (D : DefT K mg "_law_is_convex" s__law_is_convex ["_law_corners"]) (c__law_cross : C8.Cal P w K mg base 1 "_law_cross" (spCross K) []) : C8.Cal P w K mg base 2 "_law_is_convex" (spLConvex K) [] := by
  refine mkC D sc__law_is_convex (fun vs H Q E h => ?_) (fun cdv A outer s H vs Q E hr h => ?_)
  · obtain ⟨_, _, rfl, _⟩ := h; rfl
  · obtain ⟨a, cs, rfl, ⟨vs, hs, hp⟩, B, hn, h3, k⟩ := h
    refine ⟨_, (pss_cons (ps_for PassesOwn.never rfl (pi_range1 (by rfl) T.f_range (pa_cons (pe_callB call_len_seq (by rfl) T.f_len PySem.boot_len (pa_cons (pv 0) pa_nil)) pa_nil)) (pg_name (i := 1) sc__law_is_convex.nd rfl (Or.inl rfl)) (pss_cons (ps_par (i := 2) (j := 3) (by rfl) sc__law_is_convex.nd rfl rfl (by decide) rfl rfl (pa_cons (pe_ix ix_list (pv 0) (pv 1) (fun _ _ => rfl)) (pa_cons (pe_ix ix_list (pv 0) (pe_op op_mod (pe_op op_add (pv 1) pe_int) (pe_callB call_len_seq (by rfl) T.f_len PySem.boot_len (pa_cons (pv 0) pa_nil))) (fun _ _ => rfl)) pa_nil)) (by rfl))
      (pss_cons (ps_set (i := 4) sc__law_is_convex.nd rfl (Or.inl rfl) (pe_tup (pa_cons (pe_op op_sub (pe_ix ix_tup (pv 3) pe_int (fun _ _ => rfl)) (pe_ix ix_tup (pv 2) pe_int (fun _ _ => rfl))) (pa_cons (pe_op op_sub (pe_ix ix_tup (pv 3) pe_int (fun _ _ => rfl)) (pe_ix ix_tup (pv 2) pe_int (fun _ _ => rfl))) pa_nil))))
      (pss_one (ps_for PassesOwn.never rfl (pi_list (pv 0)) (pg_name (i := 5) sc__law_is_convex.nd rfl (Or.inl rfl)) (pss_one (ps_if (PW.pt (pw_and (pt_cmpR (op_notInDT (hu65 hr)) (pv 5) (pe_tup (pa_cons (pv 2) (pa_cons (pv 3) pa_nil))) (by rfl)) (pw_and1 (pt_cmpR op_le (C8.pe_c c__law_cross hr (by decide) rfl (pa_cons (pv 4) (pa_cons (pe_tup (pa_cons (pe_op op_sub (pe_ix ix_tup (pv 5) pe_int (fun _ _ => rfl)) (pe_ix ix_tup (pv 2) pe_int (fun _ _ => rfl))) (pa_cons (pe_op op_sub (pe_ix ix_tup (pv 5) pe_int (fun _ _ => rfl)) (pe_ix ix_tup (pv 2) pe_int (fun _ _ => rfl))) pa_nil))) pa_nil))) pe_int (nomark _))))) (pss_one (ps_ret pe_bl)) pss_nil)))))))
      (pss_one (ps_ret (pe_cmpR op_eq (pe_callB call_len_dR (by rfl) T.f_len PySem.boot_len (pa_cons (pe_callTy (call_dictT rfl (hu65 hr)) (by rfl) T.f_dict (by decide +kernel) (pa_cons (pe_lc (own := [("_law_c", 5)]) (g := gName 5) (tt := tYes) (by rfl) sc__law_is_convex.nd (pi_list (pv 0)) (blkOk_by (own := [("_law_c", 5)]) (N := ["_law_corners", "_law_k", "_law_a", "_law_b", "_law_way", "_law_c"]) (sc := defScope s__law_is_convex) (by decide +kernel)) (fun _ _ _ _ _ => (pg_name (i := 5) sc__law_is_convex.nd rfl (Or.inl rfl))) (fun _ _ _ _ _ => pts_nil) (fun _ _ _ _ _ => (pe_tup (pa_cons (pv 5) (pa_cons pe_bl pa_nil))))) pa_nil)) pa_nil)) (pe_callB call_len_seq (by rfl) T.f_len PySem.boot_len (pa_cons (pv 0) pa_nil)) (nomark _))))), ?_⟩
    have hl := pair_len hp
    have hne : cs ≠ [] := by intro z; rw [z] at h3; exact absurd h3 (by decide)
    refine ⟨_, rfl, _, _, rfl, .inl hs, _, rfl, by omega, by omega, ?_⟩
    refine for_range (n := ((vs.length : Nat) : Int).toNat) (fun i σ H' => ∃ (x1 x2 x3 x4 x5 : Option V), σ = [some (.ref a), x1, x2, x3, x4, x5] ∧ Same H H' ∧ LeftI cs i) ⟨none, none, none, none, none, rfl, Same.refl _, fun k hk => absurd hk (Nat.not_lt_zero _)⟩ ?_ ?_
    · rintro i σ H2 hi ⟨x1, x2, x3, x4, x5, rfl, e2, I⟩
      have hic : i < cs.length := by omega
      obtain ⟨va, ga, ⟨qa, ea, ha⟩⟩ := vt_get hp hne i
      obtain ⟨vb, gb, ⟨qb, eb, hb⟩⟩ := vt_get hp hne (i + 1)
      subst ea eb
      have ha2 := sqT e2 ha
      have hb2 := sqT e2 hb
      have hs2 := sqL e2 hs
      rw [Nat.mod_eq_of_lt hic] at ga
      have Ba := B _ (vt_mem hne i)
      have Bb := B _ (vt_mem hne (i + 1))
      refine ⟨_, rfl, _, rfl, a, vs, _, .ref qa, rfl, rfl, hs2, at_of (j := i) (by omega) ga, _, rfl, _, rfl, _, _, rfl, rfl, _, rfl, _, _, rfl, .inl hs2, _, _, rfl, rfl, by omega, a, vs, _, .ref qb, rfl, rfl, hs2, at_of (j := (i + 1) % cs.length) (by rw [hl]; push_cast; rw [Int.zero_add]) gb, _, _, rfl, ?_⟩
      walk_at "go"
      rename_i pw npw H3 e3 hw
      have e23 := Same.trans e2 e3
      refine ⟨⟨vs, sqL e23 hs⟩, for_list (xs := vs) (fun j σ H' => ∃ x5, σ = [some (.ref a), some (.int (0 + (i : Nat))), some (.ref qa), some (.ref qb), some (.ref pw), x5] ∧ Same H3 H' ∧ LeftJ cs i j) ⟨x5, rfl, Same.refl _, fun m hm => absurd hm (Nat.not_lt_zero _)⟩ (fun j σ H' _ ⟨_, _, e, _⟩ => sqL (Same.trans e23 e) hs) ?_ ?_⟩
      · rintro j z σ H4 hz ⟨y5, rfl, e4, J⟩
        obtain ⟨c, hc, ⟨qc, rfl, hqc⟩⟩ := pair_get hp hz
        have Bc := B c (List.mem_of_getElem? hc)
        have e24 := Same.trans e23 e4
        have ha4 := sqT e24 ha
        have hb4 := sqT e24 hb
        have hc4 := sqT e24 hqc
        refine ⟨_, rfl, _, rfl, _, rfl, Nat.le_of_ble_eq_true rfl, fun t nt => ?_⟩
        generalize hU : upd H4 t _ = H5
        obtain ⟨e5, ht⟩ := gen_up nt hU
        clear hU
        have ha5 := sqT e5 ha4
        have hb5 := sqT e5 hb4
        have hc5 := sqT e5 hc4
        refine ⟨_, [ptD (vt cs i), ptD (vt cs (i + 1))], dp_pt (c := c) ⟨qc, rfl, hc5⟩, .tup (tup_of ht) (.cons (dp_pt ⟨qa, rfl, ha5⟩) (.cons (dp_pt ⟨qb, rfl, hb5⟩) .nil)), ptD_shaped c, ptDt_shaped [vt cs i, vt cs (i + 1)], _, rfl, ?_⟩
        have any_ : ([ptD (vt cs i), ptD (vt cs (i + 1))].any fun z => PyData.eqv z (ptD c)) = decide (c ∈ [vt cs i, vt cs (i + 1)]) := any_pt [vt cs i, vt cs (i + 1)] c
        rw [any_]
        have nextJ : (c = vt cs i ∨ c = vt cs (i + 1) ∨ 0 < cr (ed cs i) (df c (vt cs i))) → LeftJ cs i (j + 1) := fun h m hm c' hc' => by
          by_cases cm : m = j
          · subst cm
            rw [hc] at hc'
            cases hc'
            exact h
          · exact J m (by omega) c' hc'
        by_cases hm : c ∈ [vt cs i, vt cs (i + 1)]
        · refine iteNS hm (iteF ⟨_, rfl, Same.trans e4 e5, nextJ ?_⟩)
          rcases List.mem_cons.mp hm with h | h
          · exact .inl h
          · exact .inr (.inl (by simpa using h))
        · refine iteNT hm ?_
          have hw5 := e5 _ _ (e4 _ _ hw)
          walk_at "go"
          rename_i pf npf H6 e6 hf
          have hw6 := e6 _ _ hw5
          refine ⟨_, _, ed cs i, df c (vt cs i), rfl, ⟨_, rfl, tup_of hw6⟩, ⟨_, rfl, tup_of hf⟩, ed_sm hne B i, ?_⟩
          refine ⟨_, _, rfl, rfl, _, rfl, ite2D (fun c1 => ?_) (fun c1 => ?_)⟩
          · exact k false _ (Same.trans e24 (Same.trans e5 e6)) (fun z => nomatch z)
          · exact ⟨_, rfl, Same.trans e4 (Same.trans e5 e6), nextJ (.inr (.inr (by omega)))⟩
      · rintro σ H4 ⟨y5, rfl, e4, J⟩
        refine ⟨_, _, _, _, _, rfl, Same.trans e23 e4, fun m hm => ?_⟩
        by_cases c : m = i
        · subst c
          intro c hc
          obtain ⟨j, hj⟩ := List.mem_iff_getElem?.mp hc
          exact J j (by have := (List.getElem?_eq_some_iff.mp hj).1; omega) c hj
        · exact I m (by omega)
    · rintro σ H2 ⟨x1, x2, x3, x4, x5, rfl, e2, I⟩
      have hs2 := sqL e2 hs
      refine ⟨_, rfl, a, rfl, ⟨vs, hs2⟩, fun D hD => lc_mapL H2 (fun j y G => ∃ c, cs[j]? = some c ∧ PairB K G y c) (fun _ _ _ _ ⟨c, h1, h2⟩ e => ⟨c, h1, PairB.mono e h2⟩) (Same.refl H2) hD hs2 (by omega) (fun j z H3 hz e3 Q' R hq hDn => ?_) (fun ys H3 e3 hy hyl hb => ?_)⟩
      · obtain ⟨c, hc, hzc⟩ := pair_get hp hz
        refine turn_yes rfl ?_
        refine ⟨_, rfl, Nat.le_of_ble_eq_true rfl, fun t nt => ?_⟩
        generalize hU : upd H3 t _ = H4
        obtain ⟨e4, ht⟩ := gen_up nt hU
        clear hU
        have hD4 : D ≠ t := by intro z; subst z; obtain ⟨zs, hz0⟩ := hDn; rw [hz0] at nt; cases nt
        refine hq _ _ e4 ⟨c, hc, t, z, rfl, tup_of (by rw [wo_ne (Ne.symm hD4)]; exact ht), TI.mono (same_wo (Same.trans e2 (Same.trans e3 e4)) (gd_of e2 hD)) hzc⟩
      · refine ⟨D, ys, cs, rfl, lst_of hy, paired_of (by omega) (fun j x hx => ?_), fun d n h1 h2 nd => ?_⟩
        · obtain ⟨c, hc, hpb⟩ := hb j x hx
          exact ⟨c, hc, PairB.mono wo_le hpb⟩
        · refine ⟨d, n, rfl, upd_same, by omega, _, rfl, _, _, rfl, .inl (sqL (Same.trans e2 (Same.newer e3 nd)) hs), rfl, ?_⟩
          refine k _ _ (Same.trans e2 (Same.newer e3 nd)) fun hb => ?_
          have hz := of_decide_eq_true hb
          have hn2 : ((n : Nat) : Int) = ((vs.length : Nat) : Int) := V.int.inj hz
          exact conv_nodup h3 (h2 (by omega)) (fun k hk => I k (by omega))
/-- an edge's direction, upward -/
theorem dir_law {x y s : Int} (hne : x ≠ 0 ∨ y ≠ 0) (bx : -120 ≤ x ∧ x ≤ 120) (by_ : -120 ≤ y ∧ y ≤ 120) (hs : (s = 1 ∧ (0 < y ∨ (y = 0 ∧ 0 < x))) ∨ (s = -1 ∧ ¬ (0 < y ∨ (y = 0 ∧ 0 < x)))) :
    ∃ q r : Int, CDivN x ((Int.gcd x y : Nat) * s) ∧ x.fdiv ((Int.gcd x y : Nat) * s) = q ∧ y.fdiv ((Int.gcd x y : Nat) * s) = r ∧ Up (q, r) ∧ ((-120 ≤ q ∧ q ≤ 120) ∧ (-120 ≤ r ∧ r ≤ 120)) ∧ cr (x, y) (q, r) = 0 := by
  have gp : 0 < Int.gcd x y := Int.gcd_pos_iff.mpr hne
  have gl : Int.gcd x y ≤ 120 := by
    rcases hne with h | h
    · have := Int.gcd_le_natAbs_left (b := y) h; omega
    · have := Int.gcd_le_natAbs_right (a := x) h; omega
  obtain ⟨q, hq⟩ : ∃ q, x = (Int.gcd x y : Nat) * q := Int.gcd_dvd_left ..
  obtain ⟨r, hr⟩ : ∃ r, y = (Int.gcd x y : Nat) * r := Int.gcd_dvd_right ..
  generalize hg : Int.gcd x y = g at *
  have ss : s * s = 1 := by rcases hs with ⟨h, _⟩ | ⟨h, _⟩ <;> rw [h] <;> rfl
  have s0 : s = 1 ∨ s = -1 := by rcases hs with ⟨h, _⟩ | ⟨h, _⟩ <;> simp [h]
  have g0 : (g : Int) * s ≠ 0 := by rcases s0 with h | h <;> rw [h] <;> omega
  have bq : -120 ≤ q ∧ q ≤ 120 := by
    have h1 : ∀ q : Int, (g : Int) * q ≤ 120 → q ≤ 120 := fun q h => by
      rcases (show q ≤ 120 ∨ 120 < q by omega) with z | z
      · exact z
      · have := Int.mul_le_mul_of_nonneg_right (show (1 : Int) ≤ g by omega) (show 0 ≤ q by omega); omega
    have a := h1 q (by omega)
    have b := h1 (-q) (by rw [Int.mul_neg]; omega)
    omega
  have br : -120 ≤ r ∧ r ≤ 120 := by
    have h1 : ∀ q : Int, (g : Int) * q ≤ 120 → q ≤ 120 := fun q h => by
      rcases (show q ≤ 120 ∨ 120 < q by omega) with z | z
      · exact z
      · have := Int.mul_le_mul_of_nonneg_right (show (1 : Int) ≤ g by omega) (show 0 ≤ q by omega); omega
    have a := h1 r (by omega)
    have b := h1 (-r) (by rw [Int.mul_neg]; omega)
    omega
  have gi : (0 : Int) < g := by omega
  refine ⟨s * q, s * r, ⟨g0, by rcases s0 with h | h <;> rw [h] <;> omega⟩, ?_, ?_, ?_, ?_, ?_⟩
  · conv => lhs; rw [hq, show (g : Int) * q = (g : Int) * s * (s * q) by rw [Int.mul_assoc, ← Int.mul_assoc s s q, ss, Int.one_mul]]
    exact Int.mul_fdiv_cancel_left _ g0
  · conv => lhs; rw [hr, show (g : Int) * r = (g : Int) * s * (s * r) by rw [Int.mul_assoc, ← Int.mul_assoc s s r, ss, Int.one_mul]]
    exact Int.mul_fdiv_cancel_left _ g0
  · have pos : ∀ z : Int, 0 < (g : Int) * z → 0 < z := fun z h => pos_of_mul gi h
    unfold Up
    show 0 < s * r ∨ (s * r = 0 ∧ 0 < s * q)
    rcases hs with ⟨h, u⟩ | ⟨h, u⟩
    · rw [h, Int.one_mul, Int.one_mul]
      rcases u with u | ⟨u, v⟩
      · exact .inl (pos r (by omega))
      · refine .inr ⟨?_, pos q (by omega)⟩
        rcases Int.mul_eq_zero.mp (show (g : Int) * r = 0 by omega) with z | z
        · omega
        · exact z
    · rw [h]
      rcases (show 0 < -y ∨ (y = 0 ∧ 0 < -x) by omega) with u | ⟨u, v⟩
      · refine .inl ?_
        have := pos (-r) (by rw [Int.mul_neg]; omega)
        omega
      · refine .inr ⟨?_, ?_⟩
        · rcases Int.mul_eq_zero.mp (show (g : Int) * r = 0 by omega) with z | z
          · omega
          · omega
        · have := pos (-q) (by rw [Int.mul_neg]; omega)
          omega
  · rcases s0 with h | h <;> rw [h] <;> omega
  · show x * (s * r) - y * (s * q) = 0
    rw [hq, hr]; grind
theorem sgn_join {σ : L2.St} {H : Hp} {Q : VK} {x y : Int} (h5 : σ[5]? = some (some (.int x))) (h6 : σ[6]? = some (some (.int y)))
    (h : ∀ s : Int, ((s = 1 ∧ (0 < y ∨ (y = 0 ∧ 0 < x))) ∨ (s = -1 ∧ ¬ (0 < y ∨ (y = 0 ∧ 0 < x)))) → Q (.int s) H) :
    tIf (tOr (tTest (tOp (rI0 fun i j => V.bl (decide (j < i))) (tVar 6) (tC (.int 0)))) (tAnd (tTest (tOp rEq (tVar 6) (tC (.int 0)))) (tTest (tOp (rI0 fun i j => V.bl (decide (j < i))) (tVar 5) (tC (.int 0)))))) (tC (.int 1)) (tUn (rU fun i => V.int (-i)) (tC (.int 1))) σ H Q := by
  refine ⟨_, h6, _, _, rfl, rfl, _, rfl, ite2D (fun c => ?_) (fun c => ?_)⟩
  · exact iteT (h 1 (.inl ⟨rfl, .inl c⟩))
  · refine ⟨_, h6, rfl, _, rfl, ite2D (fun c2 => ?_) (fun c2 => ?_)⟩
    · have hy : y = 0 := V.int.inj c2
      refine ⟨_, h5, _, _, rfl, rfl, _, rfl, ite2D (fun c3 => ?_) (fun c3 => ?_)⟩
      · exact h 1 (.inl ⟨rfl, .inr ⟨hy, c3⟩⟩)
      · exact ⟨_, rfl, h (-1) (.inr ⟨rfl, by omega⟩)⟩
    · have hy : y ≠ 0 := fun z => c2 (by rw [z])
      exact ⟨_, rfl, h (-1) (.inr ⟨rfl, by omega⟩)⟩
theorem wo_upd {d : Addr} {H : Hp} {o : HO} : wo d (upd H d o) = wo d H := by
  funext b
  by_cases c : b = d
  · rw [c, wo_at, wo_at]
  · rw [wo_ne c, wo_ne c, upd_ne c]
/-- behind i edges -/
structure DirI (cs ws : List Pt) (i : Nat) : Prop where
  len : ws.length ≤ i
  up : ∀ e ∈ ws, Up e
  bd : ∀ e ∈ ws, (-120 ≤ e.1 ∧ e.1 ≤ 120) ∧ (-120 ≤ e.2 ∧ e.2 ≤ 120)
  srt : ws.Pairwise fun a b => 0 ≤ cr a b
  all : ∀ m, m < i → ∃ e ∈ ws, cr (ed cs m) e = 0
theorem sc__law_directions : FnScope ["_law_corners", "_law_result", "_law_k", "_law_a", "_law_b", "_law_x", "_law_y", "_law_both", "_law_way", "_law_e"] ["_law_corners"] (defScope s__law_directions) := ⟨rfl, rfl, rfl, by decide +kernel, rfl, by decide +kernel, by decide +kernel⟩
theorem ok_dirs (T : Txt K mg) (D : DefT K mg "_law_directions" s__law_directions ["_law_corners"]) (c__law_cross : C8.Cal P w K mg base 1 "_law_cross" (spCross K) []) (c__law_gcd : C8.Cal P w K mg base 1 "_law_gcd" spGcd []) : C8.Cal P w K mg base 2 "_law_directions" (spDirs K) [] := by
  refine mkC D sc__law_directions (fun vs H Q E h => ?_) (fun cdv A outer s H vs Q E hr h => ?_)
  · obtain ⟨_, _, rfl, _⟩ := h; rfl
  · obtain ⟨a, cs, rfl, ⟨vs, hs, hp⟩, cv, B, hn, k⟩ := h
    refine ⟨_, (pss_cons (ps_set (i := 1) sc__law_directions.nd rfl (Or.inl rfl) (pe_lst pa_nil))
      (pss_cons (ps_for PassesOwn.never rfl (pi_range1 (by rfl) T.f_range (pa_cons (pe_callB call_len_seq (by rfl) T.f_len PySem.boot_len (pa_cons (pv 0) pa_nil)) pa_nil)) (pg_name (i := 2) sc__law_directions.nd rfl (Or.inl rfl)) (pss_cons (ps_par (i := 3) (j := 4) (by rfl) sc__law_directions.nd rfl rfl (by decide) rfl rfl (pa_cons (pe_ix ix_list (pv 0) (pv 2) (fun _ _ => rfl)) (pa_cons (pe_ix ix_list (pv 0) (pe_op op_mod (pe_op op_add (pv 2) pe_int) (pe_callB call_len_seq (by rfl) T.f_len PySem.boot_len (pa_cons (pv 0) pa_nil))) (fun _ _ => rfl)) pa_nil)) (by rfl))
      (pss_cons (ps_par (i := 5) (j := 6) (by rfl) sc__law_directions.nd rfl rfl (by decide) rfl rfl (pa_cons (pe_op op_sub (pe_ix ix_tup (pv 4) pe_int (fun _ _ => rfl)) (pe_ix ix_tup (pv 3) pe_int (fun _ _ => rfl))) (pa_cons (pe_op op_sub (pe_ix ix_tup (pv 4) pe_int (fun _ _ => rfl)) (pe_ix ix_tup (pv 3) pe_int (fun _ _ => rfl))) pa_nil)) (by rfl))
      (pss_cons (ps_set (i := 7) sc__law_directions.nd rfl (Or.inl rfl) (pe_op op_mul (C8.pe_c c__law_gcd hr (by decide) rfl (pa_cons (pv 5) (pa_cons (pv 6) pa_nil))) (pe_ifExp (PW.pt (pw_or (pt_cmpR op_gt (pv 6) pe_int (nomark _)) (pw_or1 (PW.pt (pw_and (pt_cmpR op_eq (pv 6) pe_int (nomark _)) (pw_and1 (pt_cmpR op_gt (pv 5) pe_int (nomark _)))))))) pe_int (pe_un un_neg pe_int))))
      (pss_cons (ps_set (i := 8) sc__law_directions.nd rfl (Or.inr rfl) (pe_tup (pa_cons (pe_op op_fdivN (pv 5) (pv 7)) (pa_cons (pe_op op_fdivN (pv 6) (pv 7)) pa_nil))))
      (pss_one (ps_if (pt_cmpR (op_notInD (hu65 hr)) (pv 8) (pv 1) (by rfl)) (pss_one (ps_expr (pe_bm PySem.F.plainAttrs_list PySem.F.slot_list_insert PySem.F.type_list_insert mt_insert (pv 1) (pa_cons (pe_callB call_len_seq (by rfl) T.f_len PySem.boot_len (pa_cons (pe_lc (own := [("_law_e", 9)]) (g := gName 9) (tt := _) (by rfl) sc__law_directions.nd (pi_list (pv 1)) (blkOk_by (own := [("_law_e", 9)]) (N := ["_law_corners", "_law_result", "_law_k", "_law_a", "_law_b", "_law_x", "_law_y", "_law_both", "_law_way", "_law_e"]) (sc := defScope s__law_directions) (by decide +kernel)) (fun _ _ _ _ _ => (pg_name (i := 9) sc__law_directions.nd rfl (Or.inl rfl))) (fun _ _ _ _ _ => pts_one (pt_cmpR op_gt (C8.pe_c c__law_cross hr (by decide) rfl (pa_cons (pv 9) (pa_cons (pv 8) pa_nil))) pe_int (nomark _))) (fun _ _ _ _ _ => (pv 9))) pa_nil)) (pa_cons (pv 8) pa_nil))))) pss_nil)))))))
      (pss_one (ps_ret (pv 1))))), ?_⟩
    have hl := pair_len hp
    have h3 := cv.len
    have hne : cs ≠ [] := by intro z; rw [z] at h3; exact absurd h3 (by decide)
    refine ⟨Nat.zero_le _, fun l nl => ?_⟩
    generalize hU : upd H l _ = H1
    obtain ⟨e1, hl1⟩ := gen_up nl hU
    clear hU
    refine ⟨_, rfl, _, _, rfl, .inl (sqL e1 hs), _, rfl, by omega, by omega, ?_⟩
    refine for_range (n := ((vs.length : Nat) : Int).toNat) (fun i σ H' => ∃ (x2 x3 x4 x5 x6 x7 x8 : Option V) (ys : List V) (ws : List Pt), σ = [some (.ref a), some (.ref l), x2, x3, x4, x5, x6, x7, x8, none] ∧ Same H H' ∧ H' l = some (.lst ys) ∧ PtV K (wo l H') ys ws ∧ DirI cs ws i)
      ⟨none, none, none, none, none, none, none, [], [], rfl, e1, hl1, .nil, ⟨Nat.le_refl _, fun e h => absurd h List.not_mem_nil, fun e h => absurd h List.not_mem_nil, .nil, fun m h => absurd h (Nat.not_lt_zero _)⟩⟩ ?_ ?_
    · rintro i σ H2 hi ⟨x2, x3, x4, x5, x6, x7, x8, ys, ws, rfl, e2, hy, hyp, I⟩
      have hic : i < cs.length := by omega
      obtain ⟨va, ga, ⟨qa, ea, ha⟩⟩ := vt_get hp hne i
      obtain ⟨vb, gb, ⟨qb, eb, hb⟩⟩ := vt_get hp hne (i + 1)
      subst ea eb
      have ha2 := sqT e2 ha
      have hb2 := sqT e2 hb
      have hs2 := sqL e2 hs
      rw [Nat.mod_eq_of_lt hic] at ga
      have Ba := B _ (vt_mem hne i)
      have Bb := B _ (vt_mem hne (i + 1))
      refine ⟨_, rfl, _, rfl, a, vs, _, .ref qa, rfl, rfl, hs2, at_of (j := i) (by omega) ga, _, rfl, _, rfl, _, _, rfl, rfl, _, rfl, _, _, rfl, .inl hs2, _, _, rfl, rfl, by omega, a, vs, _, .ref qb, rfl, rfl, hs2, at_of (j := (i + 1) % cs.length) (by rw [hl]; push_cast; rw [Int.zero_add]) gb, _, _, rfl, ?_⟩
      walk_at "go"
      refine ⟨_, _, rfl, _, rfl, _, rfl, _, _, rfl, sgn_join rfl rfl fun sg hsg => ?_⟩
      have hE : ed cs i = ((vt cs (i + 1)).1 - (vt cs i).1, (vt cs (i + 1)).2 - (vt cs i).2) := rfl
      have En : ed cs i ≠ (0, 0) := cr_ne (b := ed cs (i + 1)) (by have := cv.turn i; omega)
      obtain ⟨q, r, d1, d2, d3, d4, d5, d6⟩ := dir_law (x := (vt cs (i + 1)).1 - (vt cs i).1) (y := (vt cs (i + 1)).2 - (vt cs i).2) (s := sg) (by
        by_cases hx0 : (vt cs (i + 1)).1 - (vt cs i).1 = 0
        · refine .inr fun hy0 => En ?_
          rw [hE, hx0, hy0]
        · exact .inl hx0) (by omega) (by omega) hsg
      have hsb : -(2 ^ 64) < sg ∧ sg < 2 ^ 64 := by
        have : sg = 1 ∨ sg = -1 := by rcases hsg with ⟨h, _⟩ | ⟨h, _⟩ <;> simp [h]
        omega
      refine ⟨_, _, rfl, rfl, .inr hsb, ?_⟩
      refine ⟨_, rfl, _, rfl, _, _, rfl, rfl, d1, _, rfl, _, rfl, _, _, rfl, rfl, d1, Nat.le_of_ble_eq_true rfl, fun t nt => ?_⟩
      generalize hU : upd H2 t _ = H3
      obtain ⟨e3, ht⟩ := gen_up nt hU
      clear hU
      have ht' : H3 t = some (.tup [.int q, .int r]) := by rw [ht, ← d2, ← d3]
      have ntl : t ≠ l := by intro z; rw [z, hy] at nt; cases nt
      have hy3 := e3 _ _ hy
      have e23 := Same.trans e2 e3
      have hyp3 : PtV K (wo l H3) ys ws := PtV.mono (wo_up (Same.trans wo_le e3)) hyp
      have hW3 : IsPt K (wo l H3) (.ref t) (q, r) := ⟨t, rfl, tup_of (by rw [wo_ne ntl]; exact ht')⟩
      have hW : IsPt K H3 (.ref t) (q, r) := TI.mono wo_le hW3
      have hyl := pair_len hyp
      refine ⟨_, rfl, _, rfl, _, _, dp_pt hW, dp_ptl ⟨ys, lst_of hy3, PtV.mono wo_le hyp3⟩, ptD_shaped _, ptDs_shaped _, _, rfl, ?_⟩
      rw [any_pt ws (q, r)]
      by_cases hm : (q, r) ∈ ws
      · refine iteNS hm ?_
        refine ⟨_, _, _, _, _, _, _, ys, ws, rfl, e23, hy3, hyp3, ⟨by have := I.len; omega, I.up, I.bd, I.srt, fun m hmi => ?_⟩⟩
        by_cases c : m = i
        · rw [c]; exact ⟨_, hm, d6⟩
        · exact I.all m (by omega)
      · refine iteNT hm ?_
        refine ⟨_, rfl, .inl ⟨rfl, ys, lst_of hy3⟩, _, rfl, l, rfl, ⟨ys, lst_of hy3⟩, fun D hD => lc_filter (cs := ws) (fun e => decide (0 < cr e (q, r))) H3 (Same.refl H3) hD (lst_of hy3) (PtV.mono wo_le hyp3) (by have := I.len; omega) (fun j x o H4 hx ho hxo e4 Q' R h1 h2 => ?_) (fun zs H4 e4 hz hzp hzl => ?_)⟩
        · refine ⟨rfl, _, rfl, _, rfl, _, _, o, (q, r), rfl, TI.mono e4 hxo, TI.mono e4 hW, ?_, _, _, rfl, rfl, _, rfl, ?_⟩
          · have := I.bd o (List.mem_of_getElem? ho)
            unfold Sm; omega
          · by_cases c0 : 0 < cr o (q, r)
            · exact iteD c0 ⟨_, rfl, h1 (decide_eq_true c0) _ (Same.refl _)⟩
            · exact iteDn c0 (h2 (decide_eq_false c0) _ (Same.refl _))
        · have hl4 := e4 _ _ hy3
          have hzl2 : zs.length = (ws.filter fun e => decide (0 < cr e (q, r))).length := pair_len hzp
          have hIl := I.len
          refine ⟨D, _, rfl, .inl (lst_of hz), _, rfl, ?_⟩
          refine ⟨l, ys, _, _, rfl, rfl, hl4, szL (by omega), by omega, by omega, ?_⟩
          rw [Int.toNat_natCast]
          have hyp4 : PtV K (wo l H4) ys ws := PtV.mono (wo_up (Same.trans wo_le e4)) hyp3
          have hW4 : IsPt K (wo l H4) (.ref t) (q, r) := TI.mono (wo_up (Same.trans wo_le e4)) hW3
          have srt := insert_sorted I.up d4 I.srt
          rw [← hzl2] at srt
          have mem : ∀ e, e ∈ ws.take zs.length ++ [(q, r)] ++ ws.drop zs.length → e ∈ ws ∨ e = (q, r) := fun e he => by
            rcases List.mem_append.mp he with he | he
            · rcases List.mem_append.mp he with he | he
              · exact .inl (List.mem_of_mem_take he)
              · exact .inr (by simpa using he)
            · exact .inl (List.mem_of_mem_drop he)
          have mem2 : ∀ e, e ∈ ws → e ∈ ws.take zs.length ++ [(q, r)] ++ ws.drop zs.length := fun e he => by
            rw [← List.take_append_drop zs.length ws] at he
            rcases List.mem_append.mp he with he | he
            · exact List.mem_append_left _ (List.mem_append_left _ he)
            · exact List.mem_append_right _ he
          refine ⟨_, _, _, _, _, _, _, _, ws.take zs.length ++ [(q, r)] ++ ws.drop zs.length, rfl, Same.mut (Same.trans e23 e4) nl, upd_same, ?_, ?_⟩
          · rw [wo_upd]
            exact pair_app (pair_app (pair_take _ hyp4) (.cons hW4 .nil)) (pair_drop _ hyp4)
          · refine ⟨?_, fun e he => ?_, fun e he => ?_, srt, fun m hmi => ?_⟩
            · rw [List.length_append, List.length_append, List.length_take, List.length_drop, List.length_singleton]; omega
            · rcases mem e he with h | h
              · exact I.up e h
              · rw [h]; exact d4
            · rcases mem e he with h | h
              · exact I.bd e h
              · rw [h]; exact d5
            · by_cases c : m = i
              · rw [c]; exact ⟨(q, r), List.mem_append_left _ (List.mem_append_right _ (List.mem_cons_self ..)), d6⟩
              · obtain ⟨e, h1, h2⟩ := I.all m (by omega)
                exact ⟨e, mem2 e h1, h2⟩
    · rintro σ H2 ⟨x2, x3, x4, x5, x6, x7, x8, ys, ws, rfl, e2, hy, hyp, I⟩
      have hlen : ((vs.length : Nat) : Int).toNat = cs.length := by omega
      rw [hlen] at I
      refine ⟨_, rfl, k l H2 ws e2 ⟨ys, hy, PtV.mono wo_le hyp⟩ ⟨?_, I.len, I.up, I.bd, I.srt, I.all⟩⟩
      obtain ⟨e, he, _⟩ := I.all 0 (by omega)
      exact List.ne_nil_of_mem he
end
end KP

set_option Elab.async false
set_option linter.all false
set_option maxRecDepth 100000
set_option maxHeartbeats 4000000
namespace KP
open PySem PySem.Spec PyProof.Rows L2 KM
/-! ### steps of a reading -/
local macro_rules | `(tactic| walk_at "lift") => `(tactic| first
  | assumption
  | exact tup_of (by assumption)
  | exact lst_of (by assumption)
  | (refine sqT (by assumption) ?_; walk_at "lift")
  | (refine sqL (by assumption) ?_; walk_at "lift")
  | (refine TI.mono (by assumption) ?_; walk_at "lift")
  | (refine PtL.mono (by assumption) ?_; walk_at "lift")
  | (refine PtV.mono (by assumption) ?_; walk_at "lift")
  | (refine PolyAt.mono (by assumption) ?_; walk_at "lift"))
local macro_rules | `(tactic| walk_at "cond") => `(tactic| first
  | (refine (id ?_ : (_ : Prop)); omega)
  | (refine And.intro ?_ ?_ <;> omega)
  | (refine Or.inl (And.intro ?_ ?_) <;> omega)
  | (refine Or.inr (And.intro ?_ ?_) <;> omega)
  | (refine And.intro ?_ (And.intro ?_ ?_) <;> first | omega | decide))
local macro_rules | `(tactic| walk_at "new") => `(tactic| (intro p np; generalize hU : upd _ p _ = H3; have hU2 := gen_up np hU; clear hU; obtain ⟨e3, h3⟩ := hU2))
local macro_rules | `(tactic| walk_at "step") => `(tactic| first
  | (refine ⟨_, _, rfl, rfl, ?c, ?_⟩; (case c => walk_at "cond"))
  | refine ⟨_, _, rfl, rfl, ?_⟩
  | (refine ⟨_, ?xs, _, ?v, rfl, rfl, ?a, ?b, ?_⟩; (case a => walk_at "lift"); (case b => rfl))
  | refine ⟨_, rfl, ?_⟩
  | (refine ⟨_, _, rfl, Or.inl ?a, ?_⟩; (case a => walk_at "lift"))
  | (refine ⟨_, _, rfl, Or.inr ?a, ?_⟩; (case a => walk_at "lift"))
  | (refine ⟨szT (Nat.le_of_ble_eq_true rfl), ?_⟩; walk_at "new"))
local macro_rules | `(tactic| walk_at "go") => `(tactic| repeat walk_at "step")
theorem first_int : ∀ (ns : List Int) (m : Int), m ∈ ns → ∃ j : Nat, ns[j]? = some m ∧ ∀ t : Nat, t < j → ∀ u, ns[t]? = some u → u ≠ m
  | [], m, h => absurd h List.not_mem_nil
  | c :: cs, m, h => by
    by_cases e : c = m
    · exact ⟨0, by rw [e]; rfl, fun t ht => absurd ht (Nat.not_lt_zero _)⟩
    · obtain ⟨j, h1, h2⟩ := first_int cs m (by rcases List.mem_cons.mp h with z | z; exact absurd z.symm e; exact z)
      refine ⟨j + 1, by simpa using h1, fun t ht u hu => ?_⟩
      cases t with
      | zero => have : c = u := Option.some.inj hu; rw [← this]; exact e
      | succ t => exact h2 t (by omega) u (by simpa using hu)
theorem all_flat (ns : List Int) : (ns.map V.int).all flatV = true := by
  rw [List.all_eq_true]
  intro x hx
  obtain ⟨n, _, rfl⟩ := List.mem_map.mp hx
  rfl
/-- the index of a number in a list of numbers -/
theorem index_int {ns : List Int} {m : Int} (hm : m ∈ ns) : ∃ j : Nat, ns[j]? = some m ∧ (ns.map V.int)[j]? = some (.int m) ∧ eqV (.int m) (.int m) = true ∧ ∀ (t : Nat) (z' : V), t < j → (ns.map V.int)[t]? = some z' → eqV z' (.int m) = false := by
  obtain ⟨j, h1, h2⟩ := first_int ns m hm
  refine ⟨j, h1, by rw [List.getElem?_map, h1]; rfl, by show (m == m) = true; exact beq_self_eq_true m, fun t z' ht hz => ?_⟩
  rw [List.getElem?_map] at hz
  cases e : ns[t]? with
  | none => rw [e] at hz; cases hz
  | some u =>
    rw [e] at hz
    have : V.int u = z' := Option.some.inj hz
    rw [← this]
    exact beq_eq_false_iff_ne.mpr (h2 t ht u e)
section
variable {P : Program} {w : World} {K : PySem.W.Frag} {mg : Str → Option Value} {base : Heap} {C : Addr}
theorem sc__law_far_shift : FnScope ["_law_corners", "_law_one", "_law_two", "_law_u", "_law_rows", "_law_near", "_law_far", "_law_a", "_law_b", "_law_c"] ["_law_corners", "_law_one", "_law_two"] (defScope s__law_far_shift) := ⟨rfl, rfl, rfl, by decide +kernel, rfl, by decide +kernel, by decide +kernel⟩
theorem ok_farShift (T : Txt K mg) (D : DefT K mg "_law_far_shift" s__law_far_shift ["_law_corners", "_law_one", "_law_two"]) (c__law_cross : C8.Cal P w K mg base 1 "_law_cross" (spCross K) []) : C8.Cal P w K mg base 2 "_law_far_shift" (spFarShift K) [] := by
  refine mkC D sc__law_far_shift (fun vs H Q E h => ?_) (fun cdv A outer s H vs Q E hr h => ?_)
  · obtain ⟨_, _, _, _, _, _, rfl, _⟩ := h; rfl
  · obtain ⟨a, v1, v2, cs, w1, w2, rfl, ⟨vs, hs, hp⟩, hne, hn, ⟨q1, rfl, hq1⟩, ⟨q2, rfl, hq2⟩, B1, B2, k⟩ := h
    refine ⟨_, (pss_cons (ps_set (i := 3) sc__law_far_shift.nd rfl (Or.inr rfl) (pe_tup (pa_cons (pe_op op_add (pe_ix ix_tup (pv 1) pe_int (fun _ _ => rfl)) (pe_ix ix_tup (pv 2) pe_int (fun _ _ => rfl))) (pa_cons (pe_op op_add (pe_ix ix_tup (pv 1) pe_int (fun _ _ => rfl)) (pe_ix ix_tup (pv 2) pe_int (fun _ _ => rfl))) pa_nil))))
      (pss_cons (ps_setLc (i := 4) (own := [("_law_c", 9)]) (g := gName 9) (tt := tYes) (by rfl) sc__law_far_shift.nd rfl rfl (sw_true rfl rfl rfl (by decide +kernel)) (pi_list (pv 0)) (blkOk_by (own := [("_law_c", 9)]) (N := ["_law_corners", "_law_one", "_law_two", "_law_u", "_law_rows", "_law_near", "_law_far", "_law_a", "_law_b", "_law_c"]) (sc := defScope s__law_far_shift) (by decide +kernel)) (fun _ _ _ _ _ => (pg_name (i := 9) sc__law_far_shift.nd rfl (Or.inl rfl))) (fun _ _ _ _ _ => pts_nil) (fun _ _ _ _ _ => (C8.pe_c c__law_cross hr (by decide) rfl (pa_cons (pv 3) (pa_cons (pv 9) pa_nil)))))
      (pss_cons (ps_par (i := 5) (j := 6) (by rfl) sc__law_far_shift.nd rfl rfl (by decide) rfl rfl (pa_cons (pe_bm PySem.F.plainAttrs_list PySem.F.slot_list_index PySem.F.type_list_index mt_index (pv 4) (pa_cons (pe_callB (cr_max rfl) (by rfl) T.f_max (by decide +kernel) (pa_cons (pv 4) pa_nil)) pa_nil)) (pa_cons (pe_bm PySem.F.plainAttrs_list PySem.F.slot_list_index PySem.F.type_list_index mt_index (pv 4) (pa_cons (pe_callB (cr_min rfl) (by rfl) T.f_min (by decide +kernel) (pa_cons (pv 4) pa_nil)) pa_nil)) pa_nil)) (by rfl))
      (pss_cons (ps_par (i := 7) (j := 8) (by rfl) sc__law_far_shift.nd rfl rfl (by decide) rfl rfl (pa_cons (pe_ix ix_list (pv 0) (pv 5) (fun _ _ => rfl)) (pa_cons (pe_ix ix_list (pv 0) (pv 6) (fun _ _ => rfl)) pa_nil)) (by rfl))
      (pss_one (ps_ret (pe_tup (pa_cons (pv 5) (pa_cons (pv 6) (pa_cons (pe_tup (pa_cons (pe_op op_mul pe_int (pe_op op_sub (pe_ix ix_tup (pv 8) pe_int (fun _ _ => rfl)) (pe_ix ix_tup (pv 7) pe_int (fun _ _ => rfl)))) (pa_cons (pe_op op_mul pe_int (pe_op op_sub (pe_ix ix_tup (pv 8) pe_int (fun _ _ => rfl)) (pe_ix ix_tup (pv 7) pe_int (fun _ _ => rfl)))) pa_nil))) pa_nil)))))))))), ?_⟩
    have hl := pair_len hp
    obtain ⟨⟨a1, a2⟩, a3, a4⟩ := B1
    obtain ⟨⟨b1, b2⟩, b3, b4⟩ := B2
    walk_at "go"
    rename_i pu npu H1 e1 hu
    have hu1 : IsPt K H1 (.ref pu) (add w1 w2) := ⟨pu, rfl, tup_of hu⟩
    refine ⟨⟨vs, sqL e1 hs⟩, fun D hD => lc_mapL H1 (fun j y G => y = .int (cr (add w1 w2) (vt cs j))) (fun _ _ _ _ h _ => h) (Same.refl H1) hD (sqL e1 hs) (by omega) (fun j z H2 hz e2 Q' R hq _ => ?_) (fun ys H2 e2 hy hyl hb => ?_)⟩
    · refine turn_yes rfl ?_
      refine ⟨_, rfl, _, rfl, _, _, add w1 w2, vt cs j, rfl, TI.mono e2 hu1, TI.mono (Same.trans e1 e2) (vt_at hp hz), ?_, hq _ _ (Same.refl _) rfl⟩
      unfold Sm add; omega
    · have ey : ys = ((List.range cs.length).map fun j => cr (add w1 w2) (vt cs j)).map V.int := ints_rng (by omega) hb
      have hpos : 0 < cs.length := List.length_pos_iff.mpr hne
      rw [ey] at hy
      have e12 := Same.trans e1 e2
      have hlen : 0 < ((List.range cs.length).map fun j => cr (add w1 w2) (vt cs j)).length := by rw [List.length_map, List.length_range]; exact hpos
      have atr : ∀ (j : Nat) (m : Int), ((List.range cs.length).map fun j => cr (add w1 w2) (vt cs j))[j]? = some m → j < cs.length ∧ m = cr (add w1 w2) (vt cs j) := fun j m h => by
        have hj : j < cs.length := by have := (List.getElem?_eq_some_iff.mp h).1; rw [List.length_map, List.length_range] at this; exact this
        rw [List.getElem?_map, List.getElem?_range hj] at h
        exact ⟨hj, (Option.some.inj h).symm⟩
      have memr : ∀ c ∈ cs, cr (add w1 w2) c ∈ ((List.range cs.length).map fun j => cr (add w1 w2) (vt cs j)) := fun c hc => by
        obtain ⟨j, hj⟩ := List.mem_iff_getElem?.mp hc
        have hjl := (List.getElem?_eq_some_iff.mp hj).1
        refine List.mem_map.mpr ⟨j, List.mem_range.mpr hjl, ?_⟩
        rw [vt_of (cs := cs) (i := j) (by rw [Nat.mod_eq_of_lt hjl]; exact hj)]
      refine ⟨_, rfl, .inl ⟨rfl, _, lst_of hy⟩, _, rfl, D, _, rfl, lst_of hy, hlen, fun m hm hmx => ?_⟩
      obtain ⟨nr, hnr, i1, i2, i3⟩ := index_int hm
      refine ⟨D, _, _, nr, _, rfl, rfl, lst_of hy, rfl, all_flat _, i1, i2, i3, ?_⟩
      refine ⟨_, rfl, .inl ⟨rfl, _, lst_of hy⟩, _, rfl, D, _, rfl, lst_of hy, hlen, fun m2 hm2 hmn => ?_⟩
      obtain ⟨fr, hfr, j1, j2, j3⟩ := index_int hm2
      refine ⟨D, _, _, fr, _, rfl, rfl, lst_of hy, rfl, all_flat _, j1, j2, j3, ?_⟩
      obtain ⟨n1, rfl⟩ := atr _ _ hnr
      obtain ⟨f1, rfl⟩ := atr _ _ hfr
      obtain ⟨va, ga, ⟨qa, ea, ha⟩⟩ := vt_get hp hne nr
      obtain ⟨vb, gb, ⟨qb, eb, hb'⟩⟩ := vt_get hp hne fr
      subst ea eb
      rw [Nat.mod_eq_of_lt n1] at ga
      rw [Nat.mod_eq_of_lt f1] at gb
      have hs2 := sqL e12 hs
      have ha2 := sqT e12 ha
      have hb2 := sqT e12 hb'
      refine ⟨_, _, rfl, _, rfl, _, rfl, a, vs, _, .ref qa, rfl, rfl, hs2, at_of (j := nr) rfl ga, _, rfl, _, rfl, a, vs, _, .ref qb, rfl, rfl, hs2, at_of (j := fr) rfl gb, _, _, rfl, ?_⟩
      walk_at "go"
      rename_i px npx H3 e3 hx py npy H4 e4 hy4
      exact k py H4 (.ref px) nr fr (Same.trans e12 (Same.trans e3 e4)) ⟨n1, f1, fun c hc => hmx _ (memr c hc), fun c hc => hmn _ (memr c hc)⟩ (tup_of hy4) ⟨px, rfl, tup_of (e4 _ _ hx)⟩
theorem mul_bd {a b A B : Int} (ha : -A ≤ a ∧ a ≤ A) (hb : -B ≤ b ∧ b ≤ B) : -(A * B) ≤ a * b ∧ a * b ≤ A * B := by
  have h1 := Int.mul_nonneg (show 0 ≤ A - a by omega) (show 0 ≤ B + b by omega)
  have h2 := Int.mul_nonneg (show 0 ≤ A + a by omega) (show 0 ≤ B - b by omega)
  have h3 := Int.mul_nonneg (show 0 ≤ A - a by omega) (show 0 ≤ B - b by omega)
  have h4 := Int.mul_nonneg (show 0 ≤ A + a by omega) (show 0 ≤ B + b by omega)
  have e1 : (A - a) * (B + b) + (A + a) * (B - b) = 2 * (A * B) - 2 * (a * b) := by grind
  have e2 : (A - a) * (B - b) + (A + a) * (B + b) = 2 * (A * B) + 2 * (a * b) := by grind
  omega
theorem cr_bd {a b : Pt} (ha : (-120 ≤ a.1 ∧ a.1 ≤ 120) ∧ (-120 ≤ a.2 ∧ a.2 ≤ 120)) (hb : (-240 ≤ b.1 ∧ b.1 ≤ 240) ∧ (-240 ≤ b.2 ∧ b.2 ≤ 240)) : -57600 ≤ cr a b ∧ cr a b ≤ 57600 := by
  have h1 := mul_bd ha.1 hb.2
  have h2 := mul_bd ha.2 hb.1
  unfold cr
  omega
theorem sizes_law {cs ws : List Pt} (C : Conv cs) (B : Bd cs) (O : DirsOk cs ws) {i n f : Nat} {w0 e e' : Pt} (h0 : ws[0]? = some w0) (hk : ws[i]? = some e) (hk' : (ws ++ [ng w0])[i + 1]? = some e') (F : FarOk cs (add e e') n f) :
    (0 < (if cr e (sh cs n f) < 0 then - cr e (sh cs n f) else cr e (sh cs n f)) ∧ (if cr e (sh cs n f) < 0 then - cr e (sh cs n f) else cr e (sh cs n f)) < 1000000) ∧
    (0 < (if cr e' (sh cs n f) < 0 then - cr e' (sh cs n f) else cr e' (sh cs n f)) ∧ (if cr e' (sh cs n f) < 0 then - cr e' (sh cs n f) else cr e' (sh cs n f)) < 1000000) := by
  have hpos : 0 < cs.length := by have := C.len; omega
  have hne : cs ≠ [] := List.length_pos_iff.mp hpos
  have all : ∀ i, ∃ e ∈ ws, cr (ed cs i) e = 0 := fun i => by
    obtain ⟨e, h1, h2⟩ := O.all (i % cs.length) (Nat.mod_lt _ hpos)
    exact ⟨e, h1, by rw [ed_mod cs i _ (Nat.mod_mod _ _).symm]; exact h2⟩
  have m0 := List.mem_of_getElem? h0
  have me := List.mem_of_getElem? hk
  have me' : e' ∈ ws ∨ e' = ng w0 := by
    rcases List.mem_append.mp (List.mem_of_getElem? hk') with h | h
    · exact .inl h
    · exact .inr (by simpa using h)
  have be := O.bd e me
  have be' : (-120 ≤ e'.1 ∧ e'.1 ≤ 120) ∧ (-120 ≤ e'.2 ∧ e'.2 ≤ 120) := by
    rcases me' with h | h
    · exact O.bd e' h
    · have := O.bd w0 m0
      rw [h]; unfold ng
      exact ⟨⟨by show -120 ≤ _ - _; omega, by show _ - _ ≤ (120 : Int); omega⟩, by show -120 ≤ _ - _; omega, by show _ - _ ≤ (120 : Int); omega⟩
  have ne := Up.ne (O.up e me)
  have ne' : e' ≠ (0, 0) := by
    rcases me' with h | h
    · exact Up.ne (O.up e' h)
    · have h3 := Up.ne (O.up w0 m0)
      intro z
      rw [h] at z
      unfold ng at z
      have z1 : 0 - w0.1 = 0 := congrArg Prod.fst z
      have z2 : 0 - w0.2 = 0 := congrArg Prod.snd z
      exact h3 (Prod.ext (by show w0.1 = 0; omega) (by show w0.2 = 0; omega))
  obtain ⟨c1, c2⟩ := comp_of (cs := cs) (e := e) (e' := e') O.up all (fun w hw => same_side O.up O.srt h0 hk hk' hw)
  have hmx : ∀ j, cr (e.1 + e'.1, e.2 + e'.2) (vt cs j) ≤ cr (e.1 + e'.1, e.2 + e'.2) (vt cs n) := fun j => F.n2 _ (vt_mem hne j)
  have hmn : ∀ j, cr (e.1 + e'.1, e.2 + e'.2) (vt cs f) ≤ cr (e.1 + e'.1, e.2 + e'.2) (vt cs j) := fun j => F.f2 _ (vt_mem hne j)
  have a1 := across C ne c1 hmx hmn
  have a2 := across C ne' c2 hmx hmn
  have es : ∀ x, cr x (sh cs n f) = 2 * cr x (df (vt cs f) (vt cs n)) := by intro x; unfold sh cr df; grind
  have bs : (-240 ≤ (sh cs n f).1 ∧ (sh cs n f).1 ≤ 240) ∧ (-240 ≤ (sh cs n f).2 ∧ (sh cs n f).2 ≤ 240) := by
    have b1 := B _ (vt_mem hne n)
    have b2 := B _ (vt_mem hne f)
    unfold sh
    exact ⟨⟨by show -240 ≤ 2 * (_ - _); omega, by show 2 * (_ - _) ≤ (240 : Int); omega⟩, by show -240 ≤ 2 * (_ - _); omega, by show 2 * (_ - _) ≤ (240 : Int); omega⟩
  have b1 := cr_bd be bs
  have b2 := cr_bd be' bs
  have e1 := es e
  have e2 := es e'
  refine ⟨?_, ?_⟩
  · split <;> omega
  · split <;> omega
theorem Row8.mono {K : PySem.W.Frag} {H H' : Hp} {v : V} (e : Same H H') (h : Row8 K H v) : Row8 K H' v := by
  obtain ⟨p, x1, x2, x3, x4, x5, a, b, c, h1, h2, h3⟩ := h
  exact ⟨p, x1, x2, x3, x4, x5, a, b, c, h1, sqT e h2, h3⟩
theorem sc__law_far_rows : FnScope ["_law_corners", "_law_ways", "_law_result", "_law_k", "_law_near", "_law_far", "_law_shift", "_law_sizes"] ["_law_corners"] (defScope s__law_far_rows) := ⟨rfl, rfl, rfl, by decide +kernel, rfl, by decide +kernel, by decide +kernel⟩
theorem ok_farRows (T : Txt K mg) (D : DefT K mg "_law_far_rows" s__law_far_rows ["_law_corners"]) (c__law_cross : C8.Cal P w K mg base 1 "_law_cross" (spCross K) []) (c__law_directions : C8.Cal P w K mg base 2 "_law_directions" (spDirs K) []) (c__law_far_shift : C8.Cal P w K mg base 2 "_law_far_shift" (spFarShift K) []) :
    C8.Cal P w K mg base 3 "_law_far_rows" (spFarRows K) [] := by
  refine mkC D sc__law_far_rows (fun vs H Q E h => ?_) (fun cdv A outer s H vs Q E hr h => ?_)
  · obtain ⟨_, _, rfl, _⟩ := h; rfl
  · obtain ⟨a, cs, rfl, hL, cv, B, hn, k⟩ := h
    refine ⟨_, (pss_cons (ps_set (i := 1) sc__law_far_rows.nd rfl (Or.inl rfl) (C8.pe_c c__law_directions hr (by decide) rfl (pa_cons (pv 0) pa_nil)))
      (pss_cons (ps_par (i := 1) (j := 2) (by rfl) sc__law_far_rows.nd rfl rfl (by decide) rfl rfl (pa_cons (pe_op op_cat (pv 1) (pe_lst (pa_cons (pe_tup (pa_cons (pe_op op_sub pe_int (pe_ix ix_tup (pe_ix ix_list (pv 1) pe_int (fun _ _ => rfl)) pe_int (fun _ _ => rfl))) (pa_cons (pe_op op_sub pe_int (pe_ix ix_tup (pe_ix ix_list (pv 1) pe_int (fun _ _ => rfl)) pe_int (fun _ _ => rfl))) pa_nil))) pa_nil))) (pa_cons (pe_lst pa_nil) pa_nil)) (by rfl))
      (pss_cons (ps_for PassesOwn.never rfl (pi_range1 (by rfl) T.f_range (pa_cons (pe_op op_sub (pe_callB call_len_seq (by rfl) T.f_len PySem.boot_len (pa_cons (pv 1) pa_nil)) pe_int) pa_nil)) (pg_name (i := 3) sc__law_far_rows.nd rfl (Or.inl rfl)) (pss_cons (ps_asg (C8.pe_c c__law_far_shift hr (by decide) rfl (pa_cons (pv 0) (pa_cons (pe_ix ix_list (pv 1) (pv 3) (fun _ _ => rfl)) (pa_cons (pe_ix ix_list (pv 1) (pe_op op_add (pv 3) pe_int) (fun _ _ => rfl)) pa_nil)))) (pg_tup rfl (pgs_cons (pg_name (i := 4) sc__law_far_rows.nd rfl (Or.inl rfl)) (pgs_cons (pg_name (i := 5) sc__law_far_rows.nd rfl (Or.inl rfl)) (pgs_cons (pg_name (i := 6) sc__law_far_rows.nd rfl (Or.inl rfl)) pgs_nil)))))
      (pss_cons (ps_set (i := 7) sc__law_far_rows.nd rfl (Or.inl rfl) (pe_lst (pa_cons (pe_callB call_abs (by rfl) T.f_abs (by decide +kernel) (pa_cons (C8.pe_c c__law_cross hr (by decide) rfl (pa_cons (pe_ix ix_list (pv 1) (pv 3) (fun _ _ => rfl)) (pa_cons (pv 6) pa_nil))) pa_nil)) (pa_cons (pe_callB call_abs (by rfl) T.f_abs (by decide +kernel) (pa_cons (C8.pe_c c__law_cross hr (by decide) rfl (pa_cons (pe_ix ix_list (pv 1) (pe_op op_add (pv 3) pe_int) (fun _ _ => rfl)) (pa_cons (pv 6) pa_nil))) pa_nil)) pa_nil))))
      (pss_one (ps_expr (pe_bm PySem.F.plainAttrs_list PySem.F.slot_list_append PySem.F.type_list_append mt_append (pv 2) (pa_cons (pe_tup (pa_cons (pe_ix ix_list (pv 1) (pv 3) (fun _ _ => rfl)) (pa_cons (pe_ix ix_list (pv 1) (pe_op op_add (pv 3) pe_int) (fun _ _ => rfl)) (pa_cons (pv 4) (pa_cons (pv 5) (pa_cons (pv 6) (pa_cons (pe_ix ix_list (pv 7) pe_int (fun _ _ => rfl)) (pa_cons (pe_ix ix_list (pv 7) pe_int (fun _ _ => rfl)) (pa_cons (C8.pe_c c__law_cross hr (by decide) rfl (pa_cons (pe_ix ix_list (pv 1) (pv 3) (fun _ _ => rfl)) (pa_cons (pe_ix ix_list (pv 1) (pe_op op_add (pv 3) pe_int) (fun _ _ => rfl)) pa_nil))) pa_nil))))))))) pa_nil)))))))
      (pss_one (ps_ret (pv 2)))))), ?_⟩
    have h3 := cv.len
    have hne : cs ≠ [] := by intro z; rw [z] at h3; exact absurd h3 (by decide)
    refine ⟨_, rfl, a, cs, rfl, hL, cv, B, hn, fun p H1 ws e1 ⟨ys, hy, hyp⟩ O => ?_⟩
    have hyl := pair_len hyp
    have hwl : 0 < ws.length := List.length_pos_iff.mpr O.ne
    obtain ⟨v0, g0, ⟨q0, eq0, hq0⟩⟩ := pair_get' hyp (List.getElem?_eq_getElem hwl)
    subst eq0
    have h0 : ws[0]? = some ws[0] := List.getElem?_eq_getElem hwl
    generalize ws[0] = w0 at *
    have hy' : SqL K H1 p ys := lst_of hy
    refine ⟨_, rfl, _, rfl, p, ys, _, _, rfl, rfl, hy', at_of (j := 0) rfl g0, q0, _, _, _, rfl, rfl, hq0, rfl, _, _, rfl, rfl, _, rfl, p, ys, _, _, rfl, rfl, hy', at_of (j := 0) rfl g0, q0, _, _, _, rfl, rfl, hq0, rfl, _, _, rfl, rfl, Nat.le_of_ble_eq_true rfl, fun t1 nt1 => ?_⟩
    generalize hU : upd H1 t1 _ = H2
    obtain ⟨e2, ht1⟩ := gen_up nt1 hU
    clear hU
    refine ⟨Nat.le_of_ble_eq_true rfl, fun l1 nl1 => ?_⟩
    generalize hU : upd H2 l1 _ = H3
    obtain ⟨e3, hl1⟩ := gen_up nl1 hU
    clear hU
    have e13 := Same.trans e2 e3
    refine ⟨p, l1, ys, _, rfl, rfl, e13 _ _ hy, hl1, ?_, fun p2 np2 => ?_⟩
    · show ys.length + 1 ≤ sizeLine
      exact Nat.le_trans (show _ ≤ 1000 by have := O.len; omega) (by decide)
    generalize hU : upd H3 p2 _ = G
    obtain ⟨e4, hp2⟩ := gen_up np2 hU
    clear hU
    have eG := Same.trans e1 (Same.trans e13 e4)
    have hWp : PtV K G (ys ++ [.ref t1]) (ws ++ [ng w0]) := pair_app (PtV.mono (Same.trans e13 e4) hyp) (.cons ⟨t1, rfl, tup_of (e4 _ _ (e3 _ _ ht1))⟩ .nil)
    refine ⟨Nat.zero_le _, fun l2 nl2 => ?_⟩
    generalize hU : upd G l2 _ = H5
    obtain ⟨e5, hl2⟩ := gen_up nl2 hU
    clear hU
    refine ⟨_, _, rfl, ?_⟩
    have hWl : (ys ++ [V.ref t1]).length = ws.length + 1 := by rw [List.length_append, hyl]; rfl
    have hWW : (ws ++ [ng w0]).length = ws.length + 1 := by rw [List.length_append]; rfl
    have hO := O.len
    refine ⟨_, rfl, _, _, rfl, .inl (lst_of (e5 _ _ hp2)), _, _, rfl, rfl, _, rfl, by omega, by omega, ?_⟩
    refine for_range (n := (((ys ++ [V.ref t1]).length : Int) - 1).toNat) (fun i σ H' => ∃ (x3 x4 x5 x6 x7 : Option V) (rs : List V), σ = [some (.ref a), some (.ref p2), some (.ref l2), x3, x4, x5, x6, x7] ∧ Same G H' ∧ H' l2 = some (.lst rs) ∧ rs.length = i ∧ ∀ x ∈ rs, Row8 K (wo l2 H') x)
      ⟨none, none, none, none, none, [], rfl, e5, hl2, rfl, fun x hx => absurd hx List.not_mem_nil⟩ ?_ ?_
    · rintro i σ H6 hi ⟨x3, x4, x5, x6, x7, rs, rfl, e6, hrs, hrl, hr8⟩
      have hiw : i < ws.length := by omega
      obtain ⟨w1, hke⟩ : ∃ w1, ws[i]? = some w1 := ⟨_, List.getElem?_eq_getElem hiw⟩
      obtain ⟨w2, hke2⟩ : ∃ w2, (ws ++ [ng w0])[i + 1]? = some w2 := ⟨_, List.getElem?_eq_getElem (show i + 1 < (ws ++ [ng w0]).length by omega)⟩
      have hkeW : (ws ++ [ng w0])[i]? = some w1 := by rw [List.getElem?_append_left hiw]; exact hke
      obtain ⟨v1, g1, p1⟩ := pair_get' hWp hkeW
      obtain ⟨v2, g2, p2'⟩ := pair_get' hWp hke2
      have O1 := O.bd w1 (List.mem_of_getElem? hke)
      have O2 : (-120 ≤ w2.1 ∧ w2.1 ≤ 120) ∧ (-120 ≤ w2.2 ∧ w2.2 ≤ 120) := by
        rcases List.mem_append.mp (List.mem_of_getElem? hke2) with h | h
        · exact O.bd w2 h
        · have e : w2 = ng w0 := by simpa using h
          have := O.bd w0 (List.mem_of_getElem? h0)
          rw [e]; unfold ng
          exact ⟨⟨by show -120 ≤ _ - _; omega, by show _ - _ ≤ (120 : Int); omega⟩, by show -120 ≤ _ - _; omega, by show _ - _ ≤ (120 : Int); omega⟩
      have hs6 : SqL K H6 p2 (ys ++ [.ref t1]) := lst_of (e6 _ _ hp2)
      have ai : (0 : Int) + (i : Nat) = ((i : Nat) : Int) := Int.zero_add _
      have ai1 : (0 : Int) + (i : Nat) + 1 = ((i + 1 : Nat) : Int) := by omega
      refine ⟨_, rfl, _, rfl, _, rfl, p2, _, _, v1, rfl, rfl, hs6, at_of ai g1, _, rfl, _, rfl, _, _, rfl, rfl, p2, _, _, v2, rfl, rfl, hs6, at_of ai1 g2, ?_⟩
      refine ⟨a, v1, v2, cs, w1, w2, rfl, PtL.mono (Same.trans eG e6) hL, hne, hn, TI.mono e6 p1, TI.mono e6 p2', by unfold B240; omega, by unfold B240; omega, fun p3 H7 s3 n f e7 F hp3 hs3 => ?_⟩
      have e67 := Same.trans e6 e7
      have hs7 : SqL K H7 p2 (ys ++ [.ref t1]) := lst_of (e67 _ _ hp2)
      have hv1 := TI.mono e67 p1
      have hv2 := TI.mono e67 p2'
      refine ⟨p3, _, rfl, hp3, rfl, _, _, rfl, _, _, rfl, _, _, rfl, rfl, ?_⟩
      have sm1 : Sm w1 := by unfold Sm; omega
      have sm2 : Sm w2 := by unfold Sm; omega
      obtain ⟨z1, z2⟩ := sizes_law cv B O h0 hke hke2 F
      refine ⟨_, rfl, _, rfl, p2, _, _, v1, rfl, rfl, hs7, at_of ai g1, _, rfl, _, _, w1, sh cs n f, rfl, hv1, hs3, sm1, _, rfl, ?_⟩
      refine ⟨_, rfl, _, rfl, _, _, rfl, rfl, p2, _, _, v2, rfl, rfl, hs7, at_of ai1 g2, _, rfl, _, _, w2, sh cs n f, rfl, hv2, hs3, sm2, _, rfl, Nat.le_of_ble_eq_true rfl, fun l8 nl8 => ?_⟩
      generalize hU : upd H7 l8 _ = H8
      obtain ⟨e8, hl8⟩ := gen_up nl8 hU
      clear hU
      have hs8 := sqL e8 hs7
      have hrs8 := e8 _ _ (e7 _ _ hrs)
      refine ⟨_, rfl, .inl ⟨rfl, rs, lst_of hrs8⟩, ?_⟩
      refine ⟨_, rfl, _, rfl, p2, _, _, v1, rfl, rfl, hs8, at_of ai g1, ?_⟩
      refine ⟨_, rfl, _, rfl, _, _, rfl, rfl, p2, _, _, v2, rfl, rfl, hs8, at_of ai1 g2, ?_⟩
      refine ⟨_, rfl, _, rfl, _, rfl, ?_⟩
      refine ⟨_, rfl, l8, _, _, _, rfl, rfl, lst_of hl8, rfl, ?_⟩
      refine ⟨_, rfl, l8, _, _, _, rfl, rfl, lst_of hl8, rfl, ?_⟩
      refine ⟨_, rfl, _, rfl, p2, _, _, v1, rfl, rfl, hs8, at_of ai g1, ?_⟩
      refine ⟨_, rfl, _, rfl, _, _, rfl, rfl, p2, _, _, v2, rfl, rfl, hs8, at_of ai1 g2, ?_⟩
      refine ⟨_, _, w1, w2, rfl, TI.mono e8 hv1, TI.mono e8 hv2, sm1, Nat.le_of_ble_eq_true rfl, fun t8 nt8 => ?_⟩
      generalize hU : upd H8 t8 _ = H9
      obtain ⟨e9, ht8⟩ := gen_up nt8 hU
      clear hU
      have hrs9 := e9 _ _ hrs8
      have n8 : t8 ≠ l2 := by intro z; rw [z, hrs8] at nt8; cases nt8
      refine ⟨l2, rs, _, rfl, rfl, hrs9, szL (by have := O.len; omega), ?_⟩
      refine ⟨_, _, _, _, _, rs ++ [.ref t8], rfl, Same.mut (Same.trans e67 (Same.trans e8 e9)) nl2, upd_same, by rw [List.length_append, hrl]; rfl, fun x hx => ?_⟩
      rw [wo_upd]
      rcases List.mem_append.mp hx with hx | hx
      · exact Row8.mono (wo_up (Same.trans wo_le (Same.trans e7 (Same.trans e8 e9)))) (hr8 x hx)
      · have ex : x = .ref t8 := by simpa using hx
        subst ex
        exact ⟨t8, _, _, _, _, _, _, _, _, rfl, tup_of (by rw [wo_ne n8]; exact ht8), z1, z2⟩
    · rintro σ H6 ⟨x3, x4, x5, x6, x7, rs, rfl, e6, hrs, hrl, hr8⟩
      refine ⟨_, rfl, k l2 H6 rs (Same.trans eG e6) (lst_of hrs) (fun x hx => Row8.mono wo_le (hr8 x hx)) (by have := O.len; omega)⟩
theorem gcd_small {x y : Int} (hx : 0 < x) (h : x < 2 ^ 60) (i : Int) : CDivW i (Int.gcd x y : Nat) ∧ (0 : Int) < (Int.gcd x y : Nat) ∧ 0 < x / (Int.gcd x y : Nat) ∧ x / (Int.gcd x y : Nat) ≤ x := by
  have p : 0 < Int.gcd x y := Int.gcd_pos_iff.mpr (.inl (by omega))
  have d : ((Int.gcd x y : Nat) : Int) ∣ x := Int.gcd_dvd_left ..
  have le := Int.le_of_dvd hx d
  have e := Int.mul_ediv_cancel' d
  have q : 0 < x / (Int.gcd x y : Nat) := pos_of_mul (show (0 : Int) < (Int.gcd x y : Nat) by omega) (by omega)
  refine ⟨⟨by omega, log2_lt (by omega) (by omega)⟩, by omega, q, ?_⟩
  exact Int.ediv_le_self _ (by omega)
theorem gcd_small' {x y : Int} (hx : 0 < x) (h : x < 2 ^ 60) (i : Int) : CDivW i (Int.gcd y x : Nat) := by
  rw [Int.gcd_comm]; exact (gcd_small hx h i).1
theorem sc__law_modulus : FnScope ["_law_corners", "_law_result", "_law_one", "_law_two", "_law_near", "_law_far", "_law_shift", "_law_w", "_law_v", "_law_d", "_law_part"] ["_law_corners"] (defScope s__law_modulus) := ⟨rfl, rfl, rfl, by decide +kernel, rfl, by decide +kernel, by decide +kernel⟩
theorem ok_modulus (T : Txt K mg) (D : DefT K mg "_law_modulus" s__law_modulus ["_law_corners"]) (c__law_gcd : C8.Cal P w K mg base 1 "_law_gcd" spGcd []) (c__law_far_rows : C8.Cal P w K mg base 3 "_law_far_rows" (spFarRows K) []) :
    C8.Cal P w K mg base 4 "_law_modulus" (spModulus K) [] := by
  refine mkC D sc__law_modulus (fun vs H Q E h => ?_) (fun cdv A outer s H vs Q E hr h => ?_)
  · obtain ⟨_, _, rfl, _⟩ := h; rfl
  · obtain ⟨a, cs, rfl, hL, cv, B, hn, k⟩ := h
    refine ⟨_, (pss_cons (ps_set (i := 1) sc__law_modulus.nd rfl (Or.inl rfl) pe_int)
      (pss_cons (ps_for PassesOwn.never rfl (pi_list (C8.pe_c c__law_far_rows hr (by decide) rfl (pa_cons (pv 0) pa_nil))) (pg_tup rfl (pgs_cons (pg_name (i := 2) sc__law_modulus.nd rfl (Or.inl rfl)) (pgs_cons (pg_name (i := 3) sc__law_modulus.nd rfl (Or.inl rfl)) (pgs_cons (pg_name (i := 4) sc__law_modulus.nd rfl (Or.inl rfl)) (pgs_cons (pg_name (i := 5) sc__law_modulus.nd rfl (Or.inl rfl)) (pgs_cons (pg_name (i := 6) sc__law_modulus.nd rfl (Or.inl rfl)) (pgs_cons (pg_name (i := 7) sc__law_modulus.nd rfl (Or.inl rfl)) (pgs_cons (pg_name (i := 8) sc__law_modulus.nd rfl (Or.inl rfl)) (pgs_cons (pg_name (i := 9) sc__law_modulus.nd rfl (Or.inl rfl)) pgs_nil))))))))) (pss_cons (ps_set (i := 10) sc__law_modulus.nd rfl (Or.inl rfl) (pe_op op_fdivW (pe_op op_mul (pv 7) (pv 8)) (C8.pe_c c__law_gcd hr (by decide) rfl (pa_cons (pe_op op_mul (pv 7) (pv 8)) (pa_cons (pv 9) pa_nil)))))
      (pss_one (ps_set (i := 1) sc__law_modulus.nd rfl (Or.inl rfl) (pe_op op_mul (pe_op op_fdivW (pv 1) (C8.pe_c c__law_gcd hr (by decide) rfl (pa_cons (pv 1) (pa_cons (pv 10) pa_nil)))) (pv 10))))))
      (pss_one (ps_ret (pv 1))))), ?_⟩
    refine ⟨_, rfl, a, cs, rfl, hL, cv, B, hn, fun p H1 xs e1 hx h8 hxl => ?_⟩
    refine ⟨p, rfl, ⟨xs, hx⟩, for_list (xs := xs) (fun i σ H' => ∃ (r : Int) (x2 x3 x4 x5 x6 x7 x8 x9 x10 : Option V), σ = [some (.ref a), some (.int r), x2, x3, x4, x5, x6, x7, x8, x9, x10] ∧ Same H1 H') ⟨1, none, none, none, none, none, none, none, none, none, rfl, Same.refl _⟩
      (fun i σ H' _ ⟨_, _, _, _, _, _, _, _, _, _, _, e⟩ => sqL e hx) ?_ ?_⟩
    · rintro i z σ H2 hz ⟨r, x2, x3, x4, x5, x6, x7, x8, x9, x10, rfl, e2⟩
      obtain ⟨t, y1, y2, y3, y4, y5, u, v, d, rfl, ht, ⟨u1, u2⟩, v1, v2⟩ := h8 z (List.mem_of_getElem? hz)
      refine ⟨t, _, rfl, sqT e2 ht, rfl, _, _, rfl, _, _, rfl, _, _, rfl, _, _, rfl, _, _, rfl, _, _, rfl, _, _, rfl, _, _, rfl, rfl, ?_⟩
      have pw : 0 < u * v := Int.mul_pos u1 v1
      have pb : u * v < 2 ^ 60 := by
        have := (mul_bd (a := u) (b := v) (A := 1000000) (B := 1000000) (by omega) (by omega)).2
        omega
      obtain ⟨c1, c2, c3, c4⟩ := gcd_small (y := d) pw pb (u * v)
      have cm : CMul u v := .inl ⟨by omega, by omega⟩
      refine ⟨_, rfl, _, rfl, _, _, rfl, rfl, cm, _, rfl, _, rfl, _, _, rfl, rfl, cm, _, rfl, _, _, rfl, _, _, rfl, rfl, c1, ?_⟩
      refine ⟨_, rfl, _, rfl, _, rfl, _, _, rfl, _, _, rfl, rfl, gcd_small' c3 (by omega) _, _, rfl, _, _, rfl, rfl, .inr ⟨by omega, by omega⟩, ?_⟩
      exact ⟨_, _, _, _, _, _, _, _, _, _, rfl, e2⟩
    · rintro σ H2 ⟨r, x2, x3, x4, x5, x6, x7, x8, x9, x10, rfl, e2⟩
      exact ⟨_, rfl, k r H2 (Same.trans e1 e2)⟩
end
end KP

set_option Elab.async false
set_option linter.all false
set_option maxRecDepth 100000
set_option maxHeartbeats 4000000
namespace KP
open PySem PySem.Spec PyProof.Rows L2 KM
/-! ### steps of a reading -/
local macro_rules | `(tactic| walk_at "lift") => `(tactic| first
  | assumption
  | exact tup_of (by assumption)
  | exact lst_of (by assumption)
  | (refine sqT (by assumption) ?_; walk_at "lift")
  | (refine sqL (by assumption) ?_; walk_at "lift")
  | (refine TI.mono (by assumption) ?_; walk_at "lift")
  | (refine PtL.mono (by assumption) ?_; walk_at "lift")
  | (refine PtV.mono (by assumption) ?_; walk_at "lift")
  | (refine PolyAt.mono (by assumption) ?_; walk_at "lift"))
local macro_rules | `(tactic| walk_at "cond") => `(tactic| first
  | (refine (id ?_ : (_ : Prop)); omega)
  | (refine And.intro ?_ ?_ <;> omega)
  | (refine Or.inl (And.intro ?_ ?_) <;> omega)
  | (refine Or.inr (And.intro ?_ ?_) <;> omega)
  | (refine And.intro ?_ (And.intro ?_ ?_) <;> first | omega | decide))
local macro_rules | `(tactic| walk_at "new") => `(tactic| (intro p np; generalize hU : upd _ p _ = H3; have hU2 := gen_up np hU; clear hU; obtain ⟨e3, h3⟩ := hU2))
local macro_rules | `(tactic| walk_at "step") => `(tactic| first
  | (refine ⟨_, _, rfl, rfl, ?c, ?_⟩; (case c => walk_at "cond"))
  | refine ⟨_, _, rfl, rfl, ?_⟩
  | (refine ⟨_, ?xs, _, ?v, rfl, rfl, ?a, ?b, ?_⟩; (case a => walk_at "lift"); (case b => rfl))
  | refine ⟨_, rfl, ?_⟩
  | (refine ⟨_, _, rfl, Or.inl ?a, ?_⟩; (case a => walk_at "lift"))
  | (refine ⟨_, _, rfl, Or.inr ?a, ?_⟩; (case a => walk_at "lift"))
  | (refine ⟨szT (Nat.le_of_ble_eq_true rfl), ?_⟩; walk_at "new"))
local macro_rules | `(tactic| walk_at "go") => `(tactic| repeat walk_at "step")
/-! ### what is told without the pen -/
section
variable {K : PySem.W.Frag} {H : Hp} {d a : Addr} {t : Int}
theorem rd_wo2 {p a : Addr} {u o : HO} (hp : H p = some o) (hu : o ≠ u) (hf : ∀ q u, o ≠ .frz q u) (h : Rd H a u) : Rd (wo p H) a u := rd_wo hp hu (fun q => hf q u) h
theorem Pen.sqL {xs : List V} (h : Pen H d t) (hs : SqL K H a xs) : SqL K (wo d H) a xs := by
  obtain ⟨c, l, ns, h1, _⟩ := h
  rcases hs with hs | hs
  · exact .inl (rd_wo h1 (fun z => nomatch z) (fun _ z => nomatch z) hs)
  · exact .inr hs
theorem Pen.sqT {xs : List V} (h : Pen H d t) (hs : SqT K H a xs) : SqT K (wo d H) a xs := by
  obtain ⟨c, l, ns, h1, _⟩ := h
  rcases hs with hs | hs
  · exact .inl (rd_wo h1 (fun z => nomatch z) (fun _ z => nomatch z) hs)
  · exact .inr hs
theorem Pen.ti {v : V} {ns : List Int} (h : Pen H d t) (hs : TI K H v ns) : TI K (wo d H) v ns := by
  obtain ⟨p, e, q⟩ := hs
  exact ⟨p, e, h.sqT q⟩
theorem Pen.ptV {vs : List V} {cs : List Pt} (h : Pen H d t) (hs : PtV K H vs cs) : PtV K (wo d H) vs cs := Paired.mapP hs fun _ _ z => h.ti z
theorem Pen.ptL {cs : List Pt} (h : Pen H d t) (hs : PtL K H a cs) : PtL K (wo d H) a cs := by
  obtain ⟨vs, q, r⟩ := hs
  exact ⟨vs, h.sqL q, h.ptV r⟩
end
section
variable {P : Program} {w : World} {K : PySem.W.Frag} {mg : Str → Option Value} {base : Heap} {C : Addr}
theorem ti_lst {H : Hp} {D : Addr} {zs : List V} {v : V} {ns : List Int} (h : H D = some (.lst zs)) (hv : TI K H v ns) : TI K (wo D H) v ns := by
  obtain ⟨p, e, q⟩ := hv
  refine ⟨p, e, ?_⟩
  rcases q with q | q
  · exact .inl (rd_wo h (fun z => nomatch z) (fun _ z => nomatch z) q)
  · exact .inr q
theorem ti_ref {H : Hp} {p : Addr} {ns : List Int} (h : TI K H (.ref p) ns) : SqT K H p (ns.map V.int) := by
  obtain ⟨q, e, z⟩ := h
  cases e
  exact z
theorem lex_rot {cs : List Pt} {j : Nat} (hj : j < cs.length) (h : ∀ c ∈ cs, lexLe (vt cs j) c) : ∀ c ∈ cs.drop j ++ cs.take j, lexLe (vt (cs.drop j ++ cs.take j) 0) c := fun c hc => by
  rw [vt_rot hj, Nat.zero_add]
  rcases List.mem_append.mp hc with hc | hc
  · exact h c (List.mem_of_mem_drop hc)
  · exact h c (List.mem_of_mem_take hc)
theorem sc__law_mapped : FnScope ["_law_table_here", "_law_corners", "_law_result", "_law_corner"] ["_law_table_here", "_law_corners"] (defScope s__law_mapped) := ⟨rfl, rfl, rfl, by decide +kernel, rfl, by decide +kernel, by decide +kernel⟩
theorem ok_mapped (T : Txt K mg) (D : DefT K mg "_law_mapped" s__law_mapped ["_law_table_here", "_law_corners"]) (c__law_map_corner : C8.Cal P w K mg base 1 "_law_map_corner" (spMapC K) []) (c__law_cross : C8.Cal P w K mg base 1 "_law_cross" (spCross K) []) (c__law_from_least : C8.Cal P w K mg base 1 "_law_from_least" (spLeast K) []) :
    C8.Cal P w K mg base 2 "_law_mapped" (spMapped K) [] := by
  refine mkC D sc__law_mapped (fun vs H Q E h => ?_) (fun cdv A outer s H vs Q E hr h => ?_)
  · obtain ⟨_, _, _, _, _, _, _, _, _, rfl, _⟩ := h; rfl
  · obtain ⟨v, l, a, b, c, d, p0, q0, cs, rfl, ⟨p, rfl, ht⟩, tb, ⟨vs, hs, hp⟩, cv, hn, k⟩ := h
    refine ⟨_, (pss_cons (ps_setLc (i := 2) (own := [("_law_corner", 3)]) (g := gName 3) (tt := tYes) (by rfl) sc__law_mapped.nd rfl rfl (sw_true rfl rfl rfl (by decide +kernel)) (pi_list (pv 1)) (blkOk_by (own := [("_law_corner", 3)]) (N := ["_law_table_here", "_law_corners", "_law_result", "_law_corner"]) (sc := defScope s__law_mapped) (by decide +kernel)) (fun _ _ _ _ _ => (pg_name (i := 3) sc__law_mapped.nd rfl (Or.inl rfl))) (fun _ _ _ _ _ => pts_nil) (fun _ _ _ _ _ => (C8.pe_c c__law_map_corner hr (by decide) rfl (pa_cons (pv 0) (pa_cons (pv 3) pa_nil)))))
      (pss_one (ps_ret (C8.pe_c c__law_from_least hr (by decide) rfl (pa_cons (pe_ifExp (pt_cmpR op_eq (C8.pe_c c__law_cross hr (by decide) rfl (pa_cons (pe_slice sl_tup (pv 0) po_none (po_some pe_int)) (pa_cons (pe_slice sl_tup (pv 0) (po_some pe_int) (po_some pe_int)) pa_nil))) pe_int (nomark _)) (pv 2) (pe_revL (pv 2))) pa_nil))))), ?_⟩
    have hl := pair_len hp
    have h3 := cv.len
    have t1 := tb.ba
    have t2 := tb.bb
    have t3 := tb.bc
    have t4 := tb.bd
    refine ⟨_, rfl, l, rfl, ⟨vs, hs⟩, fun D hD => lc_mapL H (fun j y G => ∃ z, cs[j]? = some z ∧ IsPt K G y (mapc a b c d p0 q0 z)) (fun _ _ _ _ ⟨z, h1, h2⟩ e => ⟨z, h1, TI.mono e h2⟩) (Same.refl H) hD hs (by omega) (fun j y H2 hy e2 Q' R hq hDn => ?_) (fun ys H2 e2 hy hyl hb => ?_)⟩
    · obtain ⟨z, hz, hyz⟩ := pair_get hp hy
      refine turn_yes rfl ?_
      refine ⟨_, rfl, _, rfl, _, _, a, b, c, d, p0, q0, z, rfl, ⟨p, rfl, sqT e2 ht⟩, TI.mono e2 hyz, ⟨t1, t2, t3, t4⟩, fun v' H3 e3 hv' => ?_⟩
      obtain ⟨zs, hzs⟩ := hDn
      exact hq _ _ e3 ⟨z, hz, ti_lst (e3 _ _ hzs) hv'⟩
    · have hyp : PtV K H2 ys (cs.map (lin a b c d p0 q0)) := paired_of (by rw [List.length_map]; omega) (fun j x hx => by
        obtain ⟨z, hz, hxz⟩ := hb j x hx
        exact ⟨lin a b c d p0 q0 z, by rw [List.getElem?_map, hz]; rfl, TI.mono wo_le hxz⟩)
      refine ⟨_, rfl, _, rfl, p, _, rfl, sqT e2 ht, fun z => absurd z.2 (show ¬ HT.sIx 6 6 (some 2) = 6 by decide), fun x1 nx1 => ?_⟩
      generalize hU : upd H2 x1 _ = H3
      obtain ⟨e3, hx1⟩ := gen_up nx1 hU
      clear hU
      refine ⟨_, rfl, _, rfl, _, rfl, p, _, rfl, sqT (Same.trans e2 e3) ht, fun z => absurd z.1 (show ¬ HT.sIx 6 0 (some 2) = 0 by decide), fun x2 nx2 => ?_⟩
      generalize hU : upd H3 x2 _ = H4
      obtain ⟨e4, hx2⟩ := gen_up nx2 hU
      clear hU
      have hx1' : H4 x1 = some (.tup [.int a, .int b]) := e4 _ _ hx1
      have hx2' : H4 x2 = some (.tup [.int c, .int d]) := hx2
      refine ⟨_, _, (a, b), (c, d), rfl, ⟨x1, rfl, tup_of hx1'⟩, ⟨x2, rfl, tup_of hx2'⟩, by unfold Sm; omega, rfl, _, rfl, ?_⟩
      have e24 := Same.trans e3 e4
      have eH4 := Same.trans e2 e24
      have hcl : (cs.map (lin a b c d p0 q0)).length = cs.length := List.length_map _
      have edet : cr (a, b) (c, d) = a * d - b * c := rfl
      refine ite2D (fun c1 => ?_) (fun c1 => ?_)
      · have det : a * d - b * c = 1 := by have := V.int.inj c1; omega
        refine ⟨_, rfl, D, _, rfl, ⟨ys, lst_of (e24 _ _ hy), PtV.mono e24 hyp⟩, ?_, by omega, fun r H5 j e5 nr hj hmin hr5 => ?_⟩
        · exact List.length_pos_iff.mp (by omega)
        · exact k r H5 _ (Same.trans eH4 e5) (gd_of eH4 nr) hr5 (conv_rot hj (conv_lin (by omega) cv)) (by rw [List.length_append, List.length_drop, List.length_take]; omega) (lex_rot hj hmin)
      · have det : a * d - b * c = -1 := by
          rcases tb.det with h | h
          · exact absurd (by rw [edet, h] : V.int (cr (a, b) (c, d)) = V.int 1) c1
          · exact h
        refine ⟨_, rfl, D, ys, rfl, lst_of (e24 _ _ hy), fun x5 nx5 => ?_⟩
        generalize hU : upd H4 x5 _ = H5
        obtain ⟨e5, hx5⟩ := gen_up nx5 hU
        clear hU
        refine ⟨x5, (cs.map (lin a b c d p0 q0)).reverse, rfl, ⟨_, lst_of hx5, pair_rev (PtV.mono (Same.trans e24 e5) hyp)⟩, ?_, by rw [List.length_reverse]; omega, fun r H6 j e6 nr hj hmin hr6 => ?_⟩
        · exact List.length_pos_iff.mp (by rw [List.length_reverse]; omega)
        · have e4r := Same.trans eH4 e5
          exact k r H6 _ (Same.trans e4r e6) (gd_of e4r nr) hr6 (conv_rot hj (conv_lin_rev (by omega) cv)) (by rw [List.length_append, List.length_drop, List.length_take, List.length_reverse]; rw [List.length_reverse] at hj; omega) (lex_rot hj hmin)
/-- a row of the table's choice -/
def RowT (K : PySem.W.Frag) (H : Hp) (v : V) : Prop := ∃ A B C D : Int, TI K H v [A, B, C, D] ∧ (A * D - B * C = 1 ∨ A * D - B * C = -1) ∧ (-2 ≤ A ∧ A ≤ 2) ∧ (-2 ≤ B ∧ B ≤ 2) ∧ (-2 ≤ C ∧ C ≤ 2) ∧ (-2 ≤ D ∧ D ≤ 2)
theorem row_t {H : Hp} {p : Addr} {A B C D : Int} (h : H p = some (.tup [.int A, .int B, .int C, .int D])) (hd : A * D - B * C = 1 ∨ A * D - B * C = -1) (hb : (-2 ≤ A ∧ A ≤ 2) ∧ (-2 ≤ B ∧ B ≤ 2) ∧ (-2 ≤ C ∧ C ≤ 2) ∧ (-2 ≤ D ∧ D ≤ 2)) : RowT K H (.ref p) :=
  ⟨A, B, C, D, ⟨p, rfl, tup_of h⟩, hd, hb⟩
theorem RowT.mono {H H' : Hp} {v : V} (e : Same H H') (h : RowT K H v) : RowT K H' v := by
  obtain ⟨A, B, C, D, h1, h2⟩ := h
  exact ⟨A, B, C, D, TI.mono e h1, h2⟩
theorem sc__law_table : FnScope ["_law_pen_here", "_law_far", "_law_rows", "_law_one", "_law_two", "_law_k", "_law_table_here", "_law_p", "_law_q"] ["_law_pen_here", "_law_far"] (defScope s__law_table) := ⟨rfl, rfl, rfl, by decide +kernel, rfl, by decide +kernel, by decide +kernel⟩
theorem ok_table (T : Txt K mg) (D : DefT K mg "_law_table" s__law_table ["_law_pen_here", "_law_far"]) (c__law_draw : C8.Cal P w K mg base 1 "_law_draw" spDraw []) (c__law_pick : C8.Cal P w K mg base 2 "_law_pick" (spPick K) []) (c__law_map_corner : C8.Cal P w K mg base 1 "_law_map_corner" (spMapC K) []) :
    C8.Cal P w K mg base 3 "_law_table" (spTable K) [] := by
  refine mkC D sc__law_table (fun vs H Q E h => ?_) (fun cdv A outer s H vs Q E hr h => ?_)
  · obtain ⟨_, _, rfl, _⟩ := h; rfl
  · obtain ⟨e, t, rfl, hpen, ht, k⟩ := h
    refine ⟨_, (pss_cons (ps_set (i := 2) sc__law_table.nd rfl (Or.inl rfl) (pe_lst (pa_cons (pe_tup (pa_cons pe_int (pa_cons pe_int (pa_cons pe_int (pa_cons pe_int pa_nil))))) (pa_cons (pe_tup (pa_cons pe_int (pa_cons pe_int (pa_cons pe_int (pa_cons pe_int pa_nil))))) (pa_cons (pe_tup (pa_cons pe_int (pa_cons pe_int (pa_cons pe_int (pa_cons pe_int pa_nil))))) (pa_cons (pe_tup (pa_cons pe_int (pa_cons (pe_un un_neg pe_int) (pa_cons pe_int (pa_cons pe_int pa_nil))))) pa_nil))))))
      (pss_cons (ps_set (i := 2) sc__law_table.nd rfl (Or.inl rfl) (pe_op op_cat (pv 2) (pe_lst (pa_cons (pe_tup (pa_cons pe_int (pa_cons (pe_un un_neg pe_int) (pa_cons pe_int (pa_cons pe_int pa_nil))))) (pa_cons (pe_tup (pa_cons pe_int (pa_cons pe_int (pa_cons (pe_un un_neg pe_int) (pa_cons pe_int pa_nil))))) (pa_cons (pe_tup (pa_cons pe_int (pa_cons pe_int (pa_cons pe_int (pa_cons pe_int pa_nil))))) (pa_cons (pe_tup (pa_cons pe_int (pa_cons pe_int (pa_cons pe_int (pa_cons pe_int pa_nil))))) pa_nil)))))))
      (pss_cons (ps_asg (pe_tup (pa_cons (pe_tup (pa_cons pe_int (pa_cons pe_int pa_nil))) (pa_cons (pe_tup (pa_cons pe_int (pa_cons pe_int pa_nil))) pa_nil))) (pg_tup rfl (pgs_cons (pg_name (i := 3) sc__law_table.nd rfl (Or.inl rfl)) (pgs_cons (pg_name (i := 4) sc__law_table.nd rfl (Or.inl rfl)) pgs_nil))))
      (pss_cons (ps_for PassesOwn.never rfl (pi_range1 (by rfl) T.f_range (pa_cons (C8.pe_c c__law_draw hr (by decide) rfl (pa_cons (pv 0) (pa_cons pe_int pa_nil))) pa_nil)) (pg_name (i := 5) sc__law_table.nd rfl (Or.inl rfl)) (pss_cons (ps_set (i := 6) sc__law_table.nd rfl (Or.inl rfl) (pe_op op_catT (C8.pe_c c__law_pick hr (by decide) rfl (pa_cons (pv 0) (pa_cons (pv 2) pa_nil))) (pe_tup (pa_cons pe_int (pa_cons pe_int pa_nil)))))
      (pss_one (ps_par (i := 3) (j := 4) (by rfl) sc__law_table.nd rfl rfl (by decide) rfl rfl (pa_cons (C8.pe_c c__law_map_corner hr (by decide) rfl (pa_cons (pv 6) (pa_cons (pv 3) pa_nil))) (pa_cons (C8.pe_c c__law_map_corner hr (by decide) rfl (pa_cons (pv 6) (pa_cons (pv 4) pa_nil))) pa_nil)) (by rfl)))))
      (pss_cons (ps_par (i := 7) (j := 8) (by rfl) sc__law_table.nd rfl rfl (by decide) rfl rfl (pa_cons (pe_op op_sub (C8.pe_c c__law_draw hr (by decide) rfl (pa_cons (pv 0) (pa_cons (pe_op op_add (pe_op op_mul pe_int (pv 1)) pe_int) pa_nil))) (pv 1)) (pa_cons (pe_op op_sub (C8.pe_c c__law_draw hr (by decide) rfl (pa_cons (pv 0) (pa_cons (pe_op op_add (pe_op op_mul pe_int (pv 1)) pe_int) pa_nil))) (pv 1)) pa_nil)) (by rfl))
      (pss_one (ps_ret (pe_tup (pa_cons (pe_ix ix_tup (pv 3) pe_int (fun _ _ => rfl)) (pa_cons (pe_ix ix_tup (pv 4) pe_int (fun _ _ => rfl)) (pa_cons (pe_ix ix_tup (pv 3) pe_int (fun _ _ => rfl)) (pa_cons (pe_ix ix_tup (pv 4) pe_int (fun _ _ => rfl)) (pa_cons (pv 7) (pa_cons (pv 8) pa_nil)))))))))))))), ?_⟩
    walk_at "go"
    rename_i a1 n1 H1 e1 h1 a2 n2 H2 e2 h2 a3 n3 H3 e3 h3 a4 n4 H4 e4 h4 l1 nl1 H5 e5 hl1 b1 m1 H6 e6 k1 b2 m2 H7 e7 k2 b3 m3 H8 e8 k3 b4 m4 H9 e9 k4 l2 nl2 G0 e10 hl2
    have r1 : RowT K G0 (.ref a1) := row_t (e10 _ _ (e9 _ _ (e8 _ _ (e7 _ _ (e6 _ _ (e5 _ _ (e4 _ _ (e3 _ _ (e2 _ _ h1))))))))) (.inl rfl) (by decide)
    have r2 : RowT K G0 (.ref a2) := row_t (e10 _ _ (e9 _ _ (e8 _ _ (e7 _ _ (e6 _ _ (e5 _ _ (e4 _ _ (e3 _ _ h2)))))))) (.inl rfl) (by decide)
    have r3 : RowT K G0 (.ref a3) := row_t (e10 _ _ (e9 _ _ (e8 _ _ (e7 _ _ (e6 _ _ (e5 _ _ (e4 _ _ h3))))))) (.inl rfl) (by decide)
    have r4 : RowT K G0 (.ref a4) := row_t (e10 _ _ (e9 _ _ (e8 _ _ (e7 _ _ (e6 _ _ (e5 _ _ h4)))))) (.inl rfl) (by decide)
    have r5 : RowT K G0 (.ref b1) := row_t (e10 _ _ (e9 _ _ (e8 _ _ (e7 _ _ k1)))) (.inl rfl) (by decide)
    have r6 : RowT K G0 (.ref b2) := row_t (e10 _ _ (e9 _ _ (e8 _ _ k2))) (.inl rfl) (by decide)
    have r7 : RowT K G0 (.ref b3) := row_t (e10 _ _ (e9 _ _ k3)) (.inr rfl) (by decide)
    have r8 : RowT K G0 (.ref b4) := row_t (e10 _ _ k4) (.inl rfl) (by decide)
    have hl1' := e10 _ _ (e9 _ _ (e8 _ _ (e7 _ _ (e6 _ _ hl1))))
    have eG : Same H G0 := Same.trans e1 (Same.trans e2 (Same.trans e3 (Same.trans e4 (Same.trans e5 (Same.trans e6 (Same.trans e7 (Same.trans e8 (Same.trans e9 e10))))))))
    clear e1 e2 e3 e4 e5 e6 e7 e8 e9 e10 h1 h2 h3 h4 hl1 k1 k2 k3 k4 n1 n2 n3 n4 nl1 m1 m2 m3 m4 nl2
    refine ⟨l1, l2, _, _, rfl, rfl, hl1', hl2, Nat.le_of_ble_eq_true rfl, fun p np => ?_⟩
    generalize hU : upd G0 p _ = G1
    obtain ⟨eg, hp⟩ := gen_up np hU
    clear hU
    have rows : ∀ v ∈ [V.ref a1, .ref a2, .ref a3, .ref a4] ++ [V.ref b1, .ref b2, .ref b3, .ref b4], RowT K G1 v := by
      intro v hv
      simp only [List.cons_append, List.nil_append, List.mem_cons, List.not_mem_nil, or_false] at hv
      rcases hv with rfl | rfl | rfl | rfl | rfl | rfl | rfl | rfl <;> exact RowT.mono eg (by assumption)
    have hxl : ([V.ref a1, .ref a2, .ref a3, .ref a4] ++ [V.ref b1, .ref b2, .ref b3, .ref b4]).length = 8 := rfl
    generalize [V.ref a1, .ref a2, .ref a3, .ref a4] ++ [V.ref b1, .ref b2, .ref b3, .ref b4] = xs at *
    walk_at "go"
    rename_i o1 no1 H1 e1 ho1 o2 no2 H2 e2 ho2 o3 no3 H3 e3 ho3
    refine ⟨_, _, rfl, tup_of ho3, rfl, _, _, rfl, _, _, rfl, rfl, ?_⟩
    have e13 := Same.trans e1 (Same.trans e2 e3)
    have eH3 := Same.trans (Same.trans eG eg) e13
    refine ⟨_, rfl, e, 4, t, rfl, by omega, by omega, Pen.mono eH3 hpen, by omega, fun r t1 Hd d0 d1 ed hpd ht1 _ => ?_⟩
    have hpen3 := Pen.mono eH3 hpen
    have toD : ∀ {v : V} {ns : List Int}, TI K H3 v ns → TI K Hd v ns := fun z => TI.mono ed (hpen3.ti z)
    refine ⟨_, rfl, by omega, by omega, ?_⟩
    refine for_range (n := r.toNat) (fun i σ H' => ∃ (q1 q2 : Addr) (x5 x6 : Option V) (t' u1 u2 v1 v2 : Int), σ = [some (.ref e), some (.int 20), some (.ref p), some (.ref q1), some (.ref q2), x5, x6, none, none] ∧ Same (wo e H) H' ∧ Pen H' e t' ∧ t' ≤ t + 1 + (i : Nat) ∧ SqL K H' p xs ∧ (∀ v ∈ xs, RowT K H' v) ∧
      IsPt K H' (.ref q1) (u1, u2) ∧ IsPt K H' (.ref q2) (v1, v2) ∧ (u1 * v2 - v1 * u2 = 1 ∨ u1 * v2 - v1 * u2 = -1) ∧ ((-(4 ^ i) ≤ u1 ∧ u1 ≤ 4 ^ i) ∧ (-(4 ^ i) ≤ u2 ∧ u2 ≤ 4 ^ i) ∧ (-(4 ^ i) ≤ v1 ∧ v1 ≤ 4 ^ i) ∧ (-(4 ^ i) ≤ v2 ∧ v2 ≤ 4 ^ i)))
      ⟨o1, o2, none, none, t1, 1, 0, 0, 1, rfl, Same.trans (wo_up (Same.trans wo_le eH3)) ed, hpd, by omega, sqL ed (hpen3.sqL (lst_of (e13 _ _ hp))), fun v hv => ?_, toD ⟨o1, rfl, tup_of (e3 _ _ (e2 _ _ ho1))⟩, toD ⟨o2, rfl, tup_of (e3 _ _ ho2)⟩, .inl rfl, by decide⟩ ?_ ?_
    · obtain ⟨A, B, C, D, z1, z2⟩ := RowT.mono e13 (rows v hv)
      exact ⟨A, B, C, D, toD z1, z2⟩
    · rintro i σ H4 hi ⟨q1, q2, x5, x6, t', u1, u2, v1, v2, rfl, e4, hp4, ht4, hx4, hr4, hq1, hq2, det, bd⟩
      have hi3 : i ≤ 2 := by omega
      refine ⟨_, rfl, _, rfl, e, p, t', xs, rfl, hp4.sqL hx4, ?_, by omega, hp4, by omega, fun ix v t2 H5 hv e5 hp5 ht5 => ?_⟩
      · intro z; rw [z] at hxl; cases hxl
      have to5 : ∀ {v : V} {ns : List Int}, TI K H4 v ns → TI K H5 v ns := fun z => TI.mono e5 (hp4.ti z)
      obtain ⟨A, B, C, D, ⟨qv, rfl, hqv⟩, dAB, bA, bB, bC, bD⟩ := hr4 v (List.mem_of_getElem? hv)
      have hqv5 := sqT e5 (hp4.sqT hqv)
      walk_at "go"
      rename_i z1 nz1 H6 e6 hz1
      refine ⟨qv, z1, _, _, rfl, rfl, sqT e6 hqv5, tup_of hz1, fun z => (nomatch z), Nat.le_of_ble_eq_true rfl, fun z => (nomatch z), fun _ z2 nz2 => ?_⟩
      generalize hU : upd H6 z2 _ = H7
      obtain ⟨e7, hz2⟩ := gen_up nz2 hU
      clear hU
      have e57 := Same.trans e6 e7
      have bnd : (-1000 ≤ A ∧ A ≤ 1000) ∧ (-1000 ≤ B ∧ B ≤ 1000) ∧ (-1000 ≤ C ∧ C ≤ 1000) ∧ (-1000 ≤ D ∧ D ≤ 1000) := by omega
      refine ⟨_, rfl, _, rfl, _, _, A, B, C, D, 0, 0, (u1, u2), rfl, ⟨z2, rfl, tup_of hz2⟩, TI.mono e57 (to5 hq1), bnd, fun w1 H8 e8 hw1 => ?_⟩
      refine ⟨_, rfl, _, rfl, _, _, A, B, C, D, 0, 0, (v1, v2), rfl, ⟨z2, rfl, tup_of (e8 _ _ hz2)⟩, TI.mono (Same.trans e57 e8) (to5 hq2), bnd, fun w2 H9 e9 hw2 => ?_⟩
      obtain ⟨o1', rfl, hw1'⟩ := hw1
      obtain ⟨o2', rfl, hw2'⟩ := hw2
      have e59 := Same.trans e57 (Same.trans e8 e9)
      refine ⟨_, _, rfl, o1', o2', _, _, t2, A * u1 + B * u2 + 0, C * u1 + D * u2 + 0, A * v1 + B * v2 + 0, C * v1 + D * v2 + 0, rfl, Same.trans (Same.trans (wo_up e4) e5) e59, Pen.mono e59 hp5, by omega, sqL e59 (sqL e5 (hp4.sqL hx4)), fun v hv => ?_, ⟨o1', rfl, sqT e9 hw1'⟩, ⟨o2', rfl, hw2'⟩, ?_, ?_⟩
      · obtain ⟨A, B, C, D, z1, z2⟩ := hr4 v hv
        exact ⟨A, B, C, D, TI.mono e59 (to5 z1), z2⟩
      · have ed : (A * u1 + B * u2 + 0) * (C * v1 + D * v2 + 0) - (A * v1 + B * v2 + 0) * (C * u1 + D * u2 + 0) = (A * D - B * C) * (u1 * v2 - v1 * u2) := by grind
        rw [ed]
        rcases dAB with h | h <;> rcases det with h' | h' <;> rw [h, h'] <;> decide
      · have hM : (4 : Int) ^ (i + 1) = 4 ^ i * 4 := Int.pow_succ _ _
        obtain ⟨b1, b2, b3, b4⟩ := bd
        have m1 := mul_bd (A := 2) bA b1
        have m2 := mul_bd (A := 2) bB b2
        have m3 := mul_bd (A := 2) bC b1
        have m4 := mul_bd (A := 2) bD b2
        have m5 := mul_bd (A := 2) bA b3
        have m6 := mul_bd (A := 2) bB b4
        have m7 := mul_bd (A := 2) bC b3
        have m8 := mul_bd (A := 2) bD b4
        omega
    · rintro σ H4 ⟨q1, q2, x5, x6, t', u1, u2, v1, v2, rfl, e4, hp4, ht4, hx4, hr4, hq1, hq2, det, bd⟩
      have hr3 : r.toNat ≤ 3 := by omega
      have b64 : (4 : Int) ^ r.toNat ≤ 64 := by
        have h : r.toNat = 0 ∨ r.toNat = 1 ∨ r.toNat = 2 ∨ r.toNat = 3 := by omega
        rcases h with h | h | h | h <;> rw [h] <;> decide
      refine ⟨_, rfl, _, rfl, _, _, rfl, rfl, .inl ⟨by omega, by omega⟩, _, _, rfl, rfl, e, _, t', rfl, by omega, by omega, hp4, by omega, fun g1 t2 H5 c0 c1 e5 hp5 ht5 _ => ?_⟩
      refine ⟨_, rfl, _, _, rfl, rfl, ?_⟩
      refine ⟨_, rfl, _, rfl, _, _, rfl, rfl, .inl ⟨by omega, by omega⟩, _, _, rfl, rfl, e, _, t2, rfl, by omega, by omega, hp5, by omega, fun g2 t3 H6 f0 f1 e6 hp6 ht6 _ => ?_⟩
      refine ⟨_, rfl, _, _, rfl, rfl, _, _, rfl, ?_⟩
      have to6 : ∀ {v : V} {ns : List Int}, TI K H4 v ns → TI K H6 v ns := fun z => TI.mono e6 (hp5.ti (TI.mono e5 (hp4.ti z)))
      have hq1' := ti_ref (to6 hq1)
      have hq2' := ti_ref (to6 hq2)
      walk_at "go"
      rename_i z np7 H7 e7 hz
      exact k (.ref z) H7 t3 u1 v1 u2 v2 _ _ (Same.trans (wo_up (Same.trans (wo_up e4) e5)) (Same.trans e6 e7)) (Pen.mono e7 hp6) (by omega) ⟨det, by omega, by omega, by omega, by omega, by omega, by omega⟩ ((Pen.mono e7 hp6).ti ⟨z, rfl, tup_of hz⟩)
end
end KP

set_option Elab.async false
set_option linter.all false
set_option maxRecDepth 100000
set_option maxHeartbeats 400000
namespace KP
open PySem PySem.Spec PyProof.Rows L2 KM
/-! ### steps of a reading -/
local macro_rules | `(tactic| walk_at "lift") => `(tactic| first
  | assumption
  | exact tup_of (by assumption)
  | exact lst_of (by assumption)
  | (refine sqT (by assumption) ?_; walk_at "lift")
  | (refine sqL (by assumption) ?_; walk_at "lift")
  | (refine TI.mono (by assumption) ?_; walk_at "lift")
  | (refine PtL.mono (by assumption) ?_; walk_at "lift")
  | (refine PtV.mono (by assumption) ?_; walk_at "lift")
  | (refine PolyAt.mono (by assumption) ?_; walk_at "lift"))
local macro_rules | `(tactic| walk_at "cond") => `(tactic| first
  | (refine (id ?_ : (_ : Prop)); omega)
  | (refine And.intro ?_ ?_ <;> omega)
  | (refine Or.inl (And.intro ?_ ?_) <;> omega)
  | (refine Or.inr (And.intro ?_ ?_) <;> omega)
  | (refine And.intro ?_ (And.intro ?_ ?_) <;> first | omega | decide))
local macro_rules | `(tactic| walk_at "new") => `(tactic| (intro p np; generalize hU : upd _ p _ = H3; have hU2 := gen_up np hU; clear hU; obtain ⟨e3, h3⟩ := hU2))
local macro_rules | `(tactic| walk_at "step") => `(tactic| first
  | (refine ⟨_, _, rfl, rfl, ?c, ?_⟩; (case c => walk_at "cond"))
  | refine ⟨_, _, rfl, rfl, ?_⟩
  | (refine ⟨_, ?xs, _, ?v, rfl, rfl, ?a, ?b, ?_⟩; (case a => walk_at "lift"); (case b => rfl))
  | refine ⟨_, rfl, ?_⟩
  | (refine ⟨_, _, rfl, Or.inl ?a, ?_⟩; (case a => walk_at "lift"))
  | (refine ⟨_, _, rfl, Or.inr ?a, ?_⟩; (case a => walk_at "lift"))
  | (refine ⟨szT (Nat.le_of_ble_eq_true rfl), ?_⟩; walk_at "new"))
local macro_rules | `(tactic| walk_at "go") => `(tactic| repeat walk_at "step")
/-! ### written lists of points -/
def ptT (c : Pt) : TE := tTup (tCons (tC (.int c.1)) (tCons (tC (.int c.2)) tNil))
def ptsT : List Pt → TA
  | [] => tNil
  | c :: cs => tCons (ptT c) (ptsT cs)
def lssT : List (List Pt) → TA
  | [] => tNil
  | c :: cs => tCons (tLst (ptsT c)) (lssT cs)
section
variable {K : PySem.W.Frag} {σ : L2.St}
theorem pt_rule {c : Pt} {H : Hp} {Q : VK} (h : ∀ p H', Same H H' → IsPt K H' (.ref p) c → Q (.ref p) H') : ptT c σ H Q := by
  refine ⟨Nat.le_of_ble_eq_true rfl, fun p np => ?_⟩
  exact h p _ (Same.new np) ⟨p, rfl, tup_of upd_same⟩
theorem pts_rule : ∀ {cs : List Pt} {H : Hp} {Q : List V → Hp → Prop}, (∀ vs H', Same H H' → PtV K H' vs cs → Q vs H') → ptsT cs σ H Q
  | [], H, Q, h => h [] H (Same.refl H) .nil
  | c :: cs, H, Q, h => by
    show ptT c σ H fun x H1 => ptsT cs σ H1 fun xs H2 => Q (x :: xs) H2
    refine pt_rule (K := K) fun p H1 e1 hp => ?_
    exact pts_rule fun vs H2 e2 hv => h (.ref p :: vs) H2 (Same.trans e1 e2) (.cons (TI.mono e2 hp) hv)
theorem lst_rule {cs : List Pt} {H : Hp} {Q : VK} (hn : cs.length ≤ 1000) (h : ∀ p H', Same H H' → PtL K H' p cs → Q (.ref p) H') : tLst (ptsT cs) σ H Q := by
  refine pts_rule (K := K) fun vs H1 e1 hv => ⟨szT (by rw [pair_len hv]; exact hn), fun p np => ?_⟩
  exact h p _ (Same.newer e1 np) ⟨vs, lst_of upd_same, PtV.mono (Same.new np) hv⟩
abbrev LRel (K : PySem.W.Frag) (H : Hp) : V → List Pt → Prop := fun v cs => ∃ l, v = .ref l ∧ PtL K H l cs
theorem LRel.mono {H H' : Hp} {vs : List V} {css : List (List Pt)} (e : Same H H') (h : Paired (LRel K H) vs css) : Paired (LRel K H') vs css := Paired.mapP h fun _ _ ⟨l, h1, h2⟩ => ⟨l, h1, PtL.mono e h2⟩
theorem lss_rule : ∀ {css : List (List Pt)} {H : Hp} {Q : List V → Hp → Prop}, (∀ cs ∈ css, cs.length ≤ 1000) → (∀ vs H', Same H H' → Paired (LRel K H') vs css → Q vs H') → lssT css σ H Q
  | [], H, Q, _, h => h [] H (Same.refl H) .nil
  | c :: css, H, Q, hn, h => by
    show tLst (ptsT c) σ H fun x H1 => lssT css σ H1 fun xs H2 => Q (x :: xs) H2
    refine lst_rule (K := K) (hn c (List.mem_cons_self ..)) fun p H1 e1 hp => ?_
    exact lss_rule (fun x hx => hn x (List.mem_cons_of_mem _ hx)) fun vs H2 e2 hv => h (.ref p :: vs) H2 (Same.trans e1 e2) (.cons ⟨p, rfl, PtL.mono e2 hp⟩ hv)
theorem seq_asg {te : TE} {g : TG} {r : TS} {D : Ends} {σ : L2.St} {H : Hp} (h : te σ H fun x H1 => g x σ H1 fun σ' H' => r D σ' H') : tSeq (tAsg te g) r D σ H := h
theorem op_intro {r : R2} {a b : TE} {σ : L2.St} {H : Hp} {Q : VK} (h : a σ H fun x H1 => b σ H1 fun y H2 => r x y H2 Q) : tOp r a b σ H Q := h
theorem ret_op {r : R2} {a b : TE} {σ : L2.St} {H : Hp} {D : Ends} (h : a σ H fun x H1 => b σ H1 fun y H2 => r x y H2 D.rt) : tRet (tOp r a b) D σ H := h
/-- a list of lists that may be joined -/
def LLm (K : PySem.W.Frag) (H : Hp) (a : Addr) (css : List (List Pt)) : Prop := ∃ vs, H a = some (.lst vs) ∧ Paired (LRel K H) vs css
theorem LLm.mono {H H' : Hp} {a : Addr} {css : List (List Pt)} (e : Same H H') (h : LLm K H a css) : LLm K H' a css := by
  obtain ⟨vs, h1, h2⟩ := h
  exact ⟨vs, e _ _ h1, LRel.mono e h2⟩
theorem llm_rule {css : List (List Pt)} {H : Hp} {Q : VK} (hn : ∀ cs ∈ css, cs.length ≤ 1000) (hl : css.length ≤ 1000) (h : ∀ p H', Same H H' → LLm K H' p css → Q (.ref p) H') : tLst (lssT css) σ H Q := by
  refine lss_rule (K := K) hn fun vs H1 e1 hv => ⟨szT (by rw [pair_len hv]; exact hl), fun p np => ?_⟩
  exact h p _ (Same.newer e1 np) ⟨vs, upd_same, LRel.mono (Same.new np) hv⟩
theorem cat_rule {l b : Addr} {c1 c2 : List (List Pt)} {H : Hp} {Q : VK} (h1 : LLm K H l c1) (h2 : LLm K H b c2) (hl : c1.length + c2.length ≤ 1000) (h : ∀ p H', Same H H' → LLm K H' p (c1 ++ c2) → Q (.ref p) H') : rCat (.ref l) (.ref b) H Q := by
  obtain ⟨vs, g1, g2⟩ := h1
  obtain ⟨ws, k1, k2⟩ := h2
  refine ⟨l, b, vs, ws, rfl, rfl, g1, k1, ?_, fun p np => ?_⟩
  · rw [pair_len g2, pair_len k2]; exact Nat.le_trans hl (by decide)
  · exact h p _ (Same.new np) ⟨vs ++ ws, upd_same, LRel.mono (Same.new np) (pair_app g2 k2)⟩
end
section
variable {P : Program} {w : World} {K : PySem.W.Frag} {mg : Str → Option Value} {base : Heap} {C : Addr}
theorem sc__law_shapes : FnScope ["_law_result"] [] (defScope s__law_shapes) := ⟨rfl, rfl, rfl, by decide +kernel, rfl, by decide +kernel, by decide +kernel⟩
theorem ok_shapes (T : Txt K mg) (D : DefT K mg "_law_shapes" s__law_shapes []) : C8.Cal P w K mg base 1 "_law_shapes" (spShapes K) [] := by
  refine mkC D sc__law_shapes (fun vs H Q E h => ?_) (fun cdv A outer s H vs Q E hr h => ?_)
  · obtain ⟨rfl, _⟩ := h; rfl
  · obtain ⟨rfl, k⟩ := h
    refine ⟨_, (pss_cons (ps_set (i := 0) sc__law_shapes.nd rfl (Or.inl rfl) (pe_lst (pa_cons (pe_lst (pa_cons (pe_tup (pa_cons pe_int (pa_cons pe_int pa_nil))) (pa_cons (pe_tup (pa_cons pe_int (pa_cons pe_int pa_nil))) (pa_cons (pe_tup (pa_cons pe_int (pa_cons pe_int pa_nil))) pa_nil)))) (pa_cons (pe_lst (pa_cons (pe_tup (pa_cons pe_int (pa_cons pe_int pa_nil))) (pa_cons (pe_tup (pa_cons pe_int (pa_cons pe_int pa_nil))) (pa_cons (pe_tup (pa_cons pe_int (pa_cons pe_int pa_nil))) (pa_cons (pe_tup (pa_cons pe_int (pa_cons pe_int pa_nil))) pa_nil))))) (pa_cons (pe_lst (pa_cons (pe_tup (pa_cons pe_int (pa_cons pe_int pa_nil))) (pa_cons (pe_tup (pa_cons pe_int (pa_cons pe_int pa_nil))) (pa_cons (pe_tup (pa_cons pe_int (pa_cons pe_int pa_nil))) (pa_cons (pe_tup (pa_cons pe_int (pa_cons pe_int pa_nil))) pa_nil))))) pa_nil)))))
      (pss_cons (ps_set (i := 0) sc__law_shapes.nd rfl (Or.inl rfl) (pe_op op_cat (pv 0) (pe_lst (pa_cons (pe_lst (pa_cons (pe_tup (pa_cons pe_int (pa_cons pe_int pa_nil))) (pa_cons (pe_tup (pa_cons pe_int (pa_cons pe_int pa_nil))) (pa_cons (pe_tup (pa_cons pe_int (pa_cons pe_int pa_nil))) (pa_cons (pe_tup (pa_cons pe_int (pa_cons pe_int pa_nil))) (pa_cons (pe_tup (pa_cons pe_int (pa_cons pe_int pa_nil))) (pa_cons (pe_tup (pa_cons pe_int (pa_cons pe_int pa_nil))) pa_nil))))))) (pa_cons (pe_lst (pa_cons (pe_tup (pa_cons pe_int (pa_cons pe_int pa_nil))) (pa_cons (pe_tup (pa_cons pe_int (pa_cons pe_int pa_nil))) (pa_cons (pe_tup (pa_cons pe_int (pa_cons pe_int pa_nil))) (pa_cons (pe_tup (pa_cons pe_int (pa_cons pe_int pa_nil))) (pa_cons (pe_tup (pa_cons pe_int (pa_cons pe_int pa_nil))) pa_nil)))))) pa_nil)))))
      (pss_cons (ps_set (i := 0) sc__law_shapes.nd rfl (Or.inl rfl) (pe_op op_cat (pv 0) (pe_lst (pa_cons (pe_lst (pa_cons (pe_tup (pa_cons pe_int (pa_cons pe_int pa_nil))) (pa_cons (pe_tup (pa_cons pe_int (pa_cons pe_int pa_nil))) (pa_cons (pe_tup (pa_cons pe_int (pa_cons pe_int pa_nil))) (pa_cons (pe_tup (pa_cons pe_int (pa_cons pe_int pa_nil))) pa_nil))))) (pa_cons (pe_lst (pa_cons (pe_tup (pa_cons pe_int (pa_cons pe_int pa_nil))) (pa_cons (pe_tup (pa_cons pe_int (pa_cons pe_int pa_nil))) (pa_cons (pe_tup (pa_cons pe_int (pa_cons pe_int pa_nil))) (pa_cons (pe_tup (pa_cons pe_int (pa_cons pe_int pa_nil))) pa_nil))))) pa_nil)))))
      (pss_cons (ps_set (i := 0) sc__law_shapes.nd rfl (Or.inl rfl) (pe_op op_cat (pv 0) (pe_lst (pa_cons (pe_lst (pa_cons (pe_tup (pa_cons pe_int (pa_cons pe_int pa_nil))) (pa_cons (pe_tup (pa_cons pe_int (pa_cons pe_int pa_nil))) (pa_cons (pe_tup (pa_cons pe_int (pa_cons pe_int pa_nil))) (pa_cons (pe_tup (pa_cons pe_int (pa_cons pe_int pa_nil))) pa_nil))))) (pa_cons (pe_lst (pa_cons (pe_tup (pa_cons pe_int (pa_cons pe_int pa_nil))) (pa_cons (pe_tup (pa_cons pe_int (pa_cons pe_int pa_nil))) (pa_cons (pe_tup (pa_cons pe_int (pa_cons pe_int pa_nil))) pa_nil)))) pa_nil)))))
      (pss_cons (ps_set (i := 0) sc__law_shapes.nd rfl (Or.inl rfl) (pe_op op_cat (pv 0) (pe_lst (pa_cons (pe_lst (pa_cons (pe_tup (pa_cons pe_int (pa_cons pe_int pa_nil))) (pa_cons (pe_tup (pa_cons pe_int (pa_cons pe_int pa_nil))) (pa_cons (pe_tup (pa_cons pe_int (pa_cons pe_int pa_nil))) (pa_cons (pe_tup (pa_cons pe_int (pa_cons pe_int pa_nil))) pa_nil))))) (pa_cons (pe_lst (pa_cons (pe_tup (pa_cons pe_int (pa_cons pe_int pa_nil))) (pa_cons (pe_tup (pa_cons pe_int (pa_cons pe_int pa_nil))) (pa_cons (pe_tup (pa_cons pe_int (pa_cons pe_int pa_nil))) (pa_cons (pe_tup (pa_cons pe_int (pa_cons pe_int pa_nil))) pa_nil))))) pa_nil)))))
      (pss_cons (ps_set (i := 0) sc__law_shapes.nd rfl (Or.inl rfl) (pe_op op_cat (pv 0) (pe_lst (pa_cons (pe_lst (pa_cons (pe_tup (pa_cons pe_int (pa_cons pe_int pa_nil))) (pa_cons (pe_tup (pa_cons pe_int (pa_cons pe_int pa_nil))) (pa_cons (pe_tup (pa_cons pe_int (pa_cons pe_int pa_nil))) pa_nil)))) (pa_cons (pe_lst (pa_cons (pe_tup (pa_cons pe_int (pa_cons pe_int pa_nil))) (pa_cons (pe_tup (pa_cons pe_int (pa_cons pe_int pa_nil))) (pa_cons (pe_tup (pa_cons pe_int (pa_cons pe_int pa_nil))) (pa_cons (pe_tup (pa_cons pe_int (pa_cons pe_int pa_nil))) pa_nil))))) (pa_cons (pe_lst (pa_cons (pe_tup (pa_cons pe_int (pa_cons pe_int pa_nil))) (pa_cons (pe_tup (pa_cons pe_int (pa_cons pe_int pa_nil))) (pa_cons (pe_tup (pa_cons pe_int (pa_cons pe_int pa_nil))) pa_nil)))) pa_nil))))))
      (pss_cons (ps_set (i := 0) sc__law_shapes.nd rfl (Or.inl rfl) (pe_op op_cat (pv 0) (pe_lst (pa_cons (pe_lst (pa_cons (pe_tup (pa_cons pe_int (pa_cons pe_int pa_nil))) (pa_cons (pe_tup (pa_cons pe_int (pa_cons pe_int pa_nil))) (pa_cons (pe_tup (pa_cons pe_int (pa_cons pe_int pa_nil))) (pa_cons (pe_tup (pa_cons pe_int (pa_cons pe_int pa_nil))) pa_nil))))) (pa_cons (pe_lst (pa_cons (pe_tup (pa_cons pe_int (pa_cons pe_int pa_nil))) (pa_cons (pe_tup (pa_cons pe_int (pa_cons pe_int pa_nil))) (pa_cons (pe_tup (pa_cons pe_int (pa_cons pe_int pa_nil))) (pa_cons (pe_tup (pa_cons pe_int (pa_cons pe_int pa_nil))) (pa_cons (pe_tup (pa_cons pe_int (pa_cons pe_int pa_nil))) pa_nil)))))) pa_nil)))))
      (pss_one (ps_ret (pe_op op_cat (pv 0) (pe_lst (pa_cons (pe_lst (pa_cons (pe_tup (pa_cons pe_int (pa_cons pe_int pa_nil))) (pa_cons (pe_tup (pa_cons pe_int (pa_cons pe_int pa_nil))) (pa_cons (pe_tup (pa_cons pe_int (pa_cons pe_int pa_nil))) (pa_cons (pe_tup (pa_cons pe_int (pa_cons pe_int pa_nil))) (pa_cons (pe_tup (pa_cons pe_int (pa_cons pe_int pa_nil))) (pa_cons (pe_tup (pa_cons pe_int (pa_cons pe_int pa_nil))) pa_nil))))))) pa_nil)))))))))))), ?_⟩
    refine seq_asg ?_
    refine llm_rule (K := K) (css := [[(0, 0), (1, 0), (0, 1)], [(0, 0), (1, 0), (1, 1), (0, 1)], [(0, 0), (2, 0), (1, 1), (0, 1)]]) (by decide) (by decide) fun l0 H0 e0 h0 => ?_
    refine seq_asg (op_intro ⟨_, rfl, ?_⟩)
    refine llm_rule (K := K) (css := [[(0, 0), (1, 0), (2, 1), (2, 2), (1, 2), (0, 1)], [(0, 0), (2, 0), (2, 1), (1, 2), (0, 2)]]) (by decide) (by decide) fun m1 G1 f1 g1 => ?_
    refine cat_rule (K := K) (LLm.mono f1 h0) g1 (by decide) fun l1 H1 e1 h1 => ?_
    refine seq_asg (op_intro ⟨_, rfl, ?_⟩)
    refine llm_rule (K := K) (css := [[(0, 0), (2, 0), (2, 1), (0, 1)], [(0, 0), (1, 0), (2, 1), (1, 1)]]) (by decide) (by decide) fun m2 G2 f2 g2 => ?_
    refine cat_rule (K := K) (LLm.mono f2 h1) g2 (by decide) fun l2 H2 e2 h2 => ?_
    refine seq_asg (op_intro ⟨_, rfl, ?_⟩)
    refine llm_rule (K := K) (css := [[(0, 0), (1, 0), (1, 1), (0, 2)], [(0, 0), (3, 0), (0, 1)]]) (by decide) (by decide) fun m3 G3 f3 g3 => ?_
    refine cat_rule (K := K) (LLm.mono f3 h2) g3 (by decide) fun l3 H3 e3 h3 => ?_
    refine seq_asg (op_intro ⟨_, rfl, ?_⟩)
    refine llm_rule (K := K) (css := [[(0, 0), (3, 0), (1, 2), (0, 2)], [(0, 1), (1, 0), (2, 1), (1, 2)]]) (by decide) (by decide) fun m4 G4 f4 g4 => ?_
    refine cat_rule (K := K) (LLm.mono f4 h3) g4 (by decide) fun l4 H4 e4 h4 => ?_
    refine seq_asg (op_intro ⟨_, rfl, ?_⟩)
    refine llm_rule (K := K) (css := [[(0, 0), (2, 1), (1, 2)], [(0, 0), (1, 0), (1, 1), (0, 1)], [(0, 0), (2, 0), (1, 2)]]) (by decide) (by decide) fun m5 G5 f5 g5 => ?_
    refine cat_rule (K := K) (LLm.mono f5 h4) g5 (by decide) fun l5 H5 e5 h5 => ?_
    refine seq_asg (op_intro ⟨_, rfl, ?_⟩)
    refine llm_rule (K := K) (css := [[(0, 1), (1, 0), (2, 2), (1, 2)], [(1, 0), (2, 0), (3, 2), (2, 4), (1, 4)]]) (by decide) (by decide) fun m6 G6 f6 g6 => ?_
    refine cat_rule (K := K) (LLm.mono f6 h5) g6 (by decide) fun l6 H6 e6 h6 => ?_
    refine ret_op ⟨_, rfl, ?_⟩
    refine llm_rule (K := K) (css := [[(0, 0), (1, 0), (3, 1), (3, 2), (2, 3), (1, 2)]]) (by decide) (by decide) fun m7 G7 f7 g7 => ?_
    refine cat_rule (K := K) (LLm.mono f7 h6) g7 (by decide) fun l7 H7 e7 h7 => ?_
    obtain ⟨vs, h1, h2⟩ := h7
    exact k l7 H7 (Same.trans (Same.trans (Same.trans (Same.trans (Same.trans (Same.trans (Same.trans (Same.trans (Same.trans (Same.trans (Same.trans (Same.trans (Same.trans (Same.trans (e0) f1) e1) f2) e2) f3) e3) f4) e4) f5) e5) f6) e6) f7) e7) ⟨vs, lst_of h1, h2⟩
theorem shapes_ok : ∀ cs ∈ shapes, Conv cs ∧ cs.length ≤ 6 ∧ Bd cs := by
  have h : (shapes.all fun cs => chk cs && decide (cs.length ≤ 6) && cs.all fun c => decide ((-60 ≤ c.1 ∧ c.1 ≤ 60) ∧ (-60 ≤ c.2 ∧ c.2 ≤ 60))) = true := by decide +kernel
  intro cs hcs
  have a := List.all_eq_true.mp h cs hcs
  rw [Bool.and_eq_true, Bool.and_eq_true] at a
  exact ⟨conv_chk a.1.1, of_decide_eq_true a.1.2, fun c hc => of_decide_eq_true (List.all_eq_true.mp a.2 c hc)⟩
theorem turn_pt {K : PySem.W.Frag} {te : TE} {vs : List Nat} {σ : L2.St} {q : Addr} {x y : V} {H : Hp} {Q' : V → Hp → Prop} {R : Hp → Prop} {i j : Nat} (hq : SqT K H q [x, y]) (h : wipe (((wipe σ vs).set i (some x)).set j (some y)) vs = wipe σ vs)
    (h2 : te (((wipe σ vs).set i (some x)).set j (some y)) H Q') : LcTurn (gTup K 2 (gCons (gName i) (gCons (gName j) gNil))) tYes te vs σ (.ref q) H Q' R := by
  refine ⟨q, [x, y], rfl, hq, rfl, x, [y], rfl, y, [], rfl, rfl, h, ?_⟩
  show if true = true then te (((wipe σ vs).set i (some x)).set j (some y)) H Q' else R H
  rw [if_pos rfl]
  exact h2
theorem LLs.get {H : Hp} {vs : List V} {css : List (List Pt)} {i : Nat} {v : V} (h : Paired (LRel K H) vs css) (hv : vs[i]? = some v) : ∃ l cs, v = .ref l ∧ cs ∈ css ∧ PtL K H l cs := by
  obtain ⟨cs, h1, l, h2, h3⟩ := pair_get h hv
  exact ⟨l, cs, h2, List.mem_of_getElem? h1, h3⟩
theorem Pen.ne {H : Hp} {d a : Addr} {t : Int} {o : HO} (h : Pen H d t) (ha : H a = some o) (hd : ∀ kvs, o ≠ .dK kvs) : a ≠ d := by
  obtain ⟨c, l, ns, h1, _⟩ := h
  intro z
  rw [z, h1] at ha
  exact hd _ (Option.some.inj ha).symm
theorem ints_of : ∀ {ns : List V}, (∀ (j : Nat) (y : V), ns[j]? = some y → ∃ m, y = .int m) → ∃ ms : List Int, ns = ms.map V.int
  | [], _ => ⟨[], rfl⟩
  | y :: ns, h => by
    obtain ⟨m, rfl⟩ := h 0 y rfl
    obtain ⟨ms, rfl⟩ := ints_of (ns := ns) fun j y hj => h (j + 1) y (by simpa using hj)
    exact ⟨m :: ms, rfl⟩
theorem fallback {σ : L2.St} {H : Hp} {e : Addr} {t : Int} {D : Ends} (h0 : σ[0]? = some (some (.ref e))) (hpen : Pen H e t) (ht : t ≤ 900000)
    (k : ∀ (p : Addr) (H' : Hp) (t' : Int) (cs : List Pt), Same (wo e H) H' → Pen H' e t' → t' ≤ t + 1 → PtL K (wo e H') p cs → GoodPoly cs → D.rt (.ref p) H') :
    tRet (tCall (spLeast K) [] C8.E0 (tCons (tCall (spPick K) [] C8.E0 (tCons (tVar 0) (tCons (tSl (rSlL K) (tCall (spShapes K) [] C8.E0 tNil) tNoPart (tPart (tC (V.int 3)))) tNil))) tNil)) D σ H := by
  refine ⟨_, h0, rfl, fun p H1 e1 ⟨ls, hls, hpr⟩ => ?_⟩
  have hlen : ls.length = 17 := pair_len hpr
  refine ⟨_, rfl, p, ls, rfl, hls, fun l2 nl2 => ?_⟩
  generalize hU : upd H1 l2 _ = H2
  obtain ⟨e2, hl2⟩ := gen_up nl2 hU
  clear hU
  have hp2 := Pen.mono (Same.trans e1 e2) hpen
  have hcut : cutV ls none (some 3) = ls.take 3 := cut_to (j := 3) (by omega)
  rw [hcut] at hl2
  have hl3 : (ls.take 3).length = 3 := by rw [List.length_take]; omega
  refine ⟨e, l2, t, ls.take 3, rfl, hp2.sqL (lst_of hl2), (by intro z; rw [z] at hl3; exact absurd hl3 (by decide)), by omega, hp2, by omega, fun i v t1 H3 hv e3 hp3 ht1 => ?_⟩
  have hv' : ls[i]? = some v := by
    rw [List.getElem?_take] at hv
    split at hv
    · exact hv
    · cases hv
  obtain ⟨lb, cs, rfl, hcs, hb⟩ := LLs.get hpr hv'
  obtain ⟨cv, hn, bd⟩ := shapes_ok cs hcs
  have hb3 : PtL K H3 lb cs := PtL.mono e3 (hp2.ptL (PtL.mono e2 hb))
  have h3 := cv.len
  refine ⟨lb, cs, rfl, hb3, List.length_pos_iff.mp (by omega), by omega, fun q H4 j e4 nq hj hmin hq => ?_⟩
  refine k q H4 t1 _ (Same.trans (Same.trans (wo_up (Same.trans wo_le (Same.trans e1 e2))) e3) e4) (Pen.mono e4 hp3) ht1 ((Pen.mono e4 hp3).ptL hq) ⟨conv_rot hj cv, fun c hc => ?_, ?_, lex_rot hj hmin⟩
  · rcases List.mem_append.mp hc with hc | hc
    · exact bd c (List.mem_of_mem_drop hc)
    · exact bd c (List.mem_of_mem_take hc)
  · rw [List.length_append, List.length_drop, List.length_take]; omega
theorem sc__law_shape : FnScope ["_law_pen_here", "_law_base", "_law_many", "_law_result", "_law_x", "_law_y"] ["_law_pen_here"] (defScope s__law_shape) := ⟨rfl, rfl, rfl, by decide +kernel, rfl, by decide +kernel, by decide +kernel⟩
theorem ok_shape (T : Txt K mg) (D : DefT K mg "_law_shape" s__law_shape ["_law_pen_here"]) (c__law_pick : C8.Cal P w K mg base 2 "_law_pick" (spPick K) []) (c__law_draw : C8.Cal P w K mg base 1 "_law_draw" spDraw []) (c__law_mapped : C8.Cal P w K mg base 2 "_law_mapped" (spMapped K) [])
    (c__law_table : C8.Cal P w K mg base 3 "_law_table" (spTable K) []) (c__law_modulus : C8.Cal P w K mg base 4 "_law_modulus" (spModulus K) []) (c__law_from_least : C8.Cal P w K mg base 1 "_law_from_least" (spLeast K) []) (c__law_shapes : C8.Cal P w K mg base 1 "_law_shapes" (spShapes K) []) :
    C8.Cal P w K mg base 5 "_law_shape" (spShape K) [] := by
  refine mkC D sc__law_shape (fun vs H Q E h => ?_) (fun cdv A outer s H vs Q E hr h => ?_)
  · obtain ⟨_, _, rfl, _⟩ := h; rfl
  · obtain ⟨e, t, rfl, hpen, ht, k⟩ := h
    refine ⟨_, (pss_cons (ps_set (i := 1) sc__law_shape.nd rfl (Or.inl rfl) (C8.pe_c c__law_pick hr (by decide) rfl (pa_cons (pv 0) (pa_cons (pe_c0 c__law_shapes hr (by decide) rfl) pa_nil))))
      (pss_cons (ps_set (i := 2) sc__law_shape.nd rfl (Or.inr rfl) (pe_op op_add pe_int (C8.pe_c c__law_draw hr (by decide) rfl (pa_cons (pv 0) (pa_cons pe_int pa_nil)))))
      (pss_cons (ps_set (i := 3) sc__law_shape.nd rfl (Or.inl rfl) (C8.pe_c c__law_mapped hr (by decide) rfl (pa_cons (C8.pe_c c__law_table hr (by decide) rfl (pa_cons (pv 0) (pa_cons pe_int pa_nil))) (pa_cons (pe_lc (own := [("_law_x", 4), ("_law_y", 5)]) (g := gTup _ 2 (gCons (gName 4) (gCons (gName 5) (gNil)))) (tt := tYes) (by rfl) sc__law_shape.nd (pi_list (pv 1)) (blkOk_by (own := [("_law_x", 4), ("_law_y", 5)]) (N := ["_law_pen_here", "_law_base", "_law_many", "_law_result", "_law_x", "_law_y"]) (sc := defScope s__law_shape) (by decide +kernel)) (fun _ _ _ _ _ => (pg_tup rfl (pgs_cons (pg_name (i := 4) sc__law_shape.nd rfl (Or.inl rfl)) (pgs_cons (pg_name (i := 5) sc__law_shape.nd rfl (Or.inl rfl)) pgs_nil)))) (fun _ _ _ _ _ => pts_nil) (fun _ _ _ _ _ => (pe_tup (pa_cons (pe_op op_mul (pv 2) (pv 4)) (pa_cons (pe_op op_mul (pv 2) (pv 5)) pa_nil))))) pa_nil))))
      (pss_cons (ps_if (PW.pt (pw_or (pt_cmpR op_gt (pe_callB (cr_max rfl) (by rfl) T.f_max (by decide +kernel) (pa_cons (pe_lc (own := [("_law_x", 4), ("_law_y", 5)]) (g := gTup _ 2 (gCons (gName 4) (gCons (gName 5) (gNil)))) (tt := tYes) (by rfl) sc__law_shape.nd (pi_list (pv 3)) (blkOk_by (own := [("_law_x", 4), ("_law_y", 5)]) (N := ["_law_pen_here", "_law_base", "_law_many", "_law_result", "_law_x", "_law_y"]) (sc := defScope s__law_shape) (by decide +kernel)) (fun _ _ _ _ _ => (pg_tup rfl (pgs_cons (pg_name (i := 4) sc__law_shape.nd rfl (Or.inl rfl)) (pgs_cons (pg_name (i := 5) sc__law_shape.nd rfl (Or.inl rfl)) pgs_nil)))) (fun _ _ _ _ _ => pts_nil) (fun _ _ _ _ _ => (pe_callB (call_max2 rfl) (by rfl) T.f_max (by decide +kernel) (pa_cons (pe_callB call_abs (by rfl) T.f_abs (by decide +kernel) (pa_cons (pv 4) pa_nil)) (pa_cons (pe_callB call_abs (by rfl) T.f_abs (by decide +kernel) (pa_cons (pv 5) pa_nil)) pa_nil))))) pa_nil)) pe_int (nomark _)) (pw_or1 (pt_cmpR op_gt (C8.pe_c c__law_modulus hr (by decide) rfl (pa_cons (pv 3) pa_nil)) pe_int (nomark _))))) (pss_one (ps_ret (C8.pe_c c__law_from_least hr (by decide) rfl (pa_cons (C8.pe_c c__law_pick hr (by decide) rfl (pa_cons (pv 0) (pa_cons (pe_slice sl_list (pe_c0 c__law_shapes hr (by decide) rfl) po_none (po_some pe_int)) pa_nil))) pa_nil)))) pss_nil)
      (pss_one (ps_ret (pv 3))))))), ?_⟩
    refine ⟨_, rfl, rfl, fun p H1 e1 ⟨ls, hls, hpr⟩ => ?_⟩
    have hpen1 := Pen.mono e1 hpen
    have hlen : ls.length = 17 := pair_len hpr
    refine ⟨e, p, t, ls, rfl, hpen1.sqL hls, (by intro z; rw [z] at hlen; exact absurd hlen (by decide)), by omega, hpen1, by omega, fun i v t1 H2 hv e2 hp2 ht1 => ?_⟩
    obtain ⟨lb, cs, rfl, hcs, hb⟩ := LLs.get hpr hv
    obtain ⟨cv, hn, _⟩ := shapes_ok cs hcs
    have hb2 : PtL K H2 lb cs := PtL.mono e2 (hpen1.ptL hb)
    refine ⟨_, rfl, e, 3, t1, rfl, by omega, by omega, hp2, by omega, fun r t2 H3 r0 r1 e3 hp3 ht2 _ => ?_⟩
    have hb3 : PtL K H3 lb cs := PtL.mono e3 (hp2.ptL hb2)
    refine ⟨_, _, rfl, rfl, ?_⟩
    refine ⟨_, rfl, e, t2, rfl, hp3, by omega, fun vt0 H4 t3 a b c d p0 q0 e4 hp4 ht3 tb ht0 => ?_⟩
    obtain ⟨bs, hbs, hbp⟩ : PtL K H4 lb cs := PtL.mono e4 (hp3.ptL hb3)
    have hl := pair_len hbp
    have h3 := cv.len
    refine ⟨_, rfl, lb, rfl, ⟨bs, hbs⟩, fun D hD => lc_mapL H4 (fun j y G => ∃ z, cs[j]? = some z ∧ IsPt K G y ((1 + r) * z.1, (1 + r) * z.2)) (fun _ _ _ _ ⟨z, h1, h2⟩ e => ⟨z, h1, TI.mono e h2⟩) (Same.refl H4) hD hbs (by omega) (fun j y H5 hy e5 Q' R hq hDn => ?_) (fun ys H5 e5 hy hyl hby => ?_)⟩
    · obtain ⟨z, hz, ⟨q, rfl, hyq⟩⟩ := pair_get hbp hy
      refine turn_pt (sqT e5 hyq) rfl ?_
      refine ⟨_, rfl, _, rfl, _, _, rfl, rfl, .inl ⟨by omega, by omega⟩, _, rfl, _, rfl, _, _, rfl, rfl, .inl ⟨by omega, by omega⟩, Nat.le_of_ble_eq_true rfl, fun x nx => ?_⟩
      generalize hU : upd H5 x _ = H6
      obtain ⟨e6, hx⟩ := gen_up nx hU
      clear hU
      obtain ⟨zs, hzs⟩ := hDn
      exact hq _ _ e6 ⟨z, hz, ti_lst (e6 _ _ hzs) ⟨x, rfl, tup_of hx⟩⟩
    · have hyp : PtV K H5 ys (cs.map (lin (1 + r) 0 0 (1 + r) 0 0)) := paired_of (by rw [List.length_map]; omega) (fun j x hx => by
        obtain ⟨z, hz, hxz⟩ := hby j x hx
        refine ⟨lin (1 + r) 0 0 (1 + r) 0 0 z, by rw [List.getElem?_map, hz]; rfl, ?_⟩
        have el : lin (1 + r) 0 0 (1 + r) 0 0 z = ((1 + r) * z.1, (1 + r) * z.2) := by unfold lin; simp
        rw [el]
        exact TI.mono wo_le hxz)
      have hcl : (cs.map (lin (1 + r) 0 0 (1 + r) 0 0)).length = cs.length := List.length_map _
      have cv2 : Conv (cs.map (lin (1 + r) 0 0 (1 + r) 0 0)) := conv_lin (by
        have := Int.mul_pos (show 0 < 1 + r by omega) (show 0 < 1 + r by omega)
        omega) cv
      refine ⟨vt0, D, a, b, c, d, p0, q0, _, rfl, TI.mono e5 (TI.mono wo_le ht0), tb, ⟨ys, lst_of hy, hyp⟩, cv2, by omega, fun rr H6 cs' e6 _ hr6 cv' hl' hmin => ?_⟩
      obtain ⟨rs, hrs, hrp⟩ := hr6
      have hrl := pair_len hrp
      have e46 := Same.trans e5 e6
      have hp6 := Pen.mono e46 hp4
      have s16 : Same (wo e H) H6 := Same.trans (wo_up (Same.trans (wo_up (Same.trans (wo_up (Same.trans (wo_up (Same.trans wo_le e1)) e2)) e3)) e4)) (Same.trans wo_le e46)
      refine ⟨_, rfl, rr, rfl, ⟨rs, hrs⟩, fun D2 hD2 => lc_mapL H6 (fun j y G => ∃ z, cs'[j]? = some z ∧ ∃ m : Int, y = .int m ∧ (z.1 ≤ m ∧ -m ≤ z.1) ∧ (z.2 ≤ m ∧ -m ≤ z.2)) (fun _ _ _ _ h _ => h) (Same.refl H6) hD2 hrs (by omega) (fun j y H7 hy7 e7 Q' R hq hDn => ?_) (fun ns H7 e7 hn7 hnl hbn => ?_)⟩
      · obtain ⟨z, hz, ⟨q, rfl, hyq⟩⟩ := pair_get hrp hy7
        refine turn_pt (sqT e7 hyq) rfl ?_
        refine ⟨_, rfl, _, rfl, _, rfl, _, rfl, _, _, rfl, hq _ _ (Same.refl _) ⟨z, hz, _, rfl, ?_, ?_⟩⟩
        · constructor <;> (repeat' split) <;> omega
        · constructor <;> (repeat' split) <;> omega
      · obtain ⟨ms, hms⟩ := ints_of (fun j y hj => by obtain ⟨_, _, m, h, _⟩ := hbn j y hj; exact ⟨m, h⟩)
        have hml : ms.length = cs'.length := by rw [hms, List.length_map] at hnl; omega
        rw [hms] at hn7
        have hp7 := Pen.mono e7 hp6
        refine ⟨D2, ms, rfl, lst_of hn7, by omega, fun m hm hmx => ?_⟩
        refine ⟨_, _, rfl, rfl, _, rfl, ite2D (fun c1 => ?_) (fun c1 => ?_)⟩
        · refine iteT (fallback (K := K) rfl hp7 (by omega) fun p H8 t' cs2 e8 hp8 ht' hL g => ?_)
          exact k p H8 t' cs2 (Same.trans (wo_up (Same.trans s16 e7)) e8) hp8 (by omega) hL g
        · have bd : Bd cs' := fun z hz => by
            obtain ⟨j, hj⟩ := List.mem_iff_getElem?.mp hz
            have hjl := (List.getElem?_eq_some_iff.mp hj).1
            obtain ⟨m0, hm0⟩ : ∃ m0, ms[j]? = some m0 := ⟨_, List.getElem?_eq_getElem (show j < ms.length by omega)⟩
            have hy : ns[j]? = some (.int m0) := by rw [hms, List.getElem?_map, hm0]; rfl
            obtain ⟨z', hz', m', em, b1, b2⟩ := hbn j _ hy
            have ez : z = z' := Option.some.inj (hj.symm.trans hz')
            have em' : m0 = m' := V.int.inj em
            have lm := hmx _ (List.mem_of_getElem? hm0)
            rw [ez]
            omega
          refine ⟨_, rfl, rr, cs', rfl, ⟨rs, sqL e7 hrs, PtV.mono e7 hrp⟩, cv', bd, by omega, fun mo H8 e8 => ?_⟩
          have hp8 := Pen.mono e8 hp7
          refine ⟨_, _, rfl, rfl, _, rfl, ite2D (fun c2 => ?_) (fun c2 => ?_)⟩
          · refine fallback (K := K) rfl hp8 (by omega) fun p H9 t' cs2 e9 hp9 ht' hL g => ?_
            exact k p H9 t' cs2 (Same.trans (wo_up (Same.trans s16 (Same.trans e7 e8))) e9) hp9 (by omega) hL g
          · refine ⟨_, rfl, k rr H8 t3 cs' (Same.trans s16 (Same.trans e7 e8)) hp8 (by omega) (hp8.ptL ⟨rs, sqL (Same.trans e7 e8) hrs, PtV.mono (Same.trans e7 e8) hrp⟩) ⟨cv', bd, by omega, hmin⟩⟩
end
end KP

set_option Elab.async false
set_option linter.all false
set_option maxRecDepth 100000
set_option maxHeartbeats 1000000
namespace KP
open PySem PySem.Spec PyProof.Rows L2 KM
/-! ### steps of a reading -/
local macro_rules | `(tactic| walk_at "lift") => `(tactic| first
  | assumption
  | exact tup_of (by assumption)
  | exact lst_of (by assumption)
  | (refine sqT (by assumption) ?_; walk_at "lift")
  | (refine sqL (by assumption) ?_; walk_at "lift")
  | (refine TI.mono (by assumption) ?_; walk_at "lift")
  | (refine PtL.mono (by assumption) ?_; walk_at "lift")
  | (refine PtV.mono (by assumption) ?_; walk_at "lift")
  | (refine PolyAt.mono (by assumption) ?_; walk_at "lift"))
local macro_rules | `(tactic| walk_at "cond") => `(tactic| first
  | (refine (id ?_ : (_ : Prop)); omega)
  | (refine And.intro ?_ ?_ <;> omega)
  | (refine Or.inl (And.intro ?_ ?_) <;> omega)
  | (refine Or.inr (And.intro ?_ ?_) <;> omega)
  | (refine And.intro ?_ (And.intro ?_ ?_) <;> first | omega | decide))
local macro_rules | `(tactic| walk_at "new") => `(tactic| (intro p np; generalize hU : upd _ p _ = H3; have hU2 := gen_up np hU; clear hU; obtain ⟨e3, h3⟩ := hU2))
local macro_rules | `(tactic| walk_at "step") => `(tactic| first
  | (refine ⟨_, _, rfl, rfl, ?c, ?_⟩; (case c => walk_at "cond"))
  | refine ⟨_, _, rfl, rfl, ?_⟩
  | (refine ⟨_, ?xs, _, ?v, rfl, rfl, ?a, ?b, ?_⟩; (case a => walk_at "lift"); (case b => rfl))
  | refine ⟨_, rfl, ?_⟩
  | (refine ⟨_, _, rfl, Or.inl ?a, ?_⟩; (case a => walk_at "lift"))
  | (refine ⟨_, _, rfl, Or.inr ?a, ?_⟩; (case a => walk_at "lift"))
  | (refine ⟨szT (Nat.le_of_ble_eq_true rfl), ?_⟩; walk_at "new"))
local macro_rules | `(tactic| walk_at "go") => `(tactic| repeat walk_at "step")
theorem two_filters (p q : Pt → Bool) : ∀ cs : List Pt, (∀ c ∈ cs, p c = true → q c = true → False) → (cs.filter p).length + (cs.filter q).length ≤ cs.length
  | [], _ => by simp
  | c :: cs, h => by
    have ih := two_filters p q cs fun x hx => h x (List.mem_cons_of_mem _ hx)
    have hc := h c (List.mem_cons_self ..)
    rw [List.filter_cons, List.filter_cons, List.length_cons]
    cases hp : p c <;> cases hq : q c
    · simp only [Bool.false_eq_true, if_false]; omega
    · simp only [Bool.false_eq_true, if_false, if_true, List.length_cons]; omega
    · simp only [Bool.false_eq_true, if_false, if_true, List.length_cons]; omega
    · exact absurd (hc hp hq) id
/-- the corners above the first, the rest -/
def upP (c0 c : Pt) : Bool := decide (c0.2 < c.2 ∨ (c.2 = c0.2 ∧ c0.1 < c.1))
def loP (us : List Pt) (c0 c : Pt) : Bool := !decide (c ∈ us) && !decide (c = c0)
theorem halves {cs : List Pt} {c0 : Pt} (h0 : cs[0]? = some c0) : 1 + (cs.filter (upP c0)).length + (cs.filter (loP (cs.filter (upP c0)) c0)).length ≤ cs.length := by
  cases cs with
  | nil => cases h0
  | cons c tl =>
    have e : c = c0 := Option.some.inj h0
    subst e
    have a : upP c c = false := by unfold upP; exact decide_eq_false (by omega)
    generalize hU : (c :: tl).filter (upP c) = us
    have b : loP us c c = false := by unfold loP; simp
    have t := two_filters (upP c) (loP us c) tl fun x hx h1 h2 => by
      unfold loP at h2
      rw [Bool.and_eq_true] at h2
      have h3 : ¬ x ∈ us := by simpa using h2.1
      refine h3 ?_
      rw [← hU]
      exact List.mem_filter.mpr ⟨List.mem_cons_of_mem _ hx, h1⟩
    rw [List.filter_cons, a] at hU
    simp only [Bool.false_eq_true, if_false] at hU
    rw [← hU] at t ⊢
    rw [hU] at t ⊢
    rw [List.filter_cons, b, List.length_cons]
    simp only [Bool.false_eq_true, if_false]
    rw [← hU] at t ⊢
    omega
section
variable {P : Program} {w : World} {K : PySem.W.Frag} {mg : Str → Option Value} {base : Heap} {C : Addr}
/-- behind i drawn points -/
def ItemsAt (K : PySem.W.Frag) (G : Hp) (e D cc : Addr) (t wide : Int) (i : Nat) (H : Hp) : Prop :=
  ∃ (ys : List V) (cs : List Pt) (t' : Int), Same (wo e G) H ∧ Pen H e t' ∧ Cells H e cc ∧ t' ≤ t + 2 * (i : Nat) ∧ H D = some (.lst ys) ∧ PtV K (wo D H) ys cs ∧ cs.length = i ∧ ∀ c ∈ cs, (-wide ≤ c.1 ∧ c.1 ≤ wide) ∧ (-wide ≤ c.2 ∧ c.2 ≤ wide)
theorem sc__law_any_shape : FnScope ["_law_pen_here", "_law_again", "_law_wide", "_law_many", "_law_items", "_law_upper", "_law_lower", "_law_result", "_law_k", "_law_c"] ["_law_pen_here"] (defScope s__law_any_shape) := ⟨rfl, rfl, rfl, by decide +kernel, rfl, by decide +kernel, by decide +kernel⟩
theorem ok_any (T : Txt K mg) (D : DefT K mg "_law_any_shape" s__law_any_shape ["_law_pen_here"]) (c__law_draw : C8.Cal P w K mg base 1 "_law_draw" spDraw []) (c__law_round : C8.Cal P w K mg base 2 "_law_round" (spRound K) []) (c__law_is_convex : C8.Cal P w K mg base 2 "_law_is_convex" (spLConvex K) [])
    (c__law_from_least : C8.Cal P w K mg base 1 "_law_from_least" (spLeast K) []) (c__law_shape : C8.Cal P w K mg base 5 "_law_shape" (spShape K) []) : C8.Cal P w K mg base 6 "_law_any_shape" (spAny K) [] := by
  refine mkC D sc__law_any_shape (fun vs H Q E h => ?_) (fun cdv A outer s H vs Q E hr h => ?_)
  · obtain ⟨_, _, rfl, _⟩ := h; rfl
  · obtain ⟨e, t, rfl, hpen, ht, k⟩ := h
    refine ⟨_, (pss_cons (ps_for PassesOwn.never rfl (pi_range1 (by rfl) T.f_range (pa_cons pe_int pa_nil)) (pg_name (i := 1) sc__law_any_shape.nd rfl (Or.inl rfl)) (pss_cons (ps_asg (pe_tup (pa_cons (pe_op op_add pe_int (C8.pe_c c__law_draw hr (by decide) rfl (pa_cons (pv 0) (pa_cons pe_int pa_nil)))) (pa_cons (pe_op op_add pe_int (C8.pe_c c__law_draw hr (by decide) rfl (pa_cons (pv 0) (pa_cons pe_int pa_nil)))) pa_nil))) (pg_tup rfl (pgs_cons (pg_name (i := 2) sc__law_any_shape.nd rfl (Or.inr rfl)) (pgs_cons (pg_name (i := 3) sc__law_any_shape.nd rfl (Or.inl rfl)) pgs_nil))))
      (pss_cons (ps_set (i := 4) sc__law_any_shape.nd rfl (Or.inr rfl) (pe_lc (own := [("_law_k", 8)]) (g := gName 8) (tt := tYes) (by rfl) sc__law_any_shape.nd (pi_range1 (by rfl) T.f_range (pa_cons (pv 3) pa_nil)) (blkOk_by (own := [("_law_k", 8)]) (N := ["_law_pen_here", "_law_again", "_law_wide", "_law_many", "_law_items", "_law_upper", "_law_lower", "_law_result", "_law_k", "_law_c"]) (sc := defScope s__law_any_shape) (by decide +kernel)) (fun _ _ _ _ _ => (pg_name (i := 8) sc__law_any_shape.nd rfl (Or.inl rfl))) (fun _ _ _ _ _ => pts_nil) (fun _ _ _ _ _ => (pe_tup (pa_cons (pe_op op_sub (C8.pe_c c__law_draw hr (by decide) rfl (pa_cons (pv 0) (pa_cons (pe_op op_add (pe_op op_mul pe_int (pv 2)) pe_int) pa_nil))) (pv 2)) (pa_cons (pe_op op_sub (C8.pe_c c__law_draw hr (by decide) rfl (pa_cons (pv 0) (pa_cons (pe_op op_add (pe_op op_mul pe_int (pv 2)) pe_int) pa_nil))) (pv 2)) pa_nil))))))
      (pss_cons (ps_set (i := 5) sc__law_any_shape.nd rfl (Or.inr rfl) (pe_lc (own := [("_law_c", 9)]) (g := gName 9) (tt := _) (by rfl) sc__law_any_shape.nd (pi_list (pv 4)) (blkOk_by (own := [("_law_c", 9)]) (N := ["_law_pen_here", "_law_again", "_law_wide", "_law_many", "_law_items", "_law_upper", "_law_lower", "_law_result", "_law_k", "_law_c"]) (sc := defScope s__law_any_shape) (by decide +kernel)) (fun _ _ _ _ _ => (pg_name (i := 9) sc__law_any_shape.nd rfl (Or.inl rfl))) (fun _ _ _ _ _ => pts_one (PW.pt (pw_or (pt_cmpR op_gt (pe_ix (show IxR _ (rIxT K) from ix_tup) (pv 9) pe_int (fun _ _ => rfl)) (pe_ix (show IxR _ (rIxT K) from ix_tup) (pe_ix (show IxR _ (rIxL K) from ix_list) (pv 4) pe_int (fun _ _ => rfl)) pe_int (fun _ _ => rfl)) (nomark _)) (pw_or1 (PW.pt (pw_and (pt_cmpR op_eq (pe_ix (show IxR _ (rIxT K) from ix_tup) (pv 9) pe_int (fun _ _ => rfl)) (pe_ix (show IxR _ (rIxT K) from ix_tup) (pe_ix (show IxR _ (rIxL K) from ix_list) (pv 4) pe_int (fun _ _ => rfl)) pe_int (fun _ _ => rfl)) (nomark _)) (pw_and1 (pt_cmpR op_gt (pe_ix (show IxR _ (rIxT K) from ix_tup) (pv 9) pe_int (fun _ _ => rfl)) (pe_ix (show IxR _ (rIxT K) from ix_tup) (pe_ix (show IxR _ (rIxL K) from ix_list) (pv 4) pe_int (fun _ _ => rfl)) pe_int (fun _ _ => rfl)) (nomark _))))))))) (fun _ _ _ _ _ => (pv 9))))
      (pss_cons (ps_setLc (i := 6) (own := [("_law_c", 9)]) (g := gName 9) (tt := _) (by rfl) sc__law_any_shape.nd rfl rfl (sw_true rfl rfl rfl (by decide +kernel)) (pi_list (pv 4)) (blkOk_by (own := [("_law_c", 9)]) (N := ["_law_pen_here", "_law_again", "_law_wide", "_law_many", "_law_items", "_law_upper", "_law_lower", "_law_result", "_law_k", "_law_c"]) (sc := defScope s__law_any_shape) (by decide +kernel)) (fun _ _ _ _ _ => (pg_name (i := 9) sc__law_any_shape.nd rfl (Or.inl rfl))) (fun _ _ _ _ _ => pts_one (PW.pt (pw_and (pt_cmpR (show OpR _ _ (rNotInD K) from op_notInD (hu65 hr)) (pv 9) (pv 5) (by rfl)) (pw_and1 (pt_cmpR (show OpR _ _ (rNeD K) from op_neD hr.units) (pv 9) (pe_ix (show IxR _ (rIxL K) from ix_list) (pv 4) pe_int (fun _ _ => rfl)) (nomark _)))))) (fun _ _ _ _ _ => (pv 9)))
      (pss_cons (ps_set (i := 7) sc__law_any_shape.nd rfl (Or.inl rfl) (pe_op op_cat (pe_op op_cat (pe_lst (pa_cons (pe_ix ix_list (pv 4) pe_int (fun _ _ => rfl)) pa_nil)) (C8.pe_c c__law_round hr (by decide) rfl (pa_cons (pe_ix ix_list (pv 4) pe_int (fun _ _ => rfl)) (pa_cons (pv 5) pa_nil)))) (C8.pe_c c__law_round hr (by decide) rfl (pa_cons (pe_ix ix_list (pv 4) pe_int (fun _ _ => rfl)) (pa_cons (pv 6) pa_nil)))))
      (pss_one (ps_if (PW.pt (pw_and (pt_cmpR op_gt (pe_callB call_len_seq (by rfl) T.f_len PySem.boot_len (pa_cons (pv 7) pa_nil)) pe_int (nomark _)) (pw_and1 (pt_val (C8.pe_c c__law_is_convex hr (by decide) rfl (pa_cons (pv 7) pa_nil)))))) (pss_one (ps_ret (C8.pe_c c__law_from_least hr (by decide) rfl (pa_cons (pv 7) pa_nil)))) pss_nil))))))))
      (pss_one (ps_ret (C8.pe_c c__law_shape hr (by decide) rfl (pa_cons (pv 0) pa_nil))))), ?_⟩
    refine ⟨_, rfl, by omega, by omega, ?_⟩
    refine for_range (n := (12 : Int).toNat) (fun i σ H' => ∃ (x1 x2 x3 x4 x5 x6 x7 : Option V) (t' : Int), σ = [some (.ref e), x1, x2, x3, x4, x5, x6, x7, none, none] ∧ Same (wo e H) H' ∧ Pen H' e t' ∧ t' ≤ t + 14 * (i : Nat))
      ⟨none, none, none, none, none, none, none, t, rfl, wo_le, hpen, by omega⟩ ?_ ?_
    · rintro i σ H0 hi ⟨x1, x2, x3, x4, x5, x6, x7, t0, rfl, e0, hp0, ht0⟩
      have hi12 : i < 12 := hi
      refine ⟨_, rfl, e, 60, t0, rfl, by omega, by omega, hp0, by omega, fun r1 t1 H1 a1 a2 e1 hp1 ht1 _ => ?_⟩
      refine ⟨_, _, rfl, rfl, _, rfl, e, 4, t1, rfl, by omega, by omega, hp1, by omega, fun r2 t2 H2 b1 b2 e2 hp2 ht2 _ => ?_⟩
      refine ⟨_, _, rfl, rfl, Nat.le_of_ble_eq_true rfl, fun tp np => ?_⟩
      generalize hU : upd H2 tp _ = H3
      obtain ⟨e3, htp⟩ := gen_up np hU
      clear hU
      have hp3 := Pen.mono e3 hp2
      have s03 : Same (wo e H) H3 := Same.trans (wo_up (Same.trans (wo_up e0) e1)) (Same.trans e2 e3)
      obtain ⟨cc, hcc, hccs⟩ : ∃ cc, Cells H3 e cc ∧ ∃ o, H3 cc = some o := by
        obtain ⟨c, l, ns, z1, z2, _⟩ := hp3
        exact ⟨c, ⟨_, _, z1⟩, _, z2⟩
      refine ⟨tp, _, rfl, tup_of htp, rfl, _, _, rfl, _, _, rfl, rfl, ?_⟩
      refine ⟨_, rfl, _, rfl, by omega, by omega, fun D hD => lc_range (ItemsAt K H3 e D cc t2 (1 + r1)) ?_ ?_ ?_⟩
      · have hp3' := Pen.new (o := .lst []) hp3 hD
        exact ⟨[], [], t2, Same.trans wo_le (Same.new hD), hp3', Cells.mono (Same.new hD) hcc, by omega, upd_same, .nil, rfl, fun c hc => absurd hc List.not_mem_nil⟩
      · rintro j H4 hj ⟨ys, cs, t4, e4, hp4, ce4, ht4, hy, hyp, hcl, hbd⟩
        have hj6 : j < 6 := by omega
        have hDe : D ≠ e := hp4.ne hy (fun _ z => nomatch z)
        have hDc : D ≠ cc := by
          obtain ⟨o, ho⟩ := hccs
          intro z
          rw [← z, hD] at ho
          cases ho
        refine turn_yes rfl ?_
        refine ⟨_, rfl, _, rfl, _, _, rfl, rfl, .inl ⟨by omega, by omega⟩, _, _, rfl, rfl, e, _, t4, rfl, by omega, by omega, hp4, by omega, fun g1 t5 H5 c0 c1 e5 hp5 ht5 ce5 => ?_⟩
        have hy5 : H5 D = some (.lst ys) := e5 _ _ (by rw [wo_ne hDe]; exact hy)
        refine ⟨_, rfl, _, _, rfl, rfl, ?_⟩
        refine ⟨_, rfl, _, rfl, _, _, rfl, rfl, .inl ⟨by omega, by omega⟩, _, _, rfl, rfl, e, _, t5, rfl, by omega, by omega, hp5, by omega, fun g2 t6 H6 f0 f1 e6 hp6 ht6 ce6 => ?_⟩
        have hy6 : H6 D = some (.lst ys) := e6 _ _ (by rw [wo_ne hDe]; exact hy5)
        refine ⟨_, rfl, _, _, rfl, rfl, Nat.le_of_ble_eq_true rfl, fun z nz => ?_⟩
        generalize hU : upd H6 z _ = H7
        obtain ⟨e7, hz⟩ := gen_up nz hU
        clear hU
        have hy7 := e7 _ _ hy6
        have hp7 := Pen.mono e7 hp6
        have hyp4 : PtV K H4 ys cs := PtV.mono wo_le hyp
        have hyp7 : PtV K H7 ys cs := PtV.mono e7 (PtV.mono e6 (hp5.ptV (PtV.mono e5 (hp4.ptV hyp4))))
        have gd : wo e H3 D = none := by
          unfold wo
          rw [if_neg hDe]
          exact hD
        refine ⟨ys, hy7, szL (by rw [pair_len hyp]; omega), ys ++ [.ref z], cs ++ [(g1 - (1 + r1), g2 - (1 + r1))], t6, ?_, ?_, ?_, by omega, upd_same, ?_, by rw [List.length_append, hcl]; rfl, fun c hc => ?_⟩
        · exact Same.mut (Same.trans (wo_up (Same.trans (wo_up (Same.trans (wo_up e4) e5)) e6)) (Same.trans wo_le e7)) gd
        · exact pen_upd hp7 (Cells.mono e7 (ce6 _ (ce5 _ ce4))) hDe hDc
        · exact Cells.upd (Cells.mono e7 (ce6 _ (ce5 _ ce4))) hDe
        · rw [wo_upd]
          exact pair_app (Paired.mapP hyp7 fun _ _ h => ti_lst hy7 h) (.cons (ti_lst hy7 ⟨z, rfl, tup_of hz⟩) .nil)
        · rcases List.mem_append.mp hc with hc | hc
          · exact hbd c hc
          · have ec : c = (g1 - (1 + r1), g2 - (1 + r1)) := by simpa using hc
            rw [ec]
            exact ⟨⟨by show -(1 + r1) ≤ g1 - (1 + r1); omega, by show g1 - (1 + r1) ≤ 1 + r1; omega⟩, by show -(1 + r1) ≤ g2 - (1 + r1); omega, by show g2 - (1 + r1) ≤ 1 + r1; omega⟩
      · rintro H4 ⟨ys, cs, t4, e4, hp4, ce4, ht4, hy, hyp, hcl, hbd⟩
        have hc6 : 3 ≤ cs.length ∧ cs.length ≤ 6 := by omega
        have ht4' : t4 ≤ t0 + 14 := by omega
        have s04 : Same (wo e H) H4 := Same.trans (wo_up s03) e4
        have bd : Bd cs := fun c hc => by have := hbd c hc; omega
        have hyp4 : PtV K H4 ys cs := PtV.mono wo_le hyp
        clear hyp hbd e4 hcl ht4 ce4 hcc hccs hp3 htp hp2 hp1 e1 e2 e3 s03 hD hp0
        have hl := pair_len hyp4
        obtain ⟨v0, g0, ⟨q0, eq0, hq0⟩⟩ := pair_get' hyp4 (List.getElem?_eq_getElem (show 0 < cs.length by omega))
        subst eq0
        have h0 : cs[0]? = some cs[0] := List.getElem?_eq_getElem (by omega)
        have hv := halves h0
        generalize cs[0] = c0 at *
        have b0 := bd c0 (List.mem_of_getElem? h0)
        -- the upper half
        refine ⟨_, rfl, D, rfl, ⟨ys, lst_of hy⟩, fun D5 hD5 => lc_filter (cs := cs) (upP c0) H4 (Same.refl H4) hD5 (lst_of hy) hyp4 (by omega) (fun j x c H5 hx hc hxc e5 Q' R h1 h2 => ?_) (fun us H5 e5 hu hup hul => ?_)⟩
        · obtain ⟨q, rfl, hq⟩ := hxc
          have hq5 := sqT e5 hq
          have hq05 := sqT e5 hq0
          have hy5 : SqL K H5 D ys := sqL e5 (lst_of hy)
          refine ⟨rfl, ?_⟩
          refine ⟨_, rfl, q, _, _, _, rfl, rfl, hq5, rfl, _, rfl, D, ys, _, .ref q0, rfl, rfl, hy5, at_of (j := 0) rfl g0, q0, _, _, _, rfl, rfl, hq05, rfl, _, _, rfl, rfl, _, rfl, ite2D (fun z1 => ?_) (fun z1 => ?_)⟩
          · refine iteT ⟨_, rfl, h1 ?_ _ (Same.refl _)⟩
            unfold upP; exact decide_eq_true (.inl z1)
          · refine ⟨_, rfl, q, _, _, _, rfl, rfl, hq5, rfl, _, rfl, D, ys, _, .ref q0, rfl, rfl, hy5, at_of (j := 0) rfl g0, q0, _, _, _, rfl, rfl, hq05, rfl, rfl, _, rfl, ite2D (fun z2 => ?_) (fun z2 => ?_)⟩
            · have z2' : c.2 = c0.2 := V.int.inj z2
              refine ⟨_, rfl, q, _, _, _, rfl, rfl, hq5, rfl, _, rfl, D, ys, _, .ref q0, rfl, rfl, hy5, at_of (j := 0) rfl g0, q0, _, _, _, rfl, rfl, hq05, rfl, _, _, rfl, rfl, _, rfl, ite2D (fun z3 => ?_) (fun z3 => ?_)⟩
              · refine ⟨_, rfl, h1 ?_ _ (Same.refl _)⟩
                unfold upP; exact decide_eq_true (.inr ⟨z2', z3⟩)
              · refine h2 ?_ _ (Same.refl _)
                unfold upP; exact decide_eq_false (by omega)
            · have z2' : ¬ c.2 = c0.2 := fun z => z2 (by rw [z])
              refine iteF (h2 ?_ _ (Same.refl _))
              unfold upP; exact decide_eq_false (by omega)
        -- the rest
        have e45 := e5
        have hy5 := e45 _ _ hy
        have hup5 : PtV K H5 us (cs.filter (upP c0)) := PtV.mono e45 hup
        refine ⟨_, rfl, D, rfl, ⟨ys, lst_of hy5⟩, fun D6 hD6 => lc_filter (cs := cs) (loP (cs.filter (upP c0)) c0) H5 (Same.refl H5) hD6 (lst_of hy5) (PtV.mono e45 hyp4) (by omega) (fun j x c H6 hx hc hxc e6 Q' R h1 h2 => ?_) (fun ls H6 e6 hlo hlp hll => ?_)⟩
        · refine ⟨rfl, ?_⟩
          refine ⟨_, rfl, _, rfl, ptD c, _, dp_pt (TI.mono e6 hxc), dp_ptl ⟨us, sqL e6 (lst_of hu), PtV.mono e6 hup5⟩, ptD_shaped c, ptDs_shaped _, _, rfl, ?_⟩
          rw [any_pt]
          by_cases z1 : c ∈ cs.filter (upP c0)
          · refine iteNS z1 (iteF (h2 ?_ _ (Same.refl _)))
            unfold loP; rw [decide_eq_true z1]; rfl
          · refine iteNT z1 ?_
            refine ⟨_, rfl, _, rfl, D, ys, _, .ref q0, rfl, rfl, sqL e6 (lst_of hy5), at_of (j := 0) rfl g0, ptD c, ptD c0, dp_pt (TI.mono e6 hxc), dp_pt ⟨q0, rfl, sqT (Same.trans e45 e6) hq0⟩, ptD_shaped c, ptD_shaped c0, _, rfl, ?_⟩
            rw [ptD_eqv]
            by_cases z2 : c = c0
            · refine iteNS z2 (h2 ?_ _ (Same.refl _))
              unfold loP; rw [decide_eq_true z2, Bool.not_true, Bool.and_false]
            · refine iteNT z2 ⟨_, rfl, h1 ?_ _ (Same.refl _)⟩
              unfold loP; rw [decide_eq_false z1, decide_eq_false z2]; rfl
        -- joined
        have e46 := Same.trans e45 e6
        have hy6 := e46 _ _ hy
        have hq06 := sqT e46 hq0
        have hup6 : PtV K H6 us (cs.filter (upP c0)) := PtV.mono e6 hup5
        have hlp6 : PtV K H6 ls (cs.filter (loP (cs.filter (upP c0)) c0)) := PtV.mono e6 hlp
        have memU : ∀ c ∈ cs.filter (upP c0), c ∈ cs := fun c hc => (List.mem_filter.mp hc).1
        have memL : ∀ c ∈ cs.filter (loP (cs.filter (upP c0)) c0), c ∈ cs := fun c hc => (List.mem_filter.mp hc).1
        generalize cs.filter (loP (cs.filter (upP c0)) c0) = lc0 at *
        generalize cs.filter (upP c0) = uc0 at *
        have bdm : ∀ xs : List Pt, (∀ c ∈ xs, c ∈ cs) → Bd (c0 :: xs) := fun xs hx c hc => by
          rcases List.mem_cons.mp hc with e | hc
          · rw [e]; exact b0
          · exact bd c (hx c hc)
        refine ⟨_, rfl, D, ys, _, .ref q0, rfl, rfl, lst_of hy6, at_of (j := 0) rfl g0, Nat.le_of_ble_eq_true rfl, fun p1 np1 => ?_⟩
        generalize hU : upd H6 p1 _ = H7
        obtain ⟨e7, hp1⟩ := gen_up np1 hU
        clear hU
        have e47 := Same.trans e46 e7
        refine ⟨_, rfl, D, ys, _, .ref q0, rfl, rfl, lst_of (e7 _ _ hy6), at_of (j := 0) rfl g0, _, rfl, ?_⟩
        refine ⟨_, D5, c0, uc0, rfl, ⟨q0, rfl, sqT e47 hq0⟩, ⟨us, sqL (Same.trans e6 e7) (lst_of hu), PtV.mono e7 hup6⟩, bdm _ memU, by omega, fun pu H8 us2 e8 hpu hul2 hum => ?_⟩
        obtain ⟨uvs, hpu1, hpu2⟩ := hpu
        have lu := pair_len hpu2
        refine ⟨p1, pu, _, _, rfl, rfl, e8 _ _ hp1, hpu1, ?_, fun p2 np2 => ?_⟩
        · show 1 + uvs.length ≤ sizeLine
          exact Nat.le_trans (show _ ≤ 1000 by omega) (by decide)
        generalize hU : upd H8 p2 _ = H9
        obtain ⟨e9, hp2⟩ := gen_up np2 hU
        clear hU
        have e49 := Same.trans e47 (Same.trans e8 e9)
        refine ⟨_, rfl, D, ys, _, .ref q0, rfl, rfl, sqL e49 (lst_of hy), at_of (j := 0) rfl g0, _, rfl, ?_⟩
        have e69 := Same.trans e7 (Same.trans e8 e9)
        refine ⟨_, D6, c0, lc0, rfl, ⟨q0, rfl, sqT e49 hq0⟩, ⟨ls, sqL e69 (lst_of hlo), PtV.mono e69 hlp6⟩, bdm _ memL, by omega, fun pl H10 ls2 e10 hpl hll2 hlm => ?_⟩
        obtain ⟨lvs, hpl1, hpl2⟩ := hpl
        have ll := pair_len hpl2
        refine ⟨p2, pl, _, _, rfl, rfl, e10 _ _ hp2, hpl1, ?_, fun p3 np3 => ?_⟩
        · rw [List.length_append]
          show 1 + uvs.length + lvs.length ≤ sizeLine
          exact Nat.le_trans (show _ ≤ 1000 by omega) (by decide)
        generalize hU : upd H10 p3 _ = H11
        obtain ⟨e11, hp3⟩ := gen_up np3 hU
        clear hU
        have e4b := Same.trans e49 (Same.trans e10 e11)
        have hcs3 : PtV K H11 (([.ref q0] ++ uvs) ++ lvs) (([c0] ++ us2) ++ ls2) := pair_app (pair_app (.cons ⟨q0, rfl, sqT e4b hq0⟩ .nil) (PtV.mono (Same.trans e9 (Same.trans e10 e11)) hpu2)) (PtV.mono e11 hpl2)
        have mem3 : ∀ c ∈ ([c0] ++ us2) ++ ls2, c ∈ cs := fun c hc => by
          rcases List.mem_append.mp hc with hc | hc
          · rcases List.mem_append.mp hc with hc | hc
            · have : c = c0 := by simpa using hc
              rw [this]; exact List.mem_of_getElem? h0
            · exact memU c (hum c hc)
          · exact memL c (hlm c hc)
        have len3 : (([c0] ++ us2) ++ ls2).length ≤ 6 := by
          rw [List.length_append, List.length_append, List.length_singleton]; omega
        generalize ([c0] ++ us2) ++ ls2 = cs3 at *
        have hl3 := pair_len hcs3
        have hL3 : ∀ H', Same H11 H' → PtL K H' p3 cs3 := fun H' e' => ⟨_, lst_of (e' _ _ hp3), PtV.mono e' hcs3⟩
        have hpb := Pen.mono e4b hp4
        have s4b := Same.trans s04 e4b
        refine ⟨_, rfl, _, _, rfl, .inl (lst_of hp3), _, _, rfl, rfl, _, rfl, ite2D (fun z1 => ?_) (fun z1 => ?_)⟩
        · refine ⟨_, rfl, p3, cs3, rfl, hL3 _ (Same.refl _), fun c hc => bd c (mem3 c hc), by omega, by omega, fun b H12 e12 hb => ?_⟩
          refine ⟨_, rfl, ?_⟩
          cases b with
          | false => exact iteF ⟨_, _, _, _, _, _, _, t4, rfl, Same.trans s4b e12, Pen.mono e12 hpb, by omega⟩
          | true =>
            have cv := hb rfl
            refine iteT ⟨_, rfl, p3, cs3, rfl, hL3 _ e12, List.length_pos_iff.mp (by omega), by omega, fun pr H13 j e13 nr hj hmin hr => ?_⟩
            have hpc := Pen.mono (Same.trans e12 e13) hpb
            refine k pr H13 t4 _ (Same.trans s4b (Same.trans e12 e13)) hpc (by omega) (hpc.ptL hr) ⟨conv_rot hj cv, fun c hc => ?_, ?_, lex_rot hj hmin⟩
            · rcases List.mem_append.mp hc with hc | hc
              · exact bd c (mem3 c (List.mem_of_mem_drop hc))
              · exact bd c (mem3 c (List.mem_of_mem_take hc))
            · rw [List.length_append, List.length_drop, List.length_take]; omega
        · exact iteF ⟨_, _, _, _, _, _, _, t4, rfl, s4b, hpb, by omega⟩
    · rintro σ H0 ⟨x1, x2, x3, x4, x5, x6, x7, t0, rfl, e0, hp0, ht0⟩
      have h12 : (((12 : Int).toNat : Nat) : Int) = 12 := rfl
      refine ⟨_, rfl, e, t0, rfl, hp0, by omega, fun p H1 t1 cs e1 hp1 ht1 hL g => k p H1 t1 cs (Same.trans (wo_up e0) e1) hp1 (by omega) hL g⟩
end
end KP

set_option Elab.async false
set_option linter.all false
set_option maxRecDepth 100000
set_option maxHeartbeats 1000000
namespace KP
open PySem PySem.Spec PyProof.Rows L2 KM
/-! ### steps of a reading -/
local macro_rules | `(tactic| walk_at "lift") => `(tactic| first
  | assumption
  | exact tup_of (by assumption)
  | exact lst_of (by assumption)
  | (refine sqT (by assumption) ?_; walk_at "lift")
  | (refine sqL (by assumption) ?_; walk_at "lift")
  | (refine TI.mono (by assumption) ?_; walk_at "lift")
  | (refine PtL.mono (by assumption) ?_; walk_at "lift")
  | (refine PtV.mono (by assumption) ?_; walk_at "lift")
  | (refine PolyAt.mono (by assumption) ?_; walk_at "lift"))
local macro_rules | `(tactic| walk_at "cond") => `(tactic| first
  | (refine (id ?_ : (_ : Prop)); omega)
  | (refine And.intro ?_ ?_ <;> omega)
  | (refine Or.inl (And.intro ?_ ?_) <;> omega)
  | (refine Or.inr (And.intro ?_ ?_) <;> omega)
  | (refine And.intro ?_ (And.intro ?_ ?_) <;> first | omega | decide))
local macro_rules | `(tactic| walk_at "new") => `(tactic| (intro p np; generalize hU : upd _ p _ = H3; have hU2 := gen_up np hU; clear hU; obtain ⟨e3, h3⟩ := hU2))
local macro_rules | `(tactic| walk_at "step") => `(tactic| first
  | (refine ⟨_, _, rfl, rfl, ?c, ?_⟩; (case c => walk_at "cond"))
  | refine ⟨_, _, rfl, rfl, ?_⟩
  | (refine ⟨_, ?xs, _, ?v, rfl, rfl, ?a, ?b, ?_⟩; (case a => walk_at "lift"); (case b => rfl))
  | refine ⟨_, rfl, ?_⟩
  | (refine ⟨_, _, rfl, Or.inl ?a, ?_⟩; (case a => walk_at "lift"))
  | (refine ⟨_, _, rfl, Or.inr ?a, ?_⟩; (case a => walk_at "lift"))
  | (refine ⟨szT (Nat.le_of_ble_eq_true rfl), ?_⟩; walk_at "new"))
local macro_rules | `(tactic| walk_at "go") => `(tactic| repeat walk_at "step")
/-! ### _law_stuck: what it makes of the lambda it is handed -/
theorem takes_len {X : Cx} {W : WX} (t : Takes X W) : Takes X (fun cls d σ H => σ.length = X.N.length → W cls d σ H) := fun u s' ⟨a, B, sI, pins, σ, H, cls, d, e, I, nb, up, sky, na, os, ag, w⟩ =>
  t u s' ⟨a, B, sI, pins, σ, H, cls, d, e, I, nb, up, sky, na, os, ag, w I.len⟩
/-- try: a() / except Undefined as e: return e.steps == 0; return False -/
def TTStuck (CU : Addr) : (XK → Hp → VK → Prop) → Hp → VK → Prop := fun tl H Q =>
  tl (fun cls d H' => cls = .ref CU ∧ ∃ dd, d = some dd ∧ H' dd = some (.xd [(("steps" : Str), .int 0)]) ∧ Q (.bl true) H') H fun _ H' => Q (.bl false) H'
theorem sc__law_stuck : FnScope ["_law_asked", "_law_e"] ["_law_asked"] (defScope s__law_stuck) := ⟨rfl, rfl, rfl, by decide +kernel, rfl, by decide +kernel, by decide +kernel⟩
theorem stuck_gives {X : Cx} {CU fU g : Addr} {cdg : Value} {q : Str} (TU : PySem.UndX.UndT X.K X.mg CU fU) : LamX.GivesTo X ["_law_asked", "_law_e"] "_law_stuck" (defScope s__law_stuck) g cdg (defBody s__law_stuck) "_law_asked" q (TTStuck CU) := by
  intro f c' s H Q tl act hc h
  have hgl : Gl (cxOf C8.CX0 X.prog X.w X.K X.mg X.base ["_law_asked", "_law_e"] "_law_stuck" (defScope s__law_stuck) g cdg X.A X.stack s H C8.E0).nox "Undefined" := rfl
  refine ⟨_, pss_cons (ps_try_as (X := (cxOf C8.CX0 X.prog X.w X.K X.mg X.base ["_law_asked", "_law_e"] "_law_stuck" (defScope s__law_stuck) g cdg X.A X.stack s H C8.E0).nox) (i := 1) (c := .ref CU)
      (tb := fun W D σ H => ∃ Ech : XK, (∀ cls d σ' H', Ech cls d H' → σ'.length = 2 → W cls d σ' H') ∧ σ[0]? = some (some (.ref f)) ∧ H c' = some (LamX.CodeO c' q) ∧ tl Ech H (fun _ H' => D.nx σ H'))
      rfl rfl sc__law_stuck.nd rfl rfl ⟨hgl, rfl, .inl TU.gC⟩ LamX.takes0 (fun W pn xe tk _ => ?_) (fun a oe cls d pn hz hf => pss_one (ps_ret (pe_cmpR op_eq (pe_steps TU hz hf (pv 1)) pe_int (nomark _))))) (pss_one (ps_ret pe_bl)), ?_⟩
  · refine ⟨fun pins s' σ H' D I h' => ?_⟩
    obtain ⟨Ech, hW, h1, h2, h3⟩ := h'
    have hp := act _ pn xe Ech ⟨266, 8, 266, 18⟩ ⟨266, 8, 266, 20⟩ (takes_len tk) (fun cls d σ' H' z hl => hW cls d σ' H' z hl)
    have hq := pss_one (ps_expr (pos := ⟨266, 8, 266, 20⟩) hp)
    exact hq.run pins s' σ H' D I ⟨h1, h2, h3⟩
  · refine ⟨_, fun cls d σ' H' hz hl => ?_, rfl, hc, h⟩
    obtain ⟨rfl, dd, rfl, hdd, hQ⟩ := hz
    refine ⟨true, TU.te, fun _ a ha => ?_, fun z => (nomatch z)⟩
    refine ⟨.ref a, ?_, rfl, rfl, dd, .int 0, rfl, hdd, rfl, hQ⟩
    rw [List.getElem?_set, if_pos rfl, if_pos (by omega)]
end KP

set_option Elab.async false
set_option linter.all false
set_option maxRecDepth 100000
set_option maxHeartbeats 1000000
namespace KP
open PySem PySem.Spec PyProof.Rows L2 KM
/-! ### plain: points near an edge's line; when no tangent stands -/
theorem sd_hom (cs : List Pt) (x y d g : Int) (i : Nat) : g * sd cs (x, y) d i = sd cs (g * x, g * y) (g * d) i := by
  unfold sd cr; grind
theorem dt_bd {a b : Pt} (ha : (-120 ≤ a.1 ∧ a.1 ≤ 120) ∧ (-120 ≤ a.2 ∧ a.2 ≤ 120)) (hb : (-120 ≤ b.1 ∧ b.1 ≤ 120) ∧ (-120 ≤ b.2 ∧ b.2 ≤ 120)) : -28800 ≤ dt a b ∧ dt a b ≤ 28800 := by
  have m : ∀ a b : Int, (-120 ≤ a ∧ a ≤ 120) → (-120 ≤ b ∧ b ≤ 120) → -14400 ≤ a * b ∧ a * b ≤ 14400 := fun a b ha hb => by
    have h1 := Int.mul_nonneg (show 0 ≤ 120 - a by omega) (show 0 ≤ 120 + b by omega)
    have h2 := Int.mul_nonneg (show 0 ≤ 120 + a by omega) (show 0 ≤ 120 - b by omega)
    have h3 := Int.mul_nonneg (show 0 ≤ 120 - a by omega) (show 0 ≤ 120 - b by omega)
    have h4 := Int.mul_nonneg (show 0 ≤ 120 + a by omega) (show 0 ≤ 120 + b by omega)
    have e1 : (120 - a) * (120 + b) + (120 + a) * (120 - b) = 28800 - 2 * (a * b) := by grind
    have e2 : (120 - a) * (120 - b) + (120 + a) * (120 + b) = 28800 + 2 * (a * b) := by grind
    omega
  have h1 := m a.1 b.1 ha.1 hb.1
  have h2 := m a.2 b.2 ha.2 hb.2
  unfold dt; omega
theorem ed_bd' {cs : List Pt} (hne : 0 < cs.length) (B : Bd cs) (k : Nat) : (-120 ≤ (ed cs k).1 ∧ (ed cs k).1 ≤ 120) ∧ (-120 ≤ (ed cs k).2 ∧ (ed cs k).2 ≤ 120) := by
  have h1 := B _ (List.mem_of_getElem? (vt_some hne k))
  have h2 := B _ (List.mem_of_getElem? (vt_some hne (k + 1)))
  unfold ed df
  exact ⟨⟨by show -120 ≤ _ - _; omega, by show _ - _ ≤ (120 : Int); omega⟩, by show -120 ≤ _ - _; omega, by show _ - _ ≤ (120 : Int); omega⟩
/-- signs about edge i -/
structure Sides (cs : List Pt) (x y d s : Int) (i : Nat) (u : Int) : Prop where
  prev : 0 < u * sd cs (x, y) d (i + (cs.length - 1))
  next : 0 < - u * sd cs (x, y) d (i + 1)
  on : ∃ c, 0 < c ∧ ∃ g, 0 < g ∧ g * sd cs (x, y) d i = s * c
theorem s_mul {s D : Int} (hs : s = 0 ∨ s = 1 ∨ s = -1) (hD : -28800 ≤ D ∧ D ≤ 28800) : -28800 ≤ s * D ∧ s * D ≤ 28800 := by
  rcases hs with h | h | h <;> rw [h] <;> omega
theorem big_mul {t c : Int} (ht : 1 ≤ t) (hc : 1 ≤ c) : 1 ≤ t * c := by
  have := Int.mul_pos (show 0 < t by omega) (show 0 < c by omega)
  omega
theorem pos_g {g z : Int} (hg : 0 < g) (h : 0 < g * z) : 0 < z := pos_of_mul hg h
theorem near_before {cs : List Pt} (C : Conv cs) (B : Bd cs) (i : Nat) {d t s x y d' g : Int} (hd : 1 ≤ d) (ht : 1 ≤ t) (hs : s = 0 ∨ s = 1 ∨ s = -1) (hg : 0 < g)
    (ex : ((vt cs i).1 * d - t * (ed cs i).1) * 50000 - s * (ed cs i).2 = g * x) (ey : ((vt cs i).2 * d - t * (ed cs i).2) * 50000 + s * (ed cs i).1 = g * y) (edd : d * 50000 = g * d') : Sides cs x y d' s i (-1) := by
  have hp : 0 < cs.length := by have := C.len; omega
  have hb := back_ix (i := i) hp
  have eW : ed cs (i + (cs.length - 1) + 1) = ed cs i := ed_mod cs _ _ hb
  have eV : vt cs (i + (cs.length - 1) + 1) = vt cs i := vt_mod cs _ _ hb
  have T1 := C.turn (i + (cs.length - 1))
  rw [eW] at T1
  have T2 := C.turn i
  have N := ed_pos C i
  have D1 := s_mul hs (dt_bd (ed_bd' hp B (i + (cs.length - 1))) (ed_bd' hp B i))
  have D2 := s_mul hs (dt_bd (ed_bd' hp B (i + 1)) (ed_bd' hp B i))
  have M1 := big_mul ht (show 1 ≤ cr (ed cs (i + (cs.length - 1))) (ed cs i) by omega)
  have M2 := big_mul (show 1 ≤ t + d by omega) (show 1 ≤ cr (ed cs i) (ed cs (i + 1)) by omega)
  have h1 : g * sd cs (x, y) d' (i + (cs.length - 1)) = -(50000 * (t * cr (ed cs (i + (cs.length - 1))) (ed cs i))) + s * dt (ed cs (i + (cs.length - 1))) (ed cs i) := by
    rw [sd_hom, sd_prev, eV, ← ex, ← ey, ← edd]
    unfold cr dt; grind
  have h2 : g * sd cs (x, y) d' (i + 1) = 50000 * ((t + d) * cr (ed cs i) (ed cs (i + 1))) + s * dt (ed cs (i + 1)) (ed cs i) := by
    rw [sd_hom, ← ex, ← ey, ← edd]
    have e1 : (vt cs (i + 1)).1 = (vt cs i).1 + (ed cs i).1 := by unfold ed df; grind
    have e2 : (vt cs (i + 1)).2 = (vt cs i).2 + (ed cs i).2 := by unfold ed df; grind
    unfold sd
    rw [e1, e2]
    unfold cr dt; grind
  have h3 : g * sd cs (x, y) d' i = s * nn (ed cs i) := by
    rw [sd_hom, ← ex, ← ey, ← edd]
    unfold sd cr nn; grind
  refine ⟨?_, ?_, nn (ed cs i), N, g, hg, h3⟩
  · have z : 0 < g * (-1 * sd cs (x, y) d' (i + (cs.length - 1))) := by
      have : g * (-1 * sd cs (x, y) d' (i + (cs.length - 1))) = -(g * sd cs (x, y) d' (i + (cs.length - 1))) := by grind
      rw [this, h1]; omega
    exact pos_g hg z
  · have z : 0 < g * (- -1 * sd cs (x, y) d' (i + 1)) := by
      have : g * (- -1 * sd cs (x, y) d' (i + 1)) = g * sd cs (x, y) d' (i + 1) := by grind
      rw [this, h2]; omega
    exact pos_g hg z
theorem near_beyond {cs : List Pt} (C : Conv cs) (B : Bd cs) (i : Nat) {d t s x y d' g : Int} (hd : 1 ≤ d) (ht : 1 ≤ t) (hs : s = 0 ∨ s = 1 ∨ s = -1) (hg : 0 < g)
    (ex : ((vt cs (i + 1)).1 * d + t * (ed cs i).1) * 50000 - s * (ed cs i).2 = g * x) (ey : ((vt cs (i + 1)).2 * d + t * (ed cs i).2) * 50000 + s * (ed cs i).1 = g * y) (edd : d * 50000 = g * d') : Sides cs x y d' s i 1 := by
  have hp : 0 < cs.length := by have := C.len; omega
  have hb := back_ix (i := i) hp
  have eW : ed cs (i + (cs.length - 1) + 1) = ed cs i := ed_mod cs _ _ hb
  have eV : vt cs (i + (cs.length - 1) + 1) = vt cs i := vt_mod cs _ _ hb
  have T1 := C.turn (i + (cs.length - 1))
  rw [eW] at T1
  have T2 := C.turn i
  have N := ed_pos C i
  have D1 := s_mul hs (dt_bd (ed_bd' hp B (i + (cs.length - 1))) (ed_bd' hp B i))
  have D2 := s_mul hs (dt_bd (ed_bd' hp B (i + 1)) (ed_bd' hp B i))
  have M1 := big_mul (show 1 ≤ t + d by omega) (show 1 ≤ cr (ed cs (i + (cs.length - 1))) (ed cs i) by omega)
  have M2 := big_mul ht (show 1 ≤ cr (ed cs i) (ed cs (i + 1)) by omega)
  have e1 : (vt cs (i + 1)).1 = (vt cs i).1 + (ed cs i).1 := by unfold ed df; grind
  have e2 : (vt cs (i + 1)).2 = (vt cs i).2 + (ed cs i).2 := by unfold ed df; grind
  have h1 : g * sd cs (x, y) d' (i + (cs.length - 1)) = 50000 * ((t + d) * cr (ed cs (i + (cs.length - 1))) (ed cs i)) + s * dt (ed cs (i + (cs.length - 1))) (ed cs i) := by
    rw [sd_hom, sd_prev, eV, ← ex, ← ey, ← edd, e1, e2]
    unfold cr dt; grind
  have h2 : g * sd cs (x, y) d' (i + 1) = -(50000 * (t * cr (ed cs i) (ed cs (i + 1)))) + s * dt (ed cs (i + 1)) (ed cs i) := by
    rw [sd_hom, ← ex, ← ey, ← edd]
    unfold sd cr dt; grind
  have h3 : g * sd cs (x, y) d' i = s * nn (ed cs i) := by
    rw [sd_hom, ← ex, ← ey, ← edd, e1, e2]
    unfold sd cr nn; grind
  refine ⟨?_, ?_, nn (ed cs i), N, g, hg, h3⟩
  · have z : 0 < g * (1 * sd cs (x, y) d' (i + (cs.length - 1))) := by
      rw [Int.one_mul, h1]; omega
    exact pos_g hg z
  · have z : 0 < g * (-1 * sd cs (x, y) d' (i + 1)) := by
      have : g * (-1 * sd cs (x, y) d' (i + 1)) = -(g * sd cs (x, y) d' (i + 1)) := by grind
      rw [this, h2]; omega
    exact pos_g hg z
/-- no tangent vertex, just where p is before an edge's start -/
theorem tan_iff {cs : List Pt} (C : Conv cs) {x y d : Int} (hd : 0 < d) {j m : Nat} (hj : sd cs (x, y) d j < 0) (hm : 0 < sd cs (x, y) d m) : (∀ i, i < cs.length → ¬ TanAt cs x y d i) ↔ Before cs x y d := by
  have hp : 0 < cs.length := by have := C.len; omega
  constructor
  · intro h
    refine Classical.byContradiction fun hb => ?_
    obtain ⟨i, h1, h2⟩ := tan_exists C hj hm (fun k hk ha => hb ⟨k % cs.length, Nat.mod_lt _ hp, by rw [sd_mod cs _ _ _ k (Nat.mod_mod _ _)]; exact hk, by rw [al_mod cs _ _ _ k (Nat.mod_mod _ _)]; exact ha⟩)
    refine h ((i + 1) % cs.length) (Nat.mod_lt _ hp) ⟨?_, ?_⟩
    · rw [sd_mod cs _ _ _ i (by rw [Nat.mod_add_mod, show i + 1 + (cs.length - 1) = i + cs.length by omega, Nat.add_mod_right])]; exact h1
    · rw [sd_mod cs _ _ _ (i + 1) (Nat.mod_mod _ _)]; exact h2
  · rintro ⟨k, hk, h1, h2⟩ i hi ⟨t1, t2⟩
    refine tan_no_before C hd t1 ?_ k h1 h2
    rw [sd_mod cs _ _ _ i (back_ix hp)]; exact t2
theorem back_iff {cs : List Pt} (C : Conv cs) {x y d : Int} (hd : 0 < d) {j m : Nat} (hj : sd cs (x, y) d j < 0) (hm : 0 < sd cs (x, y) d m) : (∀ i, i < cs.length → ¬ BackAt cs x y d i) ↔ Beyond cs x y d := by
  have hp : 0 < cs.length := by have := C.len; omega
  constructor
  · intro h
    refine Classical.byContradiction fun hb => ?_
    obtain ⟨i, h1, h2⟩ := back_exists C hj hm (fun k hk ha => hb ⟨k % cs.length, Nat.mod_lt _ hp, by rw [sd_mod cs _ _ _ k (Nat.mod_mod _ _)]; exact hk, by rw [al_mod cs _ _ _ k (Nat.mod_mod _ _), ed_mod cs _ k (Nat.mod_mod _ _)]; exact ha⟩)
    refine h ((i + 1) % cs.length) (Nat.mod_lt _ hp) ⟨?_, ?_⟩
    · rw [sd_mod cs _ _ _ (i + 1) (Nat.mod_mod _ _)]; exact h2
    · rw [sd_mod cs _ _ _ i (by rw [Nat.mod_add_mod, show i + 1 + (cs.length - 1) = i + cs.length by omega, Nat.add_mod_right])]; exact h1
  · rintro ⟨k, hk, h1, h2⟩ i hi ⟨t1, t2⟩
    refine back_no_beyond C hd t2 ?_ k h1 h2
    rw [sd_mod cs _ _ _ i (back_ix hp)]; exact t1
/-- the place is a point in form -/
theorem place_good {x y d s g x' y' d' : Int} {w : Pt} (hs : s = 0 ∨ s = 1 ∨ s = -1) (hw : (-120 ≤ w.1 ∧ w.1 ≤ 120) ∧ (-120 ≤ w.2 ∧ w.2 ≤ 120)) (hx : -(10 ^ 23) ≤ x ∧ x ≤ 10 ^ 23) (hy : -(10 ^ 23) ≤ y ∧ y ≤ 10 ^ 23) (hd : 1 ≤ d ∧ d ≤ 9) (hg : 0 < g)
    (ex : x * 50000 - s * w.2 = g * x') (ey : y * 50000 + s * w.1 = g * y') (edd : d * 50000 = g * d') (h1 : Int.gcd (Int.gcd x' y') d' = 1) : GoodP x' y' d' := by
  have b : ∀ z M : Int, -M ≤ g * z → g * z ≤ M → -M ≤ z ∧ z ≤ M := fun z M h h' => by
    by_cases c : 0 ≤ z
    · have := Int.mul_le_mul_of_nonneg_right (show 1 ≤ g by omega) c
      omega
    · have := Int.mul_le_mul_of_nonneg_right (show 1 ≤ g by omega) (show 0 ≤ -z by omega)
      rw [show g * -z = -(g * z) from Int.mul_neg ..] at this
      omega
  have pd : 0 < d' := pos_g hg (by omega)
  have bd := b d' 450000 (by omega) (by omega)
  have w1 : -120 ≤ s * w.1 ∧ s * w.1 ≤ 120 := by rcases hs with h | h | h <;> rw [h] <;> omega
  have w2 : -120 ≤ s * w.2 ∧ s * w.2 ≤ 120 := by rcases hs with h | h | h <;> rw [h] <;> omega
  have bx := b x' (10 ^ 30) (by omega) (by omega)
  have by_ := b y' (10 ^ 30) (by omega) (by omega)
  exact ⟨by omega, by omega, h1, by omega, by omega, by omega, by omega⟩
theorem told_pos {cs : List Pt} (C : Conv cs) (B : Bd cs) {k : Nat} {d t x y d' g : Int} (hd : 1 ≤ d) (ht : 1 ≤ t) (hg : 0 < g)
    (ex : ((vt cs (k + (cs.length - 1))).1 * d - t * (ed cs (k + (cs.length - 1))).1) * 50000 - 1 * (ed cs (k + (cs.length - 1))).2 = g * x)
    (ey : ((vt cs (k + (cs.length - 1))).2 * d - t * (ed cs (k + (cs.length - 1))).2) * 50000 + 1 * (ed cs (k + (cs.length - 1))).1 = g * y) (edd : d * 50000 = g * d') :
    TanAt cs x y d' ((k + (cs.length - 1)) % cs.length) ∧ ∀ i, i < cs.length → TanAt cs x y d' i → i = (k + (cs.length - 1)) % cs.length := by
  have hp : 0 < cs.length := by have := C.len; omega
  have pd : 0 < d' := pos_g hg (by omega)
  have S := near_before C B (k + (cs.length - 1)) hd ht (.inr (.inl rfl)) hg ex ey edd
  have a1 : sd cs (x, y) d' (k + (cs.length - 1) + (cs.length - 1)) < 0 := by have := S.prev; omega
  have a2 : 0 < sd cs (x, y) d' (k + (cs.length - 1)) := by
    obtain ⟨c, c1, g1, g2, e⟩ := S.on
    exact pos_g g2 (by omega)
  refine ⟨⟨?_, ?_⟩, fun i hi ⟨t1, t2⟩ => ?_⟩
  · rw [sd_mod cs _ _ _ (k + (cs.length - 1) + (cs.length - 1)) (Nat.mod_add_mod _ _ _)]; exact a1
  · rw [sd_mod cs _ _ _ (k + (cs.length - 1)) (Nat.mod_mod _ _)]; exact a2
  · have u := tan_unique C pd t1 (by rw [sd_mod cs _ _ _ i (back_ix hp)]; exact t2) a1 (by rw [sd_mod cs _ _ _ (k + (cs.length - 1)) (back_ix hp)]; exact a2)
    rw [back_ix hp, back_ix hp, Nat.mod_eq_of_lt hi] at u
    exact u
theorem told_neg {cs : List Pt} (C : Conv cs) (B : Bd cs) {k : Nat} (hk : k < cs.length) {d t x y d' g : Int} (hd : 1 ≤ d) (ht : 1 ≤ t) (hg : 0 < g)
    (ex : ((vt cs (k + (cs.length - 1))).1 * d - t * (ed cs (k + (cs.length - 1))).1) * 50000 - (-1) * (ed cs (k + (cs.length - 1))).2 = g * x)
    (ey : ((vt cs (k + (cs.length - 1))).2 * d - t * (ed cs (k + (cs.length - 1))).2) * 50000 + (-1) * (ed cs (k + (cs.length - 1))).1 = g * y) (edd : d * 50000 = g * d') :
    TanAt cs x y d' k ∧ ∀ i, i < cs.length → TanAt cs x y d' i → i = k := by
  have hp : 0 < cs.length := by have := C.len; omega
  have pd : 0 < d' := pos_g hg (by omega)
  have S := near_before C B (k + (cs.length - 1)) hd ht (.inr (.inr rfl)) hg ex ey edd
  have a1 : 0 < sd cs (x, y) d' (k + (cs.length - 1) + 1) := by have := S.next; omega
  have a2 : sd cs (x, y) d' (k + (cs.length - 1)) < 0 := by
    obtain ⟨c, c1, g1, g2, e⟩ := S.on
    exact neg_of_mul g2 (by omega)
  refine ⟨⟨a2, ?_⟩, fun i hi ⟨t1, t2⟩ => ?_⟩
  · rw [← sd_mod cs _ _ _ k (back_ix hp)]; exact a1
  · have u := tan_unique C pd t1 (by rw [sd_mod cs _ _ _ i (back_ix hp)]; exact t2) a2 a1
    rw [back_ix hp, back_ix hp, Nat.mod_eq_of_lt hi, Nat.mod_eq_of_lt hk] at u
    exact u
end KP

set_option Elab.async false
set_option linter.all false
set_option maxRecDepth 100000
set_option maxHeartbeats 1000000
namespace KP
open PySem PySem.Spec PyProof.Rows L2 KM
/-! ### steps of a reading -/
local macro_rules | `(tactic| walk_at "lift") => `(tactic| first
  | assumption
  | exact tup_of (by assumption)
  | exact lst_of (by assumption)
  | (refine sqT (by assumption) ?_; walk_at "lift")
  | (refine sqL (by assumption) ?_; walk_at "lift")
  | (refine TI.mono (by assumption) ?_; walk_at "lift")
  | (refine PtL.mono (by assumption) ?_; walk_at "lift")
  | (refine PtV.mono (by assumption) ?_; walk_at "lift")
  | (refine PolyAt.mono (by assumption) ?_; walk_at "lift"))
local macro_rules | `(tactic| walk_at "cond") => `(tactic| first
  | (refine (id ?_ : (_ : Prop)); omega)
  | (refine And.intro ?_ ?_ <;> omega)
  | (refine Or.inl (And.intro ?_ ?_) <;> omega)
  | (refine Or.inr (And.intro ?_ ?_) <;> omega)
  | (refine And.intro ?_ (And.intro ?_ ?_) <;> first | omega | decide))
local macro_rules | `(tactic| walk_at "new") => `(tactic| (intro p np; generalize hU : upd _ p _ = H3; have hU2 := gen_up np hU; clear hU; obtain ⟨e3, h3⟩ := hU2))
local macro_rules | `(tactic| walk_at "step") => `(tactic| first
  | (refine ⟨_, _, rfl, rfl, ?c, ?_⟩; (case c => walk_at "cond"))
  | refine ⟨_, _, rfl, rfl, ?_⟩
  | (refine ⟨_, ?xs, _, ?v, rfl, rfl, ?a, ?b, ?_⟩; (case a => walk_at "lift"); (case b => rfl))
  | refine ⟨_, rfl, ?_⟩
  | (refine ⟨_, _, rfl, Or.inl ?a, ?_⟩; (case a => walk_at "lift"))
  | (refine ⟨_, _, rfl, Or.inr ?a, ?_⟩; (case a => walk_at "lift"))
  | (refine ⟨szT (Nat.le_of_ble_eq_true rfl), ?_⟩; walk_at "new"))
local macro_rules | `(tactic| walk_at "go") => `(tactic| repeat walk_at "step")
/-! ### the law's inner check -/
/-- the code object of _law_side_right, and its table -/
abbrev cSR (K : PySem.W.Frag) : Addr × Addr := He.cT K ("_law_side_right", none)
abbrev qSR : Str := "_law_side_right.<locals>.<lambda>"
abbrev TSR (K : PySem.W.Frag) : List (Addr × Str) := [((cSR K).2, qSR)]
section
variable {P : Program} {w : World} {K : PySem.W.Frag} {mg : Str → Option Value} {base : Heap} {C : Addr}
/-- a def that lets nothing out, its code object known -/
theorem mkCT {x : Str} {st : Stmt} {N ps : List Str} {k : Nat} {sp : Sp} (D : DefT K mg x st ps) (S : FnScope N ps (defScope st)) (len : ∀ vs H Q E, sp vs H Q E → vs.length = ps.length)
    (hbody : ∀ (cdv : Value) (A : Around) (outer : List Env) (s : Shared) (H : Hp) (vs : List V) (Q : VK) (E : XK), cdv = .ref (He.cT K (x, none)).1 → Room k (A.deeper (envOfC x (defScope st) s.heap.objs.size (He.ga K x) cdv)) → sp vs H Q E →
      ∃ t, PSs (cxOf C8.CX0 P w K mg base N x (defScope st) (He.ga K x) cdv A outer s H E).nox (defBody st) t ∧ t { nx := fun _ H' => Q .non H', rt := Q } (start N vs) H) : C8.Cal P w K mg base (k + 1) x sp [] := by
  obtain ⟨fd, F, b⟩ := D.ex
  have kp := F.kp
  obtain ⟨oc, od, dV, kV, doc, pm, an, cdv, ct, osl, e, lk, hcd, _, _⟩ := F.ex
  subst e
  obtain ⟨c, hc⟩ := He.codeIn_ref hcd
  have ec : He.codeOf K (x, none) = c := He.codeOf_eq (p := (x, none)) lk hc
  refine ⟨_, _, ps, [], fn_of lk hcd S len (fun A outer s H vs Q E hr h => ?_), D.g, kp, b, .nil⟩
  obtain ⟨t, h1, h2⟩ := hbody cdv A outer s H vs Q E (by rw [hc, ← ec]; rfl) hr h
  exact ⟨t, h1.nox, h2⟩
/-- _law_stuck(lambda: body) -/
theorem pe_stuck {X : Cx} {CU fU c Pt : Addr} {q : Str} {k : Nat} {params : Arguments} {body : Expr} {scope : Scope} {t : XK → TE} {p lpos pos : Pos} (TU : PySem.UndX.UndT X.K X.mg CU fU) (DS : DefT X.K X.mg "_law_stuck" s__law_stuck ["_law_asked"])
    (TB : LamX.TabB X.base X.mg c Pt) (hcode : X.env.code = .ref c) (hq : X.env.qual ++ "<lambda>" = q) (hr : Room (k + 2) X.A) (L : LamX.LamS X.env.scope scope) (hdef : defaultsOf params X.env = ([], []))
    (hbind : ∀ (q : Str) (cl : List (Str × Addr)) (pm cv ctv : Value), bindArgs (PySem.W.kla_fn "<lambda>" q params body scope cl pm cv ctv) ⟨[], []⟩ = pure [])
    (hbody : ∀ (A : Around) (outer : List Env) (s : Shared) (H : Hp) (E : XK) (f c' : Addr), Room k (A.deeper (LamX.lamEnv X scope s.heap.objs.size f c')) → PE (LamX.lamCx X A outer s H E scope f c') body (t E)) (hg : Gl X "_law_stuck" := by rfl) :
    PE X (.Call (.Name "_law_stuck" p) [.Lambda params body scope lpos] [] pos) (LamX.tLam [(Pt, q)] (TTStuck CU) t) := by
  obtain ⟨fd, F, b⟩ := DS.ex
  have kp := F.kp
  obtain ⟨oc, od, dV, kV, doc, pm, an, cdv, ct, osl, e, lk, hcd, _, _⟩ := F.ex
  subst e
  refine LamX.pe_lamcall (T := [(Pt, q)]) (c := c) (P := Pt) (k := k) hg DS.g kp lk hcd b sc__law_stuck rfl (Or.inl rfl) (stuck_gives TU) TB hcode ?_ ?_ hr L hdef hbind hbody
  · rw [hq]; exact List.mem_singleton.mpr rfl
  · intro z hz _
    rw [List.mem_singleton.mp hz, hq]
/-! ### what a grown table leaves standing -/
theorem ext_rd {H H' : Hp} {a : Addr} {u : HO} (e : LamX.ExtN H H') (hu : ∀ ps, u ≠ .tbl ps) (h : Rd H a u) : Rd H' a u := by
  rcases h with h | ⟨o, h⟩
  · exact .inl (e _ _ h hu)
  · exact .inr ⟨o, e _ _ h (fun _ z => nomatch z)⟩
theorem ext_sqL {H H' : Hp} {a : Addr} {xs : List V} (e : LamX.ExtN H H') (h : SqL K H a xs) : SqL K H' a xs := by
  rcases h with h | h
  · exact .inl (ext_rd e (fun _ z => nomatch z) h)
  · exact .inr h
theorem ext_sqT {H H' : Hp} {a : Addr} {xs : List V} (e : LamX.ExtN H H') (h : SqT K H a xs) : SqT K H' a xs := by
  rcases h with h | h
  · exact .inl (ext_rd e (fun _ z => nomatch z) h)
  · exact .inr h
theorem ext_ti {H H' : Hp} {v : V} {ns : List Int} (e : LamX.ExtN H H') (h : TI K H v ns) : TI K H' v ns := by
  obtain ⟨p, q, r⟩ := h
  exact ⟨p, q, ext_sqT e r⟩
theorem ext_ptL {H H' : Hp} {a : Addr} {cs : List Pt} (e : LamX.ExtN H H') (h : PtL K H a cs) : PtL K H' a cs := by
  obtain ⟨vs, q, r⟩ := h
  exact ⟨vs, ext_sqL e q, Paired.mapP r fun _ _ z => ext_ti e z⟩
theorem ext_poly {H H' : Hp} {v : V} {cs : List Pt} (e : LamX.ExtN H H') (h : PolyAt K C H v cs) : PolyAt K C H' v cs := by
  obtain ⟨a, dx, l, h1, h2, h3⟩ := h
  exact ⟨a, dx, l, h1, e _ _ h2 (fun _ z => nomatch z), ext_ptL e h3⟩
theorem ext_same {H H1 H2 : Hp} (e : LamX.ExtN H H1) (s : Same H1 H2) : LamX.ExtN H H2 := e.trans (LamX.ExtN.of s)
/-- _law_stuck(lambda: f(shape, place)): stuck just where no place of the kind R stands -/
theorem stuck_check {CU Pt0 : Addr} {q : Str} {R : List Pt → Int → Int → Int → Nat → Prop} {σ : L2.St} {H : Hp} {Q : VK} {v pl : V} {cs : List Pt} {x y d : Int} {b : Bool} {j : Nat} (h0 : σ[0]? = some (some v)) (h15 : σ[15]? = some (some pl)) (hT : LamX.Tabs [(Pt0, q)] H) (hY : PolyAt K C H v cs) (hn : cs.length ≤ 6) (B : Bd cs) (ht : TI K H pl [x, y, d]) (g : GoodP x y d) (ho : Outs cs x y d)
    (hb : (∀ i, i < cs.length → ¬ R cs x y d i) ↔ b = true) (k : ∀ H', LamX.ExtN H H' → LamX.Tabs [(Pt0, q)] H' → Q (.bl b) H') : LamX.tLam [(Pt0, q)] (TTStuck CU) (fun E => tCall (spReflect K C CU R) [] E (tCons (tVar 0) (tCons (tVar 15) tNil))) σ H Q := by
  refine ⟨hT, fun H1 e1 T1 => ?_⟩
  refine ⟨v, h0, pl, h15, v, pl, cs, x, y, d, rfl, ext_poly e1 hY, hn, B, ext_ti e1 ht, g, ho, fun hno dd H2 e2 hdd => ?_, fun H2 v2 i e2 hi hR => ?_⟩
  · refine ⟨rfl, dd, rfl, hdd, ?_⟩
    have hb' := hb.mp hno
    rw [← hb']
    exact k H2 (ext_same e1 e2) (T1.ext e2)
  · have hb' : b = false := by
      cases b with
      | false => rfl
      | true => exact absurd hR (hb.mpr rfl i hi)
    rw [← hb']
    exact k H2 (ext_same e1 e2) (T1.ext e2)
theorem stuck_checkT {CU Pt0 : Addr} {q : Str} {σ : L2.St} {H : Hp} {Q : VK} {v pl : V} {cs : List Pt} {x y d : Int} {b : Bool} (h0 : σ[0]? = some (some v)) (h15 : σ[15]? = some (some pl)) (hT : LamX.Tabs [(Pt0, q)] H) (hY : PolyAt K C H v cs) (hn : cs.length ≤ 6) (B : Bd cs) (ht : TI K H pl [x, y, d]) (g : GoodP x y d) (ho : Outs cs x y d)
    (hb : (∀ i, i < cs.length → ¬ TanAt cs x y d i) ↔ b = true) (k : ∀ H', LamX.ExtN H H' → LamX.Tabs [(Pt0, q)] H' → Q (.bl b) H') : LamX.tLam [(Pt0, q)] (TTStuck CU) (fun E => tCall (spTangent K C CU) [] E (tCons (tVar 0) (tCons (tVar 15) tNil))) σ H Q := by
  refine ⟨hT, fun H1 e1 T1 => ?_⟩
  refine ⟨v, h0, pl, h15, v, pl, cs, x, y, d, rfl, ext_poly e1 hY, hn, B, ext_ti e1 ht, g, ho, fun hno dd H2 e2 hdd => ?_, fun H2 i e2 hi hR => ?_⟩
  · refine ⟨rfl, dd, rfl, hdd, ?_⟩
    have hb' := hb.mp hno
    rw [← hb']
    exact k H2 (ext_same e1 e2) (T1.ext e2)
  · have hb' : b = false := by
      cases b with
      | false => rfl
      | true => exact absurd hR (hb.mpr rfl i hi)
    rw [← hb']
    exact k H2 (ext_same e1 e2) (T1.ext e2)
theorem ifne_seq {a b : TE} {A B r : TS} {D : Ends} {σ : L2.St} {H : Hp} (h : a σ H fun x H1 => b σ H1 fun y H2 => rNe x y H2 fun z H3 => ∃ k, z = .bl k ∧ if k = true then A { D with nx := r D } σ H3 else B { D with nx := r D } σ H3) : tSeq (tIfS (tTest (tOp rNe a b)) A B) r D σ H := h
theorem ifne_last {a b : TE} {A B : TS} {D : Ends} {σ : L2.St} {H : Hp} (h : a σ H fun x H1 => b σ H1 fun y H2 => rNe x y H2 fun z H3 => ∃ k, z = .bl k ∧ if k = true then A D σ H3 else B D σ H3) : tIfS (tTest (tOp rNe a b)) A B D σ H := h
/-- a place beside the point (X, Y) over d: in form, outside, and the rays tell whether a tangent stands -/
def PlaceOk (cs : List Pt) (W : Pt) (d X Y : Int) : Prop := ∀ (s g x y d' : Int), (s = 0 ∨ s = 1 ∨ s = -1) → 0 < g → X * 50000 - s * W.2 = g * x → Y * 50000 + s * W.1 = g * y → d * 50000 = g * d' → Int.gcd (Int.gcd x y) d' = 1 →
  GoodP x y d' ∧ Outs cs x y d' ∧ ((∀ i, i < cs.length → ¬ TanAt cs x y d' i) ↔ Before cs x y d') ∧ ((∀ i, i < cs.length → ¬ BackAt cs x y d' i) ↔ Beyond cs x y d')
theorem outs_of {cs : List Pt} {x y d : Int} {j : Nat} (hp : 0 < cs.length) (h : sd cs (x, y) d j < 0) : Outs cs x y d := ⟨j % cs.length, Nat.mod_lt _ hp, by rw [sd_mod cs _ _ _ j (Nat.mod_mod _ _)]; exact h⟩
theorem far_bd {a w d t : Int} (ha : -60 ≤ a ∧ a ≤ 60) (hw : -120 ≤ w ∧ w ≤ 120) (hd : 1 ≤ d ∧ d ≤ 9) (ht : 1 ≤ t ∧ t ≤ 10 ^ 20) : (-(10 ^ 23) ≤ a * d - t * w ∧ a * d - t * w ≤ 10 ^ 23) ∧ (-(10 ^ 23) ≤ a * d + t * w ∧ a * d + t * w ≤ 10 ^ 23) := by
  have h1 := mul_bd (a := a) (b := d) (A := 60) (B := 9) ha (by omega)
  have h2 := mul_bd (a := t) (b := w) (A := 10 ^ 20) (B := 120) (by omega) hw
  omega
theorem place_before {cs : List Pt} (C : Conv cs) (B : Bd cs) (i : Nat) {d t : Int} (hd : 1 ≤ d ∧ d ≤ 9) (ht : 1 ≤ t ∧ t ≤ 10 ^ 20) : PlaceOk cs (ed cs i) d ((vt cs i).1 * d - t * (ed cs i).1) ((vt cs i).2 * d - t * (ed cs i).2) := by
  intro s g x y d' hs hg ex ey edd h1
  have hp : 0 < cs.length := by have := C.len; omega
  have S := near_before C B i hd.1 ht.1 hs hg ex ey edd
  have bw := ed_bd' hp B i
  have bv := B _ (List.mem_of_getElem? (vt_some hp i))
  have G := place_good hs bw (far_bd bv.1 bw.1 hd ht).1 (far_bd bv.2 bw.2 hd ht).1 hd hg ex ey edd h1
  have j1 : sd cs (x, y) d' (i + (cs.length - 1)) < 0 := by have := S.prev; omega
  have j2 : 0 < sd cs (x, y) d' (i + 1) := by have := S.next; omega
  have pd := G.pos
  exact ⟨G, outs_of hp j1, tan_iff C (by omega) j1 j2, back_iff C (by omega) j1 j2⟩
theorem place_beyond {cs : List Pt} (C : Conv cs) (B : Bd cs) (i : Nat) {d t : Int} (hd : 1 ≤ d ∧ d ≤ 9) (ht : 1 ≤ t ∧ t ≤ 10 ^ 20) : PlaceOk cs (ed cs i) d ((vt cs (i + 1)).1 * d + t * (ed cs i).1) ((vt cs (i + 1)).2 * d + t * (ed cs i).2) := by
  intro s g x y d' hs hg ex ey edd h1
  have hp : 0 < cs.length := by have := C.len; omega
  have S := near_beyond C B i hd.1 ht.1 hs hg ex ey edd
  have bw := ed_bd' hp B i
  have bv := B _ (List.mem_of_getElem? (vt_some hp (i + 1)))
  have G := place_good hs bw (far_bd bv.1 bw.1 hd ht).2 (far_bd bv.2 bw.2 hd ht).2 hd hg ex ey edd h1
  have j1 : sd cs (x, y) d' (i + 1) < 0 := by have := S.next; omega
  have j2 : 0 < sd cs (x, y) d' (i + (cs.length - 1)) := by have := S.prev; omega
  have pd := G.pos
  exact ⟨G, outs_of hp j1, tan_iff C (by omega) j1 j2, back_iff C (by omega) j1 j2⟩
theorem sc__law_side_right : FnScope ["_law_shape_here", "_law_corners", "_law_k", "_law_d", "_law_t", "_law_a", "_law_b", "_law_way", "_law_behind_it", "_law_x", "_law_y", "_law_side", "_law_behind", "_law_beyond", "_law_told", "_law_place"] ["_law_shape_here", "_law_corners", "_law_k", "_law_d", "_law_t"] (defScope s__law_side_right) := ⟨rfl, rfl, rfl, by decide +kernel, rfl, by decide +kernel, by decide +kernel⟩
theorem ok_sideRight {CU fU : Addr} (T : Txt K mg) (TU : PySem.UndX.UndT K mg CU fU) (DS : DefT K mg "_law_stuck" s__law_stuck ["_law_asked"]) (TB : LamX.TabB base mg (cSR K).1 (cSR K).2) (D : DefT K mg "_law_side_right" s__law_side_right ["_law_shape_here", "_law_corners", "_law_k", "_law_d", "_law_t"])
    (c__law_beside : C8.Cal P w K mg base 3 "_law_beside" (spBeside K) []) (c__law_rays : C8.Cal P w K mg base 2 "_law_rays" (spRays K) []) (c_reflect : CalX P w K mg base 7 "reflect" (spReflect K C CU TanAt)) (c_reflect_back : CalX P w K mg base 7 "reflect_back" (spReflect K C CU BackAt)) (c_tangent_vertex : CalX P w K mg base 7 "tangent_vertex" (spTangent K C CU)) :
    C8.Cal P w K mg base 10 "_law_side_right" (spSide K C (TSR K)) [] := by
  refine mkCT D sc__law_side_right (fun vs H Q E h => ?_) (fun cdv A outer s H vs Q E hcd hr h => ?_)
  · obtain ⟨_, _, _, _, _, _, rfl, _⟩ := h; rfl
  · obtain ⟨v, a, k, d, t, cs, rfl, hY, hL, g, hk, ⟨d1, d2⟩, ⟨t1, t2⟩, hT, kk⟩ := h
    refine ⟨_, (pss_cons (ps_par (i := 5) (j := 6) (by rfl) sc__law_side_right.nd rfl rfl (by decide) rfl rfl (pa_cons (pe_ix ix_list (pv 1) (pe_op op_sub (pv 2) pe_int) (fun _ _ => rfl)) (pa_cons (pe_ix ix_list (pv 1) (pv 2) (fun _ _ => rfl)) pa_nil)) (by rfl))
      (pss_cons (ps_set (i := 7) sc__law_side_right.nd rfl (Or.inr rfl) (pe_tup (pa_cons (pe_op op_sub (pe_ix ix_tup (pv 6) pe_int (fun _ _ => rfl)) (pe_ix ix_tup (pv 5) pe_int (fun _ _ => rfl))) (pa_cons (pe_op op_sub (pe_ix ix_tup (pv 6) pe_int (fun _ _ => rfl)) (pe_ix ix_tup (pv 5) pe_int (fun _ _ => rfl))) pa_nil))))
      (pss_cons (ps_set (i := 8) sc__law_side_right.nd rfl (Or.inr rfl) (pe_tup (pa_cons (pe_op op_sub (pe_op op_mul (pe_ix ix_tup (pv 5) pe_int (fun _ _ => rfl)) (pv 3)) (pe_op op_mul (pv 4) (pe_ix ix_tup (pv 7) pe_int (fun _ _ => rfl)))) (pa_cons (pe_op op_sub (pe_op op_mul (pe_ix ix_tup (pv 5) pe_int (fun _ _ => rfl)) (pv 3)) (pe_op op_mul (pv 4) (pe_ix ix_tup (pv 7) pe_int (fun _ _ => rfl)))) pa_nil))))
      (pss_cons (ps_for PassesOwn.never rfl (pi_list (pe_lst (pa_cons (pv 8) (pa_cons (pe_tup (pa_cons (pe_op op_add (pe_op op_mul (pe_ix ix_tup (pv 6) pe_int (fun _ _ => rfl)) (pv 3)) (pe_op op_mul (pv 4) (pe_ix ix_tup (pv 7) pe_int (fun _ _ => rfl)))) (pa_cons (pe_op op_add (pe_op op_mul (pe_ix ix_tup (pv 6) pe_int (fun _ _ => rfl)) (pv 3)) (pe_op op_mul (pv 4) (pe_ix ix_tup (pv 7) pe_int (fun _ _ => rfl)))) pa_nil))) pa_nil)))) (pg_tup rfl (pgs_cons (pg_name (i := 9) sc__law_side_right.nd rfl (Or.inl rfl)) (pgs_cons (pg_name (i := 10) sc__law_side_right.nd rfl (Or.inl rfl)) pgs_nil))) (pss_one (ps_for PassesOwn.never rfl (pi_tup (pe_tup (pa_cons pe_int (pa_cons pe_int (pa_cons (pe_un un_neg pe_int) pa_nil))))) (pg_name (i := 11) sc__law_side_right.nd rfl (Or.inl rfl)) (pss_cons (ps_set (i := 15) sc__law_side_right.nd rfl (Or.inr rfl) (C8.pe_c c__law_beside hr (by decide) rfl (pa_cons (pv 9) (pa_cons (pv 10) (pa_cons (pv 3) (pa_cons (pv 7) (pa_cons (pv 11) pa_nil)))))))
      (pss_cons (ps_asg (C8.pe_c c__law_rays hr (by decide) rfl (pa_cons (pv 1) (pa_cons (pv 15) pa_nil))) (pg_tup rfl (pgs_cons (pg_name (i := 12) sc__law_side_right.nd rfl (Or.inl rfl)) (pgs_cons (pg_name (i := 13) sc__law_side_right.nd rfl (Or.inl rfl)) pgs_nil))))
      (pss_cons (ps_if (pt_cmpR op_ne (pe_stuck (q := qSR) TU DS TB hcd rfl hr (LamX.lamS_by (sc := defScope s__law_side_right) (by decide +kernel)) rfl (fun _ _ _ _ _ => rfl) (fun _ _ _ _ E _ _ hr2 => pe_cXE c_reflect hr2 (by decide) rfl (passes_call (takes_of rfl rfl rfl rfl) (fun _ _ _ _ z => z)) (pa_cons (pv 0) (pa_cons (pv 15) pa_nil)))) (pv 12) (nomark _)) (pss_one (ps_ret pe_bl)) pss_nil)
      (pss_cons (ps_if (pt_cmpR op_ne (pe_stuck (q := qSR) TU DS TB hcd rfl hr (LamX.lamS_by (sc := defScope s__law_side_right) (by decide +kernel)) rfl (fun _ _ _ _ _ => rfl) (fun _ _ _ _ E _ _ hr2 => pe_cXE c_tangent_vertex hr2 (by decide) rfl (passes_call (takes_of rfl rfl rfl rfl) (fun _ _ _ _ z => z)) (pa_cons (pv 0) (pa_cons (pv 15) pa_nil)))) (pv 12) (nomark _)) (pss_one (ps_ret pe_bl)) pss_nil)
      (pss_one (ps_if (pt_cmpR op_ne (pe_stuck (q := qSR) TU DS TB hcd rfl hr (LamX.lamS_by (sc := defScope s__law_side_right) (by decide +kernel)) rfl (fun _ _ _ _ _ => rfl) (fun _ _ _ _ E _ _ hr2 => pe_cXE c_reflect_back hr2 (by decide) rfl (passes_call (takes_of rfl rfl rfl rfl) (fun _ _ _ _ z => z)) (pa_cons (pv 0) (pa_cons (pv 15) pa_nil)))) (pv 13) (nomark _)) (pss_one (ps_ret pe_bl)) pss_nil)))))))))
      (pss_cons (ps_if (pt_cmpR op_gt (pv 4) pe_int (nomark _)) (pss_one (ps_ret pe_bl)) pss_nil)
      (pss_cons (ps_setLc (i := 14) (own := [("_law_side", 11)]) (g := gName 11) (tt := tYes) (by rfl) sc__law_side_right.nd rfl rfl (sw_true rfl rfl rfl (by decide +kernel)) (pi_tup (pe_tup (pa_cons pe_int (pa_cons (pe_un un_neg pe_int) pa_nil)))) (blkOk_by (own := [("_law_side", 11)]) (N := ["_law_shape_here", "_law_corners", "_law_k", "_law_d", "_law_t", "_law_a", "_law_b", "_law_way", "_law_behind_it", "_law_x", "_law_y", "_law_side", "_law_behind", "_law_beyond", "_law_told", "_law_place"]) (sc := defScope s__law_side_right) (by decide +kernel)) (fun _ _ _ _ _ => (pg_name (i := 11) sc__law_side_right.nd rfl (Or.inl rfl))) (fun _ _ _ _ _ => pts_nil) (fun _ _ _ _ _ => (pe_cX c_tangent_vertex hr (by decide) rfl (pa_cons (pv 0) (pa_cons (C8.pe_c c__law_beside hr (by decide) rfl (pa_cons (pe_ix (show IxR _ (rIxT K) from ix_tup) (pv 8) pe_int (fun _ _ => rfl)) (pa_cons (pe_ix (show IxR _ (rIxT K) from ix_tup) (pv 8) pe_int (fun _ _ => rfl)) (pa_cons (pv 3) (pa_cons (pv 7) (pa_cons (pv 11) pa_nil)))))) pa_nil)))))
      (pss_one (ps_ret (pe_cmpR (op_eqD hr.units) (pv 14) (pe_lst (pa_cons (pe_op op_mod (pe_op op_sub (pv 2) pe_int) (pe_callB call_len_seq (by rfl) T.f_len PySem.boot_len (pa_cons (pv 1) pa_nil))) (pa_cons (pv 2) pa_nil))) (nomark _)))))))))), ?_⟩
    obtain ⟨C0, B, hn, hmin⟩ := id g
    have hp0 : 0 < cs.length := by have := C0.len; omega
    have h3 := C0.len
    have hne : cs ≠ [] := List.length_pos_iff.mp hp0
    obtain ⟨vs, hs, hp⟩ := id hL
    have hl := pair_len hp
    obtain ⟨va, ga, ⟨qa, ea, ha⟩⟩ := vt_get hp hne (k + (cs.length - 1))
    obtain ⟨vb, gb, ⟨qb, eb, hb⟩⟩ := vt_get hp hne k
    subst ea eb
    rw [Nat.mod_eq_of_lt hk] at gb
    have hback : vt cs (k + (cs.length - 1) + 1) = vt cs k := vt_mod cs _ _ (back_ix hp0)
    have eW : ed cs (k + (cs.length - 1)) = ((vt cs k).1 - (vt cs (k + (cs.length - 1))).1, (vt cs k).2 - (vt cs (k + (cs.length - 1))).2) := by
      unfold ed; rw [hback]; rfl
    have Ba := B _ (vt_mem hne (k + (cs.length - 1)))
    have Bb := B _ (vt_mem hne k)
    have PB := place_before C0 B (k + (cs.length - 1)) ⟨d1, d2⟩ ⟨t1, t2⟩
    have PY := place_beyond C0 B (k + (cs.length - 1)) ⟨d1, d2⟩ ⟨t1, t2⟩
    have bw := ed_bd' hp0 B (k + (cs.length - 1))
    rw [hback] at PY
    refine ⟨_, rfl, _, rfl, _, _, rfl, rfl, a, vs, _, .ref qa, rfl, rfl, hs, at_prev (by omega) (by rw [hl]; exact ga), _, rfl, _, rfl, a, vs, _, .ref qb, rfl, rfl, hs, at_of (j := k) rfl gb, _, _, rfl, ?_⟩
    walk_at "go"
    rename_i pw nw H1 e1 hw pb nb H2 e2 hb2 pe ne H3 e3 he3 pl nl H4 e4 hl4
    have e34 := Same.trans e3 e4
    have e04 : Same H H4 := Same.trans e1 (Same.trans e2 e34)
    have iw : IsPt K H4 (.ref pw) (ed cs (k + (cs.length - 1))) := by rw [eW]; exact ⟨pw, rfl, tup_of (e34 _ _ (e2 _ _ hw))⟩
    have ib : IsPt K H4 (.ref pb) ((vt cs (k + (cs.length - 1))).1 * d - t * (ed cs (k + (cs.length - 1))).1, (vt cs (k + (cs.length - 1))).2 * d - t * (ed cs (k + (cs.length - 1))).2) := by rw [eW]; exact ⟨pb, rfl, tup_of (e34 _ _ hb2)⟩
    have ie : IsPt K H4 (.ref pe) ((vt cs k).1 * d + t * (ed cs (k + (cs.length - 1))).1, (vt cs k).2 * d + t * (ed cs (k + (cs.length - 1))).2) := by rw [eW]; exact ⟨pe, rfl, tup_of (e4 _ _ he3)⟩
    have hT4 : LamX.Tabs (TSR K) H4 := hT.ext e04
    have hY4 := PolyAt.mono e04 hY
    have hL4 := PtL.mono e04 hL
    refine ⟨⟨_, lst_of hl4⟩, for_list (xs := [.ref pb, .ref pe]) (fun j σ H' => ∃ (x9 x10 x11 x12 x13 x15 : Option V), σ = [some v, some (.ref a), some (.int (k : Nat)), some (.int d), some (.int t), some (.ref qa), some (.ref qb), some (.ref pw), some (.ref pb), x9, x10, x11, x12, x13, none, x15] ∧ LamX.ExtN H4 H' ∧ LamX.Tabs (TSR K) H')
      ⟨none, none, none, none, none, none, rfl, LamX.ExtN.refl _, hT4⟩ (fun j σ H' _ ⟨_, _, _, _, _, _, _, e, _⟩ => ext_sqL e (lst_of hl4)) ?_ ?_⟩
    · rintro j z σ H5 hz ⟨x9, x10, x11, x12, x13, x15, rfl, e5, T5⟩
      obtain ⟨X, Y, hzp, PO⟩ : ∃ X Y : Int, IsPt K H4 z (X, Y) ∧ PlaceOk cs (ed cs (k + (cs.length - 1))) d X Y := by
        have hm := List.mem_of_getElem? hz
        rcases List.mem_cons.mp hm with e | hm
        · rw [e]; exact ⟨_, _, ib, PB⟩
        · have e : z = .ref pe := by simpa using hm
          rw [e]; exact ⟨_, _, ie, PY⟩
      obtain ⟨qz, rfl, hqz⟩ := ext_ti e5 hzp
      refine ⟨qz, _, rfl, hqz, rfl, _, _, rfl, _, _, rfl, rfl, ?_⟩
      refine ⟨_, rfl, Nat.le_of_ble_eq_true rfl, fun ps nps => ?_⟩
      generalize hU : upd H5 ps _ = H6
      obtain ⟨e6, hps⟩ := gen_up nps hU
      clear hU
      have e46 := ext_same e5 e6
      refine ⟨_, rfl, ⟨_, tup_of hps⟩, for_tup (xs := [.int 0, .int 1, .int (-1)]) (fun i σ H' => ∃ (x11 x12 x13 x15 : Option V), σ = [some v, some (.ref a), some (.int (k : Nat)), some (.int d), some (.int t), some (.ref qa), some (.ref qb), some (.ref pw), some (.ref pb), some (.int X), some (.int Y), x11, x12, x13, none, x15] ∧ LamX.ExtN H6 H' ∧ LamX.Tabs (TSR K) H')
        ⟨x11, x12, x13, x15, rfl, LamX.ExtN.refl _, T5.ext e6⟩ (fun i σ H' _ ⟨_, _, _, _, _, e, _⟩ => ext_sqT e (tup_of hps)) ?_ ?_⟩
      · rintro i zs σ H7 hzs ⟨y11, y12, y13, y15, rfl, e7, T7⟩
        obtain ⟨sg, rfl, hsg⟩ : ∃ sg : Int, zs = .int sg ∧ (sg = 0 ∨ sg = 1 ∨ sg = -1) := by
          have hm := List.mem_of_getElem? hzs
          rcases List.mem_cons.mp hm with e | hm
          · exact ⟨0, e, .inl rfl⟩
          · rcases List.mem_cons.mp hm with e | hm
            · exact ⟨1, e, .inr (.inl rfl)⟩
            · have e : zs = .int (-1) := by simpa using hm
              exact ⟨-1, e, .inr (.inr rfl)⟩
        have e47 := e46.trans e7
        refine ⟨_, rfl, _, rfl, _, rfl, _, rfl, _, rfl, _, ed cs (k + (cs.length - 1)), X, Y, d, sg, rfl, ext_ti e47 iw, bw, by omega, by omega, fun v' H8 g0 x' y' d' e8 hg ex ey edd h1 ht8 => ?_⟩
        obtain ⟨G, O, i1, i2⟩ := PO sg g0 x' y' d' hsg hg ex ey edd h1
        have gt := G.top
        have gp := G.pos
        have e48 := ext_same e47 e8
        have T8 := T7.ext e8
        refine ⟨_, rfl, _, rfl, v', a, cs, x', y', d', rfl, ext_ptL e48 hL4, hne, B, hn, ht8, ⟨by omega, by omega⟩, fun p9 H9 b1 b2 e9 j1 j2 hp9 => ?_⟩
        have e49 := ext_same e48 e9
        have T9 := T8.ext e9
        have ht9 := TI.mono e9 ht8
        refine ⟨p9, _, rfl, hp9, rfl, _, _, rfl, _, _, rfl, rfl, ?_⟩
        refine ifne_seq (stuck_check (j := 0) rfl rfl T9 (ext_poly e49 hY4) hn B ht9 G O (i1.trans j1.symm) fun H10 e10 T10 => ?_)
        refine ⟨_, rfl, rfl, _, rfl, iteNS rfl ?_⟩
        refine ifne_seq (stuck_checkT rfl rfl T10 (ext_poly (e49.trans e10) hY4) hn B (ext_ti e10 ht9) G O (i1.trans j1.symm) fun H11 e11 T11 => ?_)
        refine ⟨_, rfl, rfl, _, rfl, iteNS rfl ?_⟩
        refine ifne_last (stuck_check (j := 0) rfl rfl T11 (ext_poly ((e49.trans e10).trans e11) hY4) hn B (ext_ti (e10.trans e11) ht9) G O (i2.trans j2.symm) fun H12 e12 T12 => ?_)
        refine ⟨_, rfl, rfl, _, rfl, iteNS rfl ?_⟩
        exact ⟨_, _, _, _, rfl, (((ext_same (ext_same e7 e8) e9).trans e10).trans e11).trans e12, T12⟩
      · rintro σ H7 ⟨y11, y12, y13, y15, rfl, e7, T7⟩
        exact ⟨_, _, _, _, _, _, rfl, e46.trans e7, T7⟩
    · rintro σ H5 ⟨x9, x10, x11, x12, x13, x15, rfl, e5, T5⟩
      have e05 : LamX.ExtN H H5 := (LamX.ExtN.of e04).trans e5
      refine ⟨_, rfl, _, _, rfl, rfl, _, rfl, ite2D (fun c1 => ?_) (fun c1 => ?_)⟩
      · exact kk _ e05 T5
      · refine ⟨_, rfl, Nat.le_of_ble_eq_true rfl, fun ps nps => ?_⟩
        generalize hU : upd H5 ps _ = H6
        obtain ⟨e6, hps⟩ := gen_up nps hU
        clear hU
        have e46 := ext_same e5 e6
        have iw6 := ext_ti e46 iw
        have ib6 := ti_ref (ext_ti e46 ib)
        have hY6 := ext_poly e46 hY4
        refine ⟨_, rfl, ⟨_, tup_of hps⟩, fun D hD => lc_mapT H6 (fun j y _ => y = .int (if j = 0 then (((k + (cs.length - 1)) % cs.length : Nat) : Int) else (k : Nat))) (fun _ _ _ _ h _ => h) (Same.refl H6) hD (tup_of hps) (Nat.le_of_ble_eq_true rfl) (fun j z H7 hz e7 Q' R hq _ => ?_) (fun ys H7 e7 hy hyl hb7 => ?_)⟩
        · have fin : ∀ (sg : Int) (i1 : Nat), z = .int sg → (-1 ≤ sg ∧ sg ≤ 1) → (∀ (g0 x' y' d' : Int), 0 < g0 → ((vt cs (k + (cs.length - 1))).1 * d - t * (ed cs (k + (cs.length - 1))).1) * 50000 - sg * (ed cs (k + (cs.length - 1))).2 = g0 * x' →
              ((vt cs (k + (cs.length - 1))).2 * d - t * (ed cs (k + (cs.length - 1))).2) * 50000 + sg * (ed cs (k + (cs.length - 1))).1 = g0 * y' → d * 50000 = g0 * d' → Int.gcd (Int.gcd x' y') d' = 1 →
              (GoodP x' y' d' ∧ Outs cs x' y' d') ∧ (∃ i, i < cs.length ∧ TanAt cs x' y' d' i) ∧ ∀ i, i < cs.length → TanAt cs x' y' d' i → i = i1) → ((if j = 0 then (((k + (cs.length - 1)) % cs.length : Nat) : Int) else (k : Nat)) = (i1 : Nat)) →
              LcTurn (gName 11) tYes (tCall (spTangent K C CU) [] L2.E0 (tCons (tVar 0) (tCons (tCall (spBeside K) [] C8.E0 (tCons (tOp (rIxT K) (tVar 8) (tC (V.int 0))) (tCons (tOp (rIxT K) (tVar 8) (tC (V.int 1))) (tCons (tVar 3) (tCons (tVar 7) (tCons (tVar 11) tNil)))))) tNil))) [11]
                [some v, some (.ref a), some (.int (k : Nat)), some (.int d), some (.int t), some (.ref qa), some (.ref qb), some (.ref pw), some (.ref pb), x9, x10, x11, x12, x13, none, x15] z H7 Q' R := by
            intro sg i1 ez hsg hpl hj
            subst ez
            refine turn_yes rfl ?_
            have ib7 := sqT e7 ib6
            refine ⟨_, rfl, _, rfl, pb, _, _, _, rfl, rfl, ib7, rfl, _, rfl, pb, _, _, _, rfl, rfl, ib7, rfl, _, rfl, _, rfl, _, rfl, ?_⟩
            refine ⟨_, ed cs (k + (cs.length - 1)), _, _, d, sg, rfl, TI.mono e7 iw6, bw, by omega, hsg, fun v' H8 g0 x' y' d' e8 hg ex ey edd h1 ht8 => ?_⟩
            obtain ⟨⟨G, O⟩, ⟨it, hit, hTt⟩, hu⟩ := hpl g0 x' y' d' hg ex ey edd h1
            refine ⟨v, v', cs, x', y', d', rfl, PolyAt.mono (Same.trans e7 e8) hY6, hn, B, ht8, G, O, fun hno => absurd hTt (hno it hit), fun H9 i e9 hi hR => ?_⟩
            refine hq _ _ (Same.trans e8 e9) ?_
            rw [hj, hu i hi hR]
          have hm : (j = 0 ∧ z = .int 1) ∨ (j = 1 ∧ z = .int (-1)) := by
            match j, hz with
            | 0, hz => exact .inl ⟨rfl, (Option.some.inj hz).symm⟩
            | 1, hz => exact .inr ⟨rfl, (Option.some.inj hz).symm⟩
            | j + 2, hz => simp at hz
          have mk : (k + (cs.length - 1)) % cs.length < cs.length := Nat.mod_lt _ hp0
          rcases hm with ⟨ej, ez⟩ | ⟨ej, ez⟩
          · refine fin 1 ((k + (cs.length - 1)) % cs.length) ez (by omega) (fun g0 x' y' d' hg ex ey edd h1 => ?_) (by rw [if_pos ej])
            obtain ⟨G, O, _, _⟩ := PB 1 g0 x' y' d' (.inr (.inl rfl)) hg ex ey edd h1
            obtain ⟨u1, u2⟩ := told_pos C0 B d1 t1 hg ex ey edd
            exact ⟨⟨G, O⟩, ⟨_, mk, u1⟩, u2⟩
          · refine fin (-1) k ez (by omega) (fun g0 x' y' d' hg ex ey edd h1 => ?_) (by rw [if_neg (by omega)])
            obtain ⟨G, O, _, _⟩ := PB (-1) g0 x' y' d' (.inr (.inr rfl)) hg ex ey edd h1
            obtain ⟨u1, u2⟩ := told_neg C0 B hk d1 t1 hg ex ey edd
            exact ⟨⟨G, O⟩, ⟨_, hk, u1⟩, u2⟩
        · have ey : ys = [.int (((k + (cs.length - 1)) % cs.length : Nat) : Int), .int (k : Nat)] := ints_rng (n := 2) (f := fun j => if j = 0 then (((k + (cs.length - 1)) % cs.length : Nat) : Int) else (k : Nat)) hyl hb7
          rw [ey] at hy
          have e47 := ext_same e46 e7
          have T7 : LamX.Tabs (TSR K) H7 := (T5.ext e6).ext e7
          refine ⟨_, rfl, _, rfl, _, _, rfl, rfl, _, rfl, _, _, rfl, .inl (ext_sqL e47 (sqL e04 hs)), _, _, rfl, rfl, by omega, _, rfl, Nat.le_of_ble_eq_true rfl, fun p8 np8 => ?_⟩
          generalize hU : upd H7 p8 _ = H8
          obtain ⟨e8, hp8⟩ := gen_up np8 hU
          clear hU
          have em : (((k : Nat) : Int) - 1) % ((vs.length : Nat) : Int) = (((k + (cs.length - 1)) % cs.length : Nat) : Int) := by
            rw [hl]; push_cast
            rw [show ((k : Int) + ((cs.length - 1 : Nat) : Int)) = ((k : Int) - 1) + (cs.length : Int) by omega, Int.add_emod_right]
          refine ⟨_, _, .lst (lst_of (e8 _ _ hy)) (.cons (.int _) (.cons (.int _) .nil)), .lst (lst_of hp8) (.cons (.int _) (.cons (.int _) .nil)), rfl, rfl, ?_⟩
          have kq := kk H8 ((LamX.ExtN.of e04).trans (ext_same e47 e8)) (T7.ext e8)
          have eq1 : PyData.eqv (.list [.int (((k + (cs.length - 1)) % cs.length : Nat) : Int), .int (k : Nat)]) (.list [.int ((((k : Nat) : Int) - 1) % ((vs.length : Nat) : Int)), .int (k : Nat)]) = true := by
            rw [em]
            simp [PyData.eqv, PyData.eqvAll]
          show Q (.bl (PyData.eqv (.list [.int (((k + (cs.length - 1)) % cs.length : Nat) : Int), .int (k : Nat)]) (.list [.int ((((k : Nat) : Int) - 1) % ((vs.length : Nat) : Int)), .int (k : Nat)]))) H8
          rw [eq1]
          exact kq
end
end KP

set_option Elab.async false
set_option linter.all false
set_option maxRecDepth 100000
set_option maxHeartbeats 1000000
namespace KP
open PySem PySem.Spec PyProof.Rows L2 KM
/-! ### steps of a reading -/
local macro_rules | `(tactic| walk_at "lift") => `(tactic| first
  | assumption
  | exact tup_of (by assumption)
  | exact lst_of (by assumption)
  | (refine sqT (by assumption) ?_; walk_at "lift")
  | (refine sqL (by assumption) ?_; walk_at "lift")
  | (refine TI.mono (by assumption) ?_; walk_at "lift")
  | (refine PtL.mono (by assumption) ?_; walk_at "lift")
  | (refine PtV.mono (by assumption) ?_; walk_at "lift")
  | (refine PolyAt.mono (by assumption) ?_; walk_at "lift"))
local macro_rules | `(tactic| walk_at "cond") => `(tactic| first
  | (refine (id ?_ : (_ : Prop)); omega)
  | (refine And.intro ?_ ?_ <;> omega)
  | (refine Or.inl (And.intro ?_ ?_) <;> omega)
  | (refine Or.inr (And.intro ?_ ?_) <;> omega)
  | (refine And.intro ?_ (And.intro ?_ ?_) <;> first | omega | decide))
local macro_rules | `(tactic| walk_at "new") => `(tactic| (intro p np; generalize hU : upd _ p _ = H3; have hU2 := gen_up np hU; clear hU; obtain ⟨e3, h3⟩ := hU2))
local macro_rules | `(tactic| walk_at "step") => `(tactic| first
  | (refine ⟨_, _, rfl, rfl, ?c, ?_⟩; (case c => walk_at "cond"))
  | refine ⟨_, _, rfl, rfl, ?_⟩
  | (refine ⟨_, ?xs, _, ?v, rfl, rfl, ?a, ?b, ?_⟩; (case a => walk_at "lift"); (case b => rfl))
  | refine ⟨_, rfl, ?_⟩
  | (refine ⟨_, _, rfl, Or.inl ?a, ?_⟩; (case a => walk_at "lift"))
  | (refine ⟨_, _, rfl, Or.inr ?a, ?_⟩; (case a => walk_at "lift"))
  | (refine ⟨szT (Nat.le_of_ble_eq_true rfl), ?_⟩; walk_at "new"))
local macro_rules | `(tactic| walk_at "go") => `(tactic| repeat walk_at "step")
section
variable {P : Program} {w : World} {K : PySem.W.Frag} {mg : Str → Option Value} {base : Heap} {C : Addr}
/-- the two makers of a shape -/
def ShapeFn (K : PySem.W.Frag) (f : Addr) : Prop := f = He.ga K "_law_shape" ∨ f = He.ga K "_law_any_shape"
theorem shapes_at (D1 : DefT K mg "_law_shape" s__law_shape ["_law_pen_here"]) (D2 : DefT K mg "_law_any_shape" s__law_any_shape ["_law_pen_here"]) (c1 : C8.Cal P w K mg base 5 "_law_shape" (spShape K) []) (c2 : C8.Cal P w K mg base 6 "_law_any_shape" (spAny K) []) :
    ∀ f, ShapeFn K f → C8.CalAt P w K mg base 6 f (spAny K) := by
  intro f hf
  rcases hf with e | e
  · obtain ⟨f', fd, ps, ds, F, hm, kp, b, d⟩ := c1.ex
    cases d
    have ef : f' = f := by
      rw [D1.g] at hm
      rw [e]
      exact (Value.ref.inj (Option.some.inj hm)).symm
    subst ef
    refine ⟨fd, ps, (F.mono (by decide)).imp (fun vs H Q E h => ?_), kp, b⟩
    obtain ⟨d, t, h1, h2, h3, h4⟩ := h
    exact ⟨d, t, h1, h2, by omega, fun p H' t' cs a1 a2 a3 a4 a5 => h4 p H' t' cs a1 a2 (by omega) a4 a5⟩
  · obtain ⟨f', fd, ps, ds, F, hm, kp, b, d⟩ := c2.ex
    cases d
    have ef : f' = f := by
      rw [D2.g] at hm
      rw [e]
      exact (Value.ref.inj (Option.some.inj hm)).symm
    subst ef
    exact ⟨fd, ps, F, kp, b⟩
/-! ### the pen, the tables -/
theorem Pen.ext {H H' : Hp} {d : Addr} {t : Int} (e : LamX.ExtN H H') (h : Pen H d t) : Pen H' d t := by
  obtain ⟨c, l, ns, h1, h2, h3⟩ := h
  exact ⟨c, l, ns, e _ _ h1 (fun _ z => nomatch z), e _ _ h2 (fun _ z => nomatch z), h3⟩
theorem Pen.tabs {H : Hp} {d : Addr} {t : Int} {T : List (Addr × Str)} (h : Pen H d t) (hT : LamX.Tabs T H) : LamX.Tabs T (wo d H) := by
  obtain ⟨c, l, ns, h1, _⟩ := h
  intro p hp
  obtain ⟨ps, a1, a2, a3⟩ := hT p hp
  refine ⟨ps, ?_, a2, fun pos cv hc => ?_⟩
  · rw [wo_ne (by intro z; rw [z, h1] at a1; cases a1)]; exact a1
  · obtain ⟨c0, e1, e2⟩ := a3 pos cv hc
    exact ⟨c0, e1, by rw [wo_ne (by intro z; rw [z, h1] at e2; cases e2)]; exact e2⟩
theorem Pen.poly {H : Hp} {d : Addr} {t : Int} {v : V} {cs : List Pt} (h : Pen H d t) (hY : PolyAt K C H v cs) : PolyAt K C (wo d H) v cs := by
  obtain ⟨a, dx, l, h1, h2, h3⟩ := hY
  refine ⟨a, dx, l, h1, ?_, h.ptL h3⟩
  rw [wo_ne (h.ne h2 (fun _ z => nomatch z))]; exact h2
theorem sc_law : FnScope ["_law_script", "_law_pen_here", "_law_turn", "_law_corners", "_law_shape_here", "_law_k", "_law_d", "_law_t"] ["_law_script"] (defScope s_law) := ⟨rfl, rfl, rfl, by decide +kernel, rfl, by decide +kernel, by decide +kernel⟩
theorem mkF {x : Str} {st : Stmt} {N ps : List Str} {k : Nat} {sp : Sp} {fd : FuncData} (F : FunD K x x (defArgs st) (defBody st) (defScope st) [] [] (He.ga K x) fd) (S : FnScope N ps (defScope st)) (len : ∀ vs H Q E, sp vs H Q E → vs.length = ps.length)
    (hbody : ∀ (cdv : Value) (A : Around) (outer : List Env) (s : Shared) (H : Hp) (vs : List V) (Q : VK) (E : XK), Room k (A.deeper (envOfC x (defScope st) s.heap.objs.size (He.ga K x) cdv)) → sp vs H Q E →
      ∃ t, PSs (cxOf C8.CX0 P w K mg base N x (defScope st) (He.ga K x) cdv A outer s H E).nox (defBody st) t ∧ t { nx := fun _ H' => Q .non H', rt := Q } (start N vs) H) : FnOk P w K mg base C8.CX0 (k + 1) (He.ga K x) fd ps sp :=
  F.ok S len fun cdv A outer s H vs Q E hr h => by
    obtain ⟨t, h1, h2⟩ := hbody cdv A outer s H vs Q E hr h
    exact ⟨t, h1.nox, h2⟩
theorem ok_law {fd : FuncData} (T : Txt K mg) (F : FunD K "law" "law" (defArgs s_law) (defBody s_law) (defScope s_law) [] [] (He.ga K "law") fd) (D_law_shape : DefT K mg "_law_shape" s__law_shape ["_law_pen_here"]) (D_law_any_shape : DefT K mg "_law_any_shape" s__law_any_shape ["_law_pen_here"])
    (A_shapes : ∀ f, ShapeFn K f → C8.CalAt P w K mg base 6 f (spAny K)) (c__law_pen : C8.Cal P w K mg base 1 "_law_pen" (spPen K) []) (c__law_draw : C8.Cal P w K mg base 1 "_law_draw" spDraw []) (c__law_pick : C8.Cal P w K mg base 2 "_law_pick" (spPick K) [])
    (c__law_great : C8.Cal P w K mg base 2 "_law_great" spGreat []) (c_Polygon : C8.Mak P w K mg base 5 "Polygon" C (spInit K C) []) (c__law_side_right : C8.Cal P w K mg base 10 "_law_side_right" (spSide K C (TSR K)) []) : FnOk P w K mg base C8.CX0 11 (He.ga K "law") fd ["_law_script"] (spLaw K (TSR K)) := by
  refine mkF F sc_law (fun vs H Q E h => ?_) (fun cdv A outer s H vs Q E hr h => ?_)
  · obtain ⟨_, _, rfl, _⟩ := h; rfl
  · obtain ⟨a, ns, rfl, hs, hn, hT, kk⟩ := h
    refine ⟨_, (pss_cons (ps_set (i := 1) sc_law.nd rfl (Or.inl rfl) (C8.pe_c c__law_pen hr (by decide) rfl (pa_cons (pv 0) pa_nil)))
      (pss_cons (ps_for PassesOwn.never rfl (pi_range1 (by rfl) T.f_range (pa_cons pe_int pa_nil)) (pg_name (i := 2) sc_law.nd rfl (Or.inl rfl)) (pss_cons (ps_set (i := 3) sc_law.nd rfl (Or.inl rfl) (pe_cc A_shapes hr (by decide) (C8.pe_c c__law_pick hr (by decide) rfl (pa_cons (pv 1) (pa_cons (pe_lst (pa_cons (C8.pe_gc (x := "_law_shape") (v := .ref (He.ga K "_law_shape")) rfl ⟨_, D_law_shape.g, rfl⟩) (pa_cons (C8.pe_gc (x := "_law_any_shape") (v := .ref (He.ga K "_law_any_shape")) rfl ⟨_, D_law_any_shape.g, rfl⟩) pa_nil))) pa_nil))) (pa_cons (pv 1) pa_nil)))
      (pss_cons (ps_set (i := 4) sc_law.nd rfl (Or.inl rfl) (C8.pe_mk c_Polygon hr (by decide) rfl (pa_cons (pv 3) pa_nil)))
      (pss_one (ps_for PassesOwn.never rfl (pi_range1 (by rfl) T.f_range (pa_cons (pe_callB call_len_seq (by rfl) T.f_len PySem.boot_len (pa_cons (pv 3) pa_nil)) pa_nil)) (pg_name (i := 5) sc_law.nd rfl (Or.inl rfl)) (pss_cons (ps_par (i := 6) (j := 7) (by rfl) sc_law.nd rfl rfl (by decide) rfl rfl (pa_cons (pe_op op_add pe_int (C8.pe_c c__law_draw hr (by decide) rfl (pa_cons (pv 1) (pa_cons pe_int pa_nil)))) (pa_cons (pe_op op_add pe_int (C8.pe_c c__law_great hr (by decide) rfl (pa_cons (pv 1) (pa_cons (C8.pe_c c__law_pick hr (by decide) rfl (pa_cons (pv 1) (pa_cons (pe_lst (pa_cons pe_int (pa_cons pe_int (pa_cons pe_int pa_nil)))) pa_nil))) pa_nil)))) pa_nil)) (by rfl))
      (pss_one (ps_if (pt_not (pt_val (C8.pe_c c__law_side_right hr (by decide) rfl (pa_cons (pv 4) (pa_cons (pv 3) (pa_cons (pv 5) (pa_cons (pv 6) (pa_cons (pv 7) pa_nil)))))))) (pss_one (ps_ret pe_bl)) pss_nil))))))))
      (pss_one (ps_ret pe_bl)))), ?_⟩
    refine ⟨_, rfl, a, ns, rfl, hs, hn, fun dp H1 nd e1 hp1 => ?_⟩
    have hT1 : LamX.Tabs (TSR K) H1 := hT.ext e1
    refine ⟨_, rfl, by omega, by omega, ?_⟩
    refine for_range (n := (10 : Int).toNat) (fun i σ H' => ∃ (x2 x3 x4 x5 x6 x7 : Option V) (t' : Int), σ = [some (.ref a), some (.ref dp), x2, x3, x4, x5, x6, x7] ∧ Pen H' dp t' ∧ t' ≤ 400 * (i : Nat) ∧ LamX.Tabs (TSR K) H')
      ⟨none, none, none, none, none, none, 0, rfl, hp1, by omega, hT1⟩ ?_ ?_
    · rintro i σ H2 hi ⟨x2, x3, x4, x5, x6, x7, t0, rfl, hp2, ht0, T2⟩
      have hi10 : i < 10 := hi
      refine ⟨_, rfl, Nat.le_of_ble_eq_true rfl, fun l nl => ?_⟩
      generalize hU : upd H2 l _ = H3
      obtain ⟨e3, hl3⟩ := gen_up nl hU
      clear hU
      have hp3 := Pen.mono e3 hp2
      have T3 := T2.ext e3
      refine ⟨dp, l, t0, _, rfl, hp3.sqL (lst_of hl3), fun z => (nomatch z), Nat.le_of_ble_eq_true rfl, hp3, by omega, fun ix v t1 H4 hv e4 hp4 ht4 => ?_⟩
      have T4 : LamX.Tabs (TSR K) H4 := (hp3.tabs T3).ext e4
      have hfn : ∃ f, v = .ref f ∧ ShapeFn K f := by
        have hm := List.mem_of_getElem? hv
        rcases List.mem_cons.mp hm with e | hm
        · exact ⟨_, e, .inl rfl⟩
        · exact ⟨_, by simpa using hm, .inr rfl⟩
      obtain ⟨f, ef, hf⟩ := hfn
      refine ⟨f, ef, hf, ?_⟩
      refine ⟨_, rfl, dp, t1, rfl, hp4, by omega, fun p H5 t2 cs e5 hp5 ht5 hL5 g => ?_⟩
      have T5 : LamX.Tabs (TSR K) H5 := (hp4.tabs T4).ext e5
      have hL5' : PtL K H5 p cs := PtL.mono wo_le hL5
      refine ⟨_, rfl, fun q dx nq ndx nqd => ?_⟩
      have eI : Same H5 (upd (upd H5 dx (.own q)) q (.ins C dx [])) := by
        intro b o hb
        rw [upd_ne (by intro z; rw [z, nq] at hb; cases hb), upd_ne (by intro z; rw [z, ndx] at hb; cases hb)]
        exact hb
      refine ⟨q, dx, p, cs, rfl, upd_same, PtL.mono eI hL5', g, fun H6 e6 hY6 => ⟨rfl, ?_⟩⟩
      have e56 : Same H5 H6 := fun b o hb => e6 b o (by intro z; rw [z, nq] at hb; cases hb) (eI b o hb)
      have hp6 := Pen.mono e56 hp5
      have T6 := T5.ext e56
      obtain ⟨vs, hs6, hp6v⟩ : PtL K H6 p cs := PtL.mono e56 hL5'
      have hl := pair_len hp6v
      have hn6 := g.len
      refine ⟨_, rfl, _, _, rfl, .inl hs6, _, rfl, by omega, by omega, ?_⟩
      refine for_range (n := ((vs.length : Nat) : Int).toNat) (fun k σ H' => ∃ (x5 x6 x7 : Option V) (t' : Int), σ = [some (.ref a), some (.ref dp), some (.int (0 + (i : Nat))), some (.ref p), some (.ref q), x5, x6, x7] ∧ Pen H' dp t' ∧ t' ≤ t2 + 30 * (k : Nat) ∧ LamX.Tabs (TSR K) H' ∧ PtL K H' p cs ∧ PolyAt K C H' (.ref q) cs)
        ⟨x5, x6, x7, t2, rfl, hp6, by omega, T6, ⟨vs, hs6, hp6v⟩, hY6⟩ ?_ ?_
      · rintro k σ H7 hk ⟨y5, y6, y7, t3, rfl, hp7, ht7, T7, hL7, hY7⟩
        refine ⟨_, rfl, dp, 9, t3, rfl, by omega, by omega, hp7, by omega, fun r t4 H8 r0 r1 e8 hp8 ht8 _ => ?_⟩
        have T8 : LamX.Tabs (TSR K) H8 := (hp7.tabs T7).ext e8
        have hL8 : PtL K H8 p cs := PtL.mono e8 (hp7.ptL hL7)
        have hY8 : PolyAt K C H8 (.ref q) cs := PolyAt.mono e8 (hp7.poly hY7)
        refine ⟨_, _, rfl, rfl, _, rfl, _, rfl, Nat.le_of_ble_eq_true rfl, fun l2 nl2 => ?_⟩
        generalize hU : upd H8 l2 _ = H9
        obtain ⟨e9, hl9⟩ := gen_up nl2 hU
        clear hU
        have hp9 := Pen.mono e9 hp8
        refine ⟨dp, l2, t4, _, rfl, hp9.sqL (lst_of hl9), fun z => (nomatch z), Nat.le_of_ble_eq_true rfl, hp9, by omega, fun ix v t5 H10 hv e10 hp10 ht10 => ?_⟩
        have T10 : LamX.Tabs (TSR K) H10 := (hp9.tabs (T8.ext e9)).ext e10
        have hL10 : PtL K H10 p cs := PtL.mono e10 (hp9.ptL (PtL.mono e9 hL8))
        have hY10 : PolyAt K C H10 (.ref q) cs := PolyAt.mono e10 (hp9.poly (PolyAt.mono e9 hY8))
        have hfv : ∃ fg : Nat, v = .int (fg : Nat) ∧ fg ≤ 20 ∧ (10 : Int) ^ fg ≤ 10 ^ 20 := by
          have hm := List.mem_of_getElem? hv
          rcases List.mem_cons.mp hm with e | hm
          · exact ⟨1, e, by omega, by decide⟩
          · rcases List.mem_cons.mp hm with e | hm
            · exact ⟨2, e, by omega, by decide⟩
            · exact ⟨20, by simpa using hm, by omega, by decide⟩
        obtain ⟨fg, rfl, hfg, hpow⟩ := hfv
        refine ⟨dp, fg, t5, rfl, hfg, hp10, by omega, fun r2 t6 H11 s0 s1 e11 hp11 ht11 => ?_⟩
        have T11 : LamX.Tabs (TSR K) H11 := (hp10.tabs T10).ext e11
        have hL11 : PtL K H11 p cs := PtL.mono e11 (hp10.ptL hL10)
        have hY11 : PolyAt K C H11 (.ref q) cs := PolyAt.mono e11 (hp10.poly hY10)
        refine ⟨_, _, rfl, rfl, _, _, rfl, ?_⟩
        refine ⟨_, rfl, _, rfl, _, rfl, _, rfl, _, rfl, .ref q, p, k, 1 + r, 1 + r2, cs, ?_, hY11, hL11, g, by omega, ⟨by omega, by omega⟩, ⟨by omega, by omega⟩, T11, fun H12 e12 T12 => ?_⟩
        · rw [Int.zero_add]; rfl
        · exact ⟨_, rfl, iteF ⟨_, _, _, t6, rfl, hp11.ext e12, by omega, T12, ext_ptL e12 hL11, ext_poly e12 hY11⟩⟩
      · rintro σ H7 ⟨y5, y6, y7, t3, rfl, hp7, ht7, T7, hL7, hY7⟩
        exact ⟨_, _, _, _, _, _, t3, rfl, hp7, by omega, T7⟩
    · rintro σ H2 ⟨x2, x3, x4, x5, x6, x7, t0, rfl, hp2, ht0, T2⟩
      exact kk H2
end
end KP

set_option Elab.async false
set_option linter.all false
set_option maxRecDepth 100000
set_option maxHeartbeats 0
namespace KP
open PySem PySem.Spec PyProof.Rows L2
def dd_Undefined_uinitu : He.DefD := ⟨("Undefined", some "__init__"), "__init__", "Undefined.__init__", defArgs s_Undefined_uinitu, defBody s_Undefined_uinitu, defScope s_Undefined_uinitu, [], []⟩
def dd_is_int : He.DefD := ⟨("is_int", none), "is_int", "is_int", defArgs s_is_int, defBody s_is_int, defScope s_is_int, [], []⟩
def dd_is_int_in : He.DefD := ⟨("is_int_in", none), "is_int_in", "is_int_in", defArgs s_is_int_in, defBody s_is_int_in, defScope s_is_int_in, [], []⟩
def dd_gcd : He.DefD := ⟨("gcd", none), "gcd", "gcd", defArgs s_gcd, defBody s_gcd, defScope s_gcd, [], []⟩
def dd_cross : He.DefD := ⟨("cross", none), "cross", "cross", defArgs s_cross, defBody s_cross, defScope s_cross, [], []⟩
def dd_difference : He.DefD := ⟨("difference", none), "difference", "difference", defArgs s_difference, defBody s_difference, defScope s_difference, [], []⟩
def dd_is_point_shape : He.DefD := ⟨("is_point_shape", none), "is_point_shape", "is_point_shape", defArgs s_is_point_shape, defBody s_is_point_shape, defScope s_is_point_shape, [], []⟩
def dd_is_point : He.DefD := ⟨("is_point", none), "is_point", "is_point", defArgs s_is_point, defBody s_is_point, defScope s_is_point, [], []⟩
def dd_require_point : He.DefD := ⟨("require_point", none), "require_point", "require_point", defArgs s_require_point, defBody s_require_point, defScope s_require_point, [], []⟩
def dd_reflected : He.DefD := ⟨("reflected", none), "reflected", "reflected", defArgs s_reflected, defBody s_reflected, defScope s_reflected, [], []⟩
def dd_edge_side : He.DefD := ⟨("edge_side", none), "edge_side", "edge_side", defArgs s_edge_side, defBody s_edge_side, defScope s_edge_side, [], []⟩
def dd_edge_sides : He.DefD := ⟨("edge_sides", none), "edge_sides", "edge_sides", defArgs s_edge_sides, defBody s_edge_sides, defScope s_edge_sides, [], []⟩
def dd_lies_outside : He.DefD := ⟨("lies_outside", none), "lies_outside", "lies_outside", defArgs s_lies_outside, defBody s_lies_outside, defScope s_lies_outside, [], []⟩
def dd_require_outside : He.DefD := ⟨("require_outside", none), "require_outside", "require_outside", defArgs s_require_outside, defBody s_require_outside, defScope s_require_outside, [], []⟩
def dd_tangent_index : He.DefD := ⟨("tangent_index", none), "tangent_index", "tangent_index", defArgs s_tangent_index, defBody s_tangent_index, defScope s_tangent_index, [], []⟩
def dd_back_tangent_index : He.DefD := ⟨("back_tangent_index", none), "back_tangent_index", "back_tangent_index", defArgs s_back_tangent_index, defBody s_back_tangent_index, defScope s_back_tangent_index, [], []⟩
def dd_image : He.DefD := ⟨("image", none), "image", "image", defArgs s_image, defBody s_image, defScope s_image, [], []⟩
def dd_back_image : He.DefD := ⟨("back_image", none), "back_image", "back_image", defArgs s_back_image, defBody s_back_image, defScope s_back_image, [], []⟩
def dd_require_defined : He.DefD := ⟨("require_defined", none), "require_defined", "require_defined", defArgs s_require_defined, defBody s_require_defined, defScope s_require_defined, [], []⟩
def dd_tangent_vertex : He.DefD := ⟨("tangent_vertex", none), "tangent_vertex", "tangent_vertex", defArgs s_tangent_vertex, defBody s_tangent_vertex, defScope s_tangent_vertex, [], []⟩
def dd_reflect : He.DefD := ⟨("reflect", none), "reflect", "reflect", defArgs s_reflect, defBody s_reflect, defScope s_reflect, [], []⟩
def dd_reflect_back : He.DefD := ⟨("reflect_back", none), "reflect_back", "reflect_back", defArgs s_reflect_back, defBody s_reflect_back, defScope s_reflect_back, [], []⟩
def dd_is_vertex : He.DefD := ⟨("is_vertex", none), "is_vertex", "is_vertex", defArgs s_is_vertex, defBody s_is_vertex, defScope s_is_vertex, [], []⟩
def dd_is_convex : He.DefD := ⟨("is_convex", none), "is_convex", "is_convex", defArgs s_is_convex, defBody s_is_convex, defScope s_is_convex, [], []⟩
def dd_require_vertices : He.DefD := ⟨("require_vertices", none), "require_vertices", "require_vertices", defArgs s_require_vertices, defBody s_require_vertices, defScope s_require_vertices, [], []⟩
def dd_Polygon_uinitu : He.DefD := ⟨("Polygon", some "__init__"), "__init__", "Polygon.__init__", defArgs s_Polygon_uinitu, defBody s_Polygon_uinitu, defScope s_Polygon_uinitu, [], []⟩
def dd_Polygon_ulenu : He.DefD := ⟨("Polygon", some "__len__"), "__len__", "Polygon.__len__", defArgs s_Polygon_ulenu, defBody s_Polygon_ulenu, defScope s_Polygon_ulenu, [], []⟩
def dd_Polygon_vertex : He.DefD := ⟨("Polygon", some "vertex"), "vertex", "Polygon.vertex", defArgs s_Polygon_vertex, defBody s_Polygon_vertex, defScope s_Polygon_vertex, [], []⟩
def dd_Polygon_edge : He.DefD := ⟨("Polygon", some "edge"), "edge", "Polygon.edge", defArgs s_Polygon_edge, defBody s_Polygon_edge, defScope s_Polygon_edge, [], []⟩
def dd__law_pen : He.DefD := ⟨("_law_pen", none), "_law_pen", "_law_pen", defArgs s__law_pen, defBody s__law_pen, defScope s__law_pen, [], []⟩
def dd__law_draw : He.DefD := ⟨("_law_draw", none), "_law_draw", "_law_draw", defArgs s__law_draw, defBody s__law_draw, defScope s__law_draw, [], []⟩
def dd__law_pick : He.DefD := ⟨("_law_pick", none), "_law_pick", "_law_pick", defArgs s__law_pick, defBody s__law_pick, defScope s__law_pick, [], []⟩
def dd__law_great : He.DefD := ⟨("_law_great", none), "_law_great", "_law_great", defArgs s__law_great, defBody s__law_great, defScope s__law_great, [], []⟩
def dd__law_gcd : He.DefD := ⟨("_law_gcd", none), "_law_gcd", "_law_gcd", defArgs s__law_gcd, defBody s__law_gcd, defScope s__law_gcd, [], []⟩
def dd__law_cross : He.DefD := ⟨("_law_cross", none), "_law_cross", "_law_cross", defArgs s__law_cross, defBody s__law_cross, defScope s__law_cross, [], []⟩
def dd__law_point_form : He.DefD := ⟨("_law_point_form", none), "_law_point_form", "_law_point_form", defArgs s__law_point_form, defBody s__law_point_form, defScope s__law_point_form, [], []⟩
def dd__law_is_convex : He.DefD := ⟨("_law_is_convex", none), "_law_is_convex", "_law_is_convex", defArgs s__law_is_convex, defBody s__law_is_convex, defScope s__law_is_convex, [], []⟩
def dd__law_from_least : He.DefD := ⟨("_law_from_least", none), "_law_from_least", "_law_from_least", defArgs s__law_from_least, defBody s__law_from_least, defScope s__law_from_least, [], []⟩
def dd__law_directions : He.DefD := ⟨("_law_directions", none), "_law_directions", "_law_directions", defArgs s__law_directions, defBody s__law_directions, defScope s__law_directions, [], []⟩
def dd__law_far_shift : He.DefD := ⟨("_law_far_shift", none), "_law_far_shift", "_law_far_shift", defArgs s__law_far_shift, defBody s__law_far_shift, defScope s__law_far_shift, [], []⟩
def dd__law_far_rows : He.DefD := ⟨("_law_far_rows", none), "_law_far_rows", "_law_far_rows", defArgs s__law_far_rows, defBody s__law_far_rows, defScope s__law_far_rows, [], []⟩
def dd__law_modulus : He.DefD := ⟨("_law_modulus", none), "_law_modulus", "_law_modulus", defArgs s__law_modulus, defBody s__law_modulus, defScope s__law_modulus, [], []⟩
def dd__law_map_corner : He.DefD := ⟨("_law_map_corner", none), "_law_map_corner", "_law_map_corner", defArgs s__law_map_corner, defBody s__law_map_corner, defScope s__law_map_corner, [], []⟩
def dd__law_mapped : He.DefD := ⟨("_law_mapped", none), "_law_mapped", "_law_mapped", defArgs s__law_mapped, defBody s__law_mapped, defScope s__law_mapped, [], []⟩
def dd__law_table : He.DefD := ⟨("_law_table", none), "_law_table", "_law_table", defArgs s__law_table, defBody s__law_table, defScope s__law_table, [], []⟩
def dd__law_shapes : He.DefD := ⟨("_law_shapes", none), "_law_shapes", "_law_shapes", defArgs s__law_shapes, defBody s__law_shapes, defScope s__law_shapes, [], []⟩
def dd__law_shape : He.DefD := ⟨("_law_shape", none), "_law_shape", "_law_shape", defArgs s__law_shape, defBody s__law_shape, defScope s__law_shape, [], []⟩
def dd__law_round : He.DefD := ⟨("_law_round", none), "_law_round", "_law_round", defArgs s__law_round, defBody s__law_round, defScope s__law_round, [], []⟩
def dd__law_any_shape : He.DefD := ⟨("_law_any_shape", none), "_law_any_shape", "_law_any_shape", defArgs s__law_any_shape, defBody s__law_any_shape, defScope s__law_any_shape, [], []⟩
def dd__law_stuck : He.DefD := ⟨("_law_stuck", none), "_law_stuck", "_law_stuck", defArgs s__law_stuck, defBody s__law_stuck, defScope s__law_stuck, [], []⟩
def dd__law_rays : He.DefD := ⟨("_law_rays", none), "_law_rays", "_law_rays", defArgs s__law_rays, defBody s__law_rays, defScope s__law_rays, [], []⟩
def dd__law_beside : He.DefD := ⟨("_law_beside", none), "_law_beside", "_law_beside", defArgs s__law_beside, defBody s__law_beside, defScope s__law_beside, [], []⟩
def dd__law_side_right : He.DefD := ⟨("_law_side_right", none), "_law_side_right", "_law_side_right", defArgs s__law_side_right, defBody s__law_side_right, defScope s__law_side_right, [], []⟩
def dd_law : He.DefD := ⟨("law", none), "law", "law", defArgs s_law, defBody s_law, defScope s_law, [], []⟩
def fn : List He.DefD := [dd_Undefined_uinitu, dd_is_int, dd_is_int_in, dd_gcd, dd_cross, dd_difference, dd_is_point_shape, dd_is_point, dd_require_point, dd_reflected, dd_edge_side, dd_edge_sides, dd_lies_outside, dd_require_outside, dd_tangent_index, dd_back_tangent_index, dd_image, dd_back_image, dd_require_defined, dd_tangent_vertex, dd_reflect, dd_reflect_back, dd_is_vertex, dd_is_convex, dd_require_vertices, dd_Polygon_uinitu, dd_Polygon_ulenu, dd_Polygon_vertex, dd_Polygon_edge, dd__law_pen, dd__law_draw, dd__law_pick, dd__law_great, dd__law_gcd, dd__law_cross, dd__law_point_form, dd__law_is_convex, dd__law_from_least, dd__law_directions, dd__law_far_shift, dd__law_far_rows, dd__law_modulus, dd__law_map_corner, dd__law_mapped, dd__law_table, dd__law_shapes, dd__law_shape, dd__law_round, dd__law_any_shape, dd__law_stuck, dd__law_rays, dd__law_beside, dd__law_side_right, dd_law]
def fa : List He.Fa := [.glo "is_int", .glo "is_int_in", .glo "gcd", .glo "cross", .glo "difference", .glo "is_point_shape", .glo "is_point", .glo "require_point", .glo "reflected", .glo "edge_side", .glo "edge_sides", .glo "lies_outside", .glo "require_outside", .glo "tangent_index", .glo "back_tangent_index", .glo "image", .glo "back_image", .glo "require_defined", .glo "tangent_vertex", .glo "reflect", .glo "reflect_back", .glo "is_vertex", .glo "is_convex", .glo "require_vertices", .glo "_law_pen", .glo "_law_draw", .glo "_law_pick", .glo "_law_great", .glo "_law_gcd", .glo "_law_cross", .glo "_law_point_form", .glo "_law_is_convex", .glo "_law_from_least", .glo "_law_directions", .glo "_law_far_shift", .glo "_law_far_rows", .glo "_law_modulus", .glo "_law_map_corner", .glo "_law_mapped", .glo "_law_table", .glo "_law_shapes", .glo "_law_shape", .glo "_law_round", .glo "_law_any_shape", .glo "_law_stuck", .glo "_law_rays", .glo "_law_beside", .glo "_law_side_right", .glo "law", .glo "Polygon", .glo "Undefined", .free "isinstance", .free "int", .free "bool", .free "abs", .free "len", .free "tuple", .free "list", .free "all", .free "min", .free "max", .free "range", .free "enumerate", .free "dict", .int "MAX_DENOMINATOR" (1000000), .int "MAX_DISTANCE" (10 ^ 40), .int "MAX_COORDINATE" (60), .int "MIN_VERTICES" (3), .int "MAX_VERTICES" (6), .cls "Polygon", .noat "Polygon" "cycle", .meth "Polygon" "vertex", .meth "Polygon" "edge", .meth "Polygon" "__len__", .mkr "Polygon", .exm "Undefined" "Undefined" true, .keep "Undefined", .noat "Undefined" "steps"]
def tf : List He.Defn := [("_law_side_right", none)]
abbrev R : PySem.W.OpenRow := PySem.W.OpenLaw.row PySem.Challenge.rw_outleap_k09_whole_undefined_rays
def reBs : List Value := [.type "RuntimeError", .type "Exception", .type "BaseException", .type "object"]
/-- the class Undefined, beyond the named facts -/
def exU (K : PySem.W.Frag) : Bool :=
  (PySem.W.excInitIn K (He.ga K "Undefined") reBs "RuntimeError.__new__" && (PySem.W.excOver K (He.ga K "Undefined") reBs && ((PySem.W.clsIn K (He.ga K "Undefined")).any (·.hasDict) &&
    (He.eqO (PySem.W.findIn K (.ref (He.ga K "Undefined")) "__getattribute__") (some (some (.builtin "BaseException.__getattribute__"))) && (He.eqO (PySem.W.findIn K (.ref (He.ga K "Undefined")) "__getattr__") (some none) &&
    (He.eqO (PySem.W.findIn K (.ref (He.ga K "Undefined")) "__setattr__") (some (some (.builtin "object.__setattr__"))) && He.eqO (PySem.W.findIn K (.ref (He.ga K "Undefined")) "__init__") (some (some (.ref (He.ma K (He.ga K "Undefined") "__init__")))))))))) &&
  (decide (PySem.W.typeIn K (.ref (He.ma K (He.ga K "Undefined") "__init__")) = some (.type "function")) && (decide (PySem.W.subIn K (.ref (He.ga K "Undefined")) (.type "BaseException") = some true) &&
    (decide (PySem.W.typeIn K (.ref (He.ga K "Undefined")) = some (.type "type")) && PySem.W.hasDictIn K (He.ga K "Undefined"))))
abbrev hk : PySem.W.Hook := He.hookX 5 fa fn [] tf exU
def ob (s : PySem.W.SharedT) : He.AlX := He.obsX 5 fa fn [] tf exU (HandSHeadRun.getT s)
theorem ob_eq (s : PySem.W.SharedT) : ob s = hk.obs s.abs := He.obsX_eq (HandSHeadRun.getT_eq s)
def loose0 : List PySem.Str := ["InvalidPolygon", "InvalidPoint", "NotOutside", "Undefined", "is_int", "is_int_in", "gcd", "cross", "difference", "MAX_DENOMINATOR", "MAX_DISTANCE", "is_point_shape", "is_point", "require_point", "reflected", "edge_side", "edge_sides", "lies_outside", "require_outside", "tangent_index", "back_tangent_index", "image", "back_image", "require_defined", "tangent_vertex", "reflect", "reflect_back", "MAX_COORDINATE", "MIN_VERTICES", "MAX_VERTICES"]
def loose1 : List PySem.Str := ["is_vertex", "is_convex", "require_vertices", "Polygon", "_law_pen", "_law_draw", "_law_pick", "_law_great", "_law_gcd", "_law_cross", "_law_point_form", "_law_is_convex", "_law_from_least", "_law_directions", "_law_far_shift", "_law_far_rows", "_law_modulus", "_law_map_corner", "_law_mapped", "_law_table", "_law_shapes", "_law_shape", "_law_round", "_law_any_shape", "_law_stuck", "_law_rays", "_law_beside", "_law_side_right"]
def loose : List PySem.Str := loose0 ++ loose1
theorem run (w : World) : HandSHeadRun.RunEq R (PySem.W.view R.prog [64]) hk ob 4000 loose w := by
  intro os
  kernel_rfl
end KP

set_option Elab.async false
set_option linter.all false
set_option maxRecDepth 100000
set_option maxHeartbeats 1000000
namespace KP
open PySem PySem.Spec PyProof.Rows L2 KM
/-! ### what the head tells, in the walk's words -/
theorem d_is_int {w : World} {h : Heap} {K : PySem.W.Frag} {mg : Str → Option Value} (X : K.In h) (G : h.Ns mainGlobals mg) (c : He.SaysX fa fn [] tf exU w h K) : DefT K mg "is_int" s_is_int ["value"] := by
  obtain ⟨fd, F⟩ := He.SaysD.def_ (He.SaysT.d c.t) 1 (d := dd_is_int) rfl
  exact ⟨⟨fd, F, FunD.bindsN (ps := ["value"]) F fun _ _ _ _ _ _ us hl => match us, hl with | [_], _ => rfl⟩, He.glo_ok X G (He.SaysD.fact (He.SaysT.d c.t) 0 (f := .glo "is_int") rfl)⟩
theorem d_is_int_in {w : World} {h : Heap} {K : PySem.W.Frag} {mg : Str → Option Value} (X : K.In h) (G : h.Ns mainGlobals mg) (c : He.SaysX fa fn [] tf exU w h K) : DefT K mg "is_int_in" s_is_int_in ["value", "low", "high"] := by
  obtain ⟨fd, F⟩ := He.SaysD.def_ (He.SaysT.d c.t) 2 (d := dd_is_int_in) rfl
  exact ⟨⟨fd, F, FunD.bindsN (ps := ["value", "low", "high"]) F fun _ _ _ _ _ _ us hl => match us, hl with | [_, _, _], _ => rfl⟩, He.glo_ok X G (He.SaysD.fact (He.SaysT.d c.t) 1 (f := .glo "is_int_in") rfl)⟩
theorem d_gcd {w : World} {h : Heap} {K : PySem.W.Frag} {mg : Str → Option Value} (X : K.In h) (G : h.Ns mainGlobals mg) (c : He.SaysX fa fn [] tf exU w h K) : DefT K mg "gcd" s_gcd ["first", "second"] := by
  obtain ⟨fd, F⟩ := He.SaysD.def_ (He.SaysT.d c.t) 3 (d := dd_gcd) rfl
  exact ⟨⟨fd, F, FunD.bindsN (ps := ["first", "second"]) F fun _ _ _ _ _ _ us hl => match us, hl with | [_, _], _ => rfl⟩, He.glo_ok X G (He.SaysD.fact (He.SaysT.d c.t) 2 (f := .glo "gcd") rfl)⟩
theorem d_cross {w : World} {h : Heap} {K : PySem.W.Frag} {mg : Str → Option Value} (X : K.In h) (G : h.Ns mainGlobals mg) (c : He.SaysX fa fn [] tf exU w h K) : DefT K mg "cross" s_cross ["first", "second"] := by
  obtain ⟨fd, F⟩ := He.SaysD.def_ (He.SaysT.d c.t) 4 (d := dd_cross) rfl
  exact ⟨⟨fd, F, FunD.bindsN (ps := ["first", "second"]) F fun _ _ _ _ _ _ us hl => match us, hl with | [_, _], _ => rfl⟩, He.glo_ok X G (He.SaysD.fact (He.SaysT.d c.t) 3 (f := .glo "cross") rfl)⟩
theorem d_difference {w : World} {h : Heap} {K : PySem.W.Frag} {mg : Str → Option Value} (X : K.In h) (G : h.Ns mainGlobals mg) (c : He.SaysX fa fn [] tf exU w h K) : DefT K mg "difference" s_difference ["first", "second"] := by
  obtain ⟨fd, F⟩ := He.SaysD.def_ (He.SaysT.d c.t) 5 (d := dd_difference) rfl
  exact ⟨⟨fd, F, FunD.bindsN (ps := ["first", "second"]) F fun _ _ _ _ _ _ us hl => match us, hl with | [_, _], _ => rfl⟩, He.glo_ok X G (He.SaysD.fact (He.SaysT.d c.t) 4 (f := .glo "difference") rfl)⟩
theorem d_is_point_shape {w : World} {h : Heap} {K : PySem.W.Frag} {mg : Str → Option Value} (X : K.In h) (G : h.Ns mainGlobals mg) (c : He.SaysX fa fn [] tf exU w h K) : DefT K mg "is_point_shape" s_is_point_shape ["value"] := by
  obtain ⟨fd, F⟩ := He.SaysD.def_ (He.SaysT.d c.t) 6 (d := dd_is_point_shape) rfl
  exact ⟨⟨fd, F, FunD.bindsN (ps := ["value"]) F fun _ _ _ _ _ _ us hl => match us, hl with | [_], _ => rfl⟩, He.glo_ok X G (He.SaysD.fact (He.SaysT.d c.t) 5 (f := .glo "is_point_shape") rfl)⟩
theorem d_is_point {w : World} {h : Heap} {K : PySem.W.Frag} {mg : Str → Option Value} (X : K.In h) (G : h.Ns mainGlobals mg) (c : He.SaysX fa fn [] tf exU w h K) : DefT K mg "is_point" s_is_point ["value"] := by
  obtain ⟨fd, F⟩ := He.SaysD.def_ (He.SaysT.d c.t) 7 (d := dd_is_point) rfl
  exact ⟨⟨fd, F, FunD.bindsN (ps := ["value"]) F fun _ _ _ _ _ _ us hl => match us, hl with | [_], _ => rfl⟩, He.glo_ok X G (He.SaysD.fact (He.SaysT.d c.t) 6 (f := .glo "is_point") rfl)⟩
theorem d_require_point {w : World} {h : Heap} {K : PySem.W.Frag} {mg : Str → Option Value} (X : K.In h) (G : h.Ns mainGlobals mg) (c : He.SaysX fa fn [] tf exU w h K) : DefT K mg "require_point" s_require_point ["point"] := by
  obtain ⟨fd, F⟩ := He.SaysD.def_ (He.SaysT.d c.t) 8 (d := dd_require_point) rfl
  exact ⟨⟨fd, F, FunD.bindsN (ps := ["point"]) F fun _ _ _ _ _ _ us hl => match us, hl with | [_], _ => rfl⟩, He.glo_ok X G (He.SaysD.fact (He.SaysT.d c.t) 7 (f := .glo "require_point") rfl)⟩
theorem d_reflected {w : World} {h : Heap} {K : PySem.W.Frag} {mg : Str → Option Value} (X : K.In h) (G : h.Ns mainGlobals mg) (c : He.SaysX fa fn [] tf exU w h K) : DefT K mg "reflected" s_reflected ["point", "vertex"] := by
  obtain ⟨fd, F⟩ := He.SaysD.def_ (He.SaysT.d c.t) 9 (d := dd_reflected) rfl
  exact ⟨⟨fd, F, FunD.bindsN (ps := ["point", "vertex"]) F fun _ _ _ _ _ _ us hl => match us, hl with | [_, _], _ => rfl⟩, He.glo_ok X G (He.SaysD.fact (He.SaysT.d c.t) 8 (f := .glo "reflected") rfl)⟩
theorem d_edge_side {w : World} {h : Heap} {K : PySem.W.Frag} {mg : Str → Option Value} (X : K.In h) (G : h.Ns mainGlobals mg) (c : He.SaysX fa fn [] tf exU w h K) : DefT K mg "edge_side" s_edge_side ["polygon", "index", "point"] := by
  obtain ⟨fd, F⟩ := He.SaysD.def_ (He.SaysT.d c.t) 10 (d := dd_edge_side) rfl
  exact ⟨⟨fd, F, FunD.bindsN (ps := ["polygon", "index", "point"]) F fun _ _ _ _ _ _ us hl => match us, hl with | [_, _, _], _ => rfl⟩, He.glo_ok X G (He.SaysD.fact (He.SaysT.d c.t) 9 (f := .glo "edge_side") rfl)⟩
theorem d_edge_sides {w : World} {h : Heap} {K : PySem.W.Frag} {mg : Str → Option Value} (X : K.In h) (G : h.Ns mainGlobals mg) (c : He.SaysX fa fn [] tf exU w h K) : DefT K mg "edge_sides" s_edge_sides ["polygon", "point"] := by
  obtain ⟨fd, F⟩ := He.SaysD.def_ (He.SaysT.d c.t) 11 (d := dd_edge_sides) rfl
  exact ⟨⟨fd, F, FunD.bindsN (ps := ["polygon", "point"]) F fun _ _ _ _ _ _ us hl => match us, hl with | [_, _], _ => rfl⟩, He.glo_ok X G (He.SaysD.fact (He.SaysT.d c.t) 10 (f := .glo "edge_sides") rfl)⟩
theorem d_lies_outside {w : World} {h : Heap} {K : PySem.W.Frag} {mg : Str → Option Value} (X : K.In h) (G : h.Ns mainGlobals mg) (c : He.SaysX fa fn [] tf exU w h K) : DefT K mg "lies_outside" s_lies_outside ["polygon", "point"] := by
  obtain ⟨fd, F⟩ := He.SaysD.def_ (He.SaysT.d c.t) 12 (d := dd_lies_outside) rfl
  exact ⟨⟨fd, F, FunD.bindsN (ps := ["polygon", "point"]) F fun _ _ _ _ _ _ us hl => match us, hl with | [_, _], _ => rfl⟩, He.glo_ok X G (He.SaysD.fact (He.SaysT.d c.t) 11 (f := .glo "lies_outside") rfl)⟩
theorem d_require_outside {w : World} {h : Heap} {K : PySem.W.Frag} {mg : Str → Option Value} (X : K.In h) (G : h.Ns mainGlobals mg) (c : He.SaysX fa fn [] tf exU w h K) : DefT K mg "require_outside" s_require_outside ["polygon", "point"] := by
  obtain ⟨fd, F⟩ := He.SaysD.def_ (He.SaysT.d c.t) 13 (d := dd_require_outside) rfl
  exact ⟨⟨fd, F, FunD.bindsN (ps := ["polygon", "point"]) F fun _ _ _ _ _ _ us hl => match us, hl with | [_, _], _ => rfl⟩, He.glo_ok X G (He.SaysD.fact (He.SaysT.d c.t) 12 (f := .glo "require_outside") rfl)⟩
theorem d_tangent_index {w : World} {h : Heap} {K : PySem.W.Frag} {mg : Str → Option Value} (X : K.In h) (G : h.Ns mainGlobals mg) (c : He.SaysX fa fn [] tf exU w h K) : DefT K mg "tangent_index" s_tangent_index ["polygon", "point"] := by
  obtain ⟨fd, F⟩ := He.SaysD.def_ (He.SaysT.d c.t) 14 (d := dd_tangent_index) rfl
  exact ⟨⟨fd, F, FunD.bindsN (ps := ["polygon", "point"]) F fun _ _ _ _ _ _ us hl => match us, hl with | [_, _], _ => rfl⟩, He.glo_ok X G (He.SaysD.fact (He.SaysT.d c.t) 13 (f := .glo "tangent_index") rfl)⟩
theorem d_back_tangent_index {w : World} {h : Heap} {K : PySem.W.Frag} {mg : Str → Option Value} (X : K.In h) (G : h.Ns mainGlobals mg) (c : He.SaysX fa fn [] tf exU w h K) : DefT K mg "back_tangent_index" s_back_tangent_index ["polygon", "point"] := by
  obtain ⟨fd, F⟩ := He.SaysD.def_ (He.SaysT.d c.t) 15 (d := dd_back_tangent_index) rfl
  exact ⟨⟨fd, F, FunD.bindsN (ps := ["polygon", "point"]) F fun _ _ _ _ _ _ us hl => match us, hl with | [_, _], _ => rfl⟩, He.glo_ok X G (He.SaysD.fact (He.SaysT.d c.t) 14 (f := .glo "back_tangent_index") rfl)⟩
theorem d_image {w : World} {h : Heap} {K : PySem.W.Frag} {mg : Str → Option Value} (X : K.In h) (G : h.Ns mainGlobals mg) (c : He.SaysX fa fn [] tf exU w h K) : DefT K mg "image" s_image ["polygon", "point"] := by
  obtain ⟨fd, F⟩ := He.SaysD.def_ (He.SaysT.d c.t) 16 (d := dd_image) rfl
  exact ⟨⟨fd, F, FunD.bindsN (ps := ["polygon", "point"]) F fun _ _ _ _ _ _ us hl => match us, hl with | [_, _], _ => rfl⟩, He.glo_ok X G (He.SaysD.fact (He.SaysT.d c.t) 15 (f := .glo "image") rfl)⟩
theorem d_back_image {w : World} {h : Heap} {K : PySem.W.Frag} {mg : Str → Option Value} (X : K.In h) (G : h.Ns mainGlobals mg) (c : He.SaysX fa fn [] tf exU w h K) : DefT K mg "back_image" s_back_image ["polygon", "point"] := by
  obtain ⟨fd, F⟩ := He.SaysD.def_ (He.SaysT.d c.t) 17 (d := dd_back_image) rfl
  exact ⟨⟨fd, F, FunD.bindsN (ps := ["polygon", "point"]) F fun _ _ _ _ _ _ us hl => match us, hl with | [_, _], _ => rfl⟩, He.glo_ok X G (He.SaysD.fact (He.SaysT.d c.t) 16 (f := .glo "back_image") rfl)⟩
theorem d_require_defined {w : World} {h : Heap} {K : PySem.W.Frag} {mg : Str → Option Value} (X : K.In h) (G : h.Ns mainGlobals mg) (c : He.SaysX fa fn [] tf exU w h K) : DefT K mg "require_defined" s_require_defined ["result"] := by
  obtain ⟨fd, F⟩ := He.SaysD.def_ (He.SaysT.d c.t) 18 (d := dd_require_defined) rfl
  exact ⟨⟨fd, F, FunD.bindsN (ps := ["result"]) F fun _ _ _ _ _ _ us hl => match us, hl with | [_], _ => rfl⟩, He.glo_ok X G (He.SaysD.fact (He.SaysT.d c.t) 17 (f := .glo "require_defined") rfl)⟩
theorem d_tangent_vertex {w : World} {h : Heap} {K : PySem.W.Frag} {mg : Str → Option Value} (X : K.In h) (G : h.Ns mainGlobals mg) (c : He.SaysX fa fn [] tf exU w h K) : DefT K mg "tangent_vertex" s_tangent_vertex ["polygon", "point"] := by
  obtain ⟨fd, F⟩ := He.SaysD.def_ (He.SaysT.d c.t) 19 (d := dd_tangent_vertex) rfl
  exact ⟨⟨fd, F, FunD.bindsN (ps := ["polygon", "point"]) F fun _ _ _ _ _ _ us hl => match us, hl with | [_, _], _ => rfl⟩, He.glo_ok X G (He.SaysD.fact (He.SaysT.d c.t) 18 (f := .glo "tangent_vertex") rfl)⟩
theorem d_reflect {w : World} {h : Heap} {K : PySem.W.Frag} {mg : Str → Option Value} (X : K.In h) (G : h.Ns mainGlobals mg) (c : He.SaysX fa fn [] tf exU w h K) : DefT K mg "reflect" s_reflect ["polygon", "point"] := by
  obtain ⟨fd, F⟩ := He.SaysD.def_ (He.SaysT.d c.t) 20 (d := dd_reflect) rfl
  exact ⟨⟨fd, F, FunD.bindsN (ps := ["polygon", "point"]) F fun _ _ _ _ _ _ us hl => match us, hl with | [_, _], _ => rfl⟩, He.glo_ok X G (He.SaysD.fact (He.SaysT.d c.t) 19 (f := .glo "reflect") rfl)⟩
theorem d_reflect_back {w : World} {h : Heap} {K : PySem.W.Frag} {mg : Str → Option Value} (X : K.In h) (G : h.Ns mainGlobals mg) (c : He.SaysX fa fn [] tf exU w h K) : DefT K mg "reflect_back" s_reflect_back ["polygon", "point"] := by
  obtain ⟨fd, F⟩ := He.SaysD.def_ (He.SaysT.d c.t) 21 (d := dd_reflect_back) rfl
  exact ⟨⟨fd, F, FunD.bindsN (ps := ["polygon", "point"]) F fun _ _ _ _ _ _ us hl => match us, hl with | [_, _], _ => rfl⟩, He.glo_ok X G (He.SaysD.fact (He.SaysT.d c.t) 20 (f := .glo "reflect_back") rfl)⟩
theorem d_is_vertex {w : World} {h : Heap} {K : PySem.W.Frag} {mg : Str → Option Value} (X : K.In h) (G : h.Ns mainGlobals mg) (c : He.SaysX fa fn [] tf exU w h K) : DefT K mg "is_vertex" s_is_vertex ["value"] := by
  obtain ⟨fd, F⟩ := He.SaysD.def_ (He.SaysT.d c.t) 22 (d := dd_is_vertex) rfl
  exact ⟨⟨fd, F, FunD.bindsN (ps := ["value"]) F fun _ _ _ _ _ _ us hl => match us, hl with | [_], _ => rfl⟩, He.glo_ok X G (He.SaysD.fact (He.SaysT.d c.t) 21 (f := .glo "is_vertex") rfl)⟩
theorem d_is_convex {w : World} {h : Heap} {K : PySem.W.Frag} {mg : Str → Option Value} (X : K.In h) (G : h.Ns mainGlobals mg) (c : He.SaysX fa fn [] tf exU w h K) : DefT K mg "is_convex" s_is_convex ["vertices"] := by
  obtain ⟨fd, F⟩ := He.SaysD.def_ (He.SaysT.d c.t) 23 (d := dd_is_convex) rfl
  exact ⟨⟨fd, F, FunD.bindsN (ps := ["vertices"]) F fun _ _ _ _ _ _ us hl => match us, hl with | [_], _ => rfl⟩, He.glo_ok X G (He.SaysD.fact (He.SaysT.d c.t) 22 (f := .glo "is_convex") rfl)⟩
theorem d_require_vertices {w : World} {h : Heap} {K : PySem.W.Frag} {mg : Str → Option Value} (X : K.In h) (G : h.Ns mainGlobals mg) (c : He.SaysX fa fn [] tf exU w h K) : DefT K mg "require_vertices" s_require_vertices ["value"] := by
  obtain ⟨fd, F⟩ := He.SaysD.def_ (He.SaysT.d c.t) 24 (d := dd_require_vertices) rfl
  exact ⟨⟨fd, F, FunD.bindsN (ps := ["value"]) F fun _ _ _ _ _ _ us hl => match us, hl with | [_], _ => rfl⟩, He.glo_ok X G (He.SaysD.fact (He.SaysT.d c.t) 23 (f := .glo "require_vertices") rfl)⟩
theorem d_Polygon_uinitu {w : World} {h : Heap} {K : PySem.W.Frag} (c : He.SaysX fa fn [] tf exU w h K) : MetT K (He.ga K "Polygon") "__init__" "Polygon.__init__" s_Polygon_uinitu ["self", "vertices"] := by
  obtain ⟨fd, F⟩ := He.SaysD.def_ (He.SaysT.d c.t) 25 (d := dd_Polygon_uinitu) rfl
  exact ⟨fd, F, FunD.bindsN (ps := ["self", "vertices"]) F fun _ _ _ _ _ _ us hl => match us, hl with | [_, _], _ => rfl⟩
theorem d_Polygon_ulenu {w : World} {h : Heap} {K : PySem.W.Frag} (c : He.SaysX fa fn [] tf exU w h K) : MetT K (He.ga K "Polygon") "__len__" "Polygon.__len__" s_Polygon_ulenu ["self"] := by
  obtain ⟨fd, F⟩ := He.SaysD.def_ (He.SaysT.d c.t) 26 (d := dd_Polygon_ulenu) rfl
  exact ⟨fd, F, FunD.bindsN (ps := ["self"]) F fun _ _ _ _ _ _ us hl => match us, hl with | [_], _ => rfl⟩
theorem d_Polygon_vertex {w : World} {h : Heap} {K : PySem.W.Frag} (c : He.SaysX fa fn [] tf exU w h K) : MetT K (He.ga K "Polygon") "vertex" "Polygon.vertex" s_Polygon_vertex ["self", "index"] := by
  obtain ⟨fd, F⟩ := He.SaysD.def_ (He.SaysT.d c.t) 27 (d := dd_Polygon_vertex) rfl
  exact ⟨fd, F, FunD.bindsN (ps := ["self", "index"]) F fun _ _ _ _ _ _ us hl => match us, hl with | [_, _], _ => rfl⟩
theorem d_Polygon_edge {w : World} {h : Heap} {K : PySem.W.Frag} (c : He.SaysX fa fn [] tf exU w h K) : MetT K (He.ga K "Polygon") "edge" "Polygon.edge" s_Polygon_edge ["self", "index"] := by
  obtain ⟨fd, F⟩ := He.SaysD.def_ (He.SaysT.d c.t) 28 (d := dd_Polygon_edge) rfl
  exact ⟨fd, F, FunD.bindsN (ps := ["self", "index"]) F fun _ _ _ _ _ _ us hl => match us, hl with | [_, _], _ => rfl⟩
theorem d__law_pen {w : World} {h : Heap} {K : PySem.W.Frag} {mg : Str → Option Value} (X : K.In h) (G : h.Ns mainGlobals mg) (c : He.SaysX fa fn [] tf exU w h K) : DefT K mg "_law_pen" s__law_pen ["_law_script"] := by
  obtain ⟨fd, F⟩ := He.SaysD.def_ (He.SaysT.d c.t) 29 (d := dd__law_pen) rfl
  exact ⟨⟨fd, F, FunD.bindsN (ps := ["_law_script"]) F fun _ _ _ _ _ _ us hl => match us, hl with | [_], _ => rfl⟩, He.glo_ok X G (He.SaysD.fact (He.SaysT.d c.t) 24 (f := .glo "_law_pen") rfl)⟩
theorem d__law_draw {w : World} {h : Heap} {K : PySem.W.Frag} {mg : Str → Option Value} (X : K.In h) (G : h.Ns mainGlobals mg) (c : He.SaysX fa fn [] tf exU w h K) : DefT K mg "_law_draw" s__law_draw ["_law_pen_here", "_law_many"] := by
  obtain ⟨fd, F⟩ := He.SaysD.def_ (He.SaysT.d c.t) 30 (d := dd__law_draw) rfl
  exact ⟨⟨fd, F, FunD.bindsN (ps := ["_law_pen_here", "_law_many"]) F fun _ _ _ _ _ _ us hl => match us, hl with | [_, _], _ => rfl⟩, He.glo_ok X G (He.SaysD.fact (He.SaysT.d c.t) 25 (f := .glo "_law_draw") rfl)⟩
theorem d__law_pick {w : World} {h : Heap} {K : PySem.W.Frag} {mg : Str → Option Value} (X : K.In h) (G : h.Ns mainGlobals mg) (c : He.SaysX fa fn [] tf exU w h K) : DefT K mg "_law_pick" s__law_pick ["_law_pen_here", "_law_options"] := by
  obtain ⟨fd, F⟩ := He.SaysD.def_ (He.SaysT.d c.t) 31 (d := dd__law_pick) rfl
  exact ⟨⟨fd, F, FunD.bindsN (ps := ["_law_pen_here", "_law_options"]) F fun _ _ _ _ _ _ us hl => match us, hl with | [_, _], _ => rfl⟩, He.glo_ok X G (He.SaysD.fact (He.SaysT.d c.t) 26 (f := .glo "_law_pick") rfl)⟩
theorem d__law_great {w : World} {h : Heap} {K : PySem.W.Frag} {mg : Str → Option Value} (X : K.In h) (G : h.Ns mainGlobals mg) (c : He.SaysX fa fn [] tf exU w h K) : DefT K mg "_law_great" s__law_great ["_law_pen_here", "_law_figures"] := by
  obtain ⟨fd, F⟩ := He.SaysD.def_ (He.SaysT.d c.t) 32 (d := dd__law_great) rfl
  exact ⟨⟨fd, F, FunD.bindsN (ps := ["_law_pen_here", "_law_figures"]) F fun _ _ _ _ _ _ us hl => match us, hl with | [_, _], _ => rfl⟩, He.glo_ok X G (He.SaysD.fact (He.SaysT.d c.t) 27 (f := .glo "_law_great") rfl)⟩
theorem d__law_gcd {w : World} {h : Heap} {K : PySem.W.Frag} {mg : Str → Option Value} (X : K.In h) (G : h.Ns mainGlobals mg) (c : He.SaysX fa fn [] tf exU w h K) : DefT K mg "_law_gcd" s__law_gcd ["_law_one", "_law_two"] := by
  obtain ⟨fd, F⟩ := He.SaysD.def_ (He.SaysT.d c.t) 33 (d := dd__law_gcd) rfl
  exact ⟨⟨fd, F, FunD.bindsN (ps := ["_law_one", "_law_two"]) F fun _ _ _ _ _ _ us hl => match us, hl with | [_, _], _ => rfl⟩, He.glo_ok X G (He.SaysD.fact (He.SaysT.d c.t) 28 (f := .glo "_law_gcd") rfl)⟩
theorem d__law_cross {w : World} {h : Heap} {K : PySem.W.Frag} {mg : Str → Option Value} (X : K.In h) (G : h.Ns mainGlobals mg) (c : He.SaysX fa fn [] tf exU w h K) : DefT K mg "_law_cross" s__law_cross ["_law_one", "_law_two"] := by
  obtain ⟨fd, F⟩ := He.SaysD.def_ (He.SaysT.d c.t) 34 (d := dd__law_cross) rfl
  exact ⟨⟨fd, F, FunD.bindsN (ps := ["_law_one", "_law_two"]) F fun _ _ _ _ _ _ us hl => match us, hl with | [_, _], _ => rfl⟩, He.glo_ok X G (He.SaysD.fact (He.SaysT.d c.t) 29 (f := .glo "_law_cross") rfl)⟩
theorem d__law_point_form {w : World} {h : Heap} {K : PySem.W.Frag} {mg : Str → Option Value} (X : K.In h) (G : h.Ns mainGlobals mg) (c : He.SaysX fa fn [] tf exU w h K) : DefT K mg "_law_point_form" s__law_point_form ["_law_x", "_law_y", "_law_d"] := by
  obtain ⟨fd, F⟩ := He.SaysD.def_ (He.SaysT.d c.t) 35 (d := dd__law_point_form) rfl
  exact ⟨⟨fd, F, FunD.bindsN (ps := ["_law_x", "_law_y", "_law_d"]) F fun _ _ _ _ _ _ us hl => match us, hl with | [_, _, _], _ => rfl⟩, He.glo_ok X G (He.SaysD.fact (He.SaysT.d c.t) 30 (f := .glo "_law_point_form") rfl)⟩
theorem d__law_is_convex {w : World} {h : Heap} {K : PySem.W.Frag} {mg : Str → Option Value} (X : K.In h) (G : h.Ns mainGlobals mg) (c : He.SaysX fa fn [] tf exU w h K) : DefT K mg "_law_is_convex" s__law_is_convex ["_law_corners"] := by
  obtain ⟨fd, F⟩ := He.SaysD.def_ (He.SaysT.d c.t) 36 (d := dd__law_is_convex) rfl
  exact ⟨⟨fd, F, FunD.bindsN (ps := ["_law_corners"]) F fun _ _ _ _ _ _ us hl => match us, hl with | [_], _ => rfl⟩, He.glo_ok X G (He.SaysD.fact (He.SaysT.d c.t) 31 (f := .glo "_law_is_convex") rfl)⟩
theorem d__law_from_least {w : World} {h : Heap} {K : PySem.W.Frag} {mg : Str → Option Value} (X : K.In h) (G : h.Ns mainGlobals mg) (c : He.SaysX fa fn [] tf exU w h K) : DefT K mg "_law_from_least" s__law_from_least ["_law_corners"] := by
  obtain ⟨fd, F⟩ := He.SaysD.def_ (He.SaysT.d c.t) 37 (d := dd__law_from_least) rfl
  exact ⟨⟨fd, F, FunD.bindsN (ps := ["_law_corners"]) F fun _ _ _ _ _ _ us hl => match us, hl with | [_], _ => rfl⟩, He.glo_ok X G (He.SaysD.fact (He.SaysT.d c.t) 32 (f := .glo "_law_from_least") rfl)⟩
theorem d__law_directions {w : World} {h : Heap} {K : PySem.W.Frag} {mg : Str → Option Value} (X : K.In h) (G : h.Ns mainGlobals mg) (c : He.SaysX fa fn [] tf exU w h K) : DefT K mg "_law_directions" s__law_directions ["_law_corners"] := by
  obtain ⟨fd, F⟩ := He.SaysD.def_ (He.SaysT.d c.t) 38 (d := dd__law_directions) rfl
  exact ⟨⟨fd, F, FunD.bindsN (ps := ["_law_corners"]) F fun _ _ _ _ _ _ us hl => match us, hl with | [_], _ => rfl⟩, He.glo_ok X G (He.SaysD.fact (He.SaysT.d c.t) 33 (f := .glo "_law_directions") rfl)⟩
theorem d__law_far_shift {w : World} {h : Heap} {K : PySem.W.Frag} {mg : Str → Option Value} (X : K.In h) (G : h.Ns mainGlobals mg) (c : He.SaysX fa fn [] tf exU w h K) : DefT K mg "_law_far_shift" s__law_far_shift ["_law_corners", "_law_one", "_law_two"] := by
  obtain ⟨fd, F⟩ := He.SaysD.def_ (He.SaysT.d c.t) 39 (d := dd__law_far_shift) rfl
  exact ⟨⟨fd, F, FunD.bindsN (ps := ["_law_corners", "_law_one", "_law_two"]) F fun _ _ _ _ _ _ us hl => match us, hl with | [_, _, _], _ => rfl⟩, He.glo_ok X G (He.SaysD.fact (He.SaysT.d c.t) 34 (f := .glo "_law_far_shift") rfl)⟩
theorem d__law_far_rows {w : World} {h : Heap} {K : PySem.W.Frag} {mg : Str → Option Value} (X : K.In h) (G : h.Ns mainGlobals mg) (c : He.SaysX fa fn [] tf exU w h K) : DefT K mg "_law_far_rows" s__law_far_rows ["_law_corners"] := by
  obtain ⟨fd, F⟩ := He.SaysD.def_ (He.SaysT.d c.t) 40 (d := dd__law_far_rows) rfl
  exact ⟨⟨fd, F, FunD.bindsN (ps := ["_law_corners"]) F fun _ _ _ _ _ _ us hl => match us, hl with | [_], _ => rfl⟩, He.glo_ok X G (He.SaysD.fact (He.SaysT.d c.t) 35 (f := .glo "_law_far_rows") rfl)⟩
theorem d__law_modulus {w : World} {h : Heap} {K : PySem.W.Frag} {mg : Str → Option Value} (X : K.In h) (G : h.Ns mainGlobals mg) (c : He.SaysX fa fn [] tf exU w h K) : DefT K mg "_law_modulus" s__law_modulus ["_law_corners"] := by
  obtain ⟨fd, F⟩ := He.SaysD.def_ (He.SaysT.d c.t) 41 (d := dd__law_modulus) rfl
  exact ⟨⟨fd, F, FunD.bindsN (ps := ["_law_corners"]) F fun _ _ _ _ _ _ us hl => match us, hl with | [_], _ => rfl⟩, He.glo_ok X G (He.SaysD.fact (He.SaysT.d c.t) 36 (f := .glo "_law_modulus") rfl)⟩
theorem d__law_map_corner {w : World} {h : Heap} {K : PySem.W.Frag} {mg : Str → Option Value} (X : K.In h) (G : h.Ns mainGlobals mg) (c : He.SaysX fa fn [] tf exU w h K) : DefT K mg "_law_map_corner" s__law_map_corner ["_law_table_here", "_law_corner"] := by
  obtain ⟨fd, F⟩ := He.SaysD.def_ (He.SaysT.d c.t) 42 (d := dd__law_map_corner) rfl
  exact ⟨⟨fd, F, FunD.bindsN (ps := ["_law_table_here", "_law_corner"]) F fun _ _ _ _ _ _ us hl => match us, hl with | [_, _], _ => rfl⟩, He.glo_ok X G (He.SaysD.fact (He.SaysT.d c.t) 37 (f := .glo "_law_map_corner") rfl)⟩
theorem d__law_mapped {w : World} {h : Heap} {K : PySem.W.Frag} {mg : Str → Option Value} (X : K.In h) (G : h.Ns mainGlobals mg) (c : He.SaysX fa fn [] tf exU w h K) : DefT K mg "_law_mapped" s__law_mapped ["_law_table_here", "_law_corners"] := by
  obtain ⟨fd, F⟩ := He.SaysD.def_ (He.SaysT.d c.t) 43 (d := dd__law_mapped) rfl
  exact ⟨⟨fd, F, FunD.bindsN (ps := ["_law_table_here", "_law_corners"]) F fun _ _ _ _ _ _ us hl => match us, hl with | [_, _], _ => rfl⟩, He.glo_ok X G (He.SaysD.fact (He.SaysT.d c.t) 38 (f := .glo "_law_mapped") rfl)⟩
theorem d__law_table {w : World} {h : Heap} {K : PySem.W.Frag} {mg : Str → Option Value} (X : K.In h) (G : h.Ns mainGlobals mg) (c : He.SaysX fa fn [] tf exU w h K) : DefT K mg "_law_table" s__law_table ["_law_pen_here", "_law_far"] := by
  obtain ⟨fd, F⟩ := He.SaysD.def_ (He.SaysT.d c.t) 44 (d := dd__law_table) rfl
  exact ⟨⟨fd, F, FunD.bindsN (ps := ["_law_pen_here", "_law_far"]) F fun _ _ _ _ _ _ us hl => match us, hl with | [_, _], _ => rfl⟩, He.glo_ok X G (He.SaysD.fact (He.SaysT.d c.t) 39 (f := .glo "_law_table") rfl)⟩
theorem d__law_shapes {w : World} {h : Heap} {K : PySem.W.Frag} {mg : Str → Option Value} (X : K.In h) (G : h.Ns mainGlobals mg) (c : He.SaysX fa fn [] tf exU w h K) : DefT K mg "_law_shapes" s__law_shapes [] := by
  obtain ⟨fd, F⟩ := He.SaysD.def_ (He.SaysT.d c.t) 45 (d := dd__law_shapes) rfl
  exact ⟨⟨fd, F, FunD.bindsN (ps := []) F fun _ _ _ _ _ _ us hl => match us, hl with | [], _ => rfl⟩, He.glo_ok X G (He.SaysD.fact (He.SaysT.d c.t) 40 (f := .glo "_law_shapes") rfl)⟩
theorem d__law_shape {w : World} {h : Heap} {K : PySem.W.Frag} {mg : Str → Option Value} (X : K.In h) (G : h.Ns mainGlobals mg) (c : He.SaysX fa fn [] tf exU w h K) : DefT K mg "_law_shape" s__law_shape ["_law_pen_here"] := by
  obtain ⟨fd, F⟩ := He.SaysD.def_ (He.SaysT.d c.t) 46 (d := dd__law_shape) rfl
  exact ⟨⟨fd, F, FunD.bindsN (ps := ["_law_pen_here"]) F fun _ _ _ _ _ _ us hl => match us, hl with | [_], _ => rfl⟩, He.glo_ok X G (He.SaysD.fact (He.SaysT.d c.t) 41 (f := .glo "_law_shape") rfl)⟩
theorem d__law_round {w : World} {h : Heap} {K : PySem.W.Frag} {mg : Str → Option Value} (X : K.In h) (G : h.Ns mainGlobals mg) (c : He.SaysX fa fn [] tf exU w h K) : DefT K mg "_law_round" s__law_round ["_law_middle", "_law_items"] := by
  obtain ⟨fd, F⟩ := He.SaysD.def_ (He.SaysT.d c.t) 47 (d := dd__law_round) rfl
  exact ⟨⟨fd, F, FunD.bindsN (ps := ["_law_middle", "_law_items"]) F fun _ _ _ _ _ _ us hl => match us, hl with | [_, _], _ => rfl⟩, He.glo_ok X G (He.SaysD.fact (He.SaysT.d c.t) 42 (f := .glo "_law_round") rfl)⟩
theorem d__law_any_shape {w : World} {h : Heap} {K : PySem.W.Frag} {mg : Str → Option Value} (X : K.In h) (G : h.Ns mainGlobals mg) (c : He.SaysX fa fn [] tf exU w h K) : DefT K mg "_law_any_shape" s__law_any_shape ["_law_pen_here"] := by
  obtain ⟨fd, F⟩ := He.SaysD.def_ (He.SaysT.d c.t) 48 (d := dd__law_any_shape) rfl
  exact ⟨⟨fd, F, FunD.bindsN (ps := ["_law_pen_here"]) F fun _ _ _ _ _ _ us hl => match us, hl with | [_], _ => rfl⟩, He.glo_ok X G (He.SaysD.fact (He.SaysT.d c.t) 43 (f := .glo "_law_any_shape") rfl)⟩
theorem d__law_stuck {w : World} {h : Heap} {K : PySem.W.Frag} {mg : Str → Option Value} (X : K.In h) (G : h.Ns mainGlobals mg) (c : He.SaysX fa fn [] tf exU w h K) : DefT K mg "_law_stuck" s__law_stuck ["_law_asked"] := by
  obtain ⟨fd, F⟩ := He.SaysD.def_ (He.SaysT.d c.t) 49 (d := dd__law_stuck) rfl
  exact ⟨⟨fd, F, FunD.bindsN (ps := ["_law_asked"]) F fun _ _ _ _ _ _ us hl => match us, hl with | [_], _ => rfl⟩, He.glo_ok X G (He.SaysD.fact (He.SaysT.d c.t) 44 (f := .glo "_law_stuck") rfl)⟩
theorem d__law_rays {w : World} {h : Heap} {K : PySem.W.Frag} {mg : Str → Option Value} (X : K.In h) (G : h.Ns mainGlobals mg) (c : He.SaysX fa fn [] tf exU w h K) : DefT K mg "_law_rays" s__law_rays ["_law_vertices", "_law_place"] := by
  obtain ⟨fd, F⟩ := He.SaysD.def_ (He.SaysT.d c.t) 50 (d := dd__law_rays) rfl
  exact ⟨⟨fd, F, FunD.bindsN (ps := ["_law_vertices", "_law_place"]) F fun _ _ _ _ _ _ us hl => match us, hl with | [_, _], _ => rfl⟩, He.glo_ok X G (He.SaysD.fact (He.SaysT.d c.t) 45 (f := .glo "_law_rays") rfl)⟩
theorem d__law_beside {w : World} {h : Heap} {K : PySem.W.Frag} {mg : Str → Option Value} (X : K.In h) (G : h.Ns mainGlobals mg) (c : He.SaysX fa fn [] tf exU w h K) : DefT K mg "_law_beside" s__law_beside ["_law_x", "_law_y", "_law_d", "_law_way", "_law_side"] := by
  obtain ⟨fd, F⟩ := He.SaysD.def_ (He.SaysT.d c.t) 51 (d := dd__law_beside) rfl
  exact ⟨⟨fd, F, FunD.bindsN (ps := ["_law_x", "_law_y", "_law_d", "_law_way", "_law_side"]) F fun _ _ _ _ _ _ us hl => match us, hl with | [_, _, _, _, _], _ => rfl⟩, He.glo_ok X G (He.SaysD.fact (He.SaysT.d c.t) 46 (f := .glo "_law_beside") rfl)⟩
theorem d__law_side_right {w : World} {h : Heap} {K : PySem.W.Frag} {mg : Str → Option Value} (X : K.In h) (G : h.Ns mainGlobals mg) (c : He.SaysX fa fn [] tf exU w h K) : DefT K mg "_law_side_right" s__law_side_right ["_law_shape_here", "_law_corners", "_law_k", "_law_d", "_law_t"] := by
  obtain ⟨fd, F⟩ := He.SaysD.def_ (He.SaysT.d c.t) 52 (d := dd__law_side_right) rfl
  exact ⟨⟨fd, F, FunD.bindsN (ps := ["_law_shape_here", "_law_corners", "_law_k", "_law_d", "_law_t"]) F fun _ _ _ _ _ _ us hl => match us, hl with | [_, _, _, _, _], _ => rfl⟩, He.glo_ok X G (He.SaysD.fact (He.SaysT.d c.t) 47 (f := .glo "_law_side_right") rfl)⟩
theorem d_law {w : World} {h : Heap} {K : PySem.W.Frag} {mg : Str → Option Value} (X : K.In h) (G : h.Ns mainGlobals mg) (c : He.SaysX fa fn [] tf exU w h K) : DefT K mg "law" s_law ["_law_script"] := by
  obtain ⟨fd, F⟩ := He.SaysD.def_ (He.SaysT.d c.t) 53 (d := dd_law) rfl
  exact ⟨⟨fd, F, FunD.bindsN (ps := ["_law_script"]) F fun _ _ _ _ _ _ us hl => match us, hl with | [_], _ => rfl⟩, He.glo_ok X G (He.SaysD.fact (He.SaysT.d c.t) 48 (f := .glo "law") rfl)⟩
theorem txt_ok {w : World} {h : Heap} {K : PySem.W.Frag} {mg : Str → Option Value} (X : K.In h) (G : h.Ns mainGlobals mg) (c : He.SaysX fa fn [] tf exU w h K) : Txt K mg where
  f_isinstance := He.free_ok X G (He.SaysD.fact (He.SaysT.d c.t) 51 (f := .free "isinstance") rfl)
  f_int := He.free_ok X G (He.SaysD.fact (He.SaysT.d c.t) 52 (f := .free "int") rfl)
  f_bool := He.free_ok X G (He.SaysD.fact (He.SaysT.d c.t) 53 (f := .free "bool") rfl)
  f_abs := He.free_ok X G (He.SaysD.fact (He.SaysT.d c.t) 54 (f := .free "abs") rfl)
  f_len := He.free_ok X G (He.SaysD.fact (He.SaysT.d c.t) 55 (f := .free "len") rfl)
  f_tuple := He.free_ok X G (He.SaysD.fact (He.SaysT.d c.t) 56 (f := .free "tuple") rfl)
  f_list := He.free_ok X G (He.SaysD.fact (He.SaysT.d c.t) 57 (f := .free "list") rfl)
  f_all := He.free_ok X G (He.SaysD.fact (He.SaysT.d c.t) 58 (f := .free "all") rfl)
  f_min := He.free_ok X G (He.SaysD.fact (He.SaysT.d c.t) 59 (f := .free "min") rfl)
  f_max := He.free_ok X G (He.SaysD.fact (He.SaysT.d c.t) 60 (f := .free "max") rfl)
  f_range := He.free_ok X G (He.SaysD.fact (He.SaysT.d c.t) 61 (f := .free "range") rfl)
  f_enumerate := He.free_ok X G (He.SaysD.fact (He.SaysT.d c.t) 62 (f := .free "enumerate") rfl)
  f_dict := He.free_ok X G (He.SaysD.fact (He.SaysT.d c.t) 63 (f := .free "dict") rfl)
  m_MAX_DENOMINATOR := by
    obtain ⟨t, ht⟩ := He.int_ok X G (He.SaysD.fact (He.SaysT.d c.t) 64 (f := .int "MAX_DENOMINATOR" (1000000)) rfl)
    exact ⟨_, ht, t, rfl⟩
  m_MAX_DISTANCE := by
    obtain ⟨t, ht⟩ := He.int_ok X G (He.SaysD.fact (He.SaysT.d c.t) 65 (f := .int "MAX_DISTANCE" (10 ^ 40)) rfl)
    exact ⟨_, ht, t, rfl⟩
  m_MAX_COORDINATE := by
    obtain ⟨t, ht⟩ := He.int_ok X G (He.SaysD.fact (He.SaysT.d c.t) 66 (f := .int "MAX_COORDINATE" (60)) rfl)
    exact ⟨_, ht, t, rfl⟩
  m_MIN_VERTICES := by
    obtain ⟨t, ht⟩ := He.int_ok X G (He.SaysD.fact (He.SaysT.d c.t) 67 (f := .int "MIN_VERTICES" (3)) rfl)
    exact ⟨_, ht, t, rfl⟩
  m_MAX_VERTICES := by
    obtain ⟨t, ht⟩ := He.int_ok X G (He.SaysD.fact (He.SaysT.d c.t) 68 (f := .int "MAX_VERTICES" (6)) rfl)
    exact ⟨_, ht, t, rfl⟩
theorem poly_ok {w : World} {h : Heap} {K : PySem.W.Frag} {mg : Str → Option Value} (X : K.In h) (G : h.Ns mainGlobals mg) (c : He.SaysX fa fn [] tf exU w h K) : PolyT K mg (He.ga K "Polygon") where
  cl := He.cls_ok (x := "Polygon") (He.SaysD.fact (He.SaysT.d c.t) 69 rfl)
  nC := He.noat_ok (x := "Polygon") (He.SaysD.fact (He.SaysT.d c.t) 70 rfl)
  mV := He.meth_ok (x := "Polygon") (He.SaysD.fact (He.SaysT.d c.t) 71 rfl)
  mE := He.meth_ok (x := "Polygon") (He.SaysD.fact (He.SaysT.d c.t) 72 rfl)
  mL := He.meth_ok (x := "Polygon") (He.SaysD.fact (He.SaysT.d c.t) 73 rfl)
  ini := He.mkr_ok (x := "Polygon") (He.SaysD.fact (He.SaysT.d c.t) 74 rfl)
  g := He.glo_ok X G (He.SaysD.fact (He.SaysT.d c.t) 49 (f := .glo "Polygon") rfl)
theorem und_ok {w : World} {h : Heap} {K : PySem.W.Frag} {mg : Str → Option Value} (X : K.In h) (G : h.Ns mainGlobals mg) (c : He.SaysX fa fn [] tf exU w h K) : PySem.UndX.UndT K mg (He.ga K "Undefined") (He.ma K (He.ga K "Undefined") "__init__") := by
  have e : exU K = true := c.more
  unfold exU at e
  obtain ⟨ea, eb⟩ := He.ba e
  obtain ⟨a1, ea⟩ := He.ba ea
  obtain ⟨a2, ea⟩ := He.ba ea
  obtain ⟨a3, ea⟩ := He.ba ea
  obtain ⟨a4, ea⟩ := He.ba ea
  obtain ⟨a5, ea⟩ := He.ba ea
  obtain ⟨a6, a7⟩ := He.ba ea
  obtain ⟨b1, eb⟩ := He.ba eb
  obtain ⟨b2, eb⟩ := He.ba eb
  obtain ⟨b3, b4⟩ := He.ba eb
  obtain ⟨fd, F⟩ := He.SaysD.def_ (He.SaysT.d c.t) 0 (d := dd_Undefined_uinitu) rfl
  refine ⟨He.glo_ok X G (He.SaysD.fact (He.SaysT.d c.t) 50 (f := .glo "Undefined") rfl), a1, a2, a3, He.eqO_ok a4, He.eqO_ok a5, He.eqO_ok a6, He.noat_ok (x := "Undefined") (He.SaysD.fact (He.SaysT.d c.t) 77 rfl), He.eqO_ok a7, of_decide_eq_true b1,
    He.keep_ok (x := "Undefined") (He.SaysD.fact (He.SaysT.d c.t) 76 rfl), of_decide_eq_true b2, of_decide_eq_true b3, b4, He.exm_ok (x := "Undefined") (y := "Undefined") (He.SaysD.fact (He.SaysT.d c.t) 75 rfl), ?_⟩
  obtain ⟨oc, od, dV, kV, doc, pm, an, cdv, ct, osl, e1, lk, hcd, hD, _⟩ := F.ex
  subst e1
  have hdv : dV = .none := by
    rcases hD with ⟨_, z⟩ | ⟨z, _⟩
    · exact z
    · exact absurd rfl z
  exact ⟨oc, od, doc, pm, dV, kV, an, cdv, ct, osl, lk, hcd, hdv⟩
end KP

set_option Elab.async false
set_option linter.all false
set_option maxRecDepth 100000
set_option maxHeartbeats 0
namespace KP
open PySem PySem.Spec PyProof.Rows L2 KM
/-! ### all together -/
theorem law_all {P : Program} {w : World} {h : Heap} {K : PySem.W.Frag} {mg : Str → Option Value} {base : Heap} {fd : FuncData} (X : K.In h) (G : h.Ns mainGlobals mg) (c : He.SaysX fa fn [] tf exU w h K)
    (F : FunD K "law" "law" (defArgs s_law) (defBody s_law) (defScope s_law) [] [] (He.ga K "law") fd) (TB : LamX.TabB base mg (cSR K).1 (cSR K).2) : FnOk P w K mg base C8.CX0 11 (He.ga K "law") fd ["_law_script"] (spLaw K (TSR K)) := by
  have T := txt_ok X G c
  have Y := poly_ok X G c
  have TU := und_ok X G c
  have c_is_int : C8.Cal P w K mg base 1 "is_int" spIsInt [] := ok_is_int T (d_is_int X G c)
  have c_is_int_in : C8.Cal P w K mg base 2 "is_int_in" spIsIntIn [] := ok_is_int_in T (d_is_int_in X G c) c_is_int
  have c_gcd : C8.Cal P w K mg base 1 "gcd" spGcd [] := ok_gcd T (d_gcd X G c)
  have c_cross : C8.Cal P w K mg base 1 "cross" (spCross K) [] := ok_cross T (d_cross X G c)
  have c_difference : C8.Cal P w K mg base 1 "difference" (spDifference K) [] := ok_difference T (d_difference X G c)
  have c_shapeP : C8.Cal P w K mg base 2 "is_point_shape" (spShapeP K) [] := ok_shapeP T (d_is_point_shape X G c) c_is_int c_gcd
  have c_isPoint : C8.Cal P w K mg base 3 "is_point" (spIsPoint K) [] := ok_isPoint T (d_is_point X G c) c_is_int_in c_shapeP
  have c_reqPoint : C8.Cal P w K mg base 4 "require_point" (spReqPoint K) [] := ok_reqPoint T (d_require_point X G c) c_isPoint
  have c_reflected : C8.Cal P w K mg base 1 "reflected" (spReflected K) [] := ok_reflected T (d_reflected X G c)
  have c_plen : C8.Met P w K mg base 1 (He.ga K "Polygon") "__len__" (spLen K (He.ga K "Polygon")) [] := ok_plen T Y (d_Polygon_ulenu c)
  have c_vertex : C8.Met P w K mg base 1 (He.ga K "Polygon") "vertex" (spVertex K (He.ga K "Polygon")) [] := ok_vertex T Y (d_Polygon_vertex c)
  have c_edge : C8.Met P w K mg base 2 (He.ga K "Polygon") "edge" (spEdge K (He.ga K "Polygon")) [] := ok_edge T Y (d_Polygon_edge c) c_vertex c_difference
  have c_edgeSide : C8.Cal P w K mg base 3 "edge_side" (spEdgeSide K (He.ga K "Polygon")) [] := ok_edgeSide T (d_edge_side X G c) c_vertex c_edge c_cross
  have c_edgeSides : C8.Cal P w K mg base 4 "edge_sides" (spEdgeSides K (He.ga K "Polygon")) [] := ok_edgeSides T (d_edge_sides X G c) c_plen c_edgeSide
  have c_liesOut : C8.Cal P w K mg base 5 "lies_outside" (spLiesOut K (He.ga K "Polygon")) [] := ok_liesOut T (d_lies_outside X G c) c_edgeSides
  have c_reqOut : C8.Cal P w K mg base 6 "require_outside" (spReqOut K (He.ga K "Polygon")) [] := ok_reqOut T (d_require_outside X G c) c_reqPoint c_liesOut
  have c_tanIx : C8.Cal P w K mg base 5 "tangent_index" (spTan K (He.ga K "Polygon") TanAt) [] := ok_tanIx T (d_tangent_index X G c) c_edgeSides
  have c_backIx : C8.Cal P w K mg base 5 "back_tangent_index" (spTan K (He.ga K "Polygon") BackAt) [] := ok_backIx T (d_back_tangent_index X G c) c_edgeSides
  have c_image : C8.Cal P w K mg base 6 "image" (spImage K (He.ga K "Polygon") TanAt) [] := ok_image T (d_image X G c) c_tanIx c_reflected c_vertex
  have c_backImage : C8.Cal P w K mg base 6 "back_image" (spImage K (He.ga K "Polygon") BackAt) [] := ok_backImage T (d_back_image X G c) c_backIx c_reflected c_vertex
  have c_reqDef : CalX P w K mg base 2 "require_defined" (spReqDef (He.ga K "Undefined")) := ok_reqDef T TU (d_require_defined X G c)
  have c_tangent : CalX P w K mg base 7 "tangent_vertex" (spTangent K (He.ga K "Polygon") (He.ga K "Undefined")) := ok_tangent T (d_tangent_vertex X G c) c_reqOut c_tanIx c_reqDef
  have c_reflect : CalX P w K mg base 7 "reflect" (spReflect K (He.ga K "Polygon") (He.ga K "Undefined") TanAt) := ok_reflect T (d_reflect X G c) c_reqOut c_image c_reqDef
  have c_reflectBack : CalX P w K mg base 7 "reflect_back" (spReflect K (He.ga K "Polygon") (He.ga K "Undefined") BackAt) := ok_reflectBack T (d_reflect_back X G c) c_reqOut c_backImage c_reqDef
  have c_isVertex : C8.Cal P w K mg base 3 "is_vertex" (spIsVertex K) [] := ok_isVertex T (d_is_vertex X G c) c_is_int_in
  have c_isConvex : C8.Cal P w K mg base 2 "is_convex" (spIsConvex K) [] := ok_isConvex T (d_is_convex X G c) c_difference c_cross
  have c_reqVerts : C8.Cal P w K mg base 4 "require_vertices" (spReqVerts K) [] := ok_reqVerts T (d_require_vertices X G c) c_isVertex c_isConvex
  have c_init : C8.Mak P w K mg base 5 "Polygon" (He.ga K "Polygon") (spInit K (He.ga K "Polygon")) [] := ok_init T Y (d_Polygon_uinitu c) c_reqVerts
  have c_pen : C8.Cal P w K mg base 1 "_law_pen" (spPen K) [] := ok_pen T (d__law_pen X G c)
  have c_draw : C8.Cal P w K mg base 1 "_law_draw" spDraw [] := ok_draw T (d__law_draw X G c)
  have c_pick : C8.Cal P w K mg base 2 "_law_pick" (spPick K) [] := ok_pick T (d__law_pick X G c) c_draw
  have c_great : C8.Cal P w K mg base 2 "_law_great" spGreat [] := ok_great T (d__law_great X G c) c_draw
  have c_lgcd : C8.Cal P w K mg base 1 "_law_gcd" spGcd [] := ok_lgcd T (d__law_gcd X G c)
  have c_lcross : C8.Cal P w K mg base 1 "_law_cross" (spCross K) [] := ok_lcross T (d__law_cross X G c)
  have c_form : C8.Cal P w K mg base 2 "_law_point_form" (spForm K) [] := ok_form T (d__law_point_form X G c) c_lgcd
  have c_beside : C8.Cal P w K mg base 3 "_law_beside" (spBeside K) [] := ok_beside T (d__law_beside X G c) c_form
  have c_mapC : C8.Cal P w K mg base 1 "_law_map_corner" (spMapC K) [] := ok_mapC T (d__law_map_corner X G c)
  have c_least : C8.Cal P w K mg base 1 "_law_from_least" (spLeast K) [] := ok_least T (d__law_from_least X G c)
  have c_round : C8.Cal P w K mg base 2 "_law_round" (spRound K) [] := ok_round T (d__law_round X G c) c_lcross
  have c_rays : C8.Cal P w K mg base 2 "_law_rays" (spRays K) [] := ok_rays T (d__law_rays X G c) c_lcross
  have c_lconvex : C8.Cal P w K mg base 2 "_law_is_convex" (spLConvex K) [] := ok_lconvex T (d__law_is_convex X G c) c_lcross
  have c_dirs : C8.Cal P w K mg base 2 "_law_directions" (spDirs K) [] := ok_dirs T (d__law_directions X G c) c_lcross c_lgcd
  have c_farShift : C8.Cal P w K mg base 2 "_law_far_shift" (spFarShift K) [] := ok_farShift T (d__law_far_shift X G c) c_lcross
  have c_farRows : C8.Cal P w K mg base 3 "_law_far_rows" (spFarRows K) [] := ok_farRows T (d__law_far_rows X G c) c_lcross c_dirs c_farShift
  have c_modulus : C8.Cal P w K mg base 4 "_law_modulus" (spModulus K) [] := ok_modulus T (d__law_modulus X G c) c_lgcd c_farRows
  have c_mapped : C8.Cal P w K mg base 2 "_law_mapped" (spMapped K) [] := ok_mapped T (d__law_mapped X G c) c_mapC c_lcross c_least
  have c_table : C8.Cal P w K mg base 3 "_law_table" (spTable K) [] := ok_table T (d__law_table X G c) c_draw c_pick c_mapC
  have c_shapes : C8.Cal P w K mg base 1 "_law_shapes" (spShapes K) [] := ok_shapes T (d__law_shapes X G c)
  have c_shape : C8.Cal P w K mg base 5 "_law_shape" (spShape K) [] := ok_shape T (d__law_shape X G c) c_pick c_draw c_mapped c_table c_modulus c_least c_shapes
  have c_any : C8.Cal P w K mg base 6 "_law_any_shape" (spAny K) [] := ok_any T (d__law_any_shape X G c) c_draw c_round c_lconvex c_least c_shape
  have c_side : C8.Cal P w K mg base 10 "_law_side_right" (spSide K (He.ga K "Polygon") (TSR K)) [] := ok_sideRight T TU (d__law_stuck X G c) TB (d__law_side_right X G c) c_beside c_rays c_reflect c_reflectBack c_tangent
  exact ok_law T F (d__law_shape X G c) (d__law_any_shape X G c) (shapes_at (d__law_shape X G c) (d__law_any_shape X G c) c_shape c_any) c_pen c_draw c_pick c_great c_init c_side
theorem law_at {w : World} {h : Heap} {K : PySem.W.Frag} {mg : Str → Option Value} (X : K.In h) (G : h.Ns mainGlobals mg) (c : He.SaysX fa fn [] tf exU w h K) {l : PySem.W.OpenLaw} : LamX.LawAtS l w K C8.CX0 11 63 "_law_script" mg (He.ga K "law") h := by
  obtain ⟨fd, F⟩ := He.SaysD.defs (He.SaysT.d c.t) (d := dd_law) (by unfold fn; simp only [List.mem_cons, true_or, or_true])
  have F : FunD K "law" "law" (defArgs s_law) (defBody s_law) (defScope s_law) [] [] (He.ga K "law") fd := F
  have b := FunD.bindsA (ps := ["_law_script"]) F fun _ _ _ _ _ _ us hl => match us, hl with | [_], _ => rfl
  have m : (("_law_side_right", none) : He.Defn) ∈ tf := List.mem_singleton.mpr rfl
  refine ⟨fd, [cSR K], spLaw K (TSR K), fun p hp => ?_, fun p hp => ?_, fun p hp => ?_, fun s u => b s [u] rfl, fun H a ns hl _ hH hS => ?_, fun base _ _ TB => law_all X G c F (TB _ (List.mem_singleton.mpr rfl))⟩
  · rw [List.mem_singleton.mp hp]; exact c.empty _ m
  · rw [List.mem_singleton.mp hp]; exact c.out _ m
  · rw [List.mem_singleton.mp hp]; exact PySem.W.codeHd_of_K X (c.hd _ m)
  · refine ⟨a, ns, rfl, hS, hl, fun p hp => ?_, fun _ => rfl⟩
    rw [List.mem_singleton.mp hp]
    exact LamX.TabS.nil (hH _ (List.mem_singleton.mpr rfl))
end KP
open PySem PySem.W PySem.Calls PyProof.Rows
theorem PySem.Challenge.cw_outleap_k09_whole_undefined_rays_holds : PySem.Challenge.rw_outleap_k09_whole_undefined_rays.Holds := by
  w_on; o_law
  refine HandSHeadRun.head_any (r := KP.R) (q := view KP.R.prog [64]) (H := KP.hk) (ob := KP.ob) (M := 4000) (loose := KP.loose) (d := HandSHeadRun.topDef KP.R.prog 64) (kwd := []) KP.ob_eq
    (by kernel_rfl) (fun s => by kernel_rfl) KP.run (by kernel_rfl) (by kernel_rfl) (by kernel_rfl) (by rfl) (by first | assumption | decide +kernel) (by decide +kernel) ⟨rfl, rfl, rfl, rfl, rfl, by decide +kernel⟩ ?hw ?hc
  case hw => w_witness2
  case hc =>
    refine LamX.walk_ofTsE (l := PySem.Challenge.rw_outleap_k09_whole_undefined_rays) (n := 63) (k := 11) (x := "_law_script") (CX := fun _ => C8.CX0) rfl (by decide) (by kernel_rfl) ⟨rfl, by decide, by decide⟩ ?F (fun _ _ _ _ _ z => z)
    intro w mg f h Y G hmg0
    obtain ⟨K, KX, c⟩ := Y
    have hmg : mg ("law" : PySem.Str) = some (.ref f) := by
      have e : (HandSHeadRun.topDef KP.R.prog 64).name = ("law" : PySem.Str) := by kernel_rfl
      rw [← e]
      exact hmg0
    have e := hmg.symm.trans (KP.d_law KX G c).g
    have ef : f = He.ga K "law" := Value.ref.inj (Option.some.inj e)
    rw [ef]
    exact ⟨K, KX, KP.law_at KX G c⟩
