import PyProof.Rows.All
import Wide.All
import OpenK.AllK
import Wide.FinOn
import HandS.ForMost
import HandS.Walk
import HandS.Style
import HandS.IsInst
import HandS.Codes
import KE.GoesEnum
import KE.GoesMore
import KE.DataMinMax
import PySem.Challenge.RW_palbuilds_k67_whole_middles
set_option Elab.async false
set_option linter.all false
set_option maxRecDepth 100000
/-! Plain mathematics for the law: radii of mirrors (Manacher), counting, cuts, common pieces. No program in sight. -/
namespace Pm
/-! ### pieces and mirrors -/
def seg (w : List Nat) (a b : Nat) : List Nat := (w.drop a).take (b - a)
theorem seg_get {w : List Nat} {a b i : Nat} (h : i < b - a) : (seg w a b)[i]? = w[a + i]? := by
  unfold seg
  rw [List.getElem?_take_of_lt h, List.getElem?_drop]
theorem seg_len {w : List Nat} {a b : Nat} (h : b ≤ w.length) : (seg w a b).length = b - a := by
  unfold seg
  rw [List.length_take, List.length_drop]
  omega
abbrev mirW (w : List Nat) (a b : Nat) : Prop := seg w a b = (seg w a b).reverse
theorem mirW_iff {w : List Nat} {a b : Nat} (hb : b ≤ w.length) (hab : a ≤ b) : mirW w a b ↔ ∀ i j, a ≤ i → i < b → i + j + 1 = a + b → w[i]? = w[j]? := by
  have hl := seg_len (w := w) (a := a) hb
  constructor
  · intro h i j hi hj hij
    have e1 : w[i]? = (seg w a b)[i - a]? := by
      rw [seg_get (by omega)]
      congr 1
      omega
    have e2 : w[j]? = (seg w a b)[j - a]? := by
      rw [seg_get (by omega)]
      congr 1
      omega
    rw [e1, e2]
    have h2 : (seg w a b)[i - a]? = ((seg w a b).reverse)[i - a]? := congrArg (fun l => l[i - a]?) h
    rw [h2, List.getElem?_reverse (by omega), hl]
    congr 1
    omega
  · intro h
    refine List.ext_getElem? fun i => ?_
    by_cases hi : i < b - a
    · rw [List.getElem?_reverse (by omega), hl, seg_get hi, seg_get (by omega)]
      exact h (a + i) (a + (b - a - 1 - i)) (by omega) (by omega) (by omega)
    · rw [List.getElem?_eq_none (by omega), List.getElem?_eq_none (by rw [List.length_reverse]; omega)]
/-! ### radii in a list of signs -/
def mirAt (s : List Nat) (q r : Nat) : Prop := r ≤ q ∧ q + r < s.length ∧ ∀ d, d ≤ r → s[q - d]? = s[q + d]?
theorem mirAt_mono {s : List Nat} {q r r' : Nat} (h : mirAt s q r) (hr : r' ≤ r) : mirAt s q r' :=
  ⟨by have := h.1; omega, by have := h.2.1; omega, fun d hd => h.2.2 d (by omega)⟩
theorem mirAt_zero {s : List Nat} {q : Nat} (h : q < s.length) : mirAt s q 0 := ⟨Nat.zero_le _, h, fun d hd => by
  have e : d = 0 := by omega
  subst e
  rfl⟩
theorem mirAt_succ {s : List Nat} {q r : Nat} (h : mirAt s q r) (h1 : r + 1 ≤ q) (h2 : q + (r + 1) < s.length) (h3 : s[q - (r + 1)]? = s[q + (r + 1)]?) : mirAt s q (r + 1) :=
  ⟨h1, h2, fun d hd => by
    by_cases e : d = r + 1
    · subst e
      exact h3
    · exact h.2.2 d (by omega)⟩
open Classical in
noncomputable def radTo (s : List Nat) (q : Nat) : Nat → Nat
  | 0 => 0
  | k + 1 => if mirAt s q (k + 1) then k + 1 else radTo s q k
noncomputable def rad (s : List Nat) (q : Nat) : Nat := radTo s q s.length
theorem radTo_mir {s : List Nat} {q : Nat} (h : q < s.length) : ∀ k, mirAt s q (radTo s q k)
  | 0 => mirAt_zero h
  | k + 1 => by
    unfold radTo
    split
    · assumption
    · exact radTo_mir h k
theorem radTo_max {s : List Nat} {q r : Nat} (h : mirAt s q r) : ∀ k, r ≤ k → r ≤ radTo s q k
  | 0, hk => by omega
  | k + 1, hk => by
    unfold radTo
    split
    · exact hk
    · rename_i hn
      by_cases e : r = k + 1
      · subst e
        exact absurd h hn
      · exact radTo_max h k (by omega)
theorem rad_mir {s : List Nat} {q : Nat} (h : q < s.length) : mirAt s q (rad s q) := radTo_mir h _
theorem rad_max {s : List Nat} {q r : Nat} (h : mirAt s q r) : r ≤ rad s q := radTo_max h _ (by have := h.2.1; omega)
theorem rad_eq {s : List Nat} {q r : Nat} (h : mirAt s q r) (hn : ¬ mirAt s q (r + 1)) : rad s q = r := by
  have h1 := rad_max h
  have hq : q < s.length := by have := h.2.1; omega
  have h2 := rad_mir hq
  by_cases e : rad s q = r
  · exact e
  · exact absurd (mirAt_mono h2 (by omega)) hn
theorem rad_le {s : List Nat} {q : Nat} (h : q < s.length) : rad s q ≤ q ∧ q + rad s q < s.length := ⟨(rad_mir h).1, (rad_mir h).2.1⟩
/-- Manacher's step: within a known mirror the radius about the other side is known up to its end -/
theorem mirAt_reflect {s : List Nat} {m p r : Nat} (hm : m < s.length) (hmp : m < p) (hr : r ≤ rad s (2 * m - p)) (hp2 : p ≤ 2 * m) (he : p + r ≤ m + rad s m) : mirAt s p r := by
  have hM := rad_mir hm
  have hj : 2 * m - p < s.length := by omega
  have hJ := rad_mir hj
  have r1 := hM.1
  have r2 := hM.2.1
  refine ⟨by omega, by omega, fun d hd => ?_⟩
  have a1 : s[p + d]? = s[2 * m - p - d]? := by
    have := hM.2.2 (p + d - m) (by omega)
    rw [show m + (p + d - m) = p + d by omega, show m - (p + d - m) = 2 * m - p - d by omega] at this
    exact this.symm
  have a2 : s[p - d]? = s[2 * m - p + d]? := by
    by_cases hc : m ≤ p - d
    · have := hM.2.2 (p - d - m) (by omega)
      rw [show m + (p - d - m) = p - d by omega, show m - (p - d - m) = 2 * m - p + d by omega] at this
      exact this.symm
    · have := hM.2.2 (m - (p - d)) (by omega)
      rw [show m - (m - (p - d)) = p - d by omega, show m + (m - (p - d)) = 2 * m - p + d by omega] at this
      exact this
  rw [a1, a2]
  exact (hJ.2.2 d (by omega)).symm
/-! ### the signs of a word -/
def sg (w : List Nat) : List Nat := 45 :: w.flatMap fun c => [c, 45]
theorem sg_len (w : List Nat) : (sg w).length = 2 * w.length + 1 := by
  unfold sg
  rw [List.length_cons]
  congr 1
  induction w with
  | nil => rfl
  | cons c r ih =>
    rw [List.flatMap_cons, List.length_append, ih, List.length_cons]
    simp only [List.length_cons, List.length_nil]
    omega
theorem fl_get : ∀ (w : List Nat) (i : Nat), (w.flatMap fun c => [c, 45])[2 * i]? = w[i]? ∧ (i < w.length → (w.flatMap fun c => [c, 45])[2 * i + 1]? = some 45)
  | [], i => by simp
  | c :: r, 0 => by simp
  | c :: r, i + 1 => by
    have ih := fl_get r i
    have e : (c :: r).flatMap (fun c => [c, 45]) = c :: 45 :: r.flatMap (fun c => [c, 45]) := rfl
    rw [e]
    constructor
    · rw [show 2 * (i + 1) = 2 * i + 1 + 1 by omega, List.getElem?_cons_succ, List.getElem?_cons_succ, List.getElem?_cons_succ]
      exact ih.1
    · intro h
      rw [show 2 * (i + 1) + 1 = 2 * i + 1 + 1 + 1 by omega, List.getElem?_cons_succ, List.getElem?_cons_succ]
      exact ih.2 (by simpa using h)
theorem sg_odd (w : List Nat) (i : Nat) : (sg w)[2 * i + 1]? = w[i]? := by
  unfold sg
  rw [List.getElem?_cons_succ]
  exact (fl_get w i).1
theorem sg_even {w : List Nat} {i : Nat} (h : i ≤ w.length) : (sg w)[2 * i]? = some 45 := by
  unfold sg
  cases i with
  | zero => rfl
  | succ i =>
    rw [show 2 * (i + 1) = 2 * i + 1 + 1 by omega, List.getElem?_cons_succ]
    exact (fl_get w i).2 (by omega)
theorem mir_sg {w : List Nat} {a b : Nat} (hab : a ≤ b) (hb : b ≤ w.length) : mirW w a b ↔ mirAt (sg w) (a + b) (b - a) := by
  rw [mirW_iff hb hab]
  have hl := sg_len w
  constructor
  · intro h
    refine ⟨by omega, by omega, fun d hd => ?_⟩
    rcases Nat.mod_two_eq_zero_or_one (a + b - d) with e | e
    · rw [show a + b - d = 2 * ((a + b - d) / 2) by omega, show a + b + d = 2 * ((a + b + d) / 2) by omega, sg_even (by omega), sg_even (by omega)]
    · rw [show a + b - d = 2 * ((a + b - d) / 2) + 1 by omega, show a + b + d = 2 * ((a + b + d) / 2) + 1 by omega, sg_odd, sg_odd]
      exact h _ _ (by omega) (by omega) (by omega)
  · intro h i j hi hj hij
    by_cases hc : i ≤ j
    · have := h.2.2 (j - i) (by omega)
      rw [show a + b - (j - i) = 2 * i + 1 by omega, show a + b + (j - i) = 2 * j + 1 by omega, sg_odd, sg_odd] at this
      exact this
    · have := h.2.2 (i - j) (by omega)
      rw [show a + b - (i - j) = 2 * j + 1 by omega, show a + b + (i - j) = 2 * i + 1 by omega, sg_odd, sg_odd] at this
      exact this.symm
theorem rad_parity {w : List Nat} {q : Nat} (h : q < 2 * w.length + 1) : (q - rad (sg w) q) % 2 = 0 := by
  have hl := sg_len w
  have hq : q < (sg w).length := by omega
  have h1 := rad_mir hq
  have r1 := h1.1
  have r2 := h1.2.1
  rcases Nat.mod_two_eq_zero_or_one (q - rad (sg w) q) with e | e
  · exact e
  · have h3 : mirAt (sg w) q (rad (sg w) q + 1) := by
      refine mirAt_succ h1 (by omega) (by omega) ?_
      rw [show q - (rad (sg w) q + 1) = 2 * ((q - (rad (sg w) q + 1)) / 2) by omega, show q + (rad (sg w) q + 1) = 2 * ((q + (rad (sg w) q + 1)) / 2) by omega, sg_even (by omega), sg_even (by omega)]
    have := rad_max h3
    omega
/-- the test of cuts: the radius reaches -/
theorem reach {w : List Nat} {a b : Nat} (hab : a ≤ b) (hb : b ≤ w.length) : b - a ≤ rad (sg w) (a + b) ↔ mirW w a b := by
  have hl := sg_len w
  rw [mir_sg hab hb]
  constructor
  · intro h
    exact mirAt_mono (rad_mir (by omega)) h
  · exact rad_max
theorem mir_one {w : List Nat} {a : Nat} (h : a < w.length) : mirW w a (a + 1) := by
  rw [mirW_iff (by omega) (by omega)]
  intro i j h1 h2 h3
  rw [show i = j by omega]
noncomputable def rads (w : List Nat) : List Nat := (List.range (2 * w.length + 1)).map (rad (sg w))
theorem rads_len (w : List Nat) : (rads w).length = 2 * w.length + 1 := by unfold rads; simp
theorem rads_get {w : List Nat} {c : Nat} (h : c < 2 * w.length + 1) : (rads w)[c]? = some (rad (sg w) c) := by
  unfold rads
  rw [List.getElem?_map, List.getElem?_range h]
  rfl
/-! ### tables over range, changed at one place -/
theorem map_set {α : Type} {N c : Nat} {f g : Nat → α} {v : α} (hg : g c = v) (hs : ∀ d, d < N → d ≠ c → g d = f d) : ((List.range N).map f).set c v = (List.range N).map g := by
  refine List.ext_getElem? fun i => ?_
  by_cases hi : i < N
  · rw [List.getElem?_set]
    by_cases hc : c = i
    · subst hc
      simp [hi, hg]
    · simp [hc, hi, hs i hi (fun e => hc e.symm)]
  · rw [List.getElem?_eq_none (by simp; omega), List.getElem?_eq_none (by simp; omega)]
theorem map_same {α : Type} {N : Nat} {f g : Nat → α} (hs : ∀ d, d < N → g d = f d) : (List.range N).map g = (List.range N).map f :=
  List.map_congr_left fun d hd => hs d (List.mem_range.mp hd)
theorem sum_point : ∀ (N : Nat) {c k : Nat} {f g : Nat → Nat}, c < N → g c = f c + k → (∀ d, d < N → d ≠ c → g d = f d) → ((List.range N).map g).sum = ((List.range N).map f).sum + k
  | 0, c, k, f, g, hc, _, _ => by omega
  | N + 1, c, k, f, g, hc, he, hs => by
    rw [List.range_succ, List.map_append, List.map_append, List.sum_append, List.sum_append]
    simp only [List.map_cons, List.map_nil, List.sum_cons, List.sum_nil]
    by_cases e : c = N
    · subst e
      rw [he, map_same (f := f) (g := g) fun d hd => hs d (by omega) (by omega)]
      omega
    · rw [sum_point N (c := c) (k := k) (f := f) (g := g) (by omega) he fun d hd => hs d (by omega), hs N (by omega) (by omega)]
      omega
/-! ### what the law's two loops have found behind i starts and j ends of the next one -/
noncomputable def s0 (w : List Nat) (c : Nat) : Nat := (c - rad (sg w) c) / 2
noncomputable def Gc (w : List Nat) (i c : Nat) : Nat := min i ((c + 1) / 2) - s0 w c
noncomputable def Dc (w : List Nat) (i c : Nat) : Nat := if s0 w c < i then rad (sg w) c else 0
def inRow (i j c : Nat) : Prop := 2 * i + 1 ≤ c ∧ c ≤ 2 * i + j
instance (i j c : Nat) : Decidable (inRow i j c) := by unfold inRow; infer_instance
noncomputable def Gm (w : List Nat) (i j c : Nat) : Nat := if inRow i j c then Gc w (i + 1) c else Gc w i c
noncomputable def Dm (w : List Nat) (i j c : Nat) : Nat := if inRow i j c then Dc w (i + 1) c else Dc w i c
noncomputable def tot (w : List Nat) (i j : Nat) : Nat := ((List.range (2 * w.length + 1)).map (Gm w i j)).sum
noncomputable def due (w : List Nat) (i j : Nat) : List Nat := (List.range (2 * w.length + 1)).map (Dm w i j)
theorem rad_le' {w : List Nat} {c : Nat} (h : c < 2 * w.length + 1) : rad (sg w) c ≤ c ∧ c + rad (sg w) c < 2 * w.length + 1 := by
  have := rad_le (s := sg w) (q := c) (by rw [sg_len]; exact h)
  rw [sg_len] at this
  exact this
theorem s0_le {w : List Nat} {i j : Nat} (h : i + 1 + j ≤ w.length) : s0 w (2 * i + 1 + j) ≤ i ↔ mirW w i (i + 1 + j) := by
  rw [← reach (by omega) h]
  have h1 := rad_parity (w := w) (q := 2 * i + 1 + j) (by omega)
  have h2 := rad_le' (w := w) (c := 2 * i + 1 + j) (by omega)
  unfold s0
  rw [show i + (i + 1 + j) = 2 * i + 1 + j by omega]
  omega
theorem tot_zero (w : List Nat) : tot w 0 0 = 0 := by
  unfold tot
  have : ∀ N, ((List.range N).map (Gm w 0 0)).sum = 0 := fun N => by
    rw [map_same (f := fun _ => 0) fun d hd => ?_]
    · induction N with
      | zero => rfl
      | succ N ih => rw [List.range_succ, List.map_append, List.sum_append, ih]; rfl
    · unfold Gm Gc
      rw [if_neg (by unfold inRow; omega)]
      omega
  exact this _
theorem due_zero (w : List Nat) : due w 0 0 = (List.range (2 * w.length + 1)).map fun _ => 0 := by
  unfold due
  refine map_same fun d hd => ?_
  unfold Dm Dc
  rw [if_neg (by unfold inRow; omega), if_neg (by omega)]
theorem tot_step {w : List Nat} {i j : Nat} (h : i + 1 + j ≤ w.length) : tot w i (j + 1) = tot w i j + (if mirW w i (i + 1 + j) then 1 else 0) := by
  unfold tot
  refine sum_point _ (c := 2 * i + 1 + j) (by omega) ?_ fun d hd hne => ?_
  · have e := s0_le h
    unfold Gm
    rw [if_pos (by unfold inRow; omega), if_neg (by unfold inRow; omega)]
    unfold Gc
    by_cases hm : mirW w i (i + 1 + j)
    · rw [if_pos hm]
      have := e.mpr hm
      omega
    · rw [if_neg hm]
      have : ¬ s0 w (2 * i + 1 + j) ≤ i := fun z => hm (e.mp z)
      omega
  · unfold Gm
    by_cases hr : inRow i j d
    · rw [if_pos hr, if_pos (by unfold inRow at *; omega)]
    · rw [if_neg hr, if_neg (by unfold inRow at *; omega)]
theorem due_get {w : List Nat} {i j c : Nat} (h : c < 2 * w.length + 1) : (due w i j)[c]? = some (Dm w i j c) := by
  unfold due
  rw [List.getElem?_map, List.getElem?_range h]
  rfl
theorem due_len (w : List Nat) (i j : Nat) : (due w i j).length = 2 * w.length + 1 := by unfold due; simp
theorem Dm_next {w : List Nat} {i j d : Nat} (hne : d ≠ 2 * i + 1 + j) : Dm w i (j + 1) d = Dm w i j d := by
  unfold Dm
  by_cases hr : inRow i j d
  · rw [if_pos hr, if_pos (by unfold inRow at *; omega)]
  · rw [if_neg hr, if_neg (by unfold inRow at *; omega)]
theorem due_hit {w : List Nat} {i j : Nat} (h : i + 1 + j ≤ w.length) (hm : mirW w i (i + 1 + j)) :
    (due w i j).set (2 * i + 1 + j) (max (Dm w i j (2 * i + 1 + j)) (j + 1)) = due w i (j + 1) := by
  unfold due
  refine map_set ?_ fun d hd hne => Dm_next hne
  have e := (s0_le h).mpr hm
  have h2 := rad_le' (w := w) (c := 2 * i + 1 + j) (by omega)
  have h1 := rad_parity (w := w) (q := 2 * i + 1 + j) (by omega)
  unfold Dm
  rw [if_pos (by unfold inRow; omega), if_neg (by unfold inRow; omega)]
  unfold Dc
  rw [if_pos (by omega)]
  have e2 := e
  unfold s0 at e2
  by_cases hs : s0 w (2 * i + 1 + j) < i
  · rw [if_pos hs]
    unfold s0 at hs
    omega
  · rw [if_neg hs]
    unfold s0 at hs
    omega
theorem due_miss {w : List Nat} {i j : Nat} (h : i + 1 + j ≤ w.length) (hm : ¬ mirW w i (i + 1 + j)) : due w i (j + 1) = due w i j := by
  unfold due
  refine map_same fun d hd => ?_
  by_cases hne : d = 2 * i + 1 + j
  · subst hne
    have e : ¬ s0 w (2 * i + 1 + j) ≤ i := fun z => hm ((s0_le h).mp z)
    unfold Dm
    rw [if_pos (by unfold inRow; omega), if_neg (by unfold inRow; omega)]
    unfold Dc
    rw [if_neg (by omega), if_neg (by omega)]
  · exact Dm_next hne
theorem tot_row {w : List Nat} {i : Nat} (h : i < w.length) : tot w i (w.length - i) = tot w (i + 1) 0 := by
  unfold tot
  rw [map_same fun d hd => ?_]
  have h2 := rad_le' (w := w) (c := d) hd
  unfold Gm
  rw [if_neg (show ¬ inRow (i + 1) 0 d by unfold inRow; omega)]
  by_cases hr : inRow i (w.length - i) d
  · rw [if_pos hr]
  · rw [if_neg hr]
    unfold inRow at hr
    unfold Gc s0
    omega
theorem due_row {w : List Nat} {i : Nat} (h : i < w.length) : due w i (w.length - i) = due w (i + 1) 0 := by
  unfold due
  refine map_same fun d hd => ?_
  have h2 := rad_le' (w := w) (c := d) hd
  unfold Dm
  rw [if_neg (show ¬ inRow (i + 1) 0 d by unfold inRow; omega)]
  by_cases hr : inRow i (w.length - i) d
  · rw [if_pos hr]
  · rw [if_neg hr]
    unfold inRow at hr
    unfold Dc s0
    by_cases h5 : (d - rad (sg w) d) / 2 < i
    · rw [if_pos h5, if_pos (by omega)]
    · by_cases h6 : (d - rad (sg w) d) / 2 < i + 1
      · rw [if_neg h5, if_pos h6]
        omega
      · rw [if_neg h5, if_neg h6]
theorem due_end (w : List Nat) : due w w.length 0 = rads w := by
  unfold due rads
  refine map_same fun d hd => ?_
  have h2 := rad_le' (w := w) (c := d) hd
  unfold Dm
  rw [if_neg (by unfold inRow; omega)]
  unfold Dc s0
  by_cases h5 : (d - rad (sg w) d) / 2 < w.length
  · rw [if_pos h5]
  · rw [if_neg h5]
    omega
theorem tot_end (w : List Nat) : tot w w.length 0 = ((List.range (2 * w.length + 1)).map fun c => (rad (sg w) c + 1) / 2).sum := by
  unfold tot
  rw [map_same fun d hd => ?_]
  have h2 := rad_le' (w := w) (c := d) hd
  have h1 := rad_parity (w := w) (q := d) hd
  unfold Gm
  rw [if_neg (by unfold inRow; omega)]
  unfold Gc s0
  omega
/-! ### the first longest mirror -/
def BestInv (w : List Nat) (i j : Nat) (best : List Nat) : Prop := ∃ bs m, best = seg w bs (bs + m) ∧ bs + m ≤ w.length ∧ bs ≤ i ∧ (m = 0 ∨ mirW w bs (bs + m)) ∧
  ∀ st e, st < e → e ≤ w.length → mirW w st e → (st < i ∨ (st = i ∧ e ≤ i + j)) → e - st < m ∨ (e - st = m ∧ bs ≤ st)
theorem best_zero (w : List Nat) : BestInv w 0 0 [] := ⟨0, 0, by unfold seg; rw [show 0 + 0 - 0 = 0 by rfl]; rfl, by omega, by omega, .inl rfl, fun st e h1 h2 h3 h4 => by omega⟩
theorem best_len {w : List Nat} {i j : Nat} {best : List Nat} (h : BestInv w i j best) : best.length ≤ w.length := by
  obtain ⟨bs, m, rfl, h1, _⟩ := h
  rw [seg_len h1]
  omega
theorem best_miss {w : List Nat} {i j : Nat} {best : List Nat} (h : BestInv w i j best) (hm : ¬ mirW w i (i + 1 + j)) : BestInv w i (j + 1) best := by
  obtain ⟨bs, m, e, h1, h2, h3, h4⟩ := h
  refine ⟨bs, m, e, h1, h2, h3, fun st e a b c d => ?_⟩
  by_cases q : st = i ∧ e = i + 1 + j
  · obtain ⟨rfl, rfl⟩ := q
    exact absurd c hm
  · exact h4 st e a b c (by omega)
theorem best_more {w : List Nat} {i j : Nat} {best : List Nat} (h : BestInv w i j best) (hl : i + 1 + j ≤ w.length) (hm : mirW w i (i + 1 + j)) (hb : best.length < j + 1) : BestInv w i (j + 1) (seg w i (i + 1 + j)) := by
  obtain ⟨bs, m, rfl, h1, h2, h3, h4⟩ := h
  rw [seg_len h1] at hb
  refine ⟨i, j + 1, by rw [show i + (j + 1) = i + 1 + j by omega], by omega, by omega, .inr (by rw [show i + (j + 1) = i + 1 + j by omega]; exact hm), fun st e a b c d => ?_⟩
  by_cases q : st = i ∧ e = i + 1 + j
  · omega
  · have := h4 st e a b c (by omega)
    omega
theorem best_less {w : List Nat} {i j : Nat} {best : List Nat} (h : BestInv w i j best) (hb : ¬ best.length < j + 1) : BestInv w i (j + 1) best := by
  obtain ⟨bs, m, rfl, h1, h2, h3, h4⟩ := h
  rw [seg_len h1] at hb
  refine ⟨bs, m, rfl, h1, h2, h3, fun st e a b c d => ?_⟩
  by_cases q : st = i ∧ e = i + 1 + j
  · omega
  · exact h4 st e a b c (by omega)
theorem best_row {w : List Nat} {i : Nat} {best : List Nat} (h : BestInv w i (w.length - i) best) : BestInv w (i + 1) 0 best := by
  obtain ⟨bs, m, e, h1, h2, h3, h4⟩ := h
  exact ⟨bs, m, e, h1, by omega, h3, fun st e a b c d => h4 st e a b c (by omega)⟩
theorem best_end {w : List Nat} {best : List Nat} (h : BestInv w w.length 0 best) {most mid : Nat} (hle : ∀ c, c < 2 * w.length + 1 → rad (sg w) c ≤ most) (hmid : mid < 2 * w.length + 1) (he : rad (sg w) mid = most)
    (hf : ∀ c, c < mid → rad (sg w) c ≠ most) : best = seg w ((mid - most) / 2) ((mid - most) / 2 + most) ∧ (mid - most) / 2 + most ≤ w.length := by
  obtain ⟨bs, m, e, h1, h2, h3, h4⟩ := h
  have hp := rad_parity hmid
  have hl := rad_le' hmid
  rw [he] at hp hl
  have hM : mirW w ((mid - most) / 2) ((mid - most) / 2 + most) := by
    rw [← reach (by omega) (by omega)]
    rw [show (mid - most) / 2 + ((mid - most) / 2 + most) = mid by omega, he]
    omega
  have hB : m ≤ rad (sg w) (2 * bs + m) := by
    rcases h3 with z | z
    · omega
    · have := (reach (w := w) (a := bs) (b := bs + m) (by omega) h1).mpr z
      rw [show bs + (bs + m) = 2 * bs + m by omega] at this
      omega
  have hB2 := hle (2 * bs + m) (by omega)
  have hmm : m = most := by
    by_cases z : most = 0
    · omega
    · have := h4 _ _ (by omega) (by omega) hM (by omega)
      omega
  subst hmm
  by_cases z : m = 0
  · subst z
    refine ⟨?_, by omega⟩
    rw [e]
    unfold seg
    simp
  · have h5 := h4 _ _ (by omega) (by omega) hM (by omega)
    have h6 : ¬ 2 * bs + m < mid := fun q => hf _ q (by omega)
    have : bs = (mid - m) / 2 := by omega
    subst this
    exact ⟨e, by omega⟩
/-! ### least of a list -/
def minL : List Int → Int
  | [] => 0
  | [x] => x
  | x :: y :: r => min x (minL (y :: r))
theorem minL_spec : ∀ {ns : List Int}, ns ≠ [] → minL ns ∈ ns ∧ ∀ y ∈ ns, minL ns ≤ y
  | [], h => absurd rfl h
  | [x], _ => by simp [minL]
  | x :: y :: r, _ => by
    obtain ⟨h1, h2⟩ := minL_spec (ns := y :: r) (by simp)
    show min x (minL (y :: r)) ∈ x :: y :: r ∧ ∀ z ∈ x :: y :: r, min x (minL (y :: r)) ≤ z
    constructor
    · by_cases h : x ≤ minL (y :: r)
      · rw [Int.min_eq_left h]
        exact List.mem_cons_self
      · rw [Int.min_eq_right (by omega)]
        exact List.mem_cons_of_mem _ h1
    · intro z hz
      rcases List.mem_cons.mp hz with rfl | hz
      · exact Int.min_le_left _ _
      · exact Int.le_trans (Int.min_le_right _ _) (h2 z hz)
theorem minL_eq {ns : List Int} {m : Int} (h1 : m ∈ ns) (h2 : ∀ y ∈ ns, m ≤ y) : m = minL ns := by
  have hne : ns ≠ [] := fun e => by rw [e] at h1; cases h1
  obtain ⟨h3, h4⟩ := minL_spec hne
  exact Int.le_antisymm (h2 _ h3) (h4 _ h1)
/-! ### cuts -/
def cand (w : List Nat) (l : List Int) (e i : Nat) : List Int := (List.range i).filterMap fun st => if mirW w st e then some (l.getD st 0 + 1) else none
theorem cand_hit {w : List Nat} {l : List Int} {e i : Nat} (h : mirW w i e) : cand w l e (i + 1) = cand w l e i ++ [l.getD i 0 + 1] := by
  unfold cand
  rw [List.range_succ, List.filterMap_append]
  congr 1
  show List.filterMap _ [i] = _
  rw [List.filterMap_cons, if_pos h]
  rfl
theorem cand_miss {w : List Nat} {l : List Int} {e i : Nat} (h : ¬ mirW w i e) : cand w l e (i + 1) = cand w l e i := by
  unfold cand
  rw [List.range_succ, List.filterMap_append]
  show _ ++ List.filterMap _ [i] = _
  rw [List.filterMap_cons, if_neg h]
  simp
theorem cand_len (w : List Nat) (l : List Int) (e i : Nat) : (cand w l e i).length ≤ i := by
  unfold cand
  have := List.length_filterMap_le (fun st => if mirW w st e then some (l.getD st 0 + 1) else none) (List.range i)
  simpa using this
theorem cand_pos {w : List Nat} {l : List Int} {k : Nat} (h : k < w.length) : 0 < (cand w l (k + 1) (k + 1)).length := by
  rw [cand_hit (mir_one h), List.length_append, List.length_singleton]
  omega
def cutsL (w : List Nat) : Nat → List Int
  | 0 => [0]
  | k + 1 => cutsL w k ++ [minL (cand w (cutsL w k) (k + 1) (k + 1))]
theorem cutsL_len (w : List Nat) : ∀ k, (cutsL w k).length = k + 1
  | 0 => rfl
  | k + 1 => by
    show (cutsL w k ++ [_]).length = _
    rw [List.length_append, cutsL_len w k]
    rfl
def lastI (l : List Int) : Int := l.getD (l.length - 1) 0
/-! ### common pieces -/
def suf (u v : List Nat) : Nat → Nat → Nat
  | 0, _ => 0
  | _ + 1, 0 => 0
  | i + 1, j + 1 => if u[i]? = v[j]? then suf u v i j + 1 else 0
theorem suf_zero_right (u v : List Nat) : ∀ i, suf u v i 0 = 0
  | 0 => rfl
  | _ + 1 => rfl
theorem suf_le (u v : List Nat) : ∀ i j, suf u v i j ≤ i ∧ suf u v i j ≤ j
  | 0, j => ⟨Nat.le_refl _, Nat.zero_le _⟩
  | i + 1, 0 => ⟨Nat.zero_le _, Nat.le_refl _⟩
  | i + 1, j + 1 => by
    have := suf_le u v i j
    unfold suf
    split <;> omega
theorem suf_eq (u v : List Nat) : ∀ i j d, d < suf u v i j → u[i - 1 - d]? = v[j - 1 - d]?
  | 0, j, d, h => by simp [suf] at h
  | i + 1, 0, d, h => by simp [suf] at h
  | i + 1, j + 1, 0, h => by
    unfold suf at h
    split at h
    · rename_i e
      simpa using e
    · omega
  | i + 1, j + 1, d + 1, h => by
    unfold suf at h
    split at h
    · have := suf_eq u v i j d (by omega)
      rw [show i + 1 - 1 - (d + 1) = i - 1 - d by omega, show j + 1 - 1 - (d + 1) = j - 1 - d by omega]
      exact this
    · omega
theorem suf_max (u v : List Nat) : ∀ i j k, k ≤ i → k ≤ j → (∀ d, d < k → u[i - 1 - d]? = v[j - 1 - d]?) → k ≤ suf u v i j
  | 0, j, k, h, _, _ => by omega
  | i + 1, 0, k, _, h, _ => by omega
  | i + 1, j + 1, 0, _, _, _ => Nat.zero_le _
  | i + 1, j + 1, k + 1, h1, h2, h => by
    have e : u[i]? = v[j]? := by simpa using h 0 (by omega)
    unfold suf
    rw [if_pos e]
    have := suf_max u v i j k (by omega) (by omega) fun d hd => by
      have := h (d + 1) (by omega)
      rw [show i + 1 - 1 - (d + 1) = i - 1 - d by omega, show j + 1 - 1 - (d + 1) = j - 1 - d by omega] at this
      exact this
    omega
def Fac (x u : List Nat) : Prop := ∃ a, a + x.length ≤ u.length ∧ x = seg u a (a + x.length)
theorem fac_seg {u : List Nat} {a b : Nat} (hab : a ≤ b) (hb : b ≤ u.length) : Fac (seg u a b) u :=
  ⟨a, by rw [seg_len hb]; omega, by rw [seg_len hb]; congr 1; omega⟩
theorem fac_nil (u : List Nat) : Fac [] u := ⟨0, Nat.zero_le _, by unfold seg; simp⟩
theorem suf_seg {u v : List Nat} {i j : Nat} (hi : i ≤ u.length) (hj : j ≤ v.length) : seg u (i - suf u v i j) i = seg v (j - suf u v i j) j := by
  have h := suf_le u v i j
  refine List.ext_getElem? fun t => ?_
  by_cases ht : t < suf u v i j
  · rw [seg_get (by omega), seg_get (by omega)]
    have := suf_eq u v i j (suf u v i j - 1 - t) (by omega)
    rw [show i - 1 - (suf u v i j - 1 - t) = i - suf u v i j + t by omega, show j - 1 - (suf u v i j - 1 - t) = j - suf u v i j + t by omega] at this
    exact this
  · rw [List.getElem?_eq_none (by rw [seg_len hi]; omega), List.getElem?_eq_none (by rw [seg_len hj]; omega)]
def BestC (u v : List Nat) (p q : Nat) (b : List Nat) : Prop := Fac b u ∧ Fac b v ∧ ∀ i j, i < u.length → j < v.length → (i < p ∨ (i = p ∧ j < q)) →
  suf u v (i + 1) (j + 1) < b.length ∨ (suf u v (i + 1) (j + 1) = b.length ∧ ¬ seg u (i + 1 - suf u v (i + 1) (j + 1)) (i + 1) < b)
def CP (u v b : List Nat) : Prop := Fac b u ∧ Fac b v ∧ ∀ x, Fac x u → Fac x v → x.length < b.length ∨ (x.length = b.length ∧ ¬ x < b)
theorem bestC_zero (u v : List Nat) : BestC u v 0 0 [] := ⟨fac_nil _, fac_nil _, fun i j _ _ h => by omega⟩
theorem bestC_row {u v : List Nat} {p : Nat} {b : List Nat} (h : BestC u v p v.length b) : BestC u v (p + 1) 0 b := ⟨h.1, h.2.1, fun i j hi hj hp => h.2.2 i j hi hj (by omega)⟩
theorem bestC_low {u v : List Nat} {p q : Nat} {b : List Nat} (h : BestC u v p q b) (hs : suf u v (p + 1) (q + 1) < b.length ∨ suf u v (p + 1) (q + 1) = 0) : BestC u v p (q + 1) b := by
  refine ⟨h.1, h.2.1, fun i j hi hj hp => ?_⟩
  by_cases e : i = p ∧ j = q
  · obtain ⟨rfl, rfl⟩ := e
    by_cases z : suf u v (i + 1) (j + 1) < b.length
    · exact .inl z
    · have z1 : suf u v (i + 1) (j + 1) = 0 := by omega
      have z2 : b = [] := List.eq_nil_of_length_eq_zero (by omega)
      refine .inr ⟨by omega, ?_⟩
      rw [z2]
      exact List.not_lt_nil _
  · exact h.2.2 i j hi hj (by omega)
theorem told_len {u v : List Nat} {p q : Nat} (hp : p < u.length) : (seg u (p + 1 - suf u v (p + 1) (q + 1)) (p + 1)).length = suf u v (p + 1) (q + 1) := by
  have := suf_le u v (p + 1) (q + 1)
  rw [seg_len (by omega)]
  omega
theorem told_fac {u v : List Nat} {p q : Nat} (hp : p < u.length) (hq : q < v.length) : Fac (seg u (p + 1 - suf u v (p + 1) (q + 1)) (p + 1)) u ∧ Fac (seg u (p + 1 - suf u v (p + 1) (q + 1)) (p + 1)) v :=
  ⟨fac_seg (by omega) (by omega), by rw [suf_seg (by omega) (by omega)]; exact fac_seg (by omega) (by omega)⟩
theorem bestC_up {u v : List Nat} {p q : Nat} {b : List Nat} (h : BestC u v p q b) (hp : p < u.length) (hq : q < v.length) (hs : b.length < suf u v (p + 1) (q + 1)) :
    BestC u v p (q + 1) (seg u (p + 1 - suf u v (p + 1) (q + 1)) (p + 1)) := by
  refine ⟨(told_fac hp hq).1, (told_fac hp hq).2, fun i j hi hj hpp => ?_⟩
  rw [told_len hp]
  by_cases e : i = p ∧ j = q
  · obtain ⟨rfl, rfl⟩ := e
    exact .inr ⟨rfl, List.lt_irrefl _⟩
  · have := h.2.2 i j hi hj (by omega)
    left
    omega
theorem bestC_eq {u v : List Nat} {p q : Nat} {b : List Nat} (h : BestC u v p q b) (hp : p < u.length) (hq : q < v.length) (hs : b.length = suf u v (p + 1) (q + 1)) :
    BestC u v p (q + 1) (if seg u (p + 1 - suf u v (p + 1) (q + 1)) (p + 1) < b then seg u (p + 1 - suf u v (p + 1) (q + 1)) (p + 1) else b) := by
  split
  · rename_i hlt
    refine ⟨(told_fac hp hq).1, (told_fac hp hq).2, fun i j hi hj hpp => ?_⟩
    rw [told_len hp]
    by_cases e : i = p ∧ j = q
    · obtain ⟨rfl, rfl⟩ := e
      exact .inr ⟨rfl, List.lt_irrefl _⟩
    · rcases h.2.2 i j hi hj (by omega) with z | z
      · left
        omega
      · exact .inr ⟨by omega, fun y => z.2 (List.lt_trans y hlt)⟩
  · rename_i hlt
    refine ⟨h.1, h.2.1, fun i j hi hj hpp => ?_⟩
    by_cases e : i = p ∧ j = q
    · obtain ⟨rfl, rfl⟩ := e
      exact .inr ⟨hs.symm, hlt⟩
    · exact h.2.2 i j hi hj (by omega)
theorem bestC_end {u v b : List Nat} (h : BestC u v u.length 0 b) : CP u v b := by
  refine ⟨h.1, h.2.1, fun x hu hv => ?_⟩
  by_cases hx : x.length = 0
  · have ex : x = [] := List.eq_nil_of_length_eq_zero hx
    subst ex
    by_cases hb : b.length = 0
    · rw [List.eq_nil_of_length_eq_zero hb]
      exact .inr ⟨rfl, List.lt_irrefl _⟩
    · left
      show 0 < b.length
      omega
  · obtain ⟨a, ha, ea⟩ := hu
    obtain ⟨c, hc, ec⟩ := hv
    have hk := suf_max u v (a + x.length - 1 + 1) (c + x.length - 1 + 1) x.length (by omega) (by omega) fun d hd => by
      have e1 : x[x.length - 1 - d]? = u[a + (x.length - 1 - d)]? := by
        have := congrArg (fun l => l[x.length - 1 - d]?) ea
        rw [seg_get (by omega)] at this
        exact this
      have e2 : x[x.length - 1 - d]? = v[c + (x.length - 1 - d)]? := by
        have := congrArg (fun l => l[x.length - 1 - d]?) ec
        rw [seg_get (by omega)] at this
        exact this
      rw [show a + x.length - 1 + 1 - 1 - d = a + (x.length - 1 - d) by omega, show c + x.length - 1 + 1 - 1 - d = c + (x.length - 1 - d) by omega, ← e1, ← e2]
    rcases h.2.2 (a + x.length - 1) (c + x.length - 1) (by omega) (by omega) (by omega) with z | ⟨z1, z2⟩
    · left
      omega
    · by_cases e : suf u v (a + x.length - 1 + 1) (c + x.length - 1 + 1) = x.length
      · rw [e, show a + x.length - 1 + 1 - x.length = a by omega, show a + x.length - 1 + 1 = a + x.length by omega, ← ea] at z2
        exact .inr ⟨by omega, z2⟩
      · left
        omega
theorem CP_unique {u v b c : List Nat} (h : CP u v b) (g : CP u v c) : b = c := by
  rcases h.2.2 c g.1 g.2.1 with z | ⟨z1, z2⟩
  · rcases g.2.2 b h.1 h.2.1 with y | ⟨y1, y2⟩ <;> omega
  · rcases g.2.2 b h.1 h.2.1 with y | ⟨y1, y2⟩
    · omega
    · exact List.le_antisymm z2 y2
/-! ### the law's own search -/
def rowP (f : List Nat → Bool) (v : List Nat) (s j : Nat) : List (List Nat) := (List.range j).filterMap fun k => if f (seg v s (s + 1 + k)) = true then some (seg v s (s + 1 + k)) else none
def pieces (f : List Nat → Bool) (v : List Nat) : Nat → List (List Nat)
  | 0 => [[]]
  | i + 1 => pieces f v i ++ rowP f v i (v.length - i)
theorem rowP_hit {f : List Nat → Bool} {v : List Nat} {s j : Nat} (h : f (seg v s (s + 1 + j)) = true) : rowP f v s (j + 1) = rowP f v s j ++ [seg v s (s + 1 + j)] := by
  unfold rowP
  rw [List.range_succ, List.filterMap_append]
  congr 1
  show List.filterMap _ [j] = _
  rw [List.filterMap_cons, if_pos h]
  rfl
theorem rowP_miss {f : List Nat → Bool} {v : List Nat} {s j : Nat} (h : ¬ f (seg v s (s + 1 + j)) = true) : rowP f v s (j + 1) = rowP f v s j := by
  unfold rowP
  rw [List.range_succ, List.filterMap_append]
  show _ ++ List.filterMap _ [j] = _
  rw [List.filterMap_cons, if_neg h]
  simp
theorem rowP_len (f : List Nat → Bool) (v : List Nat) (s j : Nat) : (rowP f v s j).length ≤ j := by
  unfold rowP
  have := List.length_filterMap_le (fun k => if f (seg v s (s + 1 + k)) = true then some (seg v s (s + 1 + k)) else none) (List.range j)
  simpa using this
theorem pieces_len (f : List Nat → Bool) (v : List Nat) : ∀ i, (pieces f v i).length ≤ 1 + i * v.length
  | 0 => by simp [pieces]
  | i + 1 => by
    have h1 := pieces_len f v i
    have h2 := rowP_len f v i (v.length - i)
    show (pieces f v i ++ rowP f v i (v.length - i)).length ≤ _
    rw [List.length_append, Nat.succ_mul]
    omega
theorem rowP_mem {f : List Nat → Bool} {v : List Nat} {s j : Nat} {x : List Nat} : x ∈ rowP f v s j ↔ ∃ k, k < j ∧ x = seg v s (s + 1 + k) ∧ f x = true := by
  unfold rowP
  rw [List.mem_filterMap]
  constructor
  · rintro ⟨k, hk, e⟩
    split at e
    · rename_i hf
      cases e
      exact ⟨k, List.mem_range.mp hk, rfl, hf⟩
    · cases e
  · rintro ⟨k, hk, rfl, hf⟩
    exact ⟨k, List.mem_range.mpr hk, by rw [if_pos hf]⟩
theorem pieces_mem {f : List Nat → Bool} {v : List Nat} {x : List Nat} : ∀ {i : Nat}, x ∈ pieces f v i ↔ x = [] ∨ ∃ s k, s < i ∧ k < v.length - s ∧ x = seg v s (s + 1 + k) ∧ f x = true
  | 0 => by
    constructor
    · intro h
      exact .inl (List.mem_singleton.mp h)
    · rintro (rfl | ⟨s, k, h, _⟩)
      · exact List.mem_singleton.mpr rfl
      · omega
  | i + 1 => by
    show x ∈ pieces f v i ++ rowP f v i (v.length - i) ↔ _
    rw [List.mem_append, pieces_mem (i := i), rowP_mem]
    constructor
    · rintro ((h | ⟨s, k, h1, h2⟩) | ⟨k, h1, h2⟩)
      · exact .inl h
      · exact .inr ⟨s, k, by omega, h2⟩
      · exact .inr ⟨i, k, by omega, h1, h2⟩
    · rintro (h | ⟨s, k, h1, h2⟩)
      · exact .inl (.inl h)
      · by_cases e : s = i
        · subst e
          exact .inr ⟨k, h2⟩
        · exact .inl (.inr ⟨s, k, by omega, h2⟩)
theorem pieces_cp {f : List Nat → Bool} {u v b : List Nat} (hf : ∀ x, f x = true ↔ Fac x u) {most : Nat} (hm : ∀ x ∈ pieces f v v.length, x.length ≤ most)
    (hb : b ∈ pieces f v v.length) (hl : b.length = most) (hmin : ∀ x ∈ pieces f v v.length, x.length = most → ¬ x < b) : CP u v b := by
  have fac : ∀ x, x ∈ pieces f v v.length ↔ (Fac x u ∧ Fac x v) := fun x => by
    rw [pieces_mem]
    constructor
    · rintro (rfl | ⟨s, k, h1, h2, h3, h4⟩)
      · exact ⟨fac_nil _, fac_nil _⟩
      · refine ⟨(hf x).mp h4, ?_⟩
        rw [h3]
        exact fac_seg (by omega) (by omega)
    · rintro ⟨h1, a, h2, h3⟩
      by_cases hx : x.length = 0
      · exact .inl (List.eq_nil_of_length_eq_zero hx)
      · exact .inr ⟨a, x.length - 1, by omega, by omega, by rw [show a + 1 + (x.length - 1) = a + x.length by omega]; exact h3, (hf x).mpr h1⟩
  have := (fac b).mp hb
  refine ⟨this.1, this.2, fun x h1 h2 => ?_⟩
  have hx := (fac x).mpr ⟨h1, h2⟩
  have := hm x hx
  by_cases e : x.length = most
  · exact .inr ⟨by omega, hmin x hx e⟩
  · left
    omega
end Pm
/-! Own rules over HandS: enumerate of a text, text[::-1], min of texts, xs[i] += e. -/
namespace Pm
open PySem PySem.Spec
open PyProof.Rows L2
/-! ### enumerate(text) -/
/-- turn i gives a new pair of i and the i-th sign -/
def ItE (x : Str) : It where
  go := fun i _ => i < x.cps.size
  yld := fun i H v H' => ∃ T c, v = .ref T ∧ H T = none ∧ H' = upd H T (.tup [.int (i : Nat), .str ⟨#[c]⟩]) ∧ x.cps[i]? = some c
  stop := fun i _ => i = x.cps.size
/-- the enumerate object e over the text's iterator j, ahead of turn i -/
def EnAt (x : Str) (t : Tok) (e j : Addr) (i : Nat) (h : Heap) : Prop := (∃ old, IsEnum h e j ((i : Nat) : Int) old) ∧ h.IsStrIter j (strIterType x) x t i ∧ e ≠ j
theorem two_of {e j b : Addr} (hb : b ∈ [e, j]) : b = e ∨ b = j := by simpa using hb
theorem not_two {e j b : Addr} (hb : b ∉ [e, j]) : b ≠ e ∧ b ≠ j := ⟨fun z => hb (by simp [z]), fun z => hb (by simp [z])⟩
theorem EnAt.there {x : Str} {t : Tok} {e j : Addr} {i : Nat} {h : Heap} (q : EnAt x t e j i h) : ∀ b ∈ [e, j], ∃ o, h.get? b = some o ∧ ∀ v, o.data ≠ .cell v := fun b hb => by
  obtain ⟨⟨_, ge⟩, ⟨o, go, _, gd⟩, _⟩ := q
  cases two_of hb with
  | inl z => exact z ▸ ⟨_, ge, fun _ y => nomatch y⟩
  | inr z => exact z ▸ ⟨o, go, fun _ y => by rw [gd] at y; nomatch y⟩
theorem EnAt.stay {x : Str} {t : Tok} {e j : Addr} {i : Nat} {h h' : Heap} (q : EnAt x t e j i h) (k : ∀ b ∈ [e, j], ∀ o, h.get? b = some o → h'.get? b = some o) : EnAt x t e j i h' :=
  let ⟨⟨old, ge⟩, ⟨o, go, gr⟩, ne⟩ := q
  ⟨⟨old, k e List.mem_cons_self _ ge⟩, ⟨o, k j (List.mem_cons_of_mem _ List.mem_cons_self) o go, gr⟩, ne⟩
theorem turn_enumS {P : Program} {w : World} {K : PySem.W.Frag} {elts : List Expr} {kk : Nat} {tpos : Pos} (x : Str) (t : Tok) (e j : Addr) :
    Turn P w K (.Tuple elts kk tpos) (ItE x) [e, j] e (EnAt x t e j) where
  mem := List.mem_cons_self
  obj := fun _ _ q => q.there
  keep := fun _ _ _ q k => q.stay k
  self := fun _ _ _ _ _ q hQ => q.1.elim fun _ ge => wpAny_pyIter_enum ge hQ
  item := by
    rintro X rfl rfl rfl calm i pins s σ H E I fresh ⟨⟨old, ge⟩, gj, ne⟩ lt
    have le : e < s.heap.objs.size := Heap.lt_size ge
    have lj : j < s.heap.objs.size := gj.elim fun _ y => Heap.lt_size y.1
    have D := Draws.text (prog := X.prog) (w := X.w) (A := X.A.in1) (I.ok.hd calm) j x t
    refine wpAny_pyNext_enum_itemC D ge gj lt ne (by simpa using ne) ?_
    rintro _ h1 tk ⟨c, u, hc, rfl⟩ out gj1 gT _ keep
    refine ⟨_, rfl, wpAny_letOwnedTupleGo_enum (s := { s with heap := h1, toks := tk + 1 }) out fun h2 ge2 sb => ?_⟩
    have gT2 := (sb.2 s.heap.objs.size (Nat.ne_of_gt le)).trans gT
    have pairOk : ObjOk X.prog X.w (upd H s.heap.objs.size (.tup [.int (i : Nat), .str ⟨#[c]⟩])) h2 s.heap.objs.size (.tup [.int (i : Nat), .str ⟨#[c]⟩]) :=
      ⟨by show 2 ≤ sizeLine; decide, _, .cons ⟨tk, rfl⟩ (.cons ⟨u, rfl⟩ .nil), _, gT2, rfl, _, rfl⟩
    have old2 : ∀ b ob, b ∉ [e, j] → s.heap.get? b = some ob → h2.get? b = some ob := fun b ob hb y => (sb.2 b (not_two hb).1).trans (keep b ob (not_two hb).1 (not_two hb).2 y)
    refine ⟨.ref s.heap.objs.size, _, I.turnedNew (t' := tk + 1) (ch := [e, j]) old2 fresh (Nat.le_refl _) pairOk, rfl, ⟨_, c, rfl, I.hok.fresh (Nat.le_refl _), rfl, hc⟩, ⟨⟨.str ⟨#[c]⟩ u, ?_⟩, ?_, ne⟩, fun b hb => ?_⟩
    · rw [show ((i + 1 : Nat) : Int) = (i : Int) + 1 from rfl]
      exact ge2
    · exact gj1.elim fun o y => ⟨o, (sb.2 j ne.symm).trans y.1, y.2⟩
    · have lb : b < s.heap.objs.size := (two_of hb).elim (fun z => z ▸ le) fun z => z ▸ lj
      exact (upd_ne (Nat.ne_of_lt lb)).trans (fresh b hb).1
  done := by
    rintro X rfl rfl rfl calm i pins s σ H E I fresh ⟨⟨old, ge⟩, gj, ne⟩ rfl
    have ⟨f0, f1, _, f3, f4, f5⟩ := fresh j (List.mem_cons_of_mem _ List.mem_cons_self)
    have D := Draws.text (prog := X.prog) (w := X.w) (A := X.A.in1) (I.ok.hd calm) j x t
    exact wpAny_pyNext_enum_endD D ge gj fun h1 ext => ⟨rfl, I.turned (t' := s.toks) (fun b o hb y => ext b o hb y) f0 f1 f3 f4 f5⟩
def iEnumS (ta : TA) : TI := fun σ H R => ta σ H fun vs H1 => ∃ x, vs = [.str x] ∧ R (ItE x) H1
theorem pi_enumS {X : Cx} {e : Expr} {ta : TA} {p pos tpos : Pos} {elts : List Expr} {kk : Nat} (hg : Gl X "enumerate") (hm : X.mg "enumerate" = none) (ha : PA X [e] ta) (hs : starEach [e] X.env = [(false, eval e X.env)] := by rfl) :
    PI X (.Tuple elts kk tpos) (.Call (.Name "enumerate" p) [e] [] pos) (iEnumS ta) where
  run := fun pins s σ H R I h => by
    have args := ha.run pos pins s σ H _ I h
    refine Call_ (ld_blt I hg hm boot_enumerate (PyProof.Rows.callWith_type1 (thn args ?_) hs rfl))
    rintro _ s1 ⟨_, H1, I1, r1, x, rfl, q⟩
    obtain ⟨_, rfl, t, rfl⟩ := vals1 r1
    refine call_enumerate_str fun h1 ge gj _ old => wpAny_pyIter_enum ge ?_
    refine ⟨s1.heap.objs.size + 1, [s1.heap.objs.size + 1, s1.heap.objs.size], _, _, H1, rfl, I1.kept (t' := s1.toks) old, turn_enumS x t _ _, ⟨⟨.none, ge⟩, gj, Nat.succ_ne_self _⟩, fun b hb => ?_, q⟩
    have above : s1.heap.objs.size ≤ b := (two_of hb).elim (fun z => z ▸ Nat.le_succ _) fun z => z ▸ Nat.le_refl _
    exact I1.fpOk above (I1.hok.fresh above)
theorem walk_enumS {x : Str} : Walk (ItE x) x.cps.size (fun _ => True) (fun i H v H' => ∃ T c, v = .ref T ∧ H T = none ∧ H' = upd H T (.tup [.int (i : Nat), .str ⟨#[c]⟩]) ∧ x.cps[i]? = some c) :=
  ⟨fun _ _ hi _ => hi, fun _ _ => rfl, fun _ _ _ _ _ _ y => y⟩
/-! ### text[::-1] -/
theorem rev_codes (c : Array Nat) : ((List.range c.size).map fun k => c.getD (c.size - 1 - k) 0) = c.toList.reverse := by
  apply List.ext_getElem
  · simp
  · intro i h1 _
    have hi : i < c.size := by simpa using h1
    rw [List.getElem_map, List.getElem_range, List.getElem_reverse]
    simp [Array.getD, show c.size - 1 - i < c.size by omega]
theorem rev_picked (z : Str) : (PySem.Builtin.Str.strSliceIndices none none (-1) z.length).filterMap (z.cps[·]?) = z.cps.toList.reverse := by
  rw [picked_rev, filterMap_get, List.map_map]
  · exact rev_codes z.cps
  · rintro i hi
    obtain ⟨n, hn, rfl⟩ := List.mem_map.mp hi
    have : n < z.length := List.mem_range.mp hn
    show z.length - 1 - n < z.length
    omega
def tRevS (te : TE) : TE := fun σ H Q => te σ H fun x H1 => ∃ z, x = .str z ∧ z.length ≤ sizeLine ∧ Q (.str ⟨z.cps.toList.reverse.toArray⟩) H1
/-- a part of a slice that is told, the heap left as it was -/
def Told (X : Cx) (e : Option Expr) (o : Option Int) : Prop := ∀ (pins : List (Addr × Obj)) (s : Shared) (σ : L2.St) (H : Hp), Inv X pins σ H s →
  wpAny (model X.prog X.w) X.A (evalPart e X.env) (fun u s' => Inv X pins σ H s' ∧ IsPart u o) X.xe s
theorem told_none {X : Cx} : Told X none none := fun pins s σ H I => thn (po_none.run pins s σ H (fun o H' => o = none ∧ H' = H) I ⟨rfl, rfl⟩) (by
  rintro u s' ⟨_, _, J, pu, rfl, rfl⟩
  exact ⟨J, pu⟩)
theorem told_back {X : Cx} {k : Nat} {p1 p2 : Pos} : Told X (some (.UnaryOp .USub (.Constant (.int 1) k p1) p2)) (some (-1)) := fun pins s σ H I =>
  thn ((po_some (pe_un un_neg pe_int)).run pins s σ H (fun o H' => o = some (-1) ∧ H' = H) I ⟨1, rfl, -1, rfl, rfl, rfl⟩) (by
    rintro u s' ⟨_, _, J, pu, rfl, rfl⟩
    exact ⟨J, pu⟩)
theorem pe_revS {X : Cx} {e : Expr} {te : TE} {k : Nat} {p1 p2 p3 pos : Pos} (he : PE X e te) : PE X (.Subscript e (.Slice none none (some (.UnaryOp .USub (.Constant (.int 1) k p1) p2)) p3) pos) (tRevS te) where
  run := fun pins s σ H Q I h => by
    refine Subscript_ (thn (he.run pins s σ H _ I h) ?_)
    rintro _ s1 ⟨_, H1, I1, rv, z, rfl, hz, q⟩
    obtain ⟨t, rfl⟩ := rv
    refine wpAny_Slice (thn (told_none pins s1 σ H1 I1) ?_)
    rintro _ s2 ⟨I2, pl⟩
    refine thn (told_none pins s2 σ H1 I2) ?_
    rintro _ s3 ⟨I3, pu⟩
    refine thn (told_back pins s3 σ H1 I3) ?_
    rintro _ s4 ⟨I4, ps⟩
    cases pl
    cases pu
    cases ps with
    | int _ tu =>
      let o : Obj := { cls := .type "slice", data := .fields #[.none, .none, .int (-1) tu] }
      have I5 : Inv X pins σ H1 { s4 with heap := s4.heap.push o } := I4.kept (t' := s4.toks) fun _ _ y => Heap.get?_push_of_some _ y
      refine tail_any (ops := [.ref s4.heap.objs.size, .str z t]) (typeIs_str _ _ _) F.slot_str_getitem.lookup ?_ (by with_unfolding_all rfl)
      refine wpAny_getItem_str_slice (l := none) (u := none) (st := some (-1, tu)) ⟨o, Heap.get?_push_size _ rfl, rfl, rfl⟩ rfl ?_
      show Made.post (Made.str ⟨((PySem.Builtin.Str.strSliceIndices none none (-1) z.length).filterMap (z.cps[·]?)).toArray⟩) (EP X pins σ Q) _
      rw [rev_picked]
      refine ⟨?_, .str _, H1, I5.tok _, ⟨_, rfl⟩, q⟩
      have : (⟨z.cps.toList.reverse.toArray⟩ : Str).length = z.length := by simp [Str.length]
      exact this ▸ hz
/-! ### min of texts -/
/-- texts compared, told by a table -/
theorem strs_lt {prog : Program} {w : World} {A : Around} {Pt : Nat → Value → Prop} (f : Nat → Str) (hf : ∀ i v, Pt i v → ∃ t, v = .str (f i) t) :
    CmpOf prog w A .Lt Pt (fun i j => decide ((f i).cps.toList < (f j).cps.toList)) := by
  intro i j vi vj s Q E pi pj q
  cases hf i vi pi with
  | intro t ei =>
    cases hf j vj pj with
    | intro u ej =>
      subst ei ej
      exact PySem.P.lt_str q
theorem argBest_least (f : Nat → List Nat) : ∀ k, argBest (fun i j => decide (f i < f j)) k ≤ k ∧ ∀ j, j ≤ k → ¬ f j < f (argBest (fun i j => decide (f i < f j)) k)
  | 0 => ⟨Nat.le_refl _, fun j hj => by
    rw [Nat.le_zero.mp hj]
    exact List.lt_irrefl _⟩
  | k + 1 => by
    obtain ⟨h1, h2⟩ := argBest_least f k
    show (if decide (f (k + 1) < f (argBest (fun i j => decide (f i < f j)) k)) = true then k + 1 else argBest (fun i j => decide (f i < f j)) k) ≤ k + 1 ∧
      ∀ j, j ≤ k + 1 → ¬ f j < f (if decide (f (k + 1) < f (argBest (fun i j => decide (f i < f j)) k)) = true then k + 1 else argBest (fun i j => decide (f i < f j)) k)
    by_cases hlt : f (k + 1) < f (argBest (fun i j => decide (f i < f j)) k)
    · rw [if_pos (decide_eq_true hlt)]
      refine ⟨Nat.le_refl _, fun j hj z => ?_⟩
      by_cases e : j = k + 1
      · exact List.lt_irrefl _ (e ▸ z)
      · exact h2 j (by omega) (List.lt_trans z hlt)
    · rw [if_neg (fun z => hlt (of_decide_eq_true z))]
      refine ⟨by omega, fun j hj => ?_⟩
      by_cases e : j = k + 1
      · exact e ▸ hlt
      · exact h2 j (by omega)
section
variable {X : Cx}
/-- min(x, y) of two texts -/
theorem call_min2S (hc : X.calm = true) : CallR X (.builtin "min") (fun xs H Q => ∃ i j : Str, xs = [.str i, .str j] ∧ Q (.str (if j.cps.toList < i.cps.toList then j else i)) H) := by
  rintro pins s σ H _ us Q I r ⟨i, j, rfl, q⟩
  obtain ⟨_, _, rfl, ⟨t, rfl⟩, ⟨u, rfl⟩⟩ := vals2 r
  let its : Array Value := #[.str i t, .str j u]
  let h1 := s.heap.push { cls := .type "tuple", data := .seq its }
  have gT : h1.IsTuple s.heap.objs.size its := ⟨_, Heap.get?_push_size _ rfl, rfl, 0, rfl⟩
  have sz : h1.objs.size = s.heap.objs.size + 1 := Heap.size_push ..
  refine call_min_two (wpAny_pyIter_tuple gT ?_)
  let f : Nat → Str := fun n => if n = 0 then i else j
  have hf : ∀ (n : Nat) (v : Value), its[n]? = some v → ∃ tk, v = .str (f n) tk := fun n v y => by
    match n with
    | 0 => exact ⟨t, (Option.some.inj y).symm⟩
    | 1 => exact ⟨u, (Option.some.inj y).symm⟩
    | n + 2 => simp [its] at y
  refine ⟨_, [_, s.heap.objs.size], [_], _, _, _, _, rfl, Walks.tuple (A := X.A.in1) (I.ok.hd hc) h1.objs.size s.heap.objs.size (by rw [sz]; exact Nat.ne_of_lt (Nat.lt_succ_self _)) its, ⟨⟨_, Heap.get?_push_size _ rfl, rfl, rfl⟩, gT.push _⟩, fun b hb => ?_, by show 0 < 2; omega, strs_lt f hf, fun v h2 tk best keep => ?_⟩
  · have z : (h1.push { cls := .type "tuple_iterator", data := .fields #[.ref s.heap.objs.size, .int 0 0] }).objs.size = h1.objs.size + 1 := Heap.size_push ..
    show b < (h1.push _).objs.size
    rw [z]
    have hb2 := two_of hb
    rw [sz] at hb2 ⊢
    cases hb2 with
    | inl y => exact y ▸ Nat.lt_succ_self _
    | inr y => exact y ▸ Nat.lt_succ_of_lt (Nat.lt_succ_self _)
  · have old : ∀ b o, s.heap.get? b = some o → h2.get? b = some o := fun b o y => by
      have lb : b < s.heap.objs.size := Heap.lt_size y
      refine keep b o (fun z => ?_) (Heap.get?_push_of_some _ (Heap.get?_push_of_some _ y))
      have e1 : b = h1.objs.size := by simpa using z
      rw [e1, sz] at lb
      exact Nat.lt_irrefl _ (Nat.lt_of_succ_lt lb)
    refine ⟨_, H, I.kept old, ?_, q⟩
    have best' : its[argBest (fun a b => decide ((f a).cps.toList < (f b).cps.toList)) 1]? = some v := best
    by_cases lt : j.cps.toList < i.cps.toList
    · have e1 : argBest (fun a b => decide ((f a).cps.toList < (f b).cps.toList)) 1 = 1 := if_pos (decide_eq_true lt)
      rw [if_pos lt]
      rw [e1] at best'
      exact ⟨u, (Option.some.inj best').symm⟩
    · have e1 : argBest (fun a b => decide ((f a).cps.toList < (f b).cps.toList)) 1 = 0 := if_neg fun z => lt (of_decide_eq_true z)
      rw [if_neg lt]
      rw [e1] at best'
      exact ⟨t, (Option.some.inj best').symm⟩
def rMinS (K : PySem.W.Frag) : List V → Hp → VK → Prop := fun vs H Q => ∃ (a : Addr) (ns : List Str), vs = [V.ref a] ∧ SqL K H a (ns.map V.str) ∧ 0 < ns.length ∧ ∀ m, m ∈ ns → (∀ y, y ∈ ns → ¬ y.cps.toList < m.cps.toList) → Q (.str m) H
/-- min(xs) of a list of texts -/
theorem cr_minS (hc : X.calm = true) : CallR X (.builtin "min") (rMinS X.K) := by
  rintro pins s σ H _ us Q I r ⟨a, ns, rfl, hs, pos, q⟩
  obtain ⟨its, rel, pl, _⟩ := I.list hs
  have ln : ns.length = its.length := by simpa using rel.length
  let f : Nat → Str := fun n => (ns[n]?).getD ⟨#[]⟩
  have at_ : ∀ n (h : n < ns.length), f n = ns[n] := fun n h => by
    show (ns[n]?).getD _ = _
    rw [List.getElem?_eq_getElem h]
    rfl
  have hf : ∀ (n : Nat) (v : Value), its.toArray[n]? = some v → ∃ tk, v = .str (f n) tk := fun n v y => by
    have hn : n < ns.length := by
      have := (Array.getElem?_eq_some_iff.mp y).1
      simpa [ln] using this
    obtain ⟨u, gu, ru⟩ := rel.get (i := n) (x := .str ns[n]) (by rw [List.getElem?_map, List.getElem?_eq_getElem hn]; rfl)
    rw [List.getElem?_toArray, gu] at y
    rw [at_ n hn]
    exact Option.some.inj y ▸ ru
  rw [Vals.ref1 r]
  refine call_min_walkH (PySem.W.iter_listW (A := X.A.in1) (I.ok.hd hc) pl.isList fun s2 e2 W st below apart keep => ?_)
  refine ⟨_, _, _, _, _, _, _, s.heap, _, rfl, W, st, below, by simpa [← ln] using pos, apart, keep, fun i j vi vj s' Q' E' _ pi pj y => strs_lt f hf i j vi vj s' Q' E' pi pj y, fun v s' best m => ?_⟩
  obtain ⟨h2, tk, rfl, old⟩ := PySem.W.moved_old e2 rfl m
  obtain ⟨low, least⟩ := argBest_least (fun i => (f i).cps.toList) (its.toArray.size - 1)
  have sz : its.toArray.size = ns.length := by simp [ln]
  have hb : argBest (fun i j => decide ((f i).cps.toList < (f j).cps.toList)) (its.toArray.size - 1) < ns.length := Nat.lt_of_le_of_lt low (by omega)
  obtain ⟨u, rfl⟩ := hf _ v best
  refine ⟨.str _, H, I.kept old, ⟨u, rfl⟩, q _ ?_ fun y hy => ?_⟩
  · rw [at_ _ hb]
    exact List.getElem_mem hb
  · obtain ⟨n, hn, rfl⟩ := List.mem_iff_getElem.mp hy
    have := least n (by omega)
    rw [at_ n hn] at this
    exact this
/-! ### xs[i] += e -/
def rGetL (K : PySem.W.Frag) : V → V → Hp → VK → Prop := fun o i H Q => ∃ p xs k v, o = .ref p ∧ i = .int (k : Nat) ∧ SqL K H p xs ∧ xs[k]? = some v ∧ Q v H
theorem get_list : PGet X (rGetL X.K) := by
  rintro pins s σ H _ _ ov iv Q I ro ri ⟨p, xs, k, v, rfl, rfl, hq, hv, q⟩
  cases (show ov = .ref p from ro)
  obtain ⟨t, rfl⟩ := ri
  obtain ⟨its, rel, pl, hz⟩ := I.list hq
  obtain ⟨u, gu, ru⟩ := rel.get hv
  have hk : k < xs.length := (List.getElem?_eq_some_iff.mp hv).1
  have := line63
  exact wpAny_getItem_list (x := u) pl.isList (by omega) (by omega) (by simpa using gu) ⟨v, H, I, ru, q⟩
end
end Pm
/-! The text by places, texts as lists of codes, small facts of heaps. -/
namespace Pm
open PySem PySem.Spec PyProof.Rows L2
def topS (i : Nat) : Stmt := PySem.Challenge.pw_palbuilds_k67_whole_middles.main.body.getD i (.Pass ⟨0, 0, 0, 0⟩)
abbrev sFirst : Stmt := topS 6
abbrev sNeed : Stmt := topS 7
abbrev sRadii : Stmt := topS 9
abbrev sMiddles : Stmt := topS 10
abbrev sCount : Stmt := topS 11
abbrev sLongest : Stmt := topS 12
abbrev sCuts : Stmt := topS 13
abbrev sCommon : Stmt := topS 14
abbrev sTaken : Stmt := topS 16
abbrev sAlike : Stmt := topS 17
abbrev sPlan : Stmt := topS 18
abbrev sWord : Stmt := topS 19
abbrev sSizes : Stmt := topS 20
abbrev sFast : Stmt := topS 21
abbrev sLaw : Stmt := topS 22
theorem scFirst : FnScope ["value", "place", "sign"] ["value"] (defScope sFirst) := ⟨rfl, rfl, rfl, by decide +kernel, rfl, by decide +kernel, by decide +kernel⟩
theorem scNeed : FnScope ["value"] ["value"] (defScope sNeed) := ⟨rfl, rfl, rfl, by decide +kernel, rfl, by decide +kernel, by decide +kernel⟩
theorem scRadii : FnScope ["word", "signs", "found", "middle", "end", "place", "letter"] ["word"] (defScope sRadii) := ⟨rfl, rfl, rfl, by decide +kernel, rfl, by decide +kernel, by decide +kernel⟩
theorem scMiddles : FnScope ["word"] ["word"] (defScope sMiddles) := ⟨rfl, rfl, rfl, by decide +kernel, rfl, by decide +kernel, by decide +kernel⟩
theorem scCount : FnScope ["word", "size"] ["word"] (defScope sCount) := ⟨rfl, rfl, rfl, by decide +kernel, rfl, by decide +kernel, by decide +kernel⟩
theorem scLongest : FnScope ["word", "sizes", "most", "middle", "start"] ["word"] (defScope sLongest) := ⟨rfl, rfl, rfl, by decide +kernel, rfl, by decide +kernel, by decide +kernel⟩
theorem scCuts : FnScope ["word", "sizes", "least", "end", "some", "start"] ["word"] (defScope sCuts) := ⟨rfl, rfl, rfl, by decide +kernel, rfl, by decide +kernel, by decide +kernel⟩
theorem scCommon : FnScope ["one", "other", "best", "ahead", "place", "letter", "now", "spot", "sign", "size", "told"] ["one", "other"] (defScope sCommon) := ⟨rfl, rfl, rfl, by decide +kernel, rfl, by decide +kernel, by decide +kernel⟩
theorem scTaken : FnScope ["_law_row", "_law_many", "_law_found", "_law_cell"] ["_law_row", "_law_many"] (defScope sTaken) := ⟨rfl, rfl, rfl, by decide +kernel, rfl, by decide +kernel, by decide +kernel⟩
theorem scAlike : FnScope ["_law_found", "_law_due", "_law_k"] ["_law_found", "_law_due"] (defScope sAlike) := ⟨rfl, rfl, rfl, by decide +kernel, rfl, by decide +kernel, by decide +kernel⟩
theorem scPlan : FnScope ["_law_row", "_law_most", "_law_many", "_law_found", "_law_last", "_law_turn"] ["_law_row", "_law_most", "_law_many"] (defScope sPlan) := ⟨rfl, rfl, rfl, by decide +kernel, rfl, by decide +kernel, by decide +kernel⟩
theorem scWord : FnScope ["_law_row", "_law_most", "_law_many", "_law_turn"] ["_law_row", "_law_most", "_law_many"] (defScope sWord) := ⟨rfl, rfl, rfl, by decide +kernel, rfl, by decide +kernel, by decide +kernel⟩
theorem scSizes : FnScope ["_law_plan_here", "_law_found", "_law_ahead", "_law_at"] ["_law_plan_here"] (defScope sSizes) := ⟨rfl, rfl, rfl, by decide +kernel, rfl, by decide +kernel, by decide +kernel⟩
theorem scFast : FnScope ["_law_plan_here", "_law_sizes_here", "_law_found", "_law_at"] ["_law_plan_here"] (defScope sFast) := ⟨rfl, rfl, rfl, by decide +kernel, rfl, by decide +kernel, by decide +kernel⟩
theorem scLaw : FnScope ["_law_script", "_law_row", "_law_many", "_law_word", "_law_due", "_law_total", "_law_best", "_law_start", "_law_end", "_law_piece", "_law_least", "_law_other", "_law_pieces", "_law_most"] ["_law_script"] (defScope sLaw) := ⟨rfl, rfl, rfl, by decide +kernel, rfl, by decide +kernel, by decide +kernel⟩
/-- the module's names that are the built-ins', and its two constants -/
structure Gls (mg : Str → Option Value) : Prop where
  len : mg "len" = none
  range : mg "range" = none
  enumerate : mg "enumerate" = none
  min : mg "min" = none
  max : mg "max" = none
  sum : mg "sum" = none
  tuple : mg "tuple" = none
  list : mg "list" = none
  str : mg "str" = none
  int : mg "int" = none
  bool : mg "bool" = none
  isinstance : mg "isinstance" = none
  letters : ∃ t, mg "LETTERS" = some (.str "abcde" t)
  most : ∃ t, mg "MOST_WORD" = some (.int 2000 t)
/-! ### texts as lists of codes -/
abbrev S (a : List Nat) : Str := ⟨a.toArray⟩
theorem S_len (a : List Nat) : (S a).length = a.length := SX.S_len a
theorem S_codes (a : List Nat) : (S a).cps.toList = a := List.toList_toArray ..
theorem S_cat (a b : List Nat) : S a ++ S b = S (a ++ b) := SX.S_cat a b
theorem S_inj {a b : List Nat} : S a = S b ↔ a = b := ⟨SX.S_inj, fun h => by rw [h]⟩
theorem S_get (a : List Nat) (i : Nat) : (S a).cps[i]? = a[i]? := by simp
theorem S_size (a : List Nat) : (S a).cps.size = a.length := by simp
theorem abc : Str.ofString "abcde" = S [97, 98, 99, 100, 101] := by decide +kernel
theorem line_of {n : Nat} (h : n ≤ 16777216) : n ≤ sizeLine := by rw [sizeLine_eq]; exact h
theorem line_lt {n : Nat} (h : n < 16777216) : n < sizeLine := by rw [sizeLine_eq]; exact h
def Lets (cs : List Nat) : Prop := ∀ c ∈ cs, c ∈ [97, 98, 99, 100, 101]
theorem Lets.nil : Lets [] := fun _ h => nomatch h
theorem Lets.app {a b : List Nat} (h : Lets a) (g : Lets b) : Lets (a ++ b) := fun c hc => (List.mem_append.mp hc).elim (h c) (g c)
theorem Lets.sub {a b : List Nat} (h : Lets a) (g : ∀ c ∈ b, c ∈ a) : Lets b := fun c hc => h c (g c hc)
theorem cutS_nat {a : List Nat} {i j : Nat} (hij : i ≤ j) (hj : j ≤ a.length) : cutS (S a) (some (i : Int)) (some (j : Int)) = S (seg a i j) := by
  show (⟨(((S a).cps.toList.drop (HT.sIx (S a).length 0 (some (i : Int)))).take (HT.sIx (S a).length (S a).length (some (j : Int)) - HT.sIx (S a).length 0 (some (i : Int)))).toArray⟩ : Str) = _
  rw [HT.sIx_nat, HT.sIx_nat, S_len, S_codes, Nat.min_eq_left (show i ≤ a.length by omega), Nat.min_eq_left hj]
  rfl
theorem cutS_sub (a : List Nat) (lo hi : Option Int) : ∃ b, cutS (S a) lo hi = S b ∧ b.length ≤ a.length ∧ ∀ c ∈ b, c ∈ a := by
  refine ⟨((S a).cps.toList.drop (HT.sIx (S a).length 0 lo)).take (HT.sIx (S a).length (S a).length hi - HT.sIx (S a).length 0 lo), rfl, ?_, fun c hc => ?_⟩
  · rw [S_codes, List.length_take, List.length_drop]
    omega
  · rw [S_codes] at hc
    exact List.mem_of_mem_drop (List.mem_of_mem_take hc)
theorem cutS_to {a : List Nat} {j : Nat} : ∃ b, cutS (S a) none (some (j : Int)) = S b ∧ b.length ≤ j ∧ ∀ c ∈ b, c ∈ a := by
  refine ⟨((S a).cps.toList.drop (HT.sIx (S a).length 0 none)).take (HT.sIx (S a).length (S a).length (some (j : Int)) - HT.sIx (S a).length 0 none), rfl, ?_, fun c hc => ?_⟩
  · rw [List.length_take, HT.sIx_nat]
    omega
  · rw [S_codes] at hc
    exact List.mem_of_mem_drop (List.mem_of_mem_take hc)
theorem join_S (xs : List (List Nat)) : Txt.join (S []) (xs.map S) = S xs.flatten := by
  rw [TL.join_eq]
  refine TL.ext_tl ?_
  rw [TL.tl_join, List.map_map]
  have e : (xs.map (TL.tl ∘ S)) = xs := by
    rw [show (TL.tl ∘ S) = id from funext fun a => List.toList_toArray ..]
    exact List.map_id xs
  rw [e]
  show TL.joinL [] xs = (S xs.flatten).cps.toList
  rw [S_codes]
  clear e
  induction xs with
  | nil => rfl
  | cons a r ih =>
    cases r with
    | nil => simp [TL.joinL]
    | cons b r => rw [TL.joinL, ih]; simp
/-- «in» of texts -/
def isIn (u x : List Nat) : Bool := !(PySem.Builtin.Str.occurrences (S u) (S x) 0 (S u).length 1).isEmpty
theorem isIn_iff (u x : List Nat) : isIn u x = true ↔ Fac x u := by
  unfold isIn
  rw [PySem.StrLaws.found_iff]
  simp only [S_len]
  constructor
  · rintro ⟨i, h1, h2⟩
    rw [PySem.StrLaws.subAt_eq, S_len, S_codes, S_codes] at h2
    refine ⟨i, h1, ?_⟩
    unfold seg
    rw [show i + x.length - i = x.length by omega]
    exact (eq_of_beq h2).symm
  · rintro ⟨i, h1, h2⟩
    refine ⟨i, h1, ?_⟩
    rw [PySem.StrLaws.subAt_eq, S_len, S_codes, S_codes]
    unfold seg at h2
    rw [show i + x.length - i = x.length by omega] at h2
    exact beq_iff_eq.mpr h2.symm
/-! ### heaps -/
theorem same_new {H : Hp} {p : Addr} {o : HO} (h : H p = none) : Same H (upd H p o) := fun b x e => by
  rw [upd_ne (ne_of_none e h)]
  exact e
/-- a list that was new behind H0 is written again -/
theorem same_put {H0 H : Hp} {p : Addr} {o : HO} (h : Same H0 H) (hp : H0 p = none) : Same H0 (upd H p o) := fun b x e => by
  rw [upd_ne (ne_of_none e hp)]
  exact h b x e
theorem same_none {H0 H : Hp} {p : Addr} (h : Same H0 H) (hp : H p = none) : H0 p = none := h.free hp
theorem int_get {ns : List Int} {i : Nat} {v : Int} (h : ns[i]? = some v) : (ns.map V.int)[i]? = some (V.int v) := by
  rw [List.getElem?_map, h]
  rfl
theorem ixN_nat {n i : Nat} (h : i < n) : ixN n (i : Int) = some i := by
  unfold ixN
  rw [if_pos (by omega), if_pos (by omega), Int.toNat_natCast]
end Pm
/-! first_wrong, need_word. -/
namespace Pm
open PySem PySem.Spec PyProof.Rows L2
section
variable {P : Program} {w : World} {K : PySem.W.Frag} {mg : Str → Option Value} {base : Heap}
/-- a def that is handed a word and leaves all as it was, giving None -/
def spNone : Sp := fun vs H Q _ => ∃ cs, vs = [.str (S cs)] ∧ Lets cs ∧ cs.length ≤ 2000 ∧ ∀ H', Same H H' → Q .non H'
theorem ok_first {f : Addr} {fd : FuncData} {k : Nat} (F : Fun K "first_wrong" "first_wrong" sFirst f fd) (G : Gls mg) : FnOk P w K mg base CX0 (k + 1) f fd ["value"] spNone := by
  refine F.ok scFirst (fun vs H Q E h => ?_) (fun cdv A outer s H vs Q E hr h => ?_)
  · obtain ⟨cs, rfl, _⟩ := h
    rfl
  obtain ⟨cs, rfl, hl, hn, q⟩ := h
  obtain ⟨tl, mL⟩ := G.letters
  refine ⟨_, pss_cons (ps_for PassesOwn.never rfl (pi_enumS (by rfl) G.enumerate (pa_cons (pv 0) pa_nil))
      (pg_tup rfl (pgs_cons (pg_name (i := 1) scFirst.nd rfl (.inl rfl)) (pgs_cons (pg_name (i := 2) scFirst.nd rfl (.inl rfl)) pgs_nil)))
      (pss_one (ps_if (pt_cmpR op_notIn_sign (pv 2) (pe_glob (v := .str (Str.ofString "abcde")) rfl mL ⟨_, rfl⟩) rfl) (pss_one (ps_ret (pv 1))) pss_nil)))
    (pss_one (ps_ret pe_non)), ?_⟩
  refine ⟨.str (S cs), rfl, S cs, rfl, for_it walk_enumS (fun i σ H1 => ∃ y1 y2, σ = [some (.str (S cs)), y1, y2] ∧ Same H H1) ⟨none, none, rfl, Same.refl _⟩ (fun _ _ _ _ _ => trivial) (fun i x σ H1 H2 hi p y => ?_) (fun σ H1 p => ?_)⟩
  · obtain ⟨y1, y2, rfl, sm⟩ := p
    obtain ⟨T, c, rfl, nT, rfl, hc⟩ := y
    rw [S_get] at hc
    refine ⟨T, [.int i, .str ⟨#[c]⟩], rfl, SqT.of upd_same, rfl, _, _, rfl, _, _, rfl, rfl, ?_⟩
    refine ⟨_, rfl, c, _, rfl, rfl, _, rfl, ?_⟩
    have hin : c ∈ (Str.ofString "abcde").cps.toList := by
      rw [abc, S_codes]
      exact hl c (List.mem_of_getElem? hc)
    rw [decide_eq_true hin]
    refine iteF ?_
    exact ⟨_, _, rfl, sm.trans (same_new nT)⟩
  · obtain ⟨y1, y2, rfl, sm⟩ := p
    exact q _ sm
theorem ok_need {f fW : Addr} {fd fdW : FuncData} {k : Nat} (F : Fun K "need_word" "need_word" sNeed f fd) (G : Gls mg) (GW : FnOk P w K mg base CX0 (k + 1) fW fdW ["value"] spNone) (kW : PySem.W.keepIn K (.ref fW) = true) (bW : Binds K fdW ["value"] []) (mW : mg "first_wrong" = some (.ref fW)) :
    FnOk P w K mg base CX0 (k + 1 + 1) f fd ["value"] spNone := by
  refine F.ok scNeed (fun vs H Q E h => ?_) (fun cdv A outer s H vs Q E hr h => ?_)
  · obtain ⟨cs, rfl, _⟩ := h
    rfl
  obtain ⟨cs, rfl, hl, hn, q⟩ := h
  obtain ⟨tl, mM⟩ := G.most
  refine ⟨_, pss_cons (ps_if (PW.pt (pw_or (pt_not (pt_val (pe_callB call_isi (by rfl) G.isinstance (by decide +kernel) (pa_cons (pv 0) (pa_cons (pe_bltn (v := .ty "str") (by rfl) G.str (by decide +kernel) rfl) pa_nil)))))
      (pw_or1 (pt_cmpR op_gt (pe_callB call_len_str (by rfl) G.len PySem.boot_len (pa_cons (pv 0) pa_nil)) (pe_glob (v := .int 2000) rfl mM ⟨_, rfl⟩) (nomark _))))) (pss_one ps_never) pss_nil)
    (pss_one (ps_if (pt_cmpR op_notN (pe_call GW hr (by rfl) mW kW bW .nil pass0 (pa_cons (pv 0) pa_nil)) pe_non (nomark _)) (pss_one ps_never) pss_nil)), ?_⟩
  refine ⟨_, rfl, _, _, .type "str", .type "str", true, rfl, .ty _, .base (.str _), kit_ty (by decide +kernel), true, rfl, iteF ?_⟩
  refine ⟨_, rfl, _, rfl, ?_, _, _, rfl, rfl, _, rfl, ?_⟩
  · rw [S_len]
    exact line_of (by omega)
  · rw [S_len]
    rw [decide_eq_false (show ¬ ((cs.length : Int) > 2000) by omega)]
    refine iteF ?_
    refine ⟨_, rfl, cs, rfl, hl, hn, fun H' sm => ?_⟩
    refine ⟨rfl, false, rfl, iteF ?_⟩
    exact q _ sm
end
end Pm
/-! radii_of. -/
namespace Pm
open PySem PySem.Spec PyProof.Rows L2
/-! ### small words -/
def izs (ns : List Nat) : List Int := ns.map fun n : Nat => (n : Int)
abbrev vI (ns : List Nat) : List V := (izs ns).map V.int
theorem ints_len (ns : List Nat) : (izs ns).length = ns.length := by unfold izs; simp
theorem vI_len (ns : List Nat) : (vI ns).length = ns.length := by unfold vI izs; simp
theorem vI_get {ns : List Nat} {i n : Nat} (h : ns[i]? = some n) : (vI ns)[i]? = some (.int (n : Nat)) := by
  unfold vI izs
  rw [List.getElem?_map, List.getElem?_map, h]
  rfl
theorem vI_set (ns : List Nat) (i n : Nat) : (vI ns).set i (.int (n : Nat)) = vI (ns.set i n) := by
  unfold vI izs
  rw [List.map_set, List.map_set]
theorem atI_vI {ns : List Nat} {i n : Nat} (h : ns[i]? = some n) : atI (vI ns) (i : Int) = some (.int (n : Nat)) := atI_nat (vI_get h)
theorem for_range0 {n : Nat} {g : TG} {tb : TS} {D : Ends} {σ : L2.St} {H : Hp} (Pv : Nat → L2.St → Hp → Prop) (h0 : Pv 0 σ H) (hs : ∀ i σ H, i < n → Pv i σ H → g (.int (i : Nat)) σ H fun σ2 H2 => tb { D with nx := Pv (i + 1), ct := Pv (i + 1), bk := D.nx } σ2 H2) (hd : ∀ σ H, Pv n σ H → D.nx σ H) : ∃ W : Nat → Nat → L2.St → Hp → Prop, (∃ m, W 0 m σ H) ∧ ∀ i m σ H, W i m σ H → ((Itr 0 n).stop i H ∧ D.nx σ H) ∨ ((Itr 0 n).go i H ∧ ∃ N : L2.St → Hp → Prop, (∀ σ' H', N σ' H' → ∃ m', m' < m ∧ W (i + 1) m' σ' H') ∧ ∀ x H', (Itr 0 n).yld i H x H' → g x σ H' fun σ2 H2 => tb { D with nx := N, ct := N, bk := D.nx } σ2 H2) :=
  for_range Pv h0 (fun i σ H hi p => by rw [Int.zero_add]; exact hs i σ H hi p) hd
theorem lc_range0 {n : Nat} {g : TG} {tt : TT} {te : TE} {vs : List Nat} {σ : L2.St} {H1 : Hp} {D : Addr} {Qd : Hp → Prop} (Pv : Nat → Hp → Prop) (h0 : Pv 0 (upd H1 D (.lst []))) (hs : ∀ i H, i < n → Pv i H → g (.int (i : Nat)) (wipe σ vs) H fun σ2 H2 => wipe σ2 vs = wipe σ vs ∧ tt σ2 H2 fun b H3 => if b = true then te σ2 H3 fun y H4 => ∃ acc, H4 D = some (.lst acc) ∧ acc.length < sizeLine ∧ Pv (i + 1) (upd H4 D (.lst (acc ++ [y]))) else Pv (i + 1) H3) (hd : ∀ H, Pv n H → Qd H) : ∃ W : Nat → Nat → Hp → Prop, (∃ m, W 0 m (upd H1 D (.lst []))) ∧ ∀ i m H, W i m H → ((Itr 0 n).stop i H ∧ Qd H) ∨ ((Itr 0 n).go i H ∧ ∃ Nx : Hp → Prop, (∀ H', Nx H' → ∃ m', m' < m ∧ W (i + 1) m' H') ∧ ∀ x H', (Itr 0 n).yld i H x H' → g x (wipe σ vs) H' fun σ2 H2 => wipe σ2 vs = wipe σ vs ∧ tt σ2 H2 fun b H3 => if b = true then te σ2 H3 fun y H4 => ∃ acc, H4 D = some (.lst acc) ∧ acc.length < sizeLine ∧ Nx (upd H4 D (.lst (acc ++ [y]))) else Nx H3) :=
  lc_range Pv h0 (fun i H hi p => by rw [Int.zero_add]; exact hs i H hi p) hd
/-! ### the table while it is made -/
noncomputable def fnd (s : List Nat) (p r : Nat) : List Nat := (List.range s.length).map fun q => if q < p then rad s q else if q = p then r else 0
theorem fnd_len (s : List Nat) (p r : Nat) : (fnd s p r).length = s.length := by unfold fnd; simp
theorem fnd_get {s : List Nat} {p r q : Nat} (h : q < s.length) : (fnd s p r)[q]? = some (if q < p then rad s q else if q = p then r else 0) := by
  unfold fnd
  rw [List.getElem?_map, List.getElem?_range h]
  rfl
theorem fnd_at {s : List Nat} {p r : Nat} (h : p < s.length) : (fnd s p r)[p]? = some r := by
  rw [fnd_get h, if_neg (by omega), if_pos rfl]
theorem fnd_old {s : List Nat} {p r q : Nat} (h : p < s.length) (hq : q < p) : (fnd s p r)[q]? = some (rad s q) := by
  rw [fnd_get (by omega), if_pos hq]
theorem fnd_set {s : List Nat} {p r r' : Nat} : (fnd s p r).set p r' = fnd s p r' := by
  unfold fnd
  refine map_set ?_ fun d hd hne => ?_
  · rw [if_neg (by omega), if_pos rfl]
  · by_cases h : d < p
    · rw [if_pos h, if_pos h]
    · rw [if_neg h, if_neg h, if_neg hne, if_neg hne]
theorem fnd_next (s : List Nat) (p : Nat) : fnd s p (rad s p) = fnd s (p + 1) 0 := by
  unfold fnd
  refine map_same fun d hd => ?_
  by_cases h : d < p
  · rw [if_pos h, if_pos (by omega)]
  · by_cases h2 : d = p
    · subst h2
      rw [if_neg h, if_pos rfl, if_pos (by omega)]
    · rw [if_neg h, if_neg h2, if_neg (by omega)]
      split <;> rfl
theorem fnd_zero (s : List Nat) : fnd s 0 0 = List.replicate s.length 0 := by
  unfold fnd
  refine List.ext_getElem? fun i => ?_
  by_cases h : i < s.length
  · rw [List.getElem?_map, List.getElem?_range h, List.getElem?_replicate, if_pos h]
    show some (if i < 0 then rad s i else if i = 0 then 0 else 0) = some 0
    rw [if_neg (by omega)]
    split <;> rfl
  · rw [List.getElem?_eq_none (by simp; omega), List.getElem?_eq_none (by simp; omega)]
theorem fnd_end (cs : List Nat) : fnd (sg cs) (sg cs).length 0 = rads cs := by
  unfold fnd rads
  rw [← sg_len]
  refine map_same fun d hd => ?_
  rw [if_pos hd]
theorem rep_zero (n : Nat) : (List.replicate n [V.int 0]).flatten = vI (List.replicate n 0) := by
  unfold vI izs
  rw [List.map_replicate, List.map_replicate]
  induction n with
  | zero => rfl
  | succ n ih =>
    rw [List.replicate_succ, List.flatten_cons, ih, List.replicate_succ]
    rfl
theorem sum_two : ∀ cs : List Nat, (cs.map fun _ => 2).sum = 2 * cs.length
  | [] => rfl
  | a :: r => by rw [List.map_cons, List.sum_cons, sum_two r, List.length_cons]; omega
section
variable {P : Program} {w : World} {K : PySem.W.Frag} {mg : Str → Option Value} {base : Heap}
/-- radii_of(word): a new list of the radii -/
def spRadii : Sp := fun vs H Q _ => ∃ cs, vs = [.str (S cs)] ∧ cs.length ≤ 2000 ∧ ∀ H' p, Same H H' → H p = none → H' p = some (.lst (vI (rads cs))) → Q (.ref p) H'
theorem ok_radii {f : Addr} {fd : FuncData} {k : Nat} (F : Fun K "radii_of" "radii_of" sRadii f fd) (G : Gls mg) : FnOk P w K mg base CX0 (k + 1) f fd ["word"] spRadii := by
  refine F.ok scRadii (fun vs H Q E h => ?_) (fun cdv A outer s H vs Q E hr h => ?_)
  · obtain ⟨cs, rfl, _⟩ := h
    rfl
  obtain ⟨cs, rfl, hn, q⟩ := h
  refine ⟨_, C8.pss_cut (ps_set (i := 1) scRadii.nd rfl (.inl rfl) (pe_op op_add_str pe_str (pe_join pe_str
        (pe_lc (own := [("letter", 6)]) (g := gName 6) (tt := tYes) rfl scRadii.nd (pi_str (pv 0)) (blkOk_by (N := ["word", "signs", "found", "middle", "end", "place", "letter"]) (sc := defScope sRadii) (by decide +kernel))
          (fun _ _ _ _ _ => pg_name (i := 6) scRadii.nd rfl (Or.inl rfl)) (fun _ _ _ _ _ => pts_nil) (fun _ _ _ _ _ => pe_op op_add_str (pv 6) pe_str)))))
    (pss_cons (ps_par3 (i := 2) (j := 3) (l := 4) rfl scRadii.nd rfl rfl rfl (by decide) (by decide) (by decide) rfl rfl rfl
        (pa_cons (pe_op op_rep (pe_lst (pa_cons pe_int pa_nil)) (pe_callB call_len_str (by rfl) G.len PySem.boot_len (pa_cons (pv 1) pa_nil))) (pa_cons pe_int (pa_cons pe_int pa_nil))) (by rfl))
    (pss_cons (ps_for PassesOwn.never rfl (pi_range1 (by rfl) G.range (pa_cons (pe_callB call_len_str (by rfl) G.len PySem.boot_len (pa_cons (pv 1) pa_nil)) pa_nil)) (pg_name (i := 5) scRadii.nd rfl (.inl rfl))
        (C8.pss_cut (ps_if (pt_cmpR op_lt (pv 5) (pv 4) (nomark _))
            (pss_one (ps_asg (pe_callB (call_min2 rfl) (by rfl) G.min boot_min (pa_cons (pe_op op_sub (pv 4) (pv 5)) (pa_cons (pe_ix ix_list (pv 2) (pe_op op_sub (pe_op op_mul pe_int (pv 3)) (pv 5)) (fun _ _ => rfl)) pa_nil)))
              (pg_sub (pv 2) (pv 5) set_list))) pss_nil)
          (C8.pss_cut (ps_while PassesOwn.never (PW.pt (pw_and (pt_cmpR op_gt (pe_op op_sub (pv 5) (pe_ix ix_list (pv 2) (pv 5) (fun _ _ => rfl))) pe_int (nomark _))
                (pw_and1 (pt_cmpR op_lt (pe_op op_add (pe_op op_add (pv 5) (pe_ix ix_list (pv 2) (pv 5) (fun _ _ => rfl))) pe_int) (pe_callB call_len_str (by rfl) G.len PySem.boot_len (pa_cons (pv 1) pa_nil)) (nomark _)))))
              (pss_cons (ps_if (pt_cmpR op_ne (pe_ix ix_str (pv 1) (pe_op op_sub (pe_op op_sub (pv 5) (pe_ix ix_list (pv 2) (pv 5) (fun _ _ => rfl))) pe_int) (fun _ _ => rfl))
                  (pe_ix ix_str (pv 1) (pe_op op_add (pe_op op_add (pv 5) (pe_ix ix_list (pv 2) (pv 5) (fun _ _ => rfl))) pe_int) (fun _ _ => rfl)) (nomark _)) (pss_one ps_break) pss_nil)
                (pss_one (ps_augS (pv 2) (pv 5) get_list pe_int ip_add set_list))))
            (pss_one (ps_if (pt_cmpR op_gt (pe_op op_add (pv 5) (pe_ix ix_list (pv 2) (pv 5) (fun _ _ => rfl))) (pv 4) (nomark _))
              (pss_one (ps_par (i := 3) (j := 4) rfl scRadii.nd rfl rfl (by decide) rfl rfl (pa_cons (pv 5) (pa_cons (pe_op op_add (pv 5) (pe_ix ix_list (pv 2) (pv 5) (fun _ _ => rfl))) pa_nil)) (by rfl))) pss_nil)))))
    (pss_one (ps_ret (pv 2))))), ?_⟩
  have hlen := sg_len cs
  -- signs
  refine ⟨fun σ' H' => Same H H' ∧ σ' = [some (.str (S cs)), some (.str (S (sg cs))), none, none, none, none, none], ?_, ?_⟩
  · refine ⟨⟨S [], rfl⟩, .str (S cs), rfl, S cs, rfl, fun D nD => ?_⟩
    refine lc_it walk_str (fun i H1 => Same H H1 ∧ H1 D = some (.lst (((cs.take i).map fun c => S [c, 45]).map V.str))) ⟨same_new nD, ?_⟩ (fun _ _ _ _ => trivial) (fun i x H1 H2 hi p y => ?_) (fun H1 p => ?_)
    · rw [upd_same]
      rfl
    · obtain ⟨sm, hD⟩ := p
      obtain ⟨rfl, c, hc, rfl⟩ := y
      rw [S_get] at hc
      refine ⟨rfl, ?_⟩
      refine ⟨_, rfl, S [c], S [45], rfl, rfl, (by show 2 ≤ sizeLine; decide), _, hD, ?_, same_put sm nD, ?_⟩
      · rw [List.length_map, List.length_map, List.length_take]
        exact line_lt (by omega)
      · rw [upd_same, List.take_add_one, hc, List.map_append, List.map_append, S_cat]
        rfl
    · obtain ⟨sm, hD⟩ := p
      rw [S_size, List.take_length] at hD
      have e9 : ((cs.map fun c => S [c, 45]).map V.str) = ((cs.map fun c => [c, 45]).map S).map V.str := by
        rw [List.map_map, List.map_map, List.map_map]
        rfl
      have e8 : (((cs.map fun c => S [c, 45])).map (·.length)).sum = 2 * cs.length := by
        rw [List.map_map]
        exact sum_two cs
      refine ⟨S [], D, (cs.map fun c => S [c, 45]), rfl, rfl, .inl (SqL.of hD), ?_, ?_⟩
      · rw [e8, List.length_map]
        show 2 * cs.length + cs.length * 0 ≤ _
        omega
      · have e7 : Txt.join (S []) (cs.map fun c => S [c, 45]) = S (cs.flatMap fun c => [c, 45]) := by
          have := join_S (cs.map fun c => [c, 45])
          rw [List.map_map] at this
          exact this
        refine ⟨S [45], S (cs.flatMap fun c => [c, 45]), rfl, ?_, ?_, sm, ?_⟩
        · rw [e7]
        · rw [S_len, S_len]
          unfold sg at hlen
          rw [List.length_cons] at hlen
          exact line_of (by rw [List.length_singleton]; omega)
        · rw [S_cat]
          rfl
  rintro σ1 H1 ⟨sm1, rfl⟩
  -- found, middle, end
  have hN : (sg cs).length ≤ 4001 := by omega
  have z0 : rad (sg cs) 0 = 0 := by
    have := (rad_le (s := sg cs) (q := 0) (by omega)).1
    omega
  refine ⟨(by show 1 ≤ sizeLine; decide), fun o no => ?_⟩
  refine ⟨_, rfl, _, rfl, ?_, ?_⟩
  · rw [S_len]
    exact line_of (by omega)
  rw [S_len]
  refine ⟨o, _, _, rfl, rfl, upd_same, by omega, by omega, ?_, fun pf nf => ?_⟩
  · rw [Int.toNat_natCast]
    show 1 * _ ≤ _
    exact line_of (by omega)
  rw [Int.toNat_natCast, rep_zero, ← fnd_zero]
  have nf1 : H1 pf = none := by
    have hne : pf ≠ o := fun e => by
      rw [e, upd_same] at nf
      cases nf
    rw [upd_ne hne] at nf
    exact nf
  have nfH : H pf = none := sm1.free nf1
  have smF : Same H (upd (upd H1 o (.lst [V.int 0])) pf (.lst (vI (fnd (sg cs) 0 0)))) := (sm1.trans (same_new no)).trans (same_new nf)
  refine ⟨_, _, _, rfl, ?_⟩
  -- for
  refine ⟨_, rfl, _, rfl, ?_, _, rfl, by rw [S_len]; omega, by rw [S_len]; omega, ?_⟩
  · rw [S_len]
    exact line_of (by omega)
  rw [S_len, Int.toNat_natCast]
  refine for_range0 (fun p σ' H' => ∃ (m : Nat) (y5 : Option V), σ' = [some (.str (S cs)), some (.str (S (sg cs))), some (.ref pf), some (.int (m : Nat)), some (.int ((m + rad (sg cs) m : Nat))), y5, none] ∧ m < (sg cs).length ∧ (m < p ∨ m = 0) ∧
    Same H H' ∧ H' pf = some (.lst (vI (fnd (sg cs) p 0)))) ⟨0, none, by rw [z0]; rfl, by omega, .inr rfl, smF, upd_same⟩ (fun p σ' H' hp hP => ?_) (fun σ' H' hP => ?_)
  · obtain ⟨m, y5, rfl, hm, hmp, sm, hF⟩ := hP
    have hmr := rad_le hm
    -- the first if
    refine ⟨fun σ2 H2 => σ2 = [some (.str (S cs)), some (.str (S (sg cs))), some (.ref pf), some (.int (m : Nat)), some (.int ((m + rad (sg cs) m : Nat))), some (.int (p : Nat)), none] ∧ Same H H2 ∧
      ∃ r, H2 pf = some (.lst (vI (fnd (sg cs) p r))) ∧ mirAt (sg cs) p r, ?_, ?_⟩
    · refine ⟨_, rfl, _, rfl, _, _, rfl, rfl, _, rfl, ite2 (fun c => ?_) (fun c => ?_)⟩
      · have c' : (p : Int) < ((m + rad (sg cs) m : Nat) : Int) := of_decide_eq_true c
        have c2 : p < m + rad (sg cs) m := by omega
        have c3 : m < p := by
          rcases hmp with z | z
          · exact z
          · subst z
            rw [z0] at c2
            omega
        have hj : 2 * m - p < p := by omega
        refine ⟨_, rfl, _, rfl, _, _, rfl, rfl, ?_⟩
        refine ⟨.ref pf, rfl, .int (m : Nat), rfl, 2, (m : Nat), rfl, rfl, .inl ⟨by decide, by decide⟩, .int (p : Nat), rfl, _, _, rfl, rfl, pf, _, _, .int ((rad (sg cs) (2 * m - p) : Nat)), rfl, rfl, SqL.of hF, ?_, ?_⟩
        · rw [show (2 : Int) * ((m : Nat) : Int) - ((p : Nat) : Int) = ((2 * m - p : Nat) : Int) by omega]
          exact atI_vI (fnd_old hp hj)
        · refine ⟨_, _, rfl, .ref pf, rfl, _, rfl, pf, _, _, p, rfl, rfl, hF, ixN_nat (by rw [vI_len, fnd_len]; exact hp), ?_⟩
          refine ⟨rfl, same_put sm nfH, min (m + rad (sg cs) m - p) (rad (sg cs) (2 * m - p)), ?_, mirAt_reflect hm c3 (Nat.min_le_right _ _) (by omega) (by omega)⟩
          have e1 : (if ((rad (sg cs) (2 * m - p) : Nat) : Int) < ((m + rad (sg cs) m : Nat) : Int) - ((p : Nat) : Int) then ((rad (sg cs) (2 * m - p) : Nat) : Int) else ((m + rad (sg cs) m : Nat) : Int) - ((p : Nat) : Int)) = ((min (m + rad (sg cs) m - p) (rad (sg cs) (2 * m - p)) : Nat) : Int) := by
            split <;> omega
          rw [e1, vI_set, fnd_set]
          exact upd_same
      · exact ⟨rfl, sm, 0, hF, mirAt_zero hp⟩
    rintro σ2 H2 ⟨rfl, sm2, r0, hF2, hr0⟩
    -- the while
    refine ⟨fun σ3 H3 => σ3 = [some (.str (S cs)), some (.str (S (sg cs))), some (.ref pf), some (.int (m : Nat)), some (.int ((m + rad (sg cs) m : Nat))), some (.int (p : Nat)), none] ∧ Same H H3 ∧
      H3 pf = some (.lst (vI (fnd (sg cs) p (rad (sg cs) p)))), ?_, ?_⟩
    · refine ⟨fun k σ3 H3 => σ3 = [some (.str (S cs)), some (.str (S (sg cs))), some (.ref pf), some (.int (m : Nat)), some (.int ((m + rad (sg cs) m : Nat))), some (.int (p : Nat)), none] ∧ Same H H3 ∧
        ∃ r, H3 pf = some (.lst (vI (fnd (sg cs) p r))) ∧ mirAt (sg cs) p r ∧ k = (sg cs).length - r, ⟨_, rfl, sm2, r0, hF2, hr0, rfl⟩, ?_⟩
      rintro k σ3 H3 ⟨rfl, sm3, r, hF3, hr, rfl⟩
      have hat : atI (vI (fnd (sg cs) p r)) (p : Int) = some (.int (r : Nat)) := atI_vI (fnd_at hp)
      have fin : ¬ mirAt (sg cs) p (r + 1) → rad (sg cs) p = r := fun z => rad_eq hr z
      have hr1 := hr.1
      have hr2 := hr.2.1
      refine ⟨_, rfl, .ref pf, rfl, _, rfl, pf, _, _, _, rfl, rfl, SqL.of hF3, hat, _, _, rfl, rfl, _, _, rfl, rfl, _, rfl, ite2 (fun c => ?_) (fun c => ?_)⟩
      · have c1 : ((p : Nat) : Int) - ((r : Nat) : Int) > 0 := of_decide_eq_true c
        refine ⟨_, rfl, .ref pf, rfl, _, rfl, pf, _, _, _, rfl, rfl, SqL.of hF3, hat, _, _, rfl, rfl, _, _, rfl, rfl, _, rfl, _, rfl, ?_, _, _, rfl, rfl, _, rfl, ite2 (fun d => ?_) (fun d => ?_)⟩
        · rw [S_len]
          exact line_of (by omega)
        · have d1 : ((p : Nat) : Int) + ((r : Nat) : Int) + 1 < (((S (sg cs)).length : Nat) : Int) := of_decide_eq_true d
          rw [S_len] at d1
          refine ⟨fun σ4 H4 => σ4 = [some (.str (S cs)), some (.str (S (sg cs))), some (.ref pf), some (.int (m : Nat)), some (.int ((m + rad (sg cs) m : Nat))), some (.int (p : Nat)), none] ∧ Same H H4 ∧
            H4 pf = some (.lst (vI (fnd (sg cs) p (r + 1)))) ∧ mirAt (sg cs) p (r + 1), ?_, ?_⟩
          · rintro σ4 H4 ⟨rfl, sm4, hF4, hr4⟩
            exact ⟨(sg cs).length - (r + 1), by omega, rfl, sm4, r + 1, hF4, hr4, rfl⟩
          · have g1 : p - (r + 1) < (sg cs).length := by omega
            have g2 : p + (r + 1) < (sg cs).length := by omega
            have a1 : atI (S (sg cs)).cps.toList (((p : Nat) : Int) - ((r : Nat) : Int) - 1) = some (sg cs)[p - (r + 1)] := by
              rw [S_codes, show ((p : Nat) : Int) - ((r : Nat) : Int) - 1 = ((p - (r + 1) : Nat) : Int) by omega]
              exact atI_nat (List.getElem?_eq_getElem g1)
            have a2 : atI (S (sg cs)).cps.toList (((p : Nat) : Int) + ((r : Nat) : Int) + 1) = some (sg cs)[p + (r + 1)] := by
              rw [S_codes, show ((p : Nat) : Int) + ((r : Nat) : Int) + 1 = ((p + (r + 1) : Nat) : Int) by omega]
              exact atI_nat (List.getElem?_eq_getElem g2)
            have hsz : (S (sg cs)).length ≤ sizeLine := by
              rw [S_len]
              exact line_of (by omega)
            refine ⟨_, rfl, _, rfl, .ref pf, rfl, _, rfl, pf, _, _, _, rfl, rfl, SqL.of hF3, hat, _, _, rfl, rfl, _, _, rfl, rfl, S (sg cs), _, _, rfl, rfl, hsz, a1,
              _, rfl, _, rfl, .ref pf, rfl, _, rfl, pf, _, _, _, rfl, rfl, SqL.of hF3, hat, _, _, rfl, rfl, _, _, rfl, rfl, S (sg cs), _, _, rfl, rfl, hsz, a2, rfl, _, rfl, ?_⟩
            by_cases e : (sg cs)[p - (r + 1)] = (sg cs)[p + (r + 1)]
            · rw [e, decide_eq_true rfl]
              refine iteF ?_
              refine ⟨.ref pf, rfl, _, rfl, pf, _, p, _, rfl, rfl, SqL.of hF3, vI_get (fnd_at hp), _, _, rfl, rfl, pf, _, _, p, rfl, rfl, hF3, ixN_nat (by rw [vI_len, fnd_len]; exact hp), ?_⟩
              refine ⟨rfl, same_put sm3 nfH, ?_, mirAt_succ hr (by omega) g2 (by rw [List.getElem?_eq_getElem g1, List.getElem?_eq_getElem g2, e])⟩
              show upd H3 pf (HO.lst ((vI (fnd (sg cs) p r)).set p (V.int (((r : Nat) : Int) + 1)))) pf = _
              rw [show ((r : Nat) : Int) + 1 = ((r + 1 : Nat) : Int) by omega, vI_set, fnd_set]
              exact upd_same
            · rw [decide_eq_false (show ¬ (V.str ⟨#[(sg cs)[p - (r + 1)]]⟩ = V.str ⟨#[(sg cs)[p + (r + 1)]]⟩) from fun z => e (by
                have z1 := congrArg (fun x : Str => x.cps.toList) (V.str.inj z)
                exact (List.cons.inj z1).1))]
              refine iteT ?_
              refine ⟨rfl, sm3, ?_⟩
              rw [fin fun z => e (by
                have := z.2.2 (r + 1) (Nat.le_refl _)
                rw [List.getElem?_eq_getElem g1, List.getElem?_eq_getElem g2] at this
                exact Option.some.inj this)]
              exact hF3
        · have d1 : ¬ ((p : Nat) : Int) + ((r : Nat) : Int) + 1 < (((S (sg cs)).length : Nat) : Int) := of_decide_eq_false (Bool.eq_false_iff.mpr d)
          rw [S_len] at d1
          refine ⟨rfl, sm3, ?_⟩
          rw [fin fun z => by have := z.2.1; omega]
          exact hF3
      · have c1 : ¬ ((p : Nat) : Int) - ((r : Nat) : Int) > 0 := of_decide_eq_false (Bool.eq_false_iff.mpr c)
        refine ⟨rfl, sm3, ?_⟩
        rw [fin fun z => by have := z.1; omega]
        exact hF3
    rintro σ3 H3 ⟨rfl, sm3, hF3⟩
    -- the last if
    have hat : atI (vI (fnd (sg cs) p (rad (sg cs) p))) (p : Int) = some (.int (rad (sg cs) p : Nat)) := atI_vI (fnd_at hp)
    refine ⟨_, rfl, .ref pf, rfl, _, rfl, pf, _, _, _, rfl, rfl, SqL.of hF3, hat, _, _, rfl, rfl, _, rfl, _, _, rfl, rfl, _, rfl, ite2 (fun c => ?_) (fun c => ?_)⟩
    · refine ⟨_, rfl, _, rfl, .ref pf, rfl, _, rfl, pf, _, _, _, rfl, rfl, SqL.of hF3, hat, _, _, rfl, rfl, _, _, rfl, ?_⟩
      refine ⟨p, some (.int (p : Nat)), ?_, hp, .inl (by omega), sm3, ?_⟩
      · show [some (V.str (S cs)), some (V.str (S (sg cs))), some (V.ref pf), some (V.int (p : Nat)), some (V.int (((p : Nat) : Int) + ((rad (sg cs) p : Nat) : Int))), some (V.int (p : Nat)), none] = _
        rw [show ((p : Nat) : Int) + ((rad (sg cs) p : Nat) : Int) = ((p + rad (sg cs) p : Nat) : Int) by omega]
      · rw [← fnd_next]
        exact hF3
    · refine ⟨m, some (.int (p : Nat)), rfl, hm, by omega, sm3, ?_⟩
      rw [← fnd_next]
      exact hF3
  · obtain ⟨m, y5, rfl, hm, hmp, sm, hF⟩ := hP
    rw [fnd_end] at hF
    exact ⟨.ref pf, rfl, q H' pf sm nfH hF⟩
end
end Pm
/-! middles, count_mirrors, longest_mirror, cuts. -/
namespace Pm
open PySem PySem.Spec PyProof.Rows L2
/-- a def that may be called by its name -/
structure Cl (P : Program) (w : World) (K : PySem.W.Frag) (mg : Str → Option Value) (base : Heap) (x : Str) (lv : Nat) (ps : List Str) (sp : Sp) (f : Addr) (fd : FuncData) : Prop where
  G : FnOk P w K mg base CX0 lv f fd ps sp
  k : PySem.W.keepIn K (.ref f) = true
  b : Binds K fd ps []
  m : mg x = some (.ref f)
theorem ix_listK {X : Cx} {K : PySem.W.Frag} (h : X.K = K := by rfl) : IxR X (rIxL K) := h ▸ ix_list
theorem izs_sum : ∀ ns : List Nat, (izs ns).sum = ((ns.sum : Nat) : Int)
  | [] => rfl
  | n :: r => by
    have := izs_sum r
    unfold izs at this ⊢
    rw [List.map_cons, List.sum_cons, List.sum_cons, this]
    omega
theorem vI_take (ns : List Nat) (i n : Nat) (h : ns[i]? = some n) : vI (ns.take (i + 1)) = vI (ns.take i) ++ [.int (n : Nat)] := by
  rw [List.take_add_one, h]
  unfold vI izs
  rw [List.map_append, List.map_append]
  rfl
theorem vI_flat (ns : List Nat) : (vI ns).all flatV = true := by
  rw [List.all_eq_true]
  intro x hx
  obtain ⟨i, _, rfl⟩ := List.mem_map.mp hx
  rfl
section
variable {P : Program} {w : World} {K : PySem.W.Frag} {mg : Str → Option Value} {base : Heap} {fN fR : Addr} {fdN fdR : FuncData}
def spMiddles : Sp := fun vs H Q _ => ∃ cs, vs = [.str (S cs)] ∧ Lets cs ∧ cs.length ≤ 2000 ∧ ∀ H' p, Same H H' → H p = none → H' p = some (.tup (vI (rads cs))) → Q (.ref p) H'
theorem ok_middles {f : Addr} {fd : FuncData} (F : Fun K "middles" "middles" sMiddles f fd) (G : Gls mg) (N : Cl P w K mg base "need_word" 2 ["value"] spNone fN fdN) (R : Cl P w K mg base "radii_of" 2 ["word"] spRadii fR fdR) :
    FnOk P w K mg base CX0 3 f fd ["word"] spMiddles := by
  refine F.ok scMiddles (fun vs H Q E h => ?_) (fun cdv A outer s H vs Q E hr h => ?_)
  · obtain ⟨cs, rfl, _⟩ := h
    rfl
  obtain ⟨cs, rfl, hl, hn, q⟩ := h
  refine ⟨_, pss_cons (ps_expr (pe_call N.G hr (by rfl) N.m N.k N.b .nil pass0 (pa_cons (pv 0) pa_nil)))
    (pss_one (ps_ret (pe_callTy call_tuple_of (by rfl) G.tuple (by decide +kernel) (pa_cons (pe_call R.G hr (by rfl) R.m R.k R.b .nil pass0 (pa_cons (pv 0) pa_nil)) pa_nil)))), ?_⟩
  refine ⟨_, rfl, cs, rfl, hl, hn, fun H1 s1 => ?_⟩
  refine ⟨_, rfl, cs, rfl, hn, fun H2 p s2 np ep => ?_⟩
  refine ⟨p, _, rfl, .inl ⟨SqL.of ep, fun l hl => ?_⟩⟩
  exact q _ l ((s1.trans s2).trans (same_new hl)) ((s1.trans s2).free hl) upd_same
def halfSum (cs : List Nat) : Nat → Prop := fun n => n = ((rads cs).map fun r => (r + 1) / 2).sum
def spCount : Sp := fun vs H Q _ => ∃ cs, vs = [.str (S cs)] ∧ Lets cs ∧ cs.length ≤ 2000 ∧ ∀ H' n, Same H H' → halfSum cs n → Q (.int (n : Nat)) H'
theorem ok_count {f : Addr} {fd : FuncData} (F : Fun K "count_mirrors" "count_mirrors" sCount f fd) (G : Gls mg) (N : Cl P w K mg base "need_word" 2 ["value"] spNone fN fdN) (R : Cl P w K mg base "radii_of" 2 ["word"] spRadii fR fdR) :
    FnOk P w K mg base CX0 3 f fd ["word"] spCount := by
  refine F.ok scCount (fun vs H Q E h => ?_) (fun cdv A outer s H vs Q E hr h => ?_)
  · obtain ⟨cs, rfl, _⟩ := h
    rfl
  obtain ⟨cs, rfl, hl, hn, q⟩ := h
  refine ⟨_, pss_cons (ps_expr (pe_call N.G hr (by rfl) N.m N.k N.b .nil pass0 (pa_cons (pv 0) pa_nil)))
    (pss_one (ps_ret (pe_callB (cr_sum rfl) (by rfl) G.sum (by decide +kernel) (pa_cons
      (pe_lc (own := [("size", 1)]) (g := gName 1) (tt := tYes) rfl scCount.nd (pi_list (pe_call R.G hr (by rfl) R.m R.k R.b .nil pass0 (pa_cons (pv 0) pa_nil))) (blkOk_by (N := ["word", "size"]) (sc := defScope sCount) (by decide +kernel))
        (fun _ _ _ _ _ => pg_name (i := 1) scCount.nd rfl (Or.inl rfl)) (fun _ _ _ _ _ => pts_nil) (fun _ _ _ _ _ => pe_op op_fdiv (pe_op op_add (pv 1) pe_int) pe_int)) pa_nil)))), ?_⟩
  refine ⟨_, rfl, cs, rfl, hl, hn, fun H1 s1 => ?_⟩
  refine ⟨_, rfl, cs, rfl, hn, fun H2 p s2 np ep => ?_⟩
  have hL := rads_len cs
  refine ⟨p, rfl, ⟨_, SqL.of ep⟩, fun D nD => ?_⟩
  have pD : p ≠ D := ne_of_none ep nD
  refine lc_list (xs := vI (rads cs)) (fun i H3 => Same H2 H3 ∧ H3 D = some (.lst (vI (((rads cs).map fun r => (r + 1) / 2).take i)))) ⟨same_new nD, by rw [upd_same]; rfl⟩ (fun i H3 _ h => SqL.of (h.1 _ _ ep)) (fun i x H3 hx h => ?_) (fun H3 h => ?_)
  · obtain ⟨s3, eD⟩ := h
    have hi : i < (rads cs).length := by
      have := (List.getElem?_eq_some_iff.mp hx).1
      rw [vI_len] at this
      exact this
    have ex : x = .int ((rads cs)[i] : Nat) := Option.some.inj (hx.symm.trans (vI_get (List.getElem?_eq_getElem hi)))
    subst ex
    refine ⟨rfl, ?_⟩
    refine ⟨_, rfl, _, _, rfl, rfl, _, _, rfl, rfl, ⟨by decide, by decide⟩, _, eD, ?_, same_put s3 nD, ?_⟩
    · rw [vI_len, List.length_take, List.length_map]
      exact line_lt (by omega)
    · rw [upd_same, vI_take _ i (((rads cs)[i] + 1) / 2) (by rw [List.getElem?_map, List.getElem?_eq_getElem hi]; rfl)]
      rfl
  · obtain ⟨s3, eD⟩ := h
    rw [vI_len, show (rads cs).length = ((rads cs).map fun r => (r + 1) / 2).length by rw [List.length_map], List.take_length] at eD
    refine ⟨D, _, rfl, SqL.of eD, ?_⟩
    rw [izs_sum]
    exact q _ _ ((s1.trans s2).trans s3) rfl
def spLongest : Sp := fun vs H Q _ => ∃ cs, vs = [.str (S cs)] ∧ Lets cs ∧ cs.length ≤ 2000 ∧ ∀ H' most mid, Same H H' → (∀ c, c < 2 * cs.length + 1 → rad (sg cs) c ≤ most) → mid < 2 * cs.length + 1 → rad (sg cs) mid = most → (∀ c, c < mid → rad (sg cs) c ≠ most) →
  Q (.str (S (seg cs ((mid - most) / 2) ((mid - most) / 2 + most)))) H'
theorem first_hit {p : Nat → Prop} [DecidablePred p] : ∀ n, (∃ i, i < n ∧ p i) → ∃ i, i < n ∧ p i ∧ ∀ j, j < i → ¬ p j
  | 0, h => by obtain ⟨i, h, _⟩ := h; omega
  | n + 1, h => by
    by_cases e : ∃ i, i < n ∧ p i
    · obtain ⟨i, h1, h2, h3⟩ := first_hit n e
      exact ⟨i, by omega, h2, h3⟩
    · obtain ⟨i, h1, h2⟩ := h
      have : i = n := by
        by_cases z : i < n
        · exact absurd ⟨i, z, h2⟩ e
        · omega
      subst this
      exact ⟨i, h1, h2, fun j hj z => e ⟨j, hj, z⟩⟩
theorem ok_longest {f : Addr} {fd : FuncData} (F : Fun K "longest_mirror" "longest_mirror" sLongest f fd) (G : Gls mg) (N : Cl P w K mg base "need_word" 2 ["value"] spNone fN fdN) (R : Cl P w K mg base "radii_of" 2 ["word"] spRadii fR fdR) :
    FnOk P w K mg base CX0 3 f fd ["word"] spLongest := by
  refine F.ok scLongest (fun vs H Q E h => ?_) (fun cdv A outer s H vs Q E hr h => ?_)
  · obtain ⟨cs, rfl, _⟩ := h
    rfl
  obtain ⟨cs, rfl, hl, hn, q⟩ := h
  refine ⟨_, pss_cons (ps_expr (pe_call N.G hr (by rfl) N.m N.k N.b .nil pass0 (pa_cons (pv 0) pa_nil)))
    (pss_cons (ps_set (i := 1) scLongest.nd rfl (.inl rfl) (pe_call R.G hr (by rfl) R.m R.k R.b .nil pass0 (pa_cons (pv 0) pa_nil)))
    (pss_cons (ps_set (i := 2) scLongest.nd rfl (.inl rfl) (pe_callB (cr_max rfl) (by rfl) G.max (by decide +kernel) (pa_cons (pv 1) pa_nil)))
    (pss_cons (ps_set (i := 3) scLongest.nd rfl (.inl rfl) (pe_bm PySem.F.plainAttrs_list PySem.F.slot_list_index PySem.F.type_list_index mt_index (pv 1) (pa_cons (pv 2) pa_nil)))
    (pss_cons (ps_set (i := 4) scLongest.nd rfl (.inl rfl) (pe_op op_fdiv (pe_op op_sub (pv 3) (pv 2)) pe_int))
    (pss_one (ps_ret (pe_slice sl_str (pv 0) (po_some (pv 4)) (po_some (pe_op op_add (pv 4) (pv 2)))))))))), ?_⟩
  refine ⟨_, rfl, cs, rfl, hl, hn, fun H1 s1 => ?_⟩
  refine ⟨_, rfl, cs, rfl, hn, fun H2 p s2 np ep => ?_⟩
  have hL := rads_len cs
  refine ⟨_, rfl, p, izs (rads cs), rfl, SqL.of ep, by rw [ints_len]; omega, fun m hm hle => ?_⟩
  obtain ⟨most, hm2, rfl⟩ := List.mem_map.mp hm
  have hle2 : ∀ c, c < 2 * cs.length + 1 → rad (sg cs) c ≤ most := fun c hc => by
    have := hle ((rad (sg cs) c : Nat) : Int) (List.mem_map.mpr ⟨_, List.mem_of_getElem? (rads_get hc), rfl⟩)
    omega
  obtain ⟨mid, hmid, he, hf⟩ := first_hit (p := fun c => rad (sg cs) c = most) (2 * cs.length + 1) (by
    obtain ⟨i, hi, e⟩ := List.mem_iff_getElem.mp hm2
    rw [hL] at hi
    refine ⟨i, hi, ?_⟩
    have h9 := rads_get (w := cs) hi
    rw [List.getElem?_eq_getElem (by omega), e] at h9
    exact (Option.some.inj h9).symm)
  have hp := rad_parity (w := cs) hmid
  have hr2 := rad_le' (w := cs) hmid
  rw [he] at hp hr2
  refine ⟨.ref p, rfl, .inl ⟨rfl, _, SqL.of ep⟩, _, rfl, p, vI (rads cs), _, mid, .int ((rad (sg cs) mid : Nat)), rfl, rfl, SqL.of ep, rfl, vI_flat _, vI_get (rads_get hmid), ?_, fun m' z' hm' hz' => ?_, ?_⟩
  · rw [he]
    exact beq_self_eq_true _
  · rw [vI_get (rads_get (by omega))] at hz'
    cases hz'
    show (((rad (sg cs) m' : Nat) : Int) == ((most : Nat) : Int)) = false
    rw [beq_eq_false_iff_ne]
    have := hf m' hm'
    omega
  refine ⟨_, rfl, _, rfl, _, _, rfl, rfl, _, _, rfl, rfl, ⟨by decide, by decide⟩, ?_⟩
  refine ⟨_, rfl, _, rfl, _, rfl, _, rfl, _, rfl, _, _, rfl, rfl, _, rfl, S cs, rfl, ?_, ?_⟩
  · rw [S_len]
    exact line_of (by omega)
  · have z := q _ most mid (s1.trans s2) hle2 hmid he hf
    have e4 : (((mid : Nat) : Int) - ((most : Nat) : Int)) / 2 = (((mid - most) / 2 : Nat) : Int) := by omega
    have e : cutS (S cs) (some ((((mid : Nat) : Int) - ((most : Nat) : Int)) / 2)) (some ((((mid : Nat) : Int) - ((most : Nat) : Int)) / 2 + ((most : Nat) : Int))) = S (seg cs ((mid - most) / 2) ((mid - most) / 2 + most)) := by
      rw [e4, show ((((mid - most) / 2 : Nat) : Int) + ((most : Nat) : Int)) = (((mid - most) / 2 + most : Nat) : Int) by omega, cutS_nat (by omega) (by omega)]
    rw [← e] at z
    exact z
def spCuts : Sp := fun vs H Q _ => ∃ cs, vs = [.str (S cs)] ∧ Lets cs ∧ cs.length ≤ 2000 ∧ ∀ H', Same H H' → Q (.int (lastI (cutsL cs cs.length))) H'
theorem cutsL_last (cs : List Nat) (k : Nat) : atI ((cutsL cs k).map V.int) (-1) = some (.int (lastI (cutsL cs k))) := by
  have hl := cutsL_len cs k
  obtain ⟨a, b, e⟩ : ∃ a b, cutsL cs k = a ++ [b] := ⟨(cutsL cs k).dropLast, (cutsL cs k).getLast (by intro z; rw [z] at hl; simp at hl), (List.dropLast_concat_getLast _).symm⟩
  unfold lastI
  rw [e, List.map_append, List.length_append, List.length_singleton, Nat.add_sub_cancel]
  rw [show (a ++ [b]).getD a.length 0 = b by rw [List.getD_eq_getElem?_getD, List.getElem?_append_right (Nat.le_refl _), Nat.sub_self]; rfl]
  exact atI_last _ _
theorem cutsL_get {cs : List Nat} {k st : Nat} (h : st < k + 1) : ((cutsL cs k).map V.int)[st]? = some (.int ((cutsL cs k).getD st 0)) := by
  have hl := cutsL_len cs k
  rw [List.getElem?_map, List.getElem?_eq_getElem (by omega), List.getD_eq_getElem?_getD, List.getElem?_eq_getElem (by omega)]
  rfl
theorem ok_cuts {f : Addr} {fd : FuncData} (F : Fun K "cuts" "cuts" sCuts f fd) (G : Gls mg) (N : Cl P w K mg base "need_word" 2 ["value"] spNone fN fdN) (R : Cl P w K mg base "radii_of" 2 ["word"] spRadii fR fdR) :
    FnOk P w K mg base CX0 3 f fd ["word"] spCuts := by
  refine F.ok scCuts (fun vs H Q E h => ?_) (fun cdv A outer s H vs Q E hr h => ?_)
  · obtain ⟨cs, rfl, _⟩ := h
    rfl
  obtain ⟨cs, rfl, hl, hn, q⟩ := h
  refine ⟨_, pss_cons (ps_expr (pe_call N.G hr (by rfl) N.m N.k N.b .nil pass0 (pa_cons (pv 0) pa_nil)))
    (pss_cons (ps_asg (pe_tup (pa_cons (pe_call R.G hr (by rfl) R.m R.k R.b .nil pass0 (pa_cons (pv 0) pa_nil)) (pa_cons (pe_lst (pa_cons pe_int pa_nil)) pa_nil)))
        (pg_tup rfl (pgs_cons (pg_name (i := 1) scCuts.nd rfl (.inr rfl)) (pgs_cons (pg_name (i := 2) scCuts.nd rfl (.inr rfl)) pgs_nil))))
    (pss_cons (ps_for PassesOwn.never rfl (pi_range2 (by rfl) G.range (pa_cons pe_int (pa_cons (pe_op op_add (pe_callB call_len_str (by rfl) G.len PySem.boot_len (pa_cons (pv 0) pa_nil)) pe_int) pa_nil))) (pg_name (i := 3) scCuts.nd rfl (.inr rfl))
        (pss_cons (ps_setLc (i := 4) (own := [("start", 5)]) (g := gName 5) rfl scCuts.nd rfl rfl (sw_true rfl rfl rfl (by decide +kernel)) (pi_range1 (by rfl) G.range (pa_cons (pv 3) pa_nil))
            (blkOk_by (N := ["word", "sizes", "least", "end", "some", "start"]) (sc := defScope sCuts) (by decide +kernel)) (fun _ _ _ _ _ => pg_name (i := 5) scCuts.nd rfl (Or.inl rfl))
            (fun _ _ _ _ _ => pts_one (pt_cmpR op_ge (pe_ix (ix_listK (K := K)) (pv 1) (pe_op op_add (pv 5) (pv 3)) (fun _ _ => rfl)) (pe_op op_sub (pv 3) (pv 5)) (nomark _)))
            (fun _ _ _ _ _ => pe_op op_add (pe_ix (ix_listK (K := K)) (pv 2) (pv 5) (fun _ _ => rfl)) pe_int))
          (pss_one (ps_expr (pe_bm PySem.F.plainAttrs_list PySem.F.slot_list_append PySem.F.type_list_append mt_append (pv 2) (pa_cons (pe_callB (cr_min rfl) (by rfl) G.min (by decide +kernel) (pa_cons (pv 4) pa_nil)) pa_nil))))))
    (pss_one (ps_ret (pe_ix ix_list (pv 2) (pe_un un_neg pe_int) (fun _ _ => rfl)))))), ?_⟩
  have hL := rads_len cs
  refine ⟨_, rfl, cs, rfl, hl, hn, fun H1 s1 => ?_⟩
  refine ⟨_, rfl, cs, rfl, hn, fun H2 p s2 np ep => ?_⟩
  refine ⟨(by show 1 ≤ sizeLine; decide), fun l nl => ⟨(by show 2 ≤ sizeLine; decide), fun t nt => ?_⟩⟩
  have nlt : l ≠ t := ne_of_none upd_same nt
  refine ⟨t, [.ref p, .ref l], rfl, SqT.of upd_same, rfl, _, _, rfl, _, _, rfl, rfl, ?_⟩
  have s3 : Same H2 (upd (upd H2 l (.lst [V.int 0])) t (.tup [.ref p, .ref l])) := (same_new nl).trans (same_new nt)
  have el : (upd (upd H2 l (.lst [V.int 0])) t (.tup [.ref p, .ref l])) l = some (.lst ((cutsL cs 0).map V.int)) := by
    rw [upd_ne nlt, upd_same]
    rfl
  refine ⟨_, rfl, _, rfl, ?_, _, _, rfl, rfl, 1, _, rfl, ⟨by omega, by omega, by rw [S_len]; omega, by rw [S_len]; omega⟩, ?_⟩
  · rw [S_len]
    exact line_of (by omega)
  rw [S_len, show (((cs.length : Nat) : Int) + 1 - 1).toNat = cs.length by omega]
  refine for_range (fun e σ' H' => ∃ y3 y4, σ' = [some (.str (S cs)), some (.ref p), some (.ref l), y3, y4, none] ∧ Same H2 H' ∧ H' l = some (.lst ((cutsL cs e).map V.int))) ⟨none, none, rfl, s3, el⟩ (fun e σ' H' he hP => ?_) (fun σ' H' hP => ?_)
  · obtain ⟨y3, y4, rfl, s4, e4⟩ := hP
    rw [show (1 : Int) + (e : Int) = ((e + 1 : Nat) : Int) by omega]
    have hcl := cutsL_len cs e
    refine ⟨_, rfl, _, rfl, by omega, by omega, ?_⟩
    rw [Int.toNat_natCast]
    intro D nD
    have lD : l ≠ D := ne_of_none e4 nD
    refine lc_range0 (fun st H5 => Same H' H5 ∧ H5 D = some (.lst ((cand cs (cutsL cs e) (e + 1) st).map V.int))) ⟨same_new nD, by rw [upd_same]; rfl⟩ (fun st H5 hst h => ?_) (fun H5 h => ?_)
    · obtain ⟨s5, eD⟩ := h
      refine ⟨rfl, ?_⟩
      have hc : st + (e + 1) < 2 * cs.length + 1 := by omega
      refine ⟨_, rfl, _, rfl, _, rfl, _, _, rfl, rfl, p, _, _, .int ((rad (sg cs) (st + (e + 1)) : Nat)), rfl, rfl, SqL.of (s5 _ _ (s4 _ _ ep)), ?_, _, rfl, _, rfl, _, _, rfl, rfl, _, _, rfl, rfl, _, rfl, ite2 (fun c => ?_) (fun c => ?_)⟩
      · rw [show ((st : Nat) : Int) + ((e + 1 : Nat) : Int) = ((st + (e + 1) : Nat) : Int) by omega]
        exact atI_vI (rads_get hc)
      · have c1 : (((e + 1 : Nat) : Int) - ((st : Nat) : Int)) ≤ ((rad (sg cs) (st + (e + 1)) : Nat) : Int) := of_decide_eq_true c
        have hm : mirW cs st (e + 1) := (reach (by omega) (by omega)).mp (by omega)
        refine ⟨_, rfl, _, rfl, l, _, _, _, rfl, rfl, SqL.of (s5 _ _ e4), atI_nat (cutsL_get (by omega)), _, _, rfl, rfl, _, eD, ?_, same_put s5 nD, ?_⟩
        · rw [List.length_map]
          have := cand_len cs (cutsL cs e) (e + 1) st
          exact line_lt (by omega)
        · rw [upd_same, cand_hit hm, List.map_append]
          rfl
      · have c1 : ¬ (((e + 1 : Nat) : Int) - ((st : Nat) : Int)) ≤ ((rad (sg cs) (st + (e + 1)) : Nat) : Int) := of_decide_eq_false (Bool.eq_false_iff.mpr c)
        have hm : ¬ mirW cs st (e + 1) := fun z => by
          have := (reach (w := cs) (a := st) (b := e + 1) (by omega) (by omega)).mpr z
          omega
        refine ⟨s5, ?_⟩
        rw [cand_miss hm]
        exact eD
    · obtain ⟨s5, eD⟩ := h
      refine ⟨.ref l, rfl, .inl ⟨rfl, _, SqL.of (s5 _ _ e4)⟩, _, rfl, D, _, rfl, SqL.of eD, cand_pos he, fun m hm hle => ?_⟩
      refine ⟨l, _, _, rfl, rfl, s5 _ _ e4, ?_, _, _, rfl, ?_, ?_⟩
      · rw [List.length_map, hcl]
        exact line_lt (by omega)
      · exact same_put (s4.trans s5) nl
      · rw [upd_same, minL_eq hm hle]
        show some (HO.lst ((cutsL cs e).map V.int ++ [V.int _])) = some (HO.lst ((cutsL cs e ++ [_]).map V.int))
        rw [List.map_append]
        rfl
  · obtain ⟨y3, y4, rfl, s4, e4⟩ := hP
    refine ⟨_, rfl, 1, rfl, l, _, _, _, rfl, rfl, SqL.of e4, cutsL_last cs _, ?_⟩
    exact q _ ((s1.trans s2).trans s4)
end
end Pm
/-! common_piece. -/
namespace Pm
open PySem PySem.Spec PyProof.Rows L2
def sufs (u v : List Nat) (i m : Nat) : List Nat := (List.range m).map (suf u v i)
theorem sufs_len (u v : List Nat) (i m : Nat) : (sufs u v i m).length = m := by unfold sufs; simp
theorem sufs_get {u v : List Nat} {i m j : Nat} (h : j < m) : (sufs u v i m)[j]? = some (suf u v i j) := by
  unfold sufs
  rw [List.getElem?_map, List.getElem?_range h]
  rfl
theorem sufs_succ (u v : List Nat) (i m : Nat) : vI (sufs u v i (m + 1)) = vI (sufs u v i m) ++ [.int (suf u v i m : Nat)] := by
  unfold sufs vI izs
  rw [List.range_succ, List.map_append, List.map_append, List.map_append]
  rfl
theorem sufs_zero (u v : List Nat) (m : Nat) : sufs u v 0 m = List.replicate m 0 := by
  unfold sufs
  refine List.ext_getElem? fun i => ?_
  by_cases h : i < m
  · rw [List.getElem?_map, List.getElem?_range h, List.getElem?_replicate, if_pos h]
    rfl
  · rw [List.getElem?_eq_none (by simp; omega), List.getElem?_eq_none (by simp; omega)]
theorem fac_len {x u : List Nat} (h : Fac x u) : x.length ≤ u.length := by
  obtain ⟨a, h, _⟩ := h
  omega
section
variable {P : Program} {w : World} {K : PySem.W.Frag} {mg : Str → Option Value} {base : Heap} {fN fR : Addr} {fdN fdR : FuncData}
def spCommon : Sp := fun vs H Q _ => ∃ u v, vs = [.str (S u), .str (S v)] ∧ Lets u ∧ u.length ≤ 2000 ∧ Lets v ∧ v.length ≤ 2000 ∧ ∀ H' b, Same H H' → CP u v b → Q (.str (S b)) H'
theorem ok_common {f : Addr} {fd : FuncData} (F : Fun K "common_piece" "common_piece" sCommon f fd) (G : Gls mg) (N : Cl P w K mg base "need_word" 2 ["value"] spNone fN fdN) :
    FnOk P w K mg base CX0 3 f fd ["one", "other"] spCommon := by
  refine F.ok scCommon (fun vs H Q E h => ?_) (fun cdv A outer s H vs Q E hr h => ?_)
  · obtain ⟨u, v, rfl, _⟩ := h
    rfl
  obtain ⟨u, v, rfl, hu, hun, hv, hvn, q⟩ := h
  refine ⟨_, pss_cons (ps_expr (pe_call N.G hr (by rfl) N.m N.k N.b .nil pass0 (pa_cons (pv 0) pa_nil)))
    (pss_cons (ps_expr (pe_call N.G hr (by rfl) N.m N.k N.b .nil pass0 (pa_cons (pv 1) pa_nil)))
    (pss_cons (ps_par (i := 2) (j := 3) rfl scCommon.nd rfl rfl (by decide) rfl rfl (pa_cons pe_str (pa_cons (pe_op op_rep (pe_lst (pa_cons pe_int pa_nil)) (pe_op op_add (pe_callB call_len_str (by rfl) G.len PySem.boot_len (pa_cons (pv 1) pa_nil)) pe_int)) pa_nil)) (by rfl))
    (pss_cons (ps_for PassesOwn.never rfl (pi_enumS (by rfl) G.enumerate (pa_cons (pv 0) pa_nil))
        (pg_tup rfl (pgs_cons (pg_name (i := 4) scCommon.nd rfl (.inl rfl)) (pgs_cons (pg_name (i := 5) scCommon.nd rfl (.inl rfl)) pgs_nil)))
        (pss_cons (ps_set (i := 6) scCommon.nd rfl (.inl rfl) (pe_lst (pa_cons pe_int pa_nil)))
        (pss_cons (ps_for PassesOwn.never rfl (pi_enumS (by rfl) G.enumerate (pa_cons (pv 1) pa_nil))
            (pg_tup rfl (pgs_cons (pg_name (i := 7) scCommon.nd rfl (.inl rfl)) (pgs_cons (pg_name (i := 8) scCommon.nd rfl (.inl rfl)) pgs_nil)))
            (C8.pss_cut (ps_set (i := 9) scCommon.nd rfl (.inl rfl) (pe_ifExp (pt_cmpR op_eq (pv 8) (pv 5) (nomark _)) (pe_op op_add (pe_ix ix_list (pv 3) (pv 7) (fun _ _ => rfl)) pe_int) pe_int))
            (pss_cons (ps_expr (pe_bm PySem.F.plainAttrs_list PySem.F.slot_list_append PySem.F.type_list_append mt_append (pv 6) (pa_cons (pv 9) pa_nil)))
            (pss_one (ps_if (PW.pt (pw_and (pt_cmpR op_ge (pv 9) (pe_callB call_len_str (by rfl) G.len PySem.boot_len (pa_cons (pv 2) pa_nil)) (nomark _)) (pw_and1 (pt_cmpR op_gt (pv 9) pe_int (nomark _)))))
              (pss_cons (ps_set (i := 10) scCommon.nd rfl (.inl rfl) (pe_slice sl_str (pv 0) (po_some (pe_op op_sub (pe_op op_add (pv 4) pe_int) (pv 9))) (po_some (pe_op op_add (pv 4) pe_int))))
              (pss_one (ps_set (i := 2) scCommon.nd rfl (.inl rfl) (pe_ifExp (pt_cmpR op_gt (pv 9) (pe_callB call_len_str (by rfl) G.len PySem.boot_len (pa_cons (pv 2) pa_nil)) (nomark _)) (pv 10)
                (pe_callB (call_min2S rfl) (by rfl) G.min (by decide +kernel) (pa_cons (pv 2) (pa_cons (pv 10) pa_nil)))))))
              pss_nil)))))
        (pss_one (ps_set (i := 3) scCommon.nd rfl (.inl rfl) (pv 6))))))
    (pss_one (ps_ret (pv 2)))))), ?_⟩
  refine ⟨_, rfl, u, rfl, hu, hun, fun H1 s1 => ?_⟩
  refine ⟨_, rfl, v, rfl, hv, hvn, fun H2 s2 => ?_⟩
  refine ⟨(by show 1 ≤ sizeLine; decide), fun o no => ?_⟩
  refine ⟨_, rfl, _, rfl, ?_, _, _, rfl, rfl, o, _, _, rfl, rfl, upd_same, ?_⟩
  · rw [S_len]
    exact line_of (by omega)
  rw [S_len, show ((v.length : Nat) : Int) + 1 = ((v.length + 1 : Nat) : Int) by omega]
  refine ⟨by omega, by omega, ?_, fun pf nf => ?_⟩
  · rw [Int.toNat_natCast]
    show 1 * _ ≤ _
    exact line_of (by omega)
  rw [Int.toNat_natCast, rep_zero, ← sufs_zero u v]
  have s3 : Same H (upd (upd H2 o (.lst [V.int 0])) pf (.lst (vI (sufs u v 0 (v.length + 1))))) := ((s1.trans s2).trans (same_new no)).trans (same_new nf)
  refine ⟨_, _, rfl, ?_⟩
  refine ⟨_, rfl, S u, rfl, for_it walk_enumS (fun i σ' H' => ∃ (best : List Nat) (pa : Addr) (y4 y5 y6 y7 y8 y9 y10 : Option V), σ' = [some (.str (S u)), some (.str (S v)), some (.str (S best)), some (.ref pa), y4, y5, y6, y7, y8, y9, y10] ∧
    BestC u v i 0 best ∧ Same H H' ∧ H' pa = some (.lst (vI (sufs u v i (v.length + 1))))) ⟨[], pf, _, _, _, _, _, _, _, rfl, bestC_zero u v, s3, upd_same⟩ (fun _ _ _ _ _ => trivial) (fun i x σ' H3 H4 hi p y => ?_) (fun σ' H3 p => ?_)⟩
  · obtain ⟨best, pa, y4, y5, y6, y7, y8, y9, y10, rfl, hB, sm, ea⟩ := p
    obtain ⟨T, c, rfl, nT, rfl, hc⟩ := y
    rw [S_get] at hc
    rw [S_size] at hi
    refine ⟨T, [.int i, .str ⟨#[c]⟩], rfl, SqT.of upd_same, rfl, _, _, rfl, _, _, rfl, rfl, ?_⟩
    have sm4 : Same H (upd H3 T (.tup [.int i, .str ⟨#[c]⟩])) := sm.trans (same_new nT)
    have ea4 : (upd H3 T (.tup [.int i, .str ⟨#[c]⟩])) pa = some (.lst (vI (sufs u v i (v.length + 1)))) := same_new nT _ _ ea
    refine ⟨(by show 1 ≤ sizeLine; decide), fun pn nn => ?_⟩
    have nnH : H pn = none := sm4.free nn
    have pan : pa ≠ pn := ne_of_none ea4 nn
    refine ⟨_, rfl, S v, rfl, for_it walk_enumS (fun j σ' H' => ∃ (best : List Nat) (y7 y8 y9 y10 : Option V), σ' = [some (.str (S u)), some (.str (S v)), some (.str (S best)), some (.ref pa), some (.int (i : Nat)), some (.str ⟨#[c]⟩), some (.ref pn), y7, y8, y9, y10] ∧
      BestC u v i j best ∧ Same H H' ∧ H' pa = some (.lst (vI (sufs u v i (v.length + 1)))) ∧ H' pn = some (.lst (vI (sufs u v (i + 1) (j + 1))))) ⟨best, _, _, _, _, rfl, hB, sm4.trans (same_new nn), same_new nn _ _ ea4, ?_⟩ (fun _ _ _ _ _ => trivial) (fun j x σ' H5 H6 hj p y => ?_) (fun σ' H5 p => ?_)⟩
    · rw [upd_same]
      rfl
    · obtain ⟨best, y7, y8, y9, y10, rfl, hB, sm5, ea5, en5⟩ := p
      obtain ⟨T2, d, rfl, nT2, rfl, hd⟩ := y
      rw [S_get] at hd
      rw [S_size] at hj
      refine ⟨T2, [.int j, .str ⟨#[d]⟩], rfl, SqT.of upd_same, rfl, _, _, rfl, _, _, rfl, rfl, ?_⟩
      have sm6 : Same H (upd H5 T2 (.tup [.int j, .str ⟨#[d]⟩])) := sm5.trans (same_new nT2)
      have ea6 : (upd H5 T2 (.tup [.int j, .str ⟨#[d]⟩])) pa = some (.lst (vI (sufs u v i (v.length + 1)))) := same_new nT2 _ _ ea5
      have en6 : (upd H5 T2 (.tup [.int j, .str ⟨#[d]⟩])) pn = some (.lst (vI (sufs u v (i + 1) (j + 1)))) := same_new nT2 _ _ en5
      generalize hH6 : upd H5 T2 (.tup [.int j, .str ⟨#[d]⟩]) = H6 at sm6 ea6 en6
      have hbl := fac_len hB.1
      have hsl := suf_le u v (i + 1) (j + 1)
      -- size
      refine ⟨fun σ7 H7 => σ7 = [some (.str (S u)), some (.str (S v)), some (.str (S best)), some (.ref pa), some (.int (i : Nat)), some (.str ⟨#[c]⟩), some (.ref pn), some (.int (j : Nat)), some (.str ⟨#[d]⟩), some (.int (suf u v (i + 1) (j + 1) : Nat)), y10] ∧ H7 = H6, ?_, ?_⟩
      · refine ⟨_, rfl, _, rfl, rfl, _, rfl, ?_⟩
        by_cases e : u[i]? = v[j]?
        · have e1 : d = c := by
            rw [hc, hd] at e
            exact (Option.some.inj e).symm
          subst e1
          rw [decide_eq_true rfl]
          refine iteT ?_
          refine ⟨.ref pa, rfl, _, rfl, pa, _, _, _, rfl, rfl, SqL.of ea6, atI_vI (sufs_get (by omega)), _, _, rfl, rfl, ?_, rfl⟩
          have e2 : suf u v (i + 1) (j + 1) = suf u v i j + 1 := by
            show (if u[i]? = v[j]? then suf u v i j + 1 else 0) = _
            rw [if_pos e]
          rw [e2, show ((suf u v i j + 1 : Nat) : Int) = ((suf u v i j : Nat) : Int) + 1 by omega]
          rfl
        · rw [decide_eq_false (show ¬ (V.str ⟨#[d]⟩ = V.str ⟨#[c]⟩) from fun z => e (by
            have z1 := congrArg (fun x : Str => x.cps.toList) (V.str.inj z)
            rw [hc, hd, (List.cons.inj z1).1]))]
          refine iteF ?_
          refine ⟨?_, rfl⟩
          have e2 : suf u v (i + 1) (j + 1) = 0 := by
            show (if u[i]? = v[j]? then suf u v i j + 1 else 0) = _
            rw [if_neg e]
          rw [e2]
          rfl
      rintro σ7 H7 ⟨rfl, rfl⟩
      -- now.append(size)
      refine ⟨.ref pn, rfl, .inl ⟨rfl, _, SqL.of en6⟩, _, rfl, pn, _, _, rfl, rfl, en6, ?_, ?_⟩
      · rw [vI_len, sufs_len]
        exact line_lt (by omega)
      rw [← sufs_succ]
      have sm8 : Same H (upd H7 pn (.lst (vI (sufs u v (i + 1) (j + 1 + 1))))) := same_put sm6 nnH
      have ea8 : (upd H7 pn (.lst (vI (sufs u v (i + 1) (j + 1 + 1))))) pa = some (.lst (vI (sufs u v i (v.length + 1)))) := by
        rw [upd_ne pan]
        exact ea6
      have en8 : (upd H7 pn (.lst (vI (sufs u v (i + 1) (j + 1 + 1))))) pn = some (.lst (vI (sufs u v (i + 1) (j + 1 + 1)))) := upd_same
      generalize upd H7 pn (.lst (vI (sufs u v (i + 1) (j + 1 + 1)))) = H8 at sm8 ea8 en8
      have hline : (S best).length ≤ sizeLine := by
        rw [S_len]
        exact line_of (by omega)
      refine ⟨_, rfl, _, rfl, _, rfl, hline, _, _, rfl, rfl, _, rfl, ite2 (fun a => ?_) (fun a => ?_)⟩
      · have a1 : (((S best).length : Nat) : Int) ≤ ((suf u v (i + 1) (j + 1) : Nat) : Int) := of_decide_eq_true a
        rw [S_len] at a1
        refine ⟨_, rfl, _, _, rfl, rfl, _, rfl, ite2 (fun b => ?_) (fun b => ?_)⟩
        · have b1 : ((suf u v (i + 1) (j + 1) : Nat) : Int) > 0 := of_decide_eq_true b
          refine ⟨_, rfl, _, rfl, _, _, rfl, rfl, _, rfl, _, _, rfl, rfl, _, rfl, _, rfl, _, _, rfl, rfl, _, rfl, S u, rfl, ?_, ?_⟩
          · rw [S_len]
            exact line_of (by omega)
          have et : cutS (S u) (some (((i : Nat) : Int) + 1 - ((suf u v (i + 1) (j + 1) : Nat) : Int))) (some (((i : Nat) : Int) + 1)) = S (seg u (i + 1 - suf u v (i + 1) (j + 1)) (i + 1)) := by
            rw [show ((i : Nat) : Int) + 1 - ((suf u v (i + 1) (j + 1) : Nat) : Int) = ((i + 1 - suf u v (i + 1) (j + 1) : Nat) : Int) by omega, show ((i : Nat) : Int) + 1 = ((i + 1 : Nat) : Int) by omega, cutS_nat (by omega) (by omega)]
          refine ⟨_, rfl, _, rfl, _, rfl, hline, _, _, rfl, rfl, _, rfl, ite2 (fun g => ?_) (fun g => ?_)⟩
          · have g1 : ((suf u v (i + 1) (j + 1) : Nat) : Int) > (((S best).length : Nat) : Int) := of_decide_eq_true g
            rw [S_len] at g1
            refine ⟨_, rfl, seg u (i + 1 - suf u v (i + 1) (j + 1)) (i + 1), some (.int (j : Nat)), some (.str ⟨#[d]⟩), some (.int (suf u v (i + 1) (j + 1) : Nat)), some (.str (S (seg u (i + 1 - suf u v (i + 1) (j + 1)) (i + 1)))), ?_, bestC_up hB hi hj (by omega), sm8, ea8, en8⟩
            rw [← et]
            rfl
          · have g1 : ¬ ((suf u v (i + 1) (j + 1) : Nat) : Int) > (((S best).length : Nat) : Int) := of_decide_eq_false (Bool.eq_false_iff.mpr g)
            rw [S_len] at g1
            refine ⟨_, rfl, _, rfl, _, _, rfl, if seg u (i + 1 - suf u v (i + 1) (j + 1)) (i + 1) < best then seg u (i + 1 - suf u v (i + 1) (j + 1)) (i + 1) else best, some (.int (j : Nat)), some (.str ⟨#[d]⟩), some (.int (suf u v (i + 1) (j + 1) : Nat)), some (.str (S (seg u (i + 1 - suf u v (i + 1) (j + 1)) (i + 1)))), ?_, bestC_eq hB hi hj (by omega), sm8, ea8, en8⟩
            have e9 : (if (S (seg u (i + 1 - suf u v (i + 1) (j + 1)) (i + 1))).cps.toList < (S best).cps.toList then S (seg u (i + 1 - suf u v (i + 1) (j + 1)) (i + 1)) else S best) = S (if seg u (i + 1 - suf u v (i + 1) (j + 1)) (i + 1) < best then seg u (i + 1 - suf u v (i + 1) (j + 1)) (i + 1) else best) := by
              rw [S_codes, S_codes]
              split <;> rfl
            rw [← e9, ← et]
            rfl
        · have b1 : ¬ ((suf u v (i + 1) (j + 1) : Nat) : Int) > 0 := of_decide_eq_false (Bool.eq_false_iff.mpr b)
          exact ⟨best, _, _, _, _, rfl, bestC_low hB (by omega), sm8, ea8, en8⟩
      · have a1 : ¬ (((S best).length : Nat) : Int) ≤ ((suf u v (i + 1) (j + 1) : Nat) : Int) := of_decide_eq_false (Bool.eq_false_iff.mpr a)
        rw [S_len] at a1
        exact ⟨best, _, _, _, _, rfl, bestC_low hB (by omega), sm8, ea8, en8⟩
    · obtain ⟨best, y7, y8, y9, y10, rfl, hB, sm5, ea5, en5⟩ := p
      rw [S_size] at hB en5
      exact ⟨.ref pn, rfl, best, pn, _, _, _, _, _, _, _, rfl, bestC_row hB, sm5, en5⟩
  · obtain ⟨best, pa, y4, y5, y6, y7, y8, y9, y10, rfl, hB, sm, ea⟩ := p
    rw [S_size] at hB
    exact ⟨_, rfl, q _ _ sm (bestC_end hB)⟩
end
end Pm
/-! The law's draws: _law_taken, _law_plan, _law_word_of. -/
namespace Pm
open PySem PySem.Spec PyProof.Rows L2
/-- all but what stands at r is as it was -/
def Kp (r : Addr) (H H' : Hp) : Prop := ∀ b o, b ≠ r → H b = some o → H' b = some o
theorem Kp.refl {r : Addr} {H : Hp} : Kp r H H := fun _ _ _ h => h
theorem Kp.trans {r : Addr} {H H1 H2 : Hp} (a : Kp r H H1) (b : Kp r H1 H2) : Kp r H H2 := fun c o n h => b c o n (a c o n h)
theorem Kp.of {r : Addr} {H H' : Hp} (h : Same H H') : Kp r H H' := fun c o _ e => h c o e
theorem Kp.put {r : Addr} {H H1 : Hp} {o : HO} (a : Kp r H H1) : Kp r H (upd H1 r o) := fun b x n e => by
  rw [upd_ne n]
  exact a b x n e
theorem Kp.put_new {r p : Addr} {H H1 : Hp} {o : HO} (a : Kp r H H1) (hp : H p = none) : Kp r H (upd H1 p o) := fun b x n e => by
  rw [upd_ne (ne_of_none e hp)]
  exact a b x n e
theorem Kp.none {r p : Addr} {H H1 : Hp} (a : Kp r H H1) (hr : p ≠ r) (hp : H1 p = none) : H p = none := by
  cases e : H p with
  | none => rfl
  | some o =>
    rw [a p o hr e] at hp
    cases hp
theorem Kp.seq {K : PySem.W.Frag} {r : Addr} {H H' : Hp} {a : Addr} {xs : List V} (e : Kp r H H') (n : a ≠ r ∨ ∀ H', SqL K H' a xs) (h : SqL K H a xs) : SqL K H' a xs := by
  rcases n with n | n
  · rcases h with (h | ⟨o, h⟩) | h
    · exact .inl (.inl (e _ _ n h))
    · exact .inl (.inr ⟨o, e _ _ n h⟩)
    · exact .inr h
  · exact n H'
/-- a list that is to be read stands apart from a new object, or hangs on no heap -/
theorem sq_apart {K : PySem.W.Frag} {H : Hp} {a r : Addr} {xs : List V} (h : SqL K H a xs) (hr : H r = none) : a ≠ r ∨ ∀ H', SqL K H' a xs := by
  rcases h with (h | ⟨o, h⟩) | h
  · exact .inl (ne_of_none h hr)
  · exact .inl (ne_of_none h hr)
  · exact .inr fun _ => .inr h
def rowL (sc : Addr) (i x y : Int) : List V := [.ref sc, .int i, .int x, .int y]
/-- the law's row: the script, a place, a number below 2147483647, a rest -/
def RowOk (K : PySem.W.Frag) (sc : Addr) (ns : List Int) (H : Hp) (r : Addr) : Prop := ∃ (i : Nat) (x y : Int), H r = some (.lst (rowL sc i x y)) ∧ SqL K H sc (ns.map V.int) ∧ ns.length ≤ 63 ∧ (sc ≠ r ∨ ∀ H', SqL K H' sc (ns.map V.int)) ∧ 0 ≤ x ∧ x < 2147483647
section
variable {K : PySem.W.Frag} {sc : Addr} {ns : List Int} {H H1 H' : Hp} {r p : Addr} {o : HO}
theorem RowOk.keep (h : RowOk K sc ns H r) (e : Same H H') : RowOk K sc ns H' r := by
  obtain ⟨i, x, y, h1, h2, h3⟩ := h
  exact ⟨i, x, y, e _ _ h1, e.seq h2, h3⟩
theorem RowOk.some (h : RowOk K sc ns H r) : ∃ xs, H r = some (.lst xs) := by
  obtain ⟨i, x, y, h1, _⟩ := h
  exact ⟨_, h1⟩
theorem RowOk.ne (h : RowOk K sc ns H r) (e : H p = none) : r ≠ p := by
  obtain ⟨xs, h⟩ := h.some
  exact ne_of_none h e
theorem RowOk.put_new (h0 : RowOk K sc ns H r) (h : RowOk K sc ns H1 r) (k : Kp r H H1) (hp : H p = none) : RowOk K sc ns (upd H1 p o) r := by
  have hr := h0.ne hp
  obtain ⟨_, _, _, _, a2, _⟩ := h0
  obtain ⟨i, x, y, h1, h2, h3, h4, h5⟩ := h
  exact ⟨i, x, y, by rw [upd_ne hr]; exact h1, (k.put_new hp).seq h4 a2, h3, h4, h5⟩
end
section
variable {P : Program} {w : World} {K : PySem.W.Frag} {mg : Str → Option Value} {base : Heap}
def spTaken (K : PySem.W.Frag) : Sp := fun vs H Q _ => ∃ (r : Addr) (m : Int) (sc : Addr) (ns : List Int), vs = [.ref r, .int m] ∧ 0 < m ∧ m ≤ 1000 ∧ RowOk K sc ns H r ∧ ∀ H' v, 0 ≤ v → v < m → RowOk K sc ns H' r → Kp r H H' → Q (.int v) H'
theorem ok_taken {f : Addr} {fd : FuncData} {k : Nat} (F : Fun K "_law_taken" "_law_taken" sTaken f fd) (G : Gls mg) : FnOk P w K mg base CX0 (k + 1) f fd ["_law_row", "_law_many"] (spTaken K) := by
  refine F.ok scTaken (fun vs H Q E h => ?_) (fun cdv A outer s H vs Q E hr h => ?_)
  · obtain ⟨r, m, sc, ns, rfl, _⟩ := h
    rfl
  obtain ⟨r, m, sc, ns, rfl, m0, m1, ⟨i, x, y, e0, hS, hns, nsr, x0, x1⟩, q⟩ := h
  refine ⟨_, pss_cons (ps_if (pt_cmpR op_gt (pe_ix ix_list (pv 0) pe_int (fun _ _ => rfl)) pe_int (nomark _))
      (pss_cons (ps_set (i := 2) scTaken.nd rfl (.inl rfl) (pe_op op_mod (pe_callTy call_int1 (by rfl) G.int (by decide +kernel) (pa_cons (pe_ix ix_list (pv 0) pe_int (fun _ _ => rfl)) pa_nil)) (pv 1)))
      (pss_cons (ps_asg (pe_op op_fdiv (pe_ix ix_list (pv 0) pe_int (fun _ _ => rfl)) (pv 1)) (pg_sub (pv 0) pe_int set_list))
      (pss_one (ps_ret (pv 2))))) pss_nil)
    (pss_cons (ps_asg (pe_op op_add (pe_ix ix_list (pv 0) pe_int (fun _ _ => rfl)) pe_int) (pg_sub (pv 0) pe_int set_list))
    (pss_cons (ps_if (pt_cmpR op_gt (pe_ix ix_list (pv 0) pe_int (fun _ _ => rfl)) (pe_callB call_len_seq (by rfl) G.len PySem.boot_len (pa_cons (pe_ix ix_list (pv 0) pe_int (fun _ _ => rfl)) pa_nil)) (nomark _))
      (pss_cons (ps_asg (pe_op op_mod (pe_callTy call_int1 (by rfl) G.int (by decide +kernel) (pa_cons (pe_op op_add (pe_op op_mul (pe_ix ix_list (pv 0) pe_int (fun _ _ => rfl)) pe_int) pe_int) pa_nil)) pe_int) (pg_sub (pv 0) pe_int set_list))
      (pss_one (ps_ret (pe_op op_mod (pe_callTy call_int1 (by rfl) G.int (by decide +kernel) (pa_cons (pe_op op_fdiv (pe_ix ix_list (pv 0) pe_int (fun _ _ => rfl)) pe_int) pa_nil)) (pv 1))))) pss_nil)
    (pss_cons (ps_set (i := 3) scTaken.nd rfl (.inl rfl) (pe_ix ix_list (pe_ix ix_list (pv 0) pe_int (fun _ _ => rfl)) (pe_op op_sub (pe_ix ix_list (pv 0) pe_int (fun _ _ => rfl)) pe_int) (fun _ _ => rfl)))
    (pss_cons (ps_asg (pe_op op_mod (pe_callTy call_int1 (by rfl) G.int (by decide +kernel) (pa_cons (pe_op op_add (pe_op op_add (pe_op op_mul (pe_ix ix_list (pv 0) pe_int (fun _ _ => rfl)) pe_int) (pv 3)) pe_int) pa_nil)) pe_int) (pg_sub (pv 0) pe_int set_list))
    (C8.pss_cut (ps_if (pt_cmpR op_ge (pv 3) (pe_op op_pow pe_int pe_int) (nomark _)) (pss_one (ps_asg (pe_op op_fdiv (pv 3) (pv 1)) (pg_sub (pv 0) pe_int set_list))) pss_nil)
    (pss_one (ps_ret (pe_op op_mod (pe_callTy call_int1 (by rfl) G.int (by decide +kernel) (pa_cons (pv 3) pa_nil)) (pv 1))))))))), ?_⟩
  have at0 : ∀ a b c d : V, atI [a, b, c, d] 0 = some a := fun a b c d => atI_nat (j := 0) rfl
  have at1 : ∀ a b c d : V, atI [a, b, c, d] 1 = some b := fun a b c d => atI_nat (j := 1) rfl
  have at2 : ∀ a b c d : V, atI [a, b, c, d] 2 = some c := fun a b c d => atI_nat (j := 2) rfl
  have at3 : ∀ a b c d : V, atI [a, b, c, d] 3 = some d := fun a b c d => atI_nat (j := 3) rfl
  have big : ∀ z : Int, 0 ≤ z % 2147483647 ∧ z % 2147483647 < 2147483647 := fun z => ⟨Int.emod_nonneg _ (by decide), Int.emod_lt_of_pos _ (by decide)⟩
  have low : ∀ z : Int, 0 ≤ z % m ∧ z % m < m := fun z => ⟨Int.emod_nonneg _ (by omega), Int.emod_lt_of_pos _ m0⟩
  have sq : ∀ {H' : Hp}, Kp r H H' → SqL K H' sc (ns.map V.int) := fun e => e.seq nsr hS
  have row : ∀ {H' : Hp} (i' : Nat) (x' y' : Int), Kp r H H' → H' r = some (.lst (rowL sc i' x' y')) → 0 ≤ x' → x' < 2147483647 → RowOk K sc ns H' r := fun i' x' y' e e' a b => ⟨i', x', y', e', sq e, hns, nsr, a, b⟩
  refine ⟨.ref r, rfl, r, _, _, _, rfl, rfl, SqL.of e0, at3 _ _ _ _, _, _, rfl, rfl, _, rfl, ite2 (fun c => ?_) (fun c => ?_)⟩
  · -- a rest is left
    refine ⟨.ref r, rfl, r, _, _, _, rfl, rfl, SqL.of e0, at3 _ _ _ _, .inl ⟨_, rfl, _, rfl, _, _, rfl, rfl, m0, ?_⟩⟩
    refine ⟨.ref r, rfl, r, _, _, _, rfl, rfl, SqL.of e0, at3 _ _ _ _, _, rfl, _, _, rfl, rfl, ⟨m0, by omega⟩, .ref r, rfl, r, _, _, 3, rfl, rfl, e0, rfl, ?_⟩
    exact ⟨_, rfl, q _ _ (low y).1 (low y).2 (row i x (y / m) (Kp.refl.put) upd_same x0 x1) Kp.refl.put⟩
  · -- the next place
    refine ⟨.ref r, rfl, r, _, _, _, rfl, rfl, SqL.of e0, at1 _ _ _ _, _, _, rfl, rfl, .ref r, rfl, r, _, _, 1, rfl, rfl, e0, rfl, ?_⟩
    have k1 : Kp r H (upd H r (.lst ((rowL sc i x y).set 1 (V.int ((i : Int) + 1))))) := Kp.refl.put
    have e1 : (upd H r (.lst ((rowL sc i x y).set 1 (V.int ((i : Int) + 1))))) r = some (.lst (rowL sc ((i + 1 : Nat) : Int) x y)) := by
      rw [upd_same]
      show some (HO.lst [V.ref sc, V.int ((i : Int) + 1), V.int x, V.int y]) = _
      rw [show ((i : Nat) : Int) + 1 = ((i + 1 : Nat) : Int) by omega]
      rfl
    refine ⟨.ref r, rfl, r, _, _, _, rfl, rfl, SqL.of e1, at1 _ _ _ _, .ref r, rfl, r, _, _, _, rfl, rfl, SqL.of e1, at0 _ _ _ _, sc, _, rfl, .inl (sq k1), _, _, rfl, rfl, _, rfl, ite2 (fun d => ?_) (fun d => ?_)⟩
    · -- no cell is left
      refine ⟨.ref r, rfl, r, _, _, _, rfl, rfl, SqL.of e1, at2 _ _ _ _, _, _, rfl, rfl, .inl ⟨by omega, by omega⟩, _, _, rfl, rfl, .inl ⟨_, rfl, _, _, rfl, rfl, (by show (0 : Int) < 2147483647; decide), .ref r, rfl, r, _, _, 2, rfl, rfl, e1, rfl, ?_⟩⟩
      refine ⟨.ref r, rfl, r, _, _, _, rfl, rfl, SqL.of upd_same, at2 _ _ _ _, _, _, rfl, rfl, ⟨by decide, by decide⟩, .inl ⟨_, rfl, _, rfl, _, _, rfl, rfl, m0, ?_⟩⟩
      exact q _ _ (low _).1 (low _).2 (row (i + 1) _ y k1.put upd_same (big _).1 (big _).2) k1.put
    · -- the cell
      have d1 : ¬ (((i + 1 : Nat) : Int) > (((ns.map V.int).length : Nat) : Int)) := of_decide_eq_false (Bool.eq_false_iff.mpr d)
      rw [List.length_map] at d1
      have hi : i < ns.length := by omega
      refine ⟨.ref r, rfl, r, _, _, _, rfl, rfl, SqL.of e1, at0 _ _ _ _, .ref r, rfl, r, _, _, _, rfl, rfl, SqL.of e1, at1 _ _ _ _, _, _, rfl, rfl, sc, _, _, .int ns[i], rfl, rfl, sq k1, ?_, ?_⟩
      · rw [show ((i + 1 : Nat) : Int) - 1 = (i : Int) by omega]
        exact atI_nat (int_get (List.getElem?_eq_getElem hi))
      refine ⟨.ref r, rfl, r, _, _, _, rfl, rfl, SqL.of e1, at2 _ _ _ _, _, _, rfl, rfl, .inl ⟨by omega, by omega⟩, _, rfl, _, _, rfl, rfl, _, _, rfl, rfl, .inl ⟨_, rfl, _, _, rfl, rfl, (by show (0 : Int) < 2147483647; decide), .ref r, rfl, r, _, _, 2, rfl, rfl, e1, rfl, ?_⟩⟩
      refine ⟨fun σ' H' => σ' = [some (.ref r), some (.int m), none, some (.int ns[i])] ∧ RowOk K sc ns H' r ∧ Kp r H H', ?_, ?_⟩
      · refine ⟨_, rfl, _, _, rfl, rfl, ⟨by decide, by decide, by decide⟩, _, _, rfl, rfl, _, rfl, ite2 (fun g => ?_) (fun g => ?_)⟩
        · refine ⟨_, rfl, _, rfl, _, _, rfl, rfl, ⟨m0, by omega⟩, .ref r, rfl, r, _, _, 3, rfl, rfl, upd_same, rfl, ?_⟩
          exact ⟨rfl, row (i + 1) _ _ k1.put.put upd_same (big _).1 (big _).2, k1.put.put⟩
        · exact ⟨rfl, row (i + 1) _ y k1.put upd_same (big _).1 (big _).2, k1.put⟩
      rintro σ' H' ⟨rfl, ro, kp⟩
      refine ⟨_, rfl, .inl ⟨_, rfl, _, rfl, _, _, rfl, rfl, m0, ?_⟩⟩
      exact q _ _ (low _).1 (low _).2 ro kp
end
end Pm
/-! _law_plan, _law_word_of, _law_sizes, _law_fast. -/
namespace Pm
open PySem PySem.Spec PyProof.Rows L2
theorem abc_at {v : Int} (h0 : 0 ≤ v) (h1 : v < 5) : ∃ c, atI (Str.ofString "abcde").cps.toList v = some c ∧ c ∈ [97, 98, 99, 100, 101] := by
  rw [abc, S_codes]
  obtain ⟨n, rfl⟩ : ∃ n : Nat, v = (n : Int) := ⟨v.toNat, by omega⟩
  have hn : n < ([97, 98, 99, 100, 101] : List Nat).length := by
    show n < 5
    omega
  exact ⟨([97, 98, 99, 100, 101] : List Nat)[n], atI_nat (List.getElem?_eq_getElem hn), List.getElem_mem hn⟩
theorem one_S (c : Nat) : (⟨#[c]⟩ : Str) = S [c] := rfl
theorem abc_line : (Str.ofString "abcde").length ≤ sizeLine := by
  rw [abc, S_len]
  exact line_of (by decide)
theorem sum_one : ∀ cs : List Nat, (cs.map fun _ => 1).sum = cs.length
  | [] => rfl
  | a :: r => by rw [List.map_cons, List.sum_cons, sum_one r, List.length_cons]; omega
theorem flat_one : ∀ cs : List Nat, (cs.map fun c => [c]).flatten = cs
  | [] => rfl
  | a :: r => by rw [List.map_cons, List.flatten_cons, flat_one r]; rfl
theorem putK_len {κ : Type} [DecidableEq κ] (kvs : List (κ × V)) (k : κ) (v : V) : (putK kvs k v).length ≤ kvs.length + 1 := by
  unfold putK
  split
  · rw [List.length_map]
    omega
  · rw [List.length_append]
    exact Nat.le_refl _
theorem atI_last' {ns : List Int} (h : 0 < ns.length) : ∃ z, atI (ns.map V.int) (-1) = some (.int z) := by
  obtain ⟨a, b, e⟩ : ∃ a b, ns = a ++ [b] := ⟨ns.dropLast, ns.getLast (List.ne_nil_of_length_pos h), (List.dropLast_concat_getLast _).symm⟩
  refine ⟨b, ?_⟩
  rw [e, List.map_append]
  exact atI_last _ _
section
variable {P : Program} {w : World} {K : PySem.W.Frag} {mg : Str → Option Value} {base : Heap} {fT : Addr} {fdT : FuncData}
def spDraw (K : PySem.W.Frag) : Sp := fun vs H Q _ => ∃ (r : Addr) (most many : Nat) (sc : Addr) (ns : List Int), vs = [.ref r, .int most, .int many] ∧ most ≤ 100 ∧ 1 ≤ many ∧ many ≤ 5 ∧ RowOk K sc ns H r ∧
  ∀ H' cs, Lets cs → cs.length ≤ most → RowOk K sc ns H' r → Kp r H H' → Q (.str (S cs)) H'
theorem ok_plan {f : Addr} {fd : FuncData} (F : Fun K "_law_plan" "_law_plan" sPlan f fd) (G : Gls mg) (T : Cl P w K mg base "_law_taken" 1 ["_law_row", "_law_many"] (spTaken K) fT fdT) :
    FnOk P w K mg base CX0 2 f fd ["_law_row", "_law_most", "_law_many"] (spDraw K) := by
  refine F.ok scPlan (fun vs H Q E h => ?_) (fun cdv A outer s H vs Q E hr h => ?_)
  · obtain ⟨r, most, many, sc, ns, rfl, _⟩ := h
    rfl
  obtain ⟨r, most, many, sc, ns, rfl, hm, m1, m5, ro, q⟩ := h
  refine ⟨_, pss_cons (ps_asg (pe_tup (pa_cons pe_str (pa_cons pe_str pa_nil))) (pg_tup rfl (pgs_cons (pg_name (i := 3) scPlan.nd rfl (.inl rfl)) (pgs_cons (pg_name (i := 4) scPlan.nd rfl (.inl rfl)) pgs_nil))))
    (pss_cons (ps_for PassesOwn.never rfl (pi_range1 (by rfl) G.range (pa_cons (pe_call T.G hr (by rfl) T.m T.k T.b .nil pass0 (pa_cons (pv 0) (pa_cons (pe_op op_add (pv 1) pe_int) pa_nil))) pa_nil)) (pg_name (i := 5) scPlan.nd rfl (.inl rfl))
        (C8.pss_cut (ps_if (pt_cmpR op_gt (pe_call T.G hr (by rfl) T.m T.k T.b .nil pass0 (pa_cons (pv 0) (pa_cons pe_int pa_nil))) pe_int (nomark _))
            (pss_one (ps_set (i := 4) scPlan.nd rfl (.inl rfl) (pe_ix ix_str pe_str (pe_call T.G hr (by rfl) T.m T.k T.b .nil pass0 (pa_cons (pv 0) (pa_cons (pv 2) pa_nil))) (fun _ _ => rfl)))) pss_nil)
          (pss_one (ps_set (i := 3) scPlan.nd rfl (.inl rfl) (pe_op op_add_str (pv 3) (pv 4))))))
    (pss_one (ps_ret (pv 3)))), ?_⟩
  refine ⟨(by show 2 ≤ sizeLine; decide), fun t nt => ?_⟩
  refine ⟨t, [.str (S []), .str (S [97])], rfl, SqT.of upd_same, rfl, _, _, rfl, _, _, rfl, rfl, ?_⟩
  have k1 : Same H (upd H t (.tup [.str (S []), .str (S [97])])) := same_new nt
  refine ⟨_, rfl, _, rfl, _, _, rfl, rfl, r, _, sc, ns, rfl, by omega, by omega, ro.keep k1, fun H2 v v0 v1 ro2 k2 => ?_⟩
  refine ⟨v, rfl, by omega, by omega, ?_⟩
  obtain ⟨n, rfl⟩ : ∃ n : Nat, v = (n : Int) := ⟨v.toNat, by omega⟩
  rw [Int.toNat_natCast]
  refine for_range0 (fun i σ' H' => ∃ (cs : List Nat) (c : Nat) (y5 : Option V), σ' = [some (.ref r), some (.int (most : Nat)), some (.int (many : Nat)), some (.str (S cs)), some (.str (S [c])), y5] ∧ Lets cs ∧ c ∈ [97, 98, 99, 100, 101] ∧ cs.length = i ∧ RowOk K sc ns H' r ∧ Kp r H H')
    ⟨[], 97, none, rfl, Lets.nil, by decide, rfl, ro2, (Kp.of k1).trans k2⟩ (fun i σ' H' hi hP => ?_) (fun σ' H' hP => ?_)
  · obtain ⟨cs, c, y5, rfl, hl, hc, hlen, ro3, k3⟩ := hP
    refine ⟨fun σ4 H4 => ∃ c', σ4 = [some (.ref r), some (.int (most : Nat)), some (.int (many : Nat)), some (.str (S cs)), some (.str (S [c'])), some (.int (i : Nat))] ∧ c' ∈ [97, 98, 99, 100, 101] ∧ RowOk K sc ns H4 r ∧ Kp r H H4, ?_, ?_⟩
    · refine ⟨_, rfl, r, 3, sc, ns, rfl, by decide, by decide, ro3, fun H4 v v0 v1 ro4 k4 => ?_⟩
      refine ⟨_, _, rfl, rfl, _, rfl, ite2 (fun _ => ?_) (fun _ => ?_)⟩
      · refine ⟨_, rfl, _, rfl, r, _, sc, ns, rfl, by omega, by omega, ro4, fun H5 v v0 v1 ro5 k5 => ?_⟩
        obtain ⟨c', h1, h2⟩ := abc_at v0 (show v < 5 by omega)
        exact ⟨_, _, c', rfl, rfl, abc_line, h1, c', rfl, h2, ro5, (k3.trans k4).trans k5⟩
      · exact ⟨c, rfl, hc, ro4, k3.trans k4⟩
    rintro σ4 H4 ⟨c', rfl, hc', ro4, k4⟩
    refine ⟨_, rfl, _, rfl, _, _, rfl, rfl, ?_, ?_⟩
    · rw [S_len, S_len]
      exact line_of (by rw [List.length_singleton]; omega)
    · refine ⟨cs ++ [c'], c', some (.int (i : Nat)), ?_, hl.app (fun x hx => by rw [List.mem_singleton.mp hx]; exact hc'), hc', by rw [List.length_append, hlen]; rfl, ro4, k4⟩
      rw [← S_cat]
      rfl
  · obtain ⟨cs, c, y5, rfl, hl, hc, hlen, ro3, k3⟩ := hP
    exact ⟨_, rfl, q _ cs hl (by omega) ro3 k3⟩
theorem ok_word {f : Addr} {fd : FuncData} (F : Fun K "_law_word_of" "_law_word_of" sWord f fd) (G : Gls mg) (T : Cl P w K mg base "_law_taken" 1 ["_law_row", "_law_many"] (spTaken K) fT fdT) :
    FnOk P w K mg base CX0 2 f fd ["_law_row", "_law_most", "_law_many"] (spDraw K) := by
  refine F.ok scWord (fun vs H Q E h => ?_) (fun cdv A outer s H vs Q E hr h => ?_)
  · obtain ⟨r, most, many, sc, ns, rfl, _⟩ := h
    rfl
  obtain ⟨r, most, many, sc, ns, rfl, hm, m1, m5, ro, q⟩ := h
  refine ⟨_, pss_one (ps_ret (pe_join pe_str
      (pe_lc (own := [("_law_turn", 3)]) (g := gName 3) (tt := tYes) rfl scWord.nd (pi_range1 (by rfl) G.range (pa_cons (pe_call T.G hr (by rfl) T.m T.k T.b .nil pass0 (pa_cons (pv 0) (pa_cons (pe_op op_add (pv 1) pe_int) pa_nil))) pa_nil))
        (blkOk_by (N := ["_law_row", "_law_most", "_law_many", "_law_turn"]) (sc := defScope sWord) (by decide +kernel))
        (fun _ _ _ _ _ => pg_name (i := 3) scWord.nd rfl (Or.inl rfl)) (fun _ _ _ _ _ => pts_nil)
        (fun _ _ _ _ _ => pe_ix ix_str pe_str (pe_call T.G hr (by rfl) T.m T.k T.b .nil pass0 (pa_cons (pv 0) (pa_cons (pv 2) pa_nil))) (fun _ _ => rfl))))), ?_⟩
  refine ⟨⟨_, rfl⟩, _, rfl, _, rfl, _, _, rfl, rfl, r, _, sc, ns, rfl, by omega, by omega, ro, fun H2 v v0 v1 ro2 k2 => ?_⟩
  refine ⟨v, rfl, by omega, by omega, ?_⟩
  obtain ⟨n, rfl⟩ : ∃ n : Nat, v = (n : Int) := ⟨v.toNat, by omega⟩
  rw [Int.toNat_natCast]
  intro D nD
  have rD : r ≠ D := ro2.ne nD
  refine lc_range0 (fun i H3 => ∃ cs : List Nat, Lets cs ∧ cs.length = i ∧ H3 D = some (.lst ((cs.map fun c => S [c]).map V.str)) ∧ RowOk K sc ns H3 r ∧ Kp r H2 H3) ⟨[], Lets.nil, rfl, upd_same, ro2.keep (same_new nD), Kp.of (same_new nD)⟩ (fun i H3 hi hP => ?_) (fun H3 hP => ?_)
  · obtain ⟨cs, hl, hlen, eD, ro3, k3⟩ := hP
    refine ⟨rfl, ?_⟩
    refine ⟨_, rfl, _, rfl, r, _, sc, ns, rfl, by omega, by omega, ro3, fun H5 v v0 v1 ro5 k5 => ?_⟩
    obtain ⟨c', h1, h2⟩ := abc_at v0 (show v < 5 by omega)
    have eD5 := k5 _ _ (Ne.symm rD) eD
    refine ⟨_, _, c', rfl, rfl, abc_line, h1, _, eD5, ?_, cs ++ [c'], hl.app (fun x hx => by rw [List.mem_singleton.mp hx]; exact h2), by rw [List.length_append, hlen]; rfl, ?_, ?_, ?_⟩
    · rw [List.length_map, List.length_map]
      exact line_lt (by omega)
    · rw [upd_same, List.map_append, List.map_append]
      rfl
    · exact ro2.put_new ro5 (k3.trans k5) nD
    · exact (k3.trans k5).put_new nD
  · obtain ⟨cs, hl, hlen, eD, ro3, k3⟩ := hP
    refine ⟨S [], D, (cs.map fun c => S [c]), rfl, rfl, .inl (SqL.of eD), ?_, ?_⟩
    · rw [List.map_map]
      show (cs.map fun _ => 1).sum + (cs.map fun c => S [c]).length * 0 ≤ _
      rw [sum_one]
      omega
    · have e7 : Txt.join (S []) (cs.map fun c => S [c]) = S cs := by
        have := join_S (cs.map fun c => [c])
        rw [List.map_map] at this
        rw [flat_one cs] at this
        exact this
      have z := q H3 cs hl (by omega) ro3 (k2.trans k3)
      rw [← e7] at z
      exact z
/-- _law_sizes(plan): a new list of one int more than the plan has letters -/
def spSizes : Sp := fun vs H Q _ => ∃ cs, vs = [.str (S cs)] ∧ cs.length ≤ 100 ∧ ∀ H' p (ks : List Int), Same H H' → H p = none → ks.length = cs.length + 1 → H' p = some (.lst (ks.map V.int)) → Q (.ref p) H'
theorem ok_sizes {f : Addr} {fd : FuncData} (F : Fun K "_law_sizes" "_law_sizes" sSizes f fd) (G : Gls mg) : FnOk P w K mg base CX0 1 f fd ["_law_plan_here"] spSizes := by
  refine F.ok scSizes (fun vs H Q E h => ?_) (fun cdv A outer s H vs Q E hr h => ?_)
  · obtain ⟨cs, rfl, _⟩ := h
    rfl
  obtain ⟨cs, rfl, hn, q⟩ := h
  have hu := hu_of hr
  refine ⟨_, pss_cons (ps_par (i := 1) (j := 2) rfl scSizes.nd rfl rfl (by decide) rfl rfl (pa_cons (pe_lst (pa_cons pe_int pa_nil)) (pa_cons pe_dnewK pa_nil)) (by rfl))
    (pss_cons (ps_for PassesOwn.never rfl (pi_range1 (by rfl) G.range (pa_cons (pe_callB call_len_str (by rfl) G.len PySem.boot_len (pa_cons (pv 0) pa_nil)) pa_nil)) (pg_name (i := 3) scSizes.nd rfl (.inl rfl))
        (C8.pss_cut (ps_expr (pe_bm PySem.F.plainAttrs_list PySem.F.slot_list_append PySem.F.type_list_append mt_append (pv 1) (pa_cons
            (pe_ifExp (pt_cmp (pc_din hu (pe_ix ix_str (pv 0) (pv 3) (fun _ _ => rfl)) (pv 2)))
              (pe_op op_sub (pe_op op_mul pe_int (pe_ix ix_list (pv 1) (pe_un un_neg pe_int) (fun _ _ => rfl))) (pe_ix ix_list (pv 1) (pe_dget hu (pv 2) (pe_ix ix_str (pv 0) (pv 3) (fun _ _ => rfl)) (fun _ _ => rfl)) (fun _ _ => rfl)))
              (pe_op op_add (pe_op op_mul pe_int (pe_ix ix_list (pv 1) (pe_un un_neg pe_int) (fun _ _ => rfl))) pe_int)) pa_nil)))
          (pss_one (ps_dput hu (pv 2) (pe_ix ix_str (pv 0) (pv 3) (fun _ _ => rfl)) (pv 3) rfl))))
    (pss_one (ps_ret (pv 1)))), ?_⟩
  refine ⟨(by show 1 ≤ sizeLine; decide), fun l nl => fun d nd => ?_⟩
  have nlH : H l = none := nl
  have ndH : H d = none := (same_new nl).free nd
  have ld : l ≠ d := ne_of_none upd_same nd
  have s1 : Same H (upd (upd H l (.lst [V.int 0])) d (.dK [])) := (same_new nl).trans (same_new nd)
  refine ⟨_, _, rfl, ?_⟩
  have hline : (S cs).length ≤ sizeLine := by
    rw [S_len]
    exact line_of (by omega)
  refine ⟨_, rfl, _, rfl, hline, _, rfl, by rw [S_len]; omega, by rw [S_len]; omega, ?_⟩
  rw [S_len, Int.toNat_natCast]
  refine for_range0 (fun i σ' H' => ∃ (ks : List Int) (kvs : List (Key × V)) (y3 : Option V), σ' = [some (.str (S cs)), some (.ref l), some (.ref d), y3] ∧ Same H H' ∧ ks.length = i + 1 ∧ H' l = some (.lst (ks.map V.int)) ∧ H' d = some (.dK kvs) ∧
    kvs.length ≤ i ∧ ∀ j v, valV kvs j = some v → ∃ n : Nat, v = .int (n : Nat) ∧ n < i) ⟨[0], [], none, rfl, s1, rfl, ?_, upd_same, Nat.le_refl _, fun j v h => nomatch h⟩ (fun i σ' H' hi hP => ?_) (fun σ' H' hP => ?_)
  · rw [upd_ne ld, upd_same]
    rfl
  · obtain ⟨ks, kvs, y3, rfl, sm, hks, el, ed, hkv, hval⟩ := hP
    have hc : atI (S cs).cps.toList (i : Int) = some cs[i] := by
      rw [S_codes]
      exact atI_nat (List.getElem?_eq_getElem hi)
    obtain ⟨z, hz⟩ := atI_last' (ns := ks) (by omega)
    refine ⟨fun σ4 H4 => ∃ ks' : List Int, σ4 = [some (.str (S cs)), some (.ref l), some (.ref d), some (.int (i : Nat))] ∧ Same H H4 ∧ ks'.length = i + 2 ∧ H4 l = some (.lst (ks'.map V.int)) ∧ H4 d = some (.dK kvs), ?_, ?_⟩
    · have fin : ∀ z : Int, ∃ ks' : List Int, [some (V.str (S cs)), some (.ref l), some (.ref d), some (.int (i : Nat))] = [some (V.str (S cs)), some (.ref l), some (.ref d), some (.int (i : Nat))] ∧ Same H (upd H' l (.lst (ks.map V.int ++ [.int z]))) ∧ ks'.length = i + 2 ∧
          (upd H' l (.lst (ks.map V.int ++ [.int z]))) l = some (.lst (ks'.map V.int)) ∧ (upd H' l (.lst (ks.map V.int ++ [.int z]))) d = some (.dK kvs) := fun z => by
        refine ⟨ks ++ [z], rfl, same_put sm nlH, by rw [List.length_append, hks]; rfl, ?_, ?_⟩
        · rw [upd_same, List.map_append]
          rfl
        · rw [upd_ne (Ne.symm ld)]
          exact ed
      have hsz : (ks.map V.int).length < sizeLine := by
        rw [List.length_map]
        exact line_lt (by omega)
      refine ⟨.ref l, rfl, .inl ⟨rfl, _, SqL.of el⟩, ?_⟩
      refine ⟨_, rfl, _, rfl, S cs, _, _, rfl, rfl, hline, hc, _, rfl, d, _, rfl, DGet.k (k := Sum.inr (S [cs[i]])) ed, _, rfl, ?_⟩
      cases e : valV kvs (Sum.inr (S [cs[i]]) : Key) with
      | none =>
        refine ⟨.ref l, rfl, 1, rfl, l, _, _, _, rfl, rfl, SqL.of el, hz, _, _, rfl, rfl, .inl ⟨by decide, by decide⟩, _, _, rfl, rfl, l, _, _, rfl, rfl, el, hsz, ?_⟩
        exact fin _
      | some v =>
        obtain ⟨n, rfl, hn'⟩ := hval _ _ e
        refine ⟨.ref l, rfl, 1, rfl, l, _, _, _, rfl, rfl, SqL.of el, hz, _, _, rfl, rfl, .inl ⟨by decide, by decide⟩, ?_⟩
        have hnk : n < ks.length := by omega
        refine ⟨.ref l, rfl, .ref d, rfl, _, rfl, _, rfl, S cs, _, _, rfl, rfl, hline, hc, d, _, rfl, (by rw [← e]; exact DGet.k (k := Sum.inr (S [cs[i]])) ed), l, _, _, .int ks[n], rfl, rfl, SqL.of el, atI_nat (int_get (List.getElem?_eq_getElem hnk)), _, _, rfl, rfl, l, _, _, rfl, rfl, el, hsz, ?_⟩
        exact fin _
    rintro σ4 H4 ⟨ks', rfl, sm4, hks', el4, ed4⟩
    refine ⟨_, rfl, .ref d, rfl, _, rfl, _, rfl, S cs, _, _, rfl, rfl, hline, hc, d, _, rfl, DPut.k (k := Sum.inr (S [cs[i]])) ed4 (line_lt (by omega)), ?_⟩
    refine ⟨ks', putK kvs (Sum.inr (S [cs[i]])) (.int (i : Nat)), _, rfl, same_put sm4 ndH, hks', ?_, upd_same, ?_, fun j v h => ?_⟩
    · rw [upd_ne ld]
      exact el4
    · have := putK_len kvs (Sum.inr (S [cs[i]]) : Key) (.int (i : Nat))
      omega
    · rw [valV_put] at h
      split at h
      · cases h
        exact ⟨i, rfl, by omega⟩
      · obtain ⟨n, e1, e2⟩ := hval j v h
        exact ⟨n, e1, by omega⟩
  · obtain ⟨ks, kvs, y3, rfl, sm, hks, el, ed, hkv, hval⟩ := hP
    exact ⟨.ref l, rfl, q _ l ks sm nlH hks el⟩
/-- _law_fast(plan): some word of at most 2 ** n - 1 letters -/
def spFast : Sp := fun vs H Q _ => ∃ cs, vs = [.str (S cs)] ∧ Lets cs ∧ cs.length ≤ 5 ∧ ∀ H' ws, Same H H' → Lets ws → ws.length ≤ 31 → Q (.str (S ws)) H'
theorem ok_fast {f fS : Addr} {fd fdS : FuncData} (F : Fun K "_law_fast" "_law_fast" sFast f fd) (G : Gls mg) (Z : Cl P w K mg base "_law_sizes" 1 ["_law_plan_here"] spSizes fS fdS) : FnOk P w K mg base CX0 2 f fd ["_law_plan_here"] spFast := by
  refine F.ok scFast (fun vs H Q E h => ?_) (fun cdv A outer s H vs Q E hr h => ?_)
  · obtain ⟨cs, rfl, _⟩ := h
    rfl
  obtain ⟨cs, rfl, hcl, hn, q⟩ := h
  refine ⟨_, pss_cons (ps_par (i := 1) (j := 2) rfl scFast.nd rfl rfl (by decide) rfl rfl (pa_cons (pe_call Z.G hr (by rfl) Z.m Z.k Z.b .nil pass0 (pa_cons (pv 0) pa_nil)) (pa_cons pe_str pa_nil)) (by rfl))
    (pss_cons (ps_for PassesOwn.never rfl (pi_range1 (by rfl) G.range (pa_cons (pe_callB call_len_str (by rfl) G.len PySem.boot_len (pa_cons (pv 0) pa_nil)) pa_nil)) (pg_name (i := 3) scFast.nd rfl (.inl rfl))
        (pss_one (ps_set (i := 2) scFast.nd rfl (.inl rfl) (pe_op op_add_str (pe_slice sl_str (pe_op op_add_str (pv 2) (pe_ix ix_str (pv 0) (pv 3) (fun _ _ => rfl))) po_none
          (po_some (pe_op op_sub (pe_ix ix_list (pv 1) (pe_op op_add (pv 3) pe_int) (fun _ _ => rfl)) (pe_ix ix_list (pv 1) (pv 3) (fun _ _ => rfl))))) (pv 2)))))
    (pss_one (ps_ret (pv 2)))), ?_⟩
  refine ⟨_, rfl, cs, rfl, by omega, fun H1 p ks s1 np hks ep => ?_⟩
  refine ⟨_, _, rfl, ?_⟩
  have hline : (S cs).length ≤ sizeLine := by
    rw [S_len]
    exact line_of (by omega)
  refine ⟨_, rfl, _, rfl, hline, _, rfl, by rw [S_len]; omega, by rw [S_len]; omega, ?_⟩
  rw [S_len, Int.toNat_natCast]
  refine for_range0 (fun i σ' H' => ∃ (ws : List Nat) (y3 : Option V), σ' = [some (.str (S cs)), some (.ref p), some (.str (S ws)), y3] ∧ H' = H1 ∧ Lets ws ∧ ws.length + 1 ≤ 2 ^ i) ⟨[], none, rfl, rfl, Lets.nil, Nat.le_refl _⟩ (fun i σ' H' hi hP => ?_) (fun σ' H' hP => ?_)
  · obtain ⟨ws, y3, rfl, rfl, hl, hw⟩ := hP
    have hc : atI (S cs).cps.toList (i : Int) = some cs[i] := by
      rw [S_codes]
      exact atI_nat (List.getElem?_eq_getElem hi)
    have h2 : 2 ^ i ≤ 2 ^ 5 := Nat.pow_le_pow_right (by decide) (by omega)
    have h32 : (2 : Nat) ^ 5 = 32 := by decide
    obtain ⟨b, hb, hbl, hbm⟩ := cutS_sub (ws ++ [cs[i]]) none (some (ks[i + 1] - ks[i]))
    rw [List.length_append, List.length_singleton] at hbl
    refine ⟨_, rfl, _, rfl, _, rfl, S cs, _, _, rfl, rfl, hline, hc, S ws, S [cs[i]], rfl, rfl, ?_, ?_⟩
    · rw [S_len, S_len]
      exact line_of (by rw [List.length_singleton]; omega)
    rw [S_cat]
    refine ⟨.ref p, rfl, _, rfl, _, _, rfl, rfl, p, _, _, .int ks[i + 1], rfl, rfl, SqL.of ep, ?_, .ref p, rfl, _, rfl, p, _, _, .int ks[i], rfl, rfl, SqL.of ep, atI_nat (int_get (List.getElem?_eq_getElem (by omega))), _, _, rfl, rfl, _, rfl, S (ws ++ [cs[i]]), rfl, ?_, ?_⟩
    · rw [show ((i : Nat) : Int) + 1 = ((i + 1 : Nat) : Int) by omega]
      exact atI_nat (int_get (List.getElem?_eq_getElem (by omega)))
    · rw [S_len, List.length_append, List.length_singleton]
      exact line_of (by omega)
    refine ⟨_, rfl, S b, S ws, ?_, rfl, ?_, ?_⟩
    · rw [← hb]
    · rw [S_len, S_len]
      exact line_of (by omega)
    · refine ⟨b ++ ws, some (.int (i : Nat)), ?_, rfl, (Lets.sub (hl.app (fun x hx => by rw [List.mem_singleton.mp hx]; exact hcl _ (List.getElem_mem hi))) hbm).app hl, ?_⟩
      · rw [← S_cat]
        rfl
      · rw [List.length_append, Nat.pow_succ]
        omega
  · obtain ⟨ws, y3, rfl, rfl, hl, hw⟩ := hP
    have h2 : 2 ^ cs.length ≤ 2 ^ 5 := Nat.pow_le_pow_right (by decide) hn
    have h32 : (2 : Nat) ^ 5 = 32 := by decide
    exact ⟨_, rfl, q _ ws s1 hl (by omega)⟩
end
end Pm
/-! _law_alike, for equal data. -/
namespace Pm
open PySem PySem.Spec PyProof.Rows L2
theorem ix_seqK {X : Cx} {K : PySem.W.Frag} (h : X.K = K := by rfl) : IxR X (rIx K) := h ▸ ix_seq
def Flat2 (x y : V) : Prop := (∃ i, x = .int i ∧ y = .int i) ∨ ∃ z, x = .str z ∧ y = .str z
/-- equal data of at most n levels: tuples and lists that stand at their addresses -/
def Alk : Nat → Hp → V → V → Prop
  | 0, _, _, _ => False
  | n + 1, H, x, y => Flat2 x y ∨ ∃ (p q : Addr) (vs ws : List V), x = .ref p ∧ y = .ref q ∧ ((H p = some (.tup vs) ∧ H q = some (.tup ws)) ∨ (H p = some (.lst vs) ∧ H q = some (.lst ws))) ∧ vs.length = ws.length ∧ ws.length ≤ 10000 ∧
      ∀ (i : Nat) (a b : V), vs[i]? = some a → ws[i]? = some b → Alk n H a b
theorem Alk.keep : ∀ {n : Nat} {H H' : Hp} {x y : V}, Alk n H x y → Same H H' → Alk n H' x y
  | 0, _, _, _, _, h, _ => h
  | n + 1, H, H', x, y, h, e => by
    rcases h with h | ⟨p, q, vs, ws, h1, h2, h3, h4, h5, h6⟩
    · exact .inl h
    · refine .inr ⟨p, q, vs, ws, h1, h2, ?_, h4, h5, fun i a b ha hb => (h6 i a b ha hb).keep e⟩
      rcases h3 with ⟨a, b⟩ | ⟨a, b⟩
      · exact .inl ⟨e _ _ a, e _ _ b⟩
      · exact .inr ⟨e _ _ a, e _ _ b⟩
section
variable {P : Program} {w : World} {K : PySem.W.Frag} {mg : Str → Option Value} {base : Heap}
def spAlike (n : Nat) : Sp := fun vs H Q _ => ∃ x y, vs = [x, y] ∧ Alk n H x y ∧ ∀ H', Same H H' → Q (.bl true) H'
theorem kT : PySem.W.kitAny K (.type "tuple") [.type "tuple", .type "list"] = some true := kitAny_cons (b := true) (kit_ty (by decide +kernel)) (fun z => nomatch z) (fun _ => rfl)
theorem kL : PySem.W.kitAny K (.type "list") [.type "tuple", .type "list"] = some true := kitAny_cons (b := false) (kit_ty (by decide +kernel)) (fun _ => kitAny_cons (b := true) (kit_ty (by decide +kernel)) (fun z => nomatch z) (fun _ => rfl)) (fun z => nomatch z)
theorem kI : PySem.W.kitAny K (.type "int") [.type "tuple", .type "list"] = some false := kitAny_cons (b := false) (kit_ty (by decide +kernel)) (fun _ => kitAny_cons (b := false) (kit_ty (by decide +kernel)) (fun _ => kitAny_nil) (fun z => nomatch z)) (fun z => nomatch z)
theorem kS : PySem.W.kitAny K (.type "str") [.type "tuple", .type "list"] = some false := kitAny_cons (b := false) (kit_ty (by decide +kernel)) (fun _ => kitAny_cons (b := false) (kit_ty (by decide +kernel)) (fun _ => kitAny_nil) (fun z => nomatch z)) (fun z => nomatch z)
theorem pTL : Paired ClsV [V.ty "tuple", V.ty "list"] [Value.type "tuple", Value.type "list"] := .cons (.ty _) (.cons (.ty _) .nil)
theorem two_line : ([V.ty "tuple", V.ty "list"] : List V).length ≤ sizeLine := by show 2 ≤ sizeLine; decide
theorem ok_alike {n lv : Nat} {f : Addr} {fd : FuncData} (F : Fun K "_law_alike" "_law_alike" sAlike f fd) (G : Gls mg) (GA : FnOk P w K mg base CX0 lv f fd ["_law_found", "_law_due"] (spAlike n)) (bA : Binds K fd ["_law_found", "_law_due"] []) (mA : mg "_law_alike" = some (.ref f)) :
    FnOk P w K mg base CX0 (lv + 1) f fd ["_law_found", "_law_due"] (spAlike (n + 1)) := by
  refine F.ok scAlike (fun vs H Q E h => ?_) (fun cdv A outer s H vs Q E hr h => ?_)
  · obtain ⟨x, y, rfl, _⟩ := h
    rfl
  obtain ⟨x, y, rfl, hA, q⟩ := h
  refine ⟨_, pss_cons (ps_if (pt_val (pe_callB call_isiT (by rfl) G.isinstance (by decide +kernel) (pa_cons (pv 1) (pa_cons (pe_tup (pa_cons (pe_bltn (v := .ty "tuple") (by rfl) G.tuple (by decide +kernel) rfl) (pa_cons (pe_bltn (v := .ty "list") (by rfl) G.list (by decide +kernel) rfl) pa_nil))) pa_nil))))
      (pss_cons (ps_if (PW.pt (pw_or (pt_not (pt_val (pe_callB call_isiT (by rfl) G.isinstance (by decide +kernel) (pa_cons (pv 0) (pa_cons (pe_tup (pa_cons (pe_bltn (v := .ty "tuple") (by rfl) G.tuple (by decide +kernel) rfl) (pa_cons (pe_bltn (v := .ty "list") (by rfl) G.list (by decide +kernel) rfl) pa_nil))) pa_nil)))))
          (pw_or1 (pt_cmpR op_ne (pe_callB call_isi (by rfl) G.isinstance (by decide +kernel) (pa_cons (pv 0) (pa_cons (pe_bltn (v := .ty "list") (by rfl) G.list (by decide +kernel) rfl) pa_nil)))
            (pe_callB call_isi (by rfl) G.isinstance (by decide +kernel) (pa_cons (pv 1) (pa_cons (pe_bltn (v := .ty "list") (by rfl) G.list (by decide +kernel) rfl) pa_nil))) (nomark _))))) (pss_one ps_never) pss_nil)
      (pss_cons (ps_if (pt_cmpR op_ne (pe_callB call_len_seq (by rfl) G.len PySem.boot_len (pa_cons (pv 0) pa_nil)) (pe_callB call_len_seq (by rfl) G.len PySem.boot_len (pa_cons (pv 1) pa_nil)) (nomark _)) (pss_one ps_never) pss_nil)
      (pss_one (ps_ret (pe_cmpR (op_eqD hr.units) (pe_lc (own := [("_law_k", 2)]) (g := gName 2) rfl scAlike.nd (pi_range1 (by rfl) G.range (pa_cons (pe_callB call_len_seq (by rfl) G.len PySem.boot_len (pa_cons (pv 1) pa_nil)) pa_nil))
          (blkOk_by (N := ["_law_found", "_law_due", "_law_k"]) (sc := defScope sAlike) (by decide +kernel))
          (fun _ _ _ _ _ => pg_name (i := 2) scAlike.nd rfl (Or.inl rfl))
          (fun _ _ _ _ _ => pts_one (pt_not (pt_val (pe_call GA hr (by rfl) mA F.kp bA .nil pass0 (pa_cons (pe_ix (ix_seqK (K := K)) (pv 0) (pv 2) (fun _ _ => rfl)) (pa_cons (pe_ix (ix_seqK (K := K)) (pv 1) (pv 2) (fun _ _ => rfl)) pa_nil))))))
          (fun _ _ _ _ _ => pv 2)) (pe_lst pa_nil) (nomark _)))))) pss_nil)
    (pss_cons (ps_if (PW.pt (pw_or (pt_cmpR op_isN (pv 1) pe_non (nomark _)) (pw_or1 (pt_val (pe_callB call_isi (by rfl) G.isinstance (by decide +kernel) (pa_cons (pv 1) (pa_cons (pe_bltn (v := .ty "str") (by rfl) G.str (by decide +kernel) rfl) pa_nil)))))))
      (pss_one (ps_ret (pe_and (pe_cmpR op_eq (pv 0) (pv 1) (nomark _)) (pe_one (pe_cmpR op_eq (pe_callB call_isi (by rfl) G.isinstance (by decide +kernel) (pa_cons (pv 0) (pa_cons (pe_bltn (v := .ty "str") (by rfl) G.str (by decide +kernel) rfl) pa_nil)))
        (pe_callB call_isi (by rfl) G.isinstance (by decide +kernel) (pa_cons (pv 1) (pa_cons (pe_bltn (v := .ty "str") (by rfl) G.str (by decide +kernel) rfl) pa_nil))) (nomark _)))))) pss_nil)
    (pss_one (ps_ret (pe_and (pe_callB call_isi (by rfl) G.isinstance (by decide +kernel) (pa_cons (pv 0) (pa_cons (pe_bltn (v := .ty "int") (by rfl) G.int (by decide +kernel) rfl) pa_nil)))
      (pe_and (pe_cmpR op_eq (pe_callB call_isi (by rfl) G.isinstance (by decide +kernel) (pa_cons (pv 0) (pa_cons (pe_bltn (v := .ty "bool") (by rfl) G.bool (by decide +kernel) rfl) pa_nil)))
        (pe_callB call_isi (by rfl) G.isinstance (by decide +kernel) (pa_cons (pv 1) (pa_cons (pe_bltn (v := .ty "bool") (by rfl) G.bool (by decide +kernel) rfl) pa_nil))) (nomark _)) (pe_one (pe_cmpR op_eq (pv 0) (pv 1) (nomark _)))))))), ?_⟩
  rcases hA with (⟨i, rfl, rfl⟩ | ⟨z, rfl, rfl⟩) | ⟨p, r, vs, ws, rfl, rfl, hk, hlen, hle, hin⟩
  · -- ints
    refine ⟨_, rfl, two_line, fun t nt => ?_⟩
    have s1 : Same H (upd H t (.tup [V.ty "tuple", V.ty "list"])) := same_new nt
    refine ⟨_, t, _, .type "int", _, false, rfl, upd_same, pTL, .base (.int _), kI, false, rfl, iteF ?_⟩
    refine ⟨_, rfl, rfl, _, rfl, iteF ?_⟩
    refine ⟨_, rfl, _, _, .type "int", .type "str", false, rfl, .ty _, .base (.int _), kit_ty (by decide +kernel), false, rfl, iteF ?_⟩
    refine ⟨_, rfl, _, _, .type "int", .type "int", true, rfl, .ty _, .base (.int _), kit_ty (by decide +kernel), true, rfl, iteT ?_⟩
    refine ⟨_, rfl, _, _, .type "int", .type "bool", false, rfl, .ty _, .base (.int _), kit_ty (by decide +kernel), _, rfl, _, _, .type "int", .type "bool", false, rfl, .ty _, .base (.int _), kit_ty (by decide +kernel), rfl, true, rfl, iteT ?_⟩
    refine ⟨_, rfl, _, rfl, rfl, ?_⟩
    rw [decide_eq_true rfl]
    exact q _ s1
  · -- texts
    refine ⟨_, rfl, two_line, fun t nt => ?_⟩
    have s1 : Same H (upd H t (.tup [V.ty "tuple", V.ty "list"])) := same_new nt
    refine ⟨_, t, _, .type "str", _, false, rfl, upd_same, pTL, .base (.str _), kS, false, rfl, iteF ?_⟩
    refine ⟨_, rfl, rfl, _, rfl, iteF ?_⟩
    refine ⟨_, rfl, _, _, .type "str", .type "str", true, rfl, .ty _, .base (.str _), kit_ty (by decide +kernel), true, rfl, iteT ?_⟩
    refine ⟨_, rfl, _, rfl, rfl, true, by rw [decide_eq_true rfl], iteT ?_⟩
    refine ⟨_, rfl, _, _, .type "str", .type "str", true, rfl, .ty _, .base (.str _), kit_ty (by decide +kernel), _, rfl, _, _, .type "str", .type "str", true, rfl, .ty _, .base (.str _), kit_ty (by decide +kernel), rfl, ?_⟩
    exact q _ s1
  · -- tuples, lists
    obtain ⟨tn, bL, ty1, ty2, kA, kB, sq1, sq2, ix1, ix2⟩ : ∃ (tn : String) (bL : Bool), (∀ H', Same H H' → TyX K H' (.ref p) (.type tn)) ∧ (∀ H', Same H H' → TyX K H' (.ref r) (.type tn)) ∧ PySem.W.kitAny K (.type tn) [.type "tuple", .type "list"] = some true ∧
        PySem.W.kitOne K (.type tn) (.type "list") = some bL ∧ (∀ H', Same H H' → (SqL K H' p vs ∨ SqT K H' p vs)) ∧ (∀ H', Same H H' → (SqL K H' r ws ∨ SqT K H' r ws)) ∧
        (∀ H' (i : Nat) a Q, Same H H' → vs[i]? = some a → Q a H' → rIx K (.ref p) (.int (i : Nat)) H' Q) ∧ (∀ H' (i : Nat) a Q, Same H H' → ws[i]? = some a → Q a H' → rIx K (.ref r) (.int (i : Nat)) H' Q) := by
      rcases hk with ⟨h1, h2⟩ | ⟨h1, h2⟩
      · exact ⟨"tuple", false, fun H' e => .base (.tup (e _ _ h1)), fun H' e => .base (.tup (e _ _ h2)), kT, kit_ty (by decide +kernel), fun H' e => .inr (SqT.of (e _ _ h1)), fun H' e => .inr (SqT.of (e _ _ h2)),
          fun H' i a Q e ha hq => .inr (.inl ⟨p, vs, _, a, rfl, rfl, SqT.of (e _ _ h1), atI_nat ha, hq⟩), fun H' i a Q e ha hq => .inr (.inl ⟨r, ws, _, a, rfl, rfl, SqT.of (e _ _ h2), atI_nat ha, hq⟩)⟩
      · exact ⟨"list", true, fun H' e => .base (.lst (e _ _ h1)), fun H' e => .base (.lst (e _ _ h2)), kL, kit_ty (by decide +kernel), fun H' e => .inl (SqL.of (e _ _ h1)), fun H' e => .inl (SqL.of (e _ _ h2)),
          fun H' i a Q e ha hq => .inl ⟨p, vs, _, a, rfl, rfl, SqL.of (e _ _ h1), atI_nat ha, hq⟩, fun H' i a Q e ha hq => .inl ⟨r, ws, _, a, rfl, rfl, SqL.of (e _ _ h2), atI_nat ha, hq⟩⟩
    refine ⟨_, rfl, two_line, fun t nt => ?_⟩
    have s1 : Same H (upd H t (.tup [V.ty "tuple", V.ty "list"])) := same_new nt
    refine ⟨_, t, _, .type tn, _, true, rfl, upd_same, pTL, ty2 _ s1, kA, true, rfl, iteT ?_⟩
    refine ⟨_, rfl, two_line, fun t2 nt2 => ?_⟩
    have s2 := s1.trans (same_new (o := .tup [V.ty "tuple", V.ty "list"]) nt2)
    refine ⟨_, t2, _, .type tn, _, true, rfl, upd_same, pTL, ty1 _ s2, kA, true, rfl, iteF ?_⟩
    refine ⟨_, rfl, _, _, .type tn, .type "list", bL, rfl, .ty _, ty1 _ s2, kB, _, rfl, _, _, .type tn, .type "list", bL, rfl, .ty _, ty2 _ s2, kB, rfl, _, rfl, ?_⟩
    rw [decide_eq_true rfl]
    refine iteF ?_
    refine ⟨_, rfl, p, _, rfl, sq1 _ s2, _, rfl, r, _, rfl, sq2 _ s2, rfl, _, rfl, ?_⟩
    rw [hlen, decide_eq_true rfl]
    refine iteF ?_
    -- the comprehension
    refine ⟨_, rfl, r, _, rfl, sq2 _ s2, _, rfl, by omega, by omega, ?_⟩
    rw [Int.toNat_natCast]
    intro D nD
    refine lc_range0 (fun i H3 => Same H H3 ∧ H3 D = some (.lst [])) ⟨s2.trans (same_new nD), upd_same⟩ (fun i H3 hi hP => ?_) (fun H3 hP => ?_)
    · obtain ⟨s3, eD⟩ := hP
      refine ⟨rfl, ?_⟩
      have g1 : vs[i]? = some (vs[i]'(by omega)) := List.getElem?_eq_getElem _
      have g2 : ws[i]? = some ws[i] := List.getElem?_eq_getElem _
      refine ⟨_, rfl, _, rfl, ix1 _ i _ _ s3 g1 ?_⟩
      refine ⟨_, rfl, _, rfl, ix2 _ i _ _ s3 g2 ?_⟩
      refine ⟨_, _, rfl, (hin i _ _ g1 g2).keep s3, fun H4 s4 => ?_⟩
      refine ⟨true, rfl, ?_⟩
      exact ⟨s3.trans s4, s4 _ _ eD⟩
    · obtain ⟨s3, eD⟩ := hP
      refine ⟨Nat.zero_le _, fun o no => ?_⟩
      refine ⟨.list [], .list [], .lst (SqL.of (same_new no _ _ eD)) .nil, .lst (SqL.of upd_same) .nil, rfl, rfl, ?_⟩
      exact q _ (s3.trans (same_new no))
theorem none_left {f : Addr} {fd : FuncData} : FnOk P w K mg base CX0 0 f fd ["_law_found", "_law_due"] (spAlike 0) := by
  have no : ∀ vs H Q E, ¬ spAlike 0 vs H Q E := fun vs H Q E h => by
    obtain ⟨x, y, _, h, _⟩ := h
    exact h
  exact ⟨fun vs H Q E h => absurd h (no vs H Q E), fun A outer s H args us vs Q E _ _ _ _ h => absurd h (no vs H Q E)⟩
theorem ok_alikes {f : Addr} {fd : FuncData} (F : Fun K "_law_alike" "_law_alike" sAlike f fd) (G : Gls mg) (bA : Binds K fd ["_law_found", "_law_due"] []) (mA : mg "_law_alike" = some (.ref f)) :
    ∀ n, FnOk P w K mg base CX0 n f fd ["_law_found", "_law_due"] (spAlike n)
  | 0 => none_left
  | n + 1 => ok_alike F G (ok_alikes F G bA mA n) bA mA
end
end Pm
/-! law. -/
namespace Pm
open PySem PySem.Spec PyProof.Rows L2
/-! ### a slice of a text, by places -/
def rSlN : V → Option Int → Option Int → Hp → VK → Prop := fun x lo hi H Q => ∃ (a : List Nat) (i j : Nat), x = .str (S a) ∧ lo = some (i : Int) ∧ hi = some (j : Int) ∧ i ≤ j ∧ j ≤ a.length ∧ a.length ≤ 16777216 ∧ Q (.str (S (seg a i j))) H
theorem sl_nat {X : Cx} : SlR X rSlN := by
  intro pins s σ H x v vl vu lo hi sl Q I rx hs pl pu h
  obtain ⟨a, i, j, rfl, rfl, rfl, hij, hj, hz, q⟩ := h
  rw [← cutS_nat hij hj] at q
  exact sl_str pins s σ H _ v vl vu _ _ sl Q I rx hs pl pu ⟨S a, rfl, by rw [S_len]; exact line_of hz, q⟩
abbrev vS (xs : List (List Nat)) : List V := (xs.map S).map V.str
theorem vS_len (xs : List (List Nat)) : (vS xs).length = xs.length := by unfold vS; simp
theorem vS_get {xs : List (List Nat)} {i : Nat} {x : List Nat} (h : xs[i]? = some x) : (vS xs)[i]? = some (.str (S x)) := by
  unfold vS
  rw [List.getElem?_map, List.getElem?_map, h]
  rfl
theorem vS_app (xs ys : List (List Nat)) : vS (xs ++ ys) = vS xs ++ vS ys := by
  unfold vS
  rw [List.map_append, List.map_append]
theorem Alk.int {n : Nat} {H : Hp} (i : Int) : Alk (n + 1) H (.int i) (.int i) := .inl (.inl ⟨i, rfl, rfl⟩)
theorem Alk.str {n : Nat} {H : Hp} (z : Str) : Alk (n + 1) H (.str z) (.str z) := .inl (.inr ⟨z, rfl, rfl⟩)
theorem alk_three {n : Nat} {H : Hp} {a b c x y z : V} (h1 : Alk n H a x) (h2 : Alk n H b y) (h3 : Alk n H c z) : ∀ (i : Nat) (u v : V), [a, b, c][i]? = some u → [x, y, z][i]? = some v → Alk n H u v := fun i u v hu hv => by
  match i with
  | 0 => cases hu; cases hv; exact h1
  | 1 => cases hu; cases hv; exact h2
  | 2 => cases hu; cases hv; exact h3
  | i + 3 => simp at hu
theorem alk_ints {n : Nat} {H : Hp} {ns : List Nat} : ∀ (i : Nat) (u v : V), (vI ns)[i]? = some u → (vI ns)[i]? = some v → Alk (n + 1) H u v := fun i u v hu hv => by
  rw [hu] at hv
  cases hv
  have hi : i < ns.length := by
    have := (List.getElem?_eq_some_iff.mp hu).1
    rw [vI_len] at this
    exact this
  rw [vI_get (List.getElem?_eq_getElem hi)] at hu
  cases hu
  exact Alk.int _
theorem due0 (w : List Nat) : due w 0 0 = List.replicate (2 * w.length + 1) 0 := by
  rw [due_zero]
  refine List.ext_getElem? fun i => ?_
  by_cases h : i < 2 * w.length + 1
  · rw [List.getElem?_map, List.getElem?_range h, List.getElem?_replicate, if_pos h]
    rfl
  · rw [List.getElem?_eq_none (by simp; omega), List.getElem?_eq_none (by simp; omega)]
theorem half_tot (w : List Nat) : tot w w.length 0 = ((rads w).map fun r => (r + 1) / 2).sum := by
  rw [tot_end]
  unfold rads
  rw [List.map_map]
  rfl
abbrev sv (a r : Addr) (m : Nat) (w : List Nat) (s4 s5 s6 s7 s8 s9 s10 s11 s12 s13 : Option V) : L2.St :=
  [some (.ref a), some (.ref r), some (.int (m : Nat)), some (.str (S w)), s4, s5, s6, s7, s8, s9, s10, s11, s12, s13]
theorem rev_S {x : List Nat} (h : decide (V.str (S x) = V.str ⟨(S x).cps.toList.reverse.toArray⟩) = true) : x = x.reverse := by
  have z := S_inj.mp (V.str.inj (of_decide_eq_true h))
  rw [S_codes] at z
  exact z
theorem rev_N {x : List Nat} (h : ¬ decide (V.str (S x) = V.str ⟨(S x).cps.toList.reverse.toArray⟩) = true) : ¬ x = x.reverse := fun e => h (by
  refine decide_eq_true ?_
  rw [S_codes, ← e])
section
variable {P : Program} {w : World} {K : PySem.W.Frag} {mg : Str → Option Value} {base : Heap}
def spLaw (K : PySem.W.Frag) : Sp := fun vs H Q _ => ∃ (a : Addr) (ns : List Int), vs = [.ref a] ∧ SqL K H a (ns.map V.int) ∧ ns.length ≤ 63 ∧ ∀ H', Q (.bl true) H'
theorem ok_law {f fT fW fPl fFa fM fC fL fU fCp fA : Addr} {fd dT dW dPl dFa dM dC dL dU dCp dA : FuncData} (F : Fun K "law" "law" sLaw f fd) (G : Gls mg)
    (T : Cl P w K mg base "_law_taken" 1 ["_law_row", "_law_many"] (spTaken K) fT dT)
    (W : Cl P w K mg base "_law_word_of" 2 ["_law_row", "_law_most", "_law_many"] (spDraw K) fW dW)
    (Pl : Cl P w K mg base "_law_plan" 2 ["_law_row", "_law_most", "_law_many"] (spDraw K) fPl dPl)
    (Fa : Cl P w K mg base "_law_fast" 2 ["_law_plan_here"] spFast fFa dFa)
    (M : Cl P w K mg base "middles" 3 ["word"] spMiddles fM dM)
    (C : Cl P w K mg base "count_mirrors" 3 ["word"] spCount fC dC)
    (L : Cl P w K mg base "longest_mirror" 3 ["word"] spLongest fL dL)
    (U : Cl P w K mg base "cuts" 3 ["word"] spCuts fU dU)
    (Cp : Cl P w K mg base "common_piece" 3 ["one", "other"] spCommon fCp dCp)
    (A : Cl P w K mg base "_law_alike" 3 ["_law_found", "_law_due"] (spAlike 3) fA dA) :
    FnOk P w K mg base CX0 4 f fd ["_law_script"] (spLaw K) := by
  refine F.ok scLaw (fun vs H Q E h => ?_) (fun cdv Ar outer s H vs Q E hr h => ?_)
  · obtain ⟨a, ns, rfl, _⟩ := h
    rfl
  obtain ⟨a, ns, rfl, hS, hns, q⟩ := h
  have hr2 := hr.mono (show 2 ≤ 3 by decide)
  have hr1 := hr.mono (show 1 ≤ 3 by decide)
  refine ⟨_, pss_cons (ps_set (i := 1) scLaw.nd rfl (.inl rfl) (pe_lst (pa_cons (pv 0) (pa_cons pe_int (pa_cons pe_int (pa_cons pe_int pa_nil))))))
    (pss_cons (ps_set (i := 2) scLaw.nd rfl (.inl rfl) (pe_op op_add pe_int (pe_call T.G hr1 (by rfl) T.m T.k T.b .nil pass0 (pa_cons (pv 1) (pa_cons pe_int pa_nil)))))
    (C8.pss_cut (ps_set (i := 3) scLaw.nd rfl (.inr rfl) (pe_ifExp (pt_cmpR op_eq (pe_call T.G hr1 (by rfl) T.m T.k T.b .nil pass0 (pa_cons (pv 1) (pa_cons pe_int pa_nil))) pe_int (nomark _))
      (pe_call W.G hr2 (by rfl) W.m W.k W.b .nil pass0 (pa_cons (pv 1) (pa_cons pe_int (pa_cons (pv 2) pa_nil))))
      (pe_slice sl_str (pe_call Fa.G hr2 (by rfl) Fa.m Fa.k Fa.b .nil pass0 (pa_cons (pe_call Pl.G hr2 (by rfl) Pl.m Pl.k Pl.b .nil pass0 (pa_cons (pv 1) (pa_cons pe_int (pa_cons (pv 2) pa_nil)))) pa_nil)) po_none (po_some pe_int))))
    (pss_cons (ps_par3 (i := 4) (j := 5) (l := 6) rfl scLaw.nd rfl rfl rfl (by decide) (by decide) (by decide) rfl rfl rfl
      (pa_cons (pe_op op_rep (pe_lst (pa_cons pe_int pa_nil)) (pe_op op_add (pe_op op_mul pe_int (pe_callB call_len_str (by rfl) G.len PySem.boot_len (pa_cons (pv 3) pa_nil))) pe_int)) (pa_cons pe_int (pa_cons pe_str pa_nil))) (by rfl))
    (C8.pss_cut (ps_for PassesOwn.never rfl (pi_range1 (by rfl) G.range (pa_cons (pe_callB call_len_str (by rfl) G.len PySem.boot_len (pa_cons (pv 3) pa_nil)) pa_nil)) (pg_name (i := 7) scLaw.nd rfl (.inr rfl))
      (pss_one (ps_for PassesOwn.never rfl (pi_range2 (by rfl) G.range (pa_cons (pe_op op_add (pv 7) pe_int) (pa_cons (pe_op op_add (pe_callB call_len_str (by rfl) G.len PySem.boot_len (pa_cons (pv 3) pa_nil)) pe_int) pa_nil))) (pg_name (i := 8) scLaw.nd rfl (.inr rfl))
        (pss_cons (ps_set (i := 9) scLaw.nd rfl (.inl rfl) (pe_slice sl_nat (pv 3) (po_some (pv 7)) (po_some (pv 8))))
        (pss_one (ps_if (pt_cmpR op_eq (pv 9) (pe_revS (pv 9)) (nomark _))
          (pss_cons (ps_asg (pe_callB (call_max2 rfl) (by rfl) G.max (by decide +kernel) (pa_cons (pe_ix ix_list (pv 4) (pe_op op_add (pv 7) (pv 8)) (fun _ _ => rfl)) (pa_cons (pe_op op_sub (pv 8) (pv 7)) pa_nil))) (pg_sub (pv 4) (pe_op op_add (pv 7) (pv 8)) set_list))
          (pss_one (ps_par (i := 5) (j := 6) rfl scLaw.nd rfl rfl (by decide) rfl rfl (pa_cons (pe_op op_add (pv 5) pe_int) (pa_cons
            (pe_ifExp (pt_cmpR op_gt (pe_callB call_len_str (by rfl) G.len PySem.boot_len (pa_cons (pv 9) pa_nil)) (pe_callB call_len_str (by rfl) G.len PySem.boot_len (pa_cons (pv 6) pa_nil)) (nomark _)) (pv 9) (pv 6)) pa_nil)) (by rfl))))
          pss_nil))))))
    (C8.pss_cut (ps_if (pt_not (pt_val (pe_call A.G hr (by rfl) A.m A.k A.b .nil pass0 (pa_cons
        (pe_lst (pa_cons (pe_call M.G hr (by rfl) M.m M.k M.b .nil pass0 (pa_cons (pv 3) pa_nil)) (pa_cons (pe_call C.G hr (by rfl) C.m C.k C.b .nil pass0 (pa_cons (pv 3) pa_nil)) (pa_cons (pe_call L.G hr (by rfl) L.m L.k L.b .nil pass0 (pa_cons (pv 3) pa_nil)) pa_nil)))) (pa_cons
        (pe_lst (pa_cons (pe_callTy call_tuple_of (by rfl) G.tuple (by decide +kernel) (pa_cons (pv 4) pa_nil)) (pa_cons (pv 5) (pa_cons (pv 6) pa_nil)))) pa_nil))))) (pss_one ps_never) pss_nil)
    (pss_cons (ps_set (i := 10) scLaw.nd rfl (.inr rfl) (pe_lst (pa_cons pe_int pa_nil)))
    (C8.pss_cut (ps_for PassesOwn.never rfl (pi_range2 (by rfl) G.range (pa_cons pe_int (pa_cons (pe_op op_add (pe_callB call_len_str (by rfl) G.len PySem.boot_len (pa_cons (pv 3) pa_nil)) pe_int) pa_nil))) (pg_name (i := 8) scLaw.nd rfl (.inr rfl))
      (pss_one (ps_expr (pe_bm PySem.F.plainAttrs_list PySem.F.slot_list_append PySem.F.type_list_append mt_append (pv 10) (pa_cons (pe_callB (cr_min rfl) (by rfl) G.min (by decide +kernel) (pa_cons
        (pe_lc (own := [("_law_start", 7)]) (g := gName 7) rfl scLaw.nd (pi_range1 (by rfl) G.range (pa_cons (pv 8) pa_nil))
          (blkOk_by (N := ["_law_script", "_law_row", "_law_many", "_law_word", "_law_due", "_law_total", "_law_best", "_law_start", "_law_end", "_law_piece", "_law_least", "_law_other", "_law_pieces", "_law_most"]) (sc := defScope sLaw) (by decide +kernel))
          (fun _ _ _ _ _ => pg_name (i := 7) scLaw.nd rfl (Or.inl rfl))
          (fun _ _ _ _ _ => pts_one (pt_cmpR op_eq (pe_slice sl_nat (pv 3) (po_some (pv 7)) (po_some (pv 8))) (pe_revS (pe_slice sl_nat (pv 3) (po_some (pv 7)) (po_some (pv 8)))) (nomark _)))
          (fun _ _ _ _ _ => pe_op op_add (pe_ix (ix_listK (K := K)) (pv 10) (pv 7) (fun _ _ => rfl)) pe_int)) pa_nil)) pa_nil)))))
    (C8.pss_cut (ps_if (pt_not (pt_val (pe_call A.G hr (by rfl) A.m A.k A.b .nil pass0 (pa_cons (pe_call U.G hr (by rfl) U.m U.k U.b .nil pass0 (pa_cons (pv 3) pa_nil)) (pa_cons (pe_ix ix_list (pv 10) (pe_un un_neg pe_int) (fun _ _ => rfl)) pa_nil))))) (pss_one ps_never) pss_nil)
    (C8.pss_cut (ps_asg (pe_tup (pa_cons (pe_call W.G hr2 (by rfl) W.m W.k W.b .nil pass0 (pa_cons (pv 1) (pa_cons pe_int (pa_cons (pv 2) pa_nil)))) (pa_cons (pe_lst (pa_cons pe_str pa_nil)) pa_nil)))
      (pg_tup rfl (pgs_cons (pg_name (i := 11) scLaw.nd rfl (.inr rfl)) (pgs_cons (pg_name (i := 12) scLaw.nd rfl (.inl rfl)) pgs_nil))))
    (C8.pss_cut (ps_for PassesOwn.never rfl (pi_range1 (by rfl) G.range (pa_cons (pe_callB call_len_str (by rfl) G.len PySem.boot_len (pa_cons (pv 11) pa_nil)) pa_nil)) (pg_name (i := 7) scLaw.nd rfl (.inr rfl))
      (pss_one (ps_set (i := 12) scLaw.nd rfl (.inl rfl) (pe_op op_cat (pv 12)
        (pe_lc (own := [("_law_end", 8)]) (g := gName 8) rfl scLaw.nd (pi_range2 (by rfl) G.range (pa_cons (pe_op op_add (pv 7) pe_int) (pa_cons (pe_op op_add (pe_callB call_len_str (by rfl) G.len PySem.boot_len (pa_cons (pv 11) pa_nil)) pe_int) pa_nil)))
          (blkOk_by (N := ["_law_script", "_law_row", "_law_many", "_law_word", "_law_due", "_law_total", "_law_best", "_law_start", "_law_end", "_law_piece", "_law_least", "_law_other", "_law_pieces", "_law_most"]) (sc := defScope sLaw) (by decide +kernel))
          (fun _ _ _ _ _ => pg_name (i := 8) scLaw.nd rfl (Or.inl rfl))
          (fun _ _ _ _ _ => pts_one (pt_cmpR op_in_str (pe_slice sl_nat (pv 11) (po_some (pv 7)) (po_some (pv 8))) (pv 3) rfl))
          (fun _ _ _ _ _ => pe_slice sl_nat (pv 11) (po_some (pv 7)) (po_some (pv 8))))))))
    (C8.pss_cut (ps_set (i := 13) scLaw.nd rfl (.inr rfl) (pe_callB (cr_max rfl) (by rfl) G.max (by decide +kernel) (pa_cons
        (pe_lc (own := [("_law_piece", 9)]) (g := gName 9) (tt := tYes) rfl scLaw.nd (pi_list (pv 12))
          (blkOk_by (N := ["_law_script", "_law_row", "_law_many", "_law_word", "_law_due", "_law_total", "_law_best", "_law_start", "_law_end", "_law_piece", "_law_least", "_law_other", "_law_pieces", "_law_most"]) (sc := defScope sLaw) (by decide +kernel))
          (fun _ _ _ _ _ => pg_name (i := 9) scLaw.nd rfl (Or.inl rfl)) (fun _ _ _ _ _ => pts_nil)
          (fun _ _ _ _ _ => pe_callB call_len_str (by rfl) G.len PySem.boot_len (pa_cons (pv 9) pa_nil))) pa_nil)))
    (pss_one (ps_ret (pe_call A.G hr (by rfl) A.m A.k A.b .nil pass0 (pa_cons (pe_call Cp.G hr (by rfl) Cp.m Cp.k Cp.b .nil pass0 (pa_cons (pv 3) (pa_cons (pv 11) pa_nil))) (pa_cons
        (pe_callB (cr_minS rfl) (by rfl) G.min (by decide +kernel) (pa_cons
          (pe_lc (own := [("_law_piece", 9)]) (g := gName 9) rfl scLaw.nd (pi_list (pv 12))
            (blkOk_by (N := ["_law_script", "_law_row", "_law_many", "_law_word", "_law_due", "_law_total", "_law_best", "_law_start", "_law_end", "_law_piece", "_law_least", "_law_other", "_law_pieces", "_law_most"]) (sc := defScope sLaw) (by decide +kernel))
            (fun _ _ _ _ _ => pg_name (i := 9) scLaw.nd rfl (Or.inl rfl))
            (fun _ _ _ _ _ => pts_one (pt_cmpR op_eq (pe_callB call_len_str (by rfl) G.len PySem.boot_len (pa_cons (pv 9) pa_nil)) (pv 13) (nomark _)))
            (fun _ _ _ _ _ => pv 9)) pa_nil)) pa_nil)))))))))))))))), ?_⟩
  -- the row, the number of letters
  refine ⟨.ref a, rfl, (by show 4 ≤ sizeLine; decide), fun r nr => ?_⟩
  have ro1 : RowOk K a ns (upd H r (.lst [.ref a, .int 0, .int 4567, .int 0])) r := ⟨0, 4567, 0, upd_same, (same_new nr).seq hS, hns, sq_apart hS nr, by omega, by omega⟩
  refine ⟨_, rfl, r, 3, a, ns, rfl, by decide, by decide, ro1, fun H2 v v0 v1 ro2 k2 => ?_⟩
  obtain ⟨m, hm, m1, m3⟩ : ∃ m : Nat, 1 + v = (m : Int) ∧ 1 ≤ m ∧ m ≤ 3 := ⟨(1 + v).toNat, by omega, by omega, by omega⟩
  refine ⟨_, _, rfl, rfl, ?_⟩
  -- the word
  refine ⟨fun σ' H' => ∃ w, σ' = sv a r m w none none none none none none none none none none ∧ Lets w ∧ w.length ≤ 31 ∧ RowOk K a ns H' r, ?_, ?_⟩
  · refine ⟨_, rfl, r, 2, a, ns, rfl, by decide, by decide, ro2, fun H3 v2 _ _ ro3 k3 => ?_⟩
    refine ⟨rfl, _, rfl, ite2 (fun _ => ?_) (fun _ => ?_)⟩
    · refine ⟨_, rfl, _, rfl, r, 12, m, a, ns, ?_, by omega, by omega, by omega, ro3, fun H4 cs hl hlen ro4 k4 => ?_⟩
      · rw [← hm]
        rfl
      · refine ⟨cs, ?_, hl, by omega, ro4⟩
        unfold sv
        rw [← hm]
        rfl
    · refine ⟨_, rfl, _, rfl, r, 5, m, a, ns, ?_, by omega, by omega, by omega, ro3, fun H4 cs hl hlen ro4 k4 => ?_⟩
      · rw [← hm]
        rfl
      · refine ⟨cs, rfl, hl, hlen, fun H5 ws s5 hl5 hlen5 => ?_⟩
        obtain ⟨b, hb, hbl, hbm⟩ := cutS_sub ws none (some 24)
        refine ⟨_, rfl, S ws, rfl, ?_, b, ?_, hl5.sub hbm, by omega, ro4.keep s5⟩
        · rw [S_len]
          exact line_of (by omega)
        · unfold sv
          rw [← hm, ← hb]
          rfl
  rintro σ1 H1 ⟨w, rfl, hw, hwn, ro⟩
  have hline : (S w).length ≤ sizeLine := by
    rw [S_len]
    exact line_of (by omega)
  -- due, total, best
  refine ⟨(by show 1 ≤ sizeLine; decide), fun o no => ?_⟩
  refine ⟨_, rfl, _, rfl, hline, _, _, rfl, rfl, .inl ⟨by decide, by decide⟩, _, _, rfl, rfl, o, ((2 * w.length + 1 : Nat) : Int), _, rfl, ?_, upd_same, by omega, by omega, ?_, fun pd npd => ?_⟩
  · show V.int (2 * (((S w).length : Nat) : Int) + 1) = _
    rw [S_len]
    exact congrArg V.int (by omega)
  · rw [Int.toNat_natCast]
    show 1 * _ ≤ _
    exact line_of (by omega)
  rw [Int.toNat_natCast, rep_zero, ← due0]
  have npH : H1 pd = none := (same_new no).free npd
  have s1 : Same H1 (upd (upd H1 o (.lst [V.int 0])) pd (.lst (vI (due w 0 0)))) := (same_new no).trans (same_new npd)
  refine ⟨_, _, _, rfl, ?_⟩
  -- the two loops
  refine ⟨fun σ' H' => ∃ (best : List Nat) (y7 y8 y9 : Option V), σ' = sv a r m w (some (.ref pd)) (some (.int (tot w w.length 0 : Nat))) (some (.str (S best))) y7 y8 y9 none none none none ∧ RowOk K a ns H' r ∧ H' pd = some (.lst (vI (rads w))) ∧ BestInv w w.length 0 best, ?_, ?_⟩
  · refine ⟨_, rfl, _, rfl, hline, _, rfl, by rw [S_len]; omega, by rw [S_len]; omega, ?_⟩
    rw [S_len, Int.toNat_natCast]
    refine for_range0 (fun i σ' H' => ∃ (best : List Nat) (y7 y8 y9 : Option V), σ' = sv a r m w (some (.ref pd)) (some (.int (tot w i 0 : Nat))) (some (.str (S best))) y7 y8 y9 none none none none ∧ Same H1 H' ∧ H' pd = some (.lst (vI (due w i 0))) ∧ BestInv w i 0 best)
      ⟨[], none, none, none, by rw [tot_zero]; rfl, s1, upd_same, best_zero w⟩ (fun i σ' H' hi hP => ?_) (fun σ' H' hP => ?_)
    · obtain ⟨best, y7, y8, y9, rfl, s2, e2, hB⟩ := hP
      refine ⟨_, rfl, _, _, rfl, rfl, _, rfl, _, rfl, hline, _, _, rfl, rfl, _, _, rfl, ⟨by omega, by omega, by rw [S_len]; omega, by rw [S_len]; omega⟩, ?_⟩
      rw [S_len, show (((w.length : Nat) : Int) + 1 - (((i : Nat) : Int) + 1)).toNat = w.length - i by omega]
      refine for_range (fun j σ' H' => ∃ (best : List Nat) (y8 y9 : Option V), σ' = sv a r m w (some (.ref pd)) (some (.int (tot w i j : Nat))) (some (.str (S best))) (some (.int (i : Nat))) y8 y9 none none none none ∧ Same H1 H' ∧ H' pd = some (.lst (vI (due w i j))) ∧ BestInv w i j best)
        ⟨best, _, _, rfl, s2, e2, hB⟩ (fun j σ' H' hj hP => ?_) (fun σ' H' hP => ?_)
      · obtain ⟨best, y8, y9, rfl, s3, e3, hB⟩ := hP
        have hij : i + 1 + j ≤ w.length := by omega
        have hbl := best_len hB
        have hsl : (seg w i (i + 1 + j)).length = j + 1 := by
          rw [seg_len hij]
          omega
        rw [show ((i : Nat) : Int) + 1 + ((j : Nat) : Int) = ((i + 1 + j : Nat) : Int) by omega]
        refine ⟨_, rfl, _, rfl, _, rfl, _, rfl, _, rfl, w, i, i + 1 + j, rfl, rfl, rfl, by omega, hij, by omega, ?_⟩
        refine ⟨_, rfl, _, rfl, S (seg w i (i + 1 + j)), rfl, ?_, rfl, _, rfl, ite2 (fun c => ?_) (fun c => ?_)⟩
        · rw [S_len]
          exact line_of (by omega)
        · have hm : mirW w i (i + 1 + j) := rev_S c
          have ec : ((i : Nat) : Int) + ((i + 1 + j : Nat) : Int) = ((2 * i + 1 + j : Nat) : Int) := by omega
          have hc : 2 * i + 1 + j < 2 * w.length + 1 := by omega
          refine ⟨.ref pd, rfl, _, rfl, _, rfl, _, _, rfl, rfl, pd, _, _, .int (Dm w i j (2 * i + 1 + j) : Nat), rfl, rfl, SqL.of e3, ?_, _, rfl, _, rfl, _, _, rfl, rfl, _, _, rfl, .ref pd, rfl, _, rfl, _, rfl, _, _, rfl, rfl, pd, _, _, 2 * i + 1 + j, rfl, rfl, e3, ?_, ?_⟩
          · rw [ec]
            exact atI_vI (due_get hc)
          · rw [ec]
            exact ixN_nat (by rw [vI_len, due_len]; exact hc)
          have ev : (if ((i + 1 + j : Nat) : Int) - ((i : Nat) : Int) > ((Dm w i j (2 * i + 1 + j) : Nat) : Int) then ((i + 1 + j : Nat) : Int) - ((i : Nat) : Int) else ((Dm w i j (2 * i + 1 + j) : Nat) : Int)) = ((max (Dm w i j (2 * i + 1 + j)) (j + 1) : Nat) : Int) := by
            split <;> omega
          have e4 : upd H' pd (.lst ((vI (due w i j)).set (2 * i + 1 + j) (V.int (if ((i + 1 + j : Nat) : Int) - ((i : Nat) : Int) > ((Dm w i j (2 * i + 1 + j) : Nat) : Int) then ((i + 1 + j : Nat) : Int) - ((i : Nat) : Int) else ((Dm w i j (2 * i + 1 + j) : Nat) : Int))))) pd = some (.lst (vI (due w i (j + 1)))) := by
            rw [upd_same, ev, vI_set, due_hit hij hm]
          have et : ((tot w i j : Nat) : Int) + 1 = ((tot w i (j + 1) : Nat) : Int) := by
            rw [tot_step hij, if_pos hm]
            omega
          refine ⟨_, rfl, _, _, rfl, rfl, _, rfl, _, rfl, ?_, _, rfl, _, rfl, ?_, _, _, rfl, rfl, _, rfl, ite2 (fun g => ?_) (fun g => ?_)⟩
          · rw [S_len]
            exact line_of (by omega)
          · rw [S_len]
            exact line_of (by omega)
          · have g1 : (((S (seg w i (i + 1 + j))).length : Nat) : Int) > (((S best).length : Nat) : Int) := of_decide_eq_true g
            rw [S_len, S_len] at g1
            refine ⟨_, rfl, _, _, rfl, seg w i (i + 1 + j), some (.int (i + 1 + j : Nat)), some (.str (S (seg w i (i + 1 + j)))), ?_, same_put s3 npH, e4, best_more hB hij hm (by omega)⟩
            rw [← et]
            rfl
          · have g1 : ¬ (((S (seg w i (i + 1 + j))).length : Nat) : Int) > (((S best).length : Nat) : Int) := of_decide_eq_false (Bool.eq_false_iff.mpr g)
            rw [S_len, S_len] at g1
            refine ⟨_, rfl, _, _, rfl, best, some (.int (i + 1 + j : Nat)), some (.str (S (seg w i (i + 1 + j)))), ?_, same_put s3 npH, e4, best_less hB (by omega)⟩
            rw [← et]
            rfl
        · have hm : ¬ mirW w i (i + 1 + j) := rev_N c
          refine ⟨best, some (.int (i + 1 + j : Nat)), some (.str (S (seg w i (i + 1 + j)))), ?_, s3, ?_, best_miss hB hm⟩
          · rw [tot_step hij, if_neg hm]
            rfl
          · rw [due_miss hij hm]
            exact e3
      · obtain ⟨best, y8, y9, rfl, s3, e3, hB⟩ := hP
        rw [due_row hi] at e3
        exact ⟨best, _, _, _, by rw [tot_row hi], s3, e3, best_row hB⟩
    · obtain ⟨best, y7, y8, y9, rfl, s2, e2, hB⟩ := hP
      rw [due_end] at e2
      exact ⟨best, _, _, _, rfl, ro.keep s2, e2, hB⟩
  rintro σ2 H2 ⟨best, y7, y8, y9, rfl, ro2, e2, hB⟩
  -- middles, count_mirrors, longest_mirror
  refine ⟨fun σ' H' => ∃ (y4 y5 y6 y7 y8 y9 : Option V), σ' = sv a r m w y4 y5 y6 y7 y8 y9 none none none none ∧ RowOk K a ns H' r, ?_, ?_⟩
  · refine ⟨_, rfl, w, rfl, hw, by omega, fun H3 p s3 np ep => ?_⟩
    refine ⟨_, rfl, w, rfl, hw, by omega, fun H4 n s4 hn => ?_⟩
    refine ⟨_, rfl, w, rfl, hw, by omega, fun H5 most mid s5 hle hmid he hf => ?_⟩
    refine ⟨(by show 3 ≤ sizeLine; decide), fun p1 np1 => ?_⟩
    have s6 := (s3.trans s4).trans s5
    have s7 := s6.trans (same_new (o := .lst [V.ref p, V.int (n : Nat), V.str (S (seg w ((mid - most) / 2) ((mid - most) / 2 + most)))]) np1)
    refine ⟨.ref pd, rfl, pd, _, rfl, .inl ⟨SqL.of (s7 _ _ e2), fun pt npt => ?_⟩⟩
    refine ⟨_, rfl, _, rfl, (by show 3 ≤ sizeLine; decide), fun p2 np2 => ?_⟩
    have e0 := best_end hB hle hmid he hf
    have en : n = tot w w.length 0 := by
      rw [half_tot]
      exact hn
    have f1 : Same _ _ := same_new (o := .tup (vI (rads w))) npt
    have f2 := same_new (o := .lst [V.ref pt, V.int (tot w w.length 0 : Nat), V.str (S best)]) np2
    refine ⟨_, _, rfl, .inr ⟨p1, p2, _, _, rfl, rfl, .inr ⟨f2 _ _ (f1 _ _ upd_same), upd_same⟩, rfl, (by show 3 ≤ 10000; omega), alk_three ?_ ?_ ?_⟩, fun H' s' => ?_⟩
    · refine .inr ⟨p, pt, vI (rads w), vI (rads w), rfl, rfl, .inl ⟨f2 _ _ (f1 _ _ (same_new np1 _ _ (s5 _ _ (s4 _ _ ep)))), f2 _ _ upd_same⟩, rfl, ?_, alk_ints⟩
      rw [vI_len, rads_len]
      omega
    · rw [en]
      exact Alk.int _
    · rw [← e0.1]
      exact Alk.str _
    · refine ⟨true, rfl, iteF ?_⟩
      exact ⟨_, _, _, _, _, _, rfl, ro2.keep (s7.trans (f1.trans (f2.trans s')))⟩
  rintro σ3 H3 ⟨y4, y5, y6, y7, y8, y9, rfl, ro3⟩
  -- cuts by the law
  refine ⟨(by show 1 ≤ sizeLine; decide), fun l nl => ?_⟩
  refine ⟨fun σ' H' => ∃ (y4 y5 y6 y7 y8 y9 : Option V), σ' = sv a r m w y4 y5 y6 y7 y8 y9 (some (.ref l)) none none none ∧ RowOk K a ns H' r ∧ H' l = some (.lst ((cutsL w w.length).map V.int)), ?_, ?_⟩
  · refine ⟨_, rfl, _, rfl, hline, _, _, rfl, rfl, 1, _, rfl, ⟨by omega, by omega, by rw [S_len]; omega, by rw [S_len]; omega⟩, ?_⟩
    rw [S_len, show (((w.length : Nat) : Int) + 1 - 1).toNat = w.length by omega]
    refine for_range (fun e σ' H' => ∃ (y4 y5 y6 y7 y8 y9 : Option V), σ' = sv a r m w y4 y5 y6 y7 y8 y9 (some (.ref l)) none none none ∧ Same H3 H' ∧ H' l = some (.lst ((cutsL w e).map V.int))) ⟨_, _, _, _, _, _, rfl, same_new nl, upd_same⟩ (fun e σ' H' he hP => ?_) (fun σ' H' hP => ?_)
    · obtain ⟨y4, y5, y6, y7, y8, y9, rfl, s4, e4⟩ := hP
      rw [show (1 : Int) + (e : Int) = ((e + 1 : Nat) : Int) by omega]
      have hcl := cutsL_len w e
      refine ⟨.ref l, rfl, .inl ⟨rfl, _, SqL.of e4⟩, ?_⟩
      refine ⟨_, rfl, _, rfl, by omega, by omega, ?_⟩
      rw [Int.toNat_natCast]
      intro D nD
      refine lc_range0 (fun st H5 => Same H' H5 ∧ H5 D = some (.lst ((cand w (cutsL w e) (e + 1) st).map V.int))) ⟨same_new nD, by rw [upd_same]; rfl⟩ (fun st H5 hst h => ?_) (fun H5 h => ?_)
      · obtain ⟨s5, eD⟩ := h
        refine ⟨rfl, ?_⟩
        have hsl : (seg w st (e + 1)).length = e + 1 - st := seg_len (by omega)
        refine ⟨_, rfl, _, rfl, _, rfl, _, rfl, _, rfl, w, st, e + 1, rfl, rfl, rfl, by omega, by omega, by omega, _, rfl, _, rfl, _, rfl, _, rfl, _, rfl, w, st, e + 1, rfl, rfl, rfl, by omega, by omega, by omega, S (seg w st (e + 1)), rfl, ?_, rfl, _, rfl, ite2 (fun c => ?_) (fun c => ?_)⟩
        · rw [S_len]
          exact line_of (by omega)
        · have hm : mirW w st (e + 1) := rev_S c
          refine ⟨.ref l, rfl, _, rfl, l, _, _, _, rfl, rfl, SqL.of (s5 _ _ e4), atI_nat (cutsL_get (by omega)), _, _, rfl, rfl, _, eD, ?_, same_put s5 nD, ?_⟩
          · rw [List.length_map]
            have := cand_len w (cutsL w e) (e + 1) st
            exact line_lt (by omega)
          · rw [upd_same, cand_hit hm, List.map_append]
            rfl
        · have hm : ¬ mirW w st (e + 1) := rev_N c
          refine ⟨s5, ?_⟩
          rw [cand_miss hm]
          exact eD
      · obtain ⟨s5, eD⟩ := h
        refine ⟨D, _, rfl, SqL.of eD, cand_pos he, fun mm hmm hle => ?_⟩
        refine ⟨l, _, _, rfl, rfl, s5 _ _ e4, ?_, _, _, _, _, _, _, rfl, ?_, ?_⟩
        · rw [List.length_map, hcl]
          exact line_lt (by omega)
        · exact same_put (s4.trans s5) nl
        · rw [upd_same, minL_eq hmm hle]
          show some (HO.lst ((cutsL w e).map V.int ++ [V.int _])) = some (HO.lst ((cutsL w e ++ [_]).map V.int))
          rw [List.map_append]
          rfl
    · obtain ⟨y4, y5, y6, y7, y8, y9, rfl, s4, e4⟩ := hP
      exact ⟨_, _, _, _, _, _, rfl, ro3.keep s4, e4⟩
  rintro σ4 H4 ⟨y4, y5, y6, y7, y8, y9, rfl, ro4, e4⟩
  -- cuts
  refine ⟨fun σ' H' => ∃ (y4 y5 y6 y7 y8 y9 y10 : Option V), σ' = sv a r m w y4 y5 y6 y7 y8 y9 y10 none none none ∧ RowOk K a ns H' r, ?_, ?_⟩
  · refine ⟨_, rfl, w, rfl, hw, by omega, fun H5 s5 => ?_⟩
    refine ⟨.ref l, rfl, 1, rfl, l, _, _, _, rfl, rfl, SqL.of (s5 _ _ e4), cutsL_last w _, ?_⟩
    refine ⟨_, _, rfl, Alk.int _, fun H6 s6 => ?_⟩
    refine ⟨true, rfl, iteF ?_⟩
    exact ⟨_, _, _, _, _, _, _, rfl, ro4.keep (s5.trans s6)⟩
  rintro σ5 H5 ⟨y4, y5, y6, y7, y8, y9, y10, rfl, ro5⟩
  -- the other word
  refine ⟨fun σ' H' => ∃ (v : List Nat) (p : Addr) (y7 : Option V), σ' = sv a r m w y4 y5 y6 y7 y8 y9 y10 (some (.str (S v))) (some (.ref p)) none ∧ Lets v ∧ v.length ≤ 9 ∧ H' p = some (.lst (vS (pieces (isIn w) v 0))), ?_, ?_⟩
  · refine ⟨_, rfl, _, rfl, r, 9, m, a, ns, rfl, by omega, by omega, by omega, ro5, fun H6 v hv hvn ro6 k6 => ?_⟩
    refine ⟨(by show 1 ≤ sizeLine; decide), fun l2 nl2 => ⟨(by show 2 ≤ sizeLine; decide), fun t nt => ?_⟩⟩
    refine ⟨t, [.str (S v), .ref l2], rfl, SqT.of upd_same, rfl, _, _, rfl, _, _, rfl, rfl, ?_⟩
    exact ⟨v, l2, _, rfl, hv, hvn, same_new nt _ _ upd_same⟩
  rintro σ6 H6 ⟨v, p0, y7, rfl, hv, hvn, e6⟩
  have hlv : (S v).length ≤ sizeLine := by
    rw [S_len]
    exact line_of (by omega)
  -- the pieces
  have plen : ∀ i, i ≤ v.length → (pieces (isIn w) v i).length ≤ 100 := fun i hi => by
    have h1 := pieces_len (isIn w) v i
    have h2 : i * v.length ≤ 9 * 9 := Nat.mul_le_mul (by omega) hvn
    omega
  refine ⟨fun σ' H' => ∃ (p : Addr) (y7 : Option V), σ' = sv a r m w y4 y5 y6 y7 y8 y9 y10 (some (.str (S v))) (some (.ref p)) none ∧ H' p = some (.lst (vS (pieces (isIn w) v v.length))), ?_, ?_⟩
  · refine ⟨_, rfl, _, rfl, hlv, _, rfl, by rw [S_len]; omega, by rw [S_len]; omega, ?_⟩
    rw [S_len, Int.toNat_natCast]
    refine for_range0 (fun i σ' H' => ∃ (p : Addr) (y7 : Option V), σ' = sv a r m w y4 y5 y6 y7 y8 y9 y10 (some (.str (S v))) (some (.ref p)) none ∧ H' p = some (.lst (vS (pieces (isIn w) v i)))) ⟨p0, _, rfl, e6⟩ (fun i σ' H' hi hP => ?_) (fun σ' H' hP => ?_)
    · obtain ⟨p, y7, rfl, ep⟩ := hP
      refine ⟨.ref p, rfl, ?_⟩
      refine ⟨_, rfl, _, _, rfl, rfl, _, rfl, _, rfl, hlv, _, _, rfl, rfl, _, _, rfl, ⟨by omega, by omega, by rw [S_len]; omega, by rw [S_len]; omega⟩, ?_⟩
      rw [S_len, show (((v.length : Nat) : Int) + 1 - (((i : Nat) : Int) + 1)).toNat = v.length - i by omega]
      intro D nD
      refine lc_range (fun j H7 => Same H' H7 ∧ H7 D = some (.lst (vS (rowP (isIn w) v i j)))) ⟨same_new nD, by rw [upd_same]; rfl⟩ (fun j H7 hj h => ?_) (fun H7 h => ?_)
      · obtain ⟨s7, eD⟩ := h
        rw [show ((i : Nat) : Int) + 1 + ((j : Nat) : Int) = ((i + 1 + j : Nat) : Int) by omega]
        refine ⟨rfl, ?_⟩
        refine ⟨_, rfl, _, rfl, _, rfl, _, rfl, _, rfl, v, i, i + 1 + j, rfl, rfl, rfl, by omega, by omega, by omega, _, rfl, S (seg v i (i + 1 + j)), S w, rfl, rfl, _, rfl, ite2 (fun c => ?_) (fun c => ?_)⟩
        · have hf : isIn w (seg v i (i + 1 + j)) = true := c
          refine ⟨_, rfl, _, rfl, _, rfl, _, rfl, _, rfl, v, i, i + 1 + j, rfl, rfl, rfl, by omega, by omega, by omega, _, eD, ?_, same_put s7 nD, ?_⟩
          · rw [vS_len]
            have := rowP_len (isIn w) v i j
            exact line_lt (by omega)
          · rw [upd_same, rowP_hit hf, vS_app]
            rfl
        · have hf : ¬ isIn w (seg v i (i + 1 + j)) = true := c
          refine ⟨s7, ?_⟩
          rw [rowP_miss hf]
          exact eD
      · obtain ⟨s7, eD⟩ := h
        refine ⟨p, D, _, _, rfl, rfl, s7 _ _ ep, eD, ?_, fun p2 np2 => ?_⟩
        · rw [vS_len, vS_len]
          have h1 := plen i (by omega)
          have h2 := rowP_len (isIn w) v i (v.length - i)
          exact line_of (by omega)
        · refine ⟨p2, _, rfl, ?_⟩
          rw [upd_same, ← vS_app]
          rfl
    · obtain ⟨p, y7, rfl, ep⟩ := hP
      exact ⟨p, _, rfl, ep⟩
  rintro σ7 H7 ⟨p, y7, rfl, ep⟩
  have hpl := plen v.length (Nat.le_refl _)
  generalize hpc : pieces (isIn w) v v.length = pcs at ep hpl
  have hpw : ∀ x ∈ pcs, x.length ≤ 9 := fun x hx => by
    rw [← hpc, pieces_mem] at hx
    rcases hx with rfl | ⟨s, k, h1, h2, h3, _⟩
    · exact Nat.zero_le _
    · rw [h3, seg_len (by omega)]
      omega
  -- the greatest length
  refine ⟨fun σ' H' => ∃ most : Nat, σ' = sv a r m w y4 y5 y6 y7 y8 y9 y10 (some (.str (S v))) (some (.ref p)) (some (.int (most : Nat))) ∧ H' p = some (.lst (vS pcs)) ∧ (∀ x ∈ pcs, x.length ≤ most) ∧ ∃ x ∈ pcs, x.length = most, ?_, ?_⟩
  · refine ⟨_, rfl, p, rfl, ⟨_, SqL.of ep⟩, fun D nD => ?_⟩
    refine lc_list (xs := vS pcs) (fun i H8 => Same H7 H8 ∧ H8 D = some (.lst (vI ((pcs.map List.length).take i)))) ⟨same_new nD, by rw [upd_same]; rfl⟩ (fun i H8 _ h => SqL.of (h.1 _ _ ep)) (fun i x H8 hx h => ?_) (fun H8 h => ?_)
    · obtain ⟨s8, eD⟩ := h
      have hi : i < pcs.length := by
        have := (List.getElem?_eq_some_iff.mp hx).1
        rw [vS_len] at this
        exact this
      rw [vS_get (List.getElem?_eq_getElem hi)] at hx
      cases hx
      have hx9 := hpw _ (List.getElem_mem hi)
      refine ⟨rfl, ?_⟩
      refine ⟨_, rfl, _, rfl, ?_, _, eD, ?_, same_put s8 nD, ?_⟩
      · rw [S_len]
        exact line_of (by omega)
      · rw [vI_len, List.length_take, List.length_map]
        exact line_lt (by omega)
      · rw [upd_same, vI_take _ i (pcs[i].length) (by rw [List.getElem?_map, List.getElem?_eq_getElem hi]; rfl), S_len]
    · obtain ⟨s8, eD⟩ := h
      rw [vS_len, show pcs.length = (pcs.map List.length).length by rw [List.length_map], List.take_length] at eD
      refine ⟨D, izs (pcs.map List.length), rfl, SqL.of eD, ?_, fun mm hmm hle => ?_⟩
      · rw [ints_len, List.length_map, ← hpc]
        exact List.length_pos_of_mem (pieces_mem.mpr (.inl rfl))
      · obtain ⟨most, hm2, rfl⟩ := List.mem_map.mp hmm
        obtain ⟨x, hx, rfl⟩ := List.mem_map.mp hm2
        refine ⟨x.length, rfl, s8 _ _ ep, fun y hy => ?_, x, hx, rfl⟩
        have := hle ((y.length : Nat) : Int) (List.mem_map.mpr ⟨_, List.mem_map.mpr ⟨y, hy, rfl⟩, rfl⟩)
        omega
  rintro σ8 H8 ⟨most, rfl, ep8, hmost, hex⟩
  -- the end
  refine ⟨_, rfl, _, rfl, w, v, rfl, hw, by omega, hv, by omega, fun H9 b s9 cp => ?_⟩
  refine ⟨_, rfl, p, rfl, ⟨_, SqL.of (s9 _ _ ep8)⟩, fun D nD => ?_⟩
  have fl : ∀ i (hi : i < pcs.length), (pcs.take (i + 1)).filter (fun x => decide (x.length = most)) = (pcs.take i).filter (fun x => decide (x.length = most)) ++ (if pcs[i].length = most then [pcs[i]] else []) := fun i hi => by
    rw [List.take_add_one, List.getElem?_eq_getElem hi, List.filter_append]
    congr 1
    by_cases e : pcs[i].length = most
    · rw [if_pos e]
      exact List.filter_cons_of_pos (by rw [decide_eq_true e])
    · rw [if_neg e]
      exact List.filter_cons_of_neg (by rw [decide_eq_false e]; exact Bool.false_ne_true)
  refine lc_list (xs := vS pcs) (fun i H10 => Same H9 H10 ∧ H10 D = some (.lst (vS ((pcs.take i).filter (fun x => decide (x.length = most)))))) ⟨same_new nD, by rw [upd_same]; rfl⟩ (fun i H10 _ h => SqL.of (h.1 _ _ (s9 _ _ ep8))) (fun i x H10 hx h => ?_) (fun H10 h => ?_)
  · obtain ⟨s10, eD⟩ := h
    have hi : i < pcs.length := by
      have := (List.getElem?_eq_some_iff.mp hx).1
      rw [vS_len] at this
      exact this
    rw [vS_get (List.getElem?_eq_getElem hi)] at hx
    cases hx
    have hx9 := hpw _ (List.getElem_mem hi)
    refine ⟨rfl, ?_⟩
    refine ⟨_, rfl, _, rfl, ?_, _, rfl, rfl, _, rfl, ite2 (fun c => ?_) (fun c => ?_)⟩
    · rw [S_len]
      exact line_of (by omega)
    · have e : pcs[i].length = most := by
        have z := V.int.inj (of_decide_eq_true c)
        rw [S_len] at z
        omega
      refine ⟨_, rfl, _, eD, ?_, same_put s10 nD, ?_⟩
      · rw [vS_len]
        have := List.length_filter_le (fun x : List Nat => decide (x.length = most)) (pcs.take i)
        rw [List.length_take] at this
        exact line_lt (by omega)
      · rw [upd_same, fl i hi, if_pos e, vS_app]
        rfl
    · have e : ¬ pcs[i].length = most := fun z => c (by
        refine decide_eq_true ?_
        rw [S_len, z])
      refine ⟨s10, ?_⟩
      rw [fl i hi, if_neg e, List.append_nil]
      exact eD
  · obtain ⟨s10, eD⟩ := h
    rw [vS_len, List.take_length] at eD
    obtain ⟨x0, hx0, hx1⟩ := hex
    refine ⟨D, _, rfl, SqL.of eD, ?_, fun ms hms hle => ?_⟩
    · rw [List.length_map]
      exact List.length_pos_of_mem (List.mem_filter.mpr ⟨hx0, decide_eq_true hx1⟩)
    · obtain ⟨c, hc, rfl⟩ := List.mem_map.mp hms
      obtain ⟨hc1, hc2⟩ := List.mem_filter.mp hc
      have hc3 : c.length = most := of_decide_eq_true hc2
      have cq : CP w v c := by
        refine pieces_cp (f := isIn w) (most := most) (isIn_iff w) ?_ ?_ hc3 ?_
        · rw [hpc]
          exact hmost
        · rw [hpc]
          exact hc1
        · rw [hpc]
          intro x hx hxl
          have := hle (S x) (List.mem_map.mpr ⟨x, List.mem_filter.mpr ⟨hx, decide_eq_true hxl⟩, rfl⟩)
          rw [S_codes, S_codes] at this
          exact this
      have eb := CP_unique cp cq
      subst eb
      exact ⟨_, _, rfl, Alk.str _, fun H' _ => q H'⟩
end
end Pm
/-! What the program's top has left, and the law. -/
namespace Pm
open PySem PySem.Spec PyProof.Rows L2
theorem all_mk {l : PySem.W.OpenLaw} {w : World} {K : PySem.W.Frag} {h : Heap} {mg : Str → Option Value} {fa f1 f2 f3 f4 f5 f6 f7 f8 f9 f10 f11 f12 f13 f14 f15 : Addr} {tL tM : Tok} (X : K.In h) (G : h.Ns mainGlobals mg) (hfa : mg "law" = some (.ref fa))
    {od1 an1 od2 an2 od3 an3 od4 an4 od5 an5 od6 an6 od7 an7 od8 an8 od9 an9 od10 an10 od11 an11 od12 an12 od13 an13 od14 an14 od15 an15 : Option Addr} {sl1 sl2 sl3 sl4 sl5 sl6 sl7 sl8 sl9 sl10 sl11 sl12 sl13 sl14 sl15 : Array (Option Value)} {oc1 kV1 dc1 pm1 cd1 ct1 oc2 kV2 dc2 pm2 cd2 ct2 oc3 kV3 dc3 pm3 cd3 ct3 oc4 kV4 dc4 pm4 cd4 ct4 oc5 kV5 dc5 pm5 cd5 ct5 oc6 kV6 dc6 pm6 cd6 ct6 oc7 kV7 dc7 pm7 cd7 ct7 oc8 kV8 dc8 pm8 cd8 ct8 oc9 kV9 dc9 pm9 cd9 ct9 oc10 kV10 dc10 pm10 cd10 ct10 oc11 kV11 dc11 pm11 cd11 ct11 oc12 kV12 dc12 pm12 cd12 ct12 oc13 kV13 dc13 pm13 cd13 ct13 oc14 kV14 dc14 pm14 cd14 ct14 oc15 kV15 dc15 pm15 cd15 ct15 : Value}
    (a1 : PySem.W.nsIn K mainGlobals "first_wrong" = some (some (.ref f1))) (l1 : K.lookup f1 = some ⟨oc1, od1, .func (PySem.W.fnOf "first_wrong" "first_wrong" (defArgs sFirst) (defBody sFirst) (defScope sFirst) .none kV1 dc1 pm1 an1 cd1 ct1), sl1⟩) (c1 : PySem.W.codeIn K cd1 "first_wrong" = true) (k1 : PySem.W.keepIn K (.ref f1) = true)
    (a2 : PySem.W.nsIn K mainGlobals "need_word" = some (some (.ref f2))) (l2 : K.lookup f2 = some ⟨oc2, od2, .func (PySem.W.fnOf "need_word" "need_word" (defArgs sNeed) (defBody sNeed) (defScope sNeed) .none kV2 dc2 pm2 an2 cd2 ct2), sl2⟩) (c2 : PySem.W.codeIn K cd2 "need_word" = true) (k2 : PySem.W.keepIn K (.ref f2) = true)
    (a3 : PySem.W.nsIn K mainGlobals "radii_of" = some (some (.ref f3))) (l3 : K.lookup f3 = some ⟨oc3, od3, .func (PySem.W.fnOf "radii_of" "radii_of" (defArgs sRadii) (defBody sRadii) (defScope sRadii) .none kV3 dc3 pm3 an3 cd3 ct3), sl3⟩) (c3 : PySem.W.codeIn K cd3 "radii_of" = true) (k3 : PySem.W.keepIn K (.ref f3) = true)
    (a4 : PySem.W.nsIn K mainGlobals "middles" = some (some (.ref f4))) (l4 : K.lookup f4 = some ⟨oc4, od4, .func (PySem.W.fnOf "middles" "middles" (defArgs sMiddles) (defBody sMiddles) (defScope sMiddles) .none kV4 dc4 pm4 an4 cd4 ct4), sl4⟩) (c4 : PySem.W.codeIn K cd4 "middles" = true) (k4 : PySem.W.keepIn K (.ref f4) = true)
    (a5 : PySem.W.nsIn K mainGlobals "count_mirrors" = some (some (.ref f5))) (l5 : K.lookup f5 = some ⟨oc5, od5, .func (PySem.W.fnOf "count_mirrors" "count_mirrors" (defArgs sCount) (defBody sCount) (defScope sCount) .none kV5 dc5 pm5 an5 cd5 ct5), sl5⟩) (c5 : PySem.W.codeIn K cd5 "count_mirrors" = true) (k5 : PySem.W.keepIn K (.ref f5) = true)
    (a6 : PySem.W.nsIn K mainGlobals "longest_mirror" = some (some (.ref f6))) (l6 : K.lookup f6 = some ⟨oc6, od6, .func (PySem.W.fnOf "longest_mirror" "longest_mirror" (defArgs sLongest) (defBody sLongest) (defScope sLongest) .none kV6 dc6 pm6 an6 cd6 ct6), sl6⟩) (c6 : PySem.W.codeIn K cd6 "longest_mirror" = true) (k6 : PySem.W.keepIn K (.ref f6) = true)
    (a7 : PySem.W.nsIn K mainGlobals "cuts" = some (some (.ref f7))) (l7 : K.lookup f7 = some ⟨oc7, od7, .func (PySem.W.fnOf "cuts" "cuts" (defArgs sCuts) (defBody sCuts) (defScope sCuts) .none kV7 dc7 pm7 an7 cd7 ct7), sl7⟩) (c7 : PySem.W.codeIn K cd7 "cuts" = true) (k7 : PySem.W.keepIn K (.ref f7) = true)
    (a8 : PySem.W.nsIn K mainGlobals "common_piece" = some (some (.ref f8))) (l8 : K.lookup f8 = some ⟨oc8, od8, .func (PySem.W.fnOf "common_piece" "common_piece" (defArgs sCommon) (defBody sCommon) (defScope sCommon) .none kV8 dc8 pm8 an8 cd8 ct8), sl8⟩) (c8 : PySem.W.codeIn K cd8 "common_piece" = true) (k8 : PySem.W.keepIn K (.ref f8) = true)
    (a9 : PySem.W.nsIn K mainGlobals "_law_taken" = some (some (.ref f9))) (l9 : K.lookup f9 = some ⟨oc9, od9, .func (PySem.W.fnOf "_law_taken" "_law_taken" (defArgs sTaken) (defBody sTaken) (defScope sTaken) .none kV9 dc9 pm9 an9 cd9 ct9), sl9⟩) (c9 : PySem.W.codeIn K cd9 "_law_taken" = true) (k9 : PySem.W.keepIn K (.ref f9) = true)
    (a10 : PySem.W.nsIn K mainGlobals "_law_alike" = some (some (.ref f10))) (l10 : K.lookup f10 = some ⟨oc10, od10, .func (PySem.W.fnOf "_law_alike" "_law_alike" (defArgs sAlike) (defBody sAlike) (defScope sAlike) .none kV10 dc10 pm10 an10 cd10 ct10), sl10⟩) (c10 : PySem.W.codeIn K cd10 "_law_alike" = true) (k10 : PySem.W.keepIn K (.ref f10) = true)
    (a11 : PySem.W.nsIn K mainGlobals "_law_plan" = some (some (.ref f11))) (l11 : K.lookup f11 = some ⟨oc11, od11, .func (PySem.W.fnOf "_law_plan" "_law_plan" (defArgs sPlan) (defBody sPlan) (defScope sPlan) .none kV11 dc11 pm11 an11 cd11 ct11), sl11⟩) (c11 : PySem.W.codeIn K cd11 "_law_plan" = true) (k11 : PySem.W.keepIn K (.ref f11) = true)
    (a12 : PySem.W.nsIn K mainGlobals "_law_word_of" = some (some (.ref f12))) (l12 : K.lookup f12 = some ⟨oc12, od12, .func (PySem.W.fnOf "_law_word_of" "_law_word_of" (defArgs sWord) (defBody sWord) (defScope sWord) .none kV12 dc12 pm12 an12 cd12 ct12), sl12⟩) (c12 : PySem.W.codeIn K cd12 "_law_word_of" = true) (k12 : PySem.W.keepIn K (.ref f12) = true)
    (a13 : PySem.W.nsIn K mainGlobals "_law_sizes" = some (some (.ref f13))) (l13 : K.lookup f13 = some ⟨oc13, od13, .func (PySem.W.fnOf "_law_sizes" "_law_sizes" (defArgs sSizes) (defBody sSizes) (defScope sSizes) .none kV13 dc13 pm13 an13 cd13 ct13), sl13⟩) (c13 : PySem.W.codeIn K cd13 "_law_sizes" = true) (k13 : PySem.W.keepIn K (.ref f13) = true)
    (a14 : PySem.W.nsIn K mainGlobals "_law_fast" = some (some (.ref f14))) (l14 : K.lookup f14 = some ⟨oc14, od14, .func (PySem.W.fnOf "_law_fast" "_law_fast" (defArgs sFast) (defBody sFast) (defScope sFast) .none kV14 dc14 pm14 an14 cd14 ct14), sl14⟩) (c14 : PySem.W.codeIn K cd14 "_law_fast" = true) (k14 : PySem.W.keepIn K (.ref f14) = true)
    (a15 : PySem.W.nsIn K mainGlobals "law" = some (some (.ref f15))) (l15 : K.lookup f15 = some ⟨oc15, od15, .func (PySem.W.fnOf "law" "law" (defArgs sLaw) (defBody sLaw) (defScope sLaw) .none kV15 dc15 pm15 an15 cd15 ct15), sl15⟩) (c15 : PySem.W.codeIn K cd15 "law" = true) (k15 : PySem.W.keepIn K (.ref f15) = true)
    (z1 : PySem.W.nsIn K mainGlobals "len" = some none) (z2 : PySem.W.nsIn K mainGlobals "range" = some none) (z3 : PySem.W.nsIn K mainGlobals "enumerate" = some none) (z4 : PySem.W.nsIn K mainGlobals "min" = some none) (z5 : PySem.W.nsIn K mainGlobals "max" = some none) (z6 : PySem.W.nsIn K mainGlobals "sum" = some none) (z7 : PySem.W.nsIn K mainGlobals "tuple" = some none) (z8 : PySem.W.nsIn K mainGlobals "list" = some none) (z9 : PySem.W.nsIn K mainGlobals "str" = some none) (z10 : PySem.W.nsIn K mainGlobals "int" = some none) (z11 : PySem.W.nsIn K mainGlobals "bool" = some none) (z12 : PySem.W.nsIn K mainGlobals "isinstance" = some none)
    (y1 : PySem.W.nsIn K mainGlobals "LETTERS" = some (some (.str "abcde" tL))) (y2 : PySem.W.nsIn K mainGlobals "MOST_WORD" = some (some (.int 2000 tM))) :
    ∃ fd : FuncData, (∀ (s : Shared) (v : Value), BindsTo s fd ⟨[v], []⟩ [("_law_script", v)]) ∧ ∀ base : Heap, K.In base → base.Ns mainGlobals mg → FnOk l.prog w K mg base CX0 4 fa fd ["_law_script"] (spLaw K) := by
  have e := hfa.symm.trans (PySem.W.mg_of X G a15)
  cases e
  have F1 := fun_mk (st := sFirst) l1 c1 k1
  have F2 := fun_mk (st := sNeed) l2 c2 k2
  have F3 := fun_mk (st := sRadii) l3 c3 k3
  have F4 := fun_mk (st := sMiddles) l4 c4 k4
  have F5 := fun_mk (st := sCount) l5 c5 k5
  have F6 := fun_mk (st := sLongest) l6 c6 k6
  have F7 := fun_mk (st := sCuts) l7 c7 k7
  have F8 := fun_mk (st := sCommon) l8 c8 k8
  have F9 := fun_mk (st := sTaken) l9 c9 k9
  have F10 := fun_mk (st := sAlike) l10 c10 k10
  have F11 := fun_mk (st := sPlan) l11 c11 k11
  have F12 := fun_mk (st := sWord) l12 c12 k12
  have F13 := fun_mk (st := sSizes) l13 c13 k13
  have F14 := fun_mk (st := sFast) l14 c14 k14
  have F15 := fun_mk (st := sLaw) l15 c15 k15
  have b1 := F1.binds (ps := ["value"]) fun _ _ _ _ _ _ us hl => match us, hl with | [_], _ => rfl
  have b2 := F2.binds (ps := ["value"]) fun _ _ _ _ _ _ us hl => match us, hl with | [_], _ => rfl
  have b3 := F3.binds (ps := ["word"]) fun _ _ _ _ _ _ us hl => match us, hl with | [_], _ => rfl
  have b4 := F4.binds (ps := ["word"]) fun _ _ _ _ _ _ us hl => match us, hl with | [_], _ => rfl
  have b5 := F5.binds (ps := ["word"]) fun _ _ _ _ _ _ us hl => match us, hl with | [_], _ => rfl
  have b6 := F6.binds (ps := ["word"]) fun _ _ _ _ _ _ us hl => match us, hl with | [_], _ => rfl
  have b7 := F7.binds (ps := ["word"]) fun _ _ _ _ _ _ us hl => match us, hl with | [_], _ => rfl
  have b8 := F8.binds (ps := ["one", "other"]) fun _ _ _ _ _ _ us hl => match us, hl with | [_, _], _ => rfl
  have b9 := F9.binds (ps := ["_law_row", "_law_many"]) fun _ _ _ _ _ _ us hl => match us, hl with | [_, _], _ => rfl
  have b10 := F10.binds (ps := ["_law_found", "_law_due"]) fun _ _ _ _ _ _ us hl => match us, hl with | [_, _], _ => rfl
  have b11 := F11.binds (ps := ["_law_row", "_law_most", "_law_many"]) fun _ _ _ _ _ _ us hl => match us, hl with | [_, _, _], _ => rfl
  have b12 := F12.binds (ps := ["_law_row", "_law_most", "_law_many"]) fun _ _ _ _ _ _ us hl => match us, hl with | [_, _, _], _ => rfl
  have b13 := F13.binds (ps := ["_law_plan_here"]) fun _ _ _ _ _ _ us hl => match us, hl with | [_], _ => rfl
  have b14 := F14.binds (ps := ["_law_plan_here"]) fun _ _ _ _ _ _ us hl => match us, hl with | [_], _ => rfl
  have g : Gls mg := ⟨PySem.W.mg_none_of X G z1, PySem.W.mg_none_of X G z2, PySem.W.mg_none_of X G z3, PySem.W.mg_none_of X G z4, PySem.W.mg_none_of X G z5, PySem.W.mg_none_of X G z6, PySem.W.mg_none_of X G z7, PySem.W.mg_none_of X G z8, PySem.W.mg_none_of X G z9, PySem.W.mg_none_of X G z10, PySem.W.mg_none_of X G z11, PySem.W.mg_none_of X G z12, ⟨_, PySem.W.mg_of X G y1⟩, ⟨_, PySem.W.mg_of X G y2⟩⟩
  refine ⟨PySem.W.fnOf "law" "law" (defArgs sLaw) (defBody sLaw) (defScope sLaw) .none kV15 dc15 pm15 an15 cd15 ct15, fun s v => .of_eq rfl, fun base _ _ => ?_⟩
  have G1 : FnOk l.prog w K mg base CX0 (0 + 1) f1 _ ["value"] spNone := ok_first F1 g
  have N := Cl.mk (P := l.prog) (w := w) (base := base) (ok_need F2 g G1 k1 b1 (PySem.W.mg_of X G a1)) k2 b2 (PySem.W.mg_of X G a2)
  have R := Cl.mk (P := l.prog) (w := w) (base := base) (ok_radii (k := 1) F3 g) k3 b3 (PySem.W.mg_of X G a3)
  have M := Cl.mk (P := l.prog) (w := w) (base := base) (ok_middles F4 g N R) k4 b4 (PySem.W.mg_of X G a4)
  have C := Cl.mk (P := l.prog) (w := w) (base := base) (ok_count F5 g N R) k5 b5 (PySem.W.mg_of X G a5)
  have L := Cl.mk (P := l.prog) (w := w) (base := base) (ok_longest F6 g N R) k6 b6 (PySem.W.mg_of X G a6)
  have U := Cl.mk (P := l.prog) (w := w) (base := base) (ok_cuts F7 g N R) k7 b7 (PySem.W.mg_of X G a7)
  have Cp := Cl.mk (P := l.prog) (w := w) (base := base) (ok_common F8 g N) k8 b8 (PySem.W.mg_of X G a8)
  have T := Cl.mk (P := l.prog) (w := w) (base := base) (ok_taken (k := 0) F9 g) k9 b9 (PySem.W.mg_of X G a9)
  have A := Cl.mk (P := l.prog) (w := w) (base := base) (ok_alikes F10 g b10 (PySem.W.mg_of X G a10) 3) k10 b10 (PySem.W.mg_of X G a10)
  have Pl := Cl.mk (P := l.prog) (w := w) (base := base) (ok_plan F11 g T) k11 b11 (PySem.W.mg_of X G a11)
  have W := Cl.mk (P := l.prog) (w := w) (base := base) (ok_word F12 g T) k12 b12 (PySem.W.mg_of X G a12)
  have Z := Cl.mk (P := l.prog) (w := w) (base := base) (ok_sizes F13 g) k13 b13 (PySem.W.mg_of X G a13)
  have Fa := Cl.mk (P := l.prog) (w := w) (base := base) (ok_fast F14 g Z) k14 b14 (PySem.W.mg_of X G a14)
  exact ok_law F15 g T W Pl Fa M C L U Cp A
end Pm
open PySem PySem.W PyProof.Rows
set_option maxHeartbeats 0 in
theorem PySem.Challenge.cw_palbuilds_k67_whole_middles_holds : PySem.Challenge.rw_palbuilds_k67_whole_middles.Holds := by
  w_on; o_law; k_head; (case hw => w_witness2)
  k_fill
  refine L2.walk_of (l := PySem.Challenge.rw_palbuilds_k67_whole_middles) (n := 63) (k := 4) (x := "_law_script") (CX := fun _ => L2.CX0) (sp := fun w => Pm.spLaw _) rfl (by decide) rfl ⟨rfl, by decide, by decide⟩ (fun w h Y => PySem.W.kIn_of Y) ?F (fun _ _ a ns hl _ hS => ⟨a, ns, rfl, hS, hl, fun _ => rfl⟩) (fun _ _ _ _ _ h => h)
  case F =>
    intro w mg fa h KX G hmg
    refine' Pm.all_mk KX G hmg ?a1 ?l1 ?c1 ?k1 ?a2 ?l2 ?c2 ?k2 ?a3 ?l3 ?c3 ?k3 ?a4 ?l4 ?c4 ?k4 ?a5 ?l5 ?c5 ?k5 ?a6 ?l6 ?c6 ?k6 ?a7 ?l7 ?c7 ?k7 ?a8 ?l8 ?c8 ?k8 ?a9 ?l9 ?c9 ?k9 ?a10 ?l10 ?c10 ?k10 ?a11 ?l11 ?c11 ?k11 ?a12 ?l12 ?c12 ?k12 ?a13 ?l13 ?c13 ?k13 ?a14 ?l14 ?c14 ?k14 ?a15 ?l15 ?c15 ?k15 ?z1 ?z2 ?z3 ?z4 ?z5 ?z6 ?z7 ?z8 ?z9 ?z10 ?z11 ?z12 ?y1 ?y2
    (case a1 => k_is); (case l1 => k_is); (case c1 => k_is); (case k1 => k_is)
    (case a2 => k_is); (case l2 => k_is); (case c2 => k_is); (case k2 => k_is)
    (case a3 => k_is); (case l3 => k_is); (case c3 => k_is); (case k3 => k_is)
    (case a4 => k_is); (case l4 => k_is); (case c4 => k_is); (case k4 => k_is)
    (case a5 => k_is); (case l5 => k_is); (case c5 => k_is); (case k5 => k_is)
    (case a6 => k_is); (case l6 => k_is); (case c6 => k_is); (case k6 => k_is)
    (case a7 => k_is); (case l7 => k_is); (case c7 => k_is); (case k7 => k_is)
    (case a8 => k_is); (case l8 => k_is); (case c8 => k_is); (case k8 => k_is)
    (case a9 => k_is); (case l9 => k_is); (case c9 => k_is); (case k9 => k_is)
    (case a10 => k_is); (case l10 => k_is); (case c10 => k_is); (case k10 => k_is)
    (case a11 => k_is); (case l11 => k_is); (case c11 => k_is); (case k11 => k_is)
    (case a12 => k_is); (case l12 => k_is); (case c12 => k_is); (case k12 => k_is)
    (case a13 => k_is); (case l13 => k_is); (case c13 => k_is); (case k13 => k_is)
    (case a14 => k_is); (case l14 => k_is); (case c14 => k_is); (case k14 => k_is)
    (case a15 => k_is); (case l15 => k_is); (case c15 => k_is); (case k15 => k_is)
    (case z1 => k_is); (case z2 => k_is); (case z3 => k_is); (case z4 => k_is)
    (case z5 => k_is); (case z6 => k_is); (case z7 => k_is); (case z8 => k_is)
    (case z9 => k_is); (case z10 => k_is); (case z11 => k_is); (case z12 => k_is)
    (case y1 => k_is); (case y2 => k_is)
