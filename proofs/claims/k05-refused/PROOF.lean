import PyProof.Rows.All
import Wide.All
import OpenK.AllK
import Wide.FinOn
import HandS.ForMost
import HandS.ForExc
import HandS.Evl
import HandS.Codes
import HandS.IsInst
import HandS.Flow
import HandS.Style
import HandS.SortRule
import HandS.SortKw
import HandS.TupSets
import HandS.Deep
import HandS.Wide
import HandS.WideBits
import HandS.Conv
import HandS.EndBits
import HandS.DictTup
import HandS.CallLocal
import HandS.ExcIs
import KE.SortKeyHeap
import HandS.Lambda
import HandS.EndTab
import HandS.Walk
import HandS.More
import PyProof.NeKinds
import HandS.HotCalls
import HandS.ExcBuiltin
import PySem.Challenge.RW_friezerow_k05_refused
set_option linter.unusedVariables false
set_option Elab.async false
set_option maxRecDepth 100000
set_option maxHeartbeats 4000000
/-! Trees of triangles: a polygon with corners 0 .. sz t, the edge from 0 to sz t below, cut into triangles. -/
namespace Fz
inductive Tr where
  | lf
  | nd (l r : Tr)

namespace Tr
/-- how many sides, without the one below -/
def sz : Tr → Nat
  | lf => 1
  | nd l r => sz l + sz r
/-- how many triangles at a corner -/
def cnt : Tr → Nat → Int
  | lf, _ => 0
  | nd l r, i => (if i ≤ sz l then cnt l i else 0) + (if sz l ≤ i then cnt r (i - sz l) else 0) + (if i = 0 ∨ i = sz l ∨ i = sz l + sz r then 1 else 0)
/-- the lower edges of all triangles -/
def edges : Tr → Nat → List (Nat × Nat)
  | lf, _ => []
  | nd l r, o => (o, o + sz l + sz r) :: (edges l o ++ edges r (o + sz l))
def isNd : Tr → Bool
  | lf => false
  | nd _ _ => true
/-- a new corner on the side i .. i + 1 -/
def ins : Tr → Nat → Tr
  | lf, _ => nd lf lf
  | nd l r, i => if i < sz l then nd (ins l i) r else nd l (ins r (i - sz l))

theorem sz_pos : ∀ t : Tr, 1 ≤ sz t
  | lf => Nat.le_refl 1
  | nd l r => by
    have h1 := sz_pos l
    show 1 ≤ sz l + sz r
    omega
theorem sz_nd (l r : Tr) : sz (nd l r) = sz l + sz r := rfl
theorem cnt_nd (l r : Tr) (i : Nat) : cnt (nd l r) i = (if i ≤ sz l then cnt l i else 0) + (if sz l ≤ i then cnt r (i - sz l) else 0) + (if i = 0 ∨ i = sz l ∨ i = sz l + sz r then 1 else 0) := rfl
theorem sz_one {t : Tr} (h : sz t = 1) : t = lf := by
  cases t with
  | lf => rfl
  | nd l r =>
    have h1 := sz_pos l
    have h2 := sz_pos r
    rw [sz_nd] at h
    omega
theorem sz_ins : ∀ (t : Tr) (i : Nat), sz (ins t i) = sz t + 1
  | lf, _ => rfl
  | nd l r, i => by
    unfold ins
    split
    · rw [sz_nd, sz_nd, sz_ins l i]
      omega
    · rw [sz_nd, sz_nd, sz_ins r (i - sz l)]
      omega
theorem cnt_nonneg : ∀ (t : Tr) (i : Nat), 0 ≤ cnt t i
  | lf, _ => Int.le_refl 0
  | nd l r, i => by
    have h1 := cnt_nonneg l i
    have h2 := cnt_nonneg r (i - sz l)
    rw [cnt_nd]
    split <;> split <;> split <;> omega
theorem cnt_zero (l r : Tr) : cnt (nd l r) 0 = cnt l 0 + 1 := by
  have h1 := sz_pos l
  rw [cnt_nd]
  rw [if_pos (by omega), if_neg (by omega), if_pos (Or.inl rfl)]
  omega
theorem cnt_top (l r : Tr) : cnt (nd l r) (sz l + sz r) = cnt r (sz r) + 1 := by
  have h1 := sz_pos r
  have e : sz l + sz r - sz l = sz r := by omega
  rw [cnt_nd]
  rw [if_neg (by omega), if_pos (by omega), if_pos (Or.inr (Or.inr rfl)), e]
  omega
theorem cnt_mid (l r : Tr) : cnt (nd l r) (sz l) = cnt l (sz l) + cnt r 0 + 1 := by
  have e : sz l - sz l = 0 := by omega
  rw [cnt_nd]
  rw [if_pos (Nat.le_refl _), if_pos (Nat.le_refl _), if_pos (Or.inr (Or.inl rfl)), e]
theorem cnt_l (l r : Tr) {i : Nat} (h0 : 0 < i) (h : i < sz l) : cnt (nd l r) i = cnt l i := by
  rw [cnt_nd]
  rw [if_pos (by omega), if_neg (by omega), if_neg (by omega)]
  omega
theorem cnt_r (l r : Tr) {i : Nat} (h0 : sz l < i) (h : i < sz l + sz r) : cnt (nd l r) i = cnt r (i - sz l) := by
  have h1 := sz_pos l
  rw [cnt_nd]
  rw [if_neg (by omega), if_pos (by omega), if_neg (by omega)]
  omega
theorem cnt_pos {t : Tr} (h2 : 2 ≤ sz t) : ∀ {i : Nat}, i ≤ sz t → 1 ≤ cnt t i := by
  induction t with
  | lf => exact absurd h2 (by decide)
  | nd l r il ir =>
    intro i hi
    rw [sz_nd] at hi
    have p1 := sz_pos l
    have p2 := sz_pos r
    rcases Nat.lt_trichotomy i (sz l) with h | h | h
    · by_cases h0 : i = 0
      · subst h0
        rw [cnt_zero]
        have := cnt_nonneg l 0
        omega
      · rw [cnt_l l r (by omega) h]
        exact il (by omega) (by omega)
    · subst h
      rw [cnt_mid]
      have := cnt_nonneg l (sz l)
      have := cnt_nonneg r 0
      omega
    · by_cases h3 : i = sz l + sz r
      · subst h3
        rw [cnt_top]
        have := cnt_nonneg r (sz r)
        omega
      · rw [cnt_r l r h (by omega)]
        exact ir (by omega) (by omega)
theorem cnt_zero_lf {t : Tr} {i : Nat} (hi : i ≤ sz t) (h : cnt t i = 0) : t = lf := by
  cases t with
  | lf => rfl
  | nd l r =>
    have p1 := sz_pos l
    have p2 := sz_pos r
    have := cnt_pos (t := nd l r) (by rw [sz_nd]; omega) hi
    omega
/-- an ear within -/
theorem ear_in : ∀ (t : Tr) {i : Nat}, 0 < i → i < sz t → cnt t i = 1 → ∃ t' : Tr, t = ins t' (i - 1) ∧ sz t' + 1 = sz t
  | lf, i, h0, h1, _ => by
    have : i < 1 := h1
    omega
  | nd l r, i, h0, h1, h => by
    rw [sz_nd] at h1
    have p1 := sz_pos l
    have p2 := sz_pos r
    rcases Nat.lt_trichotomy i (sz l) with hc | hc | hc
    · rw [cnt_l l r h0 hc] at h
      obtain ⟨l', e1, e2⟩ := ear_in l h0 hc h
      refine ⟨nd l' r, ?_, ?_⟩
      · unfold ins
        rw [if_pos (by omega), ← e1]
      · rw [sz_nd, sz_nd]
        omega
    · subst hc
      rw [cnt_mid] at h
      have q1 := cnt_nonneg l (sz l)
      have q2 := cnt_nonneg r 0
      have e1 : l = lf := cnt_zero_lf (i := sz l) (Nat.le_refl _) (by omega)
      have e2 : r = lf := cnt_zero_lf (i := 0) (by omega) (by omega)
      subst e1
      subst e2
      exact ⟨lf, rfl, rfl⟩
    · rw [cnt_r l r hc h1] at h
      obtain ⟨r', e1, e2⟩ := ear_in r (by omega) (by omega) h
      refine ⟨nd l r', ?_, ?_⟩
      · unfold ins
        rw [if_neg (by omega)]
        have e : i - 1 - sz l = i - sz l - 1 := by omega
        rw [e, ← e1]
      · rw [sz_nd, sz_nd]
        omega
/-- there is an ear -/
theorem has_ear : ∀ (t : Tr), 2 ≤ sz t → ∃ i, 0 < i ∧ i < sz t ∧ cnt t i = 1
  | lf, h => absurd h (by decide)
  | nd l r, h => by
    have p1 := sz_pos l
    have p2 := sz_pos r
    rw [sz_nd]
    by_cases hl : 2 ≤ sz l
    · obtain ⟨i, a, b, c⟩ := has_ear l hl
      exact ⟨i, a, by omega, by rw [cnt_l l r a b]; exact c⟩
    · by_cases hr : 2 ≤ sz r
      · obtain ⟨i, a, b, c⟩ := has_ear r hr
        refine ⟨sz l + i, by omega, by omega, ?_⟩
        rw [cnt_r l r (by omega) (by omega)]
        have e : sz l + i - sz l = i := by omega
        rw [e]
        exact c
      · have e1 : l = lf := sz_one (by omega)
        have e2 : r = lf := sz_one (by omega)
        subst e1
        subst e2
        exact ⟨1, by decide, by decide, by decide⟩
/-- the corners' numbers behind a new corner -/
theorem cnt_ins : ∀ (t : Tr) {i : Nat}, i < sz t → ∀ (j : Nat), j ≤ sz t + 1 →
    cnt (ins t i) j = if j ≤ i then cnt t j + (if j = i then 1 else 0) else if j = i + 1 then 1 else cnt t (j - 1) + (if j = i + 2 then 1 else 0)
  | lf, i, hi, j, hj => by
    have hi0 : i = 0 := by
      have : i < 1 := hi
      omega
    subst hi0
    have hj' : j ≤ 2 := hj
    match j, hj' with
    | 0, _ => decide
    | 1, _ => decide
    | 2, _ => decide
  | nd l r, i, hi, j, hj => by
    rw [sz_nd] at hi hj
    have p1 := sz_pos l
    have p2 := sz_pos r
    by_cases hc : i < sz l
    · have e : ins (nd l r) i = nd (ins l i) r := by
        show (if i < sz l then nd (ins l i) r else nd l (ins r (i - sz l))) = _
        rw [if_pos hc]
      rw [e]
      have ih := fun k hk => cnt_ins l hc k hk
      have es := sz_ins l i
      rw [cnt_nd, cnt_nd, cnt_nd]
      rw [es]
      by_cases h1 : j ≤ i
      · rw [if_pos (by omega), if_neg (by omega), ih j (by omega), if_pos h1, if_pos h1, if_pos (show j ≤ sz l by omega), if_neg (show ¬ sz l ≤ j by omega)]
        have eq : (j = 0 ∨ j = sz l + 1 ∨ j = sz l + 1 + sz r) ↔ (j = 0 ∨ j = sz l ∨ j = sz l + sz r) := by omega
        simp only [eq]
        split <;> split <;> omega
      · rw [if_neg h1]
        by_cases h2 : j = i + 1
        · subst h2
          rw [if_pos rfl, if_pos (by omega), if_neg (by omega), ih _ (by omega), if_neg (by omega), if_pos rfl, if_neg (by omega)]
          omega
        · rw [if_neg h2]
          have eq : (j = 0 ∨ j = sz l + 1 ∨ j = sz l + 1 + sz r) ↔ (j - 1 = 0 ∨ j - 1 = sz l ∨ j - 1 = sz l + sz r) := by omega
          simp only [eq]
          have e2 : j - (sz l + 1) = j - 1 - sz l := by omega
          rw [e2]
          by_cases h3 : j ≤ sz l + 1
          · rw [if_pos h3, ih j h3, if_neg h1, if_neg h2, if_pos (show j - 1 ≤ sz l by omega)]
            by_cases h4 : sz l + 1 ≤ j
            · rw [if_pos h4, if_pos (show sz l ≤ j - 1 by omega)]
              split <;> split <;> omega
            · rw [if_neg h4, if_neg (show ¬ sz l ≤ j - 1 by omega)]
              split <;> split <;> omega
          · rw [if_neg h3, if_pos (by omega), if_neg (show ¬ j - 1 ≤ sz l by omega), if_pos (show sz l ≤ j - 1 by omega), if_neg (show ¬ j = i + 2 by omega)]
            omega
    · have e : ins (nd l r) i = nd l (ins r (i - sz l)) := by
        show (if i < sz l then nd (ins l i) r else nd l (ins r (i - sz l))) = _
        rw [if_neg hc]
      rw [e]
      have ih := fun k hk => cnt_ins r (i := i - sz l) (by omega) k hk
      have es := sz_ins r (i - sz l)
      rw [cnt_nd, cnt_nd, cnt_nd]
      rw [es]
      by_cases h1 : j ≤ i
      · rw [if_pos h1]
        have eq : (j = 0 ∨ j = sz l ∨ j = sz l + (sz r + 1)) ↔ (j = 0 ∨ j = sz l ∨ j = sz l + sz r) := by omega
        simp only [eq]
        by_cases h4 : sz l ≤ j
        · rw [if_pos h4, if_pos h4, ih (j - sz l) (by omega), if_pos (show j - sz l ≤ i - sz l by omega)]
          have e3 : (j - sz l = i - sz l) ↔ j = i := by omega
          simp only [e3]
          split <;> split <;> split <;> omega
        · rw [if_neg h4, if_neg h4, if_neg (show ¬ j = i by omega)]
          split <;> split <;> omega
      · rw [if_neg h1]
        by_cases h2 : j = i + 1
        · subst h2
          rw [if_pos rfl, if_neg (by omega), if_pos (by omega), ih _ (by omega), if_neg (by omega), if_pos (by omega), if_neg (by omega)]
          omega
        · rw [if_neg h2]
          have eq : (j = 0 ∨ j = sz l ∨ j = sz l + (sz r + 1)) ↔ (j - 1 = 0 ∨ j - 1 = sz l ∨ j - 1 = sz l + sz r) := by omega
          simp only [eq]
          rw [if_neg (show ¬ j ≤ sz l by omega), if_pos (show sz l ≤ j by omega), ih (j - sz l) (by omega), if_neg (by omega), if_neg (by omega), if_neg (show ¬ j - 1 ≤ sz l by omega), if_pos (show sz l ≤ j - 1 by omega)]
          have e2 : j - sz l - 1 = j - 1 - sz l := by omega
          have e3 : (j - sz l = i - sz l + 2) ↔ j = i + 2 := by omega
          rw [e2]
          simp only [e3]
          split <;> split <;> omega
end Tr
end Fz

/-! Ears cut off one behind another. -/
namespace Fz
open Tr
namespace Tr
/-- the cuts: all lower edges but the whole polygon's -/
def cuts : Tr → List (Nat × Nat)
  | lf => []
  | nd l r => edges l 0 ++ edges r (sz l)
theorem edges_nd (l r : Tr) (o : Nat) : edges (nd l r) o = (o, o + sz l + sz r) :: (edges l o ++ edges r (o + sz l)) := rfl
theorem edges_cuts (l r : Tr) : edges (nd l r) 0 = (0, sz l + sz r) :: cuts (nd l r) := by
  rw [edges_nd]
  show _ = (0, sz l + sz r) :: (edges l 0 ++ edges r (sz l))
  rw [Nat.zero_add]
theorem edges_off : ∀ (t : Tr) (o k : Nat), edges t (o + k) = (edges t o).map fun p => (p.1 + k, p.2 + k)
  | lf, _, _ => rfl
  | nd l r, o, k => by
    rw [edges_nd, edges_nd, List.map_cons, List.map_append, ← edges_off l o k, ← edges_off r (o + sz l) k]
    have e1 : o + k + sz l + sz r = o + sz l + sz r + k := by omega
    have e2 : o + k + sz l = o + sz l + k := by omega
    rw [e1, e2]
theorem edges_in : ∀ (t : Tr) (o : Nat) {p : Nat × Nat}, p ∈ edges t o → o ≤ p.1 ∧ p.1 + 2 ≤ p.2 ∧ p.2 ≤ o + sz t
  | lf, _, _, h => nomatch h
  | nd l r, o, p, h => by
    rw [edges_nd] at h
    have p1 := sz_pos l
    have p2 := sz_pos r
    rw [sz_nd]
    rcases List.mem_cons.mp h with rfl | h
    · refine ⟨Nat.le_refl _, ?_, ?_⟩
      · show o + 2 ≤ o + sz l + sz r
        omega
      · show o + sz l + sz r ≤ _
        omega
    · rcases List.mem_append.mp h with h | h
      · have := edges_in l o h
        omega
      · have := edges_in r (o + sz l) h
        omega
theorem edges_len : ∀ (t : Tr) (o : Nat), (edges t o).length + 1 = sz t
  | lf, _ => rfl
  | nd l r, o => by
    have a := edges_len l o
    have b := edges_len r (o + sz l)
    rw [edges_nd, List.length_cons, List.length_append, sz_nd]
    omega
/-- places behind a new one -/
def sh (i p : Nat) : Nat := if p < i then p else p + 1
theorem sh_lt {i p : Nat} (h : p < i) : sh i p = p := if_pos h
theorem sh_ge {i p : Nat} (h : i ≤ p) : sh i p = p + 1 := if_neg (by omega)
def sh2 (i : Nat) (p : Nat × Nat) : Nat × Nat := (sh i p.1, sh i p.2)
theorem map_sh_lo {i : Nat} {l : List (Nat × Nat)} (h : ∀ p ∈ l, p.1 < i ∧ p.2 < i) : l.map (sh2 i) = l := by
  conv => rhs; rw [← List.map_id l]
  refine List.map_congr_left fun p hp => ?_
  obtain ⟨h1, h2⟩ := h p hp
  unfold sh2
  rw [sh_lt h1, sh_lt h2]
  rfl
theorem map_sh_hi {i : Nat} {l : List (Nat × Nat)} (h : ∀ p ∈ l, i ≤ p.1 ∧ i ≤ p.2) : l.map (sh2 i) = l.map fun p => (p.1 + 1, p.2 + 1) := by
  refine List.map_congr_left fun p hp => ?_
  obtain ⟨h1, h2⟩ := h p hp
  unfold sh2
  rw [sh_ge h1, sh_ge h2]
theorem edges_ins : ∀ (t : Tr) {i : Nat} (o : Nat), i < sz t → (edges (ins t i) o).Perm ((o + i, o + i + 2) :: (edges t o).map (sh2 (o + i + 1)))
  | lf, i, o, h => by
    have h0 : i = 0 := by
      have : i < 1 := h
      omega
    subst h0
    exact List.Perm.refl _
  | nd l r, i, o, h => by
    rw [sz_nd] at h
    have p1 := sz_pos l
    have p2 := sz_pos r
    by_cases hc : i < sz l
    · have e : ins (nd l r) i = nd (ins l i) r := by
        show (if i < sz l then nd (ins l i) r else nd l (ins r (i - sz l))) = _
        rw [if_pos hc]
      rw [e, edges_nd, edges_nd, List.map_cons, List.map_append, sz_ins]
      have er : edges r (o + (sz l + 1)) = (edges r (o + sz l)).map (sh2 (o + i + 1)) := by
        have e2 : o + (sz l + 1) = o + sz l + 1 := by omega
        rw [e2, edges_off r (o + sz l) 1, map_sh_hi]
        intro p hp
        have := edges_in r _ hp
        omega
      have eroot : sh2 (o + i + 1) (o, o + sz l + sz r) = (o, o + (sz l + 1) + sz r) := by
        unfold sh2
        rw [sh_lt (show o < o + i + 1 by omega), sh_ge (show o + i + 1 ≤ o + sz l + sz r by omega)]
        have e3 : o + sz l + sz r + 1 = o + (sz l + 1) + sz r := by omega
        rw [e3]
      rw [er, eroot]
      refine (List.Perm.cons _ ((edges_ins l o hc).append_right _)).trans ?_
      exact List.Perm.swap _ _ _
    · have e : ins (nd l r) i = nd l (ins r (i - sz l)) := by
        show (if i < sz l then nd (ins l i) r else nd l (ins r (i - sz l))) = _
        rw [if_neg hc]
      rw [e, edges_nd, edges_nd, List.map_cons, List.map_append, sz_ins]
      have el : (edges l o).map (sh2 (o + i + 1)) = edges l o := map_sh_lo fun p hp => by
        have := edges_in l _ hp
        omega
      have eroot : sh2 (o + i + 1) (o, o + sz l + sz r) = (o, o + sz l + (sz r + 1)) := by
        unfold sh2
        rw [sh_lt (show o < o + i + 1 by omega), sh_ge (show o + i + 1 ≤ o + sz l + sz r by omega)]
        have e3 : o + sz l + sz r + 1 = o + sz l + (sz r + 1) := by omega
        rw [e3]
      rw [el, eroot]
      have e4 : o + sz l + (i - sz l) = o + i := by omega
      have ih := edges_ins r (i := i - sz l) (o + sz l) (by omega)
      rw [e4] at ih
      refine (List.Perm.cons _ ((ih.append_left _).trans List.perm_middle)).trans ?_
      exact List.Perm.swap _ _ _

/-- a new corner at the place i -/
def insA (t : Tr) (i : Nat) : Tr := if i = 0 then nd lf t else if i = sz t + 1 then nd t lf else ins t (i - 1)
theorem sz_insA (t : Tr) (i : Nat) : sz (insA t i) = sz t + 1 := by
  unfold insA
  split
  · rw [sz_nd]
    show 1 + sz t = _
    omega
  · split
    · rfl
    · rw [sz_ins]
def prv (n i : Nat) : Nat := if i = 0 then n - 1 else i - 1
def nxt (n i : Nat) : Nat := if i + 1 = n then 0 else i + 1
theorem ite_c {c : Prop} [Decidable c] (h : c) {a b : Int} : (if c then a else b) = a := if_pos h
theorem ite_n {c : Prop} [Decidable c] (h : ¬ c) {a b : Int} : (if c then a else b) = b := if_neg h
theorem cnt_insA_at {t : Tr} {i : Nat} (hi : i ≤ sz t + 1) (h2 : 2 ≤ sz t) : cnt (insA t i) i = 1 := by
  unfold insA
  by_cases h0 : i = 0
  · subst h0
    rw [if_pos rfl, cnt_zero]
    rfl
  · rw [if_neg h0]
    by_cases h1 : i = sz t + 1
    · subst h1
      rw [if_pos rfl]
      have e := cnt_top t lf
      exact e
    · rw [if_neg h1, cnt_ins t (by omega) i hi, ite_n (by omega), ite_c (by omega)]
theorem cnt_insA_ne {t : Tr} {i : Nat} (hi : i ≤ sz t + 1) {j : Nat} (hj : j ≤ sz t + 1) (h2 : 2 ≤ sz t) (hne : j ≠ i) :
    cnt (insA t i) j = cnt t (if j < i then j else j - 1) + (if j = prv (sz t + 2) i ∨ j = nxt (sz t + 2) i then 1 else 0) := by
  have e1 : sz lf = 1 := rfl
  have z : ∀ k, cnt lf k = 0 := fun _ => rfl
  have ep : (j = prv (sz t + 2) i ∨ j = nxt (sz t + 2) i) ↔ (if i = 0 then j = sz t + 1 ∨ j = 1 else if i = sz t + 1 then j = sz t ∨ j = 0 else j = i - 1 ∨ j = i + 1) := by
    unfold prv nxt
    repeat' split
    all_goals omega
  simp only [ep]
  unfold insA
  by_cases h0 : i = 0
  · subst h0
    have ej : (if j < 0 then j else j - 1) = j - 1 := if_neg (Nat.not_lt_zero j)
    simp only [ej, if_true]
    rw [cnt_nd, e1, z]
    have eq : (j = 0 ∨ j = 1 ∨ j = 1 + sz t) ↔ (j = sz t + 1 ∨ j = 1) := by omega
    simp only [eq]
    rw [ite_c (show 1 ≤ j by omega)]
    split <;> split <;> omega
  · by_cases h1 : i = sz t + 1
    · subst h1
      have ej : (if j < sz t + 1 then j else j - 1) = j := if_pos (by omega)
      simp only [ej, if_true, h0, if_false]
      rw [cnt_nd, e1, z]
      have eq : (j = 0 ∨ j = sz t ∨ j = sz t + 1) ↔ (j = sz t ∨ j = 0) := by omega
      simp only [eq]
      rw [ite_c (show j ≤ sz t by omega)]
      split <;> split <;> omega
    · simp only [h0, h1, if_false]
      rw [cnt_ins t (by omega) j hj]
      by_cases c2 : j < i
      · have ej : (if j < i then j else j - 1) = j := if_pos c2
        have eq : (j = i - 1 ∨ j = i + 1) ↔ j = i - 1 := by omega
        simp only [ej, eq]
        rw [ite_c (show j ≤ i - 1 by omega)]
      · have ej : (if j < i then j else j - 1) = j - 1 := if_neg c2
        have eq : (j = i - 1 ∨ j = i + 1) ↔ j = i - 1 + 2 := by omega
        simp only [ej, eq]
        rw [ite_n (show ¬ j ≤ i - 1 by omega), ite_n (show ¬ j = i - 1 + 1 by omega)]
/-- the new cut, by places -/
def newCut (n i : Nat) : Nat × Nat := if i = 0 then (1, n - 1) else if i = n - 1 then (0, n - 2) else (i - 1, i + 1)
theorem cuts_in {t : Tr} {p : Nat × Nat} (h : p ∈ cuts t) : p.1 + 2 ≤ p.2 ∧ p.2 ≤ sz t ∧ p.2 < p.1 + sz t := by
  cases t with
  | lf => cases h
  | nd l r =>
    have p1 := sz_pos l
    have p2 := sz_pos r
    rw [sz_nd]
    rcases List.mem_append.mp h with h | h
    · have := edges_in l _ h
      omega
    · have := edges_in r _ h
      omega
theorem cuts_insA {t : Tr} {i : Nat} (hi : i ≤ sz t + 1) (h2 : 2 ≤ sz t) : (cuts (insA t i)).Perm (newCut (sz t + 2) i :: (cuts t).map (sh2 i)) := by
  cases t with
  | lf => exact absurd h2 (by decide)
  | nd l r =>
    unfold insA newCut
    by_cases h0 : i = 0
    · subst h0
      rw [if_pos rfl, if_pos rfl]
      have e : cuts (nd lf (nd l r)) = edges (nd l r) (0 + 1) := rfl
      rw [e, edges_off, edges_cuts, List.map_cons, map_sh_hi fun p _ => ⟨Nat.zero_le _, Nat.zero_le _⟩]
      exact List.Perm.refl _
    · rw [if_neg h0, if_neg h0]
      by_cases h1 : i = sz (nd l r) + 1
      · rw [if_pos h1, if_pos (by omega)]
        have e : cuts (nd (nd l r) lf) = edges (nd l r) 0 := List.append_nil _
        rw [e, edges_cuts, map_sh_lo]
        · exact List.Perm.refl _
        · intro p hp
          have := cuts_in hp
          omega
      · rw [if_neg h1, if_neg (by omega)]
        have hi' : i - 1 < sz (nd l r) := by omega
        have hp := edges_ins (nd l r) 0 hi'
        have e1 : 0 + (i - 1) = i - 1 := by omega
        have e2 : i - 1 + 1 = i := by omega
        have e3 : i - 1 + 2 = i + 1 := by omega
        rw [e1, e2, e3, edges_cuts, List.map_cons] at hp
        obtain ⟨l', r', er, es⟩ : ∃ l' r', ins (nd l r) (i - 1) = nd l' r' ∧ sz l' + sz r' = sz l + sz r + 1 := by
          have hs := sz_ins (nd l r) (i - 1)
          cases hh : ins (nd l r) (i - 1) with
          | lf =>
            rw [hh] at hs
            have p1 := sz_pos (nd l r)
            have q : (1 : Nat) = sz (nd l r) + 1 := hs
            omega
          | nd a b =>
            rw [hh] at hs
            exact ⟨a, b, rfl, hs⟩
        rw [er, edges_cuts] at hp
        rw [er]
        have eroot : sh2 i (0, sz l + sz r) = (0, sz l' + sz r') := by
          rw [sz_nd] at hi'
          unfold sh2
          rw [sh_lt (show 0 < i by omega), sh_ge (show i ≤ sz l + sz r by omega), es]
        rw [eroot] at hp
        exact List.Perm.cons_inv (hp.trans (List.Perm.swap _ _ _))
end Tr
end Fz

/-! The mirror of the reduction, and that it finds the tree. -/
namespace Fz
open Tr
/-- a number one less -/
def decr (ns : List Int) (i : Nat) : List Int := ns.set i (ns.getD i 0 - 1)
/-- the ear at i cut off -/
def cutOff (ns : List Int) (i : Nat) : List Int := (decr (decr ns (prv ns.length i)) (nxt ns.length i)).eraseIdx i
/-- the lesser of two, the greater of two -/
def mn (a b : Int) : Int := if b < a then b else a
def mx (a b : Int) : Int := if b > a then b else a
def pairOf (left : List Int) (i : Nat) : Int × Int :=
  (mn (left.getD (prv left.length i) 0) (left.getD (nxt left.length i) 0), mx (left.getD (prv left.length i) 0) (left.getD (nxt left.length i) 0))
structure CS where
  left : List Int
  nums : List Int
  ears : List Int
  cuts : List (Int × Int)
/-- what can't be a cutting's, plainly -/
def cannot (ns : List Int) : Bool := (ns.any fun z => decide (z < 1)) || (if 3 < ns.length then !(ns.any fun z => decide (z = 1)) else !decide (ns = [1, 1, 1]))
def cutAt (s : CS) (i : Nat) : CS := ⟨s.left.eraseIdx i, cutOff s.nums i, s.ears ++ [s.left.getD i 0], s.cuts ++ [pairOf s.left i]⟩
def go (s : CS) : Bool := decide (3 < s.left.length) && !cannot s.nums
def run : Nat → CS → CS
  | 0, s => s
  | f + 1, s => if go s = true then run f (cutAt s (s.nums.idxOf 1)) else s
/-- the labels rise -/
def Rising (l : List Int) : Prop := l.Pairwise (· < ·)
def lab (left : List Int) (p : Nat × Nat) : Int × Int := (left.getD p.1 0, left.getD p.2 0)
/-- the row of a tree -/
def Row (ns : List Int) (t : Tr) : Prop := ns.length = sz t + 1 ∧ ∀ j, j < ns.length → ns.getD j 0 = cnt t j

theorem decr_length (ns : List Int) (i : Nat) : (decr ns i).length = ns.length := List.length_set
theorem decr_getD (ns : List Int) {i j : Nat} (hj : j < ns.length) : (decr ns i).getD j 0 = ns.getD j 0 - (if j = i then 1 else 0) := by
  unfold decr
  rw [List.getD_eq_getElem?_getD, List.getElem?_set, List.getD_eq_getElem?_getD, List.getD_eq_getElem?_getD]
  by_cases h : i = j
  · subst h
    rw [if_pos rfl, if_pos hj, if_pos rfl]
    rfl
  · rw [if_neg h, if_neg (fun e => h e.symm)]
    omega
theorem eraseIdx_getD (l : List Int) (i j : Nat) : (l.eraseIdx i).getD j 0 = l.getD (sh i j) 0 := by
  rw [List.getD_eq_getElem?_getD, List.getElem?_eraseIdx, List.getD_eq_getElem?_getD]
  unfold sh
  split <;> rfl
theorem cutOff_length {ns : List Int} {i : Nat} (hi : i < ns.length) : (cutOff ns i).length = ns.length - 1 := by
  unfold cutOff
  rw [List.length_eraseIdx, decr_length, decr_length, if_pos hi]
theorem prv_lt {n i : Nat} (hi : i < n) : prv n i < n := by
  unfold prv
  split <;> omega
theorem nxt_lt {n i : Nat} (hi : i < n) : nxt n i < n := by
  unfold nxt
  split <;> omega
theorem prv_ne_nxt {n i : Nat} (hi : i < n) (h3 : 3 ≤ n) : prv n i ≠ nxt n i := by
  unfold prv nxt
  split <;> split <;> omega
theorem cutOff_getD {ns : List Int} {i j : Nat} (hi : i < ns.length) (h3 : 3 ≤ ns.length) (hj : j + 1 < ns.length) :
    (cutOff ns i).getD j 0 = ns.getD (sh i j) 0 - (if sh i j = prv ns.length i ∨ sh i j = nxt ns.length i then 1 else 0) := by
  unfold cutOff
  have hs : sh i j < ns.length := by
    unfold sh
    split <;> omega
  rw [eraseIdx_getD, decr_getD _ (by rw [decr_length]; exact hs), decr_getD _ hs]
  have := prv_ne_nxt hi h3
  split <;> split <;> split <;> omega
theorem sh_surj {i j : Nat} (h : j ≠ i) : sh i (if j < i then j else j - 1) = j := by
  by_cases hc : j < i
  · rw [if_pos hc, sh_lt hc]
  · rw [if_neg hc, sh_ge (by omega)]
    omega
theorem sh_inv {i j : Nat} : (if sh i j < i then sh i j else sh i j - 1) = j := by
  by_cases hc : j < i
  · rw [sh_lt hc, if_pos hc]
  · rw [sh_ge (by omega), if_neg (by omega)]
    omega
theorem sh_ne {i j : Nat} : sh i j ≠ i := by
  unfold sh
  split <;> omega
/-- a row with an ear, from the row without it -/
theorem row_up {ns : List Int} {i : Nat} {t : Tr} (hi : i < ns.length) (h4 : 4 ≤ ns.length) (h1 : ns.getD i 0 = 1) (h : Row (cutOff ns i) t) : Row ns (insA t i) := by
  obtain ⟨hl, hr⟩ := h
  rw [cutOff_length hi] at hl hr
  refine ⟨by rw [sz_insA]; omega, fun j hj => ?_⟩
  by_cases hji : j = i
  · subst hji
    rw [h1, cnt_insA_at (by omega) (by omega)]
  · rw [cnt_insA_ne (by omega) (by omega) (by omega) hji]
    have e := hr (if j < i then j else j - 1) (by split <;> omega)
    rw [cutOff_getD hi (by omega) (by split <;> omega), sh_surj hji] at e
    have en : ns.length = sz t + 2 := by omega
    rw [en] at e
    rw [← e]
    omega
/-- .. and back -/
theorem row_down {ns : List Int} {i : Nat} {t : Tr} (hi : i < ns.length) (h4 : 4 ≤ ns.length) (h : Row ns (insA t i)) : ns.getD i 0 = 1 ∧ Row (cutOff ns i) t := by
  obtain ⟨hl, hr⟩ := h
  rw [sz_insA] at hl
  refine ⟨by rw [hr i hi, cnt_insA_at (by omega) (by omega)], by rw [cutOff_length hi]; omega, fun j hj => ?_⟩
  rw [cutOff_length hi] at hj
  have hs : sh i j < ns.length := by
    unfold sh
    split <;> omega
  rw [cutOff_getD hi (by omega) (by omega), hr _ hs, cnt_insA_ne (by omega) (by omega) (by omega) sh_ne, sh_inv]
  have en : ns.length = sz t + 2 := by omega
  rw [en]
  omega
theorem row_ear {ns : List Int} {i : Nat} {t : Tr} (hi : i < ns.length) (h4 : 4 ≤ ns.length) (h1 : ns.getD i 0 = 1) (h : Row ns t) : ∃ t', t = insA t' i ∧ 2 ≤ sz t' := by
  obtain ⟨hl, hr⟩ := h
  rw [hr i hi] at h1
  unfold insA
  cases t with
  | lf =>
    have : sz lf = 1 := rfl
    omega
  | nd l r =>
    have p1 := sz_pos l
    have p2 := sz_pos r
    rw [sz_nd] at hl
    by_cases h0 : i = 0
    · subst h0
      rw [cnt_zero] at h1
      have e : l = lf := cnt_zero_lf (i := 0) (by omega) (by omega)
      subst e
      have : sz lf = 1 := rfl
      exact ⟨r, by rw [if_pos rfl], by omega⟩
    · by_cases ht : i = sz l + sz r
      · subst ht
        rw [cnt_top] at h1
        have e : r = lf := cnt_zero_lf (i := sz r) (Nat.le_refl _) (by omega)
        subst e
        have e1 : sz lf = 1 := rfl
        exact ⟨l, by rw [if_neg h0, if_pos (by omega)], by omega⟩
      · obtain ⟨t', e1, e2⟩ := ear_in (nd l r) (i := i) (by omega) (by rw [sz_nd]; omega) h1
        rw [sz_nd] at e2
        exact ⟨t', by rw [if_neg h0, if_neg (by omega), ← e1], by omega⟩

theorem rising_get {l : List Int} (h : Rising l) {i j : Nat} (hij : i < j) (hj : j < l.length) : l.getD i 0 < l.getD j 0 := by
  have h1 : i < l.length := by omega
  rw [List.getD_eq_getElem?_getD, List.getD_eq_getElem?_getD, List.getElem?_eq_getElem h1, List.getElem?_eq_getElem hj]
  exact List.pairwise_iff_getElem.mp h i j h1 hj hij
theorem rising_erase {l : List Int} (h : Rising l) (i : Nat) : Rising (l.eraseIdx i) := h.sublist (List.eraseIdx_sublist ..)
theorem lab_erase (left : List Int) (i : Nat) (p : Nat × Nat) : lab (left.eraseIdx i) p = lab left (sh2 i p) := by
  unfold lab sh2
  rw [eraseIdx_getD, eraseIdx_getD]
theorem mn_mx {a b : Int} (h : a < b) : mn a b = a ∧ mx a b = b ∧ mn b a = a ∧ mx b a = b := by
  unfold mn mx
  refine ⟨?_, ?_, ?_, ?_⟩ <;> split <;> omega
theorem pair_new {left : List Int} (hr : Rising left) {i : Nat} (hi : i < left.length) (h4 : 4 ≤ left.length) : pairOf left i = lab left (newCut left.length i) := by
  unfold pairOf lab newCut
  by_cases h0 : i = 0
  · subst h0
    have ep : prv left.length 0 = left.length - 1 := rfl
    have en : nxt left.length 0 = 1 := if_neg (by omega)
    obtain ⟨_, _, h3, h4⟩ := mn_mx (rising_get hr (i := 1) (j := left.length - 1) (by omega) (by omega))
    rw [ep, en, h3, h4]
    rfl
  · have ep : prv left.length i = i - 1 := if_neg h0
    by_cases h1 : i = left.length - 1
    · have en : nxt left.length i = 0 := if_pos (by omega)
      have e2 : i - 1 = left.length - 2 := by omega
      obtain ⟨_, _, h3, h4⟩ := mn_mx (rising_get hr (i := 0) (j := left.length - 2) (by omega) (by omega))
      rw [ep, en, if_neg h0, if_pos h1, e2, h3, h4]
    · have en : nxt left.length i = i + 1 := if_neg (by omega)
      obtain ⟨h3, h4, _, _⟩ := mn_mx (rising_get hr (i := i - 1) (j := i + 1) (by omega) (by omega))
      rw [ep, en, if_neg h0, if_neg h1, h3, h4]
/-- the labelled cuts with an ear -/
theorem cuts_up {left : List Int} (hr : Rising left) {i : Nat} {t : Tr} (hl : left.length = sz t + 2) (hi : i < left.length) (h2 : 2 ≤ sz t) :
    ((cuts (insA t i)).map (lab left)).Perm (pairOf left i :: (cuts t).map (lab (left.eraseIdx i))) := by
  have h := (cuts_insA (t := t) (i := i) (by omega) h2).map (lab left)
  rw [List.map_cons, List.map_map, ← hl, ← pair_new hr hi (by omega)] at h
  have e : (cuts t).map (lab left ∘ sh2 i) = (cuts t).map (lab (left.eraseIdx i)) := List.map_congr_left fun p _ => (lab_erase left i p).symm
  rw [e] at h
  exact h

theorem idxOf_one {ns : List Int} (h : (ns.any fun z => decide (z = 1)) = true) : ns.idxOf 1 < ns.length ∧ ns.getD (ns.idxOf 1) 0 = 1 := by
  obtain ⟨z, hz, e⟩ := List.any_eq_true.mp h
  have e' : z = 1 := of_decide_eq_true e
  subst e'
  have hlt : ns.idxOf 1 < ns.length := List.idxOf_lt_length_iff.mpr hz
  refine ⟨hlt, ?_⟩
  rw [List.getD_eq_getElem?_getD, List.getElem?_eq_getElem hlt]
  have q := List.getElem_idxOf hlt
  show ns[ns.idxOf 1] = 1
  exact q
theorem cannot_no {ns : List Int} (h : cannot ns = false) : (∀ z ∈ ns, 1 ≤ z) ∧ (3 < ns.length → (ns.any fun z => decide (z = 1)) = true) ∧ (¬ 3 < ns.length → ns = [1, 1, 1]) := by
  unfold cannot at h
  rw [Bool.or_eq_false_iff] at h
  obtain ⟨h1, h2⟩ := h
  refine ⟨fun z hz => ?_, fun h3 => ?_, fun h3 => ?_⟩
  · have q := List.any_eq_false.mp h1 z hz
    simp only [decide_eq_true_eq] at q
    omega
  · rw [if_pos h3] at h2
    cases hb : (ns.any fun z => decide (z = 1)) with
    | true => rfl
    | false =>
      rw [hb] at h2
      cases h2
  · rw [if_neg h3] at h2
    by_cases e : ns = [1, 1, 1]
    · exact e
    · rw [decide_eq_false e] at h2
      cases h2
theorem row_two : Row [1, 1, 1] (nd lf lf) := by
  refine ⟨rfl, fun j hj => ?_⟩
  match j, hj with
  | 0, _ => decide
  | 1, _ => decide
  | 2, _ => decide
theorem ext_getD {a b : List Int} (hl : a.length = b.length) (h : ∀ j, j < a.length → a.getD j 0 = b.getD j 0) : a = b := by
  apply List.ext_getElem hl
  intro j h1 h2
  have e := h j h1
  rw [List.getD_eq_getElem?_getD, List.getD_eq_getElem?_getD, List.getElem?_eq_getElem h1, List.getElem?_eq_getElem h2] at e
  exact e
theorem row_three {ns : List Int} {t : Tr} (h : Row ns t) (h3 : ns.length = 3) : ns = [1, 1, 1] ∧ t = nd lf lf := by
  obtain ⟨hl, hr⟩ := h
  cases t with
  | lf =>
    have : sz lf = 1 := rfl
    omega
  | nd l r =>
    have p1 := sz_pos l
    have p2 := sz_pos r
    rw [sz_nd] at hl
    have e1 : l = lf := sz_one (by omega)
    have e2 : r = lf := sz_one (by omega)
    subst e1
    subst e2
    refine ⟨ext_getD h3 fun j hj => ?_, rfl⟩
    rw [hr j hj]
    exact (row_two.2 j (by rw [h3] at hj; exact hj)).symm
theorem mem_getD {ns : List Int} {z : Int} (h : z ∈ ns) : ∃ j, j < ns.length ∧ ns.getD j 0 = z := by
  obtain ⟨j, hj, e⟩ := List.mem_iff_getElem.mp h
  refine ⟨j, hj, ?_⟩
  rw [List.getD_eq_getElem?_getD, List.getElem?_eq_getElem hj]
  exact e
theorem getD_mem {ns : List Int} {j : Nat} (h : j < ns.length) : ns.getD j 0 ∈ ns := by
  rw [List.getD_eq_getElem?_getD, List.getElem?_eq_getElem h]
  exact List.getElem_mem h
/-- a tree's row can be a cutting's -/
theorem row_can {ns : List Int} {t : Tr} (h : Row ns t) (h3 : 3 ≤ ns.length) : cannot ns = false := by
  have hs : 2 ≤ sz t := by
    have := h.1
    omega
  unfold cannot
  rw [Bool.or_eq_false_iff]
  refine ⟨List.any_eq_false.mpr fun z hz => ?_, ?_⟩
  · obtain ⟨j, hj, e⟩ := mem_getD hz
    have hl := h.1
    have q := cnt_pos hs (i := j) (by omega)
    rw [h.2 j hj] at e
    simp only [decide_eq_true_eq]
    omega
  · by_cases h4 : 3 < ns.length
    · rw [if_pos h4]
      obtain ⟨i, a, b, c⟩ := has_ear t hs
      have hl := h.1
      have hi : i < ns.length := by omega
      have q : (ns.any fun z => decide (z = 1)) = true := by
        refine List.any_eq_true.mpr ⟨ns.getD i 0, getD_mem hi, ?_⟩
        rw [h.2 i hi, c]
        rfl
      rw [q]
      rfl
    · rw [if_neg h4, (row_three h (by omega)).1]
      rfl

/-- what the reduction keeps: the row can be told back -/
theorem run_up : ∀ (f : Nat) (s : CS), s.left.length = s.nums.length → 3 ≤ s.nums.length → Rising s.left → (run f s).nums = [1, 1, 1] →
    ∃ t : Tr, 2 ≤ sz t ∧ Row s.nums t ∧ ∃ new, (run f s).cuts = s.cuts ++ new ∧ new.Perm ((cuts t).map (lab s.left))
  | 0, s, hl, h3, hr, h => by
    have h' : s.nums = [1, 1, 1] := h
    exact ⟨nd lf lf, Nat.le_refl 2, by rw [h']; exact row_two, [], (List.append_nil _).symm, List.Perm.refl _⟩
  | f + 1, s, hl, h3, hr, h => by
    unfold run at h ⊢
    by_cases hg : go s = true
    · rw [if_pos hg] at h ⊢
      unfold go at hg
      rw [Bool.and_eq_true] at hg
      have h4 : 3 < s.left.length := of_decide_eq_true hg.1
      have hc : cannot s.nums = false := by
        have := hg.2
        cases hb : cannot s.nums with
        | true =>
          rw [hb] at this
          cases this
        | false => rfl
      obtain ⟨hi, h1⟩ := idxOf_one ((cannot_no hc).2.1 (by omega))
      have hil : s.nums.idxOf 1 < s.left.length := by omega
      obtain ⟨t, h2, hrow, new, e1, e2⟩ := run_up f (cutAt s (s.nums.idxOf 1)) (by
          show (s.left.eraseIdx _).length = (cutOff s.nums _).length
          rw [cutOff_length hi, List.length_eraseIdx, if_pos hil, hl]) (by
          show 3 ≤ (cutOff s.nums _).length
          rw [cutOff_length hi]
          omega) (rising_erase hr _) h
      have hrow' : Row (cutOff s.nums (s.nums.idxOf 1)) t := hrow
      have hlt : s.left.length = sz t + 2 := by
        have := hrow'.1
        rw [cutOff_length hi] at this
        omega
      refine ⟨insA t (s.nums.idxOf 1), by rw [sz_insA]; omega, row_up hi (by omega) h1 hrow', pairOf s.left (s.nums.idxOf 1) :: new, ?_, ?_⟩
      · rw [e1]
        show s.cuts ++ [pairOf s.left (s.nums.idxOf 1)] ++ new = _
        rw [List.append_assoc]
        rfl
      · exact (List.Perm.cons _ e2).trans (cuts_up hr hlt hil h2).symm
    · rw [if_neg hg] at h ⊢
      have h' : s.nums = [1, 1, 1] := h
      rw [h'] at hl
      exact ⟨nd lf lf, Nat.le_refl 2, by rw [h']; exact row_two, [], (List.append_nil _).symm, List.Perm.refl _⟩
/-- a tree's row is reduced to the end -/
theorem run_row : ∀ (f : Nat) (s : CS) (t : Tr), s.left.length = s.nums.length → 3 ≤ s.nums.length → s.nums.length ≤ f + 3 → Row s.nums t → (run f s).nums = [1, 1, 1]
  | 0, s, t, hl, h3, hf, h => (row_three h (by omega)).1
  | f + 1, s, t, hl, h3, hf, h => by
    unfold run
    by_cases h4 : 3 < s.left.length
    · have hg : go s = true := by
        unfold go
        rw [decide_eq_true h4, row_can h h3]
        rfl
      rw [if_pos hg]
      obtain ⟨hi, h1⟩ := idxOf_one ((cannot_no (row_can h h3)).2.1 (by omega))
      obtain ⟨t', e, h2⟩ := row_ear hi (by omega) h1 h
      rw [e] at h
      refine run_row f _ t' ?_ ?_ ?_ (row_down hi (by omega) h).2
      · show (s.left.eraseIdx _).length = (cutOff s.nums _).length
        rw [cutOff_length hi, List.length_eraseIdx, if_pos (by omega), hl]
      · show 3 ≤ (cutOff s.nums _).length
        rw [cutOff_length hi]
        omega
      · show (cutOff s.nums _).length ≤ f + 3
        rw [cutOff_length hi]
        omega
    · have hg : ¬ go s = true := by
        unfold go
        rw [decide_eq_false h4]
        exact fun z => nomatch z
      rw [if_neg hg]
      exact (row_three h (by omega)).1
end Fz

/-! What is a cutting, by the lists of its cuts; a tree's cuts are one. -/
namespace Fz
open Tr
abbrev PI := Int × Int
def isCut (n : Int) (p : PI) : Bool := decide (0 ≤ p.1) && decide (p.1 + 1 < p.2) && decide (p.2 < n) && decide (p.2 - p.1 < n - 1)
/-- the order in which crossing cuts are sought -/
def kle (p q : PI) : Bool := decide (p.1 < q.1 ∨ (p.1 = q.1 ∧ -p.2 ≤ -q.2))
/-- the order of pairs -/
def ple (p q : PI) : Bool := decide (p.1 < q.1 ∨ (p.1 = q.1 ∧ p.2 ≤ q.2))
def pop (a : Int) : List Int → List Int
  | [] => []
  | e :: r => if e ≤ a then pop a r else e :: r
def crossGo : List PI → List Int → Bool
  | [], _ => false
  | p :: r, es => match pop p.1 es with
    | [] => crossGo r [p.2]
    | e :: t => if p.2 > e then true else crossGo r (p.2 :: e :: t)
theorem crossGo_cons (p : PI) (r : List PI) (es : List Int) : crossGo (p :: r) es = (match pop p.1 es with
    | [] => crossGo r [p.2]
    | e :: t => if p.2 > e then true else crossGo r (p.2 :: e :: t)) := rfl
def twoCross (ps : List PI) : Bool := crossGo (ps.mergeSort kle) []
def srt (ps : List PI) : List PI := ps.mergeSort ple
def isCutting (n : Int) (ps : List PI) : Bool := decide ((ps.length : Int) = n - 3) && ps.all (isCut n) && decide ps.Nodup && !twoCross ps
def incr (ns : List Int) (i : Nat) : List Int := ns.set i (ns.getD i 0 + 1)
def countsGo : List PI → List Int → List Int
  | [], f => f
  | p :: r, f => countsGo r (incr (incr f p.1.toNat) p.2.toNat)
def countsOf (n : Nat) (ps : List PI) : List Int := countsGo ps (List.replicate n 1)
def ends : List PI → Int → Int
  | [], _ => 0
  | p :: r, x => (if p.1 = x then 1 else 0) + (if p.2 = x then 1 else 0) + ends r x
def Crs (p q : PI) : Prop := p.1 < q.1 ∧ q.1 < p.2 ∧ p.2 < q.2

/-! ### sorting -/
theorem ple_trans (a b c : PI) (h : ple a b = true) (h' : ple b c = true) : ple a c = true := by
  unfold ple at *
  simp only [decide_eq_true_eq] at *
  omega
theorem ple_total (a b : PI) : (ple a b || ple b a) = true := by
  unfold ple
  simp only [Bool.or_eq_true, decide_eq_true_eq]
  omega
theorem ple_anti (a b : PI) (h : ple a b = true) (h' : ple b a = true) : a = b := by
  unfold ple at *
  simp only [decide_eq_true_eq] at *
  have h1 : a.1 = b.1 := by omega
  have h2 : a.2 = b.2 := by omega
  cases a
  cases b
  simp only at h1 h2
  rw [h1, h2]
theorem kle_trans (a b c : PI) (h : kle a b = true) (h' : kle b c = true) : kle a c = true := by
  unfold kle at *
  simp only [decide_eq_true_eq] at *
  omega
theorem kle_total (a b : PI) : (kle a b || kle b a) = true := by
  unfold kle
  simp only [Bool.or_eq_true, decide_eq_true_eq]
  omega
theorem kle_anti (a b : PI) (h : kle a b = true) (h' : kle b a = true) : a = b := by
  unfold kle at *
  simp only [decide_eq_true_eq] at *
  have h1 : a.1 = b.1 := by omega
  have h2 : a.2 = b.2 := by omega
  cases a
  cases b
  simp only at h1 h2
  rw [h1, h2]
theorem srt_perm (ps : List PI) : (srt ps).Perm ps := List.mergeSort_perm _ _
theorem srt_sorted (ps : List PI) : (srt ps).Pairwise (fun a b => ple a b = true) := List.pairwise_mergeSort ple_trans ple_total ps
/-- the one sorted list -/
theorem srt_the {ps qs : List PI} (h : qs.Perm ps) (hs : qs.Pairwise (fun a b => ple a b = true)) : qs = srt ps :=
  List.Perm.eq_of_pairwise (fun a b _ _ => ple_anti a b) hs (srt_sorted ps) (h.trans (srt_perm ps).symm)
theorem srt_eq {ps qs : List PI} (h : ps.Perm qs) : srt ps = srt qs := srt_the ((srt_perm ps).trans h) (srt_sorted ps)
theorem twoCross_perm {ps qs : List PI} (h : ps.Perm qs) : twoCross ps = twoCross qs := by
  unfold twoCross
  have e : ps.mergeSort kle = qs.mergeSort kle := List.Perm.eq_of_pairwise (fun a b _ _ => kle_anti a b)
    (List.pairwise_mergeSort kle_trans kle_total ps) (List.pairwise_mergeSort kle_trans kle_total qs) (((List.mergeSort_perm ps kle).trans h).trans (List.mergeSort_perm qs kle).symm)
  rw [e]
theorem all_perm {α : Type} {f : α → Bool} {ps qs : List α} (h : ps.Perm qs) : ps.all f = qs.all f := by
  rw [Bool.eq_iff_iff, List.all_eq_true, List.all_eq_true]
  exact ⟨fun a x hx => a x (h.mem_iff.mpr hx), fun a x hx => a x (h.mem_iff.mp hx)⟩
theorem isCutting_perm {n : Int} {ps qs : List PI} (h : ps.Perm qs) : isCutting n ps = isCutting n qs := by
  unfold isCutting
  rw [h.length_eq, all_perm h, twoCross_perm h]
  have e : decide ps.Nodup = decide qs.Nodup := decide_eq_decide.mpr h.nodup_iff
  rw [e]

/-! ### how many cuts end at a corner -/
theorem ends_append : ∀ (a b : List PI) (x : Int), ends (a ++ b) x = ends a x + ends b x
  | [], b, x => by
    show ends b x = 0 + ends b x
    omega
  | p :: a, b, x => by
    have ih := ends_append a b x
    show _ + _ + ends (a ++ b) x = _ + _ + ends a x + ends b x
    omega
theorem ends_perm {a b : List PI} (h : a.Perm b) (x : Int) : ends a x = ends b x := by
  induction h with
  | nil => rfl
  | cons p _ ih =>
    show _ + _ + ends _ x = _ + _ + ends _ x
    rw [ih]
  | swap p q l =>
    show _ + _ + (_ + _ + ends l x) = _ + _ + (_ + _ + ends l x)
    omega
  | trans _ _ i1 i2 => rw [i1, i2]
theorem incr_length (ns : List Int) (i : Nat) : (incr ns i).length = ns.length := List.length_set
theorem incr_getD (ns : List Int) {i j : Nat} (hj : j < ns.length) : (incr ns i).getD j 0 = ns.getD j 0 + (if j = i then 1 else 0) := by
  unfold incr
  rw [List.getD_eq_getElem?_getD, List.getElem?_set, List.getD_eq_getElem?_getD, List.getD_eq_getElem?_getD]
  by_cases h : i = j
  · subst h
    rw [if_pos rfl, if_pos hj, if_pos rfl]
    rfl
  · rw [if_neg h, if_neg (fun e => h e.symm)]
    omega
theorem countsGo_length : ∀ (ps : List PI) (f : List Int), (countsGo ps f).length = f.length
  | [], f => rfl
  | p :: r, f => by
    show (countsGo r _).length = _
    rw [countsGo_length r, incr_length, incr_length]
theorem countsGo_getD : ∀ (ps : List PI) (f : List Int), (∀ p ∈ ps, 0 ≤ p.1 ∧ 0 ≤ p.2) → ∀ j, j < f.length → (countsGo ps f).getD j 0 = f.getD j 0 + ends ps (j : Int)
  | [], f, _, j, hj => by
    show f.getD j 0 = f.getD j 0 + 0
    omega
  | p :: r, f, h, j, hj => by
    show (countsGo r _).getD j 0 = _
    rw [countsGo_getD r _ (fun q hq => h q (List.mem_cons_of_mem _ hq)) j (by rw [incr_length, incr_length]; exact hj), incr_getD _ (by rw [incr_length]; exact hj), incr_getD _ hj]
    obtain ⟨h1, h2⟩ := h p (List.mem_cons_self ..)
    show _ = f.getD j 0 + ((if p.1 = (j : Int) then 1 else 0) + (if p.2 = (j : Int) then 1 else 0) + ends r (j : Int))
    have e1 : (j = p.1.toNat) ↔ p.1 = (j : Int) := by omega
    have e2 : (j = p.2.toNat) ↔ p.2 = (j : Int) := by omega
    simp only [e1, e2]
    omega
theorem countsOf_length (n : Nat) (ps : List PI) : (countsOf n ps).length = n := by
  unfold countsOf
  rw [countsGo_length, List.length_replicate]
theorem countsOf_getD {n : Nat} {ps : List PI} (h : ∀ p ∈ ps, 0 ≤ p.1 ∧ 0 ≤ p.2) {j : Nat} (hj : j < n) : (countsOf n ps).getD j 0 = 1 + ends ps (j : Int) := by
  unfold countsOf
  rw [countsGo_getD ps _ h j (by rw [List.length_replicate]; exact hj)]
  have e : (List.replicate n (1 : Int)).getD j 0 = 1 := by
    rw [List.getD_eq_getElem?_getD, List.getElem?_replicate, if_pos hj]
    rfl
  rw [e]

/-! ### crossing -/
theorem pop_mem (a : Int) : ∀ (es : List Int) {e : Int}, e ∈ pop a es → e ∈ es
  | [], e, h => h
  | x :: r, e, h => by
    unfold pop at h
    split at h
    · exact List.mem_cons_of_mem _ (pop_mem a r h)
    · exact h
theorem pop_head (a : Int) : ∀ (es : List Int) {e : Int} {t : List Int}, pop a es = e :: t → a < e
  | [], e, t, h => nomatch h
  | x :: r, e, t, h => by
    unfold pop at h
    split at h
    · exact pop_head a r h
    · rename_i hx
      injection h with h1 h2
      omega
theorem crossGo_no : ∀ (ps : List PI) (es : List Int), ps.Pairwise (fun a b => kle a b = true) → (∀ p ∈ ps, ∀ q ∈ ps, ¬ Crs p q) →
    (∀ e ∈ es, ∃ p0 : PI, p0.2 = e ∧ ∀ q ∈ ps, kle p0 q = true ∧ ¬ Crs p0 q) → crossGo ps es = false
  | [], _, _, _, _ => rfl
  | p :: r, es, hs, hn, he => by
    have hs' := List.pairwise_cons.mp hs
    have hn' : ∀ x ∈ r, ∀ y ∈ r, ¬ Crs x y := fun x hx y hy => hn x (List.mem_cons_of_mem _ hx) y (List.mem_cons_of_mem _ hy)
    have hp : ∀ e ∈ [p.2], ∃ p0 : PI, p0.2 = e ∧ ∀ q ∈ r, kle p0 q = true ∧ ¬ Crs p0 q := fun e h => by
      have e' := List.mem_singleton.mp h
      exact ⟨p, e'.symm, fun q hq => ⟨hs'.1 q hq, hn p (List.mem_cons_self ..) q (List.mem_cons_of_mem _ hq)⟩⟩
    unfold crossGo
    cases hpop : pop p.1 es with
    | nil =>
      simp only
      exact crossGo_no r _ hs'.2 hn' hp
    | cons e t =>
      simp only
      have hmem : ∀ x, x ∈ e :: t → x ∈ es := fun x hx => pop_mem p.1 es (by rw [hpop]; exact hx)
      have hlt := pop_head p.1 es hpop
      obtain ⟨p0, e0, h0⟩ := he e (hmem e (List.mem_cons_self ..))
      obtain ⟨hk, hc⟩ := h0 p (List.mem_cons_self ..)
      have hle : ¬ p.2 > e := by
        intro hgt
        unfold kle at hk
        simp only [decide_eq_true_eq] at hk
        apply hc
        unfold Crs
        omega
      rw [if_neg hle]
      refine crossGo_no r _ hs'.2 hn' fun x hx => ?_
      rcases List.mem_cons.mp hx with rfl | hx
      · exact hp _ (List.mem_singleton.mpr rfl)
      · obtain ⟨q0, a, b⟩ := he x (hmem x hx)
        exact ⟨q0, a, fun q hq => b q (List.mem_cons_of_mem _ hq)⟩
theorem twoCross_no {ps : List PI} (h : ∀ p ∈ ps, ∀ q ∈ ps, ¬ Crs p q) : twoCross ps = false := by
  have hm : ∀ p, p ∈ ps.mergeSort kle → p ∈ ps := fun p hp => (List.mergeSort_perm ps kle).mem_iff.mp hp
  exact crossGo_no _ [] (List.pairwise_mergeSort kle_trans kle_total ps) (fun p hp q hq => h p (hm p hp) q (hm q hq)) (fun e he => nomatch he)

/-! ### a tree's cuts -/
def ip (p : Nat × Nat) : PI := ((p.1 : Int), (p.2 : Int))
theorem ip_inj {p q : Nat × Nat} (h : ip p = ip q) : p = q := by
  unfold ip at h
  injection h with h1 h2
  cases p
  cases q
  simp only at h1 h2
  have e1 := Int.ofNat.inj h1
  have e2 := Int.ofNat.inj h2
  rw [e1, e2]
namespace Tr
theorem edges_none : ∀ (t : Tr) (o x : Nat), x < o ∨ o + sz t < x → ends ((edges t o).map ip) (x : Int) = 0
  | lf, _, _, _ => rfl
  | nd l r, o, x, h => by
    rw [sz_nd] at h
    rw [edges_nd, List.map_cons, List.map_append]
    show (if (ip (o, o + sz l + sz r)).1 = (x : Int) then 1 else 0) + (if (ip (o, o + sz l + sz r)).2 = (x : Int) then 1 else 0) + ends _ _ = 0
    rw [ends_append, edges_none l o x (by omega), edges_none r (o + sz l) x (by omega)]
    unfold ip
    rw [if_neg (by simp only; omega), if_neg (by simp only; omega)]
    rfl
theorem edges_ends : ∀ (t : Tr) (o i : Nat), i ≤ sz t → ends ((edges t o).map ip) ((o + i : Nat) : Int) = cnt t i - (if 0 < i ∧ i < sz t then 1 else 0)
  | lf, o, i, h => by
    have h' : i ≤ 1 := h
    have e : ¬ (0 < i ∧ i < sz lf) := by
      have : sz lf = 1 := rfl
      omega
    rw [if_neg e]
    rfl
  | nd l r, o, i, h => by
    rw [sz_nd] at h
    have p1 := sz_pos l
    have p2 := sz_pos r
    rw [edges_nd, List.map_cons, List.map_append]
    show (if (ip (o, o + sz l + sz r)).1 = ((o + i : Nat) : Int) then 1 else 0) + (if (ip (o, o + sz l + sz r)).2 = ((o + i : Nat) : Int) then 1 else 0) + ends _ _ = _
    rw [ends_append]
    have e1 : ((ip (o, o + sz l + sz r)).1 = ((o + i : Nat) : Int)) ↔ i = 0 := by
      unfold ip
      simp only
      omega
    have e2 : ((ip (o, o + sz l + sz r)).2 = ((o + i : Nat) : Int)) ↔ i = sz l + sz r := by
      unfold ip
      simp only
      omega
    simp only [e1, e2]
    rw [sz_nd]
    rcases Nat.lt_trichotomy i (sz l) with hc | hc | hc
    · rw [edges_none r (o + sz l) (o + i) (by omega), edges_ends l o i (by omega)]
      by_cases h0 : i = 0
      · subst h0
        rw [cnt_zero, if_pos rfl, if_neg (by omega), if_neg (by omega), if_neg (by omega)]
        omega
      · rw [cnt_l l r (by omega) hc, if_neg h0, if_neg (by omega), if_pos (by omega), if_pos (by omega)]
        omega
    · subst hc
      have er := edges_ends r (o + sz l) 0 (by omega)
      rw [Nat.add_zero] at er
      rw [er, edges_ends l o (sz l) (Nat.le_refl _), cnt_mid, if_neg (by omega), if_neg (by omega), if_neg (by omega), if_neg (by omega), if_pos (by omega)]
      omega
    · have er := edges_ends r (o + sz l) (i - sz l) (by omega)
      have e3 : o + sz l + (i - sz l) = o + i := by omega
      rw [e3] at er
      rw [edges_none l o (o + i) (by omega), er]
      by_cases ht : i = sz l + sz r
      · subst ht
        have e4 : sz l + sz r - sz l = sz r := by omega
        rw [cnt_top, e4, if_neg (by omega), if_pos rfl, if_neg (by omega), if_neg (by omega)]
        omega
      · rw [cnt_r l r hc (by omega), if_neg (by omega), if_neg ht, if_pos (by omega), if_pos (by omega)]
        omega
theorem cuts_ends {t : Tr} (h2 : 2 ≤ sz t) {i : Nat} (hi : i ≤ sz t) : 1 + ends ((cuts t).map ip) (i : Int) = cnt t i := by
  cases t with
  | lf => exact absurd h2 (by decide)
  | nd l r =>
    have p1 := sz_pos l
    have p2 := sz_pos r
    have h := edges_ends (nd l r) 0 i hi
    rw [edges_cuts, List.map_cons, Nat.zero_add] at h
    have h' : (if (ip (0, sz l + sz r)).1 = (i : Int) then 1 else 0) + (if (ip (0, sz l + sz r)).2 = (i : Int) then 1 else 0) + ends ((cuts (nd l r)).map ip) (i : Int) = cnt (nd l r) i - (if 0 < i ∧ i < sz (nd l r) then 1 else 0) := h
    have e1 : ((ip (0, sz l + sz r)).1 = (i : Int)) ↔ i = 0 := by
      unfold ip
      simp only
      omega
    have e2 : ((ip (0, sz l + sz r)).2 = (i : Int)) ↔ i = sz l + sz r := by
      unfold ip
      simp only
      omega
    simp only [e1, e2] at h'
    rw [sz_nd] at h' hi
    have e3 : (0 < i ∧ i < sz l + sz r) ↔ ¬ (i = 0 ∨ i = sz l + sz r) := by omega
    simp only [e3] at h'
    by_cases h0 : i = 0
    · rw [if_pos h0, if_neg (by omega), if_neg (by omega)] at h'
      omega
    · by_cases ht : i = sz l + sz r
      · rw [if_neg h0, if_pos ht, if_neg (by omega)] at h'
        omega
      · rw [if_neg h0, if_neg ht, if_pos (by omega)] at h'
        omega
theorem cuts_len {t : Tr} (h2 : 2 ≤ sz t) : (cuts t).length + 2 = sz t := by
  cases t with
  | lf => exact absurd h2 (by decide)
  | nd l r =>
    have h := edges_len (nd l r) 0
    rw [edges_cuts, List.length_cons] at h
    omega
theorem edges_nodup : ∀ (t : Tr) (o : Nat), (edges t o).Nodup
  | lf, _ => List.nodup_nil
  | nd l r, o => by
    have p1 := sz_pos l
    have p2 := sz_pos r
    rw [edges_nd]
    refine List.nodup_cons.mpr ⟨fun hm => ?_, List.nodup_append.mpr ⟨edges_nodup l o, edges_nodup r _, fun a ha b hb e => ?_⟩⟩
    · rcases List.mem_append.mp hm with h | h
      · have := edges_in l o h
        simp only at this
        omega
      · have := edges_in r _ h
        simp only at this
        omega
    · subst e
      have a1 := edges_in l o ha
      have a2 := edges_in r _ hb
      omega
theorem cuts_nodup (t : Tr) : (cuts t).Nodup := by
  cases t with
  | lf => exact List.nodup_nil
  | nd l r =>
    have h := edges_nodup (nd l r) 0
    rw [edges_cuts] at h
    exact (List.nodup_cons.mp h).2
/-- all edges, the sides too -/
def spans : Tr → Nat → List (Nat × Nat)
  | lf, o => [(o, o + 1)]
  | nd l r, o => (o, o + sz l + sz r) :: (spans l o ++ spans r (o + sz l))
theorem spans_nd (l r : Tr) (o : Nat) : spans (nd l r) o = (o, o + sz l + sz r) :: (spans l o ++ spans r (o + sz l)) := rfl
theorem spans_in : ∀ (t : Tr) (o : Nat) {p : Nat × Nat}, p ∈ spans t o → o ≤ p.1 ∧ p.1 < p.2 ∧ p.2 ≤ o + sz t
  | lf, o, p, h => by
    have e := List.mem_singleton.mp h
    subst e
    have : sz lf = 1 := rfl
    simp only
    omega
  | nd l r, o, p, h => by
    rw [spans_nd] at h
    have p1 := sz_pos l
    have p2 := sz_pos r
    rw [sz_nd]
    rcases List.mem_cons.mp h with rfl | h
    · simp only
      omega
    · rcases List.mem_append.mp h with h | h
      · have := spans_in l o h
        omega
      · have := spans_in r (o + sz l) h
        omega
theorem spans_nc : ∀ (t : Tr) (o : Nat) {p q : Nat × Nat}, p ∈ spans t o → q ∈ spans t o → ¬ (p.1 < q.1 ∧ q.1 < p.2 ∧ p.2 < q.2)
  | lf, o, p, q, hp, hq => by
    have e1 := List.mem_singleton.mp hp
    have e2 := List.mem_singleton.mp hq
    subst e1
    subst e2
    simp only
    omega
  | nd l r, o, p, q, hp, hq => by
    have bp := spans_in (nd l r) o hp
    have bq := spans_in (nd l r) o hq
    rw [spans_nd] at hp hq
    rw [sz_nd] at bp bq
    rcases List.mem_cons.mp hp with rfl | hp
    · simp only at *
      omega
    · rcases List.mem_cons.mp hq with rfl | hq
      · simp only at *
        omega
      · rcases List.mem_append.mp hp with hp | hp <;> rcases List.mem_append.mp hq with hq | hq
        · exact spans_nc l o hp hq
        · have a1 := spans_in l o hp
          have a2 := spans_in r _ hq
          omega
        · have a1 := spans_in r _ hp
          have a2 := spans_in l o hq
          omega
        · exact spans_nc r _ hp hq
theorem edges_spans : ∀ (t : Tr) (o : Nat) {p : Nat × Nat}, p ∈ edges t o → p ∈ spans t o
  | lf, _, _, h => nomatch h
  | nd l r, o, p, h => by
    rw [edges_nd] at h
    rw [spans_nd]
    rcases List.mem_cons.mp h with rfl | h
    · exact List.mem_cons_self ..
    · refine List.mem_cons_of_mem _ ?_
      rcases List.mem_append.mp h with h | h
      · exact List.mem_append_left _ (edges_spans l o h)
      · exact List.mem_append_right _ (edges_spans r _ h)
theorem sides_spans : ∀ (t : Tr) (o : Nat) {i : Nat}, o ≤ i → i < o + sz t → (i, i + 1) ∈ spans t o
  | lf, o, i, h1, h2 => by
    have : sz lf = 1 := rfl
    have e : i = o := by omega
    subst e
    exact List.mem_singleton.mpr rfl
  | nd l r, o, i, h1, h2 => by
    rw [sz_nd] at h2
    rw [spans_nd]
    refine List.mem_cons_of_mem _ ?_
    by_cases h : i < o + sz l
    · exact List.mem_append_left _ (sides_spans l o h1 h)
    · exact List.mem_append_right _ (sides_spans r _ (by omega) (by omega))
theorem spans_cases : ∀ (t : Tr) (o : Nat) {p : Nat × Nat}, p ∈ spans t o → p ∈ edges t o ∨ p.2 = p.1 + 1
  | lf, o, p, h => by
    have e := List.mem_singleton.mp h
    subst e
    exact Or.inr rfl
  | nd l r, o, p, h => by
    rw [spans_nd] at h
    rw [edges_nd]
    rcases List.mem_cons.mp h with rfl | h
    · exact Or.inl (List.mem_cons_self ..)
    · rcases List.mem_append.mp h with h | h
      · rcases spans_cases l o h with h | h
        · exact Or.inl (List.mem_cons_of_mem _ (List.mem_append_left _ h))
        · exact Or.inr h
      · rcases spans_cases r _ h with h | h
        · exact Or.inl (List.mem_cons_of_mem _ (List.mem_append_right _ h))
        · exact Or.inr h
theorem cuts_edges {t : Tr} {p : Nat × Nat} (h : p ∈ cuts t) : p ∈ edges t 0 := by
  cases t with
  | lf => cases h
  | nd l r =>
    rw [edges_cuts]
    exact List.mem_cons_of_mem _ h
/-- next to each other, or a cut between -/
theorem spans_iff {t : Tr} (h2 : 2 ≤ sz t) {a b : Nat} (hab : a < b) (hb : b ≤ sz t) : (a, b) ∈ spans t 0 ↔ b - a = 1 ∨ b - a = sz t ∨ (a, b) ∈ cuts t := by
  cases t with
  | lf => exact absurd h2 (by decide)
  | nd l r =>
    rw [sz_nd] at hb
    rw [sz_nd]
    constructor
    · intro h
      rcases spans_cases (nd l r) 0 h with h | h
      · rw [edges_cuts] at h
        rcases List.mem_cons.mp h with e | h
        · injection e with e1 e2
          omega
        · exact Or.inr (Or.inr h)
      · simp only at h
        omega
    · intro h
      rcases h with h | h | h
      · have e : b = a + 1 := by omega
        subst e
        exact sides_spans (nd l r) 0 (Nat.zero_le _) (by rw [sz_nd]; omega)
      · have e : a = 0 := by omega
        have e2 : b = sz l + sz r := by omega
        subst e
        subst e2
        exact edges_spans _ _ (by rw [edges_cuts]; exact List.mem_cons_self ..)
      · exact edges_spans _ _ (cuts_edges h)
end Tr

/-- the labels 0, 1, .. -/
def rgI (n : Nat) : List Int := (List.range n).map fun i : Nat => (i : Int)
theorem rgI_length (n : Nat) : (rgI n).length = n := by
  unfold rgI
  rw [List.length_map, List.length_range]
theorem rgI_getD {n i : Nat} (h : i < n) : (rgI n).getD i 0 = (i : Int) := by
  unfold rgI
  rw [List.getD_eq_getElem?_getD, List.getElem?_map, List.getElem?_range h]
  rfl
theorem rgI_rising (n : Nat) : Rising (rgI n) := by
  unfold rgI Rising
  rw [List.pairwise_map]
  exact List.pairwise_lt_range.imp fun h => by omega
theorem lab_rgI {t : Tr} {n : Nat} (hn : n = sz t + 1) : (cuts t).map (lab (rgI n)) = (cuts t).map ip := by
  refine List.map_congr_left fun p hp => ?_
  have := cuts_in hp
  unfold lab ip
  rw [rgI_getD (by omega), rgI_getD (by omega)]
/-- a tree's cuts are a cutting -/
theorem tree_cutting {t : Tr} (h2 : 2 ≤ sz t) {ps : List PI} (h : ps.Perm ((cuts t).map ip)) : isCutting ((sz t + 1 : Nat) : Int) ps = true := by
  rw [isCutting_perm h]
  unfold isCutting
  have h1 : decide ((((cuts t).map ip).length : Int) = ((sz t + 1 : Nat) : Int) - 3) = true := by
    rw [List.length_map]
    have := cuts_len h2
    exact decide_eq_true (by omega)
  have h3 : ((cuts t).map ip).all (isCut ((sz t + 1 : Nat) : Int)) = true := by
    rw [List.all_eq_true]
    intro q hq
    obtain ⟨p, hp, rfl⟩ := List.mem_map.mp hq
    have := cuts_in hp
    unfold isCut ip
    simp only [Bool.and_eq_true, decide_eq_true_eq]
    omega
  have h4 : decide ((cuts t).map ip).Nodup = true := by
    refine decide_eq_true ?_
    exact (cuts_nodup t).map ip fun a b hne e => hne (ip_inj e)
  have h5 : twoCross ((cuts t).map ip) = false := by
    refine twoCross_no fun p hp q hq hc => ?_
    obtain ⟨a, ha, rfl⟩ := List.mem_map.mp hp
    obtain ⟨b, hb, rfl⟩ := List.mem_map.mp hq
    unfold Crs ip at hc
    simp only at hc
    exact spans_nc t 0 (edges_spans _ _ (cuts_edges ha)) (edges_spans _ _ (cuts_edges hb)) (by omega)
  rw [h1, h3, h4, h5]
  rfl
/-- .. of its row -/
theorem tree_counts {t : Tr} (h2 : 2 ≤ sz t) {ps : List PI} (h : ps.Perm ((cuts t).map ip)) {ns : List Int} (hr : Row ns t) : countsOf ns.length ps = ns := by
  refine ext_getD (countsOf_length _ _) fun j hj => ?_
  rw [countsOf_length] at hj
  have hpos : ∀ p ∈ ps, 0 ≤ p.1 ∧ 0 ≤ p.2 := fun p hp => by
    obtain ⟨q, _, rfl⟩ := List.mem_map.mp (h.mem_iff.mp hp)
    unfold ip
    simp only
    omega
  have hl := hr.1
  rw [countsOf_getD hpos hj, ends_perm h, cuts_ends h2 (by omega), hr.2 j hj]
end Fz

/-! Ears shown, two ways; what the reduction of a row tells. -/
namespace Fz
open Tr
/-- whether ears cut off leave what can't be a cutting's: the program's way -/
def bshow : List Int → List Int → List Int → Bool
  | [], _, ns => cannot ns
  | e :: r, left, ns => if e ∈ left ∧ 4 ≤ left.length then (if ns.getD (left.idxOf e) 0 = 1 then bshow r (left.eraseIdx (left.idxOf e)) (cutOff ns (left.idxOf e)) else false) else false
/-- the list begun at its ear, the ear off -/
def rstep (L : List PI) : List PI := ((L.getD 1 (0, 0)).1, (L.getD 1 (0, 0)).2 - 1) :: ((L.drop 2).take (L.length - 3) ++ [((L.getD (L.length - 1) (0, 0)).1, (L.getD (L.length - 1) (0, 0)).2 - 1)])
def turnTo (L : List PI) (i : Nat) : List PI := L.drop i ++ L.take i
/-- the law's way -/
def bdue : List Int → List PI → Bool
  | [], L => cannot (L.map (·.2))
  | e :: r, L => if 4 ≤ L.length ∧ (e, (1 : Int)) ∈ L then bdue r (rstep (turnTo L (L.idxOf (e, (1 : Int))))) else false

theorem nd_inj {l : List Int} (h : l.Nodup) {i j : Nat} (hi : i < l.length) (hj : j < l.length) (e : l[i] = l[j]) : i = j := by
  have hp := List.pairwise_iff_getElem.mp h
  rcases Nat.lt_trichotomy i j with c | c | c
  · exact absurd e (hp i j hi hj c)
  · exact c
  · exact absurd e.symm (hp j i hj hi c)
theorem bshow_cons (e : Int) (r left ns : List Int) : bshow (e :: r) left ns = if e ∈ left ∧ 4 ≤ left.length then (if ns.getD (left.idxOf e) 0 = 1 then bshow r (left.eraseIdx (left.idxOf e)) (cutOff ns (left.idxOf e)) else false) else false := rfl
theorem idxOf_nodup {l : List Int} (h : l.Nodup) {i : Nat} (hi : i < l.length) : l.idxOf (l.getD i 0) = i := by
  have hm : l.getD i 0 ∈ l := getD_mem hi
  have hlt : l.idxOf (l.getD i 0) < l.length := List.idxOf_lt_length_iff.mpr hm
  have e := List.getElem_idxOf hlt
  have e2 : l.getD i 0 = l[i] := by
    rw [List.getD_eq_getElem?_getD, List.getElem?_eq_getElem hi]
    rfl
  exact nd_inj h hlt hi (e.trans e2)
theorem rising_nodup {l : List Int} (h : Rising l) : l.Nodup := h.imp fun a => by omega
/-- what was cut off is shown -/
theorem run_bshow : ∀ (f : Nat) (s : CS), s.left.length = s.nums.length → 3 ≤ s.nums.length → Rising s.left →
    ∃ new, (run f s).ears = s.ears ++ new ∧ ∀ more, bshow (new ++ more) s.left s.nums = bshow more (run f s).left (run f s).nums
  | 0, s, _, _, _ => ⟨[], (List.append_nil _).symm, fun _ => rfl⟩
  | f + 1, s, hl, h3, hr => by
    unfold run
    by_cases hg : go s = true
    · rw [if_pos hg]
      unfold go at hg
      rw [Bool.and_eq_true] at hg
      have h4 : 3 < s.left.length := of_decide_eq_true hg.1
      have hc : cannot s.nums = false := by
        have := hg.2
        cases hb : cannot s.nums with
        | true =>
          rw [hb] at this
          cases this
        | false => rfl
      obtain ⟨hi, h1⟩ := idxOf_one ((cannot_no hc).2.1 (by omega))
      have hil : s.nums.idxOf 1 < s.left.length := by omega
      obtain ⟨new, e1, e2⟩ := run_bshow f (cutAt s (s.nums.idxOf 1)) (by
          show (s.left.eraseIdx _).length = (cutOff s.nums _).length
          rw [cutOff_length hi, List.length_eraseIdx, if_pos hil, hl]) (by
          show 3 ≤ (cutOff s.nums _).length
          rw [cutOff_length hi]
          omega) (rising_erase hr _)
      refine ⟨s.left.getD (s.nums.idxOf 1) 0 :: new, ?_, fun more => ?_⟩
      · rw [e1]
        show s.ears ++ [s.left.getD (s.nums.idxOf 1) 0] ++ new = _
        rw [List.append_assoc]
        rfl
      · rw [← e2 more]
        show bshow (s.left.getD (s.nums.idxOf 1) 0 :: (new ++ more)) s.left s.nums = _
        rw [bshow_cons, idxOf_nodup (rising_nodup hr) hil, if_pos ⟨getD_mem hil, h4⟩, if_pos h1]
        rfl
    · rw [if_neg hg]
      exact ⟨[], (List.append_nil _).symm, fun _ => rfl⟩
/-- an ear that isn't there -/
theorem bshow_no {x : Int} : ∀ (es left ns : List Int), ¬ x ∈ left → bshow (es ++ [x]) left ns = false
  | [], left, ns, h => by
    show bshow [x] left ns = false
    unfold bshow
    rw [if_neg (fun z => h z.1)]
  | e :: r, left, ns, h => by
    show bshow (e :: (r ++ [x])) left ns = false
    unfold bshow
    split
    · split
      · exact bshow_no r _ _ fun hm => h (List.mem_of_mem_eraseIdx hm)
      · rfl
    · rfl

/-! ### the two ways agree -/
/-- the place behind k more places -/
def tw (n k j : Nat) : Nat := if j + k < n then j + k else j + k - n
def IsRot (L : List PI) (left ns : List Int) (k : Nat) : Prop :=
  L.length = left.length ∧ ns.length = left.length ∧ k ≤ left.length ∧ ∀ j, j < left.length → L[j]? = some (left.getD (tw left.length k j) 0, ns.getD (tw left.length k j) 0)
theorem tw_lt {n k j : Nat} (hk : k ≤ n) (hj : j < n) : tw n k j < n := by
  unfold tw
  split <;> omega
theorem tw_surj {n k i : Nat} (hk : k ≤ n) (hi : i < n) : ∃ j, j < n ∧ tw n k j = i := by
  by_cases h : k ≤ i
  · exact ⟨i - k, by omega, by unfold tw; rw [if_pos (by omega)]; omega⟩
  · exact ⟨i + n - k, by omega, by unfold tw; rw [if_neg (by omega)]; omega⟩
theorem turnTo_get {L : List PI} {i j : Nat} (hi : i ≤ L.length) (hj : j < L.length) : (turnTo L i)[j]? = L[tw L.length i j]? := by
  unfold turnTo tw
  rw [List.getElem?_append, List.length_drop]
  by_cases h : j + i < L.length
  · rw [if_pos (by omega), if_pos h, List.getElem?_drop]
    congr 1
    omega
  · rw [if_neg (by omega), if_neg h, List.getElem?_take, if_pos (by omega)]
    congr 1
    omega
theorem turnTo_length (L : List PI) (i : Nat) : (turnTo L i).length = L.length := by
  unfold turnTo
  rw [List.length_append, List.length_drop, List.length_take]
  omega
theorem rot_turn {L : List PI} {left ns : List Int} {k i : Nat} (h : IsRot L left ns k) (hi : i < left.length) : IsRot (turnTo L i) left ns (tw left.length k i) := by
  obtain ⟨h1, h2, h3, h4⟩ := h
  refine ⟨by rw [turnTo_length, h1], h2, Nat.le_of_lt (tw_lt h3 hi), fun j hj => ?_⟩
  rw [turnTo_get (by omega) (by omega), h1, h4 _ (tw_lt (Nat.le_of_lt hi) hj)]
  have e : tw left.length k (tw left.length i j) = tw left.length (tw left.length k i) j := by
    unfold tw
    split <;> split <;> split <;> split <;> omega
  rw [e]
theorem getD_of {L : List PI} {j : Nat} {x : PI} (h : L[j]? = some x) : L.getD j (0, 0) = x := by
  rw [List.getD_eq_getElem?_getD, h]
  rfl
theorem rstep_length {L : List PI} (h : 4 ≤ L.length) : (rstep L).length = L.length - 1 := by
  unfold rstep
  rw [List.length_cons, List.length_append, List.length_take, List.length_drop, List.length_singleton]
  omega
theorem rstep_get {L : List PI} (h : 4 ≤ L.length) {j : Nat} (hj : j + 1 < L.length) : (rstep L)[j]? = some ((L.getD (j + 1) (0, 0)).1, (L.getD (j + 1) (0, 0)).2 - (if j = 0 ∨ j + 2 = L.length then 1 else 0)) := by
  unfold rstep
  by_cases h0 : j = 0
  · subst h0
    rw [if_pos (Or.inl rfl)]
    rfl
  · obtain ⟨i, rfl⟩ : ∃ i, j = i + 1 := ⟨j - 1, by omega⟩
    rw [List.getElem?_cons_succ, List.getElem?_append, List.length_take, List.length_drop]
    by_cases h1 : i + 1 + 2 = L.length
    · rw [if_neg (by omega), if_pos (Or.inr h1)]
      have e : i - min (L.length - 3) (L.length - 2) = 0 := by omega
      have e2 : L.length - 1 = i + 1 + 1 := by omega
      rw [e, e2]
      rfl
    · rw [if_pos (by omega), if_neg (by omega), List.getElem?_take, if_pos (by omega), List.getElem?_drop, Int.sub_zero]
      have e : 2 + i = i + 1 + 1 := by omega
      rw [e]
      have hlt : i + 1 + 1 < L.length := hj
      rw [List.getD_eq_getElem?_getD, List.getElem?_eq_getElem hlt]
      rfl
theorem rot_step {L : List PI} {left ns : List Int} {at_ : Nat} (h : IsRot L left ns at_) (hat : at_ < left.length) (h4 : 4 ≤ left.length) :
    IsRot (rstep L) (left.eraseIdx at_) (cutOff ns at_) at_ := by
  obtain ⟨h1, h2, h3, hg⟩ := h
  have hle : (left.eraseIdx at_).length = left.length - 1 := by rw [List.length_eraseIdx, if_pos hat]
  refine ⟨by rw [rstep_length (by omega), hle, h1], by rw [cutOff_length (by omega), hle, h2], by omega, fun j hj => ?_⟩
  rw [hle] at hj
  rw [rstep_get (by omega) (by omega), getD_of (hg (j + 1) (by omega)), hle, eraseIdx_getD]
  have htw : tw (left.length - 1) at_ j + 1 < left.length := by
    unfold tw
    split <;> omega
  rw [cutOff_getD (by omega) (by omega) (by omega)]
  have e : sh at_ (tw (left.length - 1) at_ j) = tw left.length at_ (j + 1) := by
    unfold sh tw
    split <;> split <;> split <;> omega
  rw [e, h1]
  have e2 : (j = 0 ∨ j + 2 = left.length) ↔ (tw left.length at_ (j + 1) = prv ns.length at_ ∨ tw left.length at_ (j + 1) = nxt ns.length at_) := by
    rw [h2]
    unfold tw prv nxt
    split <;> split <;> split <;> omega
  simp only [e2]
theorem rot_mem {L : List PI} {left ns : List Int} {k : Nat} (h : IsRot L left ns k) (hn : left.Nodup) {e : Int} : (e, (1 : Int)) ∈ L ↔ e ∈ left ∧ ns.getD (left.idxOf e) 0 = 1 := by
  obtain ⟨h1, h2, h3, hg⟩ := h
  constructor
  · intro hm
    obtain ⟨j, hj, he⟩ := List.mem_iff_getElem?.mp hm |>.imp fun j hj => (⟨(List.getElem?_eq_some_iff.mp hj).1, hj⟩ : j < L.length ∧ L[j]? = some (e, (1 : Int)))
    have q := hg j (by omega)
    rw [he] at q
    have q2 := Option.some.inj q
    injection q2 with a b
    have hlt := tw_lt (n := left.length) (k := k) (j := j) h3 (by omega)
    refine ⟨by rw [a]; exact getD_mem hlt, ?_⟩
    rw [a, idxOf_nodup hn hlt, ← b]
  · intro ⟨hm, hv⟩
    have hlt : left.idxOf e < left.length := List.idxOf_lt_length_iff.mpr hm
    obtain ⟨j, hj, ej⟩ := tw_surj h3 hlt
    have q := hg j hj
    rw [ej, hv] at q
    have ee : left.getD (left.idxOf e) 0 = e := by
      rw [List.getD_eq_getElem?_getD, List.getElem?_eq_getElem hlt]
      exact List.getElem_idxOf hlt
    rw [ee] at q
    exact List.mem_iff_getElem?.mpr ⟨j, q⟩
theorem rot_at {L : List PI} {left ns : List Int} {k : Nat} (h : IsRot L left ns k) (hn : left.Nodup) {e : Int} (hm : (e, (1 : Int)) ∈ L) :
    L.idxOf (e, (1 : Int)) < left.length ∧ tw left.length k (L.idxOf (e, (1 : Int))) = left.idxOf e := by
  obtain ⟨h1, h2, h3, hg⟩ := h
  have hlt : L.idxOf (e, (1 : Int)) < L.length := List.idxOf_lt_length_iff.mpr hm
  have q := hg (L.idxOf (e, (1 : Int))) (by omega)
  rw [List.getElem?_eq_getElem hlt, List.getElem_idxOf hlt] at q
  injection Option.some.inj q with a b
  have hl := tw_lt (n := left.length) (k := k) (j := L.idxOf (e, (1 : Int))) h3 (by omega)
  have c := idxOf_nodup hn hl
  rw [← a] at c
  exact ⟨by omega, c.symm⟩
theorem three_ones {ns : List Int} : ns = [1, 1, 1] ↔ ns.length = 3 ∧ ∀ z ∈ ns, z = 1 := by
  constructor
  · rintro rfl
    refine ⟨rfl, fun z hz => ?_⟩
    simp at hz
    exact hz
  · intro ⟨h, hz⟩
    match ns, h with
    | [a, b, c], _ =>
      have ha := hz a (by simp)
      have hb := hz b (by simp)
      have hc := hz c (by simp)
      rw [ha, hb, hc]
theorem cannot_mem {a b : List Int} (hl : a.length = b.length) (hm : ∀ z, z ∈ a ↔ z ∈ b) : cannot a = cannot b := by
  have any_eq : ∀ f : Int → Bool, a.any f = b.any f := fun f => by
    rw [Bool.eq_iff_iff, List.any_eq_true, List.any_eq_true]
    exact ⟨fun ⟨x, hx, h⟩ => ⟨x, (hm x).mp hx, h⟩, fun ⟨x, hx, h⟩ => ⟨x, (hm x).mpr hx, h⟩⟩
  unfold cannot
  have e : decide (a = [1, 1, 1]) = decide (b = [1, 1, 1]) := by
    refine decide_eq_decide.mpr ?_
    rw [three_ones, three_ones, hl]
    exact ⟨fun ⟨x, y⟩ => ⟨x, fun z hz => y z ((hm z).mpr hz)⟩, fun ⟨x, y⟩ => ⟨x, fun z hz => y z ((hm z).mp hz)⟩⟩
  rw [any_eq, any_eq, e, hl]
theorem rot_cannot {L : List PI} {left ns : List Int} {k : Nat} (h : IsRot L left ns k) : cannot (L.map (·.2)) = cannot ns := by
  obtain ⟨h1, h2, h3, hg⟩ := h
  refine cannot_mem (by rw [List.length_map]; omega) fun z => ?_
  constructor
  · intro hz
    obtain ⟨p, hp, rfl⟩ := List.mem_map.mp hz
    obtain ⟨j, hj⟩ := List.mem_iff_getElem?.mp hp
    have hlt := (List.getElem?_eq_some_iff.mp hj).1
    rw [hg j (by omega)] at hj
    rw [← Option.some.inj hj]
    exact getD_mem (by rw [h2]; exact tw_lt h3 (by omega))
  · intro hz
    obtain ⟨i, hi, e⟩ := mem_getD hz
    obtain ⟨j, hj, ej⟩ := tw_surj (k := k) h3 (i := i) (by omega)
    have q := hg j hj
    rw [ej, e] at q
    exact List.mem_map.mpr ⟨_, List.mem_iff_getElem?.mpr ⟨j, q⟩, rfl⟩
theorem bdue_bshow : ∀ (es : List Int) (L : List PI) (left ns : List Int) (k : Nat), IsRot L left ns k → left.Nodup → bdue es L = bshow es left ns
  | [], L, left, ns, k, h, hn => rot_cannot h
  | e :: r, L, left, ns, k, h, hn => by
    unfold bdue bshow
    rw [h.1]
    by_cases hm : (e, (1 : Int)) ∈ L
    · obtain ⟨m1, m2⟩ := (rot_mem h hn).mp hm
      by_cases h4 : 4 ≤ left.length
      · rw [if_pos ⟨h4, hm⟩, if_pos ⟨m1, h4⟩, if_pos m2]
        obtain ⟨a1, a2⟩ := rot_at h hn hm
        have hr := rot_turn h a1
        rw [a2] at hr
        have hlt : left.idxOf e < left.length := List.idxOf_lt_length_iff.mpr m1
        exact bdue_bshow r _ _ _ _ (rot_step hr hlt h4) (hn.sublist (List.eraseIdx_sublist ..))
      · rw [if_neg (fun z => h4 z.1), if_neg (fun z => h4 z.2)]
    · rw [if_neg (fun z => hm z.2)]
      by_cases hc : e ∈ left ∧ 4 ≤ left.length
      · rw [if_pos hc]
        by_cases hv : ns.getD (left.idxOf e) 0 = 1
        · exact absurd ((rot_mem h hn).mpr ⟨hc.1, hv⟩) hm
        · rw [if_neg hv]
      · rw [if_neg hc]
/-- a row's numbers with their places -/
def withPlaces (ns : List Int) : List PI := (List.range ns.length).map fun i : Nat => ((i : Int), ns.getD i 0)
theorem rot_start (ns : List Int) : IsRot (withPlaces ns) (rgI ns.length) ns 0 := by
  refine ⟨?_, ?_, Nat.zero_le _, fun j hj => ?_⟩
  · unfold withPlaces
    rw [List.length_map, List.length_range, rgI_length]
  · rw [rgI_length]
  · rw [rgI_length] at hj
    have e : tw (rgI ns.length).length 0 j = j := by
      rw [rgI_length]
      unfold tw
      rw [if_pos (by omega)]
      omega
    rw [e, rgI_getD hj]
    unfold withPlaces
    rw [List.getElem?_map, List.getElem?_range hj]
    rfl
theorem bdue_eq (es ns : List Int) : bdue es (withPlaces ns) = bshow es (rgI ns.length) ns := bdue_bshow es _ _ _ 0 (rot_start ns) (rising_nodup (rgI_rising _))

/-! ### what a row tells -/
def start (ns : List Int) : CS := ⟨rgI ns.length, ns, [], []⟩
def fin (ns : List Int) : CS := run ns.length (start ns)
theorem fin_len : ∀ (f : Nat) (s : CS), s.left.length = s.nums.length → 3 ≤ s.nums.length → (run f s).left.length = (run f s).nums.length ∧ 3 ≤ (run f s).nums.length
  | 0, s, hl, h3 => ⟨hl, h3⟩
  | f + 1, s, hl, h3 => by
    unfold run
    by_cases hg : go s = true
    · rw [if_pos hg]
      unfold go at hg
      rw [Bool.and_eq_true] at hg
      have h4 : 3 < s.left.length := of_decide_eq_true hg.1
      have hc : cannot s.nums = false := by
        have := hg.2
        cases hb : cannot s.nums with
        | true =>
          rw [hb] at this
          cases this
        | false => rfl
      obtain ⟨hi, h1⟩ := idxOf_one ((cannot_no hc).2.1 (by omega))
      refine fin_len f (cutAt s (s.nums.idxOf 1)) ?_ ?_
      · show (s.left.eraseIdx _).length = (cutOff s.nums _).length
        rw [cutOff_length hi, List.length_eraseIdx, if_pos (by omega), hl]
      · show 3 ≤ (cutOff s.nums _).length
        rw [cutOff_length hi]
        omega
    · rw [if_neg hg]
      exact ⟨hl, h3⟩
/-- it ends -/
theorem fin_stop : ∀ (f : Nat) (s : CS), s.left.length = s.nums.length → 3 ≤ s.nums.length → s.nums.length ≤ f + 3 → go (run f s) = false
  | 0, s, hl, h3, hf => by
    show go s = false
    unfold go
    rw [decide_eq_false (by omega)]
    rfl
  | f + 1, s, hl, h3, hf => by
    unfold run
    by_cases hg : go s = true
    · rw [if_pos hg]
      unfold go at hg
      rw [Bool.and_eq_true] at hg
      have h4 : 3 < s.left.length := of_decide_eq_true hg.1
      have hc : cannot s.nums = false := by
        have := hg.2
        cases hb : cannot s.nums with
        | true =>
          rw [hb] at this
          cases this
        | false => rfl
      obtain ⟨hi, h1⟩ := idxOf_one ((cannot_no hc).2.1 (by omega))
      refine fin_stop f (cutAt s (s.nums.idxOf 1)) ?_ ?_ ?_
      · show (s.left.eraseIdx _).length = (cutOff s.nums _).length
        rw [cutOff_length hi, List.length_eraseIdx, if_pos (by omega), hl]
      · show 3 ≤ (cutOff s.nums _).length
        rw [cutOff_length hi]
        omega
      · show (cutOff s.nums _).length ≤ f + 3
        rw [cutOff_length hi]
        omega
    · rw [if_neg hg]
      cases hb : go s with
      | true => exact absurd hb hg
      | false => rfl
theorem fin_ones {ns : List Int} (h3 : 3 ≤ ns.length) : (cannot (fin ns).nums = false) ↔ (fin ns).nums = [1, 1, 1] := by
  have hl : (start ns).left.length = (start ns).nums.length := rgI_length _
  have hs := fin_stop ns.length (start ns) hl h3 (Nat.le_add_right _ 3)
  obtain ⟨h1, h2⟩ := fin_len ns.length (start ns) hl h3
  constructor
  · intro hc
    have hc' : cannot (run ns.length (start ns)).nums = false := hc
    unfold go at hs
    rw [hc'] at hs
    have h4 : ¬ 3 < (run ns.length (start ns)).left.length := by
      intro z
      rw [decide_eq_true z] at hs
      cases hs
    exact (cannot_no hc').2.2 (by omega)
  · intro e
    rw [e]
    rfl
/-- a row is a cutting's, and it is told -/
theorem fin_tree {ns : List Int} (h3 : 3 ≤ ns.length) (h : cannot (fin ns).nums = false) : ∃ t, 2 ≤ sz t ∧ Row ns t ∧ (fin ns).cuts.Perm ((cuts t).map ip) := by
  obtain ⟨t, h2, hr, new, e1, e2⟩ := run_up ns.length (start ns) (rgI_length _) h3 (rgI_rising _) ((fin_ones h3).mp h)
  have hr' : Row ns t := hr
  refine ⟨t, h2, hr', ?_⟩
  have e3 : (cuts t).map (lab (start ns).left) = (cuts t).map ip := lab_rgI hr'.1
  rw [e3] at e2
  have e4 : (fin ns).cuts = [] ++ new := e1
  rw [e4]
  exact e2
theorem fin_cutting {ns : List Int} (h3 : 3 ≤ ns.length) (h : cannot (fin ns).nums = false) : isCutting (ns.length : Int) (srt (fin ns).cuts) = true ∧ countsOf ns.length (srt (fin ns).cuts) = ns := by
  obtain ⟨t, h2, hr, hp⟩ := fin_tree h3 h
  have hp' := (srt_perm _).trans hp
  refine ⟨?_, tree_counts h2 hp' hr⟩
  have e := tree_cutting h2 hp'
  rw [← hr.1] at e
  exact e
/-- a tree's row: its own cuts are told -/
theorem fin_row {ns : List Int} {t : Tr} (h2 : 2 ≤ sz t) (hr : Row ns t) : cannot (fin ns).nums = false := by
  have h3 : 3 ≤ ns.length := by
    have := hr.1
    omega
  refine (fin_ones h3).mpr (run_row ns.length (start ns) t (rgI_length _) h3 (Nat.le_add_right _ 3) hr)
theorem fin_barred {ns : List Int} (h3 : 3 ≤ ns.length) (h : cannot (fin ns).nums = true) : bshow (fin ns).ears (rgI ns.length) ns = true := by
  obtain ⟨new, e1, e2⟩ := run_bshow ns.length (start ns) (rgI_length _) h3 (rgI_rising _)
  have q := e2 []
  rw [List.append_nil] at q
  have e3 : (fin ns).ears = [] ++ new := e1
  rw [e3, List.nil_append]
  have q' : bshow new (rgI ns.length) ns = cannot (fin ns).nums := q
  rw [q', h]
theorem bshow_more (es ns : List Int) : bshow (es ++ [(ns.length : Int)]) (rgI ns.length) ns = false := by
  refine bshow_no es _ _ fun hm => ?_
  unfold rgI at hm
  obtain ⟨i, hi, e⟩ := List.mem_map.mp hm
  have := List.mem_range.mp hi
  have e' : (i : Int) = (ns.length : Int) := e
  omega
/-- a cutting's ends, by the law's words -/
def cutDue (ns : List Int) (ps : List PI) : Bool := isCutting (ns.length : Int) ps && decide (countsOf ns.length ps = ns)
theorem cutDue_more {ns : List Int} {ps : List PI} (h : cutDue ns ps = true) (x : PI) : isCutting (ns.length : Int) (ps ++ [x]) = false := by
  unfold cutDue isCutting at h
  simp only [Bool.and_eq_true, decide_eq_true_eq] at h
  have h1 := h.1.1.1.1
  unfold isCutting
  have e : decide (((ps ++ [x]).length : Int) = (ns.length : Int) - 3) = false := by
    rw [List.length_append, List.length_singleton]
    exact decide_eq_false (by omega)
  rw [e]
  rfl
end Fz

/-! What the laws draw. -/
namespace Fz
open Tr
def primesL : List Int := [1000003, 1000033, 1000037, 1000039, 1000081, 1000099, 1000117, 1000121, 1000133, 1000151, 1000159, 1000171, 1000183, 1000187, 1000193, 1000199]
def drawV (c : Int) (k : Nat) (m : Int) : Int := ((c * 48271 + (k : Int) * 69621).fmod (primesL.getD (k % 16) 0)).fmod m
theorem drawV_lt {c : Int} {k : Nat} {m : Int} (h : 0 < m) : 0 ≤ drawV c k m ∧ drawV c k m < m := ⟨Int.fmod_nonneg_of_pos _ h, Int.fmod_lt_of_pos _ h⟩
theorem prime_ne {k : Nat} (h : k < 16) : primesL.getD k 0 ≠ 0 := by
  have h2 : ∀ k : Fin 16, primesL.getD k.val 0 ≠ 0 := by decide
  exact h2 ⟨k, h⟩
def valueV (c : Int) (k : Nat) (most : Int) : Int :=
  if 10 ^ 18 ≤ c then ((c - 10 ^ 18).fmod (10 ^ 60)) / 2 * (1 - ((c - 10 ^ 18).fmod (10 ^ 60)).fmod 2 * 2)
  else drawV ((c + 977 * (k : Int)) * (c + 31 * (k : Int) + 5)) (k % 9 + 1) (2 * most + 1) - most
theorem rest_lt (c : Int) : 0 ≤ (c - 10 ^ 18).fmod (10 ^ 60) ∧ (c - 10 ^ 18).fmod (10 ^ 60) < 10 ^ 60 := ⟨Int.fmod_nonneg_of_pos _ (by decide), Int.fmod_lt_of_pos _ (by decide)⟩
theorem p60 : (10 : Int) ^ 60 < 2 ^ 200 := by decide
theorem half_lt (c : Int) : (((c - 10 ^ 18).fmod (10 ^ 60)) / 2).natAbs < 2 ^ 200 := by
  obtain ⟨h1, h2⟩ := rest_lt c
  have h3 := p60
  generalize (c - 10 ^ 18).fmod (10 ^ 60) = r at *
  generalize hp : (10 : Int) ^ 60 = p at *
  have e : ((2 ^ 200 : Nat) : Int) = (2 : Int) ^ 200 := by decide
  generalize (2 : Int) ^ 200 = q at *
  generalize (2 : Nat) ^ 200 = n at *
  omega
theorem sgn_cases (r : Int) : (1 - r.fmod 2 * 2) = 1 ∨ (1 - r.fmod 2 * 2) = -1 := by
  have h1 : 0 ≤ r.fmod 2 := Int.fmod_nonneg_of_pos _ (by decide)
  have h2 : r.fmod 2 < 2 := Int.fmod_lt_of_pos _ (by decide)
  omega
theorem valueV_lt {c : Int} {k : Nat} {most : Int} (h0 : 0 ≤ most) (h1 : most ≤ 400000) : (valueV c k most).natAbs < 2 ^ 200 := by
  unfold valueV
  by_cases h : 10 ^ 18 ≤ c
  · rw [if_pos h, Int.natAbs_mul]
    have e := half_lt c
    rcases sgn_cases ((c - 10 ^ 18).fmod (10 ^ 60)) with q | q
    · rw [q]
      simpa using e
    · rw [q]
      simpa using e
  · rw [if_neg h]
    obtain ⟨a, b⟩ := drawV_lt (c := (c + 977 * (k : Int)) * (c + 31 * (k : Int) + 5)) (k := k % 9 + 1) (m := 2 * most + 1) (by omega)
    have e : (1000000 : Nat) < 2 ^ 200 := by decide
    generalize drawV ((c + 977 * (k : Int)) * (c + 31 * (k : Int) + 5)) (k % 9 + 1) (2 * most + 1) = d at *
    generalize (2 : Nat) ^ 200 = n at *
    omega
def grow1 (ns : List Int) (c : Nat) : List Int := (List.range ns.length).map fun i => ns.getD i 0 + (if i = c ∨ i = nxt ns.length c then 1 else 0)
def growL (ns : List Int) (c : Nat) : List Int := ((grow1 ns c).take (c + 1) ++ [1]) ++ (grow1 ns c).drop (c + 1)
theorem grow1_length (ns : List Int) (c : Nat) : (grow1 ns c).length = ns.length := by simp [grow1]
theorem growL_length (ns : List Int) (c : Nat) : (growL ns c).length = ns.length + 1 := by
  unfold growL
  rw [List.length_append, List.length_append, List.length_take, List.length_drop, grow1_length]
  simp
  omega
theorem growL_lt {ns : List Int} {c b : Nat} (h : ∀ z ∈ ns, z.natAbs ≤ b) (hb : 1 ≤ b) : ∀ z ∈ growL ns c, z.natAbs ≤ b + 1 := by
  have h1 : ∀ z ∈ grow1 ns c, z.natAbs ≤ b + 1 := fun z hz => by
    unfold grow1 at hz
    obtain ⟨i, hi, rfl⟩ := List.mem_map.mp hz
    have hi' := List.mem_range.mp hi
    have := h _ (getD_mem hi')
    by_cases hc : i = c ∨ i = nxt ns.length c
    · rw [if_pos hc]
      omega
    · rw [if_neg hc]
      omega
  intro z hz
  unfold growL at hz
  rcases List.mem_append.mp hz with hz | hz
  · rcases List.mem_append.mp hz with hz | hz
    · exact h1 z (List.mem_of_mem_take hz)
    · rw [List.mem_singleton.mp hz]
      show 1 ≤ _
      omega
  · exact h1 z (List.mem_of_mem_drop hz)
end Fz

/-! The numbers from a corner on. -/
namespace Fz
open Tr
def con2 (a : Nat → Int) : Nat → Int × Int
  | 0 => (0, 1)
  | j + 1 => ((con2 a j).2, a (j + 1) * (con2 a j).2 - (con2 a j).1)
def con (a : Nat → Int) (j : Nat) : Int := (con2 a j).1
theorem con2_snd (a : Nat → Int) (j : Nat) : (con2 a j).2 = con a (j + 1) := rfl
theorem con_0 (a : Nat → Int) : con a 0 = 0 := rfl
theorem con_1 (a : Nat → Int) : con a 1 = 1 := rfl
theorem con_rec (a : Nat → Int) (j : Nat) : con a (j + 2) = a (j + 1) * con a (j + 1) - con a j := rfl
theorem con_congr2 {a b : Nat → Int} : ∀ {j : Nat}, (∀ i, 1 ≤ i → i ≤ j → a i = b i) → con a j = con b j ∧ con a (j + 1) = con b (j + 1)
  | 0, _ => ⟨rfl, rfl⟩
  | j + 1, h => by
    obtain ⟨h0, h1⟩ := con_congr2 (j := j) fun i hi hj => h i hi (by omega)
    refine ⟨h1, ?_⟩
    rw [con_rec, con_rec, h1, h0, h (j + 1) (by omega) (by omega)]
theorem con_congr {a b : Nat → Int} {j : Nat} (h : ∀ i, 1 ≤ i → i < j → a i = b i) : con a j = con b j := by
  cases j with
  | zero => rfl
  | succ j => exact (con_congr2 (j := j) fun i h1 h2 => h i h1 (by omega)).2
/-- two rows of numbers of one sequence, d places apart -/
theorem con_wr (a : Nat → Int) (d : Nat) : ∀ s : Nat, con a (d + s) * con (fun j => a (d + j)) (s + 1) - con a (d + s + 1) * con (fun j => a (d + j)) s = con a d
  | 0 => by
    rw [con_1, con_0]
    simp
  | s + 1 => by
    have ih := con_wr a d s
    have e1 : con a (d + (s + 1) + 1) = a (d + s + 1) * con a (d + s + 1) - con a (d + s) := con_rec a (d + s)
    have e2 : con (fun j => a (d + j)) (s + 1 + 1) = a (d + s + 1) * con (fun j => a (d + j)) (s + 1) - con (fun j => a (d + j)) s := con_rec (fun j => a (d + j)) s
    have e3 : con a (d + (s + 1)) = con a (d + s + 1) := rfl
    rw [e1, e2, e3]
    generalize con a (d + s + 1) = p at *
    generalize con (fun j => a (d + j)) (s + 1) = q at *
    generalize con a (d + s) = u at *
    generalize con (fun j => a (d + j)) s = v at *
    rw [← ih]
    grind
theorem con_pt (a : Nat → Int) (d e : Nat) : ∀ s : Nat, con a (d + e) * con (fun j => a (d + j)) (e + s) = con a d * con (fun j => a (d + e + j)) s + con a (d + e + s) * con (fun j => a (d + j)) e ∧
    con a (d + e) * con (fun j => a (d + j)) (e + s + 1) = con a d * con (fun j => a (d + e + j)) (s + 1) + con a (d + e + s + 1) * con (fun j => a (d + j)) e
  | 0 => by
    constructor
    · rw [con_0]
      simp
    · rw [con_1]
      have := con_wr a d e
      have e0 : e + 0 + 1 = e + 1 := rfl
      have e1 : d + e + 0 + 1 = d + e + 1 := rfl
      rw [e0, e1]
      omega
  | s + 1 => by
    obtain ⟨h1, h2⟩ := con_pt a d e s
    refine ⟨h2, ?_⟩
    have e1 : con (fun j => a (d + j)) (e + (s + 1) + 1) = a (d + e + s + 1) * con (fun j => a (d + j)) (e + s + 1) - con (fun j => a (d + j)) (e + s) := by
      have := con_rec (fun j => a (d + j)) (e + s)
      rw [show d + e + s + 1 = d + (e + s + 1) by omega]
      exact this
    have e2 : con (fun j => a (d + e + j)) (s + 1 + 1) = a (d + e + s + 1) * con (fun j => a (d + e + j)) (s + 1) - con (fun j => a (d + e + j)) s := con_rec (fun j => a (d + e + j)) s
    have e3 : con a (d + e + (s + 1) + 1) = a (d + e + s + 1) * con a (d + e + s + 1) - con a (d + e + s) := con_rec a (d + e + s)
    rw [e1, e2, e3]
    generalize con (fun j => a (d + j)) (e + s + 1) = p at *
    generalize con (fun j => a (d + j)) (e + s) = q at *
    generalize con (fun j => a (d + e + j)) (s + 1) = r at *
    generalize con (fun j => a (d + e + j)) s = u at *
    generalize con a (d + e + s + 1) = x at *
    generalize con a (d + e + s) = y at *
    generalize con a (d + e) = z at *
    generalize con (fun j => a (d + j)) e = w at *
    generalize con a d = v at *
    generalize a (d + e + s + 1) = b at *
    grind
/-- the row's numbers in turn, from a corner -/
def rowSeq (ns : List Int) (c j : Nat) : Int := ns.getD ((c + j) % ns.length) 0
def btw (ns : List Int) (c s : Nat) : Int := con (rowSeq ns c) s
def numsF (ns : List Int) (c s : Nat) : List Int := (List.range (s + 1)).map (btw ns c)
theorem btw_mod (ns : List Int) (c s : Nat) : btw ns (c % ns.length) s = btw ns c s := by
  unfold btw
  congr 1
  funext j
  unfold rowSeq
  rw [Nat.mod_add_mod]
theorem rowSeq_add (ns : List Int) (c d : Nat) : (fun j => rowSeq ns c (d + j)) = rowSeq ns (c + d) := by
  funext j
  unfold rowSeq
  rw [Nat.add_assoc]
/-- of four places the six numbers -/
theorem btw_four (ns : List Int) (c d e s : Nat) : btw ns c (d + e) * btw ns (c + d) (e + s) = btw ns c d * btw ns (c + d + e) s + btw ns c (d + e + s) * btw ns (c + d) e := by
  have h := (con_pt (rowSeq ns c) d e s).1
  rw [rowSeq_add, rowSeq_add] at h
  have e1 : c + (d + e) = c + d + e := by omega
  rw [e1] at h
  exact h
theorem btw_rec (ns : List Int) (c j : Nat) : btw ns c (j + 2) = ns.getD ((c + (j + 1)) % ns.length) 0 * btw ns c (j + 1) - btw ns c j := con_rec _ _
theorem btw_bound {ns : List Int} {b : Nat} (h : ∀ z ∈ ns, z.natAbs < 2 ^ b) (c : Nat) : ∀ j : Nat, (btw ns c j).natAbs < 2 ^ ((b + 1) * j + 1) ∧ (btw ns c (j + 1)).natAbs < 2 ^ ((b + 1) * (j + 1) + 1)
  | 0 => by
    constructor
    · show (0 : Int).natAbs < _
      exact Nat.pow_pos (by decide)
    · show (1 : Int).natAbs < _
      refine Nat.one_lt_two_pow ?_
      omega
  | j + 1 => by
    obtain ⟨h1, h2⟩ := btw_bound h c j
    refine ⟨h2, ?_⟩
    rw [btw_rec]
    have ha : (ns.getD ((c + (j + 1)) % ns.length) 0).natAbs < 2 ^ b := by
      by_cases hl : (c + (j + 1)) % ns.length < ns.length
      · exact h _ (getD_mem hl)
      · rw [List.getD_eq_getElem?_getD, List.getElem?_eq_none (by omega)]
        exact Nat.pow_pos (by decide)
    have hm : (ns.getD ((c + (j + 1)) % ns.length) 0 * btw ns c (j + 1)).natAbs < 2 ^ (b + ((b + 1) * (j + 1) + 1)) := by
      rw [Int.natAbs_mul, Nat.pow_add]
      exact Nat.mul_lt_mul'' ha h2
    have h3 : 2 ^ ((b + 1) * j + 1) ≤ 2 ^ (b + ((b + 1) * (j + 1) + 1)) := Nat.pow_le_pow_right (by decide) (by
      have : (b + 1) * (j + 1) = (b + 1) * j + (b + 1) := Nat.mul_succ _ _
      omega)
    have h4 : 2 ^ ((b + 1) * (j + 1 + 1) + 1) = 2 * 2 ^ (b + ((b + 1) * (j + 1) + 1)) := by
      rw [← Nat.pow_succ']
      congr 1
      have : (b + 1) * (j + 1 + 1) = (b + 1) * (j + 1) + (b + 1) := Nat.mul_succ _ _
      omega
    rw [h4]
    generalize 2 ^ (b + ((b + 1) * (j + 1) + 1)) = n at *
    generalize 2 ^ ((b + 1) * j + 1) = m at *
    omega
/-! ### vectors at the corners of a tree -/
def Dt (u v : Int × Int) : Int := u.1 * v.2 - u.2 * v.1
def vts : Tr → Int × Int → Int × Int → Nat → Int × Int
  | lf, p, q, i => if i = 0 then p else q
  | nd l r, p, q, i => if i ≤ sz l then vts l p (p.1 + q.1, p.2 + q.2) i else vts r (p.1 + q.1, p.2 + q.2) q (i - sz l)
theorem vts_0 : ∀ (t : Tr) (p q : Int × Int), vts t p q 0 = p
  | lf, p, q => rfl
  | nd l r, p, q => by
    unfold vts
    rw [if_pos (Nat.zero_le _), vts_0 l]
theorem vts_sz : ∀ (t : Tr) (p q : Int × Int), vts t p q (sz t) = q
  | lf, p, q => rfl
  | nd l r, p, q => by
    have := sz_pos r
    unfold vts
    rw [sz_nd, if_neg (by omega), show sz l + sz r - sz l = sz r by omega, vts_sz r]
theorem vts_l {l r : Tr} {p q : Int × Int} {i : Nat} (h : i ≤ sz l) : vts (nd l r) p q i = vts l p (p.1 + q.1, p.2 + q.2) i := by
  show (if i ≤ sz l then _ else _) = _
  rw [if_pos h]
theorem vts_r {l r : Tr} {p q : Int × Int} {i : Nat} (h : sz l ≤ i) : vts (nd l r) p q i = vts r (p.1 + q.1, p.2 + q.2) q (i - sz l) := by
  show (if i ≤ sz l then _ else _) = _
  by_cases e : i = sz l
  · subst e
    rw [if_pos (Nat.le_refl _), vts_sz, Nat.sub_self, vts_0]
  · rw [if_neg (by omega)]
/-- x + z = c y, for vectors -/
def Mid (x : Int × Int) (c : Int) (y z : Int × Int) : Prop := x.1 + z.1 = c * y.1 ∧ x.2 + z.2 = c * y.2
theorem vts_mid : ∀ (t : Tr) (p q : Int × Int), (∀ i, i + 2 ≤ sz t → Mid (vts t p q i) (cnt t (i + 1)) (vts t p q (i + 1)) (vts t p q (i + 2))) ∧ Mid (-q.1, -q.2) (cnt t 0) p (vts t p q 1) ∧ Mid (vts t p q (sz t - 1)) (cnt t (sz t)) q (-p.1, -p.2)
  | lf, p, q => by
    refine ⟨fun i h => absurd h (by show ¬ i + 2 ≤ 1; omega), ?_, ?_⟩
    · show -q.1 + q.1 = 0 * p.1 ∧ -q.2 + q.2 = 0 * p.2
      omega
    · show p.1 + -p.1 = 0 * q.1 ∧ p.2 + -p.2 = 0 * q.2
      omega
  | nd l r, p, q => by
    obtain ⟨a1, a2, a3⟩ := vts_mid l p (p.1 + q.1, p.2 + q.2)
    obtain ⟨b1, b2, b3⟩ := vts_mid r (p.1 + q.1, p.2 + q.2) q
    have hl := sz_pos l
    have hr := sz_pos r
    refine ⟨fun i h => ?_, ?_, ?_⟩
    · rw [sz_nd] at h
      rcases Nat.lt_trichotomy (i + 1) (sz l) with c | c | c
      · rw [vts_l (by omega), vts_l (by omega), vts_l (by omega)]
        have e : cnt (nd l r) (i + 1) = cnt l (i + 1) := by
          rw [cnt_nd, if_pos (by omega), if_neg (by omega), if_neg (by omega)]
          omega
        rw [e]
        exact a1 i (by omega)
      · have e : cnt (nd l r) (i + 1) = cnt l (sz l) + cnt r 0 + 1 := by
          rw [cnt_nd, if_pos (by omega), if_pos (by omega), if_pos (by omega), c, Nat.sub_self]
        rw [e, vts_l (i := i) (by omega), vts_l (i := i + 1) (by omega), vts_r (i := i + 2) (by omega)]
        rw [show i + 2 - sz l = 1 by omega, c, vts_sz]
        have e2 : i = sz l - 1 := by omega
        rw [e2]
        unfold Mid at a3 b2 ⊢
        generalize vts l p (p.1 + q.1, p.2 + q.2) (sz l - 1) = x at *
        generalize vts r (p.1 + q.1, p.2 + q.2) q 1 = z at *
        generalize cnt l (sz l) = s at *
        generalize cnt r 0 = t at *
        obtain ⟨a31, a32⟩ := a3
        obtain ⟨b21, b22⟩ := b2
        simp only at a31 a32 b21 b22 ⊢
        constructor
        · grind
        · grind
      · rw [vts_r (i := i) (by omega), vts_r (i := i + 1) (by omega), vts_r (i := i + 2) (by omega)]
        have e : cnt (nd l r) (i + 1) = cnt r (i - sz l + 1) := by
          rw [cnt_nd, if_neg (by omega), if_pos (by omega), if_neg (by omega), show i + 1 - sz l = i - sz l + 1 by omega]
          omega
        rw [e, show i + 1 - sz l = i - sz l + 1 by omega, show i + 2 - sz l = i - sz l + 2 by omega]
        exact b1 (i - sz l) (by omega)
    · have e : cnt (nd l r) 0 = cnt l 0 + 1 := by
        rw [cnt_nd, if_pos (Nat.zero_le _), if_neg (by omega), if_pos (Or.inl rfl)]
        omega
      rw [e, vts_l (by omega)]
      unfold Mid at a2 ⊢
      generalize vts l p (p.1 + q.1, p.2 + q.2) 1 = z at *
      generalize cnt l 0 = s at *
      obtain ⟨a21, a22⟩ := a2
      simp only at a21 a22 ⊢
      constructor
      · grind
      · grind
    · have e : cnt (nd l r) (sz (nd l r)) = cnt r (sz r) + 1 := by
        rw [cnt_nd, sz_nd, if_neg (by omega), if_pos (by omega), if_pos (Or.inr (Or.inr rfl)), show sz l + sz r - sz l = sz r by omega]
        omega
      rw [e, sz_nd, vts_r (by omega), show sz l + sz r - 1 - sz l = sz r - 1 by omega]
      unfold Mid at b3 ⊢
      generalize vts r (p.1 + q.1, p.2 + q.2) q (sz r - 1) = x at *
      generalize cnt r (sz r) = s at *
      obtain ⟨b31, b32⟩ := b3
      simp only at b31 b32 ⊢
      constructor
      · grind
      · grind
end Fz

/-! The table of a cutting's row; a grown row's numbers. -/
namespace Fz
open Tr
theorem Dt_pl (u v p q : Int × Int) : Dt u v * Dt p q = Dt u q * Dt p v - Dt p u * Dt v q := by
  unfold Dt
  grind
theorem spans_nd_iff {l r : Tr} {o a b : Nat} : (a, b) ∈ spans (nd l r) o ↔ (a = o ∧ b = o + sz l + sz r) ∨ (a, b) ∈ spans l o ∨ (a, b) ∈ spans r (o + sz l) := by
  rw [spans_nd, List.mem_cons, List.mem_append]
  constructor
  · rintro (h | h)
    · injection h with h1 h2
      exact Or.inl ⟨h1, h2⟩
    · exact Or.inr h
  · rintro (⟨h1, h2⟩ | h)
    · subst h1
      subst h2
      exact Or.inl rfl
    · exact Or.inr h
theorem vts_det : ∀ (t : Tr) (p q : Int × Int), Dt p q = 1 → ∀ (o i j : Nat), i < j → j ≤ sz t → 1 ≤ Dt (vts t p q i) (vts t p q j) ∧ (Dt (vts t p q i) (vts t p q j) = 1 ↔ (o + i, o + j) ∈ spans t o)
  | lf, p, q, h, o, i, j, hij, hj => by
    have hj1 : j ≤ 1 := hj
    have e1 : i = 0 := by omega
    have e2 : j = 1 := by omega
    subst e1
    subst e2
    show 1 ≤ Dt p q ∧ (Dt p q = 1 ↔ _)
    refine ⟨by omega, fun _ => List.mem_singleton.mpr rfl, fun _ => h⟩
  | nd l r, p, q, h, o, i, j, hij, hj => by
    have hl := sz_pos l
    have hr := sz_pos r
    rw [sz_nd] at hj
    have hpm : Dt p (p.1 + q.1, p.2 + q.2) = 1 := by
      rw [← h]
      unfold Dt
      grind
    have hmq : Dt (p.1 + q.1, p.2 + q.2) q = 1 := by
      rw [← h]
      unfold Dt
      grind
    by_cases c1 : j ≤ sz l
    · rw [vts_l (by omega), vts_l c1]
      obtain ⟨h1, h2⟩ := vts_det l p _ hpm o i j hij c1
      refine ⟨h1, h2.trans ?_⟩
      rw [spans_nd_iff]
      constructor
      · intro z
        exact Or.inr (Or.inl z)
      · rintro (z | z | z)
        · omega
        · exact z
        · have := spans_in r _ z
          simp only at this
          omega
    · by_cases c2 : sz l ≤ i
      · rw [vts_r c2, vts_r (by omega)]
        obtain ⟨h1, h2⟩ := vts_det r _ q hmq (o + sz l) (i - sz l) (j - sz l) (by omega) (by omega)
        refine ⟨h1, h2.trans ?_⟩
        rw [spans_nd_iff, show o + sz l + (i - sz l) = o + i by omega, show o + sz l + (j - sz l) = o + j by omega]
        constructor
        · intro z
          exact Or.inr (Or.inr z)
        · rintro (z | z | z)
          · omega
          · have := spans_in l _ z
            simp only at this
            omega
          · exact z
      · rw [vts_l (i := i) (by omega), vts_r (i := j) (by omega)]
        have A := (vts_det l p _ hpm o i (sz l) (by omega) (Nat.le_refl _)).1
        rw [vts_sz] at A
        have G := (vts_det r _ q hmq o 0 (j - sz l) (by omega) (by omega)).1
        rw [vts_0] at G
        have B : 0 ≤ Dt p (vts l p (p.1 + q.1, p.2 + q.2) i) ∧ (i ≠ 0 → 1 ≤ Dt p (vts l p (p.1 + q.1, p.2 + q.2) i)) ∧ (i = 0 → Dt p (vts l p (p.1 + q.1, p.2 + q.2) i) = 0 ∧ Dt (vts l p (p.1 + q.1, p.2 + q.2) i) (p.1 + q.1, p.2 + q.2) = 1) := by
          by_cases e : i = 0
          · subst e
            rw [vts_0]
            have e0 : Dt p p = 0 := by
              unfold Dt
              grind
            exact ⟨by omega, fun z => absurd rfl z, fun _ => ⟨e0, hpm⟩⟩
          · have := (vts_det l p _ hpm o 0 i (by omega) (by omega)).1
            rw [vts_0] at this
            exact ⟨by omega, fun _ => this, fun z => absurd z e⟩
        have C : 0 ≤ Dt (vts r (p.1 + q.1, p.2 + q.2) q (j - sz l)) q ∧ (j ≠ sz l + sz r → 1 ≤ Dt (vts r (p.1 + q.1, p.2 + q.2) q (j - sz l)) q) ∧ (j = sz l + sz r → Dt (vts r (p.1 + q.1, p.2 + q.2) q (j - sz l)) q = 0 ∧ Dt (p.1 + q.1, p.2 + q.2) (vts r (p.1 + q.1, p.2 + q.2) q (j - sz l)) = 1) := by
          by_cases e : j = sz l + sz r
          · rw [e, show sz l + sz r - sz l = sz r by omega, vts_sz]
            have e0 : Dt q q = 0 := by
              unfold Dt
              grind
            exact ⟨by omega, fun z => absurd rfl z, fun _ => ⟨e0, hmq⟩⟩
          · have := (vts_det r _ q hmq o (j - sz l) (sz r) (by omega) (Nat.le_refl _)).1
            rw [vts_sz] at this
            exact ⟨by omega, fun _ => this, fun z => absurd z e⟩
        have key : Dt (vts l p (p.1 + q.1, p.2 + q.2) i) (vts r (p.1 + q.1, p.2 + q.2) q (j - sz l)) =
            Dt (vts l p (p.1 + q.1, p.2 + q.2) i) (p.1 + q.1, p.2 + q.2) * Dt (vts r (p.1 + q.1, p.2 + q.2) q (j - sz l)) q + Dt (vts l p (p.1 + q.1, p.2 + q.2) i) (p.1 + q.1, p.2 + q.2) * Dt (p.1 + q.1, p.2 + q.2) (vts r (p.1 + q.1, p.2 + q.2) q (j - sz l)) + Dt p (vts l p (p.1 + q.1, p.2 + q.2) i) * Dt (p.1 + q.1, p.2 + q.2) (vts r (p.1 + q.1, p.2 + q.2) q (j - sz l)) := by
          generalize vts l p (p.1 + q.1, p.2 + q.2) i = u
          generalize vts r (p.1 + q.1, p.2 + q.2) q (j - sz l) = v
          have e := Dt_pl u v p q
          rw [h, Int.mul_one] at e
          rw [e]
          unfold Dt
          simp only
          grind
        rw [key]
        generalize Dt (vts l p (p.1 + q.1, p.2 + q.2) i) (p.1 + q.1, p.2 + q.2) = α at *
        generalize Dt (p.1 + q.1, p.2 + q.2) (vts r (p.1 + q.1, p.2 + q.2) q (j - sz l)) = δ at *
        generalize Dt p (vts l p (p.1 + q.1, p.2 + q.2) i) = β at *
        generalize Dt (vts r (p.1 + q.1, p.2 + q.2) q (j - sz l)) q = γ at *
        obtain ⟨B0, B1, B2⟩ := B
        obtain ⟨C0, C1, C2⟩ := C
        have m1 : 1 ≤ α * δ := Int.mul_pos (show 0 < α by omega) (show 0 < δ by omega)
        have m2 : 0 ≤ α * γ := Int.mul_nonneg (by omega) C0
        have m3 : 0 ≤ β * δ := Int.mul_nonneg B0 (by omega)
        refine ⟨by omega, ?_⟩
        rw [spans_nd_iff]
        constructor
        · intro z
          left
          have i0 : i = 0 := by
            by_cases e : i = 0
            · exact e
            · have := Int.mul_pos (show 0 < β by have := B1 e; omega) (show 0 < δ by omega)
              omega
          have j0 : j = sz l + sz r := by
            by_cases e : j = sz l + sz r
            · exact e
            · have := Int.mul_pos (show 0 < α by omega) (show 0 < γ by have := C1 e; omega)
              omega
          omega
        · rintro (z | z | z)
          · obtain ⟨b0, b1⟩ := B2 (by omega)
            obtain ⟨c0, c1⟩ := C2 (by omega)
            rw [b0, b1, c0, c1]
            decide
          · have := spans_in l _ z
            simp only at this
            omega
          · have := spans_in r _ z
            simp only at this
            omega
/-! around and around -/
def sg (k : Nat) : Int := if k % 2 = 0 then 1 else -1
theorem sg_succ (k : Nat) : sg (k + 1) = -sg k := by
  unfold sg
  by_cases h : k % 2 = 0
  · rw [if_pos h, if_neg (by omega)]
  · rw [if_neg h, if_pos (by omega)]
    decide
theorem sg_sq (k : Nat) : sg k * sg k = 1 := by
  unfold sg
  by_cases h : k % 2 = 0
  · rw [if_pos h]
    decide
  · rw [if_neg h]
    decide
def vx (t : Tr) (j : Nat) : Int × Int := (sg (j / (sz t + 1)) * (vts t (1, 0) (0, 1) (j % (sz t + 1))).1, sg (j / (sz t + 1)) * (vts t (1, 0) (0, 1) (j % (sz t + 1))).2)
theorem vx_at {t : Tr} {j k r : Nat} (h : j = (sz t + 1) * k + r) (hr : r ≤ sz t) : vx t j = (sg k * (vts t (1, 0) (0, 1) r).1, sg k * (vts t (1, 0) (0, 1) r).2) := by
  have h1 : j / (sz t + 1) = k := by
    rw [h, Nat.mul_add_div (by omega), Nat.div_eq_of_lt (by omega)]
    rfl
  have h2 : j % (sz t + 1) = r := by
    rw [h, Nat.mul_add_mod]
    exact Nat.mod_eq_of_lt (by omega)
  unfold vx
  rw [h1, h2]
theorem vx_mid {t : Tr} (h2 : 2 ≤ sz t) (j : Nat) : Mid (vx t j) (cnt t ((j + 1) % (sz t + 1))) (vx t (j + 1)) (vx t (j + 2)) := by
  obtain ⟨m1, m2, m3⟩ := vts_mid t (1, 0) (0, 1)
  have hd := Nat.div_add_mod (j + 1) (sz t + 1)
  have hm := Nat.mod_lt (j + 1) (show sz t + 1 > 0 by omega)
  generalize (j + 1) / (sz t + 1) = k at *
  generalize (j + 1) % (sz t + 1) = r at *
  have e1 := vx_at (t := t) (j := j + 1) hd.symm (by omega)
  rcases Nat.lt_trichotomy r 0 with c | c | c
  · omega
  · subst c
    cases k with
    | zero => omega
    | succ k =>
      have hk : (sz t + 1) * (k + 1) = (sz t + 1) * k + (sz t + 1) := Nat.mul_succ _ _
      rw [vx_at (t := t) (j := j) (k := k) (r := sz t) (by omega) (Nat.le_refl _), e1, vx_at (t := t) (j := j + 2) (k := k + 1) (r := 1) (by omega) (by omega), vts_0, vts_sz, sg_succ]
      unfold Mid at m2 ⊢
      generalize vts t (1, 0) (0, 1) 1 = z at *
      generalize sg k = s
      obtain ⟨a, b⟩ := m2
      simp only at a b ⊢
      constructor
      · grind
      · grind
  · by_cases cs : r = sz t
    · subst cs
      have hk : (sz t + 1) * (k + 1) = (sz t + 1) * k + (sz t + 1) := Nat.mul_succ _ _
      rw [vx_at (t := t) (j := j) (k := k) (r := sz t - 1) (by omega) (by omega), e1, vx_at (t := t) (j := j + 2) (k := k + 1) (r := 0) (by omega) (by omega), vts_0, vts_sz, sg_succ]
      unfold Mid at m3 ⊢
      generalize vts t (1, 0) (0, 1) (sz t - 1) = z at *
      generalize sg k = s
      obtain ⟨a, b⟩ := m3
      simp only at a b ⊢
      constructor
      · grind
      · grind
    · obtain ⟨i, rfl⟩ : ∃ i, r = i + 1 := ⟨r - 1, by omega⟩
      rw [vx_at (t := t) (j := j) (k := k) (r := i) (by omega) (by omega), e1, vx_at (t := t) (j := j + 2) (k := k) (r := i + 2) (by omega) (by omega)]
      have m := m1 i (by omega)
      unfold Mid at m ⊢
      generalize vts t (1, 0) (0, 1) i = x at *
      generalize vts t (1, 0) (0, 1) (i + 1) = y at *
      generalize vts t (1, 0) (0, 1) (i + 2) = z at *
      generalize sg k = s
      obtain ⟨a, b⟩ := m
      simp only at a b ⊢
      constructor
      · grind
      · grind
theorem base_det : Dt ((1, 0) : Int × Int) (0, 1) = 1 := by decide
theorem vx_one {t : Tr} (h2 : 2 ≤ sz t) (c : Nat) : Dt (vx t c) (vx t (c + 1)) = 1 := by
  have hd := Nat.div_add_mod c (sz t + 1)
  have hm := Nat.mod_lt c (show sz t + 1 > 0 by omega)
  generalize c / (sz t + 1) = k at *
  generalize c % (sz t + 1) = r at *
  have hs := sg_sq k
  by_cases cs : r = sz t
  · subst cs
    have hk : (sz t + 1) * (k + 1) = (sz t + 1) * k + (sz t + 1) := Nat.mul_succ _ _
    rw [vx_at (t := t) (j := c) hd.symm (Nat.le_refl _), vx_at (t := t) (j := c + 1) (k := k + 1) (r := 0) (by omega) (by omega), vts_0, vts_sz, sg_succ]
    generalize sg k = s at *
    unfold Dt
    simp only
    grind
  · rw [vx_at (t := t) (j := c) hd.symm (by omega), vx_at (t := t) (j := c + 1) (k := k) (r := r + 1) (by omega) (by omega)]
    have hv := (vts_det t (1, 0) (0, 1) base_det 0 r (r + 1) (by omega) (by omega)).2.mpr (by
      rw [Nat.zero_add, Nat.zero_add]
      exact sides_spans t 0 (Nat.zero_le _) (by omega))
    generalize vts t (1, 0) (0, 1) r = x at *
    generalize vts t (1, 0) (0, 1) (r + 1) = y at *
    generalize sg k = s at *
    unfold Dt at hv ⊢
    simp only
    grind
theorem btw_vec {ns : List Int} {t : Tr} (h2 : 2 ≤ sz t) (hr : Row ns t) (c : Nat) : ∀ s : Nat, btw ns c s = Dt (vx t c) (vx t (c + s)) ∧ btw ns c (s + 1) = Dt (vx t c) (vx t (c + s + 1))
  | 0 => by
    constructor
    · show (0 : Int) = _
      rw [Nat.add_zero]
      unfold Dt
      grind
    · show (1 : Int) = _
      exact (vx_one h2 c).symm
  | s + 1 => by
    obtain ⟨h0, h1⟩ := btw_vec h2 hr c s
    refine ⟨h1, ?_⟩
    have e : btw ns c (s + 1 + 1) = btw ns c (s + 2) := rfl
    rw [e, btw_rec, h1, h0]
    have hn := hr.1
    have ha : ns.getD ((c + (s + 1)) % ns.length) 0 = cnt t ((c + s + 1) % (sz t + 1)) := by
      rw [hr.2 _ (Nat.mod_lt _ (by omega)), hn]
      rfl
    rw [ha]
    have m := vx_mid h2 (c + s)
    have e2 : c + (s + 1) + 1 = c + s + 2 := by omega
    rw [e2]
    unfold Mid at m
    obtain ⟨a, b⟩ := m
    generalize vx t (c + s) = x at *
    generalize vx t (c + s + 1) = y at *
    generalize vx t (c + s + 2) = z at *
    generalize vx t c = u at *
    unfold Dt
    grind
theorem vx_turn (t : Tr) (j : Nat) : vx t (j + (sz t + 1)) = (-(vx t j).1, -(vx t j).2) := by
  have hd := Nat.div_add_mod j (sz t + 1)
  have hm := Nat.mod_lt j (show sz t + 1 > 0 by omega)
  have hk : (sz t + 1) * (j / (sz t + 1) + 1) = (sz t + 1) * (j / (sz t + 1)) + (sz t + 1) := Nat.mul_succ _ _
  rw [vx_at (t := t) (j := j + (sz t + 1)) (k := j / (sz t + 1) + 1) (r := j % (sz t + 1)) (by omega) (by omega), vx_at (t := t) (j := j) hd.symm (by omega), sg_succ]
  simp only [Int.neg_mul]
section
variable {ns : List Int} {t : Tr}
/-- of the other sign once around -/
theorem btw_turn (h2 : 2 ≤ sz t) (hr : Row ns t) (c s : Nat) : btw ns c (s + ns.length) = -btw ns c s := by
  rw [(btw_vec h2 hr c _).1, (btw_vec h2 hr c _).1, hr.1, show c + (s + (sz t + 1)) = c + s + (sz t + 1) by omega, vx_turn]
  unfold Dt
  simp only
  grind
theorem btw_round (h2 : 2 ≤ sz t) (hr : Row ns t) (c s : Nat) : ∀ k : Nat, btw ns c (s + ns.length * k) = sg k * btw ns c s
  | 0 => by
    rw [Nat.mul_zero, Nat.add_zero]
    show _ = 1 * _
    omega
  | k + 1 => by
    rw [Nat.mul_succ, ← Nat.add_assoc, btw_turn h2 hr, btw_round h2 hr c s k, sg_succ]
    grind
theorem btw_n (h2 : 2 ≤ sz t) (hr : Row ns t) (c : Nat) : btw ns c ns.length = 0 ∧ btw ns c (ns.length + 1) = -1 := by
  have h0 := btw_turn h2 hr c 0
  have h1 := btw_turn h2 hr c 1
  rw [Nat.zero_add] at h0
  rw [Nat.add_comm] at h1
  rw [h0, h1]
  exact ⟨rfl, rfl⟩
/-- between two corners: by the lesser and the greater -/
theorem btw_lohi (h2 : 2 ≤ sz t) (hr : Row ns t) {c s : Nat} (hc : c < ns.length) (h1 : 1 ≤ s) (hs : s < ns.length) :
    btw ns c s = Dt (vts t (1, 0) (0, 1) (min c ((c + s) % ns.length))) (vts t (1, 0) (0, 1) (max c ((c + s) % ns.length))) ∧ min c ((c + s) % ns.length) < max c ((c + s) % ns.length) ∧ max c ((c + s) % ns.length) ≤ sz t ∧
    (max c ((c + s) % ns.length) - min c ((c + s) % ns.length) = s ∨ max c ((c + s) % ns.length) - min c ((c + s) % ns.length) = ns.length - s) := by
  have hn := hr.1
  rw [(btw_vec h2 hr c s).1]
  have ec : vx t c = vts t (1, 0) (0, 1) c := by
    rw [vx_at (t := t) (k := 0) (r := c) (by omega) (by omega)]
    show (1 * _, 1 * _) = _
    simp
  rw [ec]
  by_cases hw : c + s < ns.length
  · rw [Nat.mod_eq_of_lt hw, Nat.min_eq_left (by omega), Nat.max_eq_right (by omega)]
    have e2 : vx t (c + s) = vts t (1, 0) (0, 1) (c + s) := by
      rw [vx_at (t := t) (k := 0) (r := c + s) (by omega) (by omega)]
      show (1 * _, 1 * _) = _
      simp
    rw [e2]
    exact ⟨rfl, by omega, by omega, by omega⟩
  · have em : (c + s) % ns.length = c + s - ns.length := by
      rw [Nat.mod_eq_sub_mod (by omega), Nat.mod_eq_of_lt (by omega)]
    rw [em, Nat.min_eq_right (by omega), Nat.max_eq_left (by omega)]
    have e2 : vx t (c + s) = (-(vts t (1, 0) (0, 1) (c + s - ns.length)).1, -(vts t (1, 0) (0, 1) (c + s - ns.length)).2) := by
      rw [vx_at (t := t) (k := 1) (r := c + s - ns.length) (by omega) (by omega)]
      show (-1 * _, -1 * _) = _
      simp
    rw [e2]
    refine ⟨?_, by omega, by omega, by omega⟩
    unfold Dt
    simp only
    grind
/-- 1 or more, 1 just at sides and cuts -/
theorem btw_side (h2 : 2 ≤ sz t) (hr : Row ns t) {c s : Nat} (hc : c < ns.length) (h1 : 1 ≤ s) (hs : s < ns.length) :
    1 ≤ btw ns c s ∧ (btw ns c s = 1 ↔ (s = 1 ∨ s = ns.length - 1) ∨ (min c ((c + s) % ns.length), max c ((c + s) % ns.length)) ∈ cuts t) := by
  obtain ⟨e, a, b, d⟩ := btw_lohi h2 hr hc h1 hs
  obtain ⟨v1, v2⟩ := vts_det t (1, 0) (0, 1) base_det 0 _ _ a b
  rw [e]
  refine ⟨v1, v2.trans ?_⟩
  rw [Nat.zero_add, Nat.zero_add, spans_iff h2 a b]
  have hn := hr.1
  generalize min c ((c + s) % ns.length) = lo at *
  generalize max c ((c + s) % ns.length) = hi at *
  constructor
  · rintro (z | z | z)
    · left
      omega
    · left
      omega
    · exact Or.inr z
  · rintro (z | z)
    · rcases z with z | z
      · rcases d with d | d
        · left
          omega
        · right
          left
          omega
      · rcases d with d | d
        · right
          left
          omega
        · left
          omega
    · exact Or.inr (Or.inr z)
/-- from both ends the same -/
theorem btw_sym (h2 : 2 ≤ sz t) (hr : Row ns t) {c s : Nat} (hc : c < ns.length) (h1 : 1 ≤ s) (hs : s < ns.length) : btw ns c s = btw ns ((c + s) % ns.length) (ns.length - s) := by
  have hn := hr.1
  have he := Nat.mod_lt (c + s) (show ns.length > 0 by omega)
  have eb : ((c + s) % ns.length + (ns.length - s)) % ns.length = c := by
    rw [Nat.mod_add_mod, show c + s + (ns.length - s) = c + ns.length by omega, Nat.add_mod_right, Nat.mod_eq_of_lt hc]
  rw [(btw_lohi h2 hr hc h1 hs).1, (btw_lohi h2 hr he (by omega) (show ns.length - s < ns.length by omega)).1, eb, Nat.min_comm, Nat.max_comm]
end
/-! ### a grown row -/
theorem grow1_getD {ns : List Int} {c i : Nat} (hi : i < ns.length) : (grow1 ns c).getD i 0 = ns.getD i 0 + (if i = c ∨ i = nxt ns.length c then 1 else 0) := by
  unfold grow1
  rw [List.getD_eq_getElem?_getD, List.getElem?_map, List.getElem?_range hi]
  rfl
theorem growL_getD {ns : List Int} {c i : Nat} (hi : i ≤ c) (hc : c < ns.length) : (growL ns c).getD i 0 = ns.getD i 0 + (if i = c ∨ i = nxt ns.length c then 1 else 0) := by
  rw [← grow1_getD (by omega)]
  unfold growL
  rw [List.getD_eq_getElem?_getD, List.getD_eq_getElem?_getD, List.getElem?_append_left (by rw [List.length_append, List.length_take, grow1_length]; show i < min (c + 1) ns.length + 1; omega),
    List.getElem?_append_left (by rw [List.length_take, grow1_length]; omega), List.getElem?_take_of_lt (by omega)]
theorem btw_grown {ns : List Int} {c a : Nat} (h3 : 3 ≤ ns.length) (hc : c < ns.length) (ha : a ≤ c) : (∀ j, j ≤ c - a → btw (growL ns c) a j = btw ns a j) ∧ btw (growL ns c) a (c - a + 1) = btw ns a (c - a) + btw ns a (c - a + 1) := by
  have hl := growL_length ns c
  have hseq : ∀ i, 1 ≤ i → i < c - a → rowSeq (growL ns c) a i = rowSeq ns a i := fun i h1 h2 => by
    unfold rowSeq
    rw [hl, Nat.mod_eq_of_lt (by omega), Nat.mod_eq_of_lt (by omega), growL_getD (by omega) hc, if_neg, Int.add_zero]
    unfold nxt
    by_cases e : c + 1 = ns.length
    · rw [if_pos e]
      omega
    · rw [if_neg e]
      omega
  have first : ∀ j, j ≤ c - a → btw (growL ns c) a j = btw ns a j := fun j hj => con_congr fun i h1 h2 => hseq i h1 (by omega)
  refine ⟨first, ?_⟩
  cases hd : c - a with
  | zero =>
    show (1 : Int) = 0 + 1
    rfl
  | succ d =>
    have e1 := btw_rec (growL ns c) a d
    have e2 := btw_rec ns a d
    rw [show d + 1 + 1 = d + 2 from rfl, e1, e2, first (d + 1) (by omega), first d (by omega)]
    have hx : (growL ns c).getD ((a + (d + 1)) % (growL ns c).length) 0 = ns.getD ((a + (d + 1)) % ns.length) 0 + 1 := by
      rw [hl, Nat.mod_eq_of_lt (by omega), Nat.mod_eq_of_lt (by omega), growL_getD (by omega) hc, if_pos (Or.inl (by omega))]
    rw [hx]
    generalize ns.getD ((a + (d + 1)) % ns.length) 0 = x
    generalize btw ns a (d + 1) = y
    generalize btw ns a d = z
    grind
end Fz

/-! A cut exchanged: a turn in the tree. -/
namespace Fz
open Tr
/-- two corners that a side, a cut or the base joins -/
def See (t : Tr) (o x y : Nat) : Prop := (min x y, max x y) ∈ spans t o
theorem see_iff {l r : Tr} {o x y : Nat} : See (nd l r) o x y ↔ (min x y = o ∧ max x y = o + sz l + sz r) ∨ See l o x y ∨ See r (o + sz l) x y := spans_nd_iff
theorem see_in {t : Tr} {o x y : Nat} (h : See t o x y) : o ≤ x ∧ o ≤ y ∧ x ≤ o + sz t ∧ y ≤ o + sz t ∧ x ≠ y := by
  have := spans_in t o h
  simp only at this
  omega
theorem see_base (t : Tr) (o : Nat) : See t o o (o + sz t) := by
  have hp := sz_pos t
  unfold See
  rw [Nat.min_eq_left (by omega), Nat.max_eq_right (by omega)]
  cases t with
  | lf => exact List.mem_singleton.mpr rfl
  | nd l r =>
    rw [spans_nd_iff]
    exact Or.inl ⟨rfl, by rw [sz_nd]; omega⟩
theorem see_comm {t : Tr} {o x y : Nat} : See t o x y ↔ See t o y x := by
  unfold See
  rw [Nat.min_comm, Nat.max_comm]
theorem see_l {l r : Tr} {o x y : Nat} (hx : x ≤ o + sz l) (hy : y ≤ o + sz l) : See (nd l r) o x y ↔ See l o x y := by
  have hr := sz_pos r
  rw [see_iff]
  constructor
  · rintro (h | h | h)
    · omega
    · exact h
    · have := see_in h
      omega
  · exact fun h => Or.inr (Or.inl h)
theorem see_r {l r : Tr} {o x y : Nat} (hx : o + sz l ≤ x) (hy : o + sz l ≤ y) : See (nd l r) o x y ↔ See r (o + sz l) x y := by
  have hl := sz_pos l
  rw [see_iff]
  constructor
  · rintro (h | h | h)
    · omega
    · have := see_in h
      omega
    · exact h
  · exact fun h => Or.inr (Or.inr h)
theorem see_apex {l r : Tr} {o x : Nat} (h1 : o < x) (h2 : x < o + sz l + sz r) : See (nd l r) o x o ∧ See (nd l r) o x (o + sz l + sz r) ↔ x = o + sz l := by
  have hl := sz_pos l
  have hr := sz_pos r
  constructor
  · rintro ⟨a, b⟩
    have a1 : x ≤ o + sz l := by
      rcases see_iff.mp a with h | h | h
      · omega
      · exact (see_in h).2.2.1
      · have := see_in h
        omega
    have b1 : o + sz l ≤ x := by
      rcases see_iff.mp b with h | h | h
      · omega
      · have := see_in h
        omega
      · exact (see_in h).1
    omega
  · rintro rfl
    refine ⟨see_iff.mpr (Or.inr (Or.inl (see_comm.mp (see_base l o)))), see_iff.mpr (Or.inr (Or.inr (see_base r (o + sz l))))⟩
/-- a corner right of l that sees two corners of l -/
theorem see_out_l {l r : Tr} {o a b x : Nat} (h1 : o ≤ a) (h2 : a < b) (h3 : b ≤ o + sz l) (hx : o + sz l < x) : See (nd l r) o x a ∧ See (nd l r) o x b ↔ a = o ∧ b = o + sz l ∧ x = o + sz l + sz r := by
  have hl := sz_pos l
  have hr := sz_pos r
  constructor
  · rintro ⟨u, v⟩
    have ha : a = o ∧ x = o + sz l + sz r := by
      rcases see_iff.mp u with h | h | h
      · omega
      · have := see_in h
        omega
      · have := see_in h
        omega
    have hb : b = o + sz l := by
      rcases see_iff.mp v with h | h | h
      · omega
      · have := see_in h
        omega
      · have := see_in h
        omega
    exact ⟨ha.1, hb, ha.2⟩
  · rintro ⟨rfl, rfl, rfl⟩
    refine ⟨?_, see_iff.mpr (Or.inr (Or.inr (see_comm.mp (see_base r _))))⟩
    have := see_base (nd l r) a
    rw [sz_nd, ← Nat.add_assoc] at this
    exact see_comm.mp this
/-- a corner left of r that sees two corners of r -/
theorem see_out_r {l r : Tr} {o a b x : Nat} (h0 : o ≤ x) (hx : x < o + sz l) (h1 : o + sz l ≤ a) (h2 : a < b) (h3 : b ≤ o + sz l + sz r) : See (nd l r) o x a ∧ See (nd l r) o x b ↔ a = o + sz l ∧ b = o + sz l + sz r ∧ x = o := by
  have hl := sz_pos l
  have hr := sz_pos r
  constructor
  · rintro ⟨u, v⟩
    have hb : b = o + sz l + sz r ∧ x = o := by
      rcases see_iff.mp v with h | h | h
      · omega
      · have := see_in h
        omega
      · have := see_in h
        omega
    have ha : a = o + sz l := by
      rcases see_iff.mp u with h | h | h
      · omega
      · have := see_in h
        omega
      · have := see_in h
        omega
    exact ⟨ha, hb.1, hb.2⟩
  · rintro ⟨rfl, rfl, rfl⟩
    refine ⟨see_iff.mpr (Or.inr (Or.inl (see_base l _))), ?_⟩
    have := see_base (nd l r) x
    rw [sz_nd, ← Nat.add_assoc] at this
    exact this
theorem edges_base (l r : Tr) (o : Nat) : (o, o + sz (nd l r)) ∈ edges (nd l r) o := by
  rw [edges_nd, sz_nd, ← Nat.add_assoc]
  exact List.mem_cons_self ..
/-- the turn: another tree, p gone, q come; q's ends are the corners that see both ends of p -/
theorem flip : ∀ (t : Tr) (o : Nat) (p : Nat × Nat), p ∈ edges t o → p ≠ (o, o + sz t) → ∃ (t' : Tr) (q : Nat × Nat) (L : List (Nat × Nat)), sz t' = sz t ∧ (edges t o).Perm (p :: L) ∧ (edges t' o).Perm (q :: L) ∧ (o, o + sz t) ∈ L ∧ q.1 < q.2 ∧ o ≤ q.1 ∧ q.2 ≤ o + sz t ∧
    (∀ x, o ≤ x → x ≤ o + sz t → x ≠ p.1 → x ≠ p.2 → (See t o x p.1 ∧ See t o x p.2 ↔ x = q.1 ∨ x = q.2)) ∧ q.1 ≠ p.1 ∧ q.1 ≠ p.2 ∧ q.2 ≠ p.1 ∧ q.2 ≠ p.2
  | lf, o, p, h, _ => nomatch h
  | nd l r, o, p, h, hne => by
    have hl := sz_pos l
    have hr := sz_pos r
    rw [edges_nd] at h
    rw [sz_nd] at hne ⊢
    rcases List.mem_cons.mp h with h | h
    · exact absurd h (by rw [← Nat.add_assoc] at hne; exact hne)
    · rcases List.mem_append.mp h with h | h
      · have hin := edges_in l o h
        by_cases hb : p = (o, o + sz l)
        · subst hb
          cases l with
          | lf => cases h
          | nd l1 l2 =>
            have h1 := sz_pos l1
            have h2 := sz_pos l2
            rw [sz_nd] at hl hin ⊢
            refine ⟨nd l1 (nd l2 r), (o + sz l1, o + (sz l1 + sz l2 + sz r)), (o, o + (sz l1 + sz l2 + sz r)) :: (edges l1 o ++ edges l2 (o + sz l1) ++ edges r (o + (sz l1 + sz l2))), by rw [sz_nd, sz_nd]; omega, ?_, ?_, List.mem_cons_self .., by show o + sz l1 < _; omega, by show o ≤ o + sz l1; omega, Nat.le_refl _, fun x hx1 hx2 hx3 hx4 => ?_, by show o + sz l1 ≠ o; omega, by show o + sz l1 ≠ _; omega, by show o + (sz l1 + sz l2 + sz r) ≠ o; omega, by show o + (sz l1 + sz l2 + sz r) ≠ o + (sz l1 + sz l2); omega⟩
            · rw [edges_nd, edges_nd, sz_nd, show o + (sz l1 + sz l2) + sz r = o + (sz l1 + sz l2 + sz r) by omega, show o + sz l1 + sz l2 = o + (sz l1 + sz l2) by omega]
              exact List.Perm.swap _ _ _
            · rw [edges_nd, edges_nd, sz_nd, show o + sz l1 + (sz l2 + sz r) = o + (sz l1 + sz l2 + sz r) by omega, show o + sz l1 + sz l2 + sz r = o + (sz l1 + sz l2 + sz r) by omega, show o + sz l1 + sz l2 = o + (sz l1 + sz l2) by omega]
              refine (List.Perm.cons _ List.perm_middle).trans ((List.Perm.swap _ _ _).trans ?_)
              rw [List.append_assoc]
            · simp only at hx3 hx4 ⊢
              rcases Nat.lt_or_ge x (o + (sz l1 + sz l2)) with c | c
              · rw [see_l (l := nd l1 l2) (r := r) (y := o) (by rw [sz_nd]; omega) (by omega), see_l (l := nd l1 l2) (r := r) (y := o + (sz l1 + sz l2)) (by rw [sz_nd]; omega) (by rw [sz_nd]; omega), show o + (sz l1 + sz l2) = o + sz l1 + sz l2 by omega, see_apex (by omega) (by omega)]
                omega
              · rw [see_out_l (Nat.le_refl o) (by omega) (by rw [sz_nd]; exact Nat.le_refl _) (by rw [sz_nd]; omega), sz_nd]
                omega
        · obtain ⟨l', q, L, e1, e2, e3, e4, e5, e6, e7, e8, e9⟩ := flip l o p h hb
          refine ⟨nd l' r, q, (o, o + (sz l + sz r)) :: (L ++ edges r (o + sz l)), by rw [sz_nd, e1], ?_, ?_, List.mem_cons_self .., e5, e6, by omega, fun x hx1 hx2 hx3 hx4 => ?_, e9⟩
          · rw [edges_nd, Nat.add_assoc]
            exact (List.Perm.cons _ (e2.append_right _)).trans (List.Perm.swap _ _ _)
          · rw [edges_nd, e1, Nat.add_assoc]
            exact (List.Perm.cons _ (e3.append_right _)).trans (List.Perm.swap _ _ _)
          · rcases Nat.lt_or_ge (o + sz l) x with c | c
            · rw [see_out_l hin.1 (by omega) hin.2.2 c]
              constructor
              · rintro ⟨g1, g2, _⟩
                exact absurd (show p = (o, o + sz l) from by
                  cases p
                  simp only at g1 g2
                  rw [g1, g2]) hb
              · omega
            · rw [see_l c (by omega), see_l c (by omega)]
              exact e8 x hx1 c hx3 hx4
      · have hin := edges_in r (o + sz l) h
        by_cases hb : p = (o + sz l, o + sz l + sz r)
        · subst hb
          cases r with
          | lf => cases h
          | nd r1 r2 =>
            have h1 := sz_pos r1
            have h2 := sz_pos r2
            rw [sz_nd] at hr hin ⊢
            refine ⟨nd (nd l r1) r2, (o, o + sz l + sz r1), (o, o + (sz l + (sz r1 + sz r2))) :: (edges l o ++ edges r1 (o + sz l) ++ edges r2 (o + sz l + sz r1)), by rw [sz_nd, sz_nd]; omega, ?_, ?_, List.mem_cons_self .., by show o < o + sz l + sz r1; omega, Nat.le_refl _, by show o + sz l + sz r1 ≤ _; omega, fun x hx1 hx2 hx3 hx4 => ?_, by show o ≠ o + sz l; omega, by show o ≠ o + sz l + _; omega, by show o + sz l + sz r1 ≠ o + sz l; omega, by show o + sz l + sz r1 ≠ o + sz l + (sz r1 + sz r2); omega⟩
            · rw [edges_nd, edges_nd, sz_nd, show o + sz l + (sz r1 + sz r2) = o + (sz l + (sz r1 + sz r2)) by omega, show o + sz l + sz r1 + sz r2 = o + (sz l + (sz r1 + sz r2)) by omega]
              refine (List.Perm.cons _ List.perm_middle).trans ((List.Perm.swap _ _ _).trans ?_)
              rw [List.append_assoc]
            · rw [edges_nd, edges_nd, sz_nd, show o + (sz l + sz r1) + sz r2 = o + (sz l + (sz r1 + sz r2)) by omega, show o + (sz l + sz r1) = o + sz l + sz r1 by omega]
              exact List.Perm.swap _ _ _
            · simp only at hx3 hx4 ⊢
              rcases Nat.lt_or_ge x (o + sz l) with c | c
              · rw [see_out_r hx1 c (Nat.le_refl _) (by omega) (by rw [sz_nd]; exact Nat.le_refl _), sz_nd]
                omega
              · rw [see_r (l := l) (r := nd r1 r2) (y := o + sz l) c (by omega), see_r (l := l) (r := nd r1 r2) (y := o + sz l + (sz r1 + sz r2)) c (by omega), show o + sz l + (sz r1 + sz r2) = o + sz l + sz r1 + sz r2 by omega, see_apex (by omega) (by omega)]
                omega
        · obtain ⟨r', q, L, e1, e2, e3, e4, e5, e6, e7, e8, e9⟩ := flip r (o + sz l) p h hb
          refine ⟨nd l r', q, (o, o + (sz l + sz r)) :: (edges l o ++ L), by rw [sz_nd, e1], ?_, ?_, List.mem_cons_self .., e5, by omega, by omega, fun x hx1 hx2 hx3 hx4 => ?_, e9⟩
          · rw [edges_nd, Nat.add_assoc o]
            exact (List.Perm.cons _ ((e2.append_left _).trans List.perm_middle)).trans (List.Perm.swap _ _ _)
          · rw [edges_nd, e1, Nat.add_assoc o]
            exact (List.Perm.cons _ ((e3.append_left _).trans List.perm_middle)).trans (List.Perm.swap _ _ _)
          · rcases Nat.lt_or_ge x (o + sz l) with c | c
            · rw [see_out_r hx1 c hin.1 (by omega) hin.2.2]
              constructor
              · rintro ⟨g1, g2, _⟩
                exact absurd (show p = (o + sz l, o + sz l + sz r) from by
                  cases p
                  simp only at g1 g2
                  rw [g1, g2]) hb
              · omega
            · rw [see_r c (by omega), see_r c (by omega)]
              exact e8 x c (by omega) hx3 hx4
end Fz

/-! The cuts of the turned tree. -/
namespace Fz
open Tr
theorem edges_top {t : Tr} (h2 : 2 ≤ sz t) : edges t 0 = (0, sz t) :: cuts t := by
  cases t with
  | lf => exact absurd h2 (by decide)
  | nd l r => exact edges_cuts l r
theorem flip_cuts {t : Tr} (h2 : 2 ≤ sz t) {p : Nat × Nat} (hp : p ∈ cuts t) : ∃ (t' : Tr) (q : Nat × Nat) (L : List (Nat × Nat)), sz t' = sz t ∧ (cuts t).Perm (p :: L) ∧ (cuts t').Perm (q :: L) ∧ q.1 < q.2 ∧ q.2 ≤ sz t ∧
    (∀ x, x ≤ sz t → x ≠ p.1 → x ≠ p.2 → (See t 0 x p.1 ∧ See t 0 x p.2 ↔ x = q.1 ∨ x = q.2)) ∧ q.1 ≠ p.1 ∧ q.1 ≠ p.2 ∧ q.2 ≠ p.1 ∧ q.2 ≠ p.2 := by
  have hin := cuts_in hp
  obtain ⟨t', q, L, e1, e2, e3, e4, e5, e6, e7, e8, e9⟩ := flip t 0 p (cuts_edges hp) (fun z => by
    rw [z] at hin
    simp only at hin
    omega)
  rw [Nat.zero_add] at e4 e7
  obtain ⟨L', hL⟩ : ∃ L', L.Perm ((0, sz t) :: L') := ⟨L.erase (0, sz t), List.perm_cons_erase e4⟩
  rw [edges_top h2] at e2
  rw [edges_top (by omega), e1] at e3
  refine ⟨t', q, L', e1, ?_, ?_, e5, e7, fun x hx => e8 x (Nat.zero_le _) (by omega), e9⟩
  · exact List.Perm.cons_inv (e2.trans ((hL.cons p).trans (List.Perm.swap _ _ _)))
  · exact List.Perm.cons_inv (e3.trans ((hL.cons q).trans (List.Perm.swap _ _ _)))
end Fz
namespace Fz
open Tr
theorem flip_cnt {t t' : Tr} (h2 : 2 ≤ sz t) (e : sz t' = sz t) {p q : Nat × Nat} {L : List (Nat × Nat)} (h1 : (cuts t).Perm (p :: L)) (h3 : (cuts t').Perm (q :: L)) {i : Nat} (hi : i ≤ sz t) : cnt t' i - ends [ip q] (i : Int) = cnt t i - ends [ip p] (i : Int) := by
  have a := cuts_ends h2 hi
  have b := cuts_ends (t := t') (by omega) (i := i) (by omega)
  rw [ends_perm (h1.map ip)] at a
  rw [ends_perm (h3.map ip)] at b
  have ca : ends ((p :: L).map ip) (i : Int) = ends [ip p] (i : Int) + ends (L.map ip) (i : Int) := ends_append [ip p] (L.map ip) (i : Int)
  have cb : ends ((q :: L).map ip) (i : Int) = ends [ip q] (i : Int) + ends (L.map ip) (i : Int) := ends_append [ip q] (L.map ip) (i : Int)
  omega
end Fz

namespace Fz
open Tr
theorem growL_at {ns : List Int} {c : Nat} (hc : c < ns.length) : (growL ns c).getD (c + 1) 0 = 1 := by
  unfold growL
  rw [List.getD_eq_getElem?_getD, List.getElem?_append_left (by rw [List.length_append, List.length_take, grow1_length]; show c + 1 < min (c + 1) ns.length + 1; omega), List.getElem?_append_right (by rw [List.length_take, grow1_length]; omega), List.length_take, grow1_length, Nat.min_eq_left (by omega), Nat.sub_self]
  rfl
theorem growL_hi {ns : List Int} {c i : Nat} (hi : c + 1 < i) (h : i ≤ ns.length) (hc : c < ns.length) : (growL ns c).getD i 0 = (grow1 ns c).getD (i - 1) 0 := by
  unfold growL
  rw [List.getD_eq_getElem?_getD, List.getElem?_append_right (by rw [List.length_append, List.length_take, grow1_length]; show min (c + 1) ns.length + 1 ≤ i; omega), List.length_append, List.length_take, grow1_length, Nat.min_eq_left (by omega), List.getElem?_drop, List.getD_eq_getElem?_getD]
  congr 2
  show c + 1 + (i - (c + 1 + 1)) = i - 1
  omega
theorem cutOff_growL {ns : List Int} {c : Nat} (h3 : 3 ≤ ns.length) (hc : c < ns.length) : cutOff (growL ns c) (c + 1) = ns := by
  have hl := growL_length ns c
  refine ext_getD (by rw [cutOff_length (by omega), hl]; rfl) fun j hj => ?_
  rw [cutOff_length (by omega), hl] at hj
  rw [cutOff_getD (by omega) (by omega) (by omega), hl]
  have hp : prv (ns.length + 1) (c + 1) = c := by
    unfold prv
    rw [if_neg (by omega)]
    rfl
  rw [hp]
  rcases Nat.lt_or_ge j (c + 1) with q | q
  · rw [sh_lt q, growL_getD (by omega) hc]
    have hx : (j = c ∨ j = nxt ns.length c) ↔ (j = c ∨ j = nxt (ns.length + 1) (c + 1)) := by
      unfold nxt
      by_cases e : c + 1 = ns.length
      · rw [if_pos e, if_pos (by omega)]
      · rw [if_neg e, if_neg (by omega)]
        omega
    by_cases e1 : j = c ∨ j = nxt ns.length c
    · rw [if_pos e1, if_pos (hx.mp e1)]
      omega
    · rw [if_neg e1, if_neg (fun z => e1 (hx.mpr z))]
      omega
  · rw [sh_ge q, growL_hi (by omega) (by omega) hc, show j + 1 - 1 = j by omega, grow1_getD (by omega)]
    have hx : (j = c ∨ j = nxt ns.length c) ↔ (j + 1 = c ∨ j + 1 = nxt (ns.length + 1) (c + 1)) := by
      unfold nxt
      rw [if_neg (show ¬ c + 1 = ns.length by omega), if_neg (show ¬ c + 1 + 1 = ns.length + 1 by omega)]
      omega
    by_cases e1 : j = c ∨ j = nxt ns.length c
    · rw [if_pos e1, if_pos (hx.mp e1)]
      omega
    · rw [if_neg e1, if_neg (fun z => e1 (hx.mpr z))]
      omega
/-- a grown row of a tree is a tree's -/
theorem row_grown {ns : List Int} {c : Nat} {t : Tr} (h3 : 3 ≤ ns.length) (hc : c < ns.length) (hr : Row ns t) : Row (growL ns c) (insA t (c + 1)) := by
  have hl := growL_length ns c
  refine row_up (by omega) (by omega) (growL_at hc) ?_
  rw [cutOff_growL h3 hc]
  exact hr
end Fz

/-! A cut exchanged, as the program and the law see it. -/
namespace Fz
open Tr
/-- a row has one tree -/
theorem row_uniq : ∀ (k : Nat) {ns : List Int} {t t' : Tr}, ns.length = k + 3 → Row ns t → Row ns t' → t = t'
  | 0, ns, t, t', hl, h, h' => by rw [(row_three h hl).2, (row_three h' hl).2]
  | k + 1, ns, t, t', hl, h, h' => by
    have hs := h.1
    obtain ⟨i, h0, h1, hc⟩ := has_ear t (by omega)
    have hi : i < ns.length := by omega
    have h1' : ns.getD i 0 = 1 := by rw [h.2 i hi, hc]
    obtain ⟨u, e, _⟩ := row_ear hi (by omega) h1' h
    obtain ⟨u', e', _⟩ := row_ear hi (by omega) h1' h'
    rw [e] at h ⊢
    rw [e'] at h' ⊢
    have r := (row_down hi (by omega) h).2
    have r' := (row_down hi (by omega) h').2
    rw [row_uniq k (by rw [cutOff_length hi]; omega) r r']
theorem fin_perm {ns : List Int} {t : Tr} (h2 : 2 ≤ sz t) (hr : Row ns t) : (fin ns).cuts.Perm ((cuts t).map ip) := by
  have h3 : 3 ≤ ns.length := by
    have := hr.1
    omega
  obtain ⟨t', _, hr', hp⟩ := fin_tree h3 (fin_row h2 hr)
  rw [row_uniq (ns.length - 3) (by omega) hr hr']
  exact hp
/-- whether a side or a cut goes between -/
def sideB (n : Int) (ps : List PI) (x y : Int) : Bool := decide (mx x y - mn x y = 1) || (decide (mx x y - mn x y = n - 1) || decide ((mn x y, mx x y) ∈ ps))
theorem mn_nat (x y : Nat) : mn (x : Int) (y : Int) = ((min x y : Nat) : Int) := by
  unfold mn
  split <;> omega
theorem mx_nat (x y : Nat) : mx (x : Int) (y : Int) = ((max x y : Nat) : Int) := by
  unfold mx
  split <;> omega
theorem mem_ip {ps : List PI} {t : Tr} (hp : ps.Perm ((cuts t).map ip)) (q : Nat × Nat) : ip q ∈ ps ↔ q ∈ cuts t := by
  rw [hp.mem_iff]
  constructor
  · intro h
    obtain ⟨r, hr, e⟩ := List.mem_map.mp h
    rw [← ip_inj e]
    exact hr
  · intro h
    exact List.mem_map.mpr ⟨q, h, rfl⟩
theorem side_see {t : Tr} (h2 : 2 ≤ sz t) {ps : List PI} (hp : ps.Perm ((cuts t).map ip)) {x y : Nat} (hx : x ≤ sz t) (hy : y ≤ sz t) (hne : x ≠ y) : sideB ((sz t + 1 : Nat) : Int) ps (x : Int) (y : Int) = true ↔ See t 0 x y := by
  unfold sideB See
  rw [spans_iff h2 (by omega) (by omega), mn_nat, mx_nat, Bool.or_eq_true, Bool.or_eq_true, decide_eq_true_eq, decide_eq_true_eq, decide_eq_true_eq]
  have hm := mem_ip hp (min x y, max x y)
  have e : ip (min x y, max x y) = (((min x y : Nat) : Int), ((max x y : Nat) : Int)) := rfl
  rw [e] at hm
  rw [hm]
  refine or_congr ?_ (or_congr ?_ Iff.rfl)
  · omega
  · omega
/-- the corners that see both ends -/
def gE (n : Int) (ps : List PI) (p : PI) (x : Int) : Bool := !decide (x = p.1 ∨ x = p.2) && (sideB n ps x p.1 && sideB n ps x p.2)
theorem rgI_mem {n : Nat} {x : Int} : x ∈ rgI n ↔ ∃ i : Nat, i < n ∧ x = (i : Int) := by
  unfold rgI
  rw [List.mem_map]
  constructor
  · rintro ⟨i, hi, rfl⟩
    exact ⟨i, List.mem_range.mp hi, rfl⟩
  · rintro ⟨i, hi, rfl⟩
    exact ⟨i, List.mem_range.mpr hi, rfl⟩
theorem sorted_eq : ∀ {a b : List Int}, Rising a → Rising b → (∀ x, x ∈ a ↔ x ∈ b) → a = b
  | [], [], _, _, _ => rfl
  | [], y :: _, _, _, h => by
    have := (h y).mpr (List.mem_cons_self ..)
    cases this
  | x :: _, [], _, _, h => by
    have := (h x).mp (List.mem_cons_self ..)
    cases this
  | x :: a, y :: b, ha, hb, h => by
    have ha' := List.pairwise_cons.mp ha
    have hb' := List.pairwise_cons.mp hb
    have e : x = y := by
      rcases List.mem_cons.mp ((h x).mp (List.mem_cons_self ..)) with q | q
      · exact q
      · rcases List.mem_cons.mp ((h y).mpr (List.mem_cons_self ..)) with q2 | q2
        · exact q2.symm
        · have := ha'.1 y q2
          have := hb'.1 x q
          omega
    subst e
    rw [sorted_eq ha'.2 hb'.2 fun z => ?_]
    constructor
    · intro hz
      rcases List.mem_cons.mp ((h z).mp (List.mem_cons_of_mem _ hz)) with q | q
      · have := ha'.1 z hz
        omega
      · exact q
    · intro hz
      rcases List.mem_cons.mp ((h z).mpr (List.mem_cons_of_mem _ hz)) with q | q
      · have := hb'.1 z hz
        omega
      · exact q
theorem ends_two {n : Nat} {g : Int → Bool} {a b : Nat} (hab : a < b) (hb : b < n) (h : ∀ x : Nat, x < n → (g (x : Int) = true ↔ x = a ∨ x = b)) : (rgI n).filter g = [(a : Int), (b : Int)] := by
  refine sorted_eq ((rgI_rising n).sublist List.filter_sublist) ?_ fun x => ?_
  · refine List.pairwise_cons.mpr ⟨fun z hz => ?_, List.pairwise_cons.mpr ⟨(fun z hz => nomatch hz), List.Pairwise.nil⟩⟩
    rw [List.mem_singleton.mp hz]
    omega
  · rw [List.mem_filter, rgI_mem]
    constructor
    · rintro ⟨⟨i, hi, rfl⟩, hg⟩
      rcases (h i hi).mp hg with e | e
      · rw [e]
        exact List.mem_cons_self ..
      · rw [e]
        exact List.mem_cons_of_mem _ (List.mem_singleton.mpr rfl)
    · intro hx
      rcases List.mem_cons.mp hx with e | hx
      · subst e
        exact ⟨⟨a, by omega, rfl⟩, (h a (by omega)).mpr (Or.inl rfl)⟩
      · rw [List.mem_singleton.mp hx]
        exact ⟨⟨b, by omega, rfl⟩, (h b hb).mpr (Or.inr rfl)⟩
theorem ends_see {t : Tr} (h2 : 2 ≤ sz t) {ps : List PI} (hp : ps.Perm ((cuts t).map ip)) {p q : Nat × Nat} (hp2 : p.2 ≤ sz t) (hp1 : p.1 ≤ sz t) (hq : q.1 < q.2) (hq2 : q.2 ≤ sz t)
    (hs : ∀ x, x ≤ sz t → x ≠ p.1 → x ≠ p.2 → (See t 0 x p.1 ∧ See t 0 x p.2 ↔ x = q.1 ∨ x = q.2)) (n1 : q.1 ≠ p.1) (n2 : q.1 ≠ p.2) (n3 : q.2 ≠ p.1) (n4 : q.2 ≠ p.2) :
    (rgI (sz t + 1)).filter (gE ((sz t + 1 : Nat) : Int) ps (ip p)) = [(q.1 : Int), (q.2 : Int)] := by
  refine ends_two hq (by omega) fun x hx => ?_
  have i1 : (ip p).1 = (p.1 : Int) := rfl
  have i2 : (ip p).2 = (p.2 : Int) := rfl
  unfold gE
  rw [i1, i2, Bool.and_eq_true, Bool.and_eq_true, Bool.not_eq_true', decide_eq_false_iff_not]
  by_cases c : x = p.1 ∨ x = p.2
  · constructor
    · rintro ⟨h, _⟩
      exact absurd (by omega : (x : Int) = (p.1 : Int) ∨ (x : Int) = (p.2 : Int)) h
    · intro h
      omega
  · rw [side_see h2 hp (by omega) hp1 (by omega), side_see h2 hp (by omega) hp2 (by omega), hs x (by omega) (by omega) (by omega)]
    constructor
    · exact fun h => h.2
    · exact fun h => ⟨by omega, h⟩
theorem see_of {t : Tr} (h2 : 2 ≤ sz t) {x y : Nat} (hx : x ≤ sz t) (hy : y ≤ sz t) (hne : x ≠ y) : See t 0 x y ↔ (max x y - min x y = 1 ∨ max x y - min x y = sz t ∨ (min x y, max x y) ∈ cuts t) := by
  unfold See
  rw [spans_iff h2 (by omega) (by omega)]
theorem filter_ne {α : Type} [DecidableEq α] {p : α} {L : List α} (h : p ∉ L) : (p :: L).filter (fun q => !decide (q = p)) = L := by
  rw [List.filter_cons, if_neg (by simp)]
  exact List.filter_eq_self.mpr fun q hq => by
    have : q ≠ p := fun e => h (e ▸ hq)
    simp [this]
/-- all that is told of an exchanged cut -/
theorem exch {t : Tr} (h2 : 2 ≤ sz t) {ns : List Int} (hr : Row ns t) {ps : List PI} (hp : ps.Perm ((cuts t).map ip)) {p : PI} (hm : p ∈ ps) :
    ∃ (t' : Tr) (q : PI), sz t' = sz t ∧ 0 ≤ p.1 ∧ p.1 < p.2 ∧ p.2 < (ns.length : Int) ∧ 0 ≤ q.1 ∧ q.1 < q.2 ∧ q.2 < (ns.length : Int) ∧ (rgI ns.length).filter (gE (ns.length : Int) ps p) = [q.1, q.2] ∧
      (srt (ps.filter (fun r => !decide (r = p)) ++ [q])).Perm ((cuts t').map ip) ∧
      (rgI ns.length).filter (gE (ns.length : Int) (srt (ps.filter (fun r => !decide (r = p)) ++ [q])) q) = [p.1, p.2] ∧
      q ∈ srt (ps.filter (fun r => !decide (r = p)) ++ [q]) ∧
      srt ((srt (ps.filter (fun r => !decide (r = p)) ++ [q])).filter (fun r => !decide (r = q)) ++ [p]) = srt ps ∧
      Row (incr (incr (decr (decr ns p.1.toNat) p.2.toNat) q.1.toNat) q.2.toNat) t' := by
  obtain ⟨pn, hpn, rfl⟩ := List.mem_map.mp (hp.mem_iff.mp hm)
  have hin := cuts_in hpn
  have hln := hr.1
  obtain ⟨t', q, L, e1, c1, c2, e2, e3, e4, n1, n2, n3, n4⟩ := flip_cuts h2 hpn
  have h2' : 2 ≤ sz t' := by omega
  have hqc : q ∈ cuts t' := c2.mem_iff.mpr (List.mem_cons_self ..)
  have hinq := cuts_in hqc
  obtain ⟨t3, p', L', f1, d1, d2, f2, f3, f4, m1, m2, m3, m4⟩ := flip_cuts h2' hqc
  have ndc := cuts_nodup t
  have ndc' := cuts_nodup t'
  have hpL : pn ∉ L := (List.nodup_cons.mp (c1.nodup_iff.mp ndc)).1
  have hqL : q ∉ L := (List.nodup_cons.mp (c2.nodup_iff.mp ndc')).1
  -- the other way round
  have seek : ∀ {x y : Nat}, x ≤ sz t → y ≤ sz t → x ≠ y → (min x y, max x y) ≠ pn → See t 0 x y → See t' 0 x y := fun {x y} hx hy hne hnp h => by
    rw [see_of h2 hx hy hne] at h
    rw [see_of h2' (by omega) (by omega) hne]
    rcases h with h | h | h
    · exact Or.inl h
    · exact Or.inr (Or.inl (by omega))
    · rcases List.mem_cons.mp (c1.mem_iff.mp h) with z | z
      · exact absurd z hnp
      · exact Or.inr (Or.inr (c2.mem_iff.mpr (List.mem_cons_of_mem _ z)))
  have s1 := (e4 q.1 (by omega) n1 n2).mpr (Or.inl rfl)
  have s2 := (e4 q.2 (by omega) n3 n4).mpr (Or.inr rfl)
  have np : ∀ {x y : Nat}, (x = q.1 ∨ x = q.2) → (min x y, max x y) ≠ pn := fun {x y} hx e => by
    have a1 := congrArg Prod.fst e
    have a2 := congrArg Prod.snd e
    simp only at a1 a2
    omega
  have g1 := (f4 pn.1 (by omega) (fun z => n1 z.symm) (fun z => n3 z.symm)).mp ⟨see_comm.mp (seek (by omega) (by omega) n1 (np (Or.inl rfl)) s1.1), see_comm.mp (seek (by omega) (by omega) n3 (np (Or.inr rfl)) s2.1)⟩
  have g2 := (f4 pn.2 (by omega) (fun z => n2 z.symm) (fun z => n4 z.symm)).mp ⟨see_comm.mp (seek (by omega) (by omega) n2 (np (Or.inl rfl)) s1.2), see_comm.mp (seek (by omega) (by omega) n4 (np (Or.inr rfl)) s2.2)⟩
  have hpp : p' = pn := by
    have a1 : p'.1 = pn.1 := by omega
    have a2 : p'.2 = pn.2 := by omega
    cases p'
    cases pn
    simp only at a1 a2
    rw [a1, a2]
  subst hpp
  -- the lists
  have hps : ps.Perm (ip p' :: L.map ip) := hp.trans (c1.map ip)
  have hfl : (ps.filter (fun r => !decide (r = ip p'))).Perm (L.map ip) := by
    have := hps.filter (fun r => !decide (r = ip p'))
    rw [filter_ne (fun h => by
      obtain ⟨r, hr, e⟩ := List.mem_map.mp h
      rw [ip_inj e] at hr
      exact hpL hr)] at this
    exact this
  have hdue : (srt (ps.filter (fun r => !decide (r = ip p')) ++ [ip q])).Perm (ip q :: L.map ip) := (srt_perm _).trans ((hfl.append_right _).trans List.perm_append_comm)
  have hduc : (srt (ps.filter (fun r => !decide (r = ip p')) ++ [ip q])).Perm ((cuts t').map ip) := hdue.trans (c2.map ip).symm
  refine ⟨t', ip q, e1, Int.natCast_nonneg _, ?_, ?_, Int.natCast_nonneg _, ?_, ?_, ?_, hduc, ?_, hdue.mem_iff.mpr (List.mem_cons_self ..), ?_, ?_⟩
  · show (p'.1 : Int) < (p'.2 : Int)
    omega
  · show (p'.2 : Int) < _
    omega
  · show (q.1 : Int) < (q.2 : Int)
    omega
  · show (q.2 : Int) < _
    omega
  · rw [hln]
    exact ends_see h2 hp (by omega) (by omega) e2 (by omega) e4 n1 n2 n3 n4
  · rw [hln, ← e1]
    exact ends_see h2' hduc (by omega) (by omega) (by omega) (by omega) f4 (fun z => n1 z.symm) (fun z => n3 z.symm) (fun z => n2 z.symm) (fun z => n4 z.symm)
  · refine srt_eq ?_
    have h1 : ((srt (ps.filter (fun r => !decide (r = ip p')) ++ [ip q])).filter (fun r => !decide (r = ip q))).Perm (L.map ip) := by
      have := hdue.filter (fun r => !decide (r = ip q))
      rw [filter_ne (fun h => by
        obtain ⟨r, hr, e⟩ := List.mem_map.mp h
        rw [ip_inj e] at hr
        exact hqL hr)] at this
      exact this
    exact ((h1.append_right _).trans List.perm_append_comm).trans hps.symm
  · refine ⟨by rw [incr_length, incr_length, decr_length, decr_length]; omega, fun j hj => ?_⟩
    rw [incr_length, incr_length, decr_length, decr_length] at hj
    rw [incr_getD _ (by rw [incr_length, decr_length, decr_length]; exact hj), incr_getD _ (by rw [decr_length, decr_length]; exact hj), decr_getD _ (by rw [decr_length]; exact hj), decr_getD _ hj, hr.2 j hj]
    have hc := flip_cnt h2 e1 c1 c2 (i := j) (by omega)
    have k1 : ends [ip q] (j : Int) = (if j = (ip q).1.toNat then 1 else 0) + (if j = (ip q).2.toNat then 1 else 0) := by
      show (if (q.1 : Int) = (j : Int) then 1 else 0) + (if (q.2 : Int) = (j : Int) then 1 else 0) + 0 = (if j = ((q.1 : Int)).toNat then 1 else 0) + (if j = ((q.2 : Int)).toNat then 1 else 0)
      simp only [Int.toNat_natCast, Int.natCast_inj, eq_comm (a := j), Int.add_zero]
    have k2 : ends [ip p'] (j : Int) = (if j = (ip p').1.toNat then 1 else 0) + (if j = (ip p').2.toNat then 1 else 0) := by
      show (if (p'.1 : Int) = (j : Int) then 1 else 0) + (if (p'.2 : Int) = (j : Int) then 1 else 0) + 0 = (if j = ((p'.1 : Int)).toNat then 1 else 0) + (if j = ((p'.2 : Int)).toNat then 1 else 0)
      simp only [Int.toNat_natCast, Int.natCast_inj, eq_comm (a := j), Int.add_zero]
    rw [k1, k2] at hc
    omega
end Fz

namespace FzL
open PySem PySem.Spec PyProof.Rows L2
section
variable {X : Cx}
theorem pg_list : PGet X (rIxL X.K) := by
  intro pins s σ H x y v u Q I rx ry h
  obtain ⟨p, xs, i, z, rfl, rfl, hq, he, q⟩ := h
  cases rx
  obtain ⟨t, rfl⟩ := ry
  obtain ⟨its, r, pl, hz⟩ := I.list hq
  obtain ⟨j, h1, h2, h3, h4, h5⟩ := atI_get he
  obtain ⟨w, ew, rw'⟩ := r.get h2
  have hl := r.length
  have hn := line63
  have fin : EP X pins σ Q w s := ⟨z, H, I, rw', q⟩
  by_cases h0 : 0 ≤ i
  · have hj : i.toNat = j := by
      rw [seqIndex_of h0 h5] at h1
      exact Option.some.inj h1
    exact wpAny_getItem_list pl.isList h0 (by omega) (by rw [hj]; simpa using ew) fin
  · have hj : (i + (its.toArray.size : Int)).toNat = j := by
      rw [seqIndex_neg (by omega) h4] at h1
      rw [List.size_toArray, ← hl]
      exact Option.some.inj h1
    exact wpAny_getItem_list_neg pl.isList (by omega) (by rw [List.size_toArray] <;> omega) (by omega) (by rw [hj]; simpa using ew) fin
end
end FzL

/-! The layer of these proofs: defs by name, values by what they come to, isinstance. -/
namespace FzL
open PySem PySem.Spec PyProof.Rows L2 Evl

/-! ### defs under their names -/
structure Def (K : PySem.W.Frag) (mg : Str → Option Value) (x : Str) (st : Stmt) (ps : List Str) : Prop where
  ex : ∃ (f : Addr) (fd : FuncData), Fun K x x st f fd ∧ mg x = some (.ref f) ∧ Binds K fd ps []
structure Cal (P : Program) (w : World) (K : PySem.W.Frag) (mg : Str → Option Value) (base : Heap) (CX : CXT) (k : Nat) (x : Str) (ps : List Str) (sp : Sp) : Prop where
  ex : ∃ (f : Addr) (fd : FuncData), FnOk P w K mg base CX k f fd ps sp ∧ mg x = some (.ref f) ∧ PySem.W.keepIn K (.ref f) = true ∧ Binds K fd ps []
section
variable {P : Program} {w : World} {K : PySem.W.Frag} {mg : Str → Option Value} {base : Heap} {CX : CXT} {k j : Nat} {x : Str} {st : Stmt} {ps : List Str} {sp : Sp}
theorem Def.cal (D : Def K mg x st ps) (h : ∀ f fd, Fun K x x st f fd → FnOk P w K mg base CX k f fd ps sp) : Cal P w K mg base CX k x ps sp := by
  obtain ⟨f, fd, F, hm, hb⟩ := D.ex
  exact ⟨f, fd, h f fd F, hm, F.kp, hb⟩
theorem Cal.mono (c : Cal P w K mg base CX k x ps sp) (h : k ≤ j) : Cal P w K mg base CX j x ps sp := by
  obtain ⟨f, fd, F, r⟩ := c.ex
  exact ⟨f, fd, F.mono h, r⟩
end
section
variable {X : Cx} {CX : CXT} {k j : Nat} {x : Str} {ps : List Str} {sp : Sp} {E : XK} {p pos : Pos} {e : Expr} {es : List Expr} {t : TA}
/-- a call of a def by its name -/
theorem pe_n (c : Cal X.prog X.w X.K X.mg X.base CX k x ps sp) (hr : Room j X.A) (hk : k ≤ j) (hg : Gl X x) (hx : Passes CX X E) (ha : PA X (e :: es) t) (hdb : (x == ("__debug__" : Str)) = false := by decide)
    (he : starEach (e :: es) X.env = (false, eval e X.env) :: starEach es X.env := by rfl) (hpl : (backTo pos (starEach es X.env)).any (·.1) = false := by rfl) :
    PE X (.Call (.Name x p) (e :: es) [] pos) (tCall sp [] E t) := by
  obtain ⟨f, fd, F, hm, kp, hb⟩ := c.ex
  exact pe_call F (hr.mono hk) hg hm kp hb .nil hx ha hdb he hpl
end
/-- the names that are the built-in ones -/
structure Blt (mg : Str → Option Value) : Prop where
  isinstance : mg "isinstance" = none
  int : mg "int" = none
  bool : mg "bool" = none
  list : mg "list" = none
  tuple : mg "tuple" = none
  len : mg "len" = none
  all : mg "all" = none
  min : mg "min" = none
  max : mg "max" = none
  range : mg "range" = none
  sorted : mg "sorted" = none
  set : mg "set" = none
  enumerate : mg "enumerate" = none
  abs : mg "abs" = none

/-! ### what an expression comes to, with a word on the heap -/
def EvX (te : TE) (σ : L2.St) (H : Hp) (P : V → Hp → Prop) : Prop := ∀ H1, Ex H H1 → ∀ Q : VK, (∀ v H2, Ex H1 H2 → P v H2 → Q v H2) → te σ H1 Q
def SpX (sp : Sp) (vs : List V) (H : Hp) (P : V → Hp → Prop) : Prop := ∀ H1, Ex H H1 → ∀ Q : VK, (∀ v H2, Ex H1 H2 → P v H2 → Q v H2) → ∀ E : XK, sp vs H1 Q E
def RetX (P : V → Hp → Prop) (H : Hp) (Q : VK) : Prop := ∀ v H2, Ex H H2 → P v H2 → Q v H2
section
variable {K : PySem.W.Frag} {σ : L2.St} {H H' : Hp} {ta tb te tx tl : TE} {t u : TT} {x y z v : V} {r : R2} {P : V → Hp → Prop} {D : Ends} {tu tz : TS}
theorem EvX.mono (e : Ex H H') (h : EvX te σ H P) : EvX te σ H' P := fun H1 a Q q => h H1 (e.trans a) Q q
theorem EvX.imp {P' : V → Hp → Prop} (h : EvX te σ H P) (hi : ∀ v H2, Ex H H2 → P v H2 → P' v H2) : EvX te σ H P' := fun H1 e Q q => h H1 e Q fun v H2 e2 p => q v H2 e2 (hi v H2 (e.trans e2) p)
theorem evx_ev (h : Ev te σ H v) : EvX te σ H (fun y _ => y = v) := fun H1 e Q q => h H1 e Q fun H2 e2 => q v H2 e2 rfl
theorem ev_evx (h : EvX te σ H (fun y _ => y = v)) : Ev te σ H v := fun H1 e Q q => h H1 e Q fun y H2 e2 p => by
  subst p
  exact q H2 e2
theorem evx_l {xs : List V} (h : EvL te σ H xs) : EvX te σ H (fun y H2 => ∃ p, y = .ref p ∧ H p = none ∧ H2 p = some (.lst xs)) := fun H1 e Q q =>
  h H1 e Q fun p H2 hp e2 h2 => q (.ref p) H2 e2 ⟨p, rfl, fresh_back e hp, h2⟩
theorem evx_call {sp : Sp} {E : XK} {ta : TA} {vs : List V} (h : EvA ta σ H vs) (hs : SpX sp (vs ++ []) H P) : EvX (tCall sp [] E ta) σ H P := fun H1 e Q q =>
  h H1 e _ fun H2 e2 => hs H2 (e.trans e2) Q (fun v H3 e3 p => q v H3 (e2.trans e3) p) E
theorem s_asgX {i : Nat} (h : EvX te σ H P) (k : ∀ v H1, Ex H H1 → P v H1 → D.nx (σ.set i (some v)) H1) : tAsg te (gName i) D σ H := h H (Ex.refl H) _ fun v H1 e p => k v H1 e p
theorem q_asgX {i : Nat} (h : EvX te σ H P) (k : ∀ v H1, Ex H H1 → P v H1 → tz D (σ.set i (some v)) H1) : tSeq (tAsg te (gName i)) tz D σ H := s_asgX (D := { D with nx := tz D }) h k
theorem s_retX (h : EvX te σ H P) (k : ∀ v H1, Ex H H1 → P v H1 → D.rt v H1) : tRet te D σ H := h H (Ex.refl H) _ k
theorem RetX.go {Q : VK} (k : RetX P H Q) (e : Ex H H') {H2 : Hp} (e2 : Ex H' H2) (h : P v H2) : Q v H2 := k v H2 (e.trans e2) h
end

/-! ### isinstance -/
theorem TyX.mono {K : PySem.W.Frag} {H H' : Hp} {x : V} {t : Value} (e : Ex H H') (h : TyX K H x t) : TyX K H' x t := by
  cases h with
  | base b =>
    refine .base ?_
    cases b with
    | non => exact .non
    | bl y => exact .bl y
    | int i => exact .int i
    | str y => exact .str y
    | flt y => exact .flt y
    | lst ea => exact .lst (e _ _ ea)
    | frz ea => exact .frz (e _ _ ea)
    | tup ea => exact .tup (e _ _ ea)
    | dK ea => exact .dK (e _ _ ea)
    | dT ea => exact .dT (e _ _ ea)
    | ins ea cl ha hn htk hm => exact .ins (e _ _ ea) cl ha hn htk hm
  | byt y => exact .byt y
  | set ea => exact .set (e _ _ ea)
  | kList ea c => exact .kList ea c
  | kTuple ea c => exact .kTuple ea c
  | kDict ea c => exact .kDict ea c
  | fTuple ea => exact .fTuple (e _ _ ea)
  | fDict ea => exact .fDict (e _ _ ea)
/-- isinstance(x, T) says b -/
def IsV (K : PySem.W.Frag) (H : Hp) (x : V) (T : String) (b : Bool) : Prop := ∃ t, TyX K H x t ∧ PySem.W.kitOne K t (.type T) = some b
theorem IsV.mono {K : PySem.W.Frag} {H H' : Hp} {x : V} {T : String} {b : Bool} (e : Ex H H') (h : IsV K H x T b) : IsV K H' x T b := by
  obtain ⟨t, a, c⟩ := h
  exact ⟨t, TyX.mono e a, c⟩
/-- x is a whole number, or none -/
def WholeV (K : PySem.W.Frag) (H : Hp) (x : V) (b : Bool) : Prop := ∃ b1 b2, IsV K H x "int" b1 ∧ IsV K H x "bool" b2 ∧ b = (b1 && !b2)
theorem WholeV.mono {K : PySem.W.Frag} {H H' : Hp} {x : V} {b : Bool} (e : Ex H H') (h : WholeV K H x b) : WholeV K H' x b := by
  obtain ⟨b1, b2, h1, h2, h3⟩ := h
  exact ⟨b1, b2, h1.mono e, h2.mono e, h3⟩
section
variable {K : PySem.W.Frag} {H : Hp}
theorem isv_ty {x : V} {a b : String} {r : Bool} (h : TyX K H x (.type a)) (k : kitB a b = some r) : IsV K H x b r := ⟨.type a, h, kit_ty k⟩
theorem whole_int (i : Int) : WholeV K H (.int i) true := ⟨true, false, isv_ty (.base (.int i)) (by decide +kernel), isv_ty (.base (.int i)) (by decide +kernel), rfl⟩
theorem whole_bl (b : Bool) : WholeV K H (.bl b) false := ⟨true, true, isv_ty (.base (.bl b)) (by decide +kernel), isv_ty (.base (.bl b)) (by decide +kernel), rfl⟩
theorem whole_non : WholeV K H .non false := ⟨false, false, isv_ty (.base .non) (by decide +kernel), isv_ty (.base .non) (by decide +kernel), rfl⟩
theorem whole_str (x : Str) : WholeV K H (.str x) false := ⟨false, false, isv_ty (.base (.str x)) (by decide +kernel), isv_ty (.base (.str x)) (by decide +kernel), rfl⟩
theorem whole_lst {a : Addr} (h : TyX K H (.ref a) (.type "list")) : WholeV K H (.ref a) false := ⟨false, false, isv_ty h (by decide +kernel), isv_ty h (by decide +kernel), rfl⟩
theorem whole_tup {a : Addr} (h : TyX K H (.ref a) (.type "tuple")) : WholeV K H (.ref a) false := ⟨false, false, isv_ty h (by decide +kernel), isv_ty h (by decide +kernel), rfl⟩
theorem whole_dct {a : Addr} (h : TyX K H (.ref a) (.type "dict")) : WholeV K H (.ref a) false := ⟨false, false, isv_ty h (by decide +kernel), isv_ty h (by decide +kernel), rfl⟩
theorem rc_isi {x : V} {T : String} {b : Bool} (h : IsV K H x T b) : RC (rIsi K) [x, .ty T] H (.bl b) := fun H1 e Q q => by
  obtain ⟨t, ty, k⟩ := h.mono e
  exact ⟨x, .ty T, t, .type T, b, rfl, .ty T, ty, k, q H1 (Ex.refl H1)⟩
end
section
variable {X : Cx} {p p1 pos : Pos} {e : Expr} {te : TE}
theorem isi_int (B : Blt X.mg) (he : PE X e te) (hg : Gl X "isinstance" := by rfl) (hgT : Gl X "int" := by rfl) (h1 : starEach (e :: [.Name "int" p1]) X.env = (false, eval e X.env) :: starEach [.Name "int" p1] X.env := by rfl) :
    PE X (.Call (.Name "isinstance" p) [e, .Name "int" p1] [] pos) (tCB (rIsi X.K) (tCons te (tCons (tC (.ty "int")) tNil))) :=
  pe_callB call_isi hg B.isinstance boot_isinstance (pa_cons he (pa_cons (pe_bltn (v := .ty "int") hgT B.int PyProof.Rows.boot_int rfl) pa_nil) h1) (he := h1)
theorem isi_bool (B : Blt X.mg) (he : PE X e te) (hg : Gl X "isinstance" := by rfl) (hgT : Gl X "bool" := by rfl) (h1 : starEach (e :: [.Name "bool" p1]) X.env = (false, eval e X.env) :: starEach [.Name "bool" p1] X.env := by rfl) :
    PE X (.Call (.Name "isinstance" p) [e, .Name "bool" p1] [] pos) (tCB (rIsi X.K) (tCons te (tCons (tC (.ty "bool")) tNil))) :=
  pe_callB call_isi hg B.isinstance boot_isinstance (pa_cons he (pa_cons (pe_bltn (v := .ty "bool") hgT B.bool PyProof.Rows.boot_bool rfl) pa_nil) h1) (he := h1)
theorem isi_list (B : Blt X.mg) (he : PE X e te) (hg : Gl X "isinstance" := by rfl) (hgT : Gl X "list" := by rfl) (h1 : starEach (e :: [.Name "list" p1]) X.env = (false, eval e X.env) :: starEach [.Name "list" p1] X.env := by rfl) :
    PE X (.Call (.Name "isinstance" p) [e, .Name "list" p1] [] pos) (tCB (rIsi X.K) (tCons te (tCons (tC (.ty "list")) tNil))) :=
  pe_callB call_isi hg B.isinstance boot_isinstance (pa_cons he (pa_cons (pe_bltn (v := .ty "list") hgT B.list PyProof.Rows.boot_list rfl) pa_nil) h1) (he := h1)
theorem isi_tuple (B : Blt X.mg) (he : PE X e te) (hg : Gl X "isinstance" := by rfl) (hgT : Gl X "tuple" := by rfl) (h1 : starEach (e :: [.Name "tuple" p1]) X.env = (false, eval e X.env) :: starEach [.Name "tuple" p1] X.env := by rfl) :
    PE X (.Call (.Name "isinstance" p) [e, .Name "tuple" p1] [] pos) (tCB (rIsi X.K) (tCons te (tCons (tC (.ty "tuple")) tNil))) :=
  pe_callB call_isi hg B.isinstance boot_isinstance (pa_cons he (pa_cons (pe_bltn (v := .ty "tuple") hgT B.tuple PyProof.Rows.boot_tuple rfl) pa_nil) h1) (he := h1)
/-- len(e), e a list or a tuple -/
theorem len_of (B : Blt X.mg) (he : PE X e te) (hg : Gl X "len" := by rfl) (h1 : starEach [e] X.env = (false, eval e X.env) :: starEach [] X.env := by rfl) :
    PE X (.Call (.Name "len" p) [e] [] pos) (tCB (rLenS X.K) (tCons te tNil)) := pe_callB call_len_seq hg B.len PySem.boot_len (pa_cons he pa_nil h1) (he := h1)
/-- list(e) -/
theorem list_of (B : Blt X.mg) (he : PE X e te) (hg : Gl X "list" := by rfl) (h1 : starEach [e] X.env = (false, eval e X.env) :: starEach [] X.env := by rfl) :
    PE X (.Call (.Name "list" p) [e] [] pos) (tCB (rListS X.K) (tCons te tNil)) := pe_callTy call_list_of hg B.list PyProof.Rows.boot_list (pa_cons he pa_nil h1) (he := h1)
end
end FzL

/-! Pairs and lists of pairs on the heap; their equality; lists of ints. -/
namespace FzL
open PySem PySem.Spec PyProof.Rows L2 Evl Fz

mutual
theorem dp_mono {K : PySem.W.Frag} {H H' : Hp} (e : Ex H H') : ∀ (d : PyData) {v : V}, Dp K H v d → Dp K H' v d
  | .none, _, h => by cases h; exact .non
  | .bool _, _, h => by cases h; exact .bl _
  | .int _, _, h => by cases h; exact .int _
  | .str _, _, h => by cases h; exact .str _
  | .list ds, _, h => by
    cases h with
    | lst a b => exact .lst (ex_l e a) (dpall_mono e ds b)
  | .tuple ds, _, h => by
    cases h with
    | tup a b => exact .tup (ex_t e a) (dpall_mono e ds b)
  | .dict _, _, h => by cases h
theorem dpall_mono {K : PySem.W.Frag} {H H' : Hp} (e : Ex H H') : ∀ (ds : List PyData) {vs : List V}, DpAll K H vs ds → DpAll K H' vs ds
  | [], _, h => by cases h; exact .nil
  | d :: ds, _, h => by
    cases h with
    | cons a b => exact .cons (dp_mono e d a) (dpall_mono e ds b)
end
/-- a pair of ints as data, a list of ints, a list of pairs -/
def dInts (ns : List Int) : PyData := .list (ns.map .int)
def dPair (p : PI) : PyData := .tuple [.int p.1, .int p.2]
def dPairs (ps : List PI) : PyData := .list (ps.map dPair)
theorem eqvAll_ints : ∀ ns ms : List Int, PyData.eqvAll (ns.map .int) (ms.map .int) = decide (ns = ms)
  | [], [] => by simp [PyData.eqvAll]
  | [], _ :: _ => by simp [PyData.eqvAll]
  | _ :: _, [] => by simp [PyData.eqvAll]
  | n :: ns, m :: ms => by
    rw [List.map_cons, List.map_cons, PyData.eqvAll, eqvAll_ints ns ms, PyData.eqv, Bool.eq_iff_iff]
    simp
theorem eqv_ints (ns ms : List Int) : PyData.eqv (dInts ns) (dInts ms) = decide (ns = ms) := by
  unfold dInts
  rw [PyData.eqv, eqvAll_ints]
theorem eqv_pair (p q : PI) : PyData.eqv (dPair p) (dPair q) = decide (p = q) := by
  obtain ⟨a, b⟩ := p
  obtain ⟨c, d⟩ := q
  unfold dPair
  rw [PyData.eqv, PyData.eqvAll, PyData.eqvAll, PyData.eqvAll, PyData.eqv, PyData.eqv, Bool.eq_iff_iff]
  simp
theorem eqvAll_pairs : ∀ ps qs : List PI, PyData.eqvAll (ps.map dPair) (qs.map dPair) = decide (ps = qs)
  | [], [] => by simp [PyData.eqvAll]
  | [], _ :: _ => by simp [PyData.eqvAll]
  | _ :: _, [] => by simp [PyData.eqvAll]
  | n :: ns, m :: ms => by
    rw [List.map_cons, List.map_cons, PyData.eqvAll, eqvAll_pairs ns ms, eqv_pair, Bool.eq_iff_iff]
    simp
theorem eqv_pairs (ps qs : List PI) : PyData.eqv (dPairs ps) (dPairs qs) = decide (ps = qs) := by
  unfold dPairs
  rw [PyData.eqv, eqvAll_pairs]
theorem can_ints : ∀ ns : List Int, PyData.canLayAll0 (ns.map .int) = true
  | [] => by simp [PyData.canLayAll0]
  | n :: ns => by
    rw [List.map_cons, PyData.canLayAll0, can_ints ns]
    simp [PyData.canLay0]
theorem dep_ints : ∀ ns : List Int, PyData.depthAll (ns.map .int) = 0
  | [] => by simp [PyData.depthAll]
  | n :: ns => by
    rw [List.map_cons, PyData.depthAll, dep_ints ns]
    simp [PyData.depth]
theorem can_pair (p : PI) : PyData.canLay0 (dPair p) = true := by simp [dPair, PyData.canLay0, PyData.canLayAll0]
theorem dep_pair (p : PI) : PyData.depth (dPair p) = 1 := by simp [dPair, PyData.depth, PyData.depthAll]
theorem can_pairs : ∀ ps : List PI, PyData.canLayAll0 (ps.map dPair) = true
  | [] => by simp [PyData.canLayAll0]
  | n :: ns => by rw [List.map_cons, PyData.canLayAll0, can_pairs ns, can_pair]; rfl
theorem dep_pairs : ∀ ps : List PI, PyData.depthAll (ps.map dPair) ≤ 1
  | [] => by simp [PyData.depthAll]
  | n :: ns => by
    rw [List.map_cons, PyData.depthAll, dep_pair]
    have := dep_pairs ns
    omega
theorem shaped_ints (ns : List Int) : SeqAt.shaped (dInts ns) = true := by
  unfold SeqAt.shaped dInts
  rw [PyData.canLay0, can_ints, PyData.depth, dep_ints]
  rfl
theorem shaped_pair (p : PI) : SeqAt.shaped (dPair p) = true := by
  unfold SeqAt.shaped
  rw [can_pair, dep_pair]
  rfl
theorem shaped_pairs (ps : List PI) : SeqAt.shaped (dPairs ps) = true := by
  unfold SeqAt.shaped dPairs
  rw [PyData.canLay0, can_pairs, PyData.depth]
  have := dep_pairs ps
  rw [decide_eq_true (by omega)]
  rfl
/-- v is a tuple of two ints -/
def Pr (K : PySem.W.Frag) (H : Hp) (v : V) (p : PI) : Prop := ∃ t, v = .ref t ∧ H t = some (.tup [.int p.1, .int p.2])
def Prs (K : PySem.W.Frag) (H : Hp) (vs : List V) (ps : List PI) : Prop := Paired (Pr K H) vs ps
section
variable {K : PySem.W.Frag} {H H' : Hp}
theorem Pr.mono {v : V} {p : PI} (e : Ex H H') (h : Pr K H v p) : Pr K H' v p := by
  obtain ⟨t, a, b⟩ := h
  exact ⟨t, a, e _ _ b⟩
theorem Prs.mono {vs : List V} {ps : List PI} (e : Ex H H') (h : Prs K H vs ps) : Prs K H' vs ps := Paired.mapP h fun _ _ => Pr.mono e
theorem Prs.len {vs : List V} {ps : List PI} (h : Prs K H vs ps) : vs.length = ps.length := Paired.length h
theorem Prs.get : ∀ {vs : List V} {ps : List PI}, Prs K H vs ps → ∀ {i : Nat} {v : V}, vs[i]? = some v → ∃ p, ps[i]? = some p ∧ Pr K H v p
  | _, _, .nil, i, v, h => by simp at h
  | _, _, .cons a b, 0, v, h => by
    simp at h
    subst h
    exact ⟨_, rfl, a⟩
  | _, _, .cons a b, i + 1, v, h => by
    obtain ⟨p, h1, h2⟩ := Prs.get b (i := i) (v := v) (by simpa using h)
    exact ⟨p, by simpa using h1, h2⟩
theorem Prs.mem {vs : List V} {ps : List PI} (h : Prs K H vs ps) {v : V} (hv : v ∈ vs) : ∃ p, p ∈ ps ∧ Pr K H v p := by
  obtain ⟨i, hi⟩ := List.mem_iff_getElem?.mp hv
  obtain ⟨p, a, b⟩ := h.get hi
  exact ⟨p, List.mem_iff_getElem?.mpr ⟨i, a⟩, b⟩
theorem Prs.snoc {vs : List V} {ps : List PI} {v : V} {p : PI} (h : Prs K H vs ps) (hp : Pr K H v p) : Prs K H (vs ++ [v]) (ps ++ [p]) := Paired.snoc h hp
theorem dp_ints {a : Addr} {ns : List Int} (h : SqL K H a (ns.map V.int)) : Dp K H (.ref a) (dInts ns) := by
  refine .lst h ?_
  clear h
  induction ns with
  | nil => exact .nil
  | cons n ns ih => exact .cons (.int n) ih
theorem dp_pair {v : V} {p : PI} (h : Pr K H v p) : Dp K H v (dPair p) := by
  obtain ⟨t, rfl, b⟩ := h
  exact .tup (st_of b) (.cons (.int _) (.cons (.int _) .nil))
theorem dpall_pairs : ∀ {vs : List V} {ps : List PI}, Prs K H vs ps → DpAll K H vs (ps.map dPair)
  | _, _, .nil => .nil
  | _, _, .cons a b => .cons (dp_pair a) (dpall_pairs b)
theorem dp_pairs {a : Addr} {vs : List V} {ps : List PI} (h : SqL K H a vs) (hp : Prs K H vs ps) : Dp K H (.ref a) (dPairs ps) := .lst h (dpall_pairs hp)

/-! ### comparisons by data -/
theorem rv_eqD {x y : V} {d e : PyData} (hx : Dp K H x d) (hy : Dp K H y e) (sd : SeqAt.shaped d = true) (se : SeqAt.shaped e = true) {b : Bool} (hb : PyData.eqv d e = b) : RV (rEqD K) x y H (.bl b) := fun H1 ex Q q =>
  ⟨d, e, dp_mono ex d hx, dp_mono ex e hy, sd, se, by rw [hb]; exact q H1 (Ex.refl H1)⟩
theorem rv_neD {x y : V} {d e : PyData} (hx : Dp K H x d) (hy : Dp K H y e) (sd : SeqAt.shaped d = true) (se : SeqAt.shaped e = true) {b : Bool} (hb : PyData.eqv d e = b) : RV (rNeD K) x y H (.bl (!b)) := fun H1 ex Q q =>
  ⟨d, e, dp_mono ex d hx, dp_mono ex e hy, sd, se, by rw [hb]; exact q H1 (Ex.refl H1)⟩
theorem inV_ints (i : Int) (ns : List Int) : inV (.int i) (ns.map V.int) = ns.any fun z => decide (z = i) := by
  unfold inV
  rw [List.any_map]
  congr 1
theorem flat_ints (ns : List Int) : (ns.map V.int).all flatV = true := by
  rw [List.all_map]
  exact List.all_eq_true.mpr fun _ _ => rfl
theorem ints_get {ns : List Int} {i : Nat} {y : V} (h : (ns.map V.int)[i]? = some y) : ∃ n, ns[i]? = some n ∧ y = V.int n := by
  rw [List.getElem?_map] at h
  cases e : ns[i]? with
  | none =>
    rw [e] at h
    cases h
  | some n =>
    rw [e] at h
    exact ⟨n, rfl, (Option.some.inj h).symm⟩
/-- the least of a list below one -/
theorem et_min1 {σ : L2.St} {ta : TE} {a : Addr} {ns : List Int} (ha : Ev ta σ H (.ref a)) (hs : SqL K H a (ns.map V.int)) (h0 : 0 < ns.length) :
    EvT (tTest (tOp (rI0 fun i j => .bl (decide (i < j))) (tCB (rMin K) (tCons ta tNil)) (tC (.int 1)))) σ H (ns.any fun z => decide (z < 1)) := fun H1 e Q q =>
  ha H1 e _ fun H2 e2 => ⟨a, ns, rfl, ex_l (e.trans e2) hs, h0, fun m hm hle => ⟨m, 1, rfl, rfl, decide (m < 1), rfl, by
    have hb : (ns.any fun z => decide (z < 1)) = decide (m < 1) := by
      rw [Bool.eq_iff_iff, List.any_eq_true]
      constructor
      · rintro ⟨z, hz, hd⟩
        have h1 := of_decide_eq_true hd
        have h2 := hle z hz
        exact decide_eq_true (by omega)
      · intro hd
        exact ⟨m, hm, hd⟩
    rw [← hb]
    exact q H2 e2⟩⟩
theorem any_le {ns : List Int} : (!ns.any fun z => decide (z < 1)) = ns.all fun z => decide (0 < z) := by
  rw [List.not_any_eq_all_not]
  congr 1
  funext z
  rw [← decide_not]
  exact decide_eq_decide.mpr (by omega)
end
end FzL

/-! Comprehensions that map. -/
namespace FzL
open PySem PySem.Spec PyProof.Rows L2 Evl Fz
section
variable {K : PySem.W.Frag} {σ : L2.St} {H H' : Hp} {ta tb te tx tl : TE} {t u : TT} {x y z v : V}
theorem given_all (n : Nat) (v : Nat → V) : given n (fun _ => true) v = (List.range n).map v := by
  unfold given
  rw [List.filter_eq_self.mpr (fun _ _ => rfl)]
theorem range_map {ys : List V} {n : Nat} (h : ys.length = n) : (List.range n).map (fun i => ys.getD i .non) = ys := by
  subst h
  apply List.ext_getElem (by rw [List.length_map, List.length_range])
  intro i h1 h2
  rw [List.getElem_map, List.getElem_range, List.getD_eq_getElem?_getD, List.getElem?_eq_getElem h2]
  rfl
/-- [e for x in xs], xs at a -/
theorem el_map {a : Addr} {xs : List V} {j : Nat} {vs : List Nat} (ys : List V) (h : Ev tl σ H (.ref a)) (hx : SqL K H a xs) (hz : xs.length ≤ 40000) (hl : ys.length = xs.length) (hw : ∀ x, wipe ((wipe σ vs).set j (some x)) vs = wipe σ vs)
    (he : ∀ (i : Nat) (x y : V) H1, Ex H H1 → xs[i]? = some x → ys[i]? = some y → Ev te ((wipe σ vs).set j (some x)) H1 y) : EvL (tLc (iList K tl) (gName j) tYes te vs) σ H ys := by
  have e := el_lcL (te := te) (t := tYes) (fun _ => true) (fun i => ys.getD i .non) h hx hz hw (fun i x H1 _ _ H2 _ Q q => q H2 (Ex.refl H2)) (fun i x H1 e1 hi _ => by
    have hlt : i < ys.length := by
      rw [hl]
      exact (List.getElem?_eq_some_iff.mp hi).1
    have hy : ys[i]? = some (ys.getD i .non) := by
      rw [List.getD_eq_getElem?_getD, List.getElem?_eq_getElem hlt]
      rfl
    exact he i x _ H1 e1 hi hy)
  rw [given_all, range_map hl] at e
  exact e
/-- over a new list -/
theorem el_mapN {xs : List V} {j : Nat} {vs : List Nat} (ys : List V) (h : EvL tl σ H xs) (hz : xs.length ≤ 40000) (hl : ys.length = xs.length) (hw : ∀ x, wipe ((wipe σ vs).set j (some x)) vs = wipe σ vs)
    (he : ∀ (i : Nat) (x y : V) H1, Ex H H1 → xs[i]? = some x → ys[i]? = some y → Ev te ((wipe σ vs).set j (some x)) H1 y) : EvL (tLc (iList K tl) (gName j) tYes te vs) σ H ys := by
  have e := el_lcNL (K := K) (te := te) (t := tYes) (fun _ => true) (fun i => ys.getD i .non) h hz hw (fun i x H1 _ _ H2 _ Q q => q H2 (Ex.refl H2)) (fun i x H1 e1 hi _ => by
    have hlt : i < ys.length := by
      rw [hl]
      exact (List.getElem?_eq_some_iff.mp hi).1
    have hy : ys[i]? = some (ys.getD i .non) := by
      rw [List.getD_eq_getElem?_getD, List.getElem?_eq_getElem hlt]
      rfl
    exact he i x _ H1 e1 hi hy)
  rw [given_all, range_map hl] at e
  exact e
theorem bools_get {bs : List Bool} {i : Nat} {y : V} (h : (bs.map V.bl)[i]? = some y) : ∃ b, bs[i]? = some b ∧ y = V.bl b := by
  rw [List.getElem?_map] at h
  cases e : bs[i]? with
  | none =>
    rw [e] at h
    cases h
  | some n =>
    rw [e] at h
    exact ⟨n, rfl, (Option.some.inj h).symm⟩
/-- all of a new list of bools -/
theorem ev_all {bs : List Bool} (h : EvL tl σ H (bs.map V.bl)) : Ev (tCB (rAll K) (tCons tl tNil)) σ H (.bl (bs.all id)) := fun H1 e Q q =>
  h H1 e _ fun p H2 hp e2 h2 => ⟨p, bs, rfl, sq_of h2, q H2 e2⟩
end
/-! ### tests by their first part -/
section
variable {K : PySem.W.Frag} {σ : L2.St} {H H' : Hp} {ta tb tc te tx tl : TE} {t u : TT} {x y z v : V} {r r' : R2} {b c : Bool}
theorem et_orY (h : EvT t σ H true) : EvT (tOr t u) σ H true := fun H1 e Q q => h H1 e _ fun H2 e2 => q H2 e2
theorem et_orN (h : EvT t σ H false) (h2 : EvT u σ H b) : EvT (tOr t u) σ H b := fun H1 e Q q => h H1 e _ fun H2 e2 => h2 H2 (e.trans e2) Q fun H3 e3 => q H3 (e2.trans e3)
theorem et_andN (h : EvT t σ H false) : EvT (tAnd t u) σ H false := fun H1 e Q q => h H1 e _ fun H2 e2 => q H2 e2
theorem et_andY (h : EvT t σ H true) (h2 : EvT u σ H b) : EvT (tAnd t u) σ H b := fun H1 e Q q => h H1 e _ fun H2 e2 => h2 H2 (e.trans e2) Q fun H3 e3 => q H3 (e2.trans e3)
theorem et_notI (h : EvT t σ H b) (e : (!b) = c) : EvT (tNot t) σ H c := et_is (et_not h) e
theorem ev_andN (h : Ev ta σ H (.bl false)) : Ev (tAndV ta tb) σ H (.bl false) := fun H1 e Q q => h H1 e _ fun H2 e2 => ⟨false, rfl, q H2 e2⟩
theorem ev_andY (h : Ev ta σ H (.bl true)) (h2 : Ev tb σ H v) : Ev (tAndV ta tb) σ H v := fun H1 e Q q => h H1 e _ fun H2 e2 => ⟨true, rfl, h2 H2 (e.trans e2) Q fun H3 e3 => q H3 (e2.trans e3)⟩
theorem ev_orY (h : Ev ta σ H (.bl true)) : Ev (tOrV ta tb) σ H (.bl true) := fun H1 e Q q => h H1 e _ fun H2 e2 => ⟨true, rfl, q H2 e2⟩
theorem ev_orN (h : Ev ta σ H (.bl false)) (h2 : Ev tb σ H v) : Ev (tOrV ta tb) σ H v := fun H1 e Q q => h H1 e _ fun H2 e2 => ⟨false, rfl, h2 H2 (e.trans e2) Q fun H3 e3 => q H3 (e2.trans e3)⟩
theorem ev_lenT {p : Addr} {xs : List V} (ha : Ev ta σ H (.ref p)) (h : SqT K H p xs) : Ev (tCB (rLenS K) (tCons ta tNil)) σ H (.int (xs.length : Int)) := fun H1 e Q q =>
  ha H1 e _ fun H2 e2 => ⟨p, xs, rfl, Or.inr (ex_t (e.trans e2) h), q H2 e2⟩
/-- a < b < c -/
theorem ev_chain (ha : Ev ta σ H x) (hb : Ev tb σ H y) (hr : RV r x y H (.bl b)) (hc : b = true → Ev tc σ H z) (hr' : b = true → RV r' y z H (.bl c)) : Ev (tChain r r' ta tb tc) σ H (.bl (b && c)) := fun H1 e Q q =>
  ha H1 e _ fun H2 e2 => hb H2 (e.trans e2) _ fun H3 e3 => hr H3 ((e.trans e2).trans e3) _ fun H4 e4 => ⟨b, rfl, by
    cases b with
    | true => exact hc rfl H4 (((e.trans e2).trans e3).trans e4) _ fun H5 e5 => hr' rfl H5 ((((e.trans e2).trans e3).trans e4).trans e5) Q fun H6 e6 => q H6 ((((e2.trans e3).trans e4).trans e5).trans e6)
    | false => exact q H4 ((e2.trans e3).trans e4)⟩
theorem rv_lt {i j : Int} : RV (rI0 fun i j => .bl (decide (i < j))) (.int i) (.int j) H (.bl (decide (i < j))) := rv_I0
end
/-- all: the bools of a list of values -/
def AllV (F : V → Bool → Prop) (xs : List V) (bs : List Bool) : Prop := Paired F xs bs
end FzL

/-! sorted(e, key=lambda x: (x[0], -x[1])). -/
namespace FzL
open PySem PySem.Spec PyProof.Rows
section
variable {prog : Program} {w : World} {A : Around} {E : Value → Shared → Prop} {s : Shared}
theorem item_tup {t : Addr} {value slice : Expr} {its : Array Value} {j : Nat} {u : Tok} {x : Value} {Q : Value → Shared → Prop} (ht : PyProof.Rows.IsTup s.heap t its) (hj : j < 100) (hx : its[j]? = some x) (h : Q x s)
    (hs : subscripted slice false (.ref t) (.int (j : Int) u) = operate [.ref t, .int (j : Int) u] (getItem (.ref t) (.int (j : Int) u))) :
    wpAny (model prog w) A (subscriptTail value slice (.ref t) (.int (j : Int) u)) Q E s := by
  have hlt : j < its.size := by
    rcases Nat.lt_or_ge j its.size with q | q
    · exact q
    · rw [Array.getElem?_eq_none q] at hx
      cases hx
  exact subscriptTail_builtinR (x := x) ht.typeIs slot_tuple_getitem.lookup (PyProof.Rows.getItem_tuple (j := j) ht (by omega) (by omega) (seqIndex_of (by omega) (by omega)) hx ⟨rfl, h⟩) hs
theorem lam_eval {t : Addr} {x : Str} {env : Env} {m : Str → Option Value} {i j : Int} {t1 t2 : Tok} {p1 p2 p3 p4 p5 p6 p7 p8 : Pos} {j1 j2 k : Nat}
    (hk : env.scope.kind = .function) (hl : env.kindOf x = some .local) (hn : s.heap.Ns env.locals m) (hm : m x = some (.ref t)) (hd : (x == ("__debug__" : Str)) = false) (ht : PyProof.Rows.IsTup s.heap t #[.int i t1, .int j t2])
    {Q : Value → Shared → Prop} (hQ : ∀ (u : Tok) (tk : Nat), Q (.ref s.heap.objs.size) { s with heap := s.heap.push { cls := .type "tuple", data := .seq #[.int i t1, .int (-j) u] }, toks := tk }) :
    wpAny (model prog w) A (eval (.Tuple [.Subscript (.Name x p1) (.Constant (.int 0) j1 p2) p3, .UnaryOp .USub (.Subscript (.Name x p4) (.Constant (.int 1) j2 p5) p6) p7] k p8) env) Q E s := by
  refine wpAny_Tuple_spliced ?_
  refine Calls.spliced_cons (Subscript_ (wpAny_Name (wpAny_loadName_local hk hl hn hm (wpAny_Constant_int ?_)) hd))
  refine item_tup (j := 0) ht (by decide) rfl ?_ rfl
  refine Calls.spliced_cons (UnaryOp_ (Subscript_ (wpAny_Name (wpAny_loadName_local hk hl hn hm (wpAny_Constant_int ?_)) hd)))
  refine item_tup (j := 1) ht (by decide) rfl (neg_int (Calls.spliced_nil ⟨by show 2 ≤ sizeLine; decide, ?_⟩)) rfl
  exact hQ _ _
/-- the key of a pair -/
theorem lam_key {f c' t : Addr} {qual x : Str} {params : Arguments} {body : Expr} {scope : Scope} {pm ctv : Value} {i j : Int} {t1 t2 : Tok} {p1 p2 p3 p4 p5 p6 p7 p8 : Pos} {j1 j2 k : Nat}
    (hroom : A.depth < recursionLimit) (hlim : s.heap.NoLimit) (hf : s.heap.get? f = some (PySem.W.kla_obj "<lambda>" qual params body scope [] pm c' ctv)) (hc : s.heap.CodeRec (.ref c') qual)
    (hbody : body = .Tuple [.Subscript (.Name x p1) (.Constant (.int 0) j1 p2) p3, .UnaryOp .USub (.Subscript (.Name x p4) (.Constant (.int 1) j2 p5) p6) p7] k p8)
    (hbind : ∀ u : Value, bindArgs (PySem.W.kla_fn "<lambda>" qual params body scope [] pm (.ref c') ctv) ⟨[u], []⟩ = pure [(x, u)]) (hloc : scope.names.lookup x = some .local) (hcell : ∀ y ∈ scope.names, y.2 ≠ .cell)
    (hkind : scope.kind = .function) (hco : scope.isCoroutine = false) (hgen : scope.isGenerator = false) (hd : (x == ("__debug__" : Str)) = false) (ht : PyProof.Rows.IsTup s.heap t #[.int i t1, .int j t2]) :
    wpAny (model prog w) A (call (.ref f) [.ref t]) (PySem.W.KeyPure (.tuple [.int i, .int (-j)]) s) (fun _ _ => False) s := by
  refine wpAny_call (PySem.W.kla_callFunE hroom hf rfl hco hgen rfl hc ?_)
  rw [hbind]
  refine wpAny_pure (wpAny_newFunctionEnv hcell (fun y hy => ?_) (fun h₁ hns hsb => ⟨hlim.fresh _ hsb, ?_⟩) hkind)
  · have e := List.mem_singleton.mp hy
    rw [e]
    exact hloc
  have kp : ∀ b o, s.heap.get? b = some o → h₁.get? b = some o := fun b o e => hsb.extBut b o (Nat.ne_of_lt (Heap.lt_size e)) (Heap.get?_push_of_some _ e)
  refine PySem.W.kla_codeExpr ?_
  subst hbody
  refine lam_eval (env := newEnv scope s.heap.objs.size mainGlobals [] (qual ++ ".<locals>.") (some f) (.ref c') none builtinsNs) (x := x) (t := t) (i := i) (j := j) (t1 := t1) (t2 := t2) hkind hloc hns ?_ hd ?_ fun u tk => ?_
  · show List.lookup x ([(x, Value.ref t)] : List (Str × Value)).reverse = some (.ref t)
    simp [List.lookup]
  · obtain ⟨o, e1, e2, e3⟩ := ht
    exact ⟨o, kp _ _ e1, e2, e3⟩
  · refine ⟨_, _, rfl, fun b o e => Heap.get?_push_of_some _ (kp b o e), ?_⟩
    exact .tuple (Heap.get?_push_size _ rfl) rfl rfl (.cons (.int _ _) (.cons (.int _ _) .nil))
end
end FzL

/-! sorted(e, key=lambda x: (x[0], -x[1])): the rule. -/
namespace FzL
open PySem PySem.Spec PyProof.Rows L2 Evl Fz LamX
theorem vals_pairs {K : PySem.W.Frag} {H : Hp} : ∀ {out : List Value} {ps : List PI}, PySem.W.EachIs (fun v (p : PI) => ∃ t, v = Value.ref t ∧ H t = some (.tup [.int p.1, .int p.2])) out ps → ∃ vs, Vals vs out ∧ Prs K H vs ps
  | _, _, .nil => ⟨[], .nil, .nil⟩
  | _, _, .cons h t => by
    obtain ⟨a, e, ha⟩ := h
    obtain ⟨vs, h1, h2⟩ := vals_pairs (K := K) t
    exact ⟨.ref a :: vs, .cons e h1, .cons ⟨a, rfl, ha⟩ h2⟩
theorem pairs_vals {K : PySem.W.Frag} {H : Hp} : ∀ {vs : List V} {its : List Value} {ps : List PI}, Vals vs its → Prs K H vs ps → PySem.W.EachIs (fun v (p : PI) => ∃ t, v = Value.ref t ∧ H t = some (.tup [.int p.1, .int p.2])) its ps
  | _, _, _, .nil, .nil => .nil
  | _, _, _, .cons r t, .cons h h' => by
    obtain ⟨a, e, ha⟩ := h
    subst e
    exact .cons ⟨a, r, ha⟩ (pairs_vals t h')
theorem kle_ii : (PySem.W.dataLe false fun p : PI => PyData.tuple [.int p.1, .int (-p.2)]) = kle := by
  rw [PySem.W.dataLe_ii (β := PI) (fun p => p.1) (fun p => -p.2)]
  rfl
/-- nothing stood there, but perhaps a table -/
def NewN (H : Hp) (D : Addr) : Prop := ∀ o, H D = some o → ∃ ps, o = .tbl ps
theorem NewN.ne {H : Hp} {D a : Addr} {o : HO} (h : NewN H D) (ha : H a = some o) (ho : ∀ ps, o ≠ .tbl ps) : a ≠ D := fun e => by
  subst e
  obtain ⟨ps, q⟩ := h o ha
  exact ho ps q
/-- the list is sorted by its pairs' keys; the table may grow -/
def kSortK (K : PySem.W.Frag) (T : List (Addr × Str)) (Q : VK) : List V → Hp → Prop
  | [x], H1 => ∃ (a : Addr) (vs : List V) (ps : List PI), x = .ref a ∧ SqL K H1 a vs ∧ Prs K H1 vs ps ∧ Tabs T H1 ∧
    ∀ (D : Addr) (H2 : Hp) (vs' : List V), ExtN H1 H2 → Tabs T H2 → NewN H1 D → H2 D = some (.lst vs') → Prs K H2 vs' (ps.mergeSort kle) → Q (.ref D) H2
  | _, _ => False
def tSortK (K : PySem.W.Frag) (T : List (Addr × Str)) (te : TE) : TE := fun σ H Q => te σ H fun x H1 => kSortK K T Q [x] H1
section
variable {X : Cx}
theorem pe_sortKey {T : List (Addr × Str)} {c P : Addr} {x : Str} {params : Arguments} {body : Expr} {scope : Scope} {te : TE} {e : Expr} {j1 j2 k kk : Nat} {p kpos lpos pos p1 p2 p3 p4 p5 p6 p7 p8 : Pos} (hm : X.mg "sorted" = none) (hg : Gl X "sorted")
    (TB : TabB X.base X.mg c P) (hcode : X.env.code = .ref c) (hmT : (P, X.env.qual ++ "<lambda>") ∈ T) (hu : ∀ q ∈ T, q.1 = P → q.2 = X.env.qual ++ "<lambda>") (hr : Room kk X.A) (he : PE X e te)
    (hbody : body = .Tuple [.Subscript (.Name x p1) (.Constant (.int 0) j1 p2) p3, .UnaryOp .USub (.Subscript (.Name x p4) (.Constant (.int 1) j2 p5) p6) p7] k p8) (hdef : defaultsOf params X.env = ([], []))
    (hbind : ∀ (q : Str) (pm cv ctv u : Value), bindArgs (PySem.W.kla_fn "<lambda>" q params body scope [] pm cv ctv) ⟨[u], []⟩ = pure [(x, u)]) (hloc : scope.names.lookup x = some .local) (hcell : ∀ y ∈ scope.names, y.2 ≠ .cell) (hfree : ∀ y ∈ scope.names, y.2 ≠ .free)
    (hclo : cloFrom X.env.cells scope.names [] = []) (hkind : scope.kind = .function) (hco : scope.isCoroutine = false) (hgen : scope.isGenerator = false) (hd : (x == ("__debug__" : Str)) = false)
    (h1 : backTo pos (starEach [e] X.env) = (false, eval e X.env) :: backTo pos (starEach [] X.env) := by rfl) (hpl : (backTo pos (starEach [e] X.env)).any (·.1) = false := by rfl) (hs : starEach [e] X.env = (false, eval e X.env) :: starEach [] X.env := by rfl) :
    PE X (.Call (.Name "sorted" p) [e] [⟨some "key", .Lambda params body scope lpos, kpos⟩] pos) (tSortK X.K T te) := by
  refine ⟨fun pins s σ H Q I h => ?_⟩
  refine wpAny_Call_Name_kw (ld_blt I hg hm boot_sorted ?_ (by decide) (by decide))
  refine PyProof.Rows.callWith_kw (thn ((pa_cons he pa_nil hs).run pos pins s σ H (kSortK X.K T Q) I h) fun us s1 ⟨ws, H1, I1, r1, q1⟩ => ?_) h1 hpl rfl rfl
  match ws, r1, q1 with
  | [y], .cons ry .nil, q1 =>
    obtain ⟨a, vs, ps, rfl, hsq, hps, hT, q⟩ := q1
    cases ry
    refine wpAny_evalAll_cons (wpAny_bind (lam_make2 I1 TB hcode hmT hu hT hdef (fun y hy e => absurd e (hfree y hy)) fun f c' pm ctv H2 s2 I2 eN T2 hf hfn hfr hco2 => wpAny_bind (wpAny_standAt (wpAny_pure (wpAny_evalAll_nil ?_)))))
    rw [hclo] at hf
    have hsq2 : SqL X.K H2 a vs := by
      rcases hsq with (z | ⟨o, z⟩) | z
      · exact .inl (.inl (eN _ _ z fun _ q => nomatch q))
      · exact .inl (.inr ⟨o, eN _ _ z fun _ q => nomatch q⟩)
      · exact .inr z
    have hps2 : Prs X.K H2 vs ps := Paired.mapP hps fun v p ⟨t, e1, e2⟩ => ⟨t, e1, eN _ _ e2 fun _ q => nomatch q⟩
    obtain ⟨its, rv, pl, hz⟩ := I2.list hsq2
    have eR := pairs_vals rv hps2
    have hl := rv.length
    have hpl2 := hps2.len
    obtain ⟨⟨oc, cvs, t, hoc, hdc, hvc⟩, _, _⟩ := I2.hok c' _ hco2
    show wpAny (model X.prog X.w) X.A (call (.builtin "sorted") [.ref a] [(Str.ofString "key", .ref f)]) (EP X pins σ Q) X.xe s2
    refine PySem.W.sorted_key_data (b := false) (fun p : PI => PyData.tuple [.int p.1, .int (-p.2)]) pl.isList eR (PySem.W.AllAlike.of fun _ _ => by simp [PySem.W.alike, PySem.W.alikeAll]) (PySem.W.Sortable.tuples fun _ => ⟨_, _, rfl⟩) (by omega) (fun p _ => ?_)
      (PyProof.Rows.ksk_s1 _ _) (fun _ => PyProof.Rows.ksk_l1 _ _) (fun _ => PyProof.Rows.ksk_t1 _ _) (fun v p hR hp h tk kp => ?_) (fun out c0 h' tk kp fresh hD hlen eo => ?_)
    · have hd : (PyData.tuple [.int p.1, .int (-p.2)]).depth = 1 := by simp [PyData.depth, PyData.depthAll]
      have := hr.units
      rw [hd]
      omega
    · obtain ⟨t0, e1, e2⟩ := hR
      obtain ⟨_, its2, r2, hT2⟩ := I2.hok t0 _ e2
      obtain ⟨u1, u2, rfl, ri, rj⟩ := vals2 r2
      obtain ⟨k1, rfl⟩ := ri
      obtain ⟨k2, rfl⟩ := rj
      subst e1
      obtain ⟨o, o1, o2, o3⟩ := hT2
      exact lam_key (s := { s2 with heap := h, toks := tk }) hr.depth (I2.nolimit.keeps kp) (kp _ _ hf) ⟨c', oc, cvs, t, rfl, kp _ _ hoc, hdc, hvc⟩ hbody (fun u => hbind _ _ _ _ u) hloc hcell hkind hco hgen hd ⟨o, kp _ _ o1, o2, o3⟩
    · rw [kle_ii] at eo
      obtain ⟨vs', v1, v2⟩ := vals_pairs (K := X.K) eo
      have hn : H2 (s2.heap.objs.size + 1) = none := I2.hok.fresh (Nat.le_succ _)
      have hn1 : NewN H1 (s2.heap.objs.size + 1) := fun o e0 => by
        by_cases ht : ∃ ps, o = .tbl ps
        · exact ht
        · have z := eN _ _ e0 fun ps q => ht ⟨ps, q⟩
          rw [hn] at z
          cases z
      refine ⟨.ref (s2.heap.objs.size + 1), upd H2 (s2.heap.objs.size + 1) (.lst vs'), I2.laid (t' := tk) kp (Nat.le_succ _) ⟨?_, out, c0, v1, hD⟩, rfl, q _ _ vs' (eN.trans (ExtN.of fun b o e => ?_)) (T2.ext fun b o e => ?_) hn1 upd_same (v2.mono fun b o e => ?_)⟩
      · have := v1.length
        omega
      · rw [upd_ne (ne_of_none e hn)]
        exact e
      · rw [upd_ne (ne_of_none e hn)]
        exact e
      · rw [upd_ne (ne_of_none e hn)]
        exact e
end
end FzL

/-! len(set(ps)), ps pairs; stores into a list; reading a list's item. -/
namespace FzL
open PySem PySem.Spec PyProof.Rows L2 Evl Fz LamX
theorem nd_len {A B : List (List Int)} (ha : A.Nodup) (h1 : ∀ x ∈ A, x ∈ B) (h2 : ∀ x ∈ B, x ∈ A) : A.length ≤ B.length ∧ (A.length = B.length ↔ B.Nodup) := by
  have hle := List.Nodup.length_le_of_subset ha h1
  refine ⟨hle, fun he => ?_, fun hb => ?_⟩
  · rw [List.nodup_iff_count]
    intro x
    rcases Nat.lt_or_ge 1 (B.count x) with h | h
    · exfalso
      have hx : x ∈ B := List.count_pos_iff.mp (by omega)
      have hs : ∀ y ∈ A, y ∈ B.erase x := fun y hy => by
        by_cases e : y = x
        · subst e
          refine List.count_pos_iff.mp ?_
          rw [List.count_erase_self]
          omega
        · exact (List.mem_erase_of_ne e).mpr (h1 y hy)
      have hl := List.Nodup.length_le_of_subset ha hs
      rw [List.length_erase_of_mem hx] at hl
      have := List.length_pos_of_mem hx
      omega
    · exact h
  · exact Nat.le_antisymm hle (List.Nodup.length_le_of_subset hb h2)
/-- pairs as lists of two -/
def pl (p : PI) : List Int := [p.1, p.2]
theorem pl_inj {p q : PI} (h : pl p = pl q) : p = q := by
  unfold pl at h
  injection h with h1 h2
  injection h2 with h2 _
  cases p
  cases q
  simp only at h1 h2
  rw [h1, h2]
theorem pl_nodup {ps : List PI} : (ps.map pl).Nodup ↔ ps.Nodup := by
  constructor
  · intro h
    exact (List.pairwise_map.mp h).imp fun hne e => hne (by rw [e])
  · intro h
    exact h.map pl fun a b hne e => hne (pl_inj e)
def rLenSet (K : PySem.W.Frag) (P : Program) (w : World) : List V → Hp → VK → Prop := fun xs H Q => ∃ (a : Addr) (L : List (Addr × List Int)), xs = [.ref a] ∧ H a = some (SetTO P w a L) ∧ (∀ p ∈ L, SqT K H p.1 (p.2.map V.int)) ∧ ((L.map (·.2)).Nodup → Q (.int L.length) H)
section
variable {X : Cx}
theorem call_lenSet : CallR X (.builtin "len") (rLenSet X.K X.prog X.w) := by
  intro pins s σ H xs us Q I r h
  obtain ⟨a, L, rfl, ha, hk, q⟩ := h
  have R0 : SetT0 X.prog X.w s.heap a L := (I.hok a _ ha).1
  obtain ⟨es, ep, t, R⟩ := R0.full fun p hp => I.isT (hk p hp)
  rw [Vals.ref1 r]
  obtain ⟨o, ho, hex, hd⟩ := R.ob
  have hf := R.few
  have hsz := R.size
  refine call_len_set ho hex hd R.fits (by omega) ⟨.int L.length, H, I.tok _, ⟨_, by rw [hsz]⟩, q R.nd⟩
end
theorem prs_ks {K : PySem.W.Frag} {H : Hp} : ∀ {vs : List V} {ps : List PI}, Prs K H vs ps → ∃ ks : List (Addr × List Int), vs = (ks.map fun p => V.ref p.1) ∧ ks.map (·.2) = ps.map pl ∧ ∀ p ∈ ks, SqT K H p.1 (p.2.map V.int)
  | _, _, .nil => ⟨[], rfl, rfl, fun _ h => nomatch h⟩
  | _, _, .cons (b := b) h t => by
    obtain ⟨a, rfl, ha⟩ := h
    obtain ⟨ks, e1, e2, e3⟩ := prs_ks t
    refine ⟨(a, pl b) :: ks, by rw [e1]; rfl, by rw [List.map_cons, List.map_cons, e2], fun p hp => ?_⟩
    rcases List.mem_cons.mp hp with rfl | hp
    · exact st_of ha
    · exact e3 p hp
section
variable {K : PySem.W.Frag} {σ : L2.St} {H : Hp} {ta : TE} {P : Program} {w : World}
/-- how many different pairs -/
theorem evx_lenSet {l : Addr} {vs : List V} {ps : List PI} (ha : Ev ta σ H (.ref l)) (hs : SqL K H l vs) (hp : Prs K H vs ps) (h64 : ps.length < 64) :
    EvX (tCB (rLenSet K P w) (tCons (tCB (rSetOfT K P w) (tCons ta tNil)) tNil)) σ H (fun v _ => ∃ n : Nat, v = .int n ∧ n ≤ ps.length ∧ (n = ps.length ↔ ps.Nodup)) := fun H1 e Q q => by
  refine ha H1 e _ fun H2 e2 => ?_
  obtain ⟨ks, k1, k2, k3⟩ := prs_ks (hp.mono (e.trans e2))
  have hl : ks.length = ps.length := by
    have := congrArg List.length k2
    rw [List.length_map, List.length_map] at this
    exact this
  refine ⟨l, ks, rfl, by rw [← k1]; exact ex_l (e.trans e2) hs, k3, by omega, fun a L hn s1 s2 => ?_⟩
  have k3' : ∀ p ∈ L, SqT K (upd H2 a (SetTO P w a L)) p.1 (p.2.map V.int) := fun p hp => ex_t (Ex.new hn) (k3 p (s1 p hp))
  refine ⟨a, L, rfl, upd_same, k3', fun nd => ?_⟩
  have hnd := nd_len (A := L.map (·.2)) (B := ks.map (·.2)) nd (fun x hx => by
    obtain ⟨p, hp, rfl⟩ := List.mem_map.mp hx
    exact List.mem_map.mpr ⟨p, s1 p hp, rfl⟩) (fun x hx => by
    obtain ⟨p, hp, rfl⟩ := List.mem_map.mp hx
    exact s2 p hp)
  rw [List.length_map, List.length_map, hl, k2, pl_nodup] at hnd
  exact q _ _ (e2.trans (Ex.new hn)) ⟨L.length, rfl, hnd.1, hnd.2⟩
/-- whether all are different -/
theorem ev_eqSet {tb : TE} {l : Addr} {vs : List V} {ps : List PI} (ha : Ev ta σ H (.ref l)) (hb : Ev tb σ H (.ref l)) (hs : SqL K H l vs) (hp : Prs K H vs ps) (h64 : ps.length < 64) :
    Ev (tOp rEq (tCB (rLenSet K P w) (tCons (tCB (rSetOfT K P w) (tCons ta tNil)) tNil)) (tCB (rLenS K) (tCons tb tNil))) σ H (.bl (decide ps.Nodup)) := fun H1 e Q q =>
  evx_lenSet ha hs hp h64 H1 e _ fun v H2 e2 ⟨n, hv, h1, h2⟩ => by
    subst hv
    refine ev_len hb hs H2 (e.trans e2) _ fun H3 e3 => ⟨rfl, ?_⟩
    have hl := hp.len
    have hd : decide (V.int (n : Int) = V.int (vs.length : Int)) = decide ps.Nodup := decide_eq_decide.mpr ⟨fun z => h2.mp (by
      injection z with z
      omega), fun z => by rw [hl, h2.mpr z]⟩
    rw [hd]
    exact q H3 (e2.trans e3)
theorem et_ltSet {tb : TE} {l : Addr} {vs : List V} {ps : List PI} (ha : Ev ta σ H (.ref l)) (hb : Ev tb σ H (.ref l)) (hs : SqL K H l vs) (hp : Prs K H vs ps) (h64 : ps.length < 64) :
    EvT (tTest (tOp (rI0 fun i j => .bl (decide (i < j))) (tCB (rLenSet K P w) (tCons (tCB (rSetOfT K P w) (tCons ta tNil)) tNil)) (tCB (rLenS K) (tCons tb tNil)))) σ H (!decide ps.Nodup) := fun H1 e Q q =>
  evx_lenSet ha hs hp h64 H1 e _ fun v H2 e2 ⟨n, hv, h1, h2⟩ => by
    subst hv
    refine ev_len hb hs H2 (e.trans e2) _ fun H3 e3 => ⟨_, _, rfl, rfl, _, rfl, ?_⟩
    have hl := hp.len
    have hd : decide ((n : Int) < (vs.length : Int)) = !decide ps.Nodup := by
      rw [← decide_not]
      refine decide_eq_decide.mpr ⟨fun z c => ?_, fun z => ?_⟩
      · have := h2.mpr c
        omega
      · have : n ≠ ps.length := fun c => z (h2.mp c)
        omega
    rw [hd]
    exact q H3 (e2.trans e3)
end
end FzL

/-! What stays when the tables grow, or when a list changes. -/
namespace FzL
open PySem PySem.Spec PyProof.Rows L2 Evl Fz LamX
section
variable {K : PySem.W.Frag} {H H' H2 : Hp} {T : List (Addr × Str)}
theorem exn_of (e : Ex H H') : ExtN H H' := ExtN.of e
theorem exn_l {a : Addr} {xs : List V} (e : ExtN H H') (h : SqL K H a xs) : SqL K H' a xs := by
  rcases h with (z | ⟨o, z⟩) | z
  · exact .inl (.inl (e _ _ z fun _ q => nomatch q))
  · exact .inl (.inr ⟨o, e _ _ z fun _ q => nomatch q⟩)
  · exact .inr z
theorem exn_t {a : Addr} {xs : List V} (e : ExtN H H') (h : SqT K H a xs) : SqT K H' a xs := by
  rcases h with (z | ⟨o, z⟩) | z
  · exact .inl (.inl (e _ _ z fun _ q => nomatch q))
  · exact .inl (.inr ⟨o, e _ _ z fun _ q => nomatch q⟩)
  · exact .inr z
theorem exn_lst {a : Addr} {xs : List V} (e : ExtN H H') (h : H a = some (.lst xs)) : H' a = some (.lst xs) := e _ _ h fun _ q => nomatch q
theorem exn_tup {a : Addr} {xs : List V} (e : ExtN H H') (h : H a = some (.tup xs)) : H' a = some (.tup xs) := e _ _ h fun _ q => nomatch q
theorem exn_ins {a C dx : Addr} {fs : List (Str × V)} (e : ExtN H H') (h : H a = some (.ins C dx fs)) : H' a = some (.ins C dx fs) := e _ _ h fun _ q => nomatch q
theorem exn_prs {vs : List V} {ps : List PI} (e : ExtN H H') (h : Prs K H vs ps) : Prs K H' vs ps := Paired.mapP h fun v p ⟨t, e1, e2⟩ => ⟨t, e1, exn_tup e e2⟩
theorem exn_ty {x : V} {t : Value} (e : ExtN H H') (h : TyX K H x t) : TyX K H' x t := by
  cases h with
  | base b =>
    refine .base ?_
    cases b with
    | non => exact .non
    | bl y => exact .bl y
    | int i => exact .int i
    | str y => exact .str y
    | flt y => exact .flt y
    | lst ea => exact .lst (e _ _ ea fun _ q => nomatch q)
    | frz ea => exact .frz (e _ _ ea fun _ q => nomatch q)
    | tup ea => exact .tup (e _ _ ea fun _ q => nomatch q)
    | dK ea => exact .dK (e _ _ ea fun _ q => nomatch q)
    | dT ea => exact .dT (e _ _ ea fun _ q => nomatch q)
    | ins ea cl ha hn htk hm => exact .ins (e _ _ ea fun _ q => nomatch q) cl ha hn htk hm
  | byt y => exact .byt y
  | set ea => exact .set (e _ _ ea fun _ q => nomatch q)
  | kList ea c => exact .kList ea c
  | kTuple ea c => exact .kTuple ea c
  | kDict ea c => exact .kDict ea c
  | fTuple ea => exact .fTuple (e _ _ ea fun _ q => nomatch q)
  | fDict ea => exact .fDict (e _ _ ea fun _ q => nomatch q)
theorem exn_is {x : V} {t : String} {b : Bool} (e : ExtN H H') (h : IsV K H x t b) : IsV K H' x t b := by
  obtain ⟨t, a, c⟩ := h
  exact ⟨t, exn_ty e a, c⟩
theorem exn_whole {x : V} {b : Bool} (e : ExtN H H') (h : WholeV K H x b) : WholeV K H' x b := by
  obtain ⟨b1, b2, h1, h2, h3⟩ := h
  exact ⟨b1, b2, exn_is e h1, exn_is e h2, h3⟩
/-- an object that H does not know may change -/
theorem exn_mut {p : Addr} {o : HO} (e : ExtN H H') (h : H p = none) : ExtN H (upd H' p o) := fun a u ha n => by
  rw [upd_ne (ne_of_none ha h)]
  exact e a u ha n
/-- a list changed: the rest -/
theorem upd_lst {l a : Addr} {xs : List V} {o u : HO} (hl : H l = some (.lst xs)) (ha : H a = some u) (hu : ∀ ys, u ≠ .lst ys) : upd H l o a = some u := by
  rw [upd_ne fun q => hu xs (by
    rw [q, hl] at ha
    exact (Option.some.inj ha).symm)]
  exact ha
theorem prs_upd {l : Addr} {xs : List V} {o : HO} {vs : List V} {ps : List PI} (hl : H l = some (.lst xs)) (h : Prs K H vs ps) : Prs K (upd H l o) vs ps :=
  Paired.mapP h fun v p ⟨t, e1, e2⟩ => ⟨t, e1, upd_lst hl e2 fun _ q => nomatch q⟩
theorem tabs_upd {l : Addr} {xs : List V} {o : HO} (hl : H l = some (.lst xs)) (h : Tabs T H) : Tabs T (upd H l o) := fun p hp => by
  obtain ⟨ps, h1, h2, h3⟩ := h p hp
  refine ⟨ps, upd_lst hl h1 (fun _ q => nomatch q), h2, fun pos cv hc => ?_⟩
  obtain ⟨c, e1, e2⟩ := h3 pos cv hc
  exact ⟨c, e1, upd_lst hl e2 fun _ q => by
    unfold CodeO at q
    cases q⟩
theorem tabs_ex (e : Ex H H') (h : Tabs T H) : Tabs T H' := h.ext e
theorem tabs_new {p : Addr} {o : HO} (hp : H p = none) (h : Tabs T H) : Tabs T (upd H p o) := h.ext (Ex.new hp)
end
/-! ### a def whose code object is told -/
structure FunC (K : PySem.W.Frag) (x qual : Str) (st : Stmt) (f : Addr) (fd : FuncData) (c : Addr) : Prop where
  ex : ∃ (oc : Value) (od : Option Addr) (kV doc pm : Value) (an : Option Addr) (ct : Value) (osl : Array (Option Value)),
    fd = PySem.W.fnOf x qual (defArgs st) (defBody st) (defScope st) .none kV doc pm an (.ref c) ct ∧ K.lookup f = some ⟨oc, od, .func fd, osl⟩ ∧ PySem.W.codeIn K (.ref c) qual = true
  kp : PySem.W.keepIn K (.ref f) = true
structure DefC (K : PySem.W.Frag) (mg : Str → Option Value) (x : Str) (st : Stmt) (ps : List Str) (c : Addr) : Prop where
  ex : ∃ (f : Addr) (fd : FuncData), FunC K x x st f fd c ∧ mg x = some (.ref f) ∧ Binds K fd ps []
section
variable {P : Program} {w : World} {K : PySem.W.Frag} {mg : Str → Option Value} {base : Heap} {k : Nat} {x qual : Str} {st : Stmt} {N ps : List Str} {sp : Sp} {c f : Addr} {fd : FuncData}
theorem FunC.ok (F : FunC K x qual st f fd c) (S : FnScope N ps (defScope st)) (len : ∀ vs H Q E, sp vs H Q E → vs.length = ps.length)
    (hbody : ∀ (A : Around) (outer : List Env) (s : Shared) (H : Hp) (vs : List V) (Q : VK) (E : XK), Room k (A.deeper (envOfC qual (defScope st) s.heap.objs.size f (.ref c))) → sp vs H Q E →
      ∃ t, PSs (cxOf CX0 P w K mg base N qual (defScope st) f (.ref c) A outer s H E).nox (defBody st) t ∧ t { nx := fun _ H' => Q .non H', rt := Q } (start N vs) H) : FnOk P w K mg base CX0 (k + 1) f fd ps sp := by
  obtain ⟨oc, od, kV, doc, pm, an, ct, osl, rfl, lk, hcd⟩ := F.ex
  refine fn_of lk hcd S len fun A outer s H vs Q E hr hsp => ?_
  obtain ⟨t, h, q⟩ := hbody A outer s H vs Q E hr hsp
  exact ⟨t, h.nox, q⟩
theorem DefC.cal (D : DefC K mg x st ps c) {CX : CXT} (h : ∀ f fd, FunC K x x st f fd c → FnOk P w K mg base CX k f fd ps sp) : Cal P w K mg base CX k x ps sp := by
  obtain ⟨f, fd, F, hm, hb⟩ := D.ex
  exact ⟨f, fd, h f fd F, hm, F.kp, hb⟩
end
/-- the promise of a value, the tables perhaps grown -/
def RetN (T : List (Addr × Str)) (v : V) (H : Hp) (Q : VK) : Prop := ∀ H2, ExtN H H2 → Tabs T H2 → Q v H2
/-! ### the stack of ends -/
theorem at_top (e : Int) (t : List Int) : atI ((e :: t).reverse.map V.int) (-1) = some (V.int e) := by
  rw [List.reverse_cons, List.map_append]
  exact atI_last _ _
theorem rev_len (es : List Int) : (es.reverse.map V.int).length = es.length := by simp
theorem rev_push (o : Int) (es : List Int) : es.reverse.map V.int ++ [V.int o] = (o :: es).reverse.map V.int := by simp
theorem rev_pop (e : Int) (t : List Int) : ((e :: t).reverse.map V.int).dropLast = t.reverse.map V.int := by simp
theorem rev_get (e : Int) (t : List Int) : ((e :: t).reverse.map V.int)[((e :: t).reverse.map V.int).length - 1]? = some (V.int e) := by
  rw [List.reverse_cons, List.map_append]
  simp
end FzL

/-! Lists of ints changed in place; lists repeated; the first place of a number. -/
namespace FzL
open PySem PySem.Spec PyProof.Rows L2 Evl Fz Fz.Tr LamX
section
variable {K : PySem.W.Frag} {σ : L2.St} {H H' : Hp} {ta tb tc te ti tl : TE} {D : Ends} {tz : TS} {l : Addr}
theorem map_set (ns : List Int) (j : Nat) (z : Int) : (ns.map V.int).set j (.int z) = (ns.set j z).map V.int := by
  rw [List.map_set]
theorem map_get {ns : List Int} {j : Nat} (h : j < ns.length) : (ns.map V.int)[j]? = some (.int (ns.getD j 0)) := by
  rw [List.getElem?_map, List.getElem?_eq_getElem h, List.getD_eq_getElem?_getD, List.getElem?_eq_getElem h]
  rfl
theorem ixN_lt {n j : Nat} {i : Int} (h : ixN n i = some j) : j < n := (ixN_seq h).2.1
theorem at_ix {ns : List Int} {i : Int} {j : Nat} (h : ixN ns.length i = some j) : atI (ns.map V.int) i = some (.int (ns.getD j 0)) := by
  unfold atI
  rw [List.length_map, h]
  show (ns.map V.int)[j]? = _
  exact map_get (ixN_lt h)
theorem ixN_neg {n : Nat} (h : 0 < n) : ixN n (-1) = some (n - 1) := by
  unfold ixN
  rw [if_neg (by omega), if_pos (by omega)]
  congr 1
  omega
theorem ixN_of {n j : Nat} {i : Int} (e : i = (j : Int)) (h : j < n) : ixN n i = some j := by
  rw [e]
  exact ixN_nat h
/-- the place ahead: i - 1, around -/
theorem ixN_prv {n i : Nat} (h : i < n) : ixN n ((i : Int) - 1) = some (prv n i) := by
  unfold prv
  by_cases h0 : i = 0
  · subst h0
    rw [if_pos rfl]
    exact ixN_neg h
  · rw [if_neg h0]
    exact ixN_of (by omega) (by omega)
/-- the place behind: (i + 1) % n -/
theorem fmod_nxt {n i : Nat} (h : i < n) : ((i : Int) + 1).fmod (n : Int) = (nxt n i : Int) := by
  rw [Int.fmod_eq_emod_of_nonneg _ (by omega)]
  unfold nxt
  by_cases h1 : i + 1 = n
  · rw [if_pos h1]
    have e : (i : Int) + 1 = (n : Int) := by omega
    rw [e, Int.emod_self]
    rfl
  · rw [if_neg h1, Int.emod_eq_of_lt (by omega) (by omega)]
    omega
/-- l[i] op= e -/
theorem s_augL {ns : List Int} {i d : Int} {j : Nat} {f : Int → Int → Int} (hl : H l = some (.lst (ns.map V.int))) (ha : Ev ta σ H (.ref l)) (hi : Ev ti σ H (.int i)) (he : Ev te σ H (.int d)) (hx : ixN ns.length i = some j)
    (k : ∀ H1, Ex H H1 → D.nx σ (upd H1 l (.lst ((ns.set j (f (ns.getD j 0) d)).map V.int)))) : tAugS ta ti te (rIxL K) (ipI f) rSetL D σ H := by
  refine ha H (Ex.refl H) _ fun H1 e1 => hi H1 e1 _ fun H2 e2 => ?_
  refine ⟨l, _, i, _, rfl, rfl, sq_of (e2 _ _ (e1 _ _ hl)), at_ix hx, ?_⟩
  refine he H2 (e1.trans e2) _ fun H3 e3 => ?_
  refine ⟨_, _, rfl, rfl, l, _, i, j, rfl, rfl, e3 _ _ (e2 _ _ (e1 _ _ hl)), by rw [List.length_map]; exact hx, ?_⟩
  rw [map_set]
  exact k H3 ((e1.trans e2).trans e3)
theorem q_augL {ns : List Int} {i d : Int} {j : Nat} {f : Int → Int → Int} (hl : H l = some (.lst (ns.map V.int))) (ha : Ev ta σ H (.ref l)) (hi : Ev ti σ H (.int i)) (he : Ev te σ H (.int d)) (hx : ixN ns.length i = some j)
    (k : ∀ H1, Ex H H1 → tz D σ (upd H1 l (.lst ((ns.set j (f (ns.getD j 0) d)).map V.int)))) : tSeq (tAugS ta ti te (rIxL K) (ipI f) rSetL) tz D σ H := s_augL (D := { D with nx := tz D }) hl ha hi he hx k
/-- l[i] = e, ints -/
theorem s_setI {ns : List Int} {i z : Int} {j : Nat} (hl : H l = some (.lst (ns.map V.int))) (he : Ev te σ H (.int z)) (ha : Ev ta σ H (.ref l)) (hi : Ev ti σ H (.int i)) (hx : ixN ns.length i = some j)
    (k : ∀ H1, Ex H H1 → D.nx σ (upd H1 l (.lst ((ns.set j z).map V.int)))) : tAsg te (gSub ta ti rSetL) D σ H := by
  refine he H (Ex.refl H) _ fun H1 e1 => ha H1 e1 _ fun H2 e2 => hi H2 (e1.trans e2) _ fun H3 e3 => ?_
  refine ⟨l, _, i, j, rfl, rfl, e3 _ _ (e2 _ _ (e1 _ _ hl)), by rw [List.length_map]; exact hx, ?_⟩
  rw [map_set]
  exact k H3 ((e1.trans e2).trans e3)
theorem q_setI {ns : List Int} {i z : Int} {j : Nat} (hl : H l = some (.lst (ns.map V.int))) (he : Ev te σ H (.int z)) (ha : Ev ta σ H (.ref l)) (hi : Ev ti σ H (.int i)) (hx : ixN ns.length i = some j)
    (k : ∀ H1, Ex H H1 → tz D σ (upd H1 l (.lst ((ns.set j z).map V.int)))) : tSeq (tAsg te (gSub ta ti rSetL)) tz D σ H := s_setI (D := { D with nx := tz D }) hl he ha hi hx k
theorem rep_flat (n : Nat) (v : V) : (List.replicate n [v]).flatten = List.replicate n v := by
  induction n with
  | zero => rfl
  | succ n ih => rw [List.replicate_succ, List.flatten_cons, ih, List.replicate_succ]; rfl
/-- [1] * n -/
theorem el_rep {n : Nat} {z : Int} {c : Int} (hn : n ≤ 100000) (ha : EvL ta σ H [.int z]) (hb : ∀ H1, Ex H H1 → Ev tb σ H1 (.int c)) (hc : c.toNat = n) (h1 : -100000 ≤ c) : EvL (tOp rRep ta tb) σ H ((List.replicate n z).map V.int) := fun H1 e Q q =>
  ha H1 e _ fun p H2 hp e2 h2 => hb H2 (e.trans e2) H2 (Ex.refl H2) _ fun H3 e3 => by
    refine ⟨p, c, _, rfl, rfl, e3 _ _ h2, by omega, by omega, ?_, fun q' hq => ?_⟩
    · rw [hc]
      show 1 * n ≤ _
      rw [Nat.one_mul]
      exact sz_of hn
    · refine q q' _ (fresh_back (e2.trans e3) hq) ((e2.trans e3).trans (Ex.new hq)) ?_
      rw [upd_same, hc, rep_flat, List.map_replicate]
/-- the first place of a number that is there -/
theorem ev_index {ns : List Int} {z : Int} (hl : H l = some (.lst (ns.map V.int))) (ha : Ev ta σ H (.ref l)) (hz : Ev te σ H (.int z)) (hm : z ∈ ns) : Ev (tBM K "list" (rIndex K) ta (tCons te tNil)) σ H (.int ((ns.idxOf z : Nat) : Int)) := fun H1 e Q q =>
  ha H1 e _ fun H2 e2 => ⟨Or.inl ⟨rfl, _, sq_of (e2 _ _ (e _ _ hl))⟩, hz H2 (e.trans e2) _ fun H3 e3 => by
    have hlt : ns.idxOf z < ns.length := List.idxOf_lt_length_iff.mpr hm
    refine ⟨l, ns.map V.int, .int z, ns.idxOf z, .int z, rfl, rfl, sq_of (e3 _ _ (e2 _ _ (e _ _ hl))), rfl, flat_ints ns, ?_, ?_, fun m z' hm' hz' => ?_, q H3 (e2.trans e3)⟩
    · rw [List.getElem?_map, List.getElem?_eq_getElem hlt, List.getElem_idxOf hlt]
      rfl
    · show (z == z) = true
      exact beq_self_eq_true z
    · obtain ⟨y, hy, rfl⟩ := ints_get hz'
      show (y == z) = false
      refine beq_eq_false_iff_ne.mpr fun hyz => ?_
      subst hyz
      have h1 := List.not_of_lt_findIdx (p := (· == y)) (xs := ns) (i := m) (by
        show m < ns.findIdx (· == y)
        exact hm')
      have hmlt : m < ns.length := (List.getElem?_eq_some_iff.mp hy).1
      have h2 : ns[m] = y := (List.getElem?_eq_some_iff.mp hy).2
      rw [h2] at h1
      simp at h1⟩
end
end FzL

/-! Classes made and their methods called; small expressions. -/
namespace FzL
open PySem PySem.Spec PyProof.Rows L2 Evl Fz Fz.Tr LamX
structure CalI (P : Program) (w : World) (K : PySem.W.Frag) (mg : Str → Option Value) (base : Heap) (CX : CXT) (k : Nat) (x : Str) (C : Addr) (ps : List Str) (sp : Sp) : Prop where
  ex : ∃ (f : Addr) (fd : FuncData), Mk K C f ∧ FnOk P w K mg base CX k f fd ps sp ∧ mg x = some (.ref C) ∧ Binds K fd ps []
structure CalM (P : Program) (w : World) (K : PySem.W.Frag) (mg : Str → Option Value) (base : Heap) (CX : CXT) (k : Nat) (C : Addr) (m : Str) (ps : List Str) (sp : Sp) : Prop where
  ex : ∃ (f : Addr) (fd : FuncData), Cls K C ∧ Meth K C m f ∧ FnOk P w K mg base CX k f fd ps sp ∧ Binds K fd ps []
section
variable {X : Cx} {CX : CXT} {k j : Nat} {x m : Str} {C : Addr} {ps : List Str} {sp : Sp} {E : XK} {p pos apos : Pos} {e o : Expr} {es : List Expr} {t : TA} {ta : TE}
theorem pe_i (c : CalI X.prog X.w X.K X.mg X.base CX k x C ps sp) (hr : Room j X.A) (hk : k + 1 ≤ j) (hg : Gl X x) (hx : Passes CX X E) (ha : PA X (e :: es) t) (hdb : (x == ("__debug__" : Str)) = false := by decide)
    (he : starEach (e :: es) X.env = (false, eval e X.env) :: starEach es X.env := by rfl) (hpl : (backTo pos (starEach es X.env)).any (·.1) = false := by rfl) :
    PE X (.Call (.Name x p) (e :: es) [] pos) (tMake C sp [] E t) := by
  obtain ⟨f, fd, M, F, hm, hb⟩ := c.ex
  exact pe_make M F (hr.mono hk) hg hm hb .nil hx ha hdb he hpl
theorem pe_m {pl : Sem Bool} (c : CalM X.prog X.w X.K X.mg X.base CX k C m ps sp) (hr : Room j X.A) (hk : k ≤ j) (ho : PE X o ta) (hx : Passes CX X E) (ha : PA X (e :: es) t)
    (hst : starEach (e :: es) X.env = (false, eval e X.env) :: starEach es X.env := by rfl) (hpl : (backTo pos (starEach es X.env)).any (·.1) = false := by rfl)
    (ht : eval (.Call (.Attribute o m apos) (e :: es) [] pos) X.env = (do
      let ov ← eval o X.env
      standAt apos.atName
      let (f, first) ← holding [ov] (getMethod ov m pl)
      callWith pos f first (backTo pos (starEach (e :: es) X.env)) (backToKw pos (keywordEach [] X.env))) := by rfl) :
    PE X (.Call (.Attribute o m apos) (e :: es) [] pos) (tMeth C m sp [] E ta t) := by
  obtain ⟨f, fd, cl, M, F, hb⟩ := c.ex
  exact pe_meth ho cl M F (hr.mono hk) hb .nil hx ha hst hpl ht
end
/-- an answer's class: its field, its two methods -/
structure AnsC (K : PySem.W.Frag) (mg : Str → Option Value) (x fld par : Str) (C : Addr) (sI sS : Stmt) : Prop where
  cls : Cls K C
  na : NoAttr K C fld
  gl : mg x = some (.ref C)
  init : ∃ (f : Addr) (fd : FuncData), Mk K C f ∧ Fun K "__init__" (x ++ ".__init__") sI f fd ∧ Binds K fd ["self", par] []
  shows : ∃ (f : Addr) (fd : FuncData), Meth K C "shows" f ∧ Fun K "shows" (x ++ ".shows") sS f fd ∧ Binds K fd ["self", "row"] []
section
variable {P : Program} {w : World} {K : PySem.W.Frag} {mg : Str → Option Value} {base : Heap} {CX : CXT} {k : Nat} {x fld par : Str} {C : Addr} {sI sS : Stmt} {sp : Sp}
theorem AnsC.calI (A : AnsC K mg x fld par C sI sS) (h : ∀ f fd, Fun K "__init__" (x ++ ".__init__") sI f fd → FnOk P w K mg base CX k f fd ["self", par] sp) : CalI P w K mg base CX k x C ["self", par] sp := by
  obtain ⟨f, fd, M, F, hb⟩ := A.init
  exact ⟨f, fd, M, h f fd F, A.gl, hb⟩
theorem AnsC.calM (A : AnsC K mg x fld par C sI sS) (h : ∀ f fd, Fun K "shows" (x ++ ".shows") sS f fd → FnOk P w K mg base CX k f fd ["self", "row"] sp) : CalM P w K mg base CX k C "shows" ["self", "row"] sp := by
  obtain ⟨f, fd, M, F, hb⟩ := A.shows
  exact ⟨f, fd, A.cls, M, h f fd F, hb⟩
end
section
variable {K : PySem.W.Frag} {σ : L2.St} {H H' : Hp} {ta tb tc te ti tl : TE} {D : Ends} {tz : TS} {l : Addr}
theorem ev_fld {a C dx : Addr} {fs : List (Str × V)} {f : Str} {v : V} (h : Ev ta σ H (.ref a)) (ho : H a = some (.ins C dx fs)) (hc : Cls K C) (hn : NoAttr K C f) (hl : fs.lookup f = some v) : Ev (tFld K ta f) σ H v := fun H1 e Q q =>
  h H1 e _ fun H2 e2 => ⟨a, C, dx, fs, v, rfl, e2 _ _ (e _ _ ho), hc, hn, hl, q H2 e2⟩
def rMn : List V → Hp → VK → Prop := fun xs H Q => ∃ i j, xs = [.int i, .int j] ∧ Q (.int (if j < i then j else i)) H
theorem ev_mn {i j : Int} (ha : Ev ta σ H (.int i)) (hb : Ev tb σ H (.int j)) : Ev (tCB rMn (tCons ta (tCons tb tNil))) σ H (.int (mn i j)) := fun H1 e Q q =>
  ha H1 e _ fun H2 e2 => hb H2 (e.trans e2) _ fun H3 e3 => ⟨i, j, rfl, q H3 (e2.trans e3)⟩
theorem ev_mx {i j : Int} (ha : Ev ta σ H (.int i)) (hb : Ev tb σ H (.int j)) : Ev (tCB rMax2 (tCons ta (tCons tb tNil))) σ H (.int (mx i j)) := ev_max2 ha hb
theorem rgV_rgI (n : Nat) : rgV 0 (n : Int) = (rgI n).map V.int := by
  unfold rgV rgI
  rw [List.map_map]
  have e : ((n : Int) - 0).toNat = n := by omega
  rw [e]
  refine List.map_congr_left fun i _ => ?_
  show V.int (0 + (i : Int)) = V.int (i : Int)
  rw [Int.zero_add]
/-- list(range(n)) -/
theorem el_rg {n : Nat} (h : Ev ta σ H (.int (n : Int))) (hn : n ≤ 100000) : EvL (tLstRg (tRg1 ta)) σ H ((rgI n).map V.int) := fun H1 e Q q =>
  h H1 e _ fun H2 e2 => ⟨(n : Int), rfl, RgOk.of_le (by omega) (by omega) (by omega) (by omega), fun p hp => q p _ (fresh_back e2 hp) (e2.trans (Ex.new hp)) (by rw [upd_same, rgV_rgI])⟩
theorem map_erase : ∀ (ns : List Int) (j : Nat), (ns.map V.int).eraseIdx j = (ns.eraseIdx j).map V.int
  | [], _ => by simp
  | n :: ns, 0 => rfl
  | n :: ns, j + 1 => by
    show V.int n :: (ns.map V.int).eraseIdx j = V.int n :: (ns.eraseIdx j).map V.int
    rw [map_erase ns j]
/-- l.pop(i) -/
theorem s_popI {ns : List Int} {j : Nat} (hl : H l = some (.lst (ns.map V.int))) (ha : Ev ta σ H (.ref l)) (hi : Ev ti σ H (.int (j : Int))) (hj : j < ns.length) (hz : ns.length ≤ 100000) (k : ∀ H1, Ex H H1 → D.nx σ (upd H1 l (.lst ((ns.eraseIdx j).map V.int)))) :
    tDrop (tBM K "list" rPopAt ta (tCons ti tNil)) D σ H := ha H (Ex.refl H) _ fun H1 e1 => ⟨Or.inl ⟨rfl, _, sq_of (e1 _ _ hl)⟩, hi H1 e1 _ fun H2 e2 => by
    refine ⟨l, ns.map V.int, (j : Int), j, _, rfl, rfl, e2 _ _ (e1 _ _ hl), by omega, by omega, ?_, map_get hj, ?_⟩
    · rw [List.length_map, seqIndex_of (by omega) (by omega), Int.toNat_natCast]
    · rw [map_erase]
      exact k H2 (e1.trans e2)⟩
theorem q_popI {ns : List Int} {j : Nat} (hl : H l = some (.lst (ns.map V.int))) (ha : Ev ta σ H (.ref l)) (hi : Ev ti σ H (.int (j : Int))) (hj : j < ns.length) (hz : ns.length ≤ 100000) (k : ∀ H1, Ex H H1 → tz D σ (upd H1 l (.lst ((ns.eraseIdx j).map V.int)))) :
    tSeq (tDrop (tBM K "list" rPopAt ta (tCons ti tNil))) tz D σ H := s_popI (D := { D with nx := tz D }) hl ha hi hj hz k
/-- an item of a list of ints -/
theorem ev_at {ns : List Int} {i : Int} {j : Nat} (hl : SqL K H l (ns.map V.int)) (ha : Ev ta σ H (.ref l)) (hi : Ev ti σ H (.int i)) (hx : ixN ns.length i = some j) : Ev (tOp (rIxL K) ta ti) σ H (.int (ns.getD j 0)) := ev_op ha hi (rv_ixL hl (at_ix hx))
theorem rv_mod {i j : Int} (h : j ≠ 0) : RV (rI (fun _ j => j ≠ 0) fun i j => .int (i.fmod j)) (.int i) (.int j) H (.int (i.fmod j)) := rv_I h
/-- (i + 1) % n -/
theorem ev_nxt {n i : Nat} (ha : Ev ta σ H (.int (i : Int))) (hb : Ev tb σ H (.int (n : Int))) (h : i < n) : Ev (tOp (rI (fun _ j => j ≠ 0) fun i j => .int (i.fmod j)) (tOp (rI0 fun i j => .int (i + j)) ta (tC (.int 1))) tb) σ H (.int ((nxt n i : Nat) : Int)) :=
  ev_is (ev_op (ev_op ha ev_c rv_I0) hb (rv_mod (by omega))) (by rw [fmod_nxt h])
end
/-- a Cut stands at x, with its list at l; a Barred -/
def CutAt (K : PySem.W.Frag) (C : Addr) (H : Hp) (x l : Addr) (ps : List PI) : Prop := ∃ (dx : Addr) (vs : List V), H x = some (.ins C dx [("cuts", .ref l)]) ∧ H l = some (.lst vs) ∧ Prs K H vs ps
def BarAt (C : Addr) (H : Hp) (x l : Addr) (es : List Int) : Prop := ∃ dx : Addr, H x = some (.ins C dx [("ears", .ref l)]) ∧ H l = some (.lst (es.map V.int))
theorem cutat_ex {K : PySem.W.Frag} {C : Addr} {H H' : Hp} {x l : Addr} {ps : List PI} (e : ExtN H H') (h : CutAt K C H x l ps) : CutAt K C H' x l ps := by
  obtain ⟨dx, vs, h1, h2, h3⟩ := h
  exact ⟨dx, vs, exn_ins e h1, exn_lst e h2, exn_prs e h3⟩
theorem barat_ex {C : Addr} {H H' : Hp} {x l : Addr} {es : List Int} (e : ExtN H H') (h : BarAt C H x l es) : BarAt C H' x l es := by
  obtain ⟨dx, h1, h2⟩ := h
  exact ⟨dx, exn_ins e h1, exn_lst e h2⟩
end FzL

/-! Expressions behind which tables may have grown. -/
namespace FzL
open PySem PySem.Spec PyProof.Rows L2 Evl Fz Fz.Tr LamX
def NvE (T : List (Addr × Str)) (te : TE) (σ : L2.St) (H : Hp) (v : V) : Prop := ∀ Q : VK, (∀ H2, ExtN H H2 → Tabs T H2 → Q v H2) → te σ H Q
def NvT (T : List (Addr × Str)) (tt : TT) (σ : L2.St) (H : Hp) (b : Bool) : Prop := ∀ Q : Bool → Hp → Prop, (∀ H2, ExtN H H2 → Tabs T H2 → Q b H2) → tt σ H Q
def NvA (T : List (Addr × Str)) (ta : TA) (σ : L2.St) (H : Hp) (vs : List V) : Prop := ∀ Q : List V → Hp → Prop, (∀ H2, ExtN H H2 → Tabs T H2 → Q vs H2) → ta σ H Q
/-- with a word on the heap -/
def NvX (T : List (Addr × Str)) (te : TE) (σ : L2.St) (H : Hp) (P : V → Hp → Prop) : Prop := ∀ Q : VK, (∀ v H2, ExtN H H2 → Tabs T H2 → P v H2 → Q v H2) → te σ H Q
def SpN (T : List (Addr × Str)) (sp : Sp) (vs : List V) (H : Hp) (v : V) : Prop := ∀ Q : VK, RetN T v H Q → ∀ E : XK, sp vs H Q E
section
variable {T : List (Addr × Str)} {K : PySem.W.Frag} {σ : L2.St} {H H' : Hp} {ta tb te : TE} {t u : TT} {v x y z : V} {a b : Bool} {D : Ends} {tu tw tz : TS} {r : R2}
theorem nv_of (h : Ev te σ H v) (hT : Tabs T H) : NvE T te σ H v := fun Q q => h H (Ex.refl H) Q fun H2 e2 => q H2 (exn_of e2) (hT.ext e2)
theorem nt_of (h : EvT t σ H b) (hT : Tabs T H) : NvT T t σ H b := fun Q q => h H (Ex.refl H) Q fun H2 e2 => q H2 (exn_of e2) (hT.ext e2)
theorem na_of {tr : TA} {vs : List V} (h : EvA tr σ H vs) (hT : Tabs T H) : NvA T tr σ H vs := fun Q q => h H (Ex.refl H) Q fun H2 e2 => q H2 (exn_of e2) (hT.ext e2)
theorem nx_of {P : V → Hp → Prop} (h : EvX te σ H P) (hT : Tabs T H) : NvX T te σ H P := fun Q q => h H (Ex.refl H) Q fun v H2 e2 p => q v H2 (exn_of e2) (hT.ext e2) p
theorem nv_call {sp : Sp} {E : XK} {tr : TA} {vs : List V} (h : NvA T tr σ H vs) (hs : ∀ H1, ExtN H H1 → Tabs T H1 → SpN T sp (vs ++ []) H1 v) : NvE T (tCall sp [] E tr) σ H v := fun Q q =>
  h _ fun H1 e1 T1 => hs H1 e1 T1 Q (fun H2 e2 T2 => q H2 (e1.trans e2) T2) E
theorem nv_is {w : V} (h : NvE T te σ H v) (e : v = w) : NvE T te σ H w := by
  rw [← e]
  exact h
theorem nt_is {c : Bool} (h : NvT T t σ H a) (e : a = c) : NvT T t σ H c := by
  rw [← e]
  exact h
theorem nv_andV (h1 : NvE T ta σ H (.bl a)) (h2 : a = true → ∀ H1, ExtN H H1 → Tabs T H1 → NvE T tb σ H1 (.bl b)) : NvE T (tAndV ta tb) σ H (.bl (a && b)) := fun Q q => h1 _ fun H1 e1 T1 => ⟨a, rfl, by
  cases a with
  | true => exact iteT (h2 rfl H1 e1 T1 Q fun H2 e2 T2 => q H2 (e1.trans e2) T2)
  | false => exact iteF (q H1 e1 T1)⟩
theorem nv_notV (h : NvE T ta σ H (.bl a)) : NvE T (tNotV ta) σ H (.bl (!a)) := fun Q q => h _ fun H1 e1 T1 => ⟨a, rfl, q H1 e1 T1⟩
theorem nt_B (h : NvE T te σ H (.bl b)) : NvT T (tB te) σ H b := fun Q q => h _ fun H1 e1 T1 => ⟨b, rfl, q H1 e1 T1⟩
theorem nt_test (h : NvE T te σ H (.bl b)) : NvT T (tTest te) σ H b := fun Q q => h _ fun H1 e1 T1 => ⟨b, rfl, q H1 e1 T1⟩
theorem nt_not (h : NvT T t σ H a) : NvT T (tNot t) σ H (!a) := fun Q q => h _ fun H1 e1 T1 => q H1 e1 T1
theorem nt_or (h1 : NvT T t σ H a) (h2 : a = false → ∀ H1, ExtN H H1 → Tabs T H1 → NvT T u σ H1 b) : NvT T (tOr t u) σ H (a || b) := fun Q q => h1 _ fun H1 e1 T1 => by
  cases a with
  | true => exact iteT (q H1 e1 T1)
  | false => exact iteF (h2 rfl H1 e1 T1 Q fun H2 e2 T2 => q H2 (e1.trans e2) T2)
theorem nt_and (h1 : NvT T t σ H a) (h2 : a = true → ∀ H1, ExtN H H1 → Tabs T H1 → NvT T u σ H1 b) : NvT T (tAnd t u) σ H (a && b) := fun Q q => h1 _ fun H1 e1 T1 => by
  cases a with
  | true => exact iteT (h2 rfl H1 e1 T1 Q fun H2 e2 T2 => q H2 (e1.trans e2) T2)
  | false => exact iteF (q H1 e1 T1)
/-- two operands, one behind the other -/
theorem nv_op (ha : NvE T ta σ H x) (hb : ∀ H1, ExtN H H1 → Tabs T H1 → NvE T tb σ H1 y) (hr : ∀ H1, ExtN H H1 → Tabs T H1 → RV r x y H1 z) : NvE T (tOp r ta tb) σ H z := fun Q q =>
  ha _ fun H1 e1 T1 => hb H1 e1 T1 _ fun H2 e2 T2 => hr H2 (e1.trans e2) T2 H2 (Ex.refl H2) Q fun H3 e3 => q H3 ((e1.trans e2).trans (exn_of e3)) (T2.ext e3)
theorem nv_if {c : Bool} (h : NvT T t σ H c) (h1 : c = true → ∀ H1, ExtN H H1 → Tabs T H1 → NvE T ta σ H1 v) (h2 : c = false → ∀ H1, ExtN H H1 → Tabs T H1 → NvE T tb σ H1 v) : NvE T (tIf t ta tb) σ H v := fun Q q => h _ fun H1 e1 T1 => by
  cases c with
  | true => exact iteT (h1 rfl H1 e1 T1 Q fun H2 e2 T2 => q H2 (e1.trans e2) T2)
  | false => exact iteF (h2 rfl H1 e1 T1 Q fun H2 e2 T2 => q H2 (e1.trans e2) T2)
theorem na_cons {tr : TA} {vs : List V} (h : NvE T te σ H x) (hr : ∀ H1, ExtN H H1 → Tabs T H1 → NvA T tr σ H1 vs) : NvA T (tCons te tr) σ H (x :: vs) := fun Q q =>
  h _ fun H1 e1 T1 => hr H1 e1 T1 _ fun H2 e2 T2 => q H2 (e1.trans e2) T2
theorem na_nil (hT : Tabs T H) : NvA T tNil σ H [] := fun Q q => q H (ExtN.refl H) hT
theorem s_retN (h : NvE T te σ H v) (k : ∀ H1, ExtN H H1 → Tabs T H1 → D.rt v H1) : tRet te D σ H := h _ k
theorem s_ifN (h : NvT T t σ H b) (h1 : b = true → ∀ H1, ExtN H H1 → Tabs T H1 → tu D σ H1) (h2 : b = false → ∀ H1, ExtN H H1 → Tabs T H1 → tw D σ H1) : tIfS t tu tw D σ H := h _ fun H1 e1 T1 => by
  cases b with
  | true => exact iteT (h1 rfl H1 e1 T1)
  | false => exact iteF (h2 rfl H1 e1 T1)
theorem q_ifN (h : NvT T t σ H b) (h1 : b = true → ∀ H1, ExtN H H1 → Tabs T H1 → tu { D with nx := tz D } σ H1) (h2 : b = false → ∀ H1, ExtN H H1 → Tabs T H1 → tw { D with nx := tz D } σ H1) : tSeq (tIfS t tu tw) tz D σ H := s_ifN (D := { D with nx := tz D }) h h1 h2
theorem q_whenN (h : NvT T t σ H b) (h1 : b = true → ∀ H1, ExtN H H1 → Tabs T H1 → tu { D with nx := tz D } σ H1) (h2 : b = false → ∀ H1, ExtN H H1 → Tabs T H1 → tz D σ H1) : tSeq (tIfS t tu tNext) tz D σ H := s_ifN (D := { D with nx := tz D }) h h1 h2
theorem s_asgN {i : Nat} (h : NvE T te σ H v) (k : ∀ H1, ExtN H H1 → Tabs T H1 → D.nx (σ.set i (some v)) H1) : tAsg te (gName i) D σ H := h _ k
theorem q_asgN {i : Nat} (h : NvE T te σ H v) (k : ∀ H1, ExtN H H1 → Tabs T H1 → tz D (σ.set i (some v)) H1) : tSeq (tAsg te (gName i)) tz D σ H := s_asgN (D := { D with nx := tz D }) h k
theorem q_asgNX {i : Nat} {P : V → Hp → Prop} (h : NvX T te σ H P) (k : ∀ v H1, ExtN H H1 → Tabs T H1 → P v H1 → tz D (σ.set i (some v)) H1) : tSeq (tAsg te (gName i)) tz D σ H := h _ k
end
end FzL

/-! Pairs assigned at once. -/
namespace FzL
open PySem PySem.Spec PyProof.Rows L2 Evl Fz Fz.Tr LamX
section
variable {K : PySem.W.Frag} {σ : L2.St} {H H' : Hp} {tr : TA} {D : Ends} {tz : TS} {l : Addr} {v w : V}
theorem q_par {i j : Nat} (h : EvA tr σ H [v, w]) (k : ∀ H1, Ex H H1 → tz D ((σ.set i (some v)).set j (some w)) H1) : tSeq (tPar i j tr) tz D σ H := h H (Ex.refl H) _ fun H1 e => ⟨_, _, rfl, k H1 e⟩
end
end FzL

/-! enumerate, parts of lists, sizes. -/
namespace FzL
open PySem PySem.Spec PyProof.Rows L2 Evl Fz Fz.Tr LamX
section
variable {K : PySem.W.Frag} {σ : L2.St} {H H' : Hp} {ta tb tc te ti tl : TE} {D : Ends} {tu tz : TS} {l : Addr} {x y z v : V}
abbrev gEn (K : PySem.W.Frag) (j k : Nat) : TG := gTup K 2 (gCons (gName j) (gCons (gName k) gNil))
/-- [e for i, x in enumerate(xs)] -/
theorem el_enum {a : Addr} {xs : List V} {j k : Nat} {vs : List Nat} (ys : List V) (h : Ev tl σ H (.ref a)) (hx : SqL K H a xs) (hz : xs.length ≤ 40000) (hl : ys.length = xs.length) (hw : ∀ x y, wipe (((wipe σ vs).set j (some x)).set k (some y)) vs = wipe σ vs)
    (he : ∀ (i : Nat) (x y : V) H1, Ex H H1 → xs[i]? = some x → ys[i]? = some y → Ev te (((wipe σ vs).set j (some (.int (i : Int)))).set k (some x)) H1 y) : EvL (tLc (iEnum K (tCons tl tNil)) (gEn K j k) tYes te vs) σ H ys := fun H0 e Q q =>
  h H0 e _ fun H1 e1 => ⟨a, xs, rfl, ex_l (e.trans e1) hx, fun Dl hD =>
    lc_it walk_enum (fun i H' => Cw H1 (fun _ => true) (fun i => ys.getD i .non) Dl i H') ⟨hD, Ex.new hD, upd_same⟩ (fun i H' _ p => ex_l ((e.trans e1).trans p.2.1) hx) (fun i v H' H'' hi p hy => by
      obtain ⟨t, x, y, rfl, ht, rfl, hxi, hyi⟩ := hy
      obtain rfl := (Option.some.inj hxi)
      have hDt : Dl ≠ t := ne_of_none p.2.2 ht
      refine ⟨t, _, rfl, st_of upd_same, rfl, _, _, rfl, _, _, rfl, rfl, hw _ _, ?_⟩
      have p' : Cw H1 (fun _ => true) (fun i => ys.getD i .non) Dl i (upd H' t (.tup [.int (i : Nat), y])) := ⟨p.1, p.2.1.trans (Ex.new ht), by rw [upd_ne hDt]; exact p.2.2⟩
      refine cw_turn p' (by omega) (fun H2 _ Q q => q H2 (Ex.refl H2)) fun _ => ?_
      have hlt : i < ys.length := by omega
      exact he i y _ H1 (e.trans e1) hyi (by rw [List.getD_eq_getElem?_getD, List.getElem?_eq_getElem hlt]; rfl)) (fun H' p => by
      have hg : given xs.length (fun _ => true) (fun i => ys.getD i .non) = ys := by rw [given_all, range_map hl]
      have p3 := p.2.2
      rw [hg] at p3
      exact q Dl H' (fresh_back e1 p.1) (e1.trans p.2.1) p3)⟩
/-- for i, x in enumerate(xs) -/
theorem s_forE {a : Addr} {xs : List V} {j k : Nat} (h : Ev tl σ H (.ref a)) (hx : SqL K H a xs) (Pv : Nat → L2.St → Hp → Prop) (h0 : ∀ H1, Ex H H1 → Pv 0 σ H1) (hl : ∀ i σ' H', i ≤ xs.length → Pv i σ' H' → SqL K H' a xs)
    (hs : ∀ i x σ' H' H'', xs[i]? = some x → Pv i σ' H' → Ex H' H'' → tu { D with nx := Pv (i + 1), ct := Pv (i + 1), bk := D.nx } ((σ'.set j (some (.int (i : Int)))).set k (some x)) H'') (hd : ∀ σ' H', Pv xs.length σ' H' → D.nx σ' H') : tFor (iEnum K (tCons tl tNil)) (gEn K j k) tu D σ H :=
  h H (Ex.refl H) _ fun H1 e => ⟨a, xs, rfl, ex_l e hx, for_it walk_enum Pv (h0 H1 e) hl (fun i v σ' H' H'' hi p hy => by
    obtain ⟨t, x, y, rfl, ht, rfl, hxi, hyi⟩ := hy
    obtain rfl := (Option.some.inj hxi)
    exact ⟨t, _, rfl, st_of upd_same, rfl, _, _, rfl, _, _, rfl, rfl, hs i y σ' H' _ hyi p (Ex.new ht)⟩) hd⟩
theorem q_forE {a : Addr} {xs : List V} {j k : Nat} (h : Ev tl σ H (.ref a)) (hx : SqL K H a xs) (Pv : Nat → L2.St → Hp → Prop) (h0 : ∀ H1, Ex H H1 → Pv 0 σ H1) (hl : ∀ i σ' H', i ≤ xs.length → Pv i σ' H' → SqL K H' a xs)
    (hs : ∀ i x σ' H' H'', xs[i]? = some x → Pv i σ' H' → Ex H' H'' → tu { D with nx := Pv (i + 1), ct := Pv (i + 1), bk := tz D } ((σ'.set j (some (.int (i : Int)))).set k (some x)) H'') (hd : ∀ σ' H', Pv xs.length σ' H' → tz D σ' H') : tSeq (tFor (iEnum K (tCons tl tNil)) (gEn K j k) tu) tz D σ H :=
  s_forE (D := { D with nx := tz D }) h hx Pv h0 hl hs hd
/-! parts -/
theorem cutV_take (xs : List V) (c : Nat) : cutV xs none (some (c : Int)) = xs.take c := by
  unfold cutV
  rw [HT.sIx_none, HT.sIx_nat, List.drop_zero, Nat.sub_zero]
  rcases Nat.le_total c xs.length with h | h
  · rw [Nat.min_eq_left h]
  · rw [Nat.min_eq_right h, List.take_of_length_le (Nat.le_refl _), List.take_of_length_le h]
theorem cutV_drop (xs : List V) (c : Nat) : cutV xs (some (c : Int)) none = xs.drop c := by
  unfold cutV
  rw [HT.sIx_none, HT.sIx_nat]
  rcases Nat.le_total c xs.length with h | h
  · rw [Nat.min_eq_left h, List.take_of_length_le (by rw [List.length_drop]; exact Nat.le_refl _)]
  · rw [Nat.min_eq_right h, Nat.sub_self, List.take_zero, List.drop_of_length_le h]
theorem el_take {a : Addr} {xs : List V} {n : Int} {c : Nat} (h : Ev te σ H (.ref a)) (hs : SqL K H a xs) (hi : Ev ti σ H (.int n)) (hn : n = (c : Int)) : EvL (tSl (rSlL K) te tNoPart (tPart ti)) σ H (xs.take c) := by
  subst hn
  rw [← cutV_take]
  exact el_sl h eo_none (eo_some hi) hs
theorem el_drop {a : Addr} {xs : List V} {n : Int} {c : Nat} (h : Ev te σ H (.ref a)) (hs : SqL K H a xs) (hi : Ev ti σ H (.int n)) (hn : n = (c : Int)) : EvL (tSl (rSlL K) te (tPart ti) tNoPart) σ H (xs.drop c) := by
  subst hn
  rw [← cutV_drop]
  exact el_sl h (eo_some hi) eo_none hs
/-- a + b, both new -/
theorem el_cat {xs zs : List V} (ha : EvL ta σ H xs) (hb : ∀ H1, Ex H H1 → EvL tb σ H1 zs) (hz : xs.length + zs.length ≤ 100000) : EvL (tOp rCat ta tb) σ H (xs ++ zs) := fun H1 e Q q =>
  ha H1 e _ fun p H2 hp e2 h2 => hb H2 (e.trans e2) H2 (Ex.refl H2) _ fun r H3 hr e3 h3 => ⟨p, r, xs, zs, rfl, rfl, e3 _ _ h2, h3, sz_of hz, fun s hs => q s _ (fresh_back (e2.trans e3) hs) ((e2.trans e3).trans (Ex.new hs)) upd_same⟩
/-- l + b, l a list that stands -/
theorem el_catV {l : Addr} {xs zs : List V} (ha : Ev ta σ H (.ref l)) (hl : H l = some (.lst xs)) (hb : ∀ H1, Ex H H1 → EvL tb σ H1 zs) (hz : xs.length + zs.length ≤ 100000) : EvL (tOp rCat ta tb) σ H (xs ++ zs) := fun H1 e Q q =>
  ha H1 e _ fun H2 e2 => hb H2 (e.trans e2) H2 (Ex.refl H2) _ fun r H3 hr e3 h3 => ⟨l, r, xs, zs, rfl, rfl, e3 _ _ (e2 _ _ (e _ _ hl)), h3, sz_of hz, fun s hs => q s _ (fresh_back (e2.trans e3) hs) ((e2.trans e3).trans (Ex.new hs)) upd_same⟩
theorem ev_abs {i : Int} (ha : Ev ta σ H (.int i)) : Ev (tCB (fun xs H Q => ∃ i, xs = [.int i] ∧ Q (.int (if i < 0 then -i else i)) H) (tCons ta tNil)) σ H (.int (if i < 0 then -i else i)) := fun H1 e Q q =>
  ha H1 e _ fun H2 e2 => ⟨i, rfl, q H2 e2⟩
theorem ev_intB {b : Bool} (ha : Ev ta σ H (.bl b)) : Ev (tCB (fun xs H Q => (∃ i, xs = [.int i] ∧ Q (.int i) H) ∨ ∃ k, xs = [.bl k] ∧ Q (.int (if k then 1 else 0)) H) (tCons ta tNil)) σ H (.int (if b then 1 else 0)) := fun H1 e Q q =>
  ha H1 e _ fun H2 e2 => .inr ⟨b, rfl, q H2 e2⟩
/-! sizes -/
theorem mulB {i j : Int} {a b : Nat} (hi : i.natAbs < 2 ^ a) (hj : j.natAbs < 2 ^ b) : (i * j).natAbs < 2 ^ (a + b) := wide_lt hi hj
theorem addB {i j : Int} {a b : Nat} (hi : i.natAbs < 2 ^ a) (hj : j.natAbs < 2 ^ b) : (i + j).natAbs < 2 ^ (max a b + 1) := by
  have h1 : 2 ^ a ≤ 2 ^ (max a b) := Nat.pow_le_pow_right (by decide) (Nat.le_max_left a b)
  have h2 : 2 ^ b ≤ 2 ^ (max a b) := Nat.pow_le_pow_right (by decide) (Nat.le_max_right a b)
  rw [Nat.pow_succ]
  generalize 2 ^ (max a b) = n at *
  generalize 2 ^ a = p at *
  generalize 2 ^ b = q at *
  omega
theorem natB {k : Nat} {a : Nat} (h : k < 2 ^ a) : ((k : Int)).natAbs < 2 ^ a := by simpa using h
theorem upB {i : Int} {a b : Nat} (h : i.natAbs < 2 ^ a) (hab : a ≤ b) : i.natAbs < 2 ^ b := Nat.lt_of_lt_of_le h (Nat.pow_le_pow_right (by decide) hab)
theorem bitsB {i : Int} {n : Nat} (h : Builtin.Int.intBits i ≤ n) : i.natAbs < 2 ^ (n + 1) := by
  unfold Builtin.Int.intBits at h
  by_cases h0 : i.natAbs = 0
  · rw [h0]
    exact Nat.pow_pos (by decide)
  · refine Nat.lt_of_lt_of_le (Nat.lt_log2_self (n := i.natAbs)) (Nat.pow_le_pow_right (by decide) ?_)
    have hb : (i == 0) = false := beq_false_of_ne fun q => h0 (by rw [q]; rfl)
    rw [hb] at h
    have h' : i.natAbs.log2 + 1 ≤ n := h
    omega
/-- an int of few bits -/
def Bnd (c : Int) : Prop := ∃ a, c.natAbs < 2 ^ a ∧ a ≤ 30000000
theorem Bnd.of {c : Int} {a : Nat} (h : c.natAbs < 2 ^ a) (ha : a ≤ 30000000) : Bnd c := ⟨a, h, ha⟩
end
end FzL

/-! Small expressions more. -/
namespace FzL
open PySem PySem.Spec PyProof.Rows L2 Evl Fz Fz.Tr LamX
section
variable {K : PySem.W.Frag} {σ : L2.St} {H H' : Hp} {ta tb tc te ti tl : TE} {D : Ends} {tu tz : TS} {l : Addr} {x y z v : V}
theorem dec_int {i j : Int} : decide (V.int i = V.int j) = decide (i = j) := decide_eq_decide.mpr ⟨fun z => by injection z, fun z => by rw [z]⟩
theorem ev_eqI {i j : Int} (ha : Ev ta σ H (.int i)) (hb : Ev tb σ H (.int j)) : Ev (tOp rEq ta tb) σ H (.bl (decide (i = j))) := ev_is (ev_op ha hb (rv_eq rfl)) (by rw [dec_int])
theorem ev_neI {i j : Int} (ha : Ev ta σ H (.int i)) (hb : Ev tb σ H (.int j)) : Ev (tOp rNe ta tb) σ H (.bl (!decide (i = j))) := ev_is (ev_op ha hb (rv_ne rfl)) (by rw [dec_int])
theorem et_eqI {i j : Int} (ha : Ev ta σ H (.int i)) (hb : Ev tb σ H (.int j)) : EvT (tTest (tOp rEq ta tb)) σ H (decide (i = j)) := et_test (ev_eqI ha hb)
theorem et_neI {i j : Int} (ha : Ev ta σ H (.int i)) (hb : Ev tb σ H (.int j)) : EvT (tTest (tOp rNe ta tb)) σ H (!decide (i = j)) := et_test (ev_neI ha hb)
/-- (a, b, ..)[i] -/
theorem ev_ixU {xs : List V} {i : Int} (ha : EvU ta σ H xs) (hb : ∀ H1, Ex H H1 → Ev tb σ H1 (.int i)) (hx : atI xs i = some v) : Ev (tOp (rIxT K) ta tb) σ H v := fun H1 e Q q =>
  ha H1 e _ fun p H2 hp e2 h2 => hb H2 (e.trans e2) H2 (Ex.refl H2) _ fun H3 e3 => rv_ixT (st_of (e3 _ _ h2)) hx H3 (Ex.refl H3) Q fun H4 e4 => q H4 ((e2.trans e3).trans e4)
/-- a test, its branch, then the rest, with a word between -/
theorem q_cutIf {t : TT} {b : Bool} {M : Hp → Prop} (h : EvT t σ H b) (h1 : b = true → ∀ H1, Ex H H1 → tu { D with nx := fun σ' H' => σ' = σ ∧ M H' } σ H1) (h2 : b = false → ∀ H1, Ex H H1 → M H1) (k : ∀ H1, M H1 → tz D σ H1) : tCut (tIfS t tu tNext) tz D σ H :=
  ⟨fun σ' H' => σ' = σ ∧ M H', s_if h h1 (fun hb H1 e => ⟨rfl, h2 hb H1 e⟩), fun σ' H' ⟨e, m⟩ => by
    subst e
    exact k H' m⟩
theorem fmod_abs {v : Int} {n : Nat} (h : 0 < n) : (if v < 0 then -v else v).fmod (n : Int) = ((v.natAbs % n : Nat) : Int) := by
  have e : (if v < 0 then -v else v) = ((v.natAbs : Nat) : Int) := by
    by_cases hv : v < 0
    · rw [if_pos hv]
      omega
    · rw [if_neg hv]
      omega
  rw [e, Int.fmod_eq_emod_of_nonneg _ (by omega)]
  rfl
/-- the store itself -/
theorem set_go {ns : List Int} {i z : Int} {j : Nat} {Q : Hp → Prop} (hl : H l = some (.lst (ns.map V.int))) (hx : ixN ns.length i = some j) (k : Q (upd H l (.lst ((ns.set j z).map V.int)))) : rSetL (.ref l) (.int i) (.int z) H Q := by
  refine ⟨l, _, i, j, rfl, rfl, hl, by rw [List.length_map]; exact hx, ?_⟩
  rw [map_set]
  exact k
end
end FzL

/-! a <= b < c < d; comprehensions over tuples. -/
namespace FzL
open PySem PySem.Spec PyProof.Rows L2 Evl Fz Fz.Tr LamX
def tChain3 (r r' r'' : R2) (ta tb tc td : TE) : TT := fun σ H Q => ta σ H fun x H1 => tb σ H1 fun y H2 => r x y H2 fun z H3 => ∃ k, z = .bl k ∧
  (if k = true then tc σ H3 fun u H4 => r' y u H4 fun z1 H5 => ∃ k1, z1 = .bl k1 ∧ (if k1 = true then td σ H5 fun v H6 => r'' u v H6 fun z2 H7 => ∃ k2, z2 = .bl k2 ∧ Q k2 H7 else Q false H5) else Q false H3)
section
variable {X : Cx} {a b c d : Expr} {ta tb tc td : TE} {pos : Pos}
theorem pt_chain3 {op op' op'' : CmpOp} {r r' r'' : R2} (ho : OpR X (compareOp op) r) (ho' : OpR X (compareOp op') r') (ho'' : OpR X (compareOp op'') r'') (ha : PE X a ta) (hb : PE X b tb) (hc : PE X c tc) (hd : PE X d td)
    (hm : lastMarks [op, op', op''] [b, c, d] = false := by with_unfolding_all rfl) : PT X (.Compare a [op, op', op''] [b, c, d] pos) (tChain3 r r' r'' ta tb tc td) := by
  refine ⟨fun pins s σ H Q I h => ?_⟩
  refine isTrue_chain (thn (ha.run pins s σ H _ I h) fun v s1 ⟨x, H1, I1, r1, q1⟩ => test_link (thn (hb.run pins s1 σ H1 _ I1 q1) fun u s2 ⟨y, H2, I2, r2, q2⟩ =>
    thn (ho pins s2 σ H2 x y v u _ I2 r1 r2 q2) fun d s3 ⟨z, H3, I3, r3, k, e, q3⟩ => ?_)) hm
  subst e
  cases r3
  refine wpAny_truthy_bool ?_
  cases k with
  | false => exact ite_ff ⟨H3, I3, q3⟩
  | true =>
    refine ite_tt (test_link (thn (hc.run pins s3 σ H3 _ I3 q3) fun w' s4 ⟨z', H4, I4, r4, q4⟩ => thn (ho' pins s4 σ H4 y z' u w' _ I4 r2 r4 q4) fun d' s5 ⟨z2, H5, I5, r5, k2, e2, q5⟩ => ?_))
    subst e2
    cases r5
    refine wpAny_truthy_bool ?_
    cases k2 with
    | false => exact ite_ff ⟨H5, I5, q5⟩
    | true =>
      refine ite_tt (test_last (thn (hd.run pins s5 σ H5 _ I5 q5) fun w2 s6 ⟨z3, H6, I6, r6, q6⟩ => thn (ho'' pins s6 σ H6 z' z3 w' w2 _ I6 r4 r6 q6) fun d2 s7 ⟨z4, H7, I7, r7, k3, e3, q7⟩ => ?_))
      subst e3
      cases r7
      exact wpAny_truthy_bool ⟨H7, I7, q7⟩
end
section
variable {K : PySem.W.Frag} {σ : L2.St} {H H' : Hp} {ta tb tc td te ti tl : TE} {D : Ends} {tu tz : TS} {l : Addr} {x y z v : V}
theorem et_chain3 {i j m n : Int} (ha : Ev ta σ H (.int i)) (hb : Ev tb σ H (.int j)) (hc : Ev tc σ H (.int m)) (hd : Ev td σ H (.int n)) :
    EvT (tChain3 (rI0 fun i j => .bl (decide (i ≤ j))) (rI0 fun i j => .bl (decide (i < j))) (rI0 fun i j => .bl (decide (i < j))) ta tb tc td) σ H (decide (i ≤ j) && (decide (j < m) && decide (m < n))) := fun H1 e Q q =>
  ha H1 e _ fun H2 e2 => hb H2 (e.trans e2) _ fun H3 e3 => ⟨i, j, rfl, rfl, decide (i ≤ j), rfl, by
    have ee := (e.trans e2).trans e3
    by_cases h : i ≤ j
    · rw [decide_eq_true h] at q ⊢
      refine iteT (hc H3 ee _ fun H4 e4 => ⟨j, m, rfl, rfl, decide (j < m), rfl, ?_⟩)
      by_cases h2 : j < m
      · rw [decide_eq_true h2] at q ⊢
        exact iteT (hd H4 (ee.trans e4) _ fun H5 e5 => ⟨m, n, rfl, rfl, decide (m < n), rfl, q H5 (((e2.trans e3).trans e4).trans e5)⟩)
      · rw [decide_eq_false h2] at q ⊢
        exact iteF (q H4 ((e2.trans e3).trans e4))
    · rw [decide_eq_false h] at q ⊢
      exact iteF (q H3 (e2.trans e3))⟩
/-- [e for x in xs], xs a tuple at a -/
theorem el_mapT {a : Addr} {xs : List V} {j : Nat} {vs : List Nat} (ys : List V) (h : Ev tl σ H (.ref a)) (hx : SqT K H a xs) (hz : xs.length ≤ 40000) (hl : ys.length = xs.length) (hw : ∀ x, wipe ((wipe σ vs).set j (some x)) vs = wipe σ vs)
    (he : ∀ (i : Nat) (x y : V) H1, Ex H H1 → xs[i]? = some x → ys[i]? = some y → Ev te ((wipe σ vs).set j (some x)) H1 y) : EvL (tLc (iTup K tl) (gName j) tYes te vs) σ H ys := fun H0 e Q q =>
  h H0 e _ fun H1 e1 => ⟨a, rfl, ⟨xs, ex_t (e.trans e1) hx⟩, fun Dl hD =>
    lc_it walk_tup (fun i H' => Cw H1 (fun _ => true) (fun i => ys.getD i .non) Dl i H') ⟨hD, Ex.new hD, upd_same⟩ (fun i H' _ p => ex_t ((e.trans e1).trans p.2.1) hx) (fun i v H' H'' hi p hy => by
      obtain ⟨rfl, hyi⟩ := hy
      refine ⟨hw _, ?_⟩
      refine cw_turn p (by omega) (fun H2 _ Q q => q H2 (Ex.refl H2)) fun _ => ?_
      have hlt : i < ys.length := by omega
      exact he i v _ H1 (e.trans e1) hyi (by rw [List.getD_eq_getElem?_getD, List.getElem?_eq_getElem hlt]; rfl)) (fun H' p => by
      have hg : given xs.length (fun _ => true) (fun i => ys.getD i .non) = ys := by rw [given_all, range_map hl]
      have p3 := p.2.2
      rw [hg] at p3
      exact q Dl H' (fresh_back e1 p.1) (e1.trans p.2.1) p3)⟩
end
end FzL

/-! Lists of new pairs. -/
namespace FzL
open PySem PySem.Spec PyProof.Rows L2 Evl Fz Fz.Tr LamX
section
variable {K : PySem.W.Frag} {σ : L2.St} {H H' : Hp} {ta tb tc td te ti tl : TE} {D : Ends} {tu tz : TS} {l : Addr} {x y z v : V} {r : R2} {ps qs : List PI} {vs : List V}
/-- a new list of pairs -/
def PL (K : PySem.W.Frag) (H : Hp) (ps : List PI) : V → Hp → Prop := fun y H2 => ∃ (p : Addr) (ys : List V), y = .ref p ∧ H p = none ∧ H2 p = some (.lst ys) ∧ Prs K H2 ys ps
theorem un65 {k : Nat} {A : Around} (r : Room k A) : A.units + 65 < cLine := by
  have := r.un
  omega
theorem Prs.app : ∀ {vs : List V} {ps : List PI} {ws : List V} {qs : List PI}, Prs K H vs ps → Prs K H ws qs → Prs K H (vs ++ ws) (ps ++ qs)
  | _, _, _, _, .nil, h => h
  | _, _, _, _, .cons a b, h => .cons a (Prs.app b h)
theorem Prs.drop : ∀ (n : Nat) {vs : List V} {ps : List PI}, Prs K H vs ps → Prs K H (vs.drop n) (ps.drop n)
  | 0, _, _, h => h
  | n + 1, _, _, .nil => .nil
  | n + 1, _, _, .cons a b => Prs.drop n b
theorem Prs.take : ∀ (n : Nat) {vs : List V} {ps : List PI}, Prs K H vs ps → Prs K H (vs.take n) (ps.take n)
  | 0, _, _, h => .nil
  | n + 1, _, _, .nil => .nil
  | n + 1, _, _, .cons a b => .cons a (Prs.take n b)
theorem Prs.at {n : Nat} (h : Prs K H vs ps) (hn : n < ps.length) : ∃ t, vs[n]? = some (V.ref t) ∧ H t = some (.tup [.int (ps.getD n (0, 0)).1, .int (ps.getD n (0, 0)).2]) := by
  have hv : n < vs.length := by
    rw [h.len]
    exact hn
  obtain ⟨p, hp, t, ht, hH⟩ := h.get (List.getElem?_eq_getElem hv)
  have : ps.getD n (0, 0) = p := by
    rw [List.getD_eq_getElem?_getD, hp]
    rfl
  rw [this]
  exact ⟨t, by rw [List.getElem?_eq_getElem hv, ht], hH⟩
theorem ev_opU1 {xs : List V} (ha : EvU ta σ H xs) (hb : ∀ H1, Ex H H1 → Ev tb σ H1 y) (hr : ∀ p H1, H1 p = some (.tup xs) → Ex H H1 → RV r (.ref p) y H1 z) : Ev (tOp r ta tb) σ H z := fun H1 e Q q =>
  ha H1 e _ fun p H2 hp e2 h2 => hb H2 (e.trans e2) H2 (Ex.refl H2) _ fun H3 e3 => hr p H3 (e3 _ _ h2) ((e.trans e2).trans e3) H3 (Ex.refl H3) Q fun H4 e4 => q H4 ((e2.trans e3).trans e4)
theorem any_pairs (p : PI) (ps : List PI) : ((ps.map dPair).any fun z => PyData.eqv z (dPair p)) = decide (p ∈ ps) := by
  rw [List.any_map, Bool.eq_iff_iff, List.any_eq_true]
  constructor
  · rintro ⟨q, hq, h⟩
    have h' : PyData.eqv (dPair q) (dPair p) = true := h
    rw [eqv_pair] at h'
    have := of_decide_eq_true h'
    subst this
    exact decide_eq_true hq
  · intro h
    refine ⟨p, of_decide_eq_true h, ?_⟩
    show PyData.eqv (dPair p) (dPair p) = true
    rw [eqv_pair]
    exact decide_eq_true rfl
theorem dp_tup {t : Addr} {p : PI} (h : H t = some (.tup [.int p.1, .int p.2])) : Dp K H (.ref t) (dPair p) := dp_pair ⟨t, rfl, h⟩
theorem rv_niP {t : Addr} {p : PI} (ht : H t = some (.tup [.int p.1, .int p.2])) (hl : SqL K H l vs) (hp : Prs K H vs ps) : RV (rNotInD K) (.ref t) (.ref l) H (.bl (!decide (p ∈ ps))) := fun H1 e Q q =>
  ⟨dPair p, ps.map dPair, dp_tup (e _ _ ht), dp_pairs (ex_l e hl) (hp.mono e), shaped_pair p, shaped_pairs ps, by rw [any_pairs]; exact q H1 (Ex.refl H1)⟩
theorem rv_inP {t : Addr} {p : PI} (ht : H t = some (.tup [.int p.1, .int p.2])) (hl : SqL K H l vs) (hp : Prs K H vs ps) : RV (rInD K) (.ref t) (.ref l) H (.bl (decide (p ∈ ps))) := fun H1 e Q q =>
  ⟨dPair p, ps.map dPair, dp_tup (e _ _ ht), dp_pairs (ex_l e hl) (hp.mono e), shaped_pair p, shaped_pairs ps, by rw [any_pairs]; exact q H1 (Ex.refl H1)⟩
/-- the first place of a pair that is there -/
theorem ev_indexP {p : PI} (hl : SqL K H l vs) (hp : Prs K H vs ps) (ha : Ev ta σ H (.ref l)) (hu : EvU te σ H [.int p.1, .int p.2]) (hm : p ∈ ps) : Ev (tBM K "list" (rIndexD K) ta (tCons te tNil)) σ H (.int ((ps.idxOf p : Nat) : Int)) := fun H1 e Q q =>
  ha H1 e _ fun H2 e2 => ⟨Or.inl ⟨rfl, _, ex_l (e.trans e2) hl⟩, hu H2 (e.trans e2) _ fun t H3 _ e3 h3 => by
    have ee := (e.trans e2).trans e3
    have hlt : ps.idxOf p < ps.length := List.idxOf_lt_length_iff.mpr hm
    refine ⟨l, .ref t, dPair p, ps.map dPair, ps.idxOf p, dPair p, rfl, rfl, dp_pairs (ex_l ee hl) (hp.mono ee), dp_tup h3, shaped_pairs ps, shaped_pair p, ?_, ?_, fun m z' hm' hz' => ?_, q H3 (e2.trans e3)⟩
    · rw [List.getElem?_map, List.getElem?_eq_getElem hlt, List.getElem_idxOf hlt]
      rfl
    · rw [eqv_pair]
      exact decide_eq_true rfl
    · rw [List.getElem?_map] at hz'
      cases hq : ps[m]? with
      | none =>
        rw [hq] at hz'
        cases hz'
      | some y =>
        rw [hq] at hz'
        have hz2 : dPair y = z' := Option.some.inj hz'
        rw [← hz2, eqv_pair]
        refine decide_eq_false fun hyz => ?_
        have h1 := List.not_of_lt_findIdx (p := (· == p)) (xs := ps) (i := m) (by
          show m < ps.findIdx (· == p)
          exact hm')
        have h2 : ps[m]'(by
          have := (List.getElem?_eq_some_iff.mp hq).1
          exact this) = y := (List.getElem?_eq_some_iff.mp hq).2
        rw [h2, hyz] at h1
        simp at h1⟩
theorem pl_of {zs : List V} (h : EvL te σ H zs) (hp : Prs K H zs ps) : EvX te σ H (PL K H ps) := fun H1 e Q q => h H1 e _ fun p H2 hn e2 h2 => q (.ref p) H2 e2 ⟨p, zs, rfl, fresh_back e hn, h2, hp.mono (e.trans e2)⟩
theorem pl_one {a b : Int} (h : EvU te σ H [.int a, .int b]) : EvX (tLst (tCons te tNil)) σ H (PL K H [(a, b)]) := fun H1 e Q q =>
  h H1 e _ fun t H2 ht e2 h2 => ⟨sz_of (show 1 ≤ 100000 by decide), fun p hp => q (.ref p) _ (e2.trans (Ex.new hp)) ⟨p, [.ref t], rfl, fresh_back (e.trans e2) hp, upd_same, .cons ⟨t, rfl, Ex.new hp _ _ h2⟩ .nil⟩⟩
theorem pl_cat (ha : EvX ta σ H (PL K H ps)) (hb : ∀ H1, Ex H H1 → EvX tb σ H1 (PL K H1 qs)) (hz : ps.length + qs.length ≤ 100000) : EvX (tOp rCat ta tb) σ H (PL K H (ps ++ qs)) := fun H1 e Q q =>
  ha H1 e _ fun v H2 e2 ⟨p, ys, hv, hn, h2, hp⟩ => by
    subst hv
    exact hb H2 (e.trans e2) H2 (Ex.refl H2) _ fun u H3 e3 ⟨p', zs, hu, hn', h3, hp'⟩ => by
      subst hu
      have hl1 := hp.len
      have hl2 := hp'.len
      exact ⟨p, p', ys, zs, rfl, rfl, e3 _ _ h2, h3, sz_of (by omega), fun s hs => q (.ref s) _ ((e2.trans e3).trans (Ex.new hs)) ⟨s, ys ++ zs, rfl, fresh_back ((e.trans e2).trans e3) hs, upd_same, (Prs.app (hp.mono e3) hp').mono (Ex.new hs)⟩⟩
/-- [(.., ..) for i, x in enumerate(xs)] -/
theorem pl_enum {a : Addr} {xs : List V} {j k : Nat} {ws : List Nat} (h : Ev tl σ H (.ref a)) (hx : SqL K H a xs) (hz : xs.length ≤ 40000) (hl : ps.length = xs.length) (hw : ∀ x y, wipe (((wipe σ ws).set j (some x)).set k (some y)) ws = wipe σ ws)
    (he : ∀ (i : Nat) (x : V) (p : PI) H1, Ex H H1 → xs[i]? = some x → ps[i]? = some p → EvU te (((wipe σ ws).set j (some (.int (i : Int)))).set k (some x)) H1 [.int p.1, .int p.2]) : EvX (tLc (iEnum K (tCons tl tNil)) (gEn K j k) tYes te ws) σ H (PL K H ps) := fun H0 e Q q =>
  h H0 e _ fun H1 e1 => ⟨a, xs, rfl, ex_l (e.trans e1) hx, fun Dl hD =>
    lc_it walk_enum (fun i H' => Ex H1 H' ∧ ∃ acc, H' Dl = some (.lst acc) ∧ acc.length = i ∧ Prs K H' acc (ps.take i)) ⟨Ex.new hD, [], upd_same, rfl, .nil⟩ (fun i H' _ p => ex_l ((e.trans e1).trans p.1) hx) (fun i v H' H'' hi p hy => by
      obtain ⟨t, x, y, rfl, ht, rfl, hxi, hyi⟩ := hy
      obtain rfl := (Option.some.inj hxi)
      obtain ⟨p1, acc, p2, p3, p4⟩ := p
      have hDt : Dl ≠ t := ne_of_none p2 ht
      have hlt : i < ps.length := by omega
      refine ⟨t, _, rfl, st_of upd_same, rfl, _, _, rfl, _, _, rfl, rfl, hw _ _, ?_⟩
      show te _ _ _
      have ent : Ex H' (upd H' t (.tup [.int (i : Nat), y])) := Ex.new ht
      refine he i y ps[i] _ (((e.trans e1).trans p1).trans ent) hyi (List.getElem?_eq_getElem hlt) _ (Ex.refl _) _ fun u H3 hu e3 h3 => ?_
      have h3D : H3 Dl = some (.lst acc) := e3 _ _ (by rw [upd_ne hDt]; exact p2)
      refine ⟨acc, h3D, sz_lt (by omega), Ex.mut ((p1.trans ent).trans e3) hD, acc ++ [.ref u], upd_same, by rw [List.length_append, p3]; rfl, ?_⟩
      rw [List.take_add_one, List.getElem?_eq_getElem hlt]
      exact prs_upd h3D (Prs.snoc (p4.mono (ent.trans e3)) ⟨u, rfl, h3⟩)) (fun H' p => by
      obtain ⟨p1, acc, p2, p3, p4⟩ := p
      rw [← hl, List.take_length] at p4
      exact q _ H' (e1.trans p1) ⟨Dl, acc, rfl, fresh_back (e.trans e1) hD, p2, p4⟩)⟩
/-- [e for a, b in ps], with a plain value -/
theorem el_mapP {a : Addr} {xs : List V} {j k : Nat} {ws : List Nat} (ys : List V) (h : Ev tl σ H (.ref a)) (hx : SqL K H a xs) (hp : Prs K H xs ps) (hz : ps.length ≤ 40000) (hl : ys.length = ps.length) (hw : ∀ x y, wipe (((wipe σ ws).set j (some x)).set k (some y)) ws = wipe σ ws)
    (he : ∀ (i : Nat) (p : PI) (y : V) H1, Ex H H1 → ps[i]? = some p → ys[i]? = some y → Ev te (((wipe σ ws).set j (some (.int p.1))).set k (some (.int p.2))) H1 y) : EvL (tLc (iList K tl) (gEn K j k) tYes te ws) σ H ys := fun H0 e Q q =>
  h H0 e _ fun H1 e1 => ⟨a, rfl, ⟨xs, ex_l (e.trans e1) hx⟩, fun Dl hD => by
    have hlen := hp.len
    refine lc_it (walk_list (xs := xs)) (fun i H' => Cw H1 (fun _ => true) (fun i => ys.getD i .non) Dl i H') ⟨hD, Ex.new hD, upd_same⟩ (fun i H' _ p => ex_l ((e.trans e1).trans p.2.1) hx) (fun i v H' H'' hi p hy => ?_) (fun H' p => ?_)
    · obtain ⟨rfl, hyi⟩ := hy
      obtain ⟨pp, hpi, t, rfl, ht⟩ := (hp.mono ((e.trans e1).trans p.2.1)).get hyi
      refine ⟨t, _, rfl, st_of ht, rfl, _, _, rfl, _, _, rfl, rfl, hw _ _, ?_⟩
      refine cw_turn p (by omega) (fun H2 _ Q q => q H2 (Ex.refl H2)) fun _ => ?_
      have hlt : i < ys.length := by omega
      exact he i pp _ H1 (e.trans e1) hpi (by rw [List.getD_eq_getElem?_getD, List.getElem?_eq_getElem hlt]; rfl)
    · have hg : given xs.length (fun _ => true) (fun i => ys.getD i .non) = ys := by rw [given_all, range_map (by omega)]
      have p3 := p.2.2
      rw [hg] at p3
      exact q Dl H' (fresh_back e1 p.1) (e1.trans p.2.1) p3⟩
theorem cutV_mid (xs : List V) {n : Nat} (h : n ≤ xs.length) (h1 : 1 ≤ xs.length) : cutV xs (some (n : Int)) (some (-1)) = (xs.drop n).take (xs.length - 1 - n) := by
  unfold cutV
  rw [HT.sIx_nat, Nat.min_eq_left h]
  have : HT.sIx xs.length xs.length (some (-1)) = xs.length - 1 := by
    unfold HT.sIx
    simp
    omega
  rw [this]
end
end FzL

/-! For the laws: own classes told apart, lists of rows, two methods of one name, tables that grow. -/
namespace FzL
open PySem PySem.Spec PyProof.Rows L2 Evl Fz Fz.Tr LamX
/-- a class whose instances isinstance knows -/
structure Typ (K : PySem.W.Frag) (C : Addr) : Prop where
  cl : Cls K C
  ha : PySem.W.findIn K (.ref C) "__class__" = some (some (.builtin "object.__class__"))
  hn : PySem.W.specialIn K (.builtin "object.__class__") "__get__" = some (some (.builtin "getset_descriptor.__get__"))
  htk : PySem.W.takesIn K (.builtin "object.__class__") = some true
  hm : PySem.W.mroIn K C (.type "object") = some true
/-- the answers' classes -/
structure Kinds (K : PySem.W.Frag) (mg : Str → Option Value) (CA CC CB : Addr) : Prop where
  gA : mg "Answer" = some (.ref CA)
  gC : mg "Cut" = some (.ref CC)
  gB : mg "Barred" = some (.ref CB)
  tC : Typ K CC
  tB : Typ K CB
  cA : PySem.W.kitOne K (.ref CC) (.ref CA) = some true
  bA : PySem.W.kitOne K (.ref CB) (.ref CA) = some true
  cC : PySem.W.kitOne K (.ref CC) (.ref CC) = some true
  bC : PySem.W.kitOne K (.ref CB) (.ref CC) = some false
  cB : PySem.W.kitOne K (.ref CC) (.ref CB) = some false
  bB : PySem.W.kitOne K (.ref CB) (.ref CB) = some true
/-- an answer: a cutting, or what bars it -/
inductive An where
  | cut (ps : List PI)
  | bar (es : List Int)
def AnAt (K : PySem.W.Frag) (CC CB : Addr) (H : Hp) (x l : Addr) : An → Prop
  | .cut ps => CutAt K CC H x l ps ∧ ps.length < 64
  | .bar es => BarAt CB H x l es
def anDue (ns : List Int) : An → Bool
  | .cut ps => cutDue ns ps
  | .bar es => bshow es (rgI ns.length) ns
def isC : An → Bool
  | .cut _ => true
  | .bar _ => false
def anOf (ns : List Int) : An := if cannot (fin ns).nums = true then .bar (fin ns).ears else .cut (srt (fin ns).cuts)
def more (n : Nat) : An → An
  | .cut ps => .cut (ps ++ [(0, 2)])
  | .bar es => .bar (es ++ [(n : Int)])
theorem srt_len {ns : List Int} (h3 : 3 ≤ ns.length) (h : cannot (fin ns).nums = false) : ((srt (fin ns).cuts).length : Int) = (ns.length : Int) - 3 := by
  have := (fin_cutting h3 h).1
  unfold isCutting at this
  simp only [Bool.and_eq_true, decide_eq_true_eq] at this
  exact this.1.1.1
theorem anDue_of {ns : List Int} (h3 : 3 ≤ ns.length) : anDue ns (anOf ns) = true := by
  unfold anOf
  cases h : cannot (fin ns).nums with
  | true =>
    rw [if_pos rfl]
    exact fin_barred h3 h
  | false =>
    rw [if_neg (by decide)]
    obtain ⟨h1, h2⟩ := fin_cutting h3 h
    show cutDue ns _ = true
    unfold cutDue
    rw [h1, decide_eq_true h2]
    rfl
theorem anDue_more {ns : List Int} {an : An} (h : anDue ns an = true) : anDue ns (more ns.length an) = false := by
  cases an with
  | cut ps =>
    show cutDue ns (ps ++ [(0, 2)]) = false
    have := cutDue_more h (0, 2)
    unfold cutDue
    rw [this]
    rfl
  | bar es => exact bshow_more es ns
theorem isC_of (ns : List Int) : isC (anOf ns) = !cannot (fin ns).nums := by
  unfold anOf
  cases cannot (fin ns).nums with
  | true => rfl
  | false => rfl
section
variable {K : PySem.W.Frag} {mg : Str → Option Value} {CA CC CB : Addr} {H H' : Hp} {x l : Addr} {an : An} {σ : L2.St} {ta tb tc te ti tl tn : TE} {D : Ends} {tu tz : TS} {v y z : V} {T : List (Addr × Str)} {P : V → Hp → Prop}
theorem anat_ex (e : ExtN H H') (h : AnAt K CC CB H x l an) : AnAt K CC CB H' x l an := by
  cases an with
  | cut ps => exact ⟨cutat_ex e h.1, h.2⟩
  | bar es => exact barat_ex e h
theorem rc_own {C Dc : Addr} {dx : Addr} {fs : List (Str × V)} {b : Bool} (h : H x = some (.ins C dx fs)) (t : Typ K C) (k : PySem.W.kitOne K (.ref C) (.ref Dc) = some b) : RC (rIsi K) [.ref x, .ref Dc] H (.bl b) := fun H1 e Q q =>
  ⟨.ref x, .ref Dc, .ref C, .ref Dc, b, rfl, .own Dc, .base (.ins (e _ _ h) t.cl t.ha t.hn t.htk t.hm), k, q H1 (Ex.refl H1)⟩
theorem ev_isA (k : Kinds K mg CA CC CB) (h : AnAt K CC CB H x l an) (ha : Ev ta σ H (.ref x)) : Ev (tCB (rIsi K) (tCons ta (tCons (tC (.ref CA)) tNil))) σ H (.bl true) := by
  cases an with
  | cut ps =>
    obtain ⟨⟨dx, vs, hx, _⟩, _⟩ := h
    exact ev_cb (ea_cons ha (ea_cons ev_c ea_nil)) (rc_own hx k.tC k.cA)
  | bar es =>
    obtain ⟨dx, hx, _⟩ := h
    exact ev_cb (ea_cons ha (ea_cons ev_c ea_nil)) (rc_own hx k.tB k.bA)
theorem ev_isC (k : Kinds K mg CA CC CB) (h : AnAt K CC CB H x l an) (ha : Ev ta σ H (.ref x)) : Ev (tCB (rIsi K) (tCons ta (tCons (tC (.ref CC)) tNil))) σ H (.bl (isC an)) := by
  cases an with
  | cut ps =>
    obtain ⟨⟨dx, vs, hx, _⟩, _⟩ := h
    exact ev_cb (ea_cons ha (ea_cons ev_c ea_nil)) (rc_own hx k.tC k.cC)
  | bar es =>
    obtain ⟨dx, hx, _⟩ := h
    exact ev_cb (ea_cons ha (ea_cons ev_c ea_nil)) (rc_own hx k.tB k.bC)
theorem ev_isB (k : Kinds K mg CA CC CB) (h : AnAt K CC CB H x l an) (ha : Ev ta σ H (.ref x)) : Ev (tCB (rIsi K) (tCons ta (tCons (tC (.ref CB)) tNil))) σ H (.bl (!isC an)) := by
  cases an with
  | cut ps =>
    obtain ⟨⟨dx, vs, hx, _⟩, _⟩ := h
    exact ev_cb (ea_cons ha (ea_cons ev_c ea_nil)) (rc_own hx k.tC k.cB)
  | bar es =>
    obtain ⟨dx, hx, _⟩ := h
    exact ev_cb (ea_cons ha (ea_cons ev_c ea_nil)) (rc_own hx k.tB k.bB)
theorem pe_cls {X : Cx} {x : Str} {C : Addr} {pos : Pos} (hm : X.mg x = some (.ref C)) (hg : Gl X x := by rfl) (hd : (x == ("__debug__" : Str)) = false := by decide) : PE X (.Name x pos) (tC (.ref C)) := pe_glob (v := .ref C) hg hm rfl hd
/-! rows -/
def RowAt (H : Hp) (v : V) (ms : List Int) : Prop := ∃ a, v = .ref a ∧ H a = some (.lst (ms.map V.int))
def Rows (H : Hp) (vs : List V) (mss : List (List Int)) : Prop := Paired (RowAt H) vs mss
theorem Rows.mono {vs : List V} {mss : List (List Int)} (e : ExtN H H') (h : Rows H vs mss) : Rows H' vs mss := Paired.mapP h fun _ _ ⟨a, h1, h2⟩ => ⟨a, h1, exn_lst e h2⟩
theorem Rows.get : ∀ {vs : List V} {mss : List (List Int)}, Rows H vs mss → ∀ {i : Nat} {v : V}, vs[i]? = some v → ∃ ms, mss[i]? = some ms ∧ RowAt H v ms
  | _, _, .nil, i, v, h => by simp at h
  | _, _, .cons a b, 0, v, h => by
    simp at h
    subst h
    exact ⟨_, rfl, a⟩
  | _, _, .cons a b, i + 1, v, h => by
    obtain ⟨p, h1, h2⟩ := Rows.get b (i := i) (v := v) (by simpa using h)
    exact ⟨p, by simpa using h1, h2⟩
def EvAX (tr : TA) (σ : L2.St) (H : Hp) (P : List V → Hp → Prop) : Prop := ∀ H1, Ex H H1 → ∀ Q : List V → Hp → Prop, (∀ vs H2, Ex H1 H2 → P vs H2 → Q vs H2) → tr σ H1 Q
theorem ax_nil : EvAX tNil σ H (fun vs H2 => Rows H2 vs []) := fun H1 e Q q => q [] H1 (Ex.refl H1) .nil
theorem ax_v {a : Addr} {ms : List Int} {mss : List (List Int)} {tr : TA} (ha : Ev te σ H (.ref a)) (hl : H a = some (.lst (ms.map V.int))) (hr : EvAX tr σ H (fun vs H2 => Rows H2 vs mss)) : EvAX (tCons te tr) σ H (fun vs H2 => Rows H2 vs (ms :: mss)) := fun H1 e Q q =>
  ha H1 e _ fun H2 e2 => hr H2 (e.trans e2) _ fun vs H3 e3 p => q _ H3 (e2.trans e3) (.cons ⟨a, rfl, e3 _ _ (e2 _ _ (e _ _ hl))⟩ p)
theorem ax_l {ms : List Int} {mss : List (List Int)} {tr : TA} (ha : EvL te σ H (ms.map V.int)) (hr : EvAX tr σ H (fun vs H2 => Rows H2 vs mss)) : EvAX (tCons te tr) σ H (fun vs H2 => Rows H2 vs (ms :: mss)) := fun H1 e Q q =>
  ha H1 e _ fun p H2 _ e2 h2 => hr H2 (e.trans e2) _ fun vs H3 e3 pr => q _ H3 (e2.trans e3) (.cons ⟨p, rfl, e3 _ _ h2⟩ pr)
/-- for xs in (row, row, ..) -/
theorem s_forR {j : Nat} {tr : TA} {mss : List (List Int)} (h : EvAX tr σ H (fun vs H2 => Rows H2 vs mss)) (hz : mss.length ≤ 100000) (hT : Tabs T H) (Pv : L2.St → Hp → Prop) (h0 : ∀ H1, ExtN H H1 → Tabs T H1 → Pv σ H1)
    (hs : ∀ (B : Hp) (a : Addr) (ms : List Int) (σ' : L2.St) (H' : Hp), ExtN H B → ms ∈ mss → B a = some (.lst (ms.map V.int)) → ExtN B H' → Tabs T H' → Pv σ' H' → tu { D with nx := fun σ2 H2 => ExtN B H2 ∧ Tabs T H2 ∧ Pv σ2 H2, ct := fun σ2 H2 => ExtN B H2 ∧ Tabs T H2 ∧ Pv σ2 H2, bk := D.nx } (σ'.set j (some (.ref a))) H')
    (hd : ∀ σ' H', ExtN H H' → Tabs T H' → Pv σ' H' → D.nx σ' H') : tFor (iTup K (tTup tr)) (gName j) tu D σ H :=
  h H (Ex.refl H) _ fun vs H1 e1 hr => by
    have hl : vs.length = mss.length := Paired.length hr
    refine ⟨sz_of (by omega), fun p hp => ⟨p, rfl, ⟨vs, st_of upd_same⟩, ?_⟩⟩
    have eB : Ex H (upd H1 p (.tup vs)) := e1.trans (Ex.new hp)
    refine for_it (walk_tup (K := K) (a := p) (xs := vs)) (fun i σ' H' => ExtN (upd H1 p (.tup vs)) H' ∧ Tabs T H' ∧ Pv σ' H') ⟨ExtN.refl _, hT.ext eB, h0 _ (exn_of eB) (hT.ext eB)⟩ (fun i σ' H' _ ⟨q, _⟩ => st_of (exn_tup q upd_same)) ?_ (fun σ' H' ⟨q1, q2, q3⟩ => hd σ' H' ((exn_of eB).trans q1) q2 q3)
    rintro i v σ' H' H'' hi ⟨q1, q2, q3⟩ ⟨rfl, hv⟩
    obtain ⟨ms, hm, a, rfl, ha⟩ := Rows.get (Rows.mono (exn_of (Ex.new hp)) hr) hv
    exact hs _ a ms σ' _ (exn_of eB) (List.mem_of_getElem? hm) ha q1 q2 q3
theorem q_forR {j : Nat} {tr : TA} {mss : List (List Int)} (h : EvAX tr σ H (fun vs H2 => Rows H2 vs mss)) (hz : mss.length ≤ 100000) (hT : Tabs T H) (Pv : L2.St → Hp → Prop) (h0 : ∀ H1, ExtN H H1 → Tabs T H1 → Pv σ H1)
    (hs : ∀ (B : Hp) (a : Addr) (ms : List Int) (σ' : L2.St) (H' : Hp), ExtN H B → ms ∈ mss → B a = some (.lst (ms.map V.int)) → ExtN B H' → Tabs T H' → Pv σ' H' → tu { D with nx := fun σ2 H2 => ExtN B H2 ∧ Tabs T H2 ∧ Pv σ2 H2, ct := fun σ2 H2 => ExtN B H2 ∧ Tabs T H2 ∧ Pv σ2 H2, bk := tz D } (σ'.set j (some (.ref a))) H')
    (hd : ∀ σ' H', ExtN H H' → Tabs T H' → Pv σ' H' → tz D σ' H') : tSeq (tFor (iTup K (tTup tr)) (gName j) tu) tz D σ H :=
  s_forR (D := { D with nx := tz D }) h hz hT Pv h0 hs hd
theorem el_rev {a : Addr} {xs : List V} (ha : Ev ta σ H (.ref a)) (hs : SqL K H a xs) : EvL (tRevL K ta) σ H xs.reverse := fun H1 e Q q =>
  ha H1 e _ fun H2 e2 => ⟨a, xs, rfl, ex_l (e.trans e2) hs, fun p hp => q p _ (fresh_back e2 hp) (e2.trans (Ex.new hp)) upd_same⟩
theorem el_revI {a : Addr} {ms : List Int} (ha : Ev ta σ H (.ref a)) (hs : SqL K H a (ms.map V.int)) : EvL (tRevL K ta) σ H (ms.reverse.map V.int) := by
  rw [List.map_reverse]
  exact el_rev ha hs
/-! fresh, but perhaps a table -/
theorem newn_of (e : ExtN H H') {p : Addr} (h : H' p = none) : NewN H p := fun o ho => by
  by_cases ht : ∃ ps, o = .tbl ps
  · exact ht
  · have z := e _ _ ho fun ps q => ht ⟨ps, q⟩
    rw [h] at z
    cases z
theorem newn_back (e : ExtN H H') {p : Addr} (h : NewN H' p) : NewN H p := fun o ho => by
  by_cases ht : ∃ ps, o = .tbl ps
  · exact ht
  · exact h o (e _ _ ho fun ps q => ht ⟨ps, q⟩)
theorem exn_mutN {p : Addr} {o : HO} (e : ExtN H H') (h : NewN H p) : ExtN H (upd H' p o) := fun a u ha n => by
  rw [upd_ne fun q => by
    subst q
    obtain ⟨ps, q⟩ := h u ha
    exact n ps q]
  exact e a u ha n
/-! one of two methods -/
def tOr2 (t u : TE) : TE := fun σ H Q => t σ H Q ∨ u σ H Q
theorem pe_or2 {X : Cx} {e : Expr} {t u : TE} (h1 : PE X e t) (h2 : PE X e u) : PE X e (tOr2 t u) := ⟨fun pins s σ H Q I h => h.elim (h1.run pins s σ H Q I) (h2.run pins s σ H Q I)⟩
/-! two at once, the second with a word -/
theorem q_parLX {i j : Nat} {xs : List V} (h1 : EvL tl σ H xs) (h2 : ∀ H1, Ex H H1 → EvX te σ H1 P) (k : ∀ p v H1 H2, H p = none → Ex H H1 → H1 p = some (.lst xs) → Ex H1 H2 → P v H2 → tz D ((σ.set i (some (.ref p))).set j (some v)) H2) : tSeq (tPar i j (tCons tl (tCons te tNil))) tz D σ H :=
  h1 H (Ex.refl H) _ fun p H1 hp e1 f1 => h2 H1 e1 H1 (Ex.refl H1) _ fun v H2 e2 pv => ⟨_, _, rfl, k p v H1 H2 hp e1 f1 e2 pv⟩
/-- f(xs), xs a new list -/
theorem evx_callL {sp : Sp} {E : XK} {xs : List V} (h : EvL te σ H xs) (hs : ∀ p H1, Ex H H1 → H1 p = some (.lst xs) → SpX sp ([.ref p] ++ []) H1 P) : EvX (tCall sp [] E (tCons te tNil)) σ H P := fun H1 e Q q =>
  h H1 e _ fun p H2 _ e2 h2 => hs p H2 (e.trans e2) h2 H2 (Ex.refl H2) Q (fun v H3 e3 pv => q v H3 (e2.trans e3) pv) E
theorem evx_bindOp {r : R2} {P' : V → Hp → Prop} (ha : EvX ta σ H P) (hb : ∀ v H1, Ex H H1 → P v H1 → ∀ Q : VK, (∀ y H2, Ex H1 H2 → P' y H2 → Q y H2) → tb σ H1 fun u H2 => r v u H2 Q) : EvX (tOp r ta tb) σ H P' := fun H1 e Q q =>
  ha H1 e _ fun v H2 e2 pv => hb v H2 (e.trans e2) pv Q fun y H3 e3 py => q y H3 (e2.trans e3) py
theorem evx_fldC {C : Addr} {f : Str} {ps : List PI} (hc : Cls K C) (hn : NoAttr K C f) (hf : ("cuts" : Str) = f) (h : EvX ta σ H (fun v H2 => ∃ x l, v = .ref x ∧ CutAt K C H2 x l ps)) :
    EvX (tFld K ta f) σ H (fun v H2 => ∃ l vs, v = .ref l ∧ H2 l = some (.lst vs) ∧ Prs K H2 vs ps) := fun H1 e Q q =>
  h H1 e _ fun v H2 e2 ⟨x, l, hv, dx, vs, h1, h2, h3⟩ => ⟨x, C, dx, _, .ref l, hv, h1, hc, hn, by subst hf; rfl, q _ H2 e2 ⟨l, vs, rfl, h2, h3⟩⟩
theorem ev_eqPX {ps qs : List PI} (ha : EvX ta σ H (fun v H2 => ∃ l vs, v = .ref l ∧ H2 l = some (.lst vs) ∧ Prs K H2 vs ps)) (hb : ∀ H1, Ex H H1 → EvX tb σ H1 (PL K H1 qs)) : Ev (tOp (rEqD K) ta tb) σ H (.bl (decide (ps = qs))) := fun H1 e Q q =>
  ha H1 e _ fun v H2 e2 ⟨l, vs, hv, h1, h2⟩ => hb H2 (e.trans e2) H2 (Ex.refl H2) _ fun u H3 e3 ⟨p, ys, hu, _, h3, h4⟩ => by
    subst hv
    subst hu
    exact rv_eqD (dp_pairs (sq_of (e3 _ _ h1)) (h2.mono e3)) (dp_pairs (sq_of h3) h4) (shaped_pairs _) (shaped_pairs _) (eqv_pairs _ _) H3 (Ex.refl H3) Q fun H4 e4 => q H4 ((e2.trans e3).trans e4)
theorem pl_nil : EvX (tLst tNil) σ H (PL K H []) := pl_of (el_lst ea_nil (Nat.zero_le _)) .nil
end
end FzL

/-! For the laws, more. -/
namespace FzL
open PySem PySem.Spec PyProof.Rows L2 Evl Fz Fz.Tr LamX
section
variable {K : PySem.W.Frag} {σ : L2.St} {H H' : Hp} {ta tb tc te ti tl tn : TE} {t : TT} {D : Ends} {tu tz : TS} {l : Addr} {x y z v : V} {P : V → Hp → Prop}
theorem q_par3L {i j m : Nat} {xs ys zs : List V} (h1 : EvL tl σ H xs) (h2 : ∀ H1, Ex H H1 → EvL tn σ H1 ys) (h3 : ∀ H1, Ex H H1 → EvL tc σ H1 zs)
    (k : ∀ p q r H1, H p = none → H q = none → H r = none → p ≠ q → p ≠ r → q ≠ r → Ex H H1 → H1 p = some (.lst xs) → H1 q = some (.lst ys) → H1 r = some (.lst zs) → tz D (((σ.set i (some (.ref p))).set j (some (.ref q))).set m (some (.ref r))) H1) :
    tSeq (tPar3 i j m (tCons tl (tCons tn (tCons tc tNil)))) tz D σ H := h1 H (Ex.refl H) _ fun p H1 hp e1 f1 => h2 H1 e1 H1 (Ex.refl H1) _ fun q H2 hq e2 f2 => h3 H2 (e1.trans e2) H2 (Ex.refl H2) _ fun r H3 hr e3 f3 =>
  ⟨_, _, _, rfl, k p q r H3 hp (fresh_back e1 hq) (fresh_back (e1.trans e2) hr) (ne_of_none f1 hq) (ne_of_none (e2 _ _ f1) hr) (ne_of_none f2 hr) ((e1.trans e2).trans e3) (e3 _ _ (e2 _ _ f1)) (e3 _ _ f2) f3⟩
theorem evx_if {b : Bool} (h : EvT t σ H b) (h1 : b = true → EvX ta σ H P) (h2 : b = false → EvX tb σ H P) : EvX (tIf t ta tb) σ H P := fun H1 e Q q => h H1 e _ fun H2 e2 => by
  cases b with
  | true =>
    show ta σ H2 Q
    exact h1 rfl H2 (e.trans e2) Q fun v H3 e3 p => q v H3 (e2.trans e3) p
  | false =>
    show tb σ H2 Q
    exact h2 rfl H2 (e.trans e2) Q fun v H3 e3 p => q v H3 (e2.trans e3) p
/-- the least of a list above none -/
theorem et_minG {a : Addr} {ns : List Int} (ha : Ev ta σ H (.ref a)) (hs : SqL K H a (ns.map V.int)) (h0 : 0 < ns.length) :
    EvT (tTest (tOp (rI0 fun i j => .bl (decide (j < i))) (tCB (rMin K) (tCons ta tNil)) (tC (.int 0)))) σ H (ns.all fun z => decide (0 < z)) := fun H1 e Q q =>
  ha H1 e _ fun H2 e2 => ⟨a, ns, rfl, ex_l (e.trans e2) hs, h0, fun m hm hle => ⟨m, 0, rfl, rfl, decide (0 < m), rfl, by
    have hb : (ns.all fun z => decide (0 < z)) = decide (0 < m) := by
      rw [Bool.eq_iff_iff, List.all_eq_true]
      constructor
      · intro h
        exact h m hm
      · intro hd z hz
        have h1 := of_decide_eq_true hd
        have h2 := hle z hz
        exact decide_eq_true (by omega)
    rw [← hb]
    exact q H2 e2⟩⟩
end
end FzL
namespace FzL
open PySem PySem.Spec PyProof.Rows L2 Evl Fz Fz.Tr LamX
section
variable {K : PySem.W.Frag} {σ : L2.St} {H : Hp} {ta : TE} {l : Addr}
/-- xs != [] -/
theorem et_neE {es : List Int} (ha : Ev ta σ H (.ref l)) (hs : SqL K H l (es.map V.int)) : EvT (tTest (tOp (rNeD K) ta (tLst tNil))) σ H (!decide (es = [])) :=
  et_test (ev_opL ha (el_lst ea_nil (Nat.zero_le _)) fun p H8 hp e8 => rv_neD (dp_ints (ex_l e8 hs)) (dp_ints (ns := []) (sq_of hp)) (shaped_ints _) (shaped_ints _) (eqv_ints _ _))
end
end FzL
namespace FzL
open PySem PySem.Spec PyProof.Rows L2 Evl Fz Fz.Tr LamX
section
variable {K : PySem.W.Frag} {H H' : Hp} {σ : L2.St} {ta tb tc te ti tl tn : TE} {D : Ends} {tu tz : TS} {v y z : V} {T : List (Addr × Str)} {l : Addr}
/-- l.reverse() -/
theorem q_revI {ns : List Int} (hl : H l = some (.lst (ns.map V.int))) (ha : Ev ta σ H (.ref l)) (k : ∀ H1, Ex H H1 → tz D σ (upd H1 l (.lst (ns.reverse.map V.int)))) : tSeq (tDrop (tBM0 K "list" rReverse ta)) tz D σ H :=
  ha H (Ex.refl H) _ fun H1 e1 => ⟨Or.inl ⟨rfl, _, sq_of (e1 _ _ hl)⟩, l, ns.map V.int, rfl, rfl, e1 _ _ hl, by
    rw [← List.map_reverse]
    exact k H1 e1⟩
theorem ev_bindCB {r : List V → Hp → VK → Prop} {P : V → Hp → Prop} {c : V} (ha : EvX ta σ H P) (hr : ∀ v H1, Ex H H1 → P v H1 → RC r [v, c] H1 z) : Ev (tCB r (tCons ta (tCons (tC c) tNil))) σ H z := fun H1 e Q q =>
  ha H1 e _ fun v H2 e2 pv => hr v H2 (e.trans e2) pv H2 (Ex.refl H2) Q fun H3 e3 => q H3 (e2.trans e3)
theorem nv_callLX {sp : Sp} {E : XK} {xs : List V} {P : V → Hp → Prop} (h1 : EvL ta σ H xs) (h2 : ∀ H1, Ex H H1 → EvX tb σ H1 P) (hT : Tabs T H) (hs : ∀ p v H1, Ex H H1 → H1 p = some (.lst xs) → P v H1 → SpN T sp ([.ref p, v] ++ []) H1 z) :
    NvE T (tCall sp [] E (tCons ta (tCons tb tNil))) σ H z := fun Q q => h1 H (Ex.refl H) _ fun p H1 _ e1 f1 => h2 H1 e1 H1 (Ex.refl H1) _ fun v H2 e2 pv => hs p v H2 (e1.trans e2) (e2 _ _ f1) pv Q (fun H3 e3 t3 => q H3 ((exn_of (e1.trans e2)).trans e3) t3) E
theorem spx_imp {sp : Sp} {vs : List V} {P P' : V → Hp → Prop} (h : SpX sp vs H P) (hi : ∀ v H2, P v H2 → P' v H2) : SpX sp vs H P' := fun H1 e Q q E => h H1 e Q (fun v H2 e2 p => q v H2 e2 (hi v H2 p)) E
theorem rv_notB {a b : Bool} : RV rNotB (.bl a) (.bl b) H (.bl (!decide (a = b))) := fun H1 e Q q => ⟨a, b, rfl, rfl, q H1 (Ex.refl H1)⟩
theorem ev_neB {a b : Bool} (ha : Ev ta σ H (.bl a)) (hb : Ev tb σ H (.bl b)) : Ev (tOp rNe ta tb) σ H (.bl (!decide (a = b))) := ev_is (ev_op ha hb (rv_ne rfl)) (by
  have : decide (V.bl a = V.bl b) = decide (a = b) := decide_eq_decide.mpr ⟨fun z => by injection z, fun z => by rw [z]⟩
  rw [this])
theorem ev_eqB {a b : Bool} (ha : Ev ta σ H (.bl a)) (hb : Ev tb σ H (.bl b)) : Ev (tOp rEq ta tb) σ H (.bl (decide (a = b))) := ev_is (ev_op ha hb (rv_eq rfl)) (by
  have : decide (V.bl a = V.bl b) = decide (a = b) := decide_eq_decide.mpr ⟨fun z => by injection z, fun z => by rw [z]⟩
  rw [this])
theorem rv_neB {a b : Bool} : RV rNe (.bl a) (.bl b) H (.bl (!decide (a = b))) := rv_val fun H1 e Q q => ⟨rfl, by
  have : decide (V.bl a = V.bl b) = decide (a = b) := decide_eq_decide.mpr ⟨fun z => by injection z, fun z => by rw [z]⟩
  rw [this]
  exact q⟩
theorem ev_notN {x : V} (ha : Ev ta σ H x) : Ev (tNotN ta) σ H (.bl (!decide (x = .non))) := fun H1 e Q q => ha H1 e _ fun H2 e2 => q H2 e2
theorem et_neI2 {ns ms : List Int} {a b : Addr} (ha : Ev ta σ H (.ref a)) (hb : Ev tb σ H (.ref b)) (h1 : SqL K H a (ns.map V.int)) (h2 : SqL K H b (ms.map V.int)) : EvT (tTest (tOp (rNeD K) ta tb)) σ H (!decide (ns = ms)) :=
  et_test (ev_op ha hb (rv_neD (dp_ints h1) (dp_ints h2) (shaped_ints _) (shaped_ints _) (eqv_ints _ _)))
theorem et_neP2 {ps qs : List PI} {vs ws : List V} {a b : Addr} (ha : Ev ta σ H (.ref a)) (hb : Ev tb σ H (.ref b)) (h1 : SqL K H a vs) (h2 : SqL K H b ws) (p1 : Prs K H vs ps) (p2 : Prs K H ws qs) : EvT (tTest (tOp (rNeD K) ta tb)) σ H (!decide (ps = qs)) :=
  et_test (ev_op ha hb (rv_neD (dp_pairs h1 p1) (dp_pairs h2 p2) (shaped_pairs _) (shaped_pairs _) (eqv_pairs _ _)))
end
end FzL

/-! Lists of anything changed in place; lists told by their members. -/
namespace FzL
open PySem PySem.Spec PyProof.Rows L2 Evl Fz Fz.Tr LamX
section
variable {K : PySem.W.Frag} {σ : L2.St} {H H' : Hp} {ta tb tc td te ti tl : TE} {D : Ends} {tu tz : TS} {l : Addr} {u v x y z : V} {xs ys : List V}
theorem eqvAll_nil : ∀ ds : List PyData, PyData.eqvAll ds [] = ds.isEmpty
  | [] => by simp [PyData.eqvAll]
  | _ :: _ => by simp [PyData.eqvAll]
theorem shaped_nil : SeqAt.shaped (.list []) = true := shaped_ints []
/-- xs == [], xs data of any kind -/
theorem et_eqE {ds : List PyData} {a : Addr} (ha : Ev ta σ H (.ref a)) (hd : Dp K H (.ref a) (.list ds)) (hs : SeqAt.shaped (.list ds) = true) : EvT (tTest (tOp (rEqD K) ta (tLst tNil))) σ H ds.isEmpty :=
  et_test (ev_opL ha (el_lst ea_nil (Nat.zero_le _)) fun p H8 hp e8 => rv_eqD (dp_mono e8 _ hd) (.lst (sq_of hp) .nil) hs shaped_nil (by
    rw [PyData.eqv]
    exact eqvAll_nil ds))
theorem q_parVVL {i j m : Nat} (h1 : Ev ta σ H u) (h2 : Ev tb σ H v) (h3 : EvL tc σ H xs) (k : ∀ p H1, H p = none → Ex H H1 → H1 p = some (.lst xs) → tz D (((σ.set i (some u)).set j (some v)).set m (some (.ref p))) H1) :
    tSeq (tPar3 i j m (tCons ta (tCons tb (tCons tc tNil)))) tz D σ H := h1 H (Ex.refl H) _ fun H1 e1 => h2 H1 e1 _ fun H2 e2 => h3 H2 (e1.trans e2) _ fun p H3 hp e3 f3 =>
  ⟨_, _, _, rfl, k p H3 (fresh_back (e1.trans e2) hp) ((e1.trans e2).trans e3) f3⟩
theorem atI_of {i : Int} {j : Nat} (h : ixN xs.length i = some j) (hv : xs[j]? = some v) : atI xs i = some v := by
  unfold atI
  rw [h]
  exact hv
/-- l[i] = v as a store -/
theorem setV_go {i : Int} {j : Nat} {Q : Hp → Prop} (hl : H l = some (.lst xs)) (hx : ixN xs.length i = some j) (k : Q (upd H l (.lst (xs.set j v)))) : rSetL (.ref l) (.int i) v H Q := ⟨l, xs, i, j, rfl, rfl, hl, hx, k⟩
/-- l.pop(j) -/
theorem s_popV {j : Nat} (hl : H l = some (.lst xs)) (ha : Ev ta σ H (.ref l)) (hi : Ev ti σ H (.int (j : Int))) (hj : j < xs.length) (hz : xs.length ≤ 100000) (k : ∀ H1, Ex H H1 → D.nx σ (upd H1 l (.lst (xs.eraseIdx j)))) :
    tDrop (tBM K "list" rPopAt ta (tCons ti tNil)) D σ H := ha H (Ex.refl H) _ fun H1 e1 => ⟨Or.inl ⟨rfl, _, sq_of (e1 _ _ hl)⟩, hi H1 e1 _ fun H2 e2 => by
    refine ⟨l, xs, (j : Int), j, xs[j], rfl, rfl, e2 _ _ (e1 _ _ hl), by omega, by omega, ?_, List.getElem?_eq_getElem hj, k H2 (e1.trans e2)⟩
    rw [seqIndex_of (by omega) (by omega), Int.toNat_natCast]⟩
def rIns : V → List V → Hp → VK → Prop := fun x vs H Q => ∃ (l : Addr) (xs : List V) (i : Int) (y : V), x = .ref l ∧ vs = [.int i, y] ∧ H l = some (.lst xs) ∧ xs.length < sizeLine ∧ 0 ≤ i ∧ i < 2 ^ 63 ∧ Q .non (upd H l (.lst (xs.take i.toNat ++ [y] ++ xs.drop i.toNat)))
/-- l.insert(j, v) -/
theorem s_insV {j : Nat} (hl : H l = some (.lst xs)) (ha : Ev ta σ H (.ref l)) (hi : Ev ti σ H (.int (j : Int))) (hv : Ev te σ H v) (hj : j < 100000) (hz : xs.length < 100000) (k : ∀ H1, Ex H H1 → D.nx σ (upd H1 l (.lst (xs.take j ++ [v] ++ xs.drop j)))) :
    tDrop (tBM K "list" rIns ta (tCons ti (tCons te tNil))) D σ H := ha H (Ex.refl H) _ fun H1 e1 => ⟨Or.inl ⟨rfl, _, sq_of (e1 _ _ hl)⟩, hi H1 e1 _ fun H2 e2 => hv H2 (e1.trans e2) _ fun H3 e3 => by
    refine ⟨l, xs, (j : Int), v, rfl, rfl, e3 _ _ (e2 _ _ (e1 _ _ hl)), sz_lt hz, by omega, by omega, ?_⟩
    rw [Int.toNat_natCast]
    exact k H3 ((e1.trans e2).trans e3)⟩
/-- all members are of xs, or are s -/
def Of (xs : List V) (s : V) (ys : List V) : Prop := ∀ y ∈ ys, y ∈ xs ∨ y = s
theorem Of.set {s : V} {j : Nat} (h : Of xs s ys) (hv : v ∈ xs ∨ v = s) : Of xs s (ys.set j v) := fun y hy => by
  rcases List.mem_or_eq_of_mem_set hy with q | q
  · exact h y q
  · rw [q]
    exact hv
theorem Of.get {s : V} {j : Nat} (h : Of xs s ys) (hj : j < ys.length) : ys[j] ∈ xs ∨ ys[j] = s := h _ (List.getElem_mem hj)
theorem Of.prs {s : V} {ps : List PI} {q : PI} (hp : Prs K H xs ps) (hq : Pr K H s q) : ∀ {ys : List V}, Of xs s ys → ∃ qs, Prs K H ys qs ∧ qs.length = ys.length
  | [], _ => ⟨[], .nil, rfl⟩
  | y :: ys, h => by
    obtain ⟨qs, h1, h2⟩ := Of.prs hp hq (ys := ys) fun z hz => h z (List.mem_cons_of_mem _ hz)
    rcases h y (List.mem_cons_self ..) with c | c
    · obtain ⟨p, _, hpr⟩ := hp.mem c
      exact ⟨p :: qs, .cons hpr h1, by rw [List.length_cons, List.length_cons, h2]⟩
    · rw [c]
      exact ⟨q :: qs, .cons hq h1, by rw [List.length_cons, List.length_cons, h2]⟩
theorem Of.ints {ns : List Int} {i : Int} : ∀ {ys : List V}, Of (ns.map V.int) (.int i) ys → ∃ ms : List Int, ys = ms.map V.int
  | [], _ => ⟨[], rfl⟩
  | y :: ys, h => by
    obtain ⟨ms, h1⟩ := Of.ints (ys := ys) fun z hz => h z (List.mem_cons_of_mem _ hz)
    rcases h y (List.mem_cons_self ..) with c | c
    · obtain ⟨n, _, rfl⟩ := List.mem_map.mp c
      exact ⟨n :: ms, by rw [h1]; rfl⟩
    · exact ⟨i :: ms, by rw [h1, c]; rfl⟩
theorem isv_bool {b : Bool} : IsV K H (.bl b) "bool" true := isv_ty (.base (.bl b)) (by decide +kernel)
end
end FzL

/-! Lists and tuples of things that the heap tells; loops over them; comprehensions that leave out. -/
namespace FzL
open PySem PySem.Spec PyProof.Rows L2 Evl Fz Fz.Tr LamX
/-- what stays when tables grow -/
def Kept {β : Type} (F : Hp → V → β → Prop) : Prop := ∀ (H H' : Hp) (v : V) (b : β), ExtN H H' → F H v b → F H' v b
def Gs {β : Type} (F : Hp → V → β → Prop) (H : Hp) (vs : List V) (bs : List β) : Prop := Paired (F H) vs bs
section
variable {β : Type} {F : Hp → V → β → Prop} {K : PySem.W.Frag} {σ : L2.St} {H H' : Hp} {ta tb tc td te ti tl : TE} {tr : TA} {D : Ends} {tu tz : TS} {l : Addr} {u v x y z : V} {xs ys : List V} {T : List (Addr × Str)} {P : V → Hp → Prop} {bs cs : List β} {b : β}
theorem Gs.mono (kF : Kept F) (e : ExtN H H') (h : Gs F H xs bs) : Gs F H' xs bs := Paired.mapP h fun _ _ => kF _ _ _ _ e
theorem Gs.app : ∀ {vs ws : List V} {bs cs : List β}, Gs F H vs bs → Gs F H ws cs → Gs F H (vs ++ ws) (bs ++ cs)
  | _, _, _, _, .nil, h => h
  | _, _, _, _, .cons a b, h => .cons a (Gs.app b h)
theorem Gs.get : ∀ {vs : List V} {bs : List β}, Gs F H vs bs → ∀ {i : Nat} {v : V}, vs[i]? = some v → ∃ b, bs[i]? = some b ∧ F H v b
  | _, _, .nil, i, v, h => by simp at h
  | _, _, .cons a b, 0, v, h => by
    simp at h
    subst h
    exact ⟨_, rfl, a⟩
  | _, _, .cons a b, i + 1, v, h => by
    obtain ⟨p, h1, h2⟩ := Gs.get b (i := i) (v := v) (by simpa using h)
    exact ⟨p, by simpa using h1, h2⟩
theorem gs_nil : EvAX tNil σ H (fun vs H2 => Gs F H2 vs ([] : List β)) := fun H1 e Q q => q [] H1 (Ex.refl H1) .nil
theorem gs_cons (kF : Kept F) (h : EvX te σ H (fun v H2 => F H2 v b)) (hr : EvAX tr σ H (fun vs H2 => Gs F H2 vs bs)) : EvAX (tCons te tr) σ H (fun vs H2 => Gs F H2 vs (b :: bs)) := fun H1 e Q q =>
  h H1 e _ fun v H2 e2 pv => hr H2 (e.trans e2) _ fun vs H3 e3 p => q _ H3 (e2.trans e3) (.cons (kF _ _ _ _ (exn_of e3) pv) p)
/-- a new list of them -/
def GL (F : Hp → V → β → Prop) (H : Hp) (bs : List β) : V → Hp → Prop := fun y H2 => ∃ (p : Addr) (ys : List V), y = .ref p ∧ H p = none ∧ H2 p = some (.lst ys) ∧ Gs F H2 ys bs
theorem gl_lst (kF : Kept F) (h : EvAX tr σ H (fun vs H2 => Gs F H2 vs bs)) (hz : bs.length ≤ 100000) : EvX (tLst tr) σ H (GL F H bs) := fun H1 e Q q =>
  h H1 e _ fun vs H2 e2 hv => by
    have hl : vs.length = bs.length := Paired.length hv
    exact ⟨sz_of (by omega), fun p hp => q (.ref p) _ (e2.trans (Ex.new hp)) ⟨p, vs, rfl, fresh_back (e.trans e2) hp, upd_same, Gs.mono kF (exn_of (Ex.new hp)) hv⟩⟩
theorem gl_cat (kF : Kept F) (ha : EvX ta σ H (GL F H bs)) (hb : ∀ H1, Ex H H1 → EvX tb σ H1 (GL F H1 cs)) (hz : bs.length + cs.length ≤ 100000) : EvX (tOp rCat ta tb) σ H (GL F H (bs ++ cs)) := fun H1 e Q q =>
  ha H1 e _ fun v H2 e2 ⟨p, ys, hv, hn, h2, hp⟩ => by
    subst hv
    exact hb H2 (e.trans e2) H2 (Ex.refl H2) _ fun u H3 e3 ⟨p', zs, hu, hn', h3, hp'⟩ => by
      subst hu
      have hl1 : ys.length = bs.length := Paired.length hp
      have hl2 : zs.length = cs.length := Paired.length hp'
      exact ⟨p, p', ys, zs, rfl, rfl, e3 _ _ h2, h3, sz_of (by omega), fun s hs => q (.ref s) _ ((e2.trans e3).trans (Ex.new hs)) ⟨s, ys ++ zs, rfl, fresh_back ((e.trans e2).trans e3) hs, upd_same, Gs.mono kF (exn_of (Ex.new hs)) (Gs.app (Gs.mono kF (exn_of e3) hp) hp')⟩⟩
/-- a list that stands, told by its items -/
theorem gl_catV (kF : Kept F) {ws : List V} (ha : Ev ta σ H (.ref l)) (hl : H l = some (.lst ws)) (hg : Gs F H ws bs) (hb : ∀ H1, Ex H H1 → EvX tb σ H1 (GL F H1 cs)) (hz : bs.length + cs.length ≤ 100000) : EvX (tOp rCat ta tb) σ H (GL F H (bs ++ cs)) := fun H1 e Q q =>
  ha H1 e _ fun H2 e2 => hb H2 (e.trans e2) H2 (Ex.refl H2) _ fun u H3 e3 ⟨p', zs, hu, hn', h3, hp'⟩ => by
      subst hu
      have ee := (e.trans e2).trans e3
      have hl1 : ws.length = bs.length := Paired.length hg
      have hl2 : zs.length = cs.length := Paired.length hp'
      exact ⟨l, p', ws, zs, rfl, rfl, ee _ _ hl, h3, sz_of (by omega), fun s hs => q (.ref s) _ ((e2.trans e3).trans (Ex.new hs)) ⟨s, ws ++ zs, rfl, fresh_back ee hs, upd_same, Gs.mono kF (exn_of (Ex.new hs)) (Gs.app (Gs.mono kF (exn_of ee) hg) hp')⟩⟩
/-- for x in (a, b, ..) -/
theorem s_forG (kF : Kept F) {j : Nat} (h : EvAX tr σ H (fun vs H2 => Gs F H2 vs bs)) (hz : bs.length ≤ 100000) (hT : Tabs T H) (Pv : L2.St → Hp → Prop) (h0 : ∀ H1, ExtN H H1 → Tabs T H1 → Pv σ H1)
    (hs : ∀ (B : Hp) (v : V) (b : β) (σ' : L2.St) (H' : Hp), ExtN H B → b ∈ bs → F B v b → ExtN B H' → Tabs T H' → Pv σ' H' → tu { D with nx := fun σ2 H2 => ExtN B H2 ∧ Tabs T H2 ∧ Pv σ2 H2, ct := fun σ2 H2 => ExtN B H2 ∧ Tabs T H2 ∧ Pv σ2 H2, bk := D.nx } (σ'.set j (some v)) H')
    (hd : ∀ σ' H', ExtN H H' → Tabs T H' → Pv σ' H' → D.nx σ' H') : tFor (iTup K (tTup tr)) (gName j) tu D σ H :=
  h H (Ex.refl H) _ fun vs H1 e1 hr => by
    have hl : vs.length = bs.length := Paired.length hr
    refine ⟨sz_of (by omega), fun p hp => ⟨p, rfl, ⟨vs, st_of upd_same⟩, ?_⟩⟩
    have eB : Ex H (upd H1 p (.tup vs)) := e1.trans (Ex.new hp)
    refine for_it (walk_tup (K := K) (a := p) (xs := vs)) (fun i σ' H' => ExtN (upd H1 p (.tup vs)) H' ∧ Tabs T H' ∧ Pv σ' H') ⟨ExtN.refl _, hT.ext eB, h0 _ (exn_of eB) (hT.ext eB)⟩ (fun i σ' H' _ ⟨q, _⟩ => st_of (exn_tup q upd_same)) ?_ (fun σ' H' ⟨q1, q2, q3⟩ => hd σ' H' ((exn_of eB).trans q1) q2 q3)
    rintro i v σ' H' H'' hi ⟨q1, q2, q3⟩ ⟨rfl, hv⟩
    obtain ⟨b, hb, hF⟩ := Gs.get (Gs.mono kF (exn_of (Ex.new hp)) hr) hv
    exact hs _ v b σ' _ (exn_of eB) (List.mem_of_getElem? hb) hF q1 q2 q3
theorem q_forG (kF : Kept F) {j : Nat} (h : EvAX tr σ H (fun vs H2 => Gs F H2 vs bs)) (hz : bs.length ≤ 100000) (hT : Tabs T H) (Pv : L2.St → Hp → Prop) (h0 : ∀ H1, ExtN H H1 → Tabs T H1 → Pv σ H1)
    (hs : ∀ (B : Hp) (v : V) (b : β) (σ' : L2.St) (H' : Hp), ExtN H B → b ∈ bs → F B v b → ExtN B H' → Tabs T H' → Pv σ' H' → tu { D with nx := fun σ2 H2 => ExtN B H2 ∧ Tabs T H2 ∧ Pv σ2 H2, ct := fun σ2 H2 => ExtN B H2 ∧ Tabs T H2 ∧ Pv σ2 H2, bk := tz D } (σ'.set j (some v)) H')
    (hd : ∀ σ' H', ExtN H H' → Tabs T H' → Pv σ' H' → tz D σ' H') : tSeq (tFor (iTup K (tTup tr)) (gName j) tu) tz D σ H := s_forG (D := { D with nx := tz D }) kF h hz hT Pv h0 hs hd
/-- for .. in a list that a word tells -/
theorem q_forGL (kF : Kept F) {g : TG} (h : EvX te σ H (GL F H bs)) (hT : Tabs T H) (Pv : L2.St → Hp → Prop) (h0 : ∀ H1, ExtN H H1 → Tabs T H1 → Pv σ H1)
    (hs : ∀ (B : Hp) (v : V) (b : β) (σ' : L2.St) (H' : Hp), ExtN H B → b ∈ bs → F H' v b → ExtN B H' → Tabs T H' → Pv σ' H' → g v σ' H' fun σ3 H3 => tu { D with nx := fun σ2 H2 => ExtN B H2 ∧ Tabs T H2 ∧ Pv σ2 H2, ct := fun σ2 H2 => ExtN B H2 ∧ Tabs T H2 ∧ Pv σ2 H2, bk := tz D } σ3 H3)
    (hd : ∀ σ' H', ExtN H H' → Tabs T H' → Pv σ' H' → tz D σ' H') : tSeq (tFor (iList K te) g tu) tz D σ H :=
  h H (Ex.refl H) _ fun v H1 e1 ⟨p, vs, hv, hn, hp, hg⟩ => by
    subst hv
    refine ⟨p, rfl, ⟨vs, sq_of hp⟩, ?_⟩
    refine for_it (D := { D with nx := tz D }) (walk_list (K := K) (a := p) (xs := vs)) (fun i σ' H' => ExtN H1 H' ∧ Tabs T H' ∧ Pv σ' H') ⟨ExtN.refl _, hT.ext e1, h0 _ (exn_of e1) (hT.ext e1)⟩ (fun i σ' H' _ ⟨q, _⟩ => sq_of (exn_lst q hp)) ?_ (fun σ' H' ⟨q1, q2, q3⟩ => hd σ' H' ((exn_of e1).trans q1) q2 q3)
    rintro i v σ' H' H'' hi ⟨q1, q2, q3⟩ ⟨rfl, hv⟩
    obtain ⟨b, hb, hF⟩ := Gs.get (Gs.mono kF q1 hg) hv
    exact hs H1 v b σ' _ (exn_of e1) (List.mem_of_getElem? hb) hF q1 q2 q3
/-! pairs and rows as such things -/
theorem kPr : Kept (Pr K) := fun _ _ _ _ e ⟨t, e1, e2⟩ => ⟨t, e1, exn_tup e e2⟩
theorem gpr {a b : Int} (h : EvU te σ H [.int a, .int b]) : EvX te σ H (fun v H2 => Pr K H2 v (a, b)) := fun H1 e Q q => h H1 e _ fun p H2 _ e2 h2 => q _ H2 e2 ⟨p, rfl, h2⟩
theorem gl_pl {ps : List PI} (h : EvX te σ H (GL (Pr K) H ps)) : EvX te σ H (PL K H ps) := h
def PsAt (K : PySem.W.Frag) (H : Hp) (v : V) (ps : List PI) : Prop := ∃ l vs, v = .ref l ∧ H l = some (.lst vs) ∧ Prs K H vs ps
theorem kPs : Kept (PsAt K) := fun _ _ _ _ e ⟨l, vs, h1, h2, h3⟩ => ⟨l, vs, h1, exn_lst e h2, exn_prs e h3⟩
theorem kRow : Kept RowAt := fun _ _ _ _ e ⟨a, h1, h2⟩ => ⟨a, h1, exn_lst e h2⟩
theorem gx_v {a : Addr} (ha : Ev te σ H (.ref a)) (hF : ∀ H1, Ex H H1 → F H1 (.ref a) b) : EvX te σ H (fun v H2 => F H2 v b) := fun H1 e Q q => ha H1 e _ fun H2 e2 => q _ H2 e2 (hF H2 (e.trans e2))
theorem gx_row {ms : List Int} (h : EvL te σ H (ms.map V.int)) : EvX te σ H (fun v H2 => RowAt H2 v ms) := fun H1 e Q q => h H1 e _ fun p H2 _ e2 h2 => q _ H2 e2 ⟨p, rfl, h2⟩
theorem gx_pl {ps : List PI} (h : EvX te σ H (PL K H ps)) : EvX te σ H (fun v H2 => PsAt K H2 v ps) := h.imp fun v H2 _ ⟨p, ys, h1, _, h2, h3⟩ => ⟨p, ys, h1, h2, h3⟩
/-! two at once -/
theorem q_parXL {i j : Nat} {xs : List V} (h1 : EvX ta σ H P) (h2 : ∀ H1, Ex H H1 → EvL tl σ H1 xs) (k : ∀ v p H1 H2, Ex H H1 → P v H1 → H1 p = none → Ex H1 H2 → H2 p = some (.lst xs) → tz D ((σ.set i (some v)).set j (some (.ref p))) H2) : tSeq (tPar i j (tCons ta (tCons tl tNil))) tz D σ H :=
  h1 H (Ex.refl H) _ fun v H1 e1 pv => h2 H1 e1 H1 (Ex.refl H1) _ fun p H2 hp e2 f2 => ⟨_, _, rfl, k v p H1 H2 e1 pv hp e2 f2⟩
theorem q_parXV {i j : Nat} (h1 : EvX ta σ H P) (h2 : ∀ H1, Ex H H1 → Ev tb σ H1 x) (k : ∀ v H1 H2, Ex H H1 → P v H1 → Ex H1 H2 → tz D ((σ.set i (some v)).set j (some x)) H2) : tSeq (tPar i j (tCons ta (tCons tb tNil))) tz D σ H :=
  h1 H (Ex.refl H) _ fun v H1 e1 pv => h2 H1 e1 H1 (Ex.refl H1) _ fun H2 e2 => ⟨_, _, rfl, k v H1 H2 e1 pv e2⟩
/-- for i, x in enumerate(xs), xs a new list -/
theorem q_forEN {j k : Nat} {xs : List V} (h : EvL tl σ H xs) (Pv : Addr → Nat → L2.St → Hp → Prop) (h0 : ∀ p H1, H p = none → Ex H H1 → H1 p = some (.lst xs) → Pv p 0 σ H1) (hl : ∀ p i σ' H', i ≤ xs.length → Pv p i σ' H' → SqL K H' p xs)
    (hs : ∀ p i x σ' H' H'', xs[i]? = some x → Pv p i σ' H' → Ex H' H'' → tu { D with nx := Pv p (i + 1), ct := Pv p (i + 1), bk := tz D } ((σ'.set j (some (.int (i : Int)))).set k (some x)) H'') (hd : ∀ p σ' H', Pv p xs.length σ' H' → tz D σ' H') : tSeq (tFor (iEnum K (tCons tl tNil)) (gEn K j k) tu) tz D σ H :=
  h H (Ex.refl H) _ fun a H1 ha e hx => ⟨a, xs, rfl, sq_of hx, for_it (D := { D with nx := tz D }) walk_enum (Pv a) (h0 a H1 ha e hx) (hl a) (fun i v σ' H' H'' hi p hy => by
    obtain ⟨t, x, y, rfl, ht, rfl, hxi, hyi⟩ := hy
    obtain rfl := (Option.some.inj hxi)
    exact ⟨t, _, rfl, st_of upd_same, rfl, _, _, rfl, _, _, rfl, rfl, hs a i y σ' H' _ hyi p (Ex.new ht)⟩) (hd a)⟩
/-- [i for i, x in enumerate(xs) if ..] -/
theorem el_enumIf {a : Addr} {xs : List V} {j k : Nat} {ws : List Nat} {tt : TT} (f : Nat → Bool) (w : Nat → V) (h : Ev tl σ H (.ref a)) (hx : SqL K H a xs) (hz : xs.length ≤ 40000) (hw : ∀ x y, wipe (((wipe σ ws).set j (some x)).set k (some y)) ws = wipe σ ws)
    (ht : ∀ (i : Nat) (x : V) H1, Ex H H1 → xs[i]? = some x → EvT tt (((wipe σ ws).set j (some (.int (i : Int)))).set k (some x)) H1 (f i)) (he : ∀ (i : Nat) (x : V) H1, Ex H H1 → xs[i]? = some x → f i = true → Ev te (((wipe σ ws).set j (some (.int (i : Int)))).set k (some x)) H1 (w i)) :
    EvL (tLc (iEnum K (tCons tl tNil)) (gEn K j k) tt te ws) σ H (given xs.length f w) := fun H0 e Q q =>
  h H0 e _ fun H1 e1 => ⟨a, xs, rfl, ex_l (e.trans e1) hx, fun Dl hD =>
    lc_it walk_enum (fun i H' => Cw H1 f w Dl i H') ⟨hD, Ex.new hD, upd_same⟩ (fun i H' _ p => ex_l ((e.trans e1).trans p.2.1) hx) (fun i v H' H'' hi p hy => by
      obtain ⟨t, x, y, rfl, ht', rfl, hxi, hyi⟩ := hy
      obtain rfl := (Option.some.inj hxi)
      have hDt : Dl ≠ t := ne_of_none p.2.2 ht'
      refine ⟨t, _, rfl, st_of upd_same, rfl, _, _, rfl, _, _, rfl, rfl, hw _ _, ?_⟩
      have p' : Cw H1 f w Dl i (upd H' t (.tup [.int (i : Nat), y])) := ⟨p.1, p.2.1.trans (Ex.new ht'), by rw [upd_ne hDt]; exact p.2.2⟩
      exact cw_turn p' (by omega) (ht i y H1 (e.trans e1) hyi) fun hf => he i y H1 (e.trans e1) hyi hf) (fun H' p => q Dl H' (fresh_back e1 p.1) (e1.trans p.2.1) p.2.2)⟩
/-- [(.., ..) for i in range(lo, hi)] -/
theorem pl_rg2 {j : Nat} {ws : List Nat} {lo hi : Int} {ps : List PI} (h : EvA tr σ H [.int lo, .int hi]) (h0 : 0 ≤ lo) (h1 : lo ≤ 100000) (h2 : 0 ≤ hi) (h3 : hi ≤ 100000) (hl : ps.length = (hi - lo).toNat) (hw : ∀ x, wipe ((wipe σ ws).set j (some x)) ws = wipe σ ws)
    (he : ∀ (i : Nat) (p : PI) H1, Ex H H1 → ps[i]? = some p → EvU te ((wipe σ ws).set j (some (.int (lo + (i : Int))))) H1 [.int p.1, .int p.2]) : EvX (tLc (iRng2 tr) (gName j) tYes te ws) σ H (PL K H ps) := fun H0 e Q q =>
  h H0 e _ fun H1 e1 => ⟨lo, hi, rfl, ⟨by omega, by omega, by omega, by omega⟩, fun Dl hD =>
    lc_it (walk_range (lo := lo) (n := (hi - lo).toNat)) (fun i H' => Ex H1 H' ∧ ∃ acc, H' Dl = some (.lst acc) ∧ acc.length = i ∧ Prs K H' acc (ps.take i)) ⟨Ex.new hD, [], upd_same, rfl, .nil⟩ (fun i H' _ p => trivial) (fun i v H' H'' hi' p hy => by
      obtain ⟨rfl, rfl⟩ := hy
      obtain ⟨p1, acc, p2, p3, p4⟩ := p
      have hlt : i < ps.length := by omega
      refine ⟨hw _, ?_⟩
      show te _ _ _
      refine he i ps[i] _ ((e.trans e1).trans p1) (List.getElem?_eq_getElem hlt) _ (Ex.refl _) _ fun u H3 hu e3 h3 => ?_
      have h3D := e3 _ _ p2
      refine ⟨acc, h3D, sz_lt (by omega), Ex.mut (p1.trans e3) hD, acc ++ [.ref u], upd_same, by rw [List.length_append, p3]; rfl, ?_⟩
      rw [List.take_add_one, List.getElem?_eq_getElem hlt]
      exact prs_upd h3D (Prs.snoc (p4.mono e3) ⟨u, rfl, h3⟩)) (fun H' p => by
      obtain ⟨p1, acc, p2, p3, p4⟩ := p
      rw [← hl, List.take_length] at p4
      exact q _ H' (e1.trans p1) ⟨Dl, acc, rfl, fresh_back (e.trans e1) hD, p2, p4⟩)⟩
/-- sorted of a new list of ints -/
theorem evx_sortI {ns : List Int} (h : EvL ta σ H (ns.map V.int)) (h64 : ns.length < 64) : EvX (tCB (rSorted K) (tCons ta tNil)) σ H (fun v H2 => ∃ (p : Addr) (ms : List Int), v = .ref p ∧ H2 p = some (.lst (ms.map V.int)) ∧ ms.Perm ns) := fun H1 e Q q =>
  h H1 e _ fun a H2 _ e2 h2 => ⟨a, ns, rfl, sq_of h2, h64, fun ms p hp _ hn => q (.ref p) _ (e2.trans (Ex.new hn)) ⟨p, ms, rfl, upd_same, hp⟩⟩
end
end FzL

/-! A loop over range(n) where tables grow; triples; small lists. -/
namespace FzL
open PySem PySem.Spec PyProof.Rows L2 Evl Fz Fz.Tr LamX
section
variable {K : PySem.W.Frag} {σ : L2.St} {H H' : Hp} {ta tb tc td te ti tl : TE} {tr : TA} {D : Ends} {tu tz : TS} {l : Addr} {u v x y z : V} {xs ys : List V} {T : List (Addr × Str)} {P : V → Hp → Prop}
theorem s_forRg {n j : Nat} (h : EvA tr σ H [.int (n : Int)]) (hn : n ≤ 100000) (hT : Tabs T H) (Pv : L2.St → Hp → Prop) (h0 : ∀ H1, ExtN H H1 → Tabs T H1 → Pv σ H1)
    (hs : ∀ (B : Hp) (i : Nat) (σ' : L2.St) (H' : Hp), ExtN H B → i < n → ExtN B H' → Tabs T H' → Pv σ' H' → tu { D with nx := fun σ2 H2 => ExtN B H2 ∧ Tabs T H2 ∧ Pv σ2 H2, ct := fun σ2 H2 => ExtN B H2 ∧ Tabs T H2 ∧ Pv σ2 H2, bk := D.nx } (σ'.set j (some (.int (i : Int)))) H')
    (hd : ∀ σ' H', ExtN H H' → Tabs T H' → Pv σ' H' → D.nx σ' H') : tFor (iRng1 tr) (gName j) tu D σ H :=
  h H (Ex.refl H) _ fun H1 e1 => ⟨(n : Int), rfl, by omega, by omega, by
    rw [Int.toNat_natCast]
    refine for_it (walk_range (lo := 0) (n := n)) (fun i σ' H' => ExtN H1 H' ∧ Tabs T H' ∧ Pv σ' H') ⟨ExtN.refl _, hT.ext e1, h0 _ (exn_of e1) (hT.ext e1)⟩ (fun i σ' H' _ _ => trivial) ?_ (fun σ' H' ⟨q1, q2, q3⟩ => hd σ' H' ((exn_of e1).trans q1) q2 q3)
    rintro i v σ' H' H'' hi ⟨q1, q2, q3⟩ ⟨rfl, rfl⟩
    have e0 : (0 : Int) + (i : Int) = (i : Int) := Int.zero_add _
    show tu _ (σ'.set j (some (.int ((0 : Int) + (i : Int))))) _
    rw [e0]
    exact hs H1 i σ' _ (exn_of e1) hi q1 q2 q3⟩
theorem cutV_init (xs : List V) : cutV xs none (some (-1)) = xs.take (xs.length - 1) := by
  unfold cutV
  have : HT.sIx xs.length xs.length (some (-1)) = xs.length - 1 := by
    unfold HT.sIx
    simp
    omega
  rw [this, HT.sIx_none, List.drop_zero, Nat.sub_zero]
/-- a row, cuts, a word -/
def TrC (K : PySem.W.Frag) (H : Hp) (v : V) (t : List Int × List PI × Bool) : Prop := ∃ tt a l vs, v = .ref tt ∧ H tt = some (.tup [.ref a, .ref l, .bl t.2.2]) ∧ H a = some (.lst (t.1.map V.int)) ∧ H l = some (.lst vs) ∧ Prs K H vs t.2.1
def TrE (H : Hp) (v : V) (t : List Int × List Int × Bool) : Prop := ∃ tt a l, v = .ref tt ∧ H tt = some (.tup [.ref a, .ref l, .bl t.2.2]) ∧ H a = some (.lst (t.1.map V.int)) ∧ H l = some (.lst (t.2.1.map V.int))
theorem kTrC : Kept (TrC K) := fun _ _ _ _ e ⟨tt, a, l, vs, h1, h2, h3, h4, h5⟩ => ⟨tt, a, l, vs, h1, exn_tup e h2, exn_lst e h3, exn_lst e h4, exn_prs e h5⟩
theorem kTrE : Kept TrE := fun _ _ _ _ e ⟨tt, a, l, h1, h2, h3, h4⟩ => ⟨tt, a, l, h1, exn_tup e h2, exn_lst e h3, exn_lst e h4⟩
theorem trc {ms : List Int} {ps : List PI} {b : Bool} (h1 : EvL ta σ H (ms.map V.int)) (h2 : ∀ H1, Ex H H1 → EvX tb σ H1 (PL K H1 ps)) : EvX (tTup (tCons ta (tCons tb (tCons (tC (.bl b)) tNil)))) σ H (fun v H2 => TrC K H2 v (ms, ps, b)) := fun H1 e Q q =>
  h1 H1 e _ fun a H2 _ e2 f2 => h2 H2 (e.trans e2) H2 (Ex.refl H2) _ fun v H3 e3 ⟨l, vs, hv, _, hl, hp⟩ => by
    subst hv
    exact ⟨sz_of (show 3 ≤ 100000 by decide), fun p hp' => q _ _ ((e2.trans e3).trans (Ex.new hp')) ⟨p, a, l, vs, rfl, upd_same, Ex.new hp' _ _ (e3 _ _ f2), Ex.new hp' _ _ hl, hp.mono (Ex.new hp')⟩⟩
theorem tre {ms es : List Int} {b : Bool} (h1 : EvL ta σ H (ms.map V.int)) (h2 : ∀ H1, Ex H H1 → EvL tb σ H1 (es.map V.int)) : EvX (tTup (tCons ta (tCons tb (tCons (tC (.bl b)) tNil)))) σ H (fun v H2 => TrE H2 v (ms, es, b)) := fun H1 e Q q =>
  h1 H1 e _ fun a H2 _ e2 f2 => h2 H2 (e.trans e2) H2 (Ex.refl H2) _ fun l H3 _ e3 f3 =>
    ⟨sz_of (show 3 ≤ 100000 by decide), fun p hp' => q _ _ ((e2.trans e3).trans (Ex.new hp')) ⟨p, a, l, rfl, upd_same, Ex.new hp' _ _ (e3 _ _ f2), Ex.new hp' _ _ f3⟩⟩
/-- the literals -/
theorem li1 {a : Int} : EvL (tLst (tCons (tC (.int a)) tNil)) σ H ([a].map V.int) := el_lst (ea_cons ev_c ea_nil) (by show 1 ≤ 100000; decide)
theorem li2 {a b : Int} : EvL (tLst (tCons (tC (.int a)) (tCons (tC (.int b)) tNil))) σ H ([a, b].map V.int) := el_lst (ea_cons ev_c <| ea_cons ev_c ea_nil) (by show 2 ≤ 100000; decide)
theorem li3 {a b c : Int} : EvL (tLst (tCons (tC (.int a)) (tCons (tC (.int b)) (tCons (tC (.int c)) tNil)))) σ H ([a, b, c].map V.int) := el_lst (ea_cons ev_c <| ea_cons ev_c <| ea_cons ev_c ea_nil) (by show 3 ≤ 100000; decide)
theorem li4 {a b c d : Int} : EvL (tLst (tCons (tC (.int a)) (tCons (tC (.int b)) (tCons (tC (.int c)) (tCons (tC (.int d)) tNil))))) σ H ([a, b, c, d].map V.int) := el_lst (ea_cons ev_c <| ea_cons ev_c <| ea_cons ev_c <| ea_cons ev_c ea_nil) (by show 4 ≤ 100000; decide)
theorem tp2 {a b : Int} : EvU (tTup (tCons (tC (.int a)) (tCons (tC (.int b)) tNil))) σ H [.int a, .int b] := eu_tup (ea_cons ev_c <| ea_cons ev_c ea_nil) (by show 2 ≤ 100000; decide)
theorem lp1 {a b : Int} : EvX (tLst (tCons (tTup (tCons (tC (.int a)) (tCons (tC (.int b)) tNil))) tNil)) σ H (PL K H [(a, b)]) := pl_one tp2
theorem lp3 {a b c d i j : Int} : EvX (tLst (tCons (tTup (tCons (tC (.int a)) (tCons (tC (.int b)) tNil))) (tCons (tTup (tCons (tC (.int c)) (tCons (tC (.int d)) tNil))) (tCons (tTup (tCons (tC (.int i)) (tCons (tC (.int j)) tNil))) tNil)))) σ H (PL K H [(a, b), (c, d), (i, j)]) :=
  gl_pl (gl_lst kPr (gs_cons kPr (gpr tp2) <| gs_cons kPr (gpr tp2) <| gs_cons kPr (gpr tp2) gs_nil) (by show 3 ≤ 100000; decide))
/-- f(a, b, (..)) -/
theorem evx_callVVU {sp : Sp} {E : XK} {xs : List V} (h1 : Ev ta σ H u) (h2 : Ev tb σ H v) (h3 : EvU tc σ H xs) (hs : ∀ p H1, Ex H H1 → H p = none → H1 p = some (.tup xs) → SpX sp ([u, v, .ref p] ++ []) H1 P) : EvX (tCall sp [] E (tCons ta (tCons tb (tCons tc tNil)))) σ H P := fun H1 e Q q =>
  h1 H1 e _ fun H2 e2 => h2 H2 (e.trans e2) _ fun H3 e3 => h3 H3 ((e.trans e2).trans e3) _ fun p H4 hp e4 h4 => hs p H4 (((e.trans e2).trans e3).trans e4) (fresh_back ((e.trans e2).trans e3) hp) h4 H4 (Ex.refl H4) Q (fun w H5 e5 pw => q w H5 (((e2.trans e3).trans e4).trans e5) pw) E
end
end FzL

/-! Tables: lists of new lists of ints. -/
namespace FzL
open PySem PySem.Spec PyProof.Rows L2 Evl Fz Fz.Tr LamX
def dRows (mss : List (List Int)) : PyData := .list (mss.map dInts)
theorem eqvAll_rows : ∀ xs ys : List (List Int), PyData.eqvAll (xs.map dInts) (ys.map dInts) = decide (xs = ys)
  | [], [] => by simp [PyData.eqvAll]
  | [], _ :: _ => by simp [PyData.eqvAll]
  | _ :: _, [] => by simp [PyData.eqvAll]
  | n :: ns, m :: ms => by
    rw [List.map_cons, List.map_cons, PyData.eqvAll, eqvAll_rows ns ms, eqv_ints, Bool.eq_iff_iff]
    simp
theorem eqv_rows (xs ys : List (List Int)) : PyData.eqv (dRows xs) (dRows ys) = decide (xs = ys) := by
  unfold dRows
  rw [PyData.eqv, eqvAll_rows]
theorem can_rows : ∀ xs : List (List Int), PyData.canLayAll0 (xs.map dInts) = true
  | [] => by simp [PyData.canLayAll0]
  | n :: ns => by
    rw [List.map_cons, PyData.canLayAll0, can_rows ns]
    unfold dInts
    rw [PyData.canLay0, can_ints]
    rfl
theorem dep_rows : ∀ xs : List (List Int), PyData.depthAll (xs.map dInts) ≤ 1
  | [] => by simp [PyData.depthAll]
  | n :: ns => by
    rw [List.map_cons, PyData.depthAll]
    have := dep_rows ns
    unfold dInts at *
    rw [PyData.depth, dep_ints]
    omega
theorem shaped_rows (xs : List (List Int)) : SeqAt.shaped (dRows xs) = true := by
  unfold SeqAt.shaped dRows
  rw [PyData.canLay0, can_rows, PyData.depth]
  have := dep_rows xs
  rw [decide_eq_true (by omega)]
  rfl
/-- lists at b, each of its ints -/
def Tbl (H : Hp) (bs : List Addr) (mss : List (List Int)) : Prop := Paired (fun b ms => H b = some (.lst (ms.map V.int))) bs mss
section
variable {K : PySem.W.Frag} {σ : L2.St} {H H' : Hp} {ta tb tc te ti tl : TE} {tr : TA} {D : Ends} {tu tz : TS} {l : Addr} {bs : List Addr} {mss : List (List Int)}
theorem Tbl.mono (e : Ex H H') (h : Tbl H bs mss) : Tbl H' bs mss := Paired.mapP h fun _ _ q => e _ _ q
theorem Tbl.len (h : Tbl H bs mss) : bs.length = mss.length := Paired.length h
theorem Tbl.get : ∀ {bs : List Addr} {mss : List (List Int)}, Tbl H bs mss → ∀ {i : Nat}, i < mss.length → ∃ b, bs[i]? = some b ∧ H b = some (.lst ((mss.getD i []).map V.int))
  | _, _, .nil, i, h => absurd h (Nat.not_lt_zero _)
  | b :: _, _, .cons p q, 0, h => ⟨b, rfl, p⟩
  | _, _, .cons p q, i + 1, h => by
    obtain ⟨b, h1, h2⟩ := Tbl.get q (i := i) (by simpa using h)
    exact ⟨b, by simpa using h1, by simpa using h2⟩
theorem Tbl.snoc {b : Addr} {ms : List Int} (h : Tbl H bs mss) (hb : H b = some (.lst (ms.map V.int))) : Tbl H (bs ++ [b]) (mss ++ [ms]) := Paired.snoc h hb
theorem Tbl.keep {p : Addr} {o : HO} (hp : ∀ b ∈ bs, b ≠ p) (h : Tbl H bs mss) : Tbl (upd H p o) bs mss := by
  induction h with
  | nil => exact .nil
  | cons a _ ih => exact .cons (by rw [upd_ne (hp _ (List.mem_cons_self ..))]; exact a) (ih fun b hb => hp b (List.mem_cons_of_mem _ hb))
theorem Tbl.drop : ∀ (n : Nat) {bs : List Addr} {mss : List (List Int)}, Tbl H bs mss → Tbl H (bs.drop n) (mss.drop n)
  | 0, _, _, h => h
  | n + 1, _, _, .nil => .nil
  | n + 1, _, _, .cons a b => Tbl.drop n b
theorem dpall_rows : ∀ {bs : List Addr} {mss : List (List Int)}, Tbl H bs mss → DpAll K H (bs.map V.ref) (mss.map dInts)
  | _, _, .nil => .nil
  | _, _, .cons a b => .cons (dp_ints (sq_of a)) (dpall_rows b)
theorem dp_rows {a : Addr} (h : SqL K H a (bs.map V.ref)) (hp : Tbl H bs mss) : Dp K H (.ref a) (dRows mss) := .lst h (dpall_rows hp)
/-- a new table: all its lists new, none twice -/
def NT (H : Hp) (mss : List (List Int)) : V → Hp → Prop := fun y H2 => ∃ (p : Addr) (bs : List Addr), y = .ref p ∧ H p = none ∧ H2 p = some (.lst (bs.map V.ref)) ∧ (∀ b ∈ bs, H b = none ∧ b ≠ p) ∧ bs.Nodup ∧ Tbl H2 bs mss
/-- [f(i) for i in range(n)], f(i) a new list of ints -/
theorem nt_rg {j n : Nat} {ws : List Nat} (h : EvA tr σ H [.int (n : Int)]) (hn : n ≤ 100000) (hl : mss.length = n) (hw : ∀ x, wipe ((wipe σ ws).set j (some x)) ws = wipe σ ws)
    (he : ∀ (i : Nat) H1, Ex H H1 → i < n → EvL te ((wipe σ ws).set j (some (.int (i : Int)))) H1 ((mss.getD i []).map V.int)) : EvX (tLc (iRng1 tr) (gName j) tYes te ws) σ H (NT H mss) := fun H0 e Q q =>
  h H0 e _ fun H1 e1 => ⟨(n : Int), rfl, by omega, by omega, fun Dl hD => by
    rw [Int.toNat_natCast]
    refine lc_it (walk_range (lo := 0) (n := n)) (fun i H' => Ex H1 H' ∧ ∃ bs : List Addr, H' Dl = some (.lst (bs.map V.ref)) ∧ bs.length = i ∧ (∀ b ∈ bs, H1 b = none ∧ b ≠ Dl) ∧ bs.Nodup ∧ Tbl H' bs (mss.take i)) ⟨Ex.new hD, [], upd_same, rfl, (fun b hb => nomatch hb), List.nodup_nil, .nil⟩ (fun i H' _ p => trivial) (fun i v H' H'' hi' p hy => ?_) (fun H' p => ?_)
    · obtain ⟨rfl, rfl⟩ := hy
      obtain ⟨p1, bs, p2, p3, p4, p5, p6⟩ := p
      have e0 : (0 : Int) + (i : Int) = (i : Int) := Int.zero_add _
      have hee := he i _ ((e.trans e1).trans p1) hi'
      rw [← e0] at hee
      refine ⟨hw _, ?_⟩
      show te _ _ _
      refine hee _ (Ex.refl _) _ fun u H3 hu e3 h3 => ?_
      have h3D := e3 _ _ p2
      have huD : u ≠ Dl := (ne_of_none p2 hu).symm
      have hub : u ∉ bs := fun hm => by
        obtain ⟨k, hk⟩ := List.mem_iff_getElem?.mp hm
        have hkl : k < (mss.take i).length := by
          rw [← p6.len]
          exact (List.getElem?_eq_some_iff.mp hk).1
        obtain ⟨b', hb', hH'⟩ := p6.get hkl
        rw [hk] at hb'
        rw [Option.some.inj hb'] at hu
        rw [hu] at hH'
        cases hH'
      refine ⟨bs.map V.ref, h3D, sz_lt (by rw [List.length_map]; omega), Ex.mut (p1.trans e3) hD, bs ++ [u], by rw [upd_same, List.map_append]; rfl, by rw [List.length_append, p3]; rfl, fun b hb => ?_, ?_, ?_⟩
      · rcases List.mem_append.mp hb with q | q
        · exact p4 b q
        · rw [List.mem_singleton.mp q]
          exact ⟨fresh_back p1 hu, huD⟩
      · rw [List.nodup_append]
        exact ⟨p5, by simp, fun x hx y hy => fun exy => hub (by rw [← List.mem_singleton.mp hy, ← exy]; exact hx)⟩
      · have hlt : i < mss.length := by omega
        rw [List.take_add_one, List.getElem?_eq_getElem hlt]
        refine Tbl.keep (fun b hb => ?_) (Tbl.snoc (p6.mono e3) (ms := mss[i]) ?_)
        · rcases List.mem_append.mp hb with q | q
          · exact (p4 b q).2
          · rw [List.mem_singleton.mp q]
            exact huD
        · rw [h3, List.getD_eq_getElem?_getD, List.getElem?_eq_getElem hlt]
          rfl
    · obtain ⟨p1, bs, p2, p3, p4, p5, p6⟩ := p
      rw [← hl, List.take_length] at p6
      exact q _ H' (e1.trans p1) ⟨Dl, bs, rfl, fresh_back (e.trans e1) hD, p2, fun b hb => ⟨fresh_back (e.trans e1) (p4 b hb).1, (p4 b hb).2⟩, p5, p6⟩⟩
theorem ixN_m2 {n : Nat} (h : 2 ≤ n) : ixN n (-2) = some (n - 2) := by
  unfold ixN
  rw [if_neg (by omega), if_pos (by omega)]
  congr 1
  omega
end
theorem bw_getD (ns : List Int) (c : Nat) {k i : Nat} (h : i < k) : ((List.range k).map (btw ns c)).getD i 0 = btw ns c i := by
  rw [List.getD_eq_getElem?_getD, List.getElem?_map, List.getElem?_range h]
  rfl
theorem bw_len (ns : List Int) (c k : Nat) : ((List.range k).map (btw ns c)).length = k := by rw [List.length_map, List.length_range]
end FzL

/-! Marks: a dict whose keys are pairs; loops over ranges by the turn. -/
namespace FzL
open PySem PySem.Spec PyProof.Rows L2 Evl Fz Fz.Tr LamX
def kk (p : PI) : List Key := [.inl p.1, .inl p.2]
theorem kk_inj {p q : PI} : kk p = kk q ↔ p = q := by
  unfold kk
  constructor
  · intro h
    injection h with h1 h2
    injection h1 with h1
    injection h2 with h2 _
    injection h2 with h2
    cases p
    cases q
    simp only at h1 h2
    rw [h1, h2]
  · intro h
    rw [h]
/-- marks at a: just the pairs of ps -/
def Mrk (H : Hp) (a : Addr) (ps : List PI) : Prop := ∃ kvs : List (List Key × V), H a = some (.dT kvs) ∧ kvs.length ≤ ps.length ∧ ∀ q : PI, (valV kvs (kk q)).isSome = decide (q ∈ ps)
theorem put_len {kvs : List (List Key × V)} {k : List Key} {v : V} : (putK kvs k v).length ≤ kvs.length + 1 := by
  unfold putK
  split
  · rw [List.length_map]
    omega
  · rw [List.length_append]
    exact Nat.le_refl _
section
variable {K : PySem.W.Frag} {σ : L2.St} {H H' : Hp} {ta tb tc te ti tl td ty tv : TE} {tr : TA} {D : Ends} {tu tz : TS} {l a : Addr} {ps : List PI} {v : V}
theorem Mrk.mono (e : Ex H H') (h : Mrk H a ps) : Mrk H' a ps := by
  obtain ⟨kvs, h1, h2, h3⟩ := h
  exact ⟨kvs, e _ _ h1, h2, h3⟩
theorem mrk_exn (e : ExtN H H') (h : Mrk H a ps) : Mrk H' a ps := by
  obtain ⟨kvs, h1, h2, h3⟩ := h
  exact ⟨kvs, e _ _ h1 (fun _ q => nomatch q), h2, h3⟩
/-- d[p] = v, p a pair -/
theorem s_mark {t : Addr} {p : PI} (hm : Mrk H a ps) (hz : ps.length < 100000) (hv : Ev tv σ H v) (hd : Ev td σ H (.ref a)) (hy : Ev ty σ H (.ref t)) (ht : H t = some (.tup [.int p.1, .int p.2])) (k : ∀ H1 o, Ex H H1 → Mrk (upd H1 a o) a (ps ++ [p]) → D.nx σ (upd H1 a o)) : sDPut td ty tv D σ H :=
  hv H (Ex.refl H) _ fun H1 e1 => hd H1 e1 _ fun H2 e2 => hy H2 (e1.trans e2) _ fun H3 e3 => by
    have ee := (e1.trans e2).trans e3
    obtain ⟨kvs, h1, h2, h3⟩ := hm
    refine ⟨a, _, rfl, DPut.t (k := kk p) (ee _ _ h1) (ee _ _ ht) (sz_lt (by omega)), k H3 _ ee ⟨_, upd_same, ?_, fun q => ?_⟩⟩
    · have := put_len (kvs := kvs) (k := kk p) (v := v)
      rw [List.length_append, List.length_singleton]
      omega
    · rw [valV_put]
      by_cases hq : kk q = kk p
      · rw [if_pos hq, kk_inj.mp hq]
        simp
      · rw [if_neg hq, h3]
        refine decide_eq_decide.mpr ⟨fun z => List.mem_append_left _ z, fun z => ?_⟩
        rcases List.mem_append.mp z with z | z
        · exact z
        · exact absurd (kk_inj.mpr (List.mem_singleton.mp z)) hq
/-- (i, j) in d -/
theorem ev_inMk {i j : Int} (hm : Mrk H a ps) (hu : EvU ty σ H [.int i, .int j]) (hd : ∀ H1, Ex H H1 → Ev td σ H1 (.ref a)) : Ev (tDIn ty td) σ H (.bl (decide ((i, j) ∈ ps))) := fun H0 e Q q =>
  hu H0 e _ fun t H1 _ e1 h1 => hd H1 (e.trans e1) H1 (Ex.refl H1) _ fun H2 e2 => by
    obtain ⟨kvs, g1, g2, g3⟩ := hm
    have hb : (valV kvs (kk (i, j))).isSome = decide ((i, j) ∈ ps) := g3 (i, j)
    refine ⟨a, valV kvs (kk (i, j)), rfl, DGet.t (k := kk (i, j)) (((e.trans e1).trans e2) _ _ g1) (e2 _ _ h1), ?_⟩
    rw [hb]
    exact q H2 (e1.trans e2)
/-- for i in range(n), by the turn -/
theorem s_forI {n j : Nat} (h : EvA tr σ H [.int (n : Int)]) (hn : n ≤ 100000) (Pv : Nat → L2.St → Hp → Prop) (h0 : ∀ H1, Ex H H1 → Pv 0 σ H1) (hs : ∀ i σ' H', i < n → Pv i σ' H' → tu { D with nx := Pv (i + 1), ct := Pv (i + 1), bk := D.nx } (σ'.set j (some (.int (i : Int)))) H')
    (hd : ∀ σ' H', Pv n σ' H' → D.nx σ' H') : tFor (iRng1 tr) (gName j) tu D σ H :=
  h H (Ex.refl H) _ fun H1 e1 => ⟨(n : Int), rfl, by omega, by omega, by
    rw [Int.toNat_natCast]
    refine for_it (walk_range (lo := 0) (n := n)) Pv (h0 H1 e1) (fun i σ' H' _ _ => trivial) ?_ hd
    rintro i v σ' H' H'' hi p ⟨rfl, rfl⟩
    have e0 : (0 : Int) + (i : Int) = (i : Int) := Int.zero_add _
    show tu _ (σ'.set j (some (.int ((0 : Int) + (i : Int))))) _
    rw [e0]
    exact hs i σ' _ hi p⟩
theorem q_forI {n j : Nat} (h : EvA tr σ H [.int (n : Int)]) (hn : n ≤ 100000) (Pv : Nat → L2.St → Hp → Prop) (h0 : ∀ H1, Ex H H1 → Pv 0 σ H1) (hs : ∀ i σ' H', i < n → Pv i σ' H' → tu { D with nx := Pv (i + 1), ct := Pv (i + 1), bk := tz D } (σ'.set j (some (.int (i : Int)))) H')
    (hd : ∀ σ' H', Pv n σ' H' → tz D σ' H') : tSeq (tFor (iRng1 tr) (gName j) tu) tz D σ H := s_forI (D := { D with nx := tz D }) h hn Pv h0 hs hd
/-- for i in range(1, n) -/
theorem q_forI1 {n j : Nat} (h : EvA tr σ H [.int 1, .int (n : Int)]) (hn : n ≤ 100000) (Pv : L2.St → Hp → Prop) (h0 : ∀ H1, Ex H H1 → Pv σ H1) (hs : ∀ i σ' H', 1 ≤ i → i < n → Pv σ' H' → tu { D with nx := Pv, ct := Pv, bk := tz D } (σ'.set j (some (.int (i : Int)))) H')
    (hd : ∀ σ' H', Pv σ' H' → tz D σ' H') : tSeq (tFor (iRng2 tr) (gName j) tu) tz D σ H :=
  h H (Ex.refl H) _ fun H1 e1 => ⟨1, (n : Int), rfl, ⟨by omega, by omega, by omega, by omega⟩, by
    refine for_it (D := { D with nx := tz D }) (walk_range (lo := 1) (n := ((n : Int) - 1).toNat)) (fun _ => Pv) (h0 H1 e1) (fun i σ' H' _ _ => trivial) ?_ hd
    rintro i v σ' H' H'' hi p ⟨rfl, rfl⟩
    have e0 : (1 : Int) + (i : Int) = ((i + 1 : Nat) : Int) := by omega
    show tu _ (σ'.set j (some (.int ((1 : Int) + (i : Int))))) _
    rw [e0]
    exact hs (i + 1) σ' _ (by omega) (by omega) p⟩
/-- sorted of a new list of ints, with their order -/
theorem evx_sortO {ns : List Int} (h : EvL ta σ H (ns.map V.int)) (h64 : ns.length < 64) : EvX (tCB (rSorted K) (tCons ta tNil)) σ H (fun v H2 => ∃ (p : Addr) (ms : List Int), v = .ref p ∧ H2 p = some (.lst (ms.map V.int)) ∧ ms.Perm ns ∧ ms.Pairwise (· ≤ ·)) := fun H1 e Q q =>
  h H1 e _ fun a H2 _ e2 h2 => ⟨a, ns, rfl, sq_of h2, h64, fun ms p hp ho hn => q (.ref p) _ (e2.trans (Ex.new hn)) ⟨p, ms, rfl, upd_same, hp, ho⟩⟩
theorem evx_sortV {ns : List Int} {l : Addr} (h : Ev ta σ H (.ref l)) (hl : SqL K H l (ns.map V.int)) (h64 : ns.length < 64) : EvX (tCB (rSorted K) (tCons ta tNil)) σ H (fun v H2 => ∃ (p : Addr) (ms : List Int), v = .ref p ∧ H2 p = some (.lst (ms.map V.int)) ∧ ms.Perm ns ∧ ms.Pairwise (· ≤ ·)) := fun H1 e Q q =>
  h H1 e _ fun H2 e2 => ⟨l, ns, rfl, ex_l (e.trans e2) hl, h64, fun ms p hp ho hn => q (.ref p) _ (e2.trans (Ex.new hn)) ⟨p, ms, rfl, upd_same, hp, ho⟩⟩
end
end FzL

/-! [x for x in ps if ..], ps pairs. -/
namespace FzL
open PySem PySem.Spec PyProof.Rows L2 Evl Fz Fz.Tr LamX
section
variable {K : PySem.W.Frag} {σ : L2.St} {H H' : Hp} {tl te : TE} {tt : TT}
theorem pl_filter {a : Addr} {xs : List V} {ps : List PI} {j : Nat} {ws : List Nat} (g : PI → Bool) (h : Ev tl σ H (.ref a)) (hx : SqL K H a xs) (hp : Prs K H xs ps) (hz : ps.length ≤ 40000) (hw : ∀ x, wipe ((wipe σ ws).set j (some x)) ws = wipe σ ws)
    (ht : ∀ (x : V) (p : PI) H1, Ex H H1 → Pr K H1 x p → EvT tt ((wipe σ ws).set j (some x)) H1 (g p)) (he : ∀ (x : V) (p : PI) H1, Ex H H1 → Pr K H1 x p → Ev te ((wipe σ ws).set j (some x)) H1 x) : EvX (tLc (iList K tl) (gName j) tt te ws) σ H (PL K H (ps.filter g)) := fun H0 e Q q =>
  h H0 e _ fun H1 e1 => ⟨a, rfl, ⟨xs, ex_l (e.trans e1) hx⟩, fun Dl hD => by
    have hlen := hp.len
    refine lc_it (walk_list (K := K) (a := a) (xs := xs)) (fun i H' => Ex H1 H' ∧ ∃ acc, H' Dl = some (.lst acc) ∧ acc.length ≤ i ∧ Prs K H' acc ((ps.take i).filter g)) ⟨Ex.new hD, [], upd_same, Nat.le_refl _, .nil⟩ (fun i H' _ p => ex_l ((e.trans e1).trans p.1) hx) (fun i v H' H'' hi p hy => ?_) (fun H' p => ?_)
    · obtain ⟨rfl, hyi⟩ := hy
      obtain ⟨p1, acc, p2, p3, p4⟩ := p
      obtain ⟨pp, hpi, hpr⟩ := (hp.mono ((e.trans e1).trans p1)).get hyi
      refine ⟨hw _, ?_⟩
      have htk : (ps.take (i + 1)).filter g = (ps.take i).filter g ++ (if g pp = true then [pp] else []) := by
        rw [List.take_add_one, hpi, List.filter_append]
        congr 1
        by_cases hg : g pp = true
        · rw [if_pos hg]
          simp [hg]
        · rw [if_neg hg]
          simp [hg]
      refine ht v pp _ ((e.trans e1).trans p1) hpr _ (Ex.refl _) _ fun H3 e3 => ?_
      cases hg : g pp with
      | true =>
        refine iteT ?_
        refine he v pp H3 (((e.trans e1).trans p1).trans e3) (hpr.mono e3) H3 (Ex.refl _) _ fun H4 e4 => ?_
        have h4D := e4 _ _ (e3 _ _ p2)
        refine ⟨acc, h4D, sz_lt (by omega), Ex.mut ((p1.trans e3).trans e4) hD, acc ++ [v], upd_same, by rw [List.length_append, List.length_singleton]; omega, ?_⟩
        rw [htk, if_pos hg]
        exact prs_upd h4D (Prs.snoc (p4.mono (e3.trans e4)) (hpr.mono (e3.trans e4)))
      | false =>
        refine iteF ?_
        refine ⟨p1.trans e3, acc, e3 _ _ p2, by omega, ?_⟩
        rw [htk, if_neg (by rw [hg]; decide), List.append_nil]
        exact p4.mono e3
    · obtain ⟨p1, acc, p2, p3, p4⟩ := p
      rw [hlen, List.take_length] at p4
      exact q _ H' (e1.trans p1) ⟨Dl, acc, rfl, fresh_back (e.trans e1) hD, p2, p4⟩⟩

end
end FzL

/-! {} != [..]. -/
namespace FzL
open PySem PySem.Spec PyProof.Rows PySem.SeqAt AutoSeq1 MeetsSeq
theorem dict_ne_list (l b : Addr) (es : Array DictEntry) (ep : Nat) (items2 : Array Value) (n2 : Nat) (dd dd2 : Option Addr) (sl sl2 : Array (Option Value)) :
    Meets (Builtin.«dict.__ne__» ⟨[.ref l, .ref b], []⟩) (fun _ R s => s.heap.get? l = some { cls := .type "dict", dict := dd, data := .dict es ep, slots := sl } ∧ s.heap.get? b = some { cls := .type "list", dict := dd2, data := .seq items2 n2, slots := sl2 } ∧ R (.ok (.ret .notImplemented)) s) :=
  .of_wp fun prog w A R s h => by
    obtain ⟨hp, g, d, tk, os⟩ := s
    obtain ⟨hl, hb, h⟩ := h
    have f1 := PySem.F.sub_list_dict
    wp_walk using wpAny_loadPart' hl, wpAny_loadPart' hb
    exact ⟨_, rfl, h⟩
theorem list_ne_dict (l b : Addr) (es : Array DictEntry) (ep : Nat) (items2 : Array Value) (n2 : Nat) (dd dd2 : Option Addr) (sl sl2 : Array (Option Value)) :
    Meets (Builtin.«list.__ne__» ⟨[.ref l, .ref b], []⟩) (fun _ R s => s.heap.get? l = some { cls := .type "list", dict := dd2, data := .seq items2 n2, slots := sl2 } ∧ s.heap.get? b = some { cls := .type "dict", dict := dd, data := .dict es ep, slots := sl } ∧ R (.ok (.ret .notImplemented)) s) :=
  .of_wp fun prog w A R s h => by
    obtain ⟨hp, g, d, tk, os⟩ := s
    obtain ⟨hl, hb, h⟩ := h
    have f1 := PySem.F.sub_dict_list
    wp_walk using wpAny_loadPart' hl, wpAny_loadPart' hb
    exact ⟨_, rfl, h⟩
theorem rcne_dict_list {A : Around} {s : Shared} {l b : Addr} {o : Obj} {es : Array DictEntry} {ep : Nat} {items2 : Array Value} (ho : s.heap.get? l = some o) (hx : o.ExactDict) (hd : o.data = .dict es ep) (hb : s.heap.IsList b items2) (hu : A.units < cLine) : RcNeAt A s (.ref l) (.ref b) true := fun prog w E Q h => by
  obtain ⟨⟨cls2, dd2, data2, sl2⟩, ho2, hc2, n2, hd2⟩ := id hb
  obtain ⟨cls, dd, data, sl⟩ := o
  obtain ⟨hc, h1, h2⟩ := hx
  simp only at hc hd hc2 hd2
  subst hc hd hc2 hd2
  have hne : l ≠ b := fun e => by
    subst e
    rw [ho] at ho2
    have z2 := congrArg Obj.cls (Option.some.inj ho2)
    exact absurd z2 (by simp)
  exact (rc_ne_decline_or (k := false) ⟨_, ho, rfl⟩ ⟨_, ho2, rfl⟩ (by decide) PySem.F.sub_list_dict PySem.F.slot_dict_ne PySem.F.slot_list_ne_refl
    (fun _ hq => call_meets PySem.F.slot_dict_ne ⟨_, ho, rfl⟩ PySem.F.entry_dict_ne (PySem.F.args_dict_ne_2 _ _) (dict_ne_list l b es ep items2 n2 dd dd2 sl sl2) ⟨ho, ho2, hq⟩)
    (fun _ hq => call_meets PySem.F.slot_list_ne_refl ⟨_, ho2, rfl⟩ PySem.F.entry_list_ne (PySem.F.args_list_ne_2 _ _) (list_ne_dict b l es ep items2 n2 dd dd2 sl sl2) ⟨ho2, ho, hq⟩)
    (fun _ hq => wpAny_isSame_ref_other' hne ho ho2 (by simp) hq) (.inr hu) h)
end FzL
namespace FzL
open PySem PySem.Spec PyProof.Rows L2 Evl Fz Fz.Tr LamX
/-- a != b: data, or a dict against a list -/
def rNeA (K : PySem.W.Frag) : R2 := fun x y H Q => rNeD K x y H Q ∨ ∃ (a b : Addr) (kvs : List (Key × V)) (ys : List V), x = .ref a ∧ y = .ref b ∧ H a = some (.dK kvs) ∧ SqL K H b ys ∧ Q (.bl true) H
theorem op_neA {X : Cx} (hu : X.A.units + 64 < cLine) : OpR X (compareOp .NotEq) (rNeA X.K) := by
  intro pins s σ H x y v u Q I rx ry h
  rcases h with h | ⟨a, b, kvs, ys, rfl, rfl, ha, hb, q⟩
  · exact op_neD hu pins s σ H x y v u Q I rx ry h
  · cases rx
    cases ry
    obtain ⟨_, _, vs, _, o, es, ep, e1, e2, e3, _⟩ := I.hok a _ ha
    obtain ⟨its, r, pl, hz⟩ := I.list hb
    exact rcne_dict_list e1 e2 e3 pl.isList (by omega) X.prog X.w _ _ ⟨.bl true, H, I, rfl, q⟩
section
variable {K : PySem.W.Frag} {H : Hp} {x y z : V}
theorem rv_neA (h : RV (rNeD K) x y H z) : RV (rNeA K) x y H z := fun H1 e Q q => .inl (h H1 e Q q)
theorem rv_neDict {a b : Addr} {kvs : List (Key × V)} {ys : List V} (ha : H a = some (.dK kvs)) (hb : SqL K H b ys) : RV (rNeA K) (.ref a) (.ref b) H (.bl true) := fun H1 e Q q => .inr ⟨a, b, kvs, ys, rfl, rfl, e _ _ ha, ex_l e hb, q H1 (Ex.refl H1)⟩
end
end FzL

/-! Defs that raise; a def that a slot holds; what is raised handed to a def within the suite. -/
namespace FzL
open PySem PySem.Spec PyProof.Rows L2 Evl Fz Fz.Tr LamX
section
variable {P : Program} {w : World} {K : PySem.W.Frag} {mg : Str → Option Value} {base : Heap}
theorem okN {x qual : Str} {st : Stmt} {f : Addr} {fd : FuncData} {N ps : List Str} {k : Nat} {sp : Sp} (F : Fun K x qual st f fd) (S : FnScope N ps (defScope st)) (len : ∀ vs H Q E, sp vs H Q E → vs.length = ps.length)
    (hbody : ∀ (cdv : Value) (A : Around) (outer : List Env) (s : Shared) (H : Hp) (vs : List V) (Q : VK) (E : XK), Room k (A.deeper (envOfC qual (defScope st) s.heap.objs.size f cdv)) → sp vs H Q E →
      ∃ t, PSs (cxOf (L2N.CX P w) P w K mg base N qual (defScope st) f cdv A outer s H E) (defBody st) t ∧ t { nx := fun _ H' => Q .non H', rt := Q } (L2.start N vs) H) : FnOk P w K mg base (L2N.CX P w) (k + 1) f fd ps sp := by
  obtain ⟨oc, od, kV, doc, pm, an, cdv, ct, osl, rfl, lk, hcd⟩ := F.ex
  exact fn_of lk hcd S len fun A outer s H vs Q E hr hsp => hbody cdv A outer s H vs Q E hr hsp
end
theorem takes0N {X : Cx} : L2N.Takes X (fun _ _ _ _ => False) := fun _ _ x => by
  obtain ⟨_, _, _, _, _, _, _, _, _, _, _, _, _, _, _, _, z⟩ := x
  exact z.elim
/-- an own error -/
structure ExcF (K : PySem.W.Frag) (mg : Str → Option Value) (x : Str) (C : Addr) : Prop where
  xP : PySem.W.excIn K C [.type "ValueError", .type "Exception", .type "BaseException", .type "object"] "ValueError.__new__" = true
  gP : mg x = some (.ref C)
  kP : PySem.W.keepIn K (.ref C) = true
  bP : PySem.W.subIn K (.ref C) (.type "BaseException") = some true
  tP : PySem.W.typeIn K (.ref C) = some (.type "type")
theorem ps_raiseN {X : Cx} {W : WX} {x m : Str} {C : Addr} {j : Nat} {p p2 pos pos2 : Pos} (F : ExcF X.K X.mg x C) (tk : L2N.Takes X W) (hc : X.calm = true := by rfl) (hg : Gl X x := by rfl) (hdb : (x == ("__debug__" : Str)) = false := by decide) :
    PS X (.Raise (some (.Call (.Name x p) [.Constant (.str m) j p2] [] pos)) none pos2) (fun _ σ H => W (.ref C) none σ H) := L2N.ps_raise hc tk (L2N.pmk_own PySem.F.excBase_ValueError F.xP F.gP F.kP (raises_own F.bP F.tP) hg hdb)
/-! ### a def that a slot holds -/
structure HeldN (P : Program) (w : World) (K : PySem.W.Frag) (mg : Str → Option Value) (base : Heap) (k : Nat) (f : Addr) (sp : Sp) : Prop where
  ex : ∃ (fd : FuncData) (ps : List Str), FnOk P w K mg base (L2N.CX P w) k f fd ps sp ∧ PySem.W.keepIn K (.ref f) = true ∧ Binds K fd ps []
def tCallAS (R : Addr → Sp → Prop) (i : Nat) (E : L2.St → XK) (t : TA) : TE := fun σ H Q => ∃ f sp, σ[i]? = some (some (.ref f)) ∧ R f sp ∧ t σ H fun vs H1 => sp vs H1 Q (E σ)
section
variable {X : Cx} {k i : Nat} {f : Addr} {fd : FuncData} {ps : List Str} {sp : Sp} {E : L2.St → XK} {x : Str} {p pos : Pos} {e : Expr} {es : List Expr} {t : TA}
theorem pe_callAS (hr : Room k X.A) (hN : X.N[i]? = some x) (hv : Vis X.env.scope x) (hx : ∀ σ, PassesAt (L2N.CX X.prog X.w) X σ (E σ)) (ha : PA X (e :: es) t)
    (hdb : (x == ("__debug__" : Str)) = false := by decide) (hcd : (x == ("__classdict__" : Str)) = false := by decide)
    (he : starEach (e :: es) X.env = (false, eval e X.env) :: starEach es X.env := by rfl) (hpl : (backTo pos (starEach es X.env)).any (·.1) = false := by rfl) : PE X (.Call (.Name x p) (e :: es) [] pos) (tCallAS (fun f sp => HeldN X.prog X.w X.K X.mg X.base k f sp) i E t) := by
  refine ⟨fun pins s σ H Q I h => ?_⟩
  obtain ⟨f, sp, hs, ⟨⟨fd, ps, F, hk, hb⟩⟩, ht⟩ := h
  refine wpAny_Call_Name_kw (thn ((pe_var (pos := p) hN hv hdb hcd).run pins s σ H (fun v H1 => v = .ref f ∧ H1 = H) I ⟨.ref f, hs, rfl, rfl⟩) fun u s1 ⟨v, H1, I1, r1, q1⟩ => ?_)
  obtain ⟨rfl, rfl⟩ := q1
  cases r1
  refine PySem.W.callWith_K (h₀ := X.base) I.ok.mod.kin hk (thn (ha.run pos pins s1 σ _ _ I1 ht) fun us s2 ⟨vs, H2, I2, r, q⟩ => ⟨I2.kIn, ?_⟩) he hpl
  exact run_fnS F hr hb (hx σ) I2 r q
end
/-! ### a def within the suite, that gets what is raised -/
structure FnE (P : Program) (w : World) (K : PySem.W.Frag) (mg : Str → Option Value) (base : Heap) (k : Nat) (f : Addr) (fd : FuncData) (ps : List Str) (sp : Addr → Value → Option Addr → Sp) : Prop where
  len : ∀ a c d vs H Q E, sp a c d vs H Q E → vs.length = ps.length
  run : ∀ (A : Around) (outer : List Env) (s : Shared) (H : Hp) (args : Args) (us : List Value) (vs : List V) (Q : VK) (E : XK) (p : Addr × Obj) (c : Value) (d : Option Addr), L2H.RoomH k A → L2H.Hot1 A p → L2H.PinOk outer H s p → Zc c d p.2 → (∃ vs, p.2.data = .fields vs) → Env0 P w K mg base A outer s H → BindsTo s fd args (ps.zip us) → Vals vs us → sp p.1 c d vs H Q E →
    codeAny (model P w) A (.call (.ref f) args) (CR CX0 outer P w H s Q E) s
section
variable {P : Program} {w : World} {K : PySem.W.Frag} {mg : Str → Option Value} {base : Heap}
theorem fn_ofE {k : Nat} {f : Addr} {name qual : Str} {params : Arguments} {body : List Stmt} {scope : Scope} {dV kV doc pm cdv ct oc : Value} {an od : Option Addr}
    {osl : Array (Option Value)} {N ps : List Str} {sp : Addr → Value → Option Addr → Sp} (lk : K.lookup f = some ⟨oc, od, .func (PySem.W.fnOf name qual params body scope dV kV doc pm an cdv ct), osl⟩) (hcd : PySem.W.codeIn K cdv qual = true) (S : FnScope N ps scope)
    (len : ∀ a c d vs H Q E, sp a c d vs H Q E → vs.length = ps.length)
    (hbody : ∀ (A : Around) (outer : List Env) (s : Shared) (H : Hp) (vs : List V) (Q : VK) (E : XK) (p : Addr × Obj) (c : Value) (d : Option Addr), Zc c d p.2 → (∃ vs, p.2.data = .fields vs) → L2H.RoomH k (A.deeper (envOfC qual scope s.heap.objs.size f cdv)) → sp p.1 c d vs H Q E →
      ∃ t, PSs (L2H.cxH CX0 P w K mg base N qual scope f cdv A outer s H E p) body t ∧ t { nx := fun _ H' => Q .non H', rt := Q } (L2.start N vs) H) :
    FnE P w K mg base (k + 1) f (PySem.W.fnOf name qual params body scope dV kV doc pm an cdv ct) ps sp := by
  refine ⟨len, fun A outer s H args us vs Q E p c d hr hot hpin hz hf e0 hb r hsp => ?_⟩
  have hl := len _ _ _ _ _ _ _ hsp
  have KX : K.In s.heap := e0.mod.kin.keeps fun b o e => (e0.bs b o e).1
  have lim : s.heap.NoLimit := e0.mod.nolimit.keeps fun b o e => (e0.bs b o e).1
  have hkind : ∀ y ∈ ps.zip us, scope.names.lookup y.1 = some .local ∨ (scope.names.lookup y.1 = some .cell ∧ ((cellsFrom (s.heap.objs.size + 1) scope.names []).lookup y.1).isSome = true) := fun ⟨n, v⟩ hy => by
    rcases S.par n (List.of_mem_zip hy).1 with q | q
    · exact .inl q
    · exact .inr ⟨q, PySem.W.cellsFrom_some _ _ _ (.inl q)⟩
  refine codeAny_call_function hr.depth (KX _ _ lk) rfl S.co S.gen rfl (PySem.W.codeRec_of KX hcd) (hb _ _ _ _ ?_)
  refine wpAny_newFunctionEnv_cells S.kind hkind fun env he s1 x => ?_
  subst he
  refine ⟨lim.keeps x.toInCall.keep, codeAny_func ?_⟩
  obtain ⟨t, ht, hq⟩ := hbody A outer s H vs Q E p c d hz hf (hr.deeper _) hsp
  have I : Inv (L2H.cxH CX0 P w K mg base N qual scope f cdv A outer s H E p) [] (L2.start N vs) H s1 := L2H.inv_startH S hpin e0 hl r x
  refine wpAny_mono (ht.run [] s1 (L2.start N vs) H _ I hq) (fun fl s' hs => ?_) fun e s' hs => hs
  have fin : ∀ {σ' : L2.St} {H' : Hp} {v : V} {u : Value}, Inv (L2H.cxH CX0 P w K mg base N qual scope f cdv A outer s H E p) [] σ' H' s' → RelV v u → Q v H' → CE outer P w H s Q u s' :=
    fun {σ' H' v u} J rv q => ⟨v, H', J.os, J.bare, J.base, J.hok, rv, q⟩
  cases fl with
  | ret u =>
    obtain ⟨v, σ', H', J, rv, q⟩ := hs
    exact fin J rv q
  | next =>
    obtain ⟨σ', H', J, q⟩ := hs
    exact fin (v := V.non) (u := Value.none) J rfl q
  | brk =>
    obtain ⟨_, _, _, q⟩ := hs
    exact False.elim q
  | cont =>
    obtain ⟨_, _, _, q⟩ := hs
    exact False.elim q
end
def tCallE (sp : Sp) (t : TA) : TE := fun σ H Q => t σ H fun vs H1 => sp vs H1 Q E0
section
variable {X : Cx} {k : Nat} {f : Addr} {fd : FuncData} {ps : List Str} {sp : Addr → Value → Option Addr → Sp} {x : Str} {q pos : Pos} {e : Expr} {es : List Expr} {t : TA} {p : Addr × Obj} {c : Value} {d : Option Addr}
theorem pe_callE (F : FnE X.prog X.w X.K X.mg X.base k f fd ps sp) (hr : L2H.RoomH k X.A) (hot : L2H.Hot1 X.A p) (hp : p ∈ X.pn) (hz : Zc c d p.2) (hf : ∃ vs, p.2.data = .fields vs) (hg : Gl X x) (hm : X.mg x = some (.ref f)) (hk : PySem.W.keepIn X.K (.ref f) = true) (hb : Binds X.K fd ps [])
    (ha : PA X (e :: es) t) (hdb : (x == ("__debug__" : Str)) = false := by decide) (he : starEach (e :: es) X.env = (false, eval e X.env) :: starEach es X.env := by rfl) (hpl : (backTo pos (starEach es X.env)).any (·.1) = false := by rfl) :
    PE X (.Call (.Name x q) (e :: es) [] pos) (tCallE (sp p.1 c d) t) := by
  refine ⟨fun pins s σ H Q I h => ?_⟩
  refine wpAny_Call_Name_kw (ld_glob I hg hm ?_ hdb)
  refine PySem.W.callWith_K (h₀ := X.base) I.ok.mod.kin hk (thn (ha.run pos pins s σ H _ I h) fun us s1 ⟨vs, H1, I1, r, q⟩ => ⟨I1.kIn, ?_⟩) he hpl
  have hl : us.length = ps.length := by rw [← r.length]; exact F.len _ _ _ _ _ _ _ q
  have b := hb s1 us I1.kIn (by rw [List.append_nil]; exact hl)
  rw [List.append_nil] at b
  have P1 := I1.pin p (List.mem_append_left _ hp)
  have hpin : L2H.PinOk X.stack H1 s1 p := ⟨P1.1, P1.2.1, fun hm => (List.mem_cons.mp (I1.stkSub p.1 hm)).elim P1.2.2.1 P1.2.2.2.1, P1.2.2.2.2⟩
  refine wpAny_call (codeAny_mono (F.run X.A X.stack s1 H1 ⟨us, []⟩ us vs Q E0 p c d hr hot hpin hz hf I1.env0 b r q) fun r s' hq => ?_)
  cases r with
  | error e => exact False.elim hq
  | ok fl =>
    cases fl with
    | ret u => exact I1.after hq
    | next => exact False.elim hq
    | brk => exact False.elim hq
    | cont => exact False.elim hq
/-- isinstance of it -/
theorem call_isP {X : Cx} {a D : Addr} {oe : Obj} (hp : (a, oe) ∈ X.pn) (C : ExcC X.K D) (hz : Zc (.ref D) none oe) (hf : ∃ vs, oe.data = .fields vs) : CallR X (.builtin "isinstance") (rIsE X.K D a) := by
  intro pins s σ H xs us Q I r h
  obtain ⟨c, cv, b, rfl, hcv, e, q⟩ := h
  cases r with
  | cons rx rr =>
    cases rr with
    | cons rt rr =>
      cases rr
      cases rx
      have ec := hcv _ rt
      subst ec
      obtain ⟨hget, _⟩ := I.pin (a, oe) (List.mem_append.mpr (.inl hp))
      obtain ⟨vs, hv⟩ := hf
      have J : PySem.W.InstAt s.heap a oe D none := by
        obtain ⟨oc, od, oda, osl⟩ := oe
        obtain ⟨h1, h2⟩ := hz
        dsimp only at h1 h2 hv
        subst h1 h2 hv
        exact ⟨hget, rfl, rfl, trivial⟩
      exact PySem.W.kia_one (PySem.W.handS_kitx_exc C.hg C.hk C.hs C.hd C.ha C.hn C.ht C.hm) I.kIn J e (fun z => nomatch z) fun tk => ⟨.bl b, H, I.kept (t' := tk) fun _ _ z => z, rfl, q⟩
end
/-- a raise, the tables perhaps grown -/
def RaiseN (T : List (Addr × Str)) (C : Addr) (H : Hp) (E : XK) : Prop := ∀ H', ExtN H H' → Tabs T H' → E (.ref C) none H'
/-- a new list of plain values, the tables perhaps grown -/
def RetLN (T : List (Addr × Str)) (xs : List V) (H : Hp) (Q : VK) : Prop := ∀ p H', NewN H p → ExtN H H' → Tabs T H' → H' p = some (.lst xs) → Q (.ref p) H'
theorem RaiseN.mono {T : List (Addr × Str)} {C : Addr} {H H1 : Hp} {E : XK} (h : RaiseN T C H E) (e : ExtN H H1) : RaiseN T C H1 E := fun H' e1 T1 => h H' (e.trans e1) T1
end FzL

/-! Lists of things of one kind; loops over them; ranges by steps. -/
namespace FzL
open PySem PySem.Spec PyProof.Rows L2 Evl Fz Fz.Tr LamX
/-- what stays when tables grow -/
def Kp (F : Hp → V → Prop) : Prop := ∀ (H H' : Hp) (v : V), ExtN H H' → F H v → F H' v
/-- the heap without the object at l -/
def hid (H : Hp) (l : Addr) : Hp := fun b => if b = l then none else H b
theorem hid_ne {H : Hp} {l b : Addr} (h : b ≠ l) : hid H l b = H b := by
  unfold hid
  rw [if_neg h]
theorem hid_ex {H : Hp} {l : Addr} : Ex (hid H l) H := fun a u h => by
  unfold hid at h
  by_cases e : a = l
  · rw [if_pos e] at h
    cases h
  · rw [if_neg e] at h
    exact h
/-- what was there before l was made -/
theorem ex_hid {H H2 : Hp} {l : Addr} (e : Ex H H2) (h : H l = none) : Ex H (hid H2 l) := fun a u ha => by
  rw [hid_ne (ne_of_none ha h)]
  exact e a u ha
theorem hid_upd {H : Hp} {l : Addr} {o : HO} : hid (upd H l o) l = hid H l := by
  funext b
  unfold hid upd
  by_cases e : b = l
  · rw [if_pos e, if_pos e]
  · rw [if_neg e, if_neg e, if_neg e]
theorem hid_mono {H H2 : Hp} {l : Addr} (e : Ex H H2) : Ex (hid H l) (hid H2 l) := fun a u h => by
  by_cases q : a = l
  · unfold hid at h
    rw [if_pos q] at h
    cases h
  · rw [hid_ne q] at h ⊢
    exact e a u h
/-- a new list of such things, so many at the most; the list itself is not looked at -/
def AllL (F : Hp → V → Prop) (m : Nat) (H : Hp) : V → Hp → Prop := fun y H2 => ∃ (p : Addr) (ys : List V), y = .ref p ∧ H p = none ∧ H2 p = some (.lst ys) ∧ ys.length ≤ m ∧ ∀ v ∈ ys, F (hid H2 p) v
theorem al_get {F : Hp → V → Prop} (kF : Kp F) {H2 : Hp} {p : Addr} {v : V} (h : F (hid H2 p) v) : F H2 v := kF _ _ _ (exn_of hid_ex) h
section
variable {F G : Hp → V → Prop} {K : PySem.W.Frag} {σ : L2.St} {H H' : Hp} {ta tb tc te tl : TE} {tt : TT} {tr : TA} {D : Ends} {tu tz : TS} {T : List (Addr × Str)} {m m1 m2 : Nat} {l : Addr} {ws ys : List V}
theorem aa_nil : EvAX tNil σ H (fun vs H2 => vs.length ≤ 0 ∧ ∀ v ∈ vs, F H2 v) := fun H1 e Q q => q [] H1 (Ex.refl H1) ⟨Nat.le_refl _, fun v h => nomatch h⟩
theorem aa_cons (kF : Kp F) (h : EvX te σ H (fun v H2 => F H2 v)) (hr : EvAX tr σ H (fun vs H2 => vs.length ≤ m ∧ ∀ v ∈ vs, F H2 v)) : EvAX (tCons te tr) σ H (fun vs H2 => vs.length ≤ m + 1 ∧ ∀ v ∈ vs, F H2 v) := fun H1 e Q q =>
  h H1 e _ fun v H2 e2 pv => hr H2 (e.trans e2) _ fun vs H3 e3 ⟨p1, p2⟩ => q _ H3 (e2.trans e3) ⟨by rw [List.length_cons]; omega, fun z hz => by
    rcases List.mem_cons.mp hz with c | c
    · rw [c]
      exact kF _ _ _ (exn_of e3) pv
    · exact p2 z c⟩
theorem al_lst (kF : Kp F) (h : EvAX tr σ H (fun vs H2 => vs.length ≤ m ∧ ∀ v ∈ vs, F H2 v)) (hz : m ≤ 100000) : EvX (tLst tr) σ H (AllL F m H) := fun H1 e Q q =>
  h H1 e _ fun vs H2 e2 ⟨p1, p2⟩ => ⟨sz_of (by omega), fun p hp => q (.ref p) _ (e2.trans (Ex.new hp)) ⟨p, vs, rfl, fresh_back (e.trans e2) hp, upd_same, p1, fun v hv => kF _ _ _ (exn_of (ex_hid (Ex.new hp) hp)) (p2 v hv)⟩⟩
theorem al_catV (kF : Kp F) (ha : Ev ta σ H (.ref l)) (hl : H l = some (.lst ws)) (h1 : ws.length ≤ m1) (hw : ∀ v ∈ ws, F H v) (hb : ∀ H1, Ex H H1 → EvX tb σ H1 (AllL F m2 H1)) (hz : m1 + m2 ≤ 100000) : EvX (tOp rCat ta tb) σ H (AllL F (m1 + m2) H) := fun H1 e Q q => by
  exact ha H1 e _ fun H2 e2 => hb H2 (e.trans e2) H2 (Ex.refl H2) _ fun u H3 e3 ⟨p', zs, hu, hn', h3, q1, q2⟩ => by
    subst hu
    have ee := (e.trans e2).trans e3
    exact ⟨l, p', ws, zs, rfl, rfl, ee _ _ hl, h3, sz_of (by omega), fun s hs => q (.ref s) _ ((e2.trans e3).trans (Ex.new hs)) ⟨s, ws ++ zs, rfl, fresh_back ee hs, upd_same, by rw [List.length_append]; omega, fun v hv => by
      rcases List.mem_append.mp hv with c | c
      · exact kF _ _ _ (exn_of (ex_hid (ee.trans (Ex.new hs)) (fresh_back ee hs))) (hw v c)
      · exact kF _ _ _ (exn_of (ex_hid (Ex.new hs) hs)) (al_get kF (q2 v c))⟩⟩
theorem al_cat (kF : Kp F) (ha : EvX ta σ H (AllL F m1 H)) (hb : ∀ H1, Ex H H1 → EvX tb σ H1 (AllL F m2 H1)) (hz : m1 + m2 ≤ 100000) : EvX (tOp rCat ta tb) σ H (AllL F (m1 + m2) H) := fun H1 e Q q =>
  ha H1 e _ fun v H2 e2 ⟨p, ws, hv, hn, h2, r1, r2⟩ => by
    subst hv
    exact hb H2 (e.trans e2) H2 (Ex.refl H2) _ fun u H3 e3 ⟨p', zs, hu, hn', h3, q1, q2⟩ => by
      subst hu
      have ee := (e.trans e2).trans e3
      exact ⟨p, p', ws, zs, rfl, rfl, e3 _ _ h2, h3, sz_of (by omega), fun s hs => q (.ref s) _ ((e2.trans e3).trans (Ex.new hs)) ⟨s, ws ++ zs, rfl, fresh_back ee hs, upd_same, by rw [List.length_append]; omega, fun v hv => by
        rcases List.mem_append.mp hv with c | c
        · exact kF _ _ _ (exn_of (ex_hid (e3.trans (Ex.new hs)) (fresh_back e3 hs))) (al_get kF (r2 v c))
        · exact kF _ _ _ (exn_of (ex_hid (Ex.new hs) hs)) (al_get kF (q2 v c))⟩⟩
theorem al_pl {ps : List PI} (h : EvX te σ H (PL K H ps)) (hF : ∀ (H1 : Hp) (v : V) (p : PI), Ex H H1 → p ∈ ps → Pr K H1 v p → F H1 v) : EvX te σ H (AllL F ps.length H) := fun H1 e Q q =>
  h H1 e Q fun v H2 e2 ⟨p, ys, h1, h2, h3, h4⟩ => q v H2 e2 ⟨p, ys, h1, h2, h3, by rw [h4.len]; exact Nat.le_refl _, fun z hz => by
    obtain ⟨r, hr, tt, ht, hpr⟩ := h4.mem hz
    refine hF (hid H2 p) z r (ex_hid (e.trans e2) h2) hr ⟨tt, ht, ?_⟩
    rw [hid_ne fun q => by
      rw [q, h3] at hpr
      cases hpr]
    exact hpr⟩
theorem al_imp (h : EvX te σ H (AllL F m H)) (hm : m ≤ m1) (hF : ∀ (H1 : Hp) (v : V), Ex H H1 → F H1 v → G H1 v) : EvX te σ H (AllL G m1 H) := fun H1 e Q q =>
  h H1 e Q fun v H2 e2 ⟨p, ys, h1, h2, h3, h4, h5⟩ => q v H2 e2 ⟨p, ys, h1, h2, h3, by omega, fun z hz => hF (hid H2 p) z (ex_hid (e.trans e2) h2) (h5 z hz)⟩
/-- [..][:2] -/
theorem al_take {c : Nat} (h : EvX te σ H (AllL F m H)) (kF : Kp F) : EvX (tSl (rSlL K) te tNoPart (tPart (tC (.int (c : Int))))) σ H (AllL F m H) := fun H1 e Q q =>
  h H1 e _ fun v H2 e2 ⟨p, ys, hv, h2, h3, h4, h5⟩ => by
    subst hv
    exact el_take (σ := σ) (te := tC (.ref p)) (c := c) ev_c (sq_of h3) ev_c rfl H2 (Ex.refl _) Q fun r H3 hr e3 h6 => q _ H3 (e2.trans e3) ⟨r, _, rfl, fresh_back (e.trans e2) hr, h6, by rw [List.length_take]; omega, fun z hz => kF _ _ _ (exn_of (ex_hid e3 hr)) (al_get kF (h5 z (List.mem_of_mem_take hz)))⟩
/-- [x for x in xs if ..] -/
theorem al_filter {j : Nat} {ws : List Nat} {a : Addr} (kG : Kp G) (h : Ev tl σ H (.ref a)) (hx : H a = some (.lst ys)) (hl : ys.length ≤ m) (hz : m ≤ 40000) (hw : ∀ x, wipe ((wipe σ ws).set j (some x)) ws = wipe σ ws) (hj : ∀ x, ((wipe σ ws).set j (some x))[j]? = some (some x))
    (hF : ∀ v ∈ ys, ∃ b, EvT tt ((wipe σ ws).set j (some v)) H b ∧ (b = true → G H v)) : EvX (tLc (iList K tl) (gName j) tt (tVar j) ws) σ H (AllL G m H) := fun H0 e Q q =>
  h H0 e _ fun H1 e1 => ⟨a, rfl, ⟨ys, sq_of ((e.trans e1) _ _ hx)⟩, fun Dl hD => by
    refine lc_it (walk_list (K := K) (a := a) (xs := ys)) (fun i H' => Ex H1 H' ∧ ∃ acc, H' Dl = some (.lst acc) ∧ acc.length ≤ i ∧ ∀ v ∈ acc, G H v) ⟨Ex.new hD, [], upd_same, Nat.le_refl _, fun v hv => nomatch hv⟩ (fun i H' _ p => sq_of (((e.trans e1).trans p.1) _ _ hx)) (fun i v H' H'' hi p hy => ?_) (fun H' p => ?_)
    · obtain ⟨rfl, hyi⟩ := hy
      obtain ⟨p1, acc, p2, p3, p4⟩ := p
      obtain ⟨b, hb, hG⟩ := hF v (List.mem_of_getElem? hyi)
      refine ⟨hw _, ?_⟩
      refine hb _ ((e.trans e1).trans p1) _ fun H3 e3 => ?_
      cases b with
      | true =>
        refine iteT ⟨v, hj v, acc, e3 _ _ p2, sz_lt (by omega), Ex.mut (p1.trans e3) hD, acc ++ [v], upd_same, by rw [List.length_append, List.length_singleton]; omega, fun z hz => ?_⟩
        rcases List.mem_append.mp hz with c | c
        · exact p4 z c
        · rw [List.mem_singleton.mp c]
          exact hG rfl
      | false => exact iteF ⟨p1.trans e3, acc, e3 _ _ p2, by omega, p4⟩
    · obtain ⟨p1, acc, p2, p3, p4⟩ := p
      exact q _ H' (e1.trans p1) ⟨Dl, acc, rfl, fresh_back (e.trans e1) hD, p2, by omega, fun v hv => kG _ _ _ (exn_of (ex_hid ((e.trans e1).trans p1) (fresh_back (e.trans e1) hD))) (p4 v hv)⟩⟩
/-- l.append(e), l such a list -/
theorem s_appF (kF : Kp F) (hl : H l = some (.lst ys)) (hF : ∀ v ∈ ys, F (hid H l) v) (hz : ys.length < 100000) (ha : Ev ta σ H (.ref l)) (he : EvX te σ H (fun v H2 => F (hid H2 l) v))
    (k : ∀ v H1, Ex H H1 → (∀ z ∈ ys ++ [v], F (hid (upd H1 l (.lst (ys ++ [v]))) l) z) → D.nx σ (upd H1 l (.lst (ys ++ [v])))) : tDrop (tBM K "list" rAppend ta (tCons te tNil)) D σ H :=
  ha H (Ex.refl H) _ fun H1 e1 => ⟨Or.inl ⟨rfl, _, sq_of (e1 _ _ hl)⟩, he H1 e1 _ fun v H2 e2 pv => by
    have hl2 := e2 _ _ (e1 _ _ hl)
    refine ⟨l, ys, v, rfl, rfl, hl2, sz_lt hz, k v H2 (e1.trans e2) fun z hz' => ?_⟩
    rw [hid_upd]
    rcases List.mem_append.mp hz' with c | c
    · exact kF _ _ _ (exn_of (hid_mono (e1.trans e2))) (hF z c)
    · rw [List.mem_singleton.mp c]
      exact pv⟩
/-- for x in xs -/
theorem q_forF (kF : Kp F) {j : Nat} {a : Addr} (h : Ev te σ H (.ref a)) (hx : H a = some (.lst ys)) (hF : ∀ v ∈ ys, F H v) (hT : Tabs T H) (Pv : L2.St → Hp → Prop) (h0 : ∀ H1, ExtN H H1 → Tabs T H1 → Pv σ H1)
    (hs : ∀ (B : Hp) (v : V) (σ' : L2.St) (H' : Hp), ExtN H B → F H' v → ExtN B H' → Tabs T H' → Pv σ' H' → tu { D with nx := fun σ2 H2 => ExtN B H2 ∧ Tabs T H2 ∧ Pv σ2 H2, ct := fun σ2 H2 => ExtN B H2 ∧ Tabs T H2 ∧ Pv σ2 H2, bk := tz D } (σ'.set j (some v)) H')
    (hd : ∀ σ' H', ExtN H H' → Tabs T H' → Pv σ' H' → tz D σ' H') : tSeq (tFor (iList K te) (gName j) tu) tz D σ H :=
  h H (Ex.refl H) _ fun H1 e1 => ⟨a, rfl, ⟨ys, sq_of (e1 _ _ hx)⟩, by
    refine for_it (D := { D with nx := tz D }) (walk_list (K := K) (a := a) (xs := ys)) (fun i σ' H' => ExtN H1 H' ∧ Tabs T H' ∧ Pv σ' H') ⟨ExtN.refl _, hT.ext e1, h0 _ (exn_of e1) (hT.ext e1)⟩ (fun i σ' H' _ ⟨q, _⟩ => sq_of (exn_lst q (e1 _ _ hx))) ?_ (fun σ' H' ⟨q1, q2, q3⟩ => hd σ' H' ((exn_of e1).trans q1) q2 q3)
    rintro i v σ' H' H'' hi ⟨q1, q2, q3⟩ ⟨rfl, hv⟩
    exact hs H1 v σ' _ (exn_of e1) (kF _ _ _ ((exn_of e1).trans q1) (hF v (List.mem_of_getElem? hv))) q1 q2 q3⟩
/-- for x in (a, b, ..) -/
theorem q_forFT (kF : Kp F) {j : Nat} (h : EvAX tr σ H (fun vs H2 => vs.length ≤ m ∧ ∀ v ∈ vs, F H2 v)) (hz : m ≤ 100000) (hT : Tabs T H) (Pv : L2.St → Hp → Prop) (h0 : ∀ H1, ExtN H H1 → Tabs T H1 → Pv σ H1)
    (hs : ∀ (B : Hp) (v : V) (σ' : L2.St) (H' : Hp), ExtN H B → F H' v → ExtN B H' → Tabs T H' → Pv σ' H' → tu { D with nx := fun σ2 H2 => ExtN B H2 ∧ Tabs T H2 ∧ Pv σ2 H2, ct := fun σ2 H2 => ExtN B H2 ∧ Tabs T H2 ∧ Pv σ2 H2, bk := tz D } (σ'.set j (some v)) H')
    (hd : ∀ σ' H', ExtN H H' → Tabs T H' → Pv σ' H' → tz D σ' H') : tSeq (tFor (iTup K (tTup tr)) (gName j) tu) tz D σ H :=
  h H (Ex.refl H) _ fun vs H1 e1 ⟨r1, r2⟩ => by
    refine ⟨sz_of (by omega), fun p hp => ⟨p, rfl, ⟨vs, st_of upd_same⟩, ?_⟩⟩
    have eB : Ex H (upd H1 p (.tup vs)) := e1.trans (Ex.new hp)
    refine for_it (D := { D with nx := tz D }) (walk_tup (K := K) (a := p) (xs := vs)) (fun i σ' H' => ExtN (upd H1 p (.tup vs)) H' ∧ Tabs T H' ∧ Pv σ' H') ⟨ExtN.refl _, hT.ext eB, h0 _ (exn_of eB) (hT.ext eB)⟩ (fun i σ' H' _ ⟨q, _⟩ => st_of (exn_tup q upd_same)) ?_ (fun σ' H' ⟨q1, q2, q3⟩ => hd σ' H' ((exn_of eB).trans q1) q2 q3)
    rintro i v σ' H' H'' hi ⟨q1, q2, q3⟩ ⟨rfl, hv⟩
    exact hs _ v σ' _ (exn_of eB) (kF _ _ _ ((exn_of (Ex.new hp)).trans q1) (r2 v (List.mem_of_getElem? hv))) q1 q2 q3
/-- all([e for x in xs]), all true, the tables perhaps grown -/
theorem nv_allT {a : Addr} {xs : List V} {j : Nat} {ws : List Nat} (h : Ev tl σ H (.ref a)) (hx : SqL K H a xs) (hz : xs.length ≤ 40000) (hw : ∀ x, wipe ((wipe σ ws).set j (some x)) ws = wipe σ ws) (hT : Tabs T H)
    (he : ∀ (i : Nat) (x : V) H1, ExtN H H1 → Tabs T H1 → xs[i]? = some x → NvE T te ((wipe σ ws).set j (some x)) H1 (.bl true)) : NvE T (tCB (rAll K) (tCons (tLc (iList K tl) (gName j) tYes te ws) tNil)) σ H (.bl true) := fun Q q =>
  h H (Ex.refl _) _ fun H1 e1 => ⟨a, rfl, ⟨xs, ex_l e1 hx⟩, fun Dl hD => by
    refine lc_it (walk_list (K := K) (a := a) (xs := xs)) (fun i H' => ExtN H1 H' ∧ Tabs T H' ∧ H' Dl = some (.lst ((List.replicate i true).map V.bl))) ⟨exn_of (Ex.new hD), (hT.ext e1).ext (Ex.new hD), upd_same⟩ (fun i H' _ p => exn_l p.1 (ex_l e1 hx)) (fun i v H' H'' hi p hy => ?_) (fun H' p => ?_)
    · obtain ⟨rfl, hyi⟩ := hy
      refine ⟨hw _, ?_⟩
      show te _ _ _
      refine he i v _ ((exn_of e1).trans p.1) p.2.1 hyi _ fun H3 e3 T3 => ?_
      have h3 := exn_lst e3 p.2.2
      refine ⟨_, h3, sz_lt (by rw [List.length_map, List.length_replicate]; omega), exn_mut (p.1.trans e3) hD, tabs_upd h3 T3, ?_⟩
      rw [upd_same, List.replicate_succ', List.map_append]
      rfl
    · refine ⟨Dl, _, rfl, sq_of p.2.2, ?_⟩
      have ha : (List.replicate xs.length true).all id = true := List.all_eq_true.mpr fun b hb => by
        rw [(List.mem_replicate.mp hb).2]
        rfl
      rw [ha]
      exact q H' ((exn_of e1).trans p.1) p.2.1⟩
/-- the same, over things of one kind -/
theorem nv_allF (kF : Kp F) {j : Nat} {ws : List Nat} {a : Addr} (h : Ev tl σ H (.ref a)) (hx : H a = some (.lst ys)) (hz : ys.length ≤ 40000) (hF : ∀ v ∈ ys, F H v) (hw : ∀ x, wipe ((wipe σ ws).set j (some x)) ws = wipe σ ws) (hT : Tabs T H)
    (he : ∀ (x : V) H1, ExtN H H1 → Tabs T H1 → F H1 x → NvE T te ((wipe σ ws).set j (some x)) H1 (.bl true)) : NvE T (tCB (rAll K) (tCons (tLc (iList K tl) (gName j) tYes te ws) tNil)) σ H (.bl true) :=
  nv_allT h (sq_of hx) hz hw hT fun i x H1 e1 T1 hi => he x H1 e1 T1 (kF _ _ _ e1 (hF x (List.mem_of_getElem? hi)))
end
/-! ranges by steps -/
def rn (m c : Nat) : Nat := if 0 < m then (m - 1) / c + 1 else 0
theorem rn_lt {m c i : Nat} (hc : 1 ≤ c) (h : i < rn m c) : i * c < m := by
  unfold rn at h
  split at h
  · rename_i hm
    have h1 : i ≤ (m - 1) / c := by omega
    have h2 := Nat.mul_le_mul_right c h1
    have h3 := Nat.div_mul_le_self (m - 1) c
    omega
  · omega
theorem rgc_pos {m c : Nat} (hc : 1 ≤ c) (hc2 : c ≤ 100000) (hm : m ≤ 100000) : RgC 0 (m : Int) (c : Int) (rn m c) := by
  have hr : Builtin.Range.rangeSize 0 (m : Int) (c : Int) = ((rn m c : Nat) : Int) := by
    unfold Builtin.Range.rangeSize rn
    rw [if_pos (show (c : Int) > 0 by omega)]
    by_cases h : 0 < m
    · rw [if_pos (show (0 : Int) < (m : Int) by omega), if_pos h]
      have : ((m : Int) - 0 - 1) = ((m - 1 : Nat) : Int) := by omega
      rw [this]
      rfl
    · rw [if_neg (show ¬ (0 : Int) < (m : Int) by omega), if_neg h]
      rfl
  have hle : rn m c ≤ m := by
    unfold rn
    split
    · have := Nat.div_le_self (m - 1) c
      omega
    · omega
  have hrc : rn m c * c ≤ 100000 * 100000 := Nat.mul_le_mul (by omega) hc2
  refine ⟨by omega, by omega, ?_, hr⟩
  unfold Builtin.Range.small
  rw [hr]
  simp only [Builtin.Range.rangeFitsLong, Bool.and_eq_true, Bool.or_eq_true, decide_eq_true_eq, beq_iff_eq, show (c : Int) > 0 by omega, if_true]
  omega
section
variable {σ : L2.St} {H : Hp} {tr : TA} {D : Ends} {tu tz : TS}
/-- for i in range(0, m, c) -/
theorem q_forC {m c j : Nat} (h : EvA tr σ H [.int 0, .int (m : Int), .int (c : Int)]) (hc : 1 ≤ c) (hc2 : c ≤ 100000) (hm : m ≤ 100000) (Pv : Nat → L2.St → Hp → Prop) (h0 : ∀ H1, Ex H H1 → Pv 0 σ H1)
    (hs : ∀ i σ' H', i * c < m → Pv i σ' H' → tu { D with nx := Pv (i + 1), ct := Pv (i + 1), bk := tz D } (σ'.set j (some (.int ((i * c : Nat) : Int)))) H')
    (hd : ∀ σ' H', Pv (rn m c) σ' H' → tz D σ' H') : tSeq (tFor (iRng3 tr) (gName j) tu) tz D σ H :=
  h H (Ex.refl H) _ fun H1 e1 => ⟨0, (m : Int), (c : Int), rn m c, rfl, rgc_pos hc hc2 hm, by
    refine for_it (D := { D with nx := tz D }) (walk_rangeC (lo := 0) (c := (c : Int)) (n := rn m c)) Pv (h0 H1 e1) (fun i σ' H' _ _ => trivial) ?_ hd
    rintro i v σ' H' H'' hi p ⟨rfl, rfl⟩
    have e0 : (0 : Int) + ((i : Nat) : Int) * (c : Int) = ((i * c : Nat) : Int) := by
      rw [Int.zero_add]
      rfl
    show tu _ (σ'.set j (some (.int ((0 : Int) + ((i : Nat) : Int) * (c : Int))))) _
    rw [e0]
    exact hs i σ' _ (rn_lt hc hi) p⟩
end
end FzL

/-! Calls behind which tables may have grown, with a word. -/
namespace FzL
open PySem PySem.Spec PyProof.Rows L2 Evl Fz Fz.Tr LamX
/-- a def's answer with a word, the tables perhaps grown -/
def SpNX (T : List (Addr × Str)) (sp : Sp) (vs : List V) (H : Hp) (P : V → Hp → Prop) : Prop := ∀ Q : VK, (∀ v H2, ExtN H H2 → Tabs T H2 → P v H2 → Q v H2) → ∀ E : XK, sp vs H Q E
section
variable {T : List (Addr × Str)} {K : PySem.W.Frag} {σ : L2.St} {H H' : Hp} {ta tb te tl : TE} {tr : TA} {D : Ends} {tu tz : TS} {r : R2} {P P' : V → Hp → Prop} {y z : V}
theorem nx_call {sp : Sp} {E : XK} {vs : List V} (h : NvA T tr σ H vs) (hs : ∀ H1, ExtN H H1 → Tabs T H1 → SpNX T sp (vs ++ []) H1 P) : NvX T (tCall sp [] E tr) σ H P := fun Q q =>
  h _ fun H1 e1 T1 => hs H1 e1 T1 Q (fun v H2 e2 T2 p => q v H2 (e1.trans e2) T2 p) E
theorem SpNX.imp {sp : Sp} {vs : List V} (h : SpNX T sp vs H P) (hi : ∀ v H2, P v H2 → P' v H2) : SpNX T sp vs H P' := fun Q q E => h Q (fun v H2 e2 T2 p => q v H2 e2 T2 (hi v H2 p)) E
theorem nv_opXX (ha : NvX T ta σ H P) (hb : ∀ v H1, ExtN H H1 → Tabs T H1 → P v H1 → EvX tb σ H1 P') (hr : ∀ v u H1 H2, P v H1 → Ex H1 H2 → P' u H2 → RV r v u H2 z) : NvE T (tOp r ta tb) σ H z := fun Q q =>
  ha _ fun v H1 e1 T1 p1 => hb v H1 e1 T1 p1 H1 (Ex.refl _) _ fun u H2 e2 p2 => hr v u H1 H2 p1 e2 p2 H2 (Ex.refl _) Q fun H3 e3 => q H3 (e1.trans (exn_of (e2.trans e3))) (T1.ext (e2.trans e3))
theorem nv_opXV (ha : NvX T ta σ H P) (hb : ∀ v H1, ExtN H H1 → Tabs T H1 → P v H1 → Ev tb σ H1 y) (hr : ∀ v H1 H2, ExtN H H1 → P v H1 → Ex H1 H2 → RV r v y H2 z) : NvE T (tOp r ta tb) σ H z := fun Q q =>
  ha _ fun v H1 e1 T1 p1 => hb v H1 e1 T1 p1 H1 (Ex.refl _) _ fun H2 e2 => hr v H1 H2 e1 p1 e2 H2 (Ex.refl _) Q fun H3 e3 => q H3 (e1.trans (exn_of (e2.trans e3))) (T1.ext (e2.trans e3))
theorem ev_opXV (ha : EvX ta σ H P) (hb : ∀ H1, Ex H H1 → Ev tb σ H1 y) (hr : ∀ v H1 H2, Ex H H1 → P v H1 → Ex H1 H2 → RV r v y H2 z) : Ev (tOp r ta tb) σ H z := fun H0 e Q q =>
  ha H0 e _ fun v H1 e1 p1 => hb H1 (e.trans e1) H1 (Ex.refl _) _ fun H2 e2 => hr v H1 H2 (e.trans e1) p1 e2 H2 (Ex.refl _) Q fun H3 e3 => q H3 ((e1.trans e2).trans e3)
theorem q_forRgT {n j : Nat} (h : EvA tr σ H [.int (n : Int)]) (hn : n ≤ 100000) (hT : Tabs T H) (Pv : L2.St → Hp → Prop) (h0 : ∀ H1, ExtN H H1 → Tabs T H1 → Pv σ H1)
    (hs : ∀ (B : Hp) (i : Nat) (σ' : L2.St) (H' : Hp), ExtN H B → i < n → ExtN B H' → Tabs T H' → Pv σ' H' → tu { D with nx := fun σ2 H2 => ExtN B H2 ∧ Tabs T H2 ∧ Pv σ2 H2, ct := fun σ2 H2 => ExtN B H2 ∧ Tabs T H2 ∧ Pv σ2 H2, bk := tz D } (σ'.set j (some (.int (i : Int)))) H')
    (hd : ∀ σ' H', ExtN H H' → Tabs T H' → Pv σ' H' → tz D σ' H') : tSeq (tFor (iRng1 tr) (gName j) tu) tz D σ H := s_forRg (D := { D with nx := tz D }) h hn hT Pv h0 hs hd
/-- a list that stands anew: what was there stays -/
theorem newn_ne {p a : Addr} {o : HO} (h : NewN H p) (ha : H a = some o) (ho : ∀ ps, o ≠ .tbl ps) : a ≠ p := fun e => by
  subst e
  obtain ⟨ps, q⟩ := h o ha
  exact ho ps q
theorem Prs.rev {ps : List PI} : ∀ {vs : List V} {ps : List PI}, Prs K H vs ps → Prs K H vs.reverse ps.reverse
  | _, _, .nil => .nil
  | v :: vs, p :: ps, .cons a b => by
    rw [List.reverse_cons, List.reverse_cons]
    exact Prs.app (Prs.rev (ps := ps) b) (.cons a .nil)
theorem el_revN {xs : List V} (ha : EvL ta σ H xs) : EvL (tRevL K ta) σ H xs.reverse := fun H1 e Q q =>
  ha H1 e _ fun a H2 ha2 e2 h2 => ⟨a, xs, rfl, sq_of h2, fun p hp => q p _ (fresh_back e2 hp) (e2.trans (Ex.new hp)) upd_same⟩
theorem nx_callX {sp : Sp} {E : XK} {P0 : List V → Hp → Prop} (hT : Tabs T H) (h : EvAX tr σ H P0) (hs : ∀ vs H1, ExtN H H1 → Tabs T H1 → P0 vs H1 → SpNX T sp (vs ++ []) H1 P) : NvX T (tCall sp [] E tr) σ H P := fun Q q =>
  h H (Ex.refl _) _ fun vs H1 e1 p0 => hs vs H1 (exn_of e1) (hT.ext e1) p0 Q (fun v H2 e2 T2 p => q v H2 ((exn_of e1).trans e2) T2 p) E
theorem axx_nil : EvAX tNil σ H (fun vs _ => vs = []) := fun H1 e Q q => q [] H1 (Ex.refl H1) rfl
theorem axx_cons {P1 : V → Hp → Prop} {P2 : List V → Hp → Prop} (k1 : ∀ v H1 H2, Ex H1 H2 → P1 v H1 → P1 v H2) (h : EvX te σ H P1) (hr : ∀ H1, Ex H H1 → EvAX tr σ H1 P2) : EvAX (tCons te tr) σ H (fun vs H2 => ∃ v ws, vs = v :: ws ∧ P1 v H2 ∧ P2 ws H2) := fun H1 e Q q =>
  h H1 e _ fun v H2 e2 p1 => hr H2 (e.trans e2) H2 (Ex.refl _) _ fun ws H3 e3 p2 => q _ H3 (e2.trans e3) ⟨v, ws, rfl, k1 _ _ _ e3 p1, p2⟩
theorem nv_opXL (ha : NvX T ta σ H P) {xs : List V} (hb : ∀ v H1, ExtN H H1 → Tabs T H1 → P v H1 → EvL tb σ H1 xs) (hr : ∀ v p H1 H2, P v H1 → Ex H1 H2 → H2 p = some (.lst xs) → RV r v (.ref p) H2 z) : NvE T (tOp r ta tb) σ H z := fun Q q =>
  ha _ fun v H1 e1 T1 p1 => hb v H1 e1 T1 p1 H1 (Ex.refl _) _ fun u H2 _ e2 p2 => hr v u H1 H2 p1 e2 p2 H2 (Ex.refl _) Q fun H3 e3 => q H3 (e1.trans (exn_of (e2.trans e3))) (T1.ext (e2.trans e3))
end
end FzL

/-! What the top has written, collected. -/
namespace FzL
open PySem PySem.Spec PyProof.Rows L2 Evl Fz Fz.Tr LamX
/-- how a def binds what is passed -/
def BindA (x qual : Str) (st : Stmt) (ps : List Str) : Prop := ∀ (kV doc pm : Value) (an : Option Addr) (cdv ct : Value) (us : List Value), us.length = ps.length → bindArgs (PySem.W.fnOf x qual (defArgs st) (defBody st) (defScope st) .none kV doc pm an cdv ct) ⟨us, []⟩ = pure (ps.zip us)
section
variable {K : PySem.W.Frag} {h : Heap} {mg : Str → Option Value} {x qual : Str} {st : Stmt} {ps : List Str} {f : Addr} {oc kV dc pm cd ct : Value} {od an : Option Addr} {sl : Array (Option Value)} {c : Addr}
theorem def_mk (hb : BindA x x st ps) (X : K.In h) (G : h.Ns mainGlobals mg) (a : PySem.W.nsIn K mainGlobals x = some (some (.ref f))) (l : K.lookup f = some ⟨oc, od, .func (PySem.W.fnOf x x (defArgs st) (defBody st) (defScope st) .none kV dc pm an cd ct), sl⟩)
    (hc : PySem.W.codeIn K cd x = true) (k : PySem.W.keepIn K (.ref f) = true) : Def K mg x st ps := ⟨f, _, fun_mk l hc k, PySem.W.mg_of X G a, .all (hb kV dc pm an cd ct)⟩
theorem defc_mk (hb : BindA x x st ps) (X : K.In h) (G : h.Ns mainGlobals mg) (a : PySem.W.nsIn K mainGlobals x = some (some (.ref f))) (l : K.lookup f = some ⟨oc, od, .func (PySem.W.fnOf x x (defArgs st) (defBody st) (defScope st) .none kV dc pm an (.ref c) ct), sl⟩)
    (hc : PySem.W.codeIn K (.ref c) x = true) (k : PySem.W.keepIn K (.ref f) = true) : DefC K mg x st ps c := ⟨f, _, ⟨⟨oc, od, kV, dc, pm, an, ct, sl, rfl, l, hc⟩, k⟩, PySem.W.mg_of X G a, .all (hb kV dc pm an (.ref c) ct)⟩
variable {fld par : Str} {C f1 f2 : Addr} {sI sS : Stmt} {oc1 kV1 dc1 pm1 cd1 ct1 oc2 kV2 dc2 pm2 cd2 ct2 : Value} {od1 an1 od2 an2 : Option Addr} {sl1 sl2 : Array (Option Value)}
theorem ans_mk {qI qS : Str} (hqI : qI = x ++ ".__init__") (hqS : qS = x ++ ".shows") (hb1 : BindA "__init__" qI sI ["self", par]) (hb2 : BindA "shows" qS sS ["self", "row"]) (X : K.In h) (G : h.Ns mainGlobals mg) (a : PySem.W.nsIn K mainGlobals x = some (some (.ref C)))
    (pg : PySem.W.plainGet K C Str.empty = true) (hd : PySem.W.hasDictIn K C = true) (po : PySem.W.plainOver K C = true) (sa : PySem.W.findIn K (.ref C) "__setattr__" = some (some (.builtin "object.__setattr__"))) (mk : PySem.W.makesIn K C = true) (kc : PySem.W.keepIn K (.ref C) = true) (na : PySem.W.findIn K (.ref C) fld = some none)
    (a1 : PySem.W.findIn K (.ref C) "__init__" = some (some (.ref f1))) (i1 : PySem.W.isFn K (.ref f1) = true) (l1 : K.lookup f1 = some ⟨oc1, od1, .func (PySem.W.fnOf "__init__" qI (defArgs sI) (defBody sI) (defScope sI) .none kV1 dc1 pm1 an1 cd1 ct1), sl1⟩) (c1 : PySem.W.codeIn K cd1 qI = true) (k1 : PySem.W.keepIn K (.ref f1) = true)
    (a2 : PySem.W.findIn K (.ref C) "shows" = some (some (.ref f2))) (i2 : PySem.W.isFn K (.ref f2) = true) (l2 : K.lookup f2 = some ⟨oc2, od2, .func (PySem.W.fnOf "shows" qS (defArgs sS) (defBody sS) (defScope sS) .none kV2 dc2 pm2 an2 cd2 ct2), sl2⟩) (c2 : PySem.W.codeIn K cd2 qS = true) (k2 : PySem.W.keepIn K (.ref f2) = true) :
    AnsC K mg x fld par C sI sS := by
  subst hqI
  subst hqS
  exact ⟨⟨pg, hd, po, sa⟩, na, PySem.W.mg_of X G a, ⟨f1, _, ⟨mk, a1, i1, kc⟩, fun_mk l1 c1 k1, .all (hb1 kV1 dc1 pm1 an1 cd1 ct1)⟩, ⟨f2, _, ⟨a2, i2, k2⟩, fun_mk l2 c2 k2, .all (hb2 kV2 dc2 pm2 an2 cd2 ct2)⟩⟩
end
/-- the facts that make the built-in names stand -/
structure NoName (K : PySem.W.Frag) : Prop where
  isinstance : PySem.W.nsIn K mainGlobals "isinstance" = some none
  int : PySem.W.nsIn K mainGlobals "int" = some none
  bool : PySem.W.nsIn K mainGlobals "bool" = some none
  list : PySem.W.nsIn K mainGlobals "list" = some none
  tuple : PySem.W.nsIn K mainGlobals "tuple" = some none
  len : PySem.W.nsIn K mainGlobals "len" = some none
  all : PySem.W.nsIn K mainGlobals "all" = some none
  min : PySem.W.nsIn K mainGlobals "min" = some none
  max : PySem.W.nsIn K mainGlobals "max" = some none
  range : PySem.W.nsIn K mainGlobals "range" = some none
  sorted : PySem.W.nsIn K mainGlobals "sorted" = some none
  set : PySem.W.nsIn K mainGlobals "set" = some none
  enumerate : PySem.W.nsIn K mainGlobals "enumerate" = some none
  abs : PySem.W.nsIn K mainGlobals "abs" = some none
section
variable {K : PySem.W.Frag} {h : Heap} {mg : Str → Option Value}
theorem blt_mk (N : NoName K) (X : K.In h) (G : h.Ns mainGlobals mg) : Blt mg :=
  ⟨PySem.W.mg_none_of X G N.isinstance, PySem.W.mg_none_of X G N.int, PySem.W.mg_none_of X G N.bool, PySem.W.mg_none_of X G N.list, PySem.W.mg_none_of X G N.tuple, PySem.W.mg_none_of X G N.len, PySem.W.mg_none_of X G N.all,
   PySem.W.mg_none_of X G N.min, PySem.W.mg_none_of X G N.max, PySem.W.mg_none_of X G N.range, PySem.W.mg_none_of X G N.sorted, PySem.W.mg_none_of X G N.set, PySem.W.mg_none_of X G N.enumerate, PySem.W.mg_none_of X G N.abs⟩
end
theorem tabs_start {H : Hp} {T : List (Addr × Str)} (h : ∀ p ∈ T, H p.1 = some (.tbl #[])) : Tabs T H := fun p hp => TabS.nil (h p hp)
end FzL

namespace FzW
open PySem PySem.Spec PyProof.Rows L2 Evl FzL
def topS (i : Nat) : Stmt := PySem.Challenge.pw_friezerow_k05_refused.main.body.getD i (.Pass ⟨0, 0, 0, 0⟩)
abbrev s_is_whole : Stmt := topS 9
abbrev s_check_row : Stmt := topS 10
abbrev s_two_cross : Stmt := topS 16
abbrev s_is_cut : Stmt := topS 17
abbrev s_is_cutting : Stmt := topS 18
abbrev s_counts_of : Stmt := topS 19
abbrev s_cannot_be : Stmt := topS 28
abbrev s_cut : Stmt := topS 31
section
variable {P : Program} {w : World} {K : PySem.W.Frag} {mg : Str → Option Value} {base : Heap}
/-! is_whole -/
def spWhole (K : PySem.W.Frag) : Sp := fun vs H Q _ => ∃ (x : V) (b : Bool), vs = [x] ∧ WholeV K H x b ∧ RetV (.bl b) H Q
theorem use_whole {x : V} {b : Bool} {H : Hp} (h : WholeV K H x b) : SpV (spWhole K) ([x] ++ []) H (.bl b) := fun H1 e Q q E => ⟨x, b, rfl, h.mono e, q⟩
theorem sc_whole : FnScope ["thing"] ["thing"] (defScope s_is_whole) := ⟨rfl, rfl, rfl, by decide +kernel, rfl, by decide +kernel, by decide +kernel⟩
theorem ok_whole (D : Def K mg "is_whole" s_is_whole ["thing"]) (B : Blt mg) : Cal P w K mg base CX0 1 "is_whole" ["thing"] (spWhole K) := by
  refine D.cal fun f fd F => F.ok sc_whole (fun vs H Q E h => ?_) (fun cdv A outer s H vs Q E hr h => ?_)
  · obtain ⟨x, b, rfl, _⟩ := h
    rfl
  · obtain ⟨x, b, rfl, ⟨b1, b2, h1, h2, rfl⟩, k⟩ := h
    refine ⟨_, pss_one (ps_ret (pe_and (isi_int B (pv 0)) (pe_one (pe_not (isi_bool B (pv 0)))))), ?_⟩
    exact s_ret (ev_andV (ev_cb (ea_cons (ev_var rfl) (ea_cons ev_c ea_nil)) (rc_isi h1)) fun _ => ev_notV (ev_cb (ea_cons (ev_var rfl) (ea_cons ev_c ea_nil)) (rc_isi h2))) k
end
end FzW

namespace FzW
open PySem PySem.Spec PyProof.Rows L2 Evl FzL Fz
section
variable {P : Program} {w : World} {K : PySem.W.Frag} {mg : Str → Option Value} {base : Heap}
/-! check_row, of rows -/
def spRowOk (K : PySem.W.Frag) : Sp := fun vs H Q _ => ∃ (a : Addr) (ns : List Int), vs = [.ref a] ∧ SqL K H a (ns.map V.int) ∧ TyX K H (.ref a) (.type "list") ∧ 3 ≤ ns.length ∧ ns.length ≤ 1000 ∧ RetV .non H Q
theorem sc_check_row : FnScope ["row", "number"] ["row"] (defScope s_check_row) := ⟨rfl, rfl, rfl, by decide +kernel, rfl, by decide +kernel, by decide +kernel⟩
theorem ok_check_row (D : Def K mg "check_row" s_check_row ["row"]) (B : Blt mg) (W : Cal P w K mg base CX0 1 "is_whole" ["thing"] (spWhole K)) : Cal P w K mg base CX0 2 "check_row" ["row"] (spRowOk K) := by
  refine D.cal fun f fd F => F.ok sc_check_row (fun vs H Q E h => ?_) (fun cdv A outer s H vs Q E hr h => ?_)
  · obtain ⟨a, ns, rfl, _⟩ := h
    rfl
  · obtain ⟨a, ns, rfl, hs, ht, h3, hz, k⟩ := h
    refine ⟨_, pss_one (ps_if (PW.pt (pw_or (pt_not (pt_val (isi_list B (pv 0)))) (pw_or (pt_cmpR op_lt (len_of B (pv 0)) pe_int (nomark _))
      (pw_or1 (pt_not (pt_val (pe_callB (cr_all rfl) (by rfl) B.all boot_all (pa_cons (pe_lc (own := [("number", 1)]) (g := gName 1) (tt := tYes) rfl sc_check_row.nd (pi_list (pv 0)) (blkOk_by (N := ["row", "number"]) (sc := defScope s_check_row) (by decide +kernel))
        (fun _ _ _ _ _ => pg_name (i := 1) sc_check_row.nd rfl (Or.inl rfl)) (fun _ _ _ _ _ => pts_nil) (fun _ _ _ _ _ => pe_n W hr (Nat.le_refl _) (by rfl) pass0 (pa_cons (pv 1) pa_nil))) pa_nil))))))))
      (pss_one ps_never) pss_nil), ?_⟩
    refine s_if (b := false) (et_is (et_or (et_not (et_B (ev_cb (ea_cons (ev_var rfl) (ea_cons ev_c ea_nil)) (rc_isi (isv_ty ht (r := true) (by decide +kernel)))))) fun _ =>
      et_or (et_test (ev_op (ev_len (ev_var rfl) hs) ev_c rv_I0)) fun _ => et_not (et_B (ev_all (bs := List.replicate ns.length true) (el_map _ (ev_var rfl) hs (by rw [List.length_map]; omega) (by simp) (fun x => rfl) fun i x y H1 e hx hy => ?_)))) ?_) (fun z => nomatch z) (fun _ H1 e => k H1 e)
    · obtain ⟨n, _, rfl⟩ := ints_get hx
      obtain ⟨b, hb, rfl⟩ := bools_get hy
      have hb' : b = true := (List.mem_replicate.mp (List.mem_of_getElem? hb)).2
      subst hb'
      exact ev_call (ea_cons (ev_var rfl) ea_nil) (use_whole (whole_int n))
    · simp
      omega
end
end FzW

namespace FzW
open PySem PySem.Spec PyProof.Rows L2 Evl FzL Fz
/-- what is_cut says of a thing -/
inductive CutV (K : PySem.W.Frag) (H : Hp) (n : Int) : V → Bool → Prop where
  | no {x : V} (h : IsV K H x "tuple" false) : CutV K H n x false
  | len {a : Addr} {xs : List V} (h : IsV K H (.ref a) "tuple" true) (hs : SqT K H a xs) (hl : xs.length ≠ 2) : CutV K H n (.ref a) false
  | fst {a : Addr} {y z : V} (h : IsV K H (.ref a) "tuple" true) (hs : SqT K H a [y, z]) (hy : WholeV K H y false) : CutV K H n (.ref a) false
  | snd {a : Addr} {y z : V} (h : IsV K H (.ref a) "tuple" true) (hs : SqT K H a [y, z]) (hy : WholeV K H y true) (hz : WholeV K H z false) : CutV K H n (.ref a) false
  | pair {a : Addr} {p : PI} (h : IsV K H (.ref a) "tuple" true) (hs : SqT K H a [.int p.1, .int p.2]) : CutV K H n (.ref a) (isCut n p)
theorem CutV.mono {K : PySem.W.Frag} {H H' : Hp} {n : Int} {x : V} {b : Bool} (e : Ex H H') (h : CutV K H n x b) : CutV K H' n x b := by
  cases h with
  | no h => exact .no (h.mono e)
  | len h hs hl => exact .len (h.mono e) (ex_t e hs) hl
  | fst h hs hy => exact .fst (h.mono e) (ex_t e hs) (hy.mono e)
  | snd h hs hy hz => exact .snd (h.mono e) (ex_t e hs) (hy.mono e) (hz.mono e)
  | pair h hs => exact .pair (h.mono e) (ex_t e hs)
theorem cutv_pr {K : PySem.W.Frag} {H : Hp} {n : Int} {v : V} {p : PI} (h : Pr K H v p) : CutV K H n v (isCut n p) := by
  obtain ⟨t, rfl, b⟩ := h
  exact .pair (isv_ty (.base (.tup b)) (by decide +kernel)) (st_of b)
section
variable {P : Program} {w : World} {K : PySem.W.Frag} {mg : Str → Option Value} {base : Heap}
/-! is_cut -/
def spCut (K : PySem.W.Frag) : Sp := fun vs H Q _ => ∃ (n : Int) (x : V) (b : Bool), vs = [.int n, x] ∧ CutV K H n x b ∧ RetV (.bl b) H Q
theorem use_cut {n : Int} {x : V} {b : Bool} {H : Hp} (h : CutV K H n x b) : SpV (spCut K) ([.int n, x] ++ []) H (.bl b) := fun H1 e Q q E => ⟨n, x, b, rfl, h.mono e, q⟩
theorem sc_is_cut : FnScope ["corners", "thing"] ["corners", "thing"] (defScope s_is_cut) := ⟨rfl, rfl, rfl, by decide +kernel, rfl, by decide +kernel, by decide +kernel⟩
theorem ok_is_cut (D : Def K mg "is_cut" s_is_cut ["corners", "thing"]) (B : Blt mg) (W : Cal P w K mg base CX0 1 "is_whole" ["thing"] (spWhole K)) : Cal P w K mg base CX0 2 "is_cut" ["corners", "thing"] (spCut K) := by
  refine D.cal fun f fd F => F.ok sc_is_cut (fun vs H Q E h => ?_) (fun cdv A outer s H vs Q E hr h => ?_)
  · obtain ⟨n, x, b, rfl, _⟩ := h
    rfl
  · obtain ⟨n, x, b, rfl, hc, k⟩ := h
    refine ⟨_, pss_cons (ps_if (PW.pt (pw_or (pt_not (pt_val (isi_tuple B (pv 1)))) (pw_or (pt_cmpR op_ne (len_of B (pv 1)) pe_int (nomark _))
      (pw_or (pt_not (pt_val (pe_n W hr (Nat.le_refl _) (by rfl) pass0 (pa_cons (pe_ix ix_tup (pv 1) pe_int (fun _ _ => rfl)) pa_nil)))) (pw_or1 (pt_not (pt_val (pe_n W hr (Nat.le_refl _) (by rfl) pass0 (pa_cons (pe_ix ix_tup (pv 1) pe_int (fun _ _ => rfl)) pa_nil)))))))))
      (pss_one (ps_ret pe_bl)) pss_nil)
      (pss_one (ps_ret (pe_and (pe_cmpR op_le pe_int (pe_ix ix_tup (pv 1) pe_int (fun _ _ => rfl)) (nomark _)) (pe_and (pe_chain op_lt op_lt (pe_op op_add (pe_ix ix_tup (pv 1) pe_int (fun _ _ => rfl)) pe_int) (pe_ix ix_tup (pv 1) pe_int (fun _ _ => rfl)) (pv 0))
        (pe_one (pe_cmpR op_lt (pe_op op_sub (pe_ix ix_tup (pv 1) pe_int (fun _ _ => rfl)) (pe_ix ix_tup (pv 1) pe_int (fun _ _ => rfl))) (pe_op op_sub (pv 0) pe_int) (nomark _))))))), ?_⟩
    cases hc with
    | no h => exact q_if (b := true) (et_orY (et_notI (et_B (ev_cb (ea_cons (ev_var rfl) (ea_cons ev_c ea_nil)) (rc_isi h))) rfl)) (fun _ H1 e => s_ret ev_c fun H2 e2 => k H2 (e.trans e2)) (fun z => nomatch z)
    | len h hs hl =>
      exact q_if (b := true) (et_orN (et_notI (et_B (ev_cb (ea_cons (ev_var rfl) (ea_cons ev_c ea_nil)) (rc_isi h))) rfl)
        (et_orY (et_test (ev_is (ev_op (ev_lenT (ev_var rfl) hs) ev_c (rv_ne rfl)) (by
          rw [decide_eq_false (fun q => hl (by injection q with q; omega))]
          rfl))))) (fun _ H1 e => s_ret ev_c fun H2 e2 => k H2 (e.trans e2)) (fun z => nomatch z)
    | fst h hs hy =>
      exact q_if (b := true) (et_orN (et_notI (et_B (ev_cb (ea_cons (ev_var rfl) (ea_cons ev_c ea_nil)) (rc_isi h))) rfl)
        (et_orN (et_test (ev_is (ev_op (ev_lenT (ev_var rfl) hs) ev_c (rv_ne rfl)) rfl))
        (et_orY (et_notI (et_B (ev_call (ea_cons (ev_op (ev_var rfl) ev_c (rv_ixT hs rfl)) ea_nil) (use_whole hy))) rfl)))) (fun _ H1 e => s_ret ev_c fun H2 e2 => k H2 (e.trans e2)) (fun z => nomatch z)
    | snd h hs hy hz =>
      exact q_if (b := true) (et_orN (et_notI (et_B (ev_cb (ea_cons (ev_var rfl) (ea_cons ev_c ea_nil)) (rc_isi h))) rfl)
        (et_orN (et_test (ev_is (ev_op (ev_lenT (ev_var rfl) hs) ev_c (rv_ne rfl)) rfl))
        (et_orN (et_notI (et_B (ev_call (ea_cons (ev_op (ev_var rfl) ev_c (rv_ixT hs rfl)) ea_nil) (use_whole hy))) rfl)
        (et_notI (et_B (ev_call (ea_cons (ev_op (ev_var rfl) ev_c (rv_ixT hs rfl)) ea_nil) (use_whole hz))) rfl)))) (fun _ H1 e => s_ret ev_c fun H2 e2 => k H2 (e.trans e2)) (fun z => nomatch z)
    | @pair a p h hs =>
      refine q_if (b := false) (et_orN (et_notI (et_B (ev_cb (ea_cons (ev_var rfl) (ea_cons ev_c ea_nil)) (rc_isi h))) rfl)
        (et_orN (et_test (ev_is (ev_op (ev_lenT (ev_var rfl) hs) ev_c (rv_ne rfl)) rfl))
        (et_orN (et_notI (et_B (ev_call (ea_cons (ev_op (ev_var rfl) ev_c (rv_ixT hs rfl)) ea_nil) (use_whole (whole_int p.1)))) rfl)
        (et_notI (et_B (ev_call (ea_cons (ev_op (ev_var rfl) ev_c (rv_ixT hs rfl)) ea_nil) (use_whole (whole_int p.2)))) rfl)))) (fun z => nomatch z) (fun _ H1 e => ?_)
      have h0 : ∀ {H2 : Hp}, Ex H H2 → Ev (tOp (rIxT K) (tVar 1) (tC (.int 0))) (start ["corners", "thing"] [.int n, .ref a]) H2 (.int p.1) := fun e2 => ev_op (ev_var rfl) ev_c (rv_ixT (ex_t e2 hs) rfl)
      have h1 : ∀ {H2 : Hp}, Ex H H2 → Ev (tOp (rIxT K) (tVar 1) (tC (.int 1))) (start ["corners", "thing"] [.int n, .ref a]) H2 (.int p.2) := fun e2 => ev_op (ev_var rfl) ev_c (rv_ixT (ex_t e2 hs) rfl)
      refine s_ret (ev_is (ev_andV (ev_op ev_c (h0 e) rv_I0) fun _ => ev_andV (ev_chain (ev_op (h0 e) ev_c rv_I0) (h1 e) rv_I0 (fun _ => ev_var rfl) fun _ => rv_I0) fun _ =>
        ev_op (ev_op (h1 e) (h0 e) rv_I0) (ev_op (ev_var rfl) ev_c rv_I0) rv_I0) ?_) fun H2 e2 => k H2 (e.trans e2)
      unfold isCut
      rw [Bool.and_assoc, Bool.and_assoc]
      simp only [Bool.and_assoc]
end
end FzW

namespace FzW
open PySem PySem.Spec PyProof.Rows L2 Evl FzL Fz LamX
section
variable {P : Program} {w : World} {K : PySem.W.Frag} {mg : Str → Option Value} {base : Heap} {T : List (Addr × Str)} {c0 P0 : Addr}
/-! two_cross -/
def spTwo (K : PySem.W.Frag) (T : List (Addr × Str)) : Sp := fun vs H Q _ => ∃ (a : Addr) (xs : List V) (ps : List PI), vs = [.ref a] ∧ SqL K H a xs ∧ Prs K H xs ps ∧ ps.length ≤ 1000 ∧ Tabs T H ∧ RetN T (.bl (twoCross ps)) H Q
theorem sc_two_cross : FnScope ["cuts", "ends", "one", "other"] ["cuts"] (defScope s_two_cross) := ⟨rfl, rfl, rfl, by decide +kernel, rfl, by decide +kernel, by decide +kernel⟩
theorem ok_two_cross (D : DefC K mg "two_cross" s_two_cross ["cuts"] c0) (B : Blt mg) (TB : TabB base mg c0 P0) (hm : (P0, ("two_cross" : Str) ++ ".<locals>." ++ "<lambda>") ∈ T) (hu : ∀ q ∈ T, q.1 = P0 → q.2 = ("two_cross" : Str) ++ ".<locals>." ++ "<lambda>") :
    Cal P w K mg base CX0 1 "two_cross" ["cuts"] (spTwo K T) := by
  refine D.cal fun f fd F => F.ok sc_two_cross (fun vs H Q E h => ?_) (fun A outer s H vs Q E hr h => ?_)
  · obtain ⟨a, xs, ps, rfl, _⟩ := h
    rfl
  · obtain ⟨a, xs, ps, rfl, hs, hp, hz, hT, k⟩ := h
    refine ⟨_, pss_cons (ps_set (i := 1) sc_two_cross.nd rfl (Or.inl rfl) (pe_lst pa_nil))
      (pss_cons (ps_for PassesOwn.never rfl (pi_list (pe_sortKey (T := T) (c := c0) (P := P0) (x := "pair") B.sorted rfl TB rfl hm hu hr (pv 0) rfl rfl (fun _ _ _ _ _ => rfl) rfl (by decide +kernel) (by decide +kernel) rfl rfl rfl rfl rfl))
        (pg_tup rfl (pgs_cons (pg_name (i := 2) sc_two_cross.nd rfl (Or.inl rfl)) (pgs_cons (pg_name (i := 3) sc_two_cross.nd rfl (Or.inl rfl)) pgs_nil)))
        (pss_cons (ps_while PassesOwn.never (PW.pt (pw_and (pt_cmpR op_gt (len_of B (pv 1)) pe_int (nomark _)) (pw_and1 (pt_cmpR op_le (pe_ix ix_list (pv 1) (pe_un un_neg pe_int) (fun _ _ => rfl)) (pv 2) (nomark _)))))
          (pss_one (ps_expr (pe_bm0 PySem.F.plainAttrs_list PySem.F.slot_list_pop PySem.F.type_list_pop mt_pop (pv 1)))))
        (pss_cons (ps_if (PW.pt (pw_and (pt_cmpR op_gt (len_of B (pv 1)) pe_int (nomark _)) (pw_and1 (pt_cmpR op_gt (pv 3) (pe_ix ix_list (pv 1) (pe_un un_neg pe_int) (fun _ _ => rfl)) (nomark _))))) (pss_one (ps_ret pe_bl)) pss_nil)
        (pss_one (ps_expr (pe_bm PySem.F.plainAttrs_list PySem.F.slot_list_append PySem.F.type_list_append mt_append (pv 1) (pa_cons (pv 3) pa_nil)))))))
      (pss_one (ps_ret pe_bl))), ?_⟩
    refine q_asgL (el_lst ea_nil (Nat.zero_le _)) fun l H1 hl e1 h1 => ?_
    refine ⟨_, rfl, a, xs, ps, rfl, ex_l e1 hs, hp.mono e1, hT.ext e1, fun Dl H2 vs' e2 T2 n2 d2 p2 => ?_⟩
    have nlD : l ≠ Dl := n2.ne h1 fun _ q => nomatch q
    have hlen : vs'.length = ps.length := by rw [p2.len, List.length_mergeSort]
    refine ⟨Dl, rfl, ⟨vs', sq_of d2⟩, for_list (K := K) (a := Dl) (xs := vs') (fun i σ' H' => ∃ (v2 v3 : Option V) (es : List Int), σ' = [some (.ref a), some (.ref l), v2, v3] ∧ ExtN H H' ∧ Tabs T H' ∧ H' l = some (.lst (es.reverse.map V.int)) ∧ H' Dl = some (.lst vs') ∧
      Prs K H' vs' (ps.mergeSort kle) ∧ es.length ≤ i ∧ crossGo ((ps.mergeSort kle).drop i) es = twoCross ps) ?_ ?_ ?_ ?_⟩
    · exact ⟨none, none, [], rfl, (exn_of e1).trans e2, T2, exn_lst e2 h1, d2, p2, Nat.le_refl 0, rfl⟩
    · rintro i σ' H' _ ⟨_, _, _, _, _, _, _, hd, _⟩
      exact sq_of hd
    · rintro i y σ' H' hi ⟨v2, v3, es, rfl, e3, T3, h3, d3, p3, hle, hx⟩
      obtain ⟨p, hpi, t, rfl, ht⟩ := p3.get hi
      have hil : i < ps.length := by
        have := (List.getElem?_eq_some_iff.mp hi).1
        omega
      refine ⟨t, _, rfl, st_of ht, rfl, _, _, rfl, _, _, rfl, rfl, ?_⟩
      have hdrop : (ps.mergeSort kle).drop i = p :: (ps.mergeSort kle).drop (i + 1) := by
        obtain ⟨hlt, e⟩ := List.getElem?_eq_some_iff.mp hpi
        rw [List.drop_eq_getElem_cons hlt, e]
      rw [hdrop] at hx
      -- the while
      refine q_while (fun m σ' H' => ∃ es' : List Int, σ' = [some (.ref a), some (.ref l), some (.int p.1), some (.int p.2)] ∧ ExtN H H' ∧ Tabs T H' ∧ H' l = some (.lst (es'.reverse.map V.int)) ∧ H' Dl = some (.lst vs') ∧ Prs K H' vs' (ps.mergeSort kle) ∧
        es'.length = m ∧ es'.length ≤ es.length ∧ pop p.1 es' = pop p.1 es) es.length ⟨es, rfl, e3, T3, h3, d3, p3, rfl, Nat.le_refl _, rfl⟩ ?_
      rintro m σ' H' ⟨es', rfl, e4, T4, h4, d4, p4, rfl, hle4, hpop⟩
      match es', h4, hle4, hpop with
      | [], h4, hle4, hpop =>
        refine ⟨false, et_andN (et_test (ev_op (ev_len (ev_var rfl) (sq_of h4)) ev_c rv_I0)), (fun z => nomatch z), fun _ H5 e5 => ?_⟩
        refine q_when (b := false) (et_andN (et_test (ev_op (ev_len (ev_var rfl) (sq_of (e5 _ _ h4))) ev_c rv_I0))) (fun z => nomatch z) fun _ H6 e6 => ?_
        refine s_app (K := K) (e6 _ _ (e5 _ _ h4)) (ev_var rfl) (ev_var rfl) (by simp) fun H7 e7 => ?_
        have h7 := e7 _ _ (e6 _ _ (e5 _ _ h4))
        have ee := (e5.trans e6).trans e7
        refine ⟨_, _, [p.2], rfl, exn_mut (e4.trans (exn_of ee)) hl, tabs_upd h7 (T4.ext ee), upd_same, ?_, prs_upd h7 (p4.mono ee), by simp, ?_⟩
        · rw [upd_ne nlD.symm]
          exact ee _ _ d4
        · rw [← hx]
          rw [crossGo_cons, ← hpop]
          rfl
      | e0 :: t0, h4, hle4, hpop =>
        have hgt : Ev (tOp (rI0 fun i j => .bl (decide (j < i))) (tCB (rLenS K) (tCons (tVar 1) tNil)) (tC (.int 0))) [some (.ref a), some (.ref l), some (.int p.1), some (.int p.2)] H' (.bl true) := by
          refine ev_is (ev_op (ev_len (ev_var rfl) (sq_of h4)) ev_c rv_I0) ?_
          rw [rev_len]
          simp
        by_cases hc : e0 ≤ p.1
        · refine ⟨true, et_is (et_andY (et_test hgt) (et_test (ev_op (ev_op (ev_var rfl) (ev_un ev_c ru_neg) (rv_ixL (sq_of h4) (at_top e0 t0))) (ev_var rfl) rv_I0))) (decide_eq_true hc), fun _ H5 e5 => ?_, (fun z => nomatch z)⟩
          refine ⟨_, fun _ _ h => ⟨t0.length, Nat.lt_succ_self _, h⟩, ?_⟩
          have h5 := e5 _ _ h4
          refine ⟨_, rfl, Or.inl ⟨rfl, _, sq_of h5⟩, l, _, _, rfl, rfl, h5, rev_get e0 t0, ?_⟩
          refine ⟨t0, rfl, exn_mut (e4.trans (exn_of e5)) hl, tabs_upd h5 (T4.ext e5), ?_, ?_, prs_upd h5 (p4.mono e5), rfl, ?_, ?_⟩
          · rw [upd_same, rev_pop]
          · rw [upd_ne nlD.symm]
            exact e5 _ _ d4
          · rw [List.length_cons] at hle4
            omega
          · rw [← hpop]
            show pop p.1 t0 = (if e0 ≤ p.1 then pop p.1 t0 else e0 :: t0)
            rw [if_pos hc]
        · refine ⟨false, et_is (et_andY (et_test hgt) (et_test (ev_op (ev_op (ev_var rfl) (ev_un ev_c ru_neg) (rv_ixL (sq_of h4) (at_top e0 t0))) (ev_var rfl) rv_I0))) (decide_eq_false hc), (fun z => nomatch z), fun _ H5 e5 => ?_⟩
          have h5 := e5 _ _ h4
          have hpe : pop p.1 es = e0 :: t0 := by
            rw [← hpop]
            show (if e0 ≤ p.1 then pop p.1 t0 else e0 :: t0) = _
            rw [if_neg hc]
          have hcg : crossGo (p :: (ps.mergeSort kle).drop (i + 1)) es = if p.2 > e0 then true else crossGo ((ps.mergeSort kle).drop (i + 1)) (p.2 :: e0 :: t0) := by
            rw [crossGo_cons, hpe]
          rw [hcg] at hx
          by_cases hb : e0 < p.2
          · rw [if_pos hb] at hx
            refine q_when (b := true) (et_is (et_andY (et_test (hgt.mono e5)) (et_test (ev_op (ev_var rfl) (ev_op (ev_var rfl) (ev_un ev_c ru_neg) (rv_ixL (sq_of h5) (at_top e0 t0))) rv_I0))) (decide_eq_true hb)) (fun _ H6 e6 => ?_) fun z => nomatch z
            refine s_ret ev_c fun H7 e7 => ?_
            have ee := (e5.trans e6).trans e7
            show Q (.bl true) H7
            rw [hx]
            exact k H7 (e4.trans (exn_of ee)) (T4.ext ee)
          · rw [if_neg hb] at hx
            refine q_when (b := false) (et_is (et_andY (et_test (hgt.mono e5)) (et_test (ev_op (ev_var rfl) (ev_op (ev_var rfl) (ev_un ev_c ru_neg) (rv_ixL (sq_of h5) (at_top e0 t0))) rv_I0))) (decide_eq_false hb)) (fun z => nomatch z) fun _ H6 e6 => ?_
            refine s_app (K := K) (e6 _ _ h5) (ev_var rfl) (ev_var rfl) (by rw [rev_len]; omega) fun H7 e7 => ?_
            have h7 := e7 _ _ (e6 _ _ h5)
            have ee := (e5.trans e6).trans e7
            refine ⟨_, _, p.2 :: e0 :: t0, rfl, exn_mut (e4.trans (exn_of ee)) hl, tabs_upd h7 (T4.ext ee), ?_, ?_, prs_upd h7 (p4.mono ee), ?_, hx⟩
            · rw [upd_same, rev_push]
            · rw [upd_ne nlD.symm]
              exact ee _ _ d4
            · rw [List.length_cons]
              omega
    · rintro σ' H' ⟨v2, v3, es, rfl, e3, T3, h3, d3, p3, hle, hx⟩
      have hnil : (ps.mergeSort kle).drop vs'.length = [] := by
        rw [hlen]
        exact List.drop_eq_nil_of_le (by rw [List.length_mergeSort]; exact Nat.le_refl _)
      rw [hnil] at hx
      have hb : twoCross ps = false := hx.symm
      show Q (.bl false) H'
      rw [← hb]
      exact k H' e3 T3
end
end FzW

namespace FzW
open PySem PySem.Spec PyProof.Rows L2 Evl FzL Fz LamX
/-- what is_cutting says -/
inductive CutsV (K : PySem.W.Frag) (H : Hp) (n : Int) : V → Bool → Prop where
  | no {x : V} (h : IsV K H x "list" false) : CutsV K H n x false
  | len {a : Addr} {xs : List V} (h : IsV K H (.ref a) "list" true) (hs : SqL K H a xs) (hl : (xs.length : Int) ≠ n - 3) : CutsV K H n (.ref a) false
  | bad {a : Addr} {xs : List V} {bs : List Bool} (h : IsV K H (.ref a) "list" true) (hs : SqL K H a xs) (hl : (xs.length : Int) = n - 3) (hz : xs.length ≤ 1000) (hb : Paired (CutV K H n) xs bs) (hall : bs.all id = false) : CutsV K H n (.ref a) false
  | ok {a : Addr} {xs : List V} {ps : List PI} (h : IsV K H (.ref a) "list" true) (hs : SqL K H a xs) (hp : Prs K H xs ps) (h64 : ps.length < 64) : CutsV K H n (.ref a) (isCutting n ps)
theorem paired_cut {K : PySem.W.Frag} {H : Hp} {n : Int} : ∀ {xs : List V} {ps : List PI}, Prs K H xs ps → Paired (CutV K H n) xs (ps.map (isCut n))
  | _, _, .nil => .nil
  | _, _, .cons h t => .cons (cutv_pr h) (paired_cut t)
theorem paired_get {α β : Type} {F : α → β → Prop} : ∀ {xs : List α} {bs : List β}, Paired F xs bs → ∀ {i : Nat} {x : α} {b : β}, xs[i]? = some x → bs[i]? = some b → F x b
  | _, _, .nil, i, x, b, h, _ => by simp at h
  | _, _, .cons h t, 0, x, b, h1, h2 => by
    simp at h1 h2
    subst h1
    subst h2
    exact h
  | _, _, .cons h t, i + 1, x, b, h1, h2 => paired_get t (i := i) (by simpa using h1) (by simpa using h2)
section
variable {P : Program} {w : World} {K : PySem.W.Frag} {mg : Str → Option Value} {base : Heap} {T : List (Addr × Str)}
/-! is_cutting -/
def spCutting (K : PySem.W.Frag) (T : List (Addr × Str)) : Sp := fun vs H Q _ => ∃ (n : Int) (x : V) (b : Bool), vs = [.int n, x] ∧ CutsV K H n x b ∧ Tabs T H ∧ RetN T (.bl b) H Q
theorem sc_is_cutting : FnScope ["corners", "cuts", "one"] ["corners", "cuts"] (defScope s_is_cutting) := ⟨rfl, rfl, rfl, by decide +kernel, rfl, by decide +kernel, by decide +kernel⟩
theorem ok_is_cutting (D : Def K mg "is_cutting" s_is_cutting ["corners", "cuts"]) (B : Blt mg) (C : Cal P w K mg base CX0 2 "is_cut" ["corners", "thing"] (spCut K)) (W : Cal P w K mg base CX0 1 "two_cross" ["cuts"] (spTwo K T)) :
    Cal P w K mg base CX0 3 "is_cutting" ["corners", "cuts"] (spCutting K T) := by
  refine D.cal fun f fd F => F.ok sc_is_cutting (fun vs H Q E h => ?_) (fun cdv A outer s H vs Q E hr h => ?_)
  · obtain ⟨n, x, b, rfl, _⟩ := h
    rfl
  · obtain ⟨n, x, b, rfl, hc, hT, k⟩ := h
    refine ⟨_, pss_cons (ps_if (PW.pt (pw_or (pt_not (pt_val (isi_list B (pv 1)))) (pw_or (pt_cmpR op_ne (len_of B (pv 1)) (pe_op op_sub (pv 0) pe_int) (nomark _))
        (pw_or1 (pt_not (pt_val (pe_callB (cr_all rfl) (by rfl) B.all boot_all (pa_cons (pe_lc (own := [("one", 2)]) (g := gName 2) (tt := tYes) rfl sc_is_cutting.nd (pi_list (pv 1)) (blkOk_by (N := ["corners", "cuts", "one"]) (sc := defScope s_is_cutting) (by decide +kernel))
          (fun _ _ _ _ _ => pg_name (i := 2) sc_is_cutting.nd rfl (Or.inl rfl)) (fun _ _ _ _ _ => pts_nil) (fun _ _ _ _ _ => pe_n C hr (Nat.le_refl _) (by rfl) pass0 (pa_cons (pv 0) (pa_cons (pv 2) pa_nil)))) pa_nil))))))))
        (pss_one (ps_ret pe_bl)) pss_nil)
      (pss_one (ps_ret (pe_and (pe_cmpR op_eq (pe_callB call_lenSet (by rfl) B.len PySem.boot_len (pa_cons (pe_callTy (cr_setOfT rfl hr.units) (by rfl) B.set PyProof.Rows.boot_set (pa_cons (pv 1) pa_nil)) pa_nil)) (len_of B (pv 1)) (nomark _))
        (pe_one (pe_not (pe_n W hr (by decide) (by rfl) pass0 (pa_cons (pv 1) pa_nil))))))), ?_⟩
    have no : ∀ {H1 : Hp}, Ex H H1 → b = false → Q (.bl false) H1 := fun e hb => by
      have q := k _ (exn_of e) (hT.ext e)
      rw [hb] at q
      exact q
    have tl : ∀ {a : Addr}, x = .ref a → IsV K H (.ref a) "list" true → EvT (tNot (tB (tCB (rIsi K) (tCons (tVar 1) (tCons (tC (.ty "list")) tNil))))) (start ["corners", "cuts", "one"] [.int n, .ref a]) H false := fun _ h => et_notI (et_B (ev_cb (ea_cons (ev_var rfl) (ea_cons ev_c ea_nil)) (rc_isi h))) rfl
    have ne : ∀ {a : Addr} {xs : List V}, SqL K H a xs → EvT (tTest (tOp rNe (tCB (rLenS K) (tCons (tVar 1) tNil)) (tOp (rI0 fun i j => .int (i - j)) (tVar 0) (tC (.int 3))))) (start ["corners", "cuts", "one"] [.int n, .ref a]) H (!decide ((xs.length : Int) = n - 3)) := fun {a xs} hs =>
      et_test (ev_is (ev_op (ev_len (ev_var rfl) hs) (ev_op (ev_var rfl) ev_c rv_I0) (rv_ne rfl)) (by
        have e : decide (V.int (xs.length : Int) = V.int (n - 3)) = decide ((xs.length : Int) = n - 3) := decide_eq_decide.mpr ⟨fun z => by
          injection z with z, fun z => by rw [z]⟩
        rw [e]))
    have al : ∀ {a : Addr} {xs : List V} {bs : List Bool}, SqL K H a xs → xs.length ≤ 1000 → Paired (CutV K H n) xs bs →
        Ev (tCB (rAll K) (tCons (tLc (iList K (tVar 1)) (gName 2) tYes (tCall (spCut K) [] E0 (tCons (tVar 0) (tCons (tVar 2) tNil))) [2]) tNil)) (start ["corners", "cuts", "one"] [.int n, .ref a]) H (.bl (bs.all id)) := fun {a xs bs} hs hz hb =>
      ev_all (el_map (bs.map V.bl) (ev_var rfl) hs (by omega) (by rw [List.length_map]; exact (Paired.length hb).symm) (fun _ => rfl) fun i x y H1 e hx hy => by
        obtain ⟨b, h1, rfl⟩ := bools_get hy
        exact ev_call (ea_cons (ev_var rfl) (ea_cons (ev_var rfl) ea_nil)) (use_cut ((paired_get hb hx h1).mono e)))
    cases hc with
    | no h => exact q_if (b := true) (et_orY (et_notI (et_B (ev_cb (ea_cons (ev_var rfl) (ea_cons ev_c ea_nil)) (rc_isi h))) rfl)) (fun _ H1 e => s_ret ev_c fun H2 e2 => no (e.trans e2) rfl) (fun z => nomatch z)
    | len h hs hl =>
      exact q_if (b := true) (et_orN (tl rfl h) (et_orY (et_is (ne hs) (by rw [decide_eq_false hl]; rfl)))) (fun _ H1 e => s_ret ev_c fun H2 e2 => no (e.trans e2) rfl) (fun z => nomatch z)
    | bad h hs hl hz hb hall =>
      exact q_if (b := true) (et_orN (tl rfl h) (et_orN (et_is (ne hs) (by rw [decide_eq_true hl]; rfl)) (et_notI (et_B (al hs hz hb)) (by rw [hall]; rfl)))) (fun _ H1 e => s_ret ev_c fun H2 e2 => no (e.trans e2) rfl) (fun z => nomatch z)
    | @ok a xs ps h hs hp h64 =>
      have hlen := hp.len
      by_cases hl : (xs.length : Int) = n - 3
      · have hb := paired_cut (n := n) hp
        by_cases hall : (ps.map (isCut n)).all id = true
        · refine q_if (b := false) (et_orN (tl rfl h) (et_orN (et_is (ne hs) (by rw [decide_eq_true hl]; rfl)) (et_notI (et_B (al hs (by omega) hb)) (by rw [hall]; rfl)))) (fun z => nomatch z) fun _ H1 e => ?_
          have hev : isCutting n ps = (decide ps.Nodup && !twoCross ps) := by
            unfold isCutting
            rw [decide_eq_true (by omega), Bool.true_and]
            have ha : ps.all (isCut n) = true := by
              rw [List.all_map] at hall
              exact hall
            rw [ha, Bool.true_and]
          rw [hev] at k
          refine ev_eqSet (P := P) (w := w) (ev_var rfl) (ev_var rfl) (ex_l e hs) (hp.mono e) h64 H1 (Ex.refl _) _ fun H2 e2 => ⟨_, rfl, ?_⟩
          have ee := e.trans e2
          by_cases hn : ps.Nodup
          · rw [decide_eq_true hn] at k ⊢
            refine iteT ?_
            refine ⟨_, rfl, a, xs, ps, rfl, ex_l ee hs, hp.mono ee, by omega, hT.ext ee, fun H3 e3 T3 => ⟨_, rfl, ?_⟩⟩
            exact k H3 ((exn_of ee).trans e3) T3
          · rw [decide_eq_false hn] at k ⊢
            refine iteF ?_
            exact k H2 (exn_of ee) (hT.ext ee)
        · have hf : (ps.map (isCut n)).all id = false := by
            cases hq : (ps.map (isCut n)).all id with
            | true => exact absurd hq hall
            | false => rfl
          refine q_if (b := true) (et_orN (tl rfl h) (et_orN (et_is (ne hs) (by rw [decide_eq_true hl]; rfl)) (et_notI (et_B (al hs (by omega) hb)) (by rw [hf]; rfl)))) (fun _ H1 e => s_ret ev_c fun H2 e2 => no (e.trans e2) ?_) (fun z => nomatch z)
          unfold isCutting
          have ha : ps.all (isCut n) = false := by
            rw [List.all_map] at hf
            exact hf
          rw [ha, Bool.and_false, Bool.false_and, Bool.false_and]
      · refine q_if (b := true) (et_orN (tl rfl h) (et_orY (et_is (ne hs) (by rw [decide_eq_false hl]; rfl)))) (fun _ H1 e => s_ret ev_c fun H2 e2 => no (e.trans e2) ?_) (fun z => nomatch z)
        unfold isCutting
        rw [decide_eq_false (by omega), Bool.false_and, Bool.false_and, Bool.false_and]
end
end FzW

namespace FzW
open PySem PySem.Spec PyProof.Rows L2 Evl FzL Fz LamX
section
variable {P : Program} {w : World} {K : PySem.W.Frag} {mg : Str → Option Value} {base : Heap} {T : List (Addr × Str)}
/-! counts_of -/
def spCounts (K : PySem.W.Frag) : Sp := fun vs H Q _ => ∃ (n : Nat) (a : Addr) (xs : List V) (ps : List PI), vs = [.int n, .ref a] ∧ SqL K H a xs ∧ Prs K H xs ps ∧ n ≤ 1000 ∧ (∀ p ∈ ps, 0 ≤ p.1 ∧ p.1 < n ∧ 0 ≤ p.2 ∧ p.2 < n) ∧ RetL ((countsOf n ps).map V.int) H Q
theorem use_counts {n : Nat} {a : Addr} {xs : List V} {ps : List PI} {H : Hp} (hs : SqL K H a xs) (hp : Prs K H xs ps) (hn : n ≤ 1000) (hb : ∀ p ∈ ps, 0 ≤ p.1 ∧ p.1 < n ∧ 0 ≤ p.2 ∧ p.2 < n) : SpL (spCounts K) ([.int n, .ref a] ++ []) H ((countsOf n ps).map V.int) :=
  fun H1 e Q q E => ⟨n, a, xs, ps, rfl, ex_l e hs, hp.mono e, hn, hb, q⟩
theorem sc_counts_of : FnScope ["corners", "cuts", "found", "one", "other"] ["corners", "cuts"] (defScope s_counts_of) := ⟨rfl, rfl, rfl, by decide +kernel, rfl, by decide +kernel, by decide +kernel⟩
theorem ok_counts_of (D : Def K mg "counts_of" s_counts_of ["corners", "cuts"]) (B : Blt mg) : Cal P w K mg base CX0 1 "counts_of" ["corners", "cuts"] (spCounts K) := by
  refine D.cal fun f fd F => F.ok sc_counts_of (fun vs H Q E h => ?_) (fun cdv A outer s H vs Q E hr h => ?_)
  · obtain ⟨n, a, xs, ps, rfl, _⟩ := h
    rfl
  · obtain ⟨n, a, xs, ps, rfl, hs, hp, hn, hb, k⟩ := h
    refine ⟨_, pss_cons (ps_set (i := 2) sc_counts_of.nd rfl (Or.inl rfl) (pe_op op_rep (pe_lst (pa_cons pe_int pa_nil)) (pv 0)))
      (pss_cons (ps_for PassesOwn.never rfl (pi_list (pv 1)) (pg_tup rfl (pgs_cons (pg_name (i := 3) sc_counts_of.nd rfl (Or.inl rfl)) (pgs_cons (pg_name (i := 4) sc_counts_of.nd rfl (Or.inl rfl)) pgs_nil)))
        (pss_cons (ps_augS (pv 2) (pv 3) pg_list pe_int ip_add set_list) (pss_one (ps_augS (pv 2) (pv 4) pg_list pe_int ip_add set_list))))
      (pss_one (ps_ret (pv 2)))), ?_⟩
    refine q_asgL (el_rep (n := n) (z := 1) (by omega) (el_lst (ea_cons ev_c ea_nil) (by show 1 ≤ 100000; decide)) (fun H1 e => ev_var rfl) (by omega) (by omega)) fun l H1 hl e1 h1 => ?_
    refine q_forL (ev_var rfl) (ex_l e1 hs) (fun i σ' H' => ∃ (v3 v4 : Option V) (fs : List Int), σ' = [some (.int n), some (.ref a), some (.ref l), v3, v4] ∧ Ex H H' ∧ H' l = some (.lst (fs.map V.int)) ∧ fs.length = n ∧ countsGo (ps.drop i) fs = countsOf n ps)
      (fun H2 e2 => ⟨none, none, _, rfl, e1.trans e2, e2 _ _ h1, List.length_replicate, rfl⟩) (fun i σ' H' _ ⟨_, _, _, _, e, _⟩ => ex_l e hs) ?_ ?_
    · rintro i y σ' H' hi ⟨v3, v4, fs, rfl, e3, h3, hlen, hx⟩
      obtain ⟨p, hpi, t, rfl, ht⟩ := (hp.mono e3).get hi
      obtain ⟨b1, b2, b3, b4⟩ := hb p (List.mem_of_getElem? hpi)
      have hdrop : ps.drop i = p :: ps.drop (i + 1) := by
        obtain ⟨hlt, e⟩ := List.getElem?_eq_some_iff.mp hpi
        rw [List.drop_eq_getElem_cons hlt, e]
      rw [hdrop] at hx
      refine ⟨t, _, rfl, st_of ht, rfl, _, _, rfl, _, _, rfl, rfl, ?_⟩
      refine q_augL (f := fun i j => i + j) h3 (ev_var rfl) (ev_var rfl) ev_c (ixN_of (j := p.1.toNat) (by omega) (by omega)) fun H4 e4 => ?_
      refine s_augL (f := fun i j => i + j) upd_same (ev_var rfl) (ev_var rfl) ev_c (ixN_of (j := p.2.toNat) (by omega) (by rw [List.length_set]; omega)) fun H5 e5 => ?_
      have e6 : Ex H (upd (upd H4 l (.lst ((fs.set p.1.toNat (fs.getD p.1.toNat 0 + 1)).map V.int))) l (.lst (((fs.set p.1.toNat (fs.getD p.1.toNat 0 + 1)).set p.2.toNat ((fs.set p.1.toNat (fs.getD p.1.toNat 0 + 1)).getD p.2.toNat 0 + 1)).map V.int))) := Ex.mut (Ex.mut (e3.trans e4) hl) hl
      refine ⟨_, _, _, rfl, ?_, upd_same, ?_, hx⟩
      · exact Ex.mut ((Ex.mut (e3.trans e4) hl).trans e5) hl
      · rw [List.length_set, List.length_set, hlen]
    · rintro σ' H' ⟨v3, v4, fs, rfl, e3, h3, hlen, hx⟩
      rw [hp.len, List.drop_length] at hx
      have hx' : fs = countsOf n ps := hx
      refine s_ret (ev_var rfl) fun H4 e4 => ?_
      exact k l H4 hl (e3.trans e4) (by rw [← hx']; exact e4 _ _ h3)
/-! cannot_be -/
def spCannot (K : PySem.W.Frag) : Sp := fun vs H Q _ => ∃ (a : Addr) (ns : List Int), vs = [.ref a] ∧ SqL K H a (ns.map V.int) ∧ 0 < ns.length ∧ RetV (.bl (cannot ns)) H Q
theorem use_cannot {a : Addr} {ns : List Int} {H : Hp} (hs : SqL K H a (ns.map V.int)) (h0 : 0 < ns.length) : SpV (spCannot K) ([.ref a] ++ []) H (.bl (cannot ns)) := fun H1 e Q q E => ⟨a, ns, rfl, ex_l e hs, h0, q⟩
theorem sc_cannot_be : FnScope ["numbers"] ["numbers"] (defScope s_cannot_be) := ⟨rfl, rfl, rfl, by decide +kernel, rfl, by decide +kernel, by decide +kernel⟩
theorem ok_cannot_be (D : Def K mg "cannot_be" s_cannot_be ["numbers"]) (B : Blt mg) : Cal P w K mg base CX0 1 "cannot_be" ["numbers"] (spCannot K) := by
  refine D.cal fun f fd F => F.ok sc_cannot_be (fun vs H Q E h => ?_) (fun cdv A outer s H vs Q E hr h => ?_)
  · obtain ⟨a, ns, rfl, _⟩ := h
    rfl
  · obtain ⟨a, ns, rfl, hs, h0, k⟩ := h
    refine ⟨_, pss_cons (ps_if (pt_cmpR op_lt (pe_callB (cr_min rfl) (by rfl) B.min boot_min (pa_cons (pv 0) pa_nil)) pe_int (nomark _)) (pss_one (ps_ret pe_bl)) pss_nil)
      (pss_cons (ps_if (pt_cmpR op_gt (len_of B (pv 0)) pe_int (nomark _)) (pss_one (ps_ret (pe_cmpR op_notIn_seq pe_int (pv 0) (by rfl)))) pss_nil)
      (pss_one (ps_ret (pe_cmpR (op_neD hr.units) (pv 0) (pe_lst (pa_cons pe_int (pa_cons pe_int (pa_cons pe_int pa_nil)))) (nomark _))))), ?_⟩
    cases h1 : ns.any fun z => decide (z < 1) with
    | true =>
      have hc : cannot ns = true := by
        unfold cannot
        rw [h1, Bool.true_or]
      rw [hc] at k
      exact q_when (b := true) (et_is (et_min1 (ev_var rfl) hs h0) h1) (fun _ H1 e => s_ret ev_c fun H2 e2 => k H2 (e.trans e2)) (fun z => nomatch z)
    | false =>
      refine q_when (b := false) (et_is (et_min1 (ev_var rfl) hs h0) h1) (fun z => nomatch z) fun _ H1 e => ?_
      by_cases h3 : 3 < ns.length
      · have hc : cannot ns = !(ns.any fun z => decide (z = 1)) := by
          unfold cannot
          rw [h1, Bool.false_or, if_pos h3]
        rw [hc] at k
        refine q_when (b := true) (et_is (et_test (ev_op (ev_len (ev_var rfl) (ex_l e hs)) ev_c rv_I0)) (decide_eq_true (by rw [List.length_map]; omega))) (fun _ H2 e2 => s_ret (ev_is (ev_op ev_c (ev_var rfl) (rv_niL (ex_l (e.trans e2) hs) rfl (flat_ints ns))) (by rw [inV_ints])) fun H3 e3 => k H3 ((e.trans e2).trans e3)) (fun z => nomatch z)
      · have hc : cannot ns = !decide (ns = [1, 1, 1]) := by
          unfold cannot
          rw [h1, Bool.false_or, if_neg h3]
        rw [hc] at k
        refine q_when (b := false) (et_is (et_test (ev_op (ev_len (ev_var rfl) (ex_l e hs)) ev_c rv_I0)) (decide_eq_false (by rw [List.length_map]; omega))) (fun z => nomatch z) fun _ H2 e2 => ?_
        have ee := e.trans e2
        refine s_ret (ev_opL (ev_var rfl) (el_lst (ea_cons ev_c (ea_cons ev_c (ea_cons ev_c ea_nil))) (by show 3 ≤ 100000; decide)) fun p H3 hp e3 => ?_) fun H3 e3 => k H3 (ee.trans e3)
        exact rv_neD (dp_ints (ex_l (ee.trans e3) hs)) (dp_ints (ns := [1, 1, 1]) (sq_of hp)) (shaped_ints _) (shaped_ints _) (eqv_ints _ _)
end
end FzW

namespace FzW
open PySem PySem.Spec PyProof.Rows L2 Evl FzL Fz Fz.Tr LamX
/-! sorted pairs -/
theorem prs_perm {K : PySem.W.Frag} {H : Hp} {vs ys : List V} (hp : ys.Perm vs) : ∀ {ps : List PI}, Prs K H vs ps → ∃ qs, Prs K H ys qs ∧ qs.Perm ps := by
  induction hp with
  | nil =>
    intro ps h
    cases h
    exact ⟨[], .nil, List.Perm.refl _⟩
  | cons x _ ih =>
    intro ps h
    cases h with
    | cons a b =>
      obtain ⟨qs, h1, h2⟩ := ih b
      exact ⟨_ :: qs, .cons a h1, h2.cons _⟩
  | swap x y l =>
    intro ps h
    cases h with
    | cons a b =>
      cases b with
      | cons c d => exact ⟨_, .cons c (.cons a d), List.Perm.swap _ _ _⟩
  | trans _ _ ih1 ih2 =>
    intro ps h
    obtain ⟨q2, a, b⟩ := ih2 h
    obtain ⟨q1, c, d⟩ := ih1 a
    exact ⟨q1, c, d.trans b⟩
def keyV (H : Hp) (v : V) : Int × Int := match v with
  | .ref t => match H t with
    | some (.tup [.int a, .int b]) => (a, b)
    | _ => (0, 0)
  | _ => (0, 0)
theorem keyV_pr {K : PySem.W.Frag} {H : Hp} {v : V} {p : PI} (h : Pr K H v p) : keyV H v = p := by
  obtain ⟨t, rfl, ht⟩ := h
  simp only [keyV, ht]
theorem prs_key {K : PySem.W.Frag} {H : Hp} : ∀ {vs : List V} {ps : List PI}, Prs K H vs ps → ps = vs.map (keyV H)
  | _, _, .nil => rfl
  | _, _, .cons h t => by
    rw [List.map_cons, keyV_pr h, ← prs_key t]
theorem lexB_ple {p q : PI} (h : SrtO.lexB q p = false) : ple p q = true := by
  have := SrtO.lexB_no.mp h
  unfold ple
  refine decide_eq_true ?_
  omega
section
variable {K : PySem.W.Frag} {σ : L2.St} {H H' : Hp} {ta te tl : TE} {l : Addr}
/-- sorted(xs), xs pairs: with a word on what comes -/
theorem evx_sorted {vs : List V} {ps : List PI} (ha : Ev ta σ H (.ref l)) (hs : SqL K H l vs) (hp : Prs K H vs ps) :
    EvX (tCB (rSortedPO K) (tCons ta tNil)) σ H (fun y H2 => ∃ (p : Addr) (ys : List V), y = .ref p ∧ H p = none ∧ H2 p = some (.lst ys) ∧ Prs K H2 ys (srt ps)) := fun H1 e Q q =>
  ha H1 e _ fun H2 e2 => by
    have hp2 := hp.mono (e.trans e2)
    refine ⟨l, vs, keyV H2, rfl, ex_l (e.trans e2) hs, fun x hx => ?_, fun ys p s1 s2 hn => ?_⟩
    · obtain ⟨p, hpm, hpr⟩ := hp2.mem hx
      have hk := keyV_pr hpr
      obtain ⟨t, rfl, ht⟩ := hpr
      exact ⟨t, rfl, by rw [hk]; exact ht⟩
    · obtain ⟨qs, h1, h2⟩ := prs_perm s2.perm hp2
      have hq : qs = srt ps := by
        refine srt_the h2 ?_
        rw [prs_key h1]
        refine List.pairwise_map.mpr (List.Pairwise.imp (fun {a b} hab => ?_) s1)
        exact lexB_ple hab
      have ex := Ex.new (o := HO.lst ys) hn
      refine q _ _ (e2.trans ex) ⟨p, ys, rfl, fresh_back (e.trans e2) hn, upd_same, ?_⟩
      rw [← hq]
      exact h1.mono ex
end
theorem run_go {f : Nat} {s : CS} (h : go s = true) (hl : s.left.length ≤ f + 3) : ∃ f', f = f' + 1 ∧ run f s = run f' (cutAt s (s.nums.idxOf 1)) := by
  have h4 : 3 < s.left.length := by
    unfold go at h
    rw [Bool.and_eq_true] at h
    exact of_decide_eq_true h.1
  match f with
  | 0 => omega
  | f' + 1 =>
    refine ⟨f', rfl, ?_⟩
    show (if go s = true then _ else s) = _
    rw [if_pos h]
theorem run_end {f : Nat} {s : CS} (h : go s = false) : run f s = s := by
  match f with
  | 0 => rfl
  | f' + 1 =>
    show (if go s = true then _ else s) = _
    rw [if_neg (by rw [h]; decide)]
end FzW

namespace FzW
open PySem PySem.Spec PyProof.Rows L2 Evl FzL Fz Fz.Tr LamX
abbrev s_cell_at : Stmt := topS 33
abbrev s_draw : Stmt := topS 34
abbrev s_value : Stmt := topS 35
abbrev s_grown_ : Stmt := topS 36
abbrev s_row_ : Stmt := topS 37
abbrev s_reduced : Stmt := topS 38
section
variable {P : Program} {w : World} {K : PySem.W.Frag} {mg : Str → Option Value} {base : Heap}
/-! _law_cell_at -/
def spCell (K : PySem.W.Frag) : Sp := fun vs H Q _ => ∃ (a : Addr) (ns : List Int) (k : Nat), vs = [.ref a, .int (k : Int)] ∧ SqL K H a (ns.map V.int) ∧ RetV (.int (ns.getD k 0)) H Q
theorem use_cell {a : Addr} {ns : List Int} {k : Nat} {H : Hp} (hs : SqL K H a (ns.map V.int)) : SpV (spCell K) ([.ref a, .int (k : Int)] ++ []) H (.int (ns.getD k 0)) := fun H1 e Q q E => ⟨a, ns, k, rfl, ex_l e hs, q⟩
theorem sc_cell : FnScope ["_law_script", "_law_k"] ["_law_script", "_law_k"] (defScope s_cell_at) := ⟨rfl, rfl, rfl, by decide +kernel, rfl, by decide +kernel, by decide +kernel⟩
theorem ok_cell (D : Def K mg "_law_cell_at" s_cell_at ["_law_script", "_law_k"]) (B : Blt mg) : Cal P w K mg base CX0 1 "_law_cell_at" ["_law_script", "_law_k"] (spCell K) := by
  refine D.cal fun f fd F => F.ok sc_cell (fun vs H Q E h => ?_) (fun cdv A outer s H vs Q E hr h => ?_)
  · obtain ⟨a, ns, k, rfl, _⟩ := h
    rfl
  · obtain ⟨a, ns, j, rfl, hs, k⟩ := h
    refine ⟨_, pss_cons (ps_if (pt_cmpR op_lt (pv 1) (len_of B (pv 0)) (nomark _)) (pss_one (ps_ret (pe_ix ix_list (pv 0) (pv 1) (fun _ _ => rfl)))) pss_nil) <| pss_one (ps_ret pe_int), ?_⟩
    have ht : ∀ {b : Bool}, decide (j < ns.length) = b → EvT (tTest (tOp (rI0 fun i j => .bl (decide (i < j))) (tVar 1) (tCB (rLenS K) (tCons (tVar 0) tNil)))) (start ["_law_script", "_law_k"] [.ref a, .int (j : Int)]) H b := fun {b} hb => by
      refine et_is (et_test (ev_op (ev_var rfl) (ev_len (ev_var rfl) hs) rv_I0)) ?_
      rw [← hb, List.length_map]
      exact decide_eq_decide.mpr (by omega)
    by_cases h : j < ns.length
    · exact q_when (b := true) (ht (decide_eq_true h)) (fun _ H1 e1 => s_ret (ev_at (ex_l e1 hs) (ev_var rfl) (ev_var rfl) (ixN_of rfl h)) fun H2 e2 => k H2 (e1.trans e2)) (fun z => nomatch z)
    · have hd : ns.getD j 0 = 0 := by
        rw [List.getD_eq_getElem?_getD, List.getElem?_eq_none (by omega)]
        rfl
      rw [hd] at k
      exact q_when (b := false) (ht (decide_eq_false h)) (fun z => nomatch z) (fun _ H1 e1 => s_ret ev_c fun H2 e2 => k H2 (e1.trans e2))
/-! _law_draw -/
def spDraw (K : PySem.W.Frag) : Sp := fun vs H Q _ => ∃ (c : Int) (k : Nat) (m : Int), vs = [.int c, .int (k : Int), .int m] ∧ Bnd c ∧ k < 2 ^ 20 ∧ 0 < m ∧ RetV (.int (drawV c k m)) H Q
theorem use_draw {c m : Int} {k : Nat} {H : Hp} (hc : Bnd c) (hk : k < 2 ^ 20) (hm : 0 < m) : SpV (spDraw K) ([.int c, .int (k : Int), .int m] ++ []) H (.int (drawV c k m)) := fun H1 e Q q E => ⟨c, k, m, rfl, hc, hk, hm, q⟩
theorem sc_draw : FnScope ["_law_cell", "_law_k", "_law_many", "_law_primes"] ["_law_cell", "_law_k", "_law_many"] (defScope s_draw) := ⟨rfl, rfl, rfl, by decide +kernel, rfl, by decide +kernel, by decide +kernel⟩
theorem ok_draw (D : Def K mg "_law_draw" s_draw ["_law_cell", "_law_k", "_law_many"]) (B : Blt mg) : Cal P w K mg base CX0 1 "_law_draw" ["_law_cell", "_law_k", "_law_many"] (spDraw K) := by
  refine D.cal fun f fd F => F.ok sc_draw (fun vs H Q E h => ?_) (fun cdv A outer s H vs Q E hr h => ?_)
  · obtain ⟨c, k, m, rfl, _⟩ := h
    rfl
  · obtain ⟨c, j, m, rfl, ⟨a, hc, ha⟩, hj, hm, k⟩ := h
    refine ⟨_, pss_cons (ps_set (i := 3) sc_draw.nd rfl (Or.inl rfl) (pe_tup (pa_cons pe_int <| pa_cons pe_int <| pa_cons pe_int <| pa_cons pe_int <| pa_cons pe_int <| pa_cons pe_int <| pa_cons pe_int <| pa_cons pe_int <| pa_cons pe_int <| pa_cons pe_int <| pa_cons pe_int <| pa_cons pe_int <| pa_cons pe_int <| pa_cons pe_int <| pa_cons pe_int <| pa_cons pe_int pa_nil))) <|
      pss_one (ps_ret (pe_op op_modN (pe_op op_modN (pe_op op_add (pe_op op_mulX (pv 0) pe_int) (pe_op op_mulX (pv 1) pe_int)) (pe_ix ix_tup (pv 3) (pe_op op_modN (pv 1) pe_int) (fun _ _ => rfl))) (pv 2))), ?_⟩
    refine q_asgU (xs := primesL.map V.int) (eu_tup (ea_cons ev_c <| ea_cons ev_c <| ea_cons ev_c <| ea_cons ev_c <| ea_cons ev_c <| ea_cons ev_c <| ea_cons ev_c <| ea_cons ev_c <| ea_cons ev_c <| ea_cons ev_c <| ea_cons ev_c <| ea_cons ev_c <| ea_cons ev_c <| ea_cons ev_c <| ea_cons ev_c <| ea_cons ev_c ea_nil) (by show 16 ≤ 100000; decide)) fun t H1 ht e1 h1 => ?_
    have h16 : j % 16 < 16 := Nat.mod_lt _ (by decide)
    have hx : Ev (tOp (rIxT K) (tVar 3) (tOp (rI (fun _ j => j ≠ 0) fun i j => .int (i.fmod j)) (tVar 1) (tC (.int 16)))) [some (.int c), some (.int (j : Int)), some (.int m), some (.ref t)] H1 (.int (primesL.getD (j % 16) 0)) := by
      refine ev_op (ev_var rfl) (ev_op (ev_var rfl) ev_c (rv_mod (by decide))) (rv_ixT (st_of h1) (i := (j : Int).fmod 16) ?_)
      have e : (j : Int).fmod 16 = ((j % 16 : Nat) : Int) := by
        rw [Int.fmod_eq_emod_of_nonneg _ (by decide)]
        rfl
      rw [e]
      exact at_ix (ixN_of rfl h16)
    refine s_ret (ev_op (ev_op (ev_op (ev_op (ev_var rfl) ev_c (rv_I (mulx_ok hc (show (48271 : Int).natAbs < 2 ^ 16 by decide) (by omega)))) (ev_op (ev_var rfl) ev_c (rv_I (mulx_ok (natB hj) (show (69621 : Int).natAbs < 2 ^ 17 by decide) (by decide)))) rv_I0) hx (rv_mod (prime_ne h16))) (ev_var rfl) (rv_mod (by omega))) fun H2 e2 => k H2 (e1.trans e2)
/-! _law_value -/
def spValue (K : PySem.W.Frag) : Sp := fun vs H Q _ => ∃ (c : Int) (k : Nat) (m : Int), vs = [.int c, .int (k : Int), .int m] ∧ c.natAbs < 2 ^ 1048577 ∧ k < 1000 ∧ 0 ≤ m ∧ m ≤ 400000 ∧ RetV (.int (valueV c k m)) H Q
theorem use_value {c m : Int} {k : Nat} {H : Hp} (hc : c.natAbs < 2 ^ 1048577) (hk : k < 1000) (hm : 0 ≤ m) (hm2 : m ≤ 400000) : SpV (spValue K) ([.int c, .int (k : Int), .int m] ++ []) H (.int (valueV c k m)) := fun H1 e Q q E => ⟨c, k, m, rfl, hc, hk, hm, hm2, q⟩
theorem sc_value : FnScope ["_law_cell", "_law_k", "_law_most", "_law_rest"] ["_law_cell", "_law_k", "_law_most"] (defScope s_value) := ⟨rfl, rfl, rfl, by decide +kernel, rfl, by decide +kernel, by decide +kernel⟩
theorem ok_value (D : Def K mg "_law_value" s_value ["_law_cell", "_law_k", "_law_most"]) (B : Blt mg) (W : Cal P w K mg base CX0 1 "_law_draw" ["_law_cell", "_law_k", "_law_many"] (spDraw K)) : Cal P w K mg base CX0 2 "_law_value" ["_law_cell", "_law_k", "_law_most"] (spValue K) := by
  refine D.cal fun f fd F => F.ok sc_value (fun vs H Q E h => ?_) (fun cdv A outer s H vs Q E hr h => ?_)
  · obtain ⟨c, k, m, rfl, _⟩ := h
    rfl
  · obtain ⟨c, j, m, rfl, hc, hj, h0, h1, k⟩ := h
    refine ⟨_, pss_cons (ps_if (pt_cmpR op_ge (pv 0) (pe_op op_pow pe_int pe_int) (nomark _))
        (pss_cons (ps_set (i := 3) sc_value.nd rfl (Or.inl rfl) (pe_op op_modN (pe_op op_sub (pv 0) (pe_op op_pow pe_int pe_int)) (pe_op op_pow pe_int pe_int))) <|
         pss_one (ps_ret (pe_op op_mulX (pe_op op_fdiv (pv 3) pe_int) (pe_op op_sub pe_int (pe_op op_mulX (pe_op op_modN (pv 3) pe_int) pe_int))))) pss_nil) <|
      pss_one (ps_ret (pe_op op_sub (pe_n W hr (Nat.le_refl _) (by rfl) pass0 (pa_cons (pe_op op_mulX (pe_op op_add (pv 0) (pe_op op_mulX pe_int (pv 1))) (pe_op op_add (pe_op op_add (pv 0) (pe_op op_mulX pe_int (pv 1))) pe_int))
        (pa_cons (pe_op op_add (pe_op op_modN (pv 1) pe_int) pe_int) (pa_cons (pe_op op_add (pe_op op_mulX pe_int (pv 2)) pe_int) pa_nil)))) (pv 2))), ?_⟩
    have p18 : ∀ {σ : L2.St} {H : Hp}, Ev (tOp (rI CPow fun i j => .int (i ^ j.toNat)) (tC (.int 10)) (tC (.int 18))) σ H (.int (10 ^ 18)) := fun {σ H} => ev_op ev_c ev_c (rv_I ⟨by decide, by decide, by decide⟩)
    have p60 : ∀ {σ : L2.St} {H : Hp}, Ev (tOp (rI CPow fun i j => .int (i ^ j.toNat)) (tC (.int 10)) (tC (.int 60))) σ H (.int (10 ^ 60)) := fun {σ H} => ev_op ev_c ev_c (rv_I ⟨by decide, by decide, by decide⟩)
    unfold valueV at k
    by_cases h : 10 ^ 18 ≤ c
    · rw [if_pos h] at k
      refine q_when (b := true) (et_is (et_test (ev_op (ev_var rfl) p18 rv_I0)) (decide_eq_true h)) (fun _ H1 e1 => ?_) (fun z => nomatch z)
      refine q_asg (ev_op (ev_op (ev_var rfl) p18 rv_I0) p60 (rv_mod (by decide))) fun H2 e2 => ?_
      refine s_ret (ev_op (ev_op (ev_var rfl) ev_c (rv_I ⟨by decide, by decide⟩)) (ev_op ev_c (ev_op (ev_op (ev_var rfl) ev_c (rv_mod (by decide))) ev_c (rv_I (mulx_ok (a := 2) (b := 2) ?_ (by decide) (by decide)))) rv_I0) (rv_I (mulx_ok (half_lt c) (b := 2) ?_ (by decide)))) fun H3 e3 => k H3 ((e1.trans e2).trans e3)
      · have q1 : 0 ≤ ((c - 10 ^ 18).fmod (10 ^ 60)).fmod 2 := Int.fmod_nonneg_of_pos _ (by decide)
        have q2 : ((c - 10 ^ 18).fmod (10 ^ 60)).fmod 2 < 2 := Int.fmod_lt_of_pos _ (by decide)
        show _ < 4
        omega
      · rcases sgn_cases ((c - 10 ^ 18).fmod (10 ^ 60)) with q | q
        · rw [q]
          decide
        · rw [q]
          decide
    · rw [if_neg h] at k
      refine q_when (b := false) (et_is (et_test (ev_op (ev_var rfl) p18 rv_I0)) (decide_eq_false h)) (fun z => nomatch z) fun _ H1 e1 => ?_
      have hj10 : ((j : Int)).natAbs < 2 ^ 10 := by
        show _ < 1024
        omega
      have b1 : (c + 977 * (j : Int)).natAbs < 2 ^ (max 1048577 (10 + 10) + 1) := addB hc (mulB (show (977 : Int).natAbs < 2 ^ 10 by decide) hj10)
      have b2 : (c + 31 * (j : Int) + 5).natAbs < 2 ^ (max (max 1048577 (10 + 10) + 1) 10 + 1) := addB (addB hc (mulB (show (31 : Int).natAbs < 2 ^ 10 by decide) hj10)) (show (5 : Int).natAbs < 2 ^ 10 by decide)
      refine s_ret (ev_op (ev_call (ea_cons (ev_op (ev_op (ev_var rfl) (ev_op ev_c (ev_var rfl) (rv_I (mulx_ok (show (977 : Int).natAbs < 2 ^ 10 by decide) hj10 (by decide)))) rv_I0) (ev_op (ev_op (ev_var rfl) (ev_op ev_c (ev_var rfl) (rv_I (mulx_ok (show (31 : Int).natAbs < 2 ^ 10 by decide) hj10 (by decide)))) rv_I0) ev_c rv_I0) (rv_I (mulx_ok b1 b2 (by decide))))
        (ea_cons (ev_is (w := .int ((j % 9 + 1 : Nat) : Int)) (ev_op (ev_op (ev_var rfl) ev_c (rv_mod (by decide))) ev_c rv_I0) ?_) (ea_cons (ev_op (ev_op ev_c (ev_var rfl) (rv_I (mulx_ok (a := 2) (b := 20) (by decide) ?_ (by decide)))) ev_c rv_I0) ea_nil)))
        (use_draw (Bnd.of (mulB b1 b2) (by decide)) ?_ (by omega))) (ev_var rfl) rv_I0) fun H2 e2 => k H2 (e1.trans e2)
      · rw [Int.fmod_eq_emod_of_nonneg _ (by decide)]
        rfl
      · show _ < 1048576
        omega
      · have : j % 9 < 9 := Nat.mod_lt _ (by decide)
        show _ < 1048576
        omega
end
end FzW

namespace FzW
open PySem PySem.Spec PyProof.Rows L2 Evl FzL Fz Fz.Tr LamX
section
variable {P : Program} {w : World} {K : PySem.W.Frag} {mg : Str → Option Value} {base : Heap}
/-! _law_grown -/
def spGrown (K : PySem.W.Frag) : Sp := fun vs H Q _ => ∃ (a : Addr) (ns : List Int) (c : Nat), vs = [.ref a, .int (c : Int)] ∧ SqL K H a (ns.map V.int) ∧ c < ns.length ∧ ns.length ≤ 1000 ∧ RetL ((growL ns c).map V.int) H Q
theorem use_grown {a : Addr} {ns : List Int} {c : Nat} {H : Hp} (hs : SqL K H a (ns.map V.int)) (hc : c < ns.length) (hz : ns.length ≤ 1000) : SpL (spGrown K) ([.ref a, .int (c : Int)] ++ []) H ((growL ns c).map V.int) := fun H1 e Q q E => ⟨a, ns, c, rfl, ex_l e hs, hc, hz, q⟩
theorem sc_grown_ : FnScope ["_law_row_here", "_law_corner", "_law_at", "_law_number", "_law_found"] ["_law_row_here", "_law_corner"] (defScope s_grown_) := ⟨rfl, rfl, rfl, by decide +kernel, rfl, by decide +kernel, by decide +kernel⟩
theorem ok_grown_ (D : Def K mg "_law_grown" s_grown_ ["_law_row_here", "_law_corner"]) (B : Blt mg) : Cal P w K mg base CX0 1 "_law_grown" ["_law_row_here", "_law_corner"] (spGrown K) := by
  refine D.cal fun f fd F => F.ok sc_grown_ (fun vs H Q E h => ?_) (fun cdv A outer s H vs Q E hr h => ?_)
  · obtain ⟨a, ns, c, rfl, _⟩ := h
    rfl
  · obtain ⟨a, ns, c, rfl, hs, hc, hz, k⟩ := h
    refine ⟨_, pss_cons (ps_setLc (i := 4) (own := [("_law_at", 2), ("_law_number", 3)]) (g := gEn _ 2 3) (tt := tYes)
        (te := tOp (rI0 fun i j => .int (i + j)) (tVar 3) (tCB (fun xs H Q => (∃ i, xs = [.int i] ∧ Q (.int i) H) ∨ ∃ k, xs = [.bl k] ∧ Q (.int (if k then 1 else 0)) H) (tCons (tOp (rIn K false) (tVar 2) (tTup (tCons (tVar 1) (tCons (tOp (rI (fun _ j => j ≠ 0) fun i j => .int (i.fmod j)) (tOp (rI0 fun i j => .int (i + j)) (tVar 1) (tC (.int 1))) (tCB (rLenS K) (tCons (tVar 0) tNil))) tNil)))) tNil))) rfl sc_grown_.nd rfl rfl rfl (pi_enum (by rfl) B.enumerate (pa_cons (pv 0) pa_nil)) (blkOk_by (N := ["_law_row_here", "_law_corner", "_law_at", "_law_number", "_law_found"]) (sc := defScope s_grown_) (by decide +kernel))
        (fun _ _ _ _ _ => pg_tup rfl (pgs_cons (pg_name (i := 2) sc_grown_.nd rfl (Or.inl rfl)) (pgs_cons (pg_name (i := 3) sc_grown_.nd rfl (Or.inl rfl)) pgs_nil))) (fun _ _ _ _ _ => pts_nil)
        (fun _ _ _ _ _ => pe_op op_add (pv 3) (pe_callTy call_int1 (by rfl) B.int PyProof.Rows.boot_int (pa_cons (pe_cmpR op_in_seq (pv 2) (pe_tup (pa_cons (pv 1) (pa_cons (pe_op op_modN (pe_op op_add (pv 1) pe_int) (len_of B (pv 0))) pa_nil))) (by rfl)) pa_nil)))) <|
      pss_one (ps_ret (pe_op op_cat (pe_op op_cat (pe_slice sl_list (pv 4) po_none (po_some (pe_op op_add (pv 1) pe_int))) (pe_lst (pa_cons pe_int pa_nil))) (pe_slice sl_list (pv 4) (po_some (pe_op op_add (pv 1) pe_int)) po_none))), ?_⟩
    refine q_asgL (el_enum ((grow1 ns c).map V.int) (ev_var rfl) hs (by rw [List.length_map]; omega) (by rw [List.length_map, List.length_map, grow1_length]) (fun x y => rfl) fun i x y H1 e hx hy => ?_) fun l H1 hl e1 h1 => ?_
    · obtain ⟨n, hn, rfl⟩ := ints_get hx
      obtain ⟨g, hg, rfl⟩ := ints_get hy
      have hi : i < ns.length := (List.getElem?_eq_some_iff.mp hn).1
      have hgv : g = n + (if i = c ∨ i = nxt ns.length c then 1 else 0) := by
        unfold grow1 at hg
        rw [List.getElem?_map, List.getElem?_range hi] at hg
        have := Option.some.inj hg
        rw [← this]
        show ns.getD i 0 + _ = n + _
        rw [List.getD_eq_getElem?_getD, hn]
        rfl
      have hv : inV (.int (i : Int)) [.int (c : Int), .int ((nxt ns.length c : Nat) : Int)] = decide (i = c ∨ i = nxt ns.length c) := by
        have := inV_ints (i : Int) [(c : Int), ((nxt ns.length c : Nat) : Int)]
        rw [show [V.int (c : Int), V.int ((nxt ns.length c : Nat) : Int)] = [(c : Int), ((nxt ns.length c : Nat) : Int)].map V.int from rfl, this, Bool.eq_iff_iff]
        simp
        omega
      refine ev_is (ev_op (ev_var rfl) (ev_intB (ev_inU (ev_var rfl) (eu_tup (ea_cons (ev_var rfl) (ea_cons (ev_nxt (n := ns.length) (ev_var rfl) (ev_is (ev_len (ev_var rfl) (ex_l e hs)) (by rw [List.length_map])) hc) ea_nil)) (by show 2 ≤ 100000; decide)) rfl rfl)) rv_I0) ?_
      rw [hv, hgv]
      by_cases hd : i = c ∨ i = nxt ns.length c
      · rw [decide_eq_true hd, if_pos hd]
        rfl
      · rw [decide_eq_false hd, if_neg hd]
        rfl
    · have ht : (growL ns c).map V.int = (((grow1 ns c).map V.int).take (c + 1) ++ [V.int 1]) ++ ((grow1 ns c).map V.int).drop (c + 1) := by
        unfold growL
        rw [List.map_append, List.map_append, List.map_take, List.map_drop]
        rfl
      rw [ht] at k
      refine s_retL (el_cat (el_cat (el_take (ev_var rfl) (sq_of h1) (ev_op (ev_var rfl) ev_c rv_I0) rfl) (fun H2 e2 => el_lst (ea_cons ev_c ea_nil) (by show 1 ≤ 100000; decide)) ?_) (fun H2 e2 => el_drop (ev_var rfl) (sq_of (e2 _ _ h1)) (ev_op (ev_var rfl) ev_c rv_I0) rfl) ?_) fun p H2 hp e2 h2 => k p H2 (fresh_back e1 hp) (e1.trans e2) h2
      · rw [List.length_take, List.length_map, grow1_length]
        show _ + 1 ≤ _
        omega
      · rw [List.length_append, List.length_take, List.length_drop, List.length_map, grow1_length]
        show _ + 1 + _ ≤ _
        omega
end
end FzW

namespace FzW
open PySem PySem.Spec PyProof.Rows L2 Evl FzL Fz Fz.Tr LamX
section
variable {P : Program} {w : World} {K : PySem.W.Frag} {mg : Str → Option Value} {base : Heap}
/-- numbers of at most so many bits -/
def Sml (ms : List Int) : Prop := ∀ z ∈ ms, z.natAbs < 2 ^ 201
def Sml0 (ms : List Int) : Prop := ∀ z ∈ ms, z.natAbs < 2 ^ 200
theorem sml_set {ms : List Int} {j : Nat} {z : Int} (h : Sml ms) (hz : z.natAbs < 2 ^ 201) : Sml (ms.set j z) := fun y hy => by
  rcases List.mem_or_eq_of_mem_set hy with q | q
  · exact h y q
  · rw [q]
    exact hz
/-! _law_row -/
def spRowL (K : PySem.W.Frag) : Sp := fun vs H Q _ => ∃ (a : Addr) (ns : List Int), vs = [.ref a] ∧ SqL K H a (ns.map V.int) ∧ ns.length ≤ 63 ∧ (∀ n ∈ ns, n.natAbs < 2 ^ 1048577) ∧
  ∀ (ms : List Int) (p : Addr) (H' : Hp), H p = none → Ex H H' → H' p = some (.lst (ms.map V.int)) → 3 ≤ ms.length → ms.length ≤ 63 → Sml0 ms → Q (.ref p) H'
theorem sc_row_ : FnScope ["_law_script", "_law_kind", "_law_most", "_law_cell", "_law_k", "_law_row_here", "_law_at", "_law_other"] ["_law_script"] (defScope s_row_) := ⟨rfl, rfl, rfl, by decide +kernel, rfl, by decide +kernel, by decide +kernel⟩
theorem ok_row_ (D : Def K mg "_law_row" s_row_ ["_law_script"]) (B : Blt mg) (C : Cal P w K mg base CX0 1 "_law_cell_at" ["_law_script", "_law_k"] (spCell K)) (W : Cal P w K mg base CX0 1 "_law_draw" ["_law_cell", "_law_k", "_law_many"] (spDraw K))
    (V2 : Cal P w K mg base CX0 2 "_law_value" ["_law_cell", "_law_k", "_law_most"] (spValue K)) (G : Cal P w K mg base CX0 1 "_law_grown" ["_law_row_here", "_law_corner"] (spGrown K)) : Cal P w K mg base CX0 3 "_law_row" ["_law_script"] (spRowL K) := by
  refine D.cal fun f fd F => F.ok sc_row_ (fun vs H Q E h => ?_) (fun cdv A outer s H vs Q E hr h => ?_)
  · obtain ⟨a, ns, rfl, _⟩ := h
    rfl
  · obtain ⟨a, ns0, rfl, hs0, hz0, hb0, k⟩ := h
    refine ⟨_, pss_cons (ps_set (i := 0) sc_row_.nd rfl (Or.inl rfl) (pe_slice sl_list (pv 0) po_none (po_some pe_int))) <|
      pss_cons (ps_set (i := 1) sc_row_.nd rfl (Or.inl rfl) (pe_n W hr (by decide) (by rfl) pass0 (pa_cons (pe_n C hr (by decide) (by rfl) pass0 (pa_cons (pv 0) (pa_cons pe_int pa_nil))) (pa_cons pe_int (pa_cons pe_int pa_nil))))) <|
      pss_cons (ps_set (i := 2) sc_row_.nd rfl (Or.inr rfl) (pe_ix ix_tup (pe_tup (pa_cons pe_int <| pa_cons pe_int <| pa_cons pe_int <| pa_cons pe_int pa_nil)) (pe_n W hr (by decide) (by rfl) pass0 (pa_cons (pe_n C hr (by decide) (by rfl) pass0 (pa_cons (pv 0) (pa_cons pe_int pa_nil))) (pa_cons pe_int (pa_cons pe_int pa_nil)))) (fun _ _ => rfl))) <|
      pss_cons (ps_if (pt_cmpR op_eq (pv 1) pe_int (nomark _))
        (pss_cons (ps_setLc (i := 5) (own := [("_law_k", 4), ("_law_cell", 3)]) (g := gEn _ 4 3) (tt := tYes) (te := tCall (spValue K) [] E0 (tCons (tVar 3) (tCons (tVar 4) (tCons (tVar 2) tNil)))) rfl sc_row_.nd rfl rfl rfl (pi_enum (by rfl) B.enumerate (pa_cons (pv 0) pa_nil)) (blkOk_by (N := ["_law_script", "_law_kind", "_law_most", "_law_cell", "_law_k", "_law_row_here", "_law_at", "_law_other"]) (sc := defScope s_row_) (by decide +kernel))
            (fun _ _ _ _ _ => pg_tup rfl (pgs_cons (pg_name (i := 4) sc_row_.nd rfl (Or.inl rfl)) (pgs_cons (pg_name (i := 3) sc_row_.nd rfl (Or.inl rfl)) pgs_nil))) (fun _ _ _ _ _ => pts_nil)
            (fun _ _ _ _ _ => pe_n V2 hr (by decide) (by rfl) pass0 (pa_cons (pv 3) (pa_cons (pv 4) (pa_cons (pv 2) pa_nil))))) <|
         pss_one (ps_ret (pe_op op_cat (pv 5) (pe_op op_rep (pe_lst (pa_cons pe_int pa_nil)) (pe_op op_sub pe_int (len_of B (pv 5))))))) pss_nil) <|
      pss_cons (ps_set (i := 5) sc_row_.nd rfl (Or.inl rfl) (pe_lst (pa_cons pe_int <| pa_cons pe_int <| pa_cons pe_int pa_nil))) <|
      pss_cons (ps_for PassesOwn.never rfl (pi_enum (by rfl) B.enumerate (pa_cons (pv 0) pa_nil)) (pg_tup rfl (pgs_cons (pg_name (i := 4) sc_row_.nd rfl (Or.inl rfl)) (pgs_cons (pg_name (i := 3) sc_row_.nd rfl (Or.inl rfl)) pgs_nil)))
        (pss_one (ps_set (i := 5) sc_row_.nd rfl (Or.inl rfl) (pe_n G hr (by decide) (by rfl) pass0 (pa_cons (pv 5) (pa_cons (pe_op op_modN (pe_callB call_abs (by rfl) B.abs boot_abs (pa_cons (pe_n V2 hr (by decide) (by rfl) pass0 (pa_cons (pv 3) (pa_cons (pv 4) (pa_cons pe_int pa_nil)))) pa_nil)) (len_of B (pv 5))) pa_nil)))))) <|
      pss_cons (ps_par (i := 6) (j := 7) rfl sc_row_.nd rfl rfl (by decide) rfl rfl (pa_cons (pe_n W hr (by decide) (by rfl) pass0 (pa_cons (pe_n C hr (by decide) (by rfl) pass0 (pa_cons (pv 0) (pa_cons pe_int pa_nil))) (pa_cons pe_int (pa_cons (len_of B (pv 5)) pa_nil))))
        (pa_cons (pe_n W hr (by decide) (by rfl) pass0 (pa_cons (pe_n C hr (by decide) (by rfl) pass0 (pa_cons (pv 0) (pa_cons pe_int pa_nil))) (pa_cons pe_int (pa_cons (len_of B (pv 5)) pa_nil)))) pa_nil)) rfl) <|
      pss_cut (ps_if (pt_cmpR op_eq (pv 1) pe_int (nomark _))
        (pss_one (ps_asg (pe_op op_sub (pe_op op_add (pe_ix ix_list (pv 5) (pv 6) (fun _ _ => rfl)) pe_int) (pe_op op_mulX pe_int (pe_op op_modN (pv 7) pe_int))) (pg_sub (pv 5) (pv 6) set_list))) pss_nil) <|
      pss_cut (ps_if (pt_cmpR op_eq (pv 1) pe_int (nomark _))
        (pss_one (ps_asg (pe_tup (pa_cons (pe_ix ix_list (pv 5) (pe_op op_sub (pv 6) pe_int) (fun _ _ => rfl)) (pa_cons (pe_ix ix_list (pv 5) (pv 6) (fun _ _ => rfl)) pa_nil))) (pg_tup rfl (pgs_cons (pg_sub (pv 5) (pv 6) set_list) (pgs_cons (pg_sub (pv 5) (pe_op op_sub (pv 6) pe_int) set_list) pgs_nil))))) pss_nil) <|
      pss_cut (ps_if (pt_cmpR op_eq (pv 1) pe_int (nomark _))
        (pss_cons (ps_asg (pe_op op_add (pe_ix ix_list (pv 5) (pv 6) (fun _ _ => rfl)) pe_int) (pg_sub (pv 5) (pv 6) set_list)) <|
         pss_one (ps_asg (pe_op op_sub (pe_ix ix_list (pv 5) (pv 7) (fun _ _ => rfl)) pe_int) (pg_sub (pv 5) (pv 7) set_list))) pss_nil) <|
      pss_one (ps_ret (pv 5)), ?_⟩
    have hns : (ns0.map V.int).take 60 = (ns0.take 60).map V.int := by rw [List.map_take]
    have hz : (ns0.take 60).length ≤ 60 := by
      rw [List.length_take]
      omega
    have hcb : ∀ j, ((ns0.take 60).getD j 0).natAbs < 2 ^ 1048577 := fun j => by
      by_cases hj : j < (ns0.take 60).length
      · exact hb0 _ (List.mem_of_mem_take (Fz.getD_mem hj))
      · rw [List.getD_eq_getElem?_getD, List.getElem?_eq_none (by omega)]
        exact Nat.pow_pos (by decide)
    refine q_asgL (el_take (c := 60) (ev_var rfl) hs0 ev_c rfl) fun l1 H1 hl1 e1 h1 => ?_
    rw [hns] at h1
    generalize ns0.take 60 = ns at *
    have dw : ∀ {σ : L2.St} {Hx : Hp} {j kk : Nat} {m : Int} {tm : TE}, Ex H1 Hx → σ[0]? = some (some (.ref l1)) → kk < 2 ^ 20 → 0 < m → Ev tm σ Hx (.int m) →
        Ev (tCall (spDraw K) [] E0 (tCons (tCall (spCell K) [] E0 (tCons (tVar 0) (tCons (tC (.int (j : Int))) tNil))) (tCons (tC (.int (kk : Int))) (tCons tm tNil)))) σ Hx (.int (drawV (ns.getD j 0) kk m)) := fun {σ Hx j kk m tm} ex h0 hkk hm htm =>
      ev_call (ea_cons (ev_call (ea_cons (ev_var h0) (ea_cons ev_c ea_nil)) (use_cell (ex_l ex (sq_of h1)))) (ea_cons ev_c (ea_cons htm ea_nil))) (use_draw (Bnd.of (hcb j) (by decide)) hkk hm)
    refine q_asg (dw (j := 0) (kk := 6) (Ex.refl _) rfl (by decide) (by decide) ev_c) fun H2 e2 => ?_
    have hd4 := drawV_lt (c := ns.getD 1 0) (k := 7) (m := 4) (by decide)
    have hmost : ∃ most : Int, 0 ≤ most ∧ most ≤ 400000 ∧ atI ([2, 4, 9, 400000].map V.int) (drawV (ns.getD 1 0) 7 4) = some (.int most) := by
      generalize drawV (ns.getD 1 0) 7 4 = d at *
      have : d = 0 ∨ d = 1 ∨ d = 2 ∨ d = 3 := by omega
      rcases this with rfl | rfl | rfl | rfl
      · exact ⟨2, by decide, by decide, rfl⟩
      · exact ⟨4, by decide, by decide, rfl⟩
      · exact ⟨9, by decide, by decide, rfl⟩
      · exact ⟨400000, by decide, by decide, rfl⟩
    obtain ⟨most, hm0, hm1, hat⟩ := hmost
    refine q_asg (ev_ixU (xs := [2, 4, 9, 400000].map V.int) (eu_tup (ea_cons ev_c <| ea_cons ev_c <| ea_cons ev_c <| ea_cons ev_c ea_nil) (by show 4 ≤ 100000; decide)) (fun Hx ex => dw (j := 1) (kk := 7) (e2.trans ex) rfl (by decide) (by decide) ev_c) hat) fun H3 e3 => ?_
    generalize drawV (ns.getD 0 0) 6 7 = kind
    have h3 := e3 _ _ (e2 _ _ h1)
    have hE3 : Ex H H3 := (e1.trans e2).trans e3
    by_cases hk0 : kind = 0
    · refine q_when (b := true) (et_is (et_eqI (ev_var rfl) ev_c) (decide_eq_true hk0)) (fun _ H4 e4 => ?_) fun z => nomatch z
      have h4 := e4 _ _ h3
      refine q_asgL (el_enum (((List.range ns.length).map fun i => valueV (ns.getD i 0) i most).map V.int) (ev_var rfl) (sq_of h4) (by rw [List.length_map]; omega) (by simp) (fun x y => rfl) fun i x y H5 e hx hy => ?_) fun r H5 hr5 e5 h5 => ?_
      · obtain ⟨n, hn, rfl⟩ := ints_get hx
        obtain ⟨g, hg, rfl⟩ := ints_get hy
        have hi : i < ns.length := (List.getElem?_eq_some_iff.mp hn).1
        rw [List.getElem?_map, List.getElem?_range hi] at hg
        have hgv := Option.some.inj hg
        have hgn : ns.getD i 0 = n := by
          rw [List.getD_eq_getElem?_getD, hn]
          rfl
        rw [← hgv]
        show Ev _ _ _ (.int (valueV (ns.getD i 0) i most))
        rw [hgn]
        exact ev_call (ea_cons (ev_var rfl) (ea_cons (ev_var rfl) (ea_cons (ev_var rfl) ea_nil))) (use_value (by rw [← hgn]; exact hcb i) (by omega) hm0 hm1)
      · refine s_retL (el_catV (ev_var rfl) h5 (fun H6 e6 => el_rep (n := 3 - ns.length) (z := 1) (c := 3 - (ns.length : Int)) (by omega) (el_lst (ea_cons ev_c ea_nil) (by show 1 ≤ 100000; decide)) (fun H7 e7 => ev_op ev_c (ev_is (ev_len (ev_var rfl) (sq_of (e7 _ _ (e6 _ _ h5)))) (by simp)) rv_I0) (by omega) (by omega)) (by simp; omega)) fun p H6 hp e6 h6 => ?_
        have hfin := k ((List.range ns.length).map (fun i => valueV (ns.getD i 0) i most) ++ List.replicate (3 - ns.length) 1) p H6 (fresh_back ((hE3.trans e4).trans e5) hp) (((hE3.trans e4).trans e5).trans e6) (by rw [h6, List.map_append]) (by simp; omega) (by simp; omega) ?_
        · exact hfin
        · intro z hz'
          rcases List.mem_append.mp hz' with hz' | hz'
          · obtain ⟨i, _, rfl⟩ := List.mem_map.mp hz'
            exact Nat.lt_of_lt_of_le (valueV_lt hm0 hm1) (Nat.pow_le_pow_right (by decide) (by decide))
          · rw [(List.mem_replicate.mp hz').2]
            decide
    · refine q_when (b := false) (et_is (et_eqI (ev_var rfl) ev_c) (decide_eq_false hk0)) (fun z => nomatch z) fun _ H4 e4 => ?_
      have h4 := e4 _ _ h3
      have hE4 := hE3.trans e4
      refine q_asgL (xs := [1, 1, 1].map V.int) (el_lst (ea_cons ev_c <| ea_cons ev_c <| ea_cons ev_c ea_nil) (by show 3 ≤ 100000; decide)) fun r0 H5 hr0 e5 h5 => ?_
      have hE5 := hE4.trans e5
      refine q_forE (ev_var rfl) (sq_of (e5 _ _ h4)) (fun i σ' H' => ∃ (v3 v4 : Option V) (r : Addr) (rows : List Int), σ' = [some (.ref l1), some (.int kind), some (.int most), v3, v4, some (.ref r), none, none] ∧ Ex H5 H' ∧ H r = none ∧ H' r = some (.lst (rows.map V.int)) ∧
        rows.length = 3 + i ∧ ∀ z ∈ rows, z.natAbs ≤ 1 + i) (fun H6 e6 => ⟨none, none, r0, [1, 1, 1], rfl, e6, fresh_back hE4 hr0, e6 _ _ h5, rfl, fun z hz' => by
          have : z = 1 := by simpa using hz'
          rw [this]
          decide⟩) (fun i σ' H' _ ⟨_, _, _, _, _, e, _⟩ => sq_of (e _ _ (e5 _ _ h4))) ?_ ?_
      · rintro i x σ' H' H'' hx ⟨v3, v4, r, rows, rfl, e6, hr, h6, hlen, hbd⟩ e7
        obtain ⟨n, hn, rfl⟩ := ints_get hx
        have hi : i < ns.length := (List.getElem?_eq_some_iff.mp hn).1
        have hgn : ns.getD i 0 = n := by
          rw [List.getD_eq_getElem?_getD, hn]
          rfl
        have h7 := e7 _ _ h6
        refine s_asgL (el_call (ea_cons (ev_var rfl) (ea_cons (ev_is (ev_op (ev_abs (ev_call (ea_cons (ev_var rfl) (ea_cons (ev_var rfl) (ea_cons ev_c ea_nil))) (use_value (m := 400000) (by rw [← hgn]; exact hcb i) (by omega) (by decide) (by decide)))) (ev_is (ev_len (ev_var rfl) (sq_of h7)) (by rw [List.length_map])) (rv_mod (by omega))) (by rw [fmod_abs (by omega)])) ea_nil)) (use_grown (sq_of h7) (Nat.mod_lt _ (by omega)) (by omega))) fun p H8 hp e8 h8 => ?_
        exact ⟨_, _, p, _, rfl, (e6.trans e7).trans e8, fresh_back ((hE5.trans e6).trans e7) hp, h8, by rw [growL_length]; omega, fun z hz' => by
          have := growL_lt hbd (by omega) z hz'
          omega⟩
      · rintro σ' H' ⟨v3, v4, r, rows, rfl, e6, hr, h6, hlen, hbd⟩
        rw [List.length_map] at hlen
        have hl0 : 0 < ((rows.length : Nat) : Int) := by omega
        have hlenE : ∀ {Hx : Hp} {σ : L2.St}, Ex H' Hx → σ[5]? = some (some (.ref r)) → Ev (tCB (rLenS K) (tCons (tVar 5) tNil)) σ Hx (.int ((rows.length : Nat) : Int)) := fun {Hx σ} ex h => ev_is (ev_len (ev_var h) (sq_of (ex _ _ h6))) (by rw [List.length_map])
        have hE6 := hE5.trans e6
        have eH1 : Ex H1 H' := (((e2.trans e3).trans e4).trans e5).trans e6
        refine q_par (ea_cons (dw (j := 2) (kk := 8) eH1 rfl (by decide) hl0 (hlenE (Ex.refl _) rfl)) (ea_cons (dw (j := 3) (kk := 9) eH1 rfl (by decide) hl0 (hlenE (Ex.refl _) rfl)) ea_nil)) fun H7 e7 => ?_
        obtain ⟨a0, a1⟩ := drawV_lt (c := ns.getD 2 0) (k := 8) hl0
        obtain ⟨b0, b1⟩ := drawV_lt (c := ns.getD 3 0) (k := 9) hl0
        obtain ⟨at_, hat_⟩ := Int.eq_ofNat_of_zero_le a0
        obtain ⟨ot_, hot_⟩ := Int.eq_ofNat_of_zero_le b0
        rw [hat_] at a1 ⊢
        rw [hot_] at b1 ⊢
        have ha : at_ < rows.length := by omega
        have ho : ot_ < rows.length := by omega
        have hn63 : rows.length ≤ 63 := by omega
        have hn3 : 3 ≤ rows.length := by omega
        refine q_cutIf (M := fun H' => ∃ ms : List Int, Ex H H' ∧ H' r = some (.lst (ms.map V.int)) ∧ ms.length = rows.length ∧ ∀ z ∈ ms, z.natAbs ≤ 102) (et_eqI (ev_var rfl) ev_c) (fun _ H8 e8 => ?_) (fun _ H8 e8 => ⟨rows, (hE6.trans e7).trans e8, e8 _ _ (e7 _ _ h6), rfl, fun z hz' => by
          have := hbd z hz'
          rw [List.length_map] at this
          omega⟩) ?_
        · have h8 := e8 _ _ (e7 _ _ h6)
          have hm2 : ((ot_ : Int)).fmod 2 = ((ot_ % 2 : Nat) : Int) := by
            rw [Int.fmod_eq_emod_of_nonneg _ (by decide)]
            rfl
          refine s_setI (z := rows.getD at_ 0 + 1 - 2 * ((ot_ % 2 : Nat) : Int)) h8 (ev_op (ev_op (ev_at (sq_of h8) (ev_var rfl) (ev_var rfl) (ixN_of rfl ha)) ev_c rv_I0) (ev_op ev_c (ev_is (ev_op (ev_var rfl) ev_c (rv_mod (by decide))) (by rw [hm2])) (rv_I (mulx_ok (a := 2) (b := 2) (by decide) (by
            show ((ot_ % 2 : Nat) : Int).natAbs < 4
            omega) (by decide)))) rv_I0) (ev_var rfl) (ev_var rfl) (ixN_of rfl ha) fun H9 e9 => ⟨rfl, _, Ex.mut (((hE6.trans e7).trans e8).trans e9) hr, upd_same, by rw [List.length_set], fun z hz' => ?_⟩
          rcases List.mem_or_eq_of_mem_set hz' with q | q
          · have := hbd z q
            rw [List.length_map] at this
            omega
          · have := hbd _ (Fz.getD_mem ha)
            rw [List.length_map] at this
            rw [q]
            omega
        · rintro H8 ⟨ms, hE8, h8, hl8, hb8⟩
          refine q_cutIf (M := fun H' => ∃ ms : List Int, Ex H H' ∧ H' r = some (.lst (ms.map V.int)) ∧ ms.length = rows.length ∧ ∀ z ∈ ms, z.natAbs ≤ 102) (et_eqI (ev_var rfl) ev_c) (fun _ H9 e9 => ?_) (fun _ H9 e9 => ⟨ms, hE8.trans e9, e9 _ _ h8, hl8, hb8⟩) ?_
          · have h9 := e9 _ _ h8
            have hp : prv ms.length at_ < ms.length := prv_lt (by omega)
            refine eu_tup (ea_cons (ev_at (sq_of h9) (ev_var rfl) (ev_op (ev_var rfl) ev_c rv_I0) (ixN_prv (by omega))) (ea_cons (ev_at (sq_of h9) (ev_var rfl) (ev_var rfl) (ixN_of rfl (by omega))) ea_nil)) (by show 2 ≤ 100000; decide) H9 (Ex.refl _) _ fun p H10 hp10 e10 h10 => ?_
            have h10' := e10 _ _ h9
            refine ⟨p, _, rfl, st_of h10, rfl, _, _, rfl, ⟨_, rfl, _, rfl, set_go (j := at_) h10' (ixN_of rfl (by omega)) ?_⟩⟩
            refine ⟨_, _, rfl, ⟨_, rfl, _, rfl, _, _, rfl, rfl, set_go (j := prv ms.length at_) (ns := ms.set at_ (ms.getD (prv ms.length at_) 0)) upd_same (by rw [List.length_set]; exact ixN_prv (by omega)) ?_⟩⟩
            refine ⟨rfl, rfl, _, Ex.mut (Ex.mut ((hE8.trans e9).trans e10) hr) hr, upd_same, by rw [List.length_set, List.length_set]; exact hl8, fun z hz' => ?_⟩
            rcases List.mem_or_eq_of_mem_set hz' with q | q
            · rcases List.mem_or_eq_of_mem_set q with q | q
              · exact hb8 z q
              · rw [q]
                exact hb8 _ (Fz.getD_mem hp)
            · rw [q]
              exact hb8 _ (Fz.getD_mem (by omega))
          · rintro H9 ⟨ms, hE9, h9, hl9, hb9⟩
            refine q_cutIf (M := fun H' => ∃ ms : List Int, Ex H H' ∧ H' r = some (.lst (ms.map V.int)) ∧ ms.length = rows.length ∧ ∀ z ∈ ms, z.natAbs ≤ 104) (et_eqI (ev_var rfl) ev_c) (fun _ H10 e10 => ?_) (fun _ H10 e10 => ⟨ms, hE9.trans e10, e10 _ _ h9, hl9, fun z hz' => by
              have := hb9 z hz'
              omega⟩) ?_
            · have h10 := e10 _ _ h9
              refine q_setI (z := ms.getD at_ 0 + 1) h10 (ev_op (ev_at (sq_of h10) (ev_var rfl) (ev_var rfl) (ixN_of rfl (by omega))) ev_c rv_I0) (ev_var rfl) (ev_var rfl) (ixN_of rfl (by omega)) fun H11 e11 => ?_
              refine s_setI (ns := ms.set at_ (ms.getD at_ 0 + 1)) (z := (ms.set at_ (ms.getD at_ 0 + 1)).getD ot_ 0 - 1) upd_same (ev_op (ev_at (sq_of upd_same) (ev_var rfl) (ev_var rfl) (ixN_of rfl (by rw [List.length_set]; omega))) ev_c rv_I0) (ev_var rfl) (ev_var rfl) (ixN_of rfl (by rw [List.length_set]; omega)) fun H12 e12 => ?_
              have hb11 : ∀ z ∈ ms.set at_ (ms.getD at_ 0 + 1), z.natAbs ≤ 103 := fun z hz' => by
                rcases List.mem_or_eq_of_mem_set hz' with q | q
                · have := hb9 z q
                  omega
                · have := hb9 _ (Fz.getD_mem (show at_ < ms.length by omega))
                  rw [q]
                  omega
              refine ⟨rfl, _, Ex.mut ((Ex.mut ((hE9.trans e10).trans e11) hr).trans e12) hr, upd_same, by rw [List.length_set, List.length_set]; exact hl9, fun z hz' => ?_⟩
              rcases List.mem_or_eq_of_mem_set hz' with q | q
              · have := hb11 z q
                omega
              · have := hb11 _ (Fz.getD_mem (show ot_ < _ by rw [List.length_set]; omega))
                rw [q]
                omega
            · rintro H10 ⟨ms, hE10, h10, hl10, hb10⟩
              refine s_ret (ev_var rfl) fun H11 e11 => k ms r H11 hr (hE10.trans e11) (e11 _ _ h10) (by omega) (by omega) fun z hz' => ?_
              have := hb10 z hz'
              have e : (105 : Nat) < 2 ^ 200 := by decide
              generalize (2 : Nat) ^ 200 = n at *
              omega
theorem use_rowL {a : Addr} {ns : List Int} {H : Hp} (hs : SqL K H a (ns.map V.int)) (hz : ns.length ≤ 63) (hb : ∀ n ∈ ns, n.natAbs < 2 ^ 1048577) :
    SpX (spRowL K) ([.ref a] ++ []) H (fun v H' => ∃ (p : Addr) (ms : List Int), v = .ref p ∧ H p = none ∧ H' p = some (.lst (ms.map V.int)) ∧ 3 ≤ ms.length ∧ ms.length ≤ 63 ∧ Sml0 ms) := fun H1 e Q q E =>
  ⟨a, ns, rfl, ex_l e hs, hz, hb, fun ms p H' hp e1 h1 h2 h3 h4 => q _ H' e1 ⟨p, ms, rfl, fresh_back e hp, h1, h2, h3, h4⟩⟩
end
end FzW

namespace FzW
open PySem PySem.Spec PyProof.Rows L2 Evl FzL Fz Fz.Tr LamX
section
variable {P : Program} {w : World} {K : PySem.W.Frag} {mg : Str → Option Value} {base : Heap}
/-! _law_reduced -/
theorem go_is {s : CS} (hl : s.left.length = s.nums.length) : (decide (3 < s.left.length) && ((s.nums.all fun z => decide (0 < z)) && (s.nums.any fun z => decide (z = 1)))) = go s := by
  unfold go
  by_cases h : 3 < s.left.length
  · rw [decide_eq_true h, Bool.true_and, Bool.true_and]
    unfold cannot
    rw [if_pos (by omega), Bool.not_or, Bool.not_not, any_le]
  · rw [decide_eq_false h, Bool.false_and, Bool.false_and]
def spReduced (K : PySem.W.Frag) : Sp := fun vs H Q _ => ∃ (a : Addr) (ns : List Int), vs = [.ref a] ∧ SqL K H a (ns.map V.int) ∧ 3 ≤ ns.length ∧ ns.length ≤ 1000 ∧
  (cannot (fin ns).nums = true → ∀ H', Ex H H' → Q .non H') ∧ (cannot (fin ns).nums = false → ∀ (p : Addr) (vs : List V) (H' : Hp), H p = none → Ex H H' → H' p = some (.lst vs) → Prs K H' vs (srt (fin ns).cuts) → Q (.ref p) H')
theorem sc_reduced : FnScope ["_law_row_here", "_law_left", "_law_numbers", "_law_cuts", "_law_at", "_law_after"] ["_law_row_here"] (defScope s_reduced) := ⟨rfl, rfl, rfl, by decide +kernel, rfl, by decide +kernel, by decide +kernel⟩
theorem ok_reduced (D : Def K mg "_law_reduced" s_reduced ["_law_row_here"]) (B : Blt mg) : Cal P w K mg base CX0 1 "_law_reduced" ["_law_row_here"] (spReduced K) := by
  refine D.cal fun f fd F => F.ok sc_reduced (fun vs H Q E h => ?_) (fun cdv A' outer s H vs Q E hr h => ?_)
  · obtain ⟨a, ns, rfl, _⟩ := h
    rfl
  · obtain ⟨a, ns, rfl, hs, h3, hz, kN, kS⟩ := h
    refine ⟨_, pss_cons (ps_par3 (i := 1) (j := 2) (l := 3) rfl sc_reduced.nd rfl rfl rfl (by decide) (by decide) (by decide) rfl rfl rfl (pa_cons (pe_listRg rfl (by rfl) B.list (prg_1 (by rfl) B.range (len_of B (pv 0)))) (pa_cons (list_of B (pv 0)) (pa_cons (pe_lst pa_nil) pa_nil))) rfl) <|
      pss_cons (ps_while PassesOwn.never (PW.pt (pw_and (pt_cmpR op_gt (len_of B (pv 1)) pe_int (nomark _)) (pw_and (pt_cmpR op_gt (pe_callB (cr_min rfl) (by rfl) B.min boot_min (pa_cons (pv 2) pa_nil)) pe_int (nomark _)) (pw_and1 (pt_cmpR op_in_seq pe_int (pv 2) (by rfl))))))
        (pss_cons (ps_set (i := 4) sc_reduced.nd rfl (Or.inl rfl) (pe_bm PySem.F.plainAttrs_list PySem.F.slot_list_index PySem.F.type_list_index mt_index (pv 2) (pa_cons pe_int pa_nil))) <|
        pss_cons (ps_set (i := 5) sc_reduced.nd rfl (Or.inl rfl) (pe_op op_modN (pe_op op_add (pv 4) pe_int) (len_of B (pv 1)))) <|
        pss_cons (ps_expr (pe_bm PySem.F.plainAttrs_list PySem.F.slot_list_append PySem.F.type_list_append mt_append (pv 3) (pa_cons (pe_tup
          (pa_cons (pe_callB (r := rMn) (call_min2 rfl) (by rfl) B.min boot_min (pa_cons (pe_ix ix_list (pv 1) (pe_op op_sub (pv 4) pe_int) (fun _ _ => rfl)) (pa_cons (pe_ix ix_list (pv 1) (pv 5) (fun _ _ => rfl)) pa_nil)))
          (pa_cons (pe_callB (r := rMax2) (call_max2 rfl) (by rfl) B.max boot_max (pa_cons (pe_ix ix_list (pv 1) (pe_op op_sub (pv 4) pe_int) (fun _ _ => rfl)) (pa_cons (pe_ix ix_list (pv 1) (pv 5) (fun _ _ => rfl)) pa_nil))) pa_nil))) pa_nil))) <|
        pss_cons (ps_asg (pe_op op_sub (pe_ix ix_list (pv 2) (pe_op op_sub (pv 4) pe_int) (fun _ _ => rfl)) pe_int) (pg_sub (pv 2) (pe_op op_sub (pv 4) pe_int) set_list)) <|
        pss_cons (ps_asg (pe_op op_sub (pe_ix ix_list (pv 2) (pv 5) (fun _ _ => rfl)) pe_int) (pg_sub (pv 2) (pv 5) set_list)) <|
        pss_cons (ps_expr (pe_bm PySem.F.plainAttrs_list PySem.F.slot_list_pop PySem.F.type_list_pop mt_popAt (pv 1) (pa_cons (pv 4) pa_nil))) <|
        pss_one (ps_expr (pe_bm PySem.F.plainAttrs_list PySem.F.slot_list_pop PySem.F.type_list_pop mt_popAt (pv 2) (pa_cons (pv 4) pa_nil))))) <|
      pss_one (ps_ret (pe_ifExp (pt_cmpR (op_eqD hr.units) (pv 2) (pe_lst (pa_cons pe_int <| pa_cons pe_int <| pa_cons pe_int pa_nil)) (nomark _)) (pe_callB cr_sortedPO (by rfl) B.sorted boot_sorted (pa_cons (pv 3) pa_nil)) pe_non)), ?_⟩
    refine q_par3L (el_rg (n := ns.length) (ev_is (ev_len (ev_var rfl) hs) (by rw [List.length_map])) (by omega)) (fun H1 e1 => el_list (ev_var rfl) (ex_l e1 hs)) (fun H1 e1 => el_lst ea_nil (Nat.zero_le _)) fun L N C5 H5 L0 N0 C0 nLN nLC nNC e5 hL hN hC => ?_
    refine q_while (fun m σ' H' => ∃ (s : CS) (v5 v6 : Option V) (cv : List V), σ' = [some (.ref a), some (.ref L), some (.ref N), some (.ref C5), v5, v6] ∧ Ex H H' ∧ H' L = some (.lst (s.left.map V.int)) ∧ H' N = some (.lst (s.nums.map V.int)) ∧
      H' C5 = some (.lst cv) ∧ Prs K H' cv s.cuts ∧ s.left.length = s.nums.length ∧ 3 ≤ s.left.length ∧ s.left.length ≤ m + 3 ∧ m + s.cuts.length ≤ 1000 ∧ run m s = fin ns) ns.length
      ⟨start ns, none, none, [], rfl, e5, hL, hN, hC, .nil, rgI_length _, by
        show 3 ≤ (rgI ns.length).length
        rw [rgI_length]; exact h3, by
        show (rgI ns.length).length ≤ _
        rw [rgI_length]; omega, by
        show ns.length + 0 ≤ 1000
        omega, rfl⟩ ?_
    rintro m σ' H' ⟨s, v5, v6, cv, rfl, e6, hl6, hn6, hc6, hp6, hlen, hg3, hm, hz6, hrun⟩
    have hcl := hp6.len
    refine ⟨go s, et_is (et_and (et_test (ev_op (ev_len (ev_var rfl) (sq_of hl6)) ev_c rv_I0)) fun _ => et_and (et_minG (ev_var rfl) (sq_of hn6) (by omega)) fun _ => et_test (ev_op ev_c (ev_var rfl) (rv_isL (sq_of hn6) rfl (flat_ints s.nums)))) ?_, fun hgo H7 e7 => ?_, fun hgo H7 e7 => ?_⟩
    · rw [inV_ints, List.length_map, ← go_is hlen]
      congr 1
      exact decide_eq_decide.mpr (by omega)
    · obtain ⟨m', rfl, hrun'⟩ := run_go hgo hm
      rw [hrun'] at hrun
      have hgo' := hgo
      unfold go at hgo'
      rw [Bool.and_eq_true] at hgo'
      have hl4 : 3 < s.left.length := of_decide_eq_true hgo'.1
      have hcan : cannot s.nums = false := by
        have := hgo'.2
        cases hb : cannot s.nums with
        | true =>
          rw [hb] at this
          cases this
        | false => rfl
      obtain ⟨hi, h1v⟩ := idxOf_one ((cannot_no hcan).2.1 (by omega))
      have hmem : (1 : Int) ∈ s.nums := List.idxOf_lt_length_iff.mp hi
      refine ⟨_, fun _ _ h => ⟨m', Nat.lt_succ_self _, h⟩, ?_⟩
      have el := e7 _ _ hl6
      have en := e7 _ _ hn6
      refine q_asg (ev_index en (ev_var rfl) ev_c hmem) fun H8 e8 => ?_
      have el8 := e8 _ _ el
      have en8 := e8 _ _ en
      generalize hat : s.nums.idxOf 1 = at_ at *
      have hil : at_ < s.left.length := by omega
      refine q_asg (ev_nxt (n := s.left.length) (ev_var rfl) (ev_is (ev_len (ev_var rfl) (sq_of el8)) (by rw [List.length_map])) hil) fun H9 e9 => ?_
      have el9 := e9 _ _ el8
      have en9 := e9 _ _ en8
      have eC9 := e9 _ _ (e8 _ _ (e7 _ _ hc6))
      have hA : Ev (tOp (rIxL K) (tVar 1) (tOp (rI0 fun i j => .int (i - j)) (tVar 4) (tC (.int 1)))) [some (.ref a), some (.ref L), some (.ref N), some (.ref C5), some (.int (at_ : Int)), some (.int ((nxt s.left.length at_ : Nat) : Int))] H9 (.int (s.left.getD (prv s.left.length at_) 0)) :=
        ev_at (sq_of el9) (ev_var rfl) (ev_op (ev_var rfl) ev_c rv_I0) (ixN_prv hil)
      have hB : Ev (tOp (rIxL K) (tVar 1) (tVar 5)) [some (.ref a), some (.ref L), some (.ref N), some (.ref C5), some (.int (at_ : Int)), some (.int ((nxt s.left.length at_ : Nat) : Int))] H9 (.int (s.left.getD (nxt s.left.length at_) 0)) :=
        ev_at (sq_of el9) (ev_var rfl) (ev_var rfl) (ixN_of rfl (nxt_lt hil))
      refine q_appU (K := K) eC9 (ev_var rfl) (eu_tup (ea_cons (ev_mn hA hB) (ea_cons (ev_mx hA hB) ea_nil)) (by show 2 ≤ 100000; decide)) (by omega) fun u H10 hu e10 h10 => ?_
      have eC10 := e10 _ _ eC9
      have hH10 : Ex H H10 := (((e6.trans e7).trans e8).trans e9).trans e10
      have el10 : upd H10 C5 (.lst (cv ++ [.ref u])) L = some (.lst (s.left.map V.int)) := by
        rw [upd_ne nLC]
        exact e10 _ _ el9
      have en10 : upd H10 C5 (.lst (cv ++ [.ref u])) N = some (.lst (s.nums.map V.int)) := by
        rw [upd_ne nNC]
        exact e10 _ _ en9
      have hp10 : Prs K (upd H10 C5 (.lst (cv ++ [.ref u]))) (cv ++ [.ref u]) (s.cuts ++ [pairOf s.left at_]) :=
        prs_upd eC10 (Prs.snoc (hp6.mono (((e7.trans e8).trans e9).trans e10)) ⟨u, rfl, h10⟩)
      have hX10 : Ex H (upd H10 C5 (.lst (cv ++ [.ref u]))) := Ex.mut hH10 C0
      have hc10 : upd H10 C5 (.lst (cv ++ [.ref u])) C5 = some (.lst (cv ++ [.ref u])) := upd_same
      generalize upd H10 C5 (.lst (cv ++ [.ref u])) = J at *
      refine q_setI (z := s.nums.getD (prv s.nums.length at_) 0 - 1) en10 (ev_op (ev_at (sq_of en10) (ev_var rfl) (ev_op (ev_var rfl) ev_c rv_I0) (ixN_prv hi)) ev_c rv_I0) (ev_var rfl) (ev_op (ev_var rfl) ev_c rv_I0) (ixN_prv hi) fun J1 j1 => ?_
      have hnx : nxt s.left.length at_ = nxt s.nums.length at_ := by rw [hlen]
      refine q_setI (ns := decr s.nums (prv s.nums.length at_)) (z := (decr s.nums (prv s.nums.length at_)).getD (nxt s.nums.length at_) 0 - 1) upd_same (ev_op (ev_at (ns := decr s.nums (prv s.nums.length at_)) (sq_of upd_same) (ev_var rfl) (ev_var rfl) (ixN_of (by rw [hnx]) (by rw [decr_length]; exact nxt_lt hi))) ev_c rv_I0) (ev_var rfl) (ev_var rfl) (ixN_of (by rw [hnx]) (by rw [decr_length]; exact nxt_lt hi)) fun J2 j2 => ?_
      have en2 := j2 _ _ (upd_same (H := J1) (a := N) (o := .lst ((decr s.nums (prv s.nums.length at_)).map V.int)))
      have keep : ∀ b o, J b = some o → b ≠ N → upd J2 N (.lst ((decr (decr s.nums (prv s.nums.length at_)) (nxt s.nums.length at_)).map V.int)) b = some o := fun b o hb hne => by
        rw [upd_ne hne]
        refine j2 _ _ ?_
        rw [upd_ne hne]
        exact j1 _ _ hb
      have hX2 : Ex H (upd J2 N (.lst ((decr (decr s.nums (prv s.nums.length at_)) (nxt s.nums.length at_)).map V.int))) := Ex.mut ((Ex.mut (hX10.trans j1) N0).trans j2) N0
      have el2 := keep _ _ el10 nLN
      have hc2 := keep _ _ hc10 nNC.symm
      have hp2 : Prs K (upd J2 N (.lst ((decr (decr s.nums (prv s.nums.length at_)) (nxt s.nums.length at_)).map V.int))) (cv ++ [.ref u]) (s.cuts ++ [pairOf s.left at_]) := prs_upd en2 (Prs.mono j2 (prs_upd (j1 _ _ en10) (hp10.mono j1)))
      have hn2 : upd J2 N (.lst ((decr (decr s.nums (prv s.nums.length at_)) (nxt s.nums.length at_)).map V.int)) N = some (.lst ((decr (decr s.nums (prv s.nums.length at_)) (nxt s.nums.length at_)).map V.int)) := upd_same
      refine q_popI (ns := s.left) el2 (ev_var rfl) (ev_var rfl) hil (by omega) fun M1 m1 => ?_
      have hn3 : upd M1 L (.lst ((s.left.eraseIdx at_).map V.int)) N = some (.lst ((decr (decr s.nums (prv s.nums.length at_)) (nxt s.nums.length at_)).map V.int)) := by
        rw [upd_ne nLN.symm]
        exact m1 _ _ hn2
      refine s_popI (ns := decr (decr s.nums (prv s.nums.length at_)) (nxt s.nums.length at_)) hn3 (ev_var rfl) (ev_var rfl) (by rw [decr_length, decr_length]; omega) (by rw [decr_length, decr_length]; omega) fun M2 m2 => ?_
      have hn4 := m2 _ _ hn3
      refine ⟨cutAt s at_, _, _, cv ++ [.ref u], rfl, Ex.mut ((Ex.mut (hX2.trans m1) L0).trans m2) N0, ?_, upd_same, ?_, ?_, ?_, ?_, ?_, ?_, hrun⟩
      · rw [upd_ne nLN]
        exact m2 _ _ upd_same
      · rw [upd_ne nNC.symm]
        refine m2 _ _ ?_
        rw [upd_ne nLC.symm]
        exact m1 _ _ hc2
      · exact prs_upd hn4 (Prs.mono m2 (prs_upd (m1 _ _ el2) (hp2.mono m1)))
      · show (s.left.eraseIdx at_).length = (cutOff s.nums at_).length
        rw [cutOff_length hi, List.length_eraseIdx, if_pos hil, hlen]
      · show 3 ≤ (s.left.eraseIdx at_).length
        rw [List.length_eraseIdx, if_pos hil]
        omega
      · show (s.left.eraseIdx at_).length ≤ _
        rw [List.length_eraseIdx, if_pos hil]
        omega
      · show m' + (s.cuts ++ [pairOf s.left at_]).length ≤ 1000
        rw [List.length_append]
        show m' + (s.cuts.length + 1) ≤ 1000
        omega
    · rw [run_end hgo] at hrun
      subst hrun
      have en7 := e7 _ _ hn6
      have ec7 := e7 _ _ hc6
      have h67 := e6.trans e7
      have h1 := fin_ones h3
      refine s_retX (P := fun v H2 => ((fin ns).nums = [1, 1, 1] ∧ ∃ (p : Addr) (ys : List V), v = .ref p ∧ H7 p = none ∧ H2 p = some (.lst ys) ∧ Prs K H2 ys (srt (fin ns).cuts)) ∨ ((fin ns).nums ≠ [1, 1, 1] ∧ v = .non))
        (evx_if (b := decide ((fin ns).nums = [1, 1, 1])) (et_test (ev_opL (ev_var rfl) (el_lst (ea_cons ev_c <| ea_cons ev_c <| ea_cons ev_c ea_nil) (by show 3 ≤ 100000; decide)) fun p H8 hp e8 => rv_eqD (dp_ints (sq_of (e8 _ _ en7))) (dp_ints (ns := [1, 1, 1]) (sq_of hp)) (shaped_ints _) (shaped_ints _) (eqv_ints _ _)))
          (fun hb => (evx_sorted (ev_var rfl) (sq_of ec7) (hp6.mono e7)).imp fun v H2 _ ⟨p, ys, q1, q2, q3, q4⟩ => .inl ⟨of_decide_eq_true hb, p, ys, q1, q2, q3, q4⟩)
          (fun hb => (evx_ev ev_c).imp fun v H2 _ q => .inr ⟨of_decide_eq_false hb, q⟩)) fun v H8 e8 hv => ?_
      rcases hv with ⟨h, p, ys, rfl, q2, q3, q4⟩ | ⟨h, rfl⟩
      · exact kS (h1.mpr h) p ys H8 (fresh_back h67 q2) (h67.trans e8) q3 q4
      · refine kN ?_ H8 (h67.trans e8)
        cases hc : cannot (fin ns).nums with
        | true => rfl
        | false => exact absurd (h1.mp hc) h
theorem use_reduced {a : Addr} {ns : List Int} {H : Hp} (hs : H a = some (.lst (ns.map V.int))) (h3 : 3 ≤ ns.length) (hz : ns.length ≤ 66) :
    SpX (spReduced K) ([.ref a] ++ []) H (fun v H' => (cannot (fin ns).nums = true ∧ v = .non) ∨ (cannot (fin ns).nums = false ∧ ∃ (p : Addr) (vs : List V), v = .ref p ∧ H p = none ∧ H' p = some (.lst vs) ∧ Prs K H' vs (srt (fin ns).cuts))) := fun H1 e Q q E =>
  ⟨a, ns, rfl, sq_of (e _ _ hs), h3, by omega, fun hc H' e1 => q _ H' e1 (.inl ⟨hc, rfl⟩), fun hc p vs H' hp e1 h1 h2 => q _ H' e1 (.inr ⟨hc, p, vs, rfl, fresh_back e hp, h1, h2⟩)⟩
end
end FzW

namespace FzW
open PySem PySem.Spec PyProof.Rows L2 Evl FzL Fz Fz.Tr LamX
abbrev s_check_corner : Stmt := topS 11
abbrev s_numbers_from : Stmt := topS 12
abbrev s_between : Stmt := topS 13
abbrev s_table : Stmt := topS 14
abbrev s_grown : Stmt := topS 24
section
variable {P : Program} {w : World} {K : PySem.W.Frag} {mg : Str → Option Value} {base : Heap}
/-! check_corner, of corners -/
def spCorner (K : PySem.W.Frag) : Sp := fun vs H Q _ => ∃ (a : Addr) (ns : List Int) (c : Nat), vs = [.ref a, .int (c : Int)] ∧ SqL K H a (ns.map V.int) ∧ c < ns.length ∧ RetV .non H Q
theorem sc_check_corner : FnScope ["row", "corner"] ["row", "corner"] (defScope s_check_corner) := ⟨rfl, rfl, rfl, by decide +kernel, rfl, by decide +kernel, by decide +kernel⟩
theorem ok_check_corner (D : Def K mg "check_corner" s_check_corner ["row", "corner"]) (B : Blt mg) (W : Cal P w K mg base CX0 1 "is_whole" ["thing"] (spWhole K)) : Cal P w K mg base CX0 2 "check_corner" ["row", "corner"] (spCorner K) := by
  refine D.cal fun f fd F => F.ok sc_check_corner (fun vs H Q E h => ?_) (fun cdv A outer s H vs Q E hr h => ?_)
  · obtain ⟨a, ns, c, rfl, _⟩ := h
    rfl
  · obtain ⟨a, ns, c, rfl, hs, hc, k⟩ := h
    refine ⟨_, pss_one (ps_if (PW.pt (pw_or (pt_not (pt_val (pe_n W hr (Nat.le_refl _) (by rfl) pass0 (pa_cons (pv 1) pa_nil)))) (pw_or1 (pt_not (pt_chain op_le op_lt pe_int (pv 1) (len_of B (pv 0))))))) (pss_one ps_never) pss_nil), ?_⟩
    refine s_if (b := false) (et_orN (et_notI (et_B (ev_call (ea_cons (ev_var rfl) ea_nil) (use_whole (whole_int _)))) rfl) (et_notI (et_test (ev_chain (ev_c) (ev_var rfl) rv_I0 (fun _ => ev_len (ev_var rfl) hs) fun _ => rv_I0)) ?_)) (fun z => nomatch z) fun _ H1 e => k H1 e
    rw [decide_eq_true (by omega), decide_eq_true (by rw [List.length_map]; omega)]
    rfl
/-! numbers_from -/
def spNums (K : PySem.W.Frag) : Sp := fun vs H Q _ => ∃ (a : Addr) (ns : List Int) (c s : Nat), vs = [.ref a, .int (c : Int), .int (s : Int)] ∧ SqL K H a (ns.map V.int) ∧ 0 < ns.length ∧ ns.length ≤ 1000 ∧ Sml ns ∧ s ≤ 1000 ∧ RetL ((numsF ns c s).map V.int) H Q
theorem use_nums {a : Addr} {ns : List Int} {c s : Nat} {H : Hp} (hs : SqL K H a (ns.map V.int)) (h0 : 0 < ns.length) (hz : ns.length ≤ 1000) (hm : Sml ns) (hn : s ≤ 1000) : SpL (spNums K) ([.ref a, .int (c : Int), .int (s : Int)] ++ []) H ((numsF ns c s).map V.int) :=
  fun H1 e Q q E => ⟨a, ns, c, s, rfl, ex_l e hs, h0, hz, hm, hn, q⟩
theorem nums_mul {ns : List Int} (hm : Sml ns) (i c : Nat) {j : Nat} (hj : j ≤ 1001) : CMulX (ns.getD i 0) (btw ns c j) := by
  have ha : (ns.getD i 0).natAbs < 2 ^ 201 := by
    by_cases hl : i < ns.length
    · exact hm _ (Fz.getD_mem hl)
    · rw [List.getD_eq_getElem?_getD, List.getElem?_eq_none (by omega)]
      decide
  refine mulx_ok ha (btw_bound (b := 201) hm c j).1 ?_
  omega
theorem numsF_take {ns : List Int} {c s k : Nat} (h : s + 1 ≤ k) : ((List.range k).map (btw ns c)).take (s + 1) = numsF ns c s := by
  unfold numsF
  rw [← List.map_take, List.take_range, Nat.min_eq_left h]
theorem sc_numbers_from : FnScope ["row", "corner", "steps", "found", "end"] ["row", "corner", "steps"] (defScope s_numbers_from) := ⟨rfl, rfl, rfl, by decide +kernel, rfl, by decide +kernel, by decide +kernel⟩
theorem ok_numbers_from (D : Def K mg "numbers_from" s_numbers_from ["row", "corner", "steps"]) (B : Blt mg) : Cal P w K mg base CX0 1 "numbers_from" ["row", "corner", "steps"] (spNums K) := by
  refine D.cal fun f fd F => F.ok sc_numbers_from (fun vs H Q E h => ?_) (fun cdv A outer s H vs Q E hr h => ?_)
  · obtain ⟨a, ns, c, s, rfl, _⟩ := h
    rfl
  · obtain ⟨a, ns, c, st, rfl, hs, h0, hz, hm, hn, k⟩ := h
    refine ⟨_, pss_cons (ps_set (i := 3) sc_numbers_from.nd rfl (Or.inl rfl) (pe_lst (pa_cons pe_int (pa_cons pe_int pa_nil)))) <|
      pss_cons (ps_while PassesOwn.never (pt_cmpR op_le (len_of B (pv 3)) (pv 2) (nomark _))
        (pss_cons (ps_set (i := 4) sc_numbers_from.nd rfl (Or.inl rfl) (pe_op op_modN (pe_op op_sub (pe_op op_add (pv 1) (len_of B (pv 3))) pe_int) (len_of B (pv 0)))) <|
         pss_one (ps_expr (pe_bm PySem.F.plainAttrs_list PySem.F.slot_list_append PySem.F.type_list_append mt_append (pv 3) (pa_cons (pe_op op_sub (pe_op op_mulX (pe_ix ix_list (pv 0) (pv 4) (fun _ _ => rfl)) (pe_ix ix_list (pv 3) (pe_un un_neg pe_int) (fun _ _ => rfl))) (pe_ix ix_list (pv 3) (pe_un un_neg pe_int) (fun _ _ => rfl))) pa_nil))))) <|
      pss_one (ps_ret (pe_slice sl_list (pv 3) po_none (po_some (pe_op op_add (pv 2) pe_int)))), ?_⟩
    refine q_asgL (xs := ((List.range 2).map (btw ns c)).map V.int) (el_lst (ea_cons ev_c <| ea_cons ev_c ea_nil) (by show 2 ≤ 100000; decide)) fun fd H1 hfd e1 h1 => ?_
    refine q_while (fun m σ' H' => ∃ (v4 : Option V) (j : Nat), σ' = [some (.ref a), some (.int (c : Int)), some (.int (st : Int)), some (.ref fd), v4] ∧ Ex H H' ∧ H' fd = some (.lst (((List.range (j + 2)).map (btw ns c)).map V.int)) ∧ m + j = st) st ⟨none, 0, rfl, e1, h1, rfl⟩ ?_
    rintro m σ' H' ⟨v4, j, rfl, e2, h2, hmj⟩
    have hsq := sq_of (K := K) h2
    refine ⟨decide (j + 2 ≤ st), et_is (et_test (ev_op (ev_len (ev_var rfl) hsq) (ev_var rfl) rv_I0)) ?_, fun hb H3 e3 => ?_, fun hb H3 e3 => ?_⟩
    · rw [List.length_map, bw_len]
      exact decide_eq_decide.mpr (by omega)
    · have hj := of_decide_eq_true hb
      obtain ⟨m', rfl⟩ : ∃ m', m = m' + 1 := ⟨m - 1, by omega⟩
      refine ⟨_, fun _ _ h => ⟨m', Nat.lt_succ_self _, h⟩, ?_⟩
      have h3 := e3 _ _ h2
      have hs3 := ex_l (e2.trans e3) hs
      have hlt : (c + (j + 1)) % ns.length < ns.length := Nat.mod_lt _ h0
      refine q_asg (v := .int (((c + (j + 1)) % ns.length : Nat) : Int)) (ev_is (ev_op (ev_op (ev_op (ev_var rfl) (ev_len (ev_var rfl) (sq_of h3)) rv_I0) ev_c rv_I0) (ev_is (ev_len (ev_var rfl) hs3) (by rw [List.length_map])) (rv_mod (by omega))) ?_) fun H4 e4 => ?_
      · rw [List.length_map, bw_len, Int.fmod_eq_emod_of_nonneg _ (by omega)]
        have : (c : Int) + ((j + 2 : Nat) : Int) - 1 = ((c + (j + 1) : Nat) : Int) := by omega
        rw [this]
        rfl
      have h4 := e4 _ _ h3
      have hs4 := ex_l e4 hs3
      have hL := bw_len ns c (j + 2)
      refine s_app (K := K) h4 (ev_var rfl) (ev_op (ev_op (ev_at hs4 (ev_var rfl) (ev_var rfl) (ixN_of rfl hlt)) (ev_at (sq_of h4) (ev_var rfl) (ev_un ev_c ru_neg) (j := j + 1) (by rw [hL]; exact ixN_neg (by omega))) (rv_I (by rw [bw_getD ns c (by omega)]; exact nums_mul hm _ c (by omega)))) (ev_at (sq_of h4) (ev_var rfl) (ev_un ev_c ru_neg) (j := j) (by rw [hL]; exact ixN_m2 (by omega))) rv_I0) (by rw [List.length_map, hL]; omega) fun H5 e5 => ?_
      refine ⟨_, j + 1, rfl, Ex.mut (((e2.trans e3).trans e4).trans e5) hfd, ?_, by omega⟩
      have hx : (List.range (j + 1 + 2)).map (btw ns c) = (List.range (j + 2)).map (btw ns c) ++ [btw ns c (j + 2)] := by
        rw [show j + 1 + 2 = (j + 2) + 1 by omega, List.range_succ, List.map_append]
        rfl
      rw [upd_same, bw_getD ns c (by omega), bw_getD ns c (by omega), hx, List.map_append, btw_rec]
      rfl
    · have hj := of_decide_eq_false hb
      refine s_retL (xs := (numsF ns c st).map V.int) (by
        have ht := numsF_take (ns := ns) (c := c) (s := st) (k := j + 2) (by omega)
        rw [← ht, List.map_take]
        exact el_take (c := st + 1) (ev_var rfl) (sq_of (e3 _ _ h2)) (ev_op (ev_var rfl) ev_c rv_I0) rfl) fun p H4 hp e4 h4 => k p H4 (fresh_back (e2.trans e3) hp) ((e2.trans e3).trans e4) h4
/-! between -/
def spBtw (K : PySem.W.Frag) : Sp := fun vs H Q _ => ∃ (a : Addr) (ns : List Int) (c s : Nat), vs = [.ref a, .int (c : Int), .int (s : Int)] ∧ H a = some (.lst (ns.map V.int)) ∧ 3 ≤ ns.length ∧ ns.length ≤ 1000 ∧ Sml ns ∧ c < ns.length ∧ s ≤ 1000 ∧ RetV (.int (btw ns c s)) H Q
theorem use_btw {a : Addr} {ns : List Int} {c s : Nat} {H : Hp} (hs : H a = some (.lst (ns.map V.int))) (h0 : 3 ≤ ns.length) (hz : ns.length ≤ 1000) (hm : Sml ns) (hc : c < ns.length) (hn : s ≤ 1000) : SpV (spBtw K) ([.ref a, .int (c : Int), .int (s : Int)] ++ []) H (.int (btw ns c s)) :=
  fun H1 e Q q E => ⟨a, ns, c, s, rfl, e _ _ hs, h0, hz, hm, hc, hn, q⟩
theorem numsF_last (ns : List Int) (c s : Nat) : atI ((numsF ns c s).map V.int) (-1) = some (.int (btw ns c s)) := by
  have hl : (numsF ns c s).length = s + 1 := bw_len ns c (s + 1)
  have h := at_ix (ns := numsF ns c s) (i := -1) (j := s) (by rw [hl]; exact ixN_neg (by omega))
  rw [h]
  unfold numsF
  rw [bw_getD ns c (by omega)]
theorem sc_between : FnScope ["row", "corner", "steps"] ["row", "corner", "steps"] (defScope s_between) := ⟨rfl, rfl, rfl, by decide +kernel, rfl, by decide +kernel, by decide +kernel⟩
theorem ok_between (D : Def K mg "between" s_between ["row", "corner", "steps"]) (B : Blt mg) {tk : Tok} (hF : mg "FARTHEST" = some (.int 1000 tk)) (W : Cal P w K mg base CX0 1 "is_whole" ["thing"] (spWhole K)) (R : Cal P w K mg base CX0 2 "check_row" ["row"] (spRowOk K)) (C : Cal P w K mg base CX0 2 "check_corner" ["row", "corner"] (spCorner K))
    (N : Cal P w K mg base CX0 1 "numbers_from" ["row", "corner", "steps"] (spNums K)) : Cal P w K mg base CX0 3 "between" ["row", "corner", "steps"] (spBtw K) := by
  refine D.cal fun f fd F => F.ok sc_between (fun vs H Q E h => ?_) (fun cdv A outer s H vs Q E hr h => ?_)
  · obtain ⟨a, ns, c, s, rfl, _⟩ := h
    rfl
  · obtain ⟨a, ns, c, st, rfl, hs, h3, hz, hm, hc, hn, k⟩ := h
    refine ⟨_, pss_cons (ps_expr (pe_n R hr (by decide) (by rfl) pass0 (pa_cons (pv 0) pa_nil))) <| pss_cons (ps_expr (pe_n C hr (by decide) (by rfl) pass0 (pa_cons (pv 0) (pa_cons (pv 1) pa_nil)))) <|
      pss_cons (ps_if (PW.pt (pw_or (pt_not (pt_val (pe_n W hr (by decide) (by rfl) pass0 (pa_cons (pv 2) pa_nil)))) (pw_or1 (pt_not (pt_chain op_le op_le pe_int (pv 2) (pe_glob (v := .int 1000) (by rfl) hF ⟨_, rfl⟩)))))) (pss_one ps_never) pss_nil) <|
      pss_one (ps_ret (pe_ix ix_list (pe_n N hr (by decide) (by rfl) pass0 (pa_cons (pv 0) (pa_cons (pv 1) (pa_cons (pv 2) pa_nil)))) (pe_un un_neg pe_int) (fun _ _ => rfl))), ?_⟩
    refine q_drop (ev_call (z := .non) (ea_cons (ev_var rfl) ea_nil) (fun H1 e Q q E => ⟨a, ns, rfl, sq_of (e _ _ hs), .base (.lst (e _ _ hs)), h3, hz, q⟩)) fun H1 e1 => ?_
    refine q_drop (ev_call (z := .non) (ea_cons (ev_var rfl) (ea_cons (ev_var rfl) ea_nil)) (fun H2 e Q q E => ⟨a, ns, c, rfl, sq_of (e _ _ (e1 _ _ hs)), hc, q⟩)) fun H2 e2 => ?_
    refine q_when (b := false) (et_orN (et_notI (et_B (ev_call (ea_cons (ev_var rfl) ea_nil) (use_whole (whole_int _)))) rfl) (et_notI (et_test (ev_chain ev_c (ev_var rfl) rv_I0 (fun _ => ev_c) fun _ => rv_I0)) (by rw [decide_eq_true (by omega), decide_eq_true (by omega)]; rfl))) (fun z => nomatch z) fun _ H3 e3 => ?_
    have e13 := (e1.trans e2).trans e3
    refine s_ret (ev_opL1 (el_call (ea_cons (ev_var rfl) (ea_cons (ev_var rfl) (ea_cons (ev_var rfl) ea_nil))) (use_nums (sq_of (e13 _ _ hs)) (by omega) hz hm hn)) (fun H4 e4 => ev_un ev_c ru_neg) fun p H4 h4 e4 => rv_ixL (sq_of h4) (numsF_last ns c st)) fun H4 e4 => k H4 (e13.trans e4)
/-! table -/
def tblF (ns : List Int) : List (List Int) := (List.range ns.length).map fun c => numsF ns c ns.length
def spTable (K : PySem.W.Frag) : Sp := fun vs H Q _ => ∃ (a : Addr) (ns : List Int), vs = [.ref a] ∧ H a = some (.lst (ns.map V.int)) ∧ 3 ≤ ns.length ∧ ns.length ≤ 900 ∧ Sml ns ∧ RetX (NT H (tblF ns)) H Q
theorem tblF_len (ns : List Int) : (tblF ns).length = ns.length := by
  unfold tblF
  rw [List.length_map, List.length_range]
theorem tblF_get (ns : List Int) {i : Nat} (h : i < ns.length) : (tblF ns).getD i [] = numsF ns i ns.length := by
  unfold tblF
  rw [List.getD_eq_getElem?_getD, List.getElem?_map, List.getElem?_range h]
  rfl
theorem sc_table : FnScope ["row", "corner"] ["row"] (defScope s_table) := ⟨rfl, rfl, rfl, by decide +kernel, rfl, by decide +kernel, by decide +kernel⟩
theorem ok_table (D : Def K mg "table" s_table ["row"]) (B : Blt mg) (R : Cal P w K mg base CX0 2 "check_row" ["row"] (spRowOk K)) (N : Cal P w K mg base CX0 1 "numbers_from" ["row", "corner", "steps"] (spNums K)) : Cal P w K mg base CX0 3 "table" ["row"] (spTable K) := by
  refine D.cal fun f fd F => F.ok sc_table (fun vs H Q E h => ?_) (fun cdv A outer s H vs Q E hr h => ?_)
  · obtain ⟨a, ns, rfl, _⟩ := h
    rfl
  · obtain ⟨a, ns, rfl, hs, h3, hz, hm, k⟩ := h
    refine ⟨_, pss_cons (ps_expr (pe_n R hr (by decide) (by rfl) pass0 (pa_cons (pv 0) pa_nil))) <|
      pss_one (ps_ret (pe_lc (own := [("corner", 1)]) (g := gName 1) (tt := tYes) (te := tCall (spNums K) [] E0 (tCons (tVar 0) (tCons (tVar 1) (tCons (tCB (rLenS K) (tCons (tVar 0) tNil)) tNil)))) rfl sc_table.nd (pi_range1 (by rfl) B.range (pa_cons (len_of B (pv 0)) pa_nil)) (blkOk_by (N := ["row", "corner"]) (sc := defScope s_table) (by decide +kernel))
        (fun _ _ _ _ _ => pg_name (i := 1) sc_table.nd rfl (Or.inl rfl)) (fun _ _ _ _ _ => pts_nil) (fun _ _ _ _ _ => pe_n N hr (by decide) (by rfl) pass0 (pa_cons (pv 0) (pa_cons (pv 1) (pa_cons (len_of B (pv 0)) pa_nil)))))), ?_⟩
    refine q_drop (ev_call (z := .non) (ea_cons (ev_var rfl) ea_nil) (fun H1 e Q q E => ⟨a, ns, rfl, sq_of (e _ _ hs), .base (.lst (e _ _ hs)), h3, by omega, q⟩)) fun H1 e1 => ?_
    have hs1 := e1 _ _ hs
    refine s_retX (nt_rg (mss := tblF ns) (n := ns.length) (ea_cons (ev_is (ev_len (ev_var rfl) (sq_of hs1)) (by rw [List.length_map])) ea_nil) (by omega) (tblF_len ns) (fun x => rfl) fun i Hx ex hi => ?_) fun v H2 e2 ⟨p, bs, q1, q2, q3, q4, q5, q6⟩ => k v H2 (e1.trans e2) ⟨p, bs, q1, fresh_back e1 q2, q3, fun b hb => ⟨fresh_back e1 (q4 b hb).1, (q4 b hb).2⟩, q5, q6⟩
    rw [tblF_get ns hi]
    exact el_call (ea_cons (ev_var rfl) (ea_cons (ev_var rfl) (ea_cons (ev_is (ev_len (ev_var rfl) (sq_of (ex _ _ hs1))) (by rw [List.length_map])) ea_nil))) (use_nums (sq_of (ex _ _ hs1)) (by omega) (by omega) hm (by omega))
/-! grown -/
theorem grow_incr {ns : List Int} {c : Nat} (h : 2 ≤ ns.length) (hc : c < ns.length) : incr (incr ns c) (nxt ns.length c) = grow1 ns c := by
  have hne : c ≠ nxt ns.length c := by
    unfold nxt
    split <;> omega
  refine ext_getD (by rw [incr_length, incr_length, grow1_length]) fun j hj => ?_
  rw [incr_length, incr_length] at hj
  rw [incr_getD _ (by rw [incr_length]; exact hj), incr_getD _ hj, grow1_getD hj]
  by_cases e1 : j = c
  · rw [if_pos e1, if_neg (by omega), if_pos (Or.inl e1)]
    omega
  · by_cases e2 : j = nxt ns.length c
    · rw [if_neg e1, if_pos e2, if_pos (Or.inr e2)]
      omega
    · rw [if_neg e1, if_neg e2, if_neg (by omega)]
      omega
def spGrow (K : PySem.W.Frag) : Sp := fun vs H Q _ => ∃ (a : Addr) (ns : List Int) (c : Nat), vs = [.ref a, .int (c : Int)] ∧ H a = some (.lst (ns.map V.int)) ∧ 3 ≤ ns.length ∧ ns.length ≤ 1000 ∧ c < ns.length ∧ RetL ((growL ns c).map V.int) H Q
theorem sc_grown : FnScope ["row", "corner", "found"] ["row", "corner"] (defScope s_grown) := ⟨rfl, rfl, rfl, by decide +kernel, rfl, by decide +kernel, by decide +kernel⟩
theorem ok_grown (D : Def K mg "grown" s_grown ["row", "corner"]) (B : Blt mg) (R : Cal P w K mg base CX0 2 "check_row" ["row"] (spRowOk K)) (C : Cal P w K mg base CX0 2 "check_corner" ["row", "corner"] (spCorner K)) : Cal P w K mg base CX0 3 "grown" ["row", "corner"] (spGrow K) := by
  refine D.cal fun f fd F => F.ok sc_grown (fun vs H Q E h => ?_) (fun cdv A outer s H vs Q E hr h => ?_)
  · obtain ⟨a, ns, c, rfl, _⟩ := h
    rfl
  · obtain ⟨a, ns, c, rfl, hs, h3, hz, hc, k⟩ := h
    refine ⟨_, pss_cons (ps_expr (pe_n R hr (by decide) (by rfl) pass0 (pa_cons (pv 0) pa_nil))) <| pss_cons (ps_expr (pe_n C hr (by decide) (by rfl) pass0 (pa_cons (pv 0) (pa_cons (pv 1) pa_nil)))) <|
      pss_cons (ps_set (i := 2) sc_grown.nd rfl (Or.inl rfl) (list_of B (pv 0))) <|
      pss_cons (ps_augS (pv 2) (pv 1) pg_list pe_int ip_add set_list) <|
      pss_cons (ps_augS (pv 2) (pe_op op_modN (pe_op op_add (pv 1) pe_int) (len_of B (pv 0))) pg_list pe_int ip_add set_list) <|
      pss_one (ps_ret (pe_op op_cat (pe_op op_cat (pe_slice sl_list (pv 2) po_none (po_some (pe_op op_add (pv 1) pe_int))) (pe_lst (pa_cons pe_int pa_nil))) (pe_slice sl_list (pv 2) (po_some (pe_op op_add (pv 1) pe_int)) po_none))), ?_⟩
    refine q_drop (ev_call (z := .non) (ea_cons (ev_var rfl) ea_nil) (fun H1 e Q q E => ⟨a, ns, rfl, sq_of (e _ _ hs), .base (.lst (e _ _ hs)), h3, hz, q⟩)) fun H1 e1 => ?_
    refine q_drop (ev_call (z := .non) (ea_cons (ev_var rfl) (ea_cons (ev_var rfl) ea_nil)) (fun H2 e Q q E => ⟨a, ns, c, rfl, sq_of (e _ _ (e1 _ _ hs)), hc, q⟩)) fun H2 e2 => ?_
    have hs2 := e2 _ _ (e1 _ _ hs)
    refine q_asgL (el_list (ev_var rfl) (sq_of hs2)) fun l H3 hl e3 h3' => ?_
    have hal : a ≠ l := ne_of_none hs2 hl
    refine q_augL (f := fun i j => i + j) h3' (ev_var rfl) (ev_var rfl) ev_c (ixN_of rfl hc) fun H4 e4 => ?_
    have ha4 : upd H4 l (.lst ((ns.set c (ns.getD c 0 + 1)).map V.int)) a = some (.lst (ns.map V.int)) := by
      rw [upd_ne hal]
      exact e4 _ _ (e3 _ _ hs2)
    refine q_augL (f := fun i j => i + j) (ns := incr ns c) upd_same (ev_var rfl) (ev_nxt (n := ns.length) (ev_var rfl) (ev_is (ev_len (ev_var rfl) (sq_of ha4)) (by rw [List.length_map])) hc) ev_c (ixN_of rfl (by rw [incr_length]; exact nxt_lt hc)) fun H5 e5 => ?_
    have hgl : upd H5 l (.lst (((incr ns c).set (nxt ns.length c) ((incr ns c).getD (nxt ns.length c) 0 + 1)).map V.int)) l = some (.lst ((grow1 ns c).map V.int)) := by
      rw [upd_same, ← grow_incr (by omega) hc]
      rfl
    have hE : Ex H (upd H5 l (.lst (((incr ns c).set (nxt ns.length c) ((incr ns c).getD (nxt ns.length c) 0 + 1)).map V.int))) := Ex.mut ((Ex.mut (((e1.trans e2).trans e3).trans e4) (fresh_back (e1.trans e2) hl)).trans e5) (fresh_back (e1.trans e2) hl)
    generalize upd H5 l (.lst (((incr ns c).set (nxt ns.length c) ((incr ns c).getD (nxt ns.length c) 0 + 1)).map V.int)) = G at *
    have ht : (growL ns c).map V.int = (((grow1 ns c).map V.int).take (c + 1) ++ [V.int 1]) ++ ((grow1 ns c).map V.int).drop (c + 1) := by
      unfold growL
      rw [List.map_append, List.map_append, List.map_take, List.map_drop]
      rfl
    rw [ht] at k
    refine s_retL (el_cat (el_cat (el_take (ev_var rfl) (sq_of hgl) (ev_op (ev_var rfl) ev_c rv_I0) rfl) (fun H2 e2 => el_lst (ea_cons ev_c ea_nil) (by show 1 ≤ 100000; decide)) ?_) (fun H2 e2 => el_drop (ev_var rfl) (sq_of (e2 _ _ hgl)) (ev_op (ev_var rfl) ev_c rv_I0) rfl) ?_) fun p H2 hp e2 h2 => k p H2 (fresh_back hE hp) (hE.trans e2) h2
    · rw [List.length_take, List.length_map, grow1_length]
      show _ + 1 ≤ _
      omega
    · rw [List.length_append, List.length_take, List.length_drop, List.length_map, grow1_length]
      show _ + 1 + _ ≤ _
      omega
end
end FzW

namespace FzW
open PySem PySem.Spec PyProof.Rows L2 Evl FzL Fz Fz.Tr LamX
abbrev s_check_cuts : Stmt := topS 20
abbrev s_row_of : Stmt := topS 21
section
variable {P : Program} {w : World} {K : PySem.W.Frag} {mg : Str → Option Value} {base : Heap} {T : List (Addr × Str)}
/-! check_cuts, of cuttings -/
def spCuts (K : PySem.W.Frag) (T : List (Addr × Str)) : Sp := fun vs H Q _ => ∃ (n : Nat) (a : Addr) (xs : List V) (ps : List PI), vs = [.int (n : Int), .ref a] ∧ 3 ≤ n ∧ H a = some (.lst xs) ∧ Prs K H xs ps ∧ ps.length < 64 ∧ isCutting (n : Int) ps = true ∧ Tabs T H ∧ RetN T .non H Q
theorem sc_check_cuts : FnScope ["corners", "cuts"] ["corners", "cuts"] (defScope s_check_cuts) := ⟨rfl, rfl, rfl, by decide +kernel, rfl, by decide +kernel, by decide +kernel⟩
theorem ok_check_cuts (D : Def K mg "check_cuts" s_check_cuts ["corners", "cuts"]) (B : Blt mg) (W : Cal P w K mg base CX0 1 "is_whole" ["thing"] (spWhole K)) (C : Cal P w K mg base CX0 3 "is_cutting" ["corners", "cuts"] (spCutting K T)) : Cal P w K mg base CX0 4 "check_cuts" ["corners", "cuts"] (spCuts K T) := by
  refine D.cal fun f fd F => F.ok sc_check_cuts (fun vs H Q E h => ?_) (fun cdv A outer s H vs Q E hr h => ?_)
  · obtain ⟨n, a, xs, ps, rfl, _⟩ := h
    rfl
  · obtain ⟨n, a, xs, ps, rfl, h3, hs, hp, h64, hc, hT, k⟩ := h
    refine ⟨_, pss_one (ps_if (PW.pt (pw_or (pt_not (pt_val (pe_n W hr (by decide) (by rfl) pass0 (pa_cons (pv 0) pa_nil)))) (pw_or (pt_cmpR op_lt (pv 0) pe_int (nomark _)) (pw_or1 (pt_not (pt_val (pe_n C hr (by decide) (by rfl) pass0 (pa_cons (pv 0) (pa_cons (pv 1) pa_nil))))))))) (pss_one ps_never) pss_nil), ?_⟩
    refine s_ifN (T := T) (b := false) (nt_is (nt_or (nt_of (et_notI (et_B (ev_call (ea_cons (ev_var rfl) ea_nil) (use_whole (whole_int _)))) rfl) hT) fun _ H1 e1 T1 => nt_or (nt_of (et_test (ev_op (ev_var rfl) ev_c rv_I0)) T1) fun _ H2 e2 T2 => nt_not (nt_B (nv_call (v := .bl (isCutting (n : Int) ps)) (na_of (ea_cons (ev_var rfl) (ea_cons (ev_var rfl) ea_nil)) T2) fun H3 e3 T3 Q' q' E' =>
      ⟨(n : Int), .ref a, _, rfl, .ok (isv_ty (.base (.lst (exn_lst ((e1.trans e2).trans e3) hs))) (by decide +kernel)) (sq_of (exn_lst ((e1.trans e2).trans e3) hs)) (exn_prs ((e1.trans e2).trans e3) hp) h64, T3, q'⟩))) (by rw [hc, decide_eq_false (by omega)]; rfl)) (fun z => nomatch z) fun _ H1 e1 T1 => k H1 e1 T1
/-! row_of -/
theorem cutting_in {n : Nat} {ps : List PI} (hc : isCutting (n : Int) ps = true) : ∀ p ∈ ps, 0 ≤ p.1 ∧ p.1 < (n : Int) ∧ 0 ≤ p.2 ∧ p.2 < (n : Int) := fun p hp => by
  unfold isCutting at hc
  simp only [Bool.and_eq_true] at hc
  have := List.all_eq_true.mp hc.1.1.2 p hp
  unfold isCut at this
  simp only [Bool.and_eq_true, decide_eq_true_eq] at this
  omega
def spRowOf (K : PySem.W.Frag) (T : List (Addr × Str)) : Sp := fun vs H Q _ => ∃ (n : Nat) (a : Addr) (xs : List V) (ps : List PI), vs = [.int (n : Int), .ref a] ∧ 3 ≤ n ∧ n ≤ 1000 ∧ H a = some (.lst xs) ∧ Prs K H xs ps ∧ ps.length < 64 ∧ isCutting (n : Int) ps = true ∧ Tabs T H ∧
  ∀ (p : Addr) (H' : Hp), NewN H p → ExtN H H' → Tabs T H' → H' p = some (.lst ((countsOf n ps).map V.int)) → Q (.ref p) H'
theorem sc_row_of : FnScope ["corners", "cuts"] ["corners", "cuts"] (defScope s_row_of) := ⟨rfl, rfl, rfl, by decide +kernel, rfl, by decide +kernel, by decide +kernel⟩
theorem ok_row_of (D : Def K mg "row_of" s_row_of ["corners", "cuts"]) (B : Blt mg) (C : Cal P w K mg base CX0 4 "check_cuts" ["corners", "cuts"] (spCuts K T)) (N : Cal P w K mg base CX0 1 "counts_of" ["corners", "cuts"] (spCounts K)) : Cal P w K mg base CX0 5 "row_of" ["corners", "cuts"] (spRowOf K T) := by
  refine D.cal fun f fd F => F.ok sc_row_of (fun vs H Q E h => ?_) (fun cdv A outer s H vs Q E hr h => ?_)
  · obtain ⟨n, a, xs, ps, rfl, _⟩ := h
    rfl
  · obtain ⟨n, a, xs, ps, rfl, h3, hz, hs, hp, h64, hc, hT, k⟩ := h
    refine ⟨_, pss_cons (ps_expr (pe_n C hr (by decide) (by rfl) pass0 (pa_cons (pv 0) (pa_cons (pv 1) pa_nil)))) <| pss_one (ps_ret (pe_n N hr (by decide) (by rfl) pass0 (pa_cons (pv 0) (pa_cons (pv 1) pa_nil)))), ?_⟩
    refine nv_call (T := T) (v := .non) (na_of (ea_cons (ev_var rfl) (ea_cons (ev_var rfl) ea_nil)) hT) (fun H1 e1 T1 Q' q' E' => ⟨n, a, xs, ps, rfl, h3, exn_lst e1 hs, exn_prs e1 hp, h64, hc, T1, q'⟩) _ fun H1 e1 T1 => ?_
    refine s_retL (el_call (ea_cons (ev_var rfl) (ea_cons (ev_var rfl) ea_nil)) (use_counts (sq_of (exn_lst e1 hs)) (exn_prs e1 hp) hz (cutting_in hc))) fun p H2 hp2 e2 h2 => k p H2 (newn_of e1 hp2) (e1.trans (exn_of e2)) (T1.ext e2) h2
end
end FzW

namespace FzL
open PySem PySem.Spec PyProof.Rows L2 Evl Fz Fz.Tr LamX
section
variable {P : Program} {w : World} {K : PySem.W.Frag} {mg : Str → Option Value} {base : Heap} {N : List Str} {qual : Str} {sc : Scope} {f : Addr} {cd : Value} {A : Around} {outer : List Env} {s : Shared} {H : Hp} {E : XK}
theorem take_cx : L2N.Takes (cxOf (L2N.CX P w) P w K mg base N qual sc f cd A outer s H E) (fun cls d _ H => E cls d H) := L2N.takes_of rfl rfl rfl rfl
theorem pass_cx : Passes (L2N.CX P w) (cxOf (L2N.CX P w) P w K mg base N qual sc f cd A outer s H E) E := L2N.passes_call take_cx fun _ _ _ _ h => h
end
section
variable {σ : L2.St} {H : Hp} {ta : TA}
theorem rz_call {sp : Sp} {E : XK} {vs : List V} (h : EvA ta σ H vs) (hs : ∀ H1, Ex H H1 → ∀ Q, sp (vs ++ []) H1 Q E) : ∀ Q, tCall sp [] E ta σ H Q := fun Q => h H (Ex.refl _) _ fun H1 e1 => hs H1 e1 Q
end
/-- what is no row -/
inductive RowB (K : PySem.W.Frag) (H : Hp) : V → Prop where
  | no {x : V} (h : IsV K H x "list" false) : RowB K H x
  | short {a : Addr} {xs : List V} (h : IsV K H (.ref a) "list" true) (hs : SqL K H a xs) (hl : xs.length < 3) : RowB K H (.ref a)
  | bad {a : Addr} {xs : List V} {bs : List Bool} (h : IsV K H (.ref a) "list" true) (hs : SqL K H a xs) (hz : xs.length ≤ 1000) (hb : Paired (WholeV K H) xs bs) (hall : bs.all id = false) : RowB K H (.ref a)
theorem rowb_exn {K : PySem.W.Frag} {H H' : Hp} {v : V} (e : ExtN H H') (h : RowB K H v) : RowB K H' v := by
  cases h with
  | no h => exact .no (exn_is e h)
  | short h hs hl => exact .short (exn_is e h) (exn_l e hs) hl
  | bad h hs hz hb hall => exact .bad (exn_is e h) (exn_l e hs) hz (Paired.mapP hb fun _ _ => exn_whole e) hall
/-- what is no corner of n -/
def CornB (K : PySem.W.Frag) (H : Hp) (n : Nat) (v : V) : Prop := WholeV K H v false ∨ ∃ c : Int, v = .int c ∧ ¬ (0 ≤ c ∧ c < (n : Int))
theorem cornb_exn {K : PySem.W.Frag} {H H' : Hp} {n : Nat} {v : V} (e : ExtN H H') (h : CornB K H n v) : CornB K H' n v := h.imp (exn_whole e) id
/-- what is no cutting's corners and cuts -/
def CutsB (K : PySem.W.Frag) (H : Hp) (c v : V) : Prop := WholeV K H c false ∨ (∃ n : Int, c = .int n ∧ n < 3) ∨ ∃ n : Int, c = .int n ∧ 3 ≤ n ∧ FzW.CutsV K H n v false
theorem cutv_exn {K : PySem.W.Frag} {H H' : Hp} {n : Int} {x : V} {b : Bool} (e : ExtN H H') (h : FzW.CutV K H n x b) : FzW.CutV K H' n x b := by
  cases h with
  | no h => exact .no (exn_is e h)
  | len h hs hl => exact .len (exn_is e h) (exn_t e hs) hl
  | fst h hs hy => exact .fst (exn_is e h) (exn_t e hs) (exn_whole e hy)
  | snd h hs hy hz => exact .snd (exn_is e h) (exn_t e hs) (exn_whole e hy) (exn_whole e hz)
  | pair h hs => exact .pair (exn_is e h) (exn_t e hs)
theorem cutsv_exn {K : PySem.W.Frag} {H H' : Hp} {n : Int} {x : V} {b : Bool} (e : ExtN H H') (h : FzW.CutsV K H n x b) : FzW.CutsV K H' n x b := by
  cases h with
  | no h => exact .no (exn_is e h)
  | len h hs hl => exact .len (exn_is e h) (exn_l e hs) hl
  | bad h hs hl hz hb hall => exact .bad (exn_is e h) (exn_l e hs) hl hz (Paired.mapP hb fun _ _ => cutv_exn e) hall
  | ok h hs hp h64 => exact .ok (exn_is e h) (exn_l e hs) (exn_prs e hp) h64
theorem cutsb_exn {K : PySem.W.Frag} {H H' : Hp} {c v : V} (e : ExtN H H') (h : CutsB K H c v) : CutsB K H' c v := by
  rcases h with h | h | ⟨n, h1, h2, h3⟩
  · exact .inl (exn_whole e h)
  · exact .inr (.inl h)
  · exact .inr (.inr ⟨n, h1, h2, cutsv_exn e h3⟩)
end FzL
namespace FzW
open PySem PySem.Spec PyProof.Rows L2 Evl FzL Fz Fz.Tr LamX
section
variable {P : Program} {w : World} {K : PySem.W.Frag} {mg : Str → Option Value} {base : Heap} {T : List (Addr × Str)} {CR CC CU CT : Addr}
/-! bad rows -/
def spRowB (K : PySem.W.Frag) (T : List (Addr × Str)) (C : Addr) : Sp := fun vs H _ E => ∃ v, vs = [v] ∧ RowB K H v ∧ Tabs T H ∧ RaiseN T C H E
theorem ok_check_rowX (D : Def K mg "check_row" s_check_row ["row"]) (B : Blt mg) (W : Cal P w K mg base CX0 1 "is_whole" ["thing"] (spWhole K)) (X : ExcF K mg "BadRow" CR) : Cal P w K mg base (L2N.CX P w) 2 "check_row" ["row"] (spRowB K T CR) := by
  refine D.cal fun f fd F => okN F sc_check_row (fun vs H Q E h => ?_) (fun cdv A outer s H vs Q E hr h => ?_)
  · obtain ⟨v, rfl, _⟩ := h
    rfl
  · obtain ⟨v, rfl, hb, hT, hE⟩ := h
    refine ⟨_, pss_one (ps_if (PW.pt (pw_or (pt_not (pt_val (isi_list B (pv 0)))) (pw_or (pt_cmpR op_lt (len_of B (pv 0)) pe_int (nomark _))
      (pw_or1 (pt_not (pt_val (pe_callB (cr_all rfl) (by rfl) B.all boot_all (pa_cons (pe_lc (own := [("number", 1)]) (g := gName 1) (tt := tYes) rfl sc_check_row.nd (pi_list (pv 0)) (blkOk_by (N := ["row", "number"]) (sc := defScope s_check_row) (by decide +kernel))
        (fun _ _ _ _ _ => pg_name (i := 1) sc_check_row.nd rfl (Or.inl rfl)) (fun _ _ _ _ _ => pts_nil) (fun _ _ _ _ _ => pe_n W hr (Nat.le_refl _) (by rfl) pass0 (pa_cons (pv 1) pa_nil))) pa_nil))))))))
      (pss_one (ps_raiseN X take_cx)) pss_nil), ?_⟩
    cases hb with
    | no h => exact s_if (b := true) (et_orY (et_notI (et_B (ev_cb (ea_cons (ev_var rfl) (ea_cons ev_c ea_nil)) (rc_isi h))) rfl)) (fun _ H1 e1 => hE H1 (exn_of e1) (hT.ext e1)) fun z => nomatch z
    | short h hs hl => exact s_if (b := true) (et_orN (et_notI (et_B (ev_cb (ea_cons (ev_var rfl) (ea_cons ev_c ea_nil)) (rc_isi h))) rfl) (et_orY (et_is (et_test (ev_op (ev_len (ev_var rfl) hs) ev_c rv_I0)) (decide_eq_true (by omega))))) (fun _ H1 e1 => hE H1 (exn_of e1) (hT.ext e1)) fun z => nomatch z
    | @bad a xs bs h hs hz hb hall =>
      refine s_if (b := true) (et_is (et_or (et_notI (et_B (ev_cb (ea_cons (ev_var rfl) (ea_cons ev_c ea_nil)) (rc_isi h))) (c := false) rfl) fun _ => et_or (et_test (ev_op (ev_len (ev_var rfl) hs) ev_c rv_I0)) fun _ => et_not (et_B (ev_all (bs := bs) (el_map _ (ev_var rfl) hs (by omega) (by rw [List.length_map]; exact (Paired.length hb).symm) (fun x => rfl) fun i x y H1 e hx hy => ?_)))) ?_) (fun _ H1 e1 => hE H1 (exn_of e1) (hT.ext e1)) fun z => nomatch z
      · obtain ⟨b, hb', rfl⟩ := bools_get hy
        exact ev_call (ea_cons (ev_var rfl) ea_nil) (use_whole ((paired_get hb hx hb').mono e))
      · rw [hall]
        simp
def spRowB2 (K : PySem.W.Frag) (T : List (Addr × Str)) (C : Addr) : Sp := fun vs H _ E => ∃ v x, vs = [v, x] ∧ RowB K H v ∧ Tabs T H ∧ RaiseN T C H E
def spRowB3 (K : PySem.W.Frag) (T : List (Addr × Str)) (C : Addr) : Sp := fun vs H _ E => ∃ v x y, vs = [v, x, y] ∧ RowB K H v ∧ Tabs T H ∧ RaiseN T C H E
theorem sc_cutX : FnScope ["row", "left", "numbers", "ears", "cuts", "at", "ahead", "behind"] ["row"] (defScope s_cut) := ⟨rfl, rfl, rfl, by decide +kernel, rfl, by decide +kernel, by decide +kernel⟩
theorem ok_cutX (D : Def K mg "cut" s_cut ["row"]) (R : Cal P w K mg base (L2N.CX P w) 2 "check_row" ["row"] (spRowB K T CR)) : Cal P w K mg base (L2N.CX P w) 3 "cut" ["row"] (spRowB K T CR) := by
  refine D.cal fun f fd F => okN F sc_cutX (fun vs H Q E h => ?_) (fun cdv A outer s H vs Q E hr h => ?_)
  · obtain ⟨v, rfl, _⟩ := h
    rfl
  · obtain ⟨v, rfl, hb, hT, hE⟩ := h
    refine ⟨_, pss_cons (ps_expr (pe_n R hr (by decide) (by rfl) pass_cx (pa_cons (pv 0) pa_nil))) <| pss_cons ps_never <| pss_cons ps_never <| pss_cons ps_never <| pss_cons ps_never <| pss_cons ps_never <| pss_cons ps_never <| pss_one ps_never, ?_⟩
    exact rz_call (ea_cons (ev_var rfl) ea_nil) (fun H1 e1 Q1 => ⟨v, rfl, rowb_exn (exn_of e1) hb, hT.ext e1, hE.mono (exn_of e1)⟩) _
theorem ok_tableX (D : Def K mg "table" s_table ["row"]) (R : Cal P w K mg base (L2N.CX P w) 2 "check_row" ["row"] (spRowB K T CR)) : Cal P w K mg base (L2N.CX P w) 3 "table" ["row"] (spRowB K T CR) := by
  refine D.cal fun f fd F => okN F sc_table (fun vs H Q E h => ?_) (fun cdv A outer s H vs Q E hr h => ?_)
  · obtain ⟨v, rfl, _⟩ := h
    rfl
  · obtain ⟨v, rfl, hb, hT, hE⟩ := h
    refine ⟨_, pss_cons (ps_expr (pe_n R hr (by decide) (by rfl) pass_cx (pa_cons (pv 0) pa_nil))) <| pss_one ps_never, ?_⟩
    exact rz_call (ea_cons (ev_var rfl) ea_nil) (fun H1 e1 Q1 => ⟨v, rfl, rowb_exn (exn_of e1) hb, hT.ext e1, hE.mono (exn_of e1)⟩) _
theorem ok_betweenX (D : Def K mg "between" s_between ["row", "corner", "steps"]) (R : Cal P w K mg base (L2N.CX P w) 2 "check_row" ["row"] (spRowB K T CR)) : Cal P w K mg base (L2N.CX P w) 3 "between" ["row", "corner", "steps"] (spRowB3 K T CR) := by
  refine D.cal fun f fd F => okN F sc_between (fun vs H Q E h => ?_) (fun cdv A outer s H vs Q E hr h => ?_)
  · obtain ⟨v, x, y, rfl, _⟩ := h
    rfl
  · obtain ⟨v, x, y, rfl, hb, hT, hE⟩ := h
    refine ⟨_, pss_cons (ps_expr (pe_n R hr (by decide) (by rfl) pass_cx (pa_cons (pv 0) pa_nil))) <| pss_cons ps_never <| pss_cons ps_never <| pss_one ps_never, ?_⟩
    exact rz_call (ea_cons (ev_var rfl) ea_nil) (fun H1 e1 Q1 => ⟨v, rfl, rowb_exn (exn_of e1) hb, hT.ext e1, hE.mono (exn_of e1)⟩) _
theorem ok_grownX (D : Def K mg "grown" s_grown ["row", "corner"]) (R : Cal P w K mg base (L2N.CX P w) 2 "check_row" ["row"] (spRowB K T CR)) : Cal P w K mg base (L2N.CX P w) 3 "grown" ["row", "corner"] (spRowB2 K T CR) := by
  refine D.cal fun f fd F => okN F sc_grown (fun vs H Q E h => ?_) (fun cdv A outer s H vs Q E hr h => ?_)
  · obtain ⟨v, x, rfl, _⟩ := h
    rfl
  · obtain ⟨v, x, rfl, hb, hT, hE⟩ := h
    refine ⟨_, pss_cons (ps_expr (pe_n R hr (by decide) (by rfl) pass_cx (pa_cons (pv 0) pa_nil))) <| pss_cons ps_never <| pss_cons ps_never <| pss_cons ps_never <| pss_cons ps_never <| pss_one ps_never, ?_⟩
    exact rz_call (ea_cons (ev_var rfl) ea_nil) (fun H1 e1 Q1 => ⟨v, rfl, rowb_exn (exn_of e1) hb, hT.ext e1, hE.mono (exn_of e1)⟩) _
/-! bad corners -/
def spCornB (K : PySem.W.Frag) (T : List (Addr × Str)) (C : Addr) : Sp := fun vs H _ E => ∃ (a : Addr) (ns : List Int) (v : V), vs = [.ref a, v] ∧ H a = some (.lst (ns.map V.int)) ∧ 3 ≤ ns.length ∧ ns.length ≤ 1000 ∧ CornB K H ns.length v ∧ Tabs T H ∧ RaiseN T C H E
def spCornB3 (K : PySem.W.Frag) (T : List (Addr × Str)) (C : Addr) : Sp := fun vs H _ E => ∃ (a : Addr) (ns : List Int) (v y : V), vs = [.ref a, v, y] ∧ H a = some (.lst (ns.map V.int)) ∧ 3 ≤ ns.length ∧ ns.length ≤ 1000 ∧ CornB K H ns.length v ∧ Tabs T H ∧ RaiseN T C H E
theorem ok_check_cornerX (D : Def K mg "check_corner" s_check_corner ["row", "corner"]) (B : Blt mg) (W : Cal P w K mg base CX0 1 "is_whole" ["thing"] (spWhole K)) (X : ExcF K mg "BadCorner" CC) : Cal P w K mg base (L2N.CX P w) 2 "check_corner" ["row", "corner"] (spCornB K T CC) := by
  refine D.cal fun f fd F => okN F sc_check_corner (fun vs H Q E h => ?_) (fun cdv A outer s H vs Q E hr h => ?_)
  · obtain ⟨a, ns, v, rfl, _⟩ := h
    rfl
  · obtain ⟨a, ns, v, rfl, hs, h3, hz, hb, hT, hE⟩ := h
    refine ⟨_, pss_one (ps_if (PW.pt (pw_or (pt_not (pt_val (pe_n W hr (Nat.le_refl _) (by rfl) pass0 (pa_cons (pv 1) pa_nil)))) (pw_or1 (pt_not (pt_chain op_le op_lt pe_int (pv 1) (len_of B (pv 0))))))) (pss_one (ps_raiseN X take_cx)) pss_nil), ?_⟩
    rcases hb with h | ⟨c, rfl, h⟩
    · exact s_if (b := true) (et_orY (et_notI (et_B (ev_call (ea_cons (ev_var rfl) ea_nil) (use_whole h))) rfl)) (fun _ H1 e1 => hE H1 (exn_of e1) (hT.ext e1)) fun z => nomatch z
    · refine s_if (b := true) (et_orN (et_notI (et_B (ev_call (ea_cons (ev_var rfl) ea_nil) (use_whole (whole_int _)))) rfl) (et_notI (et_test (ev_chain (ev_c) (ev_var rfl) rv_I0 (fun _ => ev_len (ev_var rfl) (sq_of hs)) fun _ => rv_I0)) ?_)) (fun _ H1 e1 => hE H1 (exn_of e1) (hT.ext e1)) fun z => nomatch z
      rw [List.length_map, ← Bool.decide_and, decide_eq_false h]
      rfl
theorem ok_grownC (D : Def K mg "grown" s_grown ["row", "corner"]) (R : Cal P w K mg base CX0 2 "check_row" ["row"] (spRowOk K)) (C : Cal P w K mg base (L2N.CX P w) 2 "check_corner" ["row", "corner"] (spCornB K T CC)) : Cal P w K mg base (L2N.CX P w) 3 "grown" ["row", "corner"] (spCornB K T CC) := by
  refine D.cal fun f fd F => okN F sc_grown (fun vs H Q E h => ?_) (fun cdv A outer s H vs Q E hr h => ?_)
  · obtain ⟨a, ns, v, rfl, _⟩ := h
    rfl
  · obtain ⟨a, ns, v, rfl, hs, h3, hz, hb, hT, hE⟩ := h
    refine ⟨_, pss_cons (ps_expr (pe_n R hr (by decide) (by rfl) pass0 (pa_cons (pv 0) pa_nil))) <| pss_cons (ps_expr (pe_n C hr (by decide) (by rfl) pass_cx (pa_cons (pv 0) (pa_cons (pv 1) pa_nil)))) <| pss_cons ps_never <| pss_cons ps_never <| pss_cons ps_never <| pss_one ps_never, ?_⟩
    refine q_drop (ev_call (z := .non) (ea_cons (ev_var rfl) ea_nil) (fun H1 e Q q E => ⟨a, ns, rfl, sq_of (e _ _ hs), .base (.lst (e _ _ hs)), h3, hz, q⟩)) fun H1 e1 => ?_
    exact rz_call (ea_cons (ev_var rfl) (ea_cons (ev_var rfl) ea_nil)) (fun H2 e2 Q1 => ⟨a, ns, v, rfl, e2 _ _ (e1 _ _ hs), h3, hz, cornb_exn (exn_of (e1.trans e2)) hb, hT.ext (e1.trans e2), hE.mono (exn_of (e1.trans e2))⟩) _
theorem ok_betweenC (D : Def K mg "between" s_between ["row", "corner", "steps"]) (R : Cal P w K mg base CX0 2 "check_row" ["row"] (spRowOk K)) (C : Cal P w K mg base (L2N.CX P w) 2 "check_corner" ["row", "corner"] (spCornB K T CC)) : Cal P w K mg base (L2N.CX P w) 3 "between" ["row", "corner", "steps"] (spCornB3 K T CC) := by
  refine D.cal fun f fd F => okN F sc_between (fun vs H Q E h => ?_) (fun cdv A outer s H vs Q E hr h => ?_)
  · obtain ⟨a, ns, v, y, rfl, _⟩ := h
    rfl
  · obtain ⟨a, ns, v, y, rfl, hs, h3, hz, hb, hT, hE⟩ := h
    refine ⟨_, pss_cons (ps_expr (pe_n R hr (by decide) (by rfl) pass0 (pa_cons (pv 0) pa_nil))) <| pss_cons (ps_expr (pe_n C hr (by decide) (by rfl) pass_cx (pa_cons (pv 0) (pa_cons (pv 1) pa_nil)))) <| pss_cons ps_never <| pss_one ps_never, ?_⟩
    refine q_drop (ev_call (z := .non) (ea_cons (ev_var rfl) ea_nil) (fun H1 e Q q E => ⟨a, ns, rfl, sq_of (e _ _ hs), .base (.lst (e _ _ hs)), h3, hz, q⟩)) fun H1 e1 => ?_
    exact rz_call (ea_cons (ev_var rfl) (ea_cons (ev_var rfl) ea_nil)) (fun H2 e2 Q1 => ⟨a, ns, v, rfl, e2 _ _ (e1 _ _ hs), h3, hz, cornb_exn (exn_of (e1.trans e2)) hb, hT.ext (e1.trans e2), hE.mono (exn_of (e1.trans e2))⟩) _
/-! bad counts of steps -/
def spStepB (K : PySem.W.Frag) (T : List (Addr × Str)) (C : Addr) : Sp := fun vs H _ E => ∃ (a : Addr) (ns : List Int) (c : Nat) (v : V), vs = [.ref a, .int (c : Int), v] ∧ H a = some (.lst (ns.map V.int)) ∧ 3 ≤ ns.length ∧ ns.length ≤ 1000 ∧ c < ns.length ∧ CornB K H 1001 v ∧ Tabs T H ∧ RaiseN T C H E
theorem ok_betweenS (D : Def K mg "between" s_between ["row", "corner", "steps"]) (B : Blt mg) {tk : Tok} (hF : mg "FARTHEST" = some (.int 1000 tk)) (W : Cal P w K mg base CX0 1 "is_whole" ["thing"] (spWhole K)) (R : Cal P w K mg base CX0 2 "check_row" ["row"] (spRowOk K)) (C : Cal P w K mg base CX0 2 "check_corner" ["row", "corner"] (spCorner K)) (X : ExcF K mg "BadCorner" CC) :
    Cal P w K mg base (L2N.CX P w) 3 "between" ["row", "corner", "steps"] (spStepB K T CC) := by
  refine D.cal fun f fd F => okN F sc_between (fun vs H Q E h => ?_) (fun cdv A outer s H vs Q E hr h => ?_)
  · obtain ⟨a, ns, c, v, rfl, _⟩ := h
    rfl
  · obtain ⟨a, ns, c, v, rfl, hs, h3, hz, hc, hb, hT, hE⟩ := h
    refine ⟨_, pss_cons (ps_expr (pe_n R hr (by decide) (by rfl) pass0 (pa_cons (pv 0) pa_nil))) <| pss_cons (ps_expr (pe_n C hr (by decide) (by rfl) pass0 (pa_cons (pv 0) (pa_cons (pv 1) pa_nil)))) <|
      pss_cons (ps_if (PW.pt (pw_or (pt_not (pt_val (pe_n W hr (by decide) (by rfl) pass0 (pa_cons (pv 2) pa_nil)))) (pw_or1 (pt_not (pt_chain op_le op_le pe_int (pv 2) (pe_glob (v := .int 1000) (by rfl) hF ⟨_, rfl⟩)))))) (pss_one (ps_raiseN X take_cx)) pss_nil) <|
      pss_one ps_never, ?_⟩
    refine q_drop (ev_call (z := .non) (ea_cons (ev_var rfl) ea_nil) (fun H1 e Q q E => ⟨a, ns, rfl, sq_of (e _ _ hs), .base (.lst (e _ _ hs)), h3, hz, q⟩)) fun H1 e1 => ?_
    refine q_drop (ev_call (z := .non) (ea_cons (ev_var rfl) (ea_cons (ev_var rfl) ea_nil)) (fun H2 e Q q E => ⟨a, ns, c, rfl, sq_of (e _ _ (e1 _ _ hs)), hc, q⟩)) fun H2 e2 => ?_
    have e12 := e1.trans e2
    rcases cornb_exn (exn_of e12) hb with h | ⟨c, rfl, h⟩
    · exact q_when (b := true) (et_orY (et_notI (et_B (ev_call (ea_cons (ev_var rfl) ea_nil) (use_whole h))) rfl)) (fun _ H3 e3 => hE H3 (exn_of (e12.trans e3)) (hT.ext (e12.trans e3))) fun z => nomatch z
    · refine q_when (b := true) (et_orN (et_notI (et_B (ev_call (ea_cons (ev_var rfl) ea_nil) (use_whole (whole_int _)))) rfl) (et_notI (et_test (ev_chain ev_c (ev_var rfl) rv_I0 (fun _ => ev_c) fun _ => rv_I0)) ?_)) (fun _ H3 e3 => hE H3 (exn_of (e12.trans e3)) (hT.ext (e12.trans e3))) fun z => nomatch z
      rw [← Bool.decide_and, decide_eq_false (by omega)]
      rfl
/-! bad cuttings -/
def spCutsB (K : PySem.W.Frag) (T : List (Addr × Str)) (C : Addr) : Sp := fun vs H _ E => ∃ c v, vs = [c, v] ∧ CutsB K H c v ∧ Tabs T H ∧ RaiseN T C H E
def spCutsB3 (K : PySem.W.Frag) (T : List (Addr × Str)) (C : Addr) : Sp := fun vs H _ E => ∃ c v x, vs = [c, v, x] ∧ CutsB K H c v ∧ Tabs T H ∧ RaiseN T C H E
theorem ok_check_cutsX (D : Def K mg "check_cuts" s_check_cuts ["corners", "cuts"]) (B : Blt mg) (W : Cal P w K mg base CX0 1 "is_whole" ["thing"] (spWhole K)) (C : Cal P w K mg base CX0 3 "is_cutting" ["corners", "cuts"] (spCutting K T)) (X : ExcF K mg "BadCuts" CU) :
    Cal P w K mg base (L2N.CX P w) 4 "check_cuts" ["corners", "cuts"] (spCutsB K T CU) := by
  refine D.cal fun f fd F => okN F sc_check_cuts (fun vs H Q E h => ?_) (fun cdv A outer s H vs Q E hr h => ?_)
  · obtain ⟨c, v, rfl, _⟩ := h
    rfl
  · obtain ⟨c, v, rfl, hb, hT, hE⟩ := h
    refine ⟨_, pss_one (ps_if (PW.pt (pw_or (pt_not (pt_val (pe_n W hr (by decide) (by rfl) pass0 (pa_cons (pv 0) pa_nil)))) (pw_or (pt_cmpR op_lt (pv 0) pe_int (nomark _)) (pw_or1 (pt_not (pt_val (pe_n C hr (by decide) (by rfl) pass0 (pa_cons (pv 0) (pa_cons (pv 1) pa_nil))))))))) (pss_one (ps_raiseN X take_cx)) pss_nil), ?_⟩
    rcases hb with h | ⟨n, rfl, h⟩ | ⟨n, rfl, h3, h⟩
    · exact s_if (b := true) (et_orY (et_notI (et_B (ev_call (ea_cons (ev_var rfl) ea_nil) (use_whole h))) rfl)) (fun _ H1 e1 => hE H1 (exn_of e1) (hT.ext e1)) fun z => nomatch z
    · exact s_if (b := true) (et_orN (et_notI (et_B (ev_call (ea_cons (ev_var rfl) ea_nil) (use_whole (whole_int _)))) rfl) (et_orY (et_is (et_test (ev_op (ev_var rfl) ev_c rv_I0)) (decide_eq_true h)))) (fun _ H1 e1 => hE H1 (exn_of e1) (hT.ext e1)) fun z => nomatch z
    · refine s_ifN (T := T) (b := true) (nt_is (nt_or (nt_of (et_notI (et_B (ev_call (ea_cons (ev_var rfl) ea_nil) (use_whole (whole_int _)))) rfl) hT) fun _ H1 e1 T1 => nt_or (nt_of (et_test (ev_op (ev_var rfl) ev_c rv_I0)) T1) fun _ H2 e2 T2 => nt_not (nt_B (nv_call (v := .bl false) (na_of (ea_cons (ev_var rfl) (ea_cons (ev_var rfl) ea_nil)) T2) fun H3 e3 T3 Q' q' E' =>
        ⟨n, v, _, rfl, cutsv_exn ((e1.trans e2).trans e3) h, T3, q'⟩))) (by simp)) (fun _ H1 e1 T1 => hE H1 e1 T1) fun z => nomatch z
theorem ok_row_ofX (D : Def K mg "row_of" s_row_of ["corners", "cuts"]) (C : Cal P w K mg base (L2N.CX P w) 4 "check_cuts" ["corners", "cuts"] (spCutsB K T CU)) : Cal P w K mg base (L2N.CX P w) 5 "row_of" ["corners", "cuts"] (spCutsB K T CU) := by
  refine D.cal fun f fd F => okN F sc_row_of (fun vs H Q E h => ?_) (fun cdv A outer s H vs Q E hr h => ?_)
  · obtain ⟨c, v, rfl, _⟩ := h
    rfl
  · obtain ⟨c, v, rfl, hb, hT, hE⟩ := h
    refine ⟨_, pss_cons (ps_expr (pe_n C hr (by decide) (by rfl) pass_cx (pa_cons (pv 0) (pa_cons (pv 1) pa_nil)))) <| pss_one ps_never, ?_⟩
    exact rz_call (ea_cons (ev_var rfl) (ea_cons (ev_var rfl) ea_nil)) (fun H1 e1 Q1 => ⟨c, v, rfl, cutsb_exn (exn_of e1) hb, hT.ext e1, hE.mono (exn_of e1)⟩) _
abbrev s_exchanged : Stmt := topS 23
abbrev exN : List Str := ["corners", "cuts", "cut", "known", "one", "ends", "corner"]
theorem sc_exchanged : FnScope exN ["corners", "cuts", "cut"] (defScope s_exchanged) := ⟨rfl, rfl, rfl, by decide +kernel, rfl, by decide +kernel, by decide +kernel⟩
theorem ok_exchangedX (D : Def K mg "exchanged" s_exchanged ["corners", "cuts", "cut"]) (C : Cal P w K mg base (L2N.CX P w) 4 "check_cuts" ["corners", "cuts"] (spCutsB K T CU)) : Cal P w K mg base (L2N.CX P w) 5 "exchanged" ["corners", "cuts", "cut"] (spCutsB3 K T CU) := by
  refine D.cal fun f fd F => okN F sc_exchanged (fun vs H Q E h => ?_) (fun cdv A outer s H vs Q E hr h => ?_)
  · obtain ⟨c, v, x, rfl, _⟩ := h
    rfl
  · obtain ⟨c, v, x, rfl, hb, hT, hE⟩ := h
    refine ⟨_, pss_cons (ps_expr (pe_n C hr (by decide) (by rfl) pass_cx (pa_cons (pv 0) (pa_cons (pv 1) pa_nil)))) <| pss_cons ps_never <| pss_cons ps_never <| pss_cons ps_never <| pss_cons ps_never <| pss_cons ps_never <| pss_one ps_never, ?_⟩
    exact rz_call (ea_cons (ev_var rfl) (ea_cons (ev_var rfl) ea_nil)) (fun H1 e1 Q1 => ⟨c, v, rfl, cutsb_exn (exn_of e1) hb, hT.ext e1, hE.mono (exn_of e1)⟩) _
/-! bad cuts of a cutting -/
def OneB (K : PySem.W.Frag) (H : Hp) (n : Nat) (ps : List PI) (v : V) : Prop := CutV K H (n : Int) v false ∨ ∃ p : PI, Pr K H v p ∧ p ∉ ps
theorem oneb_exn {H H' : Hp} {n : Nat} {ps : List PI} {v : V} (e : ExtN H H') (h : OneB K H n ps v) : OneB K H' n ps v := h.imp (cutv_exn e) fun ⟨p, ⟨t, h1, h2⟩, h3⟩ => ⟨p, ⟨t, h1, exn_tup e h2⟩, h3⟩
def spOneB (K : PySem.W.Frag) (T : List (Addr × Str)) (C : Addr) : Sp := fun vs H _ E => ∃ (n : Nat) (a : Addr) (xs : List V) (ps : List PI) (v : V), vs = [.int (n : Int), .ref a, v] ∧ 3 ≤ n ∧ H a = some (.lst xs) ∧ Prs K H xs ps ∧ ps.length < 64 ∧ isCutting (n : Int) ps = true ∧ OneB K H n ps v ∧ Tabs T H ∧ RaiseN T C H E
theorem ok_exchangedC (D : Def K mg "exchanged" s_exchanged ["corners", "cuts", "cut"]) (B : Blt mg) (C : Cal P w K mg base CX0 4 "check_cuts" ["corners", "cuts"] (spCuts K T)) (I : Cal P w K mg base CX0 2 "is_cut" ["corners", "thing"] (spCut K)) (X : ExcF K mg "BadCut" CT) :
    Cal P w K mg base (L2N.CX P w) 5 "exchanged" ["corners", "cuts", "cut"] (spOneB K T CT) := by
  refine D.cal fun f fd F => okN F sc_exchanged (fun vs H Q E h => ?_) (fun cdv A outer s H vs Q E hr h => ?_)
  · obtain ⟨n, a, xs, ps, v, rfl, _⟩ := h
    rfl
  · obtain ⟨n, a, xs, ps, v, rfl, h3, hs, hp, h64, hc, hb, hT, hE⟩ := h
    refine ⟨_, pss_cons (ps_expr (pe_n C hr (by decide) (by rfl) pass0 (pa_cons (pv 0) (pa_cons (pv 1) pa_nil)))) <|
      pss_cons (ps_if (PW.pt (pw_or (pt_not (pt_val (pe_n I hr (by decide) (by rfl) pass0 (pa_cons (pv 0) (pa_cons (pv 2) pa_nil))))) (pw_or1 (pt_cmpR (op_notInD (un65 hr)) (pv 2) (pv 1) (by rfl))))) (pss_one (ps_raiseN X take_cx)) pss_nil) <| pss_cons ps_never <| pss_cons ps_never <| pss_cons ps_never <| pss_cons ps_never <| pss_one ps_never, ?_⟩
    refine nv_call (T := T) (v := .non) (na_of (ea_cons (ev_var rfl) (ea_cons (ev_var rfl) ea_nil)) hT) (fun H1 e1 T1 Q' q' E' => ⟨n, a, xs, ps, rfl, h3, exn_lst e1 hs, exn_prs e1 hp, h64, hc, T1, q'⟩) _ fun H1 e1 T1 => ?_
    dsimp only
    rcases oneb_exn e1 hb with h | ⟨p, ⟨t, rfl, ht⟩, hm⟩
    · refine q_when (b := true) (et_orY (et_notI (et_B (ev_call (ea_cons (ev_var rfl) (ea_cons (ev_var rfl) ea_nil)) (use_cut h))) rfl)) (fun _ H2 e2 => ?_) fun z => nomatch z
      exact hE H2 (e1.trans (exn_of e2)) (T1.ext e2)
    · refine q_when (b := true) (et_is (et_or (et_not (et_B (ev_call (ea_cons (ev_var rfl) (ea_cons (ev_var rfl) ea_nil)) (use_cut (cutv_pr ⟨t, rfl, ht⟩))))) fun _ => et_test (ev_op (ev_var rfl) (ev_var rfl) (rv_niP ht (sq_of (exn_lst e1 hs)) (exn_prs e1 hp)))) (by rw [decide_eq_false hm]; simp)) (fun _ H2 e2 => ?_) fun z => nomatch z
      exact hE H2 (e1.trans (exn_of e2)) (T1.ext e2)
end
end FzW

namespace FzL
open PySem PySem.Spec PyProof.Rows L2 Evl Fz Fz.Tr LamX
section
variable {P : Program} {w : World} {K : PySem.W.Frag} {mg : Str → Option Value} {base : Heap}
theorem okE {x qual : Str} {st : Stmt} {f : Addr} {fd : FuncData} {N ps : List Str} {k : Nat} {sp : Addr → Value → Option Addr → Sp} (F : Fun K x qual st f fd) (S : FnScope N ps (defScope st)) (len : ∀ a c d vs H Q E, sp a c d vs H Q E → vs.length = ps.length)
    (hbody : ∀ (cdv : Value) (A : Around) (outer : List Env) (s : Shared) (H : Hp) (vs : List V) (Q : VK) (E : XK) (p : Addr × Obj) (c : Value) (d : Option Addr), Zc c d p.2 → (∃ vs, p.2.data = .fields vs) → L2H.RoomH k (A.deeper (envOfC qual (defScope st) s.heap.objs.size f cdv)) → sp p.1 c d vs H Q E →
      ∃ t, PSs (L2H.cxH CX0 P w K mg base N qual (defScope st) f cdv A outer s H E p) (defBody st) t ∧ t { nx := fun _ H' => Q .non H', rt := Q } (L2.start N vs) H) : FnE P w K mg base (k + 1) f fd ps sp := by
  obtain ⟨oc, od, kV, doc, pm, an, cdv, ct, osl, rfl, lk, hcd⟩ := F.ex
  exact fn_ofE lk hcd S len fun A outer s H vs Q E p c d hz hf hr hsp => hbody cdv A outer s H vs Q E p c d hz hf hr hsp
/-- a def by its name, called within the suite -/
structure CalE (P : Program) (w : World) (K : PySem.W.Frag) (mg : Str → Option Value) (base : Heap) (k : Nat) (x : Str) (ps : List Str) (sp : Addr → Value → Option Addr → Sp) : Prop where
  ex : ∃ (f : Addr) (fd : FuncData), FnE P w K mg base k f fd ps sp ∧ mg x = some (.ref f) ∧ PySem.W.keepIn K (.ref f) = true ∧ Binds K fd ps []
theorem Def.calE {k : Nat} {x : Str} {st : Stmt} {ps : List Str} {sp : Addr → Value → Option Addr → Sp} (D : Def K mg x st ps) (h : ∀ f fd, Fun K x x st f fd → FnE P w K mg base k f fd ps sp) : CalE P w K mg base k x ps sp := by
  obtain ⟨f, fd, F, hm, hb⟩ := D.ex
  exact ⟨f, fd, h f fd F, hm, F.kp, hb⟩
/-- a def by its name, as what a slot may hold -/
theorem Cal.held {k : Nat} {x : Str} {ps : List Str} {sp : Sp} (c : Cal P w K mg base (L2N.CX P w) k x ps sp) : ∃ f, mg x = some (.ref f) ∧ HeldN P w K mg base k f sp := by
  obtain ⟨f, fd, F, hm, hk, hb⟩ := c.ex
  exact ⟨f, hm, ⟨fd, ps, F, hk, hb⟩⟩
end
section
variable {X : Cx} {k : Nat} {ps : List Str} {sp : Addr → Value → Option Addr → Sp} {x : Str} {q pos : Pos} {e : Expr} {es : List Expr} {t : TA} {p : Addr × Obj} {c : Value} {d : Option Addr}
theorem pe_nE {a : Addr} {oe : Obj} (C : CalE X.prog X.w X.K X.mg X.base k x ps sp) (hr : L2H.RoomH k X.A) (hot : L2H.Hot1 X.A (a, oe)) (hp : (a, oe) ∈ X.pn) (hz : Zc c d oe) (hf : ∃ vs, oe.data = .fields vs) (hg : Gl X x)
    (ha : PA X (e :: es) t) (hdb : (x == ("__debug__" : Str)) = false := by decide) (he : starEach (e :: es) X.env = (false, eval e X.env) :: starEach es X.env := by rfl) (hpl : (backTo pos (starEach es X.env)).any (·.1) = false := by rfl) :
    PE X (.Call (.Name x q) (e :: es) [] pos) (tCallE (sp a c d) t) := by
  obtain ⟨f, fd, F, hm, hk, hb⟩ := C.ex
  exact pe_callE (p := (a, oe)) F hr hot hp hz hf hg hm hk hb ha hdb he hpl
end
def cj (CR CC CU CT : Addr) : Nat → Addr
  | 0 => CR
  | 1 => CC
  | 2 => CU
  | _ => CT
/-- the errors -/
structure ErrC (K : PySem.W.Frag) (mg : Str → Option Value) (CE CR CC CU CT : Addr) : Prop where
  gE : mg "RowError" = some (.ref CE)
  fR : ExcF K mg "BadRow" CR
  fC : ExcF K mg "BadCorner" CC
  fU : ExcF K mg "BadCuts" CU
  fT : ExcF K mg "BadCut" CT
  vE : mg "ValueError" = none
  ex : ∀ j, j < 4 → ExcC K (cj CR CC CU CT j)
  kit : ∀ j i, j < 4 → i < 4 → PySem.W.kitOne K (.ref (cj CR CC CU CT j)) (.ref (cj CR CC CU CT i)) = some (decide (j = i))
  kv : ∀ j, j < 4 → PySem.W.kitOne K (.ref (cj CR CC CU CT j)) (.type "ValueError") = some true
  em : ∀ j, j < 4 → PySem.W.exmOne K (.ref (cj CR CC CU CT j)) (.ref CE) = some true
/-- what is told of the j-th error -/
def kl (j : Nat) : List V := [.bl (decide (j = 0)), .bl (decide (j = 1)), .bl (decide (j = 2)), .bl (decide (j = 3)), .bl true]
section
variable {K : PySem.W.Frag} {σ : L2.St} {H : Hp} {D a : Addr}
theorem ev_isE {C : Addr} {b : Bool} {i : Nat} (h : σ[i]? = some (some (.ref a))) (k : PySem.W.kitOne K (.ref D) (.ref C) = some b) : Ev (tCB (rIsE K D a) (tCons (tVar i) (tCons (tC (.ref C)) tNil))) σ H (.bl b) := fun H1 e Q q => ⟨.ref a, h, .ref C, .ref C, b, rfl, fun u r => r, k, q H1 (Ex.refl H1)⟩
theorem ev_isEV {b : Bool} {i : Nat} (h : σ[i]? = some (some (.ref a))) (k : PySem.W.kitOne K (.ref D) (.type "ValueError") = some b) : Ev (tCB (rIsE K D a) (tCons (tVar i) (tCons (tC (.ty "ValueError")) tNil))) σ H (.bl b) := fun H1 e Q q => ⟨.ref a, h, .ty "ValueError", .type "ValueError", b, rfl, fun u r => r, k, q H1 (Ex.refl H1)⟩
end
end FzL
namespace FzW
open PySem PySem.Spec PyProof.Rows L2 Evl FzL Fz Fz.Tr LamX
abbrev s_kinds : Stmt := topS 39
abbrev s_told : Stmt := topS 46
section
variable {P : Program} {w : World} {K : PySem.W.Frag} {mg : Str → Option Value} {base : Heap} {T : List (Addr × Str)} {CE CR CC CU CT : Addr}
/-! _law_kinds -/
def spKinds (CR CC CU CT : Addr) (a : Addr) (c : Value) (d : Option Addr) : Sp := fun vs H Q _ => ∃ j, j < 4 ∧ vs = [.ref a] ∧ c = .ref (cj CR CC CU CT j) ∧ d = none ∧ RetL (kl j) H Q
theorem sc_kinds : FnScope ["_law_error", "_law_found"] ["_law_error"] (defScope s_kinds) := ⟨rfl, rfl, rfl, by decide +kernel, rfl, by decide +kernel, by decide +kernel⟩
theorem ok_kinds (D : Def K mg "_law_kinds" s_kinds ["_law_error"]) (B : Blt mg) (Er : ErrC K mg CE CR CC CU CT) : CalE P w K mg base 1 "_law_kinds" ["_law_error"] (spKinds CR CC CU CT) := by
  refine D.calE fun f fd F => okE F sc_kinds (fun a c d vs H Q E h => ?_) (fun cdv A outer s H vs Q E p c d hz hf hr h => ?_)
  · obtain ⟨j, _, rfl, _⟩ := h
    rfl
  · obtain ⟨j, hj, rfl, rfl, rfl, k⟩ := h
    have hi := call_isP (X := L2H.cxH CX0 P w K mg base ["_law_error", "_law_found"] "_law_kinds" (defScope s_kinds) f cdv A outer s H E p) (a := p.1) (D := cj CR CC CU CT j) (oe := p.2) (List.mem_singleton.mpr rfl) (Er.ex j hj) hz hf
    refine ⟨_, pss_cons (ps_set (i := 1) sc_kinds.nd rfl (Or.inl rfl) (pe_lst (pa_cons (pe_callB hi (by rfl) B.isinstance boot_isinstance (pa_cons (pv 0) (pa_cons (pe_cls Er.fR.gP) pa_nil))) <| pa_cons (pe_callB hi (by rfl) B.isinstance boot_isinstance (pa_cons (pv 0) (pa_cons (pe_cls Er.fC.gP) pa_nil))) <| pa_cons (pe_callB hi (by rfl) B.isinstance boot_isinstance (pa_cons (pv 0) (pa_cons (pe_cls Er.fU.gP) pa_nil))) pa_nil))) <|
      pss_one (ps_ret (pe_op op_cat (pv 1) (pe_lst (pa_cons (pe_callB hi (by rfl) B.isinstance boot_isinstance (pa_cons (pv 0) (pa_cons (pe_cls Er.fT.gP) pa_nil))) <| pa_cons (pe_callB hi (by rfl) B.isinstance boot_isinstance (pa_cons (pv 0) (pa_cons (pe_bltn (v := .ty "ValueError") (by rfl) Er.vE boot_ValueError rfl) pa_nil))) pa_nil)))), ?_⟩
    refine q_asgL (xs := [.bl (decide (j = 0)), .bl (decide (j = 1)), .bl (decide (j = 2))]) (el_lst (ea_cons (ev_isE rfl (Er.kit j 0 hj (by decide))) <| ea_cons (ev_isE rfl (Er.kit j 1 hj (by decide))) <| ea_cons (ev_isE rfl (Er.kit j 2 hj (by decide))) ea_nil) (by show 3 ≤ 100000; decide)) fun l H1 hl e1 h1 => ?_
    refine s_retL (xs := kl j) (el_catV (ev_var rfl) h1 (fun Hx ex => el_lst (ea_cons (ev_isE rfl (Er.kit j 3 hj (by decide))) <| ea_cons (ev_isEV rfl (Er.kv j hj)) ea_nil) (by show 2 ≤ 100000; decide)) (by show 3 + 2 ≤ 100000; decide)) fun r H2 hr2 e2 h2 => k r H2 (fresh_back e1 hr2) (e1.trans e2) h2
/-! _law_told -/
def spTold (P : Program) (w : World) (K : PySem.W.Frag) (mg : Str → Option Value) (base : Heap) (T : List (Addr × Str)) (CR CC CU CT : Addr) : Sp := fun vs H Q _ => ∃ (f : Addr) (sp : Sp) (x y : V) (j : Nat), vs = [.ref f, x, y] ∧ j < 4 ∧ HeldN P w K mg base 6 f sp ∧
  (∀ Q' E', RaiseN T (cj CR CC CU CT j) H E' → sp [x, y] H Q' E') ∧ RetLN T (kl j) H Q
abbrev toldN : List Str := ["_law_ask", "_law_one", "_law_other", "_law_error"]
theorem sc_told : FnScope toldN ["_law_ask", "_law_one", "_law_other"] (defScope s_told) := ⟨rfl, rfl, rfl, by decide +kernel, rfl, by decide +kernel, by decide +kernel⟩
theorem ok_told (D : Def K mg "_law_told" s_told ["_law_ask", "_law_one", "_law_other"]) (Er : ErrC K mg CE CR CC CU CT) (Kn : CalE P w K mg base 1 "_law_kinds" ["_law_error"] (spKinds CR CC CU CT)) : Cal P w K mg base CX0 7 "_law_told" ["_law_ask", "_law_one", "_law_other"] (spTold P w K mg base T CR CC CU CT) := by
  refine D.cal fun f fd F => F.ok sc_told (fun vs H Q E h => ?_) (fun cdv A outer s H vs Q E hr h => ?_)
  · obtain ⟨f, sp, x, y, j, rfl, _⟩ := h
    rfl
  · obtain ⟨g, sp, x, y, j, rfl, hj, hh, hsp, k⟩ := h
    refine ⟨_, pss_cons (L2N.ps_try_as (i := 3) (tb := fun W => tDrop (tCallAS (fun f sp => HeldN P w K mg base 6 f sp) 0 (WE W) (tCons (tVar 1) (tCons (tVar 2) tNil)))) (ts := fun a cls d => tRet (tCallE (spKinds CR CC CU CT a cls d) (tCons (tVar 3) tNil))) rfl rfl sc_told.nd rfl rfl ⟨by rfl, by decide, .inl Er.gE⟩ takes0N (fun W pn xe tk _ => pss_one (ps_expr (pe_callAS (i := 0) hr rfl (Or.inl rfl) (L2N.passAt tk) (pa_cons (pv 1) (pa_cons (pv 2) pa_nil)))))
        (fun a oe cls d pn hz hf => pss_one (ps_ret (pe_nE (a := a) (oe := oe) (k := 1) Kn (L2H.RoomH.mono (j := 1) (k := 6) ⟨hr.dp, hr.un⟩ (by decide)) ⟨rfl, hf.elim fun vs hv => ⟨vs, hv, hz.2.2 vs hv⟩⟩ (List.mem_cons_self ..) hz.zc hf (by rfl) (pa_cons (pv 3) pa_nil))))) <|
      pss_one (ps_ret (pe_lst pa_nil)), ?_⟩
    refine ⟨g, sp, rfl, hh, ⟨x, rfl, y, rfl, hsp _ _ fun H' e' T' => ⟨true, Er.em j hj, fun _ a ha => ?_, fun z => nomatch z⟩⟩⟩
    exact ⟨.ref a, rfl, j, hj, rfl, rfl, rfl, fun p H2 hp e2 h2 => k p H2 (newn_of e' hp) (e'.trans (exn_of e2)) (T'.ext e2) h2⟩
end
end FzW

namespace FzL
open PySem PySem.Spec PyProof.Rows L2 Evl Fz Fz.Tr LamX
section
variable {σ : L2.St} {H : Hp} {ta tb : TE} {t : TT}
theorem rz_if {b : Bool} (h : EvT t σ H b) (h1 : b = true → ∀ H1, Ex H H1 → ∀ Q, ta σ H1 Q) (h2 : b = false → ∀ H1, Ex H H1 → ∀ Q, tb σ H1 Q) : ∀ Q, tIf t ta tb σ H Q := fun Q => h H (Ex.refl _) _ fun H1 e1 => by
  cases b with
  | true => exact iteT (h1 rfl H1 e1 Q)
  | false => exact iteF (h2 rfl H1 e1 Q)
end
end FzL
namespace FzW
open PySem PySem.Spec PyProof.Rows L2 Evl FzL Fz Fz.Tr LamX
abbrev s_with_row : Stmt := topS 40
abbrev s_with_corner : Stmt := topS 41
abbrev s_with_steps : Stmt := topS 42
abbrev s_with_cuts : Stmt := topS 43
abbrev s_with_both : Stmt := topS 44
abbrev s_with_cut : Stmt := topS 45
section
variable {P : Program} {w : World} {K : PySem.W.Frag} {mg : Str → Option Value} {base : Heap} {T : List (Addr × Str)} {CR CC CU CT : Addr}
def spWRow (K : PySem.W.Frag) (T : List (Addr × Str)) (C : Addr) : Sp := fun vs H _ E => ∃ (d : Nat) (v : V), vs = [.int (d : Int), v] ∧ RowB K H v ∧ Tabs T H ∧ RaiseN T C H E
theorem sc_with_row : FnScope ["_law_door", "_law_row_here"] ["_law_door", "_law_row_here"] (defScope s_with_row) := ⟨rfl, rfl, rfl, by decide +kernel, rfl, by decide +kernel, by decide +kernel⟩
theorem ok_with_row (D : Def K mg "_law_with_row" s_with_row ["_law_door", "_law_row_here"]) (Ct : Cal P w K mg base (L2N.CX P w) 3 "cut" ["row"] (spRowB K T CR)) (Tb : Cal P w K mg base (L2N.CX P w) 3 "table" ["row"] (spRowB K T CR)) (Bt : Cal P w K mg base (L2N.CX P w) 3 "between" ["row", "corner", "steps"] (spRowB3 K T CR)) (Gr : Cal P w K mg base (L2N.CX P w) 3 "grown" ["row", "corner"] (spRowB2 K T CR)) :
    Cal P w K mg base (L2N.CX P w) 4 "_law_with_row" ["_law_door", "_law_row_here"] (spWRow K T CR) := by
  refine D.cal fun f fd F => okN F sc_with_row (fun vs H Q E h => ?_) (fun cdv A outer s H vs Q E hr h => ?_)
  · obtain ⟨d, v, rfl, _⟩ := h
    rfl
  · obtain ⟨d, v, rfl, hb, hT, hE⟩ := h
    refine ⟨_, pss_cons (ps_if (pt_cmpR op_lt (pv 0) pe_int (nomark _)) (pss_one (ps_ret (pe_ifExp (pt_cmpR op_eq (pv 0) pe_int (nomark _)) (pe_n Ct hr (by decide) (by rfl) pass_cx (pa_cons (pv 1) pa_nil)) (pe_n Tb hr (by decide) (by rfl) pass_cx (pa_cons (pv 1) pa_nil))))) pss_nil) <|
      pss_one (ps_ret (pe_ifExp (pt_cmpR op_eq (pv 0) pe_int (nomark _)) (pe_n Bt hr (by decide) (by rfl) pass_cx (pa_cons (pv 1) (pa_cons (pe_un un_neg pe_int) (pa_cons pe_non pa_nil)))) (pe_n Gr hr (by decide) (by rfl) pass_cx (pa_cons (pv 1) (pa_cons pe_non pa_nil))))), ?_⟩
    refine q_when (b := decide ((d : Int) < 2)) (et_test (ev_op (ev_var rfl) ev_c rv_I0)) (fun _ H1 e1 => ?_) fun _ H1 e1 => ?_
    · exact rz_if (b := decide ((d : Int) = 0)) (et_eqI (ev_var rfl) ev_c) (fun _ H2 e2 => rz_call (ea_cons (ev_var rfl) ea_nil) fun H3 e3 Q1 => ⟨v, rfl, rowb_exn (exn_of ((e1.trans e2).trans e3)) hb, hT.ext ((e1.trans e2).trans e3), hE.mono (exn_of ((e1.trans e2).trans e3))⟩)
        (fun _ H2 e2 => rz_call (ea_cons (ev_var rfl) ea_nil) fun H3 e3 Q1 => ⟨v, rfl, rowb_exn (exn_of ((e1.trans e2).trans e3)) hb, hT.ext ((e1.trans e2).trans e3), hE.mono (exn_of ((e1.trans e2).trans e3))⟩) _
    · exact rz_if (b := decide ((d : Int) = 2)) (et_eqI (ev_var rfl) ev_c) (fun _ H2 e2 => rz_call (vs := [v, .int (-1), .non]) (ea_cons (ev_var rfl) (ea_cons (ev_un ev_c ru_neg) (ea_cons ev_c ea_nil))) fun H3 e3 Q1 => ⟨v, _, _, rfl, rowb_exn (exn_of ((e1.trans e2).trans e3)) hb, hT.ext ((e1.trans e2).trans e3), hE.mono (exn_of ((e1.trans e2).trans e3))⟩)
        (fun _ H2 e2 => rz_call (ea_cons (ev_var rfl) (ea_cons ev_c ea_nil)) fun H3 e3 Q1 => ⟨v, _, rfl, rowb_exn (exn_of ((e1.trans e2).trans e3)) hb, hT.ext ((e1.trans e2).trans e3), hE.mono (exn_of ((e1.trans e2).trans e3))⟩) _
def spWCorn (K : PySem.W.Frag) (T : List (Addr × Str)) (C : Addr) : Sp := fun vs H _ E => ∃ (a t : Addr) (ns : List Int) (d : Int) (v : V), vs = [.ref a, .ref t] ∧ H a = some (.lst (ns.map V.int)) ∧ 3 ≤ ns.length ∧ ns.length ≤ 1000 ∧ H t = some (.tup [.int d, v]) ∧ CornB K H ns.length v ∧ Tabs T H ∧ RaiseN T C H E
theorem sc_with_corner : FnScope ["_law_row_here", "_law_pair"] ["_law_row_here", "_law_pair"] (defScope s_with_corner) := ⟨rfl, rfl, rfl, by decide +kernel, rfl, by decide +kernel, by decide +kernel⟩
theorem ok_with_corner (D : Def K mg "_law_with_corner" s_with_corner ["_law_row_here", "_law_pair"]) (Bt : Cal P w K mg base (L2N.CX P w) 3 "between" ["row", "corner", "steps"] (spCornB3 K T CC)) (Gr : Cal P w K mg base (L2N.CX P w) 3 "grown" ["row", "corner"] (spCornB K T CC)) :
    Cal P w K mg base (L2N.CX P w) 4 "_law_with_corner" ["_law_row_here", "_law_pair"] (spWCorn K T CC) := by
  refine D.cal fun f fd F => okN F sc_with_corner (fun vs H Q E h => ?_) (fun cdv A outer s H vs Q E hr h => ?_)
  · obtain ⟨a, t, ns, d, v, rfl, _⟩ := h
    rfl
  · obtain ⟨a, t, ns, d, v, rfl, hs, h3, hz, ht, hb, hT, hE⟩ := h
    refine ⟨_, pss_one (ps_ret (pe_ifExp (pt_cmpR op_eq (pe_ix ix_tup (pv 1) pe_int (fun _ _ => rfl)) pe_int (nomark _)) (pe_n Bt hr (by decide) (by rfl) pass_cx (pa_cons (pv 0) (pa_cons (pe_ix ix_tup (pv 1) pe_int (fun _ _ => rfl)) (pa_cons pe_int pa_nil)))) (pe_n Gr hr (by decide) (by rfl) pass_cx (pa_cons (pv 0) (pa_cons (pe_ix ix_tup (pv 1) pe_int (fun _ _ => rfl)) pa_nil))))), ?_⟩
    exact rz_if (b := decide (d = 0)) (et_eqI (ev_op (ev_var rfl) ev_c (rv_ixT (i := 0) (st_of ht) rfl)) ev_c) (fun _ H2 e2 => rz_call (vs := [.ref a, v, .int 0]) (ea_cons (ev_var rfl) (ea_cons (ev_op (ev_var rfl) ev_c (rv_ixT (i := 1) (st_of (e2 _ _ ht)) rfl)) (ea_cons ev_c ea_nil))) fun H3 e3 Q1 => ⟨a, ns, v, _, rfl, (e2.trans e3) _ _ hs, h3, hz, cornb_exn (exn_of (e2.trans e3)) hb, hT.ext (e2.trans e3), hE.mono (exn_of (e2.trans e3))⟩)
        (fun _ H2 e2 => rz_call (vs := [.ref a, v]) (ea_cons (ev_var rfl) (ea_cons (ev_op (ev_var rfl) ev_c (rv_ixT (i := 1) (st_of (e2 _ _ ht)) rfl)) ea_nil)) fun H3 e3 Q1 => ⟨a, ns, v, rfl, (e2.trans e3) _ _ hs, h3, hz, cornb_exn (exn_of (e2.trans e3)) hb, hT.ext (e2.trans e3), hE.mono (exn_of (e2.trans e3))⟩) _
def spWStep (K : PySem.W.Frag) (T : List (Addr × Str)) (C : Addr) : Sp := fun vs H _ E => ∃ (a : Addr) (ns : List Int) (v : V), vs = [.ref a, v] ∧ H a = some (.lst (ns.map V.int)) ∧ 3 ≤ ns.length ∧ ns.length ≤ 1000 ∧ CornB K H 1001 v ∧ Tabs T H ∧ RaiseN T C H E
theorem sc_with_steps : FnScope ["_law_row_here", "_law_steps"] ["_law_row_here", "_law_steps"] (defScope s_with_steps) := ⟨rfl, rfl, rfl, by decide +kernel, rfl, by decide +kernel, by decide +kernel⟩
theorem ok_with_steps (D : Def K mg "_law_with_steps" s_with_steps ["_law_row_here", "_law_steps"]) (Bt : Cal P w K mg base (L2N.CX P w) 3 "between" ["row", "corner", "steps"] (spStepB K T CC)) : Cal P w K mg base (L2N.CX P w) 4 "_law_with_steps" ["_law_row_here", "_law_steps"] (spWStep K T CC) := by
  refine D.cal fun f fd F => okN F sc_with_steps (fun vs H Q E h => ?_) (fun cdv A outer s H vs Q E hr h => ?_)
  · obtain ⟨a, ns, v, rfl, _⟩ := h
    rfl
  · obtain ⟨a, ns, v, rfl, hs, h3, hz, hb, hT, hE⟩ := h
    refine ⟨_, pss_one (ps_ret (pe_n Bt hr (by decide) (by rfl) pass_cx (pa_cons (pv 0) (pa_cons pe_int (pa_cons (pv 1) pa_nil))))), ?_⟩
    exact rz_call (vs := [.ref a, .int ((0 : Nat) : Int), v]) (ea_cons (ev_var rfl) (ea_cons ev_c (ea_cons (ev_var rfl) ea_nil))) (fun H3 e3 Q1 => ⟨a, ns, 0, v, rfl, e3 _ _ hs, h3, hz, by omega, cornb_exn (exn_of e3) hb, hT.ext e3, hE.mono (exn_of e3)⟩) _
theorem sc_with_cuts : FnScope ["_law_corners", "_law_cuts"] ["_law_corners", "_law_cuts"] (defScope s_with_cuts) := ⟨rfl, rfl, rfl, by decide +kernel, rfl, by decide +kernel, by decide +kernel⟩
theorem ok_with_cuts (D : Def K mg "_law_with_cuts" s_with_cuts ["_law_corners", "_law_cuts"]) (R : Cal P w K mg base (L2N.CX P w) 5 "row_of" ["corners", "cuts"] (spCutsB K T CU)) : Cal P w K mg base (L2N.CX P w) 6 "_law_with_cuts" ["_law_corners", "_law_cuts"] (spCutsB K T CU) := by
  refine D.cal fun f fd F => okN F sc_with_cuts (fun vs H Q E h => ?_) (fun cdv A outer s H vs Q E hr h => ?_)
  · obtain ⟨c, v, rfl, _⟩ := h
    rfl
  · obtain ⟨c, v, rfl, hb, hT, hE⟩ := h
    refine ⟨_, pss_one (ps_ret (pe_n R hr (by decide) (by rfl) pass_cx (pa_cons (pv 0) (pa_cons (pv 1) pa_nil)))), ?_⟩
    exact rz_call (ea_cons (ev_var rfl) (ea_cons (ev_var rfl) ea_nil)) (fun H1 e1 Q1 => ⟨c, v, rfl, cutsb_exn (exn_of e1) hb, hT.ext e1, hE.mono (exn_of e1)⟩) _
theorem sc_with_both : FnScope ["_law_corners", "_law_cuts"] ["_law_corners", "_law_cuts"] (defScope s_with_both) := ⟨rfl, rfl, rfl, by decide +kernel, rfl, by decide +kernel, by decide +kernel⟩
theorem ok_with_both (D : Def K mg "_law_with_both" s_with_both ["_law_corners", "_law_cuts"]) (R : Cal P w K mg base (L2N.CX P w) 5 "exchanged" ["corners", "cuts", "cut"] (spCutsB3 K T CU)) : Cal P w K mg base (L2N.CX P w) 6 "_law_with_both" ["_law_corners", "_law_cuts"] (spCutsB K T CU) := by
  refine D.cal fun f fd F => okN F sc_with_both (fun vs H Q E h => ?_) (fun cdv A outer s H vs Q E hr h => ?_)
  · obtain ⟨c, v, rfl, _⟩ := h
    rfl
  · obtain ⟨c, v, rfl, hb, hT, hE⟩ := h
    refine ⟨_, pss_one (ps_ret (pe_n R hr (by decide) (by rfl) pass_cx (pa_cons (pv 0) (pa_cons (pv 1) (pa_cons pe_non pa_nil))))), ?_⟩
    exact rz_call (ea_cons (ev_var rfl) (ea_cons (ev_var rfl) (ea_cons ev_c ea_nil))) (fun H1 e1 Q1 => ⟨c, v, _, rfl, cutsb_exn (exn_of e1) hb, hT.ext e1, hE.mono (exn_of e1)⟩) _
def spWOne (K : PySem.W.Frag) (T : List (Addr × Str)) (C : Addr) : Sp := fun vs H _ E => ∃ (a : Addr) (xs : List V) (ps : List PI) (v : V), vs = [.ref a, v] ∧ H a = some (.lst xs) ∧ Prs K H xs ps ∧ ps.length < 64 ∧ isCutting ((ps.length + 3 : Nat) : Int) ps = true ∧ OneB K H (ps.length + 3) ps v ∧ Tabs T H ∧ RaiseN T C H E
theorem sc_with_cut : FnScope ["_law_cuts", "_law_one"] ["_law_cuts", "_law_one"] (defScope s_with_cut) := ⟨rfl, rfl, rfl, by decide +kernel, rfl, by decide +kernel, by decide +kernel⟩
theorem ok_with_cut (D : Def K mg "_law_with_cut" s_with_cut ["_law_cuts", "_law_one"]) (B : Blt mg) (R : Cal P w K mg base (L2N.CX P w) 5 "exchanged" ["corners", "cuts", "cut"] (spOneB K T CT)) : Cal P w K mg base (L2N.CX P w) 6 "_law_with_cut" ["_law_cuts", "_law_one"] (spWOne K T CT) := by
  refine D.cal fun f fd F => okN F sc_with_cut (fun vs H Q E h => ?_) (fun cdv A outer s H vs Q E hr h => ?_)
  · obtain ⟨a, xs, ps, v, rfl, _⟩ := h
    rfl
  · obtain ⟨a, xs, ps, v, rfl, hs, hp, h64, hc, hb, hT, hE⟩ := h
    refine ⟨_, pss_one (ps_ret (pe_n R hr (by decide) (by rfl) pass_cx (pa_cons (pe_op op_add (len_of B (pv 0)) pe_int) (pa_cons (pv 0) (pa_cons (pv 1) pa_nil))))), ?_⟩
    exact rz_call (vs := [.int ((ps.length + 3 : Nat) : Int), .ref a, v]) (ea_cons (ev_is (ev_op (ev_len (ev_var rfl) (sq_of hs)) ev_c rv_I0) (by rw [hp.len]; rfl)) (ea_cons (ev_var rfl) (ea_cons (ev_var rfl) ea_nil))) (fun H1 e1 Q1 => ⟨ps.length + 3, a, xs, ps, v, rfl, by omega, e1 _ _ hs, hp.mono e1, h64, hc, oneb_exn (exn_of e1) hb, hT.ext e1, hE.mono (exn_of e1)⟩) _
end
end FzW

namespace FzL
open PySem PySem.Spec PyProof.Rows L2 Evl Fz Fz.Tr LamX
mutual
theorem dp_exn {K : PySem.W.Frag} {H H' : Hp} (e : ExtN H H') : ∀ (d : PyData) {v : V}, Dp K H v d → Dp K H' v d
  | .none, _, h => by cases h; exact .non
  | .bool _, _, h => by cases h; exact .bl _
  | .int _, _, h => by cases h; exact .int _
  | .str _, _, h => by cases h; exact .str _
  | .list ds, _, h => by
    cases h with
    | lst a b => exact .lst (exn_l e a) (dpall_exn e ds b)
  | .tuple ds, _, h => by
    cases h with
    | tup a b => exact .tup (exn_t e a) (dpall_exn e ds b)
  | .dict _, _, h => by cases h
theorem dpall_exn {K : PySem.W.Frag} {H H' : Hp} (e : ExtN H H') : ∀ (ds : List PyData) {vs : List V}, DpAll K H vs ds → DpAll K H' vs ds
  | [], _, h => by cases h; exact .nil
  | d :: ds, _, h => by
    cases h with
    | cons a b => exact .cons (dp_exn e d a) (dpall_exn e ds b)
end
/-! lists of bools -/
def dBools (bs : List Bool) : PyData := .list (bs.map .bool)
theorem eqvAll_bools : ∀ bs cs : List Bool, PyData.eqvAll (bs.map .bool) (cs.map .bool) = decide (bs = cs)
  | [], [] => by simp [PyData.eqvAll]
  | [], _ :: _ => by simp [PyData.eqvAll]
  | _ :: _, [] => by simp [PyData.eqvAll]
  | n :: ns, m :: ms => by
    rw [List.map_cons, List.map_cons, PyData.eqvAll, eqvAll_bools ns ms, PyData.eqv, Bool.eq_iff_iff]
    simp
theorem eqv_bools (bs cs : List Bool) : PyData.eqv (dBools bs) (dBools cs) = decide (bs = cs) := by
  unfold dBools
  rw [PyData.eqv, eqvAll_bools]
theorem can_bools : ∀ bs : List Bool, PyData.canLayAll0 (bs.map .bool) = true
  | [] => by simp [PyData.canLayAll0]
  | n :: ns => by
    rw [List.map_cons, PyData.canLayAll0, can_bools ns]
    simp [PyData.canLay0]
theorem dep_bools : ∀ bs : List Bool, PyData.depthAll (bs.map .bool) = 0
  | [] => by simp [PyData.depthAll]
  | n :: ns => by
    rw [List.map_cons, PyData.depthAll, dep_bools ns]
    simp [PyData.depth]
theorem shaped_bools (bs : List Bool) : SeqAt.shaped (dBools bs) = true := by
  unfold SeqAt.shaped dBools
  rw [PyData.canLay0, can_bools, PyData.depth, dep_bools]
  rfl
theorem dp_bools {K : PySem.W.Frag} {H : Hp} {a : Addr} {bs : List Bool} (h : SqL K H a (bs.map V.bl)) : Dp K H (.ref a) (dBools bs) := by
  refine .lst h ?_
  clear h
  induction bs with
  | nil => exact .nil
  | cons n ns ih => exact .cons (.bl n) ih
def kb (j : Nat) : List Bool := [decide (j = 0), decide (j = 1), decide (j = 2), decide (j = 3), true]
theorem kl_kb (j : Nat) : kl j = (kb j).map V.bl := rfl
/-- the due lists -/
def Due (H : Hp) (d : Addr) (b : Nat → Addr) : Prop := H d = some (.lst [.ref (b 0), .ref (b 1), .ref (b 2), .ref (b 3)]) ∧ ∀ j, j < 4 → H (b j) = some (.lst (kl j))
theorem due_exn {H H' : Hp} {d : Addr} {b : Nat → Addr} (e : ExtN H H') (h : Due H d b) : Due H' d b := ⟨exn_lst e h.1, fun j hj => exn_lst e (h.2 j hj)⟩
theorem due_at {b : Nat → Addr} {j : Nat} (hj : j < 4) : atI [V.ref (b 0), V.ref (b 1), V.ref (b 2), V.ref (b 3)] (j : Int) = some (.ref (b j)) := by
  match j, hj with
  | 0, _ => rfl
  | 1, _ => rfl
  | 2, _ => rfl
  | 3, _ => rfl
/-! items of a list that is no cutting -/
def ITm (K : PySem.W.Frag) (n : Int) : Hp → V → PyData × Bool → Prop := fun H v db => Dp K H v db.1 ∧ FzW.CutV K H n v db.2
theorem kIT {K : PySem.W.Frag} {n : Int} : Kept (ITm K n) := fun _ _ _ _ e h => ⟨dp_exn e _ h.1, cutv_exn e h.2⟩
section
variable {K : PySem.W.Frag} {σ : L2.St} {H H' : Hp} {ta tb te tl : TE} {n : Int}
theorem it_pr {v : V} {p : PI} (h : Pr K H v p) : ITm K n H v (dPair p, isCut n p) := ⟨dp_pair h, FzW.cutv_pr h⟩
end
end FzL
namespace FzL
open PySem PySem.Spec PyProof.Rows L2 Evl Fz Fz.Tr LamX
section
variable {K : PySem.W.Frag} {σ : L2.St} {H H' : Hp} {ta tb te tl : TE} {tr : TA} {D : Ends} {tu tz : TS} {T : List (Addr × Str)} {F : Hp → V → Prop} {m : Nat} {n : Int}
/-- for .. in a new list of things of one kind, any target -/
theorem q_forAG (kF : Kp F) {g : TG} (h : EvX te σ H (AllL F m H)) (hT : Tabs T H) (Pv : L2.St → Hp → Prop) (h0 : ∀ H1, ExtN H H1 → Tabs T H1 → Pv σ H1)
    (hs : ∀ (B : Hp) (v : V) (σ' : L2.St) (H' : Hp), ExtN H B → F H' v → ExtN B H' → Tabs T H' → Pv σ' H' → g v σ' H' fun σ3 H3 => tu { D with nx := fun σ2 H2 => ExtN B H2 ∧ Tabs T H2 ∧ Pv σ2 H2, ct := fun σ2 H2 => ExtN B H2 ∧ Tabs T H2 ∧ Pv σ2 H2, bk := tz D } σ3 H3)
    (hd : ∀ σ' H', ExtN H H' → Tabs T H' → Pv σ' H' → tz D σ' H') : tSeq (tFor (iList K te) g tu) tz D σ H :=
  h H (Ex.refl H) _ fun v H1 e1 ⟨p, ys, hv, hn, hp, _, hF⟩ => by
    subst hv
    refine ⟨p, rfl, ⟨ys, sq_of hp⟩, ?_⟩
    refine for_it (D := { D with nx := tz D }) (walk_list (K := K) (a := p) (xs := ys)) (fun i σ' H' => ExtN H1 H' ∧ Tabs T H' ∧ Pv σ' H') ⟨ExtN.refl _, hT.ext e1, h0 _ (exn_of e1) (hT.ext e1)⟩ (fun i σ' H' _ ⟨q, _⟩ => sq_of (exn_lst q hp)) ?_ (fun σ' H' ⟨q1, q2, q3⟩ => hd σ' H' ((exn_of e1).trans q1) q2 q3)
    rintro i v σ' H' H'' hi ⟨q1, q2, q3⟩ ⟨rfl, hv⟩
    exact hs H1 v σ' _ (exn_of e1) (kF _ _ _ q1 (al_get kF (hF v (List.mem_of_getElem? hv)))) q1 q2 q3
/-- a list of pairs that is no cutting -/
theorem cuts_pl {ps : List PI} (h : EvX te σ H (PL K H ps)) (h64 : ps.length < 64) (hc : isCutting n ps = false) : EvX te σ H (fun v H2 => FzW.CutsV K H2 n v false) := fun H1 e Q q =>
  h H1 e Q fun v H2 e2 ⟨p, ys, hv, _, h3, h4⟩ => q v H2 e2 (by
    subst hv
    rw [← hc]
    exact .ok (isv_ty (.base (.lst h3)) (by decide +kernel)) (sq_of h3) h4 h64)
theorem gs_map {dbs : List (PyData × Bool)} : ∀ {vs : List V} {dbs : List (PyData × Bool)}, Gs (ITm K n) H vs dbs → DpAll K H vs (dbs.map (·.1)) ∧ Paired (FzW.CutV K H n) vs (dbs.map (·.2))
  | _, _, .nil => ⟨.nil, .nil⟩
  | _, _, .cons a b => ⟨.cons a.1 (gs_map (dbs := []) b).1, .cons a.2 (gs_map (dbs := []) b).2⟩
theorem gs_prs : ∀ {vs : List V} {ps : List PI}, Prs K H vs ps → Gs (ITm K n) H vs (ps.map fun p => (dPair p, isCut n p))
  | _, _, .nil => .nil
  | _, _, .cons a b => .cons (it_pr a) (gs_prs b)
theorem gl_pairs {ps : List PI} (h : EvX te σ H (PL K H ps)) : EvX te σ H (GL (ITm K n) H (ps.map fun p => (dPair p, isCut n p))) := h.imp fun v H2 _ ⟨p, ys, h1, h2, h3, h4⟩ => ⟨p, ys, h1, h2, h3, gs_prs h4⟩
theorem cuts_gl {dbs : List (PyData × Bool)} (h : EvX te σ H (GL (ITm K n) H dbs)) (hz : dbs.length ≤ 1000) (hn : (dbs.length : Int) = n - 3) (hall : (dbs.map (·.2)).all id = false) : EvX te σ H (fun v H2 => FzW.CutsV K H2 n v false) := fun H1 e Q q =>
  h H1 e Q fun v H2 e2 ⟨p, ys, hv, _, h3, h4⟩ => q v H2 e2 (by
    subst hv
    have hl : ys.length = dbs.length := Paired.length h4
    exact .bad (isv_ty (.base (.lst h3)) (by decide +kernel)) (sq_of h3) (by omega) (by omega) (gs_map (dbs := []) h4).2 hall)
/-- a pair of corners and what is no cutting of them -/
def CTup (K : PySem.W.Frag) (H : Hp) (v : V) : Prop := ∃ (t : Addr) (n : Int) (l : V), v = .ref t ∧ H t = some (.tup [.int n, l]) ∧ 3 ≤ n ∧ FzW.CutsV K H n l false
theorem kCTup : Kp (CTup K) := fun _ _ _ e ⟨t, n, l, h1, h2, h3, h4⟩ => ⟨t, n, l, h1, exn_tup e h2, h3, cutsv_exn e h4⟩
theorem ct_mk (h3 : 3 ≤ n) (h : EvX te σ H (fun v H2 => FzW.CutsV K H2 n v false)) : EvX (tTup (tCons (tC (.int n)) (tCons te tNil))) σ H (fun v H2 => CTup K H2 v) := fun H1 e Q q =>
  h H1 e _ fun v H2 e2 pv => ⟨sz_of (show 2 ≤ 100000 by decide), fun p hp => q _ _ (e2.trans (Ex.new hp)) ⟨p, n, v, rfl, upd_same, h3, cutsv_exn (exn_of (Ex.new hp)) pv⟩⟩
/-- a tuple of two plain things -/
theorem it_tup {x y : V} {d e' : PyData} {b : Bool} (h : EvU te σ H [x, y]) (hx : ∀ H1 : Hp, Dp K H1 x d) (hy : ∀ H1 : Hp, Dp K H1 y e') (hb : ∀ (H1 : Hp) (t : Addr), H1 t = some (.tup [x, y]) → FzW.CutV K H1 n (.ref t) b) : EvX te σ H (fun v H2 => ITm K n H2 v (.tuple [d, e'], b)) := fun H1 e Q q =>
  h H1 e _ fun t H2 _ e2 h2 => q _ H2 e2 ⟨.tup (st_of h2) (.cons (hx _) (.cons (hy _) .nil)), hb H2 t h2⟩
theorem tup_ty {H1 : Hp} {t : Addr} {xs : List V} (h : H1 t = some (.tup xs)) : IsV K H1 (.ref t) "tuple" true := isv_ty (.base (.tup h)) (by decide +kernel)
end
end FzL
namespace Fz
open Tr
theorem kle_the {ps qs : List PI} (h : qs.Perm ps) (hs : qs.Pairwise (fun a b => kle a b = true)) : ps.mergeSort kle = qs :=
  List.Perm.eq_of_pairwise (le := fun a b => kle a b = true) (fun a b _ _ h1 h2 => kle_anti a b h1 h2) (List.pairwise_mergeSort kle_trans kle_total ps) hs ((List.mergeSort_perm ps kle).trans h.symm)
theorem two_cross1 : twoCross [(0, 5), (1, 5), (1, 3), (2, 4)] = true := by
  unfold twoCross
  rw [kle_the (List.Perm.refl _) (by decide)]
  decide
theorem no_cut1 : isCutting 7 [(0, 5), (1, 5), (1, 3), (2, 4)] = false := by
  unfold isCutting
  rw [two_cross1, Bool.not_true, Bool.and_false]
theorem not_all {n : Int} {ps : List PI} (h : ps.all (isCut n) = false) : isCutting n ps = false := by
  unfold isCutting
  rw [h, Bool.and_false, Bool.false_and, Bool.false_and]
theorem not_nodup {n : Int} {ps : List PI} (h : ¬ ps.Nodup) : isCutting n ps = false := by
  unfold isCutting
  rw [decide_eq_false h, Bool.and_false, Bool.false_and]
theorem not_one {n : Int} {ps : List PI} {p : PI} (hp : p ∈ ps) (h : isCut n p = false) : isCutting n ps = false := not_all (by
  cases hc : ps.all (isCut n) with
  | false => rfl
  | true =>
    have := List.all_eq_true.mp hc p hp
    rw [h] at this
    cases this)
end Fz

namespace FzW
open PySem PySem.Spec PyProof.Rows L2 Evl FzL Fz Fz.Tr LamX
abbrev s_crossing : Stmt := topS 47
section
variable {P : Program} {w : World} {K : PySem.W.Frag} {mg : Str → Option Value} {base : Heap} {T : List (Addr × Str)} {CE CR CC CU CT : Addr} {σ : L2.St} {H : Hp} {ta : TA}
theorem use_told {f : Addr} {sp : Sp} {x y : V} {j : Nat} (hj : j < 4) (hh : HeldN P w K mg base 6 f sp) (hs : ∀ Q' E', RaiseN T (cj CR CC CU CT j) H E' → sp [x, y] H Q' E') : SpNX T (spTold P w K mg base T CR CC CU CT) ([.ref f, x, y] ++ []) H (fun v H2 => ∃ p, v = .ref p ∧ H2 p = some (.lst (kl j))) := fun Q q E =>
  ⟨f, sp, x, y, j, rfl, hj, hh, hs, fun p H' hp e T' h => q _ H' e T' ⟨p, rfl, h⟩⟩
theorem nv_toldNe {f d : Addr} {sp : Sp} {x y : V} {j i : Nat} {b : Nat → Addr} (ha : EvA ta σ H [.ref f, x, y]) (hj : j < 4) (hh : HeldN P w K mg base 6 f sp) (hs : ∀ H1, ExtN H H1 → Tabs T H1 → ∀ Q' E', RaiseN T (cj CR CC CU CT j) H1 E' → sp [x, y] H1 Q' E') (hd : Due H d b) (hσ : σ[i]? = some (some (.ref d))) (hT : Tabs T H) :
    NvE T (tOp (rNeD K) (tCall (spTold P w K mg base T CR CC CU CT) [] E0 ta) (tOp (rIxL K) (tVar i) (tC (.int (j : Int))))) σ H (.bl false) :=
  nv_is (nv_opXV (P := fun v H2 => ∃ p, v = V.ref p ∧ H2 p = some (.lst (kl j))) (z := .bl (!decide (kb j = kb j))) (nx_call (na_of ha hT) fun H1 e1 T1 => use_told hj hh (hs H1 e1 T1)) (fun v H1 e1 T1 p1 => ev_op (ev_var hσ) ev_c (rv_ixL (sq_of (exn_lst e1 hd.1)) (due_at hj))) fun v H1 H2 e1 ⟨p, q1, q2⟩ e2 => by
    subst q1
    exact rv_neD (dp_bools (sq_of (e2 _ _ q2))) (dp_bools (sq_of (e2 _ _ (exn_lst e1 (hd.2 j hj))))) (shaped_bools _) (shaped_bools _) (eqv_bools _ _)) (by rw [decide_eq_true rfl]; rfl)
theorem nv_toldEq {f d : Addr} {sp : Sp} {x y : V} {j i : Nat} {b : Nat → Addr} (ha : EvA ta σ H [.ref f, x, y]) (hj : j < 4) (hh : HeldN P w K mg base 6 f sp) (hs : ∀ H1, ExtN H H1 → Tabs T H1 → ∀ Q' E', RaiseN T (cj CR CC CU CT j) H1 E' → sp [x, y] H1 Q' E') (hd : Due H d b) (hσ : σ[i]? = some (some (.ref d))) (hT : Tabs T H) :
    NvE T (tOp (rEqD K) (tCall (spTold P w K mg base T CR CC CU CT) [] E0 ta) (tOp (rIxL K) (tVar i) (tC (.int (j : Int))))) σ H (.bl true) :=
  nv_is (nv_opXV (P := fun v H2 => ∃ p, v = V.ref p ∧ H2 p = some (.lst (kl j))) (z := .bl (decide (kb j = kb j))) (nx_call (na_of ha hT) fun H1 e1 T1 => use_told hj hh (hs H1 e1 T1)) (fun v H1 e1 T1 p1 => ev_op (ev_var hσ) ev_c (rv_ixL (sq_of (exn_lst e1 hd.1)) (due_at hj))) fun v H1 H2 e1 ⟨p, q1, q2⟩ e2 => by
    subst q1
    exact rv_eqD (dp_bools (sq_of (e2 _ _ q2))) (dp_bools (sq_of (e2 _ _ (exn_lst e1 (hd.2 j hj))))) (shaped_bools _) (shaped_bools _) (eqv_bools _ _)) (by rw [decide_eq_true rfl])
/-- both doors with cuts -/
def tBoth (P : Program) (w : World) (K : PySem.W.Frag) (mg : Str → Option Value) (base : Heap) (T : List (Addr × Str)) (CR CC CU CT fC fB : Addr) (i1 i2 i : Nat) : TT :=
  tOr (tTest (tOp (rNeD K) (tCall (spTold P w K mg base T CR CC CU CT) [] E0 (tCons (tC (.ref fC)) (tCons (tVar i1) (tCons (tVar i2) tNil)))) (tOp (rIxL K) (tVar i) (tC (.int 2)))))
    (tTest (tOp (rNeD K) (tCall (spTold P w K mg base T CR CC CU CT) [] E0 (tCons (tC (.ref fB)) (tCons (tVar i1) (tCons (tVar i2) tNil)))) (tOp (rIxL K) (tVar i) (tC (.int 2)))))
theorem nt_both {fC fB d : Addr} {c v : V} {i1 i2 i : Nat} {b : Nat → Addr} (hC : HeldN P w K mg base 6 fC (spCutsB K T CU)) (hB : HeldN P w K mg base 6 fB (spCutsB K T CU)) (h1 : σ[i1]? = some (some c)) (h2 : σ[i2]? = some (some v)) (hb : CutsB K H c v) (hd : Due H d b) (hσ : σ[i]? = some (some (.ref d))) (hT : Tabs T H) :
    NvT T (tBoth P w K mg base T CR CC CU CT fC fB i1 i2 i) σ H false :=
  nt_or (a := false) (b := false) (nt_test (nv_toldNe (j := 2) (ea_cons ev_c (ea_cons (ev_var h1) (ea_cons (ev_var h2) ea_nil))) (by decide) hC (fun H1 e1 T1 Q' E' hE => ⟨c, v, rfl, cutsb_exn e1 hb, T1, hE⟩) hd hσ hT)) fun _ H1 e1 T1 =>
    nt_test (nv_toldNe (j := 2) (ea_cons ev_c (ea_cons (ev_var h1) (ea_cons (ev_var h2) ea_nil))) (by decide) hB (fun H2 e2 T2 Q' E' hE => ⟨c, v, rfl, cutsb_exn (e1.trans e2) hb, T2, hE⟩) (due_exn e1 hd) hσ T1)
/-! _law_crossing_right -/
def spCross (K : PySem.W.Frag) (T : List (Addr × Str)) : Sp := fun vs H Q _ => ∃ (d : Addr) (b : Nat → Addr) (far : Int), vs = [.ref d, .int far] ∧ Due H d b ∧ 0 ≤ far ∧ Tabs T H ∧ RetN T (.bl true) H Q
abbrev crossN : List Str := ["_law_due", "_law_far", "_law_crossing", "_law_corners", "_law_thing"]
theorem sc_crossing : FnScope crossN ["_law_due", "_law_far"] (defScope s_crossing) := ⟨rfl, rfl, rfl, by decide +kernel, rfl, by decide +kernel, by decide +kernel⟩
theorem ok_crossing (D : Def K mg "_law_crossing_right" s_crossing ["_law_due", "_law_far"]) (Td : Cal P w K mg base CX0 7 "_law_told" ["_law_ask", "_law_one", "_law_other"] (spTold P w K mg base T CR CC CU CT))
    (WC : Cal P w K mg base (L2N.CX P w) 6 "_law_with_cuts" ["_law_corners", "_law_cuts"] (spCutsB K T CU)) (WB : Cal P w K mg base (L2N.CX P w) 6 "_law_with_both" ["_law_corners", "_law_cuts"] (spCutsB K T CU)) : Cal P w K mg base CX0 8 "_law_crossing_right" ["_law_due", "_law_far"] (spCross K T) := by
  obtain ⟨fC, mC, hC⟩ := WC.held
  obtain ⟨fB, mB, hB⟩ := WB.held
  refine D.cal fun f fd F => F.ok sc_crossing (fun vs H Q E h => ?_) (fun cdv A outer s H vs Q E hr h => ?_)
  · obtain ⟨d, b, far, rfl, _⟩ := h
    rfl
  · obtain ⟨d, b, far, rfl, hd, hf, hT, k⟩ := h
    refine ⟨_, pss_cons (ps_set (i := 2) sc_crossing.nd rfl (Or.inl rfl) (pe_lst (pa_cons (pe_tup (pa_cons pe_int (pa_cons (pe_lst (pa_cons (pe_tup (pa_cons pe_int (pa_cons pe_int pa_nil))) <| pa_cons (pe_tup (pa_cons pe_int (pa_cons pe_int pa_nil))) <| pa_cons (pe_tup (pa_cons pe_int (pa_cons pe_int pa_nil))) <| pa_cons (pe_tup (pa_cons pe_int (pa_cons pe_int pa_nil))) pa_nil)) pa_nil))) <|
        pa_cons (pe_tup (pa_cons pe_int (pa_cons (pe_lst (pa_cons (pe_tup (pa_cons pe_int (pa_cons pe_int pa_nil))) <| pa_cons (pe_tup (pa_cons pe_int (pa_cons pe_int pa_nil))) <| pa_cons (pe_tup (pa_cons pe_int (pa_cons pe_int pa_nil))) pa_nil)) pa_nil))) <|
        pa_cons (pe_tup (pa_cons pe_int (pa_cons (pe_lst (pa_cons (pe_tup (pa_cons pe_int (pa_cons pe_int pa_nil))) <| pa_cons (pe_tup (pa_cons pe_int (pa_cons pe_int pa_nil))) <| pa_cons (pe_tup (pa_cons pe_int (pa_cons pe_int pa_nil))) pa_nil)) pa_nil))) pa_nil))) <|
      pss_cons (ps_for PassesOwn.never rfl (pi_list (pe_op op_cat (pv 2) (pe_lst (pa_cons (pe_tup (pa_cons pe_int (pa_cons (pe_lst (pa_cons (pe_tup (pa_cons pe_int (pa_cons pe_non pa_nil))) <| pa_cons (pe_tup (pa_cons pe_int (pa_cons pe_int pa_nil))) pa_nil)) pa_nil))) <|
          pa_cons (pe_tup (pa_cons pe_int (pa_cons (pe_lst (pa_cons (pe_tup (pa_cons pe_int (pa_cons pe_int pa_nil))) <| pa_cons (pe_tup (pa_cons pe_int (pa_cons pe_int pa_nil))) pa_nil)) pa_nil))) <|
          pa_cons (pe_tup (pa_cons pe_int (pa_cons (pe_lst (pa_cons (pe_tup (pa_cons pe_int (pa_cons pe_int pa_nil))) <| pa_cons (pe_tup (pa_cons pe_int (pa_cons (pe_op op_add (pe_op op_add pe_int (pv 1)) pe_int) pa_nil))) pa_nil)) pa_nil))) pa_nil))))
        (pg_tup rfl (pgs_cons (pg_name (i := 3) sc_crossing.nd rfl (Or.inl rfl)) (pgs_cons (pg_name (i := 4) sc_crossing.nd rfl (Or.inl rfl)) pgs_nil)))
        (pss_one (ps_if (PW.pt (pw_or (pt_cmpR (op_neD hr.units) (pe_n Td hr (by decide) (by rfl) pass0 (pa_cons (pe_cls mC) (pa_cons (pv 3) (pa_cons (pv 4) pa_nil)))) (pe_ix ix_list (pv 0) pe_int (fun _ _ => rfl)) (nomark _)) (pw_or1 (pt_cmpR (op_neD hr.units) (pe_n Td hr (by decide) (by rfl) pass0 (pa_cons (pe_cls mB) (pa_cons (pv 3) (pa_cons (pv 4) pa_nil)))) (pe_ix ix_list (pv 0) pe_int (fun _ _ => rfl)) (nomark _))))) (pss_one (ps_ret pe_bl)) pss_nil))) <|
      pss_one (ps_ret pe_bl), ?_⟩
    have tt : ∀ {σ : L2.St} {H1 : Hp} {i j : Int}, EvX (tTup (tCons (tC (.int i)) (tCons (tC (.int j)) tNil))) σ H1 (fun v H2 => Pr K H2 v (i, j)) := fun {σ H1 i j} => gpr tp2
    refine q_asgX (al_lst (F := CTup K) (m := 3) kCTup (aa_cons kCTup (ct_mk (by decide) (cuts_pl (ps := [(0, 5), (1, 5), (1, 3), (2, 4)]) (gl_pl (gl_lst kPr (gs_cons kPr tt <| gs_cons kPr tt <| gs_cons kPr tt <| gs_cons kPr tt gs_nil) (by show 4 ≤ 100000; decide))) (by decide) no_cut1)) <|
      aa_cons kCTup (ct_mk (by decide) (cuts_pl (ps := [(0, 2), (2, 6), (2, 4)]) (gl_pl (gl_lst kPr (gs_cons kPr tt <| gs_cons kPr tt <| gs_cons kPr tt gs_nil) (by show 3 ≤ 100000; decide))) (by decide) (not_all (by decide)))) <|
      aa_cons kCTup (ct_mk (by decide) (cuts_pl (ps := [(0, 3), (3, 7), (3, 5)]) (gl_pl (gl_lst kPr (gs_cons kPr tt <| gs_cons kPr tt <| gs_cons kPr tt gs_nil) (by show 3 ≤ 100000; decide))) (by decide) (not_all (by decide)))) aa_nil) (by decide)) fun v H1 e1 ⟨l, ys, hv, _, hl, hlen, hF⟩ => ?_
    subst hv
    have hd1 := due_exn (exn_of e1) hd
    have hT1 := hT.ext e1
    have hnon : ∀ (H1 : Hp) (t : Addr), H1 t = some (.tup [.int 0, .non]) → CutV K H1 5 (.ref t) false := fun H1 t h => .snd (tup_ty h) (st_of h) (whole_int 0) whole_non
    refine q_forAG (F := CTup K) (m := 3 + 3) kCTup (al_catV kCTup (ev_var rfl) hl hlen (fun v hv => al_get kCTup (hF v hv)) (fun Hx ex => al_lst (F := CTup K) (m := 3) kCTup (aa_cons kCTup (ct_mk (by decide) (cuts_gl (dbs := [(.tuple [.int 0, .none], false), (dPair (0, 2), isCut 5 (0, 2))]) (gl_lst kIT (gs_cons kIT (it_tup (eu_tup (ea_cons ev_c (ea_cons ev_c ea_nil)) (by show 2 ≤ 100000; decide)) (fun _ => .int 0) (fun _ => .non) hnon) <| gs_cons kIT (tt.imp fun v H2 _ h => it_pr h) gs_nil) (by show 2 ≤ 100000; decide)) (by decide) (by decide) rfl)) <|
      aa_cons kCTup (ct_mk (by decide) (cuts_pl (ps := [(0, 2), (2, 5)]) (gl_pl (gl_lst kPr (gs_cons kPr tt <| gs_cons kPr tt gs_nil) (by show 2 ≤ 100000; decide))) (by decide) (not_all (by decide)))) <|
      aa_cons kCTup (ct_mk (by decide) (cuts_pl (ps := [(0, 2), (2, 4 + far + 1)]) (gl_pl (gl_lst kPr (gs_cons kPr tt <| gs_cons kPr (gpr (eu_tup (ea_cons ev_c (ea_cons (ev_op (ev_op ev_c (ev_var rfl) rv_I0) ev_c rv_I0) ea_nil)) (by show 2 ≤ 100000; decide))) gs_nil) (by show 2 ≤ 100000; decide))) (by show 2 < 64; decide) (not_one (p := (2, 4 + far + 1)) (by simp) (by
        unfold isCut
        rw [decide_eq_false (show ¬ (4 + far + 1 < 5) by omega), Bool.and_false, Bool.false_and])))) aa_nil) (by decide)) (by decide)) hT1
      (fun σ' H' => ∃ v3 v4 : Option V, σ' = [some (.ref d), some (.int far), some (.ref l), v3, v4]) (fun Hx ex Tx => ⟨_, _, rfl⟩) ?_ ?_
    · rintro Bh v σ' H' hBB ⟨t, n, lv, hv, ht, h3, hcv⟩ eB T' ⟨v3, v4, rfl⟩
      refine ⟨t, _, hv, st_of ht, rfl, _, _, rfl, _, _, rfl, rfl, ?_⟩
      refine s_ifN (T := T) (b := false) (nt_both (c := .int n) (v := lv) (i1 := 3) (i2 := 4) (i := 0) hC hB rfl rfl (.inr (.inr ⟨n, rfl, h3, hcv⟩)) (due_exn (hBB.trans eB) hd1) rfl T') (fun z => nomatch z) fun _ H2 e2 T2 => ⟨eB.trans e2, T2, _, _, rfl⟩
    · rintro σ' H' e' T' ⟨v3, v4, rfl⟩
      exact s_ret ev_c fun H2 e2 => k H2 (((exn_of e1).trans e').trans (exn_of e2)) (T'.ext e2)
end
end FzW

namespace FzL
open PySem PySem.Spec PyProof.Rows L2 Evl Fz Fz.Tr LamX
/-- what is no cutting of n corners, and may be compared; or a list of none -/
def BT (K : PySem.W.Frag) (n : Int) (H : Hp) (v : V) : Prop := ∃ isl : Bool, IsV K H v "list" isl ∧
  ((∃ d, Dp K H v d ∧ SeqAt.shaped d = true ∧ ((n = 3 ∧ isl = true ∧ d = .list []) ∨ FzW.CutsV K H n v false)) ∨ (isl = false ∧ (∃ a kvs, v = .ref a ∧ H a = some (.dK kvs)) ∧ FzW.CutsV K H n v false))
theorem kBT {K : PySem.W.Frag} {n : Int} : Kp (BT K n) := fun H H' v e ⟨isl, h1, h2⟩ => ⟨isl, exn_is e h1, h2.imp (fun ⟨d, g1, g2, g3⟩ => ⟨d, dp_exn e _ g1, g2, g3.imp id (cutsv_exn e)⟩) fun ⟨g1, ⟨a, kvs, g2, g3⟩, g4⟩ => ⟨g1, ⟨a, kvs, g2, e _ _ g3 fun _ q => nomatch q⟩, cutsv_exn e g4⟩⟩
/-- the first sieve -/
def BT2 (K : PySem.W.Frag) (n : Int) (H : Hp) (v : V) : Prop := ((∃ d, Dp K H v d ∧ SeqAt.shaped d = true) ∨ ∃ a kvs, v = .ref a ∧ H a = some (.dK kvs)) ∧ FzW.CutsV K H n v false
theorem kBT2 {K : PySem.W.Frag} {n : Int} : Kp (BT2 K n) := fun H H' v e ⟨h1, h2⟩ => ⟨h1.imp (fun ⟨d, g1, g2⟩ => ⟨d, dp_exn e _ g1, g2⟩) fun ⟨a, kvs, g2, g3⟩ => ⟨a, kvs, g2, e _ _ g3 fun _ q => nomatch q⟩, cutsv_exn e h2⟩
def BT3 (K : PySem.W.Frag) (n : Int) (H : Hp) (v : V) : Prop := FzW.CutsV K H n v false
theorem kBT3 {K : PySem.W.Frag} {n : Int} : Kp (BT3 K n) := fun H H' v e h => cutsv_exn e h
section
variable {K : PySem.W.Frag} {σ : L2.St} {H H' : Hp} {ta tb te tl : TE} {tr : TA} {n : Int} {v : V}
/-! at a heap -/
theorem shaped_items {dbs : List (PyData × Bool)} (hs : ∀ db ∈ dbs, db.1.canLay0 = true ∧ db.1.depth ≤ 2) : SeqAt.shaped (.list (dbs.map (·.1))) = true := by
  have h : PyData.canLayAll0 (dbs.map (·.1)) = true ∧ PyData.depthAll (dbs.map (·.1)) ≤ 2 := by
    induction dbs with
    | nil => simp [PyData.canLayAll0, PyData.depthAll]
    | cons d ds ih =>
      obtain ⟨h1, h2⟩ := hs d (List.mem_cons_self ..)
      obtain ⟨h3, h4⟩ := ih fun db hdb => hs db (List.mem_cons_of_mem _ hdb)
      rw [List.map_cons, PyData.canLayAll0, PyData.depthAll, h1, h3]
      exact ⟨rfl, by omega⟩
  unfold SeqAt.shaped
  rw [PyData.canLay0, h.1, PyData.depth]
  have := h.2
  rw [decide_eq_true (by omega)]
  rfl
theorem item_pair (p : PI) : (dPair p).canLay0 = true ∧ (dPair p).depth ≤ 2 := ⟨can_pair p, by rw [dep_pair]; decide⟩
theorem bt_prs {r : Addr} {ys : List V} {ps : List PI} (h : H r = some (.lst ys)) (hp : Prs K H ys ps) (h64 : ps.length < 64) (hc : isCutting n ps = false) : BT K n H (.ref r) :=
  ⟨true, isv_ty (.base (.lst h)) (by decide +kernel), .inl ⟨dPairs ps, dp_pairs (sq_of h) hp, shaped_pairs ps, .inr (by
    rw [← hc]
    exact .ok (isv_ty (.base (.lst h)) (by decide +kernel)) (sq_of h) hp h64)⟩⟩
theorem bt_its {r : Addr} {ys : List V} {dbs : List (PyData × Bool)} (h : H r = some (.lst ys)) (hg : Gs (ITm K n) H ys dbs) (hz : dbs.length ≤ 1000) (hn : (dbs.length : Int) = n - 3) (hall : (dbs.map (·.2)).all id = false) (hs : ∀ db ∈ dbs, db.1.canLay0 = true ∧ db.1.depth ≤ 2) : BT K n H (.ref r) := by
  have hl : ys.length = dbs.length := Paired.length hg
  obtain ⟨g1, g2⟩ := gs_map (dbs := []) hg
  exact ⟨true, isv_ty (.base (.lst h)) (by decide +kernel), .inl ⟨_, .lst (sq_of h) g1, shaped_items hs, .inr (.bad (isv_ty (.base (.lst h)) (by decide +kernel)) (sq_of h) (by omega) (by omega) g2 hall)⟩⟩
/-! of expressions -/
theorem bt_pl {ps : List PI} (h : EvX te σ H (PL K H ps)) (h64 : ps.length < 64) (hc : isCutting n ps = false) : EvX te σ H (fun v H2 => BT K n H2 v) := fun H1 e Q q =>
  h H1 e Q fun v H2 e2 ⟨p, ys, hv, _, h3, h4⟩ => q v H2 e2 (by
    subst hv
    exact bt_prs h3 h4 h64 hc)
theorem bt_gl {dbs : List (PyData × Bool)} (h : EvX te σ H (GL (ITm K n) H dbs)) (hz : dbs.length ≤ 1000) (hn : (dbs.length : Int) = n - 3) (hall : (dbs.map (·.2)).all id = false) (hs : ∀ db ∈ dbs, db.1.canLay0 = true ∧ db.1.depth ≤ 2) : EvX te σ H (fun v H2 => BT K n H2 v) := fun H1 e Q q =>
  h H1 e Q fun v H2 e2 ⟨p, ys, hv, _, h3, h4⟩ => q v H2 e2 (by
    subst hv
    exact bt_its h3 h4 hz hn hall hs)
/-- a plain thing -/
theorem bt_c {d : PyData} (h1 : ∀ H1 : Hp, IsV K H1 v "list" false) (h2 : ∀ H1 : Hp, Dp K H1 v d) (h3 : SeqAt.shaped d = true) : EvX (tC v) σ H (fun v H2 => BT K n H2 v) := fun H1 e Q q =>
  q v H1 (Ex.refl _) ⟨false, h1 _, .inl ⟨d, h2 _, h3, .inr (.no (h1 _))⟩⟩
theorem bt_dict : EvX tDNewK σ H (fun v H2 => BT K n H2 v) := fun H1 e Q q p hp => q _ _ (Ex.new hp) (by
  have hl : IsV K (upd H1 p (.dK [])) (.ref p) "list" false := isv_ty (.base (.dK upd_same)) (by decide +kernel)
  exact ⟨false, hl, .inr ⟨rfl, ⟨p, _, rfl, upd_same⟩, .no hl⟩⟩)
def rTupOf (K : PySem.W.Frag) : List V → Hp → VK → Prop := fun xs H Q => ∃ p ys, xs = [.ref p] ∧ ((SqL K H p ys ∧ ∀ l, H l = none → Q (.ref l) (upd H l (.tup ys))) ∨ (SqT K H p ys ∧ Q (.ref p) H))
theorem bt_tuple {l : Addr} {xs : List V} {ps : List PI} (ha : Ev ta σ H (.ref l)) (hl : H l = some (.lst xs)) (hp : Prs K H xs ps) : EvX (tCB (rTupOf K) (tCons ta tNil)) σ H (fun v H2 => BT K n H2 v) := fun H1 e Q q =>
  ha H1 e _ fun H2 e2 => ⟨l, xs, rfl, .inl ⟨sq_of (e2 _ _ (e _ _ hl)), fun p hp' => q _ _ (e2.trans (Ex.new hp')) (by
    have hi : IsV K (upd H2 p (.tup xs)) (.ref p) "list" false := isv_ty (.base (.tup upd_same)) (by decide +kernel)
    refine ⟨false, hi, .inl ⟨.tuple (ps.map dPair), .tup (st_of upd_same) (dpall_pairs (hp.mono ((e.trans e2).trans (Ex.new hp')))), ?_, .inr (.no hi)⟩⟩
    unfold SeqAt.shaped
    rw [PyData.canLay0, can_pairs, PyData.depth]
    have := dep_pairs ps
    rw [decide_eq_true (by omega)]
    rfl)⟩⟩
/-- [e] * k -/
theorem evx_repV {P : V → Hp → Prop} {k : Nat} {c : Int} (ha : EvX ta σ H (fun y H2 => ∃ p v, y = .ref p ∧ H2 p = some (.lst [v]) ∧ P v H2)) (kP : ∀ v H1 H2, Ex H1 H2 → P v H1 → P v H2) (hb : ∀ H1, Ex H H1 → Ev tb σ H1 (.int c)) (hc : c = (k : Int)) (hk : k ≤ 100000) :
    EvX (tOp rRep ta tb) σ H (fun y H2 => ∃ p v, y = .ref p ∧ H p = none ∧ H2 p = some (.lst (List.replicate k v)) ∧ P v H2) := fun H1 e Q q =>
  ha H1 e _ fun y H2 e2 ⟨p, v, hy, h2, pv⟩ => hb H2 (e.trans e2) H2 (Ex.refl H2) _ fun H3 e3 => by
    subst hy
    subst hc
    refine ⟨p, (k : Int), _, rfl, rfl, e3 _ _ h2, by omega, by omega, ?_, fun r hr => ?_⟩
    · show 1 * k ≤ _
      rw [Nat.one_mul]
      exact sz_of hk
    · refine q _ _ ((e2.trans e3).trans (Ex.new hr)) ⟨r, v, rfl, fresh_back ((e.trans e2).trans e3) hr, ?_, kP _ _ _ (e3.trans (Ex.new hr)) pv⟩
      rw [upd_same]
      show some (HO.lst (List.replicate k [v]).flatten) = _
      rw [rep_flat]
theorem gs_rep {db : PyData × Bool} (h : ITm K n H v db) : ∀ k : Nat, Gs (ITm K n) H (List.replicate k v) (List.replicate k db)
  | 0 => .nil
  | k + 1 => .cons h (gs_rep h k)
/-- [None] * (n - 3), and the like -/
theorem bt_rep {d : PyData} {k : Nat} {c : Int} (ha : EvX ta σ H (fun y H2 => ∃ p v, y = .ref p ∧ H2 p = some (.lst [v]) ∧ ITm K n H2 v (d, false))) (hb : ∀ H1, Ex H H1 → Ev tb σ H1 (.int c)) (hc : c = (k : Int)) (hk : k ≤ 1000) (hn : (k : Int) = n - 3) (hd : d.canLay0 = true ∧ d.depth ≤ 2) :
    EvX (tOp rRep ta tb) σ H (fun v H2 => BT K n H2 v) := fun H1 e Q q =>
  evx_repV (P := fun v H2 => ITm K n H2 v (d, false)) ha (fun v H1 H2 e h => kIT _ _ _ _ (exn_of e) h) hb hc (by omega) H1 e Q fun y H2 e2 ⟨p, v, hy, _, h2, hi⟩ => q y H2 e2 (by
    subst hy
    have hg := gs_rep hi k
    match k, hn, h2, hg with
    | 0, hn, h2, hg =>
      have hl : IsV K H2 (.ref p) "list" true := isv_ty (.base (.lst h2)) (by decide +kernel)
      exact ⟨true, hl, .inl ⟨.list [], .lst (sq_of h2) .nil, shaped_nil, .inl ⟨by omega, rfl, rfl⟩⟩⟩
    | k + 1, hn, h2, hg =>
      refine bt_its h2 hg (by rw [List.length_replicate]; omega) (by rw [List.length_replicate]; exact hn) ?_ fun db hdb => ?_
      · rfl
      · rw [(List.mem_replicate.mp hdb).2]
        exact hd)
/-- [e], e one thing -/
theorem one_of {P : V → Hp → Prop} (kP : ∀ v H1 H2, Ex H1 H2 → P v H1 → P v H2) (h : EvX te σ H P) : EvX (tLst (tCons te tNil)) σ H (fun y H2 => ∃ p v, y = .ref p ∧ H p = none ∧ H2 p = some (.lst [v]) ∧ P v H2) := fun H1 e Q q =>
  h H1 e _ fun v H2 e2 pv => ⟨sz_of (show 1 ≤ 100000 by decide), fun p hp => q _ _ (e2.trans (Ex.new hp)) ⟨p, v, rfl, fresh_back (e.trans e2) hp, upd_same, kP _ _ _ (Ex.new hp) pv⟩⟩
/-! the sieves -/
theorem sieve1 {j i : Nat} {m : Nat} (hσ : σ[j]? = some (some v)) (hi : σ[i]? = some (some (.int (m : Int)))) (hn : n = (m : Int)) (h3 : 3 ≤ m) (h : BT K n H v) :
    ∃ b, EvT (tOr (tNot (tB (tCB (rIsi K) (tCons (tVar j) (tCons (tC (.ty "list")) tNil))))) (tOr (tTest (tOp (rI0 fun i j => .bl (decide (j < i))) (tVar i) (tC (.int 3)))) (tTest (tOp (rNeD K) (tVar j) (tLst tNil))))) σ H b ∧ (b = true → BT2 K n H v) := by
  obtain ⟨isl, h1, h2⟩ := h
  have t1 : EvT (tNot (tB (tCB (rIsi K) (tCons (tVar j) (tCons (tC (.ty "list")) tNil))))) σ H (!isl) := et_not (et_B (ev_cb (ea_cons (ev_var hσ) (ea_cons ev_c ea_nil)) (rc_isi h1)))
  rcases h2 with ⟨d, g1, g2, g3⟩ | ⟨rfl, g2, g3⟩
  · cases isl with
    | false =>
      refine ⟨true, et_orY t1, fun _ => ⟨.inl ⟨d, g1, g2⟩, ?_⟩⟩
      rcases g3 with ⟨_, q, _⟩ | q
      · cases q
      · exact q
    | true =>
      by_cases h4 : 3 < m
      · refine ⟨true, et_orN t1 (et_orY (et_is (et_test (ev_op (ev_var hi) ev_c rv_I0)) (decide_eq_true (by omega)))), fun _ => ⟨.inl ⟨d, g1, g2⟩, ?_⟩⟩
        rcases g3 with ⟨q, _, _⟩ | q
        · omega
        · exact q
      · refine ⟨!PyData.eqv d (.list []), et_orN t1 (et_orN (et_is (et_test (ev_op (ev_var hi) ev_c rv_I0)) (decide_eq_false (by omega))) (et_test (ev_opL (ev_var hσ) (el_lst ea_nil (Nat.zero_le _)) fun p Hx hp ex => rv_neD (dp_mono ex _ g1) (.lst (sq_of hp) .nil) g2 shaped_nil rfl))), fun hb => ⟨.inl ⟨d, g1, g2⟩, ?_⟩⟩
        rcases g3 with ⟨_, _, q⟩ | q
        · subst q
          rw [show PyData.eqv (.list []) (.list []) = true by simp [PyData.eqv, PyData.eqvAll]] at hb
          cases hb
        · exact q
  · exact ⟨true, et_orY t1, fun _ => ⟨.inr g2, g3⟩⟩
theorem sieve2 {j i l : Nat} {m : Nat} {L : Addr} {xs : List V} {ps : List PI} (hσ : σ[j]? = some (some v)) (hi : σ[i]? = some (some (.int (m : Int)))) (hl : σ[l]? = some (some (.ref L))) (hL : H L = some (.lst xs)) (hp : Prs K H xs ps) (h : BT2 K n H v) :
    ∃ b, EvT (tOr (tTest (tOp rNe (tVar i) (tC (.int 4)))) (tTest (tOp (rNeA K) (tVar j) (tVar l)))) σ H b ∧ (b = true → BT3 K n H v) := by
  obtain ⟨h1, h2⟩ := h
  have t1 : EvT (tTest (tOp rNe (tVar i) (tC (.int 4)))) σ H (!decide ((m : Int) = 4)) := et_neI (ev_var hi) ev_c
  rcases h1 with ⟨d, g1, g2⟩ | ⟨a, kvs, rfl, g2⟩
  · exact ⟨_, et_or t1 fun _ => et_test (ev_op (ev_var hσ) (ev_var hl) (rv_neA (rv_neD g1 (dp_pairs (sq_of hL) hp) g2 (shaped_pairs _) rfl))), fun _ => h2⟩
  · exact ⟨_, et_or t1 fun _ => et_test (ev_op (ev_var hσ) (ev_var hl) (rv_neDict g2 (sq_of hL))), fun _ => h2⟩
end
end FzL

namespace Fz
open Tr
theorem not_len {n : Int} {ps : List PI} (h : (ps.length : Int) ≠ n - 3) : isCutting n ps = false := by
  unfold isCutting
  rw [decide_eq_false h, Bool.false_and, Bool.false_and, Bool.false_and]
def steps2 (k : Nat) : List PI := (List.range k).map fun (i : Nat) => (((i : Nat) : Int), ((i : Nat) : Int) + 2)
theorem steps2_len (k : Nat) : (steps2 k).length = k := by simp [steps2]
theorem two_steps {k : Nat} (h : 2 ≤ k) : twoCross (steps2 k) = true := by
  have hs : (steps2 k).Pairwise (fun a b => kle a b = true) := by
    unfold steps2
    rw [List.pairwise_map]
    refine List.Pairwise.imp ?_ List.pairwise_lt_range
    intro a b hab
    unfold kle
    exact decide_eq_true (.inl (by show (a : Int) < (b : Int); omega))
  unfold twoCross
  rw [kle_the (List.Perm.refl _) hs]
  obtain ⟨j, rfl⟩ : ∃ j, k = j + 2 := ⟨k - 2, by omega⟩
  unfold steps2
  rw [List.range_succ_eq_map, List.map_cons, List.range_succ_eq_map, List.map_cons, List.map_cons, crossGo_cons]
  rw [show pop ((((0 : Nat) : Int), ((0 : Nat) : Int) + 2) : PI).1 [] = [] from rfl]
  show crossGo (_ :: _) _ = true
  rw [crossGo_cons]
  rfl
theorem no_steps {n : Int} {k : Nat} (h : 2 ≤ k) : isCutting n (steps2 k) = false := by
  unfold isCutting
  rw [two_steps h, Bool.not_true, Bool.and_false]
theorem cutting_cut {n : Int} {ps : List PI} (h : isCutting n ps = true) {p : PI} (hp : p ∈ ps) : isCut n p = true := by
  unfold isCutting at h
  simp only [Bool.and_eq_true] at h
  exact List.all_eq_true.mp h.1.1.2 p hp
theorem isCut_f1 {n : Int} {p : PI} (h : ¬ (0 ≤ p.1)) : isCut n p = false := by
  unfold isCut
  rw [decide_eq_false h, Bool.false_and, Bool.false_and, Bool.false_and]
theorem isCut_f2 {n : Int} {p : PI} (h : ¬ (p.1 + 1 < p.2)) : isCut n p = false := by
  unfold isCut
  rw [decide_eq_false h, Bool.and_false, Bool.false_and, Bool.false_and]
theorem isCut_f3 {n : Int} {p : PI} (h : ¬ (p.2 < n)) : isCut n p = false := by
  unfold isCut
  rw [decide_eq_false h, Bool.and_false, Bool.false_and]
theorem isCut_f4 {n : Int} {p : PI} (h : ¬ (p.2 - p.1 < n - 1)) : isCut n p = false := by
  unfold isCut
  rw [decide_eq_false h, Bool.and_false]
theorem isCut_lt {n : Int} {p : PI} (h : isCut n p = true) : p.1 + 1 < p.2 := by
  unfold isCut at h
  simp only [Bool.and_eq_true, decide_eq_true_eq] at h
  omega
theorem isCut_rev {n : Int} {p : PI} (h : isCut n p = true) : isCut n (p.2, p.1) = false := isCut_f2 (by
  have := isCut_lt h
  show ¬ (p.2 + 1 < p.1)
  omega)
theorem dup_mid {ps : List PI} {c : Nat} {p : PI} (h : p ∈ ps.take c) : ¬ (ps.take c ++ [p] ++ ps.drop (c + 1)).Nodup := fun hn => by
  rw [List.append_assoc] at hn
  exact (List.nodup_append.mp hn).2.2 p h p (by simp) rfl
theorem dup_ends {ps : List PI} (h : 2 ≤ ps.length) : ¬ (ps.take (ps.length - 1) ++ ps.take 1).Nodup := fun hn => by
  obtain ⟨a, b, r, rfl⟩ : ∃ a b r, ps = a :: b :: r := by
    match ps, h with
    | a :: b :: r, _ => exact ⟨a, b, r, rfl⟩
  exact (List.nodup_append.mp hn).2.2 a (by simp) a (by simp) rfl
end Fz
namespace FzL
open PySem PySem.Spec PyProof.Rows L2 Evl Fz Fz.Tr LamX
section
variable {G F : Hp → V → Prop} {K : PySem.W.Frag} {σ : L2.St} {H H' : Hp} {ta tb te tl tp : TE} {tt : TT} {tr : TA} {n : Int} {m : Nat} {l : Addr} {xs zs : List V} {ps qs : List PI}
theorem prs_hid (hl : H l = some (.lst zs)) {vs : List V} {ps : List PI} (h : Prs K H vs ps) : Prs K (hid H l) vs ps := Paired.mapP h fun v p ⟨t, e, ht⟩ => ⟨t, e, by
  rw [hid_ne fun q => by
    rw [q, hl] at ht
    cases ht]
  exact ht⟩
/-- [e for x in xs] -/
theorem al_map {j : Nat} {ws : List Nat} (kG : Kp G) (h : EvL tl σ H xs) (hl : xs.length ≤ m) (hz : m ≤ 40000) (hw : ∀ x, wipe ((wipe σ ws).set j (some x)) ws = wipe σ ws)
    (he : ∀ (Dl : Addr) (i : Nat) (x : V) H1, (∃ acc, H1 Dl = some (.lst acc)) → Ex H H1 → xs[i]? = some x → EvX te ((wipe σ ws).set j (some x)) H1 (fun v H2 => G (hid H2 Dl) v)) : EvX (tLc (iList K tl) (gName j) tYes te ws) σ H (AllL G m H) := fun H0 e Q q =>
  h H0 e _ fun a H1 hn e1 h1 => ⟨a, rfl, ⟨xs, sq_of h1⟩, fun Dl hD => by
    refine lc_it (walk_list (K := K) (a := a) (xs := xs)) (fun i H' => Ex H1 H' ∧ ∃ acc, H' Dl = some (.lst acc) ∧ acc.length ≤ i ∧ ∀ v ∈ acc, G (hid H' Dl) v) ⟨Ex.new hD, [], upd_same, Nat.le_refl _, fun v hv => nomatch hv⟩ (fun i H' _ p => sq_of (p.1 _ _ h1)) (fun i v H' H'' hi p hy => ?_) (fun H' p => ?_)
    · obtain ⟨rfl, hyi⟩ := hy
      obtain ⟨p1, acc, p2, p3, p4⟩ := p
      refine ⟨hw _, ?_⟩
      show te _ _ _
      refine he Dl i v _ ⟨acc, p2⟩ ((e.trans e1).trans p1) hyi _ (Ex.refl _) _ fun u H3 e3 pv => ?_
      have h3D := e3 _ _ p2
      refine ⟨acc, h3D, sz_lt (by omega), Ex.mut (p1.trans e3) hD, acc ++ [u], upd_same, by rw [List.length_append, List.length_singleton]; omega, fun z hz' => ?_⟩
      rw [hid_upd]
      rcases List.mem_append.mp hz' with c | c
      · exact kG _ _ _ (exn_of (hid_mono e3)) (p4 z c)
      · rw [List.mem_singleton.mp c]
        exact pv
    · obtain ⟨p1, acc, p2, p3, p4⟩ := p
      exact q _ H' (e1.trans p1) ⟨Dl, acc, rfl, fresh_back (e.trans e1) hD, p2, by omega, p4⟩⟩
/-- [e for i in range(lo, hi) if ..] -/
theorem al_rg2 {j : Nat} {ws : List Nat} {lo hi : Int} (kG : Kp G) (h : EvA tr σ H [.int lo, .int hi]) (h0 : 0 ≤ lo) (h1 : lo ≤ 100000) (h2 : -100000 ≤ hi) (h3 : hi ≤ 100000) (hm : (hi - lo).toNat ≤ m) (hz : m ≤ 40000) (hw : ∀ x, wipe ((wipe σ ws).set j (some x)) ws = wipe σ ws)
    (he : ∀ (Dl : Addr) (i : Nat) H1, (∃ acc, H1 Dl = some (.lst acc)) → Ex H H1 → ∃ b, EvT tt ((wipe σ ws).set j (some (.int (lo + (i : Int))))) H1 b ∧ (b = true → ∀ H2, Ex H1 H2 → EvX te ((wipe σ ws).set j (some (.int (lo + (i : Int))))) H2 (fun v H3 => G (hid H3 Dl) v))) : EvX (tLc (iRng2 tr) (gName j) tt te ws) σ H (AllL G m H) := fun H0 e Q q =>
  h H0 e _ fun H1 e1 => ⟨lo, hi, rfl, ⟨by omega, by omega, by omega, by omega⟩, fun Dl hD => by
    refine lc_it (walk_range (lo := lo) (n := (hi - lo).toNat)) (fun i H' => Ex H1 H' ∧ ∃ acc, H' Dl = some (.lst acc) ∧ acc.length ≤ i ∧ ∀ v ∈ acc, G (hid H' Dl) v) ⟨Ex.new hD, [], upd_same, Nat.le_refl _, fun v hv => nomatch hv⟩ (fun i H' _ p => trivial) (fun i v H' H'' hi' p hy => ?_) (fun H' p => ?_)
    · obtain ⟨rfl, rfl⟩ := hy
      obtain ⟨p1, acc, p2, p3, p4⟩ := p
      refine ⟨hw _, ?_⟩
      obtain ⟨b, hb, hte⟩ := he Dl i _ ⟨acc, p2⟩ ((e.trans e1).trans p1)
      refine hb _ (Ex.refl _) _ fun H2 e2 => ?_
      have h2D := e2 _ _ p2
      cases b with
      | false => exact iteF ⟨p1.trans e2, acc, h2D, by omega, fun v hv => kG _ _ _ (exn_of (hid_mono e2)) (p4 v hv)⟩
      | true =>
        refine iteT (hte rfl H2 e2 _ (Ex.refl _) _ fun u H3 e3 pv => ?_)
        have h3D := e3 _ _ h2D
        refine ⟨acc, h3D, sz_lt (by omega), Ex.mut ((p1.trans e2).trans e3) hD, acc ++ [u], upd_same, by rw [List.length_append, List.length_singleton]; omega, fun z hz' => ?_⟩
        rw [hid_upd]
        rcases List.mem_append.mp hz' with c | c
        · exact kG _ _ _ (exn_of (hid_mono (e2.trans e3))) (p4 z c)
        · rw [List.mem_singleton.mp c]
          exact pv
    · obtain ⟨p1, acc, p2, p3, p4⟩ := p
      exact q _ H' (e1.trans p1) ⟨Dl, acc, rfl, fresh_back (e.trans e1) hD, p2, by omega, p4⟩⟩
/-- [(.., ..) for i in range(n)] -/
theorem pl_rg1 {j k : Nat} {ws : List Nat} {c : Int} (h : EvA tr σ H [.int c]) (hc : c = (k : Int)) (hk : k ≤ 40000) (hl : ps.length = k) (hw : ∀ x, wipe ((wipe σ ws).set j (some x)) ws = wipe σ ws)
    (he : ∀ (i : Nat) (p : PI) H1, Ex H H1 → ps[i]? = some p → EvU te ((wipe σ ws).set j (some (.int (0 + (i : Int))))) H1 [.int p.1, .int p.2]) : EvX (tLc (iRng1 tr) (gName j) tYes te ws) σ H (PL K H ps) := fun H0 e Q q =>
  h H0 e _ fun H1 e1 => ⟨c, rfl, by omega, by omega, fun Dl hD =>
    lc_it (walk_range (lo := 0) (n := c.toNat)) (fun i H' => Ex H1 H' ∧ ∃ acc, H' Dl = some (.lst acc) ∧ acc.length = i ∧ Prs K H' acc (ps.take i)) ⟨Ex.new hD, [], upd_same, rfl, .nil⟩ (fun i H' _ p => trivial) (fun i v H' H'' hi' p hy => by
      obtain ⟨rfl, rfl⟩ := hy
      obtain ⟨p1, acc, p2, p3, p4⟩ := p
      have hlt : i < ps.length := by omega
      refine ⟨hw _, ?_⟩
      show te _ _ _
      refine he i ps[i] _ ((e.trans e1).trans p1) (List.getElem?_eq_getElem hlt) _ (Ex.refl _) _ fun u H3 hu e3 h3 => ?_
      have h3D := e3 _ _ p2
      refine ⟨acc, h3D, sz_lt (by omega), Ex.mut (p1.trans e3) hD, acc ++ [.ref u], upd_same, by rw [List.length_append, p3]; rfl, ?_⟩
      rw [List.take_add_one, List.getElem?_eq_getElem hlt]
      exact prs_upd h3D (Prs.snoc (p4.mono e3) ⟨u, rfl, h3⟩)) (fun H' p => by
      obtain ⟨p1, acc, p2, p3, p4⟩ := p
      have : c.toNat = ps.length := by omega
      rw [this, List.take_length] at p4
      exact q _ H' (e1.trans p1) ⟨Dl, acc, rfl, fresh_back (e.trans e1) hD, p2, p4⟩)⟩
/-- xs[:-1] -/
theorem el_init {a : Addr} {ti : TE} (h : Ev te σ H (.ref a)) (hs : SqL K H a xs) (hi : Ev ti σ H (.int (-1))) : EvL (tSl (rSlL K) te tNoPart (tPart ti)) σ H (xs.take (xs.length - 1)) := by
  rw [← cutV_init]
  exact el_sl h eo_none (eo_some hi) hs
/-- a + [e] + b -/
theorem evx_mid {Φ : V → Hp → Prop} {us ws : List V} (kΦ : ∀ v H1 H2, Ex H1 H2 → Φ v H1 → Φ v H2) (h1 : EvL ta σ H us) (h2 : ∀ H1, Ex H H1 → EvX tp σ H1 Φ) (h3 : ∀ H1, Ex H H1 → EvL tb σ H1 ws) (hz : us.length + 1 + ws.length ≤ 100000) :
    EvX (tOp rCat (tOp rCat ta (tLst (tCons tp tNil))) tb) σ H (fun y H2 => ∃ p v, y = .ref p ∧ H p = none ∧ H2 p = some (.lst (us ++ [v] ++ ws)) ∧ Φ v H2) := fun H0 e Q q =>
  h1 H0 e _ fun a H1 _ e1 g1 => h2 H1 (e.trans e1) H1 (Ex.refl _) _ fun v H2 e2 pv => ⟨sz_of (show 1 ≤ 100000 by decide), fun b hb => by
    have e3 := Ex.new (o := .lst [v]) hb
    refine ⟨a, b, us, [v], rfl, rfl, (e2.trans e3) _ _ g1, upd_same, sz_of (by simp; omega), fun c hc => ?_⟩
    have e4 := Ex.new (o := .lst (us ++ [v])) hc
    refine h3 _ ((((e.trans e1).trans e2).trans e3).trans e4) _ (Ex.refl _) _ fun d H5 _ e5 g5 => ?_
    refine ⟨c, d, us ++ [v], ws, rfl, rfl, e5 _ _ upd_same, g5, sz_of (by simp; omega), fun r hr => ?_⟩
    have e6 := Ex.new (o := .lst (us ++ [v] ++ ws)) hr
    have ee := ((e3.trans e4).trans e5).trans e6
    exact q _ _ ((e1.trans e2).trans ee) ⟨r, v, rfl, fresh_back ((((e.trans e1).trans e2).trans ((e3.trans e4).trans e5))) hr, upd_same, kΦ _ _ _ ee pv⟩⟩
theorem fx {v : V} (h : Ev te σ H v) (hF : ∀ H1, Ex H H1 → F H1 v) : EvX te σ H (fun v H2 => F H2 v) := fun H1 e Q q => h H1 e _ fun H2 e2 => q _ H2 e2 (hF H2 (e.trans e2))
theorem it_prF {v : V} {p : PI} (h : Pr K H v p) (hc : isCut n p = false) : ITm K n H v (dPair p, false) := by
  have := it_pr (n := n) h
  rw [hc] at this
  exact this
theorem it_gp {p : PI} (h : EvU te σ H [.int p.1, .int p.2]) (hc : isCut n p = false) : EvX te σ H (fun v H2 => ITm K n H2 v (dPair p, false)) := (gpr (K := K) h).imp fun v H2 _ h => it_prF h hc
theorem its_all {d : PyData} (qs : List PI) : (((d, false) :: qs.map fun p => (dPair p, isCut n p)).map (·.2)).all id = false := rfl
theorem its_allR {d : PyData} (qs : List PI) : (((qs.map fun p => (dPair p, isCut n p)) ++ [(d, false)]).map (·.2)).all id = false := by
  rw [List.map_append, List.all_append]
  simp
theorem its_sh {d : PyData} (hd : d.canLay0 = true ∧ d.depth ≤ 2) (qs : List PI) {db : PyData × Bool} (h : db ∈ [(d, false)] ∨ db ∈ qs.map fun p => (dPair p, isCut n p)) : db.1.canLay0 = true ∧ db.1.depth ≤ 2 := by
  rcases h with h | h
  · rw [List.mem_singleton.mp h]
    exact hd
  · obtain ⟨p, _, rfl⟩ := List.mem_map.mp h
    exact item_pair p
/-- [x] + cuts -/
theorem bt_hd {d : PyData} (hX : EvX te σ H (fun v H2 => ITm K n H2 v (d, false))) (hd : d.canLay0 = true ∧ d.depth ≤ 2) (ht : ∀ H1, Ex H H1 → EvX tb σ H1 (PL K H1 qs)) (hn : (qs.length : Int) + 1 = n - 3) (hz : qs.length < 64) : EvX (tOp rCat (tLst (tCons te tNil)) tb) σ H (fun v H2 => BT K n H2 v) :=
  bt_gl (dbs := [(d, false)] ++ qs.map fun p => (dPair p, isCut n p)) (gl_cat kIT (gl_lst kIT (gs_cons kIT hX gs_nil) (by show 1 ≤ 100000; decide)) (fun H1 e => gl_pairs (ht H1 e)) (by simp; omega)) (by simp; omega) (by simp; omega) (its_all qs) (fun db hdb => its_sh hd qs (List.mem_append.mp hdb))
/-- cuts + [x] -/
theorem bt_tl {d : PyData} (ht : EvX ta σ H (PL K H qs)) (hX : ∀ H1, Ex H H1 → EvX te σ H1 (fun v H2 => ITm K n H2 v (d, false))) (hd : d.canLay0 = true ∧ d.depth ≤ 2) (hn : (qs.length : Int) + 1 = n - 3) (hz : qs.length < 64) : EvX (tOp rCat ta (tLst (tCons te tNil))) σ H (fun v H2 => BT K n H2 v) :=
  bt_gl (dbs := (qs.map fun p => (dPair p, isCut n p)) ++ [(d, false)]) (gl_cat kIT (gl_pairs ht) (fun H1 e => gl_lst kIT (gs_cons kIT (hX H1 e) gs_nil) (by show 1 ≤ 100000; decide)) (by simp; omega)) (by simp; omega) (by simp; omega) (its_allR qs) (fun db hdb => its_sh hd qs (List.mem_append.mp hdb).symm)
/-- a list with a thing in the middle, at a heap without the growing list -/
def MidV (K : PySem.W.Frag) (n : Int) (ps : List PI) (c : Nat) (v : V) (H : Hp) : Prop := v = .non ∨ ∃ p, Pr K H v p ∧ isCutting n (ps.take c ++ [p] ++ ps.drop (c + 1)) = false
theorem bt_midv {p : Addr} {v : V} {c : Nat} (hl : H l = some (.lst zs)) (hp : H p = some (.lst (xs.take c ++ [v] ++ xs.drop (c + 1)))) (hne : p ≠ l) (hx : Prs K H xs ps) (hc : c < ps.length) (h64 : ps.length < 64) (hn : (ps.length : Int) = n - 3) (h : MidV K n ps c v H) : BT K n (hid H l) (.ref p) := by
  have hp' : hid H l p = some (.lst (xs.take c ++ [v] ++ xs.drop (c + 1))) := by rw [hid_ne hne]; exact hp
  have hx' := prs_hid hl hx
  rcases h with rfl | ⟨q, hq, hcq⟩
  · have h1 := gs_prs (n := n) (Prs.take c hx')
    have h2 := gs_prs (n := n) (Prs.drop (c + 1) hx')
    have hnon : ITm K n (hid H l) .non (.none, false) := ⟨.non, .no (isv_ty (.base .non) (by decide +kernel))⟩
    have hg := Gs.app (Gs.app h1 (Paired.cons hnon Paired.nil)) h2
    refine bt_its hp' hg ?_ ?_ ?_ ?_
    · simp; omega
    · simp; omega
    · simp
    · intro db hdb
      rcases List.mem_append.mp hdb with hdb | hdb
      · exact its_sh (d := .none) ⟨by simp [PyData.canLay0], by simp [PyData.depth]⟩ (ps.take c) (List.mem_append.mp hdb).symm
      · exact its_sh (d := .none) ⟨by simp [PyData.canLay0], by simp [PyData.depth]⟩ (ps.drop (c + 1)) (.inr hdb)
  · have hq' : Prs K H [v] [q] := .cons hq .nil
    refine bt_prs hp' (Prs.app (Prs.app (Prs.take c hx') (prs_hid hl hq')) (Prs.drop (c + 1) hx')) ?_ hcq
    simp; omega
end
end FzL
namespace FzL
open PySem PySem.Spec PyProof.Rows L2 Evl Fz Fz.Tr LamX
theorem rn_le {m c : Nat} : rn m c ≤ m := by
  unfold rn
  split
  · have := Nat.div_le_self (m - 1) c
    omega
  · omega
section
variable {K : PySem.W.Frag} {σ : L2.St} {H H' : Hp} {t1 t2 t3 ti ta tb te : TE} {n : Int} {c : Nat} {l : Addr} {xs : List V} {ps qs : List PI}
/-- (None, (1, 1), (0, z), r)[c % 4] -/
theorem evx_pick {z : Int} (h1 : EvU t1 σ H [.int 1, .int 1]) (h2 : EvU t2 σ H [.int 0, .int z]) (h3 : ∀ H1, Ex H H1 → ∃ v, Ev t3 σ H1 v ∧ (c % 4 = 3 → MidV K n ps c v H1)) (hi : Ev ti σ H (.int ((c % 4 : Nat) : Int)))
    (m1 : isCutting n (ps.take c ++ [(1, 1)] ++ ps.drop (c + 1)) = false) (m2 : isCutting n (ps.take c ++ [(0, z)] ++ ps.drop (c + 1)) = false) :
    EvX (tOp (rIxT K) (tTup (tCons (tC .non) (tCons t1 (tCons t2 (tCons t3 tNil))))) ti) σ H (MidV K n ps c) := fun H1 e Q q =>
  h1 H1 e _ fun p1 H2 _ e2 g1 => h2 H2 (e.trans e2) _ fun p2 H3 _ e3 g2 => by
    obtain ⟨v, h3', hv⟩ := h3 H3 ((e.trans e2).trans e3)
    refine h3' H3 (Ex.refl _) _ fun H4 e4 => ⟨sz_of (show 4 ≤ 100000 by decide), fun p hp => ?_⟩
    have e5 := Ex.new (o := .tup [.non, .ref p1, .ref p2, v]) hp
    refine hi _ ((((e.trans e2).trans e3).trans e4).trans e5) _ fun H6 e6 => ?_
    have ee := ((e3.trans e4).trans e5).trans e6
    have h46 := (e4.trans e5).trans e6
    have hc : c % 4 < 4 := Nat.mod_lt _ (by decide)
    refine ⟨p, [.non, .ref p1, .ref p2, v], _, [V.non, .ref p1, .ref p2, v].getD (c % 4) .non, rfl, rfl, st_of (e6 _ _ upd_same), ?_, q _ H6 (e2.trans ee) ?_⟩
    · match c % 4, hc with
      | 0, _ => rfl
      | 1, _ => rfl
      | 2, _ => rfl
      | 3, _ => rfl
    · match hq : c % 4, hc with
      | 0, _ => exact .inl rfl
      | 1, _ => exact .inr ⟨(1, 1), ⟨p1, rfl, ee _ _ g1⟩, m1⟩
      | 2, _ => exact .inr ⟨(0, z), ⟨p2, rfl, h46 _ _ g2⟩, m2⟩
      | 3, _ =>
        rcases hv hq with h | ⟨p, ⟨t, ht, hpt⟩, hpc⟩
        · exact .inl h
        · exact .inr ⟨p, ⟨t, ht, h46 _ _ hpt⟩, hpc⟩
end
end FzL

namespace FzL
open PySem PySem.Spec PyProof.Rows L2 Evl Fz Fz.Tr LamX
section
variable {K : PySem.W.Frag} {σ : L2.St} {H H' : Hp} {ta tb te : TE} {tr : TA} {D : Ends} {tu tz : TS} {n : Int} {xs : List V} {P : V → Hp → Prop}
theorem gx_U (h : EvU te σ H xs) (hI : ∀ (H1 : Hp) (t : Addr), H1 t = some (.tup xs) → P (.ref t) H1) : EvX te σ H P := fun H1 e Q q => h H1 e _ fun t H2 _ e2 h2 => q _ H2 e2 (hI H2 t h2)
theorem gx_L (h : EvL te σ H xs) (hI : ∀ (H1 : Hp) (t : Addr), H1 t = some (.lst xs) → P (.ref t) H1) : EvX te σ H P := fun H1 e Q q => h H1 e _ fun t H2 _ e2 h2 => q _ H2 e2 (hI H2 t h2)
/-- list(t), t a tuple -/
theorem el_listT {t : Addr} (h : Ev te σ H (.ref t)) (ht : SqT K H t xs) : EvL (tCB (rListS K) (tCons te tNil)) σ H xs := fun H1 e Q q =>
  h H1 e _ fun H2 e2 => ⟨t, xs, rfl, .inr (ex_t (e.trans e2) ht), fun p hp => q p _ (fresh_back e2 hp) (e2.trans (Ex.new hp)) upd_same⟩
theorem s_forC {m c j : Nat} (h : EvA tr σ H [.int 0, .int (m : Int), .int (c : Int)]) (hc : 1 ≤ c) (hc2 : c ≤ 100000) (hm : m ≤ 100000) (Pv : Nat → L2.St → Hp → Prop) (h0 : ∀ H1, Ex H H1 → Pv 0 σ H1)
    (hs : ∀ i σ' H', i * c < m → Pv i σ' H' → tu { D with nx := Pv (i + 1), ct := Pv (i + 1), bk := D.nx } (σ'.set j (some (.int ((i * c : Nat) : Int)))) H')
    (hd : ∀ σ' H', Pv (rn m c) σ' H' → D.nx σ' H') : tFor (iRng3 tr) (gName j) tu D σ H :=
  h H (Ex.refl H) _ fun H1 e1 => ⟨0, (m : Int), (c : Int), rn m c, rfl, rgc_pos hc hc2 hm, by
    refine for_it (walk_rangeC (lo := 0) (c := (c : Int)) (n := rn m c)) Pv (h0 H1 e1) (fun i σ' H' _ _ => trivial) ?_ hd
    rintro i v σ' H' H'' hi p ⟨rfl, rfl⟩
    have e0 : (0 : Int) + ((i : Nat) : Int) * (c : Int) = ((i * c : Nat) : Int) := by
      rw [Int.zero_add]
      rfl
    show tu _ (σ'.set j (some (.int ((0 : Int) + ((i : Nat) : Int) * (c : Int))))) _
    rw [e0]
    exact hs i σ' _ (rn_lt hc hi) p⟩
theorem it_true {c : Int} : ∀ (H1 : Hp) (t : Addr), H1 t = some (.tup [.bl true, .int c]) → ITm K n H1 (.ref t) (.tuple [.bool true, .int c], false) := fun H1 t h => ⟨.tup (st_of h) (.cons (.bl _) (.cons (.int _) .nil)), .fst (tup_ty h) (st_of h) (whole_bl _)⟩
theorem it_str {s : Str} {c : Int} : ∀ (H1 : Hp) (t : Addr), H1 t = some (.tup [.str s, .int c]) → ITm K n H1 (.ref t) (.tuple [.str s, .int c], false) := fun H1 t h => ⟨.tup (st_of h) (.cons (.str _) (.cons (.int _) .nil)), .fst (tup_ty h) (st_of h) (whole_str _)⟩
theorem it_one {c : Int} : ∀ (H1 : Hp) (t : Addr), H1 t = some (.tup [.int c]) → ITm K n H1 (.ref t) (.tuple [.int c], false) := fun H1 t h => ⟨.tup (st_of h) (.cons (.int _) .nil), .len (tup_ty h) (st_of h) (by show 1 ≠ 2; decide)⟩
theorem lst_ty {H1 : Hp} {t : Addr} {xs : List V} (h : H1 t = some (.lst xs)) : IsV K H1 (.ref t) "tuple" false := isv_ty (.base (.lst h)) (by decide +kernel)
theorem it_lst2 {a c : Int} : ∀ (H1 : Hp) (t : Addr), H1 t = some (.lst [.int a, .int c]) → ITm K n H1 (.ref t) (dInts [a, c], false) := fun H1 t h => ⟨dp_ints (ns := [a, c]) (sq_of h), .no (lst_ty h)⟩
theorem sh_ints (ns : List Int) : (dInts ns).canLay0 = true ∧ (dInts ns).depth ≤ 2 := by
  unfold dInts
  rw [PyData.canLay0, can_ints, PyData.depth, dep_ints]
  exact ⟨rfl, by decide⟩
end
end FzL

namespace FzL
open PySem PySem.Spec PyProof.Rows L2 Evl Fz Fz.Tr LamX
theorem mem_prev {ps : List PI} {c : Nat} (h1 : 1 ≤ c) (h2 : c ≤ ps.length) : ps.getD (prv ps.length c) (0, 0) ∈ ps.take c := by
  have : prv ps.length c = c - 1 := if_neg (by omega)
  rw [this, List.getD_eq_getElem?_getD, List.getElem?_eq_getElem (by omega)]
  exact List.mem_of_getElem? (i := c - 1) (by rw [List.getElem?_take_of_lt (by omega), List.getElem?_eq_getElem (by omega)]; rfl)
theorem steps2_get {k i : Nat} {p : PI} (h : (steps2 k)[i]? = some p) : p = ((i : Int), (i : Int) + 2) := by
  unfold steps2 at h
  rw [List.getElem?_map] at h
  by_cases hi : i < k
  · rw [List.getElem?_range hi] at h
    exact (Option.some.inj h).symm
  · rw [List.getElem?_eq_none (by rw [List.length_range]; omega)] at h
    cases h
theorem kMid {K : PySem.W.Frag} {n : Int} {ps : List PI} {c : Nat} : ∀ (v : V) (H1 H2 : Hp), Ex H1 H2 → MidV K n ps c v H1 → MidV K n ps c v H2 := fun v H1 H2 e h => h.imp id fun ⟨p, h1, h2⟩ => ⟨p, h1.mono e, h2⟩
end FzL

namespace FzL
open PySem PySem.Spec PyProof.Rows L2 Evl Fz Fz.Tr LamX
section
variable {K : PySem.W.Frag} {σ : L2.St} {H H' : Hp} {ta tb te : TE} {m : Nat} {n : Int} {xs acc : List V} {ps : List PI} {Dl : Addr} {G : Hp → V → Prop}
theorem gx_Uhid (hacc : H Dl = some (.lst acc)) (h : EvU te σ H xs) (hI : ∀ (H1 : Hp) (t : Addr), H1 t = some (.tup xs) → G H1 (.ref t)) : EvX te σ H (fun v H2 => G (hid H2 Dl) v) := fun H1 e Q q => h H1 e _ fun t H2 _ e2 h2 => q _ H2 e2 (hI _ t (by
  rw [hid_ne fun q => by
    rw [q, (e.trans e2) _ _ hacc] at h2
    cases h2]
  exact h2))
theorem gx_Lhid (hacc : H Dl = some (.lst acc)) (h : EvL te σ H xs) (hI : ∀ (H1 : Hp) (t : Addr), H1 t = some (.lst xs) → G H1 (.ref t)) : EvX te σ H (fun v H2 => G (hid H2 Dl) v) := fun H1 e Q q => h H1 e _ fun t H2 hn e2 h2 => q _ H2 e2 (hI _ t (by
  rw [hid_ne fun q => by
    rw [q, e _ _ hacc] at hn
    cases hn]
  exact h2))
theorem one_pair {p : PI} (hc : isCut (m : Int) p = false) : ∀ (H1 : Hp) (t : Addr), H1 t = some (.tup [.int p.1, .int p.2]) → FzW.OneB K H1 m ps (.ref t) := fun H1 t h => .inl (by
  have := FzW.cutv_pr (n := (m : Int)) (show Pr K H1 (.ref t) p from ⟨t, rfl, h⟩)
  rw [hc] at this
  exact this)
theorem one_no {v : V} (h : ∀ H1 : Hp, IsV K H1 v "tuple" false) : ∀ H1 : Hp, FzW.OneB K H1 m ps v := fun H1 => .inl (.no (h H1))
theorem one_fst {y z : V} (h : ∀ H1 : Hp, WholeV K H1 y false) : ∀ (H1 : Hp) (t : Addr), H1 t = some (.tup [y, z]) → FzW.OneB K H1 m ps (.ref t) := fun H1 t g => .inl (.fst (tup_ty g) (st_of g) (h H1))
theorem one_snd {y z : V} (hy : ∀ H1 : Hp, WholeV K H1 y true) (h : ∀ H1 : Hp, WholeV K H1 z false) : ∀ (H1 : Hp) (t : Addr), H1 t = some (.tup [y, z]) → FzW.OneB K H1 m ps (.ref t) := fun H1 t g => .inl (.snd (tup_ty g) (st_of g) (hy H1) (h H1))
theorem one_len (hl : xs.length ≠ 2) : ∀ (H1 : Hp) (t : Addr), H1 t = some (.tup xs) → FzW.OneB K H1 m ps (.ref t) := fun H1 t g => .inl (.len (tup_ty g) (st_of g) hl)
theorem one_lst : ∀ (H1 : Hp) (t : Addr), H1 t = some (.lst xs) → FzW.OneB K H1 m ps (.ref t) := fun H1 t g => .inl (.no (lst_ty g))
theorem one_out {p : PI} (h : p ∉ ps) : ∀ (H1 : Hp) (t : Addr), H1 t = some (.tup [.int p.1, .int p.2]) → FzW.OneB K H1 m ps (.ref t) := fun H1 t g => .inr ⟨p, ⟨t, rfl, g⟩, h⟩
def OneF (K : PySem.W.Frag) (m : Nat) (ps : List PI) (H : Hp) (v : V) : Prop := FzW.OneB K H m ps v
theorem kOne : Kp (OneF K m ps) := fun _ _ _ e h => FzW.oneb_exn e h
def CtsF (K : PySem.W.Frag) (L : Addr) (H : Hp) (v : V) : Prop := CutsB K H v (.ref L)
theorem kCts {L : Addr} : Kp (CtsF K L) := fun _ _ _ e h => cutsb_exn e h
end
end FzL

namespace FzW
open PySem PySem.Spec PyProof.Rows L2 Evl FzL Fz Fz.Tr LamX
abbrev s_cuts_right : Stmt := topS 48
section
variable {P : Program} {w : World} {K : PySem.W.Frag} {mg : Str → Option Value} {base : Heap} {T : List (Addr × Str)} {CE CR CC CU CT : Addr} {σ : L2.St} {H : Hp} {ta : TA}
def spCutsR (K : PySem.W.Frag) (T : List (Addr × Str)) : Sp := fun vs H Q _ => ∃ (R L d : Addr) (b : Nat → Addr) (ms : List Int) (xs : List V) (ps : List PI) (far : Int), vs = [.ref R, .ref L, .ref d, .int far] ∧ H R = some (.lst (ms.map V.int)) ∧ H L = some (.lst xs) ∧ Prs K H xs ps ∧ ms.length = ps.length + 3 ∧ ms.length ≤ 63 ∧ isCutting (ms.length : Int) ps = true ∧ Due H d b ∧ 0 ≤ far ∧ Tabs T H ∧ RetN T (.bl true) H Q
abbrev cutsrN : List Str := ["_law_row_here", "_law_cuts", "_law_due", "_law_far", "_law_size", "_law_bad", "_law_at", "_law_thing", "_law_corners", "_law_none", "_law_one"]
theorem sc_cutsr : FnScope cutsrN ["_law_row_here", "_law_cuts", "_law_due", "_law_far"] (defScope s_cuts_right) := ⟨rfl, rfl, rfl, by decide +kernel, rfl, by decide +kernel, by decide +kernel⟩
theorem ok_cuts_right (D : Def K mg "_law_cuts_right" s_cuts_right ["_law_row_here", "_law_cuts", "_law_due", "_law_far"]) (B : Blt mg) (Td : Cal P w K mg base CX0 7 "_law_told" ["_law_ask", "_law_one", "_law_other"] (spTold P w K mg base T CR CC CU CT))
    (WC : Cal P w K mg base (L2N.CX P w) 6 "_law_with_cuts" ["_law_corners", "_law_cuts"] (spCutsB K T CU)) (WB : Cal P w K mg base (L2N.CX P w) 6 "_law_with_both" ["_law_corners", "_law_cuts"] (spCutsB K T CU)) (WO : Cal P w K mg base (L2N.CX P w) 6 "_law_with_cut" ["_law_cuts", "_law_one"] (spWOne K T CT)) :
    Cal P w K mg base CX0 8 "_law_cuts_right" ["_law_row_here", "_law_cuts", "_law_due", "_law_far"] (spCutsR K T) := by
  obtain ⟨fC, mC, hC⟩ := WC.held
  obtain ⟨fB, mB, hB⟩ := WB.held
  obtain ⟨fO, mO, hO⟩ := WO.held
  refine D.cal fun f fd F => F.ok sc_cutsr (fun vs H Q E h => ?_) (fun cdv A outer s H vs Q E hr h => ?_)
  · obtain ⟨R, L, d, b, ms, xs, ps, far, rfl, _⟩ := h
    rfl
  · obtain ⟨R, L, d, b, ms, xs, ps, far, rfl, hR, hL, hp, hms, h63, hcut, hd, hf, hT, k⟩ := h
    refine ⟨_, pss_cons (ps_set (i := 4) sc_cutsr.nd rfl (Or.inr rfl) (len_of B (pv 0))) <|
      pss_cons (ps_set (i := 5) sc_cutsr.nd rfl (Or.inl rfl) (pe_lst (pa_cons pe_non (pa_cons (pe_callTy (r := rTupOf _) call_tuple_of (by rfl) B.tuple boot_tuple (pa_cons (pv 1) pa_nil)) (pa_cons pe_str (pa_cons pe_dnewK (pa_cons pe_int (pa_cons (pe_op op_cat (pv 1) (pe_lst (pa_cons (pe_tup (pa_cons pe_int (pa_cons pe_int pa_nil))) pa_nil))) (pa_cons (pe_op op_cat (pv 1) (pe_lst (pa_cons (pe_tup (pa_cons pe_int (pa_cons pe_int pa_nil))) pa_nil))) (pa_cons (pe_op op_rep (pe_lst (pa_cons pe_non pa_nil)) (pe_op op_sub (pv 4) pe_int)) (pa_cons (pe_op op_rep (pe_lst (pa_cons (pe_tup (pa_cons pe_int (pa_cons pe_int pa_nil))) pa_nil)) (pe_op op_sub (pv 4) pe_int)) pa_nil))))))))))) <|
      pss_cut (ps_if (pt_cmpR op_gt (pv 4) pe_int (nomark _)) (pss_cons (ps_set (i := 5) sc_cutsr.nd rfl (Or.inl rfl) (pe_op op_cat (pv 5) (pe_lst (pa_cons (pe_slice sl_list (pv 1) (po_some pe_int) po_none) (pa_cons (pe_op op_cat (pe_lst (pa_cons (pe_tup (pa_cons pe_int pa_nil)) pa_nil)) (pe_slice sl_list (pv 1) (po_some pe_int) po_none)) (pa_cons (pe_op op_cat (pe_lst (pa_cons (list_of B (pe_ix ix_list (pv 1) pe_int (fun _ _ => rfl))) pa_nil)) (pe_slice sl_list (pv 1) (po_some pe_int) po_none)) (pa_cons (pe_op op_cat (pe_lst (pa_cons (pe_tup (pa_cons (pe_ix ix_tup (pe_ix ix_list (pv 1) pe_int (fun _ _ => rfl)) pe_int (fun _ _ => rfl)) (pa_cons (pe_ix ix_tup (pe_ix ix_list (pv 1) pe_int (fun _ _ => rfl)) pe_int (fun _ _ => rfl)) pa_nil))) pa_nil)) (pe_slice sl_list (pv 1) (po_some pe_int) po_none)) pa_nil))))))) <| pss_cons (ps_set (i := 5) sc_cutsr.nd rfl (Or.inl rfl) (pe_op op_cat (pv 5) (pe_lst (pa_cons (pe_op op_cat (pe_lst (pa_cons (pe_tup (pa_cons (pe_ix ix_tup (pe_ix ix_list (pv 1) pe_int (fun _ _ => rfl)) pe_int (fun _ _ => rfl)) (pa_cons (pe_op op_add (pv 4) (pv 3)) pa_nil))) pa_nil)) (pe_slice sl_list (pv 1) (po_some pe_int) po_none)) (pa_cons (pe_op op_cat (pe_lst (pa_cons (pe_tup (pa_cons pe_bl (pa_cons pe_int pa_nil))) pa_nil)) (pe_slice sl_list (pv 1) (po_some pe_int) po_none)) (pa_cons (pe_op op_cat (pe_slice sl_list (pv 1) po_none (po_some (pe_un un_neg pe_int))) (pe_lst (pa_cons (pe_tup (pa_cons pe_int (pa_cons (pe_op op_sub (pv 4) pe_int) pa_nil))) pa_nil))) pa_nil)))))) <| pss_cons (ps_set (i := 5) sc_cutsr.nd rfl (Or.inl rfl) (pe_op op_cat (pv 5) (pe_lst (pa_cons (pe_op op_cat (pe_slice sl_list (pv 1) po_none (po_some (pe_un un_neg pe_int))) (pe_lst (pa_cons (pe_tup (pa_cons (pe_op op_sub (pe_un un_neg pe_int) (pv 3)) (pa_cons pe_int pa_nil))) pa_nil))) (pa_cons (pe_op op_cat (pe_slice sl_list (pv 1) po_none (po_some (pe_un un_neg pe_int))) (pe_lst (pa_cons (pe_tup (pa_cons pe_int (pa_cons pe_int pa_nil))) pa_nil))) (pa_cons (pe_op op_cat (pe_slice sl_list (pv 1) po_none (po_some (pe_un un_neg pe_int))) (pe_lst (pa_cons (pe_tup (pa_cons pe_str (pa_cons pe_int pa_nil))) pa_nil))) pa_nil)))))) <| pss_cut (ps_if (pt_cmpR op_gt (pv 4) pe_int (nomark _)) (pss_one (ps_set (i := 5) sc_cutsr.nd rfl (Or.inl rfl) (pe_op op_cat (pv 5) (pe_lst (pa_cons (pe_op op_cat (pe_slice sl_list (pv 1) po_none (po_some (pe_un un_neg pe_int))) (pe_slice sl_list (pv 1) po_none (po_some pe_int))) (pa_cons (pe_lc (own := [("_law_at", 6)]) (g := gName 6) (tt := tYes) (te := tTup (tCons (tVar 6) (tCons (tOp (rI0 fun i j => .int (i + j)) (tVar 6) (tC (.int 2))) tNil))) rfl sc_cutsr.nd (pi_range1 (by rfl) B.range (pa_cons (pe_op op_sub (pv 4) pe_int) pa_nil)) (blkOk_by (N := cutsrN) (sc := defScope s_cuts_right) (by decide +kernel))
          (fun _ _ _ _ _ => (pg_name (i := 6) sc_cutsr.nd rfl (Or.inl rfl))) (fun _ _ _ _ _ => pts_nil) (fun _ _ _ _ _ => (pe_tup (pa_cons (pv 6) (pa_cons (pe_op op_add (pv 6) pe_int) pa_nil))))) pa_nil)))))) pss_nil) <| pss_one (ps_for PassesOwn.never rfl (pi_range3 (by rfl) B.range (pa_cons pe_int (pa_cons (pe_op op_sub (pv 4) pe_int) (pa_cons (pe_op op_add pe_int (pe_op op_fdiv (pv 4) pe_int)) pa_nil)))) (pg_name (i := 6) sc_cutsr.nd rfl (Or.inl rfl))
        (pss_one (ps_expr (pe_bm PySem.F.plainAttrs_list PySem.F.slot_list_append PySem.F.type_list_append mt_append (pv 5) (pa_cons (pe_op op_cat (pe_op op_cat (pe_slice sl_list (pv 1) po_none (po_some (pv 6))) (pe_lst (pa_cons (pe_ix ix_tup (pe_tup (pa_cons pe_non (pa_cons (pe_tup (pa_cons pe_int (pa_cons pe_int pa_nil))) (pa_cons (pe_tup (pa_cons pe_int (pa_cons (pe_op op_sub (pv 4) pe_int) pa_nil))) (pa_cons (pe_ix ix_list (pv 1) (pe_op op_sub (pv 6) pe_int) (fun _ _ => rfl)) pa_nil))))) (pe_op op_modN (pv 6) pe_int) (fun _ _ => rfl)) pa_nil))) (pe_slice sl_list (pv 1) (po_some (pe_op op_add (pv 6) pe_int)) po_none)) pa_nil)))))) pss_nil) <|
      pss_cons (ps_setLc (i := 5) (own := [("_law_thing", 7)]) (g := gName 7) (tt := (tOr (tNot (tB (tCB (rIsi K) (tCons (tVar 7) (tCons (tC (.ty "list")) tNil))))) (tOr (tTest (tOp (rI0 fun i j => .bl (decide (j < i))) (tVar 4) (tC (.int 3)))) (tTest (tOp (rNeD K) (tVar 7) (tLst tNil)))))) (te := (tVar 7)) rfl sc_cutsr.nd rfl rfl rfl (pi_list (pv 5)) (blkOk_by (N := cutsrN) (sc := defScope s_cuts_right) (by decide +kernel))
          (fun _ _ _ _ _ => (pg_name (i := 7) sc_cutsr.nd rfl (Or.inl rfl))) (fun _ _ _ _ _ => pts_one (PW.pt (pw_or (pt_not (pt_val (isi_list B (pv 7)))) (pw_or (pt_cmpR op_gt (pv 4) pe_int (nomark _)) (pw_or1 (pt_cmpR (op_neD hr.units) (pv 7) (pe_lst pa_nil) (nomark _))))))) (fun _ _ _ _ _ => (pv 7))) <|
      pss_cons (ps_setLc (i := 5) (own := [("_law_thing", 7)]) (g := gName 7) (tt := (tOr (tTest (tOp rNe (tVar 4) (tC (.int 4)))) (tTest (tOp (rNeA K) (tVar 7) (tVar 1))))) (te := (tVar 7)) rfl sc_cutsr.nd rfl rfl rfl (pi_list (pv 5)) (blkOk_by (N := cutsrN) (sc := defScope s_cuts_right) (by decide +kernel))
          (fun _ _ _ _ _ => (pg_name (i := 7) sc_cutsr.nd rfl (Or.inl rfl))) (fun _ _ _ _ _ => pts_one (PW.pt (pw_or (pt_cmpR op_ne (pv 4) pe_int (nomark _)) (pw_or1 (pt_cmpR (op_neA hr.units) (pv 7) (pv 1) (nomark _)))))) (fun _ _ _ _ _ => (pv 7))) <|
      pss_cons (ps_for PassesOwn.never rfl (pi_list (pv 5)) (pg_name (i := 7) sc_cutsr.nd rfl (Or.inl rfl))
        (pss_one (ps_if (PW.pt (pw_or (pt_cmpR (op_neD hr.units) (pe_n Td hr (by decide) (by rfl) pass0 (pa_cons (pe_cls mC) (pa_cons (pv 4) (pa_cons (pv 7) pa_nil)))) (pe_ix ix_list (pv 2) pe_int (fun _ _ => rfl)) (nomark _)) (pw_or1 (pt_cmpR (op_neD hr.units) (pe_n Td hr (by decide) (by rfl) pass0 (pa_cons (pe_cls mB) (pa_cons (pv 4) (pa_cons (pv 7) pa_nil)))) (pe_ix ix_list (pv 2) pe_int (fun _ _ => rfl)) (nomark _))))) (pss_one (ps_ret pe_bl)) pss_nil))) <|
      pss_cons (ps_for PassesOwn.never rfl (pi_tup (pe_tup (pa_cons pe_non (pa_cons pe_str (pa_cons pe_bl (pa_cons pe_int (pa_cons pe_int (pa_cons (pe_op op_sub (pe_un un_neg pe_int) (pv 3)) (pa_cons (pe_op op_add (pv 4) pe_int) (pa_cons (pe_op op_add (pe_op op_add (pv 4) pe_int) (pv 3)) (pa_cons (pe_lst (pa_cons pe_int pa_nil)) pa_nil))))))))))) (pg_name (i := 8) sc_cutsr.nd rfl (Or.inl rfl))
        (pss_one (ps_if (PW.pt (pw_or (pt_cmpR (op_neD hr.units) (pe_n Td hr (by decide) (by rfl) pass0 (pa_cons (pe_cls mC) (pa_cons (pv 8) (pa_cons (pv 1) pa_nil)))) (pe_ix ix_list (pv 2) pe_int (fun _ _ => rfl)) (nomark _)) (pw_or1 (pt_cmpR (op_neD hr.units) (pe_n Td hr (by decide) (by rfl) pass0 (pa_cons (pe_cls mB) (pa_cons (pv 8) (pa_cons (pv 1) pa_nil)))) (pe_ix ix_list (pv 2) pe_int (fun _ _ => rfl)) (nomark _))))) (pss_one (ps_ret pe_bl)) pss_nil))) <|
      pss_cons (ps_set (i := 9) sc_cutsr.nd rfl (Or.inl rfl) (pe_lst (pa_cons pe_non (pa_cons pe_int (pa_cons pe_str (pa_cons (pe_tup pa_nil) (pa_cons (pe_tup (pa_cons pe_int (pa_cons pe_int pa_nil))) (pa_cons (pe_tup (pa_cons pe_int (pa_cons pe_int (pa_cons pe_int pa_nil)))) (pa_cons (pe_tup (pa_cons pe_int (pa_cons (pe_op op_add (pv 4) (pv 3)) pa_nil))) (pa_cons (pe_lst (pa_cons pe_int (pa_cons pe_int pa_nil))) (pa_cons (pe_tup (pa_cons (pe_un un_neg pe_int) (pa_cons pe_int pa_nil))) (pa_cons (pe_tup (pa_cons pe_bl (pa_cons pe_int pa_nil))) (pa_cons (pe_tup (pa_cons pe_str (pa_cons pe_int pa_nil))) (pa_cons (pe_tup (pa_cons pe_int (pa_cons (pe_op op_sub (pv 4) pe_int) pa_nil))) pa_nil)))))))))))))) <|
      pss_cons (ps_set (i := 9) sc_cutsr.nd rfl (Or.inl rfl) (pe_op op_cat (pv 9) (pe_lst (pa_cons (pe_tup (pa_cons pe_int (pa_cons (pv 4) pa_nil))) (pa_cons (pe_tup (pa_cons pe_int (pa_cons (pe_op op_add (pv 4) pe_int) pa_nil))) (pa_cons (pe_tup (pa_cons pe_int (pa_cons pe_non pa_nil))) (pa_cons (pe_tup (pa_cons pe_int (pa_cons pe_str pa_nil))) (pa_cons (pe_tup (pa_cons pe_int (pa_cons pe_bl pa_nil))) pa_nil)))))))) <|
      pss_cons (ps_set (i := 9) sc_cutsr.nd rfl (Or.inl rfl) (pe_op op_cat (pe_op op_cat (pv 9) (pe_lc (own := [("_law_one", 10)]) (g := gName 10) (tt := tYes) (te := tTup (tCons (tOp (rIxT K) (tVar 10) (tC (.int 1))) (tCons (tOp (rIxT K) (tVar 10) (tC (.int 0))) tNil))) rfl sc_cutsr.nd (pi_list (pe_slice sl_list (pv 1) po_none (po_some pe_int))) (blkOk_by (N := cutsrN) (sc := defScope s_cuts_right) (by decide +kernel))
          (fun _ _ _ _ _ => (pg_name (i := 10) sc_cutsr.nd rfl (Or.inl rfl))) (fun _ _ _ _ _ => pts_nil) (fun _ _ _ _ _ => (pe_tup (pa_cons (pe_ix ix_tup (pv 10) pe_int (fun _ _ => rfl)) (pa_cons (pe_ix ix_tup (pv 10) pe_int (fun _ _ => rfl)) pa_nil)))))) (pe_lc (own := [("_law_one", 10)]) (g := gName 10) (tt := tYes) (te := tCB (rListS K) (tCons (tVar 10) tNil)) rfl sc_cutsr.nd (pi_list (pe_slice sl_list (pv 1) po_none (po_some pe_int))) (blkOk_by (N := cutsrN) (sc := defScope s_cuts_right) (by decide +kernel))
          (fun _ _ _ _ _ => (pg_name (i := 10) sc_cutsr.nd rfl (Or.inl rfl))) (fun _ _ _ _ _ => pts_nil) (fun _ _ _ _ _ => (list_of B (pv 10)))))) <|
      pss_cons (ps_set (i := 9) sc_cutsr.nd rfl (Or.inl rfl) (pe_op op_cat (pv 9) (pe_slice sl_list (pe_lc (own := [("_law_at", 6)]) (g := gName 6) (tt := tTest (tOp (rNotInD K) (tTup (tCons (tC (.int 0)) (tCons (tVar 6) tNil))) (tVar 1))) (te := tTup (tCons (tC (.int 0)) (tCons (tVar 6) tNil))) rfl sc_cutsr.nd (pi_range2 (by rfl) B.range (pa_cons pe_int (pa_cons (pe_op op_sub (pv 4) pe_int) pa_nil))) (blkOk_by (N := cutsrN) (sc := defScope s_cuts_right) (by decide +kernel))
          (fun _ _ _ _ _ => (pg_name (i := 6) sc_cutsr.nd rfl (Or.inl rfl))) (fun _ _ _ _ _ => pts_one (pt_cmpR (op_notInD (un65 hr)) (pe_tup (pa_cons pe_int (pa_cons (pv 6) pa_nil))) (pv 1) (by rfl))) (fun _ _ _ _ _ => (pe_tup (pa_cons pe_int (pa_cons (pv 6) pa_nil))))) po_none (po_some pe_int)))) <|
      pss_cons (ps_set (i := 9) sc_cutsr.nd rfl (Or.inl rfl) (pe_op op_cat (pv 9) (pe_slice sl_list (pe_lc (own := [("_law_at", 6)]) (g := gName 6) (tt := tTest (tOp (rNotInD K) (tTup (tCons (tC (.int 1)) (tCons (tVar 6) tNil))) (tVar 1))) (te := tTup (tCons (tC (.int 1)) (tCons (tVar 6) tNil))) rfl sc_cutsr.nd (pi_range2 (by rfl) B.range (pa_cons pe_int (pa_cons (pv 4) pa_nil))) (blkOk_by (N := cutsrN) (sc := defScope s_cuts_right) (by decide +kernel))
          (fun _ _ _ _ _ => (pg_name (i := 6) sc_cutsr.nd rfl (Or.inl rfl))) (fun _ _ _ _ _ => pts_one (pt_cmpR (op_notInD (un65 hr)) (pe_tup (pa_cons pe_int (pa_cons (pv 6) pa_nil))) (pv 1) (by rfl))) (fun _ _ _ _ _ => (pe_tup (pa_cons pe_int (pa_cons (pv 6) pa_nil))))) po_none (po_some pe_int)))) <|
      pss_one (ps_ret (pe_callB (cr_all rfl) (by rfl) B.all boot_all (pa_cons (pe_lc (own := [("_law_thing", 7)]) (g := gName 7) (tt := tYes) (te := tOp (rEqD K) (tCall (spTold P w K mg base T CR CC CU CT) [] E0 (tCons (tC (.ref fO)) (tCons (tVar 1) (tCons (tVar 7) tNil)))) (tOp (rIxL K) (tVar 2) (tC (.int 3)))) rfl sc_cutsr.nd (pi_list (pv 9)) (blkOk_by (N := cutsrN) (sc := defScope s_cuts_right) (by decide +kernel))
          (fun _ _ _ _ _ => (pg_name (i := 7) sc_cutsr.nd rfl (Or.inl rfl))) (fun _ _ _ _ _ => pts_nil) (fun _ _ _ _ _ => (pe_cmpR (op_eqD hr.units) (pe_n Td hr (by decide) (by rfl) pass0 (pa_cons (pe_cls mO) (pa_cons (pv 1) (pa_cons (pv 7) pa_nil)))) (pe_ix ix_list (pv 2) pe_int (fun _ _ => rfl)) (nomark _)))) pa_nil))), ?_⟩
    obtain ⟨m, hm⟩ : ∃ m : Nat, m = ps.length + 3 := ⟨_, rfl⟩
    have hmm : ms.length = m := by omega
    rw [hmm] at hcut
    have hk3 : (ps.length : Int) = (m : Int) - 3 := by omega
    have hk60 : ps.length ≤ 60 := by omega
    have hxs : xs.length = ps.length := hp.len
    have kI : ∀ {db : PyData × Bool} (v : V) (H1 H2 : Hp), Ex H1 H2 → ITm K (m : Int) H1 v db → ITm K (m : Int) H2 v db := fun v H1 H2 e h => kIT _ _ _ _ (exn_of e) h
    refine q_asg (v := .int (m : Int)) (ev_is (ev_len (ev_var rfl) (sq_of hR)) (by rw [List.length_map, hmm])) fun H1 e1 => ?_
    have hL1 := e1 _ _ hL
    have hp1 := hp.mono e1
    have one : ∀ {p : PI} {σ : L2.St} {Hx : Hp}, EvX (tLst (tCons (tTup (tCons (tC (.int p.1)) (tCons (tC (.int p.2)) tNil))) tNil)) σ Hx (PL K Hx [p]) := fun {p σ Hx} => gl_pl (gl_lst kPr (gs_cons kPr (gpr tp2) gs_nil) (by show 1 ≤ 100000; decide))
    refine q_asgX (al_lst (F := BT K (m : Int)) (m := 9) kBT (aa_cons kBT (bt_c (d := .none) (fun _ => isv_ty (.base .non) (by decide +kernel)) (fun _ => .non) (by decide)) <|
      aa_cons kBT (bt_tuple (ev_var rfl) hL1 hp1) <|
      aa_cons kBT (bt_c (fun _ => isv_ty (.base (.str _)) (by decide +kernel)) (fun _ => .str _) (by decide +kernel)) <|
      aa_cons kBT bt_dict <|
      aa_cons kBT (bt_c (fun _ => isv_ty (.base (.int _)) (by decide +kernel)) (fun _ => .int _) (by simp [SeqAt.shaped, PyData.canLay0, PyData.depth])) <|
      aa_cons kBT (bt_pl (ps := ps ++ [(0, 2)]) (gl_pl (gl_catV kPr (ev_var rfl) hL1 hp1 (fun Hx ex => one (p := (0, 2))) (by show _ + 1 ≤ _; omega))) (by simp; omega) (not_len (by simp; omega))) <|
      aa_cons kBT (bt_pl (ps := ps ++ [(0, 0)]) (gl_pl (gl_catV kPr (ev_var rfl) hL1 hp1 (fun Hx ex => one (p := (0, 0))) (by show _ + 1 ≤ _; omega))) (by simp; omega) (not_len (by simp; omega))) <|
      aa_cons kBT (bt_rep (d := .none) (k := ps.length) ((one_of (P := fun v H2 => ITm K (m : Int) H2 v (.none, false)) kI (fx ev_c fun H1 e => ⟨.non, .no (isv_ty (.base .non) (by decide +kernel))⟩)).imp fun y H2 _ ⟨p, v, a, _, b, c⟩ => ⟨p, v, a, b, c⟩) (fun Hx ex => ev_op (ev_var rfl) ev_c rv_I0) (by omega) (by omega) (by omega) ⟨by simp [PyData.canLay0], by simp [PyData.depth]⟩) <|
      aa_cons kBT (bt_rep (d := dPair (0, 1)) (k := ps.length) ((one_of (P := fun v H2 => ITm K (m : Int) H2 v (dPair (0, 1), false)) kI (it_gp (p := (0, 1)) tp2 (isCut_f2 (by decide)))).imp fun y H2 _ ⟨p, v, a, _, b, c⟩ => ⟨p, v, a, b, c⟩) (fun Hx ex => ev_op (ev_var rfl) ev_c rv_I0) (by omega) (by omega) (by omega) (item_pair _)) aa_nil) (by decide)) fun v H2 e2 ⟨l, ys, hv, hn, hl, hlen, hF⟩ => ?_
    subst hv
    have hlE : ExtN H H2 := exn_of (e1.trans e2)
    have hlN : H l = none := fresh_back e1 hn
    have e12 := e1.trans e2
    refine q_cut (M := fun σ' H' => ∃ (l : Addr) (ys : List V) (v6 : Option V), σ' = [some (.ref R), some (.ref L), some (.ref d), some (.int far), some (.int (m : Int)), some (.ref l), v6, none, none, none, none] ∧ H l = none ∧ Ex H H' ∧ H' l = some (.lst ys) ∧ ys.length ≤ 1000 ∧ ∀ v ∈ ys, BT K (m : Int) (hid H' l) v) ?_ ?_
    · refine s_if (b := decide (3 < (m : Int))) (et_test (ev_op (ev_var rfl) ev_c rv_I0)) (fun hb H3 e3 => ?_) fun hb H3 e3 => ?_
      · have hm3 : 3 < m := by have := of_decide_eq_true hb; omega
        have e13 := e12.trans e3
        have hne : ps ≠ [] := fun q => by rw [q] at hm; simp at hm; omega
        obtain ⟨p0, hp0⟩ : ∃ p0, ps[0]? = some p0 := ⟨ps[0]'(by omega), List.getElem?_eq_getElem (by omega)⟩
        have hc0 := cutting_cut hcut (List.mem_of_getElem? hp0)
        have hlt0 := isCut_lt hc0
        have htail : ∀ {σ : L2.St} {Hx : Hp} {te : TE}, Ex H Hx → Ev te σ Hx (.ref L) → EvX (tSl (rSlL K) te (tPart (tC (.int 1))) tNoPart) σ Hx (PL K Hx (ps.drop 1)) := fun {σ Hx te} ex h => pl_of (el_drop (c := 1) h (sq_of (ex _ _ hL)) ev_c rfl) (Prs.drop 1 (hp.mono ex))
        have hinit : ∀ {σ : L2.St} {Hx : Hp} {te ti : TE}, Ex H Hx → Ev te σ Hx (.ref L) → Ev ti σ Hx (.int (-1)) → EvX (tSl (rSlL K) te tNoPart (tPart ti)) σ Hx (PL K Hx (ps.take (ps.length - 1))) := fun {σ Hx te ti} ex h hi => pl_of (by
          rw [← hxs]
          exact el_init h (sq_of (ex _ _ hL)) hi) (Prs.take _ (hp.mono ex))
        obtain ⟨t0, hx0, ht0⟩ := Prs.at (n := 0) hp (by omega)
        rw [show ps.getD 0 (0, 0) = p0 by rw [List.getD_eq_getElem?_getD, hp0]; rfl] at ht0
        have hat0 : atI xs 0 = some (.ref t0) := atI_of (j := 0) (ixN_of rfl (by omega)) hx0
        have hget0 : ∀ {σ : L2.St} {Hx : Hp} {te : TE}, Ex H Hx → Ev te σ Hx (.ref L) → Ev (tOp (rIxL K) te (tC (.int 0))) σ Hx (.ref t0) := fun {σ Hx te} ex h => ev_op h ev_c (rv_ixL (sq_of (ex _ _ hL)) hat0)
        have h00 : ∀ {σ : L2.St} {Hx : Hp} {te : TE}, Ex H Hx → Ev te σ Hx (.ref L) → Ev (tOp (rIxT K) (tOp (rIxL K) te (tC (.int 0))) (tC (.int 0))) σ Hx (.int p0.1) := fun {σ Hx te} ex h => ev_op (hget0 ex h) ev_c (rv_ixT (i := 0) (st_of (ex _ _ ht0)) rfl)
        have h01 : ∀ {σ : L2.St} {Hx : Hp} {te : TE}, Ex H Hx → Ev te σ Hx (.ref L) → Ev (tOp (rIxT K) (tOp (rIxL K) te (tC (.int 0))) (tC (.int 1))) σ Hx (.int p0.2) := fun {σ Hx te} ex h => ev_op (hget0 ex h) ev_c (rv_ixT (i := 1) (st_of (ex _ _ ht0)) rfl)
        have hdl : ((ps.drop 1).length : Int) + 1 = (m : Int) - 3 := by rw [List.length_drop]; omega
        have hd64 : (ps.drop 1).length < 64 := by rw [List.length_drop]; omega
        have htl : ((ps.take (ps.length - 1)).length : Int) + 1 = (m : Int) - 3 := by rw [List.length_take]; omega
        have ht64 : (ps.take (ps.length - 1)).length < 64 := by rw [List.length_take]; omega
        refine q_asgX (al_catV (m2 := 4) kBT (ev_var rfl) (e3 _ _ hl) hlen (fun v hv => kBT _ _ _ (exn_of e3) (al_get kBT (hF v hv))) (fun Hx ex => ?_) (by decide)) fun v H4 e4 ⟨l1, ys1, hv1, hn1, hl1, hlen1, hF1⟩ => ?_
        · have eHx := e13.trans ex
          exact al_lst kBT (aa_cons kBT (bt_pl (htail eHx (ev_var rfl)) hd64 (not_len (by omega))) <|
            aa_cons kBT (bt_hd (d := .tuple [.int 5]) (gx_U (eu_tup (ea_cons ev_c ea_nil) (by show 1 ≤ 100000; decide)) it_one) ⟨by simp [PyData.canLay0, PyData.canLayAll0], by simp [PyData.depth, PyData.depthAll]⟩ (fun Hy ey => htail (eHx.trans ey) (ev_var rfl)) hdl hd64) <|
            aa_cons kBT (bt_hd (d := dInts [p0.1, p0.2]) (gx_L (el_listT (hget0 eHx (ev_var rfl)) (st_of (eHx _ _ ht0))) it_lst2) (sh_ints _) (fun Hy ey => htail (eHx.trans ey) (ev_var rfl)) hdl hd64) <|
            aa_cons kBT (bt_hd (d := dPair (p0.2, p0.1)) (it_gp (p := (p0.2, p0.1)) (eu_tup (ea_cons (h01 eHx (ev_var rfl)) (ea_cons (h00 eHx (ev_var rfl)) ea_nil)) (by show 2 ≤ 100000; decide)) (isCut_rev hc0)) (item_pair _) (fun Hy ey => htail (eHx.trans ey) (ev_var rfl)) hdl hd64) aa_nil) (by decide)
        subst hv1
        have e14 := e13.trans e4
        refine q_asgX (al_catV (m2 := 3) kBT (ev_var rfl) hl1 hlen1 (fun v hv => al_get kBT (hF1 v hv)) (fun Hx ex => ?_) (by decide)) fun v H5 e5 ⟨l2, ys2, hv2, hn2, hl2, hlen2, hF2⟩ => ?_
        · have eHx := e14.trans ex
          exact al_lst kBT (aa_cons kBT (bt_hd (d := dPair (p0.1, (m : Int) + far)) (it_gp (p := (p0.1, (m : Int) + far)) (eu_tup (ea_cons (h00 eHx (ev_var rfl)) (ea_cons (ev_op (ev_var rfl) (ev_var rfl) rv_I0) ea_nil)) (by show 2 ≤ 100000; decide)) (isCut_f3 (by show ¬ (m : Int) + far < m; omega))) (item_pair _) (fun Hy ey => htail (eHx.trans ey) (ev_var rfl)) hdl hd64) <|
            aa_cons kBT (bt_hd (gx_U (eu_tup (ea_cons ev_c (ea_cons ev_c ea_nil)) (by show 2 ≤ 100000; decide)) it_true) ⟨by simp [PyData.canLay0, PyData.canLayAll0], by simp [PyData.depth, PyData.depthAll]⟩ (fun Hy ey => htail (eHx.trans ey) (ev_var rfl)) hdl hd64) <|
            aa_cons kBT (bt_tl (d := dPair (0, (m : Int) - 1)) (hinit eHx (ev_var rfl) (ev_un ev_c ru_neg)) (fun Hy ey => it_gp (p := (0, (m : Int) - 1)) (eu_tup (ea_cons ev_c (ea_cons (ev_op (ev_var rfl) ev_c rv_I0) ea_nil)) (by show 2 ≤ 100000; decide)) (isCut_f4 (by show ¬ (m : Int) - 1 - 0 < m - 1; omega))) (item_pair _) htl ht64) aa_nil) (by decide)
        subst hv2
        have e15 := e14.trans e5
        refine q_asgX (al_catV (m2 := 3) kBT (ev_var rfl) hl2 hlen2 (fun v hv => al_get kBT (hF2 v hv)) (fun Hx ex => ?_) (by decide)) fun v H6 e6 ⟨l3, ys3, hv3, hn3, hl3, hlen3, hF3⟩ => ?_
        · have eHx := e15.trans ex
          exact al_lst kBT (aa_cons kBT (bt_tl (d := dPair (-1 - far, 2)) (hinit eHx (ev_var rfl) (ev_un ev_c ru_neg)) (fun Hy ey => it_gp (p := (-1 - far, 2)) (eu_tup (ea_cons (ev_op (ev_un ev_c ru_neg) (ev_var rfl) rv_I0) (ea_cons ev_c ea_nil)) (by show 2 ≤ 100000; decide)) (isCut_f1 (by show ¬ 0 ≤ -1 - far; omega))) (item_pair _) htl ht64) <|
            aa_cons kBT (bt_tl (d := dPair (2, 3)) (hinit eHx (ev_var rfl) (ev_un ev_c ru_neg)) (fun Hy ey => it_gp (p := (2, 3)) tp2 (isCut_f2 (by decide))) (item_pair _) htl ht64) <|
            aa_cons kBT (bt_tl (hinit eHx (ev_var rfl) (ev_un ev_c ru_neg)) (fun Hy ey => gx_U (eu_tup (ea_cons ev_c (ea_cons ev_c ea_nil)) (by show 2 ≤ 100000; decide)) it_str) ⟨by decide +kernel, by simp [PyData.depth, PyData.depthAll]⟩ htl ht64) aa_nil) (by decide)
        subst hv3
        have e16 := e15.trans e6
        refine q_cut (M := fun σ' H' => ∃ (l : Addr) (ys : List V), σ' = [some (.ref R), some (.ref L), some (.ref d), some (.int far), some (.int (m : Int)), some (.ref l), none, none, none, none, none] ∧ H l = none ∧ Ex H H' ∧ H' l = some (.lst ys) ∧ ys.length ≤ 30 ∧ ∀ v ∈ ys, BT K (m : Int) (hid H' l) v) ?_ ?_
        · refine s_if (b := decide (4 < (m : Int))) (et_test (ev_op (ev_var rfl) ev_c rv_I0)) (fun hb H7 e7 => ?_) fun hb H7 e7 => ?_
          · have hm4 : 4 < m := by have := of_decide_eq_true hb; omega
            refine s_asgX (al_catV (m2 := 2) kBT (ev_var rfl) (e7 _ _ hl3) hlen3 (fun v hv => kBT _ _ _ (exn_of e7) (al_get kBT (hF3 v hv))) (fun Hx ex => ?_) (by decide)) fun v H8 e8 ⟨l4, ys4, hv4, hn4, hl4, hlen4, hF4⟩ => ?_
            · have eHx := (e16.trans e7).trans ex
              exact al_lst kBT (aa_cons kBT (bt_pl (pl_cat (hinit eHx (ev_var rfl) (ev_un ev_c ru_neg)) (fun Hy ey => pl_of (el_take (c := 1) (ev_var rfl) (sq_of ((eHx.trans ey) _ _ hL)) ev_c rfl) (Prs.take 1 (hp.mono (eHx.trans ey)))) (by simp; omega)) (by simp; omega) (not_nodup (dup_ends (by omega)))) <|
                aa_cons kBT (bt_pl (pl_rg1 (k := ps.length) (ps := steps2 ps.length) (ea_cons (ev_op (ev_var rfl) ev_c rv_I0) ea_nil) (by omega) (by omega) (steps2_len _) (fun x => rfl) (fun i p Hy ey hi => by
                  rw [steps2_get hi]
                  exact eu_tup (ea_cons (ev_is (ev_var rfl) (by rw [Int.zero_add])) (ea_cons (ev_is (ev_op (ev_var rfl) ev_c rv_I0) (by rw [Int.zero_add])) ea_nil)) (by show 2 ≤ 100000; decide))) (by rw [steps2_len]; omega) (no_steps (by omega))) aa_nil) (by decide)
            · subst hv4
              exact ⟨l4, ys4, rfl, fresh_back (e16.trans e7) hn4, (e16.trans e7).trans e8, hl4, by omega, hF4⟩
          · exact ⟨l3, ys3, rfl, fresh_back e15 hn3, e16.trans e7, e7 _ _ hl3, by omega, fun v hv => kBT _ _ _ (exn_of (hid_mono e7)) (hF3 v hv)⟩
        · rintro σ' H7 ⟨l4, ys4, rfl, hn4, e17, hl4, hlen4, hF4⟩
          refine s_forC (m := ps.length) (c := 1 + m / 6) (ea_cons ev_c (ea_cons (ev_is (ev_op (ev_var rfl) ev_c rv_I0) (by rw [← hk3])) (ea_cons (ev_is (ev_op ev_c (ev_op (ev_var rfl) ev_c (rv_I ⟨by decide, by decide⟩)) rv_I0) (by rfl)) ea_nil))) (by omega) (by omega) (by omega)
            (fun i σ' H' => ∃ (ys : List V) (v6 : Option V), σ' = [some (.ref R), some (.ref L), some (.ref d), some (.int far), some (.int (m : Int)), some (.ref l4), v6, none, none, none, none] ∧ Ex H H' ∧ H' l4 = some (.lst ys) ∧ ys.length ≤ 30 + i ∧ ∀ v ∈ ys, BT K (m : Int) (hid H' l4) v)
            (fun Hx ex => ⟨ys4, none, rfl, e17.trans ex, ex _ _ hl4, by omega, fun v hv => kBT _ _ _ (exn_of (hid_mono ex)) (hF4 v hv)⟩) ?_ ?_
          · rintro i σ' H' hi ⟨ys', v6, rfl, eH, hl', hlen', hF'⟩
            have hic : i ≤ i * (1 + m / 6) := Nat.le_mul_of_pos_right i (by omega)
            generalize hcc : i * (1 + m / 6) = c at hi hic
            obtain ⟨tp, hxp, htp⟩ := Prs.at (n := prv ps.length c) hp (by unfold prv; split <;> omega)
            refine s_appF kBT hl' hF' (by omega) (ev_var rfl) ?_ fun v H8 e8 hF8 => ⟨ys' ++ [v], _, rfl, Ex.mut (eH.trans e8) hn4, upd_same, by rw [List.length_append, List.length_singleton]; omega, hF8⟩
            refine EvX.imp (evx_mid (Φ := MidV K (m : Int) ps c) kMid (el_take (c := c) (ev_var rfl) (sq_of (eH _ _ hL)) (ev_var rfl) rfl) (fun Hx ex => evx_pick (z := (m : Int) - 1) tp2 (eu_tup (ea_cons ev_c (ea_cons (ev_op (ev_var rfl) ev_c rv_I0) ea_nil)) (by show 2 ≤ 100000; decide)) (fun Hy ey => ⟨_, ev_op (ev_var rfl) (ev_op (ev_var rfl) ev_c rv_I0) (rv_ixL (sq_of (((eH.trans ex).trans ey) _ _ hL)) (atI_of (by rw [hxs]; exact ixN_prv hi) hxp)), fun h3 => .inr ⟨_, ⟨tp, rfl, ((eH.trans ex).trans ey) _ _ htp⟩, not_nodup (dup_mid (mem_prev (by omega) (by omega)))⟩⟩)
                (ev_is (ev_op (ev_var rfl) ev_c (rv_mod (by decide))) (by rw [Int.fmod_eq_emod_of_nonneg _ (by decide)]; rfl)) (not_one (p := (1, 1)) (by simp) (isCut_f2 (by decide))) (not_one (p := (0, (m : Int) - 1)) (by simp) (isCut_f4 (by show ¬ (m : Int) - 1 - 0 < m - 1; omega))))
              (fun Hx ex => el_drop (c := c + 1) (ev_var rfl) (sq_of ((eH.trans ex) _ _ hL)) (ev_op (ev_var rfl) ev_c rv_I0) rfl) (by rw [List.length_take, List.length_drop]; omega)) fun y H8 ex ⟨p, v, hy, hn8, hp8, hm8⟩ => ?_
            subst hy
            exact bt_midv (ex _ _ hl') hp8 (fun q => by
              rw [q, hl'] at hn8
              cases hn8) (hp.mono (eH.trans ex)) hi (by omega) hk3 hm8
          · rintro σ' H' ⟨ys', v6, rfl, eH, hl', hlen', hF'⟩
            have := rn_le (m := ps.length) (c := 1 + m / 6)
            exact ⟨l4, ys', v6, rfl, hn4, eH, hl', by omega, hF'⟩
      · exact ⟨l, ys, none, rfl, hlN, e12.trans e3, e3 _ _ hl, by omega, fun v hv => kBT _ _ _ (exn_of (hid_mono e3)) (hF v hv)⟩
    · rintro σ' H3 ⟨l, ys, v6, rfl, hlN, e3, hl, hlen, hF⟩
      refine q_asgX (al_filter (G := BT2 K (m : Int)) (m := 1000) (j := 7) (ws := [7]) kBT2 (ev_var rfl) hl hlen (by decide) (fun x => rfl) (fun x => rfl) (fun v hv => sieve1 (j := 7) (i := 4) (m := m) rfl rfl rfl (by omega) (al_get kBT (hF v hv)))) fun v H4 e4 ⟨l2, ys2, hv2, hn2, hl2, hlen2, hF2⟩ => ?_
      subst hv2
      have e14 := e3.trans e4
      refine q_asgX (al_filter (G := BT3 K (m : Int)) (m := 1000) (j := 7) (ws := [7]) kBT3 (ev_var rfl) hl2 hlen2 (by decide) (fun x => rfl) (fun x => rfl) (fun v hv => sieve2 (j := 7) (i := 4) (l := 1) (m := m) rfl rfl rfl (e14 _ _ hL) (hp.mono e14) (al_get kBT2 (hF2 v hv)))) fun v H5 e5 ⟨l3, ys3, hv3, hn3, hl3, hlen3, hF3⟩ => ?_
      subst hv3
      have x5 := exn_of (e14.trans e5)
      have T5 := hT.ext (e14.trans e5)
      refine q_forF (F := BT3 K (m : Int)) (K := K) (T := T) (j := 7) kBT3 (ev_var rfl) hl3 (fun v hv => al_get kBT3 (hF3 v hv)) T5 (fun σ' H' => ∃ v7, σ' = [some (.ref R), some (.ref L), some (.ref d), some (.int far), some (.int (m : Int)), some (.ref l3), v6, v7, none, none, none]) (fun Hx ex Tx => ⟨_, rfl⟩) ?_ ?_
      · rintro Bh v σ' H' hBB hv eB T' ⟨v7, rfl⟩
        exact s_ifN (T := T) (b := false) (nt_both (c := .int (m : Int)) (v := v) (i1 := 4) (i2 := 7) (i := 2) hC hB rfl rfl (.inr (.inr ⟨(m : Int), rfl, by omega, hv⟩)) (due_exn ((x5.trans hBB).trans eB) hd) rfl T') (fun z => nomatch z) fun _ H2 e2 T2 => ⟨eB.trans e2, T2, _, rfl⟩
      · rintro σ' H6 e6 T6 ⟨v7, rfl⟩
        have x6 := x5.trans e6
        have hL6 := exn_lst x6 hL
        have hp6 := exn_prs x6 hp
        have cl : ∀ {H1 : Hp} {n : Int}, Ex H6 H1 → n ≠ (m : Int) → 3 ≤ n → CtsF K L H1 (.int n) := fun {H1 n} ex hn h3 => .inr (.inr ⟨n, rfl, h3, .len (isv_ty (.base (.lst (ex _ _ hL6))) (by decide +kernel)) (sq_of (ex _ _ hL6)) (by omega)⟩)
        refine q_forFT (F := CtsF K L) (K := K) (T := T) (j := 8) (m := 9) kCts (aa_cons kCts (fx ev_c fun _ _ => .inl whole_non) <| aa_cons kCts (fx ev_c fun _ _ => .inl (whole_str _)) <| aa_cons kCts (fx ev_c fun _ _ => .inl (whole_bl _)) <| aa_cons kCts (fx ev_c fun _ _ => .inr (.inl ⟨2, rfl, by decide⟩)) <| aa_cons kCts (fx ev_c fun _ _ => .inr (.inl ⟨0, rfl, by decide⟩)) <|
          aa_cons kCts (fx (ev_op (ev_un ev_c ru_neg) (ev_var rfl) rv_I0) fun _ _ => .inr (.inl ⟨-3 - far, rfl, by omega⟩)) <| aa_cons kCts (fx (ev_op (ev_var rfl) ev_c rv_I0) fun Hx ex => cl ex (by omega) (by omega)) <| aa_cons kCts (fx (ev_op (ev_op (ev_var rfl) ev_c rv_I0) (ev_var rfl) rv_I0) fun Hx ex => cl ex (by omega) (by omega)) <|
          aa_cons kCts (gx_L (xs := [.int 3]) (el_lst (ea_cons ev_c ea_nil) (by show 1 ≤ 100000; decide)) fun H1 t h => .inl (whole_lst (.base (.lst h)))) aa_nil) (by decide) T6 (fun σ' H' => ∃ v7 v8, σ' = [some (.ref R), some (.ref L), some (.ref d), some (.int far), some (.int (m : Int)), some (.ref l3), v6, v7, v8, none, none]) (fun Hx ex Tx => ⟨_, _, rfl⟩) ?_ ?_
        · rintro Bh v σ' H' hBB hv eB T' ⟨v7, v8, rfl⟩
          exact s_ifN (T := T) (b := false) (nt_both (c := v) (v := .ref L) (i1 := 8) (i2 := 1) (i := 2) hC hB rfl rfl hv (due_exn ((x6.trans hBB).trans eB) hd) rfl T') (fun z => nomatch z) fun _ H2 e2 T2 => ⟨eB.trans e2, T2, _, _, rfl⟩
        · rintro σ' H7 e7 T7 ⟨v7', v8, rfl⟩
          have x7 := x6.trans e7
          have hL7 := exn_lst x7 hL
          have hp7 := exn_prs x7 hp
          have two : ∀ {n : Nat}, n = 2 → n ≤ 100000 := fun h => by omega
          refine q_asgX (al_lst (F := OneF K m ps) (m := 12) kOne (aa_cons kOne (fx ev_c fun H1 _ => one_no (fun _ => isv_ty (.base .non) (by decide +kernel)) H1) <| aa_cons kOne (fx ev_c fun H1 _ => one_no (fun _ => isv_ty (.base (.int _)) (by decide +kernel)) H1) <| aa_cons kOne (fx ev_c fun H1 _ => one_no (fun _ => isv_ty (.base (.str _)) (by decide +kernel)) H1) <|
            aa_cons kOne (gx_U (eu_tup ea_nil (by decide)) (one_len (by decide))) <| aa_cons kOne (gx_U tp2 (one_pair (p := (0, 1)) (isCut_f2 (by decide)))) <| aa_cons kOne (gx_U (eu_tup (ea_cons ev_c (ea_cons ev_c (ea_cons ev_c ea_nil))) (by show 3 ≤ 100000; decide)) (one_len (by show 3 ≠ 2; decide))) <|
            aa_cons kOne (gx_U (eu_tup (ea_cons ev_c (ea_cons (ev_op (ev_var rfl) (ev_var rfl) rv_I0) ea_nil)) (two rfl)) (one_pair (p := (0, (m : Int) + far)) (isCut_f3 (by show ¬ (m : Int) + far < m; omega)))) <|
            aa_cons kOne (gx_L (el_lst (ea_cons ev_c (ea_cons ev_c ea_nil)) (two rfl)) one_lst) <| aa_cons kOne (gx_U (eu_tup (ea_cons (ev_un ev_c ru_neg) (ea_cons ev_c ea_nil)) (two rfl)) (one_pair (p := (-1, 2)) (isCut_f1 (by decide)))) <|
            aa_cons kOne (gx_U (eu_tup (ea_cons ev_c (ea_cons ev_c ea_nil)) (two rfl)) (one_fst fun _ => whole_bl _)) <| aa_cons kOne (gx_U (eu_tup (ea_cons ev_c (ea_cons ev_c ea_nil)) (two rfl)) (one_fst fun _ => whole_str _)) <|
            aa_cons kOne (gx_U (eu_tup (ea_cons ev_c (ea_cons (ev_op (ev_var rfl) ev_c rv_I0) ea_nil)) (two rfl)) (one_pair (p := (0, (m : Int) - 1)) (isCut_f4 (by show ¬ (m : Int) - 1 - 0 < m - 1; omega)))) aa_nil) (by decide)) fun v H8 e8 ⟨l9, ys9, hv9, hn9, hl9, hlen9, hF9⟩ => ?_
          subst hv9
          refine q_asgX (al_catV (m2 := 5) kOne (ev_var rfl) hl9 hlen9 (fun v hv => al_get kOne (hF9 v hv)) (fun Hx ex => al_lst (F := OneF K m ps) (m := 5) kOne (aa_cons kOne (gx_U (eu_tup (ea_cons ev_c (ea_cons (ev_var rfl) ea_nil)) (two rfl)) (one_pair (p := (2, (m : Int))) (isCut_f3 (by show ¬ (m : Int) < m; omega)))) <|
            aa_cons kOne (gx_U (eu_tup (ea_cons ev_c (ea_cons (ev_op (ev_var rfl) ev_c rv_I0) ea_nil)) (two rfl)) (one_pair (p := (3, (m : Int) + 1)) (isCut_f3 (by show ¬ (m : Int) + 1 < m; omega)))) <|
            aa_cons kOne (gx_U (eu_tup (ea_cons ev_c (ea_cons ev_c ea_nil)) (two rfl)) (one_snd (fun _ => whole_int _) fun _ => whole_non)) <| aa_cons kOne (gx_U (eu_tup (ea_cons ev_c (ea_cons ev_c ea_nil)) (two rfl)) (one_snd (fun _ => whole_int _) fun _ => whole_str _)) <| aa_cons kOne (gx_U (eu_tup (ea_cons ev_c (ea_cons ev_c ea_nil)) (two rfl)) (one_snd (fun _ => whole_int _) fun _ => whole_bl _)) aa_nil) (by decide)) (by decide)) fun v H9 e9 ⟨l10, ys10, hv10, hn10, hl10, hlen10, hF10⟩ => ?_
          subst hv10
          have hq : ∀ {Hx : Hp} {i : Nat} {x : V}, Ex H7 Hx → (xs.take 2)[i]? = some x → ∃ (p : PI) (t : Addr), p ∈ ps ∧ x = .ref t ∧ Hx t = some (.tup [.int p.1, .int p.2]) := fun {Hx i x} ex hi => by
            obtain ⟨p, h1, t, h2, h3⟩ := Prs.get (Prs.take 2 hp7) hi
            exact ⟨p, t, List.mem_of_mem_take (List.mem_of_getElem? h1), h2, ex _ _ h3⟩
          have t2 : (xs.take 2).length ≤ 2 := by rw [List.length_take]; omega
          have e79 := e8.trans e9
          refine q_asgX (al_cat (m1 := 12 + 5 + 2) (m2 := 2) kOne (al_catV (m2 := 2) kOne (ev_var rfl) hl10 hlen10 (fun v hv => al_get kOne (hF10 v hv)) (fun Hx ex => al_map (j := 10) (ws := [10]) (m := 2) kOne (el_take (c := 2) (ev_var rfl) (sq_of ((e79.trans ex) _ _ hL7)) ev_c rfl) t2 (by decide) (fun x => rfl) (fun Dl i x Hy ⟨acc, hacc⟩ ey hi => ?_)) (by decide)) (fun Hx ex => al_map (j := 10) (ws := [10]) (m := 2) kOne (el_take (c := 2) (ev_var rfl) (sq_of ((e79.trans ex) _ _ hL7)) ev_c rfl) t2 (by decide) (fun x => rfl) (fun Dl i x Hy ⟨acc, hacc⟩ ey hi => ?_)) (by decide)) fun v H10 e10 ⟨l11, ys11, hv11, hn11, hl11, hlen11, hF11⟩ => ?_
          · obtain ⟨p, t, hpm, hxt, ht⟩ := hq ((e79.trans ex).trans ey) hi
            subst hxt
            exact gx_Uhid hacc (eu_tup (ea_cons (ev_op (ev_var rfl) ev_c (rv_ixT (i := 1) (st_of ht) rfl)) (ea_cons (ev_op (ev_var rfl) ev_c (rv_ixT (i := 0) (st_of ht) rfl)) ea_nil)) (two rfl)) (one_pair (p := (p.2, p.1)) (isCut_rev (cutting_cut hcut hpm)))
          · obtain ⟨p, t, hpm, hxt, ht⟩ := hq ((e79.trans ex).trans ey) hi
            subst hxt
            exact gx_Lhid hacc (el_listT (ev_var rfl) (st_of ht)) one_lst
          subst hv11
          have e710 := e79.trans e10
          refine q_asgX (al_catV (m2 := 100) kOne (ev_var rfl) hl11 hlen11 (fun v hv => al_get kOne (hF11 v hv)) (fun Hx ex => al_take (al_rg2 (j := 6) (ws := [6]) (lo := 2) (hi := (m : Int) - 1) (m := 100) kOne (ea_cons ev_c (ea_cons (ev_op (ev_var rfl) ev_c rv_I0) ea_nil)) (by decide) (by decide) (by omega) (by omega) (by omega) (by decide) (fun x => rfl) (fun Dl i Hy ⟨acc, hacc⟩ ey => ⟨!decide ((0, 2 + (i : Int)) ∈ ps), et_test (ev_opU1 (eu_tup (ea_cons ev_c (ea_cons (ev_var rfl) ea_nil)) (two rfl)) (fun Hz ez => ev_var rfl) (fun p Hz hz ez => rv_niP (p := (0, 2 + (i : Int))) hz (sq_of ((((e710.trans ex).trans ey).trans ez) _ _ hL7)) (hp7.mono (((e710.trans ex).trans ey).trans ez)))),
              fun hb H2 e2 => gx_Uhid (e2 _ _ hacc) (eu_tup (ea_cons ev_c (ea_cons (ev_var rfl) ea_nil)) (two rfl)) (one_out (p := (0, 2 + (i : Int))) (by simpa using hb))⟩)) kOne) (by decide)) fun v H11 e11 ⟨l12, ys12, hv12, hn12, hl12, hlen12, hF12⟩ => ?_
          subst hv12
          have e711 := e710.trans e11
          refine q_asgX (al_catV (m2 := 100) kOne (ev_var rfl) hl12 hlen12 (fun v hv => al_get kOne (hF12 v hv)) (fun Hx ex => al_take (al_rg2 (j := 6) (ws := [6]) (lo := 3) (hi := (m : Int)) (m := 100) kOne (ea_cons ev_c (ea_cons (ev_var rfl) ea_nil)) (by decide) (by decide) (by omega) (by omega) (by omega) (by decide) (fun x => rfl) (fun Dl i Hy ⟨acc, hacc⟩ ey => ⟨!decide ((1, 3 + (i : Int)) ∈ ps), et_test (ev_opU1 (eu_tup (ea_cons ev_c (ea_cons (ev_var rfl) ea_nil)) (two rfl)) (fun Hz ez => ev_var rfl) (fun p Hz hz ez => rv_niP (p := (1, 3 + (i : Int))) hz (sq_of ((((e711.trans ex).trans ey).trans ez) _ _ hL7)) (hp7.mono (((e711.trans ex).trans ey).trans ez)))),
              fun hb H2 e2 => gx_Uhid (e2 _ _ hacc) (eu_tup (ea_cons ev_c (ea_cons (ev_var rfl) ea_nil)) (two rfl)) (one_out (p := (1, 3 + (i : Int))) (by simpa using hb))⟩)) kOne) (by decide)) fun v H12 e12 ⟨l13, ys13, hv13, hn13, hl13, hlen13, hF13⟩ => ?_
          subst hv13
          have x12 := x7.trans (exn_of (e711.trans e12))
          have T12 := T7.ext (e711.trans e12)
          refine s_retN (nv_allF (F := OneF K m ps) (K := K) (j := 7) (ws := [7]) kOne (ev_var rfl) hl13 (by omega) (fun v hv => al_get kOne (hF13 v hv)) (fun x => rfl) T12 (fun x H13 e13 T13 hx => nv_toldEq (j := 3) (ea_cons ev_c (ea_cons (ev_var rfl) (ea_cons (ev_var rfl) ea_nil))) (by decide) hO (fun H14 e14 T14 Q' E' hE => ⟨L, xs, ps, x, rfl, exn_lst ((x12.trans e13).trans e14) hL, exn_prs ((x12.trans e13).trans e14) hp, by omega, by rw [← hm]; exact hcut, by rw [← hm]; exact oneb_exn e14 hx, T14, hE⟩) (due_exn (x12.trans e13) hd) rfl T13)) fun H13 e13 T13 => k H13 (x12.trans e13) T13
end
end FzW

namespace FzL
open PySem PySem.Spec PyProof.Rows L2 Evl Fz Fz.Tr LamX
section
variable {F : Hp → V → Prop} {K : PySem.W.Frag} {σ : L2.St} {H H' : Hp} {ta te ti : TE} {tr : TA} {D : Ends} {m : Nat} {l : Addr} {xs ys : List V} {P : V → Hp → Prop}
theorem hid_exn (e : ExtN H H') : ExtN (hid H l) (hid H' l) := fun a u h n => by
  by_cases q : a = l
  · unfold hid at h
    rw [if_pos q] at h
    cases h
  · rw [hid_ne q] at h ⊢
    exact e a u h n
/-- l.append(e) -/
theorem s_appX (hl : H l = some (.lst ys)) (hz : ys.length < 100000) (ha : Ev ta σ H (.ref l)) (he : EvX te σ H P)
    (k : ∀ v H1, Ex H H1 → P v H1 → D.nx σ (upd H1 l (.lst (ys ++ [v])))) : tDrop (tBM K "list" rAppend ta (tCons te tNil)) D σ H :=
  ha H (Ex.refl H) _ fun H1 e1 => ⟨Or.inl ⟨rfl, _, sq_of (e1 _ _ hl)⟩, he H1 e1 _ fun v H2 e2 pv => ⟨l, ys, v, rfl, rfl, e2 _ _ (e1 _ _ hl), sz_lt hz, k v H2 (e1.trans e2) pv⟩⟩
theorem ae_nil : EvAX tNil σ H (fun vs H2 => vs.length = 0 ∧ ∀ v ∈ vs, F H2 v) := fun H1 e Q q => q [] H1 (Ex.refl H1) ⟨rfl, fun v h => nomatch h⟩
theorem ae_cons (kF : Kp F) (h : EvX te σ H (fun v H2 => F H2 v)) (hr : EvAX tr σ H (fun vs H2 => vs.length = m ∧ ∀ v ∈ vs, F H2 v)) : EvAX (tCons te tr) σ H (fun vs H2 => vs.length = m + 1 ∧ ∀ v ∈ vs, F H2 v) := fun H1 e Q q =>
  h H1 e _ fun v H2 e2 pv => hr H2 (e.trans e2) _ fun vs H3 e3 ⟨p1, p2⟩ => q _ H3 (e2.trans e3) ⟨by rw [List.length_cons, p1], fun z hz => by
    rcases List.mem_cons.mp hz with c | c
    · rw [c]
      exact kF _ _ _ (exn_of e3) pv
    · exact p2 z c⟩
/-- (.., ..)[j] -/
theorem evx_pickN {j : Nat} (kF : Kp F) (h : EvAX tr σ H (fun vs H2 => vs.length = m ∧ ∀ v ∈ vs, F H2 v)) (hz : m ≤ 100000) (hi : Ev ti σ H (.int (j : Int))) (hj : j < m) : EvX (tOp (rIxT K) (tTup tr) ti) σ H (fun v H2 => F H2 v) := fun H1 e Q q =>
  h H1 e _ fun vs H2 e2 ⟨p1, p2⟩ => ⟨sz_of (by omega), fun p hp => by
    have e3 := Ex.new (o := .tup vs) hp
    refine hi _ ((e.trans e2).trans e3) _ fun H4 e4 => ?_
    have hlt : j < vs.length := by omega
    exact ⟨p, vs, (j : Int), vs[j], rfl, rfl, st_of (e4 _ _ upd_same), atI_of (j := j) (ixN_of rfl hlt) (List.getElem?_eq_getElem hlt), q _ H4 ((e2.trans e3).trans e4) (kF _ _ _ (exn_of (e3.trans e4)) (p2 _ (List.getElem_mem hlt)))⟩⟩
/-! rows that are none -/
theorem kRowB : Kp (RowB K) := fun _ _ _ e h => rowb_exn e h
theorem row_no {v : V} (h : Ev te σ H v) (hi : ∀ H1 : Hp, IsV K H1 v "list" false) : EvX te σ H (fun v H2 => RowB K H2 v) := fx h fun H1 _ => .no (hi H1)
theorem row_tup (h : EvU te σ H xs) : EvX te σ H (fun v H2 => RowB K H2 v) := gx_U h fun H1 t g => .no (isv_ty (.base (.tup g)) (by decide +kernel))
theorem row_short (h : EvL te σ H xs) (hl : xs.length < 3) : EvX te σ H (fun v H2 => RowB K H2 v) := gx_L h fun H1 t g => .short (isv_ty (.base (.lst g)) (by decide +kernel)) (sq_of g) hl
theorem row_dict : EvX tDNewK σ H (fun v H2 => RowB K H2 v) := fun H1 e Q q p hp => q _ _ (Ex.new hp) (.no (isv_ty (.base (.dK upd_same)) (by decide +kernel)))
theorem row_bad {bs : List Bool} (h : EvL te σ H xs) (hb : ∀ H1 : Hp, Paired (WholeV K H1) xs bs) (hz : xs.length ≤ 1000) (hall : bs.all id = false) : EvX te σ H (fun v H2 => RowB K H2 v) := gx_L h fun H1 t g => .bad (isv_ty (.base (.lst g)) (by decide +kernel)) (sq_of g) hz (hb H1) hall
theorem row_nest {a b c : Int} : EvX (tLst (tCons (tLst (tCons (tC (.int a)) tNil)) (tCons (tC (.int b)) (tCons (tC (.int c)) tNil)))) σ H (fun v H2 => RowB K H2 v) := fun H1 e Q q => by
  have h0 : EvL (tLst (tCons (tC (.int a)) tNil)) σ H [.int a] := el_lst (ea_cons ev_c ea_nil) (by show 1 ≤ 100000; decide)
  have h1 : EvAX (tCons (tLst (tCons (tC (.int a)) tNil)) (tCons (tC (.int b)) (tCons (tC (.int c)) tNil))) σ H (fun vs H2 => ∃ p, vs = [V.ref p, .int b, .int c] ∧ H2 p = some (.lst [.int a])) := fun H1 e Q q => h0 H1 e _ fun p H2 hp e2 h2 => q _ H2 e2 ⟨p, rfl, h2⟩
  refine h1 H1 e _ fun vs H2 e2 ⟨p, hvs, h2⟩ => ?_
  subst hvs
  exact ⟨sz_of (show 3 ≤ 100000 by decide), fun r hr => q (.ref r) _ (e2.trans (Ex.new hr)) (.bad (xs := [.ref p, .int b, .int c]) (bs := [false, true, true]) (isv_ty (.base (.lst upd_same)) (by decide +kernel)) (sq_of upd_same) (by show 3 ≤ 1000; decide) (.cons (whole_lst (.base (.lst (Ex.new hr _ _ h2)))) (.cons (whole_int _) (.cons (whole_int _) .nil))) rfl)⟩
/-- what is no whole number, the growing list not looked at -/
def NoW (K : PySem.W.Frag) (l : Addr) (H : Hp) (v : V) : Prop := WholeV K (hid H l) v false
theorem kNoW : Kp (NoW K l) := fun _ _ _ e h => exn_whole (hid_exn e) h
theorem noW_c {v : V} (h : ∀ H1 : Hp, WholeV K H1 v false) : EvX (tC v) σ H (fun v H2 => NoW K l H2 v) := fx ev_c fun H1 _ => h _
theorem noW_L (hl : H l = some (.lst ys)) (h : EvL te σ H xs) : EvX te σ H (fun v H2 => NoW K l H2 v) := gx_Lhid (G := fun H v => WholeV K H v false) hl h fun H1 t g => whole_lst (.base (.lst g))
theorem noW_U (hl : H l = some (.lst ys)) (h : EvU te σ H xs) : EvX te σ H (fun v H2 => NoW K l H2 v) := gx_Uhid (G := fun H v => WholeV K H v false) hl h fun H1 t g => whole_tup (.base (.tup g))
theorem noW_D (hl : H l = some (.lst ys)) : EvX tDNewK σ H (fun v H2 => NoW K l H2 v) := fun H1 e Q q p hp => q _ _ (Ex.new hp) (whole_dct (.base (.dK (by
  rw [hid_ne fun q => by
    rw [q, e _ _ hl] at hp
    cases hp]
  exact upd_same))))
theorem whole_ints : ∀ (ns : List Int) (H : Hp), Paired (WholeV K H) (ns.map V.int) (List.replicate ns.length true)
  | [], _ => .nil
  | n :: ns, H => .cons (whole_int n) (whole_ints ns H)
theorem rowb_mid {p : Addr} {v : V} {ns : List Int} {c : Nat} (hl : H l = some (.lst ys)) (hn : H' p = none) (e : Ex H' H) (hl' : H' l = some (.lst xs)) (hp : H p = some (.lst ((ns.map V.int).take c ++ [v] ++ (ns.map V.int).drop (c + 1)))) (hz : ns.length ≤ 900) (h : NoW K l H v) : RowB K (hid H l) (.ref p) := by
  have hp' : hid H l p = some (.lst ((ns.map V.int).take c ++ [v] ++ (ns.map V.int).drop (c + 1))) := by
    rw [hid_ne fun q => by
      rw [q, hl'] at hn
      cases hn]
    exact hp
  refine .bad (bs := List.replicate (ns.take c).length true ++ [false] ++ List.replicate (ns.drop (c + 1)).length true) (isv_ty (.base (.lst hp')) (by decide +kernel)) (sq_of hp') ?_ ?_ ?_
  · simp; omega
  · rw [← List.map_take, ← List.map_drop]
    exact Gs.app (F := WholeV K) (Gs.app (F := WholeV K) (whole_ints _ _) (Paired.cons h Paired.nil)) (whole_ints _ _)
  · simp
end
end FzL
namespace FzW
open PySem PySem.Spec PyProof.Rows L2 Evl FzL Fz Fz.Tr LamX
section
variable {P : Program} {w : World} {K : PySem.W.Frag} {mg : Str → Option Value} {base : Heap} {T : List (Addr × Str)} {CR CC CU CT : Addr} {σ : L2.St} {H : Hp} {ta : TA}
theorem nv_toldNeX {f d : Addr} {sp : Sp} {x : V} {Y : V → Hp → Prop} {j i : Nat} {b : Nat → Addr} (ha : EvAX ta σ H (fun vs H2 => ∃ y, vs = [.ref f, x, y] ∧ Y y H2)) (hj : j < 4) (hh : HeldN P w K mg base 6 f sp) (hs : ∀ y H1, ExtN H H1 → Tabs T H1 → Y y H1 → ∀ Q' E', RaiseN T (cj CR CC CU CT j) H1 E' → sp [x, y] H1 Q' E') (hd : Due H d b) (hσ : σ[i]? = some (some (.ref d))) (hT : Tabs T H) :
    NvE T (tOp (rNeD K) (tCall (spTold P w K mg base T CR CC CU CT) [] E0 ta) (tOp (rIxL K) (tVar i) (tC (.int (j : Int))))) σ H (.bl false) :=
  nv_is (nv_opXV (P := fun v H2 => ∃ p, v = V.ref p ∧ H2 p = some (.lst (kl j))) (z := .bl (!decide (kb j = kb j))) (nx_callX hT ha fun vs H1 e1 T1 ⟨y, hy, p0⟩ => by
    subst hy
    exact use_told hj hh (hs y H1 e1 T1 p0)) (fun v H1 e1 T1 p1 => ev_op (ev_var hσ) ev_c (rv_ixL (sq_of (exn_lst e1 hd.1)) (due_at hj))) fun v H1 H2 e1 ⟨p, q1, q2⟩ e2 => by
    subst q1
    exact rv_neD (dp_bools (sq_of (e2 _ _ q2))) (dp_bools (sq_of (e2 _ _ (exn_lst e1 (hd.2 j hj))))) (shaped_bools _) (shaped_bools _) (eqv_bools _ _)) (by rw [decide_eq_true rfl]; rfl)
def CornF (K : PySem.W.Frag) (n : Nat) (H : Hp) (v : V) : Prop := CornB K H n v
theorem kCorn {n : Nat} : Kp (CornF K n) := fun _ _ _ e h => cornb_exn e h
def IntF (H : Hp) (v : V) : Prop := ∃ d : Int, v = .int d
theorem kInt : Kp IntF := fun _ _ _ _ h => h
theorem kl_at {i : Nat} (h : i < 4) : [V.bl (decide ((i : Int) = 0)), V.bl (decide ((i : Int) = 1)), V.bl (decide ((i : Int) = 2)), V.bl (decide ((i : Int) = 3)), V.bl true] = kl i := by
  match i, h with
  | 0, _ => rfl
  | 1, _ => rfl
  | 2, _ => rfl
  | 3, _ => rfl
end
end FzW
namespace FzW
open PySem PySem.Spec PyProof.Rows L2 Evl FzL Fz Fz.Tr LamX
section
variable {K : PySem.W.Frag} {T : List (Addr × Str)} {σ : L2.St} {H : Hp} {tr : TA} {tu : TS} {D : Ends} {m : Nat} {F : Hp → V → Prop}
theorem use_rowofQ {n : Nat} {a : Addr} {xs : List V} {ps : List PI} {H : Hp} (h3 : 3 ≤ n) (hz : n ≤ 1000) (hs : H a = some (.lst xs)) (hp : Prs K H xs ps) (h64 : ps.length < 64) (hc : isCutting (n : Int) ps = true) (hT : Tabs T H) :
    SpNX T (spRowOf K T) ([.int (n : Int), .ref a] ++ []) H (fun v H2 => ∃ r, v = .ref r ∧ H2 r = some (.lst ((countsOf n ps).map V.int))) := fun Q q' E =>
  ⟨n, a, xs, ps, rfl, h3, hz, hs, hp, h64, hc, hT, fun r H' hr e1 T1 h1 => q' _ H' e1 T1 ⟨r, rfl, h1⟩⟩
theorem use_growQ {a : Addr} {ns : List Int} {c : Nat} {H : Hp} (hs : H a = some (.lst (ns.map V.int))) (h3 : 3 ≤ ns.length) (hz : ns.length ≤ 1000) (hc : c < ns.length) : SpL (spGrow K) ([.ref a, .int (c : Int)] ++ []) H ((growL ns c).map V.int) := fun H1 e Q q E => ⟨a, ns, c, rfl, e _ _ hs, h3, hz, hc, q⟩
theorem s_forFT (kF : Kp F) {j : Nat} (h : EvAX tr σ H (fun vs H2 => vs.length ≤ m ∧ ∀ v ∈ vs, F H2 v)) (hz : m ≤ 100000) (hT : Tabs T H) (Pv : L2.St → Hp → Prop) (h0 : ∀ H1, ExtN H H1 → Tabs T H1 → Pv σ H1)
    (hs : ∀ (B : Hp) (v : V) (σ' : L2.St) (H' : Hp), ExtN H B → F H' v → ExtN B H' → Tabs T H' → Pv σ' H' → tu { D with nx := fun σ2 H2 => ExtN B H2 ∧ Tabs T H2 ∧ Pv σ2 H2, ct := fun σ2 H2 => ExtN B H2 ∧ Tabs T H2 ∧ Pv σ2 H2, bk := D.nx } (σ'.set j (some v)) H')
    (hd : ∀ σ' H', ExtN H H' → Tabs T H' → Pv σ' H' → D.nx σ' H') : tFor (iTup K (tTup tr)) (gName j) tu D σ H := q_forFT (K := K) (tz := fun _ => D.nx) (D := D) kF h hz hT Pv h0 hs hd
end
end FzW

namespace FzW
open PySem PySem.Spec PyProof.Rows L2 Evl FzL Fz Fz.Tr LamX
abbrev s_law : Stmt := topS 49
section
variable {P : Program} {w : World} {K : PySem.W.Frag} {mg : Str → Option Value} {base : Heap} {T : List (Addr × Str)} {CR CC CU CT : Addr}
def spLaw (K : PySem.W.Frag) (T : List (Addr × Str)) : Sp := fun vs H Q _ => ∃ (a : Addr) (ns : List Int), vs = [.ref a] ∧ SqL K H a (ns.map V.int) ∧ ns.length ≤ 63 ∧ (∀ n ∈ ns, n.natAbs < 2 ^ 1048577) ∧ Tabs T H ∧ ∀ H', Q (.bl true) H'
abbrev lawN : List Str := ["_law_script", "_law_far", "_law_due", "_law_k", "_law_row_here", "_law_other", "_law_cell", "_law_kept", "_law_cuts", "_law_bad", "_law_at", "_law_door", "_law_corner", "_law_steps", "_law_handed", "_law_thing"]
theorem sc_law : FnScope lawN ["_law_script"] (defScope s_law) := ⟨rfl, rfl, rfl, by decide +kernel, rfl, by decide +kernel, by decide +kernel⟩
theorem ok_law (B : Blt mg) (Ce : Cal P w K mg base CX0 1 "_law_cell_at" ["_law_script", "_law_k"] (spCell K)) (Rw : Cal P w K mg base CX0 3 "_law_row" ["_law_script"] (spRowL K)) (V2 : Cal P w K mg base CX0 2 "_law_value" ["_law_cell", "_law_k", "_law_most"] (spValue K))
    (G : Cal P w K mg base CX0 1 "_law_grown" ["_law_row_here", "_law_corner"] (spGrown K)) (Rd : Cal P w K mg base CX0 1 "_law_reduced" ["_law_row_here"] (spReduced K)) (Td : Cal P w K mg base CX0 7 "_law_told" ["_law_ask", "_law_one", "_law_other"] (spTold P w K mg base T CR CC CU CT))
    (WR : Cal P w K mg base (L2N.CX P w) 6 "_law_with_row" ["_law_door", "_law_row_here"] (spWRow K T CR)) (WK : Cal P w K mg base (L2N.CX P w) 6 "_law_with_corner" ["_law_row_here", "_law_pair"] (spWCorn K T CC)) (WS : Cal P w K mg base (L2N.CX P w) 6 "_law_with_steps" ["_law_row_here", "_law_steps"] (spWStep K T CC))
    (Cu : Cal P w K mg base CX0 8 "_law_cuts_right" ["_law_row_here", "_law_cuts", "_law_due", "_law_far"] (spCutsR K T)) (Cx : Cal P w K mg base CX0 8 "_law_crossing_right" ["_law_due", "_law_far"] (spCross K T)) (Gr : Cal P w K mg base CX0 3 "grown" ["row", "corner"] (spGrow K)) (Ro : Cal P w K mg base CX0 5 "row_of" ["corners", "cuts"] (spRowOf K T))
    {f : Addr} {fd : FuncData} (F : Fun K "law" "law" s_law f fd) : FnOk P w K mg base CX0 9 f fd ["_law_script"] (spLaw K T) := by
  obtain ⟨fW, mW, hW⟩ := WR.held
  obtain ⟨fK, mK, hK⟩ := WK.held
  obtain ⟨fS, mS, hS⟩ := WS.held
  refine F.ok sc_law (fun vs H Q E h => ?_) (fun cdv A outer s H vs Q E hr h => ?_)
  · obtain ⟨a, ns, rfl, _⟩ := h
    rfl
  · obtain ⟨a0, ns0, rfl, hs0, hz0, hb0, hT0, k⟩ := h
    refine ⟨_, pss_cons (ps_set (i := 1) sc_law.nd rfl (Or.inl rfl) (pe_op op_modN (pe_n Ce hr (by decide) (by rfl) pass0 (pa_cons (pv 0) (pa_cons pe_int pa_nil))) (pe_op op_pow pe_int pe_int))) <|
      pss_cons (ps_set (i := 2) sc_law.nd rfl (Or.inr rfl) (pe_lst pa_nil)) <|
      pss_cons (ps_for PassesOwn.never rfl (pi_range1 (by rfl) B.range (pa_cons pe_int pa_nil)) (pg_name (i := 3) sc_law.nd rfl (Or.inl rfl))
        (pss_one (ps_expr (pe_bm PySem.F.plainAttrs_list PySem.F.slot_list_append PySem.F.type_list_append mt_append (pv 2) (pa_cons (pe_lst (pa_cons (pe_cmpR op_eq (pv 3) pe_int (nomark _)) (pa_cons (pe_cmpR op_eq (pv 3) pe_int (nomark _)) (pa_cons (pe_cmpR op_eq (pv 3) pe_int (nomark _)) (pa_cons (pe_cmpR op_eq (pv 3) pe_int (nomark _)) (pa_cons pe_bl pa_nil)))))) pa_nil))))) <|
      pss_cons (ps_par (i := 4) (j := 5) rfl sc_law.nd rfl rfl (by decide) rfl rfl (pa_cons (pe_n Rw hr (by decide) (by rfl) pass0 (pa_cons (pv 0) pa_nil)) (pa_cons (pe_lst (pa_cons pe_int (pa_cons pe_int (pa_cons pe_int pa_nil)))) pa_nil)) rfl) <|
      pss_cons (ps_for PassesOwn.never rfl (pi_enum (by rfl) B.enumerate (pa_cons (pe_slice sl_list (pv 0) po_none (po_some pe_int)) pa_nil)) (pg_tup rfl (pgs_cons (pg_name (i := 3) sc_law.nd rfl (Or.inl rfl)) (pgs_cons (pg_name (i := 6) sc_law.nd rfl (Or.inl rfl)) pgs_nil)))
        (pss_one (ps_set (i := 5) sc_law.nd rfl (Or.inl rfl) (pe_n G hr (by decide) (by rfl) pass0 (pa_cons (pv 5) (pa_cons (pe_op op_modN (pe_callB call_abs (by rfl) B.abs boot_abs (pa_cons (pe_n V2 hr (by decide) (by rfl) pass0 (pa_cons (pv 6) (pa_cons (pv 3) (pa_cons pe_int pa_nil)))) pa_nil)) (len_of B (pv 5))) pa_nil)))))) <|
      pss_cons (ps_par (i := 7) (j := 8) rfl sc_law.nd rfl rfl (by decide) rfl rfl (pa_cons (list_of B (pv 4)) (pa_cons (pe_n Rd hr (by decide) (by rfl) pass0 (pa_cons (pv 5) pa_nil)) pa_nil)) rfl) <|
      pss_cons (ps_set (i := 9) sc_law.nd rfl (Or.inl rfl) (pe_lst (pa_cons pe_non (pa_cons (pe_tup pa_nil) (pa_cons (pe_tup (pa_cons pe_int (pa_cons pe_int (pa_cons pe_int pa_nil)))) (pa_cons pe_str (pa_cons pe_dnewK (pa_cons pe_int (pa_cons (pe_lst pa_nil) (pa_cons (pe_lst (pa_cons pe_int pa_nil)) (pa_cons (pe_lst (pa_cons pe_int (pa_cons pe_int pa_nil))) (pa_cons (pe_lst (pa_cons pe_non (pa_cons pe_int (pa_cons pe_int pa_nil)))) (pa_cons (pe_lst (pa_cons pe_str (pa_cons pe_int (pa_cons pe_int pa_nil)))) (pa_cons (pe_lst (pa_cons pe_int (pa_cons pe_bl (pa_cons pe_int pa_nil)))) (pa_cons (pe_lst (pa_cons (pe_lst (pa_cons pe_int pa_nil)) (pa_cons pe_int (pa_cons pe_int pa_nil)))) pa_nil))))))))))))))) <|
      pss_cons (ps_for PassesOwn.never rfl (pi_range3 (by rfl) B.range (pa_cons pe_int (pa_cons (len_of B (pv 4)) (pa_cons (pe_op op_add pe_int (pe_op op_fdiv (len_of B (pv 4)) pe_int)) pa_nil)))) (pg_name (i := 10) sc_law.nd rfl (Or.inl rfl))
        (pss_one (ps_expr (pe_bm PySem.F.plainAttrs_list PySem.F.slot_list_append PySem.F.type_list_append mt_append (pv 9) (pa_cons (pe_op op_cat (pe_op op_cat (pe_slice sl_list (pv 4) po_none (po_some (pv 10))) (pe_lst (pa_cons (pe_ix ix_tup (pe_tup (pa_cons pe_non (pa_cons pe_str (pa_cons pe_bl (pa_cons (pe_lst (pa_cons pe_int pa_nil)) (pa_cons (pe_tup (pa_cons pe_int pa_nil)) (pa_cons pe_dnewK (pa_cons pe_bl pa_nil)))))))) (pe_op op_modN (pv 10) pe_int) (fun _ _ => rfl)) pa_nil))) (pe_slice sl_list (pv 4) (po_some (pe_op op_add (pv 10) pe_int)) po_none)) pa_nil))))) <|
      pss_cons (ps_for PassesOwn.never rfl (pi_range1 (by rfl) B.range (pa_cons pe_int pa_nil)) (pg_name (i := 11) sc_law.nd rfl (Or.inr rfl))
        (pss_one (ps_if (pt_not (pt_val (pe_callB (cr_all rfl) (by rfl) B.all boot_all (pa_cons (pe_lc (own := [("_law_thing", 15)]) (g := gName 15) (tt := tYes) (te := tOp (rEqD K) (tCall (spTold P w K mg base T CR CC CU CT) [] E0 (tCons (tC (.ref fW)) (tCons (tVar 11) (tCons (tVar 15) tNil)))) (tOp (rIxL K) (tVar 2) (tC (.int 0)))) rfl sc_law.nd (pi_list (pv 9)) (blkOk_by (N := lawN) (sc := defScope s_law) (by decide +kernel))
          (fun _ _ _ _ _ => (pg_name (i := 15) sc_law.nd rfl (Or.inl rfl))) (fun _ _ _ _ _ => pts_nil) (fun _ _ _ _ _ => (pe_cmpR (op_eqD hr.units) (pe_n Td hr (by decide) (by rfl) pass0 (pa_cons (pe_cls mW) (pa_cons (pv 11) (pa_cons (pv 15) pa_nil)))) (pe_ix ix_list (pv 2) pe_int (fun _ _ => rfl)) (nomark _)))) pa_nil)))) (pss_one (ps_ret pe_bl)) pss_nil))) <|
      pss_cons (ps_for PassesOwn.never rfl (pi_tup (pe_tup (pa_cons pe_non (pa_cons pe_str (pa_cons pe_bl (pa_cons pe_bl (pa_cons (pe_lst (pa_cons pe_int pa_nil)) (pa_cons (pe_un un_neg pe_int) (pa_cons (pe_op op_sub (pe_un un_neg pe_int) (pv 1)) (pa_cons (len_of B (pv 4)) (pa_cons (pe_op op_add (len_of B (pv 4)) (pv 1)) pa_nil))))))))))) (pg_name (i := 12) sc_law.nd rfl (Or.inl rfl))
        (pss_one (ps_for PassesOwn.never rfl (pi_tup (pe_tup (pa_cons pe_int (pa_cons pe_int pa_nil)))) (pg_name (i := 11) sc_law.nd rfl (Or.inr rfl))
        (pss_one (ps_if (pt_cmpR (op_neD hr.units) (pe_n Td hr (by decide) (by rfl) pass0 (pa_cons (pe_cls mK) (pa_cons (pv 4) (pa_cons (pe_tup (pa_cons (pv 11) (pa_cons (pv 12) pa_nil))) pa_nil)))) (pe_ix ix_list (pv 2) pe_int (fun _ _ => rfl)) (nomark _)) (pss_one (ps_ret pe_bl)) pss_nil))))) <|
      pss_cons (ps_for PassesOwn.never rfl (pi_tup (pe_tup (pa_cons pe_non (pa_cons pe_str (pa_cons pe_bl (pa_cons pe_bl (pa_cons (pe_lst (pa_cons pe_int pa_nil)) (pa_cons (pe_un un_neg pe_int) (pa_cons (pe_op op_sub (pe_un un_neg pe_int) (pv 1)) (pa_cons pe_int (pa_cons (pe_op op_add pe_int (pv 1)) pa_nil))))))))))) (pg_name (i := 13) sc_law.nd rfl (Or.inl rfl))
        (pss_one (ps_if (pt_cmpR (op_neD hr.units) (pe_n Td hr (by decide) (by rfl) pass0 (pa_cons (pe_cls mS) (pa_cons (pv 4) (pa_cons (pv 13) pa_nil)))) (pe_ix ix_list (pv 2) pe_int (fun _ _ => rfl)) (nomark _)) (pss_one (ps_ret pe_bl)) pss_nil))) <|
      pss_cons (ps_set (i := 14) sc_law.nd rfl (Or.inl rfl) (list_of B (pv 8))) <|
      pss_cons (ps_if (PW.pt (pw_or (pt_not (pt_val (pe_n Cu hr (by decide) (by rfl) pass0 (pa_cons (pv 5) (pa_cons (pv 14) (pa_cons (pv 2) (pa_cons (pv 1) pa_nil))))))) (pw_or (pt_cmpR (op_neD hr.units) (pv 14) (pv 8) (nomark _)) (pw_or1 (pt_cmpR (op_neD hr.units) (pv 4) (pv 7) (nomark _)))))) (pss_one (ps_ret pe_bl)) pss_nil) <|
      pss_cons (ps_if (pt_not (pt_val (pe_n Cx hr (by decide) (by rfl) pass0 (pa_cons (pv 2) (pa_cons (pv 1) pa_nil))))) (pss_one (ps_ret pe_bl)) pss_nil) <|
      pss_one (ps_ret (pe_and (pe_cmpR op_eq (len_of B (pe_n Gr hr (by decide) (by rfl) pass0 (pa_cons (pv 4) (pa_cons (pe_op op_sub (len_of B (pv 4)) pe_int) pa_nil)))) (pe_op op_add (len_of B (pv 4)) pe_int) (nomark _)) (pe_one (pe_cmpR (op_eqD hr.units) (pe_n Ro hr (by decide) (by rfl) pass0 (pa_cons (len_of B (pv 5)) (pa_cons (pv 8) pa_nil))) (pv 5) (nomark _))))), ?_⟩
    have hcb : ∀ j, (ns0.getD j 0).natAbs < 2 ^ 1048577 := fun j => by
      by_cases hj : j < ns0.length
      · exact hb0 _ (Fz.getD_mem hj)
      · rw [List.getD_eq_getElem?_getD, List.getElem?_eq_none (by omega)]
        exact Nat.pow_pos (by decide)
    refine q_asg (v := .int ((ns0.getD 0 0).fmod ((10 : Int) ^ (20 : Int).toNat))) (ev_op (ev_call (ea_cons (ev_var rfl) (ea_cons ev_c ea_nil)) (use_cell (k := 0) hs0)) (ev_op ev_c ev_c (rv_I ⟨by decide, by decide, by decide⟩)) (rv_mod (by decide))) fun H1 e1 => ?_
    have hfar : 0 ≤ (ns0.getD 0 0).fmod ((10 : Int) ^ (20 : Int).toNat) := Int.fmod_nonneg_of_pos _ (by decide)
    generalize (ns0.getD 0 0).fmod ((10 : Int) ^ (20 : Int).toNat) = far at hfar ⊢
    refine q_asgL (xs := []) (el_lst ea_nil (Nat.zero_le _)) fun d H2 hd0 e2 h2 => ?_
    have dN : H d = none := fresh_back e1 hd0
    refine q_forI (n := 4) (j := 3) (ea_cons ev_c ea_nil) (by decide) (fun i σ' H' => ∃ (v3 : Option V) (b : Nat → Addr), σ' = [some (.ref a0), some (.int far), some (.ref d), v3, none, none, none, none, none, none, none, none, none, none, none, none] ∧ Ex H H' ∧ H' d = some (.lst ((List.range i).map fun j => V.ref (b j))) ∧ ∀ j, j < i → H' (b j) = some (.lst (kl j)) ∧ b j ≠ d)
      (fun Hx ex => ⟨none, fun _ => d, rfl, (e1.trans e2).trans ex, ex _ _ h2, fun j hj => absurd hj (Nat.not_lt_zero _)⟩) ?_ ?_
    · rintro i σ' H' hi ⟨v3, b, rfl, eH, hd', hb'⟩
      refine s_appX hd' (by rw [List.length_map, List.length_range]; omega) (ev_var rfl) (evx_l (xs := kl i) (by
        rw [← kl_at hi]
        exact el_lst (ea_cons (ev_eqI (ev_var rfl) ev_c) <| ea_cons (ev_eqI (ev_var rfl) ev_c) <| ea_cons (ev_eqI (ev_var rfl) ev_c) <| ea_cons (ev_eqI (ev_var rfl) ev_c) <| ea_cons ev_c ea_nil) (by show 5 ≤ 100000; decide))) fun v H3 e3 ⟨p, hv, hp0, hp3⟩ => ?_
      subst hv
      have hpd : p ≠ d := fun q => by
        rw [q, hd'] at hp0
        cases hp0
      refine ⟨_, fun j => if j = i then p else b j, rfl, Ex.mut (eH.trans e3) dN, ?_, fun j hj => ?_⟩
      · rw [upd_same, List.range_succ, List.map_append]
        have : (List.range i).map (fun j => V.ref (if j = i then p else b j)) = (List.range i).map fun j => V.ref (b j) := List.map_congr_left fun j hj => by rw [if_neg (Nat.ne_of_lt (List.mem_range.mp hj))]
        rw [this]
        simp
      · show upd H3 d _ (if j = i then p else b j) = _ ∧ (if j = i then p else b j) ≠ d
        by_cases hji : j = i
        · rw [if_pos hji, hji]
          exact ⟨by rw [upd_ne hpd]; exact hp3, hpd⟩
        · rw [if_neg hji]
          obtain ⟨g1, g2⟩ := hb' j (by omega)
          exact ⟨by rw [upd_ne g2]; exact e3 _ _ g1, g2⟩
    · rintro σ' H3 ⟨v3, b, rfl, e3, hd3, hb3⟩
      have hdue : Due H3 d b := ⟨hd3, fun j hj => (hb3 j hj).1⟩
      refine q_parXL (xs := [1, 1, 1].map V.int) (evx_call (ea_cons (ev_var rfl) ea_nil) (use_rowL (ex_l e3 hs0) hz0 hb0)) (fun Hx ex => el_lst (ea_cons ev_c <| ea_cons ev_c <| ea_cons ev_c ea_nil) (by show 3 ≤ 100000; decide)) fun v r0 H4 H5 e4 ⟨Rw', ms, hv, hRN, hR4, h3m, h63m, _⟩ hr0 e5 hr5 => ?_
      subst hv
      have hR5 := e5 _ _ hR4
      have e35 := e4.trans e5
      have hns : (ns0.map V.int).take 60 = (ns0.take 60).map V.int := by rw [List.map_take]
      have hz : (ns0.take 60).length ≤ 60 := by
        rw [List.length_take]
        omega
      have hcb' : ∀ j, ((ns0.take 60).getD j 0).natAbs < 2 ^ 1048577 := fun j => by
        by_cases hj : j < (ns0.take 60).length
        · exact hb0 _ (List.mem_of_mem_take (Fz.getD_mem hj))
        · rw [List.getD_eq_getElem?_getD, List.getElem?_eq_none (by omega)]
          exact Nat.pow_pos (by decide)
      have hsl : EvL (tSl (rSlL K) (tVar 0) tNoPart (tPart (tC (.int 60)))) [some (.ref a0), some (.int far), some (.ref d), v3, some (.ref Rw'), some (.ref r0), none, none, none, none, none, none, none, none, none, none] H5 ((ns0.take 60).map V.int) := by
        rw [← hns]
        exact el_take (c := 60) (ev_var rfl) (ex_l (e3.trans e35) hs0) ev_c rfl
      generalize ns0.take 60 = ns at hns hz hcb' hsl
      refine q_forEN hsl (fun p i σ' H' => ∃ (v3 v6 : Option V) (r : Addr) (rows : List Int) (t : Tr), σ' = [some (.ref a0), some (.int far), some (.ref d), v3, some (.ref Rw'), some (.ref r), v6, none, none, none, none, none, none, none, none, none] ∧ Ex H5 H' ∧ H' p = some (.lst (ns.map V.int)) ∧ H' r = some (.lst (rows.map V.int)) ∧
          rows.length = 3 + i ∧ 2 ≤ sz t ∧ Row rows t) (fun p H6 hp e6 h6 => ⟨_, none, r0, [1, 1, 1], nd lf lf, rfl, e6, h6, e6 _ _ hr5, rfl, by decide, row_two⟩) (fun p i σ' H' _ ⟨_, _, _, _, _, _, _, h, _⟩ => sq_of h) ?_ ?_
      · rintro p i x σ' H' H'' hx ⟨v3', v6, r, rows, t, rfl, e6, hp6, h6, hlen, ht2, hrow⟩ e7
        obtain ⟨n, hn, rfl⟩ := ints_get hx
        have hi : i < ns.length := (List.getElem?_eq_some_iff.mp hn).1
        have hgn : ns.getD i 0 = n := by
          rw [List.getD_eq_getElem?_getD, hn]
          rfl
        have h7 := e7 _ _ h6
        generalize hcc : (valueV n i 400000).natAbs % rows.length = cc
        have hcl : cc < rows.length := by
          rw [← hcc]
          exact Nat.mod_lt _ (by omega)
        refine s_asgL (el_call (ea_cons (ev_var rfl) (ea_cons (ev_is (ev_op (ev_abs (ev_call (ea_cons (ev_var rfl) (ea_cons (ev_var rfl) (ea_cons ev_c ea_nil))) (use_value (m := 400000) (by rw [← hgn]; exact hcb' i) (by omega) (by decide) (by decide)))) (ev_is (ev_len (ev_var rfl) (sq_of h7)) (by rw [List.length_map])) (rv_mod (by omega))) (by rw [fmod_abs (by omega), hcc])) ea_nil)) (use_grown (sq_of h7) hcl (by omega))) fun p' H8 hp e8 h8 => ?_
        refine ⟨_, _, p', _, insA t (cc + 1), rfl, (e6.trans e7).trans e8, e8 _ _ (e7 _ _ hp6), h8, by rw [growL_length]; omega, by rw [sz_insA]; omega, row_grown (by omega) hcl hrow⟩
      · rintro p σ' H6 ⟨v3', v6, r, rows, t, rfl, e6, hp6, h6, hlen, ht2, hrow⟩
        rw [List.length_map] at hlen
        have hR6 := e6 _ _ hR5
        refine q_parLX (P := fun v H' => (cannot (fin rows).nums = true ∧ v = V.non) ∨ (cannot (fin rows).nums = false ∧ ∃ p vs, v = V.ref p ∧ H' p = some (.lst vs) ∧ Prs K H' vs (srt (fin rows).cuts))) (el_list (ev_var rfl) (sq_of hR6)) (fun Hx ex => (evx_call (ea_cons (ev_var rfl) ea_nil) (use_reduced (K := K) (ns := rows) (ex _ _ h6) (by omega) (by omega))).imp fun v H2 _ h => h.imp id fun ⟨g0, p, vs, g1, _, g2, g3⟩ => ⟨g0, p, vs, g1, g2, g3⟩) fun kp v H7 H8 hkp e7 hk7 e8 hred => ?_
        have hcan := fin_row ht2 hrow
        rcases hred with ⟨h, _⟩ | ⟨_, L, xs, hv, hL8, hp8⟩
        · rw [hcan] at h
          cases h
        subst hv
        have hperm : (srt (fin rows).cuts).Perm ((cuts t).map ip) := (srt_perm _).trans (fin_perm ht2 hrow)
        generalize srt (fin rows).cuts = ps at hp8 hperm
        have hcut : isCutting (rows.length : Int) ps = true := by
          rw [hrow.1]
          exact tree_cutting ht2 hperm
        have hcnt : countsOf rows.length ps = rows := tree_counts ht2 hperm hrow
        have hpl : rows.length = ps.length + 3 := by
          have h1 := hperm.length_eq
          rw [List.length_map] at h1
          have h2 := cuts_len ht2
          have h3 := hrow.1
          omega
        have e68 := e7.trans e8
        have e38 : Ex H3 H8 := (e35.trans e6).trans e68
        have eA : Ex H H8 := e3.trans e38
        have hR8 := e68 _ _ hR6
        have hO8 := e68 _ _ h6
        have hK8 := e8 _ _ hk7
        have hdue8 := due_exn (exn_of e38) hdue
        have hT8 := hT0.ext eA
        have two : ∀ {n : Nat}, n ≤ 10 → n ≤ 100000 := fun h => by omega
        refine q_asgX (al_lst (F := RowB K) (m := 13) kRowB (aa_cons kRowB (row_no ev_c fun _ => isv_ty (.base .non) (by decide +kernel)) <| aa_cons kRowB (row_tup (xs := []) (eu_tup ea_nil (by decide))) <| aa_cons kRowB (row_tup (eu_tup (ea_cons ev_c (ea_cons ev_c (ea_cons ev_c ea_nil))) (two (by show 3 ≤ 10; decide)))) <| aa_cons kRowB (row_no ev_c fun _ => isv_ty (.base (.str _)) (by decide +kernel)) <|
          aa_cons kRowB row_dict <| aa_cons kRowB (row_no ev_c fun _ => isv_ty (.base (.int _)) (by decide +kernel)) <| aa_cons kRowB (row_short (xs := []) (el_lst ea_nil (by decide)) (by decide)) <| aa_cons kRowB (row_short (el_lst (ea_cons ev_c ea_nil) (two (by show 1 ≤ 10; decide))) (by show 1 < 3; decide)) <|
          aa_cons kRowB (row_short (el_lst (ea_cons ev_c (ea_cons ev_c ea_nil)) (two (by show 2 ≤ 10; decide))) (by show 2 < 3; decide)) <|
          aa_cons kRowB (row_bad (bs := [false, true, true]) (el_lst (ea_cons ev_c (ea_cons ev_c (ea_cons ev_c ea_nil))) (two (by show 3 ≤ 10; decide))) (fun _ => .cons whole_non (.cons (whole_int _) (.cons (whole_int _) .nil))) (by show 3 ≤ 1000; decide) rfl) <|
          aa_cons kRowB (row_bad (bs := [false, true, true]) (el_lst (ea_cons ev_c (ea_cons ev_c (ea_cons ev_c ea_nil))) (two (by show 3 ≤ 10; decide))) (fun _ => .cons (whole_str _) (.cons (whole_int _) (.cons (whole_int _) .nil))) (by show 3 ≤ 1000; decide) rfl) <|
          aa_cons kRowB (row_bad (bs := [true, false, true]) (el_lst (ea_cons ev_c (ea_cons ev_c (ea_cons ev_c ea_nil))) (two (by show 3 ≤ 10; decide))) (fun _ => .cons (whole_int _) (.cons (whole_bl _) (.cons (whole_int _) .nil))) (by show 3 ≤ 1000; decide) rfl) <|
          aa_cons kRowB row_nest aa_nil) (by decide)) fun v H9 e9 ⟨l, ys, hv, hlN, hl, hlen9, hF9⟩ => ?_
        subst hv
        refine q_forC (m := ms.length) (c := 1 + ms.length / 6) (j := 10) (ea_cons ev_c (ea_cons (ev_is (ev_len (ev_var rfl) (sq_of (e9 _ _ hR8))) (by rw [List.length_map])) (ea_cons (ev_is (ev_op ev_c (ev_op (ev_is (w := .int (ms.length : Int)) (ev_len (ev_var rfl) (sq_of (e9 _ _ hR8))) (by rw [List.length_map])) ev_c (rv_I ⟨by decide, by decide⟩)) rv_I0) (by rfl)) ea_nil))) (by omega) (by omega) (by omega)
          (fun i σ' H' => ∃ (ys : List V) (v10 : Option V), σ' = [some (.ref a0), some (.int far), some (.ref d), v3', some (.ref Rw'), some (.ref r), v6, some (.ref kp), some (.ref L), some (.ref l), v10, none, none, none, none, none] ∧ Ex H8 H' ∧ H' l = some (.lst ys) ∧ ys.length ≤ 13 + i ∧ ∀ v ∈ ys, RowB K (hid H' l) v)
          (fun Hx ex => ⟨ys, none, rfl, e9.trans ex, ex _ _ hl, by omega, fun v hv => kRowB _ _ _ (exn_of (hid_mono ex)) (hF9 v hv)⟩) ?_ ?_
        · rintro i σ' H' hi ⟨ys', v10, rfl, eH, hl', hlen', hF'⟩
          have hic : i ≤ i * (1 + ms.length / 6) := Nat.le_mul_of_pos_right i (by omega)
          generalize hcc : i * (1 + ms.length / 6) = c at hi hic
          refine s_appF kRowB hl' hF' (by omega) (ev_var rfl) ?_ fun v H8 e8 hF8 => ⟨ys' ++ [v], _, rfl, Ex.mut (eH.trans e8) hlN, upd_same, by rw [List.length_append, List.length_singleton]; omega, hF8⟩
          refine EvX.imp (evx_mid (Φ := fun v H => NoW K l H v) (fun v H1 H2 e h => kNoW _ _ _ (exn_of e) h) (el_take (c := c) (ev_var rfl) (sq_of (eH _ _ hR8)) (ev_var rfl) rfl) (fun Hx ex => evx_pickN (F := NoW K l) (j := c % 7) (m := 7) kNoW (ae_cons kNoW (noW_c fun _ => whole_non) <| ae_cons kNoW (noW_c fun _ => whole_str _) <| ae_cons kNoW (noW_c fun _ => whole_bl _) <| ae_cons kNoW (noW_L (ex _ _ hl') (el_lst (ea_cons ev_c ea_nil) (two (by show 1 ≤ 10; decide)))) <| ae_cons kNoW (noW_U (ex _ _ hl') (eu_tup (ea_cons ev_c ea_nil) (two (by show 1 ≤ 10; decide)))) <| ae_cons kNoW (noW_D (ex _ _ hl')) <| ae_cons kNoW (noW_c fun _ => whole_bl _) ae_nil) (by decide)
              (ev_is (ev_op (ev_var rfl) ev_c (rv_mod (by decide))) (by rw [Int.fmod_eq_emod_of_nonneg _ (by decide)]; rfl)) (Nat.mod_lt _ (by decide)))
            (fun Hx ex => el_drop (c := c + 1) (ev_var rfl) (sq_of ((eH.trans ex) _ _ hR8)) (ev_op (ev_var rfl) ev_c rv_I0) rfl) (by rw [List.length_take, List.length_drop, List.length_map]; omega)) fun y H8 ex ⟨p, v, hy, hn8, hp8, hm8⟩ => ?_
          subst hy
          exact rowb_mid (l := l) (ex _ _ hl') hn8 ex hl' hp8 (by omega) hm8
        rintro σ' H10 ⟨ys', v10, rfl, e10, hl10, hlen10, hF10⟩
        have hrn := rn_le (m := ms.length) (c := 1 + ms.length / 6)
        have hT10 := hT8.ext e10
        have x10 := exn_of e10
        refine q_forRgT (T := T) (n := 4) (j := 11) (ea_cons ev_c ea_nil) (by decide) hT10 (fun σ' H' => ∃ v11, σ' = [some (.ref a0), some (.int far), some (.ref d), v3', some (.ref Rw'), some (.ref r), v6, some (.ref kp), some (.ref L), some (.ref l), v10, v11, none, none, none, none]) (fun Hx ex Tx => ⟨_, rfl⟩) ?_ ?_
        · rintro Bh i σ' H' hB' hi eB T' ⟨v11, rfl⟩
          have hx := hB'.trans eB
          exact s_ifN (T := T) (b := false) (nt_is (nt_not (nt_B (nv_allF (F := RowB K) (K := K) (j := 15) (ws := [15]) kRowB (ev_var rfl) (exn_lst hx hl10) (by omega) (fun v hv => kRowB _ _ _ hx (al_get kRowB (hF10 v hv))) (fun x => rfl) T' (fun x Hy ey Ty hxb => nv_toldEq (j := 0) (ea_cons ev_c (ea_cons (ev_var rfl) (ea_cons (ev_var rfl) ea_nil))) (by decide) hW (fun Hz ez Tz Q' E' hE => ⟨i, x, rfl, rowb_exn ez hxb, Tz, hE⟩) (due_exn ((x10.trans hx).trans ey) hdue8) rfl Ty)))) rfl) (fun z => nomatch z) fun _ H2 e2 T2 => ⟨eB.trans e2, T2, _, rfl⟩
        rintro σ' H11 e11 T11 ⟨v11, rfl⟩
        have x11 := x10.trans e11
        have hR11 := exn_lst x11 hR8
        have hc_ : ∀ {c : Int} {n : Nat} (Hx : Hp), ¬ (0 ≤ c ∧ c < (n : Int)) → CornF K n Hx (.int c) := fun {c n} Hx h => .inr ⟨c, rfl, h⟩
        have hlR : ∀ {σ : L2.St} {Hx : Hp} {te : TE}, Ex H11 Hx → Ev te σ Hx (.ref Rw') → Ev (tCB (rLenS K) (tCons te tNil)) σ Hx (.int (ms.length : Int)) := fun {σ Hx te} ex h => ev_is (ev_len h (sq_of (ex _ _ hR11))) (by rw [List.length_map])
        refine q_forFT (F := CornF K ms.length) (K := K) (T := T) (j := 12) (m := 9) kCorn (aa_cons kCorn (fx ev_c fun _ _ => .inl whole_non) <| aa_cons kCorn (fx ev_c fun _ _ => .inl (whole_str _)) <| aa_cons kCorn (fx ev_c fun _ _ => .inl (whole_bl _)) <| aa_cons kCorn (fx ev_c fun _ _ => .inl (whole_bl _)) <|
          aa_cons kCorn (gx_L (xs := [.int 0]) (el_lst (ea_cons ev_c ea_nil) (two (by show 1 ≤ 10; decide))) fun H1 t h => .inl (whole_lst (.base (.lst h)))) <| aa_cons kCorn (fx (ev_un ev_c ru_neg) fun Hx _ => hc_ (c := -1) Hx (by omega)) <| aa_cons kCorn (fx (ev_op (ev_un ev_c ru_neg) (ev_var rfl) rv_I0) fun Hx _ => hc_ (c := -1 - far) Hx (by omega)) <|
          aa_cons kCorn (fx (hlR (Ex.refl _) (ev_var rfl)) fun Hx _ => hc_ Hx (by omega)) <| aa_cons kCorn (fx (ev_op (hlR (Ex.refl _) (ev_var rfl)) (ev_var rfl) rv_I0) fun Hx _ => hc_ (c := (ms.length : Int) + far) Hx (by omega)) aa_nil) (by decide) T11 (fun σ' H' => ∃ v11 v12, σ' = [some (.ref a0), some (.int far), some (.ref d), v3', some (.ref Rw'), some (.ref r), v6, some (.ref kp), some (.ref L), some (.ref l), v10, v11, v12, none, none, none]) (fun Hx ex Tx => ⟨_, _, rfl⟩) ?_ ?_
        · rintro Bh v σ' H' hB' hv eB T' ⟨v11, v12, rfl⟩
          refine s_forFT (F := IntF) (K := K) (T := T) (j := 11) (m := 2) kInt (aa_cons kInt (fx ev_c fun _ _ => ⟨0, rfl⟩) <| aa_cons kInt (fx ev_c fun _ _ => ⟨1, rfl⟩) aa_nil) (by decide) T' (fun σ' H' => ∃ v11, σ' = [some (.ref a0), some (.int far), some (.ref d), v3', some (.ref Rw'), some (.ref r), v6, some (.ref kp), some (.ref L), some (.ref l), v10, v11, some v, none, none, none]) (fun Hx ex Tx => ⟨_, rfl⟩) ?_ ?_
          · rintro Bh2 v2 σ' H2 hB2 ⟨dd, rfl⟩ eB2 T2 ⟨v11, rfl⟩
            have hx := ((x11.trans hB').trans eB).trans (hB2.trans eB2)
            have hvB := kCorn _ _ _ (hB2.trans eB2) hv
            refine s_ifN (T := T) (b := false) (nt_test (nv_toldNeX (x := .ref Rw') (Y := fun y H2 => ∃ t, y = .ref t ∧ H2 t = some (.tup [.int dd, v])) (j := 1) (fun H1 e Q q => ⟨_, rfl, (eu_tup (ea_cons (ev_var (i := 11) rfl) (ea_cons (ev_var (i := 12) rfl) ea_nil)) (two (by show 2 ≤ 10; decide))) H1 e _ fun t H3 _ e3 h3 => q _ H3 e3 ⟨.ref t, rfl, t, rfl, h3⟩⟩) (by decide) hK (fun y Hz ez Tz ⟨t, hy, ht⟩ Q' E' hE => ⟨Rw', t, ms, dd, v, by rw [hy], exn_lst (hx.trans ez) hR8, h3m, by omega, ht, cornb_exn ez hvB, Tz, hE⟩) (due_exn hx hdue8) rfl T2)) (fun z => nomatch z) fun _ H3 e3 T3 => ⟨eB2.trans e3, T3, _, rfl⟩
          · rintro σ' H2 e2 T2 ⟨v11, rfl⟩
            exact ⟨eB.trans e2, T2, _, _, rfl⟩
        rintro σ' H12 e12 T12 ⟨v11', v12, rfl⟩
        have x12 := x11.trans e12
        refine q_forFT (F := CornF K 1001) (K := K) (T := T) (j := 13) (m := 9) kCorn (aa_cons kCorn (fx ev_c fun _ _ => .inl whole_non) <| aa_cons kCorn (fx ev_c fun _ _ => .inl (whole_str _)) <| aa_cons kCorn (fx ev_c fun _ _ => .inl (whole_bl _)) <| aa_cons kCorn (fx ev_c fun _ _ => .inl (whole_bl _)) <|
          aa_cons kCorn (gx_L (xs := [.int 0]) (el_lst (ea_cons ev_c ea_nil) (two (by show 1 ≤ 10; decide))) fun H1 t h => .inl (whole_lst (.base (.lst h)))) <| aa_cons kCorn (fx (ev_un ev_c ru_neg) fun Hx _ => hc_ (c := -1) Hx (by omega)) <| aa_cons kCorn (fx (ev_op (ev_un ev_c ru_neg) (ev_var rfl) rv_I0) fun Hx _ => hc_ (c := -1 - far) Hx (by omega)) <|
          aa_cons kCorn (fx ev_c fun Hx _ => hc_ (c := 1001) Hx (by omega)) <| aa_cons kCorn (fx (ev_op ev_c (ev_var rfl) rv_I0) fun Hx _ => hc_ (c := 1001 + far) Hx (by omega)) aa_nil) (by decide) T12 (fun σ' H' => ∃ v13, σ' = [some (.ref a0), some (.int far), some (.ref d), v3', some (.ref Rw'), some (.ref r), v6, some (.ref kp), some (.ref L), some (.ref l), v10, v11', v12, v13, none, none]) (fun Hx ex Tx => ⟨_, rfl⟩) ?_ ?_
        · rintro Bh v σ' H' hB' hv eB T' ⟨v13, rfl⟩
          have hx := (x12.trans hB').trans eB
          exact s_ifN (T := T) (b := false) (nt_test (nv_toldNe (j := 1) (ea_cons ev_c (ea_cons (ev_var rfl) (ea_cons (ev_var rfl) ea_nil))) (by decide) hS (fun Hz ez Tz Q' E' hE => ⟨Rw', ms, v, rfl, exn_lst (hx.trans ez) hR8, h3m, by omega, cornb_exn ez hv, Tz, hE⟩) (due_exn hx hdue8) rfl T')) (fun z => nomatch z) fun _ H2 e2 T2 => ⟨eB.trans e2, T2, _, rfl⟩
        rintro σ' H13 e13 T13 ⟨v13, rfl⟩
        have x13 := x12.trans e13
        have hL13 := exn_lst x13 hL8
        have hp13 := exn_prs x13 hp8
        refine q_asgL (el_list (ev_var rfl) (sq_of hL13)) fun hn H14 _ e14 h14 => ?_
        have x14 := x13.trans (exn_of e14)
        have T14 := T13.ext e14
        have hp14 := hp13.mono e14
        refine q_whenN (T := T) (b := false) (nt_is (nt_or (nt_not (nt_B (nv_call (v := .bl true) (na_of (ea_cons (ev_var rfl) (ea_cons (ev_var rfl) (ea_cons (ev_var rfl) (ea_cons (ev_var rfl) ea_nil)))) T14) fun H15 e15 T15 Q' q' E' => ⟨r, hn, d, b, rows, xs, ps, far, rfl, exn_lst (x14.trans e15) hO8, exn_lst e15 h14, exn_prs e15 hp14, hpl, by omega, hcut, due_exn (x14.trans e15) hdue8, hfar, T15, q'⟩))) fun _ H15 e15 T15 =>
          nt_of (et_or (et_neP2 (ev_var rfl) (ev_var rfl) (sq_of (exn_lst e15 h14)) (sq_of (exn_lst (x14.trans e15) hL8)) (exn_prs e15 hp14) (exn_prs (x14.trans e15) hp8)) fun _ => et_neI2 (ev_var rfl) (ev_var rfl) (sq_of (exn_lst (x14.trans e15) hR8)) (sq_of (exn_lst (x14.trans e15) hK8))) T15) (by simp)) (fun z => nomatch z) fun _ H16 e16 T16 => ?_
        have x16 := x14.trans e16
        refine q_whenN (T := T) (b := false) (nt_is (nt_not (nt_B (nv_call (v := .bl true) (na_of (ea_cons (ev_var rfl) (ea_cons (ev_var rfl) ea_nil)) T16) fun H15 e15 T15 Q' q' E' => ⟨d, b, far, rfl, due_exn (x16.trans e15) hdue8, hfar, T15, q'⟩))) rfl) (fun z => nomatch z) fun _ H17 e17 T17 => ?_
        have x17 := x16.trans e17
        have hR17 := exn_lst x17 hR8
        refine s_retN (nv_is (nv_andV (a := true) (b := true) (nv_of (ev_is (ev_eqI (i := ((growL ms (ms.length - 1)).length : Int)) (j := (ms.length : Int) + 1) (ev_is (ev_lenN (el_call (vs := [.ref Rw', .int ((ms.length - 1 : Nat) : Int)]) (ea_cons (ev_var rfl) (ea_cons (ev_is (ev_op (ev_is (w := .int (ms.length : Int)) (ev_len (ev_var rfl) (sq_of hR17)) (by rw [List.length_map])) ev_c rv_I0) (by congr 1; omega)) ea_nil)) (use_growQ (K := K) hR17 h3m (by omega) (by omega)))) (by rw [List.length_map])) (ev_op (ev_is (w := .int (ms.length : Int)) (ev_len (ev_var rfl) (sq_of hR17)) (by rw [List.length_map])) ev_c rv_I0)) (by
            rw [growL_length]
            congr 1
            exact decide_eq_true (by omega))) T17) fun _ H18 e18 T18 => nv_is (nv_opXV (P := fun v H2 => ∃ q, v = V.ref q ∧ H2 q = some (.lst (rows.map V.int))) (z := .bl (decide (rows = rows))) (nx_call (na_of (ea_cons (ev_is (w := .int (rows.length : Int)) (ev_len (ev_var rfl) (sq_of (exn_lst (x17.trans e18) hO8))) (by rw [List.length_map])) (ea_cons (ev_var rfl) ea_nil)) T18) fun H1 e1 T1 => (use_rowofQ (K := K) (n := rows.length) (by omega) (by omega) (exn_lst ((x17.trans e18).trans e1) hL8) (exn_prs ((x17.trans e18).trans e1) hp8) (by omega) hcut T1).imp fun v H2 ⟨q, q1, q2⟩ => ⟨q, q1, by rw [hcnt] at q2; exact q2⟩)
          (fun v H1 e1 T1 p1 => ev_var rfl) fun v H1 H2 e1 ⟨q, q1, q2⟩ e2 => by
            subst q1
            exact rv_eqD (dp_ints (sq_of (e2 _ _ q2))) (dp_ints (sq_of (e2 _ _ (exn_lst ((x17.trans e18).trans e1) hO8)))) (shaped_ints _) (shaped_ints _) (eqv_ints _ _)) (by rw [decide_eq_true rfl])) rfl) fun H19 _ _ => k H19
end
end FzW

namespace FzW
open PySem PySem.Spec PyProof.Rows L2 Evl FzL Fz Fz.Tr LamX
theorem bn_is_whole : BindA "is_whole" "is_whole" s_is_whole ["thing"] := fun _ _ _ _ _ _ us hl => match us, hl with | [_], _ => rfl
theorem bn_check_row : BindA "check_row" "check_row" s_check_row ["row"] := fun _ _ _ _ _ _ us hl => match us, hl with | [_], _ => rfl
theorem bn_check_corner : BindA "check_corner" "check_corner" s_check_corner ["row", "corner"] := fun _ _ _ _ _ _ us hl => match us, hl with | [_, _], _ => rfl
theorem bn_between : BindA "between" "between" s_between ["row", "corner", "steps"] := fun _ _ _ _ _ _ us hl => match us, hl with | [_, _, _], _ => rfl
theorem bn_table : BindA "table" "table" s_table ["row"] := fun _ _ _ _ _ _ us hl => match us, hl with | [_], _ => rfl
theorem bn_two_cross : BindA "two_cross" "two_cross" s_two_cross ["cuts"] := fun _ _ _ _ _ _ us hl => match us, hl with | [_], _ => rfl
theorem bn_is_cut : BindA "is_cut" "is_cut" s_is_cut ["corners", "thing"] := fun _ _ _ _ _ _ us hl => match us, hl with | [_, _], _ => rfl
theorem bn_is_cutting : BindA "is_cutting" "is_cutting" s_is_cutting ["corners", "cuts"] := fun _ _ _ _ _ _ us hl => match us, hl with | [_, _], _ => rfl
theorem bn_counts_of : BindA "counts_of" "counts_of" s_counts_of ["corners", "cuts"] := fun _ _ _ _ _ _ us hl => match us, hl with | [_, _], _ => rfl
theorem bn_check_cuts : BindA "check_cuts" "check_cuts" s_check_cuts ["corners", "cuts"] := fun _ _ _ _ _ _ us hl => match us, hl with | [_, _], _ => rfl
theorem bn_row_of : BindA "row_of" "row_of" s_row_of ["corners", "cuts"] := fun _ _ _ _ _ _ us hl => match us, hl with | [_, _], _ => rfl
theorem bn_exchanged : BindA "exchanged" "exchanged" s_exchanged ["corners", "cuts", "cut"] := fun _ _ _ _ _ _ us hl => match us, hl with | [_, _, _], _ => rfl
theorem bn_grown : BindA "grown" "grown" s_grown ["row", "corner"] := fun _ _ _ _ _ _ us hl => match us, hl with | [_, _], _ => rfl
theorem bn_cut : BindA "cut" "cut" s_cut ["row"] := fun _ _ _ _ _ _ us hl => match us, hl with | [_], _ => rfl
theorem bn_l_cell_at : BindA "_law_cell_at" "_law_cell_at" s_cell_at ["_law_script", "_law_k"] := fun _ _ _ _ _ _ us hl => match us, hl with | [_, _], _ => rfl
theorem bn_l_draw : BindA "_law_draw" "_law_draw" s_draw ["_law_cell", "_law_k", "_law_many"] := fun _ _ _ _ _ _ us hl => match us, hl with | [_, _, _], _ => rfl
theorem bn_l_value : BindA "_law_value" "_law_value" s_value ["_law_cell", "_law_k", "_law_most"] := fun _ _ _ _ _ _ us hl => match us, hl with | [_, _, _], _ => rfl
theorem bn_l_grown : BindA "_law_grown" "_law_grown" s_grown_ ["_law_row_here", "_law_corner"] := fun _ _ _ _ _ _ us hl => match us, hl with | [_, _], _ => rfl
theorem bn_l_row : BindA "_law_row" "_law_row" s_row_ ["_law_script"] := fun _ _ _ _ _ _ us hl => match us, hl with | [_], _ => rfl
theorem bn_l_reduced : BindA "_law_reduced" "_law_reduced" s_reduced ["_law_row_here"] := fun _ _ _ _ _ _ us hl => match us, hl with | [_], _ => rfl
theorem bn_l_kinds : BindA "_law_kinds" "_law_kinds" s_kinds ["_law_error"] := fun _ _ _ _ _ _ us hl => match us, hl with | [_], _ => rfl
theorem bn_l_with_row : BindA "_law_with_row" "_law_with_row" s_with_row ["_law_door", "_law_row_here"] := fun _ _ _ _ _ _ us hl => match us, hl with | [_, _], _ => rfl
theorem bn_l_with_corner : BindA "_law_with_corner" "_law_with_corner" s_with_corner ["_law_row_here", "_law_pair"] := fun _ _ _ _ _ _ us hl => match us, hl with | [_, _], _ => rfl
theorem bn_l_with_steps : BindA "_law_with_steps" "_law_with_steps" s_with_steps ["_law_row_here", "_law_steps"] := fun _ _ _ _ _ _ us hl => match us, hl with | [_, _], _ => rfl
theorem bn_l_with_cuts : BindA "_law_with_cuts" "_law_with_cuts" s_with_cuts ["_law_corners", "_law_cuts"] := fun _ _ _ _ _ _ us hl => match us, hl with | [_, _], _ => rfl
theorem bn_l_with_both : BindA "_law_with_both" "_law_with_both" s_with_both ["_law_corners", "_law_cuts"] := fun _ _ _ _ _ _ us hl => match us, hl with | [_, _], _ => rfl
theorem bn_l_with_cut : BindA "_law_with_cut" "_law_with_cut" s_with_cut ["_law_cuts", "_law_one"] := fun _ _ _ _ _ _ us hl => match us, hl with | [_, _], _ => rfl
theorem bn_l_told : BindA "_law_told" "_law_told" s_told ["_law_ask", "_law_one", "_law_other"] := fun _ _ _ _ _ _ us hl => match us, hl with | [_, _, _], _ => rfl
theorem bn_l_crossing_right : BindA "_law_crossing_right" "_law_crossing_right" s_crossing ["_law_due", "_law_far"] := fun _ _ _ _ _ _ us hl => match us, hl with | [_, _], _ => rfl
theorem bn_l_cuts_right : BindA "_law_cuts_right" "_law_cuts_right" s_cuts_right ["_law_row_here", "_law_cuts", "_law_due", "_law_far"] := fun _ _ _ _ _ _ us hl => match us, hl with | [_, _, _, _], _ => rfl
theorem bn_law : BindA "law" "law" s_law ["_law_script"] := fun _ _ _ _ _ _ us hl => match us, hl with | [_], _ => rfl
theorem all_mk {l : PySem.W.OpenLaw} {w : World} {K : PySem.W.Frag} {h : Heap} {mg : Str → Option Value} {fa f0 f1 f2 f3 f4 f5 f6 f7 f8 f9 f10 f11 f12 f13 f14 f15 f16 f17 f18 f19 f20 f21 f22 f23 f24 f25 f26 f27 f28 f29 f30 c0 P0 : Addr} {oc0 kV0 dc0 pm0 ct0 cd0 oc1 kV1 dc1 pm1 ct1 cd1 oc2 kV2 dc2 pm2 ct2 cd2 oc3 kV3 dc3 pm3 ct3 cd3 oc4 kV4 dc4 pm4 ct4 cd4 oc5 kV5 dc5 pm5 ct5 oc6 kV6 dc6 pm6 ct6 cd6 oc7 kV7 dc7 pm7 ct7 cd7 oc8 kV8 dc8 pm8 ct8 cd8 oc9 kV9 dc9 pm9 ct9 cd9 oc10 kV10 dc10 pm10 ct10 cd10 oc11 kV11 dc11 pm11 ct11 cd11 oc12 kV12 dc12 pm12 ct12 cd12 oc13 kV13 dc13 pm13 ct13 cd13 oc14 kV14 dc14 pm14 ct14 cd14 oc15 kV15 dc15 pm15 ct15 cd15 oc16 kV16 dc16 pm16 ct16 cd16 oc17 kV17 dc17 pm17 ct17 cd17 oc18 kV18 dc18 pm18 ct18 cd18 oc19 kV19 dc19 pm19 ct19 cd19 oc20 kV20 dc20 pm20 ct20 cd20 oc21 kV21 dc21 pm21 ct21 cd21 oc22 kV22 dc22 pm22 ct22 cd22 oc23 kV23 dc23 pm23 ct23 cd23 oc24 kV24 dc24 pm24 ct24 cd24 oc25 kV25 dc25 pm25 ct25 cd25 oc26 kV26 dc26 pm26 ct26 cd26 oc27 kV27 dc27 pm27 ct27 cd27 oc28 kV28 dc28 pm28 ct28 cd28 oc29 kV29 dc29 pm29 ct29 cd29 oc30 kV30 dc30 pm30 ct30 cd30 : Value} {od0 an0 od1 an1 od2 an2 od3 an3 od4 an4 od5 an5 od6 an6 od7 an7 od8 an8 od9 an9 od10 an10 od11 an11 od12 an12 od13 an13 od14 an14 od15 an15 od16 an16 od17 an17 od18 an18 od19 an19 od20 an20 od21 an21 od22 an22 od23 an23 od24 an24 od25 an25 od26 an26 od27 an27 od28 an28 od29 an29 od30 an30 : Option Addr} {sl0 sl1 sl2 sl3 sl4 sl5 sl6 sl7 sl8 sl9 sl10 sl11 sl12 sl13 sl14 sl15 sl16 sl17 sl18 sl19 sl20 sl21 sl22 sl23 sl24 sl25 sl26 sl27 sl28 sl29 sl30 : Array (Option Value)} {tkF : Tok} {CE CR CCo CU CT : Addr} (X : K.In h) (G : h.Ns mainGlobals mg) (hfa : mg "law" = some (.ref fa))
    (t0 : h.get? P0 = some (PySem.W.tabObj #[])) (n0 : K.lookup P0 = none)
    (a0 : PySem.W.nsIn K mainGlobals "is_whole" = some (some (.ref f0))) (l0 : K.lookup f0 = some ⟨oc0, od0, .func (PySem.W.fnOf "is_whole" "is_whole" (defArgs s_is_whole) (defBody s_is_whole) (defScope s_is_whole) .none kV0 dc0 pm0 an0 cd0 ct0), sl0⟩) (q0 : PySem.W.codeIn K cd0 "is_whole" = true) (k0 : PySem.W.keepIn K (.ref f0) = true)
    (a1 : PySem.W.nsIn K mainGlobals "check_row" = some (some (.ref f1))) (l1 : K.lookup f1 = some ⟨oc1, od1, .func (PySem.W.fnOf "check_row" "check_row" (defArgs s_check_row) (defBody s_check_row) (defScope s_check_row) .none kV1 dc1 pm1 an1 cd1 ct1), sl1⟩) (q1 : PySem.W.codeIn K cd1 "check_row" = true) (k1 : PySem.W.keepIn K (.ref f1) = true)
    (a2 : PySem.W.nsIn K mainGlobals "check_corner" = some (some (.ref f2))) (l2 : K.lookup f2 = some ⟨oc2, od2, .func (PySem.W.fnOf "check_corner" "check_corner" (defArgs s_check_corner) (defBody s_check_corner) (defScope s_check_corner) .none kV2 dc2 pm2 an2 cd2 ct2), sl2⟩) (q2 : PySem.W.codeIn K cd2 "check_corner" = true) (k2 : PySem.W.keepIn K (.ref f2) = true)
    (a3 : PySem.W.nsIn K mainGlobals "between" = some (some (.ref f3))) (l3 : K.lookup f3 = some ⟨oc3, od3, .func (PySem.W.fnOf "between" "between" (defArgs s_between) (defBody s_between) (defScope s_between) .none kV3 dc3 pm3 an3 cd3 ct3), sl3⟩) (q3 : PySem.W.codeIn K cd3 "between" = true) (k3 : PySem.W.keepIn K (.ref f3) = true)
    (a4 : PySem.W.nsIn K mainGlobals "table" = some (some (.ref f4))) (l4 : K.lookup f4 = some ⟨oc4, od4, .func (PySem.W.fnOf "table" "table" (defArgs s_table) (defBody s_table) (defScope s_table) .none kV4 dc4 pm4 an4 cd4 ct4), sl4⟩) (q4 : PySem.W.codeIn K cd4 "table" = true) (k4 : PySem.W.keepIn K (.ref f4) = true)
    (a5 : PySem.W.nsIn K mainGlobals "two_cross" = some (some (.ref f5))) (l5 : K.lookup f5 = some ⟨oc5, od5, .func (PySem.W.fnOf "two_cross" "two_cross" (defArgs s_two_cross) (defBody s_two_cross) (defScope s_two_cross) .none kV5 dc5 pm5 an5 (.ref c0) ct5), sl5⟩) (q5 : PySem.W.codeIn K (.ref c0) "two_cross" = true) (k5 : PySem.W.keepIn K (.ref f5) = true)
    (a6 : PySem.W.nsIn K mainGlobals "is_cut" = some (some (.ref f6))) (l6 : K.lookup f6 = some ⟨oc6, od6, .func (PySem.W.fnOf "is_cut" "is_cut" (defArgs s_is_cut) (defBody s_is_cut) (defScope s_is_cut) .none kV6 dc6 pm6 an6 cd6 ct6), sl6⟩) (q6 : PySem.W.codeIn K cd6 "is_cut" = true) (k6 : PySem.W.keepIn K (.ref f6) = true)
    (a7 : PySem.W.nsIn K mainGlobals "is_cutting" = some (some (.ref f7))) (l7 : K.lookup f7 = some ⟨oc7, od7, .func (PySem.W.fnOf "is_cutting" "is_cutting" (defArgs s_is_cutting) (defBody s_is_cutting) (defScope s_is_cutting) .none kV7 dc7 pm7 an7 cd7 ct7), sl7⟩) (q7 : PySem.W.codeIn K cd7 "is_cutting" = true) (k7 : PySem.W.keepIn K (.ref f7) = true)
    (a8 : PySem.W.nsIn K mainGlobals "counts_of" = some (some (.ref f8))) (l8 : K.lookup f8 = some ⟨oc8, od8, .func (PySem.W.fnOf "counts_of" "counts_of" (defArgs s_counts_of) (defBody s_counts_of) (defScope s_counts_of) .none kV8 dc8 pm8 an8 cd8 ct8), sl8⟩) (q8 : PySem.W.codeIn K cd8 "counts_of" = true) (k8 : PySem.W.keepIn K (.ref f8) = true)
    (a9 : PySem.W.nsIn K mainGlobals "check_cuts" = some (some (.ref f9))) (l9 : K.lookup f9 = some ⟨oc9, od9, .func (PySem.W.fnOf "check_cuts" "check_cuts" (defArgs s_check_cuts) (defBody s_check_cuts) (defScope s_check_cuts) .none kV9 dc9 pm9 an9 cd9 ct9), sl9⟩) (q9 : PySem.W.codeIn K cd9 "check_cuts" = true) (k9 : PySem.W.keepIn K (.ref f9) = true)
    (a10 : PySem.W.nsIn K mainGlobals "row_of" = some (some (.ref f10))) (l10 : K.lookup f10 = some ⟨oc10, od10, .func (PySem.W.fnOf "row_of" "row_of" (defArgs s_row_of) (defBody s_row_of) (defScope s_row_of) .none kV10 dc10 pm10 an10 cd10 ct10), sl10⟩) (q10 : PySem.W.codeIn K cd10 "row_of" = true) (k10 : PySem.W.keepIn K (.ref f10) = true)
    (a11 : PySem.W.nsIn K mainGlobals "exchanged" = some (some (.ref f11))) (l11 : K.lookup f11 = some ⟨oc11, od11, .func (PySem.W.fnOf "exchanged" "exchanged" (defArgs s_exchanged) (defBody s_exchanged) (defScope s_exchanged) .none kV11 dc11 pm11 an11 cd11 ct11), sl11⟩) (q11 : PySem.W.codeIn K cd11 "exchanged" = true) (k11 : PySem.W.keepIn K (.ref f11) = true)
    (a12 : PySem.W.nsIn K mainGlobals "grown" = some (some (.ref f12))) (l12 : K.lookup f12 = some ⟨oc12, od12, .func (PySem.W.fnOf "grown" "grown" (defArgs s_grown) (defBody s_grown) (defScope s_grown) .none kV12 dc12 pm12 an12 cd12 ct12), sl12⟩) (q12 : PySem.W.codeIn K cd12 "grown" = true) (k12 : PySem.W.keepIn K (.ref f12) = true)
    (a13 : PySem.W.nsIn K mainGlobals "cut" = some (some (.ref f13))) (l13 : K.lookup f13 = some ⟨oc13, od13, .func (PySem.W.fnOf "cut" "cut" (defArgs s_cut) (defBody s_cut) (defScope s_cut) .none kV13 dc13 pm13 an13 cd13 ct13), sl13⟩) (q13 : PySem.W.codeIn K cd13 "cut" = true) (k13 : PySem.W.keepIn K (.ref f13) = true)
    (a14 : PySem.W.nsIn K mainGlobals "_law_cell_at" = some (some (.ref f14))) (l14 : K.lookup f14 = some ⟨oc14, od14, .func (PySem.W.fnOf "_law_cell_at" "_law_cell_at" (defArgs s_cell_at) (defBody s_cell_at) (defScope s_cell_at) .none kV14 dc14 pm14 an14 cd14 ct14), sl14⟩) (q14 : PySem.W.codeIn K cd14 "_law_cell_at" = true) (k14 : PySem.W.keepIn K (.ref f14) = true)
    (a15 : PySem.W.nsIn K mainGlobals "_law_draw" = some (some (.ref f15))) (l15 : K.lookup f15 = some ⟨oc15, od15, .func (PySem.W.fnOf "_law_draw" "_law_draw" (defArgs s_draw) (defBody s_draw) (defScope s_draw) .none kV15 dc15 pm15 an15 cd15 ct15), sl15⟩) (q15 : PySem.W.codeIn K cd15 "_law_draw" = true) (k15 : PySem.W.keepIn K (.ref f15) = true)
    (a16 : PySem.W.nsIn K mainGlobals "_law_value" = some (some (.ref f16))) (l16 : K.lookup f16 = some ⟨oc16, od16, .func (PySem.W.fnOf "_law_value" "_law_value" (defArgs s_value) (defBody s_value) (defScope s_value) .none kV16 dc16 pm16 an16 cd16 ct16), sl16⟩) (q16 : PySem.W.codeIn K cd16 "_law_value" = true) (k16 : PySem.W.keepIn K (.ref f16) = true)
    (a17 : PySem.W.nsIn K mainGlobals "_law_grown" = some (some (.ref f17))) (l17 : K.lookup f17 = some ⟨oc17, od17, .func (PySem.W.fnOf "_law_grown" "_law_grown" (defArgs s_grown_) (defBody s_grown_) (defScope s_grown_) .none kV17 dc17 pm17 an17 cd17 ct17), sl17⟩) (q17 : PySem.W.codeIn K cd17 "_law_grown" = true) (k17 : PySem.W.keepIn K (.ref f17) = true)
    (a18 : PySem.W.nsIn K mainGlobals "_law_row" = some (some (.ref f18))) (l18 : K.lookup f18 = some ⟨oc18, od18, .func (PySem.W.fnOf "_law_row" "_law_row" (defArgs s_row_) (defBody s_row_) (defScope s_row_) .none kV18 dc18 pm18 an18 cd18 ct18), sl18⟩) (q18 : PySem.W.codeIn K cd18 "_law_row" = true) (k18 : PySem.W.keepIn K (.ref f18) = true)
    (a19 : PySem.W.nsIn K mainGlobals "_law_reduced" = some (some (.ref f19))) (l19 : K.lookup f19 = some ⟨oc19, od19, .func (PySem.W.fnOf "_law_reduced" "_law_reduced" (defArgs s_reduced) (defBody s_reduced) (defScope s_reduced) .none kV19 dc19 pm19 an19 cd19 ct19), sl19⟩) (q19 : PySem.W.codeIn K cd19 "_law_reduced" = true) (k19 : PySem.W.keepIn K (.ref f19) = true)
    (a20 : PySem.W.nsIn K mainGlobals "_law_kinds" = some (some (.ref f20))) (l20 : K.lookup f20 = some ⟨oc20, od20, .func (PySem.W.fnOf "_law_kinds" "_law_kinds" (defArgs s_kinds) (defBody s_kinds) (defScope s_kinds) .none kV20 dc20 pm20 an20 cd20 ct20), sl20⟩) (q20 : PySem.W.codeIn K cd20 "_law_kinds" = true) (k20 : PySem.W.keepIn K (.ref f20) = true)
    (a21 : PySem.W.nsIn K mainGlobals "_law_with_row" = some (some (.ref f21))) (l21 : K.lookup f21 = some ⟨oc21, od21, .func (PySem.W.fnOf "_law_with_row" "_law_with_row" (defArgs s_with_row) (defBody s_with_row) (defScope s_with_row) .none kV21 dc21 pm21 an21 cd21 ct21), sl21⟩) (q21 : PySem.W.codeIn K cd21 "_law_with_row" = true) (k21 : PySem.W.keepIn K (.ref f21) = true)
    (a22 : PySem.W.nsIn K mainGlobals "_law_with_corner" = some (some (.ref f22))) (l22 : K.lookup f22 = some ⟨oc22, od22, .func (PySem.W.fnOf "_law_with_corner" "_law_with_corner" (defArgs s_with_corner) (defBody s_with_corner) (defScope s_with_corner) .none kV22 dc22 pm22 an22 cd22 ct22), sl22⟩) (q22 : PySem.W.codeIn K cd22 "_law_with_corner" = true) (k22 : PySem.W.keepIn K (.ref f22) = true)
    (a23 : PySem.W.nsIn K mainGlobals "_law_with_steps" = some (some (.ref f23))) (l23 : K.lookup f23 = some ⟨oc23, od23, .func (PySem.W.fnOf "_law_with_steps" "_law_with_steps" (defArgs s_with_steps) (defBody s_with_steps) (defScope s_with_steps) .none kV23 dc23 pm23 an23 cd23 ct23), sl23⟩) (q23 : PySem.W.codeIn K cd23 "_law_with_steps" = true) (k23 : PySem.W.keepIn K (.ref f23) = true)
    (a24 : PySem.W.nsIn K mainGlobals "_law_with_cuts" = some (some (.ref f24))) (l24 : K.lookup f24 = some ⟨oc24, od24, .func (PySem.W.fnOf "_law_with_cuts" "_law_with_cuts" (defArgs s_with_cuts) (defBody s_with_cuts) (defScope s_with_cuts) .none kV24 dc24 pm24 an24 cd24 ct24), sl24⟩) (q24 : PySem.W.codeIn K cd24 "_law_with_cuts" = true) (k24 : PySem.W.keepIn K (.ref f24) = true)
    (a25 : PySem.W.nsIn K mainGlobals "_law_with_both" = some (some (.ref f25))) (l25 : K.lookup f25 = some ⟨oc25, od25, .func (PySem.W.fnOf "_law_with_both" "_law_with_both" (defArgs s_with_both) (defBody s_with_both) (defScope s_with_both) .none kV25 dc25 pm25 an25 cd25 ct25), sl25⟩) (q25 : PySem.W.codeIn K cd25 "_law_with_both" = true) (k25 : PySem.W.keepIn K (.ref f25) = true)
    (a26 : PySem.W.nsIn K mainGlobals "_law_with_cut" = some (some (.ref f26))) (l26 : K.lookup f26 = some ⟨oc26, od26, .func (PySem.W.fnOf "_law_with_cut" "_law_with_cut" (defArgs s_with_cut) (defBody s_with_cut) (defScope s_with_cut) .none kV26 dc26 pm26 an26 cd26 ct26), sl26⟩) (q26 : PySem.W.codeIn K cd26 "_law_with_cut" = true) (k26 : PySem.W.keepIn K (.ref f26) = true)
    (a27 : PySem.W.nsIn K mainGlobals "_law_told" = some (some (.ref f27))) (l27 : K.lookup f27 = some ⟨oc27, od27, .func (PySem.W.fnOf "_law_told" "_law_told" (defArgs s_told) (defBody s_told) (defScope s_told) .none kV27 dc27 pm27 an27 cd27 ct27), sl27⟩) (q27 : PySem.W.codeIn K cd27 "_law_told" = true) (k27 : PySem.W.keepIn K (.ref f27) = true)
    (a28 : PySem.W.nsIn K mainGlobals "_law_crossing_right" = some (some (.ref f28))) (l28 : K.lookup f28 = some ⟨oc28, od28, .func (PySem.W.fnOf "_law_crossing_right" "_law_crossing_right" (defArgs s_crossing) (defBody s_crossing) (defScope s_crossing) .none kV28 dc28 pm28 an28 cd28 ct28), sl28⟩) (q28 : PySem.W.codeIn K cd28 "_law_crossing_right" = true) (k28 : PySem.W.keepIn K (.ref f28) = true)
    (a29 : PySem.W.nsIn K mainGlobals "_law_cuts_right" = some (some (.ref f29))) (l29 : K.lookup f29 = some ⟨oc29, od29, .func (PySem.W.fnOf "_law_cuts_right" "_law_cuts_right" (defArgs s_cuts_right) (defBody s_cuts_right) (defScope s_cuts_right) .none kV29 dc29 pm29 an29 cd29 ct29), sl29⟩) (q29 : PySem.W.codeIn K cd29 "_law_cuts_right" = true) (k29 : PySem.W.keepIn K (.ref f29) = true)
    (a30 : PySem.W.nsIn K mainGlobals "law" = some (some (.ref f30))) (l30 : K.lookup f30 = some ⟨oc30, od30, .func (PySem.W.fnOf "law" "law" (defArgs s_law) (defBody s_law) (defScope s_law) .none kV30 dc30 pm30 an30 cd30 ct30), sl30⟩) (q30 : PySem.W.codeIn K cd30 "law" = true) (k30 : PySem.W.keepIn K (.ref f30) = true)
    (e0 : PySem.W.codeHdIn K c0 P0 = true)
    (aF : PySem.W.nsIn K mainGlobals "FARTHEST" = some (some (.int 1000 tkF)))
    (xgE : PySem.W.nsIn K mainGlobals "RowError" = some (some (.ref CE)))
    (xvE : PySem.W.nsIn K mainGlobals "ValueError" = some none)
    (xbE : PySem.W.subIn K (.ref CE) (.type "BaseException") = some true)
    (xhE : PySem.W.hasDictIn K CE = true)
    (xtE : PySem.W.typeIn K (.ref CE) = some (.type "type"))
    (xn : PySem.W.specialIn K (.builtin "object.__class__") "__get__" = some (some (.builtin "getset_descriptor.__get__")))
    (xht : PySem.W.takesIn K (.builtin "object.__class__") = some true)
    (xgR : PySem.W.nsIn K mainGlobals "BadRow" = some (some (.ref CR)))
    (xxR : PySem.W.excIn K CR [.type "ValueError", .type "Exception", .type "BaseException", .type "object"] "ValueError.__new__" = true)
    (xkR : PySem.W.keepIn K (.ref CR) = true)
    (xbR : PySem.W.subIn K (.ref CR) (.type "BaseException") = some true)
    (xtR : PySem.W.typeIn K (.ref CR) = some (.type "type"))
    (xsR : PySem.W.subIn K (.ref CR) (.ref CE) = some true)
    (xaR : PySem.W.findIn K (.ref CR) "__getattribute__" = some (some (.builtin "BaseException.__getattribute__")))
    (xcR : PySem.W.findIn K (.ref CR) "__getattr__" = some none)
    (xhR : PySem.W.hasDictIn K CR = true)
    (xlR : PySem.W.findIn K (.ref CR) "__class__" = some (some (.builtin "object.__class__")))
    (xmR : PySem.W.mroIn K CR (.type "object") = some true)
    (xvR : PySem.W.kitOne K (.ref CR) (.type "ValueError") = some true)
    (xiRR : PySem.W.kitOne K (.ref CR) (.ref CR) = some true)
    (xiRC : PySem.W.kitOne K (.ref CR) (.ref CCo) = some false)
    (xiRU : PySem.W.kitOne K (.ref CR) (.ref CU) = some false)
    (xiRT : PySem.W.kitOne K (.ref CR) (.ref CT) = some false)
    (xgC : PySem.W.nsIn K mainGlobals "BadCorner" = some (some (.ref CCo)))
    (xxC : PySem.W.excIn K CCo [.type "ValueError", .type "Exception", .type "BaseException", .type "object"] "ValueError.__new__" = true)
    (xkC : PySem.W.keepIn K (.ref CCo) = true)
    (xbC : PySem.W.subIn K (.ref CCo) (.type "BaseException") = some true)
    (xtC : PySem.W.typeIn K (.ref CCo) = some (.type "type"))
    (xsC : PySem.W.subIn K (.ref CCo) (.ref CE) = some true)
    (xaC : PySem.W.findIn K (.ref CCo) "__getattribute__" = some (some (.builtin "BaseException.__getattribute__")))
    (xcC : PySem.W.findIn K (.ref CCo) "__getattr__" = some none)
    (xhC : PySem.W.hasDictIn K CCo = true)
    (xlC : PySem.W.findIn K (.ref CCo) "__class__" = some (some (.builtin "object.__class__")))
    (xmC : PySem.W.mroIn K CCo (.type "object") = some true)
    (xvC : PySem.W.kitOne K (.ref CCo) (.type "ValueError") = some true)
    (xiCR : PySem.W.kitOne K (.ref CCo) (.ref CR) = some false)
    (xiCC : PySem.W.kitOne K (.ref CCo) (.ref CCo) = some true)
    (xiCU : PySem.W.kitOne K (.ref CCo) (.ref CU) = some false)
    (xiCT : PySem.W.kitOne K (.ref CCo) (.ref CT) = some false)
    (xgU : PySem.W.nsIn K mainGlobals "BadCuts" = some (some (.ref CU)))
    (xxU : PySem.W.excIn K CU [.type "ValueError", .type "Exception", .type "BaseException", .type "object"] "ValueError.__new__" = true)
    (xkU : PySem.W.keepIn K (.ref CU) = true)
    (xbU : PySem.W.subIn K (.ref CU) (.type "BaseException") = some true)
    (xtU : PySem.W.typeIn K (.ref CU) = some (.type "type"))
    (xsU : PySem.W.subIn K (.ref CU) (.ref CE) = some true)
    (xaU : PySem.W.findIn K (.ref CU) "__getattribute__" = some (some (.builtin "BaseException.__getattribute__")))
    (xcU : PySem.W.findIn K (.ref CU) "__getattr__" = some none)
    (xhU : PySem.W.hasDictIn K CU = true)
    (xlU : PySem.W.findIn K (.ref CU) "__class__" = some (some (.builtin "object.__class__")))
    (xmU : PySem.W.mroIn K CU (.type "object") = some true)
    (xvU : PySem.W.kitOne K (.ref CU) (.type "ValueError") = some true)
    (xiUR : PySem.W.kitOne K (.ref CU) (.ref CR) = some false)
    (xiUC : PySem.W.kitOne K (.ref CU) (.ref CCo) = some false)
    (xiUU : PySem.W.kitOne K (.ref CU) (.ref CU) = some true)
    (xiUT : PySem.W.kitOne K (.ref CU) (.ref CT) = some false)
    (xgT : PySem.W.nsIn K mainGlobals "BadCut" = some (some (.ref CT)))
    (xxT : PySem.W.excIn K CT [.type "ValueError", .type "Exception", .type "BaseException", .type "object"] "ValueError.__new__" = true)
    (xkT : PySem.W.keepIn K (.ref CT) = true)
    (xbT : PySem.W.subIn K (.ref CT) (.type "BaseException") = some true)
    (xtT : PySem.W.typeIn K (.ref CT) = some (.type "type"))
    (xsT : PySem.W.subIn K (.ref CT) (.ref CE) = some true)
    (xaT : PySem.W.findIn K (.ref CT) "__getattribute__" = some (some (.builtin "BaseException.__getattribute__")))
    (xcT : PySem.W.findIn K (.ref CT) "__getattr__" = some none)
    (xhT : PySem.W.hasDictIn K CT = true)
    (xlT : PySem.W.findIn K (.ref CT) "__class__" = some (some (.builtin "object.__class__")))
    (xmT : PySem.W.mroIn K CT (.type "object") = some true)
    (xvT : PySem.W.kitOne K (.ref CT) (.type "ValueError") = some true)
    (xiTR : PySem.W.kitOne K (.ref CT) (.ref CR) = some false)
    (xiTC : PySem.W.kitOne K (.ref CT) (.ref CCo) = some false)
    (xiTU : PySem.W.kitOne K (.ref CT) (.ref CU) = some false)
    (xiTT : PySem.W.kitOne K (.ref CT) (.ref CT) = some true)
    (N : NoName K) : LawAtS l w K CX0 9 63 "_law_script" mg fa h := by
  have e := hfa.symm.trans (PySem.W.mg_of X G a30)
  cases e
  have B : Blt mg := blt_mk N X G
  have D0 := def_mk bn_is_whole X G a0 l0 q0 k0
  have D1 := def_mk bn_check_row X G a1 l1 q1 k1
  have D2 := def_mk bn_check_corner X G a2 l2 q2 k2
  have D3 := def_mk bn_between X G a3 l3 q3 k3
  have D4 := def_mk bn_table X G a4 l4 q4 k4
  have D5 := defc_mk bn_two_cross X G a5 l5 q5 k5
  have D6 := def_mk bn_is_cut X G a6 l6 q6 k6
  have D7 := def_mk bn_is_cutting X G a7 l7 q7 k7
  have D8 := def_mk bn_counts_of X G a8 l8 q8 k8
  have D9 := def_mk bn_check_cuts X G a9 l9 q9 k9
  have D10 := def_mk bn_row_of X G a10 l10 q10 k10
  have D11 := def_mk bn_exchanged X G a11 l11 q11 k11
  have D12 := def_mk bn_grown X G a12 l12 q12 k12
  have D13 := def_mk bn_cut X G a13 l13 q13 k13
  have D14 := def_mk bn_l_cell_at X G a14 l14 q14 k14
  have D15 := def_mk bn_l_draw X G a15 l15 q15 k15
  have D16 := def_mk bn_l_value X G a16 l16 q16 k16
  have D17 := def_mk bn_l_grown X G a17 l17 q17 k17
  have D18 := def_mk bn_l_row X G a18 l18 q18 k18
  have D19 := def_mk bn_l_reduced X G a19 l19 q19 k19
  have D20 := def_mk bn_l_kinds X G a20 l20 q20 k20
  have D21 := def_mk bn_l_with_row X G a21 l21 q21 k21
  have D22 := def_mk bn_l_with_corner X G a22 l22 q22 k22
  have D23 := def_mk bn_l_with_steps X G a23 l23 q23 k23
  have D24 := def_mk bn_l_with_cuts X G a24 l24 q24 k24
  have D25 := def_mk bn_l_with_both X G a25 l25 q25 k25
  have D26 := def_mk bn_l_with_cut X G a26 l26 q26 k26
  have D27 := def_mk bn_l_told X G a27 l27 q27 k27
  have D28 := def_mk bn_l_crossing_right X G a28 l28 q28 k28
  have D29 := def_mk bn_l_cuts_right X G a29 l29 q29 k29
  refine ⟨PySem.W.fnOf "law" "law" (defArgs s_law) (defBody s_law) (defScope s_law) .none kV30 dc30 pm30 an30 cd30 ct30, [(c0, P0)], spLaw K [(P0, ("two_cross" : Str) ++ ".<locals>." ++ "<lambda>")], (fun p hp => by
      simp only [List.mem_cons, List.not_mem_nil, or_false] at hp
      rcases hp with rfl
      · exact t0),
    (fun p hp => by
      simp only [List.mem_cons, List.not_mem_nil, or_false] at hp
      rcases hp with rfl
      · exact n0), (fun p hp => by
      simp only [List.mem_cons, List.not_mem_nil, or_false] at hp
      rcases hp with rfl
      · exact PySem.W.codeHd_of_K X e0), fun s u => .of_eq rfl, fun H a ns hlen hbits hH hS => ?_, fun base _ _ hTB => ?_⟩
  · exact ⟨a, ns, rfl, hS, hlen, fun n hn => bitsB (hbits n hn), tabs_start (fun p hp => by
        simp only [List.mem_cons, List.not_mem_nil, or_false] at hp
        rcases hp with rfl
        · exact hH (c0, P0) (by simp)), fun _ => rfl⟩
  · have TB0 : TabB base mg c0 P0 := hTB (c0, P0) (by simp)
    have Er : ErrC K mg CE CR CCo CU CT := ⟨PySem.W.mg_of X G xgE, ⟨xxR, PySem.W.mg_of X G xgR, xkR, xbR, xtR⟩, ⟨xxC, PySem.W.mg_of X G xgC, xkC, xbC, xtC⟩, ⟨xxU, PySem.W.mg_of X G xgU, xkU, xbU, xtU⟩, ⟨xxT, PySem.W.mg_of X G xgT, xkT, xbT, xtT⟩, PySem.W.mg_none_of X G xvE,
      fun j hj => match j, hj with | 0, _ => ⟨xaR, xcR, xbR, xhR, xlR, xn, xht, xmR⟩ | 1, _ => ⟨xaC, xcC, xbC, xhC, xlC, xn, xht, xmC⟩ | 2, _ => ⟨xaU, xcU, xbU, xhU, xlU, xn, xht, xmU⟩ | 3, _ => ⟨xaT, xcT, xbT, xhT, xlT, xn, xht, xmT⟩,
      fun j i hj hi => match j, hj, i, hi with | 0, _, 0, _ => xiRR | 0, _, 1, _ => xiRC | 0, _, 2, _ => xiRU | 0, _, 3, _ => xiRT | 1, _, 0, _ => xiCR | 1, _, 1, _ => xiCC | 1, _, 2, _ => xiCU | 1, _, 3, _ => xiCT | 2, _, 0, _ => xiUR | 2, _, 1, _ => xiUC | 2, _, 2, _ => xiUU | 2, _, 3, _ => xiUT | 3, _, 0, _ => xiTR | 3, _, 1, _ => xiTC | 3, _, 2, _ => xiTU | 3, _, 3, _ => xiTT,
      fun j hj => match j, hj with | 0, _ => xvR | 1, _ => xvC | 2, _ => xvU | 3, _ => xvT,
      fun j hj => match j, hj with | 0, _ => PySem.W.exm_ref xbE xhE xtE xsR | 1, _ => PySem.W.exm_ref xbE xhE xtE xsC | 2, _ => PySem.W.exm_ref xbE xhE xtE xsU | 3, _ => PySem.W.exm_ref xbE xhE xtE xsT⟩
    have Wh := ok_whole (P := l.prog) (w := w) (base := base) D0 B
    have Ro := ok_check_row (base := base) D1 B Wh
    have Co := ok_check_corner (base := base) D2 B Wh
    have RoX := ok_check_rowX (base := base) (T := [(P0, ("two_cross" : Str) ++ ".<locals>." ++ "<lambda>")]) D1 B Wh Er.fR
    have CoX := ok_check_cornerX (base := base) (T := [(P0, ("two_cross" : Str) ++ ".<locals>." ++ "<lambda>")]) D2 B Wh Er.fC
    have Cu := ok_is_cut (base := base) D6 B Wh
    have Tw := ok_two_cross (P := l.prog) (w := w) (T := [(P0, ("two_cross" : Str) ++ ".<locals>." ++ "<lambda>")]) D5 B TB0 (by simp) (fun q hq hq1 => by
      simp only [List.mem_cons, List.not_mem_nil, or_false] at hq
      rcases hq with rfl
      rfl)
    have Ci := ok_is_cutting (base := base) D7 B Cu Tw
    have Cn := ok_counts_of (P := l.prog) (w := w) (base := base) D8 B
    have Cc := ok_check_cuts (base := base) D9 B Wh Ci
    have Ro2 := ok_row_of (base := base) D10 B Cc Cn
    have CcX := ok_check_cutsX (base := base) D9 B Wh Ci Er.fU
    have RwX := ok_row_ofX (base := base) D10 CcX
    have ExX := ok_exchangedX (base := base) D11 CcX
    have ExC := ok_exchangedC (base := base) D11 B Cc Cu Er.fT
    have CtX := ok_cutX (base := base) D13 RoX
    have TbX := ok_tableX (base := base) D4 RoX
    have BtX := ok_betweenX (base := base) D3 RoX
    have GwX := ok_grownX (base := base) D12 RoX
    have GwC := ok_grownC (base := base) D12 Ro CoX
    have BtC := ok_betweenC (base := base) D3 Ro CoX
    have BtS := ok_betweenS (base := base) (T := [(P0, ("two_cross" : Str) ++ ".<locals>." ++ "<lambda>")]) D3 B (PySem.W.mg_of X G aF) Wh Ro Co Er.fC
    have Gw := ok_grown (base := base) D12 B Ro Co
    have Ce := ok_cell (P := l.prog) (w := w) (base := base) D14 B
    have Dr := ok_draw (P := l.prog) (w := w) (base := base) D15 B
    have Va := ok_value (base := base) D16 B Dr
    have Gr := ok_grown_ (P := l.prog) (w := w) (base := base) D17 B
    have Rw := ok_row_ (base := base) D18 B Ce Dr Va Gr
    have Rd := ok_reduced (P := l.prog) (w := w) (base := base) D19 B
    have Kn := ok_kinds (P := l.prog) (w := w) (base := base) D20 B Er
    have Wr := (ok_with_row (base := base) D21 CtX TbX BtX GwX).mono (j := 6) (by decide)
    have Wk := (ok_with_corner (base := base) D22 BtC GwC).mono (j := 6) (by decide)
    have Ws := (ok_with_steps (base := base) D23 BtS).mono (j := 6) (by decide)
    have Wc := ok_with_cuts (base := base) D24 RwX
    have Wb := ok_with_both (base := base) D25 ExX
    have Wo := ok_with_cut (base := base) D26 B ExC
    have Td := ok_told (base := base) (T := [(P0, ("two_cross" : Str) ++ ".<locals>." ++ "<lambda>")]) D27 Er Kn
    have Xr := ok_crossing (base := base) D28 Td Wc Wb
    have Cr := ok_cuts_right (base := base) D29 B Td Wc Wb Wo
    exact ok_law B Ce Rw Va Gr Rd Td Wr Wk Ws Cr Xr Gw Ro2 (fun_mk (st := s_law) l30 q30 k30)
end FzW
open PySem PySem.W PyProof.Rows in
set_option maxRecDepth 100000 in
set_option maxHeartbeats 0 in
theorem PySem.Challenge.cw_friezerow_k05_refused_holds : PySem.Challenge.rw_friezerow_k05_refused.Holds := by
  w_on; o_law; k_head; (case hw => w_witness2)
  k_fill
  refine LamX.walk_ofTs (l := PySem.Challenge.rw_friezerow_k05_refused) (n := 63) (k := 9) (x := "_law_script") (CX := fun _ => L2.CX0) rfl (by decide) rfl ⟨rfl, by decide, by decide⟩ (fun w h Y => PySem.W.km_in_of Y) ?F fun _ _ _ _ _ z => z
  case F =>
    intro w mg fa h Y KX G hmg
    have TT := PySem.W.km_tabs_of Y
    refine' FzW.all_mk (P0 := 122) KX G hmg ?t0 ?n0 ?a0 ?l0 ?q0 ?k0 ?a1 ?l1 ?q1 ?k1 ?a2 ?l2 ?q2 ?k2 ?a3 ?l3 ?q3 ?k3 ?a4 ?l4 ?q4 ?k4 ?a5 ?l5 ?q5 ?k5 ?a6 ?l6 ?q6 ?k6 ?a7 ?l7 ?q7 ?k7 ?a8 ?l8 ?q8 ?k8 ?a9 ?l9 ?q9 ?k9 ?a10 ?l10 ?q10 ?k10 ?a11 ?l11 ?q11 ?k11 ?a12 ?l12 ?q12 ?k12 ?a13 ?l13 ?q13 ?k13 ?a14 ?l14 ?q14 ?k14 ?a15 ?l15 ?q15 ?k15 ?a16 ?l16 ?q16 ?k16 ?a17 ?l17 ?q17 ?k17 ?a18 ?l18 ?q18 ?k18 ?a19 ?l19 ?q19 ?k19 ?a20 ?l20 ?q20 ?k20 ?a21 ?l21 ?q21 ?k21 ?a22 ?l22 ?q22 ?k22 ?a23 ?l23 ?q23 ?k23 ?a24 ?l24 ?q24 ?k24 ?a25 ?l25 ?q25 ?k25 ?a26 ?l26 ?q26 ?k26 ?a27 ?l27 ?q27 ?k27 ?a28 ?l28 ?q28 ?k28 ?a29 ?l29 ?q29 ?k29 ?a30 ?l30 ?q30 ?k30 ?e0 ?aF ?xgE ?xvE ?xbE ?xhE ?xtE ?xn ?xht ?xgR ?xxR ?xkR ?xbR ?xtR ?xsR ?xaR ?xcR ?xhR ?xlR ?xmR ?xvR ?xiRR ?xiRC ?xiRU ?xiRT ?xgC ?xxC ?xkC ?xbC ?xtC ?xsC ?xaC ?xcC ?xhC ?xlC ?xmC ?xvC ?xiCR ?xiCC ?xiCU ?xiCT ?xgU ?xxU ?xkU ?xbU ?xtU ?xsU ?xaU ?xcU ?xhU ?xlU ?xmU ?xvU ?xiUR ?xiUC ?xiUU ?xiUT ?xgT ?xxT ?xkT ?xbT ?xtT ?xsT ?xaT ?xcT ?xhT ?xlT ?xmT ?xvT ?xiTR ?xiTC ?xiTU ?xiTT ⟨?z0, ?z1, ?z2, ?z3, ?z4, ?z5, ?z6, ?z7, ?z8, ?z9, ?z10, ?z11, ?z12, ?z13⟩
    (case t0 => exact TT _ (by simp))
    (case n0 => kernel_rfl)
    (case a0 => k_is)
    (case l0 => k_is)
    (case q0 => k_is)
    (case k0 => k_is)
    (case a1 => k_is)
    (case l1 => k_is)
    (case q1 => k_is)
    (case k1 => k_is)
    (case a2 => k_is)
    (case l2 => k_is)
    (case q2 => k_is)
    (case k2 => k_is)
    (case a3 => k_is)
    (case l3 => k_is)
    (case q3 => k_is)
    (case k3 => k_is)
    (case a4 => k_is)
    (case l4 => k_is)
    (case q4 => k_is)
    (case k4 => k_is)
    (case a5 => k_is)
    (case l5 => k_is)
    (case q5 => k_is)
    (case k5 => k_is)
    (case a6 => k_is)
    (case l6 => k_is)
    (case q6 => k_is)
    (case k6 => k_is)
    (case a7 => k_is)
    (case l7 => k_is)
    (case q7 => k_is)
    (case k7 => k_is)
    (case a8 => k_is)
    (case l8 => k_is)
    (case q8 => k_is)
    (case k8 => k_is)
    (case a9 => k_is)
    (case l9 => k_is)
    (case q9 => k_is)
    (case k9 => k_is)
    (case a10 => k_is)
    (case l10 => k_is)
    (case q10 => k_is)
    (case k10 => k_is)
    (case a11 => k_is)
    (case l11 => k_is)
    (case q11 => k_is)
    (case k11 => k_is)
    (case a12 => k_is)
    (case l12 => k_is)
    (case q12 => k_is)
    (case k12 => k_is)
    (case a13 => k_is)
    (case l13 => k_is)
    (case q13 => k_is)
    (case k13 => k_is)
    (case a14 => k_is)
    (case l14 => k_is)
    (case q14 => k_is)
    (case k14 => k_is)
    (case a15 => k_is)
    (case l15 => k_is)
    (case q15 => k_is)
    (case k15 => k_is)
    (case a16 => k_is)
    (case l16 => k_is)
    (case q16 => k_is)
    (case k16 => k_is)
    (case a17 => k_is)
    (case l17 => k_is)
    (case q17 => k_is)
    (case k17 => k_is)
    (case a18 => k_is)
    (case l18 => k_is)
    (case q18 => k_is)
    (case k18 => k_is)
    (case a19 => k_is)
    (case l19 => k_is)
    (case q19 => k_is)
    (case k19 => k_is)
    (case a20 => k_is)
    (case l20 => k_is)
    (case q20 => k_is)
    (case k20 => k_is)
    (case a21 => k_is)
    (case l21 => k_is)
    (case q21 => k_is)
    (case k21 => k_is)
    (case a22 => k_is)
    (case l22 => k_is)
    (case q22 => k_is)
    (case k22 => k_is)
    (case a23 => k_is)
    (case l23 => k_is)
    (case q23 => k_is)
    (case k23 => k_is)
    (case a24 => k_is)
    (case l24 => k_is)
    (case q24 => k_is)
    (case k24 => k_is)
    (case a25 => k_is)
    (case l25 => k_is)
    (case q25 => k_is)
    (case k25 => k_is)
    (case a26 => k_is)
    (case l26 => k_is)
    (case q26 => k_is)
    (case k26 => k_is)
    (case a27 => k_is)
    (case l27 => k_is)
    (case q27 => k_is)
    (case k27 => k_is)
    (case a28 => k_is)
    (case l28 => k_is)
    (case q28 => k_is)
    (case k28 => k_is)
    (case a29 => k_is)
    (case l29 => k_is)
    (case q29 => k_is)
    (case k29 => k_is)
    (case a30 => k_is)
    (case l30 => k_is)
    (case q30 => k_is)
    (case k30 => k_is)
    (case e0 => kernel_rfl)
    (case aF => k_is)
    (case xgE => k_is)
    (case xvE => k_is)
    (case xbE => first | k_is | kernel_rfl)
    (case xhE => first | k_is | kernel_rfl)
    (case xtE => first | k_is | kernel_rfl)
    (case xn => first | k_is | kernel_rfl)
    (case xht => first | k_is | kernel_rfl)
    (case xgR => k_is)
    (case xxR => first | k_exc | kernel_rfl)
    (case xkR => first | k_is | kernel_rfl)
    (case xbR => first | k_is | kernel_rfl)
    (case xtR => first | k_is | kernel_rfl)
    (case xsR => first | k_is | kernel_rfl)
    (case xaR => first | k_is | kernel_rfl)
    (case xcR => first | k_is | kernel_rfl)
    (case xhR => first | k_is | kernel_rfl)
    (case xlR => first | k_is | kernel_rfl)
    (case xmR => first | k_is | kernel_rfl)
    (case xvR => kernel_rfl)
    (case xiRR => kernel_rfl)
    (case xiRC => kernel_rfl)
    (case xiRU => kernel_rfl)
    (case xiRT => kernel_rfl)
    (case xgC => k_is)
    (case xxC => first | k_exc | kernel_rfl)
    (case xkC => first | k_is | kernel_rfl)
    (case xbC => first | k_is | kernel_rfl)
    (case xtC => first | k_is | kernel_rfl)
    (case xsC => first | k_is | kernel_rfl)
    (case xaC => first | k_is | kernel_rfl)
    (case xcC => first | k_is | kernel_rfl)
    (case xhC => first | k_is | kernel_rfl)
    (case xlC => first | k_is | kernel_rfl)
    (case xmC => first | k_is | kernel_rfl)
    (case xvC => kernel_rfl)
    (case xiCR => kernel_rfl)
    (case xiCC => kernel_rfl)
    (case xiCU => kernel_rfl)
    (case xiCT => kernel_rfl)
    (case xgU => k_is)
    (case xxU => first | k_exc | kernel_rfl)
    (case xkU => first | k_is | kernel_rfl)
    (case xbU => first | k_is | kernel_rfl)
    (case xtU => first | k_is | kernel_rfl)
    (case xsU => first | k_is | kernel_rfl)
    (case xaU => first | k_is | kernel_rfl)
    (case xcU => first | k_is | kernel_rfl)
    (case xhU => first | k_is | kernel_rfl)
    (case xlU => first | k_is | kernel_rfl)
    (case xmU => first | k_is | kernel_rfl)
    (case xvU => kernel_rfl)
    (case xiUR => kernel_rfl)
    (case xiUC => kernel_rfl)
    (case xiUU => kernel_rfl)
    (case xiUT => kernel_rfl)
    (case xgT => k_is)
    (case xxT => first | k_exc | kernel_rfl)
    (case xkT => first | k_is | kernel_rfl)
    (case xbT => first | k_is | kernel_rfl)
    (case xtT => first | k_is | kernel_rfl)
    (case xsT => first | k_is | kernel_rfl)
    (case xaT => first | k_is | kernel_rfl)
    (case xcT => first | k_is | kernel_rfl)
    (case xhT => first | k_is | kernel_rfl)
    (case xlT => first | k_is | kernel_rfl)
    (case xmT => first | k_is | kernel_rfl)
    (case xvT => kernel_rfl)
    (case xiTR => kernel_rfl)
    (case xiTC => kernel_rfl)
    (case xiTU => kernel_rfl)
    (case xiTT => kernel_rfl)
    (case z0 => k_is)
    (case z1 => k_is)
    (case z2 => k_is)
    (case z3 => k_is)
    (case z4 => k_is)
    (case z5 => k_is)
    (case z6 => k_is)
    (case z7 => k_is)
    (case z8 => k_is)
    (case z9 => k_is)
    (case z10 => k_is)
    (case z11 => k_is)
    (case z12 => k_is)
    (case z13 => k_is)

