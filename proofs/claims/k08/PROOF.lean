import PyProof.Rows.All
import Wide.All
import OpenK.AllK
import Wide.FinOn
import HandS.ForMost
import HandS.ForExc
import HandS.TupAny
import HandS.Conv
import HandS.TupMul
import KE.GoesMore
import KE.KIndexOf
import HandS.Lambda
import HandS.Deep
import HandS.IsInst
import HandS.TupLe
import HandS.RevRange
import HandS.Zip
import HandS.Style
import HandS.ExcIs
import HandS.Walk
import HandS.NoneIn
import HandS.Comp
import HandS.WordsExc
import HandS.SortInts
import HandS.SetFor
import HandS.WordsDict
import HandS.TupLen
import HandS.Strs
import HandS.SortRule
import HandS.More
import HandS.EndTab
import KE.KNestM
import HandS.EndOwn
import PySem.Challenge.RW_turnchain_k08_ways
set_option Elab.async false
set_option linter.all false
set_option autoImplicit false
/-! Permutations of 0..n-1 as lists, their cycles. No program in sight. -/
namespace VP
def nx (p : List Nat) (i : Nat) : Nat := p.getD i 0
def it (p : List Nat) (x : Nat) : Nat → Nat
  | 0 => x
  | k + 1 => nx p (it p x k)
def Pm (p : List Nat) : Prop := p.Perm (List.range p.length)
theorem nx_get {p : List Nat} {i : Nat} (h : i < p.length) : nx p i = p[i] := by
  unfold nx
  rw [List.getD_eq_getElem?_getD, List.getElem?_eq_getElem h]; rfl
theorem nx_lt {p : List Nat} (hp : Pm p) {i : Nat} (h : i < p.length) : nx p i < p.length := by
  rw [nx_get h]
  exact List.mem_range.mp (hp.mem_iff.mp (List.getElem_mem h))
theorem pm_nodup {p : List Nat} (hp : Pm p) : p.Nodup := hp.nodup_iff.mpr List.nodup_range
theorem nx_inj {p : List Nat} (hp : Pm p) {i j : Nat} (hi : i < p.length) (hj : j < p.length) (e : nx p i = nx p j) : i = j := by
  rw [nx_get hi, nx_get hj] at e
  have h := List.pairwise_iff_getElem.mp (pm_nodup hp)
  rcases Nat.lt_trichotomy i j with hl | hl | hl
  · exact absurd e (h i j hi hj hl)
  · exact hl
  · exact absurd e.symm (h j i hj hi hl)
theorem it_lt {p : List Nat} (hp : Pm p) {x : Nat} (h : x < p.length) : ∀ k, it p x k < p.length
  | 0 => h
  | k + 1 => nx_lt hp (it_lt hp h k)
theorem it_add (p : List Nat) (x j : Nat) : ∀ k, it p (it p x j) k = it p x (j + k)
  | 0 => rfl
  | k + 1 => by show nx p (it p (it p x j) k) = nx p (it p x (j + k)); rw [it_add p x j k]
theorem it_cancel {p : List Nat} (hp : Pm p) {x d : Nat} (h : x < p.length) : ∀ i, it p x i = it p x (i + d) → x = it p x d
  | 0, e => by simpa [it] using e
  | i + 1, e => by
    have e' : nx p (it p x i) = nx p (it p x (i + d)) := by
      have : i + 1 + d = i + d + 1 := by omega
      rw [this] at e
      exact e
    exact it_cancel hp h i (nx_inj hp (it_lt hp h _) (it_lt hp h _) e')
theorem back {p : List Nat} (hp : Pm p) {x : Nat} (h : x < p.length) : ∃ k, k < p.length ∧ it p x (k + 1) = x := by
  apply Classical.byContradiction
  intro hn
  have nd : ((List.range (p.length + 1)).map (it p x)).Nodup := by
    rw [List.Nodup, List.pairwise_map, List.pairwise_iff_getElem]
    intro i j hi hj hij
    simp only [List.length_range] at hi hj
    simp only [List.getElem_range]
    intro e
    have ej : j = i + (j - i) := by omega
    rw [ej] at e
    have := it_cancel hp h i e
    exact hn ⟨j - i - 1, by omega, by
      have e2 : j - i - 1 + 1 = j - i := by omega
      rw [e2]; exact this.symm⟩
  have sub : (List.range (p.length + 1)).map (it p x) ⊆ List.range p.length := fun y hy => by
    obtain ⟨k, _, rfl⟩ := List.mem_map.mp hy
    exact List.mem_range.mpr (it_lt hp h k)
  have := List.Nodup.length_le_of_subset nd sub
  simp at this
  omega
def per (p : List Nat) (x : Nat) : Nat := (List.range p.length).findIdx (fun k => it p x (k + 1) == x) + 1
theorem per_le {p : List Nat} (hp : Pm p) {x : Nat} (h : x < p.length) : per p x ≤ p.length := by
  obtain ⟨k, hk, e⟩ := back hp h
  have := List.findIdx_lt_length_of_exists (xs := List.range p.length) (p := fun k => it p x (k + 1) == x) ⟨k, List.mem_range.mpr hk, by simpa using e⟩
  unfold per
  simp at this
  omega
theorem per_pos (p : List Nat) (x : Nat) : 0 < per p x := Nat.succ_pos _
theorem it_per {p : List Nat} (hp : Pm p) {x : Nat} (h : x < p.length) : it p x (per p x) = x := by
  have hl := per_le hp h
  unfold per at hl ⊢
  have hw : (List.range p.length).findIdx (fun k => it p x (k + 1) == x) < (List.range p.length).length := by simp; omega
  have := List.findIdx_getElem (w := hw)
  simp only [List.getElem_range] at this
  simpa using this
theorem it_min {p : List Nat} {x k : Nat} (hp : Pm p) (h : x < p.length) (h0 : 0 < k) (hk : k < per p x) : it p x k ≠ x := by
  have hl := per_le hp h
  have hlt : k - 1 < (List.range p.length).findIdx (fun k => it p x (k + 1) == x) := by unfold per at hk; omega
  have := List.not_of_lt_findIdx hlt
  simp only [List.getElem_range] at this
  have e : k - 1 + 1 = k := by omega
  rw [e] at this
  simpa using this
def cyc (p : List Nat) (x : Nat) : List Nat := (List.range (per p x)).map (it p x)
theorem mem_cyc {p : List Nat} {x y : Nat} : y ∈ cyc p x ↔ ∃ k, k < per p x ∧ it p x k = y := by
  unfold cyc
  simp [List.mem_map]
theorem it_mul {p : List Nat} (hp : Pm p) {x : Nat} (h : x < p.length) : ∀ m, it p x (per p x * m) = x
  | 0 => rfl
  | m + 1 => by
    have : per p x * (m + 1) = per p x * m + per p x := Nat.mul_succ _ _
    rw [this, ← it_add, it_mul hp h m, it_per hp h]
theorem it_mem {p : List Nat} (hp : Pm p) {x : Nat} (h : x < p.length) (k : Nat) : it p x k ∈ cyc p x := by
  refine mem_cyc.mpr ⟨k % per p x, Nat.mod_lt _ (per_pos p x), ?_⟩
  have e : it p x k = it p x (per p x * (k / per p x) + k % per p x) := by rw [Nat.div_add_mod]
  rw [e, ← it_add, it_mul hp h]
theorem self_mem {p : List Nat} {x : Nat} : x ∈ cyc p x := mem_cyc.mpr ⟨0, per_pos p x, rfl⟩
theorem cyc_nx {p : List Nat} (hp : Pm p) {x y : Nat} (h : x < p.length) (hy : y ∈ cyc p x) : nx p y ∈ cyc p x := by
  obtain ⟨k, _, rfl⟩ := mem_cyc.mp hy
  exact it_mem hp h (k + 1)
theorem cyc_lt {p : List Nat} (hp : Pm p) {x y : Nat} (h : x < p.length) (hy : y ∈ cyc p x) : y < p.length := by
  obtain ⟨k, _, rfl⟩ := mem_cyc.mp hy
  exact it_lt hp h k
theorem cyc_symm {p : List Nat} (hp : Pm p) {x y : Nat} (h : x < p.length) (hy : y ∈ cyc p x) : x ∈ cyc p y := by
  obtain ⟨k, hk, rfl⟩ := mem_cyc.mp hy
  have e : it p (it p x k) (per p x - k) = x := by
    rw [it_add]
    have : k + (per p x - k) = per p x := by omega
    rw [this, it_per hp h]
  have := it_mem hp (it_lt hp h k) (per p x - k)
  rwa [e] at this
theorem cyc_trans {p : List Nat} (hp : Pm p) {x y z : Nat} (h : x < p.length) (hy : y ∈ cyc p x) (hz : z ∈ cyc p y) : z ∈ cyc p x := by
  obtain ⟨k, _, rfl⟩ := mem_cyc.mp hy
  obtain ⟨j, _, rfl⟩ := mem_cyc.mp hz
  rw [it_add]
  exact it_mem hp h _
theorem cyc_nodup {p : List Nat} (hp : Pm p) {x : Nat} (h : x < p.length) : (cyc p x).Nodup := by
  unfold cyc
  rw [List.Nodup, List.pairwise_map, List.pairwise_iff_getElem]
  intro i j hi hj hij
  simp only [List.length_range] at hi hj
  simp only [List.getElem_range]
  intro e
  have ej : j = i + (j - i) := by omega
  rw [ej] at e
  exact it_min hp h (by omega) (by omega) (it_cancel hp h i e).symm
theorem cyc_length (p : List Nat) (x : Nat) : (cyc p x).length = per p x := by unfold cyc; simp
/-- the first of its cycle -/
def lead (p : List Nat) (x : Nat) : Bool := (cyc p x).all fun y => decide (x ≤ y)
def cycs (p : List Nat) : List (List Nat) := ((List.range p.length).filter fun x => decide (1 < per p x) && lead p x).map (cyc p)
theorem lead_iff {p : List Nat} (hp : Pm p) {x : Nat} (h : x < p.length) : lead p x = true ↔ ¬ ∃ z, z < x ∧ x ∈ cyc p z := by
  unfold lead
  rw [List.all_eq_true]
  constructor
  · rintro hl ⟨z, hz, hx⟩
    have := hl z (cyc_symm hp (by omega) hx)
    simp at this
    omega
  · intro hn y hy
    simp only [decide_eq_true_eq]
    apply Nat.le_of_not_lt
    intro hlt
    exact hn ⟨y, hlt, cyc_symm hp h hy⟩
/-- what the cycles from below x hold -/
def gn (p : List Nat) : Nat → List Nat
  | 0 => []
  | x + 1 => if x ∈ gn p x then gn p x else gn p x ++ cyc p x
theorem mem_gn {p : List Nat} (hp : Pm p) {y : Nat} : ∀ {x : Nat}, x ≤ p.length → (y ∈ gn p x ↔ ∃ z, z < x ∧ y ∈ cyc p z)
  | 0, _ => by simp [gn]
  | x + 1, h => by
    have ih := @mem_gn p hp y x (by omega)
    simp only [gn]
    split
    · rename_i hx
      rw [ih]
      constructor
      · rintro ⟨z, hz, hy⟩; exact ⟨z, by omega, hy⟩
      · rintro ⟨z, hz, hy⟩
        by_cases e : z = x
        · subst e
          obtain ⟨w, hw, hz2⟩ := (@mem_gn p hp z z (by omega)).mp hx
          exact ⟨w, hw, cyc_trans hp (by omega) hz2 hy⟩
        · exact ⟨z, by omega, hy⟩
    · rw [List.mem_append, ih]
      constructor
      · rintro (⟨z, hz, hy⟩ | hy)
        · exact ⟨z, by omega, hy⟩
        · exact ⟨x, by omega, hy⟩
      · rintro ⟨z, hz, hy⟩
        by_cases e : z = x
        · subst e; exact .inr hy
        · exact .inl ⟨z, by omega, hy⟩
theorem gn_disj {p : List Nat} (hp : Pm p) {x y : Nat} (h : x < p.length) (hx : x ∉ gn p x) (hy : y ∈ cyc p x) : y ∉ gn p x := fun hg => by
  obtain ⟨z, hz, hyz⟩ := (mem_gn hp (by omega)).mp hg
  refine hx ((mem_gn hp (by omega)).mpr ⟨z, hz, ?_⟩)
  exact cyc_trans hp (by omega) hyz (cyc_symm hp h hy)
theorem gn_nodup {p : List Nat} (hp : Pm p) : ∀ {x : Nat}, x ≤ p.length → (gn p x).Nodup
  | 0, _ => by simp [gn]
  | x + 1, h => by
    have ih := @gn_nodup p hp x (by omega)
    simp only [gn]
    split
    · exact ih
    · rename_i hx
      exact List.nodup_append.mpr ⟨ih, cyc_nodup hp (by omega), fun a ha b hb e => gn_disj hp (by omega) hx hb (e ▸ ha)⟩
theorem gn_length {p : List Nat} (hp : Pm p) {x : Nat} (h : x ≤ p.length) : (gn p x).length ≤ p.length := by
  have := List.Nodup.length_le_of_subset (l₂ := List.range p.length) (gn_nodup hp h) (fun y hy => by
    obtain ⟨z, hz, hy⟩ := (mem_gn hp h).mp hy
    exact List.mem_range.mpr (cyc_lt hp (by omega) hy))
  simpa using this
theorem lead_gn {p : List Nat} (hp : Pm p) {x : Nat} (h : x < p.length) : lead p x = decide (x ∉ gn p x) := by
  have h1 := lead_iff hp h
  rw [← mem_gn hp (by omega)] at h1
  by_cases hx : x ∈ gn p x
  · have : lead p x ≠ true := fun e => h1.mp e hx
    simp [hx, this]
  · simp [hx, h1.mpr hx]
def fnd (p : List Nat) (x : Nat) : List (List Nat) := ((List.range x).filter fun x => decide (1 < per p x) && lead p x).map (cyc p)
theorem fnd_succ (p : List Nat) (x : Nat) : fnd p (x + 1) = fnd p x ++ (if 1 < per p x ∧ lead p x = true then [cyc p x] else []) := by
  unfold fnd
  rw [List.range_succ, List.filter_append, List.map_append]
  congr 1
  by_cases h : 1 < per p x ∧ lead p x = true
  · rw [if_pos h]; simp [h.1, h.2]
  · rw [if_neg h]
    have : (decide (1 < per p x) && lead p x) = false := by
      cases hl : lead p x
      · simp
      · have : ¬ 1 < per p x := fun z => h ⟨z, hl⟩
        simp [this]
    simp [this]
theorem fnd_length (p : List Nat) (x : Nat) : (fnd p x).length ≤ x := by
  unfold fnd
  rw [List.length_map]
  exact Nat.le_trans (List.length_filter_le _ _) (by simp)
/-- the first k of a cycle -/
def part (p : List Nat) (x k : Nat) : List Nat := (List.range k).map (it p x)
theorem part_succ (p : List Nat) (x k : Nat) : part p x (k + 1) = part p x k ++ [it p x k] := by
  unfold part
  rw [List.range_succ, List.map_append]; rfl
theorem part_new {p : List Nat} (hp : Pm p) {x k : Nat} (h : x < p.length) (hk : k < per p x) : it p x k ∉ part p x k := fun hm => by
  unfold part at hm
  obtain ⟨j, hj, e⟩ := List.mem_map.mp hm
  have hj := List.mem_range.mp hj
  have ek : k = j + (k - j) := by omega
  rw [ek] at e
  exact it_min hp h (by omega) (by omega) (it_cancel hp h j e).symm
end VP

set_option Elab.async false
set_option linter.all false
set_option autoImplicit false
/-! Permutations: by no repeats, swaps. -/
namespace VP
theorem pm_of {l : List Nat} (nd : l.Nodup) (lt : ∀ y ∈ l, y < l.length) : Pm l := by
  refine (List.perm_ext_iff_of_nodup nd List.nodup_range).mpr fun y => ⟨fun h => List.mem_range.mpr (lt y h), fun h => ?_⟩
  apply Classical.byContradiction
  intro hn
  have h1 : (y :: l).Nodup := List.nodup_cons.mpr ⟨hn, nd⟩
  have := List.Nodup.length_le_of_subset h1 (l₂ := List.range l.length) (fun z hz => by
    rcases List.mem_cons.mp hz with e | hz
    · subst e; exact h
    · exact List.mem_range.mpr (lt z hz))
  simp at this
  omega
/-- two places change what they hold -/
def swp (l : List Nat) (j o : Nat) : List Nat := (l.set j (nx l o)).set o (nx l j)
theorem swp_length (l : List Nat) (j o : Nat) : (swp l j o).length = l.length := by simp [swp]
def sig (j o k : Nat) : Nat := if k = o then j else if k = j then o else k
theorem sig_lt {j o k n : Nat} (hj : j < n) (ho : o < n) (hk : k < n) : sig j o k < n := by
  unfold sig; split
  · exact hj
  · split
    · exact ho
    · exact hk
theorem sig_inj {j o a b : Nat} (h : sig j o a = sig j o b) : a = b := by
  unfold sig at h
  split at h <;> split at h <;> (try split at h) <;> (try split at h) <;> omega
theorem swp_get {l : List Nat} {j o k : Nat} (hj : j < l.length) (ho : o < l.length) (hk : k < l.length) : nx (swp l j o) k = nx l (sig j o k) := by
  have e1 : nx (swp l j o) k = (if o = k then nx l j else if j = k then nx l o else nx l k) := by
    show ((l.set j (nx l o)).set o (nx l j)).getD k 0 = _
    rw [List.getD_eq_getElem?_getD, List.getElem?_set, List.getElem?_set, List.length_set]
    by_cases h1 : o = k
    · rw [if_pos h1, if_pos h1, if_pos ho]; rfl
    · rw [if_neg h1, if_neg h1]
      by_cases h2 : j = k
      · rw [if_pos h2, if_pos h2, if_pos hj]; rfl
      · rw [if_neg h2, if_neg h2]
        unfold nx
        rw [List.getD_eq_getElem?_getD]
  rw [e1]
  unfold sig
  by_cases h1 : o = k
  · rw [if_pos h1, if_pos h1.symm]
  · have g1 : ¬ k = o := fun e => h1 e.symm
    simp only [h1, g1, if_false]
    by_cases h2 : j = k
    · subst h2; simp
    · have g2 : ¬ k = j := fun e => h2 e.symm
      simp only [h2, g2, if_false]
theorem swp_pm {l : List Nat} (hp : Pm l) {j o : Nat} (hj : j < l.length) (ho : o < l.length) : Pm (swp l j o) := by
  apply pm_of
  · rw [List.Nodup, List.pairwise_iff_getElem]
    intro a b ha hb hab e
    rw [← nx_get ha, ← nx_get hb] at e
    rw [swp_length] at ha hb
    rw [swp_get hj ho ha, swp_get hj ho hb] at e
    have := sig_inj (nx_inj hp (sig_lt hj ho ha) (sig_lt hj ho hb) e)
    omega
  · intro y hy
    obtain ⟨k, hk, rfl⟩ := List.mem_iff_getElem.mp hy
    rw [← nx_get hk, swp_length]
    rw [swp_length] at hk
    rw [swp_get hj ho hk]
    exact nx_lt hp (sig_lt hj ho hk)
theorem pm_range (n : Nat) : Pm (List.range n) := by
  unfold Pm
  rw [List.length_range]
end VP

set_option Elab.async false
set_option linter.all false
set_option autoImplicit false
/-! Products, backs, powers of permutations as lists. No program in sight. -/
namespace VP
theorem ext_nx {p q : List Nat} (hl : p.length = q.length) (h : ∀ i, i < p.length → nx p i = nx q i) : p = q := by
  refine List.ext_getElem hl fun i h1 h2 => ?_
  have e := h i h1
  rw [nx_get h1, nx_get h2] at e
  exact e
/-- first by p, then by q -/
def cmp (p q : List Nat) : List Nat := p.map (nx q)
theorem cmp_length (p q : List Nat) : (cmp p q).length = p.length := by simp [cmp]
theorem nx_cmp {p q : List Nat} {i : Nat} (h : i < p.length) : nx (cmp p q) i = nx q (nx p i) := by
  rw [nx_get (by rw [cmp_length]; exact h), nx_get h]
  simp [cmp]
theorem mem_lt {p : List Nat} (hp : Pm p) {y : Nat} (h : y ∈ p) : y < p.length := List.mem_range.mp (hp.mem_iff.mp h)
theorem lt_mem {p : List Nat} (hp : Pm p) {y : Nat} (h : y < p.length) : y ∈ p := hp.mem_iff.mpr (List.mem_range.mpr h)
theorem cmp_pm {p q : List Nat} (hp : Pm p) (hq : Pm q) (e : p.length = q.length) : Pm (cmp p q) := by
  refine pm_of ?_ fun y hy => ?_
  · unfold cmp
    rw [List.Nodup, List.pairwise_map]
    refine (pm_nodup hp).imp_of_mem fun {a b} ha hb hab hc => hab ?_
    exact nx_inj hq (by rw [← e]; exact mem_lt hp ha) (by rw [← e]; exact mem_lt hp hb) hc
  · obtain ⟨a, ha, rfl⟩ := List.mem_map.mp hy
    rw [cmp_length, e]
    exact nx_lt hq (by rw [← e]; exact mem_lt hp ha)
theorem cmp_assoc {p q r : List Nat} (hp : Pm p) (e : p.length = q.length) : cmp (cmp p q) r = cmp p (cmp q r) := by
  unfold cmp
  rw [List.map_map]
  refine List.map_congr_left fun y hy => ?_
  exact (nx_cmp (p := q) (by rw [← e]; exact mem_lt hp hy)).symm
/-- the back of p, by the places -/
def inv (p : List Nat) : List Nat := (List.range p.length).map fun i => p.idxOf i
theorem inv_length (p : List Nat) : (inv p).length = p.length := by simp [inv]
theorem nx_inv' {p : List Nat} {i : Nat} (h : i < p.length) : nx (inv p) i = p.idxOf i := by
  rw [nx_get (by rw [inv_length]; exact h)]
  simp [inv]
theorem idx_lt {p : List Nat} (hp : Pm p) {i : Nat} (h : i < p.length) : p.idxOf i < p.length := List.idxOf_lt_length_iff.mpr (lt_mem hp h)
theorem nx_idx {p : List Nat} (hp : Pm p) {i : Nat} (h : i < p.length) : nx p (p.idxOf i) = i := by
  rw [nx_get (idx_lt hp h)]
  exact List.getElem_idxOf _
theorem idx_nx {p : List Nat} (hp : Pm p) {i : Nat} (h : i < p.length) : p.idxOf (nx p i) = i :=
  nx_inj hp (idx_lt hp (nx_lt hp h)) h (nx_idx hp (nx_lt hp h))
theorem inv_pm {p : List Nat} (hp : Pm p) : Pm (inv p) := by
  refine pm_of ?_ fun y hy => ?_
  · unfold inv
    rw [List.Nodup, List.pairwise_map]
    refine (List.nodup_range (n := p.length)).imp_of_mem fun {a b} ha hb hab hc => hab ?_
    rw [← nx_idx hp (List.mem_range.mp ha), ← nx_idx hp (List.mem_range.mp hb), hc]
  · obtain ⟨a, ha, rfl⟩ := List.mem_map.mp hy
    rw [inv_length]
    exact idx_lt hp (List.mem_range.mp ha)
theorem cmp_inv {p : List Nat} (hp : Pm p) : cmp p (inv p) = List.range p.length := by
  refine ext_nx (by rw [cmp_length, List.length_range]) fun i h => ?_
  rw [cmp_length] at h
  rw [nx_cmp h, nx_inv' (nx_lt hp h), idx_nx hp h, nx_get (by rw [List.length_range]; exact h), List.getElem_range]
/-- the back of p, as the program writes it: k places done -/
def bk (p : List Nat) : Nat → List Nat
  | 0 => List.replicate p.length 0
  | k + 1 => (bk p k).set (nx p k) k
theorem bk_length (p : List Nat) : ∀ k, (bk p k).length = p.length
  | 0 => by simp [bk]
  | k + 1 => by simp [bk, bk_length p k]
theorem nx_set {l : List Nat} {j v i : Nat} (hi : i < l.length) : nx (l.set j v) i = if j = i then v else nx l i := by
  rw [nx_get (by rw [List.length_set]; exact hi), nx_get hi, List.getElem_set]
theorem bk_at {p : List Nat} (hp : Pm p) : ∀ {k : Nat}, k ≤ p.length → ∀ i, i < k → nx (bk p k) (nx p i) = i
  | 0, _, i, h => absurd h (Nat.not_lt_zero _)
  | k + 1, hk, i, h => by
    show nx ((bk p k).set (nx p k) k) (nx p i) = i
    rw [nx_set (by rw [bk_length]; exact nx_lt hp (by omega))]
    by_cases e : nx p k = nx p i
    · rw [if_pos e]
      exact nx_inj hp (by omega) (by omega) e
    · rw [if_neg e]
      refine bk_at hp (by omega) i ?_
      rcases Nat.lt_or_ge i k with h2 | h2
      · exact h2
      · exact absurd (by rw [show i = k from by omega]) e
theorem bk_inv {p : List Nat} (hp : Pm p) : bk p p.length = inv p := by
  refine ext_nx (by rw [bk_length, inv_length]) fun i h => ?_
  rw [bk_length] at h
  rw [nx_inv' h]
  have e := bk_at hp (Nat.le_refl _) (p.idxOf i) (idx_lt hp h)
  rw [nx_idx hp h] at e
  exact e
/-- p, k times -/
def pw (p : List Nat) : Nat → List Nat
  | 0 => List.range p.length
  | k + 1 => cmp (pw p k) p
theorem pw_length (p : List Nat) : ∀ k, (pw p k).length = p.length
  | 0 => by simp [pw]
  | k + 1 => by simp [pw, cmp_length, pw_length p k]
theorem pw_pm {p : List Nat} (hp : Pm p) : ∀ k, Pm (pw p k)
  | 0 => pm_range _
  | k + 1 => cmp_pm (pw_pm hp k) hp (pw_length p k)
theorem nx_pw {p : List Nat} {i : Nat} (h : i < p.length) : ∀ k, nx (pw p k) i = it p i k
  | 0 => by
    show nx (List.range p.length) i = i
    rw [nx_get (by rw [List.length_range]; exact h), List.getElem_range]
  | k + 1 => by
    show nx (cmp (pw p k) p) i = nx p (it p i k)
    rw [nx_cmp (by rw [pw_length]; exact h), nx_pw h k]
theorem it_mod {p : List Nat} (hp : Pm p) {x : Nat} (h : x < p.length) (k : Nat) : it p x k = it p x (k % per p x) := by
  have e := Nat.div_add_mod k (per p x)
  have e2 : it p (it p x (per p x * (k / per p x))) (k % per p x) = it p x (per p x * (k / per p x) + k % per p x) := it_add _ _ _ _
  rw [it_mul hp h, e] at e2
  exact e2.symm
theorem per_eq {p : List Nat} (hp : Pm p) {x z : Nat} (h : z < p.length) (hx : x ∈ cyc p z) : per p x = per p z := by
  have hxl := cyc_lt hp h hx
  have a1 := List.Nodup.length_le_of_subset (cyc_nodup hp hxl) (fun y hy => cyc_trans hp h hx hy)
  have a2 := List.Nodup.length_le_of_subset (cyc_nodup hp h) (fun y hy => cyc_trans hp hxl (cyc_symm hp h hx) hy)
  rw [cyc_length, cyc_length] at a1 a2
  omega
theorem has_lead {p : List Nat} (hp : Pm p) : ∀ (n x : Nat), x ≤ n → x < p.length → ∃ z, z < p.length ∧ lead p z = true ∧ x ∈ cyc p z
  | n, x, hn, h => by
    by_cases hl : lead p x = true
    · exact ⟨x, h, hl, self_mem⟩
    · have hz : ∃ z, z < x ∧ x ∈ cyc p z := Classical.byContradiction fun hc => hl ((lead_iff hp h).mpr hc)
      obtain ⟨z, hzx, hxz⟩ := hz
      cases n with
      | zero => omega
      | succ n =>
        obtain ⟨y, h1, h2, h3⟩ := has_lead hp n z (by omega) (by omega)
        exact ⟨y, h1, h2, cyc_trans hp h1 h3 hxz⟩
theorem per_cycs {p : List Nat} (hp : Pm p) {x : Nat} (h : x < p.length) : per p x = 1 ∨ ∃ c ∈ cycs p, c.length = per p x := by
  obtain ⟨z, h1, h2, h3⟩ := has_lead hp x x (Nat.le_refl _) h
  have e := per_eq hp h1 h3
  have := per_pos p x
  by_cases h0 : per p x = 1
  · exact .inl h0
  · refine .inr ⟨cyc p z, ?_, by rw [cyc_length, e]⟩
    unfold cycs
    refine List.mem_map.mpr ⟨z, List.mem_filter.mpr ⟨List.mem_range.mpr h1, ?_⟩, rfl⟩
    rw [h2, Bool.and_true, decide_eq_true_eq]
    omega
/-- each point as far as the count tells, by its own cycle's size -/
def far (p : List Nat) (c : Int) : List Nat := (List.range p.length).map fun x => it p x (c.fmod (per p x)).toNat
theorem pw_far {p : List Nat} (hp : Pm p) {M : Nat} (h0 : 0 < M) (hM : ∀ x, x < p.length → per p x ∣ M) (c : Int) : pw p (c.fmod M).toNat = far p c := by
  refine ext_nx (by rw [pw_length]; simp [far]) fun i h => ?_
  rw [pw_length] at h
  rw [nx_pw h, nx_get (by simpa [far] using h)]
  simp only [far, List.getElem_map, List.getElem_range]
  rw [it_mod hp h]
  congr 1
  have hp0 := per_pos p i
  have d1 : ((per p i : Nat) : Int) ∣ ((M : Nat) : Int) := Int.natCast_dvd_natCast.mpr (hM i h)
  have e1 : c.fmod M = c % M := Int.fmod_eq_emod_of_nonneg c (by omega)
  have e2 : c.fmod (per p i) = c % (per p i : Nat) := Int.fmod_eq_emod_of_nonneg c (by omega)
  have e3 : c % (M : Int) % (per p i : Int) = c % (per p i : Int) := Int.emod_emod_of_dvd c d1
  have n1 : 0 ≤ c % (M : Int) := Int.emod_nonneg _ (by omega)
  have n2 : 0 ≤ c % ((per p i : Nat) : Int) := Int.emod_nonneg _ (by omega)
  rw [e1, e2]
  have : (((c % (M : Int)).toNat % per p i : Nat) : Int) = ((c % ((per p i : Nat) : Int)).toNat : Int) := by
    rw [Int.natCast_emod, Int.toNat_of_nonneg n1, Int.toNat_of_nonneg n2, e3]
  exact_mod_cast this
end VP

set_option Elab.async false
set_option linter.all false
set_option autoImplicit false
set_option maxRecDepth 100000
set_option maxHeartbeats 4000000
/-! WY: words of letters, the first of the shortest ones. -/
namespace WY
open VP
/-- the turn of the i-th letter -/
def tn (T : List (List Nat)) (i : Nat) : List Nat := T.getD i []
def gow (T : List (List Nat)) : List Nat → Nat → Nat
  | [], a => a
  | i :: u, a => gow T u (nx (tn T i) a)
theorem gow_app (T : List (List Nat)) : ∀ (u v : List Nat) (a : Nat), gow T (u ++ v) a = gow T v (gow T u a)
  | [], _, _ => rfl
  | i :: u, v, a => gow_app T u v _
theorem gow_snoc (T : List (List Nat)) (u : List Nat) (i a : Nat) : gow T (u ++ [i]) a = nx (tn T i) (gow T u a) := gow_app T u [i] a
structure Tok (T : List (List Nat)) (N : Nat) : Prop where
  pm : ∀ i, i < T.length → Pm (tn T i) ∧ (tn T i).length = N
def val (B : Nat) (u : List Nat) : Prop := ∀ i ∈ u, i < B
theorem val_app {B : Nat} {u v : List Nat} : val B (u ++ v) ↔ val B u ∧ val B v := by
  unfold val
  constructor
  · exact fun h => ⟨fun i hi => h i (List.mem_append_left _ hi), fun i hi => h i (List.mem_append_right _ hi)⟩
  · rintro ⟨h1, h2⟩ i hi
    rcases List.mem_append.mp hi with hi | hi
    · exact h1 i hi
    · exact h2 i hi
theorem val_cons {B i : Nat} {u : List Nat} : val B (i :: u) ↔ i < B ∧ val B u := by
  unfold val; simp
theorem val_nil {B : Nat} : val B [] := fun i h => by cases h
theorem val_one {B i : Nat} : val B [i] ↔ i < B := by unfold val; simp
section
variable {T : List (List Nat)} {N : Nat}
theorem Tok.lt (h : Tok T N) {i x : Nat} (hi : i < T.length) (hx : x < N) : nx (tn T i) x < N := by
  obtain ⟨h1, h2⟩ := h.pm i hi
  have := nx_lt h1 (i := x) (by omega)
  omega
theorem gow_lt (h : Tok T N) : ∀ {u : List Nat} {a : Nat}, val T.length u → a < N → gow T u a < N
  | [], a, _, ha => ha
  | i :: u, a, hv, ha => by
    rw [val_cons] at hv
    show gow T u _ < N
    exact gow_lt h (u := u) hv.2 (h.lt hv.1 ha)
end
/-! ### words by number -/
def cod (B : Nat) (u : List Nat) : Nat := u.foldl (fun c i => c * B + i + 1) 0
theorem cod_nil (B : Nat) : cod B [] = 0 := rfl
theorem cod_snoc (B : Nat) (u : List Nat) (i : Nat) : cod B (u ++ [i]) = cod B u * B + i + 1 := by
  unfold cod; rw [List.foldl_append]; rfl
theorem snoc_ind {P : List Nat → Prop} (h0 : P []) (h1 : ∀ u i, P u → P (u ++ [i])) (u : List Nat) : P u := by
  rw [← List.reverse_reverse u]
  generalize u.reverse = v
  induction v with
  | nil => exact h0
  | cons i v ih => rw [List.reverse_cons]; exact h1 _ _ ih
theorem snoc_of {v : List Nat} {n : Nat} (h : v.length = n + 1) : ∃ w j, v = w ++ [j] ∧ w.length = n := by
  refine ⟨v.dropLast, v.getLast (by intro e; rw [e] at h; cases h), (List.dropLast_concat_getLast _).symm, by rw [List.length_dropLast]; omega⟩
theorem mul_step {B c d i : Nat} (hi : i < B) (h : c < d) : c * B + i + 1 ≤ d * B := by
  have : (c + 1) * B ≤ d * B := Nat.mul_le_mul_right B h
  rw [Nat.add_mul, Nat.one_mul] at this
  omega
theorem cod_len {B : Nat} (u : List Nat) : ∀ v : List Nat, val B u → u.length < v.length → cod B u < cod B v := by
  refine snoc_ind (P := fun u => ∀ v : List Nat, val B u → u.length < v.length → cod B u < cod B v) (fun v _ h => ?_) (fun u i ih v hu h => ?_) u
  · obtain ⟨w, j, rfl, _⟩ := snoc_of (n := v.length - 1) (v := v) (by simp at h; omega)
    rw [cod_snoc, cod_nil]; omega
  · obtain ⟨w, j, rfl, hw⟩ := snoc_of (n := v.length - 1) (v := v) (by simp at h; omega)
    rw [cod_snoc, cod_snoc]
    rw [val_app, val_one] at hu
    simp only [List.length_append, List.length_cons, List.length_nil] at h
    have := mul_step hu.2 (ih w hu.1 (by omega))
    omega
theorem cod_inj {B : Nat} (u : List Nat) : ∀ v : List Nat, val B u → val B v → cod B u = cod B v → u = v := by
  refine snoc_ind (P := fun u => ∀ v : List Nat, val B u → val B v → cod B u = cod B v → u = v) (fun v _ _ h => ?_) (fun u i ih v hu hv h => ?_) u
  · cases v with
    | nil => rfl
    | cons j w =>
      have := cod_len (B := B) [] (j :: w) val_nil (by simp)
      omega
  · have hl : v.length = u.length + 1 := by
      have h1 : ¬ v.length < (u ++ [i]).length := fun q => by have := cod_len v _ hv q; omega
      have h2 : ¬ (u ++ [i]).length < v.length := fun q => by have := cod_len _ v hu q; omega
      simp at h1 h2; omega
    obtain ⟨w, j, rfl, hw⟩ := snoc_of hl
    rw [val_app, val_one] at hu hv
    rw [cod_snoc, cod_snoc] at h
    have e : cod B u = cod B w := by
      rcases Nat.lt_trichotomy (cod B u) (cod B w) with q | q | q
      · have := mul_step hu.2 q; omega
      · exact q
      · have := mul_step hv.2 q; omega
    rw [ih w hu.1 hv.1 e]
    rw [e] at h
    have : i = j := by omega
    rw [this]
theorem cod_front {B l l' : Nat} (hl : l < l') (u : List Nat) : ∀ v : List Nat, val B (l :: u) → u.length = v.length → cod B (l :: u) < cod B (l' :: v) := by
  refine snoc_ind (P := fun u => ∀ v : List Nat, val B (l :: u) → u.length = v.length → cod B (l :: u) < cod B (l' :: v)) (fun v _ h => ?_) (fun u i ih v hu h => ?_) u
  · cases v with
    | nil => show 0 * B + l + 1 < 0 * B + l' + 1; omega
    | cons _ _ => cases h
  · obtain ⟨w, j, rfl, hw⟩ := snoc_of (n := u.length) (v := v) (by simp at h; omega)
    rw [← List.cons_append, ← List.cons_append, cod_snoc, cod_snoc]
    rw [← List.cons_append, val_app, val_one] at hu
    have := mul_step hu.2 (ih w hu.1 hw.symm)
    omega
def codA (B c : Nat) (u : List Nat) : Nat := u.foldl (fun c i => c * B + i + 1) c
theorem codA_eq (B : Nat) : ∀ (u : List Nat) (c : Nat), codA B c u = c * B ^ u.length + cod B u
  | [], c => by show c = c * 1 + 0; omega
  | i :: u, c => by
    show codA B (c * B + i + 1) u = c * B ^ (u.length + 1) + codA B (0 * B + i + 1) u
    rw [codA_eq B u, codA_eq B u, Nat.pow_succ, Nat.add_assoc (c * B), Nat.add_mul (c * B), Nat.mul_comm (B ^ u.length) B, ← Nat.mul_assoc]
    simp only [Nat.zero_mul, Nat.zero_add]
    omega
theorem cod_cons {B l : Nat} {u v : List Nat} (hl : u.length = v.length) (h : cod B u ≤ cod B v) : cod B (l :: u) ≤ cod B (l :: v) := by
  show codA B (0 * B + l + 1) u ≤ codA B (0 * B + l + 1) v
  rw [codA_eq, codA_eq, hl]; omega
/-! ### the search from a point on -/
abbrev QL := List (Nat × List Nat)
def inS (T : List (List Nat)) (x : Nat) (w : List Nat) (Q : QL) (i : Nat) : QL := if nx (tn T i) x ∈ Q.map (·.1) then Q else Q ++ [(nx (tn T i) x, w ++ [i])]
def inn (T : List (List Nat)) (x : Nat) (w : List Nat) (Q : QL) (j : Nat) : QL := (List.range j).foldl (inS T x w) Q
theorem inn_succ (T : List (List Nat)) (x : Nat) (w : List Nat) (Q : QL) (j : Nat) : inn T x w Q (j + 1) = inS T x w (inn T x w Q j) j := by
  unfold inn; rw [List.range_succ, List.foldl_append]; rfl
def bfs (T : List (List Nat)) (a : Nat) : Nat → QL
  | 0 => [(a, [])]
  | n + 1 => match (bfs T a n)[n]? with
    | some e => inn T e.1 e.2 (bfs T a n) T.length
    | none => bfs T a n
theorem bfs_succ {T : List (List Nat)} {a n : Nat} {e : Nat × List Nat} (h : (bfs T a n)[n]? = some e) : bfs T a (n + 1) = inn T e.1 e.2 (bfs T a n) T.length := by
  show (match (bfs T a n)[n]? with | some e => inn T e.1 e.2 (bfs T a n) T.length | none => bfs T a n) = _
  rw [h]
theorem bfs_stop {T : List (List Nat)} {a n : Nat} (h : (bfs T a n).length ≤ n) : ∀ k, bfs T a (n + k) = bfs T a n
  | 0 => rfl
  | k + 1 => by
    show (match (bfs T a (n + k))[n + k]? with | some e => inn T e.1 e.2 (bfs T a (n + k)) T.length | none => bfs T a (n + k)) = _
    rw [bfs_stop h k, List.getElem?_eq_none (by omega)]
structure Inv (T : List (List Nat)) (a N n j : Nat) (Q : QL) : Prop where
  hd : Q[0]? = some (a, [])
  nd : (Q.map (·.1)).Nodup
  lt : ∀ e ∈ Q, e.1 < N
  wd : ∀ e ∈ Q, gow T e.2 a = e.1 ∧ val T.length e.2
  cl : ∀ p l, l < T.length → (p < n ∨ (p = n ∧ l < j)) → ∀ e, Q[p]? = some e → nx (tn T l) e.1 ∈ Q.map (·.1)
  par : ∀ t e, 0 < t → Q[t]? = some e → ∃ p l e', l < T.length ∧ (p < n ∨ (p = n ∧ l < j)) ∧ Q[p]? = some e' ∧ e = (nx (tn T l) e'.1, e'.2 ++ [l]) ∧
    ∀ p' l', l' < T.length → (p' < p ∨ (p' = p ∧ l' < l)) → ∀ e'', Q[p']? = some e'' → nx (tn T l') e''.1 ≠ e.1
  inc : ∀ (s t : Nat) (e e' : Nat × List Nat), s < t → Q[s]? = some e → Q[t]? = some e' → cod T.length e.2 < cod T.length e'.2
section
variable {T : List (List Nat)} {N a : Nat}
theorem inv0 (ha : a < N) : Inv T a N 0 0 (bfs T a 0) := by
  refine ⟨rfl, by simp [bfs], fun e he => ?_, fun e he => ?_, fun p l _ h => by omega, fun t e ht h => ?_, fun s t e e' hst h1 h2 => ?_⟩
  · rw [List.mem_singleton.mp he]; exact ha
  · rw [List.mem_singleton.mp he]; exact ⟨rfl, val_nil⟩
  · exfalso
    have := (List.getElem?_eq_some_iff.mp h).1
    simp [bfs] at this; omega
  · exfalso
    have := (List.getElem?_eq_some_iff.mp h2).1
    simp [bfs] at this; omega
theorem get_snoc {α : Type} {Q : List α} {x e : α} {t : Nat} (h : (Q ++ [x])[t]? = some e) : Q[t]? = some e ∨ (t = Q.length ∧ e = x) := by
  by_cases ht : t < Q.length
  · rw [List.getElem?_append_left ht] at h; exact .inl h
  · rw [List.getElem?_append_right (by omega)] at h
    have : t - Q.length = 0 := by have := (List.getElem?_eq_some_iff.mp h).1; simp at this; omega
    rw [this] at h
    exact .inr ⟨by omega, by simpa using h.symm⟩
theorem get_old {α : Type} {Q : List α} {x e : α} {t : Nat} (h : Q[t]? = some e) : (Q ++ [x])[t]? = some e := by
  rw [List.getElem?_append_left (List.getElem?_eq_some_iff.mp h).1]; exact h
theorem inv_in (ok : Tok T N) {n j : Nat} {Q : QL} {x : Nat} {w : List Nat} (h : Inv T a N n j Q) (hn : Q[n]? = some (x, w)) (hj : j < T.length) : Inv T a N n (j + 1) (inS T x w Q j) ∧ (inS T x w Q j)[n]? = some (x, w) := by
  have hx := h.lt _ (List.mem_of_getElem? hn)
  unfold inS
  by_cases hm : nx (tn T j) x ∈ Q.map (·.1)
  · rw [if_pos hm]
    refine ⟨⟨h.hd, h.nd, h.lt, h.wd, fun p l hl hp e he => ?_, fun t e ht he => ?_, h.inc⟩, hn⟩
    · by_cases hq : p = n ∧ l = j
      · obtain ⟨rfl, rfl⟩ := hq
        rw [hn] at he; cases he; exact hm
      · exact h.cl p l hl (by omega) e he
    · obtain ⟨p, l, e', q1, q2, q3⟩ := h.par t e ht he
      exact ⟨p, l, e', q1, by omega, q3⟩
  · rw [if_neg hm]
    have hw := h.wd _ (List.mem_of_getElem? hn)
    have hbig : ∀ (s : Nat) (e : Nat × List Nat), Q[s]? = some e → cod T.length e.2 < cod T.length (w ++ [j]) := by
      intro s e he
      rw [cod_snoc]
      rcases Nat.eq_zero_or_pos s with rfl | hs
      · rw [h.hd] at he; cases he; rw [cod_nil]; omega
      · obtain ⟨p, l, e', q1, q2, q3, rfl, _⟩ := h.par s e hs he
        rw [cod_snoc]
        rcases q2 with q2 | ⟨rfl, q2⟩
        · have := mul_step q1 (h.inc p n _ _ q2 q3 hn)
          have e0 : (x, w).2 = w := rfl
          rw [e0] at this
          omega
        · rw [hn] at q3; cases q3
          show cod T.length w * T.length + l + 1 < _
          omega
    refine ⟨⟨get_old h.hd, ?_, fun e he => ?_, fun e he => ?_, fun p l hl hp e he => ?_, fun t e ht he => ?_, fun s t e e' hst h1 h2 => ?_⟩, get_old hn⟩
    · rw [List.map_append, List.nodup_append]
      refine ⟨h.nd, by simp, fun y hy z hz e => ?_⟩
      simp at hz
      exact hm (by rw [← hz, ← e]; exact hy)
    · rcases List.mem_append.mp he with he | he
      · exact h.lt e he
      · rw [List.mem_singleton.mp he]; exact ok.lt hj hx
    · rcases List.mem_append.mp he with he | he
      · exact h.wd e he
      · rw [List.mem_singleton.mp he]
        refine ⟨?_, val_app.mpr ⟨hw.2, val_one.mpr hj⟩⟩
        show gow T (w ++ [j]) a = nx (tn T j) x
        rw [gow_snoc]
        have := hw.1
        rw [show gow T w a = x from this]
    · rw [List.map_append, List.mem_append]
      rcases get_snoc he with he2 | ⟨rfl, rfl⟩
      · by_cases hq : p = n ∧ l = j
        · obtain ⟨rfl, rfl⟩ := hq
          rw [hn] at he2; cases he2
          exact .inr (by simp)
        · exact .inl (h.cl p l hl (by omega) e he2)
      · have := (List.getElem?_eq_some_iff.mp hn).1
        omega
    · rcases get_snoc he with he | ⟨rfl, rfl⟩
      · obtain ⟨p, l, e', q1, q2, q3, q4, q5⟩ := h.par t e ht he
        refine ⟨p, l, e', q1, by omega, get_old q3, q4, fun p' l' hl' hp' e'' he'' => ?_⟩
        rcases get_snoc he'' with he'' | ⟨rfl, rfl⟩
        · exact q5 p' l' hl' hp' e'' he''
        · have := (List.getElem?_eq_some_iff.mp q3).1
          omega
      · refine ⟨n, j, (x, w), hj, by omega, get_old hn, rfl, fun p' l' hl' hp' e'' he'' e0 => ?_⟩
        rcases get_snoc he'' with he'' | ⟨rfl, rfl⟩
        · exact hm (by rw [show nx (tn T j) x = _ from e0.symm]; exact h.cl p' l' hl' (by omega) e'' he'')
        · have := (List.getElem?_eq_some_iff.mp hn).1
          omega
    · rcases get_snoc h2 with h2 | ⟨rfl, rfl⟩
      · rcases get_snoc h1 with h1 | ⟨rfl, rfl⟩
        · exact h.inc s t e e' hst h1 h2
        · have := (List.getElem?_eq_some_iff.mp h2).1
          omega
      · rcases get_snoc h1 with h1 | ⟨rfl, rfl⟩
        · exact hbig s e h1
        · omega
theorem inv_inn (ok : Tok T N) {n : Nat} {Q : QL} {x : Nat} {w : List Nat} (h : Inv T a N n 0 Q) (hn : Q[n]? = some (x, w)) : ∀ j, j ≤ T.length → Inv T a N n j (inn T x w Q j) ∧ (inn T x w Q j)[n]? = some (x, w)
  | 0, _ => ⟨h, hn⟩
  | j + 1, hj => by
    obtain ⟨h1, h2⟩ := inv_inn ok h hn j (by omega)
    rw [inn_succ]
    exact inv_in ok h1 h2 (by omega)
theorem inv_next {n : Nat} {Q : QL} (h : Inv T a N n T.length Q) : Inv T a N (n + 1) 0 Q :=
  ⟨h.hd, h.nd, h.lt, h.wd, fun p l hl hp e he => h.cl p l hl (by omega) e he, fun t e ht he => by
    obtain ⟨p, l, e', q1, q2, q3⟩ := h.par t e ht he
    exact ⟨p, l, e', q1, by omega, q3⟩, h.inc⟩
theorem inv_bfs (ok : Tok T N) (ha : a < N) : ∀ n, n ≤ (bfs T a n).length → Inv T a N n 0 (bfs T a n)
  | 0, _ => inv0 ha
  | n + 1, hn => by
    have key : n < (bfs T a n).length := by
      refine Decidable.byContradiction fun q => ?_
      have h1 := bfs_stop (T := T) (a := a) (n := n) (by omega) 1
      rw [h1] at hn; omega
    have ih := inv_bfs ok ha n (by omega)
    obtain ⟨e, he⟩ : ∃ e, (bfs T a n)[n]? = some e := ⟨_, List.getElem?_eq_getElem key⟩
    rw [bfs_succ he]
    exact inv_next (inv_inn ok ih (x := e.1) (w := e.2) he T.length (Nat.le_refl _)).1
theorem inv_len {n j : Nat} {Q : QL} (h : Inv T a N n j Q) : Q.length ≤ N := by
  have h1 := h.nd.length_le_of_subset (l₂ := List.range N) fun x hx => by
    obtain ⟨e, he, rfl⟩ := List.mem_map.mp hx
    exact List.mem_range.mpr (h.lt e he)
  simpa using h1
theorem inn_grow (T : List (List Nat)) (x : Nat) (w : List Nat) (Q : QL) : ∀ j, Q.length ≤ (inn T x w Q j).length
  | 0 => Nat.le_refl _
  | j + 1 => by
    have ih := inn_grow T x w Q j
    rw [inn_succ]
    unfold inS
    split
    · exact ih
    · rw [List.length_append]; omega
theorem grow {n : Nat} (h : n < (bfs T a n).length) : (bfs T a n).length ≤ (bfs T a (n + 1)).length := by
  obtain ⟨e, he⟩ : ∃ e, (bfs T a n)[n]? = some e := ⟨_, List.getElem?_eq_getElem h⟩
  rw [bfs_succ he]
  exact inn_grow T e.1 e.2 _ _
/-- a word is no longer than its place -/
theorem par_len {n j : Nat} {Q : QL} (h : Inv T a N n j Q) : ∀ (t : Nat) (e : Nat × List Nat), Q[t]? = some e → e.2.length ≤ t := by
  intro t
  induction t using Nat.strongRecOn with
  | ind t ih =>
    intro e he
    rcases Nat.eq_zero_or_pos t with rfl | ht
    · rw [h.hd] at he; cases he; exact Nat.zero_le _
    · obtain ⟨p, l, e', q1, q2, q3, rfl, q5⟩ := h.par t e ht he
      have hpt : p < t := by
        refine Decidable.byContradiction fun q => ?_
        have h1 : cod T.length e'.2 < cod T.length (e'.2 ++ [l]) := by
          have := cod_len (B := T.length) e'.2 (e'.2 ++ [l]) (h.wd _ (List.mem_of_getElem? q3)).2 (by simp)
          exact this
        rcases Nat.lt_or_eq_of_le (Nat.le_of_not_lt q) with h2 | h2
        · have := h.inc t p _ _ h2 he q3
          simp at this; omega
        · rw [← h2, he] at q3
          have e0 := congrArg (fun o : Option (Nat × List Nat) => (o.map fun e => e.2.length)) q3
          simp at e0
      have := ih p hpt e' q3
      simp; omega
theorem len_bound (ok : Tok T N) (ha : a < N) {n : Nat} (hn : n ≤ (bfs T a n).length) {e : Nat × List Nat} (he : e ∈ bfs T a n) : e.2.length ≤ N := by
  have iv := inv_bfs ok ha n hn
  obtain ⟨t, ht⟩ := List.mem_iff_getElem?.mp he
  have h1 := par_len iv t e ht
  have h2 := (List.getElem?_eq_some_iff.mp ht).1
  have h3 := inv_len iv
  omega
/-- the words, at the end -/
def wrd (T : List (List Nat)) (N a : Nat) : QL := bfs T a N
theorem wrd_end (ok : Tok T N) (ha : a < N) : ∃ n, n = (bfs T a n).length ∧ n ≤ N ∧ wrd T N a = bfs T a n ∧ Inv T a N n 0 (wrd T N a) := by
  have ex : ∃ n, n ≤ N ∧ (bfs T a n).length ≤ n := by
    by_cases h : N ≤ (bfs T a N).length
    · exact ⟨N, Nat.le_refl _, inv_len (inv_bfs ok ha N h)⟩
    · exact ⟨N, Nat.le_refl _, by omega⟩
  have hp : ∀ m, (∀ k, k < m → k < (bfs T a k).length) → m ≤ (bfs T a m).length := by
    intro m hm
    cases m with
    | zero => exact Nat.zero_le _
    | succ m =>
      have h1 := hm m (by omega)
      obtain ⟨e, he⟩ : ∃ e, (bfs T a m)[m]? = some e := ⟨_, List.getElem?_eq_getElem h1⟩
      rw [bfs_succ he]
      have : ∀ j, (bfs T a m).length ≤ (inn T e.1 e.2 (bfs T a m) j).length := by
        intro j
        induction j with
        | zero => exact Nat.le_refl _
        | succ j ih =>
          rw [inn_succ]
          unfold inS
          split
          · exact ih
          · rw [List.length_append]; omega
      have := this T.length
      omega
  -- the least such n
  have least : ∃ n, n ≤ N ∧ (bfs T a n).length ≤ n ∧ ∀ k, k < n → k < (bfs T a k).length := by
    obtain ⟨n, h1, h2⟩ := ex
    induction n using Nat.strongRecOn with
    | ind n ih =>
      by_cases hk : ∃ k, k < n ∧ (bfs T a k).length ≤ k
      · obtain ⟨k, k1, k2⟩ := hk
        exact ih k k1 (by omega) k2
      · exact ⟨n, h1, h2, fun k hk' => Decidable.byContradiction fun q => hk ⟨k, hk', by omega⟩⟩
  obtain ⟨n, h1, h2, h3⟩ := least
  have h4 := hp n h3
  have h5 : wrd T N a = bfs T a n := by
    unfold wrd
    have := bfs_stop (T := T) (a := a) h2 (N - n)
    rwa [show n + (N - n) = N by omega] at this
  exact ⟨n, by omega, h1, h5, by rw [h5]; exact inv_bfs ok ha n h4⟩
/-- each word leads to a point whose told word is no greater -/
theorem wrd_min (ok : Tok T N) (ha : a < N) (u : List Nat) : val T.length u → ∃ e ∈ wrd T N a, e.1 = gow T u a ∧ cod T.length e.2 ≤ cod T.length u := by
  obtain ⟨n, hn, _, he, iv⟩ := wrd_end ok ha
  refine snoc_ind (P := fun u => val T.length u → ∃ e ∈ wrd T N a, e.1 = gow T u a ∧ cod T.length e.2 ≤ cod T.length u) (fun _ => ?_) (fun u l ih hv => ?_) u
  · exact ⟨_, List.mem_of_getElem? iv.hd, rfl, Nat.le_refl _⟩
  · rw [val_app, val_one] at hv
    obtain ⟨y, hy, y1, y2⟩ := ih hv.1
    obtain ⟨s, hs⟩ := List.mem_iff_getElem?.mp hy
    have hsn : s < n := by
      have := (List.getElem?_eq_some_iff.mp hs).1
      rw [he] at this; omega
    obtain ⟨e, hem, e1⟩ := List.mem_map.mp (iv.cl s l hv.2 (.inl hsn) y hs)
    refine ⟨e, hem, by rw [gow_snoc, ← y1]; exact e1, ?_⟩
    rw [cod_snoc]
    obtain ⟨t, ht⟩ := List.mem_iff_getElem?.mp hem
    rcases Nat.eq_zero_or_pos t with rfl | htp
    · rw [iv.hd] at ht; cases ht; rw [cod_nil]; omega
    · obtain ⟨p, l', e', q1, q2, q3, q4, q5⟩ := iv.par t e htp ht
      have hno : ¬ (s < p ∨ (s = p ∧ l < l')) := fun q => q5 s l hv.2 q y hs e1.symm
      rw [q4]
      show cod T.length (e'.2 ++ [l']) ≤ _
      rw [cod_snoc]
      by_cases hps : p = s
      · subst hps
        rw [hs] at q3; cases q3
        have : cod T.length y.2 * T.length ≤ cod T.length u * T.length := Nat.mul_le_mul_right _ y2
        omega
      · have hlt : p < s := by omega
        have h1 := mul_step q1 (iv.inc p s _ _ hlt q3 hs)
        have : cod T.length y.2 * T.length ≤ cod T.length u * T.length := Nat.mul_le_mul_right _ y2
        omega
/-- the told word of a point -/
def wof (T : List (List Nat)) (N a x : Nat) : Option (List Nat) := (wrd T N a).lookup x
theorem lookup_mem {x : Nat} {w : List Nat} : ∀ {Q : QL}, Q.lookup x = some w → (x, w) ∈ Q
  | (k, v) :: r, h => by
    rw [List.lookup_cons] at h
    split at h
    · rename_i hb
      cases h
      rw [eq_of_beq hb]
      exact List.mem_cons_self
    · exact List.mem_cons_of_mem _ (lookup_mem h)
theorem mem_lookup {x : Nat} {w : List Nat} : ∀ {Q : QL}, (Q.map (·.1)).Nodup → (x, w) ∈ Q → Q.lookup x = some w
  | (k, v) :: r, hn, h => by
    rw [List.lookup_cons]
    rw [List.map_cons, List.nodup_cons] at hn
    rcases List.mem_cons.mp h with h | h
    · cases h; rw [beq_self_eq_true]
    · have : (x == k) = false := by
        refine beq_eq_false_iff_ne.mpr fun e => hn.1 ?_
        rw [← e]
        exact List.mem_map.mpr ⟨_, h, rfl⟩
      rw [this]
      exact mem_lookup hn.2 h
theorem wof_spec (ok : Tok T N) (ha : a < N) {x : Nat} {w : List Nat} (h : wof T N a x = some w) : gow T w a = x ∧ val T.length w ∧ ∀ u, val T.length u → gow T u a = x → cod T.length w ≤ cod T.length u := by
  obtain ⟨n, _, _, _, iv⟩ := wrd_end ok ha
  have hm := lookup_mem h
  obtain ⟨h1, h2⟩ := iv.wd _ hm
  refine ⟨h1, h2, fun u hu hx => ?_⟩
  obtain ⟨e, he, e1, e2⟩ := wrd_min ok ha u hu
  have h3 := mem_lookup iv.nd (x := e.1) (w := e.2) he
  rw [e1, hx] at h3
  have h4 : (wrd T N a).lookup x = some w := h
  rw [h4] at h3
  cases h3
  exact e2
theorem wof_some (ok : Tok T N) (ha : a < N) {u : List Nat} (hu : val T.length u) : ∃ w, wof T N a (gow T u a) = some w := by
  obtain ⟨n, _, _, _, iv⟩ := wrd_end ok ha
  obtain ⟨e, he, e1, _⟩ := wrd_min ok ha u hu
  exact ⟨e.2, by rw [← e1]; exact mem_lookup iv.nd he⟩
theorem wof_eq (ok : Tok T N) (ha : a < N) {v : List Nat} {x : Nat} (hv : val T.length v) (hx : gow T v a = x) (hm : ∀ u, val T.length u → gow T u a = x → cod T.length v ≤ cod T.length u) : wof T N a x = some v := by
  obtain ⟨w, hw⟩ := wof_some ok ha hv
  rw [hx] at hw
  obtain ⟨w1, w2, w3⟩ := wof_spec ok ha hw
  rw [hw, cod_inj w v w2 hv (Nat.le_antisymm (w3 v hv hx) (hm w w2 w1))]
end
end WY

set_option Elab.async false
set_option linter.all false
set_option autoImplicit false
set_option maxRecDepth 100000
set_option maxHeartbeats 4000000
/-! WY: letters and their backs; how far; always nearer by the first letter. -/
namespace WY
open VP
structure Clo (T : List (List Nat)) (N : Nat) : Prop extends Tok T N where
  bk : ∀ i, i < T.length → ∃ i', i' < T.length ∧ ∀ x, x < N → nx (tn T i') (nx (tn T i) x) = x
section
variable {T : List (List Nat)} {N : Nat}
theorem back_word (c : Clo T N) : ∀ (u : List Nat) (a : Nat), val T.length u → a < N → ∃ v, val T.length v ∧ v.length = u.length ∧ gow T v (gow T u a) = a
  | [], a, _, _ => ⟨[], val_nil, rfl, rfl⟩
  | i :: u, a, hv, ha => by
    rw [val_cons] at hv
    obtain ⟨v, v1, v2, v3⟩ := back_word c u (nx (tn T i) a) hv.2 (c.toTok.lt hv.1 ha)
    obtain ⟨i', h1, h2⟩ := c.bk i hv.1
    refine ⟨v ++ [i'], val_app.mpr ⟨v1, val_one.mpr h1⟩, by simp [v2], ?_⟩
    rw [gow_snoc]
    show nx (tn T i') (gow T v (gow T u (nx (tn T i) a))) = a
    rw [v3, h2 a ha]
def isD (T : List (List Nat)) (x g k : Nat) : Prop := (∃ u, val T.length u ∧ u.length = k ∧ gow T u x = g) ∧ ∀ u, val T.length u → gow T u x = g → k ≤ u.length
theorem isD_one {x g k k' : Nat} (h : isD T x g k) (h' : isD T x g k') : k = k' := by
  obtain ⟨⟨u, u1, u2, u3⟩, m⟩ := h
  obtain ⟨⟨v, v1, v2, v3⟩, m'⟩ := h'
  have := m v v1 v3
  have := m' u u1 u3
  omega
def farO (T : List (List Nat)) (N g x : Nat) : Option Nat := (wof T N g x).map List.length
theorem far_isD (c : Clo T N) {x g k : Nat} (hx : x < N) (hg : g < N) (h : farO T N g x = some k) : isD T x g k := by
  unfold farO at h
  cases hw : wof T N g x with
  | none => rw [hw] at h; cases h
  | some w =>
    rw [hw] at h
    cases h
    obtain ⟨w1, w2, w3⟩ := wof_spec c.toTok hg hw
    refine ⟨?_, fun u hu hux => ?_⟩
    · obtain ⟨v, v1, v2, v3⟩ := back_word c w g w2 hg
      exact ⟨v, v1, v2, by rw [← v3, w1]⟩
    · obtain ⟨v, v1, v2, v3⟩ := back_word c u x hu hx
      rw [hux] at v3
      refine Decidable.byContradiction fun q => ?_
      have h1 := w3 v v1 v3
      have h2 := cod_len (B := T.length) v w v1 (by omega)
      omega
theorem isD_far (c : Clo T N) {x g k : Nat} (hx : x < N) (hg : g < N) (h : isD T x g k) : farO T N g x = some k := by
  obtain ⟨u, u1, u2, u3⟩ := h.1
  obtain ⟨v, v1, v2, v3⟩ := back_word c u x u1 hx
  rw [u3] at v3
  obtain ⟨w, hw⟩ := wof_some c.toTok hg v1
  rw [v3] at hw
  have e : farO T N g x = some w.length := by unfold farO; rw [hw]; rfl
  rw [e, isD_one (far_isD c hx hg e) h]
theorem far_reach (c : Clo T N) {x g : Nat} (hx : x < N) (hg : g < N) {u : List Nat} (hu : val T.length u) (h : gow T u x = g) : ∃ k, farO T N g x = some k := by
  obtain ⟨v, v1, v2, v3⟩ := back_word c u x hu hx
  rw [h] at v3
  obtain ⟨w, hw⟩ := wof_some c.toTok hg v1
  rw [v3] at hw
  exact ⟨w.length, by unfold farO; rw [hw]; rfl⟩
/-- the first letter that leads nearer -/
def nearB (T : List (List Nat)) (F : Nat → Option Nat) (d x i : Nat) : Bool := decide (F (nx (tn T i) x) = some d)
def fiL (T : List (List Nat)) (F : Nat → Option Nat) (d x : Nat) : List Nat := (List.range T.length).filter (nearB T F d x)
def fi (T : List (List Nat)) (F : Nat → Option Nat) (d x : Nat) : Nat := (fiL T F d x).headD 0
def gre (T : List (List Nat)) (F : Nat → Option Nat) : Nat → Nat → List Nat
  | 0, _ => []
  | d + 1, x => fi T F d x :: gre T F d (nx (tn T (fi T F d x)) x)
theorem fi_spec {F : Nat → Option Nat} {d x l : Nat} (hl : l < T.length) (h : nearB T F d x l = true) : fi T F d x < T.length ∧ nearB T F d x (fi T F d x) = true ∧ fi T F d x ≤ l ∧ ∃ r, fiL T F d x = fi T F d x :: r := by
  have hm : l ∈ fiL T F d x := List.mem_filter.mpr ⟨List.mem_range.mpr hl, h⟩
  have hs : (fiL T F d x).Pairwise (· < ·) := List.Pairwise.filter _ List.pairwise_lt_range
  unfold fi
  cases hL : fiL T F d x with
  | nil => rw [hL] at hm; cases hm
  | cons y r =>
    rw [hL] at hm hs
    have hy : y ∈ fiL T F d x := by rw [hL]; exact List.mem_cons_self
    obtain ⟨y1, y2⟩ := List.mem_filter.mp hy
    refine ⟨List.mem_range.mp y1, y2, ?_, r, rfl⟩
    rcases List.mem_cons.mp hm with e | hm
    · exact Nat.le_of_eq e.symm
    · exact Nat.le_of_lt ((List.pairwise_cons.mp hs).1 l hm)
theorem gre_ok (c : Clo T N) {g : Nat} (hg : g < N) : ∀ (d x : Nat), x < N → isD T x g d → val T.length (gre T (farO T N g) d x) ∧ (gre T (farO T N g) d x).length = d ∧ gow T (gre T (farO T N g) d x) x = g ∧
    ∀ u, val T.length u → gow T u x = g → cod T.length (gre T (farO T N g) d x) ≤ cod T.length u
  | 0, x, hx, h => by
    obtain ⟨⟨u, u1, u2, u3⟩, _⟩ := h
    cases u with
    | nil => exact ⟨val_nil, rfl, u3, fun v _ _ => Nat.zero_le _⟩
    | cons _ _ => cases u2
  | d + 1, x, hx, h => by
    -- the next point of a word of this length
    have step : ∀ l v, val T.length (l :: v) → v.length = d → gow T (l :: v) x = g → isD T (nx (tn T l) x) g d := by
      intro l v hv hl hgo
      rw [val_cons] at hv
      refine ⟨⟨v, hv.2, hl, hgo⟩, fun u hu hug => ?_⟩
      have := h.2 (l :: u) (val_cons.mpr ⟨hv.1, hu⟩) hug
      simp at this; omega
    obtain ⟨⟨u, u1, u2, u3⟩, hmin⟩ := h
    have hB : ∀ l v, val T.length (l :: v) → v.length = d → gow T (l :: v) x = g → nearB T (farO T N g) d x l = true ∧ l < T.length := by
      intro l v hv hl hgo
      have hlt := (val_cons.mp hv).1
      unfold nearB
      rw [decide_eq_true_iff]
      exact ⟨isD_far c (c.toTok.lt hlt hx) hg (step l v hv hl hgo), hlt⟩
    cases u with
    | nil => cases u2
    | cons l0 v0 =>
      have hv0 : v0.length = d := by simpa using u2
      obtain ⟨b1, b2⟩ := hB l0 v0 u1 hv0 u3
      obtain ⟨f1, f2, f3, _⟩ := fi_spec b2 b1
      have hfx := c.toTok.lt f1 hx
      have hD : isD T (nx (tn T (fi T (farO T N g) d x)) x) g d := far_isD c hfx hg (by simpa [nearB] using f2)
      obtain ⟨g1, g2, g3, g4⟩ := gre_ok c hg d _ hfx hD
      refine ⟨val_cons.mpr ⟨f1, g1⟩, by simp [gre, g2], g3, fun w hw hwg => ?_⟩
      show cod T.length (fi T (farO T N g) d x :: gre T (farO T N g) d (nx (tn T (fi T (farO T N g) d x)) x)) ≤ _
      have hwl := hmin w hw hwg
      by_cases hlen : w.length = d + 1
      · cases w with
        | nil => cases hlen
        | cons l v =>
          have hvl : v.length = d := by simpa using hlen
          obtain ⟨c1, c2⟩ := hB l v hw hvl hwg
          obtain ⟨_, _, c3, _⟩ := fi_spec c2 c1
          rcases Nat.lt_or_eq_of_le c3 with q | q
          · exact Nat.le_of_lt (cod_front q _ v (val_cons.mpr ⟨f1, g1⟩) (by rw [g2, hvl]))
          · rw [← q] at hwg hw
            rw [← q]
            exact cod_cons (by rw [g2, hvl]) (g4 v (val_cons.mp hw).2 hwg)
      · refine Nat.le_of_lt (cod_len _ w (val_cons.mpr ⟨f1, g1⟩) ?_)
        simp [g2]; omega
/-- the told word is the one that always leads nearer -/
theorem wof_gre (c : Clo T N) {x g d : Nat} (hx : x < N) (hg : g < N) (h : farO T N g x = some d) : wof T N x g = some (gre T (farO T N g) d x) := by
  obtain ⟨h1, h2, h3, h4⟩ := gre_ok c hg d x hx (far_isD c hx hg h)
  exact wof_eq c.toTok hx h1 h3 h4
theorem wof_none (c : Clo T N) {x g : Nat} (hx : x < N) (hg : g < N) (h : farO T N g x = none) : wof T N x g = none := by
  cases hw : wof T N x g with
  | none => rfl
  | some w =>
    obtain ⟨w1, w2, _⟩ := wof_spec c.toTok hx hw
    obtain ⟨k, hk⟩ := far_reach c hx hg w2 w1
    rw [h] at hk; cases hk
end
/-! ### the letters of some turns -/
def lts (gs : List (List Nat)) : List (List Nat) := gs.flatMap fun g => [g, inv g]
theorem lts_length : ∀ gs : List (List Nat), (lts gs).length = 2 * gs.length
  | [] => rfl
  | g :: gs => by
    show ([g, inv g] ++ lts gs).length = _
    rw [List.length_append, lts_length gs]
    simp only [List.length_cons, List.length_nil]; omega
theorem lts_even : ∀ (gs : List (List Nat)) (k : Nat), tn (lts gs) (2 * k) = gs.getD k []
  | [], k => by simp [lts, tn]
  | g :: gs, 0 => rfl
  | g :: gs, k + 1 => by
    have h := lts_even gs k
    show (g :: inv g :: lts gs).getD (2 * (k + 1)) [] = gs.getD k []
    rw [← h, show 2 * (k + 1) = 2 * k + 1 + 1 by omega]
    rfl
theorem lts_odd : ∀ (gs : List (List Nat)) (k : Nat), k < gs.length → tn (lts gs) (2 * k + 1) = inv (gs.getD k [])
  | [], k, h => by cases h
  | g :: gs, 0, _ => rfl
  | g :: gs, k + 1, h => by
    have h := lts_odd gs k (by simpa using h)
    show (g :: inv g :: lts gs).getD (2 * (k + 1) + 1) [] = inv (gs.getD k [])
    rw [← h, show 2 * (k + 1) + 1 = 2 * k + 1 + 1 + 1 by omega]
    rfl
theorem lts_snoc (gs : List (List Nat)) (g : List Nat) : lts (gs ++ [g]) = lts gs ++ [g, inv g] := by
  unfold lts; rw [List.flatMap_append]; simp
theorem getD_mem {gs : List (List Nat)} {k : Nat} (h : k < gs.length) : gs.getD k [] ∈ gs := by
  rw [List.getD_eq_getElem?_getD, List.getElem?_eq_getElem h]; exact List.getElem_mem h
theorem inv_at {p : List Nat} (hp : Pm p) {x : Nat} (h : x < p.length) : nx (inv p) (nx p x) = x := by
  rw [nx_inv' (nx_lt hp h), idx_nx hp h]
theorem at_inv {p : List Nat} (hp : Pm p) {x : Nat} (h : x < p.length) : nx p (nx (inv p) x) = x := by
  rw [nx_inv' h, nx_idx hp h]
theorem lts_clo {gs : List (List Nat)} {N : Nat} (h : ∀ g ∈ gs, Pm g ∧ g.length = N) : Clo (lts gs) N := by
  have par : ∀ i, i < (lts gs).length → ∃ k, k < gs.length ∧ (i = 2 * k ∨ i = 2 * k + 1) := fun i hi => by
    rw [lts_length] at hi
    exact ⟨i / 2, by omega, by omega⟩
  refine ⟨⟨fun i hi => ?_⟩, fun i hi => ?_⟩
  · obtain ⟨k, hk, rfl | rfl⟩ := par i hi
    · rw [lts_even]; exact h _ (getD_mem hk)
    · rw [lts_odd _ _ hk]
      obtain ⟨h1, h2⟩ := h _ (getD_mem hk)
      exact ⟨inv_pm h1, by rw [inv_length]; exact h2⟩
  · obtain ⟨k, hk, rfl | rfl⟩ := par i hi
    · refine ⟨2 * k + 1, by rw [lts_length]; omega, fun x hx => ?_⟩
      obtain ⟨h1, h2⟩ := h _ (getD_mem hk)
      rw [lts_even, lts_odd _ _ hk, inv_at h1 (by omega)]
    · refine ⟨2 * k, by rw [lts_length]; omega, fun x hx => ?_⟩
      obtain ⟨h1, h2⟩ := h _ (getD_mem hk)
      rw [lts_even, lts_odd _ _ hk, at_inv h1 (by omega)]
/-- a letter as it is told -/
def lv (i : Nat) : Int := if i % 2 = 0 then ((i / 2 : Nat) : Int) + 1 else -((i / 2 : Nat) : Int) - 1
theorem lv_even (k : Nat) : lv (2 * k) = (k : Int) + 1 := by
  unfold lv; rw [if_pos (by omega), show 2 * k / 2 = k by omega]
theorem lv_odd (k : Nat) : lv (2 * k + 1) = -(k : Int) - 1 := by
  unfold lv; rw [if_neg (by omega), show (2 * k + 1) / 2 = k by omega]
theorem lv_inj {i j : Nat} (h : lv i = lv j) : i = j := by
  unfold lv at h
  split at h <;> split at h <;> omega
end WY

set_option Elab.async false
set_option linter.all false
set_option autoImplicit false
set_option maxRecDepth 100000
set_option maxHeartbeats 4000000
/-! Rules that the hand layer lacks: enumerate, each pair's object known. -/
namespace PySem
open Sem (wp)
open AutoSeq1 (wpAny_loadPart')
theorem vs_meets_enum {v : Value} {o : Obj} {H : Heap → Prop} (B : Begins v o H) :
    Meets (Builtin.«enumerate.__new__» ⟨[.type "enumerate", v], []⟩) (fun _ R s => H s.heap ∧
      R (.ok (.ret (.ref (s.heap.push o).objs.size))) { s with heap := (s.heap.push o).push { cls := .type "enumerate", data := .fields #[.none, .bool false, .ref s.heap.objs.size, rawInt 0, .none, .none] } }) :=
  .of_wp fun prog w A R s h => by
    obtain ⟨hp, g, d, tk, os⟩ := s; obtain ⟨h1, h⟩ := h
    have hsub := sub_enumerate
    have q1 : ∀ {A' : Around} {E : Value → Shared → Prop} {Q : Value → Shared → Prop}, Q (.ref hp.objs.size) ⟨hp.push o, g, d, tk, os⟩ → wpAny (model prog w) A' (pyIter v) Q E ⟨hp, g, d, tk, os⟩ :=
      fun q => B.iter prog w _ _ ⟨hp, g, d, tk, os⟩ _ h1 q
    wp_walk using q1
    refine wpAny_stack_any fun st => wpAny_pure ?_
    split
    · rename_i c _ _ _ _ _
      cases (c == Value.type "enumerate")
      · wp_walk using q1
        exact ⟨_, rfl, h⟩
      · wp_walk using q1
        exact ⟨_, rfl, h⟩
    · wp_walk using q1
      exact ⟨_, rfl, h⟩
theorem vs_enum_begins {prog : Program} {w : World} {A : Around} {E : Value → Shared → Prop} {s : Shared} {v : Value} {o : Obj} {H : Heap → Prop} {Q : Value → Shared → Prop} (B : Begins v o H) (h1 : H s.heap)
    (h : ∀ h', IsEnum h' (s.heap.objs.size + 1) s.heap.objs.size 0 .none → h'.get? s.heap.objs.size = some o → h'.objs.size = s.heap.objs.size + 2 →
      (∀ b o, s.heap.get? b = some o → h'.get? b = some o) → Q (.ref (s.heap.objs.size + 1)) { s with heap := h' }) :
    wpAny (model prog w) A (call (.type "enumerate") [v]) Q E s := by
  refine callType_new F.called_enumerate (by decide) (F.typeCall_enumerate_1 _) (F.newCall_enumerate_1 _) (fun obj => F.args_object_init_2 obj _) F.entry_enumerate_new
    (vs_meets_enum B) ⟨h1, ?_⟩
  have hz : (s.heap.push o).objs.size = s.heap.objs.size + 1 := Heap.size_push ..
  show _ ∧ _
  rw [hz]
  have he : IsEnum ((s.heap.push o).push { cls := .type "enumerate", data := .fields #[.none, .bool false, .ref s.heap.objs.size, rawInt 0, .none, .none] }) (s.heap.objs.size + 1) s.heap.objs.size 0 .none := by
    have := Heap.get?_push_size (s.heap.push o) (o := { cls := .type "enumerate", data := .fields #[.none, .bool false, .ref s.heap.objs.size, rawInt 0, .none, .none] }) rfl
    rw [hz] at this; exact this
  refine ⟨⟨_, he, rfl⟩, h _ he (Heap.get?_push_of_some _ (Heap.get?_push_size _ B.free)) (by rw [Heap.size_push, hz]) fun b o x => Heap.get?_push_of_some _ (Heap.get?_push_of_some _ x)⟩
end PySem
namespace L2
open PySem PySem.Spec PyProof.Rows
/-- the tuple at a as it stands, each item in a new pair -/
def IteT (K : PySem.W.Frag) (a : Addr) : It :=
  ⟨fun i H => ∃ (xs : List V) (x : V), SqT K H a xs ∧ xs[i]? = some x, fun i H v H' => ∃ T o x, v = .ref T ∧ H T = none ∧ (o : Obj).dict = none ∧ H' = upd H T (.frz o (.tup [.int (i : Nat), x])) ∧ ∀ xs, SqT K H a xs → xs[i]? = some x, fun i H => ∃ xs : List V, SqT K H a xs ∧ xs.length = i⟩
theorem turn_enumT {P : Program} {w : World} {K : PySem.W.Frag} {elts : List Expr} {kk : Nat} {tpos : Pos} (a e it : Addr) :
    Turn P w K (.Tuple elts kk tpos) (IteT K a) [e, it] e (fun i h => (∃ old, IsEnum h e it ((i : Nat) : Int) old) ∧ h.IsTupleIter it a i ∧ e ≠ it ∧ a ≠ it ∧ a ≠ e) where
  mem := by simp
  obj := fun i h st b hb => by
    obtain ⟨⟨old, he⟩, ⟨o, ho, hc, hd⟩, _⟩ := st
    have e' : b = e ∨ b = it := by simpa using hb
    rcases e' with z | z
    · rw [z]; exact ⟨_, he, fun v q => nomatch q⟩
    · rw [z]; exact ⟨o, ho, fun v q => by rw [hd] at q; cases q⟩
  keep := fun i h h' st k => let ⟨⟨old, he⟩, hi, hne⟩ := st; ⟨⟨old, k e (by simp) _ he⟩, hi.at fun o q => k it (by simp) o q, hne⟩
  item := by
    intro X hP hw hK hc i pins s σ H E I hf st hg
    subst hP hw hK
    obtain ⟨⟨old, he⟩, hit, hne, hai, hae⟩ := st
    obtain ⟨xs, x, hq, hx⟩ := hg
    obtain ⟨its, rv, p, hz⟩ := I.tuple hq
    obtain ⟨u, hu, ru⟩ := rv.get hx
    have hel : e < s.heap.objs.size := Heap.lt_size he
    have hil : it < s.heap.objs.size := by obtain ⟨_, q, _⟩ := hit; exact Heap.lt_size q
    have D := Draws.tuple (prog := X.prog) (w := X.w) (A := X.A.in1) (show X.A.in1.handled = none from I.ok.hd hc) it a hai its.toArray
    have hlt : i < its.toArray.size := by
      have := (List.getElem?_eq_some_iff.mp hu).1
      simpa using this
    refine wpAny_pyNext_enum_itemD D he ⟨hit, p⟩ hlt hne (by simp; exact ⟨hne, fun z => hae z.symm⟩) fun u' h' tk hP ho hs' hT hsz hk => ?_
    have eu : u' = u := by
      have : its.toArray[i]? = some u := by simpa using hu
      rw [this] at hP; exact (Option.some.inj hP).symm
    subst eu
    refine ⟨_, rfl, wpAny_letOwnedTupleGo_enum (s := { s with heap := h', toks := tk + 1 }) ho fun h'' he' sb => ?_⟩
    have hT2 : h''.get? s.heap.objs.size = some { cls := .type "tuple", data := .seq #[.int i tk, u'] } := (sb.2 _ (Nat.ne_of_gt hel)).trans hT
    have new : ObjOk X.prog X.w (upd H s.heap.objs.size (.frz { cls := .type "tuple", data := .seq #[.int i tk, u'] } (.tup [.int (i : Nat), x]))) h'' s.heap.objs.size (.frz { cls := .type "tuple", data := .seq #[.int i tk, u'] } (.tup [.int (i : Nat), x])) :=
      ⟨hT2, by show 2 ≤ sizeLine; decide, [.int i tk, u'], .cons ⟨_, rfl⟩ (.cons ru .nil), ⟨_, hT2, rfl, _, rfl⟩⟩
    have I1 : Inv X pins σ (upd H s.heap.objs.size (.frz { cls := .type "tuple", data := .seq #[.int i tk, u'] } (.tup [.int (i : Nat), x]))) { s with heap := h'', toks := tk + 1 } :=
      I.turnedNew (ch := [e, it]) (fun b ob hb q => (sb.2 b (fun z => hb (by simp [z]))).trans (hk b ob (fun z => hb (by simp [z])) (fun z => hb (by simp [z])) q)) hf (Nat.le_refl _) new
    refine ⟨.ref s.heap.objs.size, _, I1, rfl, ⟨_, _, x, rfl, I.hok.fresh (Nat.le_refl _), rfl, rfl, fun ys hy => by rw [I.tuple_inj hy hq]; exact hx⟩, ⟨⟨u', ?_⟩, hs'.1.at fun o q => (sb.2 it (Ne.symm hne)).trans q, hne, hai, hae⟩, fun b hb => ?_⟩
    · have e1 : ((i + 1 : Nat) : Int) = (i : Int) + 1 := by omega
      rw [e1]; exact he'
    · have hb' : b < s.heap.objs.size := by
        have e' : b = e ∨ b = it := by simpa using hb
        rcases e' with z | z
        · rw [z]; exact hel
        · rw [z]; exact hil
      rw [upd_ne (Nat.ne_of_lt hb')]
      exact (hf b hb).1
  done := by
    intro X hP hw hK hc i pins s σ H E I hf st hg
    subst hP hw hK
    obtain ⟨⟨old, he⟩, hit, hne, hai, hae⟩ := st
    obtain ⟨xs, hq, hx⟩ := hg
    obtain ⟨its, rv, p, hz⟩ := I.tuple hq
    obtain ⟨f0, f1, f2, f3, f4, f5⟩ := hf it (by simp)
    have hl := rv.length
    have D := Draws.tuple (prog := X.prog) (w := X.w) (A := X.A.in1) (show X.A.in1.handled = none from I.ok.hd hc) it a hai its.toArray
    have hi : i = its.toArray.size := by simp; omega
    subst hi
    exact wpAny_pyNext_enum_endD D he ⟨hit, p⟩ fun h' eb => ⟨rfl, I.turned (t' := s.toks) (fun b o hb q => eb b o hb q) f0 f1 f3 f4 f5⟩
  self := fun A i s Q E st h => let ⟨⟨_, he⟩, _⟩ := st; wpAny_pyIter_enum he h
def iEnumT (K : PySem.W.Frag) (ta : TA) : TI := fun σ H R => ta σ H fun vs H1 => ∃ a xs, vs = [.ref a] ∧ SqT K H1 a xs ∧ R (IteT K a) H1
theorem pi_enumT {X : Cx} {e : Expr} {ta : TA} {p pos tpos : Pos} {elts : List Expr} {kk : Nat} (hg : Gl X "enumerate") (hm : X.mg "enumerate" = none) (ha : PA X [e] ta) (hs : starEach [e] X.env = [(false, eval e X.env)]) :
    PI X (.Tuple elts kk tpos) (.Call (.Name "enumerate" p) [e] [] pos) (iEnumT X.K ta) := by
  refine ⟨fun pins s σ H R I h => ?_⟩
  refine Call_ (ld_blt I hg hm boot_enumerate (PyProof.Rows.callWith_type1 (thn (ha.run pos pins s σ H _ I h) fun us s1 ⟨vs, H1, I1, r1, q1⟩ => ?_) hs rfl))
  obtain ⟨a, xs, ex, hq, q⟩ := q1
  subst ex
  cases r1 with
  | cons r rr =>
    cases rr
    cases r
    obtain ⟨its, rv, p', hz⟩ := I1.tuple hq
    have hal : a < s1.heap.objs.size := p'.lt
    refine vs_enum_begins (begins_tuple a its.toArray) p' fun h' he hit hsz hk => wpAny_pyIter_enum he ?_
    have I2 : Inv X pins σ H1 { s1 with heap := h' } := I1.kept (t' := s1.toks) hk
    refine ⟨s1.heap.objs.size + 1, [s1.heap.objs.size + 1, s1.heap.objs.size], _, _, H1, rfl, I2, turn_enumT a (s1.heap.objs.size + 1) s1.heap.objs.size, ⟨⟨.none, he⟩, ⟨_, hit, rfl, rfl⟩, Nat.succ_ne_self _, Nat.ne_of_lt hal, Nat.ne_of_lt (Nat.lt_succ_of_lt hal)⟩, fun b hb => ?_, q⟩
    have e' : b = s1.heap.objs.size + 1 ∨ b = s1.heap.objs.size := by simpa using hb
    have hle : s1.heap.objs.size ≤ b := by
      rcases e' with z | z
      · rw [z]; exact Nat.le_add_right _ _
      · rw [z]; exact Nat.le_refl _
    exact I1.fpOk hle (I1.hok.fresh hle)
/-- the list at a as it stands, each item in a new pair -/
def IteL (K : PySem.W.Frag) (a : Addr) : It :=
  ⟨fun i H => ∃ (xs : List V) (x : V), SqL K H a xs ∧ xs[i]? = some x, fun i H v H' => ∃ T o x, v = .ref T ∧ H T = none ∧ (o : Obj).dict = none ∧ H' = upd H T (.frz o (.tup [.int (i : Nat), x])) ∧ ∀ xs, SqL K H a xs → xs[i]? = some x, fun i H => ∃ xs : List V, SqL K H a xs ∧ xs.length = i⟩
theorem turn_enumL {P : Program} {w : World} {K : PySem.W.Frag} {elts : List Expr} {kk : Nat} {tpos : Pos} (a e it : Addr) :
    Turn P w K (.Tuple elts kk tpos) (IteL K a) [e, it] e (fun i h => (∃ old, IsEnum h e it ((i : Nat) : Int) old) ∧ h.IsListIter it a i ∧ e ≠ it ∧ a ≠ it ∧ a ≠ e) where
  mem := by simp
  obj := fun i h st b hb => by
    obtain ⟨⟨old, he⟩, ⟨o, ho, hc, hd⟩, _⟩ := st
    have e' : b = e ∨ b = it := by simpa using hb
    rcases e' with z | z
    · rw [z]; exact ⟨_, he, fun v q => nomatch q⟩
    · rw [z]; exact ⟨o, ho, fun v q => by rw [hd] at q; cases q⟩
  keep := fun i h h' st k => let ⟨⟨old, he⟩, hi, hne⟩ := st; ⟨⟨old, k e (by simp) _ he⟩, hi.at fun o q => k it (by simp) o q, hne⟩
  item := by
    intro X hP hw hK hc i pins s σ H E I hf st hg
    subst hP hw hK
    obtain ⟨⟨old, he⟩, hit, hne, hai, hae⟩ := st
    obtain ⟨xs, x, hq, hx⟩ := hg
    obtain ⟨its, rv, p, hz⟩ := I.list hq
    obtain ⟨u, hu, ru⟩ := rv.get hx
    have hel : e < s.heap.objs.size := Heap.lt_size he
    have hil : it < s.heap.objs.size := by obtain ⟨_, q, _⟩ := hit; exact Heap.lt_size q
    have D := Draws.list (prog := X.prog) (w := X.w) (A := X.A.in1) (show X.A.in1.handled = none from I.ok.hd hc) it a hai its.toArray
    have hlt : i < its.toArray.size := by
      have := (List.getElem?_eq_some_iff.mp hu).1
      simpa using this
    refine wpAny_pyNext_enum_itemD D he ⟨hit, p.isList⟩ hlt hne (by simp; exact ⟨hne, fun z => hae z.symm⟩) fun u' h' tk hP ho hs' hT hsz hk => ?_
    have eu : u' = u := by
      have : its.toArray[i]? = some u := by simpa using hu
      rw [this] at hP; exact (Option.some.inj hP).symm
    subst eu
    refine ⟨_, rfl, wpAny_letOwnedTupleGo_enum (s := { s with heap := h', toks := tk + 1 }) ho fun h'' he' sb => ?_⟩
    have hT2 : h''.get? s.heap.objs.size = some { cls := .type "tuple", data := .seq #[.int i tk, u'] } := (sb.2 _ (Nat.ne_of_gt hel)).trans hT
    have new : ObjOk X.prog X.w (upd H s.heap.objs.size (.frz { cls := .type "tuple", data := .seq #[.int i tk, u'] } (.tup [.int (i : Nat), x]))) h'' s.heap.objs.size (.frz { cls := .type "tuple", data := .seq #[.int i tk, u'] } (.tup [.int (i : Nat), x])) :=
      ⟨hT2, by show 2 ≤ sizeLine; decide, [.int i tk, u'], .cons ⟨_, rfl⟩ (.cons ru .nil), ⟨_, hT2, rfl, _, rfl⟩⟩
    have I1 : Inv X pins σ (upd H s.heap.objs.size (.frz { cls := .type "tuple", data := .seq #[.int i tk, u'] } (.tup [.int (i : Nat), x]))) { s with heap := h'', toks := tk + 1 } :=
      I.turnedNew (ch := [e, it]) (fun b ob hb q => (sb.2 b (fun z => hb (by simp [z]))).trans (hk b ob (fun z => hb (by simp [z])) (fun z => hb (by simp [z])) q)) hf (Nat.le_refl _) new
    refine ⟨.ref s.heap.objs.size, _, I1, rfl, ⟨_, _, x, rfl, I.hok.fresh (Nat.le_refl _), rfl, rfl, fun ys hy => by rw [I.list_inj hy hq]; exact hx⟩, ⟨⟨u', ?_⟩, hs'.1.at fun o q => (sb.2 it (Ne.symm hne)).trans q, hne, hai, hae⟩, fun b hb => ?_⟩
    · have e1 : ((i + 1 : Nat) : Int) = (i : Int) + 1 := by omega
      rw [e1]; exact he'
    · have hb' : b < s.heap.objs.size := by
        have e' : b = e ∨ b = it := by simpa using hb
        rcases e' with z | z
        · rw [z]; exact hel
        · rw [z]; exact hil
      rw [upd_ne (Nat.ne_of_lt hb')]
      exact (hf b hb).1
  done := by
    intro X hP hw hK hc i pins s σ H E I hf st hg
    subst hP hw hK
    obtain ⟨⟨old, he⟩, hit, hne, hai, hae⟩ := st
    obtain ⟨xs, hq, hx⟩ := hg
    obtain ⟨its, rv, p, hz⟩ := I.list hq
    obtain ⟨f0, f1, f2, f3, f4, f5⟩ := hf it (by simp)
    have hl := rv.length
    have D := Draws.list (prog := X.prog) (w := X.w) (A := X.A.in1) (show X.A.in1.handled = none from I.ok.hd hc) it a hai its.toArray
    have hi : i = its.toArray.size := by simp; omega
    subst hi
    exact wpAny_pyNext_enum_endD D he ⟨hit, p.isList⟩ fun h' eb => ⟨rfl, I.turned (t' := s.toks) (fun b o hb q => eb b o hb q) f0 f1 f3 f4 f5⟩
  self := fun A i s Q E st h => let ⟨⟨_, he⟩, _⟩ := st; wpAny_pyIter_enum he h
def iEnumL (K : PySem.W.Frag) (ta : TA) : TI := fun σ H R => ta σ H fun vs H1 => ∃ a xs, vs = [.ref a] ∧ SqL K H1 a xs ∧ R (IteL K a) H1
theorem pi_enumL {X : Cx} {e : Expr} {ta : TA} {p pos tpos : Pos} {elts : List Expr} {kk : Nat} (hg : Gl X "enumerate") (hm : X.mg "enumerate" = none) (ha : PA X [e] ta) (hs : starEach [e] X.env = [(false, eval e X.env)]) :
    PI X (.Tuple elts kk tpos) (.Call (.Name "enumerate" p) [e] [] pos) (iEnumL X.K ta) := by
  refine ⟨fun pins s σ H R I h => ?_⟩
  refine Call_ (ld_blt I hg hm boot_enumerate (PyProof.Rows.callWith_type1 (thn (ha.run pos pins s σ H _ I h) fun us s1 ⟨vs, H1, I1, r1, q1⟩ => ?_) hs rfl))
  obtain ⟨a, xs, ex, hq, q⟩ := q1
  subst ex
  cases r1 with
  | cons r rr =>
    cases rr
    cases r
    obtain ⟨its, rv, p', hz⟩ := I1.list hq
    have hal : a < s1.heap.objs.size := by obtain ⟨_, q, _⟩ := p'.isList; exact Heap.lt_size q
    refine vs_enum_begins (begins_list a its.toArray) p'.isList fun h' he hit hsz hk => wpAny_pyIter_enum he ?_
    have I2 : Inv X pins σ H1 { s1 with heap := h' } := I1.kept (t' := s1.toks) hk
    refine ⟨s1.heap.objs.size + 1, [s1.heap.objs.size + 1, s1.heap.objs.size], _, _, H1, rfl, I2, turn_enumL a (s1.heap.objs.size + 1) s1.heap.objs.size, ⟨⟨.none, he⟩, ⟨_, hit, rfl, rfl⟩, Nat.succ_ne_self _, Nat.ne_of_lt hal, Nat.ne_of_lt (Nat.lt_succ_of_lt hal)⟩, fun b hb => ?_, q⟩
    have e' : b = s1.heap.objs.size + 1 ∨ b = s1.heap.objs.size := by simpa using hb
    have hle : s1.heap.objs.size ≤ b := by
      rcases e' with z | z
      · rw [z]; exact Nat.le_add_right _ _
      · rw [z]; exact Nat.le_refl _
    exact I1.fpOk hle (I1.hok.fresh hle)
end L2

set_option Elab.async false
set_option linter.all false
set_option autoImplicit false
set_option maxRecDepth 100000
set_option maxHeartbeats 4000000
/-! VS: tuples whose object is known to the last (so that a method may be asked of them): how each is made. -/
namespace VS
open PySem PySem.Spec PyProof.Rows L2
/-- what stands at a stays; a table of code objects may grow -/
def AtO (H' : Hp) (a : Addr) : HO → Prop
  | .tbl _ => ∃ ps, H' a = some (.tbl ps)
  | o => H' a = some o
def Same (H H' : Hp) : Prop := ∀ a o, H a = some o → AtO H' a o
def IsTb (o : HO) : Prop := ∃ ps, o = .tbl ps
theorem atO_iff {H' : Hp} {a : Addr} {o : HO} (n : ¬ IsTb o) : AtO H' a o ↔ H' a = some o := by
  cases o <;> first | exact Iff.rfl | exact absurd ⟨_, rfl⟩ n
theorem AtO.mk {H' : Hp} {a : Addr} {o : HO} (h : H' a = some o) : AtO H' a o := by
  cases o <;> first | exact h | exact ⟨_, h⟩
theorem Same.of {H H' : Hp} (e : ∀ a o, H a = some o → H' a = some o) : Same H H' := fun a o h => .mk (e _ _ h)
theorem Same.to {H H' : Hp} (s : Same H H') {a : Addr} {o : HO} (h : H a = some o) (n : ¬ IsTb o) : H' a = some o := (atO_iff n).mp (s a o h)
theorem Same.refl (H : Hp) : Same H H := .of fun _ _ h => h
theorem AtO.step {H H' : Hp} {a : Addr} {o : HO} (h : AtO H a o) (s : Same H H') : AtO H' a o := by
  by_cases n : IsTb o
  · obtain ⟨ps, rfl⟩ := n
    obtain ⟨ps1, h1⟩ := h
    obtain ⟨ps2, h2⟩ := s a (.tbl ps1) h1
    exact ⟨ps2, h2⟩
  · exact s _ _ ((atO_iff n).mp h)
theorem Same.trans {H H1 H2 : Hp} (x : Same H H1) (y : Same H1 H2) : Same H H2 := fun a o h => (x a o h).step y
theorem AtO.has {H' : Hp} {a : Addr} {o : HO} (h : AtO H' a o) : ∃ o', H' a = some o' := by
  by_cases n : IsTb o
  · obtain ⟨ps, rfl⟩ := n
    obtain ⟨ps1, h1⟩ := h
    exact ⟨_, h1⟩
  · exact ⟨_, (atO_iff n).mp h⟩
theorem AtO.upd {H : Hp} {a b : Addr} {o u : HO} (h : AtO H a o) (n : a ≠ b) : AtO (upd H b u) a o := by
  by_cases t : IsTb o
  · obtain ⟨ps, rfl⟩ := t
    obtain ⟨ps1, h1⟩ := h
    exact ⟨ps1, by rw [upd_ne n]; exact h1⟩
  · exact (atO_iff t).mpr (by rw [upd_ne n]; exact (atO_iff t).mp h)
theorem Same.free {H H' : Hp} (s : Same H H') {l : Addr} (h : H' l = Option.none) : H l = Option.none := by
  cases q : H l with
  | none => rfl
  | some o =>
    obtain ⟨o', h'⟩ := (s _ _ q).has
    rw [h] at h'; cases h'
theorem Same.seq {K : PySem.W.Frag} {H H' : Hp} {a : Addr} {xs : List V} (s : Same H H') (h : SqL K H a xs) : SqL K H' a xs := by
  rcases h with (h | ⟨o, h⟩) | h
  · exact .inl (.inl (s _ _ h))
  · exact .inl (.inr ⟨o, s _ _ h⟩)
  · exact .inr h
/-- the tables of code objects stay good -/
def TbS (T : List (Addr × Str)) (H H' : Hp) : Prop := ∀ p ∈ T, LamX.TabS H p.1 p.2 → LamX.TabS H' p.1 p.2
section
variable {T : List (Addr × Str)} {H H1 H2 H' : Hp}
theorem TbS.refl (H : Hp) : TbS T H H := fun _ _ h => h
theorem TbS.trans (x : TbS T H H1) (y : TbS T H1 H2) : TbS T H H2 := fun p hp h => y p hp (x p hp h)
theorem TbS.new {p : Addr} {o : HO} (h : H p = none) : TbS T H (upd H p o) := fun p _ t => t.ext fun b u e => by
  rw [upd_ne (ne_of_none e h)]; exact e
theorem TbS.tabs (s : TbS T H H') (t : LamX.Tabs T H) : LamX.Tabs T H' := fun p hp => s p hp (t p hp)
/-- a list, a dict is changed: no table, no code object -/
theorem TbS.upd {a : Addr} {h h' : HO} (ha : H a = some h) (nt : ¬ IsTb h) (nc : ∀ c q, h ≠ LamX.CodeO c q) : TbS T H (upd H a h') := fun p _ t => by
  obtain ⟨ps, e1, e2, e3⟩ := t
  have n1 : p.1 ≠ a := fun z => nt ⟨ps, by rw [z, ha] at e1; exact Option.some.inj e1⟩
  refine ⟨ps, by rw [upd_ne n1]; exact e1, e2, fun pos cv hc => ?_⟩
  obtain ⟨c, e4, e5⟩ := e3 pos cv hc
  have n2 : c ≠ a := fun z => nc c p.2 (by rw [z, ha] at e5; rw [z]; exact Option.some.inj e5)
  exact ⟨c, e4, by rw [upd_ne n2]; exact e5⟩
end
/-- a tuple made by the program: its object is kept, it has no dict -/
def Tp (H : Hp) (a : Addr) (vs : List V) : Prop := ∃ o : Obj, H a = some (.frz o (.tup vs)) ∧ o.dict = none
theorem Tp.mono {H H' : Hp} {a : Addr} {vs : List V} (h : Tp H a vs) (e : Same H H') : Tp H' a vs := let ⟨o, h1, h2⟩ := h; ⟨o, e _ _ h1, h2⟩
theorem Tp.sq {K : PySem.W.Frag} {H : Hp} {a : Addr} {vs : List V} (h : Tp H a vs) : SqT K H a vs := let ⟨o, h1, _⟩ := h; .inl (.inr ⟨o, h1⟩)
def NewT (H : Hp) (vs : List V) (Q : VK) : Prop := ∀ (p : Addr) (o : Obj), H p = none → o.dict = none → Q (.ref p) (upd H p (.frz o (.tup vs)))
section
variable {X : Cx} {pins : List (Addr × Obj)} {σ : L2.St} {H : Hp} {s : Shared}
theorem new_t {vs : List V} {us : List Value} {Q : VK} (I : Inv X pins σ H s) (r : Vals vs us) (hz : vs.length ≤ sizeLine) (q : NewT H vs Q) :
    EP X pins σ Q (.ref s.heap.objs.size) { s with heap := s.heap.push { cls := .type "tuple", data := .seq us.toArray } } := by
  have fr := I.hok.fresh (Nat.le_refl s.heap.objs.size)
  refine ⟨.ref s.heap.objs.size, _, I.laid (a := s.heap.objs.size) (t' := s.toks) (o := .frz { cls := .type "tuple", data := .seq us.toArray } (.tup vs)) ?_ (Nat.le_refl _) ?_, rfl, q _ _ fr rfl⟩
  · exact fun b ob e => Heap.get?_push_of_some _ e
  · exact ⟨Heap.get?_push_size _ rfl, hz, us, r, IsTup.new _ _⟩
/-- (a, b, ..) -/
def tTupN (t : TA) : TE := fun σ H Q => t σ H fun xs H1 => xs.length ≤ sizeLine ∧ NewT H1 xs Q
theorem pe_tupN {es : List Expr} {t : TA} {x1 : Nat} {pos : Pos} (h : PA X es t) : PE X (.Tuple es x1 pos) (tTupN t) :=
  ⟨fun pins s σ H Q I hq => wpAny_Tuple_spliced (thn (h.run pos pins s σ H _ I hq) fun us s1 ⟨xs, H1, I1, r, z, q⟩ => ⟨by rw [← r.length]; exact z, new_t I1 r z q⟩)⟩
/-- tuple(xs) -/
theorem call_tupN : CallR X (.type "tuple") (fun xs H Q => ∃ p ys, xs = [.ref p] ∧ ((SqL X.K H p ys ∧ NewT H ys Q) ∨ (SqT X.K H p ys ∧ Q (.ref p) H))) := by
  rintro pins s σ H xs us Q I r ⟨p, ys, rfl, h⟩
  obtain ⟨u, rfl, rx⟩ := vals1 r
  cases rx
  rcases h with ⟨h1, q⟩ | ⟨h1, q⟩
  · obtain ⟨ws, rw, pw, zw⟩ := I.list h1
    have hl := rw.length
    refine call_tuple_list pw.isList (fun h2 kp => ?_) (by simp only [List.size_toArray]; omega)
    exact new_t (I.kept (t' := s.toks) kp) rw zw q
  · obtain ⟨ws, rw, pw, zw⟩ := I.tuple h1
    exact call_tuple_same pw ⟨.ref p, H, I, rfl, q⟩
/-- tuple(range(..)) -/
def tTupRgN (te : L2.St → Hp → (Int → Int → Hp → Prop) → Prop) : TE := fun σ H Q => te σ H fun a b H1 => RgOk a b ∧ NewT H1 (rgV a b) Q
theorem pe_tupRgN {e : Expr} {te : L2.St → Hp → (Int → Int → Hp → Prop) → Prop} {p pos : Pos} (hc : X.calm = true) (hg : Gl X "tuple") (hm : X.mg "tuple" = none) (he : PRg X e te)
    (na : starEach [e] X.env = (false, eval e X.env) :: starEach [] X.env := by rfl) : PE X (.Call (.Name "tuple" p) [e] [] pos) (tTupRgN te) := by
  refine ⟨fun pins s σ H Q I h => Call_ (ld_blt I hg hm boot_tuple (PyProof.Rows.callWith_type1 (args_cons (thn (he pins s σ H _ I h) ?_) na) na))⟩
  rintro x s1 ⟨r, a, b, t, u, v, H1, rfl, hr, I1, ⟨b1, b2, b3, b4, b5⟩, q⟩
  refine args_nil (call_tuple_range (n := (b - a).toNat) (I1.ok.hd hc) hr (small_one b1 b2 b3 b4) (rangeSize_nat a b) b5 fun h' tk acc hk hi => ?_)
  have I2 : Inv X pins σ H1 { s1 with heap := h', toks := tk } := I1.kept hk
  have z : (rgV a b).length ≤ sizeLine := by rw [rgV_length, sizeLine_eq]; omega
  have w := new_t (us := acc.toList) I2 (vals_rg hi) z q
  rw [Array.toArray_toList] at w
  exact w
/-- t + u -/
def rCatN (K : PySem.W.Frag) : R2 := fun x y H Q => ∃ a b xs ys, x = .ref a ∧ y = .ref b ∧ SqT K H a xs ∧ SqT K H b ys ∧ xs.length + ys.length ≤ sizeLine ∧
  (xs = [] → Q (.ref b) H) ∧ (xs ≠ [] → ys = [] → Q (.ref a) H) ∧ (xs ≠ [] → ys ≠ [] → NewT H (xs ++ ys) Q)
theorem op_catN : OpR X (binaryOp .Add) (rCatN X.K) := by
  rintro pins s σ H x y v u Q I rx ry ⟨a, b, xs, ys, rfl, rfl, ha, hb, hz, q0, q1, q2⟩
  cases rx
  cases ry
  obtain ⟨ws, r1, p1, _⟩ := I.tuple ha
  obtain ⟨ts, r2, p2, _⟩ := I.tuple hb
  by_cases hx : xs = []
  · subst hx
    cases r1
    exact cat_tup0 p1 p2 ⟨.ref b, H, I, rfl, q0 rfl⟩
  · refine HT.cat_tup p1 p2 (fun z => hx (r1.nil_iff.mp z)) (fun z => ⟨.ref a, H, I, rfl, q1 hx (r2.nil_iff.mp z)⟩) (fun z => ?_) (by rw [← r1.length, ← r2.length]; exact hz)
    exact new_t I (r1.append r2) (by rw [List.length_append]; exact hz) (q2 hx fun w => z (r2.nil_iff.mpr w))
/-- t[lo:hi] -/
def rSlN (K : PySem.W.Frag) : V → Option Int → Option Int → Hp → VK → Prop := fun x lo hi H Q => ∃ a xs, x = .ref a ∧ SqT K H a xs ∧
  (HT.sIx xs.length 0 lo = 0 ∧ HT.sIx xs.length xs.length hi = xs.length → Q (.ref a) H) ∧ (¬ (HT.sIx xs.length 0 lo = 0 ∧ HT.sIx xs.length xs.length hi = xs.length) → NewT H (cutV xs lo hi) Q)
theorem sl_tupN : SlR X (rSlN X.K) := by
  rintro pins s σ H x v vl vu lo hi sl Q I rx hs pl pu ⟨a, xs, rfl, hx, q1, q2⟩
  cases rx
  obtain ⟨ws, r, ht, hz⟩ := I.tuple hx
  have hl : ws.toArray.size = xs.length := by rw [List.size_toArray]; exact r.length.symm
  refine ⟨"tuple", _, PyProof.Rows.slot_tuple_getitem.lookup, ht.typeIs, ?_⟩
  by_cases hw : HT.sIx xs.length 0 lo = 0 ∧ HT.sIx xs.length xs.length hi = xs.length
  · exact getItem_tuple_whole ht hs pl pu (by rw [hl]; exact hw) ⟨.ref a, H, I, rfl, q1 hw⟩
  · refine HT.getItem_tuple_cut ht hs pl pu (by rw [hl]; exact hw) ?_ (by rw [hl]; exact hz)
    rw [hl]
    have ln := Nat.le_trans (cutV_length xs lo hi) hz
    exact new_t I ((r.drop (HT.sIx xs.length 0 lo)).take (HT.sIx xs.length xs.length hi - HT.sIx xs.length 0 lo)) ln (q2 hw)
/-- t * k -/
def rRepN (K : PySem.W.Frag) : R2 := fun x y H Q => ∃ l k xs, x = .ref l ∧ y = .int k ∧ SqT K H l xs ∧ xs ≠ [] ∧ 2 ≤ k ∧ k ≤ 100000 ∧ xs.length ≤ 100 ∧ NewT H (List.replicate k.toNat xs).flatten Q
theorem rep_len {α : Type} (xs : List α) : ∀ k : Nat, (List.replicate k xs).flatten.length = k * xs.length
  | 0 => by simp
  | k + 1 => by rw [List.replicate_succ, List.flatten_cons, List.length_append, rep_len xs k, Nat.succ_mul]; omega
theorem op_repN : OpR X (binaryOp .Mult) (rRepN X.K) := by
  rintro pins s σ H x y v u Q I rx ry ⟨l, k, xs, rfl, rfl, hT, hne, h1, h2, hz, q⟩
  cases rx
  obtain ⟨t, rfl⟩ := ry
  obtain ⟨ws, r, ⟨⟨c1, dd, da, sl⟩, ho, hc, n, hd⟩, hs⟩ := I.tuple hT
  dsimp only at hc hd
  subst hc hd
  have hle : ws.length = xs.length := r.length.symm
  have hn : ws ≠ [] := fun e => hne (List.eq_nil_of_length_eq_zero (by rw [← hle, e]; rfl))
  have hi : ws.toArray.isEmpty = false := by
    cases ws with
    | nil => exact absurd rfl hn
    | cons a b => rfl
  have hz0 : ws.toArray.size = xs.length := by rw [List.size_toArray, hle]
  obtain ⟨m, rfl⟩ : ∃ m : Nat, k = m := ⟨k.toNat, by omega⟩
  have hm : m * xs.length ≤ 100000 * 100 := Nat.mul_le_mul (by omega) hz
  have e : ((xs.length : Nat) : Int) * (m : Int) = ((m * xs.length : Nat) : Int) := by rw [Nat.mul_comm, Int.natCast_mul]
  have fl : (List.replicate m ws).flatten.length ≤ sizeLine := by rw [rep_len, hle, sizeLine_eq]; omega
  have d0 : (decide ((m : Int) < -(2 ^ 63)) || decide ((m : Int) ≥ 2 ^ 63)) = false := by
    rw [Bool.or_eq_false_iff]
    exact ⟨decide_eq_false (by omega), decide_eq_false (by omega)⟩
  have d1 : (ws.toArray.isEmpty || (m : Int) == 1) = false := by
    rw [hi, Bool.false_or]
    exact beq_eq_false_iff_ne.mpr (by omega)
  have d2 : (decide ((m : Int) ≤ 0) || ws.toArray.isEmpty) = false := by
    rw [hi, Bool.or_false]
    exact decide_eq_false (by omega)
  have d3 : ¬ ((ws.toArray.size : Nat) : Int) * (m : Int) > (2 ^ 63 - 1) / 8 := by rw [hz0, e]; omega
  have d4 : Builtin.Tuple.tupleTooMany (((ws.toArray.size : Nat) : Int) * (m : Int)) = false := by
    rw [hz0, e]
    unfold Builtin.Tuple.tupleTooMany
    rw [sizeLine_eq]
    exact decide_eq_false (by omega)
  refine wpAny_binaryOp_repeat_ref (T := "tuple") (U := "int") (by decide) ⟨_, ho, rfl⟩ (fun z => typeIs_int z m t) noFill_tuple_mul PySem.F.fills_int_mul PySem.F.slot_int_rmul repeat_tuple PySem.F.slot_int_index.lookup ?_
  refine call_meets PySem.F.slot_int_rmul (typeIs_int s m t) PySem.F.entry_int_rmul (PySem.F.args_int_rmul_2 _ _) (int_rmul_tuple m t l ws.toArray n dd sl) ⟨ho, rfl, ⟨_, ho, rfl⟩, ?_⟩
  refine call_meets PySem.F.slot_tuple_mul ⟨_, ho, rfl⟩ PySem.F.entry_tuple_mul (PySem.F.args_tuple_mul_2 _ _) (tuple_mulW l ws.toArray n dd sl m t d0 d1 d2 d3 d4 ?_) ⟨ho, ?_⟩
  · rw [Int.toNat_natCast, size_rep, List.size_toArray]
    exact fl
  · rw [Int.toNat_natCast, size_rep]
    refine new_t I (r.rep m) (by rw [rep_len, sizeLine_eq]; omega) ?_
    rw [Int.toNat_natCast] at q
    exact q
/-- t.index(i), i among the whole numbers of t -/
theorem mt_index : MtR X "tuple.index" (fun x xs H Q => ∃ (a : Addr) (ns : List Int) (k : Int), x = .ref a ∧ xs = [.int k] ∧ SqT X.K H a (ns.map V.int) ∧ k ∈ ns ∧ Q (.int (ns.idxOf k : Nat)) H) := by
  rintro pins s σ H x xs v us Q I rx rs ⟨a, ns, k, rfl, rfl, ha, hk, q⟩
  cases rx
  obtain ⟨u, rfl, rk⟩ := vals1 rs
  obtain ⟨t, rfl⟩ := rk
  obtain ⟨ws, r, p, _⟩ := I.tuple ha
  have hi : IntsAre ws.toArray.toList ns := intsAre_of r
  exact PySem.SeqAt.tuple_index_ints (vs := ws) p hi hk ⟨.int (ns.idxOf k : Nat), H, I.tok _, ⟨_, rfl⟩, q⟩
def tIdx (te : TE) (ta : TA) : TE := fun σ H Q => te σ H fun x H1 => ∃ a vs, x = .ref a ∧ Tp H1 a vs ∧ ta σ H1 fun xs H2 => ∃ (ns : List Int) (k : Int), xs = [.int k] ∧ SqT X.K H2 a (ns.map V.int) ∧ k ∈ ns ∧ Q (.int (ns.idxOf k : Nat)) H2
end
end VS

set_option Elab.async false
set_option linter.all false
set_option autoImplicit false
set_option maxRecDepth 100000
set_option maxHeartbeats 4000000
/-! VS: values without a heap, cells, states. -/
namespace VS
open PySem L2

/-- data as they are seen without a heap -/
inductive D where
  | non | bl (b : Bool) | int (i : Int) | str (x : Str)
  | tup (xs : List D) | lst (xs : List D)
  | dK (ks : List Key) (vs : List D) | dT (ks : List (List Key)) (vs : List D)
  | ins (c : Nat) (ns : List Str) (vs : List D)
  | err (k : Nat)
  | glb (n : Nat)
  deriving Inhabited

/-- the classes and the module's objects by number -/
structure Ctx where
  K : PySem.W.Frag
  cls : Nat → Addr
  glb : Nat → V
  errs : List Nat
  tabs : List (Addr × Str) := []
  root : Hp := fun _ => none
  rootS : Hp := fun _ => none

/-- a caught error of the class at C, at a -/
def ErrO (C a : Addr) : HO := .ext fun h => ∃ (oe : Obj) (vs : Array Value), h.get? a = some oe ∧ Zc (.ref C) none oe ∧ oe.data = .fields vs

mutual
def Rep (G : Ctx) (H : Hp) : D → V → Prop
  | .non, v => v = .non
  | .bl b, v => v = .bl b
  | .int i, v => v = .int i
  | .str x, v => v = .str x
  | .tup xs, v => ∃ a vs, v = .ref a ∧ Tp H a vs ∧ RepL G H xs vs
  | .lst xs, v => ∃ a vs, v = .ref a ∧ H a = some (.lst vs) ∧ RepL G H xs vs
  | .dK ks ds, v => ∃ a vs, v = .ref a ∧ H a = some (.dK (ks.zip vs)) ∧ ks.length = vs.length ∧ RepL G H ds vs
  | .dT ks ds, v => ∃ a vs, v = .ref a ∧ H a = some (.dT (ks.zip vs)) ∧ ks.length = vs.length ∧ RepL G H ds vs
  | .ins c ns ds, v => ∃ a dx vs, v = .ref a ∧ H a = some (.ins (G.cls c) dx (ns.zip vs)) ∧ ns.length = vs.length ∧ RepL G H ds vs
  | .err k, v => ∃ a, v = .ref a ∧ H a = some (ErrO (G.cls k) a) ∧ k ∈ G.errs
  | .glb n, v => v = G.glb n
def RepL (G : Ctx) (H : Hp) : List D → List V → Prop
  | [], vs => vs = []
  | d :: ds, vs => ∃ v ws, vs = v :: ws ∧ Rep G H d v ∧ RepL G H ds ws
end

section
variable {G : Ctx} {H H' : Hp}
theorem same_t {K : PySem.W.Frag} {a : Addr} {xs : List V} (e : Same H H') (h : SqT K H a xs) : SqT K H' a xs := by
  rcases h with (h | ⟨o, h⟩) | h
  · exact .inl (.inl (e _ _ h))
  · exact .inl (.inr ⟨o, e _ _ h⟩)
  · exact .inr h
mutual
theorem Rep.mono (e : Same H H') : ∀ (d : D) (v : V), Rep G H d v → Rep G H' d v
  | .non, _, h => by simpa [Rep] using h
  | .bl _, _, h => by simpa [Rep] using h
  | .int _, _, h => by simpa [Rep] using h
  | .str _, _, h => by simpa [Rep] using h
  | .tup xs, v, h => by
    simp only [Rep] at h ⊢
    obtain ⟨a, vs, h1, h2, h3⟩ := h
    exact ⟨a, vs, h1, h2.mono e, RepL.mono e xs vs h3⟩
  | .lst xs, v, h => by
    simp only [Rep] at h ⊢
    obtain ⟨a, vs, h1, h2, h3⟩ := h
    exact ⟨a, vs, h1, e _ _ h2, RepL.mono e xs vs h3⟩
  | .dK ks ds, v, h => by
    simp only [Rep] at h ⊢
    obtain ⟨a, vs, h1, h2, hl, h3⟩ := h
    exact ⟨a, vs, h1, e _ _ h2, hl, RepL.mono e ds vs h3⟩
  | .dT ks ds, v, h => by
    simp only [Rep] at h ⊢
    obtain ⟨a, vs, h1, h2, hl, h3⟩ := h
    exact ⟨a, vs, h1, e _ _ h2, hl, RepL.mono e ds vs h3⟩
  | .ins c ns ds, v, h => by
    simp only [Rep] at h ⊢
    obtain ⟨a, dx, vs, h1, h2, hl, h3⟩ := h
    exact ⟨a, dx, vs, h1, e _ _ h2, hl, RepL.mono e ds vs h3⟩
  | .err k, v, h => by
    simp only [Rep] at h ⊢
    obtain ⟨a, h1, h2, h3⟩ := h
    exact ⟨a, h1, e _ _ h2, h3⟩
  | .glb n, v, h => by simpa [Rep] using h
theorem RepL.mono (e : Same H H') : ∀ (ds : List D) (vs : List V), RepL G H ds vs → RepL G H' ds vs
  | [], _, h => by simpa [RepL] using h
  | d :: ds, vs, h => by
    simp only [RepL] at h ⊢
    obtain ⟨v, ws, h1, h2, h3⟩ := h
    exact ⟨v, ws, h1, Rep.mono e d v h2, RepL.mono e ds ws h3⟩
end
theorem RepL.length : ∀ {ds : List D} {vs : List V}, RepL G H ds vs → ds.length = vs.length
  | [], _, h => by simp only [RepL] at h; subst h; rfl
  | d :: ds, vs, h => by
    simp only [RepL] at h
    obtain ⟨v, ws, rfl, _, h3⟩ := h
    simp [RepL.length h3]
theorem RepL.nil : RepL G H [] [] := by simp [RepL]
theorem RepL.cons {d : D} {v : V} {ds : List D} {vs : List V} (a : Rep G H d v) (b : RepL G H ds vs) : RepL G H (d :: ds) (v :: vs) := by
  simp only [RepL]; exact ⟨v, vs, rfl, a, b⟩
theorem RepL.get : ∀ {ds : List D} {vs : List V} {i : Nat} {d : D}, RepL G H ds vs → ds[i]? = some d → ∃ v, vs[i]? = some v ∧ Rep G H d v
  | [], _, i, d, _, e => by simp at e
  | x :: ds, vs, 0, d, h, e => by
    simp only [RepL] at h
    obtain ⟨v, ws, rfl, h2, _⟩ := h
    simp at e; subst e
    exact ⟨v, rfl, h2⟩
  | x :: ds, vs, i + 1, d, h, e => by
    simp only [RepL] at h
    obtain ⟨v, ws, rfl, _, h3⟩ := h
    obtain ⟨u, h1, h2⟩ := RepL.get (i := i) h3 (by simpa using e)
    exact ⟨u, by simpa using h1, h2⟩
theorem RepL.getV : ∀ {ds : List D} {vs : List V} {i : Nat} {v : V}, RepL G H ds vs → vs[i]? = some v → ∃ d, ds[i]? = some d ∧ Rep G H d v := fun {ds vs i v} h e => by
  have hl := h.length
  have hi : i < ds.length := by
    have := (List.getElem?_eq_some_iff.mp e).1
    omega
  obtain ⟨u, h1, h2⟩ := RepL.get (i := i) (d := ds[i]) h (by simp [hi])
  rw [h1] at e; cases e
  exact ⟨ds[i], by simp [hi], h2⟩
theorem RepL.append : ∀ {ds es : List D} {vs ws : List V}, RepL G H ds vs → RepL G H es ws → RepL G H (ds ++ es) (vs ++ ws)
  | [], _, _, _, h, k => by simp only [RepL] at h; subst h; simpa using k
  | d :: ds, es, vs, ws, h, k => by
    simp only [RepL] at h
    obtain ⟨v, us, rfl, h2, h3⟩ := h
    exact .cons h2 (RepL.append h3 k)
theorem RepL.take : ∀ {ds : List D} {vs : List V} (n : Nat), RepL G H ds vs → RepL G H (ds.take n) (vs.take n)
  | _, _, 0, _ => by simpa using RepL.nil
  | [], _, n + 1, h => by simp only [RepL] at h; subst h; simpa using RepL.nil
  | d :: ds, vs, n + 1, h => by
    simp only [RepL] at h
    obtain ⟨v, us, rfl, h2, h3⟩ := h
    simpa using RepL.cons h2 (RepL.take n h3)
theorem RepL.drop : ∀ {ds : List D} {vs : List V} (n : Nat), RepL G H ds vs → RepL G H (ds.drop n) (vs.drop n)
  | _, _, 0, h => by simpa using h
  | [], _, n + 1, h => by simp only [RepL] at h; subst h; simpa using RepL.nil
  | d :: ds, vs, n + 1, h => by
    simp only [RepL] at h
    obtain ⟨v, us, rfl, h2, h3⟩ := h
    simpa using RepL.drop n h3
theorem RepL.set : ∀ {ds : List D} {vs : List V} {d : D} {v : V} (n : Nat), Rep G H d v → RepL G H ds vs → RepL G H (ds.set n d) (vs.set n v)
  | [], _, _, _, _, _, h => by simp only [RepL] at h; subst h; simpa using RepL.nil
  | x :: ds, vs, d, v, 0, r, h => by
    simp only [RepL] at h
    obtain ⟨u, us, rfl, h2, h3⟩ := h
    simpa using RepL.cons r h3
  | x :: ds, vs, d, v, n + 1, r, h => by
    simp only [RepL] at h
    obtain ⟨u, us, rfl, h2, h3⟩ := h
    simpa using RepL.cons h2 (RepL.set n r h3)
theorem RepL.reverse : ∀ {ds : List D} {vs : List V}, RepL G H ds vs → RepL G H ds.reverse vs.reverse
  | [], _, h => by simp only [RepL] at h; subst h; simpa using RepL.nil
  | d :: ds, vs, h => by
    simp only [RepL] at h
    obtain ⟨v, us, rfl, h2, h3⟩ := h
    rw [List.reverse_cons, List.reverse_cons]
    exact (RepL.reverse h3).append (.cons h2 .nil)
theorem RepL.eraseIdx : ∀ {ds : List D} {vs : List V} (n : Nat), RepL G H ds vs → RepL G H (ds.eraseIdx n) (vs.eraseIdx n)
  | [], _, _, h => by simp only [RepL] at h; subst h; simpa using RepL.nil
  | d :: ds, vs, 0, h => by
    simp only [RepL] at h
    obtain ⟨v, us, rfl, h2, h3⟩ := h
    simpa using h3
  | d :: ds, vs, n + 1, h => by
    simp only [RepL] at h
    obtain ⟨v, us, rfl, h2, h3⟩ := h
    simpa using RepL.cons h2 (RepL.eraseIdx n h3)
theorem RepL.dropLast {ds : List D} {vs : List V} (h : RepL G H ds vs) : RepL G H ds.dropLast vs.dropLast := by
  rw [List.dropLast_eq_take, List.dropLast_eq_take, h.length]
  exact h.take _
theorem RepL.mem : ∀ {ds : List D} {vs : List V} {v : V}, RepL G H ds vs → v ∈ vs → ∃ d, d ∈ ds ∧ Rep G H d v
  | [], _, _, h, m => by simp only [RepL] at h; subst h; simp at m
  | d :: ds, vs, v, h, m => by
    simp only [RepL] at h
    obtain ⟨u, us, rfl, h2, h3⟩ := h
    rcases List.mem_cons.mp m with rfl | m
    · exact ⟨d, List.mem_cons_self, h2⟩
    · obtain ⟨e, h4, h5⟩ := RepL.mem h3 m
      exact ⟨e, List.mem_cons_of_mem _ h4, h5⟩
theorem RepL.ints : ∀ {ns : List Int} {vs : List V}, RepL G H (ns.map D.int) vs → vs = ns.map V.int
  | [], _, h => by simpa [RepL] using h
  | n :: ns, vs, h => by
    simp only [List.map_cons, RepL] at h
    obtain ⟨u, us, rfl, h2, h3⟩ := h
    simp only [Rep] at h2
    rw [h2, RepL.ints h3]; rfl
theorem repL_ints : ∀ {ns : List Int}, RepL G H (ns.map D.int) (ns.map V.int)
  | [] => .nil
  | n :: ns => by
    rw [List.map_cons, List.map_cons]
    exact .cons (by simp [Rep]) repL_ints
theorem RepL.bls : ∀ {ns : List Bool} {vs : List V}, RepL G H (ns.map D.bl) vs → vs = ns.map V.bl
  | [], _, h => by simpa [RepL] using h
  | n :: ns, vs, h => by
    simp only [List.map_cons, RepL] at h
    obtain ⟨u, us, rfl, h2, h3⟩ := h
    simp only [Rep] at h2
    rw [h2, RepL.bls h3]; rfl
theorem RepL.strs : ∀ {ns : List Str} {vs : List V}, RepL G H (ns.map D.str) vs → vs = ns.map V.str
  | [], _, h => by simpa [RepL] using h
  | n :: ns, vs, h => by
    simp only [List.map_cons, RepL] at h
    obtain ⟨u, us, rfl, h2, h3⟩ := h
    simp only [Rep] at h2
    rw [h2, RepL.strs h3]; rfl
theorem repL_strs : ∀ {ns : List Str}, RepL G H (ns.map D.str) (ns.map V.str)
  | [] => .nil
  | n :: ns => by
    rw [List.map_cons, List.map_cons]
    exact .cons (by simp [Rep]) repL_strs
end

/-! ### containers that a name owns, cells -/
inductive O where
  | lst (xs : List D) | dK (ks : List Key) (vs : List D) | dT (ks : List (List Key)) (vs : List D)
def O.frz : O → D
  | .lst xs => .lst xs
  | .dK ks vs => .dK ks vs
  | .dT ks vs => .dT ks vs
/-- a cell: nothing is known; a value that never changes any more; a container of one's own; one that is only read (handed in: bor; a name's own, as a result: lon) -/
inductive C where
  | un | val (d : D) | own (o : O) | bor (o : O) | lon (o : O)
/-- what may be read -/
def C.look : C → Option D
  | .val d => some d
  | .own o => some o.frz
  | .bor o => some o.frz
  | .lon o => some o.frz
  | .un => none
/-- what may be kept -/
def C.keep : C → Option D
  | .val d => some d
  | .own o => some o.frz
  | _ => none

/-- the object that holds it, its items shared -/
def RepO (G : Ctx) (H : Hp) : O → HO → Prop
  | .lst xs, h => ∃ vs, h = .lst vs ∧ RepL G H xs vs
  | .dK ks ds, h => ∃ vs, h = .dK (ks.zip vs) ∧ ks.length = vs.length ∧ RepL G H ds vs
  | .dT ks ds, h => ∃ vs, h = .dT (ks.zip vs) ∧ ks.length = vs.length ∧ RepL G H ds vs
/-- what is read: the top by H, what lies in it by the shared heap Hs -/
def RdW (G : Ctx) (H Hs : Hp) : D → V → Prop
  | .lst xs, v => ∃ a vs, v = .ref a ∧ SqL G.K H a vs ∧ RepL G Hs xs vs
  | .dK ks ds, v => ∃ a vs, v = .ref a ∧ H a = some (.dK (ks.zip vs)) ∧ ks.length = vs.length ∧ RepL G Hs ds vs
  | .dT ks ds, v => ∃ a vs, v = .ref a ∧ H a = some (.dT (ks.zip vs)) ∧ ks.length = vs.length ∧ RepL G Hs ds vs
  | d, v => Rep G Hs d v

section
variable {G : Ctx} {H Hs H' Hs' H1 Hs1 : Hp}
theorem RepO.mono {o : O} {h : HO} (e : Same H H') (r : RepO G H o h) : RepO G H' o h := by
  cases o with
  | lst xs => obtain ⟨vs, h1, h2⟩ := r; exact ⟨vs, h1, h2.mono e⟩
  | dK ks ds => obtain ⟨vs, h1, hl, h2⟩ := r; exact ⟨vs, h1, hl, h2.mono e⟩
  | dT ks ds => obtain ⟨vs, h1, hl, h2⟩ := r; exact ⟨vs, h1, hl, h2.mono e⟩
theorem RdW.mono {d : D} {v : V} (e : Same H H') (es : Same Hs Hs') (r : RdW G H Hs d v) : RdW G H' Hs' d v := by
  cases d with
  | lst xs => obtain ⟨a, vs, h1, h2, h3⟩ := r; exact ⟨a, vs, h1, e.seq h2, h3.mono es⟩
  | dK ks ds => obtain ⟨a, vs, h1, h2, hl, h3⟩ := r; exact ⟨a, vs, h1, e _ _ h2, hl, h3.mono es⟩
  | dT ks ds => obtain ⟨a, vs, h1, h2, hl, h3⟩ := r; exact ⟨a, vs, h1, e _ _ h2, hl, h3.mono es⟩
  | non => exact Rep.mono es _ _ r
  | bl b => exact Rep.mono es _ _ r
  | int b => exact Rep.mono es _ _ r
  | str b => exact Rep.mono es _ _ r
  | tup b => exact Rep.mono es _ _ r
  | ins c ns vs => exact Rep.mono es _ _ r
  | err k => exact Rep.mono es _ _ r
  | glb n => exact Rep.mono es _ _ r
theorem Rep.rd {d : D} {v : V} (e : Same Hs H) (r : Rep G Hs d v) : RdW G H Hs d v := by
  cases d with
  | lst xs => simp only [Rep] at r; obtain ⟨a, vs, h1, h2, h3⟩ := r; exact ⟨a, vs, h1, SqL.of (e _ _ h2), h3⟩
  | dK ks ds => simp only [Rep] at r; obtain ⟨a, vs, h1, h2, hl, h3⟩ := r; exact ⟨a, vs, h1, e _ _ h2, hl, h3⟩
  | dT ks ds => simp only [Rep] at r; obtain ⟨a, vs, h1, h2, hl, h3⟩ := r; exact ⟨a, vs, h1, e _ _ h2, hl, h3⟩
  | non => exact r
  | bl b => exact r
  | int b => exact r
  | str b => exact r
  | tup b => exact r
  | ins c ns vs => exact r
  | err k => exact r
  | glb n => exact r
theorem RepO.rd {o : O} {h : HO} {a : Addr} (ha : H a = some h) (r : RepO G Hs o h) : RdW G H Hs o.frz (.ref a) := by
  cases o with
  | lst xs => obtain ⟨vs, h1, h2⟩ := r; subst h1; exact ⟨a, vs, rfl, SqL.of ha, h2⟩
  | dK ks ds => obtain ⟨vs, h1, hl, h2⟩ := r; subst h1; exact ⟨a, vs, rfl, ha, hl, h2⟩
  | dT ks ds => obtain ⟨vs, h1, hl, h2⟩ := r; subst h1; exact ⟨a, vs, rfl, ha, hl, h2⟩
theorem RepO.rep {o : O} {h : HO} {a : Addr} (ha : Hs a = some h) (r : RepO G Hs o h) : Rep G Hs o.frz (.ref a) := by
  cases o with
  | lst xs => obtain ⟨vs, h1, h2⟩ := r; subst h1; simp only [O.frz, Rep]; exact ⟨a, vs, rfl, ha, h2⟩
  | dK ks ds => obtain ⟨vs, h1, hl, h2⟩ := r; subst h1; simp only [O.frz, Rep]; exact ⟨a, vs, rfl, ha, hl, h2⟩
  | dT ks ds => obtain ⟨vs, h1, hl, h2⟩ := r; subst h1; simp only [O.frz, Rep]; exact ⟨a, vs, rfl, ha, hl, h2⟩

/-- a step that makes new objects alone: H the heap, Hs the shared part -/
structure Stp (T : List (Addr × Str)) (H Hs H' Hs' : Hp) : Prop where
  a : Same H H'
  b : Same Hs Hs'
  n : ∀ x, Hs x = none → H x ≠ none → Hs' x = none
  s : Same Hs' H'
  t : TbS T H H'
section
variable {T : List (Addr × Str)}
theorem Stp.refl (s : Same Hs H) : Stp T H Hs H Hs := ⟨Same.refl _, Same.refl _, fun _ h _ => h, s, TbS.refl _⟩
theorem Stp.trans (x : Stp T H Hs H1 Hs1) (y : Stp T H1 Hs1 H' Hs') : Stp T H Hs H' Hs' :=
  ⟨x.a.trans y.a, x.b.trans y.b, fun z h k => y.n z (x.n z h k) (fun q => k (x.a.free q)), y.s, x.t.trans y.t⟩
theorem same_new {p : Addr} {o : HO} (h : H p = none) : Same H (upd H p o) := .of fun a u e => by
  rw [upd_ne (ne_of_none e h)]; exact e
theorem same_upd {p : Addr} {o : HO} (s : Same Hs H) : Same (upd Hs p o) (upd H p o) := fun a u e => by
  by_cases h : a = p
  · subst h; rw [upd_same] at e; exact .mk (by rw [upd_same]; exact e)
  · rw [upd_ne h] at e; exact (s _ _ e).upd h
/-- a new shared object -/
theorem Stp.sh {p : Addr} {o : HO} (s : Same Hs H) (h : H p = none) : Stp T H Hs (upd H p o) (upd Hs p o) :=
  ⟨same_new h, same_new (s.free h), fun x h1 h2 => by
    have : x ≠ p := fun e => h2 (by rw [e]; exact h)
    rw [upd_ne this]; exact h1, same_upd s, TbS.new h⟩
/-- a new object that isn't shared -/
theorem Stp.nw {p : Addr} {o : HO} (s : Same Hs H) (h : H p = none) : Stp T H Hs (upd H p o) Hs :=
  ⟨same_new h, Same.refl _, fun x h1 _ => h1, s.trans (same_new h), TbS.new h⟩

theorem Stp.chg {p : Addr} {o u : HO} (x : Stp T H Hs H' Hs') (hp : H p = none) (hs : Hs' p = none) (h2 : H' p = some u) (nt : ¬ IsTb u) (nc : ∀ c q, u ≠ LamX.CodeO c q) : Stp T H Hs (upd H' p o) Hs' :=
  ⟨fun b w z => (x.a _ _ z).upd (ne_of_none z hp), x.b, x.n, fun b w z => (x.s _ _ z).upd (ne_of_none z hs), x.t.trans (.upd h2 nt nc)⟩
theorem Stp.frz {p : Addr} {h : HO} (x : Stp T H Hs H' Hs') (hp : H p = none) (hs : Hs' p = none) (h2 : H' p = some h) : Stp T H Hs H' (upd Hs' p h) :=
  ⟨x.a, x.b.trans (same_new hs), fun z q r => by
    have : z ≠ p := fun e => r (by rw [e]; exact hp)
    rw [upd_ne this]; exact x.n z q r, fun b u z => by
    by_cases hb : b = p
    · subst hb; rw [upd_same] at z; exact .mk (by rw [h2]; exact z)
    · rw [upd_ne hb] at z; exact x.s _ _ z, x.t⟩
theorem Stp.zero (s : Same Hs H) : Stp T (fun _ => none) (fun _ => none) H Hs where
  a := fun _ _ e => absurd e (by simp)
  b := fun _ _ e => absurd e (by simp)
  n := fun _ _ q => absurd rfl q
  s := s
  t := fun _ _ h => by
    obtain ⟨_, e, _⟩ := h
    exact absurd e (by simp)
theorem lst_nt {xs : List V} : ¬ IsTb (.lst xs) := fun ⟨_, z⟩ => by cases z
theorem lst_nc {xs : List V} : ∀ c q, HO.lst xs ≠ LamX.CodeO c q := fun c q z => by unfold LamX.CodeO at z; cases z
theorem dK_nt {ks : List (Key × V)} : ¬ IsTb (.dK ks) := fun ⟨_, z⟩ => by cases z
theorem dK_nc {ks : List (Key × V)} : ∀ c q, HO.dK ks ≠ LamX.CodeO c q := fun c q z => by unfold LamX.CodeO at z; cases z
end
/-- a result: H, Hs ahead, H', Hs' behind -/
def RepC (G : Ctx) (H0 H Hs H' Hs' : Hp) : C → V → Prop
  | .val d, v => Rep G Hs' d v
  | .own o, v => ∃ a h, v = .ref a ∧ H a = none ∧ Hs' a = none ∧ H' a = some h ∧ RepO G Hs' o h
  | .bor o, v => RdW G H0 Hs' o.frz v ∧ Same H0 H'
  | .lon o, v => RdW G H' Hs' o.frz v
  | .un, _ => False
theorem RepC.look {H0 : Hp} {c : C} {d : D} {v : V} (st : Stp G.tabs H Hs H' Hs') (r : RepC G H0 H Hs H' Hs' c v) (e : c.look = some d) :
    ∃ Hs1, Stp G.tabs H Hs H' Hs1 ∧ Same Hs' Hs1 ∧ RdW G H' Hs1 d v := by
  cases c with
  | un => exact r.elim
  | val x => cases e; exact ⟨Hs', st, Same.refl _, Rep.rd st.s r⟩
  | bor o => cases e; exact ⟨Hs', st, Same.refl _, r.1.mono r.2 (Same.refl _)⟩
  | lon o => cases e; exact ⟨Hs', st, Same.refl _, r⟩
  | own o =>
    cases e
    obtain ⟨a, h, rfl, h1, h2, h3, h4⟩ := r
    exact ⟨Hs', st, Same.refl _, h4.rd h3⟩
theorem RepC.kept {H0 : Hp} {c : C} {d : D} {v : V} (st : Stp G.tabs H Hs H' Hs') (r : RepC G H0 H Hs H' Hs' c v) (e : c.keep = some d) :
    ∃ Hs1, Stp G.tabs H Hs H' Hs1 ∧ Same Hs' Hs1 ∧ Rep G Hs1 d v := by
  cases c with
  | un => exact r.elim
  | val x => cases e; exact ⟨Hs', st, Same.refl _, r⟩
  | bor o => cases e
  | lon o => cases e
  | own o =>
    cases e
    obtain ⟨a, h, rfl, h1, h2, h3, h4⟩ := r
    have e1 : Same Hs' (upd Hs' a h) := same_new h2
    refine ⟨upd Hs' a h, ⟨st.a, st.b.trans e1, fun x p q => ?_, fun x u q => ?_, st.t⟩, e1, RepO.rep upd_same (h4.mono e1)⟩
    · have : x ≠ a := fun z => q (by rw [z]; exact h1)
      rw [upd_ne this]; exact st.n x p q
    · by_cases hx : x = a
      · subst hx; rw [upd_same] at q; exact .mk (by rw [h3]; exact q)
      · rw [upd_ne hx] at q; exact st.s _ _ q

/-! ### the state -/
def CellOk (G : Ctx) (H0 H Hs : Hp) : C → Option (Option V) → Prop
  | .un, _ => True
  | .val d, x => ∃ v, x = some (some v) ∧ Rep G Hs d v
  | .own o, x => ∃ a h, x = some (some (.ref a)) ∧ Hs a = none ∧ H0 a = none ∧ H a = some h ∧ RepO G Hs o h
  | .bor o, x => ∃ v, x = some (some v) ∧ RdW G H0 Hs o.frz v
  | .lon _, _ => False
def isOwn : C → Bool
  | .own _ => true
  | _ => false
structure SR (G : Ctx) (H0 Hs0 : Hp) (σ : St) (H Hs : Hp) (ρ : List C) : Prop where
  sh : Same Hs H
  k0 : Same H0 H
  ks : Same Hs0 Hs
  fr : ∀ a, Hs0 a = none → H0 a ≠ none → Hs a = none
  len : ρ.length = σ.length
  cell : ∀ (i : Nat) (c : C), ρ[i]? = some c → CellOk G H0 H Hs c σ[i]?
  sep : ∀ (i j : Nat) (o o' : O) (x : V), ρ[i]? = some (.own o) → ρ[j]? = some (.own o') → σ[i]? = some (some x) → σ[j]? = some (some x) → i = j
  tb : TbS G.tabs H0 H
  tg : LamX.Tabs G.tabs H0
  k00 : Same G.root H0
  ro : Stp G.tabs G.root G.rootS H Hs
theorem RepO.nt {o : O} {h : HO} (r : RepO G H o h) : ¬ IsTb h := fun ⟨ps, e⟩ => by
  subst e
  cases o with
  | lst xs => obtain ⟨vs, z, _⟩ := r; cases z
  | dK ks ds => obtain ⟨vs, z, _⟩ := r; cases z
  | dT ks ds => obtain ⟨vs, z, _⟩ := r; cases z
theorem RepO.nc {o : O} {h : HO} (r : RepO G H o h) : ∀ c q, h ≠ LamX.CodeO c q := fun c q e => by
  subst e
  unfold LamX.CodeO at r
  cases o with
  | lst xs => obtain ⟨vs, z, _⟩ := r; cases z
  | dK ks ds => obtain ⟨vs, z, _⟩ := r; cases z
  | dT ks ds => obtain ⟨vs, z, _⟩ := r; cases z
theorem SR.tt {H0 Hs0 : Hp} {σ : St} {ρ : List C} (r : SR G H0 Hs0 σ H Hs ρ) : LamX.Tabs G.tabs H := r.tb.tabs r.tg
theorem CellOk.step {H0 : Hp} {c : C} {x : Option (Option V)} (st : Stp G.tabs H Hs H' Hs') (r : CellOk G H0 H Hs c x) : CellOk G H0 H' Hs' c x := by
  cases c with
  | un => trivial
  | lon o => exact r.elim
  | val d => obtain ⟨v, h1, h2⟩ := r; exact ⟨v, h1, Rep.mono st.b _ _ h2⟩
  | bor o => obtain ⟨v, h1, h2⟩ := r; exact ⟨v, h1, h2.mono (Same.refl _) st.b⟩
  | own o =>
    obtain ⟨a, h, h1, h2, h3, h4, h5⟩ := r
    exact ⟨a, h, h1, st.n a h2 (by rw [h4]; simp), h3, st.a.to h4 h5.nt, h5.mono st.b⟩
theorem SR.step {H0 Hs0 : Hp} {σ : St} {ρ : List C} (r : SR G H0 Hs0 σ H Hs ρ) (st : Stp G.tabs H Hs H' Hs') : SR G H0 Hs0 σ H' Hs' ρ :=
  ⟨st.s, r.k0.trans st.a, r.ks.trans st.b, fun a h k => st.n a (r.fr a h k) (fun z => k (r.k0.free z)), r.len, fun i c e => (r.cell i c e).step st, r.sep, r.tb.trans st.t, r.tg, r.k00, r.ro.trans st⟩
/-- a cell is read -/
def C.rd : C → C
  | .val d => .val d
  | .own o => .lon o
  | .bor o => .bor o
  | .lon o => .lon o
  | .un => .un
theorem SR.read {H0 Hs0 : Hp} {σ : St} {ρ : List C} (r : SR G H0 Hs0 σ H Hs ρ) {i : Nat} {c : C} (e : ρ[i]? = some c) (hu : c ≠ .un) : ∃ v, σ[i]? = some (some v) ∧ RepC G H0 H Hs H Hs c.rd v := by
  have k := r.cell i c e
  cases c with
  | un => exact (hu rfl).elim
  | val d => obtain ⟨v, h1, h2⟩ := k; exact ⟨v, h1, h2⟩
  | bor o => obtain ⟨v, h1, h2⟩ := k; exact ⟨v, h1, h2, r.k0⟩
  | lon o => exact k.elim
  | own o =>
    obtain ⟨a, h, h1, h2, h3, h4, h5⟩ := k
    exact ⟨_, h1, h5.rd h4⟩
/-- a name is stored: what it holds is a result -/
def C.st : C → Option C
  | .val d => some (.val d)
  | .own o => some (.own o)
  | _ => none
theorem getElem?_set' {α : Type} {l : List α} {i j : Nat} {a : α} : (l.set i a)[j]? = if i = j then (if i < l.length then some a else none) else l[j]? := by
  rw [List.getElem?_set]
theorem SR.store {H0 Hs0 Ha Hsa : Hp} {σ : St} {ρ : List C} (r : SR G H0 Hs0 σ Ha Hsa ρ) (st : Stp G.tabs Ha Hsa H Hs) {c c' : C} {v : V} (q : RepC G H0 Ha Hsa H Hs c v) (e : c.st = some c') (i : Nat) :
    SR G H0 Hs0 (σ.set i (some v)) H Hs (ρ.set i c') := by
  have r' := r.step st
  have q' : CellOk G H0 H Hs c' (some (some v)) := by
    cases c with
    | un => cases e
    | bor o => cases e
    | lon o => cases e
    | val d => cases e; exact ⟨v, rfl, q⟩
    | own o =>
      cases e
      obtain ⟨a, h, rfl, h1, h2, h3, h4⟩ := q
      exact ⟨a, h, rfl, h2, r.k0.free h1, h3, h4⟩
  have nw : ∀ (o : O) (j : Nat) (o' : O) (x : V), c' = .own o → ρ[j]? = some (.own o') → σ[j]? = some (some x) → x ≠ v := fun o j o' x ec e1 e2 ex => by
    subst ec ex
    cases c with
    | un => cases e
    | bor o => cases e
    | lon o => cases e
    | val d => cases e
    | own o =>
      cases e
      obtain ⟨a, h, rfl, h1, _⟩ := q
      obtain ⟨b, hb, h5, h6, h7, h8, _⟩ := r.cell j _ e1
      rw [e2] at h5; cases h5
      rw [h1] at h8; cases h8
  refine ⟨r'.sh, r'.k0, r'.ks, r'.fr, by simpa using r'.len, fun j d ej => ?_, fun j k o o' x ej ek sj sk => ?_, r'.tb, r'.tg, r'.k00, r'.ro⟩
  · rw [getElem?_set'] at ej ⊢
    by_cases h : i = j
    · subst h
      rw [if_pos rfl] at ej ⊢
      split at ej
      · rename_i hl
        cases ej
        rw [r'.len] at hl
        rw [if_pos hl]; exact q'
      · cases ej
    · rw [if_neg h] at ej ⊢
      exact r'.cell j d ej
  · rw [getElem?_set'] at ej ek sj sk
    by_cases hj : i = j
    · by_cases hk : i = k
      · rw [← hj, ← hk]
      · rw [if_pos hj] at ej sj
        rw [if_neg hk] at ek sk
        split at ej
        · split at sj
          · cases ej; cases sj
            exact (nw o k o' _ rfl ek sk rfl).elim
          · cases sj
        · cases ej
    · by_cases hk : i = k
      · rw [if_neg hj] at ej sj
        rw [if_pos hk] at ek sk
        split at ek
        · split at sk
          · cases ek; cases sk
            exact (nw o' j o _ rfl ej sj rfl).elim
          · cases sk
        · cases ek
      · rw [if_neg hj] at ej sj
        rw [if_neg hk] at ek sk
        exact r'.sep j k o o' x ej ek sj sk
/-- a container of one's own is changed -/
theorem SR.write {H0 Hs0 : Hp} {σ : St} {ρ : List C} (r : SR G H0 Hs0 σ H Hs ρ) {i : Nat} {o o' : O} (e : ρ[i]? = some (.own o)) :
    ∃ a h, σ[i]? = some (some (.ref a)) ∧ H a = some h ∧ RepO G Hs o h ∧ ∀ h', RepO G Hs o' h' → SR G H0 Hs0 σ (upd H a h') Hs (ρ.set i (.own o')) := by
  obtain ⟨a, h, h1, h2, h3, h4, h5⟩ := r.cell i _ e
  refine ⟨a, h, h1, h4, h5, fun h' k => ?_⟩
  refine ⟨fun b u z => (r.sh _ _ z).upd (ne_of_none z h2), fun b u z => (r.k0 _ _ z).upd (ne_of_none z h3), r.ks, r.fr, by simpa using r.len, fun j d ej => ?_, fun j k2 p p' x ej ek sj sk => ?_, r.tb.trans (.upd h4 h5.nt h5.nc), r.tg, r.k00, r.ro.chg (r.k00.free h3) h2 h4 h5.nt h5.nc⟩
  · rw [getElem?_set'] at ej
    by_cases h : i = j
    · subst h
      rw [if_pos rfl] at ej
      split at ej
      · cases ej
        exact ⟨a, h', h1, h2, h3, upd_same, k⟩
      · cases ej
    · rw [if_neg h] at ej
      have q := r.cell j d ej
      cases d with
      | un => trivial
      | lon o => exact q
      | val d => exact q
      | bor o => exact q
      | own p =>
        obtain ⟨b, hb, q1, q2, q3, q4, q5⟩ := q
        refine ⟨b, hb, q1, q2, q3, ?_, q5⟩
        rw [upd_ne]
        · exact q4
        · intro z
          subst z
          exact h (r.sep i j _ _ _ e ej h1 q1)
  · have oj : ∀ (j : Nat) (p : O), (ρ.set i (.own o'))[j]? = some (.own p) → ∃ p, ρ[j]? = some (.own p) := fun j p ej => by
      rw [getElem?_set'] at ej
      by_cases h : i = j
      · subst h; exact ⟨_, e⟩
      · rw [if_neg h] at ej; exact ⟨_, ej⟩
    obtain ⟨p1, e1⟩ := oj j p ej
    obtain ⟨p2, e2⟩ := oj k2 p' ek
    exact r.sep j k2 p1 p2 x e1 e2 sj sk
/-- a container of one's own is shared from now on -/
theorem SR.freeze {H0 Hs0 : Hp} {σ : St} {ρ : List C} (r : SR G H0 Hs0 σ H Hs ρ) {i : Nat} {o : O} (e : ρ[i]? = some (.own o)) :
    ∃ Hs', SR G H0 Hs0 σ H Hs' (ρ.set i (.val o.frz)) := by
  obtain ⟨a, h, h1, h2, h3, h4, h5⟩ := r.cell i _ e
  have e1 : Same Hs (upd Hs a h) := same_new h2
  refine ⟨upd Hs a h, fun b u z => ?_, r.k0, r.ks.trans e1, fun b p q => ?_, by simpa using r.len, fun j d ej => ?_, fun j k2 p p' x ej ek sj sk => ?_, r.tb, r.tg, r.k00, r.ro.frz (r.k00.free h3) h2 h4⟩
  · by_cases hb : b = a
    · subst hb; rw [upd_same] at z; exact .mk (by rw [h4]; exact z)
    · rw [upd_ne hb] at z; exact r.sh _ _ z
  · have : b ≠ a := fun z => q (by rw [z]; exact h3)
    rw [upd_ne this]; exact r.fr b p q
  · rw [getElem?_set'] at ej
    by_cases h : i = j
    · subst h
      rw [if_pos rfl] at ej
      split at ej
      · cases ej
        exact ⟨_, h1, RepO.rep upd_same (h5.mono e1)⟩
      · cases ej
    · rw [if_neg h] at ej
      have q := r.cell j d ej
      cases d with
      | un => trivial
      | lon o => exact q
      | val d => obtain ⟨v, q1, q2⟩ := q; exact ⟨v, q1, Rep.mono e1 _ _ q2⟩
      | bor o => obtain ⟨v, q1, q2⟩ := q; exact ⟨v, q1, q2.mono (Same.refl _) e1⟩
      | own p =>
        obtain ⟨b, hb, q1, q2, q3, q4, q5⟩ := q
        refine ⟨b, hb, q1, ?_, q3, q4, q5.mono e1⟩
        rw [upd_ne]
        · exact q2
        · intro z
          subst z
          exact h (r.sep i j _ _ _ e ej h1 q1)
  · have oj : ∀ (j : Nat) (p : O), (ρ.set i (.val o.frz))[j]? = some (.own p) → ρ[j]? = some (.own p) := fun j p ej => by
      rw [getElem?_set'] at ej
      by_cases h : i = j
      · subst h; rw [if_pos rfl] at ej; split at ej <;> cases ej
      · rw [if_neg h] at ej; exact ej
    exact r.sep j k2 p p' x (oj _ _ ej) (oj _ _ ek) sj sk
/-- a cell is forgotten -/
theorem SR.forget {H0 Hs0 : Hp} {σ : St} {ρ ρ' : List C} (r : SR G H0 Hs0 σ H Hs ρ) (hl : ρ'.length = ρ.length) (h : ∀ (i : Nat) (c : C), ρ'[i]? = some c → c = .un ∨ ρ[i]? = some c) : SR G H0 Hs0 σ H Hs ρ' := by
  refine ⟨r.sh, r.k0, r.ks, r.fr, hl.trans r.len, fun i c e => ?_, fun j k o o' x ej ek sj sk => ?_, r.tb, r.tg, r.k00, r.ro⟩
  · rcases h i c e with z | z
    · subst z; trivial
    · exact r.cell i c z
  · rcases h j _ ej with z | z
    · cases z
    · rcases h k _ ek with w | w
      · cases w
      · exact r.sep j k o o' x z w sj sk
end
end VS

set_option Elab.async false
set_option linter.all false
set_option autoImplicit false
set_option maxRecDepth 100000
set_option maxHeartbeats 4000000
/-! VS: the fragment: expressions, statements, what they mean without a heap, what text they are of. -/
namespace VS
open PySem L2

/-- a value, a refusal of the k-th class, or nothing that is told -/
abbrev M (α : Type) := Option (Except Nat α)
@[reducible] def M.ok {α : Type} (a : α) : M α := some (.ok a)
@[reducible] def M.er {α : Type} (k : Nat) : M α := some (.error k)
def M.bind {α β : Type} (x : M α) (f : α → M β) : M β := match x with
  | some (.ok a) => f a
  | some (.error k) => some (.error k)
  | none => none
def M.lift {α : Type} : Option α → M α
  | some a => some (.ok a)
  | none => none
@[simp] theorem bind_ok {α β : Type} (a : α) (f : α → M β) : M.bind (some (.ok a)) f = f a := rfl
@[simp] theorem bind_er {α β : Type} (k : Nat) (f : α → M β) : M.bind (some (.error k) : M α) f = some (.error k) := rfl
@[simp] theorem bind_no {α β : Type} (f : α → M β) : M.bind (none : M α) f = none := rfl
@[simp] theorem lift_some {α : Type} (a : α) : M.lift (some a) = some (.ok a) := rfl
@[simp] theorem lift_none {α : Type} : M.lift (none : Option α) = none := rfl

/-- a def's meaning: its arguments (values, containers that are only read) to its answer -/
abbrev Mir := List C → M C

/-! ### operators -/
inductive Op2 where
  | add | sub | mul | fdiv | mod | pow | lt | le | gt | ge | eq | ne | is_ | isnot | in_ | notin
  deriving DecidableEq

mutual
def toPD : D → Option PyData
  | .non => some .none
  | .bl b => some (.bool b)
  | .int i => some (.int i)
  | .str x => some (.str x)
  | .tup xs => (toPDs xs).map .tuple
  | .lst xs => (toPDs xs).map .list
  | _ => none
def toPDs : List D → Option (List PyData)
  | [] => some []
  | x :: xs => match toPD x, toPDs xs with
    | some d, some ds => some (d :: ds)
    | _, _ => none
end
def shp (d : D) : Option PyData := (toPD d).bind fun x => if SeqAt.shaped x = true then some x else none
/-- == of data -/
def eqD (a b : D) : Option Bool := match shp a, shp b with
  | some x, some y => some (PyData.eqv x y)
  | _, _ => none
def keyD : D → Option Key
  | .int i => some (.inl i)
  | .str x => some (.inr x)
  | _ => none
def keysD : List D → Option (List Key)
  | [] => some []
  | d :: ds => match keyD d, keysD ds with
    | some k, some ks => some (k :: ks)
    | _, _ => none
def keyT : D → Option (List Key)
  | .tup ds => keysD ds
  | _ => none
def keyOf : Key → D
  | .inl i => .int i
  | .inr x => .str x
def findK {κ : Type} [DecidableEq κ] : List κ → List D → κ → Option D
  | k :: ks, v :: vs, x => if k = x then some v else findK ks vs x
  | _, _, _ => none
def flatD : D → Bool
  | .non => true
  | .bl _ => true
  | .int _ => true
  | .str _ => true
  | _ => false
/-- x in a container -/
def inD (x : D) : D → Option Bool
  | .lst xs => match shp x, shp (.lst xs) with
    | some d, some (.list ds) => some (ds.any fun z => PyData.eqv z d)
    | _, _ => none
  | .tup xs => if flatD x && xs.all flatD then (match shp x, shp (.lst xs) with
    | some d, some (.list ds) => some (ds.any fun z => PyData.eqv z d)
    | _, _ => none) else none
  | .str y => match x with
    | .str z => some (!(Builtin.Str.occurrences y z 0 y.length 1).isEmpty)
    | _ => none
  | .dK ks vs => (keyD x).map fun k => (findK ks vs k).isSome
  | .dT _ _ => none
  | _ => none
def cmpI (f : Int → Int → Bool) : D → D → Option C
  | .int i, .int j => some (.val (.bl (f i j)))
  | _, _ => none
def intsD : List D → Option (List Int)
  | [] => some []
  | d :: ds => match d, intsD ds with
    | .int i, some is => some (i :: is)
    | _, _ => none
def isD : D → D → Option Bool
  | x, .non => match x with | .non => some true | .glb _ => none | _ => some false
  | .bl a, .bl b => some (decide (a = b))
  | _, _ => none
def opD : Op2 → D → D → Option C
  | .add, .int i, .int j => some (.val (.int (i + j)))
  | .add, .str x, .str y => if x.length + y.length ≤ sizeLine then some (.val (.str (x ++ y))) else none
  | .add, .lst xs, .lst ys => if xs.length + ys.length ≤ sizeLine then some (.own (.lst (xs ++ ys))) else none
  | .add, .tup xs, .tup ys => if xs.length + ys.length ≤ sizeLine then some (.val (.tup (xs ++ ys))) else none
  | .sub, .int i, .int j => some (.val (.int (i - j)))
  | .mul, .int i, .int j => if (-(2 ^ 64) < i ∧ i < 2 ^ 64) ∨ (-(2 ^ 64) < j ∧ j < 2 ^ 64) then some (.val (.int (i * j))) else none
  | .mul, .lst xs, .int k => if -(2 ^ 63) ≤ k ∧ k < 2 ^ 63 ∧ xs.length * k.toNat ≤ sizeLine then some (.own (.lst (List.replicate k.toNat xs).flatten)) else none
  | .mul, .tup xs, .int k => if xs ≠ [] ∧ 2 ≤ k ∧ k ≤ 100000 ∧ xs.length ≤ 100 then some (.val (.tup (List.replicate k.toNat xs).flatten)) else none
  | .fdiv, .int i, .int j => if j ≠ 0 ∧ j.natAbs < 1073741824 then some (.val (.int (i.fdiv j))) else none
  | .mod, .int i, .int j => if j ≠ 0 then some (.val (.int (i.fmod j))) else none
  | .pow, .int i, .int j => if 0 ≤ j ∧ j ≤ 1000000 ∧ i.natAbs < 2 ^ 64 then some (.val (.int (i ^ j.toNat))) else none
  | .lt, .tup xs, .tup ys => match intsD xs, intsD ys with
    | some a, some b => some (.val (.bl (HT.lexLt a b)))
    | _, _ => none
  | .lt, .int i, .int j => some (.val (.bl (decide (i < j))))
  | .le, .int i, .int j => some (.val (.bl (decide (i ≤ j))))
  | .gt, .int i, .int j => some (.val (.bl (decide (j < i))))
  | .ge, .int i, .int j => some (.val (.bl (decide (j ≤ i))))
  | .eq, x, y => (eqD x y).map fun b => .val (.bl b)
  | .ne, x, y => (eqD x y).map fun b => .val (.bl !b)
  | .is_, x, y => (isD x y).map fun b => .val (.bl b)
  | .isnot, x, y => (isD x y).map fun b => .val (.bl !b)
  | .in_, x, y => (inD x y).map fun b => .val (.bl b)
  | .notin, x, y => (inD x y).map fun b => .val (.bl !b)
  | _, _, _ => none

/-! ### items, parts -/
def ixD : D → D → Option D
  | .lst xs, .int i => atI xs i
  | .tup xs, .int i => atI xs i
  | .str z, .int i => if z.length ≤ sizeLine then (atI z.cps.toList i).map fun c => .str ⟨#[c]⟩ else none
  | .dK ks vs, k => (keyD k).bind (findK ks vs)
  | .dT _ _, _ => none
  | _, _ => none
def cutD (xs : List D) (lo hi : Option Int) : List D := (xs.drop (HT.sIx xs.length 0 lo)).take (HT.sIx xs.length xs.length hi - HT.sIx xs.length 0 lo)
def slD : D → Option Int → Option Int → Option C
  | .lst xs, lo, hi => some (.own (.lst (cutD xs lo hi)))
  | .tup xs, lo, hi => some (.val (.tup (cutD xs lo hi)))
  | .str z, lo, hi => if z.length ≤ sizeLine then some (.val (.str (cutS z lo hi))) else none
  | _, _, _ => none

/-- xs[lo::st] -/
def stepL {α : Type} (xs : List α) (lo st : Int) : List α :=
  (sliceRange (sliceBounds (some lo) none (some st) xs.length).1 (sliceBounds (some lo) none (some st) xs.length).2.1 (sliceBounds (some lo) none (some st) xs.length).2.2).filterMap (xs[·]?)
def stD : D → Option Int → Option Int → Option C
  | .lst xs, some l, some c => if c = 0 then none else some (.own (.lst (stepL xs l c)))
  | _, _, _ => none
end VS

set_option Elab.async false
set_option linter.all false
set_option autoImplicit false
set_option maxRecDepth 100000
set_option maxHeartbeats 4000000
/-! VS: operators, items, parts keep what the fragment says. -/
namespace VS
open PySem L2

/-- a new result -/
def RepN (G : Ctx) (H H' Hs' : Hp) : C → V → Prop
  | .val d, v => Rep G Hs' d v
  | .own o, v => ∃ a h, v = .ref a ∧ H a = none ∧ Hs' a = none ∧ H' a = some h ∧ RepO G Hs' o h
  | _, _ => False
section
variable {G : Ctx} {H Hs H' Hs' H1 Hs1 : Hp}
theorem RepN.c {H0 : Hp} {c : C} {v : V} (r : RepN G H H' Hs' c v) : RepC G H0 H Hs H' Hs' c v := by
  cases c with
  | val d => exact r
  | own o => exact r
  | un => exact r.elim
  | bor o => exact r.elim
  | lon o => exact r.elim
theorem RepN.pre {c : C} {v : V} (s : Same H H1) (r : RepN G H1 H' Hs' c v) : RepN G H H' Hs' c v := by
  cases c with
  | val d => exact r
  | own o => obtain ⟨a, h, h1, h2, h3⟩ := r; exact ⟨a, h, h1, s.free h2, h3⟩
  | un => exact r.elim
  | bor o => exact r.elim
  | lon o => exact r.elim
theorem RepC.pre {H0 : Hp} {c : C} {v : V} (s : Same H H1) (r : RepC G H0 H1 Hs1 H' Hs' c v) : RepC G H0 H Hs H' Hs' c v := by
  cases c with
  | val d => exact r
  | own o => obtain ⟨a, h, h1, h2, h3⟩ := r; exact ⟨a, h, h1, s.free h2, h3⟩
  | un => exact r.elim
  | bor o => exact r
  | lon o => exact r

/-- what a step by values wants of what is behind -/
abbrev PostN (G : Ctx) (H Hs : Hp) (c : C) (Q : VK) : Prop := ∀ z H' Hs', Stp G.tabs H Hs H' Hs' → RepN G H H' Hs' c z → Q z H'
theorem PostN.scal {d : D} {z : V} {Q : VK} (s : Same Hs H) (h : PostN G H Hs (.val d) Q) (r : Rep G Hs d z) : Q z H := h z H Hs (Stp.refl s) r
/-- a new tuple -/
theorem PostN.tup {ds : List D} {vs : List V} {Q : VK} (s : Same Hs H) (h : PostN G H Hs (.val (.tup ds)) Q) (r : RepL G Hs ds vs) : NewT H vs Q := fun p o hp ho => by
  have st := Stp.sh (T := G.tabs) (o := .frz o (.tup vs)) s hp
  refine h _ _ _ st ?_
  simp only [RepN, Rep]
  exact ⟨p, vs, rfl, ⟨o, upd_same, ho⟩, r.mono st.b⟩
theorem PostN.lst {ds : List D} {vs : List V} {Q : VK} (s : Same Hs H) (h : PostN G H Hs (.own (.lst ds)) Q) (r : RepL G Hs ds vs) : ∀ p, H p = none → Q (.ref p) (upd H p (.lst vs)) := fun p hp => by
  have st := Stp.nw (T := G.tabs) (o := .lst vs) s hp
  refine h _ _ _ st ?_
  exact ⟨p, _, rfl, hp, s.free hp, upd_same, vs, rfl, r⟩

/-! ### data -/
mutual
theorem dp_of (s : Same Hs H) : ∀ (d : D) (v : V) (x : PyData), Rep G Hs d v → toPD d = some x → Dp G.K H v x
  | .non, v, x, h, e => by simp only [Rep] at h; simp only [toPD, Option.some.injEq] at e; subst h e; exact .non
  | .bl b, v, x, h, e => by simp only [Rep] at h; simp only [toPD, Option.some.injEq] at e; subst h e; exact .bl b
  | .int b, v, x, h, e => by simp only [Rep] at h; simp only [toPD, Option.some.injEq] at e; subst h e; exact .int b
  | .str b, v, x, h, e => by simp only [Rep] at h; simp only [toPD, Option.some.injEq] at e; subst h e; exact .str b
  | .tup xs, v, x, h, e => by
    simp only [Rep] at h
    obtain ⟨a, vs, rfl, h2, h3⟩ := h
    simp only [toPD, Option.map_eq_some_iff] at e
    obtain ⟨ds, e1, rfl⟩ := e
    exact .tup (h2.mono s).sq (dpAll_of s xs vs ds h3 e1)
  | .lst xs, v, x, h, e => by
    simp only [Rep] at h
    obtain ⟨a, vs, rfl, h2, h3⟩ := h
    simp only [toPD, Option.map_eq_some_iff] at e
    obtain ⟨ds, e1, rfl⟩ := e
    exact .lst (SqL.of (s _ _ h2)) (dpAll_of s xs vs ds h3 e1)
  | .dK _ _, v, x, h, e => by simp [toPD] at e
  | .dT _ _, v, x, h, e => by simp [toPD] at e
  | .ins _ _ _, v, x, h, e => by simp [toPD] at e
  | .err _, v, x, h, e => by simp [toPD] at e
  | .glb _, v, x, h, e => by simp [toPD] at e
theorem dpAll_of (s : Same Hs H) : ∀ (ds : List D) (vs : List V) (xs : List PyData), RepL G Hs ds vs → toPDs ds = some xs → DpAll G.K H vs xs
  | [], vs, xs, h, e => by simp only [RepL] at h; simp only [toPDs, Option.some.injEq] at e; subst h e; exact .nil
  | d :: ds, vs, xs, h, e => by
    simp only [RepL] at h
    obtain ⟨v, ws, rfl, h2, h3⟩ := h
    simp only [toPDs] at e
    cases e1 : toPD d with
    | none => rw [e1] at e; simp at e
    | some y =>
      cases e2 : toPDs ds with
      | none => rw [e1, e2] at e; simp at e
      | some ys =>
        rw [e1, e2] at e
        simp only [Option.some.injEq] at e
        subst e
        exact .cons (dp_of s d v y h2 e1) (dpAll_of s ds ws ys h3 e2)
end
theorem dp_rd (s : Same Hs H) {d : D} {v : V} {x : PyData} (h : RdW G H Hs d v) (e : toPD d = some x) : Dp G.K H v x := by
  cases d with
  | lst xs =>
    obtain ⟨a, vs, rfl, h2, h3⟩ := h
    simp only [toPD, Option.map_eq_some_iff] at e
    obtain ⟨ds, e1, rfl⟩ := e
    exact .lst h2 (dpAll_of s xs vs ds h3 e1)
  | dK _ _ => simp [toPD] at e
  | dT _ _ => simp [toPD] at e
  | non => exact dp_of s _ _ _ h e
  | bl _ => exact dp_of s _ _ _ h e
  | int _ => exact dp_of s _ _ _ h e
  | str _ => exact dp_of s _ _ _ h e
  | tup _ => exact dp_of s _ _ _ h e
  | ins _ _ _ => exact dp_of s _ _ _ h e
  | err _ => exact dp_of s _ _ _ h e
  | glb _ => exact dp_of s _ _ _ h e
theorem shp_of {d : D} {x : PyData} (e : shp d = some x) : toPD d = some x ∧ SeqAt.shaped x = true := by
  unfold shp at e
  cases q : toPD d with
  | none => rw [q] at e; cases e
  | some y =>
    rw [q] at e
    simp only [Option.bind_some] at e
    split at e
    · rename_i h; cases e; exact ⟨rfl, h⟩
    · cases e
theorem ints_of : ∀ {ds : List D} {is : List Int}, intsD ds = some is → ds = is.map D.int
  | [], is, e => by simp only [intsD, Option.some.injEq] at e; subst e; rfl
  | d :: ds, is, e => by
    simp only [intsD] at e
    split at e
    · rename_i i js e1
      cases e
      rw [ints_of e1]; rfl
    · cases e
theorem intsD_map : ∀ (is : List Int), intsD (is.map D.int) = some is
  | [] => rfl
  | i :: is => by rw [List.map_cons]; simp only [intsD, intsD_map is]

/-! ### keys -/
theorem key_of {d : D} {k : Key} {v : V} {Hx : Hp} (e : keyD d = some k) (r : Rep G Hx d v) : v = kV k := by
  cases d <;> simp only [keyD] at e <;> first | (cases e; done) | skip
  · cases e; simpa [Rep, kV] using r
  · cases e; simpa [Rep, kV] using r
theorem keys_of : ∀ {ds : List D} {ks : List Key} {vs : List V} {Hx : Hp}, keysD ds = some ks → RepL G Hx ds vs → vs = ks.map kV
  | [], ks, vs, Hx, e, r => by simp only [keysD, Option.some.injEq] at e; subst e; simpa [RepL] using r
  | d :: ds, ks, vs, Hx, e, r => by
    simp only [keysD] at e
    split at e
    · rename_i k ks' e1 e2
      cases e
      simp only [RepL] at r
      obtain ⟨v, ws, rfl, h2, h3⟩ := r
      rw [key_of e1 h2, keys_of e2 h3]; rfl
    · cases e
theorem findK_zip {κ : Type} [DecidableEq κ] {Hx : Hp} : ∀ {ks : List κ} {ds : List D} {vs : List V} {k : κ}, ks.length = vs.length → RepL G Hx ds vs →
    (findK ks ds k = none → valV (ks.zip vs) k = none) ∧ ∀ d, findK ks ds k = some d → ∃ v, valV (ks.zip vs) k = some v ∧ Rep G Hx d v
  | [], ds, vs, k, hl, r => by
    refine ⟨fun _ => by simp [valV], fun d e => by simp [findK] at e⟩
  | x :: ks, [], vs, k, hl, r => by
    simp only [RepL] at r; subst r; simp at hl
  | x :: ks, d :: ds, vs, k, hl, r => by
    simp only [RepL] at r
    obtain ⟨v, ws, rfl, h2, h3⟩ := r
    have ih := findK_zip (k := k) (ks := ks) (ds := ds) (vs := ws) (by simpa using hl) h3
    rw [List.zip_cons_cons]
    by_cases h : x = k
    · subst h
      rw [valV_pos (p := (x, v)) rfl]
      refine ⟨fun e => by simp [findK] at e, fun d' e => ?_⟩
      simp only [findK, if_true, Option.some.injEq] at e
      subst e; exact ⟨v, rfl, h2⟩
    · rw [valV_neg (p := (x, v)) h]
      simp only [findK, if_neg h]
      exact ih
end

/-- the context of the code: what the proofs of the fragment ask -/
structure XOk (G : Ctx) (X : Cx) : Prop where
  K : X.K = G.K
  calm : X.calm = true
  nd : X.N.Nodup
  units : X.A.units + 65 < cLine
theorem XOk.u64 {G : Ctx} {X : Cx} (x : XOk G X) : X.A.units + 64 < cLine := by have := x.units; omega
theorem XOk.u1 {G : Ctx} {X : Cx} (x : XOk G X) : X.A.units + 1 < cLine := by have := x.units; omega
theorem XOk.u0 {G : Ctx} {X : Cx} (x : XOk G X) : X.A.units < cLine := by have := x.units; omega

/-- an operation by values -/
def rD (G : Ctx) (f : D → D → Option C) : R2 := fun x y H Q => ∃ Hs a b c, Same Hs H ∧ RdW G H Hs a x ∧ RdW G H Hs b y ∧ f a b = some c ∧ PostN G H Hs c Q
theorem OpR.imp {X : Cx} {f : Value → Value → Sem Value} {r r' : R2} (h : OpR X f r) (k : ∀ x y H Q, r' x y H Q → r x y H Q) : OpR X f r' :=
  fun pins s σ H x y v u Q I rx ry q => h pins s σ H x y v u Q I rx ry (k x y H Q q)
/-- an operation whose rule may hang on the operands -/
theorem OpR.pick {X : Cx} {f : Value → Value → Sem Value} {r' : R2} (k : ∀ x y H Q, r' x y H Q → ∃ r, OpR X f r ∧ r x y H Q) : OpR X f r' :=
  fun pins s σ H x y v u Q I rx ry q => by
    obtain ⟨r, h, q'⟩ := k x y H Q q
    exact h pins s σ H x y v u Q I rx ry q'

theorem map_some {α β : Type} {f : α → β} {o : Option α} {b : β} (h : o.map f = some b) : ∃ a, o = some a ∧ f a = b := by
  cases o with
  | none => cases h
  | some a => cases h; exact ⟨a, rfl, rfl⟩
theorem bind_some {α β : Type} {f : α → Option β} {o : Option α} {b : β} (h : o.bind f = some b) : ∃ a, o = some a ∧ f a = some b := by
  cases o with
  | none => cases h
  | some a => exact ⟨a, rfl, h⟩
section
variable {G : Ctx} {X : Cx}
theorem RepL.flat {Hx : Hp} : ∀ {ds : List D} {vs : List V}, RepL G Hx ds vs → ds.all flatD = true → vs.all flatV = true
  | [], vs, r, _ => by simp only [RepL] at r; subst r; rfl
  | d :: ds, vs, r, h => by
    simp only [RepL] at r
    obtain ⟨v, ws, rfl, h2, h3⟩ := r
    simp only [List.all_cons, Bool.and_eq_true] at h ⊢
    refine ⟨?_, RepL.flat h3 h.2⟩
    cases d <;> simp only [flatD, Bool.false_eq_true, false_and] at h <;> simp only [Rep] at h2 <;> subst h2 <;> rfl
theorem flat_v {Hx : Hp} {d : D} {v : V} (r : Rep G Hx d v) (h : flatD d = true) : flatV v = true := by
  have := RepL.flat (RepL.cons r RepL.nil) (by simpa using h)
  simpa using this
theorem eqV_of {Hx : Hp} {d e : D} {v u : V} {x y : PyData} (rd : Rep G Hx d v) (re : Rep G Hx e u) (fd : flatD d = true) (fe : flatD e = true) (ed : toPD d = some x) (ee : toPD e = some y) : eqV v u = PyData.eqv x y := by
  cases d <;> simp only [flatD, Bool.false_eq_true] at fd <;> cases e <;> simp only [flatD, Bool.false_eq_true] at fe <;>
    simp only [toPD, Option.some.injEq] at ed ee <;> simp only [Rep] at rd re <;> subst ed ee rd re <;> simp [eqV, PyData.eqv]
theorem any_eqV {Hx : Hp} {x : D} {v : V} {d : PyData} (rx : Rep G Hx x v) (fx : flatD x = true) (ex : toPD x = some d) :
    ∀ {xs : List D} {vs : List V} {ds : List PyData}, RepL G Hx xs vs → xs.all flatD = true → toPDs xs = some ds → inV v vs = ds.any fun z => PyData.eqv z d
  | [], vs, ds, r, _, e => by simp only [RepL] at r; simp only [toPDs, Option.some.injEq] at e; subst r e; rfl
  | y :: ys, vs, ds, r, h, e => by
    simp only [RepL] at r
    obtain ⟨u, ws, rfl, h2, h3⟩ := r
    simp only [List.all_cons, Bool.and_eq_true] at h
    simp only [toPDs] at e
    split at e
    · rename_i d' ds' e1 e2
      cases e
      have ih := any_eqV rx fx ex h3 h.2 e2
      show (eqV u v || inV v ws) = (PyData.eqv d' d || ds'.any fun z => PyData.eqv z d)
      rw [ih, eqV_of h2 rx h.1 fx e1 ex]
    · cases e

theorem bl_post {H Hs : Hp} {b : Bool} {Q : VK} (s : Same Hs H) (h : PostN G H Hs (.val (.bl b)) Q) : Q (.bl b) H := h.scal s (by simp [Rep])
theorem int_post {H Hs : Hp} {b : Int} {Q : VK} (s : Same Hs H) (h : PostN G H Hs (.val (.int b)) Q) : Q (.int b) H := h.scal s (by simp [Rep])
theorem str_post {H Hs : Hp} {b : Str} {Q : VK} (s : Same Hs H) (h : PostN G H Hs (.val (.str b)) Q) : Q (.str b) H := h.scal s (by simp [Rep])


/-- list + list, list * int, whoever holds the lists -/
theorem isList_shape {h : Heap} {a : Addr} {its : Array Value} (x : h.IsList a its) : ∃ dd n sl, h.get? a = some { cls := .type "list", dict := dd, data := .seq its n, slots := sl } := by
  obtain ⟨⟨cls, d, data, sl⟩, ho, hcl, k, hd⟩ := x
  simp only at hcl hd
  subst hcl hd
  exact ⟨d, k, sl, ho⟩
def rCatS (K : PySem.W.Frag) : R2 := fun x y H Q => ∃ l b xs zs, x = .ref l ∧ y = .ref b ∧ SqL K H l xs ∧ SqL K H b zs ∧ xs.length + zs.length ≤ sizeLine ∧ ∀ p, H p = none → Q (.ref p) (upd H p (.lst (xs ++ zs)))
theorem op_catS : OpR X (binaryOp .Add) (rCatS X.K) := by
  intro pins s σ H x y v u Q I rx ry h
  obtain ⟨l, b, xs, zs, rfl, rfl, hH, hB, hz, q⟩ := h
  cases rx
  cases ry
  obtain ⟨its, r, pl, _⟩ := I.list hH
  obtain ⟨its2, r2, pl2, _⟩ := I.list hB
  obtain ⟨dd, n, sl, ho⟩ := isList_shape pl.isList
  obtain ⟨dd2, n2, sl2, ho2⟩ := isList_shape pl2.isList
  have e : its.toArray ++ its2.toArray = (its ++ its2).toArray := by simp
  have h1 := r.length
  have h2 := r2.length
  refine PySem.concat_meets ⟨_, ho, rfl⟩ ⟨_, ho2, rfl⟩ PySem.noFill_list_add PySem.seq_list_add PySem.F.slot_list_add PySem.F.entry_list_add (PySem.F.args_list_add_2 _ _) (PyProof.Rows.list_addW l b its.toArray its2.toArray n n2 dd dd2 sl sl2 (by simp; omega)) ⟨ho, ho2, ?_⟩
  rw [e]
  exact ⟨.ref _, _, I.lnew (t' := s.toks) (r.append r2) (by rw [List.length_append]; omega), rfl, q _ I.fresh⟩
def rRepS (K : PySem.W.Frag) : R2 := fun x y H Q => ∃ l k xs, x = .ref l ∧ y = .int k ∧ SqL K H l xs ∧ -(2 ^ 63) ≤ k ∧ k < 2 ^ 63 ∧ xs.length * k.toNat ≤ sizeLine ∧
  ∀ p, H p = none → Q (.ref p) (upd H p (.lst (List.replicate k.toNat xs).flatten))
theorem op_repS : OpR X (binaryOp .Mult) (rRepS X.K) := by
  intro pins s σ H x y v u Q I rx ry h
  obtain ⟨l, k, xs, rfl, rfl, hH, h1, h2, hz, q⟩ := h
  cases rx
  obtain ⟨t, rfl⟩ := ry
  obtain ⟨its, r, pl, _⟩ := I.list hH
  obtain ⟨dd, n, sl, ho⟩ := isList_shape pl.isList
  have hl := r.length
  have hz2 : its.length * k.toNat ≤ 2 ^ 24 := by rw [← hl]; rw [sizeLine_eq] at hz; omega
  have hz3 : its.toArray.size * k.toNat ≤ 2 ^ 24 := by simpa using hz2
  refine wpAny_binaryOp_repeat_ref (T := "list") (U := "int") (by decide) ⟨_, ho, rfl⟩ (fun s' => typeIs_int s' k t) noFill_list_mul F.fills_int_mul F.slot_int_rmul repeat_list F.slot_int_index.lookup
    (call_meets F.slot_int_rmul (typeIs_int s k t) F.entry_int_rmul (F.args_int_rmul_2 _ _) (PySem.lm_int_rmul_list_any k t l its.toArray n dd sl)
      ⟨ho, rfl, ⟨_, ho, rfl⟩, call_meets F.slot_list_mul ⟨_, ho, rfl⟩ F.entry_list_mul (F.args_list_mul_2 _ _)
        (PySem.lm_list_mul_any l its.toArray n dd sl k t (by simp [Builtin.List.listFitsIndex]; omega) (by omega) (by simp [Builtin.List.listTooLong, sizeLine]; omega))
        ⟨ho, ?_⟩⟩)
  rw [PyProof.Rows.listMul_foldl_if]
  exact ⟨.ref _, _, I.lnew (t' := s.toks) (r.rep k.toNat) (by rw [PyProof.Rows.lm_len_rep_flat, Nat.mul_comm]; exact hz), rfl, q _ I.fresh⟩
theorem RepL.rep {Hx : Hp} {ds : List D} {vs : List V} (h : RepL G Hx ds vs) : ∀ k : Nat, RepL G Hx (List.replicate k ds).flatten (List.replicate k vs).flatten
  | 0 => by simpa using RepL.nil
  | k + 1 => by
    rw [List.replicate_succ, List.replicate_succ, List.flatten_cons, List.flatten_cons]
    exact h.append (RepL.rep h k)

def pyOp : Op2 → Sum Operator CmpOp
  | .add => .inl .Add
  | .sub => .inl .Sub
  | .mul => .inl .Mult
  | .fdiv => .inl .FloorDiv
  | .mod => .inl .Mod
  | .pow => .inl .Pow
  | .lt => .inr .Lt
  | .le => .inr .LtE
  | .gt => .inr .Gt
  | .ge => .inr .GtE
  | .eq => .inr .Eq
  | .ne => .inr .NotEq
  | .is_ => .inr .Is
  | .isnot => .inr .IsNot
  | .in_ => .inr .In
  | .notin => .inr .NotIn
def opSem : Op2 → Value → Value → Sem Value := fun o => match pyOp o with
  | .inl b => binaryOp b
  | .inr c => compareOp c

theorem rd_int {H Hs : Hp} {i : Int} {x : V} (r : RdW G H Hs (.int i) x) : x = .int i := by simpa [RdW, Rep] using r
theorem rd_str {H Hs : Hp} {i : Str} {x : V} (r : RdW G H Hs (.str i) x) : x = .str i := by simpa [RdW, Rep] using r
theorem rd_bl {H Hs : Hp} {i : Bool} {x : V} (r : RdW G H Hs (.bl i) x) : x = .bl i := by simpa [RdW, Rep] using r
theorem rd_tup {H Hs : Hp} {xs : List D} {x : V} (s : Same Hs H) (r : RdW G H Hs (.tup xs) x) : ∃ a vs, x = .ref a ∧ Tp H a vs ∧ RepL G Hs xs vs := by
  simp only [RdW, Rep] at r
  obtain ⟨a, vs, h1, h2, h3⟩ := r
  exact ⟨a, vs, h1, h2.mono s, h3⟩

theorem op_eqS (xk : XOk G X) : OpR X (compareOp .Eq) (rD G (opD .eq)) := by
  refine OpR.imp (op_eqD xk.u64) fun x y H Q ⟨Hs, a, b, c, s, ra, rb, e, p⟩ => ?_
  simp only [opD] at e
  obtain ⟨k, e3, hc⟩ := map_some e
  clear e
  subst hc
  unfold eqD at e3
  split at e3
  · rename_i d1 d2 e1 e2
    cases e3
    obtain ⟨t1, s1⟩ := shp_of e1
    obtain ⟨t2, s2⟩ := shp_of e2
    exact ⟨d1, d2, by rw [xk.K]; exact dp_rd s ra t1, by rw [xk.K]; exact dp_rd s rb t2, s1, s2, bl_post s p⟩
  · cases e3
theorem op_neS (xk : XOk G X) : OpR X (compareOp .NotEq) (rD G (opD .ne)) := by
  refine OpR.imp (op_neD xk.u64) fun x y H Q ⟨Hs, a, b, c, s, ra, rb, e, p⟩ => ?_
  simp only [opD] at e
  obtain ⟨k, e3, hc⟩ := map_some e
  clear e
  subst hc
  unfold eqD at e3
  split at e3
  · rename_i d1 d2 e1 e2
    cases e3
    obtain ⟨t1, s1⟩ := shp_of e1
    obtain ⟨t2, s2⟩ := shp_of e2
    exact ⟨d1, d2, by rw [xk.K]; exact dp_rd s ra t1, by rw [xk.K]; exact dp_rd s rb t2, s1, s2, bl_post s p⟩
  · cases e3
/-- x in c: its one rule for each kind -/
theorem op_inS (xk : XOk G X) (neg : Bool) : OpR X (compareOp (if neg then .NotIn else .In)) (rD G fun a b => (inD a b).map fun k => .val (.bl (if neg then !k else k))) := by
  refine OpR.pick fun x y H Q ⟨Hs, a, b, c, s, ra, rb, e0, p⟩ => ?_
  obtain ⟨k, e, hc⟩ := map_some e0
  clear e0
  subst hc
  have fin : Q (.bl (if neg then !k else k)) H := bl_post s p
  cases b with
  | lst xs =>
    simp only [inD] at e
    split at e
    · rename_i d ds e1 e2
      cases e
      obtain ⟨t1, s1⟩ := shp_of e1
      obtain ⟨t2, s2⟩ := shp_of e2
      have q1 : Dp X.K H x d := by rw [xk.K]; exact dp_rd s ra t1
      have q2 : Dp X.K H y (.list ds) := by rw [xk.K]; exact dp_rd s rb t2
      cases neg with
      | true => exact ⟨_, op_notInD xk.units, d, ds, q1, q2, s1, s2, fin⟩
      | false => exact ⟨_, op_inD xk.units, d, ds, q1, q2, s1, s2, fin⟩
    · cases e
  | tup xs =>
    simp only [inD] at e
    split at e
    · rename_i hf
      simp only [Bool.and_eq_true] at hf
      split at e
      · rename_i d ds e1 e2
        cases e
        obtain ⟨t1, s1⟩ := shp_of e1
        obtain ⟨t2, s2⟩ := shp_of e2
        simp only [toPD, Option.map_eq_some_iff] at t2
        obtain ⟨ds', t2, t3⟩ := t2
        cases t3
        obtain ⟨q, vs, rfl, h2, h3⟩ := rd_tup s rb
        have ra' : Rep G Hs a x := by
          cases a <;> simp only [flatD, Bool.false_eq_true, false_and] at hf <;> exact ra
        have fx := flat_v ra' hf.1
        have fs := h3.flat hf.2
        have e3 := any_eqV ra' hf.1 t1 h3 hf.2 t2
        cases neg with
        | true => exact ⟨_, op_notIn_seq, q, vs, rfl, .inr h2.sq, fx, fs, by rw [e3]; exact fin⟩
        | false => exact ⟨_, op_in_seq, q, vs, rfl, .inr h2.sq, fx, fs, by rw [e3]; exact fin⟩
      · cases e
    · cases e
  | str z =>
    simp only [inD] at e
    split at e
    · cases e
      cases neg with
      | true => exact ⟨_, op_notin_str, _, _, rd_str ra, rd_str rb, fin⟩
      | false => exact ⟨_, op_in_str, _, _, rd_str ra, rd_str rb, fin⟩
    · cases e
  | dK ks ds =>
    simp only [inD] at e
    obtain ⟨kk, e1, rfl⟩ := map_some e
    obtain ⟨q, vs, rfl, h2, hl, h3⟩ := rb
    have hx : x = kV kk := by cases a <;> simp only [keyD] at e1 <;> first | (cases e1; done) | exact key_of (by simpa [keyD] using e1) ra
    obtain ⟨z1, z2⟩ := findK_zip (k := kk) hl h3
    have hv : (valV (ks.zip vs) kk).isSome = (findK ks ds kk).isSome := by
      cases q : findK ks ds kk with
      | none => rw [z1 q]; rfl
      | some d => obtain ⟨v, z, _⟩ := z2 d q; rw [z]; rfl
    subst hx
    cases neg with
    | true =>
      refine ⟨fun x y H Q => ∃ a o, y = .ref a ∧ DGet H a x o ∧ Q (.bl (!o.isSome)) H, ?_, q, valV (ks.zip vs) kk, rfl, .k h2, by rw [hv]; exact fin⟩
      rintro pins s σ H x y v u Q I rx ry ⟨a, o, rfl, g, q⟩
      cases ry
      exact d_notIn xk.u1 I g rx fun s' I' => ⟨.bl _, H, I', rfl, q⟩
    | false =>
      refine ⟨fun x y H Q => ∃ a o, y = .ref a ∧ DGet H a x o ∧ Q (.bl o.isSome) H, ?_, q, valV (ks.zip vs) kk, rfl, .k h2, by rw [hv]; exact fin⟩
      rintro pins s σ H x y v u Q I rx ry ⟨a, o, rfl, g, q⟩
      cases ry
      exact d_in xk.u1 I g rx fun s' I' => ⟨.bl _, H, I', rfl, q⟩
  | _ => cases e

theorem op_isS (neg : Bool) : OpR X (compareOp (if neg then .IsNot else .Is)) (rD G fun a b => (isD a b).map fun k => .val (.bl (if neg then !k else k))) := by
  refine OpR.pick fun x y H Q ⟨Hs, a, b, c, s, ra, rb, e0, p⟩ => ?_
  obtain ⟨k, e, hc⟩ := map_some e0
  clear e0
  subst hc
  have fin : Q (.bl (if neg then !k else k)) H := bl_post s p
  cases b with
  | non =>
    have hy : y = .non := by simpa [RdW, Rep] using rb
    have hk : k = decide (x = .non) := by
      cases a <;> simp only [isD, Option.some.injEq] at e <;> first | (cases e; done) | skip
      all_goals subst e
      · have : x = .non := by simpa [RdW, Rep] using ra
        simp [this]
      · rw [rd_bl ra]; rfl
      · rw [rd_int ra]; rfl
      · rw [rd_str ra]; rfl
      · obtain ⟨_, _, rfl, _⟩ := rd_tup s ra; rfl
      · obtain ⟨_, _, rfl, _⟩ := ra; rfl
      · obtain ⟨_, _, rfl, _⟩ := ra; rfl
      · obtain ⟨_, _, rfl, _⟩ := ra; rfl
      · simp only [RdW, Rep] at ra; obtain ⟨_, _, _, rfl, _⟩ := ra; rfl
      · simp only [RdW, Rep] at ra; obtain ⟨_, rfl, _, _⟩ := ra; rfl
    subst hk
    cases neg with
    | true => exact ⟨_, op_notN, hy, fin⟩
    | false => exact ⟨_, op_isN, hy, fin⟩
  | bl b =>
    cases a <;> simp only [isD] at e <;> first | (cases e; done) | skip
    cases e
    cases neg with
    | true => exact ⟨_, op_isnot_bl, _, _, rd_bl ra, rd_bl rb, fin⟩
    | false => exact ⟨_, op_is_bl, _, _, rd_bl ra, rd_bl rb, fin⟩
  | _ => cases a <;> simp only [isD] at e <;> cases e

theorem opOk (xk : XOk G X) (o : Op2) : OpR X (opSem o) (rD G (opD o)) := by
  cases o with
  | eq => exact op_eqS xk
  | ne => exact op_neS xk
  | in_ => exact op_inS xk false
  | notin => exact op_inS xk true
  | is_ => exact op_isS false
  | isnot => exact op_isS true
  | add =>
    refine OpR.pick fun x y H Q ⟨Hs, a, b, c, s, ra, rb, e, p⟩ => ?_
    cases a <;> cases b <;> simp only [opD] at e <;> first | (cases e; done) | skip
    · cases e; exact ⟨_, op_add, _, _, rd_int ra, rd_int rb, int_post s p⟩
    · split at e
      · cases e; exact ⟨_, op_add_str, _, _, rd_str ra, rd_str rb, by assumption, str_post s p⟩
      · cases e
    · split at e
      · rename_i hl
        cases e
        obtain ⟨a1, v1, rfl, h1, r1⟩ := rd_tup s ra
        obtain ⟨a2, v2, rfl, h2, r2⟩ := rd_tup s rb
        refine ⟨_, op_catN, a1, a2, v1, v2, rfl, rfl, h1.sq, h2.sq, by rw [← r1.length, ← r2.length]; exact hl, fun e => ?_, fun _ e => ?_, fun _ _ => p.tup s (r1.append r2)⟩
        · refine p _ H Hs (Stp.refl s) ?_
          simp only [RepN, Rep]
          have := r1.length
          rw [e] at this
          have z : _ = [] := List.length_eq_zero_iff.mp this
          simp only [RdW, Rep] at rb
          rw [z, List.nil_append]; exact rb
        · refine p _ H Hs (Stp.refl s) ?_
          simp only [RepN, Rep]
          have := r2.length
          rw [e] at this
          have z : _ = [] := List.length_eq_zero_iff.mp this
          simp only [RdW, Rep] at ra
          rw [z, List.append_nil]; exact ra
      · cases e
    · split at e
      · rename_i hl
        cases e
        obtain ⟨a1, v1, rfl, h1, r1⟩ := ra
        obtain ⟨a2, v2, rfl, h2, r2⟩ := rb
        exact ⟨_, op_catS, a1, a2, v1, v2, rfl, rfl, by rw [xk.K]; exact h1, by rw [xk.K]; exact h2, by rw [← r1.length, ← r2.length]; exact hl, p.lst s (r1.append r2)⟩
      · cases e
  | sub =>
    refine OpR.pick fun x y H Q ⟨Hs, a, b, c, s, ra, rb, e, p⟩ => ?_
    cases a <;> cases b <;> simp only [opD] at e <;> first | (cases e; done) | skip
    cases e; exact ⟨_, op_sub, _, _, rd_int ra, rd_int rb, int_post s p⟩
  | mul =>
    refine OpR.pick fun x y H Q ⟨Hs, a, b, c, s, ra, rb, e, p⟩ => ?_
    cases a <;> cases b <;> simp only [opD] at e <;> first | (cases e; done) | skip
    · split at e
      · rename_i hc; cases e; exact ⟨_, op_mul, _, _, rd_int ra, rd_int rb, hc, int_post s p⟩
      · cases e
    · split at e
      · rename_i hc
        cases e
        obtain ⟨a1, v1, rfl, h1, r1⟩ := rd_tup s ra
        refine ⟨_, op_repN, a1, _, v1, rfl, rd_int rb, h1.sq, ?_, hc.2.1, hc.2.2.1, by rw [← r1.length]; exact hc.2.2.2, p.tup s (r1.rep _)⟩
        intro z
        have := r1.length
        rw [z] at this
        exact hc.1 (List.length_eq_zero_iff.mp this)
      · cases e
    · split at e
      · rename_i hc
        cases e
        obtain ⟨a1, v1, rfl, h1, r1⟩ := ra
        exact ⟨_, op_repS, a1, _, v1, rfl, rd_int rb, by rw [xk.K]; exact h1, hc.1, hc.2.1, by rw [← r1.length]; exact hc.2.2, p.lst s (r1.rep _)⟩
      · cases e
  | fdiv =>
    refine OpR.pick fun x y H Q ⟨Hs, a, b, c, s, ra, rb, e, p⟩ => ?_
    cases a <;> cases b <;> simp only [opD] at e <;> first | (cases e; done) | skip
    split at e
    · rename_i hc; cases e; exact ⟨_, op_fdivN, _, _, rd_int ra, rd_int rb, hc, int_post s p⟩
    · cases e
  | mod =>
    refine OpR.pick fun x y H Q ⟨Hs, a, b, c, s, ra, rb, e, p⟩ => ?_
    cases a <;> cases b <;> simp only [opD] at e <;> first | (cases e; done) | skip
    split at e
    · rename_i hc; cases e; exact ⟨_, op_modN, _, _, rd_int ra, rd_int rb, hc, int_post s p⟩
    · cases e
  | pow =>
    refine OpR.pick fun x y H Q ⟨Hs, a, b, c, s, ra, rb, e, p⟩ => ?_
    cases a <;> cases b <;> simp only [opD] at e <;> first | (cases e; done) | skip
    split at e
    · rename_i hc; cases e; exact ⟨_, op_pow, _, _, rd_int ra, rd_int rb, hc, int_post s p⟩
    · cases e
  | lt =>
    refine OpR.pick fun x y H Q ⟨Hs, a, b, c, s, ra, rb, e, p⟩ => ?_
    cases a <;> cases b <;> simp only [opD] at e <;> first | (cases e; done) | skip
    · cases e; exact ⟨_, op_lt, _, _, rd_int ra, rd_int rb, bl_post s p⟩
    · split at e
      · rename_i n1 n2 e1 e2
        cases e
        obtain ⟨a1, v1, rfl, h1, r1⟩ := rd_tup s ra
        obtain ⟨a2, v2, rfl, h2, r2⟩ := rd_tup s rb
        have z1 := ints_of e1
        have z2 := ints_of e2
        subst z1 z2
        exact ⟨_, op_ltT xk.u0, a1, a2, n1, n2, rfl, rfl, Tp.sq (by rw [← r1.ints]; exact h1), Tp.sq (by rw [← r2.ints]; exact h2), bl_post s p⟩
      · cases e
  | le =>
    refine OpR.pick fun x y H Q ⟨Hs, a, b, c, s, ra, rb, e, p⟩ => ?_
    cases a <;> cases b <;> simp only [opD] at e <;> first | (cases e; done) | skip
    cases e; exact ⟨_, op_le, _, _, rd_int ra, rd_int rb, bl_post s p⟩
  | gt =>
    refine OpR.pick fun x y H Q ⟨Hs, a, b, c, s, ra, rb, e, p⟩ => ?_
    cases a <;> cases b <;> simp only [opD] at e <;> first | (cases e; done) | skip
    cases e; exact ⟨_, op_gt, _, _, rd_int ra, rd_int rb, bl_post s p⟩
  | ge =>
    refine OpR.pick fun x y H Q ⟨Hs, a, b, c, s, ra, rb, e, p⟩ => ?_
    cases a <;> cases b <;> simp only [opD] at e <;> first | (cases e; done) | skip
    cases e; exact ⟨_, op_ge, _, _, rd_int ra, rd_int rb, bl_post s p⟩
end
end VS

set_option Elab.async false
set_option linter.all false
set_option autoImplicit false
set_option maxRecDepth 100000
set_option maxHeartbeats 4000000
/-! VS: expressions and what they mean. -/
namespace VS
open PySem L2

/-! ### what a built-in function and a built-in type's method mean: given with their proofs (VsC) -/
/-- the text's names, the def's scope -/
structure Sc where
  N : List Str
  sc : Scope

/-- what a class is, for isinstance -/
inductive Kls where
  | tyInt | tyBool | tyStr | tyTup | tyLst | tyDict | tyValueError | own (c : Nat) (x : Str)
  deriving DecidableEq
/-- a target: one name, or several -/
inductive Tgt where
  | one (i : Nat) | tup (is : List Nat)
  deriving DecidableEq

/-- the values, read -/
def RdL (G : Ctx) (H Hs : Hp) : List D → List V → Prop
  | [], vs => vs = []
  | d :: ds, vs => ∃ v ws, vs = v :: ws ∧ RdW G H Hs d v ∧ RdL G H Hs ds ws
/-- a call by values -/
def rC (G : Ctx) (f : List D → Option C) : List V → Hp → VK → Prop := fun vs H Q => ∃ Hs ds c, Same Hs H ∧ RdL G H Hs ds vs ∧ f ds = some c ∧ PostN G H Hs c Q
/-- a built-in function or type, called by its name -/
structure Blt where
  nm : Str
  f : List D → Option C
  ok : ∀ {G : Ctx} {X : Cx}, XOk G X → (∃ id, bootBuiltins nm = some (.builtin id) ∧ CallR X (.builtin id) (rC G f)) ∨ ∃ T, bootBuiltins nm = some (.type T) ∧ CallR X (.type T) (rC G f)
  n1 : nm ≠ "__name__"
  n2 : (nm == ("__debug__" : Str)) = false
/-- a method of a built-in type -/
def tM (G : Ctx) (ty : D → Bool) (f : D → List D → Option C) (to : TE) (ta : TA) : TE := fun σ H Q => to σ H fun x H1 => ∃ Hs d, Same Hs H1 ∧ RdW G H1 Hs d x ∧ ty d = true ∧ ta σ H1 fun xs H2 =>
  ∃ Hs2 ds c, Same Hs2 H2 ∧ RdW G H2 Hs2 d x ∧ RdL G H2 Hs2 ds xs ∧ f d ds = some c ∧ PostN G H2 Hs2 c Q
def isPlain : Expr → Bool
  | .Starred _ _ => false
  | .Slice _ _ _ _ => false
  | .Set _ _ _ => false
  | _ => true
def attrOk : Expr → Bool
  | .Call _ [] [] _ => false
  | _ => true
structure Mth where
  nm : Str
  ar : Nat
  ty : D → Bool
  f : D → List D → Option C
  ok : ∀ {G : Ctx} {X : Cx}, XOk G X → ∀ {o : Expr} {es : List Expr} {to : TE} {ta : TA} {apos cpos : Pos}, attrOk o = true → es.all isPlain = true → (apos.endLine == cpos.line) = true → es.length = ar ∧ es.length < 30 → PE X o to → PA X es ta →
    PE X (.Call (.Attribute o nm apos) es [] cpos) (tM G ty f to ta)

/-- arguments as they are handed on -/
def ArgR (G : Ctx) (H Hs : Hp) : C → V → Prop
  | .val d, v => Rep G Hs d v
  | .bor o, v => RdW G H Hs o.frz v
  | _, _ => False
def ArgsR (G : Ctx) (H Hs : Hp) : List C → List V → Prop
  | [], vs => vs = []
  | c :: cs, vs => ∃ v ws, vs = v :: ws ∧ ArgR G H Hs c v ∧ ArgsR G H Hs cs ws
/-- the names of built-in things that the module must not bind -/
def bltNames : List Str := ["len", "list", "tuple", "range", "enumerate", "reversed", "zip", "isinstance", "sorted", "sum", "min", "max", "abs", "all", "any", "str", "int", "dict", "set", "bool", "ValueError"]
/-- a text whose test is its value's truth -/
def plainT : Expr → Bool
  | .UnaryOp .Not _ _ => false
  | .BoolOp _ _ _ => false
  | .IfExp _ _ _ _ => false
  | .Compare _ _ _ _ => false
  | _ => true
def compE : Expr → Bool
  | .ListComp _ _ _ _ => true
  | .SetComp _ _ _ _ => true
  | .DictComp _ _ _ _ _ => true
  | _ => false
/-- a form of text of its own: its parts, their cells' meaning, the proof -/
structure XSp (G : Ctx) (X : Cx) (N : List Str) (sc : Scope) : Prop extends XOk G X where
  hN : X.N = N
  hsc : X.env.scope = sc
  nb : ∀ x ∈ bltNames, X.mg x = none
def tSp (G : Ctx) (f : List C → Option C) (ta : TA) : TE := fun σ H Q => ta σ H fun vs H2 => ∃ Hs cs c, Same Hs H2 ∧ ArgsR G H2 Hs cs vs ∧ f cs = some c ∧ PostN G H2 Hs c Q
structure Spc where
  pat : List Str → Scope → Expr → Option (List Expr)
  f : List C → Option C
  pl : ∀ {N : List Str} {sc : Scope} {e : Expr} {es : List Expr}, pat N sc e = some es → isPlain e = true ∧ plainT e = true ∧ compE e = false
  ok : ∀ {G : Ctx} {X : Cx} {N : List Str} {sc : Scope} {e : Expr} {es : List Expr} {ta : TA}, XSp G X N sc → pat N sc e = some es → es.all isPlain = true → PA X es ta → PE X e (tSp G f ta)

/-- isinstance: a value's built-in type; an error's class -/
def tyName : D → Option String
  | .non => some "NoneType"
  | .bl _ => some "bool"
  | .int _ => some "int"
  | .str _ => some "str"
  | .tup _ => some "tuple"
  | .lst _ => some "list"
  | .dK _ _ => some "dict"
  | .dT _ _ => some "dict"
  | _ => none
def isTy (T : String) : Kls → Bool
  | .tyInt => T == "int" || T == "bool"
  | .tyBool => T == "bool"
  | .tyStr => T == "str"
  | .tyTup => T == "tuple"
  | .tyLst => T == "list"
  | .tyDict => T == "dict"
  | _ => false
/-- class 0 is over all others, none of these over another -/
def sub (i j : Nat) : Bool := i == j || j == 0
def isErr (i : Nat) : Kls → Bool
  | .own j _ => sub i j
  | .tyValueError => true
  | _ => false
/-- what is wanted of an exception of the k-th class -/
def ErP (G : Ctx) (W : WX) (σ : St) (H Hs : Hp) (k : Nat) : Prop := ∀ H' Hs', Stp G.tabs H Hs H' Hs' → W (.ref (G.cls k)) none σ H'
theorem ErP.step {G : Ctx} {W : WX} {σ : St} {H Hs H1 Hs1 : Hp} {k : Nat} (e : ErP G W σ H Hs k) (st : Stp G.tabs H Hs H1 Hs1) : ErP G W σ H1 Hs1 k := fun H' Hs' s => e H' Hs' (st.trans s)
def PostE (G : Ctx) (W : WX) (H0 : Hp) (σ : St) (H Hs : Hp) (Q : VK) : Except Nat C → Prop
  | .ok c => ∀ v H' Hs', Stp G.tabs H Hs H' Hs' → RepC G H0 H Hs H' Hs' c v → Q v H'
  | .error k => ErP G W σ H Hs k
/-! ### a def's promise -/
/-- the def keeps what m tells -/
def spM (G : Ctx) (m : Mir) : Sp := fun vs H Q E => ∃ Hs cs r, Stp G.tabs G.root G.rootS H Hs ∧ LamX.Tabs G.tabs H ∧ ArgsR G H Hs cs vs ∧ m cs = some r ∧ match r with
  | .ok c => PostN G H Hs c Q
  | .error k => ∀ H' Hs', Stp G.tabs H Hs H' Hs' → E (.ref (G.cls k)) none H'
/-- the class of an isinstance as the model has it -/
def clsU (G : Ctx) : Kls → Value
  | .tyInt => .type "int"
  | .tyBool => .type "bool"
  | .tyStr => .type "str"
  | .tyTup => .type "tuple"
  | .tyLst => .type "list"
  | .tyDict => .type "dict"
  | .tyValueError => .type "ValueError"
  | .own c _ => .ref (G.cls c)
def tyNames : List String := ["NoneType", "bool", "int", "str", "tuple", "list", "dict"]
structure KlOk (G : Ctx) (X : Cx) (k : Kls) : Prop where
  mg : ∀ c x, k = .own c x → X.mg x = some (.ref (G.cls c))
  ty : ∀ T ∈ tyNames, PySem.W.kitOne X.K (.type T) (clsU G k) = some (isTy T k)
  er : ∀ i ∈ G.errs, PySem.W.kitOne X.K (.ref (G.cls i)) (clsU G k) = some (isErr i k)
  ex : ∀ i ∈ G.errs, ExcC X.K (G.cls i)
/-- any other wish of the module -/
structure RSp where
  P : Ctx → Cx → Prop
  tr : ∀ {G : Ctx} {X : Cx} {pn : List (Addr × Obj)} {xe : Value → Shared → Prop}, P G X → P G (X.tr pn xe)
  blk : ∀ {G : Ctx} {X : Cx} {s : Shared} {H : Hp} {scope : Scope} {C : Addr} {cl : List (Str × Addr)} {fp : List Addr}, P G X → P G (X.blk s H scope (compEnvC scope cl C X.env) fp)
/-- what the module must have for the names that an expression asks -/
inductive Ref where
  | fn (nm : Str) (m : Mir) | mt (c : Nat) (nm : Str) (m : Mir) | mk (c : Nat) (nm : Str) (m : Mir) | gl (x : Str) (d : D) | kl (k : Kls) | fl (c : Nat) (f : Str) | hd (n : Nat) (m : Mir) | any (b : RSp)
def RefOk (G : Ctx) (X : Cx) : Ref → Prop
  | .fn nm m => ∃ k f fd ps, FnOk X.prog X.w X.K X.mg X.base (L2.CX X.prog X.w) k f fd ps (spM G m) ∧ Room k X.A ∧ X.mg nm = some (.ref f) ∧ PySem.W.keepIn X.K (.ref f) = true ∧ Binds X.K fd ps []
  | .mt c nm m => ∃ k f fd ps, FnOk X.prog X.w X.K X.mg X.base (L2.CX X.prog X.w) k f fd ps (spM G m) ∧ Room k X.A ∧ Cls X.K (G.cls c) ∧ Meth X.K (G.cls c) nm f ∧ Binds X.K fd ps []
  | .mk c nm m => ∃ k f fd ps sp, FnOk X.prog X.w X.K X.mg X.base (L2.CX X.prog X.w) k f fd ps sp ∧ Room (k + 1) X.A ∧ X.mg nm = some (.ref (G.cls c)) ∧ Mk X.K (G.cls c) f ∧ Binds X.K fd ps [] ∧
      ∀ vs H Q E, spM G m vs H Q E → ∀ x dx, H x = none → H dx = none → dx ≠ x → sp (.ref x :: vs) (upd (upd H dx (.own x)) x (.ins (G.cls c) dx [])) (fun v H2 => v = .non ∧ Q (.ref x) H2) E
  | .gl x d => ∃ u v, X.mg x = some u ∧ RelV v u ∧ ∀ H, Rep G H d v
  | .kl k => KlOk G X k
  | .fl c f => Cls X.K (G.cls c) ∧ NoAttr X.K (G.cls c) f
  | .hd n m => ∃ k f fd ps, FnOk X.prog X.w X.K X.mg X.base (L2.CX X.prog X.w) k f fd ps (spM G m) ∧ Room k X.A ∧ G.glb n = .ref f ∧ PySem.W.keepIn X.K (.ref f) = true ∧ Binds X.K fd ps []
  | .any b => b.P G X
/-- the context, for expressions -/
structure XOkE (G : Ctx) (X : Cx) (W : WX) (N : List Str) (sc : Scope) : Prop extends XOk G X where
  hN : X.N = N
  hsc : X.env.scope = sc
  nb : ∀ x ∈ bltNames, X.mg x = none
  tk : Takes X W
/-- an expression's reading by cells -/
def tEv (G : Ctx) (W : WX) (f : List C → M C) : TE := fun σ H Q => ∃ H0 Hs0 Hs ρ r, SR G H0 Hs0 σ H Hs ρ ∧ f ρ = some r ∧ PostE G W H0 σ H Hs Q r
/-- any other expression: its text, its meaning, what it asks of the module, the proof -/
structure ESp where
  chk : List Str → Scope → Expr → Bool
  ev : List C → M C
  refs : List Ref
  pl : ∀ {N : List Str} {sc : Scope} {e : Expr}, chk N sc e = true → isPlain e = true ∧ plainT e = true ∧ compE e = false
  ok : ∀ {G : Ctx} {X : Cx} {W : WX} {N : List Str} {sc : Scope} {e : Expr}, XOkE G X W N sc → (∀ r ∈ refs, RefOk G X r) → chk N sc e = true → PE X e (tEv G W ev)
inductive E where
  | nop
  | var (i : Nat)
  | cst (d : D)
  | gl (x : Str) (d : D)
  | tup (es : List E)
  | lst (es : List E)
  | op (o : Op2) (a b : E)
  | chain (o1 o2 : Op2) (a b c : E)
  | neg (a : E)
  | and_ (a b : E)
  | or_ (a b : E)
  | not_ (a : E)
  | ite (c a b : E)
  | ix (a i : E)
  | sl (a lo hi : E)
  | rev (a : E)
  | sls (a lo st : E)
  | lc (t : Tgt) (it : E) (cs : List E) (elt : E)
  | call (nm : Str) (m : Mir) (es : List E)
  | meth (c : Nat) (nm : Str) (m : Mir) (o : E) (es : List E)
  | make (c : Nat) (nm : Str) (m : Mir) (es : List E)
  | blt (b : Blt) (es : List E)
  | mth (b : Mth) (o : E) (es : List E)
  | fld (c : Nat) (o : E) (f : Str)
  | isi (a : E) (ks : List Kls)
  | lstR (tup : Bool) (b : E)
  | lstR2 (tup : Bool) (a b : E)
  | dnewK | dnewT
  | dict1 (k v : E)
  | dict2 (k v k2 v2 : E)
  | dget2 (d k x : E)
  | spec (b : Spc) (es : List E)
  | callV (i : Nat) (fs : List (Nat × Mir)) (es : List E)
  | iRng (es : List E)
  | iEnum (e : E)
  | iRevR (b : E)
  | iZip (a b : E)
  | iStr (a : E)
  | esp (b : ESp)

def look1 (x : M C) : M D := x.bind fun c => M.lift c.look
def keep1 (x : M C) : M D := x.bind fun c => M.lift c.keep
/-- an argument, as the callee has it -/
def C.arg : C → Option C
  | .val d => some (.val d)
  | .own o => some (.val o.frz)
  | .bor o => some (.bor o)
  | .lon o => some (.bor o)
  | .un => none
def lookAll : List C → Option (List D)
  | [] => some []
  | c :: cs => match c.look, lookAll cs with
    | some d, some ds => some (d :: ds)
    | _, _ => none
def keepAll : List C → Option (List D)
  | [] => some []
  | c :: cs => match c.keep, keepAll cs with
    | some d, some ds => some (d :: ds)
    | _, _ => none
def tstD : D → Option Bool
  | .bl b => some b
  | _ => none
def intO : D → Option Int
  | .int i => some i
  | _ => none
def Tgt.slots : Tgt → List Nat
  | .one i => [i]
  | .tup is => is
def wipeC (ρ : List C) : List Nat → List C
  | [] => ρ
  | v :: vs => (wipeC ρ vs).set v .un
/-- a loop's turn binds its target -/
def bindT : Tgt → D → List C → Option (List C)
  | .one i, d, ρ => some (ρ.set i (.val d))
  | .tup is, .tup ds, ρ => if is.length = ds.length then some ((is.zip ds).foldl (fun r p => r.set p.1 (.val p.2)) ρ) else none
  | .tup is, .lst ds, ρ => if is.length = ds.length then some ((is.zip ds).foldl (fun r p => r.set p.1 (.val p.2)) ρ) else none
  | _, _, _ => none
/-- a comprehension's list, turn by turn: f tells the item or that there is none -/
def collect (f : D → M (Option D)) : List D → M (List D)
  | [] => .ok []
  | d :: ds => (f d).bind fun o => (collect f ds).bind fun rest => .ok (match o with | some y => y :: rest | none => rest)
def rngD (a b : Int) : List D := (List.range (b - a).toNat).map fun i => .int (a + (i : Nat))
def rngC (lo c : Int) (n : Nat) : List D := (List.range n).map fun i => .int (lo + (i : Nat) * c)
def bnd62 (i : Int) : Bool := decide (-(2 ^ 62) ≤ i) && decide (i < 2 ^ 62)
def rngArgs : List D → Option (List D)
  | [.int b] => if bnd62 b then some (rngD 0 b) else none
  | [.int a, .int b] => if bnd62 a && bnd62 b then some (rngD a b) else none
  | [.int a, .int b, .int c] => if c ≠ 0 ∧ c.natAbs < 1073741824 ∧ Builtin.Range.small a b c = true ∧ 0 ≤ Builtin.Range.rangeSize a b c then some (rngC a c (Builtin.Range.rangeSize a b c).toNat) else none
  | _ => none
/-- a list, a tuple of a range -/
def rngV (t : Bool) : D → D → Option C
  | .int a, .int b => if bnd62 a && bnd62 b && decide ((b - a).toNat ≤ 2 ^ 24) then some (if t then .val (.tup (rngD a b)) else .own (.lst (rngD a b))) else none
  | _, _ => none
def enumD (xs : List D) : List D := xs.mapIdx fun i x => .tup [.int (i : Nat), x]
def zipD (xs ys : List D) : List D := (xs.zip ys).map fun p => .tup [p.1, p.2]
def seqD : D → Option (List D)
  | .lst xs => some xs
  | .tup xs => some xs
  | _ => none
def clsOf : D → Option Nat
  | .ins c _ _ => some c
  | _ => none
def fldD (f : Str) : D → Option D
  | .ins _ ns vs => findK ns vs f
  | _ => none
def isKl : D → Kls → Option Bool
  | .err i, k => some (isErr i k)
  | d, k => (tyName d).map fun T => isTy T k
def isAny (d : D) : List Kls → Option Bool
  | [] => some false
  | k :: ks => match isKl d k, isAny d ks with
    | some a, some b => some (a || b)
    | _, _ => none

/-- what a loop walks -/
def seqC : C → M (List D)
  | .val d => M.lift (seqD d)
  | .own o => M.lift (seqD o.frz)
  | .bor o => M.lift (seqD o.frz)
  | _ => none
def partO : D → M (Option Int)
  | .int i => .ok (some i)
  | _ => none
def E.isNop : E → Bool
  | .nop => true
  | _ => false
mutual
def ev : E → List C → M C
  | .nop, _ => none
  | .var i, ρ => match ρ[i]? with
    | some .un => none
    | some c => .ok c.rd
    | none => none
  | .cst d, _ => .ok (.val d)
  | .gl _ d, _ => .ok (.val d)
  | .tup es, ρ => (evs es ρ).bind fun cs => (M.lift (keepAll cs)).bind fun ds => if ds.length ≤ sizeLine then .ok (.val (.tup ds)) else none
  | .lst es, ρ => (evs es ρ).bind fun cs => (M.lift (keepAll cs)).bind fun ds => if ds.length ≤ sizeLine then .ok (.own (.lst ds)) else none
  | .op o a b, ρ => (look1 (ev a ρ)).bind fun x => (look1 (ev b ρ)).bind fun y => M.lift (opD o x y)
  | .chain o1 o2 a b c, ρ => (look1 (ev a ρ)).bind fun x => (look1 (ev b ρ)).bind fun y => (M.lift (opD o1 x y)).bind fun r => match r with
    | .val (.bl true) => (look1 (ev c ρ)).bind fun z => M.lift (opD o2 y z)
    | .val (.bl false) => .ok (.val (.bl false))
    | _ => none
  | .neg a, ρ => (look1 (ev a ρ)).bind fun x => match x with
    | .int i => .ok (.val (.int (-i)))
    | _ => none
  | .and_ a b, ρ => (look1 (ev a ρ)).bind fun x => match x with
    | .bl true => ev b ρ
    | .bl false => .ok (.val (.bl false))
    | _ => none
  | .or_ a b, ρ => (look1 (ev a ρ)).bind fun x => match x with
    | .bl true => .ok (.val (.bl true))
    | .bl false => ev b ρ
    | _ => none
  | .not_ a, ρ => (look1 (ev a ρ)).bind fun x => match x with
    | .bl b => .ok (.val (.bl !b))
    | _ => none
  | .ite c a b, ρ => (look1 (ev c ρ)).bind fun x => match x with
    | .bl true => ev a ρ
    | .bl false => ev b ρ
    | _ => none
  | .ix a i, ρ => (look1 (ev a ρ)).bind fun x => (look1 (ev i ρ)).bind fun y => (M.lift (ixD x y)).bind fun d => .ok (.val d)
  | .sl a lo hi, ρ => (look1 (ev a ρ)).bind fun x => (if lo.isNop then .ok none else (look1 (ev lo ρ)).bind partO).bind fun l =>
      (if hi.isNop then .ok none else (look1 (ev hi ρ)).bind partO).bind fun h => M.lift (slD x l h)
  | .sls a lo hi, ρ => (look1 (ev a ρ)).bind fun x => (if lo.isNop then .ok none else (look1 (ev lo ρ)).bind partO).bind fun l =>
      (if hi.isNop then .ok none else (look1 (ev hi ρ)).bind partO).bind fun h => M.lift (stD x l h)
  | .rev a, ρ => (look1 (ev a ρ)).bind fun x => match x with
    | .lst xs => .ok (.own (.lst xs.reverse))
    | _ => none
  | .lc t it cs elt, ρ => ((ev it ρ).bind seqC).bind fun ds => match collect (fun d => match bindT t d (wipeC ρ t.slots) with
      | none => none
      | some ρ' => (evCond cs ρ').bind fun b => if b then (keep1 (ev elt ρ')).bind fun y => .ok (some y) else .ok none) ds with
    | some (.ok ys) => if ys.length ≤ sizeLine then .ok (.own (.lst ys)) else none
    | _ => none
  | .call _ m es, ρ => (evs es ρ).bind m
  | .meth c nm m o es, ρ => (look1 (ev o ρ)).bind fun x => match x with
    | .ins c' ns vs => if c' = c ∧ nm ∉ ns then (evs es ρ).bind fun cs => m (.val (.ins c' ns vs) :: cs) else none
    | _ => none
  | .make _ _ m es, ρ => (evs es ρ).bind m
  | .blt b es, ρ => (evs es ρ).bind fun cs => (M.lift (lookAll cs)).bind fun ds => M.lift (b.f ds)
  | .mth b o es, ρ => (look1 (ev o ρ)).bind fun x => if b.ty x = false then none else (evs es ρ).bind fun cs => (M.lift (lookAll cs)).bind fun ds => M.lift (b.f x ds)
  | .fld c o f, ρ => (look1 (ev o ρ)).bind fun x => match x with
    | .ins c' ns vs => if c' = c then (M.lift (findK ns vs f)).bind fun d => .ok (.val d) else none
    | _ => none
  | .isi a ks, ρ => (look1 (ev a ρ)).bind fun x => (M.lift (isAny x ks)).bind fun b => .ok (.val (.bl b))
  | .lstR t b, ρ => (look1 (ev b ρ)).bind fun y => M.lift (rngV t (.int 0) y)
  | .lstR2 t a b, ρ => (look1 (ev a ρ)).bind fun x => (look1 (ev b ρ)).bind fun y => M.lift (rngV t x y)
  | .dnewK, _ => .ok (.own (.dK [] []))
  | .dnewT, _ => .ok (.own (.dT [] []))
  | .dict1 k v, ρ => (look1 (ev k ρ)).bind fun x => (keep1 (ev v ρ)).bind fun y => match keyD x with
    | some kk => .ok (.own (.dK [kk] [y]))
    | none => none
  | .dict2 k v k2 v2, ρ => (look1 (ev k ρ)).bind fun x => (keep1 (ev v ρ)).bind fun y => (look1 (ev k2 ρ)).bind fun x2 => (keep1 (ev v2 ρ)).bind fun y2 => match keyD x, keyD x2 with
    | some a, some b => if a = b then none else .ok (.own (.dK [a, b] [y, y2]))
    | _, _ => none
  | .dget2 d k x, ρ => (look1 (ev d ρ)).bind fun c => match c with
    | .dK ks vs => (look1 (ev k ρ)).bind fun i => (keep1 (ev x ρ)).bind fun z => match keyD i with
      | some kk => .ok (.val ((findK ks vs kk).getD z))
      | none => none
    | _ => none
  | .spec b es, ρ => (evs es ρ).bind fun cs => M.lift (b.f cs)
  | .callV i fs es, ρ => match ρ[i]? with
    | some (.val (.glb n)) => match fs.lookup n with
      | some m => (evs es ρ).bind m
      | none => none
    | _ => none
  | .iRng es, ρ => (evs es ρ).bind fun cs => (M.lift (lookAll cs)).bind fun ds => (M.lift (rngArgs ds)).bind fun xs => .ok (.own (.lst xs))
  | .iEnum e, ρ => ((ev e ρ).bind seqC).bind fun xs => .ok (.own (.lst (enumD xs)))
  | .iRevR b, ρ => (look1 (ev b ρ)).bind fun y => match y with
    | .int b => if bnd62 b then .ok (.own (.lst (rngC (b - 1) (-1) b.toNat))) else none
    | _ => none
  | .iZip _ _, _ => none
  | .esp b, ρ => b.ev ρ
  | .iStr a, ρ => (look1 (ev a ρ)).bind fun y => match y with
    | .str z => .ok (.own (.lst (z.cps.toList.map fun c => .str ⟨#[c]⟩)))
    | _ => none
def evs : List E → List C → M (List C)
  | [], _ => .ok []
  | e :: es, ρ => (ev e ρ).bind fun c => (M.lift c.arg).bind fun a => (evs es ρ).bind fun cs => .ok (a :: cs)
/-- the tests of a comprehension: all of them -/
def evCond : List E → List C → M Bool
  | [], _ => .ok true
  | e :: es, ρ => (look1 (ev e ρ)).bind fun x => match x with
    | .bl true => evCond es ρ
    | .bl false => .ok false
    | _ => none
end
example : ev (.op .add (.cst (.int 1)) (.var 0)) [.val (.int 2)] = .ok (.val (.int 3)) := rfl
end VS

set_option Elab.async false
set_option linter.all false
set_option autoImplicit false
set_option maxRecDepth 100000
set_option maxHeartbeats 4000000
/-! VS: which text an expression is of. -/
namespace VS
open PySem L2

def vis (sc : Scope) (x : Str) : Bool := match sc.names.lookup x with
  | some .local => true
  | some .cell => true
  | some .free => true
  | _ => false
def loc (sc : Scope) (x : Str) : Bool := match sc.names.lookup x with
  | some .local => true
  | _ => false
def glo (sc : Scope) (x : Str) : Bool := (match sc.names.lookup x with
  | some .globalImplicit => true
  | _ => false) && !(x == ("__debug__" : Str))
def nmOk (x : Str) : Bool := !(x == ("__debug__" : Str)) && !(x == ("__classdict__" : Str))
def constIs : Const → D → Bool
  | .none, .non => true
  | .bool a, .bl b => a == b
  | .int a, .int b => decide (a = b)
  | .str a, .str b => decide (a = b)
  | _, _ => false
/-- what may stand as a test -/
def tstE : E → Bool
  | .ite _ _ _ => false
  | .and_ a b => tstE a && tstE b
  | .or_ a b => tstE a && tstE b
  | .not_ a => tstE a
  | _ => true
def cel (sc : Scope) (x : Str) : Bool := match sc.names.lookup x with
  | some .cell => true
  | _ => false
/-- the name of slot i; c: a cell may stand there, too -/
def nmAt (N : List Str) (sc : Scope) (c : Bool) (i : Nat) : Expr → Bool
  | .Name x _ => decide (N[i]? = some x) && (loc sc x || (c && cel sc x))
  | _ => false
def nmsAt (N : List Str) (sc : Scope) (c : Bool) : List Nat → List Expr → Bool
  | [], [] => true
  | i :: is, e :: es => nmAt N sc c i e && nmsAt N sc c is es
  | _, _ => false
def tgtIs (N : List Str) (sc : Scope) (c : Bool) : Tgt → Expr → Bool
  | .one i, e => nmAt N sc c i e
  | .tup is, e => match e with
    | .Tuple es _ _ => nmsAt N sc c is es && decide is.Nodup && !es.isEmpty
    | _ => false
def klsName : Kls → Str
  | .tyInt => "int"
  | .tyBool => "bool"
  | .tyStr => "str"
  | .tyTup => "tuple"
  | .tyLst => "list"
  | .tyDict => "dict"
  | .tyValueError => "ValueError"
  | .own _ x => x
def klsIs (sc : Scope) (k : Kls) : Expr → Bool
  | .Name x _ => decide (x = klsName k) && glo sc x
  | _ => false
def klssAre (sc : Scope) : List Kls → List Expr → Bool
  | [], [] => true
  | k :: ks, e :: es => klsIs sc k e && klssAre sc ks es
  | _, _ => false
def isTupTgt : Tgt → Bool
  | .tup _ => true
  | _ => false
def nullE {α : Type} : List α → Bool
  | [] => true
  | _ => false
mutual
def chk (N : List Str) (sc : Scope) (md : Nat) : E → Expr → Bool
  | .nop, _ => false
  | .var i, e => match e with
    | .Name x _ => decide (N[i]? = some x) && vis sc x && nmOk x
    | _ => false
  | .cst d, e => match e with
    | .Constant c _ _ => constIs c d
    | _ => false
  | .gl y _, e => match e with
    | .Name x _ => decide (x = y) && glo sc x
    | _ => false
  | .tup es, e => match e with
    | .Tuple xs _ _ => chkL N sc es xs
    | _ => false
  | .lst es, e => match e with
    | .List xs _ => chkL N sc es xs
    | _ => false
  | .op o a b, e => match e with
    | .BinOp l op r _ => (match pyOp o with | .inl op' => decide (op = op') | .inr _ => false) && chk N sc 0 a l && chk N sc 0 b r
    | .Compare l [op] [r] _ => (match pyOp o with | .inl _ => false | .inr op' => decide (op = op')) && chk N sc 0 a l && chk N sc 0 b r
    | _ => false
  | .chain o1 o2 a b c, e => match e with
    | .Compare l [p, q] [m, r] _ => (match pyOp o1 with | .inl _ => false | .inr op' => decide (p = op')) && (match pyOp o2 with | .inl _ => false | .inr op' => decide (q = op')) && chk N sc 0 a l && chk N sc 0 b m && chk N sc 0 c r
    | _ => false
  | .neg a, e => match e with
    | .UnaryOp .USub x _ => chk N sc 0 a x
    | _ => false
  | .and_ a b, e => match e with
    | .BoolOp .And (x :: y :: r) p => chk N sc 0 a x && (if nullE r then chk N sc 0 b y else chk N sc 0 b (.BoolOp .And (y :: r) p))
    | _ => false
  | .or_ a b, e => match e with
    | .BoolOp .Or (x :: y :: r) p => chk N sc 0 a x && (if nullE r then chk N sc 0 b y else chk N sc 0 b (.BoolOp .Or (y :: r) p))
    | _ => false
  | .not_ a, e => match e with
    | .UnaryOp .Not x _ => chk N sc 0 a x
    | _ => false
  | .ite c a b, e => match e with
    | .IfExp t x y _ => tstE c && chk N sc 0 c t && chk N sc 0 a x && chk N sc 0 b y
    | _ => false
  | .ix a i, e => match e with
    | .Subscript x y _ => chk N sc 0 a x && chk N sc 0 i y
    | _ => false
  | .sl a lo hi, e => match e with
    | .Subscript x (.Slice l h none _) _ => chk N sc 0 a x && (match l with | none => lo.isNop | some y => chk N sc 0 lo y) && (match h with | none => hi.isNop | some y => chk N sc 0 hi y)
    | _ => false
  | .sls a lo st, e => match e with
    | .Subscript x (.Slice (some l) none (some h) _) _ => chk N sc 0 a x && chk N sc 0 lo l && chk N sc 0 st h
    | _ => false
  | .rev a, e => match e with
    | .Subscript x (.Slice none none (some (.UnaryOp .USub (.Constant (.int 1) _ _) _)) _) _ => chk N sc 0 a x
    | _ => false
  | .lc t it cs elt, e => match e with
    | .ListComp el [⟨tg, iter, ifs, 0⟩] scope _ => chk N sc (if isTupTgt t then 2 else 1) it iter && tgtIs N (relS scope sc) false t tg && decide (ifs.length ≤ 1) && cs.all tstE && chkL N (relS scope sc) cs ifs && chk N (relS scope sc) 0 elt el &&
        blkC N sc scope (t.slots.map fun i => (N.getD i "", i)) && decide (t.slots.length ≤ sizeLine)
    | _ => false
  | .call nm _ es, e => match e with
    | .Call (.Name x _) as [] _ => decide (x = nm) && glo sc x && chkL N sc es as
    | _ => false
  | .meth _ nm _ o es, e => match e with
    | .Call (.Attribute ob m ap) as [] cp => decide (m = nm) && (ap.endLine == cp.line) && attrOk ob && decide (as.length < 30) && chk N sc 0 o ob && chkL N sc es as
    | _ => false
  | .make _ nm _ es, e => match e with
    | .Call (.Name x _) as [] _ => decide (x = nm) && glo sc x && !nullE as && chkL N sc es as
    | _ => false
  | .blt b es, e => match e with
    | .Call (.Name x _) as [] _ => decide (x = b.nm) && glo sc x && decide (b.nm ∈ bltNames) && !nullE as && chkL N sc es as
    | _ => false
  | .mth b o es, e => match e with
    | .Call (.Attribute ob m ap) as [] cp => decide (m = b.nm) && (ap.endLine == cp.line) && attrOk ob && decide (as.length = b.ar ∧ as.length < 30) && chk N sc 0 o ob && chkL N sc es as
    | _ => false
  | .fld _ o f, e => match e with
    | .Attribute ob g _ => decide (g = f) && attrOk ob && chk N sc 0 o ob
    | _ => false
  | .isi a ks, e => match e with
    | .Call (.Name x _) [y, c] [] _ => decide (x = "isinstance") && glo sc x && chk N sc 0 a y && (match c with | .Tuple cs _ _ => klssAre sc ks cs && decide (1 < ks.length ∧ ks.length ≤ 9) | _ => klssAre sc ks [c])
    | _ => false
  | .lstR t b, e => match e with
    | .Call (.Name x _) [.Call (.Name y _) [u] [] _] [] _ => decide (x = (if t then "tuple" else "list")) && decide (y = "range") && glo sc x && glo sc y && chk N sc 0 b u
    | _ => false
  | .lstR2 t a b, e => match e with
    | .Call (.Name x _) [.Call (.Name y _) [u, v] [] _] [] _ => decide (x = (if t then "tuple" else "list")) && decide (y = "range") && glo sc x && glo sc y && chk N sc 0 a u && chk N sc 0 b v
    | _ => false
  | .dnewK, e => match e with
    | .Dict [] [] _ => true
    | _ => false
  | .dnewT, e => match e with
    | .Dict [] [] _ => true
    | _ => false
  | .dict1 k v, e => match e with
    | .Dict [some x] [y] _ => chk N sc 0 k x && chk N sc 0 v y
    | _ => false
  | .dict2 k v k2 v2, e => match e with
    | .Dict [some x, some x2] [y, y2] _ => chk N sc 0 k x && chk N sc 0 v y && (chk N sc 0 k2 x2 && chk N sc 0 v2 y2)
    | _ => false
  | .dget2 d k x, e => match e with
    | .Call (.Attribute ob m ap) [y, z] [] cp => decide (m = "get") && (ap.endLine == cp.line) && attrOk ob && chk N sc 0 d ob && chk N sc 0 k y && chk N sc 0 x z
    | _ => false
  | .esp b, e => b.chk N sc e
  | .spec b es, e => match b.pat N sc e with
    | some xs => chkL N sc es xs
    | none => false
  | .callV i _ es, e => match e with
    | .Call (.Name x _) as [] _ => decide (N[i]? = some x) && vis sc x && nmOk x && !nullE as && chkL N sc es as
    | _ => false
  | .iRng es, e => match e with
    | .Call (.Name x _) as [] _ => decide (0 < md) && decide (x = "range") && glo sc x && decide (1 ≤ as.length ∧ as.length ≤ 3) && chkL N sc es as
    | _ => false
  | .iEnum a, e => match e with
    | .Call (.Name x _) [y] [] _ => decide (md = 2) && decide (x = "enumerate") && glo sc x && chk N sc 0 a y
    | _ => false
  | .iStr a, e => match e with
    | .Name x p => decide (md ≠ 0) && chk N sc 0 a (.Name x p)
    | _ => false
  | .iRevR b, e => match e with
    | .Call (.Name x _) [.Call (.Name y _) [u] [] _] [] _ => decide (0 < md) && decide (x = "reversed") && decide (y = "range") && glo sc x && glo sc y && chk N sc 0 b u
    | _ => false
  | .iZip a c, e => match e with
    | .Call (.Name x _) [y, z] [] _ => decide (md = 2) && decide (x = "zip") && glo sc x && chk N sc 0 a y && chk N sc 0 c z
    | _ => false
def chkL (N : List Str) (sc : Scope) : List E → List Expr → Bool
  | [], [] => true
  | a :: as, e :: es => chk N sc 0 a e && chkL N sc as es
  | _, _ => false
end
end VS

set_option Elab.async false
set_option linter.all false
set_option autoImplicit false
set_option maxRecDepth 100000
set_option maxHeartbeats 4000000
/-! VS: readings by meaning; the expressions keep them. -/
namespace VS
open PySem L2

/-! ### what the text must be for the rules -/
theorem plain_of_chk {N : List Str} {sc : Scope} {md : Nat} {E : E} {e : Expr} (h : chk N sc md E e = true) : isPlain e = true := by
  by_cases hs : ∃ b es, E = .spec b es
  · obtain ⟨b, es, rfl⟩ := hs
    simp only [chk] at h
    split at h
    · rename_i q; exact (b.pl q).1
    · cases h
  · by_cases hp : ∃ b, E = .esp b
    · obtain ⟨b, rfl⟩ := hp
      simp only [chk] at h
      exact (b.pl h).1
    · cases e <;> first | rfl | (exfalso; cases E <;> first | (simp [chk] at h; done) | exact hs ⟨_, _, rfl⟩ | exact hp ⟨_, rfl⟩)
theorem plains_of_chk {N : List Str} {sc : Scope} : ∀ {Es : List E} {es : List Expr}, chkL N sc Es es = true → es.all isPlain = true
  | [], [], _ => rfl
  | [], _ :: _, h => by simp [chkL] at h
  | _ :: _, [], h => by simp [chkL] at h
  | a :: as, e :: es, h => by
    simp only [chkL, Bool.and_eq_true] at h
    simp only [List.all_cons, Bool.and_eq_true]
    exact ⟨plain_of_chk h.1, plains_of_chk h.2⟩
theorem star_of {e : Expr} {es : List Expr} {env : Env} (h : isPlain e = true) : starEach (e :: es) env = (false, eval e env) :: starEach es env := by
  cases e <;> first | rfl | cases h
theorem back_of {pos : Pos} {env : Env} : ∀ {es : List Expr}, es.all isPlain = true → (backTo pos (starEach es env)).any (·.1) = false
  | [], _ => rfl
  | e :: es, h => by
    simp only [List.all_cons, Bool.and_eq_true] at h
    rw [star_of h.1]
    have ih := back_of (pos := pos) (env := env) h.2
    show (false || (backTo pos (starEach es env)).any (·.1)) = false
    rw [ih]; rfl
theorem base_of {o : Expr} {m : Str} {env : Env} {w : Sem Value} (h : attrOk o = true) : attributeBase o m env w = w := by
  cases o <;> first | rfl | skip
  rename_i f as ks p
  cases f <;> first | rfl | skip
  cases as <;> first | rfl | skip
  cases ks <;> first | rfl | skip
  cases h

/-! ### readings by meaning -/
def tE (G : Ctx) (W : WX) (e : E) : TE := fun σ H Q => ∃ H0 Hs0 Hs ρ r, SR G H0 Hs0 σ H Hs ρ ∧ ev e ρ = some r ∧ PostE G W H0 σ H Hs Q r
def PostA (G : Ctx) (W : WX) (σ : St) (H Hs : Hp) (Q : List V → Hp → Prop) : Except Nat (List C) → Prop
  | .ok cs => ∀ vs H' Hs', Stp G.tabs H Hs H' Hs' → ArgsR G H' Hs' cs vs → Q vs H'
  | .error k => ErP G W σ H Hs k
def tA (G : Ctx) (W : WX) (es : List E) : TA := fun σ H Q => ∃ H0 Hs0 Hs ρ r, SR G H0 Hs0 σ H Hs ρ ∧ evs es ρ = some r ∧ PostA G W σ H Hs Q r
def PostT (G : Ctx) (W : WX) (σ : St) (H Hs : Hp) (Q : Bool → Hp → Prop) : Except Nat C → Prop
  | .ok c => ∃ b, c.look = some (.bl b) ∧ ∀ H' Hs', Stp G.tabs H Hs H' Hs' → Q b H'
  | .error k => ErP G W σ H Hs k
def tT (G : Ctx) (W : WX) (e : E) : TT := fun σ H Q => ∃ H0 Hs0 Hs ρ r, SR G H0 Hs0 σ H Hs ρ ∧ ev e ρ = some r ∧ PostT G W σ H Hs Q r

theorem _root_.L2.PE.imp {X : Cx} {e : Expr} {t t' : TE} (h : PE X e t) (k : ∀ σ H Q, t' σ H Q → t σ H Q) : PE X e t' := ⟨fun pins s σ H Q I q => h.run pins s σ H Q I (k σ H Q q)⟩
theorem _root_.L2.PE.pick {X : Cx} {e : Expr} {t' : TE} (k : ∀ σ H Q, t' σ H Q → ∃ t, PE X e t ∧ t σ H Q) : PE X e t' := ⟨fun pins s σ H Q I q => by
  obtain ⟨t, h, q'⟩ := k σ H Q q
  exact h.run pins s σ H Q I q'⟩
theorem _root_.L2.PT.imp {X : Cx} {e : Expr} {t t' : TT} (h : PT X e t) (k : ∀ σ H Q, t' σ H Q → t σ H Q) : PT X e t' := ⟨fun pins s σ H Q I q => h.run pins s σ H Q I (k σ H Q q)⟩
theorem _root_.L2.PSs.imp {X : Cx} {e : List Stmt} {t t' : TS} (h : PSs X e t) (k : ∀ D σ H, t' D σ H → t D σ H) : PSs X e t' := ⟨fun pins s σ H D I q => h.run pins s σ H D I (k D σ H q)⟩
theorem _root_.L2.PS.imp {X : Cx} {e : Stmt} {t t' : TS} (h : PS X e t) (k : ∀ D σ H, t' D σ H → t D σ H) : PS X e t' := ⟨fun pins s σ H D I q => h.run pins s σ H D I (k D σ H q)⟩
theorem _root_.L2.PS.pick {X : Cx} {e : Stmt} {t' : TS} (k : ∀ D σ H, t' D σ H → ∃ t, PS X e t ∧ t D σ H) : PS X e t' := ⟨fun pins s σ H D I q => by
  obtain ⟨t, h, q'⟩ := k D σ H q
  exact h.run pins s σ H D I q'⟩
theorem _root_.L2.PI.imp {X : Cx} {tg e : Expr} {t t' : TI} (h : PI X tg e t) (k : ∀ σ H R, t' σ H R → t σ H R) : PI X tg e t' := ⟨fun pins s σ H R I q => h.run pins s σ H R I (k σ H R q)⟩
theorem _root_.L2.PI.pick {X : Cx} {tg e : Expr} {t' : TI} (k : ∀ σ H R, t' σ H R → ∃ t, PI X tg e t ∧ t σ H R) : PI X tg e t' := ⟨fun pins s σ H R I q => by
  obtain ⟨t, h, q'⟩ := k σ H R q
  exact h.run pins s σ H R I q'⟩
theorem _root_.L2.PA.imp {X : Cx} {e : List Expr} {t t' : TA} (h : PA X e t) (k : ∀ σ H Q, t' σ H Q → t σ H Q) : PA X e t' := ⟨fun pos pins s σ H Q I q => h.run pos pins s σ H Q I (k σ H Q q)⟩

section
variable {G : Ctx} {W : WX} {H0 Hs0 H Hs : Hp} {σ : St} {ρ : List C}
theorem bind_cases {α β : Type} {x : M α} {f : α → M β} {r : Except Nat β} (h : x.bind f = some r) : (∃ k, x = some (.error k) ∧ r = .error k) ∨ ∃ a, x = some (.ok a) ∧ f a = some r := by
  match x, h with
  | some (.ok a), h => exact .inr ⟨a, rfl, h⟩
  | some (.error k), h => cases h; exact .inl ⟨k, rfl, rfl⟩
  | none, h => cases h
theorem lift_cases {α : Type} {o : Option α} {r : Except Nat α} (h : M.lift o = some r) : ∃ a, o = some a ∧ r = .ok a := by
  cases o with
  | none => cases h
  | some a => cases h; exact ⟨a, rfl, rfl⟩
/-- an operand is read -/
theorem look_run2 {β : Type} {a : E} {f : D → M β} {r : Except Nat β} {Q : VK} (sr : SR G H0 Hs0 σ H Hs ρ) (h : (look1 (ev a ρ)).bind f = some r)
    (er : ∀ k, r = .error k → ErP G W σ H Hs k)
    (ok : ∀ d x H1 Hs1, look1 (ev a ρ) = some (.ok d) → Stp G.tabs H Hs H1 Hs1 → RdW G H1 Hs1 d x → SR G H0 Hs0 σ H1 Hs1 ρ → f d = some r → Q x H1) : tE G W a σ H Q := by
  rcases bind_cases h with ⟨k, h1, h2⟩ | ⟨d, h1, h2⟩
  · rcases bind_cases h1 with ⟨k', h3, h4⟩ | ⟨c, h3, h4⟩
    · cases h4
      exact ⟨H0, Hs0, Hs, ρ, _, sr, h3, er k h2⟩
    · obtain ⟨_, _, h5⟩ := lift_cases h4; cases h5
  · rcases bind_cases h1 with ⟨k', h3, h4⟩ | ⟨c, h3, h4⟩
    · cases h4
    · obtain ⟨d', h5, h6⟩ := lift_cases h4
      cases h6
      refine ⟨H0, Hs0, Hs, ρ, _, sr, h3, fun v H' Hs' st rc => ?_⟩
      obtain ⟨Hs1, st1, _, rd⟩ := rc.look st h5
      exact ok d v H' Hs1 h1 st1 rd (sr.step st1) h2
theorem look_run {β : Type} {a : E} {f : D → M β} {r : Except Nat β} {Q : VK} (sr : SR G H0 Hs0 σ H Hs ρ) (h : (look1 (ev a ρ)).bind f = some r)
    (er : ∀ k, r = .error k → ErP G W σ H Hs k)
    (ok : ∀ d x H1 Hs1, Stp G.tabs H Hs H1 Hs1 → RdW G H1 Hs1 d x → SR G H0 Hs0 σ H1 Hs1 ρ → f d = some r → Q x H1) : tE G W a σ H Q := look_run2 sr h er fun d x H1 Hs1 _ => ok d x H1 Hs1
/-- an operand is kept -/
theorem keep_run {β : Type} {a : E} {f : D → M β} {r : Except Nat β} {Q : VK} (sr : SR G H0 Hs0 σ H Hs ρ) (h : (keep1 (ev a ρ)).bind f = some r)
    (er : ∀ k, r = .error k → ErP G W σ H Hs k)
    (ok : ∀ d x H1 Hs1, Stp G.tabs H Hs H1 Hs1 → Rep G Hs1 d x → SR G H0 Hs0 σ H1 Hs1 ρ → f d = some r → Q x H1) : tE G W a σ H Q := by
  rcases bind_cases h with ⟨k, h1, h2⟩ | ⟨d, h1, h2⟩
  · rcases bind_cases h1 with ⟨k', h3, h4⟩ | ⟨c, h3, h4⟩
    · cases h4
      exact ⟨H0, Hs0, Hs, ρ, _, sr, h3, er k h2⟩
    · obtain ⟨_, _, h5⟩ := lift_cases h4; cases h5
  · rcases bind_cases h1 with ⟨k', h3, h4⟩ | ⟨c, h3, h4⟩
    · cases h4
    · obtain ⟨d', h5, h6⟩ := lift_cases h4
      cases h6
      refine ⟨H0, Hs0, Hs, ρ, _, sr, h3, fun v H' Hs' st rc => ?_⟩
      obtain ⟨Hs1, st1, _, rd⟩ := rc.kept st h5
      exact ok d v H' Hs1 st1 rd (sr.step st1) h2
/-- the arguments are reckoned -/
theorem args_run {β : Type} {es : List E} {f : List C → M β} {r : Except Nat β} {Q : List V → Hp → Prop} (sr : SR G H0 Hs0 σ H Hs ρ) (h : (evs es ρ).bind f = some r)
    (er : ∀ k, r = .error k → ErP G W σ H Hs k)
    (ok : ∀ cs vs H1 Hs1, Stp G.tabs H Hs H1 Hs1 → ArgsR G H1 Hs1 cs vs → SR G H0 Hs0 σ H1 Hs1 ρ → f cs = some r → Q vs H1) : tA G W es σ H Q := by
  rcases bind_cases h with ⟨k, h1, h2⟩ | ⟨cs, h1, h2⟩
  · exact ⟨H0, Hs0, Hs, ρ, _, sr, h1, er k h2⟩
  · exact ⟨H0, Hs0, Hs, ρ, _, sr, h1, fun vs H' Hs' st ra => ok cs vs H' Hs' st ra (sr.step st) h2⟩
theorem PostE.er {Q : VK} {r : Except Nat C} (p : PostE G W H0 σ H Hs Q r) : ∀ k, r = .error k → ErP G W σ H Hs k := fun k e => by subst e; exact p
theorem PostE.val {Q : VK} {d : D} {v : V} {H1 Hs1 : Hp} (p : PostE G W H0 σ H Hs Q (.ok (.val d))) (st : Stp G.tabs H Hs H1 Hs1) (r : Rep G Hs1 d v) : Q v H1 := p v H1 Hs1 st r
theorem PostE.n {Q : VK} {c : C} {H1 Hs1 : Hp} (p : PostE G W H0 σ H Hs Q (.ok c)) (st : Stp G.tabs H Hs H1 Hs1) : PostN G H1 Hs1 c Q := fun z H2 Hs2 st2 rn => p z H2 Hs2 (st.trans st2) (RepN.c (rn.pre st.a))
theorem ArgR.step {c : C} {v : V} {H1 Hs1 : Hp} (r : ArgR G H Hs c v) (st : Stp G.tabs H Hs H1 Hs1) : ArgR G H1 Hs1 c v := by
  cases c with
  | val d => exact Rep.mono st.b _ _ r
  | bor o => exact r.mono st.a st.b
  | un => exact r
  | own o => exact r
  | lon o => exact r
theorem ArgsR.look : ∀ {cs : List C} {vs : List V} {ds : List D}, Same Hs H → ArgsR G H Hs cs vs → lookAll cs = some ds → RdL G H Hs ds vs
  | [], vs, ds, _, r, e => by simp only [lookAll, Option.some.injEq] at e; subst e; simpa [ArgsR, RdL] using r
  | c :: cs, vs, ds, s, r, e => by
    obtain ⟨v, ws, rfl, h1, h2⟩ := r
    simp only [lookAll] at e
    split at e
    · rename_i d ds' e1 e2
      cases e
      refine ⟨v, ws, rfl, ?_, ArgsR.look s h2 e2⟩
      cases c with
      | val x => cases e1; exact Rep.rd s h1
      | bor o => cases e1; exact h1
      | un => exact h1.elim
      | own o => exact h1.elim
      | lon o => exact h1.elim
    · cases e
theorem ArgsR.keep : ∀ {cs : List C} {vs : List V} {ds : List D}, ArgsR G H Hs cs vs → keepAll cs = some ds → RepL G Hs ds vs
  | [], vs, ds, r, e => by simp only [keepAll, Option.some.injEq] at e; subst e; simpa [ArgsR, RepL] using r
  | c :: cs, vs, ds, r, e => by
    obtain ⟨v, ws, rfl, h1, h2⟩ := r
    simp only [keepAll] at e
    split at e
    · rename_i d ds' e1 e2
      cases e
      refine RepL.cons ?_ (ArgsR.keep h2 e2)
      cases c with
      | val x => cases e1; exact h1
      | bor o => cases e1
      | un => exact h1.elim
      | own o => exact h1.elim
      | lon o => exact h1.elim
    · cases e
end

mutual
def refs : E → List Ref
  | .gl x d => [.gl x d]
  | .tup es => refsL es
  | .lst es => refsL es
  | .op _ a b => refs a ++ refs b
  | .chain _ _ a b c => refs a ++ (refs b ++ refs c)
  | .neg a => refs a
  | .and_ a b => refs a ++ refs b
  | .or_ a b => refs a ++ refs b
  | .not_ a => refs a
  | .ite c a b => refs c ++ (refs a ++ refs b)
  | .ix a i => refs a ++ refs i
  | .sl a lo hi => refs a ++ (refs lo ++ refs hi)
  | .sls a lo hi => refs a ++ (refs lo ++ refs hi)
  | .rev a => refs a
  | .lc _ it cs elt => refs it ++ (refsL cs ++ refs elt)
  | .call nm m es => .fn nm m :: refsL es
  | .meth c nm m o es => .mt c nm m :: (refs o ++ refsL es)
  | .make c nm m es => .mk c nm m :: refsL es
  | .blt _ es => refsL es
  | .mth _ o es => refs o ++ refsL es
  | .fld c o f => .fl c f :: refs o
  | .isi a ks => ks.map .kl ++ refs a
  | .lstR _ b => refs b
  | .lstR2 _ a b => refs a ++ refs b
  | .dict1 k v => refs k ++ refs v
  | .dict2 k v k2 v2 => refs k ++ (refs v ++ (refs k2 ++ refs v2))
  | .dget2 d k x => refs d ++ (refs k ++ refs x)
  | .spec _ es => refsL es
  | .esp b => b.refs
  | .callV _ fs es => fs.map (fun p => .hd p.1 p.2) ++ refsL es
  | .iRng es => refsL es
  | .iEnum e => refs e
  | .iRevR b => refs b
  | .iStr b => refs b
  | .iZip a b => refs a ++ refs b
  | _ => []
def refsL : List E → List Ref
  | [] => []
  | e :: es => refs e ++ refsL es
end
theorem XOkE.glo {G : Ctx} {X : Cx} {W : WX} {N : List Str} {sc : Scope} (x : XOkE G X W N sc) {nm : Str} (h : glo sc nm = true) : Gl X nm ∧ (nm == ("__debug__" : Str)) = false := by
  unfold VS.glo at h
  simp only [Bool.and_eq_true, Bool.not_eq_true'] at h
  refine ⟨?_, h.2⟩
  unfold Gl Env.kindOf
  rw [x.hsc]
  split at h
  · assumption
  · cases h.1
theorem XOkE.vis {G : Ctx} {X : Cx} {W : WX} {N : List Str} {sc : Scope} (x : XOkE G X W N sc) {nm : Str} (h : vis sc nm = true) : Vis X.env.scope nm := by
  unfold VS.vis at h
  unfold Vis
  rw [x.hsc]
  split at h
  · left; assumption
  · right; left; assumption
  · right; right; assumption
  · cases h
theorem XOkE.loc {G : Ctx} {X : Cx} {W : WX} {N : List Str} {sc : Scope} (x : XOkE G X W N sc) {nm : Str} (h : loc sc nm = true) : X.env.scope.names.lookup nm = some .local := by
  unfold VS.loc at h
  rw [x.hsc]
  split at h
  · assumption
  · cases h
end VS

set_option Elab.async false
set_option linter.all false
set_option autoImplicit false
set_option maxRecDepth 100000
set_option maxHeartbeats 4000000
/-! VS: each kind of expression keeps its meaning. -/
namespace VS
open PySem L2
section
variable {G : Ctx} {X : Cx} {W : WX} {N : List Str} {sc : Scope}

theorem s_var (xk : XOkE G X W N sc) {md i : Nat} {e : Expr} (h : chk N sc md (.var i) e = true) : PE X e (tE G W (.var i)) := by
  simp only [chk] at h
  split at h
  · rename_i x p
    simp only [Bool.and_eq_true, decide_eq_true_eq, nmOk, Bool.not_eq_true'] at h
    obtain ⟨⟨h1, h2⟩, h3, h4⟩ := h
    refine (pe_var (i := i) (by rw [xk.hN]; exact h1) (xk.vis h2) h3 h4).imp fun σ H Q ⟨H0, Hs0, Hs, ρ, r, sr, ee, po⟩ => ?_
    simp only [ev] at ee
    cases q : ρ[i]? with
    | none => rw [q] at ee; cases ee
    | some c =>
      rw [q] at ee
      have hu : c ≠ .un := by intro z; subst z; cases ee
      have ee' : r = .ok c.rd := by
        cases c <;> first | (exact absurd rfl hu) | (cases ee; rfl)
      subst ee'
      obtain ⟨v, h5, h6⟩ := sr.read q hu
      exact ⟨v, h5, po v H Hs (Stp.refl sr.sh) h6⟩
  · cases h
theorem const_pe {c : Const} {d : D} {j : Nat} {p : Pos} (h : constIs c d = true) : ∃ v, PE X (.Constant c j p) (tC v) ∧ ∀ H, Rep G H d v := by
  cases c <;> cases d <;> simp only [constIs, Bool.false_eq_true] at h
  · exact ⟨_, pe_non, fun H => by simp [Rep]⟩
  · rw [beq_iff_eq] at h
    subst h; exact ⟨_, pe_bl, fun H => by simp [Rep]⟩
  · have := of_decide_eq_true h
    subst this; exact ⟨_, pe_int, fun H => by simp [Rep]⟩
  · have := of_decide_eq_true h
    subst this; exact ⟨_, pe_str, fun H => by simp [Rep]⟩
theorem s_cst {md : Nat} {d : D} {e : Expr} (h : chk N sc md (.cst d) e = true) : PE X e (tE G W (.cst d)) := by
  simp only [chk] at h
  split at h
  · obtain ⟨v, h1, h2⟩ := const_pe (G := G) (X := X) h
    refine h1.imp fun σ H Q ⟨H0, Hs0, Hs, ρ, r, sr, ee, po⟩ => ?_
    simp only [ev] at ee
    cases ee
    exact po.val (Stp.refl sr.sh) (h2 _)
  · cases h
theorem s_gl (xk : XOkE G X W N sc) {md : Nat} {y : Str} {d : D} {e : Expr} (h : chk N sc md (.gl y d) e = true) (rf : RefOk G X (.gl y d)) : PE X e (tE G W (.gl y d)) := by
  simp only [chk] at h
  split at h
  · simp only [Bool.and_eq_true, decide_eq_true_eq] at h
    obtain ⟨rfl, h2⟩ := h
    obtain ⟨u, v, h3, h4, h5⟩ := rf
    obtain ⟨g1, g2⟩ := xk.glo h2
    refine (pe_glob g1 h3 h4 g2).imp fun σ H Q ⟨H0, Hs0, Hs, ρ, r, sr, ee, po⟩ => ?_
    simp only [ev] at ee
    cases ee
    exact po.val (Stp.refl sr.sh) (h5 _)
  · cases h
theorem s_tup {md : Nat} {es : List E} {e : Expr} (h : chk N sc md (.tup es) e = true) (ih : ∀ xs, chkL N sc es xs = true → PA X xs (tA G W es)) : PE X e (tE G W (.tup es)) := by
  simp only [chk] at h
  split at h
  · refine (pe_tupN (ih _ h)).imp fun σ H Q ⟨H0, Hs0, Hs, ρ, r, sr, ee, po⟩ => ?_
    simp only [ev] at ee
    refine args_run sr ee po.er fun cs vs H1 Hs1 st ra sr1 e1 => ?_
    rcases bind_cases e1 with ⟨k, h1, h2⟩ | ⟨ds, h1, h2⟩
    · obtain ⟨_, _, h3⟩ := lift_cases h1; cases h3
    · obtain ⟨ds', h3, h4⟩ := lift_cases h1
      cases h4
      split at h2
      · rename_i hl
        cases h2
        have rl := ra.keep h3
        exact ⟨by rw [← rl.length]; exact hl, (po.n st).tup sr1.sh rl⟩
      · cases h2
  · cases h
theorem s_lst {md : Nat} {es : List E} {e : Expr} (h : chk N sc md (.lst es) e = true) (ih : ∀ xs, chkL N sc es xs = true → PA X xs (tA G W es)) : PE X e (tE G W (.lst es)) := by
  simp only [chk] at h
  split at h
  · refine (pe_lst (ih _ h)).imp fun σ H Q ⟨H0, Hs0, Hs, ρ, r, sr, ee, po⟩ => ?_
    simp only [ev] at ee
    refine args_run sr ee po.er fun cs vs H1 Hs1 st ra sr1 e1 => ?_
    rcases bind_cases e1 with ⟨k, h1, h2⟩ | ⟨ds, h1, h2⟩
    · obtain ⟨_, _, h3⟩ := lift_cases h1; cases h3
    · obtain ⟨ds', h3, h4⟩ := lift_cases h1
      cases h4
      split at h2
      · rename_i hl
        cases h2
        have rl := ra.keep h3
        exact ⟨by rw [← rl.length]; exact hl, (po.n st).lst sr1.sh rl⟩
      · cases h2
  · cases h
theorem notset {op : CmpOp} {e : Expr} (h : isPlain e = true) : behindInMarks op e = false := by
  cases e <;> first | rfl | cases h
theorem op_reading {o : Op2} {a b : E} {σ : St} {H : Hp} {Q : VK} (q : tE G W (.op o a b) σ H Q) : tOp (rD G (opD o)) (tE G W a) (tE G W b) σ H Q := by
  obtain ⟨H0, Hs0, Hs, ρ, r, sr, ee, po⟩ := q
  simp only [ev] at ee
  refine look_run sr ee po.er fun d x H1 Hs1 st rx sr1 e1 => ?_
  refine look_run sr1 e1 (fun k z => (po.er k z).step st) fun d2 y H2 Hs2 st2 ry sr2 e2 => ?_
  obtain ⟨c, h1, h2⟩ := lift_cases e2
  subst h2
  exact ⟨Hs2, d, d2, c, sr2.sh, rx.mono st2.a st2.b, ry, h1, po.n (st.trans st2)⟩
theorem s_op (xk : XOkE G X W N sc) {md : Nat} {o : Op2} {a b : E} {e : Expr} (h : chk N sc md (.op o a b) e = true) (iha : ∀ x, chk N sc 0 a x = true → PE X x (tE G W a)) (ihb : ∀ x, chk N sc 0 b x = true → PE X x (tE G W b)) : PE X e (tE G W (.op o a b)) := by
  simp only [chk] at h
  split at h
  · rename_i l op r' p
    simp only [Bool.and_eq_true] at h
    obtain ⟨⟨h1, h2⟩, h3⟩ := h
    cases q : pyOp o with
    | inr op' => rw [q] at h1; cases h1
    | inl op' =>
      rw [q] at h1
      obtain rfl := of_decide_eq_true h1
      have ok := opOk xk.toXOk o
      unfold opSem at ok
      rw [q] at ok
      exact (pe_op ok (iha _ h2) (ihb _ h3)).imp fun σ H Q z => op_reading z
  · rename_i l op r' p
    simp only [Bool.and_eq_true] at h
    obtain ⟨⟨h1, h2⟩, h3⟩ := h
    cases q : pyOp o with
    | inl op' => rw [q] at h1; cases h1
    | inr op' =>
      rw [q] at h1
      obtain rfl := of_decide_eq_true h1
      have ok := opOk xk.toXOk o
      unfold opSem at ok
      rw [q] at ok
      exact (pe_cmpR ok (iha _ h2) (ihb _ h3) (notset (plain_of_chk h3))).imp fun σ H Q z => op_reading z
  · cases h
theorem chain_reading {o1 o2 : Op2} {a b c : E} {σ : St} {H : Hp} {Q : VK} (q : tE G W (.chain o1 o2 a b c) σ H Q) : tChain (rD G (opD o1)) (rD G (opD o2)) (tE G W a) (tE G W b) (tE G W c) σ H Q := by
  obtain ⟨H0, Hs0, Hs, ρ, r, sr, ee, po⟩ := q
  simp only [ev] at ee
  refine look_run sr ee po.er fun d x H1 Hs1 st rx sr1 e1 => ?_
  refine look_run sr1 e1 (fun k z => (po.er k z).step st) fun d2 y H2 Hs2 st2 ry sr2 e2 => ?_
  rcases bind_cases e2 with ⟨k, h1, h2⟩ | ⟨cc, h1, h2⟩
  · obtain ⟨_, _, h3⟩ := lift_cases h1; cases h3
  · obtain ⟨c', h3, h4⟩ := lift_cases h1
    cases h4
    refine ⟨Hs2, d, d2, cc, sr2.sh, rx.mono st2.a st2.b, ry, h3, fun z H3 Hs3 st3 rz => ?_⟩
    split at h2
    · have ez : z = .bl true := by simpa [RepN, Rep] using rz
      refine ⟨true, ez, ?_⟩
      rw [if_pos rfl]
      refine look_run (sr2.step st3) h2 (fun k z => (po.er k z).step (st.trans (st2.trans st3))) fun d3 y3 H4 Hs4 st4 ry4 sr4 e4 => ?_
      obtain ⟨c4, h5, h6⟩ := lift_cases e4
      subst h6
      exact ⟨Hs4, d2, d3, c4, sr4.sh, (ry.mono st3.a st3.b).mono st4.a st4.b, ry4, h5, po.n (st.trans (st2.trans (st3.trans st4)))⟩
    · have ez : z = .bl false := by simpa [RepN, Rep] using rz
      refine ⟨false, ez, ?_⟩
      rw [if_neg Bool.false_ne_true]
      cases h2
      exact po.val (st.trans (st2.trans st3)) (by simp [Rep])
    · cases h2
theorem opOk_cmp (xk : XOk G X) {o : Op2} {op : CmpOp} (h : (match pyOp o with | .inl _ => false | .inr op' => decide (op = op')) = true) : OpR X (compareOp op) (rD G (opD o)) := by
  have ok := opOk xk o
  unfold opSem at ok
  cases q : pyOp o with
  | inl op' => rw [q] at h; cases h
  | inr op' =>
    rw [q] at h ok
    obtain rfl := of_decide_eq_true h
    exact ok
theorem s_chain (xk : XOkE G X W N sc) {md : Nat} {o1 o2 : Op2} {a b c : E} {e : Expr} (h : chk N sc md (.chain o1 o2 a b c) e = true) (iha : ∀ x, chk N sc 0 a x = true → PE X x (tE G W a)) (ihb : ∀ x, chk N sc 0 b x = true → PE X x (tE G W b)) (ihc : ∀ x, chk N sc 0 c x = true → PE X x (tE G W c)) : PE X e (tE G W (.chain o1 o2 a b c)) := by
  simp only [chk] at h
  split at h
  · simp only [Bool.and_eq_true] at h
    obtain ⟨⟨⟨⟨h1, h2⟩, h3⟩, h4⟩, h5⟩ := h
    exact (pe_chain (opOk_cmp xk.toXOk h1) (opOk_cmp xk.toXOk h2) (iha _ h3) (ihb _ h4) (ihc _ h5) (by show behindInMarks _ _ = false; exact notset (plain_of_chk h5))).imp fun σ H Q z => chain_reading z
  · cases h
theorem s_neg {md : Nat} {a : E} {e : Expr} (h : chk N sc md (.neg a) e = true) (iha : ∀ x, chk N sc 0 a x = true → PE X x (tE G W a)) : PE X e (tE G W (.neg a)) := by
  simp only [chk] at h
  split at h
  · refine (pe_un un_neg (iha _ h)).imp fun σ H Q ⟨H0, Hs0, Hs, ρ, r, sr, ee, po⟩ => ?_
    simp only [ev] at ee
    refine look_run sr ee po.er fun d x H1 Hs1 st rx sr1 e1 => ?_
    split at e1
    · cases e1
      exact ⟨_, rd_int rx, po.val st (by simp [Rep])⟩
    · cases e1
  · cases h
theorem s_not {md : Nat} {a : E} {e : Expr} (h : chk N sc md (.not_ a) e = true) (iha : ∀ x, chk N sc 0 a x = true → PE X x (tE G W a)) : PE X e (tE G W (.not_ a)) := by
  simp only [chk] at h
  split at h
  · refine (pe_not (iha _ h)).imp fun σ H Q ⟨H0, Hs0, Hs, ρ, r, sr, ee, po⟩ => ?_
    simp only [ev] at ee
    refine look_run sr ee po.er fun d x H1 Hs1 st rx sr1 e1 => ?_
    split at e1
    · cases e1
      exact ⟨_, rd_bl rx, po.val st (by simp [Rep])⟩
    · cases e1
  · cases h
/-- a value by meaning, handed on as it is -/
theorem PostE.re {H0 H Hs H1 Hs1 : Hp} {σ : St} {Q : VK} {r : Except Nat C} (p : PostE G W H0 σ H Hs Q r) (st : Stp G.tabs H Hs H1 Hs1) : PostE G W H0 σ H1 Hs1 Q r := by
  cases r with
  | error k => exact ErP.step p st
  | ok c => exact fun v H' Hs' st2 rc => p v H' Hs' (st.trans st2) (rc.pre st.a)
theorem s_and {md : Nat} {a b : E} {e : Expr} (h : chk N sc md (.and_ a b) e = true) (iha : ∀ x, chk N sc 0 a x = true → PE X x (tE G W a)) (ihb : ∀ x, chk N sc 0 b x = true → PE X x (tE G W b)) : PE X e (tE G W (.and_ a b)) := by
  simp only [chk] at h
  split at h
  · rename_i x y rr p
    simp only [Bool.and_eq_true] at h
    obtain ⟨h1, h2⟩ := h
    have hb : PE X (.BoolOp .And (y :: rr) p) (tE G W b) := by
      cases rr with
      | nil => exact pe_one (ihb _ h2)
      | cons z rr => exact ihb _ h2
    refine (pe_and (iha _ h1) hb).imp fun σ H Q ⟨H0, Hs0, Hs, ρ, r, sr, ee, po⟩ => ?_
    simp only [ev] at ee
    refine look_run sr ee po.er fun d x H1 Hs1 st rx sr1 e1 => ?_
    split at e1
    · exact ⟨true, rd_bl rx, by rw [if_pos rfl]; exact ⟨H0, Hs0, Hs1, ρ, r, sr1, e1, po.re st⟩⟩
    · cases e1
      exact ⟨false, rd_bl rx, by rw [if_neg Bool.false_ne_true]; exact po.val st (by simp [Rep])⟩
    · cases e1
  · cases h
theorem s_or {md : Nat} {a b : E} {e : Expr} (h : chk N sc md (.or_ a b) e = true) (iha : ∀ x, chk N sc 0 a x = true → PE X x (tE G W a)) (ihb : ∀ x, chk N sc 0 b x = true → PE X x (tE G W b)) : PE X e (tE G W (.or_ a b)) := by
  simp only [chk] at h
  split at h
  · rename_i x y rr p
    simp only [Bool.and_eq_true] at h
    obtain ⟨h1, h2⟩ := h
    have hb : PE X (.BoolOp .Or (y :: rr) p) (tE G W b) := by
      cases rr with
      | nil => exact pe_one (ihb _ h2)
      | cons z rr => exact ihb _ h2
    refine (pe_or (iha _ h1) hb).imp fun σ H Q ⟨H0, Hs0, Hs, ρ, r, sr, ee, po⟩ => ?_
    simp only [ev] at ee
    refine look_run sr ee po.er fun d x H1 Hs1 st rx sr1 e1 => ?_
    split at e1
    · cases e1
      exact ⟨true, rd_bl rx, by rw [if_pos rfl]; exact po.val st (by simp [Rep])⟩
    · exact ⟨false, rd_bl rx, by rw [if_neg Bool.false_ne_true]; exact ⟨H0, Hs0, Hs1, ρ, r, sr1, e1, po.re st⟩⟩
    · cases e1
  · cases h
theorem s_ite {md : Nat} {c a b : E} {e : Expr} (h : chk N sc md (.ite c a b) e = true) (ihc : ∀ x, tstE c = true → chk N sc 0 c x = true → PT X x (tT G W c)) (iha : ∀ x, chk N sc 0 a x = true → PE X x (tE G W a)) (ihb : ∀ x, chk N sc 0 b x = true → PE X x (tE G W b)) : PE X e (tE G W (.ite c a b)) := by
  simp only [chk] at h
  split at h
  · simp only [Bool.and_eq_true] at h
    obtain ⟨⟨⟨h0, h1⟩, h2⟩, h3⟩ := h
    refine (pe_ifExp (ihc _ h0 h1) (iha _ h2) (ihb _ h3)).imp fun σ H Q ⟨H0, Hs0, Hs, ρ, r, sr, ee, po⟩ => ?_
    simp only [ev] at ee
    rcases bind_cases ee with ⟨k, h4, h5⟩ | ⟨d, h4, h5⟩
    · rcases bind_cases h4 with ⟨k', h6, h7⟩ | ⟨cc, h6, h7⟩
      · cases h7; subst h5
        exact ⟨H0, Hs0, Hs, ρ, _, sr, h6, po⟩
      · obtain ⟨_, _, h8⟩ := lift_cases h7; cases h8
    · rcases bind_cases h4 with ⟨k', h6, h7⟩ | ⟨cc, h6, h7⟩
      · cases h7
      · obtain ⟨d', h8, h9⟩ := lift_cases h7
        cases h9
        refine ⟨H0, Hs0, Hs, ρ, _, sr, h6, ?_⟩
        split at h5
        · exact ⟨true, h8, fun H1 Hs1 st => by show (if true = true then _ else _); rw [if_pos rfl]; exact ⟨H0, Hs0, Hs1, ρ, r, sr.step st, h5, po.re st⟩⟩
        · exact ⟨false, h8, fun H1 Hs1 st => by show (if false = true then _ else _); rw [if_neg Bool.false_ne_true]; exact ⟨H0, Hs0, Hs1, ρ, r, sr.step st, h5, po.re st⟩⟩
        · cases h5
  · cases h
end
end VS

set_option Elab.async false
set_option linter.all false
set_option autoImplicit false
set_option maxRecDepth 100000
set_option maxHeartbeats 4000000
/-! VS: items, parts, calls keep their meaning. -/
namespace L2
open PySem PySem.Spec PyProof.Rows
section
variable {X : Cx} {CX : CXT} {k : Nat} {f C : Addr} {fd : FuncData} {ps : List Str} {sp : Sp} {E : St → XK} {x m : Str} {p pos apos : Pos} {e o : Expr} {es : List Expr} {ta : TE} {t : TA}
def tMethVs (C : Addr) (m : Str) (sp : Sp) (E : St → XK) (ta : TE) (t : TA) : TE := fun σ H Q => ta σ H fun x H1 => ∃ a dx fs, x = .ref a ∧ H1 a = some (.ins C dx fs) ∧ fs.lookup m = none ∧ t σ H1 fun vs H2 => sp (.ref a :: vs) H2 Q (E σ)
theorem vs_meth {pl : Sem Bool} (he : PE X o ta) (c : Cls X.K C) (hm : Meth X.K C m f) (F : FnOk X.prog X.w X.K X.mg X.base CX k f fd ps sp) (hr : Room k X.A) (hb : Binds X.K fd ps []) (hx : ∀ σ, PassesAt CX X σ (E σ)) (ha : PA X (e :: es) t)
    (hst : starEach (e :: es) X.env = (false, eval e X.env) :: starEach es X.env) (hpl : (backTo pos (starEach es X.env)).any (·.1) = false)
    (ht : eval (.Call (.Attribute o m apos) (e :: es) [] pos) X.env = (do
      let ov ← eval o X.env
      standAt apos.atName
      let (f, first) ← holding [ov] (getMethod ov m pl)
      callWith pos f first (backTo pos (starEach (e :: es) X.env)) (backToKw pos (keywordEach [] X.env))) := by rfl) :
    PE X (.Call (.Attribute o m apos) (e :: es) [] pos) (tMethVs C m sp E ta t) := by
  refine ⟨fun pins s σ H Q I h => ?_⟩
  refine PySem.W.methodCall_KW (pl := pl) (thn (he.run pins s σ H _ I h) fun u s1 ⟨x, H1, I1, rx, a, dx, fs, ex, ea, l, q⟩ => ?_) ht
  subst ex
  obtain rfl : u = Value.ref a := rx
  refine getmeth_ok I1 ea c hm l ?_
  refine PySem.W.callWith_K (first := [.ref a]) (h₀ := X.base) I.ok.mod.kin hm.kp (thn (ha.run pos pins s1 σ H1 _ I1 q) fun us s2 ⟨vs, H2, I2, r, q2⟩ => ⟨I2.kIn, ?_⟩) hst hpl
  exact run_fnS (us := .ref a :: us) (vs := .ref a :: vs) F hr hb (hx σ) I2 (.cons rfl r) q2
theorem vs_meth0 {pl : Sem Bool} (he : PE X o ta) (c : Cls X.K C) (hm : Meth X.K C m f) (F : FnOk X.prog X.w X.K X.mg X.base CX k f fd ps sp) (hr : Room k X.A) (hb : Binds X.K fd ps []) (hx : ∀ σ, PassesAt CX X σ (E σ))
    (ht : eval (.Call (.Attribute o m apos) [] [] pos) X.env = (do
      let ov ← eval o X.env
      standAt apos.atName
      let (f, first) ← holding [ov] (getMethod ov m pl)
      callWith pos f first (backTo pos (starEach [] X.env)) (backToKw pos (keywordEach [] X.env))) := by rfl) :
    PE X (.Call (.Attribute o m apos) [] [] pos) (tMethVs C m sp E ta tNil) := by
  refine ⟨fun pins s σ H Q I h => ?_⟩
  refine PySem.W.methodCall_KW (pl := pl) (thn (he.run pins s σ H _ I h) fun u s1 ⟨x, H1, I1, rx, a, dx, fs, ex, ea, l, q⟩ => ?_) ht
  subst ex
  obtain rfl : u = Value.ref a := rx
  refine getmeth_ok I1 ea c hm l ?_
  exact PySem.W.callWith_K0 (first := [.ref a]) I1.kIn hm.kp (run_fnS (us := [.ref a]) (vs := [.ref a]) F hr hb (hx σ) I1 (.cons rfl .nil) q)
theorem vs_runmake {pins : List (Addr × Obj)} {σ : St} {H : Hp} {s : Shared} {Q : VK} {us : List Value} {vs : List V} (M : Mk X.K C f) (F : FnOk X.prog X.w X.K X.mg X.base CX k f fd ps sp) (hr : Room (k + 1) X.A) (hb : Binds X.K fd ps [])
    (hx : PassesAt CX X σ (E σ)) (I : Inv X pins σ H s) (r : Vals vs us)
    (h : ∀ x dx, H x = none → H dx = none → dx ≠ x → sp (.ref x :: vs) (upd (upd H dx (.own x)) x (.ins C dx [])) (fun v H2 => v = .non ∧ Q (.ref x) H2) (E σ)) :
    wpAny (model X.prog X.w) X.A (call (.ref C) us) (EP X pins σ Q) X.xe s := by
  have hq := h (s.heap.objs.size + 1) s.heap.objs.size (I.hok.fresh (Nat.le_succ _)) (I.hok.fresh (Nat.le_refl _)) (Nat.ne_of_lt (Nat.lt_succ_self _))
  have I2 := Inv.made (C := C) I
  have r2 : Vals (V.ref (s.heap.objs.size + 1) :: vs) (Value.ref (s.heap.objs.size + 1) :: us) := .cons rfl r
  have hl : (Value.ref (s.heap.objs.size + 1) :: us).length = ps.length := by
    have e := r2.length
    rw [F.len _ _ _ _ hq] at e
    exact e.symm
  have hbb := hb _ (Value.ref (s.heap.objs.size + 1) :: us) I2.kIn (by rw [List.append_nil]; exact hl)
  rw [List.append_nil] at hbb
  refine wpAny_call (make_map (f := f) I.kIn M.makes M.init (beq_iff_eq.mp M.fn) (codeAny_mono (F.run _ X.stack _ _ ⟨Value.ref (s.heap.objs.size + 1) :: us, []⟩ (Value.ref (s.heap.objs.size + 1) :: us) _ _ (E σ) (hr.make C us [])
    (I2.env0.make C us []) hbb r2 hq) fun r s' hq' => ?_))
  cases r with
  | error e => exact hx pins _ _ e s' I2 hq'
  | ok fl =>
    cases fl with
    | ret u =>
      obtain ⟨v, H', I3, rv, ev, q3⟩ := I2.after hq'
      subst ev
      exact ⟨rv, ⟨V.ref (s.heap.objs.size + 1), H', I3, rfl, q3⟩⟩
    | next => exact False.elim hq'
    | brk => exact False.elim hq'
    | cont => exact False.elim hq'
def tMakeS (C : Addr) (sp : Sp) (E : St → XK) (t : TA) : TE := fun σ H Q => t σ H fun vs H1 => ∀ x dx, H1 x = none → H1 dx = none → dx ≠ x → sp (.ref x :: vs) (upd (upd H1 dx (.own x)) x (.ins C dx [])) (fun v H2 => v = .non ∧ Q (.ref x) H2) (E σ)
theorem vs_make (M : Mk X.K C f) (F : FnOk X.prog X.w X.K X.mg X.base CX k f fd ps sp) (hr : Room (k + 1) X.A) (hg : Gl X x) (hm : X.mg x = some (.ref C)) (hb : Binds X.K fd ps []) (hx : ∀ σ, PassesAt CX X σ (E σ))
    (ha : PA X (e :: es) t) (hdb : (x == ("__debug__" : Str)) = false) (he : starEach (e :: es) X.env = (false, eval e X.env) :: starEach es X.env) (hpl : (backTo pos (starEach es X.env)).any (·.1) = false) :
    PE X (.Call (.Name x p) (e :: es) [] pos) (tMakeS C sp E t) := by
  refine ⟨fun pins s σ H Q I h => ?_⟩
  refine wpAny_Call_Name_kw (ld_glob I hg hm ?_ hdb)
  refine PySem.W.callWith_K (h₀ := X.base) I.ok.mod.kin M.kp (thn (ha.run pos pins s σ H _ I h) fun us s1 ⟨vs, H1, I1, r, q⟩ => ⟨I1.kIn, ?_⟩) he hpl
  exact vs_runmake M F hr hb (hx σ) I1 r q
end
end L2

namespace VS
open PySem L2
section
variable {G : Ctx} {X : Cx} {W : WX} {N : List Str} {sc : Scope}
theorem atI_rep {Hx : Hp} {ds : List D} {vs : List V} {i : Int} {d : D} (r : RepL G Hx ds vs) (h : atI ds i = some d) : ∃ v, atI vs i = some v ∧ Rep G Hx d v := by
  unfold atI at h ⊢
  rw [← r.length]
  obtain ⟨j, h1, h2⟩ := bind_some h
  obtain ⟨v, h3, h4⟩ := r.get h2
  exact ⟨v, by rw [h1]; exact h3, h4⟩
theorem plainIx {e : Expr} (h : isPlain e = true) : PlainIx e := by
  intro o i
  cases e <;> first | rfl | cases h
theorem ixRep {H Hs : Hp} {x y : V} {a b d : D} {Q : VK} (hK : X.K = G.K) (s : Same Hs H) (ra : RdW G H Hs a x) (rb : RdW G H Hs b y) (hnd : ∀ (ks : List Key) (vs : List D), a ≠ .dK ks vs) (hnt : ∀ (ks : List (List Key)) (vs : List D), a ≠ .dT ks vs) (e : ixD a b = some d) (q : ∀ v, Rep G Hs d v → Q v H) : rIx X.K x y H Q := by
  cases a <;> cases b <;> simp only [ixD] at e <;> first | (cases e; done) | skip
  all_goals first | exact (hnd _ _ rfl).elim | exact (hnt _ _ rfl).elim | skip
  · split at e
    · obtain ⟨c, h1, h2⟩ := map_some e
      subst h2
      exact .inr (.inr ⟨_, _, c, rd_str ra, rd_int rb, by assumption, h1, q _ (by simp [Rep])⟩)
    · cases e
  · obtain ⟨p, vs, rfl, h2, h3⟩ := rd_tup s ra
    obtain ⟨v, h4, h5⟩ := atI_rep h3 e
    exact .inr (.inl ⟨p, vs, _, v, rfl, rd_int rb, h2.sq, h4, q v h5⟩)
  · obtain ⟨p, vs, rfl, h2, h3⟩ := ra
    obtain ⟨v, h4, h5⟩ := atI_rep h3 e
    exact .inl ⟨p, vs, _, v, rfl, rd_int rb, by rw [hK]; exact h2, h4, q v h5⟩
theorem s_ix (xk : XOkE G X W N sc) {md : Nat} {a i : E} {e : Expr} (h : chk N sc md (.ix a i) e = true) (iha : ∀ x, chk N sc 0 a x = true → PE X x (tE G W a)) (ihb : ∀ x, chk N sc 0 i x = true → PE X x (tE G W i)) : PE X e (tE G W (.ix a i)) := by
  simp only [chk] at h
  split at h
  · simp only [Bool.and_eq_true] at h
    obtain ⟨h1, h2⟩ := h
    have hp := plain_of_chk h2
    refine PE.pick fun σ H Q ⟨H0, Hs0, Hs, ρ, r, sr, ee, po⟩ => ?_
    simp only [ev] at ee
    by_cases hd : (∃ (ks : List Key) (vs : List D), look1 (ev a ρ) = some (.ok (.dK ks vs))) ∨ ∃ (ks : List (List Key)) (vs : List D), look1 (ev a ρ) = some (.ok (.dT ks vs))
    · refine ⟨_, pe_dget xk.u1 (iha _ h1) (ihb _ h2) (fun o i => plainIx hp o i), ?_⟩
      refine look_run2 sr ee po.er fun d x H1 Hs1 ed st rx sr1 e1 => ?_
      refine look_run sr1 e1 (fun k z => (po.er k z).step st) fun d2 y H2 Hs2 st2 ry sr2 e2 => ?_
      rcases bind_cases e2 with ⟨k, h3, h4⟩ | ⟨dd, h3, h4⟩
      · obtain ⟨_, _, h5⟩ := lift_cases h3; cases h5
      · obtain ⟨d', h5, h6⟩ := lift_cases h3
        cases h6
        cases h4
        have rx2 := rx.mono st2.a st2.b
        have fin : ∀ v, Rep G Hs2 dd v → Q v H2 := fun v rv => po.val (st.trans st2) rv
        rcases hd with ⟨ks, vs, hd⟩ | ⟨ks, vs, hd⟩
        · rw [hd] at ed
          cases ed
          simp only [ixD] at h5
          obtain ⟨kk, h6, h7⟩ := bind_some h5
          obtain ⟨q, ws, rfl, h8, hl, h9⟩ := rx2
          have hy : y = kV kk := by cases d2 <;> simp only [keyD] at h6 <;> first | (cases h6; done) | exact key_of (by simpa [keyD] using h6) ry
          obtain ⟨v, z1, z2⟩ := (findK_zip (k := kk) hl h9).2 dd h7
          exact ⟨q, v, rfl, by rw [hy, ← z1]; exact .k h8, fin v z2⟩
        · rw [hd] at ed
          cases ed
          simp only [ixD] at h5
          cases h5
    · refine ⟨_, pe_ix ix_seq (iha _ h1) (ihb _ h2) (plainIx hp), ?_⟩
      refine look_run2 sr ee po.er fun d x H1 Hs1 ed st rx sr1 e1 => ?_
      refine look_run sr1 e1 (fun k z => (po.er k z).step st) fun d2 y H2 Hs2 st2 ry sr2 e2 => ?_
      rcases bind_cases e2 with ⟨k, h3, h4⟩ | ⟨dd, h3, h4⟩
      · obtain ⟨_, _, h5⟩ := lift_cases h3; cases h5
      · obtain ⟨d', h5, h6⟩ := lift_cases h3
        cases h6
        cases h4
        exact ixRep xk.K sr2.sh (rx.mono st2.a st2.b) ry (fun ks vs z => hd (.inl ⟨ks, vs, by rw [← z]; exact ed⟩)) (fun ks vs z => hd (.inr ⟨ks, vs, by rw [← z]; exact ed⟩)) h5 fun v rv => po.val (st.trans st2) rv
  · cases h

/-! ### parts -/
theorem RepL.cut {Hx : Hp} {ds : List D} {vs : List V} (r : RepL G Hx ds vs) (lo hi : Option Int) : RepL G Hx (cutD ds lo hi) (cutV vs lo hi) := by
  unfold cutD cutV
  rw [r.length]
  exact (r.drop _).take _
def rSlX' (G : Ctx) : V → Option Int → Option Int → Hp → VK → Prop := fun x lo hi H Q => ∃ Hs a c, Same Hs H ∧ RdW G H Hs a x ∧ slD a lo hi = some c ∧ PostN G H Hs c Q
theorem slR_pick {r' : V → Option Int → Option Int → Hp → VK → Prop} (k : ∀ x lo hi H Q, r' x lo hi H Q → ∃ r, SlR X r ∧ r x lo hi H Q) : SlR X r' :=
  fun pins s σ H x v vl vu lo hi sl Q I rx hs pl pu q => by
    obtain ⟨r, h, q'⟩ := k x lo hi H Q q
    exact h pins s σ H x v vl vu lo hi sl Q I rx hs pl pu q'
theorem sl_ok (xk : XOk G X) : SlR X (rSlX' G) := by
  refine slR_pick fun x lo hi H Q ⟨Hs, a, c, s, ra, e, p⟩ => ?_
  cases a <;> simp only [slD] at e <;> first | (cases e; done) | skip
  · split at e
    · cases e
      exact ⟨_, sl_str, _, rd_str ra, by assumption, str_post s p⟩
    · cases e
  · cases e
    obtain ⟨q, vs, rfl, h2, h3⟩ := rd_tup s ra
    refine ⟨_, sl_tupN, q, vs, rfl, h2.sq, fun hw => ?_, fun _ => p.tup s (h3.cut lo hi)⟩
    refine p _ H Hs (Stp.refl s) ?_
    simp only [RdW, Rep] at ra
    have hc : ∀ ds : List D, ds.length = vs.length → cutD ds lo hi = ds := fun ds hl => by
      unfold cutD
      rw [hl, hw.1, hw.2, List.drop_zero, Nat.sub_zero, ← hl, List.take_length]
    simp only [RepN, Rep]
    rw [hc _ h3.length]; exact ra
  · cases e
    obtain ⟨q, vs, rfl, h2, h3⟩ := ra
    exact ⟨_, sl_list, q, vs, rfl, by rw [xk.K]; exact h2, p.lst s (h3.cut lo hi)⟩
/-- a part of a slice -/
theorem part_run {β : Type} {H0 Hs0 H Hs : Hp} {σ : St} {ρ : List C} {lo : E} {l : Option Expr} {f : Option Int → M β} {r : Except Nat β} (ih : ∀ x, chk N sc 0 lo x = true → PE X x (tE G W lo))
    (hc : (match l with | none => lo.isNop | some y => chk N sc 0 lo y) = true) :
    ∃ t, PO X l t ∧ ∀ {H0 Hs0 H Hs : Hp} {σ : St} {ρ : List C} {Q : Option Int → Hp → Prop} {β : Type} {f : Option Int → M β} {r : Except Nat β}, SR G H0 Hs0 σ H Hs ρ → ((if lo.isNop then M.ok none else (look1 (ev lo ρ)).bind partO).bind f) = some r →
      (∀ k, r = .error k → ErP G W σ H Hs k) → (∀ o H1 Hs1, Stp G.tabs H Hs H1 Hs1 → SR G H0 Hs0 σ H1 Hs1 ρ → f o = some r → Q o H1) → t σ H Q := by
  cases l with
  | none =>
    have hc' : lo.isNop = true := hc
    refine ⟨_, po_none, fun sr h er ok => ?_⟩
    rw [hc', if_pos rfl] at h
    exact ok none _ _ (Stp.refl sr.sh) sr h
  | some y =>
    have hc' : chk N sc 0 lo y = true := hc
    refine ⟨_, po_some (ih y hc'), fun sr h er ok => ?_⟩
    have hn : lo.isNop = false := by
      cases lo <;> first | rfl | (simp [chk] at hc')
    rw [hn, if_neg Bool.false_ne_true] at h
    rcases bind_cases h with ⟨k, h1, h2⟩ | ⟨o, h1, h2⟩
    · rcases bind_cases h1 with ⟨k', h3, h4⟩ | ⟨d, h3, h4⟩
      · cases h4
        exact look_run (β := C) (f := fun _ => none) (r := .error k) sr (by rw [h3]; rfl) (fun k' z => by cases z; exact er _ h2) fun d x H1 Hs1 st rx sr1 e1 => by cases e1
      · cases d <;> simp only [partO] at h4 <;> cases h4
    · rcases bind_cases h1 with ⟨k', h3, h4⟩ | ⟨d, h3, h4⟩
      · cases h4
      · refine look_run2 (β := Option Int) (f := partO) (r := .ok o) sr h1 (fun k z => by cases z) fun d' x H1 Hs1 ed st rx sr1 e1 => ?_
        cases d' <;> simp only [partO] at e1 <;> first | (cases e1; done) | skip
        cases e1
        exact ⟨_, rd_int rx, ok _ H1 Hs1 st sr1 h2⟩
theorem s_sl (xk : XOkE G X W N sc) {md : Nat} {a lo hi : E} {e : Expr} (h : chk N sc md (.sl a lo hi) e = true) (iha : ∀ x, chk N sc 0 a x = true → PE X x (tE G W a)) (ihl : ∀ x, chk N sc 0 lo x = true → PE X x (tE G W lo)) (ihh : ∀ x, chk N sc 0 hi x = true → PE X x (tE G W hi)) : PE X e (tE G W (.sl a lo hi)) := by
  simp only [chk] at h
  split at h
  · simp only [Bool.and_eq_true] at h
    obtain ⟨⟨h1, h2⟩, h3⟩ := h
    obtain ⟨tl, pl, hl⟩ := part_run (G := G) (X := X) (W := W) (N := N) (sc := sc) (β := C) (f := fun _ => none) (r := .error 0) (H0 := fun _ => none) (Hs0 := fun _ => none) (H := fun _ => none) (Hs := fun _ => none) (σ := []) (ρ := []) ihl h2
    obtain ⟨th, ph, hh⟩ := part_run (G := G) (X := X) (W := W) (N := N) (sc := sc) (β := C) (f := fun _ => none) (r := .error 0) (H0 := fun _ => none) (Hs0 := fun _ => none) (H := fun _ => none) (Hs := fun _ => none) (σ := []) (ρ := []) ihh h3
    refine (pe_slice (sl_ok xk.toXOk) (iha _ h1) pl ph).imp fun σ H Q ⟨H0, Hs0, Hs, ρ, r, sr, ee, po⟩ => ?_
    simp only [ev] at ee
    refine look_run sr ee po.er fun d x H1 Hs1 st rx sr1 e1 => ?_
    refine hl sr1 e1 (fun k z => (po.er k z).step st) fun l H2 Hs2 st2 sr2 e2 => ?_
    refine hh sr2 e2 (fun k z => ((po.er k z).step st).step st2) fun u H3 Hs3 st3 sr3 e3 => ?_
    obtain ⟨c, h4, h5⟩ := lift_cases e3
    subst h5
    exact ⟨Hs3, d, c, sr3.sh, (rx.mono st2.a st2.b).mono st3.a st3.b, h4, po.n (st.trans (st2.trans st3))⟩
  · cases h
theorem RepL.pick {G : Ctx} {H : Hp} {ds : List D} {vs : List V} (r : RepL G H ds vs) : ∀ is : List Nat, RepL G H (is.filterMap (ds[·]?)) (is.filterMap (vs[·]?))
  | [] => RepL.nil
  | i :: is => by
    rw [List.filterMap_cons, List.filterMap_cons]
    cases e : ds[i]? with
    | none =>
      have : vs[i]? = none := by
        rw [List.getElem?_eq_none_iff] at e ⊢
        rw [← r.length]; exact e
      rw [this]
      exact RepL.pick r is
    | some d =>
      obtain ⟨v, h1, h2⟩ := r.get e
      rw [h1]
      exact .cons h2 (RepL.pick r is)
theorem RepL.step {G : Ctx} {H : Hp} {ds : List D} {vs : List V} (r : RepL G H ds vs) (lo st : Int) : RepL G H (stepL ds lo st) (stepL vs lo st) := by
  unfold stepL
  rw [r.length]
  exact r.pick _
theorem vals_get {xs : List V} {us : List Value} (r : Vals xs us) : ∀ {i : Nat} {x : V}, xs[i]? = some x → ∃ u, us[i]? = some u ∧ RelV x u := by
  induction r with
  | nil => intro i x h; simp at h
  | cons a b ih =>
    intro i x h
    cases i with
    | zero => simp at h; subst h; exact ⟨_, rfl, a⟩
    | succ i => exact ih (by simpa using h)
theorem vals_pick {xs : List V} {us : List Value} (r : Vals xs us) : ∀ is : List Nat, Vals (is.filterMap (xs[·]?)) (is.filterMap (us[·]?))
  | [] => .nil
  | i :: is => by
    rw [List.filterMap_cons, List.filterMap_cons]
    cases e : xs[i]? with
    | none =>
      have : us[i]? = none := by
        rw [List.getElem?_eq_none_iff] at e ⊢
        rw [← r.length]; exact e
      rw [this]
      exact vals_pick r is
    | some d =>
      obtain ⟨v, h1, h2⟩ := vals_get r e
      rw [h1]
      exact .cons h2 (vals_pick r is)
def tSls (K : PySem.W.Frag) (te : TE) (tl th : TO) : TE := fun σ H Q => te σ H fun x H1 => tl σ H1 fun l H2 => th σ H2 fun u H3 => ∃ a xs i j, x = .ref a ∧ l = some i ∧ u = some j ∧ j ≠ 0 ∧ SqL K H3 a xs ∧ ∀ p, H3 p = none → Q (.ref p) (upd H3 p (.lst (stepL xs i j)))
theorem stepV_len (its : List Value) (i j : Int) : (stepL its i j).length ≤ its.length := by
  have := slicePick_size_le its.toArray (some i) none (some j)
  unfold slicePick at this
  rw [List.size_toArray] at this
  unfold stepL
  simpa using this
theorem pe_sls {X : Cx} {e l st : Expr} {te : TE} {tl th : TO} {p2 pos : Pos} (he : PE X e te) (hl : PO X (some l) tl) (hu : PO X (some st) th) : PE X (.Subscript e (.Slice (some l) none (some st) p2) pos) (tSls X.K te tl th) := by
  refine ⟨fun pins s σ H Q I h => ?_⟩
  refine PyProof.Rows.Subscript_ (thn (he.run pins s σ H _ I h) fun v s1 ⟨x, H1, I1, r1, q1⟩ => ?_)
  refine wpAny_Slice (thn (hl.run pins s1 σ H1 _ I1 q1) fun vl s2 ⟨l0, H2, I2, pl, q2⟩ => ?_)
  rw [evalPart_none]
  refine wpAny_pure (thn (hu.run pins s2 σ H2 _ I2 q2) fun vu s3 ⟨u, H3, I3, pu, q3⟩ => ?_)
  obtain ⟨a, xs, i, j, rfl, rfl, rfl, hj, hx, q⟩ := q3
  have I4 : Inv X pins σ H3 { s3 with heap := s3.heap.push { cls := .type "slice", data := .fields #[vl, .none, vu] } } := I3.kept (t' := s3.toks) fun b ob q => Heap.get?_push_of_some _ q
  cases r1
  obtain ⟨its, r, ht, hz⟩ := I4.list hx
  have hlen := r.length
  have hg : wpAny (model X.prog X.w) X.A (getItem (.ref a) (.ref s3.heap.objs.size)) (EP X pins σ Q) X.xe { s3 with heap := s3.heap.push { cls := .type "slice", data := .fields #[vl, .none, vu] } } := by
    refine wpAny_getItem_list_slice ht.isList (Heap.IsSliceOf.new ..) pl .none pu (by simpa using hj) ?_ (by rw [List.size_toArray] <;> omega)
    have e1 : slicePick its.toArray (some i) none (some j) = (stepL its i j).toArray := by
      unfold slicePick stepL
      simp
    have e2 : Vals (stepL xs i j) (stepL its i j) := by
      unfold stepL
      rw [hlen]
      exact vals_pick r _
    rw [e1]
    refine ⟨.ref _, _, I4.laid (t' := s3.toks) (o := .lst (stepL xs i j)) (fun b ob q => Heap.get?_push_of_some _ q) (Nat.le_refl _) ?_, rfl, q _ (I4.hok.fresh (Nat.le_refl _))⟩
    exact ⟨Nat.le_trans (by rw [e2.length]; exact Nat.le_trans (stepV_len its i j) (by omega)) hz, _, 0, e2, Heap.get?_push_size _ rfl⟩
  show wpAny (model X.prog X.w) X.A (PyProof.Rows.subscriptTail e (.Slice (some l) none (some st) p2) (.ref a) (.ref s3.heap.objs.size)) (EP X pins σ Q) X.xe { s3 with heap := s3.heap.push { cls := .type "slice", data := .fields #[vl, .none, vu] } }
  exact PyProof.Rows.tail_any (ops := [.ref a, .ref s3.heap.objs.size]) ht.isList.typeIs slot_list_getitem.lookup hg (by with_unfolding_all rfl)
theorem s_sls (xk : XOkE G X W N sc) {md : Nat} {a lo hi : E} {e : Expr} (h : chk N sc md (.sls a lo hi) e = true) (iha : ∀ x, chk N sc 0 a x = true → PE X x (tE G W a)) (ihl : ∀ x, chk N sc 0 lo x = true → PE X x (tE G W lo)) (ihh : ∀ x, chk N sc 0 hi x = true → PE X x (tE G W hi)) : PE X e (tE G W (.sls a lo hi)) := by
  simp only [chk] at h
  split at h
  · rename_i x0 l0 h0 _ _
    simp only [Bool.and_eq_true] at h
    obtain ⟨⟨h1, h2⟩, h3⟩ := h
    obtain ⟨tl, pl, hl⟩ := part_run (G := G) (X := X) (W := W) (N := N) (sc := sc) (β := C) (f := fun _ => none) (r := .error 0) (H0 := fun _ => none) (Hs0 := fun _ => none) (H := fun _ => none) (Hs := fun _ => none) (σ := []) (ρ := []) (l := some l0) ihl h2
    obtain ⟨th, ph, hh⟩ := part_run (G := G) (X := X) (W := W) (N := N) (sc := sc) (β := C) (f := fun _ => none) (r := .error 0) (H0 := fun _ => none) (Hs0 := fun _ => none) (H := fun _ => none) (Hs := fun _ => none) (σ := []) (ρ := []) (l := some h0) ihh h3
    refine (pe_sls (iha _ h1) pl ph).imp fun σ H Q ⟨H0, Hs0, Hs, ρ, r, sr, ee, po⟩ => ?_
    simp only [ev] at ee
    refine look_run sr ee po.er fun d x H1 Hs1 st rx sr1 e1 => ?_
    refine hl sr1 e1 (fun k z => (po.er k z).step st) fun l H2 Hs2 st2 sr2 e2 => ?_
    refine hh sr2 e2 (fun k z => ((po.er k z).step st).step st2) fun u H3 Hs3 st3 sr3 e3 => ?_
    obtain ⟨c, h4, h5⟩ := lift_cases e3
    subst h5
    unfold stD at h4
    split at h4
    · rename_i xs i j
      split at h4
      · cases h4
      · rename_i hj
        cases h4
        obtain ⟨q, vs, rfl, h6, h7⟩ := (rx.mono st2.a st2.b).mono st3.a st3.b
        exact ⟨q, vs, i, j, rfl, rfl, rfl, hj, by rw [xk.K]; exact h6, (po.n (st.trans (st2.trans st3))).lst sr3.sh (h7.step i j)⟩
    · cases h4
  · cases h
theorem s_rev (xk : XOkE G X W N sc) {md : Nat} {a : E} {e : Expr} (h : chk N sc md (.rev a) e = true) (iha : ∀ x, chk N sc 0 a x = true → PE X x (tE G W a)) : PE X e (tE G W (.rev a)) := by
  simp only [chk] at h
  split at h
  · refine (pe_revL (iha _ h)).imp fun σ H Q ⟨H0, Hs0, Hs, ρ, r, sr, ee, po⟩ => ?_
    simp only [ev] at ee
    refine look_run sr ee po.er fun d x H1 Hs1 st rx sr1 e1 => ?_
    split at e1
    · cases e1
      obtain ⟨q, vs, rfl, h2, h3⟩ := rx
      exact ⟨q, vs, rfl, by rw [xk.K]; exact h2, (po.n st).lst sr1.sh h3.reverse⟩
    · cases e1
  · cases h

/-! ### calls -/
theorem cons_of {N : List Str} {es : List E} {as : List Expr} (hn : nullE as = false) (h : chkL N sc es as = true) : ∃ y ys, as = y :: ys ∧ isPlain y = true ∧ ys.all isPlain = true := by
  have hp := plains_of_chk h
  cases as with
  | nil => cases hn
  | cons y ys =>
    simp only [List.all_cons, Bool.and_eq_true] at hp
    exact ⟨y, ys, rfl, hp.1, hp.2⟩
theorem call_post {m : Mir} {σ : St} {H Hs H1 Hs1 H0 : Hp} {Q : VK} {r : Except Nat C} {cs : List C} {vs : List V} (po : PostE G W H0 σ H Hs Q r) (st : Stp G.tabs H Hs H1 Hs1) (s1 : Stp G.tabs G.root G.rootS H1 Hs1) (tt : LamX.Tabs G.tabs H1) (ra : ArgsR G H1 Hs1 cs vs) (e : m cs = some r) : spM G m vs H1 Q (WE W σ) := by
  refine ⟨Hs1, cs, r, s1, tt, ra, e, ?_⟩
  cases r with
  | ok c => exact po.n st
  | error k => exact fun H' Hs' st2 => po H' Hs' (st.trans st2)
theorem pe_callS0 {X : Cx} {CX : CXT} {k : Nat} {f : Addr} {fd : FuncData} {ps : List Str} {sp : Sp} {E : St → XK} {x : Str} {p pos : Pos} (F : FnOk X.prog X.w X.K X.mg X.base CX k f fd ps sp) (hr : Room k X.A) (hg : Gl X x) (hm : X.mg x = some (.ref f)) (hk : PySem.W.keepIn X.K (.ref f) = true) (hb : Binds X.K fd ps []) (hx : ∀ σ, PassesAt CX X σ (E σ))
    (hdb : (x == ("__debug__" : Str)) = false := by decide) : PE X (.Call (.Name x p) [] [] pos) (fun σ H Q => sp [] H Q (E σ)) := by
  refine ⟨fun pins s σ H Q I h => ?_⟩
  refine wpAny_Call_Name_kw (ld_glob I hg hm ?_ hdb)
  exact PySem.W.callWith_K0 I.kIn hk (run_fnS (us := []) F hr hb (hx σ) I .nil h)
theorem s_call (xk : XOkE G X W N sc) {md : Nat} {nm : Str} {m : Mir} {es : List E} {e : Expr} (h : chk N sc md (.call nm m es) e = true) (rf : RefOk G X (.fn nm m)) (ih : ∀ xs, chkL N sc es xs = true → PA X xs (tA G W es)) : PE X e (tE G W (.call nm m es)) := by
  simp only [chk] at h
  split at h
  · rename_i x p as pos
    simp only [Bool.and_eq_true, decide_eq_true_eq] at h
    obtain ⟨⟨rfl, h2⟩, h4⟩ := h
    obtain ⟨k, f, fd, ps, F, hr, hm, hk, hb⟩ := rf
    obtain ⟨g1, g2⟩ := xk.glo h2
    cases as with
    | nil =>
      cases es with
      | cons y ys => simp [chkL] at h4
      | nil =>
        refine (pe_callS0 F hr g1 hm hk hb (fun σ => passAt xk.tk σ) g2).imp fun σ H Q ⟨H0, Hs0, Hs, ρ, r, sr, ee, po⟩ => ?_
        simp only [ev, evs] at ee
        have ee : m [] = some r := ee
        exact call_post (cs := []) (vs := []) po (Stp.refl sr.sh) sr.ro sr.tt rfl ee
    | cons a as =>
      obtain ⟨y, ys, e0, hp, hps⟩ := cons_of (as := a :: as) rfl h4
      cases e0
      refine (pe_callS F hr g1 hm hk hb (fun σ => passAt xk.tk σ) (ih _ h4) g2 (star_of hp) (back_of hps)).imp fun σ H Q ⟨H0, Hs0, Hs, ρ, r, sr, ee, po⟩ => ?_
      simp only [ev] at ee
      exact args_run sr ee po.er fun cs vs H1 Hs1 st ra sr1 e1 => call_post po st sr1.ro sr1.tt ra e1
  · cases h
theorem s_make (xk : XOkE G X W N sc) {md c : Nat} {nm : Str} {m : Mir} {es : List E} {e : Expr} (h : chk N sc md (.make c nm m es) e = true) (rf : RefOk G X (.mk c nm m)) (ih : ∀ xs, chkL N sc es xs = true → PA X xs (tA G W es)) : PE X e (tE G W (.make c nm m es)) := by
  simp only [chk] at h
  split at h
  · simp only [Bool.and_eq_true, decide_eq_true_eq, Bool.not_eq_true'] at h
    obtain ⟨⟨⟨rfl, h2⟩, h3⟩, h4⟩ := h
    obtain ⟨y, ys, rfl, hp, hps⟩ := cons_of h3 h4
    obtain ⟨k, f, fd, ps, sp, F, hr, hm, hk, hb, hi⟩ := rf
    obtain ⟨g1, g2⟩ := xk.glo h2
    refine (vs_make hk F hr g1 hm hb (fun σ => passAt xk.tk σ) (ih _ h4) g2 (star_of hp) (back_of hps)).imp fun σ H Q ⟨H0, Hs0, Hs, ρ, r, sr, ee, po⟩ => ?_
    simp only [ev] at ee
    exact args_run sr ee po.er fun cs vs H1 Hs1 st ra sr1 e1 => fun x dx hx hd hne => hi vs H1 Q _ (call_post po st sr1.ro sr1.tt ra e1) x dx hx hd hne
  · cases h
end
end VS

set_option Elab.async false
set_option linter.all false
set_option autoImplicit false
set_option maxRecDepth 100000
set_option maxHeartbeats 4000000
/-! VS: methods, built-ins, isinstance, dicts keep their meaning. -/
namespace VS
open PySem L2
section
variable {G : Ctx} {X : Cx} {W : WX} {N : List Str} {sc : Scope}
theorem lookup_ins {Hx : Hp} {ns : List Str} {vs : List V} {f : Str} : ∀ {ds : List D}, ns.length = vs.length → RepL G Hx ds vs → ∀ d, findK ns ds f = some d → ∃ v, (ns.zip vs).lookup f = some v ∧ Rep G Hx d v := by
  induction ns generalizing vs with
  | nil => intro ds _ _ d e; simp [findK] at e
  | cons n ns ih =>
    intro ds hl r d e
    cases ds with
    | nil => simp [findK] at e
    | cons d' ds =>
      simp only [RepL] at r
      obtain ⟨v, ws, rfl, h2, h3⟩ := r
      simp only [findK] at e
      rw [List.zip_cons_cons, List.lookup_cons]
      by_cases h : n = f
      · rw [if_pos h, Option.some.injEq] at e
        subst e h
        exact ⟨v, by simp, h2⟩
      · rw [if_neg h] at e
        have hb : (f == n) = false := by simpa using fun z => h z.symm
        rw [hb]
        exact ih (by simpa using hl) h3 d e
theorem lookup_none {ns : List Str} {vs : List V} {f : Str} (h : f ∉ ns) : (ns.zip vs).lookup f = none := by
  induction ns generalizing vs with
  | nil => rfl
  | cons n ns ih =>
    cases vs with
    | nil => rfl
    | cons v vs =>
      rw [List.zip_cons_cons, List.lookup_cons]
      have hn : f ≠ n := fun z => h (by rw [z]; exact List.mem_cons_self)
      have hb : (f == n) = false := by simpa using hn
      rw [hb]
      exact ih fun z => h (List.mem_cons_of_mem _ z)
theorem s_fld (xk : XOkE G X W N sc) {md c : Nat} {o : E} {f : Str} {e : Expr} (h : chk N sc md (.fld c o f) e = true) (rf : RefOk G X (.fl c f)) (iho : ∀ x, chk N sc 0 o x = true → PE X x (tE G W o)) : PE X e (tE G W (.fld c o f)) := by
  simp only [chk] at h
  split at h
  · simp only [Bool.and_eq_true, decide_eq_true_eq] at h
    obtain ⟨⟨rfl, h2⟩, h3⟩ := h
    obtain ⟨hc, hn⟩ := rf
    refine (pe_fld (iho _ h3) (base_of h2)).imp fun σ H Q ⟨H0, Hs0, Hs, ρ, r, sr, ee, po⟩ => ?_
    simp only [ev] at ee
    refine look_run sr ee po.er fun d x H1 Hs1 st rx sr1 e1 => ?_
    split at e1
    · split at e1
      · rename_i hcc
        subst hcc
        rcases bind_cases e1 with ⟨k, h4, h5⟩ | ⟨dd, h4, h5⟩
        · obtain ⟨_, _, h6⟩ := lift_cases h4; cases h6
        · obtain ⟨d', h6, h7⟩ := lift_cases h4
          cases h7
          cases h5
          simp only [RdW, Rep] at rx
          obtain ⟨a, dx, vs, rfl, h8, hl, h9⟩ := rx
          obtain ⟨v, h10, h11⟩ := lookup_ins hl h9 _ h6
          exact ⟨a, _, dx, _, v, rfl, sr1.sh _ _ h8, hc, hn, h10, po.val st h11⟩
      · cases e1
    · cases e1
  · cases h
theorem args_nil_run {H0 Hs0 H Hs : Hp} {σ : St} {ρ : List C} {r : Except Nat C} {f : List C → M C} (h : (evs [] ρ).bind f = some r) : f [] = some r := by
  simp only [evs] at h
  exact h
theorem form_of {n : Nat} {as : List Expr} {cp : Pos} {env : Env} (hp : as.all isPlain = true) (hl : as.length < 30) (hn : n = as.length) : methodCallForm n (backTo cp (starEach as env)) (backToKw cp (keywordEach [] env)) = true := by
  have h1 : (backTo cp (starEach as env)).all (!·.1) = true := by
    have := back_of (pos := cp) (env := env) hp
    rw [List.all_eq_true]
    intro x hx
    have h2 : x.1 = false := by
      cases q : x.1 with
      | false => rfl
      | true =>
        have h3 : (backTo cp (starEach as env)).any (·.1) = true := List.any_eq_true.mpr ⟨x, hx, q⟩
        rw [h3] at this
        cases this
    simp [h2]
  unfold methodCallForm
  rw [h1]
  show (true && true && decide (n + (if (backToKw cp (keywordEach [] env)).isEmpty then 0 else 1) < 30)) = true
  have : (backToKw cp (keywordEach [] env)).isEmpty = true := rfl
  rw [this, if_pos rfl]
  simp; omega
theorem meth_eq {ob : Expr} {m : Str} {ap cp : Pos} {as : List Expr} {env : Env} (h2 : attrOk ob = true) (hp : as.all isPlain = true) (hl : as.length < 30) (he : (ap.endLine == cp.line) = true) :
    eval (.Call (.Attribute ob m ap) as [] cp) env = (do
      let ov ← eval ob env
      standAt ap.atName
      let (f, first) ← holding [ov] (getMethod ov m (do return (← importBound ob env).getD true))
      callWith cp f first (backTo cp (starEach as env)) (backToKw cp (keywordEach [] env))) := by
  show (do let ov ← attributeBase ob m env (eval ob env); standAt ap.atName; methodCall ob m ap cp env ov (as.length + ([] : List Keyword).length) (backTo cp (starEach as env)) (backToKw cp (keywordEach [] env))) = _
  rw [base_of h2]
  unfold methodCall methodCallPos
  rw [form_of hp hl (by simp), he]
  rfl
theorem s_meth (xk : XOkE G X W N sc) {md c : Nat} {nm : Str} {m : Mir} {o : E} {es : List E} {e : Expr} (h : chk N sc md (.meth c nm m o es) e = true) (rf : RefOk G X (.mt c nm m)) (iho : ∀ x, chk N sc 0 o x = true → PE X x (tE G W o))
    (ih : ∀ xs, chkL N sc es xs = true → PA X xs (tA G W es)) : PE X e (tE G W (.meth c nm m o es)) := by
  simp only [chk] at h
  split at h
  · rename_i ob mm ap as cp
    simp only [Bool.and_eq_true, decide_eq_true_eq] at h
    obtain ⟨⟨⟨⟨⟨rfl, he⟩, hat⟩, hlen⟩, h2⟩, h4⟩ := h
    obtain ⟨k, f, fd, ps, F, hr, hc, hm, hb⟩ := rf
    have hps := plains_of_chk h4
    have mq := meth_eq (m := mm) (env := X.env) hat hps hlen he
    have start : ∀ {σ : St} {H : Hp} {Q : VK} {t : TA}, tE G W (.meth c mm m o es) σ H Q → (∀ {H0 Hs0 H1 Hs1 : Hp} {ρ : List C} {r : Except Nat C} {f : List C → M C} {R : List V → Hp → Prop}, SR G H0 Hs0 σ H1 Hs1 ρ → (evs es ρ).bind f = some r → (∀ k, r = .error k → ErP G W σ H1 Hs1 k) →
        (∀ cs vs H2 Hs2, Stp G.tabs H1 Hs1 H2 Hs2 → ArgsR G H2 Hs2 cs vs → SR G H0 Hs0 σ H2 Hs2 ρ → f cs = some r → R vs H2) → t σ H1 R) → tMethVs (G.cls c) mm (spM G m) (WE W) (tE G W o) t σ H Q := by
      rintro σ H Q t ⟨H0, Hs0, Hs, ρ, r, sr, ee, po⟩ hrun
      simp only [ev] at ee
      refine look_run sr ee po.er fun d x H1 Hs1 st rx sr1 e1 => ?_
      split at e1
      · rename_i c' ns vs
        split at e1
        · rename_i hcc
          obtain ⟨hcc, hno⟩ := hcc
          subst hcc
          have rx' := rx
          simp only [RdW, Rep] at rx
          obtain ⟨a, dx, ws, rfl, h8, hl, h9⟩ := rx
          refine ⟨a, dx, _, rfl, sr1.sh _ _ h8, ?_, ?_⟩
          · exact lookup_none hno
          · refine hrun sr1 e1 (fun k z => (po.er k z).step st) fun cs vs' H2 Hs2 st2 ra sr2 e2 => ?_
            refine call_post po (st.trans st2) sr2.ro sr2.tt (cs := .val (.ins c' ns vs) :: cs) ?_ e2
            exact ⟨_, _, rfl, (show Rep G Hs1 (.ins c' ns vs) (.ref a) from rx').mono st2.b _ _, ra⟩
        · cases e1
      · cases e1
    cases as with
    | nil =>
      refine (vs_meth0 (iho _ h2) hc hm F hr hb (fun σ => passAt xk.tk σ) mq).imp fun σ H Q q => start q ?_
      intro H0 Hs0 H1 Hs1 ρ r f R sr e er ok
      cases es with
      | nil => exact ok [] [] H1 Hs1 (Stp.refl sr.sh) rfl sr (by simpa [evs] using e)
      | cons _ _ => simp [chkL] at h4
    | cons y ys =>
      have hps' := hps
      simp only [List.all_cons, Bool.and_eq_true] at hps'
      exact (vs_meth (iho _ h2) hc hm F hr hb (fun σ => passAt xk.tk σ) (ih _ h4) (star_of hps'.1) (back_of hps'.2) mq).imp fun σ H Q q => start q fun sr e er ok => args_run sr e er ok
  · cases h
theorem look_args {H0 Hs0 H Hs : Hp} {σ : St} {ρ : List C} {es : List E} {g : List D → Option C} {r : Except Nat C} {Q : List V → Hp → Prop} (sr : SR G H0 Hs0 σ H Hs ρ)
    (h : ((evs es ρ).bind fun cs => (M.lift (lookAll cs)).bind fun ds => M.lift (g ds)) = some r) (er : ∀ k, r = .error k → ErP G W σ H Hs k)
    (ok : ∀ ds c vs H1 Hs1, Stp G.tabs H Hs H1 Hs1 → RdL G H1 Hs1 ds vs → SR G H0 Hs0 σ H1 Hs1 ρ → g ds = some c → r = .ok c → Q vs H1) : tA G W es σ H Q := by
  refine args_run sr h er fun cs vs H1 Hs1 st ra sr1 e1 => ?_
  rcases bind_cases e1 with ⟨k, h3, h4⟩ | ⟨ds, h3, h4⟩
  · obtain ⟨_, _, h5⟩ := lift_cases h3; cases h5
  · obtain ⟨ds', h5, h6⟩ := lift_cases h3
    cases h6
    obtain ⟨c, h7, h8⟩ := lift_cases h4
    exact ok ds c vs H1 Hs1 st (ra.look sr1.sh h5) sr1 h7 h8
theorem s_blt (xk : XOkE G X W N sc) {md : Nat} {b : Blt} {es : List E} {e : Expr} (h : chk N sc md (.blt b es) e = true) (ih : ∀ xs, chkL N sc es xs = true → PA X xs (tA G W es)) : PE X e (tE G W (.blt b es)) := by
  simp only [chk] at h
  split at h
  · simp only [Bool.and_eq_true, decide_eq_true_eq, Bool.not_eq_true'] at h
    obtain ⟨⟨⟨⟨rfl, h2⟩, h5⟩, h3⟩, h4⟩ := h
    obtain ⟨y, ys, rfl, hp, hps⟩ := cons_of h3 h4
    obtain ⟨g1, g2⟩ := xk.glo h2
    have hm := xk.nb _ h5
    have fin : ∀ {σ : St} {H : Hp} {Q : VK}, tE G W (.blt b es) σ H Q → tCB (rC G b.f) (tA G W es) σ H Q := by
      rintro σ H Q ⟨H0, Hs0, Hs, ρ, r, sr, ee, po⟩
      simp only [ev] at ee
      refine look_args sr ee po.er fun ds c vs H1 Hs1 st rd sr1 e1 e2 => ?_
      subst e2
      exact ⟨Hs1, ds, c, sr1.sh, rd, e1, po.n st⟩
    rcases b.ok xk.toXOk with ⟨id, hv, hc⟩ | ⟨T, hv, hc⟩
    · exact (pe_callB hc g1 hm hv (ih _ h4) b.n1 g2 (star_of hp) (back_of hps)).imp fun σ H Q q => fin q
    · exact (pe_callTy hc g1 hm hv (ih _ h4) b.n1 g2 (star_of hp) (back_of hps)).imp fun σ H Q q => fin q
  · cases h
theorem s_mth (xk : XOkE G X W N sc) {md : Nat} {b : Mth} {o : E} {es : List E} {e : Expr} (h : chk N sc md (.mth b o es) e = true) (iho : ∀ x, chk N sc 0 o x = true → PE X x (tE G W o)) (ih : ∀ xs, chkL N sc es xs = true → PA X xs (tA G W es)) : PE X e (tE G W (.mth b o es)) := by
  simp only [chk] at h
  split at h
  · simp only [Bool.and_eq_true, decide_eq_true_eq] at h
    obtain ⟨⟨⟨⟨⟨rfl, he⟩, hat⟩, hlen⟩, h2⟩, h4⟩ := h
    refine (b.ok xk.toXOk hat (plains_of_chk h4) he hlen (iho _ h2) (ih _ h4)).imp fun σ H Q ⟨H0, Hs0, Hs, ρ, r, sr, ee, po⟩ => ?_
    simp only [ev] at ee
    refine look_run sr ee po.er fun d x H1 Hs1 st rx sr1 e1 => ?_
    split at e1
    · cases e1
    · rename_i hty
      refine ⟨Hs1, d, sr1.sh, rx, by simpa using hty, ?_⟩
      refine look_args sr1 e1 (fun k z => (po.er k z).step st) fun ds c vs H2 Hs2 st2 rd sr2 e2 e3 => ?_
      subst e3
      exact ⟨Hs2, ds, c, sr2.sh, rx.mono st2.a st2.b, rd, e2, po.n (st.trans st2)⟩
  · cases h
end
end VS

set_option Elab.async false
set_option linter.all false
set_option autoImplicit false
set_option maxRecDepth 100000
set_option maxHeartbeats 4000000
/-! VS: isinstance, ranges, dicts keep their meaning. -/
namespace VS
open PySem L2
def clsV (G : Ctx) : Kls → V
  | .tyInt => .ty "int"
  | .tyBool => .ty "bool"
  | .tyStr => .ty "str"
  | .tyTup => .ty "tuple"
  | .tyLst => .ty "list"
  | .tyDict => .ty "dict"
  | .tyValueError => .ty "ValueError"
  | .own c _ => .ref (G.cls c)
section
variable {G : Ctx} {X : Cx} {W : WX} {N : List Str} {sc : Scope}
theorem clsV_ok (k : Kls) : ClsV (clsV G k) (clsU G k) := by
  cases k <;> first | exact .ty _ | exact .own _
theorem kls_pe (xk : XOkE G X W N sc) {k : Kls} {c : Expr} (h : klsIs sc k c = true) (rf : KlOk G X k) : PE X c (tC (clsV G k)) := by
  cases c <;> simp only [klsIs, Bool.false_eq_true] at h
  simp only [Bool.and_eq_true, decide_eq_true_eq] at h
  obtain ⟨rfl, h2⟩ := h
  obtain ⟨g1, g2⟩ := xk.glo h2
  cases k with
  | own c x => exact pe_glob g1 (rf.mg c x rfl) rfl g2
  | tyInt => exact pe_bltn g1 (xk.nb _ (by decide +kernel)) (u := .type "int") (by decide +kernel) rfl (by decide +kernel) g2
  | tyBool => exact pe_bltn g1 (xk.nb _ (by decide +kernel)) (u := .type "bool") (by decide +kernel) rfl (by decide +kernel) g2
  | tyStr => exact pe_bltn g1 (xk.nb _ (by decide +kernel)) (u := .type "str") (by decide +kernel) rfl (by decide +kernel) g2
  | tyTup => exact pe_bltn g1 (xk.nb _ (by decide +kernel)) (u := .type "tuple") (by decide +kernel) rfl (by decide +kernel) g2
  | tyLst => exact pe_bltn g1 (xk.nb _ (by decide +kernel)) (u := .type "list") (by decide +kernel) rfl (by decide +kernel) g2
  | tyDict => exact pe_bltn g1 (xk.nb _ (by decide +kernel)) (u := .type "dict") (by decide +kernel) rfl (by decide +kernel) g2
  | tyValueError => exact pe_bltn g1 (xk.nb _ (by decide +kernel)) (u := .type "ValueError") (by decide +kernel) rfl (by decide +kernel) g2
def tCs (G : Ctx) : List Kls → TA
  | [] => tNil
  | k :: ks => tCons (tC (clsV G k)) (tCs G ks)
theorem tCs_run {σ : St} {H : Hp} {Q : List V → Hp → Prop} : ∀ {ks : List Kls}, Q (ks.map (clsV G)) H → tCs G ks σ H Q
  | [], q => q
  | k :: ks, q => by
    show tCs G ks σ H (fun xs H2 => Q (clsV G k :: xs) H2)
    exact tCs_run (Q := fun xs H2 => Q (clsV G k :: xs) H2) q
theorem klss_pa (xk : XOkE G X W N sc) : ∀ {ks : List Kls} {cs : List Expr}, klssAre sc ks cs = true → (∀ k ∈ ks, KlOk G X k) → PA X cs (tCs G ks)
  | [], [], _, _ => pa_nil
  | [], _ :: _, h, _ => by simp [klssAre] at h
  | _ :: _, [], h, _ => by simp [klssAre] at h
  | k :: ks, c :: cs, h, rf => by
    simp only [klssAre, Bool.and_eq_true] at h
    refine pa_cons (kls_pe xk h.1 (rf k List.mem_cons_self)) (klss_pa xk h.2 fun j hj => rf j (List.mem_cons_of_mem _ hj)) (star_of ?_)
    have := h.1
    cases c <;> simp only [klsIs, Bool.false_eq_true] at this
    rfl
/-- a value's class for the library -/
theorem kitD {pins : List (Addr × Obj)} {σ : St} {H Hs : Hp} {s : Shared} {x : V} {u : Value} {d : D} (I : L2.Inv X pins σ H s) (hK : X.K = G.K) (sa : Same Hs H) (rx : RelV x u) (ra : RdW G H Hs d x) (ex : ∀ i ∈ G.errs, ExcC X.K (G.cls i)) :
    (∀ T, tyName d = some T → ∃ P : Heap → Prop, PySem.W.KitX X.K u (.type T) P ∧ P s.heap ∧ u ≠ .builtin "__main__.__loader__#opaque") ∧
    (∀ i, d = .err i → i ∈ G.errs ∧ ∃ P : Heap → Prop, PySem.W.KitX X.K u (.ref (G.cls i)) P ∧ P s.heap ∧ u ≠ .builtin "__main__.__loader__#opaque") := by
  refine ⟨fun T e => ?_, fun i e => ?_⟩
  · have ty : TyX X.K H x (.type T) := by
      cases d <;> simp only [tyName, Option.some.injEq] at e <;> first | (cases e; done) | skip
      all_goals subst e
      · have : x = .non := by simpa [RdW, Rep] using ra
        subst this; exact .base .non
      · rw [rd_bl ra]; exact .base (.bl _)
      · rw [rd_int ra]; exact .base (.int _)
      · rw [rd_str ra]; exact .base (.str _)
      · obtain ⟨a, vs, rfl, h2, _⟩ := rd_tup sa ra
        exact let ⟨_, h3, _⟩ := h2; .fTuple h3
      · obtain ⟨a, vs, rfl, h2, _⟩ := ra
        rcases h2 with (h2 | ⟨o, h2⟩) | ⟨o, its, n, h2, h3, _⟩
        · exact .base (.lst h2)
        · exact .base (.frz h2)
        · exact .kList (by rw [hK]; exact h2) h3
      · obtain ⟨a, vs, rfl, h2, _⟩ := ra
        exact .base (.dK h2)
      · obtain ⟨a, vs, rfl, h2, _⟩ := ra
        exact .base (.dT h2)
    exact kit_of I rx ty
  · subst e
    simp only [RdW, Rep] at ra
    obtain ⟨a, rfl, h2, h3⟩ := ra
    refine ⟨h3, ?_⟩
    cases rx
    have C := ex i h3
    obtain ⟨⟨oe, vs, hget, hz, hv⟩, _, _⟩ := (show ObjOk X.prog X.w H s.heap a (ErrO (G.cls i) a) from I.hok a _ (sa _ _ h2))
    have J : PySem.W.InstAt s.heap a oe (G.cls i) none := by
      obtain ⟨oc, od, oda, osl⟩ := oe
      obtain ⟨h1, h2⟩ := hz
      dsimp only at h1 h2 hv
      subst h1 h2 hv
      exact ⟨hget, rfl, rfl, trivial⟩
    exact ⟨_, PySem.W.handS_kitx_exc C.hg C.hk C.hs C.hd C.ha C.hn C.ht C.hm, J, fun z => nomatch z⟩
theorem kitAny_of {K : PySem.W.Frag} {t : Value} {f : Kls → Bool} : ∀ {ks : List Kls}, (∀ k ∈ ks, PySem.W.kitOne K t (clsU G k) = some (f k)) → PySem.W.kitAny K t (ks.map (clsU G)) = some (ks.any f)
  | [], _ => rfl
  | k :: ks, h => by
    have h1 := h k List.mem_cons_self
    have ih := kitAny_of (ks := ks) fun j hj => h j (List.mem_cons_of_mem _ hj)
    rw [List.map_cons, List.any_cons]
    simp only [PySem.W.kitAny, h1]
    cases f k with
    | true => simp
    | false => simpa using ih
theorem isAny_of {d : D} {f : Kls → Bool} (h : ∀ k, isKl d k = some (f k)) : ∀ ks : List Kls, isAny d ks = some (ks.any f)
  | [] => rfl
  | k :: ks => by simp only [isAny, h k, isAny_of h ks, List.any_cons]
theorem isAny_all {d : D} : ∀ {ks : List Kls} {b : Bool}, isAny d ks = some b → ∀ k ∈ ks, ∃ c, isKl d k = some c
  | [], _, _, k, hk => by cases hk
  | k0 :: ks, b, e, k, hk => by
    simp only [isAny] at e
    split at e
    · rename_i a c e1 e2
      rcases List.mem_cons.mp hk with rfl | hm
      · exact ⟨_, e1⟩
      · exact isAny_all e2 k hm
    · cases e
def rIsD (G : Ctx) (ks : List Kls) : List V → Hp → VK → Prop := fun vs H Q => ∃ Hs d x b, Same Hs H ∧ RdW G H Hs d x ∧ isAny d ks = some b ∧ Q (.bl b) H ∧
  ((∃ k, ks = [k] ∧ vs = [x, clsV G k]) ∨ ∃ tp, vs = [x, .ref tp] ∧ H tp = some (.tup (ks.map (clsV G))))
theorem paired_cls : ∀ ks : List Kls, Paired ClsV (ks.map (clsV G)) (ks.map (clsU G))
  | [] => .nil
  | k :: ks => .cons (clsV_ok k) (paired_cls ks)
theorem call_isD (hK : X.K = G.K) {ks : List Kls} (hne : ks ≠ []) (rf : ∀ k ∈ ks, KlOk G X k) : CallR X (.builtin "isinstance") (rIsD G ks) := by
  rintro pins s σ H xs us Q I r ⟨Hs, d, x, b, sa, ra, e, q, hv⟩
  obtain ⟨k0, hk0⟩ : ∃ k0, k0 ∈ ks := by
    cases ks with
    | nil => exact (hne rfl).elim
    | cons k _ => exact ⟨k, List.mem_cons_self⟩
  have hkl : ∃ c, isKl d k0 = some c := isAny_all e k0 hk0
  -- what it is to each class, and the library's word for its class
  have main : ∀ u : Value, RelV x u → ∃ (t : Value) (P : Heap → Prop) (f : Kls → Bool), PySem.W.KitX X.K u t P ∧ P s.heap ∧ u ≠ .builtin "__main__.__loader__#opaque" ∧ b = ks.any f ∧ PySem.W.kitAny X.K t (ks.map (clsU G)) = some (ks.any f) ∧ ∀ k ∈ ks, PySem.W.kitOne X.K t (clsU G k) = some (f k) := by
    intro u rx
    obtain ⟨h1, h2⟩ := kitD I hK sa rx ra (rf k0 hk0).ex
    obtain ⟨c, hc⟩ := hkl
    by_cases he : ∃ i, d = .err i
    · obtain ⟨i, rfl⟩ := he
      obtain ⟨hi, P, z1, z2, z3⟩ := h2 i rfl
      have hk : ∀ k ∈ ks, PySem.W.kitOne X.K (.ref (G.cls i)) (clsU G k) = some (isErr i k) := fun k hk => (rf k hk).er i hi
      have hb := isAny_of (d := .err i) (f := isErr i) (fun k => rfl) ks
      rw [hb] at e
      exact ⟨_, P, isErr i, z1, z2, z3, (Option.some.inj e).symm, kitAny_of hk, hk⟩
    · have hT : ∃ T, tyName d = some T := by
        cases d <;> first | exact ⟨_, rfl⟩ | exact (he ⟨_, rfl⟩).elim | (simp [isKl, tyName] at hc)
      obtain ⟨T, hT⟩ := hT
      obtain ⟨P, z1, z2, z3⟩ := h1 T hT
      have hm : T ∈ tyNames := by
        cases d <;> simp only [tyName, Option.some.injEq] at hT <;> first | (cases hT; done) | (subst hT; decide)
      have hk : ∀ k ∈ ks, PySem.W.kitOne X.K (.type T) (clsU G k) = some (isTy T k) := fun k hk => (rf k hk).ty T hm
      have hb := isAny_of (d := d) (f := isTy T) (fun k => by cases d <;> first | exact (he ⟨_, rfl⟩).elim | (simp only [isKl, hT, Option.map_some])) ks
      rw [hb] at e
      exact ⟨_, P, isTy T, z1, z2, z3, (Option.some.inj e).symm, kitAny_of hk, hk⟩
  rcases hv with ⟨k, rfl, rfl⟩ | ⟨tp, rfl, ht⟩
  · obtain ⟨u1, u2, rfl, r1, r2⟩ := vals2 r
    have e2 := (clsV_ok (G := G) k).eq r2
    subst e2
    obtain ⟨t, P, f, z1, z2, z3, hb, _, hk⟩ := main u1 r1
    have hb' : b = f k := by rw [hb]; simp
    subst hb'
    exact PySem.W.kia_one z1 I.kIn z2 (hk k List.mem_cons_self) z3 fun tk => ⟨.bl _, H, I.tok tk, rfl, q⟩
  · obtain ⟨u1, u2, rfl, r1, r2⟩ := vals2 r
    cases (show u2 = Value.ref tp from r2)
    obtain ⟨t, P, f, z1, z2, z3, hb, ha, _⟩ := main u1 r1
    obtain ⟨_, its, rv, o, h1, h2, n, h3⟩ := (show ObjOk X.prog X.w H s.heap tp (.tup (ks.map (clsV G))) from I.hok tp _ ht)
    have e3 := ClsV.all (paired_cls ks) rv
    subst e3
    obtain ⟨oc, od, dt, sl⟩ := o
    simp only at h2 h3
    subst h2 h3
    subst hb
    exact PySem.W.kia_tup z1 I.kIn z2 h1 ha z3 fun tk => ⟨.bl _, H, I.tok tk, rfl, q⟩
theorem isi_core (xk : XOkE G X W N sc) {a : E} {ks : List Kls} {y c : Expr} {p cp : Pos} {t : TE} (h2 : glo sc "isinstance" = true) (h3 : chk N sc 0 a y = true) (cpl : isPlain c = true) (rf : ∀ k ∈ ks, KlOk G X k) (hne : ks ≠ []) (iha : ∀ x, chk N sc 0 a x = true → PE X x (tE G W a))
    (pt : PE X c t) (ht : ∀ {σ : St} {H : Hp} {Q : VK}, (∀ v H1, (∀ Hs, Same Hs H → Stp G.tabs H Hs H1 Hs) → ((∃ k, ks = [k] ∧ v = clsV G k) ∨ ∃ tp, v = .ref tp ∧ H1 tp = some (.tup (ks.map (clsV G)))) → Q v H1) → t σ H Q) :
    PE X (.Call (.Name "isinstance" p) [y, c] [] cp) (tE G W (.isi a ks)) := by
  obtain ⟨g1, g2⟩ := xk.glo h2
  have hm := xk.nb "isinstance" (by decide +kernel)
  have hv : bootBuiltins "isinstance" = some (.builtin "isinstance") := by decide +kernel
  refine (pe_callB (call_isD xk.K hne rf) g1 hm hv (pa_cons (iha y h3) (pa_cons pt pa_nil (star_of cpl)) (star_of (plain_of_chk h3))) (by decide +kernel) g2 (star_of (plain_of_chk h3)) (back_of (by simp [cpl]))).imp fun σ H Q ⟨H0, Hs0, Hs, ρ, r, sr, ee, po⟩ => ?_
  simp only [ev] at ee
  refine look_run sr ee po.er fun d x H1 Hs1 st rx sr1 e1 => ?_
  rcases bind_cases e1 with ⟨k, h5, h6⟩ | ⟨b, h5, h6⟩
  · obtain ⟨_, _, h7⟩ := lift_cases h5; cases h7
  · obtain ⟨b', h7, h8⟩ := lift_cases h5
    cases h8
    cases h6
    refine ht fun v H2 st2 hvs => ?_
    have st3 := st2 Hs1 sr1.sh
    refine ⟨Hs1, d, x, b, st3.s, rx.mono st3.a (Same.refl _), h7, po.val (st.trans st3) (by simp [Rep]), ?_⟩
    rcases hvs with ⟨k, z1, z2⟩ | ⟨tp, z1, z2⟩
    · exact .inl ⟨k, z1, by rw [z2]⟩
    · exact .inr ⟨tp, by rw [z1], z2⟩
theorem s_isi (xk : XOkE G X W N sc) {md : Nat} {a : E} {ks : List Kls} {e : Expr} (h : chk N sc md (.isi a ks) e = true) (rf : ∀ k ∈ ks, KlOk G X k) (iha : ∀ x, chk N sc 0 a x = true → PE X x (tE G W a)) : PE X e (tE G W (.isi a ks)) := by
  simp only [chk] at h
  split at h
  · rename_i x p y c cp
    simp only [Bool.and_eq_true, decide_eq_true_eq] at h
    obtain ⟨⟨⟨rfl, h2⟩, h3⟩, h4⟩ := h
    split at h4
    · rename_i cs kk tp
      simp only [Bool.and_eq_true, decide_eq_true_eq] at h4
      obtain ⟨h4, h5⟩ := h4
      have hne : ks ≠ [] := by intro z; subst z; simp at h5
      have hz : ks.length ≤ sizeLine := Nat.le_trans h5.2 (by decide)
      refine isi_core xk h2 h3 rfl rf hne iha (pe_tup (klss_pa xk h4 rf)) fun {σ H Q} k => ?_
      refine tCs_run ⟨by simpa using hz, fun p hp => k _ _ (fun Hs s => Stp.nw s hp) (.inr ⟨p, rfl, upd_same⟩)⟩
    · cases ks with
      | nil => simp [klssAre] at h4
      | cons k ks =>
        cases ks with
        | cons k' ks => simp [klssAre] at h4
        | nil =>
          simp only [klssAre, Bool.and_true] at h4
          have cpl : isPlain c = true := by
            have := h4
            cases c <;> simp only [klsIs, Bool.false_eq_true] at this
            rfl
          exact isi_core xk h2 h3 cpl rf (by simp) iha (kls_pe xk h4 (rf k List.mem_cons_self)) fun {σ H Q} kk => kk _ _ (fun Hs s => Stp.refl s) (.inl ⟨k, rfl, rfl⟩)
  · cases h

/-! ### lists and tuples of ranges -/
theorem rng_vs {Hx : Hp} {a b : Int} : RepL G Hx (rngD a b) (rgV a b) := by
  unfold rngD rgV
  generalize List.range (b - a).toNat = l
  induction l with
  | nil => exact .nil
  | cons i l ih => exact .cons (by simp [Rep]) ih
theorem bnd_of {i : Int} (h : bnd62 i = true) : -(2 ^ 62) ≤ i ∧ i < 2 ^ 62 := by
  unfold bnd62 at h
  simp only [Bool.and_eq_true, decide_eq_true_eq] at h
  exact h
theorem rngV_post {t : Bool} {x y : D} {c : C} {σ : St} {H H0 Hs H1 Hs1 : Hp} {Q : VK} (po : PostE G W H0 σ H Hs Q (.ok c)) (st : Stp G.tabs H Hs H1 Hs1) (s1 : Same Hs1 H1) (e : rngV t x y = some c) :
    ∃ a b, x = .int a ∧ y = .int b ∧ RgOk a b ∧ (if t = true then NewT H1 (rgV a b) Q else ∀ q, H1 q = none → Q (.ref q) (upd H1 q (.lst (rgV a b)))) := by
  cases x <;> cases y <;> simp only [rngV] at e <;> first | (cases e; done) | skip
  rename_i a b
  split at e
  · rename_i hb
    simp only [Bool.and_eq_true, decide_eq_true_eq] at hb
    cases e
    refine ⟨a, b, rfl, rfl, ⟨(bnd_of hb.1.1).1, (bnd_of hb.1.1).2, (bnd_of hb.1.2).1, (bnd_of hb.1.2).2, hb.2⟩, ?_⟩
    cases t with
    | true => exact (po.n st).tup s1 rng_vs
    | false => exact (po.n st).lst s1 rng_vs
  · cases e
theorem s_lstR (xk : XOkE G X W N sc) {md : Nat} {t : Bool} {b : E} {e : Expr} (h : chk N sc md (.lstR t b) e = true) (ihb : ∀ x, chk N sc 0 b x = true → PE X x (tE G W b)) : PE X e (tE G W (.lstR t b)) := by
  simp only [chk] at h
  split at h
  · rename_i x p1 y p2 u p3 p4
    simp only [Bool.and_eq_true, decide_eq_true_eq] at h
    obtain ⟨⟨⟨⟨hx, rfl⟩, h3⟩, h4⟩, h5⟩ := h
    obtain ⟨g1, g2⟩ := xk.glo h3
    obtain ⟨g3, g4⟩ := xk.glo h4
    have pr := prg_1 (pos := p3) (p := p2) g3 (xk.nb _ (by decide +kernel)) (ihb _ h5) (star_of (plain_of_chk h5))
    cases t with
    | true =>
      have hx' : x = "tuple" := hx
      subst hx'
      refine (pe_tupRgN xk.calm g1 (xk.nb _ (by decide +kernel)) pr (star_of rfl)).imp fun σ H Q ⟨H0, Hs0, Hs, ρ, r, sr, ee, po⟩ => ?_
      simp only [ev] at ee
      refine look_run sr ee po.er fun d x H1 Hs1 st rx sr1 e1 => ?_
      obtain ⟨c, h6, h7⟩ := lift_cases e1
      subst h7
      obtain ⟨a, b', z1, rfl, z3, z4⟩ := rngV_post po st sr1.sh h6
      cases z1
      exact ⟨_, rd_int rx, z3, z4⟩
    | false =>
      have hx' : x = "list" := hx
      subst hx'
      refine (pe_listRg xk.calm g1 (xk.nb _ (by decide +kernel)) pr (star_of rfl)).imp fun σ H Q ⟨H0, Hs0, Hs, ρ, r, sr, ee, po⟩ => ?_
      simp only [ev] at ee
      refine look_run sr ee po.er fun d x H1 Hs1 st rx sr1 e1 => ?_
      obtain ⟨c, h6, h7⟩ := lift_cases e1
      subst h7
      obtain ⟨a, b', z1, rfl, z3, z4⟩ := rngV_post po st sr1.sh h6
      cases z1
      exact ⟨_, rd_int rx, z3, z4⟩
  · cases h
theorem s_lstR2 (xk : XOkE G X W N sc) {md : Nat} {t : Bool} {a b : E} {e : Expr} (h : chk N sc md (.lstR2 t a b) e = true) (iha : ∀ x, chk N sc 0 a x = true → PE X x (tE G W a)) (ihb : ∀ x, chk N sc 0 b x = true → PE X x (tE G W b)) : PE X e (tE G W (.lstR2 t a b)) := by
  simp only [chk] at h
  split at h
  · rename_i x p1 y p2 u v p3 p4
    simp only [Bool.and_eq_true, decide_eq_true_eq] at h
    obtain ⟨⟨⟨⟨⟨hx, rfl⟩, h3⟩, h4⟩, h5⟩, h6⟩ := h
    obtain ⟨g1, g2⟩ := xk.glo h3
    obtain ⟨g3, g4⟩ := xk.glo h4
    have p5 := plain_of_chk h5
    have p6 := plain_of_chk h6
    have pr := prg_2 (pos := p3) (p := p2) g3 (xk.nb _ (by decide +kernel)) (iha _ h5) (ihb _ h6) (star_of p5) (star_of p6) (back_of (by simp [p6]))
    cases t with
    | true =>
      have hx' : x = "tuple" := hx
      subst hx'
      refine (pe_tupRgN xk.calm g1 (xk.nb _ (by decide +kernel)) pr (star_of rfl)).imp fun σ H Q ⟨H0, Hs0, Hs, ρ, r, sr, ee, po⟩ => ?_
      simp only [ev] at ee
      refine look_run sr ee po.er fun d x H1 Hs1 st rx sr1 e1 => ?_
      refine look_run sr1 e1 (fun k z => (po.er k z).step st) fun d2 y H2 Hs2 st2 ry sr2 e2 => ?_
      obtain ⟨c, h7, h8⟩ := lift_cases e2
      subst h8
      obtain ⟨a', b', rfl, rfl, z3, z4⟩ := rngV_post po (st.trans st2) sr2.sh h7
      exact ⟨_, _, rd_int rx, rd_int ry, z3, z4⟩
    | false =>
      have hx' : x = "list" := hx
      subst hx'
      refine (pe_listRg xk.calm g1 (xk.nb _ (by decide +kernel)) pr (star_of rfl)).imp fun σ H Q ⟨H0, Hs0, Hs, ρ, r, sr, ee, po⟩ => ?_
      simp only [ev] at ee
      refine look_run sr ee po.er fun d x H1 Hs1 st rx sr1 e1 => ?_
      refine look_run sr1 e1 (fun k z => (po.er k z).step st) fun d2 y H2 Hs2 st2 ry sr2 e2 => ?_
      obtain ⟨c, h7, h8⟩ := lift_cases e2
      subst h8
      obtain ⟨a', b', rfl, rfl, z3, z4⟩ := rngV_post po (st.trans st2) sr2.sh h7
      exact ⟨_, _, rd_int rx, rd_int ry, z3, z4⟩
  · cases h

/-! ### dicts -/
theorem s_dnewK {md : Nat} {e : Expr} (h : chk N sc md .dnewK e = true) : PE X e (tE G W .dnewK) := by
  simp only [chk] at h
  split at h
  · refine pe_dnewK.imp fun σ H Q ⟨H0, Hs0, Hs, ρ, r, sr, ee, po⟩ => ?_
    simp only [ev] at ee
    cases ee
    intro p hp
    have st := Stp.nw (T := G.tabs) (o := .dK []) sr.sh hp
    exact po _ _ _ st ⟨p, _, rfl, hp, sr.sh.free hp, upd_same, [], rfl, rfl, .nil⟩
  · cases h
theorem s_dnewT {md : Nat} {e : Expr} (h : chk N sc md .dnewT e = true) : PE X e (tE G W .dnewT) := by
  simp only [chk] at h
  split at h
  · refine pe_dnewT.imp fun σ H Q ⟨H0, Hs0, Hs, ρ, r, sr, ee, po⟩ => ?_
    simp only [ev] at ee
    cases ee
    intro p hp
    have st := Stp.nw (T := G.tabs) (o := .dT []) sr.sh hp
    exact po _ _ _ st ⟨p, _, rfl, hp, sr.sh.free hp, upd_same, [], rfl, rfl, .nil⟩
  · cases h
theorem key_rd {H Hs : Hp} {d : D} {v : V} {k : Key} (e : keyD d = some k) (r : RdW G H Hs d v) : v = kV k := by
  cases d <;> simp only [keyD] at e <;> first | (cases e; done) | skip
  · cases e; exact rd_int r
  · cases e; exact rd_str r
theorem s_dict1 (xk : XOkE G X W N sc) {md : Nat} {k v : E} {e : Expr} (h : chk N sc md (.dict1 k v) e = true) (ihk : ∀ x, chk N sc 0 k x = true → PE X x (tE G W k)) (ihv : ∀ x, chk N sc 0 v x = true → PE X x (tE G W v)) : PE X e (tE G W (.dict1 k v)) := by
  simp only [chk] at h
  split at h
  · simp only [Bool.and_eq_true] at h
    obtain ⟨h1, h2⟩ := h
    refine (pe_disp (pps_cons (ihk _ h1) (ihv _ h2) pps_nil) rfl rfl (by simp) (by simp)).imp fun σ H Q ⟨H0, Hs0, Hs, ρ, r, sr, ee, po⟩ => ?_
    simp only [ev] at ee
    intro p hp
    have st0 := Stp.nw (T := G.tabs) (o := .dK []) sr.sh hp
    have sr0 := sr.step st0
    refine look_run sr0 ee (fun k z => (po.er k z).step st0) fun d x H1 Hs1 st rx sr1 e1 => ?_
    refine keep_run sr1 e1 (fun k z => ((po.er k z).step st0).step st) fun d2 y H2 Hs2 st2 ry sr2 e2 => ?_
    cases hk : keyD d with
    | none => rw [hk] at e2; cases e2
    | some kk =>
      rw [hk] at e2
      cases e2
      have hp2 : H2 p = some (.dK []) := st2.a _ _ (st.a _ _ upd_same)
      have hs2 : Hs2 p = none := st2.n p (st.n p (sr.sh.free hp) (by rw [upd_same]; simp)) (by rw [st.a _ _ upd_same]; simp)
      refine ⟨hp2, [(kk, y)], by rw [key_rd hk rx]; rfl, by simp, ?_⟩
      have e3 : mergeK [] [(kk, y)] = [(kk, y)] := rfl
      rw [e3]
      have stf : Stp G.tabs H Hs (upd H2 p (.dK [(kk, y)])) Hs2 := (st0.trans (st.trans st2)).chg hp hs2 hp2 dK_nt dK_nc
      exact po _ _ _ stf ⟨p, _, rfl, hp, hs2, upd_same, [y], rfl, rfl, .cons ry .nil⟩
  · cases h
theorem s_dict2 (xk : XOkE G X W N sc) {md : Nat} {k v k2 v2 : E} {e : Expr} (h : chk N sc md (.dict2 k v k2 v2) e = true) (ihk : ∀ x, chk N sc 0 k x = true → PE X x (tE G W k)) (ihv : ∀ x, chk N sc 0 v x = true → PE X x (tE G W v)) (ihk2 : ∀ x, chk N sc 0 k2 x = true → PE X x (tE G W k2)) (ihv2 : ∀ x, chk N sc 0 v2 x = true → PE X x (tE G W v2)) : PE X e (tE G W (.dict2 k v k2 v2)) := by
  simp only [chk] at h
  split at h
  · simp only [Bool.and_eq_true] at h
    obtain ⟨⟨h1, h2⟩, h3, h4⟩ := h
    refine (pe_disp (pps_cons (ihk _ h1) (ihv _ h2) (pps_cons (ihk2 _ h3) (ihv2 _ h4) pps_nil)) rfl rfl (by simp) (by simp)).imp fun σ H Q ⟨H0, Hs0, Hs, ρ, r, sr, ee, po⟩ => ?_
    simp only [ev] at ee
    intro p hp
    have st0 := Stp.nw (T := G.tabs) (o := .dK []) sr.sh hp
    have sr0 := sr.step st0
    refine look_run sr0 ee (fun k z => (po.er k z).step st0) fun d x H1 Hs1 st rx sr1 e1 => ?_
    refine keep_run sr1 e1 (fun k z => ((po.er k z).step st0).step st) fun d2 y H2 Hs2 st2 ry sr2 e2 => ?_
    refine look_run sr2 e2 (fun k z => (((po.er k z).step st0).step st).step st2) fun d3 x3 H3 Hs3 st3 rx3 sr3 e3 => ?_
    refine keep_run sr3 e3 (fun k z => ((((po.er k z).step st0).step st).step st2).step st3) fun d4 y4 H4 Hs4 st4 ry4 sr4 e4 => ?_
    cases hk : keyD d with
    | none => rw [hk] at e4; cases e4
    | some kk =>
      cases hk2 : keyD d3 with
      | none => rw [hk, hk2] at e4; cases e4
      | some kk2 =>
        rw [hk, hk2] at e4
        simp only at e4
        split at e4
        · cases e4
        · rename_i hne
          cases e4
          have n1 : Hs1 p = none := st.n p (sr.sh.free hp) (by rw [upd_same]; simp)
          have p1 : H1 p = some (.dK []) := st.a _ _ upd_same
          have n2 : Hs2 p = none := st2.n p n1 (by rw [p1]; simp)
          have p2 : H2 p = some (.dK []) := st2.a _ _ p1
          have n3 : Hs3 p = none := st3.n p n2 (by rw [p2]; simp)
          have p3 : H3 p = some (.dK []) := st3.a _ _ p2
          have n4 : Hs4 p = none := st4.n p n3 (by rw [p3]; simp)
          have p4 : H4 p = some (.dK []) := st4.a _ _ p3
          refine ⟨p4, [(kk, y), (kk2, y4)], by rw [key_rd hk rx, key_rd hk2 rx3]; rfl, by simp, ?_⟩
          have e5 : mergeK [] [(kk, y), (kk2, y4)] = [(kk, y), (kk2, y4)] := by
            show putK [(kk, y)] kk2 y4 = _
            simp [putK, hne]
          rw [e5]
          have stf : Stp G.tabs H Hs (upd H4 p (.dK [(kk, y), (kk2, y4)])) Hs4 := (st0.trans (st.trans (st2.trans (st3.trans st4)))).chg hp n4 p4 dK_nt dK_nc
          have ry' := Rep.mono (st3.b.trans st4.b) _ _ ry
          exact po _ _ _ stf ⟨p, _, rfl, hp, n4, upd_same, [y, y4], rfl, rfl, .cons ry' (.cons ry4 .nil)⟩
  · cases h
theorem s_dget2 (xk : XOkE G X W N sc) {md : Nat} {d k x : E} {e : Expr} (h : chk N sc md (.dget2 d k x) e = true) (ihd : ∀ x, chk N sc 0 d x = true → PE X x (tE G W d)) (ihk : ∀ x, chk N sc 0 k x = true → PE X x (tE G W k)) (ihx : ∀ y, chk N sc 0 x y = true → PE X y (tE G W x)) : PE X e (tE G W (.dget2 d k x)) := by
  simp only [chk] at h
  split at h
  · simp only [Bool.and_eq_true, decide_eq_true_eq] at h
    obtain ⟨⟨⟨⟨⟨rfl, he⟩, hat⟩, h2⟩, h3⟩, h4⟩ := h
    have p3 := plain_of_chk h3
    have p4 := plain_of_chk h4
    refine (pe_dget2 xk.u1 (ihd _ h2) (ihk _ h3) (ihx _ h4) ⟨base_of hat, form_of (n := 2) (by simp [p3, p4]) (by simp) rfl, he, by rw [star_of p3, star_of p4]; rfl⟩).imp fun σ H Q ⟨H0, Hs0, Hs, ρ, r, sr, ee, po⟩ => ?_
    simp only [ev] at ee
    refine look_run sr ee po.er fun c u H1 Hs1 st ru sr1 e1 => ?_
    split at e1
    · rename_i ks vs
      obtain ⟨a, ws, rfl, h5, hl, h6⟩ := ru
      refine ⟨a, rfl, .inl ⟨_, .inl h5⟩, ?_⟩
      refine look_run sr1 e1 (fun k z => (po.er k z).step st) fun d2 y H2 Hs2 st2 ry sr2 e2 => ?_
      refine keep_run sr2 e2 (fun k z => ((po.er k z).step st).step st2) fun d3 z H3 Hs3 st3 rz sr3 e3 => ?_
      cases hk : keyD d2 with
      | none => rw [hk] at e3; cases e3
      | some kk =>
        rw [hk] at e3
        cases e3
        have h7 := st3.a _ _ (st2.a _ _ h5)
        have h8 := (h6.mono st2.b).mono st3.b
        obtain ⟨z1, z2⟩ := findK_zip (k := kk) hl h8
        refine ⟨valV (ks.zip ws) kk, by rw [key_rd hk ry]; exact .k h7, ?_⟩
        have st' := st.trans (st2.trans st3)
        cases q : findK ks vs kk with
        | none => rw [q] at po; rw [z1 q]; exact po.val st' rz
        | some d =>
          obtain ⟨v, z3, z4⟩ := z2 d q
          rw [q] at po; rw [z3]; exact po.val st' z4
    · cases e1
  · cases h
end
end VS

set_option Elab.async false
set_option linter.all false
set_option autoImplicit false
set_option maxRecDepth 100000
set_option maxHeartbeats 4000000
/-! VS: arguments, tests, what is walked, comprehensions. -/
namespace VS
open PySem L2
section
variable {G : Ctx} {X : Cx} {W : WX} {N : List Str} {sc : Scope}
/-! ### arguments -/
theorem a_nil : PA X [] (tA G W []) := pa_nil.imp fun σ H Q ⟨H0, Hs0, Hs, ρ, r, sr, ee, po⟩ => by
  simp only [evs] at ee
  cases ee
  exact po [] H Hs (Stp.refl sr.sh) rfl
theorem RepC.asArg {H0 H Hs H' Hs' : Hp} {c a : C} {v : V} (st : Stp G.tabs H Hs H' Hs') (r : RepC G H0 H Hs H' Hs' c v) (e : c.arg = some a) :
    ∃ Hs1, Stp G.tabs H Hs H' Hs1 ∧ ArgR G H' Hs1 a v := by
  cases c with
  | un => cases e
  | val d => cases e; exact ⟨Hs', st, r⟩
  | bor o => cases e; exact ⟨Hs', st, r.1.mono r.2 (Same.refl _)⟩
  | lon o => cases e; exact ⟨Hs', st, r⟩
  | own o =>
    cases e
    obtain ⟨Hs1, st1, _, k⟩ := r.kept (d := o.frz) st rfl
    exact ⟨Hs1, st1, k⟩
theorem a_cons {a : E} {as : List E} {e : Expr} {es : List Expr} (hp : isPlain e = true) (ha : PE X e (tE G W a)) (hs : PA X es (tA G W as)) : PA X (e :: es) (tA G W (a :: as)) := by
  refine (pa_cons ha hs (star_of hp)).imp fun σ H Q ⟨H0, Hs0, Hs, ρ, r, sr, ee, po⟩ => ?_
  simp only [evs] at ee
  rcases bind_cases ee with ⟨k, h1, h2⟩ | ⟨c, h1, h2⟩
  · subst h2
    exact ⟨H0, Hs0, Hs, ρ, _, sr, h1, po⟩
  · refine ⟨H0, Hs0, Hs, ρ, _, sr, h1, fun v H1 Hs1 st rc => ?_⟩
    rcases bind_cases h2 with ⟨k, h3, h4⟩ | ⟨b, h3, h4⟩
    · obtain ⟨_, _, h5⟩ := lift_cases h3; cases h5
    · obtain ⟨b', h5, h6⟩ := lift_cases h3
      cases h6
      obtain ⟨Hs1', st1, ra⟩ := rc.asArg st h5
      have er : ∀ k, r = .error k → ErP G W σ H Hs k := fun k z => by subst z; exact po
      refine args_run (sr.step st1) h4 (fun k z => (er k z).step st1) fun cs vs H2 Hs2 st2 rs sr2 e2 => ?_
      cases e2
      exact po (v :: vs) H2 Hs2 (st1.trans st2) ⟨v, vs, rfl, ra.step st2, rs⟩

/-! ### tests -/
theorem t_val {a : E} {e : Expr} (ha : PE X e (tE G W a)) (he : ∀ whole, isTrue e X.env whole = (do let v ← whole; standAt e.pos; holding [v] (truthy v))) : PT X e (tT G W a) := by
  refine (pt_val ha he).imp fun σ H Q ⟨H0, Hs0, Hs, ρ, r, sr, ee, po⟩ => ?_
  refine ⟨H0, Hs0, Hs, ρ, r, sr, ee, ?_⟩
  cases r with
  | error k => exact po
  | ok c =>
    obtain ⟨b, h1, h2⟩ := po
    intro v H1 Hs1 st rc
    obtain ⟨Hs2, st2, _, rd⟩ := rc.look st h1
    exact ⟨b, rd_bl rd, h2 H1 Hs2 st2⟩
theorem t_look {a : E} {σ : St} {H H0 Hs0 Hs : Hp} {ρ : List C} {β : Type} {f : D → M β} {r : Except Nat β} {Q : Bool → Hp → Prop} (sr : SR G H0 Hs0 σ H Hs ρ) (h : (look1 (ev a ρ)).bind f = some r) (er : ∀ k, r = .error k → ErP G W σ H Hs k)
    (ok : ∀ b H1 Hs1, Stp G.tabs H Hs H1 Hs1 → SR G H0 Hs0 σ H1 Hs1 ρ → f (.bl b) = some r → Q b H1) (hb : ∀ d, f d = some r → ∃ b, d = .bl b) : tT G W a σ H Q := by
  rcases bind_cases h with ⟨k, h1, h2⟩ | ⟨d, h1, h2⟩
  · rcases bind_cases h1 with ⟨k', h3, h4⟩ | ⟨c, h3, h4⟩
    · cases h4
      exact ⟨H0, Hs0, Hs, ρ, _, sr, h3, er k h2⟩
    · obtain ⟨_, _, h5⟩ := lift_cases h4; cases h5
  · rcases bind_cases h1 with ⟨k', h3, h4⟩ | ⟨c, h3, h4⟩
    · cases h4
    · obtain ⟨d', h5, h6⟩ := lift_cases h4
      cases h6
      obtain ⟨b, rfl⟩ := hb d h2
      exact ⟨H0, Hs0, Hs, ρ, _, sr, h3, b, h5, fun H1 Hs1 st => ok b H1 Hs1 st (sr.step st) h2⟩
theorem PostT.er {σ : St} {H Hs : Hp} {Q : Bool → Hp → Prop} {r : Except Nat C} (p : PostT G W σ H Hs Q r) : ∀ k, r = .error k → ErP G W σ H Hs k := fun k e => by subst e; exact p
theorem PostT.re {σ : St} {H Hs H1 Hs1 : Hp} {Q : Bool → Hp → Prop} {r : Except Nat C} (p : PostT G W σ H Hs Q r) (st : Stp G.tabs H Hs H1 Hs1) : PostT G W σ H1 Hs1 Q r := by
  cases r with
  | error k => exact ErP.step p st
  | ok c =>
    obtain ⟨b, h1, h2⟩ := p
    exact ⟨b, h1, fun H' Hs' s => h2 H' Hs' (st.trans s)⟩
theorem PostT.bl {σ : St} {H Hs H1 Hs1 : Hp} {Q : Bool → Hp → Prop} {b : Bool} (p : PostT G W σ H Hs Q (.ok (.val (.bl b)))) (st : Stp G.tabs H Hs H1 Hs1) : Q b H1 := by
  obtain ⟨b', h1, h2⟩ := p
  cases h1
  exact h2 H1 Hs1 st
theorem t_not {a : E} {e : Expr} (h : chk N sc 0 (.not_ a) e = true) (iha : ∀ x, chk N sc 0 a x = true → PT X x (tT G W a)) : PT X e (tT G W (.not_ a)) := by
  simp only [chk] at h
  split at h
  · refine (pt_not (iha _ h)).imp fun σ H Q ⟨H0, Hs0, Hs, ρ, r, sr, ee, po⟩ => ?_
    simp only [ev] at ee
    refine t_look sr ee po.er (fun b H1 Hs1 st sr1 e1 => ?_) fun d e1 => ?_
    · cases e1
      exact po.bl st
    · split at e1
      · exact ⟨_, rfl⟩
      · cases e1
  · cases h
theorem bool_pw {op : BoolOp} {es : List Expr} {p : Pos} {t : TT} (h : PT X (.BoolOp op es p) t) : PW X (.BoolOp op es p) t := ⟨fun _ => h.run⟩
theorem t_and {a b : E} {e : Expr} (h : chk N sc 0 (.and_ a b) e = true) (iha : ∀ x, chk N sc 0 a x = true → PT X x (tT G W a)) (ihb : ∀ x, chk N sc 0 b x = true → PT X x (tT G W b)) : PT X e (tT G W (.and_ a b)) := by
  simp only [chk] at h
  split at h
  · rename_i x y rr p
    simp only [Bool.and_eq_true] at h
    obtain ⟨h1, h2⟩ := h
    have hb : PW X (.BoolOp .And (y :: rr) p) (tT G W b) := by
      cases rr with
      | nil => exact pw_and1 (ihb _ h2)
      | cons z rr => exact bool_pw (ihb _ h2)
    refine (pw_and (iha _ h1) hb).pt.imp fun σ H Q ⟨H0, Hs0, Hs, ρ, r, sr, ee, po⟩ => ?_
    simp only [ev] at ee
    refine t_look sr ee po.er (fun c H1 Hs1 st sr1 e1 => ?_) fun d e1 => ?_
    · cases c with
      | true => exact ⟨H0, Hs0, Hs1, ρ, r, sr1, e1, po.re st⟩
      | false => cases e1; exact po.bl st
    · split at e1
      · exact ⟨_, rfl⟩
      · exact ⟨_, rfl⟩
      · cases e1
  · cases h
theorem t_or {a b : E} {e : Expr} (h : chk N sc 0 (.or_ a b) e = true) (iha : ∀ x, chk N sc 0 a x = true → PT X x (tT G W a)) (ihb : ∀ x, chk N sc 0 b x = true → PT X x (tT G W b)) : PT X e (tT G W (.or_ a b)) := by
  simp only [chk] at h
  split at h
  · rename_i x y rr p
    simp only [Bool.and_eq_true] at h
    obtain ⟨h1, h2⟩ := h
    have hb : PW X (.BoolOp .Or (y :: rr) p) (tT G W b) := by
      cases rr with
      | nil => exact pw_or1 (ihb _ h2)
      | cons z rr => exact bool_pw (ihb _ h2)
    refine (pw_or (iha _ h1) hb).pt.imp fun σ H Q ⟨H0, Hs0, Hs, ρ, r, sr, ee, po⟩ => ?_
    simp only [ev] at ee
    refine t_look sr ee po.er (fun c H1 Hs1 st sr1 e1 => ?_) fun d e1 => ?_
    · cases c with
      | true => cases e1; exact po.bl st
      | false => exact ⟨H0, Hs0, Hs1, ρ, r, sr1, e1, po.re st⟩
    · split at e1
      · exact ⟨_, rfl⟩
      · exact ⟨_, rfl⟩
      · cases e1
  · cases h
/-- a value as a test's rule gives it -/
theorem t_fromE {a : E} {σ : St} {H : Hp} {Q : Bool → Hp → Prop} (q : tT G W a σ H Q) : tE G W a σ H fun x H' => ∃ k, x = .bl k ∧ Q k H' := by
  obtain ⟨H0, Hs0, Hs, ρ, r, sr, ee, po⟩ := q
  refine ⟨H0, Hs0, Hs, ρ, r, sr, ee, ?_⟩
  cases r with
  | error k => exact po
  | ok c =>
    obtain ⟨b, h1, h2⟩ := po
    intro v H1 Hs1 st rc
    obtain ⟨Hs2, st2, _, rd⟩ := rc.look st h1
    exact ⟨b, rd_bl rd, h2 H1 Hs2 st2⟩
theorem t_op (xk : XOkE G X W N sc) {o : Op2} {a b : E} {e : Expr} (h : chk N sc 0 (.op o a b) e = true) (iha : ∀ x, chk N sc 0 a x = true → PE X x (tE G W a)) (ihb : ∀ x, chk N sc 0 b x = true → PE X x (tE G W b)) : PT X e (tT G W (.op o a b)) := by
  have h' := h
  simp only [chk] at h
  split at h
  · exact t_val (s_op xk h' iha ihb) fun _ => rfl
  · simp only [Bool.and_eq_true] at h
    obtain ⟨⟨h1, h2⟩, h3⟩ := h
    exact (pt_cmpR (opOk_cmp xk.toXOk h1) (iha _ h2) (ihb _ h3) (notset (plain_of_chk h3))).imp fun σ H Q q => op_reading (t_fromE q)
  · cases h
theorem t_chain (xk : XOkE G X W N sc) {o1 o2 : Op2} {a b c : E} {e : Expr} (h : chk N sc 0 (.chain o1 o2 a b c) e = true) (iha : ∀ x, chk N sc 0 a x = true → PE X x (tE G W a)) (ihb : ∀ x, chk N sc 0 b x = true → PE X x (tE G W b)) (ihc : ∀ x, chk N sc 0 c x = true → PE X x (tE G W c)) : PT X e (tT G W (.chain o1 o2 a b c)) := by
  simp only [chk] at h
  split at h
  · simp only [Bool.and_eq_true] at h
    obtain ⟨⟨⟨⟨h1, h2⟩, h3⟩, h4⟩, h5⟩ := h
    exact (pt_chain (opOk_cmp xk.toXOk h1) (opOk_cmp xk.toXOk h2) (iha _ h3) (ihb _ h4) (ihc _ h5) (by show behindInMarks _ _ = false; exact notset (plain_of_chk h5))).imp fun σ H Q q => chain_reading (t_fromE q)
  · cases h
theorem isTrue_of {e : Expr} {env : Env} (h : plainT e = true) : ∀ whole, isTrue e env whole = (do let v ← whole; standAt e.pos; holding [v] (truthy v)) := by
  intro whole
  cases e <;> first | rfl | cases h | skip
  rename_i op a p
  cases op <;> first | rfl | cases h
def headT : E → Bool
  | .ite _ _ _ => false
  | .and_ _ _ => false
  | .or_ _ _ => false
  | .not_ _ => false
  | .op _ _ _ => false
  | .chain _ _ _ _ _ => false
  | _ => true
theorem plainT_of {N : List Str} {sc : Scope} {a : E} {e : Expr} (h : chk N sc 0 a e = true) (ha : headT a = true) : plainT e = true := by
  by_cases hs : ∃ b es, a = .spec b es
  · obtain ⟨b, es, rfl⟩ := hs
    simp only [chk] at h
    split at h
    · rename_i q; exact (b.pl q).2.1
    · cases h
  · by_cases hp : ∃ b, a = .esp b
    · obtain ⟨b, rfl⟩ := hp
      simp only [chk] at h
      exact (b.pl h).2.1
    · cases e <;> first | rfl | skip
      all_goals (cases a <;> first | (cases ha; done) | (simp [chk] at h; done) | (exact absurd ⟨_, _, rfl⟩ hs) | (exact absurd ⟨_, rfl⟩ hp) | skip)
      · rename_i op x p b
        cases op <;> first | rfl | (simp [chk] at h)
theorem s_esp {G : Ctx} {X : Cx} {W : WX} {N : List Str} {sc : Scope} (xk : XOkE G X W N sc) {md : Nat} {b : ESp} {e : Expr} (h : chk N sc md (.esp b) e = true) (rf : ∀ r ∈ b.refs, RefOk G X r) : PE X e (tE G W (.esp b)) := by
  simp only [chk] at h
  refine (b.ok xk rf h).imp fun σ H Q ⟨H0, Hs0, Hs, ρ, r, sr, ee, po⟩ => ⟨H0, Hs0, Hs, ρ, r, sr, by rw [show VS.ev (.esp b) ρ = b.ev ρ from by simp only [VS.ev]] at ee; exact ee, po⟩
theorem s_spec {G : Ctx} {X : Cx} {W : WX} {N : List Str} {sc : Scope} (xk : XOkE G X W N sc) {md : Nat} {b : Spc} {es : List E} {e : Expr} (h : chk N sc md (.spec b es) e = true) (ih : ∀ xs, chkL N sc es xs = true → PA X xs (tA G W es)) : PE X e (tE G W (.spec b es)) := by
  simp only [chk] at h
  split at h
  · rename_i xs q
    refine (b.ok ⟨xk.toXOk, xk.hN, xk.hsc, xk.nb⟩ q (plains_of_chk h) (ih _ h)).imp fun σ H Q ⟨H0, Hs0, Hs, ρ, r, sr, ee, po⟩ => ?_
    simp only [ev] at ee
    refine args_run sr ee po.er fun cs vs H1 Hs1 st ra sr1 e1 => ?_
    obtain ⟨c, e2, e3⟩ := lift_cases e1
    subst e3
    exact ⟨Hs1, cs, c, sr1.sh, ra, e2, po.n st⟩
  · cases h
theorem lookup_mem {α : Type} : ∀ {l : List (Nat × α)} {n : Nat} {a : α}, l.lookup n = some a → (n, a) ∈ l
  | (k, v) :: r, n, a, h => by
    rw [List.lookup_cons] at h
    split at h
    · rename_i hb
      cases h
      rw [eq_of_beq hb]
      exact List.mem_cons_self
    · exact List.mem_cons_of_mem _ (lookup_mem h)
/-- a call of the def that a slot holds -/
theorem pe_held {X : Cx} {W : WX} {k i : Nat} {f : Addr} {fd : FuncData} {ps : List Str} {sp : Sp} {x : Str} {p pos : Pos} {y : Expr} {ys : List Expr} {ta : TA} (F : FnOk X.prog X.w X.K X.mg X.base (L2.CX X.prog X.w) k f fd ps sp) (room : Room k X.A)
    (at_ : X.N[i]? = some x) (seen : Vis X.env.scope x) (kept : PySem.W.keepIn X.K (.ref f) = true) (bd : Binds X.K fd ps []) (tk : Takes X W) (args : PA X (y :: ys) ta) (nm : (x == ("__debug__" : Str)) = false ∧ (x == ("__classdict__" : Str)) = false)
    (hp : isPlain y = true) (hps : ys.all isPlain = true) : PE X (.Call (.Name x p) (y :: ys) [] pos) (fun σ H Q => σ[i]? = some (some (.ref f)) ∧ ta σ H fun vs H1 => sp vs H1 Q (WE W σ)) := by
  refine ⟨fun pins s σ H Q I ⟨has, run⟩ => ?_⟩
  have name := (pe_var (pos := p) at_ seen nm.1 nm.2).run pins s σ H (fun v H1 => v = .ref f ∧ H1 = H) I ⟨.ref f, has, rfl, rfl⟩
  refine wpAny_Call_Name_kw (thn name fun u s1 ⟨v, H1, I1, r1, q1⟩ => ?_)
  obtain ⟨rfl, rfl⟩ := q1
  cases r1
  have given := args.run pos pins s1 σ _ _ I1 run
  exact PySem.W.callWith_K (h₀ := X.base) I.ok.mod.kin kept (thn given fun us s2 ⟨vs, H2, I2, r, q⟩ => ⟨I2.kIn, run_fnS (E := WE W) F room bd (passAt tk σ) I2 r q⟩) (star_of hp) (back_of hps)
theorem s_callV {G : Ctx} {X : Cx} {W : WX} {N : List Str} {sc : Scope} (xk : XOkE G X W N sc) {md i : Nat} {fs : List (Nat × Mir)} {es : List E} {e : Expr} (h : chk N sc md (.callV i fs es) e = true) (rf : ∀ p ∈ fs, RefOk G X (.hd p.1 p.2)) (ih : ∀ xs, chkL N sc es xs = true → PA X xs (tA G W es)) : PE X e (tE G W (.callV i fs es)) := by
  simp only [chk] at h
  split at h
  · rename_i x p as cp
    simp only [Bool.and_eq_true, decide_eq_true_eq, Bool.not_eq_true', nmOk] at h
    obtain ⟨⟨⟨⟨h1, h2⟩, h3⟩, h4⟩, h5⟩ := h
    obtain ⟨y, ys, rfl, hp, hps⟩ := cons_of h4 h5
    refine PE.pick fun σ H Q ⟨H0, Hs0, Hs, ρ, r, sr, ee, po⟩ => ?_
    simp only [ev] at ee
    split at ee
    · rename_i n hn
      split at ee
      · rename_i m hm
        obtain ⟨k, f, fd, ps, F, hr, hg, hk, hb⟩ := rf (n, m) (lookup_mem hm)
        refine ⟨_, pe_held F hr (by rw [xk.hN]; exact h1) (xk.vis h2) hk hb xk.tk (ih _ h5) h3 hp hps, ?_, ?_⟩
        · obtain ⟨v, e1, e2⟩ := sr.cell i _ hn
          simp only [Rep] at e2
          rw [e1, e2, hg]
        · exact args_run sr ee po.er fun cs vs H1 Hs1 st ra sr1 e1 => call_post po st sr1.ro sr1.tt ra e1
      · cases ee
    · cases ee
  · cases h
end
end VS

set_option Elab.async false
set_option linter.all false
set_option autoImplicit false
set_option maxRecDepth 100000
set_option maxHeartbeats 4000000
/-! VS: what is walked, comprehensions; all expressions. -/
namespace VS
open PySem L2
/-- what an iterator gives -/
structure WalkD (G : Ctx) (H0 Hs : Hp) (J : It) (ds : List D) : Prop where
  go : ∀ i H, i < ds.length → Same Hs H → Same H0 H → J.go i H
  stop : ∀ H, Same Hs H → Same H0 H → J.stop ds.length H
  yld : ∀ i H x H' Hs2, i < ds.length → Same Hs Hs2 → Same Hs2 H → Same H0 H → J.yld i H x H' → ∃ Hs3 d, ds[i]? = some d ∧ Stp G.tabs H Hs2 H' Hs3 ∧ Rep G Hs3 d x
def PostI (G : Ctx) (W : WX) (H0 : Hp) (σ : St) (H Hs : Hp) (R : It → Hp → Prop) : Except Nat (List D) → Prop
  | .ok ds => ∀ J H1 Hs1, Stp G.tabs H Hs H1 Hs1 → WalkD G H0 Hs1 J ds → R J H1
  | .error k => ErP G W σ H Hs k
def tI (G : Ctx) (W : WX) (it : E) : TI := fun σ H R => ∃ H0 Hs0 Hs ρ r, SR G H0 Hs0 σ H Hs ρ ∧ (ev it ρ).bind seqC = some r ∧ PostI G W H0 σ H Hs R r
section
variable {G : Ctx} {X : Cx} {W : WX} {N : List Str} {sc : Scope}
theorem PostI.er {H0 H Hs : Hp} {σ : St} {R : It → Hp → Prop} {r : Except Nat (List D)} (p : PostI G W H0 σ H Hs R r) : ∀ k, r = .error k → ErP G W σ H Hs k := fun k e => by subst e; exact p
theorem walk_lst {H0 Hs : Hp} {a : Addr} {ds : List D} {vs : List V} (hb : ∀ H, Same Hs H → Same H0 H → SqL X.K H a vs) (r : RepL G Hs ds vs) : WalkD G H0 Hs (Itl X.K a) ds := by
  have w : Walk (Itl X.K a) vs.length (fun H => SqL X.K H a vs) (YAt vs) := walk_list
  refine ⟨fun i H hi s s0 => w.goes i H (by rw [← r.length]; exact hi) (hb H s s0), fun H s s0 => by rw [r.length]; exact w.stops H (hb H s s0), fun i H x H' Hs2 hi s s2 s0 y => ?_⟩
  obtain ⟨rfl, hx⟩ := w.yields i H x H' (by rw [← r.length]; exact hi) (hb H (s.trans s2) s0) y
  obtain ⟨d, h1, h2⟩ := r.getV hx
  exact ⟨Hs2, d, h1, Stp.refl s2, Rep.mono s _ _ h2⟩
theorem walk_tp {H0 Hs : Hp} {a : Addr} {ds : List D} {vs : List V} (hb : ∀ H, Same Hs H → Same H0 H → SqT X.K H a vs) (r : RepL G Hs ds vs) : WalkD G H0 Hs (Itt X.K a) ds := by
  have w : Walk (Itt X.K a) vs.length (fun H => SqT X.K H a vs) (YAt vs) := walk_tup
  refine ⟨fun i H hi s s0 => w.goes i H (by rw [← r.length]; exact hi) (hb H s s0), fun H s s0 => by rw [r.length]; exact w.stops H (hb H s s0), fun i H x H' Hs2 hi s s2 s0 y => ?_⟩
  obtain ⟨rfl, hx⟩ := w.yields i H x H' (by rw [← r.length]; exact hi) (hb H (s.trans s2) s0) y
  obtain ⟨d, h1, h2⟩ := r.getV hx
  exact ⟨Hs2, d, h1, Stp.refl s2, Rep.mono s _ _ h2⟩
theorem walk_rg {H0 Hs : Hp} {lo : Int} {n : Nat} : WalkD G H0 Hs (Itr lo n) ((List.range n).map fun i => .int (lo + (i : Nat))) := by
  refine ⟨fun i H hi _ _ => by show i < n; simpa using hi, fun H _ _ => by simp [Itr], fun i H x H' Hs2 hi s s2 s0 y => ?_⟩
  obtain ⟨rfl, rfl⟩ := y
  have hi' : i < n := by simpa using hi
  exact ⟨Hs2, _, by simp [hi']; rfl, Stp.refl s2, by simp [Rep]⟩
theorem walk_rgc {H0 Hs : Hp} {lo c : Int} {n : Nat} : WalkD G H0 Hs (Itc lo c n) (rngC lo c n) := by
  unfold rngC
  refine ⟨fun i H hi _ _ => by show i < n; simpa using hi, fun H _ _ => by simp [Itc], fun i H x H' Hs2 hi s s2 s0 y => ?_⟩
  obtain ⟨rfl, rfl⟩ := y
  have hi' : i < n := by simpa using hi
  exact ⟨Hs2, _, by simp [hi']; rfl, Stp.refl s2, by simp [Rep]⟩
theorem enum_at {ds : List D} {i : Nat} {d : D} (h : ds[i]? = some d) : (enumD ds)[i]? = some (.tup [.int (i : Nat), d]) := by
  unfold enumD
  rw [List.getElem?_mapIdx, h]; rfl
theorem pair_new {H Hs2 : Hp} {T : Addr} {o : Obj} {x : V} {d e : D} {y : V} (s2 : Same Hs2 H) (hT : H T = none) (ho : o.dict = none) (rd : Rep G Hs2 d x) (re : Rep G Hs2 e y) :
    ∃ Hs3, Stp G.tabs H Hs2 (upd H T (.frz o (.tup [x, y]))) Hs3 ∧ Rep G Hs3 (.tup [d, e]) (.ref T) := by
  have st := Stp.sh (T := G.tabs) (o := .frz o (.tup [x, y])) s2 hT
  refine ⟨_, st, ?_⟩
  simp only [Rep]
  exact ⟨T, _, rfl, ⟨o, upd_same, ho⟩, RepL.cons (Rep.mono st.b _ _ rd) (RepL.cons (Rep.mono st.b _ _ re) RepL.nil)⟩
theorem walk_en {H0 Hs : Hp} {a : Addr} {ds : List D} {vs : List V} (hb : ∀ H, Same Hs H → Same H0 H → SqL X.K H a vs) (r : RepL G Hs ds vs) : WalkD G H0 Hs (IteL X.K a) (enumD ds) := by
  have hl : (enumD ds).length = vs.length := by unfold enumD; rw [List.length_mapIdx]; exact r.length
  refine ⟨fun i H hi s s0 => ⟨vs, vs[i]'(by omega), hb H s s0, by simp [show i < vs.length by omega]⟩, fun H s s0 => ⟨vs, hb H s s0, by omega⟩, fun i H x H' Hs2 hi s s2 s0 y => ?_⟩
  obtain ⟨T, o, z, rfl, hT, ho, rfl, hz⟩ := y
  obtain ⟨d, h1, h2⟩ := r.getV (hz vs (hb H (s.trans s2) s0))
  obtain ⟨Hs3, st, rr⟩ := pair_new (G := G) (d := .int (i : Nat)) (x := .int (i : Nat)) s2 hT ho (by simp [Rep]) (Rep.mono s _ _ h2)
  exact ⟨Hs3, _, enum_at h1, st, rr⟩
theorem walk_enT {H0 Hs : Hp} {a : Addr} {ds : List D} {vs : List V} (hb : ∀ H, Same Hs H → Same H0 H → SqT X.K H a vs) (r : RepL G Hs ds vs) : WalkD G H0 Hs (IteT X.K a) (enumD ds) := by
  have hl : (enumD ds).length = vs.length := by unfold enumD; rw [List.length_mapIdx]; exact r.length
  refine ⟨fun i H hi s s0 => ⟨vs, vs[i]'(by omega), hb H s s0, by simp [show i < vs.length by omega]⟩, fun H s s0 => ⟨vs, hb H s s0, hl.symm⟩, fun i H x H' Hs2 hi s s2 s0 y => ?_⟩
  obtain ⟨T, o, z, rfl, hT, ho, rfl, hz⟩ := y
  obtain ⟨d, h1, h2⟩ := r.getV (hz vs (hb H (s.trans s2) s0))
  obtain ⟨Hs3, st, rr⟩ := pair_new (G := G) (d := .int (i : Nat)) (x := .int (i : Nat)) s2 hT ho (by simp [Rep]) (Rep.mono s _ _ h2)
  exact ⟨Hs3, _, enum_at h1, st, rr⟩
/-- what the source of a loop is -/
theorem seq_src {H0 H Hs H1 Hs1 : Hp} {c : C} {ds : List D} {v : V} (hK : X.K = G.K) (st : Stp G.tabs H Hs H1 Hs1) (rc : RepC G H0 H Hs H1 Hs1 c v) (e : seqC c = some (.ok ds)) :
    ∃ Hs2 a vs, v = .ref a ∧ Stp G.tabs H Hs H1 Hs2 ∧ RepL G Hs2 ds vs ∧ (((∃ xs, c.look = some (.lst xs)) ∧ SqL X.K H1 a vs ∧ ∀ H', Same Hs2 H' → Same H0 H' → SqL X.K H' a vs) ∨ ((∃ xs, c.look = some (.tup xs)) ∧ SqT X.K H1 a vs ∧ ∀ H', Same Hs2 H' → Same H0 H' → SqT X.K H' a vs)) := by
  have keep : ∀ (d : D) (Hs2 : Hp), Stp G.tabs H Hs H1 Hs2 → Rep G Hs2 d v → seqD d = some ds → c.look = some d → ∃ Hs2 a vs, v = .ref a ∧ Stp G.tabs H Hs H1 Hs2 ∧ RepL G Hs2 ds vs ∧ (((∃ xs, c.look = some (.lst xs)) ∧ SqL X.K H1 a vs ∧ ∀ H', Same Hs2 H' → Same H0 H' → SqL X.K H' a vs) ∨ ((∃ xs, c.look = some (.tup xs)) ∧ SqT X.K H1 a vs ∧ ∀ H', Same Hs2 H' → Same H0 H' → SqT X.K H' a vs)) := by
    intro d Hs2 st2 r e hl
    cases d <;> simp only [seqD] at e <;> first | (cases e; done) | skip
    · cases e
      simp only [Rep] at r
      obtain ⟨a, vs, rfl, h1, h2⟩ := r
      exact ⟨Hs2, a, vs, rfl, st2, h2, .inr ⟨⟨_, hl⟩, (h1.mono st2.s).sq, fun H' s _ => (h1.mono s).sq⟩⟩
    · cases e
      simp only [Rep] at r
      obtain ⟨a, vs, rfl, h1, h2⟩ := r
      exact ⟨Hs2, a, vs, rfl, st2, h2, .inl ⟨⟨_, hl⟩, SqL.of (st2.s _ _ h1), fun H' s _ => SqL.of (s _ _ h1)⟩⟩
  cases c with
  | un => exact rc.elim
  | lon o => cases e
  | val d =>
    obtain ⟨ds', h1, h2⟩ := lift_cases e
    cases h2
    exact keep d Hs1 st rc h1 rfl
  | own o =>
    obtain ⟨ds', h1, h2⟩ := lift_cases e
    cases h2
    obtain ⟨Hs2, st2, _, rr⟩ := rc.kept (d := o.frz) st rfl
    exact keep _ Hs2 st2 rr h1 rfl
  | bor o =>
    obtain ⟨ds', h1, h2⟩ := lift_cases e
    cases h2
    obtain ⟨rc, s0⟩ := rc
    cases o <;> simp only [O.frz, seqD] at h1 <;> first | (cases h1; done) | skip
    cases h1
    obtain ⟨a, vs, rfl, h3, h4⟩ := rc
    exact ⟨Hs1, a, vs, rfl, st, h4, .inl ⟨⟨_, rfl⟩, by rw [hK]; exact s0.seq h3, fun H' _ s => by rw [hK]; exact s.seq h3⟩⟩
theorem i_val (xk : XOkE G X W N sc) {a : E} {tg e : Expr} (ha : PE X e (tE G W a)) : PI X tg e (tI G W a) := by
  refine PI.pick fun σ H R ⟨H0, Hs0, Hs, ρ, r, sr, ee, po⟩ => ?_
  rcases bind_cases ee with ⟨k, h1, h2⟩ | ⟨c, h1, h2⟩
  · subst h2
    exact ⟨_, pi_list ha, H0, Hs0, Hs, ρ, _, sr, h1, po⟩
  · have hr : ∃ ds, r = .ok ds := by
      cases c <;> simp only [seqC] at h2 <;> first | (cases h2; done) | (obtain ⟨ds, _, h⟩ := lift_cases h2; exact ⟨ds, h⟩)
    obtain ⟨ds, rfl⟩ := hr
    by_cases hc : ∃ xs, c.look = some (.tup xs)
    · refine ⟨_, pi_tup ha, H0, Hs0, Hs, ρ, _, sr, h1, fun v H1 Hs1 st rc => ?_⟩
      obtain ⟨Hs2, b, vs, rfl, st2, rl, ⟨⟨xs, z⟩, _⟩ | ⟨_, h3, h4⟩⟩ := seq_src xk.K st rc h2
      · obtain ⟨ys, z2⟩ := hc
        rw [z2] at z; cases z
      · exact ⟨b, rfl, ⟨vs, h3⟩, po _ H1 Hs2 st2 (walk_tp h4 rl)⟩
    · refine ⟨_, pi_list ha, H0, Hs0, Hs, ρ, _, sr, h1, fun v H1 Hs1 st rc => ?_⟩
      obtain ⟨Hs2, b, vs, rfl, st2, rl, ⟨_, h3, h4⟩ | ⟨z, _⟩⟩ := seq_src xk.K st rc h2
      · exact ⟨b, rfl, ⟨vs, h3⟩, po _ H1 Hs2 st2 (walk_lst h4 rl)⟩
      · exact (hc z).elim
theorem tupTgt {N' : List Str} {sc' : Scope} {cb : Bool} {t : Tgt} {tg : Expr} (h : tgtIs N' sc' cb t tg = true) (h2 : isTupTgt t = true) : ∃ es k p, tg = .Tuple es k p := by
  cases t with
  | one i => cases h2
  | tup is =>
    simp only [tgtIs] at h
    split at h
    · exact ⟨_, _, _, rfl⟩
    · cases h
theorem i_enum (xk : XOkE G X W N sc) {a : E} {md : Nat} {es : List Expr} {kk : Nat} {tp : Pos} {e : Expr} (h : chk N sc md (.iEnum a) e = true) (iha : ∀ x, chk N sc 0 a x = true → PE X x (tE G W a)) : PI X (.Tuple es kk tp) e (tI G W (.iEnum a)) := by
  simp only [chk] at h
  split at h
  · rename_i x p y cp
    simp only [Bool.and_eq_true, decide_eq_true_eq] at h
    obtain ⟨⟨⟨h0, rfl⟩, h2⟩, h3⟩ := h
    obtain ⟨g1, g2⟩ := xk.glo h2
    have hm := xk.nb "enumerate" (by decide +kernel)
    have pl := plain_of_chk h3
    have hs : starEach [y] X.env = [(false, eval y X.env)] := by rw [star_of pl]; rfl
    have pa : PA X [y] (tCons (tE G W a) tNil) := pa_cons (iha y h3) pa_nil (star_of pl)
    refine PI.pick fun σ H R ⟨H0, Hs0, Hs, ρ, r, sr, ee, po⟩ => ?_
    simp only [ev] at ee
    rcases bind_cases ee with ⟨k, h4, h5⟩ | ⟨c0, h4, h5⟩
    · subst h5
      rcases bind_cases h4 with ⟨k', h6, h7⟩ | ⟨xs, h6, h7⟩
      · cases h7
        rcases bind_cases h6 with ⟨k2, h8, h9⟩ | ⟨c, h8, h9⟩
        · cases h9
          exact ⟨_, pi_enumL g1 hm pa hs, H0, Hs0, Hs, ρ, _, sr, h8, po⟩
        · cases c <;> simp only [seqC] at h9 <;> first | (cases h9; done) | (obtain ⟨_, _, h10⟩ := lift_cases h9; cases h10)
      · cases h7
    · rcases bind_cases h4 with ⟨k', h6, h7⟩ | ⟨xs, h6, h7⟩
      · cases h7
      · cases h7
        simp only [seqC, O.frz, seqD, lift_some, Option.some.injEq] at h5
        cases h5
        rcases bind_cases h6 with ⟨k2, h8, h9⟩ | ⟨c, h8, h9⟩
        · cases h9
        · by_cases hc : ∃ ys, c.look = some (.tup ys)
          · refine ⟨_, pi_enumT g1 hm pa hs, H0, Hs0, Hs, ρ, _, sr, h8, fun v H1 Hs1 st rc => ?_⟩
            obtain ⟨Hs2, b, vs, rfl, st2, rl, ⟨⟨ys, z⟩, _⟩ | ⟨_, h10, h11⟩⟩ := seq_src xk.K st rc h9
            · obtain ⟨zs, z2⟩ := hc
              rw [z2] at z; cases z
            · exact ⟨b, vs, rfl, h10, po _ H1 Hs2 st2 (walk_enT h11 rl)⟩
          · refine ⟨_, pi_enumL g1 hm pa hs, H0, Hs0, Hs, ρ, _, sr, h8, fun v H1 Hs1 st rc => ?_⟩
            obtain ⟨Hs2, b, vs, rfl, st2, rl, ⟨_, h10, h11⟩ | ⟨z, _⟩⟩ := seq_src xk.K st rc h9
            · exact ⟨b, vs, rfl, h10, po _ H1 Hs2 st2 (walk_en h11 rl)⟩
            · exact (hc z).elim
  · cases h
theorem i_zip (xk : XOkE G X W N sc) {a b : E} {md : Nat} {es : List Expr} {kk : Nat} {tp : Pos} {e : Expr} (h : chk N sc md (.iZip a b) e = true) (iha : ∀ x, chk N sc 0 a x = true → PE X x (tE G W a)) (ihb : ∀ x, chk N sc 0 b x = true → PE X x (tE G W b)) : PI X (.Tuple es kk tp) e (tI G W (.iZip a b)) := by
  simp only [chk] at h
  split at h
  · rename_i x p y z cp
    simp only [Bool.and_eq_true, decide_eq_true_eq] at h
    obtain ⟨⟨⟨⟨h0, rfl⟩, h2⟩, h3⟩, h4⟩ := h
    obtain ⟨g1, g2⟩ := xk.glo h2
    have hm := xk.nb "zip" (by decide +kernel)
    have p3 := plain_of_chk h3
    have p4 := plain_of_chk h4
    refine (pi_zip g1 hm (pa_cons (iha y h3) (pa_cons (ihb z h4) pa_nil (star_of p4)) (star_of p3)) (star_of p3) (back_of (by simp [p4]))).imp fun σ H R ⟨H0, Hs0, Hs, ρ, r, sr, ee, po⟩ => ?_
    simp only [ev] at ee
    cases ee
  · cases h
theorem i_rev (xk : XOkE G X W N sc) {b : E} {md : Nat} {tg e : Expr} (h : chk N sc md (.iRevR b) e = true) (ihb : ∀ x, chk N sc 0 b x = true → PE X x (tE G W b)) : PI X tg e (tI G W (.iRevR b)) := by
  simp only [chk] at h
  split at h
  · rename_i x p1 y p2 u p3 p4
    simp only [Bool.and_eq_true, decide_eq_true_eq] at h
    obtain ⟨⟨⟨⟨⟨h0, rfl⟩, rfl⟩, h3⟩, h4⟩, h5⟩ := h
    obtain ⟨g1, g2⟩ := xk.glo h3
    obtain ⟨g3, g4⟩ := xk.glo h4
    have pr := prg_1 (pos := p3) (p := p2) g3 (xk.nb _ (by decide +kernel)) (ihb _ h5) (star_of (plain_of_chk h5))
    refine (pi_revR g1 (xk.nb _ (by decide +kernel)) pr (star_of rfl)).imp fun σ H R ⟨H0, Hs0, Hs, ρ, r, sr, ee, po⟩ => ?_
    simp only [ev] at ee
    rcases bind_cases ee with ⟨k, h6, h7⟩ | ⟨c0, h6, h7⟩
    · subst h7
      refine look_run sr h6 (fun k' z => by cases z; exact po) fun d v H1 Hs1 st rv sr1 e1 => ?_
      split at e1
      · split at e1 <;> cases e1
      · cases e1
    · refine look_run sr h6 (fun k' z => by cases z) fun d v H1 Hs1 st rv sr1 e1 => ?_
      split at e1
      · split at e1
        · rename_i i hb
          cases e1
          simp only [seqC, O.frz, seqD, lift_some, Option.some.injEq] at h7
          cases h7
          refine ⟨_, rd_int rv, by decide, by decide, (bnd_of hb).1, (bnd_of hb).2, ?_⟩
          refine po _ H1 Hs1 st ?_
          by_cases hi : 0 ≤ i
          · have e3 : (0 : Int) + (((i - 0).toNat : Nat) : Int) - 1 = i - 1 := by omega
            have e4 : (i - 0).toNat = i.toNat := by omega
            rw [e3, e4]
            exact walk_rgc
          · have e5 : (i - 0).toNat = 0 := by omega
            have e6 : i.toNat = 0 := by omega
            rw [e5, e6]
            have w := walk_rgc (G := G) (H0 := H0) (Hs := Hs1) (lo := (0 : Int) + ((0 : Nat) : Int) - 1) (c := -1) (n := 0)
            exact w
        · cases e1
      · cases e1
  · cases h
theorem walk_str {H0 Hs : Hp} {z : Str} : WalkD G H0 Hs (Its z) (z.cps.toList.map fun c => .str ⟨#[c]⟩) := by
  have hl : (z.cps.toList.map fun c => (D.str ⟨#[c]⟩)).length = z.cps.size := by simp
  refine ⟨fun i H hi _ _ => by show i < z.cps.size; omega, fun H _ _ => by show z.cps.size ≤ _; omega, fun i H x H' Hs2 hi s s2 s0 y => ?_⟩
  obtain ⟨rfl, c, hc, rfl⟩ := y
  refine ⟨Hs2, .str ⟨#[c]⟩, ?_, Stp.refl s2, by simp [Rep]⟩
  rw [List.getElem?_map, Array.getElem?_toList, hc]
  rfl
theorem i_str (xk : XOkE G X W N sc) {b : E} {md : Nat} {tg e : Expr} (h : chk N sc md (.iStr b) e = true) (ihb : ∀ x, chk N sc 0 b x = true → PE X x (tE G W b)) : PI X tg e (tI G W (.iStr b)) := by
  simp only [chk] at h
  split at h
  · rename_i x p
    simp only [Bool.and_eq_true, decide_eq_true_eq] at h
    refine (pi_str (ihb _ h.2)).imp fun σ H R ⟨H0, Hs0, Hs, ρ, r, sr, ee, po⟩ => ?_
    simp only [ev] at ee
    rcases bind_cases ee with ⟨k, h6, h7⟩ | ⟨c0, h6, h7⟩
    · subst h7
      refine look_run sr h6 (fun k' z => by cases z; exact po) fun d v H1 Hs1 st rv sr1 e1 => ?_
      split at e1 <;> cases e1
    · refine look_run sr h6 (fun k' z => by cases z) fun d v H1 Hs1 st rv sr1 e1 => ?_
      split at e1
      · cases e1
        simp only [seqC, O.frz, seqD, lift_some, Option.some.injEq] at h7
        cases h7
        exact ⟨_, rd_str rv, po _ H1 Hs1 st walk_str⟩
      · cases e1
  · cases h
theorem evs_len : ∀ {es : List E} {ρ : List C} {cs : List C}, evs es ρ = some (.ok cs) → cs.length = es.length
  | [], ρ, cs, h => by simp only [evs] at h; cases h; rfl
  | e :: es, ρ, cs, h => by
    simp only [evs] at h
    rcases bind_cases h with ⟨k, h1, h2⟩ | ⟨c, h1, h2⟩
    · cases h2
    · rcases bind_cases h2 with ⟨k, h3, h4⟩ | ⟨c1, h3, h4⟩
      · cases h4
      · rcases bind_cases h4 with ⟨k, h5, h6⟩ | ⟨c2, h5, h6⟩
        · cases h6
        · cases h6
          simp only [List.length_cons, evs_len h5]
theorem lookAll_len : ∀ {cs : List C} {ds : List D}, lookAll cs = some ds → ds.length = cs.length
  | [], ds, h => by simp only [lookAll, Option.some.injEq] at h; subst h; rfl
  | c :: cs, ds, h => by
    simp only [lookAll] at h
    split at h
    · rename_i d ds' e1 e2
      cases h
      simp only [List.length_cons, lookAll_len e2]
    · cases h
theorem chkL_len {N : List Str} {sc : Scope} : ∀ {Es : List E} {es : List Expr}, chkL N sc Es es = true → Es.length = es.length
  | [], [], _ => rfl
  | [], _ :: _, h => by simp [chkL] at h
  | _ :: _, [], h => by simp [chkL] at h
  | a :: as, e :: es, h => by
    simp only [chkL, Bool.and_eq_true] at h
    simp only [List.length_cons, chkL_len h.2]
theorem args_run2 {G : Ctx} {W : WX} {H0 Hs0 H Hs : Hp} {σ : St} {ρ : List C} {β : Type} {es : List E} {f : List C → M β} {r : Except Nat β} {Q : List V → Hp → Prop} (sr : SR G H0 Hs0 σ H Hs ρ) (h : (evs es ρ).bind f = some r)
    (er : ∀ k, r = .error k → ErP G W σ H Hs k)
    (ok : ∀ cs vs H1 Hs1, evs es ρ = some (.ok cs) → Stp G.tabs H Hs H1 Hs1 → ArgsR G H1 Hs1 cs vs → SR G H0 Hs0 σ H1 Hs1 ρ → f cs = some r → Q vs H1) : tA G W es σ H Q := by
  rcases bind_cases h with ⟨k, h1, h2⟩ | ⟨cs, h1, h2⟩
  · exact ⟨H0, Hs0, Hs, ρ, _, sr, h1, er k h2⟩
  · exact ⟨H0, Hs0, Hs, ρ, _, sr, h1, fun vs H' Hs' st ra => ok cs vs H' Hs' h1 st ra (sr.step st) h2⟩
theorem i_rng (xk : XOkE G X W N sc) {es : List E} {md : Nat} {tg e : Expr} (h : chk N sc md (.iRng es) e = true) (ih : ∀ xs, chkL N sc es xs = true → PA X xs (tA G W es)) : PI X tg e (tI G W (.iRng es)) := by
  simp only [chk] at h
  split at h
  · rename_i x p as cp
    simp only [Bool.and_eq_true, decide_eq_true_eq] at h
    obtain ⟨⟨⟨⟨h0, rfl⟩, h2⟩, hn1, hn3⟩, h4⟩ := h
    obtain ⟨g1, g2⟩ := xk.glo h2
    have hm := xk.nb "range" (by decide +kernel)
    have hps := plains_of_chk h4
    -- from the arguments' values
    have run : ∀ {σ : St} {H : Hp} {R : It → Hp → Prop} {Q : List V → Hp → Prop}, tI G W (.iRng es) σ H R → (∀ ds xs vs H1 Hs1 H0, Same Hs1 H1 → RdL G H1 Hs1 ds vs → ds.length = es.length → rngArgs ds = some xs → (∀ J, WalkD G H0 Hs1 J xs → R J H1) → Q vs H1) → tA G W es σ H Q := by
      rintro σ H R Q ⟨H0, Hs0, Hs, ρ, r, sr, ee, po⟩ k
      simp only [ev] at ee
      rcases bind_cases ee with ⟨k', h6, h7⟩ | ⟨c0, h6, h7⟩
      · subst h7
        refine args_run sr h6 (fun k2 z => by cases z; exact po) fun cs vs H1 Hs1 st ra sr1 e1 => ?_
        rcases bind_cases e1 with ⟨k3, h8, h9⟩ | ⟨ds, h8, h9⟩
        · obtain ⟨_, _, h10⟩ := lift_cases h8; cases h10
        · rcases bind_cases h9 with ⟨k3, h10, h11⟩ | ⟨xs, h10, h11⟩
          · obtain ⟨_, _, h12⟩ := lift_cases h10; cases h12
          · cases h11
      · have hl : ∀ cs, evs es ρ = some (.ok cs) → cs.length = es.length := fun cs z => evs_len z
        rcases bind_cases h6 with ⟨k9, z1, z2⟩ | ⟨cs0, hev, _⟩
        · cases z2
        refine args_run2 sr h6 (fun k2 z => by cases z) fun cs vs H1 Hs1 hev2 st ra sr1 e1 => ?_
        have hcl := hl cs hev2
        rcases bind_cases e1 with ⟨k3, h8, h9⟩ | ⟨ds, h8, h9⟩
        · obtain ⟨_, _, h10⟩ := lift_cases h8; cases h10
        · obtain ⟨ds', h10, h11⟩ := lift_cases h8
          cases h11
          rcases bind_cases h9 with ⟨k3, h12, h13⟩ | ⟨xs, h12, h13⟩
          · obtain ⟨_, _, h14⟩ := lift_cases h12; cases h14
          · obtain ⟨xs', h14, h15⟩ := lift_cases h12
            cases h15
            cases h13
            simp only [seqC, O.frz, seqD, lift_some, Option.some.injEq] at h7
            cases h7
            exact k ds xs vs H1 Hs1 H0 sr1.sh (ra.look sr1.sh h10) ((lookAll_len h10).trans hcl) h14 fun J w => po J H1 Hs1 st w
    have rd1 : ∀ {H Hs : Hp} {ds : List D} {vs : List V} {d : D}, RdL G H Hs (d :: ds) vs → ∃ v ws, vs = v :: ws ∧ RdW G H Hs d v ∧ RdL G H Hs ds ws := fun r => r
    have rd0 : ∀ {H Hs : Hp} {vs : List V}, RdL G H Hs [] vs → vs = [] := fun r => r
    cases as with
    | nil => simp at hn1
    | cons x1 as =>
      cases as with
      | nil =>
        simp only [List.all_cons, Bool.and_eq_true] at hps
        refine (pi_range1 g1 hm (ih _ h4) (by rw [star_of hps.1]; rfl)).imp fun σ H R q => run q fun ds xs vs H1 Hs1 H0 s1 rd hl e1 k => ?_
        have hl1 : ds.length = 1 := hl.trans (chkL_len h4)
        match ds, hl1 with
        | [d], _ =>
          obtain ⟨v, ws, rfl, r1, r2⟩ := rd
          cases (show ws = [] from r2)
          cases d <;> simp only [rngArgs] at e1 <;> first | (cases e1; done) | skip
          rename_i b _
          split at e1
          · rename_i hb
            cases e1
            have hb := bnd_of hb
            rw [rd_int r1]
            refine ⟨b, rfl, hb.1, hb.2, k _ ?_⟩
            have w := walk_rg (G := G) (H0 := H0) (Hs := Hs1) (lo := 0) (n := b.toNat)
            unfold rngD
            rw [Int.sub_zero]; exact w
          · cases e1
      | cons x2 as =>
        cases as with
        | nil =>
          simp only [List.all_cons, Bool.and_eq_true] at hps
          refine (pi_range2 g1 hm (ih _ h4) (by rw [star_of hps.1, star_of hps.2.1]; rfl) (by rw [star_of hps.2.1]; rfl)).imp fun σ H R q => run q fun ds xs vs H1 Hs1 H0 s1 rd hl e1 k => ?_
          have hl1 : ds.length = 2 := hl.trans (chkL_len h4)
          match ds, hl1 with
          | [d, d2], _ =>
            obtain ⟨v, ws, rfl, r1, v2, ws2, rfl, r2, r3⟩ := rd
            cases (show ws2 = [] from r3)
            cases d <;> cases d2 <;> simp only [rngArgs] at e1 <;> first | (cases e1; done) | skip
            rename_i a b _
            split at e1
            · rename_i hb
              cases e1
              simp only [Bool.and_eq_true] at hb
              have ha := bnd_of hb.1
              have hb := bnd_of hb.2
              rw [rd_int r1, rd_int r2]
              exact ⟨a, b, rfl, ⟨ha.1, ha.2, hb.1, hb.2⟩, k _ walk_rg⟩
            · cases e1
        | cons x3 as =>
          cases as with
          | nil =>
            simp only [List.all_cons, Bool.and_eq_true] at hps
            refine (pi_range3 g1 hm (ih _ h4) (star_of hps.1) (back_of (by simp [hps.2.1, hps.2.2.1]))).imp fun σ H R q => run q fun ds xs vs H1 Hs1 H0 s1 rd hl e1 k => ?_
            have hl1 : ds.length = 3 := hl.trans (chkL_len h4)
            match ds, hl1 with
            | [d, d2, d3], _ =>
              obtain ⟨v, ws, rfl, r1, v2, ws2, rfl, r2, v3, ws3, rfl, r3, r4⟩ := rd
              cases (show ws3 = [] from r4)
              cases d <;> cases d2 <;> cases d3 <;> simp only [rngArgs] at e1 <;> first | (cases e1; done) | skip
              rename_i a b c _
              split at e1
              · rename_i hb
                cases e1
                rw [rd_int r1, rd_int r2, rd_int r3]
                exact ⟨a, b, c, _, rfl, ⟨hb.1, hb.2.1, hb.2.2.1, (Int.toNat_of_nonneg hb.2.2.2).symm⟩, k _ walk_rgc⟩
              · cases e1
          | cons x4 as => simp at hn3
  · cases h
end
end VS

set_option Elab.async false
set_option linter.all false
set_option autoImplicit false
set_option maxRecDepth 100000
set_option maxHeartbeats 4000000
/-! VS: targets, comprehensions. -/
namespace VS
open PySem L2
/-! ### targets -/
def gL : List Nat → TGs
  | [] => gNil
  | i :: is => gCons (gName i) (gL is)
def gOf (K : PySem.W.Frag) : Tgt → TG
  | .one i => gName i
  | .tup is => fun v σ H Q => gTup K is.length (gL is) v σ H Q ∨ gUnl K is.length (gL is) v σ H Q
section
variable {G : Ctx} {X : Cx} {W : WX} {N : List Str} {sc : Scope}
theorem nm_kind {c : Bool} {i : Nat} {x : Str} {p : Pos} (h : nmAt N sc c i (.Name x p) = true) : N[i]? = some x ∧ (sc.names.lookup x = some .local ∨ (c = true ∧ sc.names.lookup x = some .cell)) := by
  simp only [nmAt, Bool.and_eq_true, Bool.or_eq_true, decide_eq_true_eq] at h
  refine ⟨h.1, ?_⟩
  rcases h.2 with h | h
  · left
    unfold loc at h
    split at h
    · assumption
    · cases h
  · right
    refine ⟨h.1, ?_⟩
    have := h.2
    unfold cel at this
    split at this
    · assumption
    · cases this
theorem nm_name {c : Bool} {i : Nat} {e : Expr} (h : nmAt N sc c i e = true) : ∃ x p, e = .Name x p := by
  unfold nmAt at h
  split at h
  · exact ⟨_, _, rfl⟩
  · cases h
theorem pg_nm {c : Bool} (hf : c = true → ∀ x, X.fn x = true) (hN : X.N = N) (hs : X.env.scope = sc) (nd : X.N.Nodup) {i : Nat} {e : Expr} (h : nmAt N sc c i e = true) : PG X e (gName i) := by
  obtain ⟨x, p, rfl⟩ := nm_name h
  obtain ⟨h1, h2⟩ := nm_kind h
  rcases h2 with h2 | ⟨hc, h2⟩
  · exact pg_name nd (by rw [hN]; exact h1) (.inl (by rw [hs]; exact h2)) (.inr (by rw [hs]; exact h2))
  · exact pg_name nd (by rw [hN]; exact h1) (.inr (by rw [hs]; exact h2)) (.inl (hf hc x))
theorem nms_each {c : Bool} (env : Env) : ∀ {is : List Nat} {es : List Expr}, nmsAt N sc c is es = true → (assignEach es env).length = is.length ∧ (assignEach es env).findIdx? (·.1) = none
  | [], [], _ => ⟨rfl, rfl⟩
  | [], _ :: _, h => by simp [nmsAt] at h
  | _ :: _, [], h => by simp [nmsAt] at h
  | i :: is, e :: es, h => by
    simp only [nmsAt, Bool.and_eq_true] at h
    obtain ⟨x, p, rfl⟩ := nm_name h.1
    obtain ⟨h1, h2⟩ := nms_each env h.2
    have e1 : assignEach (.Name x p :: es) env = (false, assign (.Name x p) env) :: assignEach es env := rfl
    rw [e1]
    refine ⟨by simp [h1], ?_⟩
    rw [List.findIdx?_cons]
    simp [h2]
theorem pgs_nms {c : Bool} (hf : c = true → ∀ x, X.fn x = true) (hN : X.N = N) (hs : X.env.scope = sc) (nd : X.N.Nodup) : ∀ {is : List Nat} {es : List Expr}, nmsAt N sc c is es = true → PGs X es (gL is)
  | [], [], _ => pgs_nil
  | [], _ :: _, h => by simp [nmsAt] at h
  | _ :: _, [], h => by simp [nmsAt] at h
  | i :: is, e :: es, h => by
    simp only [nmsAt, Bool.and_eq_true] at h
    have h1 := pg_nm hf hN hs nd h.1
    obtain ⟨x, p, rfl⟩ := nm_name h.1
    exact pgs_cons h1 (pgs_nms hf hN hs nd h.2) rfl
theorem pg_tgt {c : Bool} (hf : c = true → ∀ x, X.fn x = true) (hc : X.calm = true) (hN : X.N = N) (hs : X.env.scope = sc) (nd : X.N.Nodup) {t : Tgt} {tg : Expr} (h : tgtIs N sc c t tg = true) : PG X tg (gOf X.K t) := by
  cases t with
  | one i => exact pg_nm hf hN hs nd h
  | tup is =>
    simp only [tgtIs] at h
    split at h
    · rename_i es k p
      simp only [Bool.and_eq_true] at h
      obtain ⟨h1, h2⟩ := nms_each X.env h.1.1
      refine ⟨fun pins s σ H v u Q I r hw => ?_⟩
      rcases hw with hw | hw
      · exact (pg_tup hc (pgs_nms hf hN hs nd h.1.1) h1 h2).run pins s σ H v u Q I r hw
      · exact (pg_unl hc (pgs_nms hf hN hs nd h.1.1) h1 h2).run pins s σ H v u Q I r hw
    · cases h
theorem wipe_get (σ : St) (j : Nat) : ∀ vs : List Nat, (wipe σ vs)[j]? = if j ∈ vs then (σ[j]?).map (fun _ => none) else σ[j]?
  | [] => by simp [wipe]
  | v :: vs => by
    unfold wipe
    rw [List.getElem?_set, wipe_get σ j vs, wipe_length]
    by_cases hv : v = j
    · subst hv
      by_cases hl : v < σ.length
      · simp [hl]
      · simp [hl, List.getElem?_eq_none (Nat.le_of_not_lt hl)]
    · have hv' : ¬ j = v := fun e => hv e.symm
      simp [hv, hv']
theorem wipeC_length (ρ : List C) : ∀ vs : List Nat, (wipeC ρ vs).length = ρ.length
  | [] => rfl
  | v :: vs => by unfold wipeC; rw [List.length_set, wipeC_length ρ vs]
theorem wipeC_get (ρ : List C) (j : Nat) : ∀ vs : List Nat, (wipeC ρ vs)[j]? = if j ∈ vs then (ρ[j]?).map (fun _ => C.un) else ρ[j]?
  | [] => by simp [wipeC]
  | v :: vs => by
    unfold wipeC
    rw [List.getElem?_set, wipeC_get ρ j vs, wipeC_length]
    by_cases hv : v = j
    · subst hv
      by_cases hl : v < ρ.length
      · simp [hl]
      · simp [hl, List.getElem?_eq_none (Nat.le_of_not_lt hl)]
    · have hv' : ¬ j = v := fun e => hv e.symm
      simp [hv, hv']
theorem wipe_wipe {σ : St} {vs : List Nat} : wipe (wipe σ vs) vs = wipe σ vs := by
  apply List.ext_getElem?
  intro j
  rw [wipe_get, wipe_get]
  by_cases h : j ∈ vs
  · simp only [h, if_true]
    cases σ[j]? <;> rfl
  · simp [h]
theorem wipe_set {σ : St} {i : Nat} {x : Option V} {vs : List Nat} (h : i ∈ vs) : wipe (σ.set i x) vs = wipe σ vs := by
  apply List.ext_getElem?
  intro j
  rw [wipe_get, wipe_get]
  by_cases hj : j ∈ vs
  · simp only [hj, if_true, List.getElem?_set]
    by_cases hi : i = j
    · subst hi
      by_cases hl : i < σ.length
      · simp [hl]
      · simp [hl, List.getElem?_eq_none (Nat.le_of_not_lt hl)]
    · simp [hi]
  · have hi : i ≠ j := fun e => hj (e ▸ h)
    simp only [hj, if_false, List.getElem?_set_ne hi]
theorem SR.wipe {H0 Hs0 H Hs : Hp} {σ : St} {ρ : List C} (r : SR G H0 Hs0 σ H Hs ρ) (vs : List Nat) : SR G H0 Hs0 (wipe σ vs) H Hs (wipeC ρ vs) := by
  refine ⟨r.sh, r.k0, r.ks, r.fr, by rw [wipe_length, wipeC_length]; exact r.len, fun i c e => ?_, fun j k o o' x ej ek sj sk => ?_, r.tb, r.tg, r.k00, r.ro⟩
  · rw [wipeC_get] at e
    rw [wipe_get]
    by_cases hi : i ∈ vs
    · simp only [hi, if_true] at e
      cases hr : ρ[i]? with
      | none => rw [hr] at e; cases e
      | some z => rw [hr] at e; cases e; trivial
    · simp only [hi, if_false] at e ⊢
      exact r.cell i c e
  · rw [wipeC_get] at ej ek
    rw [wipe_get] at sj sk
    by_cases hj : j ∈ vs
    · simp only [hj, if_true] at sj
      cases hr : σ[j]? <;> rw [hr] at sj <;> cases sj
    · by_cases hk : k ∈ vs
      · simp only [hk, if_true] at sk
        cases hr : σ[k]? <;> rw [hr] at sk <;> cases sk
      · simp only [hj, hk, if_false] at ej ek sj sk
        exact r.sep j k o o' x ej ek sj sk
/-- a target is bound -/
theorem bindL {H0 Hs0 H Hs : Hp} {Q : St → Hp → Prop} (all : List Nat) : ∀ {is : List Nat} {ds : List D} {vs : List V} {σ : St} {ρ : List C}, SR G H0 Hs0 σ H Hs ρ → is.length = ds.length → RepL G Hs ds vs → (∀ i ∈ is, i ∈ all) →
    (∀ σ', SR G H0 Hs0 σ' H Hs ((is.zip ds).foldl (fun r p => r.set p.1 (C.val p.2)) ρ) → wipe σ' all = wipe σ all → Q σ' H) → gL is vs σ H Q
  | [], [], vs, σ, ρ, sr, _, r, _, q => by
    have : vs = [] := by simpa [RepL] using r
    subst this
    exact ⟨rfl, q σ sr rfl⟩
  | [], _ :: _, _, _, _, _, h, _, _, _ => by simp at h
  | _ :: _, [], _, _, _, _, h, _, _, _ => by simp at h
  | i :: is, d :: ds, vs, σ, ρ, sr, h, r, hm, q => by
    cases vs with
    | nil => simp [RepL] at r
    | cons v vs =>
      have r2 : Rep G Hs d v ∧ RepL G Hs ds vs := by
        simp only [RepL] at r
        obtain ⟨v', ws, e, r⟩ := r
        cases e
        exact r
      refine ⟨v, vs, rfl, ?_⟩
      show gL is vs (σ.set i (some v)) H Q
      have sr2 := sr.store (c := .val d) (Stp.refl sr.sh) r2.1 rfl i
      refine bindL all sr2 (by simpa using h) r2.2 (fun j hj => hm j (List.mem_cons_of_mem _ hj)) fun σ' sr' hw => ?_
      exact q σ' sr' (hw.trans (wipe_set (hm i List.mem_cons_self)))
theorem bindT_ok (hK : X.K = G.K) {H0 Hs0 H Hs : Hp} {Q : St → Hp → Prop} {t : Tgt} {d : D} {v : V} {σ : St} {ρ ρ' : List C} (sr : SR G H0 Hs0 σ H Hs ρ) (r : Rep G Hs d v) (e : bindT t d ρ = some ρ')
    (q : ∀ σ', SR G H0 Hs0 σ' H Hs ρ' → wipe σ' t.slots = wipe σ t.slots → Q σ' H) : gOf X.K t v σ H Q := by
  cases t with
  | one i =>
    simp only [bindT, Option.some.injEq] at e
    subst e
    exact q _ (sr.store (c := .val d) (Stp.refl sr.sh) r rfl i) (wipe_set (by simp [Tgt.slots]))
  | tup is =>
    cases d <;> simp only [bindT] at e <;> first | (cases e; done) | skip
    all_goals
      rename_i ds
      split at e
      · rename_i hl
        cases e
        simp only [Rep] at r
        obtain ⟨a, vs, rfl, h1, h2⟩ := r
        first
          | exact .inl ⟨a, vs, rfl, (h1.mono sr.sh).sq, by rw [← h2.length]; exact hl.symm, bindL is sr hl h2 (fun i hi => hi) q⟩
          | exact .inr ⟨a, vs, rfl, SqL.of (sr.sh _ _ h1), by rw [← h2.length]; exact hl.symm, bindL is sr hl h2 (fun i hi => hi) q⟩
      · cases e
theorem folded_of {e : Expr} {env : Env} (h : isPlain e = true) : ∀ x, foldedSetIterable e env x = pure x := by
  intro x
  cases e <;> first | rfl | cases h

/-! ### comprehensions -/
abbrev W0 : WX := fun _ _ _ _ => False
def tC (G : Ctx) : List E → TT
  | [] => tYes
  | c :: _ => tT G W0 c
def turnD (t : Tgt) (cs : List E) (elt : E) (ρ : List C) (d : D) : M (Option D) := match bindT t d (wipeC ρ t.slots) with
  | none => none
  | some ρ' => (evCond cs ρ').bind fun b => if b then (keep1 (ev elt ρ')).bind fun y => .ok (some y) else .ok none
theorem cond_run {cs : List E} (hc : cs.length ≤ 1) {H0 Hs0 H Hs : Hp} {σ : St} {ρ : List C} (sr : SR G H0 Hs0 σ H Hs ρ) {b : Bool} (h : evCond cs ρ = some (.ok b)) {Q : Bool → Hp → Prop} (q : ∀ H' Hs', Stp G.tabs H Hs H' Hs' → Q b H') : tC G cs σ H Q := by
  cases cs with
  | nil =>
    simp only [evCond] at h
    cases h
    exact q H Hs (Stp.refl sr.sh)
  | cons c cs =>
    cases cs with
    | cons _ _ => simp at hc
    | nil =>
      simp only [evCond] at h
      rcases bind_cases h with ⟨k, h1, h2⟩ | ⟨d, h1, h2⟩
      · cases h2
      · rcases bind_cases h1 with ⟨k, h3, h4⟩ | ⟨x, h3, h4⟩
        · cases h4
        · obtain ⟨d', h5, h6⟩ := lift_cases h4
          cases h6
          cases d <;> first | (cases h2; done) | skip
          rename_i b2
          have hb : b2 = b := by
            cases b2 <;> (simp only [evCond] at h2; cases h2; rfl)
          subst hb
          exact ⟨H0, Hs0, Hs, ρ, _, sr, h3, b2, h5, q⟩
theorem lc_parts (xk : XOkE G X W N sc) {t : Tgt} {it elt : E} {cs : List E} {md : Nat} {e : Expr} (h : chk N sc md (.lc t it cs elt) e = true)
    (ihi : ∀ md tg x, 0 < md → (md = 2 → ∃ es k p, tg = .Tuple es k p) → chk N sc md it x = true → PI X tg x (tI G W it))
    (ihc : ∀ s H scope C cl fp, ∀ c ∈ cs, ∀ x, tstE c = true → chk N (relS scope sc) 0 c x = true → PT (X.blk s H scope (compEnvC scope cl C X.env) fp) x (tT G W0 c))
    (ihe : ∀ s H scope C cl fp, ∀ x, chk N (relS scope sc) 0 elt x = true → PE (X.blk s H scope (compEnvC scope cl C X.env) fp) x (tE G W0 elt)) : ∃ el tg iter ifs scope p, e = .ListComp el [⟨tg, iter, ifs, 0⟩] scope p ∧ ∃ own wi g tt te, PI X tg iter wi ∧ BlkOk X.N X.env.scope scope own ∧
      (∀ (s : Shared) (H : Hp) (C : Addr) (cl : List (Str × Addr)) (fp : List Addr), PG (X.blk s H scope (compEnvC scope cl C X.env) fp) tg g) ∧ (∀ (s : Shared) (H : Hp) (C : Addr) (cl : List (Str × Addr)) (fp : List Addr), PTs (X.blk s H scope (compEnvC scope cl C X.env) fp) ifs tt) ∧
      (∀ (s : Shared) (H : Hp) (C : Addr) (cl : List (Str × Addr)) (fp : List Addr), PE (X.blk s H scope (compEnvC scope cl C X.env) fp) el te) ∧ (∀ x, foldedSetIterable iter X.env x = pure x) ∧
      ∀ σ H Q, tE G W (.lc t it cs elt) σ H Q → tLc wi g tt te (own.map (·.2)) σ H Q := by
  simp only [chk] at h
  split at h
  · rename_i el tg iter ifs scope p
    simp only [Bool.and_eq_true, decide_eq_true_eq] at h
    obtain ⟨⟨⟨⟨⟨⟨⟨h1, h2⟩, h3⟩, h4⟩, h5⟩, h6⟩, h7⟩, h8⟩ := h
    have own2 : (t.slots.map fun i => (N.getD i "", i)).map (·.2) = t.slots := by rw [List.map_map]; simp [Function.comp_def]
    have hpl := plain_of_chk h1
    have hcl : cs.length ≤ 1 := by rw [chkL_len h5]; exact h3
    have pi : PI X tg iter (tI G W it) := ihi _ tg iter (by split <;> omega) (fun z => by
      split at z
      · rename_i ht; exact tupTgt h2 ht
      · cases z) h1
    have ok : BlkOk X.N X.env.scope scope (t.slots.map fun i => (N.getD i "", i)) := by rw [xk.hN, xk.hsc]; exact blkOk_by h7
    have hsc' : ∀ C cl, (compEnvC scope cl C X.env).scope = relS scope sc := fun C cl => by rw [← xk.hsc]; rfl
    have pts : ∀ (s : Shared) (H : Hp) (C : Addr) (cl : List (Str × Addr)) (fp : List Addr), PTs (X.blk s H scope (compEnvC scope cl C X.env) fp) ifs (tC G cs) := fun s H C cl fp => by
      cases cs with
      | nil =>
        cases ifs with
        | nil => exact pts_nil
        | cons _ _ => simp [chkL] at h5
      | cons c cs =>
        cases ifs with
        | nil => simp [chkL] at h5
        | cons x ifs =>
          cases ifs with
          | cons _ _ => simp at h3
          | nil =>
            simp only [chkL, Bool.and_eq_true] at h5
            simp only [List.all_cons, Bool.and_eq_true] at h4
            exact pts_one (ihc s H scope C cl fp c List.mem_cons_self x h4.1 h5.1)
    refine ⟨el, tg, iter, ifs, scope, p, rfl, t.slots.map fun i => (N.getD i "", i), tI G W it, gOf X.K t, tC G cs, tE G W0 elt, pi, ok, fun s H C cl fp => pg_tgt (X := X.blk s H scope (compEnvC scope cl C X.env) fp) (fun z => by cases z) xk.calm xk.hN (hsc' C cl) xk.nd h2, pts, fun s H C cl fp => ihe s H scope C cl fp el h6, folded_of hpl, fun σ H Q ⟨H0, Hs0, Hs, ρ, r, sr, ee, po⟩ => ?_⟩
    rw [own2]
    simp only [ev] at ee
    rcases bind_cases ee with ⟨k, h9, h10⟩ | ⟨ds, h9, h10⟩
    · subst h10
      exact ⟨H0, Hs0, Hs, ρ, _, sr, h9, po⟩
    · change (match collect (turnD t cs elt ρ) ds with | some (.ok ys) => if ys.length ≤ sizeLine then M.ok (C.own (O.lst ys)) else none | _ => none) = some r at h10
      split at h10
      · rename_i ys hys
        split at h10
        · rename_i hlen
          cases h10
          refine ⟨H0, Hs0, Hs, ρ, _, sr, h9, fun J H1 Hs1 st1 wk D hD => ?_⟩
          have sr1 := sr.step st1
          refine ⟨fun i m H' => i + m = ds.length ∧ ∃ Hs2 acc y1 z1, Stp G.tabs H1 Hs1 H' Hs2 ∧ Hs2 D = none ∧ H' D = some (.lst acc) ∧ RepL G Hs2 y1 acc ∧ collect (turnD t cs elt ρ) (ds.drop i) = some (.ok z1) ∧ y1 ++ z1 = ys,
            ⟨ds.length, by omega, Hs1, [], [], ys, Stp.nw sr1.sh hD, sr1.sh.free hD, upd_same, RepL.nil, by simpa using hys, rfl⟩, ?_⟩
          rintro i m H2 ⟨him, Hs2, acc, y1, z1, st2, hD2, hH2, ra, hz, hyz⟩
          have sr2 := sr1.step st2
          by_cases hi : i < ds.length
          · right
            refine ⟨wk.go i H2 hi (st2.b.trans st2.s) sr2.k0, fun H' => i + 1 + (m - 1) = ds.length ∧ ∃ Hs2 acc y1 z1, Stp G.tabs H1 Hs1 H' Hs2 ∧ Hs2 D = none ∧ H' D = some (.lst acc) ∧ RepL G Hs2 y1 acc ∧ collect (turnD t cs elt ρ) (ds.drop (i + 1)) = some (.ok z1) ∧ y1 ++ z1 = ys,
              fun H' nx => ⟨m - 1, by omega, nx⟩, fun x H3 hy => ?_⟩
            obtain ⟨Hs3, d, hd, st3, rd⟩ := wk.yld i H2 x H3 Hs2 hi st2.b st2.s sr2.k0 hy
            have hdr : ds.drop i = d :: ds.drop (i + 1) := by
              rw [List.getElem?_eq_some_iff] at hd
              obtain ⟨w, hw⟩ := hd
              rw [← hw]
              exact List.drop_eq_getElem_cons w
            rw [hdr] at hz
            simp only [collect] at hz
            rcases bind_cases hz with ⟨k, z2, z3⟩ | ⟨o, z2, z3⟩
            · cases z3
            rcases bind_cases z3 with ⟨k, z4, z5⟩ | ⟨rest, z4, z5⟩
            · cases z5
            have sr3 := (sr2.step st3).wipe t.slots
            unfold turnD at z2
            split at z2
            · cases z2
            · rename_i ρ' hb
              refine bindT_ok (X := X) xk.K sr3 rd hb fun σ' sr' hw => ⟨hw.trans wipe_wipe, ?_⟩
              rcases bind_cases z2 with ⟨k, z6, z7⟩ | ⟨b, z6, z7⟩
              · cases z7
              refine cond_run hcl sr' z6 fun H4 Hs4 st4 => ?_
              have st24 := st3.trans st4
              have fD : ∀ {Ha Hsa : Hp}, Stp G.tabs H2 Hs2 Ha Hsa → Hsa D = none ∧ Ha D = some (.lst acc) := fun {Ha Hsa} st => ⟨st.n D hD2 (by rw [hH2]; simp), st.a _ _ hH2⟩
              cases b with
              | false =>
                simp only [Bool.false_eq_true, if_false] at z7 ⊢
                cases z7
                have f4 := fD st24
                cases z5
                exact ⟨by omega, Hs4, acc, y1, rest, st2.trans st24, f4.1, f4.2, ra.mono st24.b, z4, hyz⟩
              | true =>
                simp only [if_true] at z7 ⊢
                rcases bind_cases z7 with ⟨k, z8, z9⟩ | ⟨y, z8, z9⟩
                · cases z9
                cases z9
                cases z5
                refine keep_run (r := .ok (C.val y)) (f := fun d => some (.ok (C.val d))) (sr'.step st4) (by rw [z8]; rfl) (fun k z => by cases z) fun d5 v5 H5 Hs5 st5 rv5 sr5 e5 => ?_
                cases e5
                have st25 := st24.trans st5
                have f5 := fD st25
                have hal : acc.length < sizeLine := by
                  have := ra.length
                  have h11 : (y1 ++ y :: rest).length = ys.length := by rw [hyz]
                  simp only [List.length_append, List.length_cons] at h11
                  omega
                refine ⟨acc, f5.2, hal, by omega, Hs5, acc ++ [v5], y1 ++ [y], rest, ?_, f5.1, upd_same, (ra.mono st25.b).append (RepL.cons rv5 RepL.nil), z4, by rw [List.append_assoc]; exact hyz⟩
                exact (st2.trans st25).chg hD f5.1 f5.2 lst_nt lst_nc
          · left
            have hii : i = ds.length := by omega
            subst hii
            refine ⟨wk.stop H2 (st2.b.trans st2.s) sr2.k0, ?_⟩
            rw [List.drop_length] at hz
            simp only [collect] at hz
            cases hz
            rw [List.append_nil] at hyz
            subst hyz
            exact po _ H2 Hs2 (st1.trans st2) ⟨D, _, rfl, st1.a.free hD, hD2, hH2, acc, rfl, by simpa using ra⟩
        · cases h10
      · cases h10
  · cases h
theorem s_lc (xk : XOkE G X W N sc) {t : Tgt} {it elt : E} {cs : List E} {md : Nat} {e : Expr} (h : chk N sc md (.lc t it cs elt) e = true)
    (ihi : ∀ md tg x, 0 < md → (md = 2 → ∃ es k p, tg = .Tuple es k p) → chk N sc md it x = true → PI X tg x (tI G W it))
    (ihc : ∀ s H scope C cl fp, ∀ c ∈ cs, ∀ x, tstE c = true → chk N (relS scope sc) 0 c x = true → PT (X.blk s H scope (compEnvC scope cl C X.env) fp) x (tT G W0 c))
    (ihe : ∀ s H scope C cl fp, ∀ x, chk N (relS scope sc) 0 elt x = true → PE (X.blk s H scope (compEnvC scope cl C X.env) fp) x (tE G W0 elt)) : PE X e (tE G W (.lc t it cs elt)) := by
  obtain ⟨el, tg, iter, ifs, scope, p, rfl, own, wi, g, tt, te, pi, ok, hg, ht, he, hs, q⟩ := lc_parts xk h ihi ihc ihe
  exact (pe_lc xk.calm xk.nd pi ok hg ht he hs).imp q
end
end VS

set_option Elab.async false
set_option linter.all false
set_option autoImplicit false
set_option maxRecDepth 100000
set_option maxHeartbeats 4000000
/-! VS: all expressions. -/
namespace VS
open PySem L2
structure Snd (G : Ctx) (X : Cx) (W : WX) (N : List Str) (sc : Scope) (E : E) : Prop where
  e : ∀ x, chk N sc 0 E x = true → PE X x (tE G W E)
  t : ∀ x, tstE E = true → chk N sc 0 E x = true → PT X x (tT G W E)
  i : ∀ md tg x, 0 < md → (md = 2 → ∃ es k p, tg = .Tuple es k p) → chk N sc md E x = true → PI X tg x (tI G W E)
abbrev SndA (G : Ctx) (E : E) : Prop := ∀ {X : Cx} {W : WX} {N : List Str} {sc : Scope}, XOkE G X W N sc → (∀ r ∈ refs E, RefOk G X r) → Snd G X W N sc E
section
variable {G : Ctx} {X : Cx} {W : WX} {N : List Str} {sc : Scope}
theorem ref_blk {s : Shared} {H : Hp} {scope : Scope} {C : Addr} {cl : List (Str × Addr)} {fp : List Addr} : ∀ {r : Ref}, RefOk G X r → RefOk G (X.blk s H scope (compEnvC scope cl C X.env) fp) r
  | .fn _ _, h => h
  | .mt _ _ _, h => h
  | .mk _ _ _, h => h
  | .gl _ _, h => h
  | .kl _, h => ⟨h.mg, h.ty, h.er, h.ex⟩
  | .fl _ _, h => h
  | .hd _ _, h => h
  | .any b, h => b.blk h
theorem xok_blk (xk : XOkE G X W N sc) {s : Shared} {H : Hp} {scope : Scope} {C : Addr} {cl : List (Str × Addr)} {fp : List Addr} : XOkE G (X.blk s H scope (compEnvC scope cl C X.env) fp) W0 N (relS scope sc) :=
  ⟨⟨xk.K, xk.calm, xk.nd, xk.units⟩, xk.hN, by rw [← xk.hsc]; rfl, xk.nb, takes0⟩
theorem refsL_mem {E : E} {r : Ref} : ∀ {Es : List VS.E}, E ∈ Es → r ∈ refs E → r ∈ refsL Es
  | e :: es, h, hr => by
    simp only [refsL, List.mem_append]
    rcases List.mem_cons.mp h with h | h
    · subst h; exact .inl hr
    · exact .inr (refsL_mem h hr)
theorem sound_args (xk : XOkE G X W N sc) : ∀ {Es : List E}, (∀ E ∈ Es, SndA G E) → (∀ r ∈ refsL Es, RefOk G X r) → ∀ xs, chkL N sc Es xs = true → PA X xs (tA G W Es)
  | [], _, _, [], _ => a_nil
  | [], _, _, _ :: _, h => by simp [chkL] at h
  | _ :: _, _, _, [], h => by simp [chkL] at h
  | a :: as, ih, rf, e :: es, h => by
    simp only [chkL, Bool.and_eq_true] at h
    exact a_cons (plain_of_chk h.1) ((ih a List.mem_cons_self xk fun r hr => rf r (by simp only [refsL, List.mem_append]; exact .inl hr)).e e h.1)
      (sound_args xk (fun E hE => ih E (List.mem_cons_of_mem _ hE)) (fun r hr => rf r (by simp only [refsL, List.mem_append]; exact .inr hr)) es h.2)
/-- of a value -/
theorem snd_val (xk : XOkE G X W N sc) {E : E} (he : ∀ x, chk N sc 0 E x = true → PE X x (tE G W E)) (ht : ∀ x, tstE E = true → chk N sc 0 E x = true → PT X x (tT G W E)) (hm : ∀ md x, chk N sc md E x = chk N sc 0 E x) : Snd G X W N sc E :=
  ⟨he, ht, fun md tg x _ _ h => i_val xk (he x (by rw [← hm md x]; exact h))⟩

theorem sndA (e0 : E) : SndA G e0 := by
  refine @VS.E.rec (fun E => SndA G E) (fun Es => ∀ E ∈ Es, SndA G E)
    ?nop ?var ?cst ?gl ?tup ?lst ?op ?chain ?neg ?and_ ?or_ ?not_ ?ite ?ix ?sl ?rev ?sls ?lc ?call ?meth_ ?make ?blt ?mth ?fld ?isi ?lstR ?lstR2 ?dnewK ?dnewT ?dict1 ?dict2 ?dget2 ?spec ?callV ?iRng ?iEnum ?iRevR ?iZip ?iStr ?esp ?nil ?cons e0
  case nil => intro E h; cases h
  case cons =>
    intro a as iha ihas E h
    rcases List.mem_cons.mp h with h | h
    · subst h; exact iha
    · exact ihas E h
  case nop =>
   exact fun xk rf => ⟨fun x h => by simp [chk] at h, fun x _ h => by simp [chk] at h, fun md tg x _ _ h => by simp [chk] at h⟩
  case var =>
   exact fun i => fun xk rf => have he := fun x h => s_var xk h; snd_val xk he (fun x _ h => t_val (he x h) (isTrue_of (plainT_of h rfl))) (fun md x => by simp only [chk])
  case cst =>
   exact fun i => fun xk rf => have he := fun x h => s_cst h; snd_val xk he (fun x _ h => t_val (he x h) (isTrue_of (plainT_of h rfl))) (fun md x => by simp only [chk])
  case gl =>
   exact fun y d => fun xk rf => have he := fun x h => s_gl xk h (rf _ (List.mem_singleton.mpr rfl)); snd_val xk he (fun x _ h => t_val (he x h) (isTrue_of (plainT_of h rfl))) (fun md x => by simp only [chk])
  case tup =>
   exact fun es ih => fun xk rf => have he := fun x h => s_tup h (sound_args xk ih rf); snd_val xk he (fun x _ h => t_val (he x h) (isTrue_of (plainT_of h rfl))) (fun md x => by simp only [chk])
  case lst =>
   exact fun es ih => fun xk rf => have he := fun x h => s_lst h (sound_args xk ih rf); snd_val xk he (fun x _ h => t_val (he x h) (isTrue_of (plainT_of h rfl))) (fun md x => by simp only [chk])
  case op =>
   exact fun o a b iha ihb => fun xk rf =>
    have sa := iha xk fun r hr => rf r (List.mem_append_left _ hr); have sb := ihb xk fun r hr => rf r (List.mem_append_right _ hr)
    snd_val xk (fun x h => s_op xk h sa.e sb.e) (fun x _ h => t_op xk h sa.e sb.e) (fun md x => by simp only [chk])
  case chain =>
   exact fun o1 o2 a b c iha ihb ihc => fun xk rf =>
    have sa := iha xk fun r hr => rf r (List.mem_append_left _ hr)
    have sb := ihb xk fun r hr => rf r (List.mem_append_right _ (List.mem_append_left _ hr)); have sc := ihc xk fun r hr => rf r (List.mem_append_right _ (List.mem_append_right _ hr))
    snd_val xk (fun x h => s_chain xk h sa.e sb.e sc.e) (fun x _ h => t_chain xk h sa.e sb.e sc.e) (fun md x => by simp only [chk])
  case neg =>
   exact fun a ih => fun xk rf => have s := ih xk rf; have he := fun x h => s_neg h s.e; snd_val xk he (fun x _ h => t_val (he x h) (isTrue_of (plainT_of h rfl))) (fun md x => by simp only [chk])
  case and_ =>
   exact fun a b iha ihb => fun xk rf =>
    have sa := iha xk fun r hr => rf r (List.mem_append_left _ hr); have sb := ihb xk fun r hr => rf r (List.mem_append_right _ hr)
    snd_val xk (fun x h => s_and h sa.e sb.e) (fun x t h => by
      simp only [tstE, Bool.and_eq_true] at t
      exact t_and h (fun x h => sa.t x t.1 h) (fun x h => sb.t x t.2 h)) (fun md x => by simp only [chk])
  case or_ =>
   exact fun a b iha ihb => fun xk rf =>
    have sa := iha xk fun r hr => rf r (List.mem_append_left _ hr); have sb := ihb xk fun r hr => rf r (List.mem_append_right _ hr)
    snd_val xk (fun x h => s_or h sa.e sb.e) (fun x t h => by
      simp only [tstE, Bool.and_eq_true] at t
      exact t_or h (fun x h => sa.t x t.1 h) (fun x h => sb.t x t.2 h)) (fun md x => by simp only [chk])
  case not_ =>
   exact fun a ih => fun xk rf => have s := ih xk rf; snd_val xk (fun x h => s_not h s.e) (fun x t h => t_not h (fun x h => s.t x (by simpa only [tstE] using t) h)) (fun md x => by simp only [chk])
  case ite =>
   exact fun c a b ihc iha ihb => fun xk rf =>
    have s1 := ihc xk fun r hr => rf r (List.mem_append_left _ hr)
    have sa := iha xk fun r hr => rf r (List.mem_append_right _ (List.mem_append_left _ hr)); have sb := ihb xk fun r hr => rf r (List.mem_append_right _ (List.mem_append_right _ hr))
    snd_val xk (fun x h => s_ite h s1.t sa.e sb.e) (fun x t h => by simp [tstE] at t) (fun md x => by simp only [chk])
  case ix =>
   exact fun a b iha ihb => fun xk rf =>
    have sa := iha xk fun r hr => rf r (List.mem_append_left _ hr); have sb := ihb xk fun r hr => rf r (List.mem_append_right _ hr)
    have he := fun x h => s_ix xk h sa.e sb.e; snd_val xk he (fun x _ h => t_val (he x h) (isTrue_of (plainT_of h rfl))) (fun md x => by simp only [chk])
  case sl =>
   exact fun a b c iha ihb ihc => fun xk rf =>
    have sa := iha xk fun r hr => rf r (List.mem_append_left _ hr)
    have sb := ihb xk fun r hr => rf r (List.mem_append_right _ (List.mem_append_left _ hr)); have sc := ihc xk fun r hr => rf r (List.mem_append_right _ (List.mem_append_right _ hr))
    have he := fun x h => s_sl xk h sa.e sb.e sc.e; snd_val xk he (fun x _ h => t_val (he x h) (isTrue_of (plainT_of h rfl))) (fun md x => by simp only [chk])
  case rev =>
   exact fun a ih => fun xk rf => have s := ih xk rf; have he := fun x h => s_rev xk h s.e; snd_val xk he (fun x _ h => t_val (he x h) (isTrue_of (plainT_of h rfl))) (fun md x => by simp only [chk])
  case sls =>
   exact fun a b c iha ihb ihc => fun xk rf =>
    have sa := iha xk fun r hr => rf r (List.mem_append_left _ hr)
    have sb := ihb xk fun r hr => rf r (List.mem_append_right _ (List.mem_append_left _ hr)); have sc := ihc xk fun r hr => rf r (List.mem_append_right _ (List.mem_append_right _ hr))
    have he := fun x h => s_sls xk h sa.e sb.e sc.e; snd_val xk he (fun x _ h => t_val (he x h) (isTrue_of (plainT_of h rfl))) (fun md x => by simp only [chk])
  case lc =>
   exact fun t it cs elt ihi ihc ihe => fun xk rf =>
    have si := ihi xk fun r hr => rf r (List.mem_append_left _ hr)
    have he := fun x h => s_lc xk h si.i
      (fun s H scope C cl fp c hc x ht h => (ihc c hc (xok_blk xk) fun r hr => ref_blk (rf r (List.mem_append_right _ (List.mem_append_left _ (refsL_mem hc hr))))).t x ht h)
      (fun s H scope C cl fp x h => (ihe (xok_blk xk) fun r hr => ref_blk (rf r (List.mem_append_right _ (List.mem_append_right _ hr)))).e x h)
    snd_val xk he (fun x _ h => t_val (he x h) (isTrue_of (plainT_of h rfl))) (fun md x => by simp only [chk])
  case call =>
   exact fun nm m es ih => fun xk rf =>
    have he := fun x h => s_call xk h (rf _ List.mem_cons_self) (sound_args xk ih fun r hr => rf r (List.mem_cons_of_mem _ hr)); snd_val xk he (fun x _ h => t_val (he x h) (isTrue_of (plainT_of h rfl))) (fun md x => by simp only [chk])
  case meth_ =>
   exact fun c nm m o es iho ih => fun xk rf =>
    have so := iho xk fun r hr => rf r (List.mem_cons_of_mem _ (List.mem_append_left _ hr))
    have he := fun x h => s_meth xk h (rf _ List.mem_cons_self) so.e (sound_args xk ih fun r hr => rf r (List.mem_cons_of_mem _ (List.mem_append_right _ hr))); snd_val xk he (fun x _ h => t_val (he x h) (isTrue_of (plainT_of h rfl))) (fun md x => by simp only [chk])
  case make =>
   exact fun c nm m es ih => fun xk rf =>
    have he := fun x h => s_make xk h (rf _ List.mem_cons_self) (sound_args xk ih fun r hr => rf r (List.mem_cons_of_mem _ hr)); snd_val xk he (fun x _ h => t_val (he x h) (isTrue_of (plainT_of h rfl))) (fun md x => by simp only [chk])
  case blt =>
   exact fun b es ih => fun xk rf =>
    have he := fun x h => s_blt xk h (sound_args xk ih rf); snd_val xk he (fun x _ h => t_val (he x h) (isTrue_of (plainT_of h rfl))) (fun md x => by simp only [chk])
  case mth =>
   exact fun b o es iho ih => fun xk rf =>
    have so := iho xk fun r hr => rf r (List.mem_append_left _ hr)
    have he := fun x h => s_mth xk h so.e (sound_args xk ih fun r hr => rf r (List.mem_append_right _ hr)); snd_val xk he (fun x _ h => t_val (he x h) (isTrue_of (plainT_of h rfl))) (fun md x => by simp only [chk])
  case fld =>
   exact fun c o f iho => fun xk rf =>
    have so := iho xk fun r hr => rf r (List.mem_cons_of_mem _ hr)
    have he := fun x h => s_fld xk h (rf _ List.mem_cons_self) so.e; snd_val xk he (fun x _ h => t_val (he x h) (isTrue_of (plainT_of h rfl))) (fun md x => by simp only [chk])
  case isi =>
   exact fun a ks iha => fun xk rf =>
    have sa := iha xk fun r hr => rf r (List.mem_append_right _ hr)
    have he := fun x h => s_isi xk h (fun k hk => rf (.kl k) (List.mem_append_left _ (List.mem_map.mpr ⟨k, hk, rfl⟩))) sa.e; snd_val xk he (fun x _ h => t_val (he x h) (isTrue_of (plainT_of h rfl))) (fun md x => by simp only [chk])
  case lstR =>
   exact fun t b ih => fun xk rf => have s := ih xk rf; have he := fun x h => s_lstR xk h s.e; snd_val xk he (fun x _ h => t_val (he x h) (isTrue_of (plainT_of h rfl))) (fun md x => by simp only [chk])
  case lstR2 =>
   exact fun t a b iha ihb => fun xk rf =>
    have sa := iha xk fun r hr => rf r (List.mem_append_left _ hr); have sb := ihb xk fun r hr => rf r (List.mem_append_right _ hr)
    have he := fun x h => s_lstR2 xk h sa.e sb.e; snd_val xk he (fun x _ h => t_val (he x h) (isTrue_of (plainT_of h rfl))) (fun md x => by simp only [chk])
  case dnewK =>
   exact fun xk rf => have he := fun x h => s_dnewK h; snd_val xk he (fun x _ h => t_val (he x h) (isTrue_of (plainT_of h rfl))) (fun md x => by simp only [chk])
  case dnewT =>
   exact fun xk rf => have he := fun x h => s_dnewT h; snd_val xk he (fun x _ h => t_val (he x h) (isTrue_of (plainT_of h rfl))) (fun md x => by simp only [chk])
  case dict1 =>
   exact fun a b iha ihb => fun xk rf =>
    have sa := iha xk fun r hr => rf r (List.mem_append_left _ hr); have sb := ihb xk fun r hr => rf r (List.mem_append_right _ hr)
    have he := fun x h => s_dict1 xk h sa.e sb.e; snd_val xk he (fun x _ h => t_val (he x h) (isTrue_of (plainT_of h rfl))) (fun md x => by simp only [chk])
  case dict2 =>
   exact fun a b c d iha ihb ihc ihd => fun xk rf =>
    have sa := iha xk fun r hr => rf r (List.mem_append_left _ hr)
    have sb := ihb xk fun r hr => rf r (List.mem_append_right _ (List.mem_append_left _ hr)); have sc := ihc xk fun r hr => rf r (List.mem_append_right _ (List.mem_append_right _ (List.mem_append_left _ hr))); have sd := ihd xk fun r hr => rf r (List.mem_append_right _ (List.mem_append_right _ (List.mem_append_right _ hr)))
    have he := fun x h => s_dict2 xk h sa.e sb.e sc.e sd.e; snd_val xk he (fun x _ h => t_val (he x h) (isTrue_of (plainT_of h rfl))) (fun md x => by simp only [chk])
  case dget2 =>
   exact fun a b c iha ihb ihc => fun xk rf =>
    have sa := iha xk fun r hr => rf r (List.mem_append_left _ hr)
    have sb := ihb xk fun r hr => rf r (List.mem_append_right _ (List.mem_append_left _ hr)); have sc := ihc xk fun r hr => rf r (List.mem_append_right _ (List.mem_append_right _ hr))
    have he := fun x h => s_dget2 xk h sa.e sb.e sc.e; snd_val xk he (fun x _ h => t_val (he x h) (isTrue_of (plainT_of h rfl))) (fun md x => by simp only [chk])
  case spec =>
   exact fun b es ih => fun xk rf =>
    have he := fun x h => s_spec xk h (sound_args xk ih rf); snd_val xk he (fun x _ h => t_val (he x h) (isTrue_of (plainT_of h rfl))) (fun md x => by simp only [chk])
  case callV =>
   exact fun i fs es ih => fun xk rf =>
    have he := fun x h => s_callV xk h (fun p hp => rf (.hd p.1 p.2) (List.mem_append_left _ (List.mem_map.mpr ⟨p, hp, rfl⟩))) (sound_args xk ih fun r hr => rf r (List.mem_append_right _ hr)); snd_val xk he (fun x _ h => t_val (he x h) (isTrue_of (plainT_of h rfl))) (fun md x => by simp only [chk])
  case esp =>
   exact fun b => fun xk rf =>
    have he := fun x h => s_esp xk h rf; snd_val xk he (fun x _ h => t_val (he x h) (isTrue_of (plainT_of h rfl))) (fun md x => by simp only [chk])
  case iRng =>
   exact fun es ih => fun xk rf => ⟨fun x h => by simp only [chk] at h; split at h <;> simp at h, fun x _ h => by simp only [chk] at h; split at h <;> simp at h, fun md tg x _ _ h => i_rng xk h (sound_args xk ih rf)⟩
  case iEnum =>
   exact fun a ih => fun xk rf => ⟨fun x h => by simp only [chk] at h; split at h <;> simp at h, fun x _ h => by simp only [chk] at h; split at h <;> simp at h, fun md tg x _ hm h => by
    have h2 : md = 2 := by
      simp only [chk] at h
      split at h
      · simp only [Bool.and_eq_true, decide_eq_true_eq] at h; exact h.1.1.1
      · cases h
    obtain ⟨es, k, p, rfl⟩ := hm h2
    exact i_enum xk h (ih xk rf).e⟩
  case iRevR =>
   exact fun a ih => fun xk rf => ⟨fun x h => by simp only [chk] at h; split at h <;> simp at h, fun x _ h => by simp only [chk] at h; split at h <;> simp at h, fun md tg x _ hm h => i_rev xk h (ih xk rf).e⟩
  case iStr =>
   exact fun a ih => fun xk rf => ⟨fun x h => by simp only [chk] at h; split at h <;> simp at h, fun x _ h => by simp only [chk] at h; split at h <;> simp at h, fun md tg x _ hm h => i_str xk h (ih xk rf).e⟩
  case iZip =>
   exact fun a b iha ihb => fun xk rf => ⟨fun x h => by simp only [chk] at h; split at h <;> simp at h, fun x _ h => by simp only [chk] at h; split at h <;> simp at h, fun md tg x _ hm h => by
    have h2 : md = 2 := by
      simp only [chk] at h
      split at h
      · simp only [Bool.and_eq_true, decide_eq_true_eq] at h; exact h.1.1.1.1
      · cases h
    obtain ⟨es, k, p, rfl⟩ := hm h2
    exact i_zip xk h (iha xk fun r hr => rf r (List.mem_append_left _ hr)).e (ihb xk fun r hr => rf r (List.mem_append_right _ hr)).e⟩
theorem lc_all (xk : XOkE G X W N sc) {t : Tgt} {it elt : E} {cs : List E} {md : Nat} {e : Expr} (rf : ∀ r ∈ refs (.lc t it cs elt), RefOk G X r) (h : chk N sc md (.lc t it cs elt) e = true) : ∃ el tg iter ifs scope p, e = .ListComp el [⟨tg, iter, ifs, 0⟩] scope p ∧ ∃ own wi g tt te, PI X tg iter wi ∧ BlkOk X.N X.env.scope scope own ∧
      (∀ (s : Shared) (H : Hp) (C : Addr) (cl : List (Str × Addr)) (fp : List Addr), PG (X.blk s H scope (compEnvC scope cl C X.env) fp) tg g) ∧ (∀ (s : Shared) (H : Hp) (C : Addr) (cl : List (Str × Addr)) (fp : List Addr), PTs (X.blk s H scope (compEnvC scope cl C X.env) fp) ifs tt) ∧
      (∀ (s : Shared) (H : Hp) (C : Addr) (cl : List (Str × Addr)) (fp : List Addr), PE (X.blk s H scope (compEnvC scope cl C X.env) fp) el te) ∧ (∀ x, foldedSetIterable iter X.env x = pure x) ∧
      ∀ σ H Q, tE G W (.lc t it cs elt) σ H Q → tLc wi g tt te (own.map (·.2)) σ H Q :=
  lc_parts xk h (sndA it xk fun r hr => rf r (List.mem_append_left _ hr)).i
    (fun s H scope C cl fp c hc x ht h => (sndA c (xok_blk xk) fun r hr => ref_blk (rf r (List.mem_append_right _ (List.mem_append_left _ (refsL_mem hc hr))))).t x ht h)
    (fun s H scope C cl fp x h => (sndA elt (xok_blk xk) fun r hr => ref_blk (rf r (List.mem_append_right _ (List.mem_append_right _ hr)))).e x h)
end
end VS

set_option Elab.async false
set_option linter.all false
set_option autoImplicit false
set_option maxRecDepth 100000
set_option maxHeartbeats 4000000
/-! VS: statements and what they mean. -/
namespace VS
open PySem L2
/-- what is wanted behind a statement -/
structure Ds where
  nx : List C → Prop
  rt : C → List C → Prop
  ex : Nat → List C → Prop
def run1 {α : Type} (x : M α) (er : Nat → Prop) (ok : α → Prop) : Prop := match x with
  | some (.ok a) => ok a
  | some (.error k) => er k
  | none => False
theorem run1_cases {α : Type} {x : M α} {er : Nat → Prop} {ok : α → Prop} (h : run1 x er ok) : (∃ a, x = some (.ok a) ∧ ok a) ∨ ∃ k, x = some (.error k) ∧ er k := by
  match x, h with
  | some (.ok a), h => exact .inl ⟨a, rfl, h⟩
  | some (.error k), h => exact .inr ⟨k, rfl, h⟩
/-- any other wish of the context -/
structure XRp where
  P : Ctx → Cx → Prop
  tr : ∀ {G : Ctx} {X : Cx} {pn : List (Addr × Obj)} {xe : Value → Shared → Prop}, P G X → P G (X.tr pn xe)
/-- the classes that are raised, caught -/
inductive Exr where
  | raise (k : Nat) (x : Str) | catch (es : List Nat) (k : Nat) (x : Str) | any (b : XRp)
structure Lnk (G : Ctx) (W : WX) (H0 Hs0 : Hp) (P : Ds) (D : Ends) : Prop where
  nx : ∀ σ H Hs ρ, SR G H0 Hs0 σ H Hs ρ → P.nx ρ → D.nx σ H
  rt : ∀ σ H Hs ρ c v, SR G H0 Hs0 σ H Hs ρ → P.rt c ρ → RepN G H0 H Hs c v → D.rt v H
  ex : ∀ σ H Hs ρ k, SR G H0 Hs0 σ H Hs ρ → P.ex k ρ → W (.ref (G.cls k)) none σ H
def tSv (G : Ctx) (W : WX) (w : Ds → List C → Prop) : TS := fun D σ H => ∃ H0 Hs0 Hs ρ P, SR G H0 Hs0 σ H Hs ρ ∧ w P ρ ∧ Lnk G W H0 Hs0 P D
/-- the context, for statements -/
structure XOkS (G : Ctx) (X : Cx) (W : WX) (N : List Str) (sc : Scope) : Prop extends XOkE G X W N sc where
  bk : X.env.blockKind = .function
  st : X.stack = X.env :: X.outer
  fr : X.env.frame = some X.env.locals
  po : PassesOwn (model X.prog X.w) X.A X.env X.xe
  fn : ∀ x, X.fn x = true
def ExOk (G : Ctx) (X : Cx) : Exr → Prop
  | .raise k x => X.mg x = some (.ref (G.cls k)) ∧ (∃ B newId initId bmB, ExcBaseFacts B newId initId bmB ∧ PySem.W.excIn X.K (G.cls k) bmB newId = true) ∧ PySem.W.keepIn X.K (.ref (G.cls k)) = true ∧ Raises X (.ref (G.cls k))
  | .catch es k x => X.mg x = some (.ref (G.cls k)) ∧ (∀ i ∈ es, i ∈ G.errs ∧ PySem.W.exmOne X.K (.ref (G.cls i)) (.ref (G.cls k)) = some (sub i k))
  | .any b => b.P G X
/-- any other statement: its text, its meaning, what it asks of the module, the proof -/
structure SSp where
  chk : List Str → Scope → Stmt → Bool
  w : Ds → List C → Prop
  refs : List Ref
  exs : List Exr
  ok : ∀ {G : Ctx} {X : Cx} {W : WX} {N : List Str} {sc : Scope} {st : Stmt}, XOkS G X W N sc → (∀ r ∈ refs, RefOk G X r) → (∀ x ∈ exs, ExOk G X x) → chk N sc st = true → PS X st (tSv G W w)
inductive S where
  | pass
  | asg (i : Nat) (e : E)
  | unp (t : Tgt) (e : E)
  | app (i : Nat) (e : E)
  | ext (i : Nat) (e : E)
  | setx (i : Nat) (k e : E)
  | frz (i : Nat)
  | ret (e : E)
  | retV (i : Nat)
  | ex (e : E)
  | ifs (c : E) (a b : List S)
  | for_ (t : Tgt) (it : E) (body : List S)
  | while_ (c : E) (body : List S)
  | raise_ (k : Nat) (x : Str)
  | tryE (es : List Nat) (body : List S) (k : Nat) (x : Str) (n j : Nat)
  | upd (i : Nat) (e : E)
  | clr (i : Nat)
  | augA (i : Nat) (e : E)
  | apop (i j : Nat) (e : E)
  | sp (b : SSp)
def putD {κ : Type} [DecidableEq κ] (ks : List κ) (vs : List D) (k : κ) (d : D) : List κ × List D :=
  if k ∈ ks then (ks, List.zipWith (fun x v => if x = k then d else v) ks vs) else (ks ++ [k], vs ++ [d])
/-- a container's item is set -/
def setO : O → D → D → Option O
  | .lst xs, .int i, d => (ixN xs.length i).map fun j => .lst (xs.set j d)
  | .dK ks vs, k, d => if ks.length < sizeLine then (keyD k).map fun x => .dK (putD ks vs x d).1 (putD ks vs x d).2 else none
  | .dT _ _, _, _ => none
  | _, _, _ => none
def ownAt (ρ : List C) (i : Nat) : Option O := match ρ[i]? with
  | some (.own o) => some o
  | _ => none
def O.lstD : O → Option (List D)
  | .lst xs => some xs
  | _ => none
def O.dKD : O → Option (List Key × List D)
  | .dK ks vs => some (ks, vs)
  | _ => none
/-- a dict is put into a dict -/
def mrgD : List Key → List D → List Key → List D → List Key × List D
  | k :: ks2, d :: vs2, ks, vs => mrgD ks2 vs2 (putD ks vs k d).1 (putD ks vs k d).2
  | _, _, ks, vs => (ks, vs)
/-- a loop over what it walks -/
def forW (t : Tgt) (body : Ds → List C → Prop) (P : Ds) : List D → List C → Prop
  | [], ρ => P.nx ρ
  | d :: ds, ρ => match bindT t d ρ with
    | some ρ' => body { P with nx := forW t body P ds } ρ'
    | none => False
def optP {α : Type} (o : Option α) (q : α → Prop) : Prop := match o with
  | some a => q a
  | none => False
theorem optP_cases {α : Type} {o : Option α} {q : α → Prop} (h : optP o q) : ∃ a, o = some a ∧ q a := by
  cases o with
  | none => exact h.elim
  | some a => exact ⟨a, rfl, h⟩
mutual
def wp : S → Ds → List C → Prop
  | .pass, P, ρ => P.nx ρ
  | .sp b, P, ρ => b.w P ρ
  | .asg i e, P, ρ => run1 (ev e ρ) (P.ex · ρ) fun c => optP c.st fun c' => P.nx (ρ.set i c')
  | .unp t e, P, ρ => run1 (keep1 (ev e ρ)) (P.ex · ρ) fun d => optP (bindT t d ρ) P.nx
  | .app i e, P, ρ => optP ((ownAt ρ i).bind O.lstD) fun xs => run1 (keep1 (ev e ρ)) (P.ex · ρ) fun d => xs.length < sizeLine ∧ P.nx (ρ.set i (.own (.lst (xs ++ [d]))))
  | .ext i e, P, ρ => optP ((ownAt ρ i).bind O.lstD) fun xs => run1 (keep1 (ev e ρ)) (P.ex · ρ) fun d => match d with
    | .lst ys => xs.length + ys.length ≤ sizeLine ∧ P.nx (ρ.set i (.own (.lst (xs ++ ys))))
    | _ => False
  | .upd i e, P, ρ => optP ((ownAt ρ i).bind O.dKD) fun kv => run1 (keep1 (ev e ρ)) (P.ex · ρ) fun d => match d with
    | .dK ks2 vs2 => kv.1.length + ks2.length ≤ sizeLine ∧ P.nx (ρ.set i (.own (.dK (mrgD ks2 vs2 kv.1 kv.2).1 (mrgD ks2 vs2 kv.1 kv.2).2)))
    | _ => False
  | .clr i, P, ρ => optP ((ownAt ρ i).bind O.lstD) fun _ => P.nx (ρ.set i (.own (.lst [])))
  | .augA i e, P, ρ => match ρ[i]? with
    | some (.val (.int a)) => run1 (look1 (ev e ρ)) (P.ex · ρ) fun d => match d with
      | .int b => P.nx (ρ.set i (.val (.int (a + b))))
      | _ => False
    | _ => False
  | .apop i j e, P, ρ => optP ((ownAt ρ i).bind O.lstD) fun xs => optP ((ownAt ρ j).bind O.lstD) fun ys => run1 (look1 (ev e ρ)) (P.ex · ρ) fun d => match d with
    | .int z => i ≠ j ∧ 0 ≤ z ∧ z < (ys.length : Int) ∧ ys.length ≤ 100000 ∧ xs.length < sizeLine ∧ ∃ y, ys[z.toNat]? = some y ∧ P.nx ((ρ.set j (.own (.lst (ys.eraseIdx z.toNat)))).set i (.own (.lst (xs ++ [y]))))
    | _ => False
  | .setx i k e, P, ρ => optP (ownAt ρ i) fun o => run1 (keep1 (ev e ρ)) (P.ex · ρ) fun d => run1 (look1 (ev k ρ)) (P.ex · ρ) fun x => optP (setO o x d) fun o' => P.nx (ρ.set i (.own o'))
  | .frz i, P, ρ => optP (ownAt ρ i) fun o => P.nx (ρ.set i (.val o.frz))
  | .ret e, P, ρ => run1 (ev e ρ) (P.ex · ρ) fun c => optP c.st (P.rt · ρ)
  | .retV i, P, ρ => optP (ρ[i]?.bind C.st) (P.rt · ρ)
  | .ex e, P, ρ => run1 (ev e ρ) (P.ex · ρ) fun _ => P.nx ρ
  | .ifs c a b, P, ρ => run1 (look1 (ev c ρ)) (P.ex · ρ) fun d => match d with
    | .bl true => wps a P ρ
    | .bl false => wps b P ρ
    | _ => False
  | .for_ t it body, P, ρ => run1 ((ev it ρ).bind seqC) (P.ex · ρ) fun ds => forW t (wps body) P ds ρ
  | .while_ c body, P, ρ => ∃ I : Nat → List C → Prop, (∃ m, I m ρ) ∧ ∀ m ρ, I m ρ → run1 (look1 (ev c ρ)) (P.ex · ρ) fun d => match d with
    | .bl true => wps body { P with nx := fun ρ' => ∃ m', m' < m ∧ I m' ρ' } ρ
    | .bl false => P.nx ρ
    | _ => False
  | .raise_ k _, P, ρ => P.ex k ρ
  | .tryE es body k _ n j, P, ρ => wps body { P with ex := fun e ρ' => e ∈ es ∧ if sub e k = true then P.nx ((ρ'.set j (.val (.err e))).set n .un) else P.ex e ρ' } ρ
def wps : List S → Ds → List C → Prop
  | [], P, ρ => P.nx ρ
  | s :: ss, P, ρ => wp s { P with nx := wps ss P } ρ
end
/-- names that need not be hidden by built-in things are checked as expressions are -/
def isLc : Expr → Bool
  | .ListComp _ _ _ _ => true
  | _ => false
def lcNames : Expr → Scope
  | .ListComp _ _ s _ => s
  | _ => default
/-- name = [..] on one line -/
def swapOk (x : Str) (p : Pos) (v : Expr) : Bool := p.line == v.pos.line && !((lcNames v).names.any fun (n, k) => n == x && (k == .local || k == .cell))
mutual
def chkS (N : List Str) (sc : Scope) : S → Stmt → Bool
  | .pass, st => match st with
    | .Pass _ => true
    | _ => false
  | .asg i e, st => match st with
    | .Assign [.Name x p] v sp => nmAt N sc true i (.Name x p) && chk N sc 0 e v && (if isLc v then !(loc sc x) || swapOk x p v else !compE v)
    | _ => false
  | .unp t e, st => match st with
    | .Assign [.Tuple es k p] v _ => isTupTgt t && tgtIs N sc true t (.Tuple es k p) && chk N sc 0 e v && (match v with | .Tuple _ _ _ => false | _ => true)
    | _ => false
  | .app i e, st => match st with
    | .Expr (.Call (.Attribute (.Name x p) m ap) [y] [] cp) _ => chk N sc 0 (.var i) (.Name x p) && decide (m = "append") && (ap.endLine == cp.line) && chk N sc 0 e y
    | _ => false
  | .ext i e, st => match st with
    | .Expr (.Call (.Attribute (.Name x p) m ap) [y] [] cp) _ => chk N sc 0 (.var i) (.Name x p) && decide (m = "extend") && (ap.endLine == cp.line) && chk N sc 0 e y
    | _ => false
  | .upd i e, st => match st with
    | .Expr (.Call (.Attribute (.Name x p) m ap) [y] [] cp) _ => chk N sc 0 (.var i) (.Name x p) && decide (m = "update") && (ap.endLine == cp.line) && chk N sc 0 e y
    | _ => false
  | .clr i, st => match st with
    | .Expr (.Call (.Attribute (.Name x p) m ap) [] [] cp) _ => chk N sc 0 (.var i) (.Name x p) && decide (m = "clear") && (ap.endLine == cp.line)
    | _ => false
  | .augA i e, st => match st with
    | .AugAssign (.Name x p) .Add v _ => nmAt N sc true i (.Name x p) && chk N sc 0 e v
    | _ => false
  | .apop i j e, st => match st with
    | .Expr (.Call (.Attribute (.Name x p) m ap) [.Call (.Attribute (.Name x2 p2) m2 ap2) [y] [] cp2] [] cp) _ => chk N sc 0 (.var i) (.Name x p) && decide (m = "append") && (ap.endLine == cp.line) && chk N sc 0 (.var j) (.Name x2 p2) && decide (m2 = "pop") && (ap2.endLine == cp2.line) && chk N sc 0 e y
    | _ => false
  | .setx i k e, st => match st with
    | .Assign [.Subscript (.Name x p) y _] v _ => chk N sc 0 (.var i) (.Name x p) && chk N sc 0 k y && chk N sc 0 e v && !compE v
    | _ => false
  | .frz _, _ => false
  | .sp b, st => b.chk N sc st
  | .ret e, st => match st with
    | .Return (some v) _ => chk N sc 0 e v
    | _ => false
  | .retV i, st => match st with
    | .Return (some v) _ => chk N sc 0 (.var i) v
    | _ => false
  | .ex e, st => match st with
    | .Expr v _ => chk N sc 0 e v && !compE v
    | _ => false
  | .ifs c a b, st => match st with
    | .If t p q _ => tstE c && chk N sc 0 c t && chkSs N sc a p && chkSs N sc b q
    | _ => false
  | .for_ t it body, st => match st with
    | .For tg iter b [] _ => chk N sc (if isTupTgt t then 2 else 1) it iter && tgtIs N sc true t tg && chkSs N sc body b
    | _ => false
  | .while_ c body, st => match st with
    | .While t b [] _ => tstE c && chk N sc 0 c t && chkSs N sc body b
    | _ => false
  | .raise_ _ x, st => match st with
    | .Raise (some (.Call (.Name y _) [.Constant (.str _) _ _] [] _)) none _ => decide (y = x) && glo sc x
    | _ => false
  | .tryE _ body _ x n j, st => match st with
    | .Try b [.ExceptHandler (some (.Name y _)) (some z) [.Assign [.Name u up] (.Name v vp) _] _] [] [] _ => decide (y = x) && glo sc x && decide (v = z) && nmAt N sc false n (.Name z vp) && nmOk z && nmAt N sc false j (.Name u up) && decide (n ≠ j) && chkSs N sc body b
    | _ => false
def chkSs (N : List Str) (sc : Scope) : List S → List Stmt → Bool
  | [], [] => true
  | .frz _ :: ss, sts => chkSs N sc ss sts
  | s :: ss, st :: sts => chkS N sc s st && chkSs N sc ss sts
  | _, _ => false
end
mutual
def refS : S → List Ref
  | .asg _ e => refs e
  | .sp b => b.refs
  | .unp _ e => refs e
  | .app _ e => refs e
  | .ext _ e => refs e
  | .upd _ e => refs e
  | .augA _ e => refs e
  | .apop _ _ e => refs e
  | .setx _ k e => refs k ++ refs e
  | .ret e => refs e
  | .ex e => refs e
  | .ifs c a b => refs c ++ (refSs a ++ refSs b)
  | .for_ _ it body => refs it ++ refSs body
  | .while_ c body => refs c ++ refSs body
  | .tryE _ body _ _ _ _ => refSs body
  | _ => []
def refSs : List S → List Ref
  | [] => []
  | s :: ss => refS s ++ refSs ss
end
mutual
def excS : S → List Exr
  | .raise_ k x => [.raise k x]
  | .sp b => b.exs
  | .ifs _ a b => excSs a ++ excSs b
  | .for_ _ _ body => excSs body
  | .while_ _ body => excSs body
  | .tryE es body k x _ _ => .catch es k x :: excSs body
  | _ => []
def excSs : List S → List Exr
  | [] => []
  | s :: ss => excS s ++ excSs ss
end
end VS

set_option Elab.async false
set_option linter.all false
set_option autoImplicit false
set_option maxRecDepth 100000
set_option maxHeartbeats 4000000
/-! VS: statements keep what they mean. -/
namespace VS
open PySem L2
section
variable {G : Ctx} {X : Cx} {W : WX} {N : List Str} {sc : Scope} {H0 Hs0 H Hs : Hp} {σ : St} {ρ : List C} {P : Ds} {Dn : Ends}
theorem Lnk.erP (L : Lnk G W H0 Hs0 P Dn) (sr : SR G H0 Hs0 σ H Hs ρ) {k : Nat} (h : P.ex k ρ) : ErP G W σ H Hs k := fun H' Hs' st => L.ex σ H' Hs' ρ k (sr.step st) h
theorem Lnk.next (L : Lnk G W H0 Hs0 P Dn) {n : List C → Prop} {m : St → Hp → Prop} (h : ∀ σ H Hs ρ, SR G H0 Hs0 σ H Hs ρ → n ρ → m σ H) : Lnk G W H0 Hs0 { P with nx := n } { Dn with nx := m } := ⟨h, L.rt, L.ex⟩
theorem run_e {e : E} {Q : VK} {ok : C → Prop} (L : Lnk G W H0 Hs0 P Dn) (sr : SR G H0 Hs0 σ H Hs ρ) (h : run1 (ev e ρ) (P.ex · ρ) ok) (k : ∀ c v H1 Hs1, Stp G.tabs H Hs H1 Hs1 → RepC G H0 H Hs H1 Hs1 c v → ok c → Q v H1) : tE G W e σ H Q := by
  rcases run1_cases h with ⟨c, h1, h2⟩ | ⟨j, h1, h2⟩
  · exact ⟨H0, Hs0, Hs, ρ, _, sr, h1, fun v H1 Hs1 st rc => k c v H1 Hs1 st rc h2⟩
  · exact ⟨H0, Hs0, Hs, ρ, _, sr, h1, L.erP sr h2⟩
theorem run_keep {e : E} {Q : VK} {ok : D → Prop} (L : Lnk G W H0 Hs0 P Dn) (sr : SR G H0 Hs0 σ H Hs ρ) (h : run1 (keep1 (ev e ρ)) (P.ex · ρ) ok)
    (k : ∀ d v H1 Hs1, Stp G.tabs H Hs H1 Hs1 → Rep G Hs1 d v → SR G H0 Hs0 σ H1 Hs1 ρ → ok d → Q v H1) : tE G W e σ H Q := by
  rcases run1_cases h with ⟨d, h1, h2⟩ | ⟨j, h1, h2⟩
  · exact keep_run (f := fun d => M.ok d) (r := .ok d) sr (by rw [h1]; rfl) (fun j z => by cases z) fun d' v H1 Hs1 st rv sr1 e1 => by cases e1; exact k _ v H1 Hs1 st rv sr1 h2
  · exact keep_run (f := fun d => M.ok d) (r := .error j) sr (by rw [h1]; rfl) (fun j' z => by cases z; exact L.erP sr h2) fun d' v H1 Hs1 st rv sr1 e1 => by cases e1
theorem run_look {e : E} {Q : VK} {ok : D → Prop} (L : Lnk G W H0 Hs0 P Dn) (sr : SR G H0 Hs0 σ H Hs ρ) (h : run1 (look1 (ev e ρ)) (P.ex · ρ) ok)
    (k : ∀ d v H1 Hs1, Stp G.tabs H Hs H1 Hs1 → RdW G H1 Hs1 d v → SR G H0 Hs0 σ H1 Hs1 ρ → ok d → Q v H1) : tE G W e σ H Q := by
  rcases run1_cases h with ⟨d, h1, h2⟩ | ⟨j, h1, h2⟩
  · exact VS.look_run (f := fun d => M.ok d) (r := .ok d) sr (by rw [h1]; rfl) (fun j z => by cases z) fun d' v H1 Hs1 st rv sr1 e1 => by cases e1; exact k _ v H1 Hs1 st rv sr1 h2
  · exact VS.look_run (f := fun d => M.ok d) (r := .error j) sr (by rw [h1]; rfl) (fun j' z => by cases z; exact L.erP sr h2) fun d' v H1 Hs1 st rv sr1 e1 => by cases e1
theorem run_test {e : E} {Q : Bool → Hp → Prop} {t f : Prop} (L : Lnk G W H0 Hs0 P Dn) (sr : SR G H0 Hs0 σ H Hs ρ) (h : run1 (look1 (ev e ρ)) (P.ex · ρ) fun d => match d with | .bl true => t | .bl false => f | _ => False)
    (k : ∀ b H1 Hs1, Stp G.tabs H Hs H1 Hs1 → SR G H0 Hs0 σ H1 Hs1 ρ → (if b = true then t else f) → Q b H1) : tT G W e σ H Q := by
  rcases run1_cases h with ⟨d, h1, h2⟩ | ⟨j, h1, h2⟩
  · rcases bind_cases h1 with ⟨j, _, z⟩ | ⟨c, h3, h4⟩
    · cases z
    · obtain ⟨d', h5, h6⟩ := lift_cases h4
      cases h6
      refine ⟨H0, Hs0, Hs, ρ, _, sr, h3, ?_⟩
      split at h2
      · exact ⟨true, h5, fun H1 Hs1 st => k true H1 Hs1 st (sr.step st) h2⟩
      · exact ⟨false, h5, fun H1 Hs1 st => k false H1 Hs1 st (sr.step st) h2⟩
      · exact h2.elim
  · rcases bind_cases h1 with ⟨j', h3, z⟩ | ⟨c, h3, h4⟩
    · cases z
      exact ⟨H0, Hs0, Hs, ρ, _, sr, h3, L.erP sr h2⟩
    · obtain ⟨_, _, h6⟩ := lift_cases h4
      cases h6
/-! ### each statement -/
theorem nm_loc {i : Nat} {x : Str} {p : Pos} (h : nmAt N sc false i (.Name x p) = true) : N[i]? = some x ∧ sc.names.lookup x = some .local := by
  obtain ⟨h1, h2 | ⟨z, _⟩⟩ := nm_kind h
  · exact ⟨h1, h2⟩
  · cases z
theorem st_pass {st : Stmt} (h : chkS N sc .pass st = true) : PS X st (tSv G W (wp .pass)) := by
  simp only [chkS] at h
  split at h
  · refine ps_pass.imp fun D σ H ⟨H0, Hs0, Hs, ρ, P, sr, w, L⟩ => ?_
    simp only [wp] at w
    exact L.nx σ H Hs ρ sr w
  · cases h
theorem swaps_plain {v : Expr} {t : Option Expr} {l : Nat} {env : Env} (h : compE v = false) : swapsWith v t l env = pure false := by
  cases v <;> first | rfl | cases h
theorem st_asg (xk : XOkS G X W N sc) {i : Nat} {e : E} {st : Stmt} (h : chkS N sc (.asg i e) st = true) (rf : ∀ r ∈ refs e, RefOk G X r) : PS X st (tSv G W (wp (.asg i e))) := by
  simp only [chkS] at h
  split at h
  · rename_i x p v sp
    simp only [Bool.and_eq_true] at h
    obtain ⟨⟨h1, h2⟩, h3⟩ := h
    obtain ⟨hi, hl⟩ := nm_kind h1
    have hlc : Loc X.env.scope x := by
      rw [xk.hsc]
      rcases hl with hl | ⟨_, hl⟩
      · exact .inl hl
      · exact .inr hl
    rw [← xk.hN] at hi
    have key : ∀ {D : Ends} {σ : St} {H : Hp}, tSv G W (wp (.asg i e)) D σ H → tE G W e σ H fun x H1 => gName i x σ H1 D.nx := by
      rintro D σ H ⟨H0, Hs0, Hs, ρ, P, sr, w, L⟩
      simp only [wp] at w
      refine run_e L sr w fun c v H1 Hs1 st rc ok => ?_
      obtain ⟨c', h4, h5⟩ := optP_cases ok
      exact L.nx _ H1 Hs1 _ (sr.store st rc h4 i) h5
    by_cases hc : isLc v = true
    · rw [if_pos hc] at h3
      cases e with
      | lc t it cs elt =>
        obtain ⟨el, tg, iter, ifs, scope, pp, rfl, own, wi, g, tt, te, pi, ok, hg, ht, he, hs, q⟩ := lc_all xk.toXOkE rf h2
        by_cases hloc : sc.names.lookup x = some .local
        · have hl2 : X.env.scope.names.lookup x = some .local := by rw [xk.hsc]; exact hloc
          refine (ps_setLc (i := i) xk.calm xk.nd hi hl2 ?_ pi ok hg ht he hs).imp fun D σ H w => q _ _ _ (key w)
          have hlo : loc sc x = true := by unfold loc; rw [hloc]
          rw [hlo] at h3
          simp only [swapOk, lcNames, Bool.not_true, Bool.false_or, Bool.and_eq_true] at h3
          have hk : X.env.kindOf x = some .local := hl2
          simp only [swapsWith, xk.bk, hk]
          rw [h3.1, h3.2]
          rfl
        · have hl2 : X.env.scope.names.lookup x = some .cell := by
            rw [xk.hsc]
            rcases hl with hl | ⟨_, hl⟩
            · exact absurd hl hloc
            · exact hl
          refine (ps_set (i := i) xk.nd hi hlc ((pe_lc xk.calm xk.nd pi ok hg ht he hs).imp q) ?_ (.inl (xk.fn x))).imp fun D σ H w => key w
          have hk : X.env.kindOf x = some .cell := hl2
          simp only [swapsWith, xk.bk, hk]
          rfl
      | esp b =>
        simp only [chk] at h2
        have z := (b.pl h2).2.2
        cases v <;> simp [isLc] at hc <;> cases z
      | spec b es =>
        simp only [chk] at h2
        split at h2
        · rename_i q
          have z := (b.pl q).2.2
          cases v <;> simp [isLc] at hc <;> cases z
        · cases h2
      | _ => exact absurd h2 (by cases v <;> simp [isLc] at hc <;> simp [chk])
    · rw [if_neg hc] at h3
      have he := (sndA e xk.toXOkE rf).e v h2
      exact (ps_set (i := i) xk.nd hi hlc he (swaps_plain (by simpa using h3)) (.inl (xk.fn x))).imp fun D σ H q => key q
  · cases h
theorem st_unp (xk : XOkS G X W N sc) {t : Tgt} {e : E} {st : Stmt} (h : chkS N sc (.unp t e) st = true) (rf : ∀ r ∈ refs e, RefOk G X r) : PS X st (tSv G W (wp (.unp t e))) := by
  simp only [chkS] at h
  split at h
  · rename_i es k p v sp
    simp only [Bool.and_eq_true] at h
    obtain ⟨⟨⟨h0, h1⟩, h2⟩, h3⟩ := h
    have he := (sndA e xk.toXOkE rf).e v h2
    refine (ps_asg he (pg_tgt (fun _ => xk.fn) xk.calm xk.hN xk.hsc xk.nd h1) ?_ ?_ rfl).imp fun D σ H q => ?_
    · show swapsWith v (some (.Tuple es k p)) sp.line X.env = pure false
      unfold swapsWith
      cases v <;> rfl
    · cases v <;> first | rfl | cases h3
    · obtain ⟨H0, Hs0, Hs, ρ, P, sr, w, L⟩ := q
      simp only [wp] at w
      refine run_keep L sr w fun d v H1 Hs1 st rv sr1 ok => ?_
      obtain ⟨ρ', h4, h5⟩ := optP_cases ok
      exact bindT_ok (X := X) xk.K sr1 rv h4 fun σ' sr' _ => L.nx _ _ _ _ sr' h5
  · cases h
theorem own_at {i : Nat} {o : O} (h : ownAt ρ i = some o) : ρ[i]? = some (.own o) := by
  unfold ownAt at h
  split at h
  · rename_i o' q; cases h; exact q
  · cases h
theorem own_lst {i : Nat} {xs : List D} (h : (ownAt ρ i).bind O.lstD = some xs) : ρ[i]? = some (.own (.lst xs)) := by
  cases q : ownAt ρ i with
  | none => rw [q] at h; cases h
  | some o =>
    rw [q] at h
    have : o = .lst xs := by
      cases o <;> simp only [Option.bind_some, O.lstD] at h <;> cases h
      rfl
    subst this
    exact own_at q
theorem var_pe (xk : XOkE G X W N sc) {i : Nat} {e : Expr} (h : chk N sc 0 (.var i) e = true) : PE X e (tVar i) := by
  simp only [chk] at h
  split at h
  · rename_i x p
    simp only [Bool.and_eq_true, decide_eq_true_eq, nmOk, Bool.not_eq_true'] at h
    obtain ⟨⟨h1, h2⟩, h3, h4⟩ := h
    exact pe_var (i := i) (by rw [xk.hN]; exact h1) (xk.vis h2) h3 h4
  · cases h
theorem st_app (xk : XOkS G X W N sc) {i : Nat} {e : E} {st : Stmt} (h : chkS N sc (.app i e) st = true) (rf : ∀ r ∈ refs e, RefOk G X r) : PS X st (tSv G W (wp (.app i e))) := by
  simp only [chkS] at h
  split at h
  · rename_i x p m ap y cp sp
    simp only [Bool.and_eq_true, decide_eq_true_eq] at h
    obtain ⟨⟨⟨h1, rfl⟩, h2⟩, h3⟩ := h
    have he := (sndA e xk.toXOkE rf).e y h3
    have hp := plain_of_chk h3
    refine (ps_expr (pe_bm PySem.F.plainAttrs_list PySem.F.slot_list_append PySem.F.type_list_append mt_append (var_pe xk.toXOkE h1) (pa_cons he pa_nil (star_of hp)) rfl ?_ h2 (star_of hp) rfl) rfl).imp fun D σ H q => ?_
    · rw [star_of hp]; rfl
    · obtain ⟨H0, Hs0, Hs, ρ, P, sr, w, L⟩ := q
      simp only [wp] at w
      obtain ⟨xs, h4, h5⟩ := optP_cases w
      have h4 := own_lst h4
      obtain ⟨a, h, h6, h7, h8, _⟩ := sr.write (o' := .lst []) h4
      refine ⟨_, h6, ?_, ?_⟩
      · obtain ⟨vs, rfl, _⟩ := h8
        exact .inl ⟨rfl, vs, SqL.of h7⟩
      · refine run_keep L sr h5 fun d v H1 Hs1 st rv sr1 ok => ?_
        obtain ⟨a', h', h6', h7', h8', wr⟩ := sr1.write (o' := .lst (xs ++ [d])) h4
        rw [h6] at h6'
        cases h6'
        obtain ⟨vs, rfl, r2⟩ := h8'
        refine ⟨a, vs, v, rfl, rfl, h7', by rw [← r2.length]; exact ok.1, ?_⟩
        exact L.nx _ _ _ _ (wr _ ⟨_, rfl, r2.append (RepL.cons rv RepL.nil)⟩) ok.2
  · cases h
theorem st_ext (xk : XOkS G X W N sc) {i : Nat} {e : E} {st : Stmt} (h : chkS N sc (.ext i e) st = true) (rf : ∀ r ∈ refs e, RefOk G X r) : PS X st (tSv G W (wp (.ext i e))) := by
  simp only [chkS] at h
  split at h
  · rename_i x p m ap y cp sp
    simp only [Bool.and_eq_true, decide_eq_true_eq] at h
    obtain ⟨⟨⟨h1, rfl⟩, h2⟩, h3⟩ := h
    have he := (sndA e xk.toXOkE rf).e y h3
    have hp := plain_of_chk h3
    refine (ps_expr (pe_bm PySem.F.plainAttrs_list PySem.F.slot_list_extend PySem.F.type_list_extend mt_extend (var_pe xk.toXOkE h1) (pa_cons he pa_nil (star_of hp)) rfl ?_ h2 (star_of hp) rfl) rfl).imp fun D σ H q => ?_
    · rw [star_of hp]; rfl
    · obtain ⟨H0, Hs0, Hs, ρ, P, sr, w, L⟩ := q
      simp only [wp] at w
      obtain ⟨xs, h4, h5⟩ := optP_cases w
      have h4 := own_lst h4
      obtain ⟨a, h, h6, h7, h8, _⟩ := sr.write (o' := .lst []) h4
      refine ⟨_, h6, ?_, ?_⟩
      · obtain ⟨vs, rfl, _⟩ := h8
        exact .inl ⟨rfl, vs, SqL.of h7⟩
      · refine run_keep L sr h5 fun d v H1 Hs1 st rv sr1 ok => ?_
        split at ok
        · rename_i ys
          simp only [Rep] at rv
          obtain ⟨b, us, rfl, hb, rb⟩ := rv
          obtain ⟨a', h', h6', h7', h8', wr⟩ := sr1.write (o' := .lst (xs ++ ys)) h4
          rw [h6] at h6'
          cases h6'
          obtain ⟨vs, rfl, r2⟩ := h8'
          refine ⟨a, b, vs, us, rfl, rfl, h7', sr1.sh _ _ hb, by rw [← r2.length, ← rb.length]; exact ok.1, ?_⟩
          exact L.nx _ _ _ _ (wr _ ⟨_, rfl, r2.append rb⟩) ok.2
        · exact ok.elim
  · cases h
end
end VS

set_option Elab.async false
set_option linter.all false
set_option autoImplicit false
set_option maxRecDepth 100000
set_option maxHeartbeats 4000000
/-! VS: statements keep what they mean (2). -/
namespace VS
open PySem L2
section
variable {G : Ctx} {X : Cx} {W : WX} {N : List Str} {sc : Scope} {H0 Hs0 H Hs : Hp} {σ : St} {ρ : List C} {P : Ds} {Dn : Ends}
theorem putK_map {κ : Type} [DecidableEq κ] {Hx : Hp} {k : κ} {d : D} {v : V} (r : Rep G Hx d v) : ∀ {ks : List κ} {ds : List D} {vs : List V}, ks.length = vs.length → RepL G Hx ds vs →
    ∃ ws, (ks.zip vs).map (fun kv => if kv.1 = k then (kv.1, v) else kv) = ks.zip ws ∧ ks.length = ws.length ∧ RepL G Hx (List.zipWith (fun x w => if x = k then d else w) ks ds) ws
  | [], ds, vs, hl, rl => ⟨[], rfl, rfl, by simp [RepL]⟩
  | x :: ks, [], vs, hl, rl => by
    simp only [RepL] at rl; subst rl; simp at hl
  | x :: ks, e :: ds, vs, hl, rl => by
    simp only [RepL] at rl
    obtain ⟨w, ws, rfl, h2, h3⟩ := rl
    obtain ⟨us, e1, e2, e3⟩ := putK_map r (ks := ks) (ds := ds) (vs := ws) (by simpa using hl) h3
    refine ⟨(if x = k then v else w) :: us, ?_, by simp [e2], ?_⟩
    · rw [List.zip_cons_cons, List.map_cons, e1, List.zip_cons_cons]
      by_cases h : x = k <;> simp [h]
    · rw [List.zipWith_cons_cons]
      refine RepL.cons ?_ e3
      by_cases h : x = k
      · rw [if_pos h, if_pos h]; exact r
      · rw [if_neg h, if_neg h]; exact h2
theorem putK_zip {κ : Type} [DecidableEq κ] {Hx : Hp} {k : κ} {d : D} {v : V} (r : Rep G Hx d v) {ks : List κ} {ds : List D} {vs : List V} (hl : ks.length = vs.length) (rl : RepL G Hx ds vs) :
    ∃ ws, putK (ks.zip vs) k v = (putD ks ds k d).1.zip ws ∧ (putD ks ds k d).1.length = ws.length ∧ RepL G Hx (putD ks ds k d).2 ws := by
  have hany : ((ks.zip vs).any fun kv => decide (kv.1 = k)) = decide (k ∈ ks) := by
    clear rl
    induction ks generalizing vs with
    | nil => simp
    | cons x ks ih =>
      cases vs with
      | nil => simp at hl
      | cons w vs =>
        rw [List.zip_cons_cons, List.any_cons, ih (by simpa using hl)]
        by_cases h : x = k
        · subst h; simp
        · have h' : ¬ k = x := fun e => h e.symm
          simp [h, h']
  unfold putK putD
  rw [hany]
  by_cases h : k ∈ ks
  · simp only [h, decide_true, if_true]
    exact putK_map r hl rl
  · simp only [h, decide_false, Bool.false_eq_true, if_false]
    refine ⟨vs ++ [v], ?_, by simp [hl], rl.append (RepL.cons r RepL.nil)⟩
    rw [List.zip_append hl]
    rfl
theorem tE_imp {e : E} {Q Q' : VK} (q : tE G W e σ H Q) (k : ∀ v H1, Q v H1 → Q' v H1) : tE G W e σ H Q' := by
  obtain ⟨H0, Hs0, Hs, ρ, r, sr, ee, po⟩ := q
  refine ⟨H0, Hs0, Hs, ρ, r, sr, ee, ?_⟩
  cases r with
  | error j => exact po
  | ok c => exact fun v H1 Hs1 st rc => k v H1 (po v H1 Hs1 st rc)
theorem rd_key {x : D} {u : V} {kk : Key} (r : RdW G H Hs x u) (h : keyD x = some kk) : u = kV kk := by
  cases x <;> simp only [keyD] at h <;> cases h
  · exact rd_int r
  · exact rd_str r
theorem st_setx (xk : XOkS G X W N sc) {i : Nat} {k e : E} {st : Stmt} (h : chkS N sc (.setx i k e) st = true) (rf : ∀ r ∈ refs k ++ refs e, RefOk G X r) : PS X st (tSv G W (wp (.setx i k e))) := by
  simp only [chkS] at h
  split at h
  · rename_i x p y sp v ap
    simp only [Bool.and_eq_true, Bool.not_eq_true'] at h
    obtain ⟨⟨⟨h1, h2⟩, h3⟩, h4⟩ := h
    have hk := (sndA k xk.toXOkE fun r hr => rf r (List.mem_append_left _ hr)).e y h2
    have he := (sndA e xk.toXOkE fun r hr => rf r (List.mem_append_right _ hr)).e v h3
    have hv := var_pe xk.toXOkE h1
    refine PS.pick fun D σ H ⟨H0, Hs0, Hs, ρ, P, sr, w, L⟩ => ?_
    simp only [wp] at w
    obtain ⟨o, ho, w⟩ := optP_cases w
    have ho := own_at ho
    obtain ⟨a, hh, h6, h7, h8, _⟩ := sr.write (o' := .lst []) ho
    -- value, container, key are reckoned
    have run : ∀ {R : V → V → Hp → Prop}, (∀ d x o' v u H2 Hs2 h', Rep G Hs2 d v → RdW G H2 Hs2 x u → Same Hs2 H2 → H2 a = some h' → RepO G Hs2 o h' → setO o x d = some o' → (∀ h2, RepO G Hs2 o' h2 → D.nx σ (upd H2 a h2)) → R v u H2) → tE G W e σ H fun v H1 => tVar i σ H1 fun oo H2 => oo = .ref a ∧ tE G W k σ H2 fun u H3 => R v u H3 := by
      intro R kk
      refine run_keep L sr w fun d v H1 Hs1 st1 rv sr1 ok => ⟨_, h6, rfl, ?_⟩
      refine VS.run_look L sr1 ok fun x u H2 Hs2 st2 ru sr2 ok2 => ?_
      obtain ⟨o', h9, h10⟩ := optP_cases ok2
      obtain ⟨a', h', h6', h7', h8', wr⟩ := sr2.write (o' := o') ho
      rw [h6] at h6'
      cases h6'
      exact kk d x o' v u H2 Hs2 h' (Rep.mono st2.b _ _ rv) ru sr2.sh h7' h8' h9 fun h2 r2 => L.nx _ _ _ _ (wr h2 r2) h10
    cases o with
    | lst xs =>
      refine ⟨_, ps_asg he (pg_sub hv hk set_list (by have hy := plain_of_chk h2; intro _; cases y <;> first | rfl | cases hy)) (show swapsWith v (some (.Subscript (.Name x p) y sp)) ap.line X.env = pure false from swaps_plain h4) (by cases v <;> rfl), ?_⟩
      refine tE_imp (run (R := fun v u H2 => ∃ p xs kk j, V.ref a = .ref p ∧ u = .int kk ∧ H2 p = some (.lst xs) ∧ ixN xs.length kk = some j ∧ D.nx σ (upd H2 p (.lst (xs.set j v)))) fun d x o' v u H2 Hs2 h' rv ru s2 hh ro e9 nx => ?_) fun v H1 q => ?_
      · obtain ⟨vs, rfl, r2⟩ := ro
        cases x <;> simp only [setO] at e9 <;> first | (cases e9; done) | skip
        rename_i n
        cases hj : ixN xs.length n with
        | none => rw [hj] at e9; cases e9
        | some j =>
          rw [hj] at e9
          cases e9
          exact ⟨a, vs, n, j, rfl, rd_int ru, hh, by rw [← r2.length]; exact hj, nx _ ⟨_, rfl, r2.set j rv⟩⟩
      · obtain ⟨oo, e1, e2, q⟩ := q
        exact ⟨oo, e1, tE_imp q fun u H2 q2 => by subst e2; exact q2⟩
    | dK ks ds =>
      refine ⟨_, ps_dput xk.u1 hv hk he (swaps_plain h4), ?_⟩
      refine tE_imp (run (R := fun v u H2 => ∃ b H4, V.ref a = .ref b ∧ DPut H2 b u v H4 ∧ D.nx σ H4) fun d x o' v u H2 Hs2 h' rv ru s2 hh ro e9 nx => ?_) fun v H1 q => ?_
      · obtain ⟨vs, rfl, hl, r2⟩ := ro
        simp only [setO] at e9
        split at e9
        · rename_i hz
          cases hj : keyD x with
          | none => rw [hj] at e9; cases e9
          | some kk =>
            rw [hj] at e9
            cases e9
            obtain ⟨ws, p1, p2, p3⟩ := putK_zip rv (k := kk) hl r2
            have hu : u = kV kk := rd_key ru hj
            refine ⟨a, _, rfl, .inl ⟨_, kk, hh, hu, by rw [List.length_zip, ← hl, Nat.min_self]; exact hz, rfl⟩, ?_⟩
            rw [p1]
            exact nx _ ⟨ws, rfl, p2, p3⟩
        · cases e9
      · obtain ⟨oo, e1, e2, q⟩ := q
        exact ⟨oo, e1, tE_imp q fun u H2 q2 => by subst e2; exact q2⟩
    | dT ks ds =>
      refine ⟨_, ps_dput xk.u1 hv hk he (swaps_plain h4), ?_⟩
      refine tE_imp (run (R := fun v u H2 => ∃ b H4, V.ref a = .ref b ∧ DPut H2 b u v H4 ∧ D.nx σ H4) fun d x o' v u H2 Hs2 h' rv ru s2 hh ro e9 nx => ?_) fun v H1 q => ?_
      · obtain ⟨vs, rfl, hl, r2⟩ := ro
        simp only [setO] at e9
        cases e9
      · obtain ⟨oo, e1, e2, q⟩ := q
        exact ⟨oo, e1, tE_imp q fun u H2 q2 => by subst e2; exact q2⟩
  · cases h
theorem rep_erase {Hx : Hp} : ∀ {ds : List D} {vs : List V}, RepL G Hx ds vs → ∀ k, RepL G Hx (ds.eraseIdx k) (vs.eraseIdx k)
  | [], vs, r, k => by
    simp only [RepL] at r
    subst r
    simp [RepL]
  | d :: ds, vs, r, k => by
    simp only [RepL] at r
    obtain ⟨v, ws, rfl, r1, r2⟩ := r
    cases k with
    | zero => exact r2
    | succ k => exact RepL.cons r1 (rep_erase r2 k)
theorem mergeK_zip {Hx : Hp} : ∀ {ks2 : List Key} {ds2 : List D} {us : List V} {ks : List Key} {ds : List D} {ws : List V}, ks2.length = us.length → RepL G Hx ds2 us → ks.length = ws.length → RepL G Hx ds ws →
    ∃ ws', mergeK (ks.zip ws) (ks2.zip us) = (mrgD ks2 ds2 ks ds).1.zip ws' ∧ (mrgD ks2 ds2 ks ds).1.length = ws'.length ∧ RepL G Hx (mrgD ks2 ds2 ks ds).2 ws'
  | [], ds2, us, ks, ds, ws, h1, r1, h2, r2 => ⟨ws, by simp [mergeK, mrgD], by simpa [mrgD] using h2, by simpa [mrgD] using r2⟩
  | k :: ks2, ds2, us, ks, ds, ws, h1, r1, h2, r2 => by
    cases us with
    | nil => simp at h1
    | cons u us =>
      cases ds2 with
      | nil => simp [RepL] at r1
      | cons d ds2 =>
        have r1' : Rep G Hx d u ∧ RepL G Hx ds2 us := by
          simp only [RepL] at r1
          obtain ⟨v', us', e, r⟩ := r1
          cases e
          exact r
        obtain ⟨w1, p1, p2, p3⟩ := putK_zip r1'.1 (k := k) h2 r2
        obtain ⟨w2, q1, q2, q3⟩ := mergeK_zip (ks2 := ks2) (by simpa using h1) r1'.2 p2 p3
        refine ⟨w2, ?_, q2, q3⟩
        rw [List.zip_cons_cons]
        show mergeK (putK (ks.zip ws) k u) (ks2.zip us) = _
        rw [p1]
        exact q1
def rUpd : V → List V → Hp → VK → Prop := fun x vs H Q => ∃ (l b : Addr) (xs zs : List (Key × V)), x = .ref l ∧ vs = [.ref b] ∧ l ≠ b ∧ H l = some (.dK xs) ∧ H b = some (.dK zs) ∧ xs.length + zs.length ≤ sizeLine ∧ Q .non (upd H l (.dK (mergeK xs zs)))
theorem mt_update : MtM X "dict.update" rUpd := by
  rintro pins s σ H x vs v us Q I rx rv ⟨l, b, xs, zs, rfl, rfl, hne, hH, hB, hz, q⟩
  cases rx
  obtain ⟨u, rfl, ru⟩ := rv.one
  cases ru
  obtain ⟨z1, y1, ks, r1, d1⟩ := dk_of I.hok hH
  obtain ⟨z2, y2, ms, r2, d2⟩ := dk_of I.hok hB
  refine call_meetsIn PySem.F.slot_dict_update d1.typeIs PySem.F.entry_dict_update (PySem.F.args_dict_update_2 _ _) (meets_dict_update (mixKind X.prog X.w) l b hne y2) ⟨ks, ms, d1, d2, by rw [← r1.length, ← r2.length]; exact hz, fun h' hd' _ hs' => ?_⟩
  have he : ∃ o, h'.get? l = some o := let ⟨o, _, _, ho, _⟩ := hd'; ⟨o, ho⟩
  exact ⟨.non, _, d_write I (by rw [hH]; exact True.intro) hs' he (dk_new (Nat.le_trans (length_mergeK zs xs) hz) y1 (KV.merge r2 r1) hd'), rfl, q⟩
theorem own_dk {ρ : List C} {i : Nat} {kv : List Key × List D} (h : (ownAt ρ i).bind O.dKD = some kv) : ρ[i]? = some (.own (.dK kv.1 kv.2)) := by
  unfold ownAt at h
  split at h
  · rename_i o e
    cases o <;> simp only [O.dKD, Option.bind_some] at h <;> first | (cases h; done) | skip
    cases h
    exact e
  · cases h
theorem st_upd (xk : XOkS G X W N sc) {i : Nat} {e : E} {st : Stmt} (h : chkS N sc (.upd i e) st = true) (rf : ∀ r ∈ refs e, RefOk G X r) : PS X st (tSv G W (wp (.upd i e))) := by
  simp only [chkS] at h
  split at h
  · rename_i x p m ap y cp sp
    simp only [Bool.and_eq_true, decide_eq_true_eq] at h
    obtain ⟨⟨⟨h1, rfl⟩, h2⟩, h3⟩ := h
    have he := (sndA e xk.toXOkE rf).e y h3
    have hp := plain_of_chk h3
    refine (ps_expr (pe_bm PySem.F.plainAttrs_dict PySem.F.slot_dict_update PySem.F.type_dict_update mt_update (var_pe xk.toXOkE h1) (pa_cons he pa_nil (star_of hp)) rfl ?_ h2 (star_of hp) rfl) rfl).imp fun D σ H q => ?_
    · rw [star_of hp]; rfl
    · obtain ⟨H0, Hs0, Hs, ρ, P, sr, w, L⟩ := q
      simp only [wp] at w
      obtain ⟨kv, h4, h5⟩ := optP_cases w
      have h4 := own_dk h4
      obtain ⟨a, h, h6, h7, h8, _⟩ := sr.write (o' := .lst []) h4
      refine ⟨_, h6, ?_, ?_⟩
      · obtain ⟨vs, rfl, _, _⟩ := h8
        exact .inr (.inr (.inl ⟨rfl, .inl ⟨_, h7⟩⟩))
      · refine run_keep L sr h5 fun d v H1 Hs1 st rv sr1 ok => ?_
        split at ok
        · rename_i ks2 vs2
          simp only [Rep] at rv
          obtain ⟨b, us, rfl, hb, hbl, rb⟩ := rv
          obtain ⟨a', h', h6', h7', h8', wr⟩ := sr1.write (o' := .dK (mrgD ks2 vs2 kv.1 kv.2).1 (mrgD ks2 vs2 kv.1 kv.2).2) h4
          rw [h6] at h6'
          cases h6'
          obtain ⟨a2, h2', g1, g2, _⟩ := sr1.cell i _ h4
          rw [h6] at g1
          cases g1
          obtain ⟨ws, rfl, hwl, r2⟩ := h8'
          obtain ⟨ws', m1, m2, m3⟩ := mergeK_zip (ks2 := ks2) hbl rb hwl r2
          refine ⟨a, b, _, _, rfl, rfl, fun z => ?_, h7', sr1.sh _ _ hb, ?_, ?_⟩
          · rw [← z, g2] at hb; cases hb
          · rw [List.length_zip, List.length_zip, ← hwl, ← hbl, Nat.min_self, Nat.min_self]; exact ok.1
          · rw [m1]
            exact L.nx _ _ _ _ (wr _ ⟨ws', rfl, m2, m3⟩) ok.2
        · exact ok.elim
  · cases h
theorem st_apop (xk : XOkS G X W N sc) {i j : Nat} {e : E} {st : Stmt} (h : chkS N sc (.apop i j e) st = true) (rf : ∀ r ∈ refs e, RefOk G X r) : PS X st (tSv G W (wp (.apop i j e))) := by
  simp only [chkS] at h
  split at h
  · rename_i x p m ap x2 p2 m2 ap2 y cp2 cp sp
    simp only [Bool.and_eq_true, decide_eq_true_eq] at h
    obtain ⟨⟨⟨⟨⟨⟨h1, rfl⟩, h2⟩, g1⟩, rfl⟩, g2⟩, h3⟩ := h
    have he := (sndA e xk.toXOkE rf).e y h3
    have hp := plain_of_chk h3
    have hin := pe_bm (apos := ap2) (cpos := cp2) PySem.F.plainAttrs_list PySem.F.slot_list_pop PySem.F.type_list_pop mt_popAt (var_pe xk.toXOkE g1) (pa_cons he pa_nil (star_of hp)) rfl (by rw [star_of hp]; rfl) g2 (star_of hp) rfl
    refine (ps_expr (pe_bm PySem.F.plainAttrs_list PySem.F.slot_list_append PySem.F.type_list_append mt_append (var_pe xk.toXOkE h1) (pa_cons hin pa_nil rfl) rfl rfl h2 rfl rfl) rfl).imp fun D σ H q => ?_
    obtain ⟨H0, Hs0, Hs, ρ, P, sr, w, L⟩ := q
    simp only [wp] at w
    obtain ⟨xs, h4, w⟩ := optP_cases w
    obtain ⟨ys, g4, h5⟩ := optP_cases w
    have h4 := own_lst h4
    have g4 := own_lst g4
    obtain ⟨a, h, h6, h7, h8, _⟩ := sr.write (o' := .lst []) h4
    obtain ⟨b, hb, g6, g7, g8, _⟩ := sr.write (o' := .lst []) g4
    obtain ⟨vs, rfl, _⟩ := h8
    obtain ⟨us, rfl, _⟩ := g8
    refine ⟨_, h6, .inl ⟨rfl, vs, SqL.of h7⟩, _, g6, .inl ⟨rfl, us, SqL.of g7⟩, ?_⟩
    refine run_look L sr h5 fun d v H1 Hs1 st rv sr1 ok => ?_
    split at ok
    · rename_i z
      obtain ⟨hij, z0, z1, hy, hx, dy, hdy, ok⟩ := ok
      obtain ⟨b', hb', k6, k7, k8, wr⟩ := sr1.write (o' := .lst (ys.eraseIdx z.toNat)) g4
      rw [g6] at k6
      cases k6
      obtain ⟨us', rfl, r2⟩ := k8
      have hyl : us'[z.toNat]? = some (us'[z.toNat]'(by rw [← r2.length]; omega)) := List.getElem?_eq_getElem _
      generalize us'[z.toNat]'(by rw [← r2.length]; omega) = vy at hyl
      obtain ⟨d', e1, ry⟩ := r2.getV hyl
      rw [hdy] at e1
      cases e1
      have hs63 : (100000 : Int) < 2 ^ 63 := by decide
      refine ⟨b, us', z, z.toNat, vy, rfl, by rw [rd_int rv], k7, by omega, by omega, PySem.StrLaws.seqIndex_nonneg z0 (by rw [← r2.length]; exact z1), hyl, ?_⟩
      have rer : RepL G Hs1 (ys.eraseIdx z.toNat) (us'.eraseIdx z.toNat) := rep_erase r2 z.toNat
      have sr2 := wr _ ⟨_, rfl, rer⟩
      obtain ⟨a', h', m6, m7, m8, wr2⟩ := sr2.write (i := i) (o := .lst xs) (o' := .lst (xs ++ [dy])) (by rw [List.getElem?_set_ne (fun q => hij q.symm)]; exact h4)
      rw [h6] at m6
      cases m6
      obtain ⟨vs', rfl, r3⟩ := m8
      refine ⟨a, vs', vy, rfl, rfl, m7, by rw [← r3.length]; exact hx, ?_⟩
      exact L.nx _ _ _ _ (wr2 _ ⟨_, rfl, r3.append (RepL.cons ry RepL.nil)⟩) ok
    · exact ok.elim
  · cases h
theorem st_clr (xk : XOkS G X W N sc) {i : Nat} {st : Stmt} (h : chkS N sc (.clr i) st = true) : PS X st (tSv G W (wp (.clr i))) := by
  simp only [chkS] at h
  split at h
  · rename_i x p m ap cp sp
    simp only [Bool.and_eq_true, decide_eq_true_eq] at h
    obtain ⟨⟨h1, rfl⟩, h2⟩ := h
    refine (ps_expr (pe_bm0 PySem.F.plainAttrs_list PySem.F.slot_list_clear PySem.F.type_list_clear mt_clear (var_pe xk.toXOkE h1) rfl h2) rfl).imp fun D σ H q => ?_
    obtain ⟨H0, Hs0, Hs, ρ, P, sr, w, L⟩ := q
    simp only [wp] at w
    obtain ⟨xs, h4, h5⟩ := optP_cases w
    have h4 := own_lst h4
    obtain ⟨a, h, h6, h7, h8, wr⟩ := sr.write (o' := .lst []) h4
    obtain ⟨vs, rfl, _⟩ := h8
    refine ⟨_, h6, .inl ⟨rfl, vs, SqL.of h7⟩, a, vs, rfl, rfl, h7, ?_⟩
    exact L.nx _ _ _ _ (wr _ ⟨[], rfl, by simp [RepL]⟩) h5
  · cases h
theorem st_augA (xk : XOkS G X W N sc) {i : Nat} {e : E} {st : Stmt} (h : chkS N sc (.augA i e) st = true) (rf : ∀ r ∈ refs e, RefOk G X r) : PS X st (tSv G W (wp (.augA i e))) := by
  simp only [chkS] at h
  split at h
  · rename_i x p v sp
    simp only [Bool.and_eq_true] at h
    obtain ⟨h1, h2⟩ := h
    obtain ⟨k1, k2⟩ := nm_kind h1
    have he := (sndA e xk.toXOkE rf).e v h2
    have hl : Loc X.env.scope x := by
      rcases k2 with k2 | ⟨_, k2⟩
      · exact .inl (by rw [xk.hsc]; exact k2)
      · exact .inr (by rw [xk.hsc]; exact k2)
    refine (ps_aug xk.nd (by rw [xk.hN]; exact k1) hl he ip_add (.inl (xk.fn x))).imp fun D σ H q => ?_
    obtain ⟨H0, Hs0, Hs, ρ, P, sr, w, L⟩ := q
    simp only [wp] at w
    split at w
    · rename_i a hi
      obtain ⟨z, z1, z2⟩ := sr.cell i _ hi
      simp only [Rep] at z2
      subst z2
      refine ⟨_, z1, run_look L sr w fun d u H1 Hs1 st ru sr1 ok => ?_⟩
      split at ok
      · rename_i b
        exact ⟨a, b, rfl, rd_int ru, L.nx _ _ _ _ (sr1.store (c := .val (.int (a + b))) (Stp.refl sr1.sh) (by simp only [RepC, Rep]) rfl i) ok⟩
      · exact ok.elim
    · exact w.elim
  · cases h
theorem st_frz {i : Nat} {ss : List S} {sts : List Stmt} (h : PSs X sts (tSv G W (wps ss))) : PSs X sts (tSv G W (wps (.frz i :: ss))) := by
  refine h.imp fun D σ H ⟨H0, Hs0, Hs, ρ, P, sr, w, L⟩ => ?_
  simp only [wps, wp] at w
  obtain ⟨o, h1, h2⟩ := optP_cases w
  obtain ⟨Hs', sr'⟩ := sr.freeze (own_at h1)
  exact ⟨H0, Hs0, Hs', _, P, sr', h2, L⟩
theorem repN_of {H1 Hs1 : Hp} {c c' : C} {v : V} (k0 : Same H0 H) (r : RepC G H0 H Hs H1 Hs1 c v) (e : c.st = some c') : RepN G H0 H1 Hs1 c' v := by
  cases c with
  | val d => cases e; exact r
  | own o =>
    cases e
    obtain ⟨a, h, h1, h2, h3⟩ := r
    exact ⟨a, h, h1, k0.free h2, h3⟩
  | un => cases e
  | bor o => cases e
  | lon o => cases e
theorem st_ret (xk : XOkS G X W N sc) {e : E} {st : Stmt} (h : chkS N sc (.ret e) st = true) (rf : ∀ r ∈ refs e, RefOk G X r) : PS X st (tSv G W (wp (.ret e))) := by
  simp only [chkS] at h
  split at h
  · have he := (sndA e xk.toXOkE rf).e _ h
    refine (ps_ret he).imp fun D σ H ⟨H0, Hs0, Hs, ρ, P, sr, w, L⟩ => ?_
    simp only [wp] at w
    refine run_e L sr w fun c v H1 Hs1 st rc ok => ?_
    obtain ⟨c', h4, h5⟩ := optP_cases ok
    exact L.rt σ H1 Hs1 ρ c' v (sr.step st) h5 (repN_of sr.k0 rc h4)
  · cases h
theorem st_retV (xk : XOkS G X W N sc) {i : Nat} {st : Stmt} (h : chkS N sc (.retV i) st = true) : PS X st (tSv G W (wp (.retV i))) := by
  simp only [chkS] at h
  split at h
  · refine (ps_ret (var_pe xk.toXOkE h)).imp fun D σ H ⟨H0, Hs0, Hs, ρ, P, sr, w, L⟩ => ?_
    simp only [wp] at w
    obtain ⟨c', h4, h5⟩ := optP_cases w
    obtain ⟨c, h6, h7⟩ : ∃ c, ρ[i]? = some c ∧ c.st = some c' := by
      cases q : ρ[i]? with
      | none => rw [q] at h4; cases h4
      | some c => rw [q] at h4; exact ⟨c, rfl, h4⟩
    have r := sr.cell i c h6
    cases c with
    | un => cases h7
    | bor o => cases h7
    | lon o => cases h7
    | val d =>
      cases h7
      obtain ⟨v, e1, r⟩ := r
      exact ⟨v, e1, L.rt σ H Hs ρ _ v sr h5 r⟩
    | own o =>
      cases h7
      obtain ⟨a, h, e1, r1, r2, r3, r4⟩ := r
      exact ⟨.ref a, e1, L.rt σ H Hs ρ _ _ sr h5 ⟨a, h, rfl, r2, r1, r3, r4⟩⟩
  · cases h
theorem st_ex (xk : XOkS G X W N sc) {e : E} {st : Stmt} (h : chkS N sc (.ex e) st = true) (rf : ∀ r ∈ refs e, RefOk G X r) : PS X st (tSv G W (wp (.ex e))) := by
  simp only [chkS] at h
  split at h
  · simp only [Bool.and_eq_true, Bool.not_eq_true'] at h
    have he := (sndA e xk.toXOkE rf).e _ h.1
    refine (ps_expr he (swaps_plain h.2)).imp fun D σ H ⟨H0, Hs0, Hs, ρ, P, sr, w, L⟩ => ?_
    simp only [wp] at w
    exact run_e L sr w fun c v H1 Hs1 st rc ok => L.nx σ H1 Hs1 ρ (sr.step st) ok
  · cases h
theorem st_ifs (xk : XOkS G X W N sc) {c : E} {a b : List S} {st : Stmt} (h : chkS N sc (.ifs c a b) st = true) (rf : ∀ r ∈ refs c, RefOk G X r) (ha : ∀ sts, chkSs N sc a sts = true → PSs X sts (tSv G W (wps a))) (hb : ∀ sts, chkSs N sc b sts = true → PSs X sts (tSv G W (wps b))) : PS X st (tSv G W (wp (.ifs c a b))) := by
  simp only [chkS] at h
  split at h
  · simp only [Bool.and_eq_true] at h
    obtain ⟨⟨⟨h1, h2⟩, h3⟩, h4⟩ := h
    refine (ps_if ((sndA c xk.toXOkE rf).t _ h1 h2) (ha _ h3) (hb _ h4)).imp fun D σ H ⟨H0, Hs0, Hs, ρ, P, sr, w, L⟩ => ?_
    simp only [wp] at w
    refine run_test L sr w fun d H1 Hs1 st sr1 ok => ?_
    cases d with
    | true => exact ⟨H0, Hs0, Hs1, ρ, P, sr1, ok, L⟩
    | false => exact ⟨H0, Hs0, Hs1, ρ, P, sr1, ok, L⟩
  · cases h
theorem st_while (xk : XOkS G X W N sc) {c : E} {b : List S} {st : Stmt} (h : chkS N sc (.while_ c b) st = true) (rf : ∀ r ∈ refs c, RefOk G X r) (hb : ∀ sts, chkSs N sc b sts = true → PSs X sts (tSv G W (wps b))) : PS X st (tSv G W (wp (.while_ c b))) := by
  simp only [chkS] at h
  split at h
  · simp only [Bool.and_eq_true] at h
    obtain ⟨⟨h1, h2⟩, h3⟩ := h
    refine (ps_while xk.po ((sndA c xk.toXOkE rf).t _ h1 h2) (hb _ h3)).imp fun D σ H ⟨H0, Hs0, Hs, ρ, P, sr, w, L⟩ => ?_
    simp only [wp] at w
    obtain ⟨I, ⟨m0, i0⟩, turn⟩ := w
    refine ⟨fun m σ H => ∃ Hs ρ, SR G H0 Hs0 σ H Hs ρ ∧ I m ρ, ⟨m0, Hs, ρ, sr, i0⟩, ?_⟩
    rintro m σ1 H1 ⟨Hs1, ρ1, sr1, i1⟩
    refine run_test L sr1 (turn m ρ1 i1) fun d H2 Hs2 st sr2 ok => ?_
    cases d with
    | true =>
      simp only [if_true] at ok ⊢
      refine ⟨fun σ H => ∃ Hs ρ, SR G H0 Hs0 σ H Hs ρ ∧ ∃ m', m' < m ∧ I m' ρ, fun σ' H' ⟨Hs', ρ', s', m', hm, i'⟩ => ⟨m', hm, Hs', ρ', s', i'⟩, ?_⟩
      exact ⟨H0, Hs0, Hs2, ρ1, _, sr2, ok, ⟨fun σ H Hs ρ s h => ⟨Hs, ρ, s, h⟩, L.rt, L.ex⟩⟩
    | false =>
      simp only [Bool.false_eq_true, if_false] at ok ⊢
      exact L.nx _ _ _ _ sr2 ok
  · cases h
theorem SR.rebase (r : SR G H0 Hs0 σ H Hs ρ) : SR G H0 Hs σ H Hs ρ := ⟨r.sh, r.k0, Same.refl _, fun a h _ => h, r.len, r.cell, r.sep, r.tb, r.tg, r.k00, r.ro⟩
theorem SR.unbase {Hs1 : Hp} (k : Same Hs0 Hs1) (f : ∀ a, Hs0 a = none → H0 a ≠ none → Hs1 a = none) (r : SR G H0 Hs1 σ H Hs ρ) : SR G H0 Hs0 σ H Hs ρ := ⟨r.sh, r.k0, k.trans r.ks, fun a h1 h2 => r.fr a (f a h1 h2) h2, r.len, r.cell, r.sep, r.tb, r.tg, r.k00, r.ro⟩
theorem Lnk.unbase {Hs1 : Hp} (k : Same Hs0 Hs1) (f : ∀ a, Hs0 a = none → H0 a ≠ none → Hs1 a = none) (L : Lnk G W H0 Hs0 P Dn) : Lnk G W H0 Hs1 P Dn :=
  ⟨fun σ H Hs ρ r => L.nx σ H Hs ρ (r.unbase k f), fun σ H Hs ρ c v r => L.rt σ H Hs ρ c v (r.unbase k f), fun σ H Hs ρ c r => L.ex σ H Hs ρ c (r.unbase k f)⟩
theorem st_for (xk : XOkS G X W N sc) {t : Tgt} {it : E} {b : List S} {st : Stmt} (h : chkS N sc (.for_ t it b) st = true) (rf : ∀ r ∈ refs it, RefOk G X r) (hb : ∀ sts, chkSs N sc b sts = true → PSs X sts (tSv G W (wps b))) : PS X st (tSv G W (wp (.for_ t it b))) := by
  simp only [chkS] at h
  split at h
  · rename_i tg iter bb p
    simp only [Bool.and_eq_true] at h
    obtain ⟨⟨h1, h2⟩, h3⟩ := h
    have hi : PI X tg iter (tI G W it) := (sndA it xk.toXOkE rf).i _ tg iter (by split <;> omega) (fun z => by
      split at z
      · rename_i ht; exact tupTgt h2 ht
      · cases z) h1
    refine (ps_for xk.po xk.calm hi (pg_tgt (fun _ => xk.fn) xk.calm xk.hN xk.hsc xk.nd h2) (hb _ h3) (folded_of (plain_of_chk h1))).imp fun D σ H ⟨H0, Hs0, Hs, ρ, P, sr, w, L⟩ => ?_
    simp only [wp] at w
    rcases run1_cases w with ⟨ds, h4, h5⟩ | ⟨k, h4, h5⟩
    · refine ⟨H0, Hs0, Hs, ρ, _, sr, h4, fun J H1 Hs1 st1 wk => ?_⟩
      have sr1 := sr.step st1
      have L1 : Lnk G W H0 Hs1 P D := L.unbase sr1.ks sr1.fr
      refine ⟨fun i m σ H => i + m = ds.length ∧ ∃ Hs ρ, SR G H0 Hs1 σ H Hs ρ ∧ forW t (wps b) P (ds.drop i) ρ, ⟨ds.length, by omega, Hs1, ρ, sr1.rebase, by simpa using h5⟩, ?_⟩
      rintro i m σ2 H2 ⟨him, Hs2, ρ2, sr2, fw⟩
      by_cases hi : i < ds.length
      · right
        refine ⟨wk.go i H2 hi (sr2.ks.trans sr2.sh) sr2.k0, fun σ' H' => i + 1 + (m - 1) = ds.length ∧ ∃ Hs ρ, SR G H0 Hs1 σ' H' Hs ρ ∧ forW t (wps b) P (ds.drop (i + 1)) ρ, fun σ' H' nx => ⟨m - 1, by omega, nx⟩, fun x H3 hy => ?_⟩
        obtain ⟨Hs3, d, hd, st3, rd⟩ := wk.yld i H2 x H3 Hs2 hi sr2.ks sr2.sh sr2.k0 hy
        have hdr : ds.drop i = d :: ds.drop (i + 1) := by
          rw [List.getElem?_eq_some_iff] at hd
          obtain ⟨w, hw⟩ := hd
          rw [← hw]
          exact List.drop_eq_getElem_cons w
        rw [hdr] at fw
        unfold forW at fw
        split at fw
        · rename_i ρ' hbd
          refine bindT_ok (X := X) xk.K (sr2.step st3) rd hbd fun σ' sr' _ => ?_
          exact ⟨H0, Hs1, Hs3, ρ', _, sr', fw, ⟨fun σ H Hs ρ s h => ⟨by omega, Hs, ρ, s, h⟩, L1.rt, L1.ex⟩⟩
        · exact fw.elim
      · left
        have hii : i = ds.length := by omega
        subst hii
        rw [List.drop_length] at fw
        exact ⟨wk.stop H2 (sr2.ks.trans sr2.sh) sr2.k0, L1.nx _ _ _ _ sr2 fw⟩
    · exact ⟨H0, Hs0, Hs, ρ, _, sr, h4, L.erP sr h5⟩
  · cases h
theorem glo_of (xk : XOkE G X W N sc) {nm : Str} (h : glo sc nm = true) : Gl X nm ∧ (nm == ("__debug__" : Str)) = false := xk.glo h
theorem st_raise (xk : XOkS G X W N sc) {k : Nat} {x : Str} {st : Stmt} (h : chkS N sc (.raise_ k x) st = true) (ex : ExOk G X (.raise k x)) : PS X st (tSv G W (wp (.raise_ k x))) := by
  simp only [chkS] at h
  split at h
  · simp only [Bool.and_eq_true, decide_eq_true_eq] at h
    obtain ⟨rfl, h2⟩ := h
    obtain ⟨g1, g2⟩ := xk.glo h2
    obtain ⟨e1, ⟨B, n, i, bm, F, q⟩, e3, e4⟩ := ex
    refine (ps_raise xk.calm xk.tk (pmk_own F q e1 e3 e4 g1 g2)).imp fun D σ H ⟨H0, Hs0, Hs, ρ, P, sr, w, L⟩ => ?_
    simp only [wp] at w
    exact L.ex σ H Hs ρ k sr w
  · cases h
end
end VS

set_option Elab.async false
set_option linter.all false
set_option autoImplicit false
set_option maxRecDepth 100000
set_option maxHeartbeats 4000000
/-! VS: try: .. except X as n: u = n, the error kept. -/
namespace VS
open PySem PySem.Spec PyProof.Rows L2
section
variable {X : Cx} {pins : List (Addr × Obj)}
/-- an object that a later state has, and that nothing tracked, is tracked -/
theorem inv_track {σ0 σ : L2.St} {Hx H : Hp} {s0 s : Shared} {a : Addr} {o : HO} (J : Inv X pins σ0 Hx s0) (hp : s0.heap.get? a = none) (I : Inv X pins σ H s) (hn : H a = none) (new : ObjOk X.prog X.w (upd H a o) s.heap a o) : Inv X pins σ (upd H a o) s := by
  have ne : ∀ {b : Addr} {u : Obj}, s0.heap.get? b = some u → b ≠ a := fun {b u} q z => by rw [z, hp] at q; cases q
  refine ⟨I.ok, I.os, I.bare, ⟨I.base.keep, I.base.slot, fun b u q n hx => ?_, I.base.there, fun b xs q => ?_, fun b u xs q => ?_, fun b ps q => ?_⟩, I.loc, I.cell, ?_, fun y c e => ?_, fun p hpn => ?_, fun b u e => ?_, I.len⟩
  · obtain ⟨o', q'⟩ := J.base.there b u q hx
    rw [upd_ne (ne q')]
    exact I.base.free b u q n hx
  · have h1 := I.base.tups b xs q
    rw [upd_ne (ne_of_none h1 hn)]; exact h1
  · have h1 := I.base.frzs b u xs q
    rw [upd_ne (ne_of_none h1 hn)]; exact h1
  · obtain ⟨more, h1⟩ := I.base.tbls b ps q
    exact ⟨more, by rw [upd_ne (ne_of_none h1 hn)]; exact h1⟩
  · obtain ⟨m, hm, _⟩ := J.loc
    obtain ⟨oL, _, _, hoL, _⟩ := id hm
    rw [upd_ne (ne hoL)]
    exact I.free
  · obtain ⟨w, z⟩ := J.cell y c e
    obtain ⟨oc, h1, _⟩ := z
    rw [upd_ne (ne h1)]
    exact I.freeC y c e
  · have h0 := (J.pin p hpn).1
    obtain ⟨q1, q2, q3, q4, q5⟩ := I.pin p hpn
    exact ⟨q1, by rw [upd_ne (ne h0)]; exact q2, q3, q4, q5⟩
  · by_cases hb : b = a
    · rw [hb, upd_same] at e
      cases e
      rw [hb]; exact new
    · rw [upd_ne hb] at e
      exact (I.hok b u e).stay (fun _ _ _ q => q) (fun c q => by rw [upd_ne (ne_of_none q hn)]; exact q) fun c xs q => by rw [upd_ne (ne_of_none q hn)]; exact q
end
/-- what such a clause asks of an exception out of the body -/
def wKeep (K : PySem.W.Frag) (c : Value) (i j : Nat) (Wout : WX) (D : Ends) : WX := fun cls d σ H =>
  ∃ C b, cls = .ref C ∧ d = none ∧ PySem.W.exmOne K cls c = some b ∧ (b = true → ∀ a, H a = none → D.nx ((σ.set j (some (.ref a))).set i none) (upd H a (ErrO C a))) ∧ (b = false → Wout cls d σ H)
section
variable {X : Cx} {x n u : Str} {c : Value} {i j : Nat} {body : List Stmt} {np up vp sp pos pos' : Pos} {tb : WX → TS} {Wout : WX}
theorem ps_try_keep (hs : X.stack = X.env :: X.outer) (hf : X.env.frame = some X.env.locals) (nd : X.N.Nodup) (hi : X.N[i]? = some n) (hln : X.env.kindOf n = some .local) (hj : X.N[j]? = some u) (hlu : X.env.scope.names.lookup u = some .local) (hij : i ≠ j)
    (nm : (n == ("__debug__" : Str)) = false ∧ (n == ("__classdict__" : Str)) = false) (hc : Names X x c) (tk : Takes X Wout)
    (hb : ∀ (W : WX) (pn : List (Addr × Obj)) (xe : Value → Shared → Prop), Takes (X.tr pn xe) W → PassesOwn (model X.prog X.w) X.A X.env xe → PSs (X.tr pn xe) body (tb W)) :
    PS X (.Try body [.ExceptHandler (some (.Name x np)) (some n) [.Assign [.Name u up] (.Name n vp) sp] pos'] [] [] pos) (fun D σ H => tb (wKeep X.K c i j Wout D) D σ H) := by
  refine ⟨fun pins s σ H D I hwish => ?_⟩
  have okX := I.ok
  have frames : X.A.frames = some (X.env :: X.outer) := by rw [okX.frames, hs]
  refine wpAny_Try_except ?_
  have run := (hb (wKeep X.K c i j Wout D) (X.pn ++ pins)
    (fun e t1 => wpAny (model X.prog X.w) X.A (noteFrame e X.env) (fun _ t2 => wpAny (model X.prog X.w) X.A (setFlight e none)
      (fun _ t3 => wpAny (model X.prog X.w) X.A (handleBy e X.env [.ExceptHandler (some (.Name x np)) (some n) [.Assign [.Name u up] (.Name n vp) sp] pos']) (SP X pins D) X.xe t3) X.xe t2) X.xe t1)
    (fun w t' flying => ?caught) PassesOwn.looking).run [] s σ H D (I.toTry _) hwish
  · refine wpAny_mono run (fun f t1 hsp => ?_) (fun _ _ he => he)
    cases f with
    | next =>
      obtain ⟨σ', H', J', q⟩ := hsp
      exact wpAny_execs_nil ⟨σ', H', J'.ofTry okX, q⟩
    | brk => obtain ⟨σ', H', J', q⟩ := hsp; exact ⟨σ', H', J'.ofTry okX, q⟩
    | cont => obtain ⟨σ', H', J', q⟩ := hsp; exact ⟨σ', H', J'.ofTry okX, q⟩
    | ret w => obtain ⟨v, σ', H', J', r, q⟩ := hsp; exact ⟨v, σ', H', J'.ofTry okX, r, q⟩
  case caught =>
    obtain ⟨a, B, sI, pins', σ', H', cls, d, rfl, J', nb, upI, sky, na, os, ag, C, b, rfl, rfl, hb1, hyes, hno⟩ := flying
    have J : Inv X pins σ' H' sI := J'.ofTry okX
    rw [show X.stack = _ from hs] at sky
    show wpAny (model X.prog X.w) X.A (noteFrame (.ref a) X.env) _ _ _
    refine Sky.land Zc.steady frames hf sky fun h3 fly3 up3 => ?_
    have J3 : Inv X pins σ' H' { t' with heap := h3 } := J.landed nb fly3.1 (upI.trans up3) os ag
    obtain ⟨o3, vs3, at3, zc3, data3⟩ := fly3.there
    -- the exception's object is no frame
    have free3 : a ∉ frs (X.env :: X.outer) := fun hm => by
      obtain ⟨_, o', e', hnf⟩ := fly3.2.2.1.mem hm
      rw [at3] at e'
      cases e'
      exact hnf _ data3
    have notL : a ≠ X.env.locals := fun z => free3 (List.mem_filterMap.mpr ⟨X.env, List.mem_cons_self, by rw [hf, z]⟩)
    have notF : a ∉ X.fs := fun hm => by
      obtain ⟨e0, he0, q0⟩ := List.mem_filterMap.mp hm
      exact free3 (List.mem_filterMap.mpr ⟨e0, List.mem_cons_of_mem _ he0, q0⟩)
    have newI : sI.heap.get? a = none := by
      cases q : sI.heap.get? a with
      | none => rfl
      | some o0 =>
        have hB := nb a o0 q (by show a ∉ frs X.stack; rw [hs]; exact free3)
        have hBn : B.get? a = none := fly3.2.1
        rw [hBn] at hB; cases hB
    have S3 := J3.suite at3 data3 na notL notF
    refine wpAny_handleBy_cons (codeAny_handlers_test ?_) (by intro q; cases q)
    have looksT : PySem.W.Looks (model X.prog X.w) h3 (typeOf (.ref a)) (.ref C) := fun A Q E s k q => wpAny_typeOf_ref (k _ _ at3) (by rw [zc3.1]; exact q)
    have looksM := PySem.W.exm_one (M := model X.prog X.w) (J3.kIn) looksT hb1
    have named : ∀ {Q : Value → Shared → Prop} {E : Value → Shared → Prop}, Q c { t' with heap := h3 } → wpAny (model X.prog X.w) (X.A.mark (some (.ref a))) (eval (.Name x np) X.env) Q E { t' with heap := h3 } := fun {Q E} q => by
      obtain ⟨hg, hdbg, hm | ⟨hm, hv, hnn⟩⟩ := hc
      · exact ld_glob (X := X.suite a ((a, o3) :: (X.pn ++ pins))) S3 hg hm q hdbg
      · exact ld_blt (X := X.suite a ((a, o3) :: (X.pn ++ pins))) S3 hg hm hv q hnn hdbg
    refine named (looksM.here ?_)
    cases b with
    | true =>
      refine codeAny_handlers_suite_as ?_
      refine HandSPX.lands_againZ fly3 fun h4 fly4 up4 => ?_
      have J4 : Inv X pins σ' H' { t' with heap := h4 } := J.landed nb fly4.1 ((upI.trans up3).trans up4) os ag
      obtain ⟨o4, vs4, at4, zc4, data4⟩ := fly4.there
      have S4 := J4.suite at4 data4 na notL notF
      refine store_ok (X := X.suite a ((a, o4) :: (X.pn ++ pins))) (v := .ref a) S4 nd hi (.inl hln) rfl (fun s5 S5 => ?_) (.inr hln)
      have suiteRun : PSs (X.suite a ((a, o4) :: (X.pn ++ pins))) [.Assign [.Name u up] (.Name n vp) sp] (tAsg (tVar i) (gName j)) :=
        pss_one (ps_set (X := X.suite a ((a, o4) :: (X.pn ++ pins))) nd hj (.inl hlu) (pe_var (X := X.suite a ((a, o4) :: (X.pn ++ pins))) hi (.inl hln) nm.1 nm.2) rfl (.inr hlu))
      have hlen : i < σ'.length := by
        have h1 := J4.len
        have h2 := (List.getElem?_eq_some_iff.mp hi).1
        omega
      refine wpAny_mono (suiteRun.run [] s5 _ H' { nx := fun σ6 H6 => σ6 = (σ'.set i (some (.ref a))).set j (some (.ref a)) ∧ H6 = H', rt := fun _ _ => False } S5 ⟨.ref a, by rw [List.getElem?_set_self hlen], rfl, rfl⟩) (fun f s6 hsp => ?_) (fun _ _ z => False.elim z)
      cases f with
      | next =>
        obtain ⟨σ6, H6, S6, rfl, rfl⟩ := hsp
        have at6 : s6.heap.get? a = some o4 := (S6.pin (a, o4) (List.mem_append_left _ List.mem_cons_self)).1
        have T6 := inv_track (o := ErrO C a) J newI (S6.unsuite okX) na ⟨⟨o4, vs4, at6, zc4, data4⟩, ⟨o4, at6⟩, fun _ _ ⟨o, v, q, r⟩ k => ⟨o, v, k o q, r⟩⟩
        refine gone_ok T6 nd hi hln fun s7 J7 => ⟨_, _, J7, ?_⟩
        have := hyes rfl a na
        rw [List.set_comm _ _ hij, List.set_set]
        exact this
      | brk => obtain ⟨_, _, _, q⟩ := hsp; exact q.elim
      | cont => obtain ⟨_, _, _, q⟩ := hsp; exact q.elim
      | ret w => obtain ⟨_, _, _, _, _, q⟩ := hsp; exact q.elim
    | false =>
      show wpAny _ X.A (handleBy (.ref a) X.env []) _ _ _
      refine wpAny_handleBy_nil ?_
      obtain ⟨y1, y2, y3, oe, vs, T, oT, ts', he, hz, hd, h1, hr⟩ := id fly3
      unfold PySem.passOn
      refine wpAny_bind (wpAny_field he hd h1 ?_)
      rw [if_neg (show ¬ ((Value.ref T == Value.none) = true) from by simp)]
      have onward : wpAny (model X.prog X.w) X.A (setFlight (.ref a) X.env.frame) (fun _ t4 => wpAny (model X.prog X.w) X.A (throw (.ref a) : Sem Flow) (SP X pins D) X.xe t4) X.xe { t' with heap := h3 } := by
        rw [hf]
        refine HandSPX.setFlight_upZ fly3 fun h4 hold4 up4 => wpAny_throw (tk _ _ ?_)
        exact ⟨a, B, sI, pins, σ', H', .ref C, none, rfl, J, nb, (upI.trans up3).trans up4, .inr (.inr (by rw [hs]; exact hold4)), na, os, ag, hno rfl⟩
      first
        | exact wpAny_bind (wpAny_pure (wpAny_bind onward))
        | exact wpAny_bind onward
end
end VS

set_option Elab.async false
set_option linter.all false
set_option autoImplicit false
set_option maxRecDepth 100000
set_option maxHeartbeats 4000000
/-! VS: all statements; a def keeps its promise. -/
namespace VS
open PySem L2
def SndS (G : Ctx) (s : S) : Prop := ∀ {X : Cx} {W : WX} {N : List Str} {sc : Scope}, XOkS G X W N sc → (∀ r ∈ refS s, RefOk G X r) → (∀ x ∈ excS s, ExOk G X x) → ∀ st, chkS N sc s st = true → PS X st (tSv G W (wp s))
def SndSs (G : Ctx) (ss : List S) : Prop := ∀ {X : Cx} {W : WX} {N : List Str} {sc : Scope}, XOkS G X W N sc → (∀ r ∈ refSs ss, RefOk G X r) → (∀ x ∈ excSs ss, ExOk G X x) → ∀ sts, chkSs N sc ss sts = true → PSs X sts (tSv G W (wps ss))
section
variable {G : Ctx} {X : Cx} {W : WX} {N : List Str} {sc : Scope} {H0 Hs0 H Hs : Hp} {σ : St} {ρ : List C} {P : Ds} {Dn : Ends}
theorem ref_tr {pn : List (Addr × Obj)} {xe : Value → Shared → Prop} : ∀ {r : Ref}, RefOk G X r → RefOk G (X.tr pn xe) r
  | .fn _ _, h => h
  | .mt _ _ _, h => h
  | .mk _ _ _, h => h
  | .gl _ _, h => h
  | .kl _, h => ⟨h.mg, h.ty, h.er, h.ex⟩
  | .fl _ _, h => h
  | .hd _ _, h => h
  | .any b, h => b.tr h
theorem ex_tr {pn : List (Addr × Obj)} {xe : Value → Shared → Prop} : ∀ {r : Exr}, ExOk G X r → ExOk G (X.tr pn xe) r
  | .raise _ _, h => h
  | .catch _ _ _, h => h
  | .any b, h => b.tr h
theorem xok_tr (xk : XOkS G X W N sc) {pn : List (Addr × Obj)} {xe : Value → Shared → Prop} {W' : WX} (tk : Takes (X.tr pn xe) W') (po : PassesOwn (model X.prog X.w) X.A X.env xe) : XOkS G (X.tr pn xe) W' N sc :=
  ⟨⟨⟨xk.K, xk.calm, xk.nd, xk.units⟩, xk.hN, xk.hsc, xk.nb, tk⟩, xk.bk, xk.st, xk.fr, po, xk.fn⟩
theorem SR.clear (r : SR G H0 Hs0 σ H Hs ρ) (n : Nat) : SR G H0 Hs0 (σ.set n none) H Hs (ρ.set n .un) := r.wipe [n]
theorem st_try (xk : XOkS G X W N sc) {es : List Nat} {b : List S} {k n j : Nat} {x : Str} {st : Stmt} (h : chkS N sc (.tryE es b k x n j) st = true) (hb : SndSs G b) (rf : ∀ r ∈ refSs b, RefOk G X r) (ex : ∀ r ∈ Exr.catch es k x :: excSs b, ExOk G X r) : PS X st (tSv G W (wp (.tryE es b k x n j))) := by
  simp only [chkS] at h
  split at h
  · rename_i bd y np z u up v vp sp pos' pos
    simp only [Bool.and_eq_true, decide_eq_true_eq] at h
    obtain ⟨⟨⟨⟨⟨⟨⟨rfl, h2⟩, rfl⟩, h4⟩, h5⟩, h6⟩, h7⟩, h8⟩ := h
    obtain ⟨g1, g2⟩ := xk.glo h2
    obtain ⟨hn, hln⟩ := nm_loc h4
    obtain ⟨hj, hlj⟩ := nm_loc h6
    simp only [nmOk, Bool.and_eq_true, Bool.not_eq_true'] at h5
    obtain ⟨c1, c2⟩ := ex _ List.mem_cons_self
    refine (ps_try_keep (c := .ref (G.cls k)) (tb := fun W' => tSv G W' (wps b)) xk.st xk.fr xk.nd (by rw [xk.hN]; exact hn) (show X.env.scope.names.lookup v = _ from by rw [xk.hsc]; exact hln) (by rw [xk.hN]; exact hj) (by rw [xk.hsc]; exact hlj) h7 h5 ⟨g1, g2, .inl c1⟩ xk.tk
      (fun W' pn xe tk po => hb (xok_tr xk tk po) (fun r hr => ref_tr (rf r hr)) (fun r hr => ex_tr (ex r (List.mem_cons_of_mem _ hr))) bd h8)).imp fun D σ H ⟨H0, Hs0, Hs, ρ, P, sr, w, L⟩ => ?_
    simp only [wp] at w
    refine ⟨H0, Hs0, Hs, ρ, _, sr, w, ⟨L.nx, L.rt, fun σ' H' Hs' ρ' e sr' hq => ?_⟩⟩
    obtain ⟨he, hq⟩ := hq
    obtain ⟨d1, d2⟩ := c2 e he
    refine ⟨G.cls e, _, rfl, rfl, d2, fun hs a ha => ?_, fun hs => ?_⟩
    · rw [if_pos hs] at hq
      have st := Stp.sh (T := G.tabs) (o := ErrO (G.cls e) a) sr'.sh ha
      refine L.nx _ _ _ _ ((sr'.store (c := .val (.err e)) st ?_ rfl j).clear n) hq
      simp only [RepC, Rep]
      exact ⟨a, rfl, upd_same, d1⟩
    · rw [if_neg (by rw [hs]; exact Bool.false_ne_true)] at hq
      exact L.ex σ' H' Hs' ρ' e sr' hq
  · cases h
theorem seq_nil : PSs X [] (tSv G W (wps [])) := pss_nil.imp fun D σ H ⟨H0, Hs0, Hs, ρ, P, sr, w, L⟩ => by
  simp only [wps] at w
  exact L.nx _ _ _ _ sr w
theorem seq_cons {s : S} {ss : List S} {st : Stmt} {sts : List Stmt} (h1 : PS X st (tSv G W (wp s))) (h2 : PSs X sts (tSv G W (wps ss))) : PSs X (st :: sts) (tSv G W (wps (s :: ss))) :=
  (pss_cons h1 h2).imp fun D σ H ⟨H0, Hs0, Hs, ρ, P, sr, w, L⟩ => by
    simp only [wps] at w
    exact ⟨H0, Hs0, Hs, ρ, _, sr, w, ⟨fun σ' H' Hs' ρ' sr' w' => ⟨H0, Hs0, Hs', ρ', P, sr', w', L⟩, L.rt, L.ex⟩⟩
end
theorem sndS_cons {G : Ctx} {s : S} {ss : List S} (h1 : SndS G s) (h2 : SndSs G ss) : SndSs G (s :: ss) := by
  intro X W N sc xk rf ex sts h
  have r2 : ∀ r ∈ refSs ss, RefOk G X r := fun r hr => rf r (List.mem_append_right _ hr)
  have e2 : ∀ r ∈ excSs ss, ExOk G X r := fun r hr => ex r (List.mem_append_right _ hr)
  have r1 : ∀ r ∈ refS s, RefOk G X r := fun r hr => rf r (List.mem_append_left _ hr)
  have e1 : ∀ r ∈ excS s, ExOk G X r := fun r hr => ex r (List.mem_append_left _ hr)
  have go : (∀ i, s ≠ .frz i) → PSs X sts (tSv G W (wps (s :: ss))) := fun hs => by
    cases sts with
    | nil => cases s <;> first | (simp [chkSs] at h; done) | exact absurd rfl (hs _)
    | cons st sts =>
      have h' : chkS N sc s st = true ∧ chkSs N sc ss sts = true := by
        cases s <;> first | exact absurd rfl (hs _) | (simp only [chkSs, Bool.and_eq_true] at h; exact h)
      exact seq_cons (h1 xk r1 e1 st h'.1) (h2 xk r2 e2 sts h'.2)
  by_cases hs : ∃ i, s = .frz i
  · obtain ⟨i, rfl⟩ := hs
    refine st_frz (h2 xk r2 e2 sts ?_)
    cases sts <;> simpa only [chkSs] using h
  · exact go fun i e => hs ⟨i, e⟩
theorem sndS (G : Ctx) (s0 : S) : SndS G s0 := by
  refine @VS.S.rec (fun s => SndS G s) (fun ss => SndSs G ss)
    ?pass ?asg ?unp ?app ?ext ?setx ?frz ?ret ?retV ?ex ?ifs ?for_ ?while_ ?raise_ ?tryE ?upd ?clr ?augA ?apop ?sp ?nil ?cons s0
  case pass =>
   exact fun xk rf ex st h => st_pass h
  case asg =>
   exact fun i e {X W N sc} xk rf ex st h => st_asg xk h rf
  case unp =>
   exact fun t e {X W N sc} xk rf ex st h => st_unp xk h rf
  case app =>
   exact fun i e {X W N sc} xk rf ex st h => st_app xk h rf
  case ext =>
   exact fun i e {X W N sc} xk rf ex st h => st_ext xk h rf
  case setx =>
   exact fun i k e {X W N sc} xk rf ex st h => st_setx xk h rf
  case frz =>
   exact fun i {X W N sc} xk rf ex st h => by simp [chkS] at h
  case ret =>
   exact fun e {X W N sc} xk rf ex st h => st_ret xk h rf
  case retV =>
   exact fun i {X W N sc} xk rf ex st h => st_retV xk h
  case ex =>
   exact fun e {X W N sc} xk rf ex st h => st_ex xk h rf
  case ifs =>
   exact fun c a b ha hb {X W N sc} xk rf ex st h => st_ifs xk h (fun r hr => rf r (List.mem_append_left _ hr))
    (ha xk (fun r hr => rf r (List.mem_append_right _ (List.mem_append_left _ hr))) fun r hr => ex r (List.mem_append_left _ hr))
    (hb xk (fun r hr => rf r (List.mem_append_right _ (List.mem_append_right _ hr))) fun r hr => ex r (List.mem_append_right _ hr))
  case for_ =>
   exact fun t it b hb {X W N sc} xk rf ex st h => st_for xk h (fun r hr => rf r (List.mem_append_left _ hr)) (hb xk (fun r hr => rf r (List.mem_append_right _ hr)) ex)
  case while_ =>
   exact fun c b hb {X W N sc} xk rf ex st h => st_while xk h (fun r hr => rf r (List.mem_append_left _ hr)) (hb xk (fun r hr => rf r (List.mem_append_right _ hr)) ex)
  case raise_ =>
   exact fun k x {X W N sc} xk rf ex st h => st_raise xk h (ex _ (List.mem_singleton.mpr rfl))
  case tryE =>
   exact fun es b k x n j hb {X W N sc} xk rf ex st h => st_try xk h hb rf ex
  case upd =>
   exact fun i e {X W N sc} xk rf ex st h => st_upd xk h rf
  case clr =>
   exact fun i {X W N sc} xk rf ex st h => st_clr xk h
  case apop =>
   exact fun i j e {X W N sc} xk rf ex st h => st_apop xk h rf
  case sp =>
   exact fun b {X W N sc} xk rf ex st h => by
    simp only [chkS] at h
    exact (b.ok xk rf ex h).imp fun D σ H ⟨H0, Hs0, Hs, ρ, P, sr, w, L⟩ => ⟨H0, Hs0, Hs, ρ, P, sr, by simp only [wp] at w; exact w, L⟩
  case augA =>
   exact fun i e {X W N sc} xk rf ex st h => st_augA xk h rf
  case nil =>
   exact fun {X W N sc} xk rf ex sts h => by
    cases sts with
    | nil => exact seq_nil
    | cons _ _ => simp [chkSs] at h
  case cons =>
   exact fun s ss h1 h2 => sndS_cons h1 h2
theorem sndSs (G : Ctx) : ∀ ss : List S, SndSs G ss
  | [] => by
    intro xk rf ex sts h
    cases sts with
    | nil => exact seq_nil
    | cons _ _ => simp [chkSs] at h
  | s :: ss => sndS_cons (sndS G s) (sndSs G ss)

/-! ### a def -/
/-- what a def's body has to end in, for the result r -/
def DsOf (r : Except Nat C) : Ds := { nx := fun _ => r = .ok (.val .non), rt := fun c _ => r = .ok c, ex := fun k _ => r = .error k }
/-- the slots at a def's start -/
def start0 (N : List Str) (cs : List C) : List C := cs ++ List.replicate (N.length - cs.length) .un
theorem args_len {G : Ctx} {H Hs : Hp} : ∀ {cs : List C} {vs : List V}, ArgsR G H Hs cs vs → cs.length = vs.length
  | [], vs, h => by cases (show vs = [] from h); rfl
  | c :: cs, vs, h => by
    obtain ⟨v, ws, rfl, _, h2⟩ := h
    simp [args_len h2]
theorem args_get {G : Ctx} {H Hs : Hp} : ∀ {cs : List C} {vs : List V} {i : Nat} {c : C}, ArgsR G H Hs cs vs → cs[i]? = some c → ∃ v, vs[i]? = some v ∧ ArgR G H Hs c v
  | [], _, _, _, _, e => by simp at e
  | c :: cs, vs, i, d, h, e => by
    obtain ⟨v, ws, rfl, h1, h2⟩ := h
    cases i with
    | zero => cases e; exact ⟨v, rfl, h1⟩
    | succ i =>
      have e' : cs[i]? = some d := by simpa using e
      obtain ⟨u, h3, h4⟩ := args_get h2 e'
      exact ⟨u, by simpa using h3, h4⟩
section
variable {P : Program} {w : World} {K : PySem.W.Frag} {mg : Str → Option Value} {base : Heap}
theorem lt_un {a b k : Nat} (h : a + 16 * k + 200 < b) : a + 65 < b := by omega
theorem fn_ok {G : Ctx} {x qual : Str} {st : Stmt} {f : Addr} {fd : FuncData} {N ps : List Str} {k : Nat} {m : Mir} (ss : List S) (F : Fun K x qual st f fd) (Sc : FnScope N ps (defScope st)) (hK : K = G.K) (nb : ∀ x ∈ bltNames, mg x = none)
    (hchk : chkSs N (defScope st) ss (defBody st) = true)
    (hrf : ∀ X : Cx, X.prog = P → X.w = w → X.K = K → X.mg = mg → X.base = base → Room k X.A → ∀ r ∈ refSs ss, RefOk G X r)
    (hex : ∀ X : Cx, X.K = K → X.mg = mg → ∀ r ∈ excSs ss, ExOk G X r)
    (hlen : ∀ cs r, m cs = some r → cs.length = ps.length)
    (hm : ∀ cs r, m cs = some r → wps ss (DsOf r) (start0 N cs)) : FnOk P w K mg base (L2.CX P w) (k + 1) f fd ps (spM G m) := by
  refine F.okX Sc (fun vs H Q E ⟨Hs, cs, r, s0, _, ra, e, _⟩ => by rw [← args_len ra]; exact hlen cs r e) fun cdv A outer s H vs Q E hr ⟨Hs, cs, r, s0, t0, ra, e, post⟩ => ?_
  have hlc := hlen cs r e
  have hlv := args_len ra
  have xk : XOkS G (cxOf (L2.CX P w) P w K mg base N qual (defScope st) f cdv A outer s H E) (fun cls d σ H => E cls d H) N (defScope st) :=
    ⟨⟨⟨hK, rfl, Sc.nd, lt_un hr.un⟩, rfl, rfl, nb, takes_of rfl rfl rfl rfl⟩, (by show (if (defScope st).kind.isAnnotationScope then _ else (defScope st).kind) = ScopeKind.function; rw [Sc.kind]; rfl), rfl, rfl, passes_of rfl, fun _ => rfl⟩
  refine ⟨_, sndSs G ss xk (hrf _ rfl rfl rfl rfl rfl hr) (hex _ rfl rfl) _ hchk, ?_⟩
  have hNl : ps.length ≤ N.length := by have := congrArg List.length Sc.pre; rw [List.length_take] at this; omega
  refine ⟨H, Hs, Hs, start0 N cs, DsOf r, ?_, hm cs r e, ?_⟩
  · have hcsl : (start0 N cs).length = (L2.start N vs).length := by
      unfold start0 L2.start
      simp only [List.length_append, List.length_replicate, List.length_map]
      omega
    have hun : ∀ i c, (start0 N cs)[i]? = some c → c = C.un ∨ cs[i]? = some c := fun i c e => by
      unfold start0 at e
      by_cases hi : i < cs.length
      · rw [List.getElem?_append_left hi] at e; exact .inr e
      · rw [List.getElem?_append_right (by omega)] at e
        exact .inl (List.eq_of_mem_replicate (List.mem_of_getElem? e))
    have hv : ∀ i v, vs[i]? = some v → (L2.start N vs)[i]? = some (some v) := fun i v e => by
      unfold L2.start
      have hi := (List.getElem?_eq_some_iff.mp e).1
      rw [List.getElem?_append_left (by simpa using hi), List.getElem?_map, e]
      rfl
    refine ⟨s0.s, Same.refl _, Same.refl _, fun a h _ => h, hcsl, fun i c ec => ?_, fun i j o o' x ei ej _ _ => ?_, TbS.refl _, t0, s0.a, s0⟩
    · rcases hun i c ec with rfl | e2
      · trivial
      · obtain ⟨v, h1, h2⟩ := args_get ra e2
        rw [hv i v h1]
        cases c with
        | un => trivial
        | val d => exact ⟨v, rfl, h2⟩
        | bor o => exact ⟨v, rfl, h2⟩
        | own o => exact h2.elim
        | lon o => exact h2.elim
    · rcases hun i _ ei with z | e2
      · cases z
      · obtain ⟨_, _, z⟩ := args_get ra e2
        exact z.elim
  · refine ⟨fun σ' H' Hs' ρ' sr' z => ?_, fun σ' H' Hs' ρ' c v sr' z rn => ?_, fun σ' H' Hs' ρ' e' sr' z => ?_⟩
    · have z : r = .ok (.val .non) := z
      subst z
      have post : PostN G H Hs (.val .non) Q := post
      exact post .non H' Hs' ⟨sr'.k0, sr'.ks, sr'.fr, sr'.sh, sr'.tb⟩ (by simp [RepN, Rep])
    · have z : r = .ok c := z
      subst z
      have post : PostN G H Hs c Q := post
      exact post v H' Hs' ⟨sr'.k0, sr'.ks, sr'.fr, sr'.sh, sr'.tb⟩ rn
    · have z : r = .error e' := z
      subst z
      exact post H' Hs' ⟨sr'.k0, sr'.ks, sr'.fr, sr'.sh, sr'.tb⟩
end
end VS

set_option Elab.async false
set_option linter.all false
set_option autoImplicit false
set_option maxRecDepth 100000
set_option maxHeartbeats 4000000
/-! VS: sorted() of a tuple of ints; the built-in functions by their meaning. -/
namespace VS
open PySem PySem.Spec PyProof.Rows L2
section
variable {prog : Program} {w : World} {A : Around} {E : Value → Shared → Prop} {s : Shared}
/-- what a tuple holds is gathered into a new list -/
theorem gather_tup {t : Addr} {vs : List Value} {Q : List Value → Shared → Prop} (ht : IsTup s.heap t vs.toArray) (hz : vs.length ≤ sizeLine)
    (h : Q vs { s with heap := (s.heap.push (seqObj "list" #[] 0)).update s.heap.objs.size (Obj.mapSeq (· ++ vs.toArray)) }) : wpAny (model prog w) A (PySem.collect (.ref t)) Q E s := by
  obtain ⟨o, got, isT, n, dat⟩ := id ht
  unfold PySem.collect
  refine wpAny_bind (wpAny_runValue (codeAny_builtin entry_proto_collect' ?_))
  show wpAny _ _ (do again (.builtin "list.__iadd__" ⟨[← newList [], .ref t], []⟩)) _ _ s
  refine wpAny_bind (wpAny_newList (wpAny_pure ⟨Code.quiet_builtin _ (by decide +kernel), codeAny_builtin entry_list_iadd' ?_⟩))
  show wpAny _ _ (Builtin.List.listExtendWith (.ref s.heap.objs.size) (.ref t) (.ref s.heap.objs.size)) _ _ { s with heap := s.heap.push (seqObj "list" #[] 0) }
  unfold Builtin.List.listExtendWith
  have got1 : (s.heap.push (seqObj "list" #[] 0)).get? t = some o := Heap.get?_push_of_some _ got
  refine wpAny_bind (wpAny_typeOf (T := "tuple") ⟨o, got1, isT⟩ ?_)
  have same : (Value.type "tuple" == Value.type "tuple") = true := by rfl
  rw [if_pos (by rw [same]; simp)]
  refine wpAny_bind (listItems_at got1 dat ?_)
  refine wpAny_bind (listItems_at (xs := #[]) (n := 0) (Heap.get?_push_size _ rfl) rfl ?_)
  rw [if_neg (by simp)]
  have room : (#[] ++ vs.toArray).size ≤ sizeLine + 1 := by
    simp only [Array.size_append, List.size_toArray, List.length_nil]
    omega
  refine wpAny_bind (listUpdate_at (xs := #[]) (n := 0) (Heap.get?_push_size _ rfl) rfl ?_ (Nat.zero_le _) room)
  refine wpAny_pure ?_
  show wpAny (model prog w) A (do
      let ob ← load s.heap.objs.size
      match ob.data with
      | .seq xs _ => pure xs.toList
      | _ => unsupported "internal:collect") Q E { s with heap := (s.heap.push (seqObj "list" #[] 0)).update s.heap.objs.size (Obj.mapSeq (· ++ vs.toArray)) }
  refine wpAny_bind (wpAny_load (get?_update_seq (Heap.get?_push_size _ rfl) _) ?_)
  show wpAny _ _ (pure ((#[] : Array Value) ++ vs.toArray).toList) Q E _
  have back : ((#[] : Array Value) ++ vs.toArray).toList = vs := by simp
  rw [back]
  exact wpAny_pure h
/-- sorted(t), t a tuple -/
theorem sorted_tup {t : Addr} {vs : List Value} {lt : Value → Value → Bool} {Q : Value → Shared → Prop} (O : SrtO.Swo lt) (ht : IsTup s.heap t vs.toArray) (hz : vs.length ≤ sizeLine)
    (can : 2 ≤ vs.length → ∀ (h₁ : Heap) (a : Addr), h₁.get? a = some (seqObj "list" vs.toArray 0) → (∀ b o, s.heap.get? b = some o → b ≠ a ∧ h₁.get? b = some o) → SrtO.SortableO prog w A.in1.in1 { s with heap := h₁ } a vs lt)
    (h : ∀ out : List Value, SrtO.Srtd lt out → SrtO.Stb lt out vs → Q (.ref (s.heap.objs.size + 1)) { s with heap := sortedAll s.heap vs out.toArray }) :
    wpAny (model prog w) A (call (.builtin "sorted") [.ref t]) Q E s := by
  refine Calls.call_function_entry kind_sorted plain_sorted entry_sorted (args_sorted1 _) ?_
  unfold Builtin.«sorted»
  refine wpAny_bind (m := checkCount "sorted" 1 1 _) (wpAny_pure (wpAny_bind (gather_tup ht hz ?_)))
  refine wpAny_bind (wpAny_newList ?_ hz)
  generalize hg : (s.heap.push (seqObj "list" #[] 0)).update s.heap.objs.size (Obj.mapSeq (· ++ vs.toArray)) = g
  have gsz : g.objs.size = s.heap.objs.size + 1 := by rw [← hg, Heap.size_update, size_push']
  have newL : (g.push (seqObj "list" vs.toArray 0)).get? (s.heap.objs.size + 1) = some (seqObj "list" vs.toArray 0) := by
    rw [← gsz]; exact Heap.get?_push_size _ rfl
  have old : ∀ b o, s.heap.get? b = some o → b ≠ s.heap.objs.size + 1 ∧ (g.push (seqObj "list" vs.toArray 0)).get? b = some o := fun b o q => by
    have hlt : b < s.heap.objs.size := Heap.lt_size q
    refine ⟨Nat.ne_of_lt (Nat.lt_succ_of_lt hlt), Heap.get?_push_of_some _ ?_⟩
    rw [← hg, Heap.get?_update_ne _ _ _ _ (Nat.ne_of_lt hlt)]
    exact Heap.get?_push_of_some _ q
  show wpAny _ _ _ _ _ { s with heap := g.push (seqObj "list" vs.toArray 0) }
  rw [gsz]
  refine wpAny_bind (wpAny_holding (wpAny_call_entry slot_list_sort ⟨_, newL, rfl⟩ entry_list_sort (SrtO.list_sort_ord O newL hz (fun h2 => can h2 _ _ newL old) fun out a1 a2 => ⟨_, rfl, ?_⟩) (args_list_sort _)))
  have fin := h out a1 a2
  unfold sortedAll at fin
  rw [hg] at fin
  exact wpAny_pure ⟨_, rfl, fin⟩
end
/-- sorted(xs) of ints, a list or a tuple -/
def rSortedIT (K : PySem.W.Frag) : List V → Hp → VK → Prop := fun vs H Q => ∃ (a : Addr) (ns : List Int), vs = [V.ref a] ∧ (SqL K H a (ns.map V.int) ∨ SqT K H a (ns.map V.int)) ∧
  ∀ (ms : List Int) (p : Addr), ms.Perm ns → ms.Pairwise (· ≤ ·) → H p = none → Q (.ref p) (upd H p (.lst (ms.map V.int)))
theorem cr_sortedIT {X : Cx} : CallR X (.builtin "sorted") (rSortedIT X.K) := by
  intro pins s σ H vs us Q I r h
  obtain ⟨a, ns, rfl, hs | hs, q⟩ := h
  · exact cr_sortedI pins s σ H _ us Q I r ⟨a, ns, rfl, hs, q⟩
  · obtain ⟨its, rv, ht, hz⟩ := I.tuple hs
    rw [Vals.ref1 r]
    have hi := rv.ints
    refine sorted_tup SrtO.swo_int ht (by rw [← rv.length]; exact hz) (fun h2 h₁ b _ _ => SrtO.ints_sortable hi h2) fun out h1 h2 => ?_
    obtain ⟨k1, k2, k3⟩ := SrtO.ints_out hi h1 h2
    obtain ⟨ep, at2⟩ := sortedAll_at s.heap its out.toArray
    have fits : ((out.map SrtO.iv).map V.int).length ≤ sizeLine := by
      rw [List.length_map, k2.length_eq]
      rw [List.length_map] at hz
      exact hz
    have I2 := I.laid (a := s.heap.objs.size + 1) (o := .lst ((out.map SrtO.iv).map V.int)) (t' := s.toks) (h' := sortedAll s.heap its out.toArray) (fun _ _ => sortedAll_old) (Nat.le_succ _) ⟨fits, out, ep, vals_of_ints k1, at2⟩
    exact ⟨.ref _, _, I2, rfl, q _ _ k2 k3 (I.hok.fresh (Nat.le_succ _))⟩
end VS

set_option Elab.async false
set_option linter.all false
set_option autoImplicit false
set_option maxRecDepth 100000
set_option maxHeartbeats 4000000
/-! VS: the built-in functions by their meaning. -/
namespace VS
open PySem L2
def blsD : List D → Option (List Bool)
  | [] => some []
  | d :: ds => match d, blsD ds with
    | .bl i, some is => some (i :: is)
    | _, _ => none
theorem bls_of : ∀ {ds : List D} {is : List Bool}, blsD ds = some is → ds = is.map D.bl
  | [], is, e => by simp only [blsD, Option.some.injEq] at e; subst e; rfl
  | d :: ds, is, e => by
    simp only [blsD] at e
    split at e
    · rename_i i is' e2
      cases e
      rw [bls_of e2]; rfl
    · cases e
theorem blsD_map : ∀ (is : List Bool), blsD (is.map D.bl) = some is
  | [] => rfl
  | i :: is => by rw [List.map_cons]; simp only [blsD, blsD_map is]
/-- ints in order -/
def srt (ns : List Int) : List Int := ns.mergeSort (fun a b => decide (a ≤ b))
theorem srt_perm (ns : List Int) : (srt ns).Perm ns := List.mergeSort_perm _ _
theorem srt_pw (ns : List Int) : (srt ns).Pairwise (· ≤ ·) := by
  have h := List.pairwise_mergeSort (le := fun a b : Int => decide (a ≤ b)) (fun a b c h1 h2 => by simp only [decide_eq_true_eq] at *; omega) (fun a b => by simp only [Bool.or_eq_true, decide_eq_true_eq]; omega) ns
  exact h.imp fun {a b} q => by simpa using q
theorem srt_eq {ms ns : List Int} (h1 : ms.Perm ns) (h2 : ms.Pairwise (· ≤ ·)) : ms = srt ns :=
  (h1.trans (srt_perm ns).symm).eq_of_pairwise (fun _ _ _ _ a b => Int.le_antisymm a b) h2 (srt_pw ns)
def seqIntsD : D → Option (List Int)
  | .lst xs => intsD xs
  | .tup xs => intsD xs
  | _ => none
def lenD : List D → Option C
  | [.lst xs] => some (.val (.int xs.length))
  | [.tup xs] => some (.val (.int xs.length))
  | [.str z] => if z.length ≤ sizeLine then some (.val (.int z.length)) else none
  | [.dK ks _] => some (.val (.int ks.length))
  | [.dT ks _] => some (.val (.int ks.length))
  | _ => none
def allD (b : Bool) : List D → Option C
  | [.lst xs] => (blsD xs).map fun bs => .val (.bl (if b then bs.all id else bs.any id))
  | _ => none
def sortedD : List D → Option C
  | [d] => (seqIntsD d).map fun ns => .own (.lst ((srt ns).map D.int))
  | _ => none
def tupleD : List D → Option C
  | [.lst xs] => some (.val (.tup xs))
  | [.tup xs] => some (.val (.tup xs))
  | _ => none
def listD : List D → Option C
  | [.lst xs] => some (.own (.lst xs))
  | [.tup xs] => some (.own (.lst xs))
  | _ => none
def sumD : List D → Option C
  | [.lst xs] => (intsD xs).map fun ns => .val (.int ns.sum)
  | _ => none
def maxI : List Int → Int
  | [] => 0
  | [x] => x
  | x :: xs => max x (maxI xs)
def minI : List Int → Int
  | [] => 0
  | [x] => x
  | x :: xs => min x (minI xs)
theorem maxI_spec : ∀ {ns : List Int}, ns ≠ [] → maxI ns ∈ ns ∧ ∀ y ∈ ns, y ≤ maxI ns
  | [], h => absurd rfl h
  | [x], _ => by simp [maxI]
  | x :: y :: r, _ => by
    obtain ⟨h1, h2⟩ := maxI_spec (ns := y :: r) (by simp)
    simp only [maxI]
    refine ⟨?_, fun z hz => ?_⟩
    · by_cases h : x ≤ maxI (y :: r)
      · rw [Int.max_eq_right h]; exact List.mem_cons_of_mem _ h1
      · rw [Int.max_eq_left (by omega)]; exact List.mem_cons_self
    · rcases List.mem_cons.mp hz with e | hz
      · subst e; omega
      · have := h2 z hz; omega
theorem minI_spec : ∀ {ns : List Int}, ns ≠ [] → minI ns ∈ ns ∧ ∀ y ∈ ns, minI ns ≤ y
  | [], h => absurd rfl h
  | [x], _ => by simp [minI]
  | x :: y :: r, _ => by
    obtain ⟨h1, h2⟩ := minI_spec (ns := y :: r) (by simp)
    simp only [minI]
    refine ⟨?_, fun z hz => ?_⟩
    · by_cases h : x ≤ minI (y :: r)
      · rw [Int.min_eq_left h]; exact List.mem_cons_self
      · rw [Int.min_eq_right (by omega)]; exact List.mem_cons_of_mem _ h1
    · rcases List.mem_cons.mp hz with e | hz
      · subst e; omega
      · have := h2 z hz; omega
def maxD : List D → Option C
  | [.int i, .int j] => some (.val (.int (if j > i then j else i)))
  | [.lst xs] => (intsD xs).bind fun ns => if ns ≠ [] then some (.val (.int (maxI ns))) else none
  | _ => none
def minD : List D → Option C
  | [.int i, .int j] => some (.val (.int (if j < i then j else i)))
  | [.lst xs] => (intsD xs).bind fun ns => if ns ≠ [] then some (.val (.int (minI ns))) else none
  | _ => none
def strD : List D → Option C
  | [.int i] => if i.natAbs.log2 < 1920 then some (.val (.str (toString i))) else none
  | _ => none
section
variable {G : Ctx} {X : Cx} {H Hs : Hp}
theorem rdl1 {d : D} {vs : List V} (r : RdL G H Hs [d] vs) : ∃ v, vs = [v] ∧ RdW G H Hs d v := by
  obtain ⟨v, ws, rfl, h1, h2⟩ := r
  cases (show ws = [] from h2)
  exact ⟨v, rfl, h1⟩
theorem rdl2 {d e : D} {vs : List V} (r : RdL G H Hs [d, e] vs) : ∃ v w, vs = [v, w] ∧ RdW G H Hs d v ∧ RdW G H Hs e w := by
  obtain ⟨v, ws, rfl, h1, h2⟩ := r
  obtain ⟨w, rfl, h3⟩ := rdl1 h2
  exact ⟨v, w, rfl, h1, h3⟩
/-- by a rule for each case of what is handed on -/
theorem callR_of {f : Value} {g : List D → Option C} (h : ∀ ds c, g ds = some c → ∃ r, CallR X f r ∧ ∀ vs H Q Hs, Same Hs H → RdL G H Hs ds vs → PostN G H Hs c Q → r vs H Q) : CallR X f (rC G g) := by
  intro pins s σ H vs us Q I rv ⟨Hs, ds, c, s0, rd, e, post⟩
  obtain ⟨r, hr, k⟩ := h ds c e
  exact hr pins s σ H vs us Q I rv (k vs H Q Hs s0 rd post)
theorem len_ok (xk : XOk G X) : CallR X (.builtin "len") (rC G lenD) := callR_of fun ds c e => by
  match ds, e with
  | [.lst xs], e =>
    cases e
    refine ⟨_, call_len_seq, fun vs H Q Hs s0 rd po => ?_⟩
    obtain ⟨v, rfl, a, ws, rfl, h1, h2⟩ := rdl1 rd
    exact ⟨a, ws, rfl, .inl (by rw [xk.K]; exact h1), by rw [← h2.length]; exact int_post s0 po⟩
  | [.tup xs], e =>
    cases e
    refine ⟨_, call_len_seq, fun vs H Q Hs s0 rd po => ?_⟩
    obtain ⟨v, rfl, r1⟩ := rdl1 rd
    obtain ⟨a, ws, rfl, h1, h2⟩ := rd_tup s0 r1
    exact ⟨a, ws, rfl, .inr h1.sq, by rw [← h2.length]; exact int_post s0 po⟩
  | [.str z], e =>
    simp only [lenD] at e
    split at e
    · rename_i hz
      cases e
      refine ⟨_, call_len_str, fun vs H Q Hs s0 rd po => ?_⟩
      obtain ⟨v, rfl, r1⟩ := rdl1 rd
      exact ⟨z, by rw [rd_str r1], hz, int_post s0 po⟩
    · cases e
  | [.dK ks ws], e =>
    cases e
    refine ⟨_, call_lenD, fun vs H Q Hs s0 rd po => ?_⟩
    obtain ⟨v, rfl, a, us, rfl, h1, h2, h3⟩ := rdl1 rd
    exact ⟨a, _, rfl, h1, by rw [List.length_zip, ← h2, Nat.min_self]; exact int_post s0 po⟩
  | [.dT ks ws], e =>
    cases e
    refine ⟨_, call_len_dT, fun vs H Q Hs s0 rd po => ?_⟩
    obtain ⟨v, rfl, a, us, rfl, h1, h2, h3⟩ := rdl1 rd
    exact ⟨a, _, rfl, h1, by rw [List.length_zip, ← h2, Nat.min_self]; exact int_post s0 po⟩
theorem all_ok (xk : XOk G X) : CallR X (.builtin "all") (rC G (allD true)) := callR_of fun ds c e => by
  match ds, e with
  | [.lst xs], e =>
    simp only [allD] at e
    cases hb : blsD xs with
    | none => rw [hb] at e; cases e
    | some bs =>
      rw [hb] at e
      cases e
      refine ⟨_, cr_all xk.calm, fun vs H Q Hs s0 rd po => ?_⟩
      obtain ⟨v, rfl, a, ws, rfl, h1, h2⟩ := rdl1 rd
      rw [bls_of hb] at h2
      rw [h2.bls] at h1
      exact ⟨a, bs, rfl, by rw [xk.K]; exact h1, bl_post s0 po⟩
theorem any_ok (xk : XOk G X) : CallR X (.builtin "any") (rC G (allD false)) := callR_of fun ds c e => by
  match ds, e with
  | [.lst xs], e =>
    simp only [allD] at e
    cases hb : blsD xs with
    | none => rw [hb] at e; cases e
    | some bs =>
      rw [hb] at e
      cases e
      refine ⟨_, cr_any xk.calm, fun vs H Q Hs s0 rd po => ?_⟩
      obtain ⟨v, rfl, a, ws, rfl, h1, h2⟩ := rdl1 rd
      rw [bls_of hb] at h2
      rw [h2.bls] at h1
      exact ⟨a, bs, rfl, by rw [xk.K]; exact h1, bl_post s0 po⟩
theorem ints_rep (ns : List Int) : RepL G Hs (ns.map D.int) (ns.map V.int) := by
  induction ns with
  | nil => exact RepL.nil
  | cons n ns ih => exact RepL.cons (by simp [Rep]) ih
theorem sorted_ok (xk : XOk G X) : CallR X (.builtin "sorted") (rC G sortedD) := callR_of fun ds c e => by
  match ds, e with
  | [d], e =>
    simp only [sortedD] at e
    cases hb : seqIntsD d with
    | none => rw [hb] at e; cases e
    | some ns =>
      rw [hb] at e
      cases e
      refine ⟨_, cr_sortedIT, fun vs H Q Hs s0 rd po => ?_⟩
      obtain ⟨v, rfl, r1⟩ := rdl1 rd
      have fin : ∀ a, (SqL X.K H a (ns.map V.int) ∨ SqT X.K H a (ns.map V.int)) → rSortedIT X.K [.ref a] H Q := fun a ha =>
        ⟨a, ns, rfl, ha, fun ms p h1 h2 hp => by rw [srt_eq h1 h2]; exact po.lst s0 (ints_rep _) p hp⟩
      cases d <;> simp only [seqIntsD] at hb <;> first | (cases hb; done) | skip
      · obtain ⟨a, ws, rfl, h1, h2⟩ := rd_tup s0 r1
        rw [ints_of hb] at h2
        rw [h2.ints] at h1
        exact fin a (.inr h1.sq)
      · obtain ⟨a, ws, rfl, h1, h2⟩ := r1
        rw [ints_of hb] at h2
        rw [h2.ints] at h1
        exact fin a (.inl (by rw [xk.K]; exact h1))
theorem tuple_ok (xk : XOk G X) : CallR X (.type "tuple") (rC G tupleD) := callR_of fun ds c e => by
  match ds, e with
  | [.lst xs], e =>
    cases e
    refine ⟨_, call_tupN, fun vs H Q Hs s0 rd po => ?_⟩
    obtain ⟨v, rfl, a, ws, rfl, h1, h2⟩ := rdl1 rd
    exact ⟨a, ws, rfl, .inl ⟨by rw [xk.K]; exact h1, po.tup s0 h2⟩⟩
  | [.tup xs], e =>
    cases e
    refine ⟨_, call_tupN, fun vs H Q Hs s0 rd po => ?_⟩
    obtain ⟨v, rfl, r1⟩ := rdl1 rd
    have r2 : Rep G Hs (.tup xs) v := r1
    obtain ⟨a, ws, rfl, h1, h2⟩ := rd_tup s0 r1
    exact ⟨a, ws, rfl, .inr ⟨h1.sq, po.scal s0 r2⟩⟩
theorem list_ok (xk : XOk G X) : CallR X (.type "list") (rC G listD) := callR_of fun ds c e => by
  match ds, e with
  | [.lst xs], e =>
    cases e
    refine ⟨_, call_list_of, fun vs H Q Hs s0 rd po => ?_⟩
    obtain ⟨v, rfl, a, ws, rfl, h1, h2⟩ := rdl1 rd
    exact ⟨a, ws, rfl, .inl (by rw [xk.K]; exact h1), po.lst s0 h2⟩
  | [.tup xs], e =>
    cases e
    refine ⟨_, call_list_of, fun vs H Q Hs s0 rd po => ?_⟩
    obtain ⟨v, rfl, r1⟩ := rdl1 rd
    obtain ⟨a, ws, rfl, h1, h2⟩ := rd_tup s0 r1
    exact ⟨a, ws, rfl, .inr h1.sq, po.lst s0 h2⟩
theorem lst_ints (xk : XOk G X) {xs : List D} {ns : List Int} {vs : List V} (hb : intsD xs = some ns) (rd : RdL G H Hs [.lst xs] vs) : ∃ a, vs = [.ref a] ∧ SqL X.K H a (ns.map V.int) := by
  obtain ⟨v, rfl, a, ws, rfl, h1, h2⟩ := rdl1 rd
  rw [ints_of hb] at h2
  rw [h2.ints] at h1
  exact ⟨a, rfl, by rw [xk.K]; exact h1⟩
theorem sum_ok (xk : XOk G X) : CallR X (.builtin "sum") (rC G sumD) := callR_of fun ds c e => by
  match ds, e with
  | [.lst xs], e =>
    simp only [sumD] at e
    cases hb : intsD xs with
    | none => rw [hb] at e; cases e
    | some ns =>
      rw [hb] at e
      cases e
      refine ⟨_, cr_sum xk.calm, fun vs H Q Hs s0 rd po => ?_⟩
      obtain ⟨a, rfl, h1⟩ := lst_ints xk hb rd
      exact ⟨a, ns, rfl, h1, int_post s0 po⟩
theorem max_ok (xk : XOk G X) : CallR X (.builtin "max") (rC G maxD) := callR_of fun ds c e => by
  match ds, e with
  | [.int i, .int j], e =>
    cases e
    refine ⟨_, call_max2 xk.calm, fun vs H Q Hs s0 rd po => ?_⟩
    obtain ⟨v, w, rfl, r1, r2⟩ := rdl2 rd
    exact ⟨i, j, by rw [rd_int r1, rd_int r2], int_post s0 po⟩
  | [.lst xs], e =>
    simp only [maxD] at e
    cases hb : intsD xs with
    | none => rw [hb] at e; cases e
    | some ns =>
      rw [hb] at e
      simp only [Option.bind_some] at e
      split at e
      · rename_i hne
        cases e
        refine ⟨_, cr_max xk.calm, fun vs H Q Hs s0 rd po => ?_⟩
        obtain ⟨a, rfl, h1⟩ := lst_ints xk hb rd
        refine ⟨a, ns, rfl, h1, List.length_pos_iff.mpr hne, fun m hm hmax => ?_⟩
        obtain ⟨h2, h3⟩ := maxI_spec hne
        have : m = maxI ns := Int.le_antisymm (h3 m hm) (hmax _ h2)
        rw [this]; exact int_post s0 po
      · cases e
theorem min_ok (xk : XOk G X) : CallR X (.builtin "min") (rC G minD) := callR_of fun ds c e => by
  match ds, e with
  | [.int i, .int j], e =>
    cases e
    refine ⟨_, call_min2 xk.calm, fun vs H Q Hs s0 rd po => ?_⟩
    obtain ⟨v, w, rfl, r1, r2⟩ := rdl2 rd
    exact ⟨i, j, by rw [rd_int r1, rd_int r2], int_post s0 po⟩
  | [.lst xs], e =>
    simp only [minD] at e
    cases hb : intsD xs with
    | none => rw [hb] at e; cases e
    | some ns =>
      rw [hb] at e
      simp only [Option.bind_some] at e
      split at e
      · rename_i hne
        cases e
        refine ⟨_, cr_min xk.calm, fun vs H Q Hs s0 rd po => ?_⟩
        obtain ⟨a, rfl, h1⟩ := lst_ints xk hb rd
        refine ⟨a, ns, rfl, h1, List.length_pos_iff.mpr hne, fun m hm hmin => ?_⟩
        obtain ⟨h2, h3⟩ := minI_spec hne
        have : m = minI ns := Int.le_antisymm (hmin _ h2) (h3 m hm)
        rw [this]; exact int_post s0 po
      · cases e
theorem str_ok (xk : XOk G X) : CallR X (.type "str") (rC G strD) := callR_of fun ds c e => by
  match ds, e with
  | [.int i], e =>
    simp only [strD] at e
    split at e
    · rename_i hi
      cases e
      refine ⟨_, call_str_int, fun vs H Q Hs s0 rd po => ?_⟩
      obtain ⟨v, rfl, r1⟩ := rdl1 rd
      exact ⟨i, by rw [rd_int r1], hi, po.scal s0 (by simp [Rep])⟩
    · cases e
end
def bLen : Blt := ⟨"len", lenD, fun xk => .inl ⟨_, by decide +kernel, len_ok xk⟩, by decide +kernel, by decide +kernel⟩
def bAll : Blt := ⟨"all", allD true, fun xk => .inl ⟨_, by decide +kernel, all_ok xk⟩, by decide +kernel, by decide +kernel⟩
def bAny : Blt := ⟨"any", allD false, fun xk => .inl ⟨_, by decide +kernel, any_ok xk⟩, by decide +kernel, by decide +kernel⟩
def bSorted : Blt := ⟨"sorted", sortedD, fun xk => .inl ⟨_, by decide +kernel, sorted_ok xk⟩, by decide +kernel, by decide +kernel⟩
def bTuple : Blt := ⟨"tuple", tupleD, fun xk => .inr ⟨_, by decide +kernel, tuple_ok xk⟩, by decide +kernel, by decide +kernel⟩
def bList : Blt := ⟨"list", listD, fun xk => .inr ⟨_, by decide +kernel, list_ok xk⟩, by decide +kernel, by decide +kernel⟩
def bSum : Blt := ⟨"sum", sumD, fun xk => .inl ⟨_, by decide +kernel, sum_ok xk⟩, by decide +kernel, by decide +kernel⟩
def bMax : Blt := ⟨"max", maxD, fun xk => .inl ⟨_, by decide +kernel, max_ok xk⟩, by decide +kernel, by decide +kernel⟩
def bMin : Blt := ⟨"min", minD, fun xk => .inl ⟨_, by decide +kernel, min_ok xk⟩, by decide +kernel, by decide +kernel⟩
def bStr : Blt := ⟨"str", strD, fun xk => .inr ⟨_, by decide +kernel, str_ok xk⟩, by decide +kernel, by decide +kernel⟩
end VS

set_option Elab.async false
set_option linter.all false
set_option autoImplicit false
set_option maxRecDepth 100000
set_option maxHeartbeats 4000000
/-! VS: len(set(xs)); helpers for pure proofs. -/
namespace VS
open PySem PySem.Spec PyProof.Rows L2
/-- without repeats -/
def ddp : List Int → List Int
  | [] => []
  | x :: xs => if x ∈ xs then ddp xs else x :: ddp xs
theorem mem_ddp {y : Int} : ∀ {xs : List Int}, y ∈ ddp xs ↔ y ∈ xs
  | [] => by simp [ddp]
  | x :: xs => by
    simp only [ddp]
    split
    · rename_i h
      rw [mem_ddp, List.mem_cons]
      constructor
      · exact .inr
      · rintro (rfl | h2)
        · exact h
        · exact h2
    · rw [List.mem_cons, List.mem_cons, mem_ddp]
theorem nodup_ddp : ∀ xs : List Int, (ddp xs).Nodup
  | [] => by simp [ddp]
  | x :: xs => by
    simp only [ddp]
    split
    · exact nodup_ddp xs
    · rename_i h
      exact List.nodup_cons.mpr ⟨fun z => h (mem_ddp.mp z), nodup_ddp xs⟩
def lenSetD : List C → Option C
  | [.val (.tup xs)] => (intsD xs).bind fun ns => if ns.length ≤ 4000 then some (.val (.int (ddp ns).length)) else none
  | _ => none
def patLenSet (N : List Str) (sc : Scope) : Expr → Option (List Expr)
  | .Call (.Name x _) [.Call (.Name y _) [a] [] _] [] _ => if x = "len" ∧ y = "set" ∧ glo sc x = true ∧ glo sc y = true then some [a] else none
  | _ => none
theorem patLenSet_ok {N : List Str} {sc : Scope} {e : Expr} {es : List Expr} (h : patLenSet N sc e = some es) : ∃ p q r s a, e = .Call (.Name "len" p) [.Call (.Name "set" q) [a] [] r] [] s ∧ es = [a] ∧ glo sc "len" = true ∧ glo sc "set" = true := by
  unfold patLenSet at h
  split at h
  · rename_i x p y q a r s
    split at h
    · rename_i hh
      obtain ⟨h1, h2, h3, h4⟩ := hh
      subst h1; subst h2
      cases h
      exact ⟨p, q, r, s, a, rfl, rfl, h3, h4⟩
    · cases h
  · cases h
theorem glo_gl {X : Cx} {sc : Scope} (hs : X.env.scope = sc) {nm : Str} (h : glo sc nm = true) : Gl X nm := by
  unfold VS.glo at h
  simp only [Bool.and_eq_true, Bool.not_eq_true'] at h
  unfold Gl Env.kindOf
  rw [hs]
  split at h
  · assumption
  · cases h.1
def pLenSet : Spc where
  pat := patLenSet
  f := lenSetD
  pl := fun h => by
    obtain ⟨p, q, r, s, a, rfl, _⟩ := patLenSet_ok h
    exact ⟨rfl, rfl, rfl⟩
  ok := fun {G X N sc e es ta} xk h hp ha => by
    obtain ⟨p, q, r, s, a, rfl, rfl, g1, g2⟩ := patLenSet_ok h
    have pl : isPlain a = true := by simpa using hp
    have na : starEach [a] X.env = (false, eval a X.env) :: starEach [] X.env := star_of pl
    refine ⟨fun pins s σ H Q I hw => ?_⟩
    refine Call_ (ld_blt I (glo_gl xk.hsc g1) (xk.nb _ (by decide +kernel)) PySem.boot_len ?_)
    refine PyProof.Rows.callWith_builtin1 (PyProof.Rows.args_cons ?_ rfl) rfl rfl
    refine Call_ (ld_blt I (glo_gl xk.hsc g2) (xk.nb _ (by decide +kernel)) boot_set ?_)
    refine PyProof.Rows.callWith_type1 (thn (ha.run r pins s σ H _ I hw) fun us s1 ⟨vs, H1, I1, r1, Hs, cs, c, s0, ra, e1, post⟩ => ?_) na rfl
    unfold lenSetD at e1
    split at e1
    · rename_i xs
      obtain ⟨v, ws, rfl, rv, hws⟩ := ra
      cases (show ws = [] from hws)
      cases hi : intsD xs with
      | none => rw [hi] at e1; cases e1
      | some ns =>
        rw [hi] at e1
        simp only [Option.bind_some] at e1
        split at e1
        · rename_i hl
          cases e1
          obtain ⟨t, us2, rfl, h1, h2⟩ := rd_tup s0 (Rep.rd s0 rv)
          rw [ints_of hi] at h2
          rw [h2.ints] at h1
          rw [Vals.ref1 r1]
          obtain ⟨its, rr, tt, hz⟩ := I1.tuple (h1.sq (K := X.K))
          refine call_set_tupI ns (I1.ok.hd xk.calm) (show s1.heap.IsTuple t its.toArray from tt) (by simpa using rr.ints) (by unfold scanBound; omega) fun h' tk c hS hc hk => ?_
          refine PyProof.Rows.args_nil ?_
          obtain ⟨o, es, ep, tb, ho, hex, hd, gd, nd, mem, hb, hf, hn, _⟩ := hS
          have hcount : es.size = (ddp ns).length := by
            have hp : (es.toList.map L2.keyOf).Perm (ddp ns) := (List.perm_ext_iff_of_nodup nd (nodup_ddp ns)).mpr fun k => by
              rw [mem_ddp, ← mem k]
              simp
            have := hp.length_eq
            simpa using this
          have I2 : Inv X pins σ H1 { s1 with heap := h', toks := tk } := I1.kept fun b o e => hk b o e
          refine call_len_set ho hex hd hf (by unfold scanBound at hb; omega) ⟨.int (ddp ns).length, H1, I2.tok _, ⟨_, by rw [hcount]⟩, int_post s0 post⟩
        · cases e1
    · cases e1
end VS

set_option Elab.async false
set_option linter.all false
set_option autoImplicit false
set_option maxRecDepth 100000
set_option maxHeartbeats 4000000
/-! VS: steps of pure proofs. -/
namespace VS
open PySem L2
section
variable {ρ : List C} {a b c e : E} {P : Ds}
theorem M.bind_ok {α β : Type} (a : α) (f : α → M β) : M.bind (M.ok a) f = f a := rfl
theorem M.lift_some' {α : Type} (a : α) : M.lift (some a) = M.ok a := rfl
theorem lk {x : C} {d : D} (h : ev a ρ = M.ok x) (hl : x.look = some d := by rfl) : look1 (ev a ρ) = M.ok d := by
  rw [h]
  show M.lift x.look = _
  rw [hl]; rfl
theorem lk_er {k : Nat} (h : ev a ρ = some (.error k)) : look1 (ev a ρ) = some (.error k) := by rw [h]; rfl
theorem kp {x : C} {d : D} (h : ev a ρ = M.ok x) (hl : x.keep = some d := by rfl) : keep1 (ev a ρ) = M.ok d := by
  rw [h]
  show M.lift x.keep = _
  rw [hl]; rfl
theorem ev_var {i : Nat} {x : C} (h : ρ[i]? = some x) (hu : x ≠ .un := by intro z; cases z) : ev (.var i) ρ = M.ok x.rd := by
  simp only [ev]
  rw [h]
  cases x <;> first | exact absurd rfl hu | rfl
theorem ev_op {o : Op2} {x y : D} {z : C} (ha : look1 (ev a ρ) = M.ok x) (hb : look1 (ev b ρ) = M.ok y) (h : opD o x y = some z) : ev (.op o a b) ρ = M.ok z := by
  simp only [ev]
  rw [ha, M.bind_ok, hb, M.bind_ok, h]; rfl
theorem ev_chain {o1 o2 : Op2} {x y z : D} {b1 b2 : Bool} (ha : look1 (ev a ρ) = M.ok x) (hb : look1 (ev b ρ) = M.ok y) (h1 : opD o1 x y = some (.val (.bl b1)))
    (hc : b1 = true → look1 (ev c ρ) = M.ok z ∧ opD o2 y z = some (.val (.bl b2))) : ev (.chain o1 o2 a b c) ρ = M.ok (.val (.bl (b1 && b2))) := by
  simp only [ev]
  rw [ha, M.bind_ok, hb, M.bind_ok, h1, M.lift_some', M.bind_ok]
  cases b1 with
  | true =>
    obtain ⟨h2, h3⟩ := hc rfl
    show (look1 (ev c ρ)).bind _ = _
    rw [h2, M.bind_ok, h3]; rfl
  | false => rfl
theorem ev_and {b1 b2 : Bool} (ha : look1 (ev a ρ) = M.ok (.bl b1)) (hb : b1 = true → ev b ρ = M.ok (.val (.bl b2))) : ev (.and_ a b) ρ = M.ok (.val (.bl (b1 && b2))) := by
  simp only [ev]
  rw [ha, M.bind_ok]
  cases b1 with
  | true => exact hb rfl
  | false => rfl
theorem ev_or {b1 b2 : Bool} (ha : look1 (ev a ρ) = M.ok (.bl b1)) (hb : b1 = false → ev b ρ = M.ok (.val (.bl b2))) : ev (.or_ a b) ρ = M.ok (.val (.bl (b1 || b2))) := by
  simp only [ev]
  rw [ha, M.bind_ok]
  cases b1 with
  | true => rfl
  | false => exact hb rfl
theorem ev_not {b1 : Bool} (ha : look1 (ev a ρ) = M.ok (.bl b1)) : ev (.not_ a) ρ = M.ok (.val (.bl !b1)) := by
  simp only [ev]
  rw [ha, M.bind_ok]
theorem ev_ite {b1 : Bool} {z : M C} (ha : look1 (ev c ρ) = M.ok (.bl b1)) (ht : b1 = true → ev a ρ = z) (hf : b1 = false → ev b ρ = z) : ev (.ite c a b) ρ = z := by
  simp only [ev]
  rw [ha, M.bind_ok]
  cases b1 with
  | true => exact ht rfl
  | false => exact hf rfl
theorem ev_ix {x y d : D} (ha : look1 (ev a ρ) = M.ok x) (hb : look1 (ev b ρ) = M.ok y) (h : ixD x y = some d) : ev (.ix a b) ρ = M.ok (.val d) := by
  simp only [ev]
  rw [ha, M.bind_ok, hb, M.bind_ok, h]; rfl
theorem evs_nil : evs [] ρ = M.ok [] := rfl
theorem evs_cons {es : List E} {x x' : C} {xs : List C} (h : ev e ρ = M.ok x) (hs : evs es ρ = M.ok xs) (hx : x.arg = some x' := by rfl) : evs (e :: es) ρ = M.ok (x' :: xs) := by
  simp only [evs]
  rw [h, M.bind_ok, hx, M.lift_some', M.bind_ok, hs, M.bind_ok]
theorem ev_blt {bl : Blt} {es : List E} {cs : List C} {ds : List D} {z : C} (hs : evs es ρ = M.ok cs) (hl : lookAll cs = some ds) (h : bl.f ds = some z) : ev (.blt bl es) ρ = M.ok z := by
  simp only [ev]
  rw [hs, M.bind_ok, hl, M.lift_some', M.bind_ok, h]; rfl
theorem ev_spec {bl : Spc} {es : List E} {cs : List C} {z : C} (hs : evs es ρ = M.ok cs) (h : bl.f cs = some z) : ev (.spec bl es) ρ = M.ok z := by
  simp only [ev]
  rw [hs, M.bind_ok, h]; rfl
theorem ev_call {nm : Str} {m : Mir} {es : List E} {cs : List C} {z : M C} (hs : evs es ρ = M.ok cs) (h : m cs = z) : ev (.call nm m es) ρ = z := by
  simp only [ev]
  rw [hs, M.bind_ok, h]
theorem ev_lc {t : Tgt} {it elt : E} {cs : List E} {x : C} {ds ys : List D} (h1 : ev it ρ = M.ok x) (h2 : seqC x = M.ok ds) (h3 : VS.collect (turnD t cs elt ρ) ds = M.ok ys) (h4 : ys.length ≤ sizeLine) : ev (.lc t it cs elt) ρ = M.ok (.own (.lst ys)) := by
  simp only [ev]
  rw [h1, M.bind_ok, h2, M.bind_ok]
  change (match VS.collect (turnD t cs elt ρ) ds with | some (.ok ys) => if ys.length ≤ sizeLine then M.ok (C.own (O.lst ys)) else none | _ => none) = _
  rw [h3]
  show (if ys.length ≤ sizeLine then _ else _) = _
  rw [if_pos h4]
theorem collect_map {f : D → M (Option D)} {g : D → D} : ∀ {ds : List D}, (∀ d ∈ ds, f d = M.ok (some (g d))) → VS.collect f ds = M.ok (ds.map g)
  | [], _ => rfl
  | d :: ds, h => by
    simp only [VS.collect]
    rw [h d List.mem_cons_self, M.bind_ok, collect_map fun x hx => h x (List.mem_cons_of_mem _ hx), M.bind_ok]
    rfl
theorem collect_filter {f : D → M (Option D)} {g : D → D} {p : D → Bool} : ∀ {ds : List D}, (∀ d ∈ ds, f d = M.ok (if p d = true then some (g d) else none)) → VS.collect f ds = M.ok ((ds.filter p).map g)
  | [], _ => rfl
  | d :: ds, h => by
    simp only [VS.collect]
    rw [h d List.mem_cons_self, M.bind_ok, collect_filter fun x hx => h x (List.mem_cons_of_mem _ hx), M.bind_ok]
    by_cases hp : p d = true
    · rw [if_pos hp, List.filter_cons_of_pos hp]; rfl
    · rw [if_neg hp, List.filter_cons_of_neg hp]
/-- a turn that keeps no item out -/
theorem turn_all {t : Tgt} {elt : E} {d y : D} {ρ' : List C} (hb : bindT t d (wipeC ρ t.slots) = some ρ') (h : keep1 (ev elt ρ') = M.ok y) : turnD t [] elt ρ d = M.ok (some y) := by
  unfold turnD
  rw [hb]
  show (M.ok true).bind _ = _
  rw [M.bind_ok]
  show (keep1 (ev elt ρ')).bind _ = _
  rw [h]; rfl
theorem turn_if {t : Tgt} {cnd elt : E} {d y : D} {ρ' : List C} {k : Bool} (hb : bindT t d (wipeC ρ t.slots) = some ρ') (hc : look1 (ev cnd ρ') = M.ok (.bl k)) (h : k = true → keep1 (ev elt ρ') = M.ok y) : turnD t [cnd] elt ρ d = M.ok (if k = true then some y else none) := by
  unfold turnD
  rw [hb]
  simp only [evCond]
  rw [hc]
  cases k with
  | true =>
    show (keep1 (ev elt ρ')).bind _ = _
    rw [h rfl]; rfl
  | false => rfl
/-! ### statements -/
theorem wps_nil (h : P.nx ρ) : wps [] P ρ := h
theorem wps_cons {s : S} {ss : List S} (h : wp s { P with nx := wps ss P } ρ) : wps (s :: ss) P ρ := h
theorem nx_cons {s : S} {ss : List S} {rt : C → List C → Prop} {ex : Nat → List C → Prop} (h : wp s { P with nx := wps ss P } ρ) : (Ds.mk (wps (s :: ss) P) rt ex).nx ρ := h
theorem nx_nil {rt : C → List C → Prop} {ex : Nat → List C → Prop} (h : P.nx ρ) : (Ds.mk (wps [] P) rt ex).nx ρ := h
theorem wp_asg {i : Nat} {x x' : C} (h : ev e ρ = M.ok x) (hx : x.st = some x') (k : P.nx (ρ.set i x')) : wp (.asg i e) P ρ := by
  simp only [wp]
  rw [h]
  show optP x.st _
  rw [hx]; exact k
theorem wp_ex {x : C} (h : ev e ρ = M.ok x) (k : P.nx ρ) : wp (.ex e) P ρ := by
  simp only [wp]
  rw [h]; exact k
theorem wp_exE {j : Nat} (h : ev e ρ = some (.error j)) (k : P.ex j ρ) : wp (.ex e) P ρ := by
  simp only [wp]
  rw [h]; exact k
theorem wp_ret {x x' : C} (h : ev e ρ = M.ok x) (hx : x.st = some x') (k : P.rt x' ρ) : wp (.ret e) P ρ := by
  simp only [wp]
  rw [h]
  show optP x.st _
  rw [hx]; exact k
theorem wp_retE {j : Nat} (h : ev e ρ = some (.error j)) (k : P.ex j ρ) : wp (.ret e) P ρ := by
  simp only [wp]
  rw [h]; exact k
theorem wp_retV {i : Nat} {x x' : C} (h : ρ[i]? = some x) (hx : x.st = some x') (k : P.rt x' ρ) : wp (.retV i) P ρ := by
  simp only [wp]
  rw [h]
  show optP x.st _
  rw [hx]; exact k
theorem wp_if {b1 : Bool} {s1 s2 : List S} (h : ev c ρ = M.ok (.val (.bl b1))) (ht : b1 = true → wps s1 P ρ) (hf : b1 = false → wps s2 P ρ) : wp (.ifs c s1 s2) P ρ := by
  simp only [wp]
  rw [lk h]
  cases b1 with
  | true => exact ht rfl
  | false => exact hf rfl
theorem wp_ifE {j : Nat} {s1 s2 : List S} (h : ev c ρ = some (.error j)) (k : P.ex j ρ) : wp (.ifs c s1 s2) P ρ := by
  simp only [wp]
  rw [lk_er h]; exact k
theorem wp_app {i : Nat} {xs : List D} {d : D} (hi : ρ[i]? = some (.own (.lst xs))) (h : keep1 (ev e ρ) = M.ok d) (hl : xs.length < sizeLine) (k : P.nx (ρ.set i (.own (.lst (xs ++ [d]))))) : wp (.app i e) P ρ := by
  simp only [wp]
  unfold ownAt
  rw [hi]
  show run1 (keep1 (ev e ρ)) _ _
  rw [h]
  exact ⟨hl, k⟩
theorem wp_setx {i : Nat} {k e : E} {o o' : O} {x d : D} (hi : ρ[i]? = some (.own o)) (h : keep1 (ev e ρ) = M.ok d) (hk : look1 (ev k ρ) = M.ok x) (ho : setO o x d = some o') (n : P.nx (ρ.set i (.own o'))) : wp (.setx i k e) P ρ := by
  simp only [wp]
  unfold ownAt
  rw [hi]
  show run1 (keep1 (ev e ρ)) _ _
  rw [h]
  show run1 (look1 (ev k ρ)) _ _
  rw [hk]
  show optP (setO o x d) _
  rw [ho]; exact n
theorem wp_for {t : Tgt} {it : E} {body : List S} {x : C} {ds : List D} (h : ev it ρ = M.ok x) (hs : seqC x = M.ok ds) (k : forW t (wps body) P ds ρ) : wp (.for_ t it body) P ρ := by
  simp only [wp]
  rw [h, M.bind_ok, hs]; exact k
theorem wp_forE {t : Tgt} {it : E} {body : List S} {j : Nat} (h : ev it ρ = some (.error j)) (k : P.ex j ρ) : wp (.for_ t it body) P ρ := by
  simp only [wp]
  rw [h]; exact k
/-- a loop by an invariant over the items done -/
theorem for_inv {t : Tgt} {body : Ds → List C → Prop} (ds : List D) (I : Nat → List C → Prop) (h0 : I 0 ρ)
    (step : ∀ i d ρ (Q : List C → Prop), ds[i]? = some d → I i ρ → (∀ ρ', I (i + 1) ρ' → Q ρ') → ∃ ρ', bindT t d ρ = some ρ' ∧ body { P with nx := Q } ρ')
    (fin : ∀ ρ, I ds.length ρ → P.nx ρ) : forW t body P ds ρ := by
  have key : ∀ (n i : Nat) (ρ : List C), i + n = ds.length → I i ρ → forW t body P (ds.drop i) ρ := by
    intro n
    induction n with
    | zero =>
      intro i ρ hi hI
      have : i = ds.length := by omega
      subst this
      rw [List.drop_length]
      exact fin ρ hI
    | succ n ih =>
      intro i ρ hi hI
      have hlt : i < ds.length := by omega
      rw [List.drop_eq_getElem_cons hlt]
      obtain ⟨ρ', hb, hw⟩ := step i ds[i] ρ (forW t body P (ds.drop (i + 1))) (List.getElem?_eq_getElem hlt) hI (fun ρ' h => ih (i + 1) ρ' (by omega) h)
      simp only [forW]
      rw [hb]
      exact hw
  have := key ds.length 0 ρ (by omega) h0
  simpa using this
/-- while, by an invariant with a measure -/
theorem while_inv {body : List S} (I : Nat → List C → Prop) (m0 : Nat) (h0 : I m0 ρ)
    (turn : ∀ m ρ, I m ρ → ∃ b1, ev c ρ = M.ok (.val (.bl b1)) ∧ (b1 = true → ∀ Q : List C → Prop, (∀ m' ρ', m' < m → I m' ρ' → Q ρ') → wps body { P with nx := Q } ρ) ∧ (b1 = false → P.nx ρ)) : wp (.while_ c body) P ρ := by
  simp only [wp]
  refine ⟨I, ⟨m0, h0⟩, fun m ρ hI => ?_⟩
  obtain ⟨b1, h1, h2, h3⟩ := turn m ρ hI
  rw [lk h1]
  cases b1 with
  | true => exact h2 rfl _ fun m' ρ' hm hi => ⟨m', hm, hi⟩
  | false => exact h3 rfl
end
end VS

set_option Elab.async false
set_option linter.all false
set_option autoImplicit false
set_option maxRecDepth 100000
set_option maxHeartbeats 4000000
/-! VS: == of data without bools is identity. -/
namespace VS
open PySem L2
mutual
def okd : D → Bool
  | .non => true
  | .int _ => true
  | .str x => (PyData.str x).canLay0
  | .tup xs => okds xs
  | .lst xs => okds xs
  | _ => false
def okds : List D → Bool
  | [] => true
  | x :: xs => okd x && okds xs
end
mutual
def dpt : D → Nat
  | .tup xs => 1 + dpts xs
  | .lst xs => 1 + dpts xs
  | _ => 1
def dpts : List D → Nat
  | [] => 0
  | x :: xs => max (dpt x) (dpts xs)
end
mutual
theorem toPD_ok : ∀ {d : D}, okd d = true → ∃ x, toPD d = some x ∧ x.canLay0 = true ∧ x.depth ≤ dpt d
  | .non, _ => ⟨_, rfl, rfl, by simp [PyData.depth, dpt]⟩
  | .int _, _ => ⟨_, rfl, rfl, by simp [PyData.depth, dpt]⟩
  | .str x, h => ⟨_, rfl, by simpa only [okd] using h, by simp [PyData.depth, dpt]⟩
  | .tup xs, h => by
    obtain ⟨ys, e, h1, h2⟩ := toPDs_ok (by simpa only [okd] using h)
    refine ⟨.tuple ys, by simp only [toPD, e]; rfl, by simpa only [PyData.canLay0] using h1, ?_⟩
    simp only [PyData.depth, dpt]; omega
  | .lst xs, h => by
    obtain ⟨ys, e, h1, h2⟩ := toPDs_ok (by simpa only [okd] using h)
    refine ⟨.list ys, by simp only [toPD, e]; rfl, by simpa only [PyData.canLay0] using h1, ?_⟩
    simp only [PyData.depth, dpt]; omega
  | .bl _, h => by simp [okd] at h
  | .dK _ _, h => by simp [okd] at h
  | .dT _ _, h => by simp [okd] at h
  | .ins _ _ _, h => by simp [okd] at h
  | .err _, h => by simp [okd] at h
  | .glb _, h => by simp [okd] at h
theorem toPDs_ok : ∀ {ds : List D}, okds ds = true → ∃ xs, toPDs ds = some xs ∧ PyData.canLayAll0 xs = true ∧ PyData.depthAll xs ≤ dpts ds
  | [], _ => ⟨[], rfl, rfl, by simp [PyData.depthAll, dpts]⟩
  | d :: ds, h => by
    simp only [okds, Bool.and_eq_true] at h
    obtain ⟨x, e1, a1, a2⟩ := toPD_ok h.1
    obtain ⟨xs, e2, b1, b2⟩ := toPDs_ok h.2
    refine ⟨x :: xs, by simp only [toPDs, e1, e2], by simp only [PyData.canLayAll0, a1, b1, Bool.and_self], ?_⟩
    simp only [PyData.depthAll, dpts]; omega
end
mutual
theorem eqv_ok : ∀ {a b : D} {x y : PyData}, okd a = true → okd b = true → toPD a = some x → toPD b = some y → (PyData.eqv x y = true ↔ a = b)
  | .non, b, x, y, ha, hb, ex, ey => by
    cases ex
    cases b <;> simp only [toPD, Option.map_eq_some_iff] at ey <;> first | (cases ey; done) | (cases ey; simp [PyData.eqv]; done) | (obtain ⟨z, _, rfl⟩ := ey; simp [PyData.eqv]; done)
  | .int i, b, x, y, ha, hb, ex, ey => by
    cases ex
    cases b <;> simp only [toPD, Option.map_eq_some_iff] at ey <;> first | (simp [okd] at hb; done) | (cases ey; done) | (cases ey; simp [PyData.eqv]; done) | (obtain ⟨z, _, rfl⟩ := ey; simp [PyData.eqv]; done)
  | .str s, b, x, y, ha, hb, ex, ey => by
    cases ex
    cases b <;> simp only [toPD, Option.map_eq_some_iff] at ey <;> first | (simp [okd] at hb; done) | (cases ey; done) | (cases ey; simp [PyData.eqv]; done) | (obtain ⟨z, _, rfl⟩ := ey; simp [PyData.eqv]; done)
  | .tup xs, b, x, y, ha, hb, ex, ey => by
    simp only [toPD, Option.map_eq_some_iff] at ex
    obtain ⟨us, e1, rfl⟩ := ex
    cases b <;> simp only [toPD, Option.map_eq_some_iff] at ey <;> first | (simp [okd] at hb; done) | (cases ey; done) | (cases ey; simp [PyData.eqv]; done) | skip
    · obtain ⟨ws, e2, rfl⟩ := ey
      simp only [PyData.eqv, D.tup.injEq]
      exact eqvs_ok (by simpa only [okd] using ha) (by simpa only [okd] using hb) e1 e2
    · obtain ⟨ws, e2, rfl⟩ := ey
      simp [PyData.eqv]
  | .lst xs, b, x, y, ha, hb, ex, ey => by
    simp only [toPD, Option.map_eq_some_iff] at ex
    obtain ⟨us, e1, rfl⟩ := ex
    cases b <;> simp only [toPD, Option.map_eq_some_iff] at ey <;> first | (simp [okd] at hb; done) | (cases ey; done) | (cases ey; simp [PyData.eqv]; done) | skip
    · obtain ⟨ws, e2, rfl⟩ := ey
      simp [PyData.eqv]
    · obtain ⟨ws, e2, rfl⟩ := ey
      simp only [PyData.eqv, D.lst.injEq]
      exact eqvs_ok (by simpa only [okd] using ha) (by simpa only [okd] using hb) e1 e2
  | .bl _, _, _, _, h, _, _, _ => by simp [okd] at h
  | .dK _ _, _, _, _, h, _, _, _ => by simp [okd] at h
  | .dT _ _, _, _, _, h, _, _, _ => by simp [okd] at h
  | .ins _ _ _, _, _, _, h, _, _, _ => by simp [okd] at h
  | .err _, _, _, _, h, _, _, _ => by simp [okd] at h
  | .glb _, _, _, _, h, _, _, _ => by simp [okd] at h
theorem eqvs_ok : ∀ {as bs : List D} {xs ys : List PyData}, okds as = true → okds bs = true → toPDs as = some xs → toPDs bs = some ys → (PyData.eqvAll xs ys = true ↔ as = bs)
  | [], [], xs, ys, _, _, ex, ey => by cases ex; cases ey; simp [PyData.eqvAll]
  | [], b :: bs, xs, ys, _, hb, ex, ey => by
    cases ex
    simp only [toPDs] at ey
    split at ey
    · cases ey; simp [PyData.eqvAll]
    · cases ey
  | a :: as, [], xs, ys, _, _, ex, ey => by
    cases ey
    simp only [toPDs] at ex
    split at ex
    · cases ex; simp [PyData.eqvAll]
    · cases ex
  | a :: as, b :: bs, xs, ys, ha, hb, ex, ey => by
    simp only [okds, Bool.and_eq_true] at ha hb
    simp only [toPDs] at ex ey
    split at ex
    · rename_i x xs' e1 e2
      cases ex
      split at ey
      · rename_i y ys' e3 e4
        cases ey
        simp only [PyData.eqvAll, Bool.and_eq_true, List.cons.injEq]
        rw [eqv_ok ha.1 hb.1 e1 e3, eqvs_ok ha.2 hb.2 e2 e4]
      · cases ey
    · cases ex
end
theorem shp_ok {d : D} (h : okd d = true) (hd : dpt d ≤ 64) : ∃ x, toPD d = some x ∧ shp d = some x := by
  obtain ⟨x, e, h1, h2⟩ := toPD_ok h
  refine ⟨x, e, ?_⟩
  unfold shp
  rw [e]
  show (if SeqAt.shaped x = true then some x else none) = some x
  rw [if_pos]
  unfold SeqAt.shaped
  rw [h1]
  simp only [Bool.true_and, decide_eq_true_eq]
  omega
/-- == of such data -/
theorem eqD_ok {a b : D} (ha : okd a = true) (hb : okd b = true) (da : dpt a ≤ 64) (db : dpt b ≤ 64) : ∃ k, eqD a b = some k ∧ (k = true ↔ a = b) := by
  obtain ⟨x, e1, e2⟩ := shp_ok ha da
  obtain ⟨y, e3, e4⟩ := shp_ok hb db
  refine ⟨PyData.eqv x y, ?_, eqv_ok ha hb e1 e3⟩
  unfold eqD
  rw [e2, e4]
theorem okds_ints : ∀ ns : List Int, okds (ns.map D.int) = true
  | [] => rfl
  | n :: ns => by rw [List.map_cons]; simp only [okds, okd, okds_ints ns, Bool.and_self]
theorem dpts_ints : ∀ ns : List Int, dpts (ns.map D.int) ≤ 1
  | [] => by simp [dpts]
  | n :: ns => by
    rw [List.map_cons]
    simp only [dpts, dpt]
    have := dpts_ints ns
    omega
theorem okds_all {f : List Int → D} (hf : ∀ l, okd (f l) = true) : ∀ ls : List (List Int), okds (ls.map f) = true
  | [] => rfl
  | n :: ns => by rw [List.map_cons]; simp only [okds, hf, okds_all hf ns, Bool.and_self]
theorem dpts_all {f : List Int → D} {k : Nat} (hf : ∀ l, dpt (f l) ≤ k) : ∀ ls : List (List Int), dpts (ls.map f) ≤ k
  | [] => by simp [dpts]
  | n :: ns => by
    rw [List.map_cons]
    simp only [dpts]
    have := dpts_all hf ns
    have := hf n
    omega
end VS

set_option Elab.async false
set_option linter.all false
set_option autoImplicit false
set_option maxRecDepth 100000
set_option maxHeartbeats 4000000
/-! K01: what is a turn. -/
namespace K01
open PySem L2 VS
def m_is_whole : Mir
  | [.val d] => match tyName d with
    | some T => some (.ok (.val (.bl (T == "int"))))
    | none => none
  | _ => none
def b_is_whole : List S := [.ret (.and_ (.isi (.var 0) [.tyInt]) (.not_ (.isi (.var 0) [.tyBool])))]
def n_is_whole : List Str := ["thing"]
theorem w_is_whole : ∀ cs r, m_is_whole cs = some r → wps b_is_whole (DsOf r) (start0 n_is_whole cs) := by
  intro cs r h
  unfold m_is_whole at h
  split at h
  · rename_i d
    cases d <;> first | (cases h; done) | (cases h; exact rfl)
  · cases h
def wholeD : D → Bool
  | .int _ => true
  | _ => false
def plainD (d : D) : Bool := (tyName d).isSome
theorem whole_call {d : D} (h : plainD d = true) : m_is_whole [.val d] = M.ok (.val (.bl (wholeD d))) := by
  cases d <;> first | rfl | cases h
def rngI (n : Nat) : List Int := (List.range n).map fun i : Nat => (i : Int)
def isPermD (xs : List D) : Bool := match intsD xs with
  | some ns => decide (srt ns = rngI xs.length)
  | none => false
/-- what is_turn answers -/
def turnB : D → Bool
  | .tup xs => decide (1 ≤ xs.length ∧ xs.length ≤ 12) && (xs.all wholeD && isPermD xs)
  | _ => false
/-- what it may be asked of -/
def askD : D → Bool
  | .tup xs => xs.all plainD
  | d => plainD d
def m_is_turn : Mir
  | [.val d] => if askD d = true then some (.ok (.val (.bl (turnB d)))) else none
  | _ => none
def b_is_turn : List S := [.ifs (.or_ (.not_ (.isi (.var 0) [.tyTup])) (.not_ (.chain .le .le (.cst (.int 1)) (.blt bLen [(.var 0)]) (.gl "MOST_POINTS" (.int 12))))) [.ret (.cst (.bl false))] [],
  .ret (.and_ (.blt bAll [(.lc (.one 1) (.var 0) [] (.call "is_whole" m_is_whole [(.var 1)]))]) (.op .eq (.blt bSorted [(.var 0)]) (.lstR false (.blt bLen [(.var 0)]))))]
def n_is_turn : List Str := ["thing", "point"]
theorem intsD_whole : ∀ {xs : List D}, xs.all wholeD = true → ∃ ns, intsD xs = some ns
  | [], _ => ⟨[], rfl⟩
  | d :: ds, h => by
    simp only [List.all_cons, Bool.and_eq_true] at h
    obtain ⟨ns, e⟩ := intsD_whole h.2
    cases d <;> first | (cases h.1; done) | skip
    rename_i i
    exact ⟨i :: ns, by simp only [intsD, e]⟩
theorem map_int_inj : ∀ {ns ms : List Int}, ns.map D.int = ms.map D.int ↔ ns = ms
  | [], [] => by simp
  | [], _ :: _ => by simp
  | _ :: _, [] => by simp
  | n :: ns, m :: ms => by
    rw [List.map_cons, List.map_cons, List.cons.injEq, List.cons.injEq, D.int.injEq, map_int_inj]
theorem bno_t {b : Bool} (h : (false || !b) = true) : b = false := by cases b <;> first | rfl | cases h
theorem bno_f {b : Bool} (h : (false || !b) = false) : b = true := by cases b <;> first | rfl | cases h
theorem rngV_small (t : Bool) {n : Int} (h0 : -100000 ≤ n) (h : n ≤ 100000) : rngV t (.int 0) (.int n) = some (if t = true then .val (.tup (rngD 0 n)) else .own (.lst (rngD 0 n))) := by
  have hc : (bnd62 0 && bnd62 n && decide ((n - 0).toNat ≤ 2 ^ 24)) = true := by
    have h24 : (2 : Nat) ^ 24 = 16777216 := by decide
    simp only [bnd62, Bool.and_eq_true, decide_eq_true_eq]
    refine ⟨⟨⟨by decide, by decide⟩, by omega, by omega⟩, ?_⟩
    rw [h24]
    omega
  simp only [rngV]
  rw [if_pos hc]
theorem eqD_ints (ns ms : List Int) : eqD (.lst (ns.map D.int)) (.lst (ms.map D.int)) = some (decide (ns = ms)) := by
  obtain ⟨k, h1, h2⟩ := eqD_ok (a := .lst (ns.map D.int)) (b := .lst (ms.map D.int)) (by simp only [okd, okds_ints]) (by simp only [okd, okds_ints]) (by have := dpts_ints ns; simp only [dpt]; omega) (by have := dpts_ints ms; simp only [dpt]; omega)
  rw [h1]
  congr 1
  rw [D.lst.injEq, map_int_inj] at h2
  by_cases h : ns = ms
  · rw [h2.mpr h, decide_eq_true h]
  · have : k ≠ true := fun z => h (h2.mp z)
    rw [decide_eq_false h]
    cases k
    · rfl
    · exact absurd rfl this
theorem rngD_I (n : Nat) : rngD 0 n = (rngI n).map D.int := by
  unfold rngD rngI
  rw [List.map_map]
  have : ((n : Int) - 0).toNat = n := by omega
  rw [this]
  congr 1
  funext i
  simp
theorem ev_lstR {t : Bool} {b : E} {ρ : List C} {n : Int} (h : look1 (ev b ρ) = M.ok (.int n)) (h0 : -100000 ≤ n) (h1 : n ≤ 100000) : ev (.lstR t b) ρ = M.ok (if t = true then .val (.tup (rngD 0 n)) else .own (.lst (rngD 0 n))) := by
  simp only [ev]
  rw [h, M.bind_ok, rngV_small t h0 h1]
  rfl
theorem w_is_turn : ∀ cs r, m_is_turn cs = some r → wps b_is_turn (DsOf r) (start0 n_is_turn cs) := by
  intro cs r h
  unfold m_is_turn at h
  split at h
  · rename_i d
    split at h
    · rename_i hask
      cases h
      cases d with
      | tup xs =>
        show wps b_is_turn _ [.val (.tup xs), .un]
        have e1 : ev (.not_ (.isi (.var 0) [.tyTup])) [.val (.tup xs), .un] = M.ok (.val (.bl false)) := rfl
        have e2 : ev (.chain .le .le (.cst (.int 1)) (.blt bLen [(.var 0)]) (.gl "MOST_POINTS" (.int 12))) [.val (.tup xs), .un] = M.ok (.val (.bl (decide ((1 : Int) ≤ xs.length) && decide ((xs.length : Int) ≤ 12)))) :=
          ev_chain (z := .int 12) rfl rfl rfl fun _ => ⟨rfl, rfl⟩
        have hb : (decide ((1 : Int) ≤ xs.length) && decide ((xs.length : Int) ≤ 12)) = decide (1 ≤ xs.length ∧ xs.length ≤ 12) := by
          rw [Bool.decide_and]
          congr 1 <;> (apply decide_eq_decide.mpr; omega)
        rw [hb] at e2
        refine wps_cons (wp_if (ev_or (lk e1) fun _ => ev_not (lk e2)) (fun hh => ?_) fun hh => ?_)
        · have hn : decide (1 ≤ xs.length ∧ xs.length ≤ 12) = false := bno_t hh
          refine wps_cons (wp_ret (x := .val (.bl false)) rfl rfl ?_)
          show _ = _
          show Except.ok _ = Except.ok _
          simp only [turnB, hn, Bool.false_and]
        · have hy : decide (1 ≤ xs.length ∧ xs.length ≤ 12) = true := bno_f hh
          have hl := of_decide_eq_true hy
          have hp : ∀ d ∈ xs, plainD d = true := by simpa [askD] using hask
          have el : ev (.lc (.one 1) (.var 0) [] (.call "is_whole" m_is_whole [(.var 1)])) [.val (.tup xs), .un] = M.ok (.own (.lst (xs.map fun d => .bl (wholeD d)))) := by
            refine ev_lc (x := .val (.tup xs)) (ds := xs) rfl rfl (collect_map fun d hd => turn_all (ρ' := [.val (.tup xs), .val d]) rfl (kp (x := .val (.bl (wholeD d))) ?_)) (by rw [List.length_map]; exact Nat.le_trans hl.2 (by decide))
            exact ev_call (cs := [.val d]) rfl (whole_call (hp d hd))
          have em : xs.map (fun d => D.bl (wholeD d)) = (xs.map wholeD).map D.bl := by rw [List.map_map]; rfl
          rw [em] at el
          have ea : ev (.blt bAll [(.lc (.one 1) (.var 0) [] (.call "is_whole" m_is_whole [(.var 1)]))]) [.val (.tup xs), .un] = M.ok (.val (.bl (xs.all wholeD))) := by
            refine ev_blt (evs_cons el evs_nil) rfl ?_
            show allD true [.lst ((xs.map wholeD).map D.bl)] = _
            simp only [allD, blsD_map, Option.map_some]
            congr 3
            rw [List.all_map]; rfl
          refine wps_nil (wps_cons (wp_ret (ev_and (b2 := isPermD xs) (lk ea) fun hw => ?_) rfl ?_))
          · obtain ⟨ns, hns⟩ := intsD_whole hw
            have hxs := ints_of hns
            refine ev_op (x := .lst ((srt ns).map D.int)) (y := .lst ((rngI xs.length).map D.int)) (lk (ev_blt (cs := [.val (.tup xs)]) (z := .own (.lst ((srt ns).map D.int))) rfl rfl ?_)) (lk (x := .own (.lst (rngD 0 xs.length))) ?_ (by rw [rngD_I]; rfl)) ?_
            · show sortedD [.tup xs] = _
              simp only [sortedD, seqIntsD, hns]
              rfl
            · exact ev_lstR (t := false) (n := (xs.length : Int)) (lk (ev_blt (cs := [.val (.tup xs)]) (z := .val (.int xs.length)) rfl rfl rfl)) (by omega) (by omega)
            · show (eqD _ _).map _ = _
              rw [eqD_ints]
              simp only [isPermD, hns]
              rfl
          · show Except.ok _ = Except.ok _
            simp only [turnB, hy, Bool.true_and]
      | non => exact rfl
      | bl b => exact rfl
      | int b => exact rfl
      | str b => exact rfl
      | lst b => exact rfl
      | dK b c => exact rfl
      | dT b c => exact rfl
      | ins _ _ _ => cases hask
      | err _ => cases hask
      | glb _ => cases hask
    · cases h
  · cases h
def m_need_turn : Mir
  | [.val d] => if askD d = true then (if turnB d = true then some (.ok (.val d)) else some (.error 1)) else none
  | _ => none
def b_need_turn : List S := [.ifs (.not_ (.call "is_turn" m_is_turn [(.var 0)])) [.raise_ 1 "BadTurn"] [],
  .retV 0]
def n_need_turn : List Str := ["thing"]
theorem turn_call {d : D} (h : askD d = true) : m_is_turn [.val d] = M.ok (.val (.bl (turnB d))) := by
  show (if askD d = true then _ else _) = _
  rw [if_pos h]
theorem w_need_turn : ∀ cs r, m_need_turn cs = some r → wps b_need_turn (DsOf r) (start0 n_need_turn cs) := by
  intro cs r h
  unfold m_need_turn at h
  split at h
  · rename_i d
    split at h
    · rename_i hask
      show wps b_need_turn _ [.val d]
      refine wps_cons (wp_if (ev_not (lk (ev_call (cs := [.val d]) rfl (turn_call hask)))) (fun hh => ?_) fun hh => ?_)
      · have : turnB d = false := by simpa using hh
        rw [if_neg (by rw [this]; exact Bool.false_ne_true)] at h
        cases h
        exact rfl
      · have : turnB d = true := by simpa using hh
        rw [if_pos this] at h
        cases h
        exact rfl
    · cases h
  · cases h
def m_still : Mir
  | [.val d] => if plainD d = true then (match d with
    | .int n => if 1 ≤ n ∧ n ≤ 12 then some (.ok (.val (.tup (rngD 0 n)))) else some (.error 2)
    | _ => some (.error 2)) else none
  | _ => none
def b_still : List S := [.ifs (.or_ (.not_ (.call "is_whole" m_is_whole [(.var 0)])) (.not_ (.chain .le .le (.cst (.int 1)) (.var 0) (.gl "MOST_POINTS" (.int 12))))) [.raise_ 2 "BadCount"] [],
  .ret (.lstR true (.var 0))]
def n_still : List Str := ["many"]
theorem w_still : ∀ cs r, m_still cs = some r → wps b_still (DsOf r) (start0 n_still cs) := by
  intro cs r h
  unfold m_still at h
  split at h
  · rename_i d
    split at h
    · rename_i hp
      show wps b_still _ [.val d]
      split at h
      · rename_i n
        have e2 : ev (.chain .le .le (.cst (.int 1)) (.var 0) (.gl "MOST_POINTS" (.int 12))) [.val (.int n)] = M.ok (.val (.bl (decide ((1 : Int) ≤ n) && decide (n ≤ 12)))) :=
          ev_chain (z := .int 12) rfl rfl rfl fun _ => ⟨rfl, rfl⟩
        have e1 : ev (.not_ (.call "is_whole" m_is_whole [(.var 0)])) [.val (.int n)] = M.ok (.val (.bl false)) := rfl
        refine wps_cons (wp_if (ev_or (lk e1) fun _ => ev_not (lk e2)) (fun hh => ?_) fun hh => ?_)
        · have hn : ¬ (1 ≤ n ∧ n ≤ 12) := by
            have := bno_t hh
            rw [← Bool.decide_and] at this
            exact of_decide_eq_false this
          rw [if_neg hn] at h
          cases h
          exact rfl
        · have hy : 1 ≤ n ∧ n ≤ 12 := by
            have := bno_f hh
            rw [← Bool.decide_and] at this
            exact of_decide_eq_true this
          rw [if_pos hy] at h
          cases h
          refine wps_nil (wps_cons (wp_ret (x := .val (.tup (rngD 0 n))) ?_ rfl rfl))
          exact ev_lstR (t := true) (n := n) rfl (by omega) (by omega)
      · rename_i hd
        cases h
        cases d <;> first | (cases hp; done) | exact rfl | exact absurd rfl (hd _)
    · cases h
  · cases h
end K01

set_option Elab.async false
set_option linter.all false
set_option autoImplicit false
set_option maxRecDepth 100000
set_option maxHeartbeats 4000000
/-! K01: the small helpers. -/
namespace K01
open PySem L2 VS
/-! ### _law_cell_at -/
def cellAt (ns : List Int) (k : Int) : Int := if k < ns.length then ns.getD k.toNat 0 else 0
def m__law_cell_at : Mir
  | [.bor (.lst xs), .val (.int k)] => match intsD xs with
    | some ns => if 0 ≤ k then some (.ok (.val (.int (cellAt ns k)))) else none
    | none => none
  | _ => none
def b__law_cell_at : List S := [.ifs (.op .lt (.var 1) (.blt bLen [(.var 0)])) [.ret (.ix (.var 0) (.var 1))] [],
  .ret (.cst (.int 0))]
def n__law_cell_at : List Str := ["_law_script", "_law_k"]
theorem w__law_cell_at : ∀ cs r, m__law_cell_at cs = some r → wps b__law_cell_at (DsOf r) (start0 n__law_cell_at cs) := by
  intro cs r h
  unfold m__law_cell_at at h
  split at h
  · rename_i xs k
    split at h
    · rename_i ns hns
      split at h
      · rename_i hk
        cases h
        have hx := ints_of hns
        subst hx
        show wps b__law_cell_at _ [.bor (.lst (ns.map D.int)), .val (.int k)]
        have e1 : ev (.op .lt (.var 1) (.blt bLen [(.var 0)])) [.bor (.lst (ns.map D.int)), .val (.int k)] = M.ok (.val (.bl (decide (k < ((ns.map D.int).length : Int))))) := rfl
        rw [List.length_map] at e1
        refine wps_cons (wp_if e1 (fun hh => ?_) fun hh => ?_)
        · have hlt : k < ns.length := of_decide_eq_true hh
          have hn : k.toNat < ns.length := by omega
          refine wps_cons (wp_ret (x := .val (.int (cellAt ns k))) (ev_ix (x := .lst (ns.map D.int)) (y := .int k) rfl rfl ?_) rfl rfl)
          show atI (ns.map D.int) k = _
          unfold atI ixN
          rw [List.length_map, if_pos hk, if_pos hlt]
          show (ns.map D.int)[k.toNat]? = _
          rw [List.getElem?_map, List.getElem?_eq_getElem hn]
          unfold cellAt
          rw [if_pos hlt, List.getD_eq_getElem?_getD, List.getElem?_eq_getElem hn]
          rfl
        · have hlt : ¬ k < ns.length := of_decide_eq_false hh
          refine wps_nil (wps_cons (wp_ret (x := .val (.int 0)) rfl rfl ?_))
          show Except.ok _ = Except.ok _
          unfold cellAt
          rw [if_neg hlt]
      · cases h
    · cases h
  · cases h
/-! ### _law_mixed -/
def mixed (c k : Int) : Int := (((c * (48271 + 2 * k * k) + 69621 * k + 11).fmod 2147483647) * 69621).fmod 2147483629
theorem mixed_bd (c k : Int) : 0 ≤ mixed c k ∧ mixed c k < 2147483629 := ⟨Int.fmod_nonneg_of_pos _ (by decide), Int.fmod_lt_of_pos _ (by decide)⟩
def m__law_mixed : Mir
  | [.val (.int c), .val (.int k)] => if 0 ≤ k ∧ k ≤ 100000 then some (.ok (.val (.int (mixed c k)))) else none
  | _ => none
def b__law_mixed : List S := [.ret (.op .mod (.op .mul (.op .mod (.op .add (.op .add (.op .mul (.var 0) (.op .add (.cst (.int 48271)) (.op .mul (.op .mul (.cst (.int 2)) (.var 1)) (.var 1)))) (.op .mul (.cst (.int 69621)) (.var 1))) (.cst (.int 11))) (.cst (.int 2147483647))) (.cst (.int 69621))) (.cst (.int 2147483629)))]
def n__law_mixed : List Str := ["_law_cell", "_law_k"]
def small64 (i : Int) : Prop := -(2 ^ 64) < i ∧ i < 2 ^ 64
theorem op_mul_r {i j : Int} (h : -1000000000000 < j ∧ j < 1000000000000) : opD .mul (.int i) (.int j) = some (.val (.int (i * j))) := by
  show (if _ then _ else _) = _
  rw [if_pos]
  right
  have : (2 : Int) ^ 64 = 18446744073709551616 := by decide
  rw [this]
  omega
theorem op_mul_l {i j : Int} (h : -1000000000000 < i ∧ i < 1000000000000) : opD .mul (.int i) (.int j) = some (.val (.int (i * j))) := by
  show (if _ then _ else _) = _
  rw [if_pos]
  left
  have : (2 : Int) ^ 64 = 18446744073709551616 := by decide
  rw [this]
  omega
theorem op_mod {i j : Int} (h : j ≠ 0) : opD .mod (.int i) (.int j) = some (.val (.int (i.fmod j))) := by
  show (if _ then _ else _) = _
  rw [if_pos h]
theorem op_fdiv {i j : Int} (h : j ≠ 0) (h2 : j.natAbs < 1073741824) : opD .fdiv (.int i) (.int j) = some (.val (.int (i.fdiv j))) := by
  show (if _ then _ else _) = _
  rw [if_pos ⟨h, h2⟩]
theorem w__law_mixed : ∀ cs r, m__law_mixed cs = some r → wps b__law_mixed (DsOf r) (start0 n__law_mixed cs) := by
  intro cs r h
  unfold m__law_mixed at h
  split at h
  · rename_i c k
    split at h
    · rename_i hk
      cases h
      show wps b__law_mixed _ [.val (.int c), .val (.int k)]
      have hkk : 0 ≤ k * k ∧ k * k ≤ 10000000000 := ⟨Int.mul_nonneg hk.1 hk.1, by have := Int.mul_le_mul hk.2 hk.2 hk.1 (by decide); simpa using this⟩
      have e2 : 2 * k * k = 2 * (k * k) := Int.mul_assoc _ _ _
      refine wps_cons (wp_ret (x := .val (.int (mixed c k))) ?_ rfl rfl)
      refine ev_op (x := .int _) (y := .int _) (lk (ev_op (x := .int _) (y := .int _) (lk (ev_op (x := .int _) (y := .int _) (lk (ev_op (x := .int _) (y := .int _) (lk (ev_op (x := .int _) (y := .int _)
        (lk (ev_op (x := .int c) (y := .int (48271 + 2 * k * k)) rfl (lk (ev_op (x := .int 48271) (y := .int (2 * k * k)) rfl (lk (ev_op (x := .int (2 * k)) (y := .int k) (lk (ev_op (x := .int 2) (y := .int k) rfl rfl (op_mul_l (by decide)))) rfl (op_mul_r (by omega)))) rfl)) (op_mul_r (by omega))))
        (lk (ev_op (x := .int 69621) (y := .int k) rfl rfl (op_mul_l (by decide)))) rfl)) rfl rfl)) rfl (op_mod (by decide)))) rfl (op_mul_r (by decide)))) rfl (op_mod (by decide))
    · cases h
  · cases h
/-! ### common -/
def m_common : Mir
  | [.val (.int a), .val (.int b)] => if 0 ≤ a ∧ 0 ≤ b then some (.ok (.val (.int (Nat.gcd a.toNat b.toNat)))) else none
  | _ => none
def b_common : List S := [.while_ (.op .gt (.var 1) (.cst (.int 0))) [.asg 2 (.op .mod (.var 0) (.var 1)), .asg 0 (.var 1), .asg 1 (.var 2)],
  .retV 0]
def n_common : List Str := ["one", "other", "rest"]
theorem w_common : ∀ cs r, m_common cs = some r → wps b_common (DsOf r) (start0 n_common cs) := by
  intro cs r h
  unfold m_common at h
  split at h
  · rename_i a b
    split at h
    · rename_i hab
      cases h
      show wps b_common _ [.val (.int a), .val (.int b), .un]
      refine wps_cons (while_inv (fun m ρ => ∃ (x y : Nat) (z : C), ρ = [.val (.int x), .val (.int y), z] ∧ m = y ∧ Nat.gcd x y = Nat.gcd a.toNat b.toNat) b.toNat
        ⟨a.toNat, b.toNat, .un, by rw [Int.toNat_of_nonneg hab.1, Int.toNat_of_nonneg hab.2], rfl, rfl⟩ ?_)
      rintro y ρ ⟨x, y', z, rfl, hm, hg⟩
      subst hm
      refine ⟨decide ((0 : Int) < y), rfl, fun hb Q k => ?_, fun hb => ?_⟩
      · have hy : 0 < y := by have := of_decide_eq_true hb; omega
        refine wps_cons (wp_asg (x := .val (.int ((x : Int).fmod y))) (ev_op (x := .int x) (y := .int y) rfl rfl (op_mod (by omega))) rfl ?_)
        refine wps_cons (wp_asg (x := .val (.int y)) rfl rfl ?_)
        refine wps_cons (wp_asg (x := .val (.int ((x : Int).fmod y))) rfl rfl ?_)
        refine wps_nil (k (x % y) _ (Nat.mod_lt _ hy) ⟨y, x % y, .val (.int ((x : Int).fmod y)), ?_, rfl, ?_⟩)
        · show [C.val (.int y), C.val (.int ((x : Int).fmod y)), C.val (.int ((x : Int).fmod y))] = _
          have he : (x : Int).fmod y = ((x % y : Nat) : Int) := by rw [Int.fmod_eq_emod_of_nonneg _ (by omega)]; rfl
          rw [he]
        · rw [Nat.gcd_comm, ← Nat.gcd_rec, Nat.gcd_comm]; exact hg
      · have hy : y = 0 := by have := of_decide_eq_false hb; omega
        subst hy
        refine wps_cons (wp_retV (x := .val (.int x)) rfl rfl ?_)
        show Except.ok _ = Except.ok _
        rw [← hg, Nat.gcd_zero_right]
    · cases h
  · cases h
/-! ### _law_is -/
def m__law_is : Mir
  | [.val (.err e), .val (.int k)] => if (e = 1 ∨ e = 2) ∧ (k = 0 ∨ k = 1) then some (.ok (.val (.bl (decide ((e : Int) = k + 1))))) else none
  | _ => none
def b__law_is : List S := [.asg 2 (.lst [(.isi (.var 0) [.own 1 "BadTurn"]), (.isi (.var 0) [.own 2 "BadCount"])]),
  .ret (.and_ (.op .eq (.var 2) (.lst [(.op .eq (.var 1) (.cst (.int 0))), (.op .eq (.var 1) (.cst (.int 1)))])) (.isi (.var 0) [.tyValueError]))]
def n__law_is : List Str := ["_law_error", "_law_kind", "_law_fits"]
theorem w__law_is : ∀ cs r, m__law_is cs = some r → wps b__law_is (DsOf r) (start0 n__law_is cs) := by
  intro cs r h
  unfold m__law_is at h
  split at h
  · rename_i e k
    split at h
    · rename_i hh
      cases h
      obtain ⟨rfl | rfl, rfl | rfl⟩ := hh <;> exact rfl
    · cases h
  · cases h
/-! ### _law_caught -/
end K01

set_option Elab.async false
set_option linter.all false
set_option autoImplicit false
set_option maxRecDepth 100000
set_option maxHeartbeats 4000000
/-! VS: the steps of pure proofs, over readings that are not unfolded. -/
namespace VS
open PySem L2
@[irreducible] def jp (s : S) (P : Ds) (ρ : List C) : Prop := wp s P ρ
@[irreducible] def jps (ss : List S) (P : Ds) (ρ : List C) : Prop := wps ss P ρ
theorem jps_eq : jps = wps := by funext ss P ρ; unfold jps; rfl
theorem jp_eq : jp = wp := by funext ss P ρ; unfold jp; rfl
section
variable {ρ : List C} {a b c e : E} {P : Ds}
theorem of_jps {ss : List S} (h : jps ss P ρ) : wps ss P ρ := by rw [jps_eq] at h; exact h
theorem j_nil (h : P.nx ρ) : jps [] P ρ := by rw [jps_eq]; exact h
theorem j_cons {s : S} {ss : List S} (h : jp s { P with nx := jps ss P } ρ) : jps (s :: ss) P ρ := by
  rw [jps_eq] at h ⊢; rw [jp_eq] at h; exact h
theorem jx_cons {s : S} {ss : List S} {rt : C → List C → Prop} {ex : Nat → List C → Prop} (h : jp s { P with nx := jps ss P } ρ) : (Ds.mk (jps (s :: ss) P) rt ex).nx ρ := j_cons h
theorem jx_nil {rt : C → List C → Prop} {ex : Nat → List C → Prop} (h : P.nx ρ) : (Ds.mk (jps [] P) rt ex).nx ρ := j_nil h
theorem j_asg {i : Nat} {x x' : C} (h : ev e ρ = M.ok x) (hx : x.st = some x') (k : P.nx (ρ.set i x')) : jp (.asg i e) P ρ := by rw [jp_eq]; exact wp_asg h hx k
theorem j_unp {t : Tgt} {d : D} {ρ' : List C} (h : keep1 (ev e ρ) = M.ok d) (hb : bindT t d ρ = some ρ') (k : P.nx ρ') : jp (.unp t e) P ρ := by
  rw [jp_eq]
  simp only [wp]
  rw [h]
  show optP (bindT t d ρ) P.nx
  rw [hb]; exact k
theorem j_ex {x : C} (h : ev e ρ = M.ok x) (k : P.nx ρ) : jp (.ex e) P ρ := by rw [jp_eq]; exact wp_ex h k
theorem j_exE {j : Nat} (h : ev e ρ = some (.error j)) (k : P.ex j ρ) : jp (.ex e) P ρ := by rw [jp_eq]; exact wp_exE h k
theorem j_ret {x x' : C} (h : ev e ρ = M.ok x) (hx : x.st = some x') (k : P.rt x' ρ) : jp (.ret e) P ρ := by rw [jp_eq]; exact wp_ret h hx k
theorem j_retE {j : Nat} (h : ev e ρ = some (.error j)) (k : P.ex j ρ) : jp (.ret e) P ρ := by rw [jp_eq]; exact wp_retE h k
theorem j_retV {i : Nat} {x x' : C} (h : ρ[i]? = some x) (hx : x.st = some x') (k : P.rt x' ρ) : jp (.retV i) P ρ := by rw [jp_eq]; exact wp_retV h hx k
theorem j_if {b1 : Bool} {s1 s2 : List S} (h : ev c ρ = M.ok (.val (.bl b1))) (ht : b1 = true → jps s1 P ρ) (hf : b1 = false → jps s2 P ρ) : jp (.ifs c s1 s2) P ρ := by
  rw [jps_eq] at ht hf; rw [jp_eq]; exact wp_if h ht hf
theorem j_ifE {j : Nat} {s1 s2 : List S} (h : ev c ρ = some (.error j)) (k : P.ex j ρ) : jp (.ifs c s1 s2) P ρ := by rw [jp_eq]; exact wp_ifE h k
theorem j_app {i : Nat} {xs : List D} {d : D} (hi : ρ[i]? = some (.own (.lst xs))) (h : keep1 (ev e ρ) = M.ok d) (hl : xs.length < sizeLine) (k : P.nx (ρ.set i (.own (.lst (xs ++ [d]))))) : jp (.app i e) P ρ := by rw [jp_eq]; exact wp_app hi h hl k
theorem j_frz {i : Nat} {o : O} (hi : ρ[i]? = some (.own o)) (k : P.nx (ρ.set i (.val o.frz))) : jp (.frz i) P ρ := by
  rw [jp_eq]
  simp only [wp]
  unfold ownAt
  rw [hi]
  exact k
theorem j_setx {i : Nat} {k e : E} {o o' : O} {x d : D} (hi : ρ[i]? = some (.own o)) (h : keep1 (ev e ρ) = M.ok d) (hk : look1 (ev k ρ) = M.ok x) (ho : setO o x d = some o') (n : P.nx (ρ.set i (.own o'))) : jp (.setx i k e) P ρ := by rw [jp_eq]; exact wp_setx hi h hk ho n
theorem j_upd {i : Nat} {ks ks2 : List Key} {vs vs2 : List D} (hi : ρ[i]? = some (.own (.dK ks vs))) (h : keep1 (ev e ρ) = M.ok (.dK ks2 vs2)) (hl : ks.length + ks2.length ≤ sizeLine) (k : P.nx (ρ.set i (.own (.dK (mrgD ks2 vs2 ks vs).1 (mrgD ks2 vs2 ks vs).2)))) : jp (.upd i e) P ρ := by
  rw [jp_eq]
  simp only [wp]
  unfold ownAt
  rw [hi]
  show run1 (keep1 (ev e ρ)) _ _
  rw [h]
  exact ⟨hl, k⟩
theorem j_clr {i : Nat} {xs : List D} (hi : ρ[i]? = some (.own (.lst xs))) (k : P.nx (ρ.set i (.own (.lst [])))) : jp (.clr i) P ρ := by
  rw [jp_eq]
  simp only [wp]
  unfold ownAt
  rw [hi]
  exact k
theorem j_augA {i : Nat} {a b : Int} (hi : ρ[i]? = some (.val (.int a))) (h : look1 (ev e ρ) = M.ok (.int b)) (k : P.nx (ρ.set i (.val (.int (a + b))))) : jp (.augA i e) P ρ := by
  rw [jp_eq]
  simp only [wp]
  rw [hi]
  show run1 (look1 (ev e ρ)) _ _
  rw [h]
  exact k
theorem j_apop {i j : Nat} {xs ys : List D} {z : Nat} {y : D} (hi : ρ[i]? = some (.own (.lst xs))) (hj : ρ[j]? = some (.own (.lst ys))) (h : look1 (ev e ρ) = M.ok (.int (z : Nat))) (hij : i ≠ j) (hz : ys[z]? = some y) (hy : ys.length ≤ 100000) (hx : xs.length < sizeLine) (k : P.nx ((ρ.set j (.own (.lst (ys.eraseIdx z)))).set i (.own (.lst (xs ++ [y]))))) : jp (.apop i j e) P ρ := by
  rw [jp_eq]
  simp only [wp]
  unfold ownAt
  rw [hi, hj]
  show run1 (look1 (ev e ρ)) _ _
  rw [h]
  have hl := (List.getElem?_eq_some_iff.mp hz).1
  exact ⟨hij, Int.natCast_nonneg z, by omega, hy, hx, y, hz, k⟩
theorem j_raise {k : Nat} {x : Str} (h : P.ex k ρ) : jp (.raise_ k x) P ρ := by rw [jp_eq]; exact h
theorem j_try {es : List Nat} {body : List S} {k n j : Nat} {x : Str} (h : jps body { P with ex := fun e ρ' => e ∈ es ∧ if sub e k = true then P.nx ((ρ'.set j (.val (.err e))).set n .un) else P.ex e ρ' } ρ) : jp (.tryE es body k x n j) P ρ := by
  rw [jps_eq] at h; rw [jp_eq]; simp only [wp]; exact h
theorem j_for {t : Tgt} {it : E} {body : List S} {x : C} {ds : List D} (h : ev it ρ = M.ok x) (hs : seqC x = M.ok ds) (k : forW t (jps body) P ds ρ) : jp (.for_ t it body) P ρ := by rw [jps_eq] at k; rw [jp_eq]; exact wp_for h hs k
theorem j_forE {t : Tgt} {it : E} {body : List S} {j : Nat} (h : ev it ρ = some (.error j)) (k : P.ex j ρ) : jp (.for_ t it body) P ρ := by rw [jp_eq]; exact wp_forE h k
theorem j_while {body : List S} (I : Nat → List C → Prop) (m0 : Nat) (h0 : I m0 ρ)
    (turn : ∀ m ρ, I m ρ → ∃ b1, ev c ρ = M.ok (.val (.bl b1)) ∧ (b1 = true → ∀ Q : List C → Prop, (∀ m' ρ', m' < m → I m' ρ' → Q ρ') → jps body { P with nx := Q } ρ) ∧ (b1 = false → P.nx ρ)) : jp (.while_ c body) P ρ := by
  rw [jps_eq] at turn; rw [jp_eq]; exact while_inv I m0 h0 turn
end
end VS

set_option Elab.async false
set_option linter.all false
set_option autoImplicit false
set_option maxRecDepth 100000
set_option maxHeartbeats 4000000
/-! K01: cycles. -/
namespace K01
open PySem L2 VS VP
def iD (i : Nat) : D := .int i
def tD (p : List Nat) : D := .tup (p.map iD)
def natD : D → Nat
  | .int i => i.toNat
  | _ => 0
def nats : D → List Nat
  | .tup xs => xs.map natD
  | _ => []
theorem turn_perm {d : D} (h : turnB d = true) : d = tD (nats d) ∧ Pm (nats d) ∧ 1 ≤ (nats d).length ∧ (nats d).length ≤ 12 := by
  cases d <;> first | (cases h; done) | skip
  rename_i xs
  simp only [turnB, Bool.and_eq_true, decide_eq_true_eq, isPermD] at h
  obtain ⟨hl, _, h⟩ := h
  split at h
  · rename_i ns hns
    have hx := ints_of hns
    subst hx
    simp only [List.length_map, decide_eq_true_eq] at h hl
    have hp : ns.Perm (rngI ns.length) := by rw [← h]; exact (srt_perm ns).symm
    have hnn : ∀ i ∈ ns, 0 ≤ i := fun i hi => by
      have := hp.mem_iff.mp hi
      unfold rngI at this
      obtain ⟨k, _, rfl⟩ := List.mem_map.mp this
      omega
    have e1 : nats (.tup (ns.map D.int)) = ns.map Int.toNat := by
      simp only [nats, List.map_map]; rfl
    rw [e1]
    refine ⟨?_, ?_, by simpa using hl.1, by simpa using hl.2⟩
    · unfold tD
      rw [List.map_map]
      congr 1
      apply List.map_congr_left
      intro i hi
      show D.int i = D.int (i.toNat : Int)
      rw [Int.toNat_of_nonneg (hnn i hi)]
    · show (ns.map Int.toNat).Perm (List.range (ns.map Int.toNat).length)
      rw [List.length_map]
      have := hp.map Int.toNat
      have e2 : (rngI ns.length).map Int.toNat = List.range ns.length := by
        unfold rngI
        rw [List.map_map]
        have : (Int.toNat ∘ fun i : Nat => (i : Int)) = id := by funext i; simp
        rw [this, List.map_id]
      rw [e2] at this
      exact this
  · cases h
theorem askT (p : List Nat) : askD (tD p) = true := by
  show (p.map iD).all plainD = true
  rw [List.all_map]
  simp only [List.all_eq_true]
  intro i _
  rfl
theorem intsD_iD (p : List Nat) : intsD (p.map iD) = some (p.map fun i : Nat => (i : Int)) := by
  have e : p.map iD = (p.map fun i : Nat => (i : Int)).map D.int := by rw [List.map_map]; rfl
  rw [e, intsD_map]
theorem turnT {p : List Nat} (hp : Pm p) (h1 : 1 ≤ p.length) (h2 : p.length ≤ 12) : turnB (tD p) = true := by
  show (decide (1 ≤ (p.map iD).length ∧ (p.map iD).length ≤ 12) && ((p.map iD).all wholeD && isPermD (p.map iD))) = true
  have hw : (p.map iD).all wholeD = true := by
    rw [List.all_map]
    simp only [List.all_eq_true]
    intro i _; rfl
  rw [hw, List.length_map]
  simp only [Bool.true_and, Bool.and_eq_true, decide_eq_true_eq]
  refine ⟨⟨h1, h2⟩, ?_⟩
  unfold isPermD
  rw [intsD_iD]
  simp only [List.length_map, decide_eq_true_eq]
  symm
  apply srt_eq
  · unfold rngI
    exact (hp.map _).symm
  · unfold rngI
    rw [List.pairwise_map]
    exact List.pairwise_lt_range.imp fun h => by omega
theorem nats_tD (p : List Nat) : nats (tD p) = p := by
  show (p.map iD).map natD = p
  rw [List.map_map]
  have : natD ∘ iD = id := by funext i; show ((i : Int)).toNat = i; simp
  rw [this, List.map_id]
def m_cycles : Mir
  | [.val d] => if askD d = true then (if turnB d = true then some (.ok (.val (.tup ((cycs (nats d)).map tD)))) else some (.error 1)) else none
  | _ => none
def b_cycles : List S := [.ex (.call "need_turn" m_need_turn [(.var 0)]),
  .asg 1 .dnewK,
  .asg 2 (.lst []),
  .for_ (.one 3) (.iRng [(.blt bLen [(.var 0)])]) [.asg 4 (.lst []), .asg 5 (.var 3), .while_ (.op .notin (.var 5) (.var 1)) [.setx 1 (.var 5) (.cst (.bl true)), .app 4 (.var 5), .asg 5 (.ix (.var 0) (.var 5))], .ifs (.op .gt (.blt bLen [(.var 4)]) (.cst (.int 1))) [.app 2 (.blt bTuple [(.var 4)])] []],
  .ret (.blt bTuple [(.var 2)])]
def n_cycles : List Str := ["one", "gone", "found", "begin", "cycle", "point"]
theorem need_ok {d : D} (ha : askD d = true) (h : turnB d = true) : m_need_turn [.val d] = M.ok (.val d) := by
  show (if askD d = true then (if turnB d = true then _ else _) else _) = _
  rw [if_pos ha, if_pos h]
theorem need_er {d : D} (ha : askD d = true) (h : turnB d = false) : m_need_turn [.val d] = some (.error 1) := by
  show (if askD d = true then (if turnB d = true then _ else _) else _) = _
  rw [if_pos ha, if_neg (by rw [h]; exact Bool.false_ne_true)]
/-- the keys of points -/
def ky (l : List Nat) : List Key := l.map fun i : Nat => .inl (i : Int)
def tr (l : List Nat) : List D := l.map fun _ => .bl true
theorem ky_mem {l : List Nat} {i : Nat} : (Sum.inl (i : Int) : Key) ∈ ky l ↔ i ∈ l := by
  unfold ky
  rw [List.mem_map]
  constructor
  · rintro ⟨j, hj, e⟩
    have := Sum.inl.inj e
    have : j = i := by omega
    exact this ▸ hj
  · exact fun h => ⟨i, h, rfl⟩
theorem find_ky {i : Nat} : ∀ l : List Nat, (findK (ky l) (tr l) (Sum.inl (i : Int))).isSome = decide (i ∈ l)
  | [] => rfl
  | j :: l => by
    show (if (Sum.inl (j : Int) : Key) = Sum.inl (i : Int) then some (D.bl true) else findK (ky l) (tr l) (Sum.inl (i : Int))).isSome = _
    by_cases h : j = i
    · subst h; simp
    · have : (Sum.inl (j : Int) : Key) ≠ Sum.inl (i : Int) := fun e => h (by have := Sum.inl.inj e; omega)
      rw [if_neg this, find_ky l]
      have h' : ¬ i = j := fun e => h e.symm
      simp [h']
theorem put_ky {i : Nat} {l : List Nat} (h : i ∉ l) : putD (ky l) (tr l) (Sum.inl (i : Int)) (.bl true) = (ky (l ++ [i]), tr (l ++ [i])) := by
  unfold putD
  rw [if_neg (fun hm => h (ky_mem.mp hm))]
  simp [ky, tr]
theorem atI_nat {xs : List D} {i : Nat} {d : D} (h : xs[i]? = some d) : atI xs (i : Int) = some d := by
  have hl := (List.getElem?_eq_some_iff.mp h).1
  unfold atI ixN
  rw [if_pos (by omega), if_pos (by omega)]
  exact h
theorem ix_turn {p : List Nat} {i : Nat} (h : i < p.length) : ixD (tD p) (iD i) = some (iD (nx p i)) := by
  show atI (p.map iD) (i : Int) = _
  refine atI_nat ?_
  rw [List.getElem?_map, List.getElem?_eq_getElem h, nx_get h]; rfl
theorem rngD_nat (n : Nat) : rngD 0 n = (List.range n).map iD := by
  rw [rngD_I]
  unfold rngI
  rw [List.map_map]; rfl
theorem ev_rng1 {b : E} {ρ : List C} {n : Nat} (h : ev b ρ = M.ok (.val (.int n))) (h1 : n ≤ 100000) : ev (.iRng [b]) ρ = M.ok (.own (.lst ((List.range n).map iD))) := by
  simp only [ev]
  rw [evs_cons h evs_nil, M.bind_ok]
  have : rngArgs [.int (n : Int)] = some (rngD 0 n) := by
    have hb : bnd62 (n : Int) = true := by
      simp only [bnd62, Bool.and_eq_true, decide_eq_true_eq]
      have : (2 : Int) ^ 62 = 4611686018427387904 := by decide
      omega
    simp only [rngArgs]
    rw [if_pos hb]
  have e2 : lookAll [C.val (.int (n : Int))] = some [.int n] := rfl
  rw [e2, M.lift_some', M.bind_ok, this, M.lift_some', M.bind_ok, rngD_nat]
theorem ev_lst0 (ρ : List C) : ev (.lst []) ρ = M.ok (.own (.lst [])) := by
  simp only [ev, evs, M.bind_ok, keepAll, M.lift_some']
  rw [if_pos (show ([] : List D).length ≤ sizeLine from Nat.zero_le _)]
theorem sz12 {n : Nat} (h : n ≤ 1000) : n < sizeLine := Nat.lt_of_le_of_lt h (by decide)
theorem w_cycles : ∀ cs r, m_cycles cs = some r → wps b_cycles (DsOf r) (start0 n_cycles cs) := by
  intro cs r h
  unfold m_cycles at h
  split at h
  · rename_i d
    split at h
    · rename_i ha
      show wps b_cycles _ [.val d, .un, .un, .un, .un, .un]
      apply of_jps
      split at h
      · rename_i ht
        cases h
        obtain ⟨e, hp, hl1, hl2⟩ := turn_perm ht
        have hn := need_ok ha ht
        generalize nats d = p at e hp hl1 hl2 ⊢
        subst e
        refine j_cons (j_ex (ev_call (cs := [.val (tD p)]) rfl hn) ?_)
        have e0 : ∀ ρ, ev .dnewK ρ = M.ok (.own (.dK [] [])) := fun ρ => by simp only [ev]
        refine jx_cons (j_asg (x := .own (.dK [] [])) (e0 _) rfl ?_)
        refine jx_cons (j_asg (x := .own (.lst [])) (ev_lst0 _) rfl ?_)
        have el : ∀ a b c f g, ev (.blt bLen [(.var 0)]) [.val (tD p), a, b, c, f, g] = M.ok (.val (.int p.length)) := fun a b c f g => by
          refine ev_blt (cs := [.val (tD p)]) rfl rfl ?_
          show some (C.val (.int ((p.map iD).length : Nat))) = _
          rw [List.length_map]
        refine jx_cons (j_for (ev_rng1 (el _ _ _ _ _) (by omega)) rfl ?_)
        refine for_inv _ (fun x ρ => ∃ c a b, ρ = [.val (tD p), .own (.dK (ky (gn p x)) (tr (gn p x))), .own (.lst ((fnd p x).map tD)), c, a, b]) ⟨_, _, _, rfl⟩ ?_ ?_
        · rintro x d ρ Q hd ⟨c, a, b, rfl⟩ hQ
          have hx : x < p.length := by
            have := (List.getElem?_eq_some_iff.mp hd).1
            simpa using this
          have hd' : d = iD x := by
            rw [List.getElem?_map, List.getElem?_range hx] at hd
            exact (Option.some.inj hd).symm
          subst hd'
          refine ⟨_, rfl, ?_⟩
          refine j_cons (j_asg (x := .own (.lst [])) (ev_lst0 _) rfl ?_)
          refine jx_cons (j_asg (x := .val (iD x)) rfl rfl ?_)
          -- one cycle is walked
          refine jx_cons (j_while (fun m ρ => ∃ k, k ≤ per p x ∧ m = per p x - k ∧ (x ∈ gn p x → k = 0) ∧
            ρ = [.val (tD p), .own (.dK (ky (gn p x ++ part p x k)) (tr (gn p x ++ part p x k))), .own (.lst ((fnd p x).map tD)), .val (iD x), .own (.lst ((part p x k).map iD)), .val (iD (it p x k))]) (per p x)
            ⟨0, Nat.zero_le _, rfl, fun _ => rfl, by simp [part, it]⟩ ?_)
          rintro m ρ ⟨k, hk, rfl, h0, rfl⟩
          have hpl := per_le hp hx
          have hgl := gn_length hp (Nat.le_of_lt hx)
          have hpart : (part p x k).length = k := by unfold part; simp
          refine ⟨!decide (it p x k ∈ gn p x ++ part p x k), ?_, fun hb Q2 kk => ?_, fun hb => ?_⟩
          · refine ev_op (x := iD (it p x k)) (y := .dK (ky (gn p x ++ part p x k)) (tr (gn p x ++ part p x k))) rfl rfl ?_
            simp only [opD, inD, iD, keyD, Option.map_some]
            rw [find_ky]
          · have hnew : it p x k ∉ gn p x ++ part p x k := by simpa using hb
            have hxg : x ∉ gn p x := fun hg => by
              have hk0 := h0 hg
              subst hk0
              exact hnew (List.mem_append_left _ hg)
            have hlt : k < per p x := by
              apply Nat.lt_of_le_of_ne hk
              intro e
              subst e
              rw [it_per hp hx] at hnew
              refine hnew (List.mem_append_right _ ?_)
              exact (self_mem : x ∈ cyc p x)
            refine j_cons (j_setx (o := .dK (ky (gn p x ++ part p x k)) (tr (gn p x ++ part p x k))) (o' := .dK (ky ((gn p x ++ part p x k) ++ [it p x k])) (tr ((gn p x ++ part p x k) ++ [it p x k]))) (x := iD (it p x k)) (d := .bl true) rfl rfl rfl ?_ ?_)
            · show (if _ then _ else _) = _
              rw [if_pos (by unfold ky; rw [List.length_map, List.length_append, hpart]; exact sz12 (by omega))]
              show some (O.dK (putD _ _ _ _).1 (putD _ _ _ _).2) = _
              rw [put_ky hnew]
            refine jx_cons (j_app (xs := (part p x k).map iD) (d := iD (it p x k)) rfl rfl (by rw [List.length_map, hpart]; exact sz12 (by omega)) ?_)
            refine jx_cons (j_asg (x := .val (iD (nx p (it p x k)))) (ev_ix (x := tD p) (y := iD (it p x k)) rfl rfl (ix_turn (it_lt hp hx k))) rfl ?_)
            refine jx_nil (kk (per p x - (k + 1)) _ (by omega) ⟨k + 1, hlt, rfl, fun hg => absurd hg hxg, ?_⟩)
            show [C.val (tD p), C.own (O.dK (ky ((gn p x ++ part p x k) ++ [it p x k])) (tr ((gn p x ++ part p x k) ++ [it p x k]))), C.own (O.lst ((fnd p x).map tD)), C.val (iD x), C.own (O.lst ((part p x k).map iD ++ [iD (it p x k)])), C.val (iD (nx p (it p x k)))] = _
            rw [part_succ, List.append_assoc, List.map_append]
            rfl
          · -- the walk is over
            have hin : it p x k ∈ gn p x ++ part p x k := by
              simp only [Bool.not_eq_false', decide_eq_true_eq] at hb
              exact hb
            have hcase : (x ∈ gn p x ∧ k = 0) ∨ (x ∉ gn p x ∧ k = per p x) := by
              by_cases hg : x ∈ gn p x
              · exact .inl ⟨hg, h0 hg⟩
              · right
                refine ⟨hg, ?_⟩
                apply Classical.byContradiction
                intro hne
                have hlt : k < per p x := by omega
                rcases List.mem_append.mp hin with hm | hm
                · exact gn_disj hp hx hg (it_mem hp hx k) hm
                · exact part_new hp hx hlt hm
            have elen : ev (.op .gt (.blt bLen [(.var 4)]) (.cst (.int 1))) [.val (tD p), .own (.dK (ky (gn p x ++ part p x k)) (tr (gn p x ++ part p x k))), .own (.lst ((fnd p x).map tD)), .val (iD x), .own (.lst ((part p x k).map iD)), .val (iD (it p x k))] = M.ok (.val (.bl (decide ((1 : Int) < k)))) := by
              refine ev_op (x := .int k) (y := .int 1) (lk (ev_blt (cs := [.bor (.lst ((part p x k).map iD))]) (z := .val (.int k)) rfl rfl ?_)) rfl rfl
              show some (C.val (.int (((part p x k).map iD).length : Nat))) = _
              rw [List.length_map, hpart]
            have hgn : gn p x ++ part p x k = gn p (x + 1) := by
              simp only [gn]
              rcases hcase with ⟨hg, rfl⟩ | ⟨hg, rfl⟩
              · rw [if_pos hg]; simp [part]
              · rw [if_neg hg]; rfl
            have hfn : (if (1 : Int) < k then (fnd p x).map tD ++ [tD (part p x k)] else (fnd p x).map tD) = (fnd p (x + 1)).map tD := by
              rw [fnd_succ, lead_gn hp hx]
              rcases hcase with ⟨hg, rfl⟩ | ⟨hg, rfl⟩
              · rw [if_neg (by simp), if_neg (by simp [hg])]; simp
              · by_cases h1 : 1 < per p x
                · rw [if_pos (by omega), if_pos (by simp [hg, h1])]
                  simp only [List.map_append]; rfl
                · rw [if_neg (by omega), if_neg (by simp [h1])]; simp
            rw [hgn] at elen ⊢
            refine jx_cons (j_if elen (fun h1 => ?_) fun h1 => ?_)
            · have h1 := of_decide_eq_true h1
              rw [if_pos h1] at hfn
              refine j_cons (j_app (xs := (fnd p x).map tD) (d := tD (part p x k)) rfl (kp (ev_blt (cs := [.bor (.lst ((part p x k).map iD))]) (z := .val (tD (part p x k))) rfl rfl rfl)) (by rw [List.length_map]; have := fnd_length p x; exact sz12 (by omega)) ?_)
              refine jx_nil (jx_nil (hQ _ ⟨.val (iD x), .own (.lst ((part p x k).map iD)), .val (iD (it p x k)), ?_⟩))
              show [C.val (tD p), C.own (O.dK (ky (gn p (x + 1))) (tr (gn p (x + 1)))), C.own (O.lst ((fnd p x).map tD ++ [tD (part p x k)])), C.val (iD x), C.own (O.lst ((part p x k).map iD)), C.val (iD (it p x k))] = _
              rw [hfn]
            · have h1 := of_decide_eq_false h1
              rw [if_neg h1] at hfn
              refine j_nil (jx_nil (hQ _ ⟨.val (iD x), .own (.lst ((part p x k).map iD)), .val (iD (it p x k)), ?_⟩))
              rw [hfn]
        · rintro ρ ⟨c, a, b, rfl⟩
          rw [List.length_map, List.length_range]
          refine jx_cons (j_ret (ev_blt (cs := [.bor (.lst ((fnd p p.length).map tD))]) (z := .val (.tup ((fnd p p.length).map tD))) rfl rfl rfl) rfl ?_)
          rfl
      · rename_i ht
        cases h
        refine j_cons (j_exE (ev_call (cs := [.val d]) rfl (need_er ha (by simpa using ht))) ?_)
        rfl
    · cases h
  · cases h
end K01

set_option Elab.async false
set_option linter.all false
set_option autoImplicit false
set_option maxRecDepth 100000
set_option maxHeartbeats 4000000
/-! K01: order, is_even. -/
namespace K01
open PySem L2 VS VP
theorem ev_opE {o : Op2} {a b : E} {ρ : List C} {k : Nat} (h : look1 (ev a ρ) = some (.error k)) : ev (.op o a b) ρ = some (.error k) := by
  simp only [ev]
  rw [h]; rfl
theorem ev_bltE {bl : Blt} {es : List E} {ρ : List C} {k : Nat} (h : evs es ρ = some (.error k)) : ev (.blt bl es) ρ = some (.error k) := by
  simp only [ev]
  rw [h]; rfl
theorem evs_consE {a : E} {es : List E} {ρ : List C} {k : Nat} (h : ev a ρ = some (.error k)) : evs (a :: es) ρ = some (.error k) := by
  simp only [evs]
  rw [h]; rfl
theorem ev_lcE {t : Tgt} {it elt : E} {cs : List E} {ρ : List C} {k : Nat} (h : ev it ρ = some (.error k)) : ev (.lc t it cs elt) ρ = some (.error k) := by
  simp only [ev]
  rw [h]; rfl
theorem cycs_mem {p c : List Nat} (h : c ∈ cycs p) : ∃ x, x < p.length ∧ c = cyc p x ∧ 1 < per p x := by
  unfold cycs at h
  obtain ⟨x, hx, rfl⟩ := List.mem_map.mp h
  obtain ⟨h1, h2⟩ := List.mem_filter.mp hx
  simp only [Bool.and_eq_true, decide_eq_true_eq] at h2
  exact ⟨x, List.mem_range.mp h1, rfl, h2.1⟩
theorem cycs_len {p c : List Nat} (hp : Pm p) (h : c ∈ cycs p) : 1 < c.length ∧ c.length ≤ p.length := by
  obtain ⟨x, hx, rfl, h1⟩ := cycs_mem h
  rw [cyc_length]
  exact ⟨h1, per_le hp hx⟩
theorem cycs_count (p : List Nat) : (cycs p).length ≤ p.length := by
  have := fnd_length p p.length
  exact this
theorem cycles_ok {d : D} (ha : askD d = true) (h : turnB d = true) : m_cycles [.val d] = M.ok (.val (.tup ((cycs (nats d)).map tD))) := by
  show (if askD d = true then (if turnB d = true then _ else _) else _) = _
  rw [if_pos ha, if_pos h]
theorem cycles_er {d : D} (ha : askD d = true) (h : turnB d = false) : m_cycles [.val d] = some (.error 1) := by
  show (if askD d = true then (if turnB d = true then _ else _) else _) = _
  rw [if_pos ha, if_neg (by rw [h]; exact Bool.false_ne_true)]
def ordr (p : List Nat) : Nat := (cycs p).foldl (fun a c => Nat.lcm a c.length) 1
def m_order : Mir
  | [.val d] => if askD d = true then (if turnB d = true then some (.ok (.val (.int (ordr (nats d))))) else some (.error 1)) else none
  | _ => none
def b_order : List S := [.asg 1 (.cst (.int 1)),
  .for_ (.one 2) (.call "cycles" m_cycles [(.var 0)]) [.asg 1 (.op .fdiv (.op .mul (.var 1) (.blt bLen [(.var 2)])) (.call "common" m_common [(.var 1), (.blt bLen [(.var 2)])]))],
  .retV 1]
def n_order : List Str := ["one", "found", "cycle"]
theorem len_tD (p : List Nat) : lenD [tD p] = some (.val (.int p.length)) := by
  show some (C.val (.int ((p.map iD).length : Nat))) = _
  rw [List.length_map]
theorem lcm_step {a n : Nat} (ha : 0 < a) (hn : 0 < n) : ((a : Int) * (n : Int)).fdiv ((Nat.gcd a n : Nat) : Int) = ((Nat.lcm a n : Nat) : Int) := by
  have : (a : Int) * (n : Int) = ((a * n : Nat) : Int) := by simp
  rw [this, Int.fdiv_eq_ediv_of_nonneg _ (by omega)]
  unfold Nat.lcm
  exact (Int.natCast_ediv _ _).symm
theorem common_nat (a b : Nat) : m_common [.val (.int a), .val (.int b)] = M.ok (.val (.int (Nat.gcd a b : Nat))) := by
  simp only [m_common]
  rw [if_pos ⟨Int.natCast_nonneg a, Int.natCast_nonneg b⟩]
  rfl
theorem w_order : ∀ cs r, m_order cs = some r → wps b_order (DsOf r) (start0 n_order cs) := by
  intro cs r h
  unfold m_order at h
  split at h
  · rename_i d
    split at h
    · rename_i ha
      show wps b_order _ [.val d, .un, .un]
      apply of_jps
      split at h
      · rename_i ht
        cases h
        obtain ⟨e, hp, hl1, hl2⟩ := turn_perm ht
        have hn := cycles_ok ha ht
        generalize nats d = p at e hp hl1 hl2 hn ⊢
        subst e
        refine j_cons (j_asg (x := .val (.int 1)) rfl rfl ?_)
        refine jx_cons (j_for (ev_call (cs := [.val (tD p)]) rfl hn) rfl ?_)
        refine for_inv _ (fun i ρ => ∃ c2, 0 < ((cycs p).take i).foldl (fun a c => Nat.lcm a c.length) 1 ∧ ρ = [.val (tD p), .val (.int (((cycs p).take i).foldl (fun a c => Nat.lcm a c.length) 1 : Nat)), c2]) ⟨.un, by simp, by simp⟩ ?_ ?_
        · rintro i d ρ Q hd ⟨c2, hpos, rfl⟩ hQ
          rw [List.getElem?_map] at hd
          cases hc : (cycs p)[i]? with
          | none => rw [hc] at hd; cases hd
          | some c =>
            rw [hc] at hd
            cases hd
            have hcm := cycs_len hp (List.mem_of_getElem? hc)
            generalize ha0 : ((cycs p).take i).foldl (fun a c => Nat.lcm a c.length) 1 = a0 at hpos
            have hnext : ((cycs p).take (i + 1)).foldl (fun a c => Nat.lcm a c.length) 1 = Nat.lcm a0 c.length := by
              rw [List.take_add_one, hc, List.foldl_append, ha0]; rfl
            have hg : 0 < Nat.gcd a0 c.length := Nat.gcd_pos_of_pos_left _ hpos
            have hg2 : Nat.gcd a0 c.length ≤ c.length := Nat.gcd_le_right _ (by omega)
            refine ⟨_, rfl, ?_⟩
            show jps _ _ [.val (tD p), .val (.int (a0 : Nat)), .val (tD c)]
            have el : ∀ x y, ev (.blt bLen [(.var 2)]) [x, y, .val (tD c)] = M.ok (.val (.int c.length)) := fun x y => ev_blt (cs := [.val (tD c)]) rfl rfl (len_tD c)
            have hargs : evs [.var 1, .blt bLen [.var 2]] [.val (tD p), .val (.int (a0 : Nat)), .val (tD c)] = M.ok [.val (.int a0), .val (.int c.length)] := evs_cons (x := .val (.int a0)) rfl (evs_cons (el _ _) evs_nil)
            have hmul : ev (.op .mul (.var 1) (.blt bLen [.var 2])) [.val (tD p), .val (.int (a0 : Nat)), .val (tD c)] = M.ok (.val (.int ((a0 : Int) * (c.length : Int)))) := ev_op (x := .int a0) (y := .int c.length) rfl (lk (el _ _)) (op_mul_r (by omega))
            refine j_cons (j_asg (x := .val (.int (Nat.lcm a0 c.length : Nat))) ?_ rfl ?_)
            · refine ev_op (x := .int ((a0 : Int) * (c.length : Int))) (y := .int (Nat.gcd a0 c.length : Nat)) (lk hmul) (lk (x := .val (.int (Nat.gcd a0 c.length : Nat))) ?_) ?_
              · refine ev_call hargs ?_
                exact common_nat a0 c.length
              · rw [op_fdiv (by omega) (by omega), lcm_step hpos (by omega)]
            · refine jx_nil (hQ _ ⟨.val (tD c), ?_, ?_⟩)
              · rw [hnext]; exact Nat.lcm_pos hpos (by omega)
              · rw [hnext]; rfl
        · rintro ρ ⟨c2, hpos, rfl⟩
          rw [List.length_map, List.take_length]
          refine jx_cons (j_retV (x := .val (.int (ordr p))) rfl rfl ?_)
          rfl
      · rename_i ht
        cases h
        refine j_cons (j_asg (x := .val (.int 1)) rfl rfl ?_)
        refine jx_cons (j_forE (j := 1) ?_ ?_)
        · rw [ev_call (cs := [.val d]) rfl (cycles_er ha (by simpa using ht))]
        · rfl
    · cases h
  · cases h
/-! ### is_even -/
def evn (p : List Nat) : Bool := decide ((((cycs p).map fun c => (c.length : Int) - 1).sum).fmod 2 = 0)
def m_is_even : Mir
  | [.val d] => if askD d = true then (if turnB d = true then some (.ok (.val (.bl (evn (nats d))))) else some (.error 1)) else none
  | _ => none
def e_par (it : E) (v : Nat) : E := .op .eq (.op .mod (.blt bSum [(.lc (.one v) it [] (.op .sub (.blt bLen [(.var v)]) (.cst (.int 1))))]) (.cst (.int 2))) (.cst (.int 0))
def b_is_even : List S := [.ret (.op .eq (.op .mod (.blt bSum [(.lc (.one 1) (.call "cycles" m_cycles [(.var 0)]) [] (.op .sub (.blt bLen [(.var 1)]) (.cst (.int 1))))]) (.cst (.int 2))) (.cst (.int 0)))]
def n_is_even : List Str := ["one", "cycle"]
theorem eqD_int (i j : Int) : eqD (.int i) (.int j) = some (decide (i = j)) := by
  obtain ⟨k, h1, h2⟩ := eqD_ok (a := .int i) (b := .int j) rfl rfl (by simp [dpt]) (by simp [dpt])
  rw [h1]
  congr 1
  rw [D.int.injEq] at h2
  by_cases h : i = j
  · rw [h2.mpr h, decide_eq_true h]
  · rw [decide_eq_false h]
    cases k
    · rfl
    · exact absurd (h2.mp rfl) h
theorem op_eq_int (i j : Int) : opD .eq (.int i) (.int j) = some (.val (.bl (decide (i = j)))) := by
  simp only [opD]
  rw [eqD_int]; rfl
theorem ev_par {it : E} {v : Nat} {ρ : List C} {x : C} {cs : List (List Nat)} (hv : v < ρ.length) (h : ev it ρ = M.ok x) (hs : seqC x = M.ok (cs.map tD)) (hl : cs.length ≤ 100) :
    ev (e_par it v) ρ = M.ok (.val (.bl (decide (((cs.map fun c => (c.length : Int) - 1).sum).fmod 2 = 0)))) := by
  unfold e_par
  have e1 : ev (.lc (.one v) it [] (.op .sub (.blt bLen [(.var v)]) (.cst (.int 1)))) ρ = M.ok (.own (.lst ((cs.map fun c => (c.length : Int) - 1).map D.int))) := by
    refine ev_lc (ys := (cs.map fun c => (c.length : Int) - 1).map D.int) h hs ?_ (by rw [List.length_map, List.length_map]; exact Nat.le_of_lt (sz12 (by omega)))
    have : (cs.map fun c => (c.length : Int) - 1).map D.int = (cs.map tD).map (fun d => .int ((nats d).length - 1)) := by
      rw [List.map_map, List.map_map]
      apply List.map_congr_left
      intro c _
      show D.int _ = D.int _
      rw [show (fun c => (c.length : Int) - 1) c = ((nats (tD c)).length : Int) - 1 from by rw [nats_tD]]
    rw [this]
    refine collect_map fun d hd => ?_
    obtain ⟨c, _, rfl⟩ := List.mem_map.mp hd
    rw [nats_tD]
    refine turn_all (ρ' := (wipeC ρ [v]).set v (.val (tD c))) rfl (kp (x := .val (.int (c.length - 1))) (ev_op (x := .int c.length) (y := .int 1) (lk (ev_blt (cs := [.val (tD c)]) (evs_cons (ev_var (x := .val (tD c)) ?_) evs_nil) rfl (len_tD c))) rfl rfl))
    rw [List.getElem?_set_self (by rw [wipeC_length]; exact hv)]
  refine ev_op (x := .int (((cs.map fun c => (c.length : Int) - 1).sum).fmod 2)) (y := .int 0) (lk (ev_op (x := .int ((cs.map fun c => (c.length : Int) - 1).sum)) (y := .int 2) (lk (ev_blt (cs := [.val (.lst ((cs.map fun c => (c.length : Int) - 1).map D.int))]) (z := .val (.int ((cs.map fun c => (c.length : Int) - 1).sum))) (evs_cons e1 evs_nil) rfl ?_)) rfl (op_mod (by decide)))) rfl (op_eq_int _ _)
  show sumD [.lst _] = _
  simp only [sumD, intsD_map]
  rfl
theorem w_is_even : ∀ cs r, m_is_even cs = some r → wps b_is_even (DsOf r) (start0 n_is_even cs) := by
  intro cs r h
  unfold m_is_even at h
  split at h
  · rename_i d
    split at h
    · rename_i ha
      show wps b_is_even _ [.val d, .un]
      apply of_jps
      split at h
      · rename_i ht
        cases h
        obtain ⟨e, hp, hl1, hl2⟩ := turn_perm ht
        have hc := cycs_count (nats d)
        exact j_cons (j_ret (ev_par (v := 1) (by simp) (ev_call (cs := [.val d]) rfl (cycles_ok ha ht)) rfl (by omega)) rfl rfl)
      · rename_i ht
        cases h
        refine j_cons (j_retE ?_ rfl)
        have e := ev_call (ρ := [.val d, .un]) (nm := "cycles") (es := [.var 0]) (cs := [.val d]) rfl (cycles_er ha (by simpa using ht))
        exact ev_opE (lk_er (ev_opE (lk_er (ev_bltE (evs_consE (ev_lcE e))))))
    · cases h
  · cases h
end K01

set_option Elab.async false
set_option linter.all false
set_option autoImplicit false
set_option maxRecDepth 100000
set_option maxHeartbeats 4000000
/-! K01: the law's turn. -/
namespace K01
open PySem L2 VS VP
def oth (c : Int) (j : Nat) : Nat := ((mixed c (20 + j)).fmod (j + 1)).toNat
theorem oth_lt (c : Int) (j : Nat) : oth c j < j + 1 := by
  unfold oth
  have h1 := Int.fmod_nonneg_of_pos (mixed c (20 + j)) (show (0 : Int) < (j : Int) + 1 by omega)
  have h2 := Int.fmod_lt_of_pos (mixed c (20 + j)) (show (0 : Int) < (j : Int) + 1 by omega)
  omega
def fyI (c : Int) (n : Nat) : Nat → List Nat
  | 0 => List.range n
  | i + 1 => swp (fyI c n i) (n - 1 - i) (oth c (n - 1 - i))
theorem fyI_length (c : Int) (n : Nat) : ∀ i, (fyI c n i).length = n
  | 0 => by simp [fyI]
  | i + 1 => by simp only [fyI]; rw [swp_length, fyI_length c n i]
theorem fyI_pm (c : Int) (n : Nat) (hn : 0 < n) : ∀ i, Pm (fyI c n i)
  | 0 => pm_range n
  | i + 1 => by
    simp only [fyI]
    have hl := fyI_length c n i
    have := oth_lt c (n - 1 - i)
    exact swp_pm (fyI_pm c n hn i) (by omega) (by omega)
def fy (c : Int) (n : Nat) : List Nat := fyI c n (n - 1)
def m__law_turn : Mir
  | [.val (.int c), .val (.int n)] => if 1 ≤ n ∧ n ≤ 12 then some (.ok (.val (tD (fy c n.toNat)))) else none
  | _ => none
def b__law_turn : List S := [.asg 2 (.lstR false (.var 1)),
  .for_ (.one 3) (.iRng [(.op .sub (.var 1) (.cst (.int 1))), (.cst (.int 0)), (.neg (.cst (.int 1)))]) [.asg 4 (.op .mod (.call "_law_mixed" m__law_mixed [(.var 0), (.op .add (.cst (.int 20)) (.var 3))]) (.op .add (.var 3) (.cst (.int 1)))), .asg 5 (.ix (.var 2) (.var 3)), .setx 2 (.var 3) (.ix (.var 2) (.var 4)), .setx 2 (.var 4) (.var 5)],
  .ret (.blt bTuple [(.var 2)])]
def n__law_turn : List Str := ["_law_cell", "_law_many", "_law_found", "_law_j", "_law_other", "_law_kept"]
theorem mixed_call {c k : Int} (h0 : 0 ≤ k) (h : k ≤ 100000) : m__law_mixed [.val (.int c), .val (.int k)] = M.ok (.val (.int (mixed c k))) := by
  simp only [m__law_mixed]
  rw [if_pos ⟨h0, h⟩]
theorem ix_lst {l : List Nat} {i : Nat} (h : i < l.length) : ixD (.lst (l.map iD)) (iD i) = some (iD (nx l i)) := by
  show atI (l.map iD) (i : Int) = _
  refine atI_nat ?_
  rw [List.getElem?_map, List.getElem?_eq_getElem h, nx_get h]; rfl
theorem set_lst {l : List Nat} {i v : Nat} (h : i < l.length) : setO (.lst (l.map iD)) (iD i) (iD v) = some (.lst ((l.set i v).map iD)) := by
  show (ixN (l.map iD).length (i : Int)).map _ = _
  unfold ixN
  rw [List.length_map, if_pos (by omega), if_pos (by omega)]
  simp only [Option.map_some]
  rw [List.map_set]
  rfl
theorem down_ds {n : Nat} (hn : 1 ≤ n) (h : n ≤ 1000) : rngArgs [.int ((n : Int) - 1), .int 0, .int (-1)] = some ((List.range (n - 1)).map fun i => iD (n - 1 - i)) := by
  have r := RgC.neg (i := (n : Int) - 1) (j := 0) (by have : (2 : Int) ^ 62 = 4611686018427387904 := by decide
                                                      omega) (by have : (2 : Int) ^ 62 = 4611686018427387904 := by decide
                                                                 omega) (by decide) (by decide)
  obtain ⟨h1, h2, h3, h4⟩ := r
  simp only [rngArgs]
  have hn0 : (0 : Int) ≤ Builtin.Range.rangeSize ((n : Int) - 1) 0 (-1) := by rw [h4]; omega
  rw [if_pos ⟨by decide, by decide, h3, hn0⟩, h4]
  unfold rngC
  have e : (((((n : Int) - 1 - 0).toNat : Nat) : Int)).toNat = n - 1 := by omega
  rw [e]
  congr 1
  apply List.map_congr_left
  intro i hi
  have := List.mem_range.mp hi
  show D.int _ = D.int _
  congr 1
  omega
theorem w__law_turn : ∀ cs r, m__law_turn cs = some r → wps b__law_turn (DsOf r) (start0 n__law_turn cs) := by
  intro cs r h
  unfold m__law_turn at h
  split at h
  · rename_i c n0
    split at h
    · rename_i hn
      cases h
      show wps b__law_turn _ [.val (.int c), .val (.int n0), .un, .un, .un, .un]
      apply of_jps
      obtain ⟨n, rfl⟩ : ∃ n : Nat, n0 = n := ⟨n0.toNat, by omega⟩
      rw [Int.toNat_natCast]
      have e1 : ev (.lstR false (.var 1)) [.val (.int c), .val (.int (n : Int)), .un, .un, .un, .un] = M.ok (.own (.lst ((List.range n).map iD))) := by
        rw [ev_lstR (n := (n : Int)) rfl (by omega) (by omega), rngD_nat]; rfl
      refine j_cons (j_asg e1 rfl ?_)
      have e2 : ev (.iRng [(.op .sub (.var 1) (.cst (.int 1))), (.cst (.int 0)), (.neg (.cst (.int 1)))]) [.val (.int c), .val (.int (n : Int)), .own (.lst ((List.range n).map iD)), .un, .un, .un] = M.ok (.own (.lst ((List.range (n - 1)).map fun i => iD (n - 1 - i)))) := by
        have ea : evs [(.op .sub (.var 1) (.cst (.int 1))), (.cst (.int 0)), (.neg (.cst (.int 1)))] [.val (.int c), .val (.int (n : Int)), .own (.lst ((List.range n).map iD)), .un, .un, .un] = M.ok [.val (.int ((n : Int) - 1)), .val (.int 0), .val (.int (-1))] := rfl
        simp only [ev]
        rw [ea, M.bind_ok]
        have e3 : lookAll [C.val (.int ((n : Int) - 1)), .val (.int 0), .val (.int (-1))] = some [.int ((n : Int) - 1), .int 0, .int (-1)] := rfl
        rw [e3, M.lift_some', M.bind_ok, down_ds (by omega) (by omega), M.lift_some', M.bind_ok]
      refine jx_cons (j_for e2 rfl ?_)
      refine for_inv _ (fun i ρ => i ≤ n - 1 ∧ ∃ a b d, ρ = [.val (.int c), .val (.int (n : Int)), .own (.lst ((fyI c n i).map iD)), a, b, d]) ⟨Nat.zero_le _, .un, .un, .un, rfl⟩ ?_ ?_
      · rintro i d ρ Q hd ⟨hi, a, b, dd, rfl⟩ hQ
        have hlt : i < n - 1 := by
          have := (List.getElem?_eq_some_iff.mp hd).1
          simpa using this
        rw [List.getElem?_map, List.getElem?_range hlt] at hd
        have hd : d = iD (n - 1 - i) := (Option.some.inj hd).symm
        subst hd
        generalize hj : n - 1 - i = j
        have hjn : j < n := by omega
        have hl := fyI_length c n i
        have ho := oth_lt c j
        refine ⟨_, rfl, ?_⟩
        show jps _ _ [.val (.int c), .val (.int (n : Int)), .own (.lst ((fyI c n i).map iD)), .val (iD j), b, dd]
        have hfy : swp (fyI c n i) j (oth c j) = fyI c n (i + 1) := by simp only [fyI]; rw [hj]
        generalize fyI c n i = l at hl hfy ⊢
        have hm : ev (.call "_law_mixed" m__law_mixed [(.var 0), (.op .add (.cst (.int 20)) (.var 3))]) [.val (.int c), .val (.int (n : Int)), .own (.lst (l.map iD)), .val (iD j), b, dd] = M.ok (.val (.int (mixed c (20 + j)))) :=
          ev_call (cs := [.val (.int c), .val (.int (20 + (j : Int)))]) rfl (mixed_call (by omega) (by omega))
        refine j_cons (j_asg (x := .val (iD (oth c j))) ?_ rfl ?_)
        · refine ev_op (x := .int (mixed c (20 + j))) (y := .int ((j : Int) + 1)) (lk hm) rfl ?_
          rw [op_mod (by omega)]
          have h1 := Int.fmod_nonneg_of_pos (mixed c (20 + j)) (show (0 : Int) < (j : Int) + 1 by omega)
          show some (C.val (D.int _)) = some (C.val (D.int _))
          unfold oth
          rw [Int.toNat_of_nonneg h1]
        refine jx_cons (j_asg (x := .val (iD (nx l j))) (ev_ix (x := .lst (l.map iD)) (y := iD j) rfl rfl (ix_lst (by omega))) rfl ?_)
        refine jx_cons (j_setx (o := .lst (l.map iD)) (o' := .lst ((l.set j (nx l (oth c j))).map iD)) (x := iD j) (d := iD (nx l (oth c j))) rfl (kp (ev_ix (x := .lst (l.map iD)) (y := iD (oth c j)) rfl rfl (ix_lst (by omega)))) rfl (set_lst (by omega)) ?_)
        refine jx_cons (j_setx (o := .lst ((l.set j (nx l (oth c j))).map iD)) (o' := .lst (((l.set j (nx l (oth c j))).set (oth c j) (nx l j)).map iD)) (x := iD (oth c j)) (d := iD (nx l j)) rfl rfl rfl (set_lst (by rw [List.length_set]; omega)) ?_)
        refine jx_nil (hQ _ ⟨by omega, .val (iD j), .val (iD (oth c j)), .val (iD (nx l j)), ?_⟩)
        rw [← hfy]
        rfl
      · rintro ρ ⟨_, a, b, d, rfl⟩
        rw [List.length_map, List.length_range]
        exact jx_cons (j_ret (ev_blt (cs := [.bor (.lst ((fyI c n (n - 1)).map iD))]) (z := .val (tD (fy c n))) rfl rfl rfl) rfl rfl)
    · cases h
  · cases h
end K01

set_option Elab.async false
set_option linter.all false
set_option autoImplicit false
set_option maxRecDepth 100000
set_option maxHeartbeats 4000000
/-! K01: the law's own is_turn. -/
namespace K01
open PySem L2 VS VP
theorem ddp_le : ∀ xs : List Int, (ddp xs).length ≤ xs.length
  | [] => by simp [ddp]
  | x :: xs => by
    have := ddp_le xs
    simp only [ddp]
    split
    · simp; omega
    · simp; omega
theorem ddp_nodup : ∀ {xs : List Int}, (ddp xs).length = xs.length → xs.Nodup
  | [], _ => by simp
  | x :: xs, h => by
    have hle := ddp_le xs
    simp only [ddp] at h
    split at h
    · simp at h; omega
    · rename_i hx
      simp at h
      exact List.nodup_cons.mpr ⟨hx, ddp_nodup h⟩
theorem ddp_of : ∀ {xs : List Int}, xs.Nodup → ddp xs = xs
  | [], _ => rfl
  | x :: xs, h => by
    have h := List.nodup_cons.mp h
    simp only [ddp]
    rw [if_neg h.1, ddp_of h.2]
def goodD (n : Nat) : D → Bool
  | .int i => decide (0 ≤ i ∧ i < n)
  | _ => false
theorem turnB_tup {xs : List D} (hl : 1 ≤ xs.length ∧ xs.length ≤ 12) : turnB (.tup xs) = (xs.all (goodD xs.length) && match intsD xs with | some ns => decide ((ddp ns).length = xs.length) | none => false) := by
  by_cases ht : turnB (.tup xs) = true
  · rw [ht]
    obtain ⟨e, hp, _, _⟩ := turn_perm ht
    have hx : xs = (nats (.tup xs)).map iD := by
      have := D.tup.inj e
      exact this
    generalize nats (.tup xs) = p at hx hp
    subst hx
    rw [intsD_iD]
    have hg : (p.map iD).all (goodD (p.map iD).length) = true := by
      rw [List.all_map, List.all_eq_true]
      intro i hi
      show decide ((0 : Int) ≤ (i : Nat) ∧ ((i : Nat) : Int) < ((p.map iD).length : Nat)) = true
      rw [List.length_map]
      have := List.mem_range.mp (hp.mem_iff.mp hi)
      exact decide_eq_true ⟨by omega, by omega⟩
    rw [hg]
    have hnd : (p.map fun i : Nat => (i : Int)).Nodup := by
      rw [List.Nodup, List.pairwise_map]
      exact (pm_nodup hp).imp fun h e => h (by omega)
    simp only [Bool.true_and]
    rw [ddp_of hnd]
    simp
  · have hf : turnB (.tup xs) = false := by simpa using ht
    rw [hf]
    symm
    apply Bool.eq_false_iff.mpr
    intro h
    apply ht
    simp only [Bool.and_eq_true] at h
    obtain ⟨h1, h2⟩ := h
    split at h2
    · rename_i ns hns
      have hx := ints_of hns
      subst hx
      simp only [List.length_map, decide_eq_true_eq] at h2 h1 hl
      have hnd := ddp_nodup h2
      rw [List.all_map, List.all_eq_true] at h1
      have hb : ∀ i ∈ ns, 0 ≤ i ∧ i < ns.length := fun i hi => of_decide_eq_true (h1 i hi)
      have hpm : Pm (ns.map Int.toNat) := by
        apply pm_of
        · rw [List.Nodup, List.pairwise_map]
          refine hnd.imp_of_mem fun {a b} ha hb2 hab e => hab ?_
          have := hb a ha
          have := hb b hb2
          omega
        · intro y hy
          obtain ⟨i, hi, rfl⟩ := List.mem_map.mp hy
          have := hb i hi
          rw [List.length_map]
          omega
      have he : (D.tup (ns.map D.int)) = tD (ns.map Int.toNat) := by
        unfold tD
        rw [List.map_map]
        congr 1
        apply List.map_congr_left
        intro i hi
        show D.int i = D.int (i.toNat : Int)
        rw [Int.toNat_of_nonneg (hb i hi).1]
      rw [he]
      exact turnT hpm (by rw [List.length_map]; exact hl.1) (by rw [List.length_map]; exact hl.2)
    · cases h2
def m__law_is_turn : Mir
  | [.val d] => if askD d = true then some (.ok (.val (.bl (turnB d)))) else none
  | _ => none
def b__law_is_turn : List S := [.ifs (.or_ (.not_ (.isi (.var 0) [.tyTup])) (.not_ (.chain .le .le (.cst (.int 1)) (.blt bLen [(.var 0)]) (.cst (.int 12))))) [.ret (.cst (.bl false))] [],
  .for_ (.one 1) (.var 0) [.ifs (.or_ (.isi (.var 1) [.tyBool]) (.or_ (.not_ (.isi (.var 1) [.tyInt])) (.not_ (.chain .le .lt (.cst (.int 0)) (.var 1) (.blt bLen [(.var 0)]))))) [.ret (.cst (.bl false))] []],
  .ret (.op .eq (.spec pLenSet [(.var 0)]) (.blt bLen [(.var 0)]))]
def n__law_is_turn : List Str := ["_law_thing", "_law_point"]
def e_pt : E := .or_ (.isi (.var 1) [.tyBool]) (.or_ (.not_ (.isi (.var 1) [.tyInt])) (.not_ (.chain .le .lt (.cst (.int 0)) (.var 1) (.blt bLen [(.var 0)]))))
theorem ev_pt {xs : List D} {d : D} (h : plainD d = true) : ev e_pt [.val (.tup xs), .val d] = M.ok (.val (.bl (!goodD xs.length d))) := by
  cases d <;> first | (cases h; done) | rfl | skip
  rename_i i
  have e1 : ev (.chain .le .lt (.cst (.int 0)) (.var 1) (.blt bLen [(.var 0)])) [.val (.tup xs), .val (.int i)] = M.ok (.val (.bl (decide ((0 : Int) ≤ i) && decide (i < (xs.length : Int))))) :=
    ev_chain (z := .int xs.length) rfl rfl rfl fun _ => ⟨rfl, rfl⟩
  have e2 : ev e_pt [.val (.tup xs), .val (.int i)] = M.ok (.val (.bl (false || (false || !(decide ((0 : Int) ≤ i) && decide (i < (xs.length : Int))))))) :=
    ev_or (lk (x := .val (.bl false)) rfl) fun _ => ev_or (lk (x := .val (.bl false)) rfl) fun _ => ev_not (lk e1)
  rw [e2]
  simp only [Bool.false_or, goodD, Bool.decide_and]
theorem loop_pts {xs : List D} {P : Ds} : ∀ (ds : List D) (c : C), (∀ d ∈ ds, plainD d = true) → (ds.all (goodD xs.length) = false → ∀ ρ, P.rt (.val (.bl false)) ρ) → (ds.all (goodD xs.length) = true → ∀ c, P.nx [.val (.tup xs), c]) →
    forW (.one 1) (jps [.ifs e_pt [.ret (.cst (.bl false))] []]) P ds [.val (.tup xs), c]
  | [], c, _, _, k => k rfl c
  | d :: ds, c, hp, hbad, k => by
    simp only [forW]
    show jps _ _ [.val (.tup xs), .val d]
    refine j_cons (j_if (ev_pt (hp d List.mem_cons_self)) (fun hb => ?_) fun hb => ?_)
    · have hg : goodD xs.length d = false := by cases hh : goodD xs.length d <;> rw [hh] at hb <;> first | rfl | cases hb
      exact j_cons (j_ret (x := .val (.bl false)) rfl rfl (hbad (by rw [List.all_cons, hg]; rfl) _))
    · have hg : goodD xs.length d = true := by cases hh : goodD xs.length d <;> rw [hh] at hb <;> first | rfl | cases hb
      refine j_nil (jx_nil ?_)
      exact loop_pts ds (.val d) (fun x hx => hp x (List.mem_cons_of_mem _ hx)) (fun h => hbad (by rw [List.all_cons, hg, h]; rfl)) fun h => k (by rw [List.all_cons, hg, h]; rfl)
theorem good_ints : ∀ {xs : List D} {n : Nat}, xs.all (goodD n) = true → ∃ ns, intsD xs = some ns
  | [], _, _ => ⟨[], rfl⟩
  | d :: ds, n, h => by
    simp only [List.all_cons, Bool.and_eq_true] at h
    obtain ⟨ns, e⟩ := good_ints h.2
    cases d <;> first | (cases h.1; done) | skip
    rename_i i
    exact ⟨i :: ns, by simp only [intsD, e]⟩
theorem intsD_len {xs : List D} {ns : List Int} (h : intsD xs = some ns) : ns.length = xs.length := by
  rw [ints_of h, List.length_map]
theorem w__law_is_turn : ∀ cs r, m__law_is_turn cs = some r → wps b__law_is_turn (DsOf r) (start0 n__law_is_turn cs) := by
  intro cs r h
  unfold m__law_is_turn at h
  split at h
  · rename_i d
    split at h
    · rename_i hask
      cases h
      cases d with
      | tup xs =>
        show wps b__law_is_turn _ [.val (.tup xs), .un]
        apply of_jps
        have e1 : ev (.not_ (.isi (.var 0) [.tyTup])) [.val (.tup xs), .un] = M.ok (.val (.bl false)) := rfl
        have e2 : ev (.chain .le .le (.cst (.int 1)) (.blt bLen [(.var 0)]) (.cst (.int 12))) [.val (.tup xs), .un] = M.ok (.val (.bl (decide ((1 : Int) ≤ xs.length) && decide ((xs.length : Int) ≤ 12)))) :=
          ev_chain (z := .int 12) rfl rfl rfl fun _ => ⟨rfl, rfl⟩
        have hb : (decide ((1 : Int) ≤ xs.length) && decide ((xs.length : Int) ≤ 12)) = decide (1 ≤ xs.length ∧ xs.length ≤ 12) := by
          rw [Bool.decide_and]
          congr 1 <;> (apply decide_eq_decide.mpr; omega)
        rw [hb] at e2
        refine j_cons (j_if (ev_or (lk e1) fun _ => ev_not (lk e2)) (fun hh => ?_) fun hh => ?_)
        · have hn : decide (1 ≤ xs.length ∧ xs.length ≤ 12) = false := bno_t hh
          refine j_cons (j_ret (x := .val (.bl false)) rfl rfl ?_)
          show Except.ok _ = Except.ok _
          simp only [turnB, hn, Bool.false_and]
        · have hl := of_decide_eq_true (bno_f hh)
          have hp : ∀ d ∈ xs, plainD d = true := by simpa [askD] using hask
          have ht := turnB_tup hl
          refine j_nil (jx_cons (j_for (x := .val (.tup xs)) rfl rfl (loop_pts xs .un hp (fun hf => ?_) fun hg c => ?_)))
          · intro _
            show Except.ok _ = Except.ok _
            rw [ht, hf]; rfl
          · obtain ⟨ns, hns⟩ := good_ints hg
            rw [hg, hns, Bool.true_and] at ht
            have hlen := intsD_len hns
            have es : ev (.spec pLenSet [(.var 0)]) [.val (.tup xs), c] = M.ok (.val (.int (ddp ns).length)) := by
              refine ev_spec (cs := [.val (.tup xs)]) rfl ?_
              show lenSetD [.val (.tup xs)] = _
              simp only [lenSetD, hns, Option.bind_some]
              rw [if_pos (by omega)]
            have el : ev (.blt bLen [(.var 0)]) [.val (.tup xs), c] = M.ok (.val (.int xs.length)) := ev_blt (cs := [.val (.tup xs)]) rfl rfl rfl
            refine jx_cons (j_ret (ev_op (lk es) (lk el) (op_eq_int _ _)) rfl ?_)
            show Except.ok _ = Except.ok _
            rw [ht]
            congr 3
            apply decide_eq_decide.mpr
            omega
      | non => exact rfl
      | bl b => exact rfl
      | int b => exact rfl
      | str b => exact rfl
      | lst b => exact rfl
      | dK b c => exact rfl
      | dT b c => exact rfl
      | ins _ _ _ => cases hask
      | err _ => cases hask
      | glb _ => cases hask
    · cases h
  · cases h
/-! ### _law_cycles -/
def m__law_cycles : Mir
  | [.val d] => if askD d = true ∧ turnB d = true then some (.ok (.val (.tup ((cycs (nats d)).map tD)))) else none
  | _ => none
end K01

set_option Elab.async false
set_option linter.all false
set_option autoImplicit false
set_option maxRecDepth 100000
set_option maxHeartbeats 4000000
/-! K01: the law's own cycles. -/
namespace K01
open PySem L2 VS VP
def b__law_cycles : List S := [.asg 1 (.lst []),
  .for_ (.one 2) (.iRng [(.blt bLen [(.var 0)])]) [.asg 3 (.lst [(.var 2)]), .while_ (.op .ne (.ix (.var 0) (.ix (.var 3) (.neg (.cst (.int 1))))) (.var 2)) [.app 3 (.ix (.var 0) (.ix (.var 3) (.neg (.cst (.int 1)))))], .ifs (.and_ (.op .gt (.blt bLen [(.var 3)]) (.cst (.int 1))) (.op .eq (.blt bMin [(.var 3)]) (.var 2))) [.app 1 (.blt bTuple [(.var 3)])] []],
  .ret (.blt bTuple [(.var 1)])]
def n__law_cycles : List Str := ["_law_turn_here", "_law_found", "_law_begin", "_law_cycle"]
theorem op_ne_int (i j : Int) : opD .ne (.int i) (.int j) = some (.val (.bl (!decide (i = j)))) := by
  simp only [opD]
  rw [eqD_int]; rfl
theorem ix_last {l : List Nat} {y : Nat} : ixD (.lst ((l ++ [y]).map iD)) (.int (-1)) = some (iD y) := by
  show atI _ (-1) = _
  unfold atI ixN
  rw [if_neg (by decide), if_pos (by rw [List.length_map, List.length_append]; simp; omega)]
  simp only [Option.bind_some]
  have e : (-1 + (((l ++ [y]).map iD).length : Int)).toNat = l.length := by rw [List.length_map, List.length_append]; simp; omega
  rw [e, List.getElem?_map, List.getElem?_append_right (Nat.le_refl _)]
  simp
theorem minI_lead {p : List Nat} {x : Nat} : decide (minI ((cyc p x).map fun i : Nat => (i : Int)) = (x : Int)) = lead p x := by
  have hne : (cyc p x).map (fun i : Nat => (i : Int)) ≠ [] := by
    intro h
    have := congrArg List.length h
    rw [List.length_map, cyc_length] at this
    have := per_pos p x
    simp at *
    omega
  obtain ⟨h1, h2⟩ := minI_spec hne
  have hx : (x : Int) ∈ (cyc p x).map (fun i : Nat => (i : Int)) := List.mem_map.mpr ⟨x, self_mem, rfl⟩
  have hle := h2 _ hx
  unfold lead
  rw [Bool.eq_iff_iff, decide_eq_true_eq, List.all_eq_true]
  constructor
  · intro e y hy
    have := h2 _ (List.mem_map.mpr ⟨y, hy, rfl⟩)
    simp only [decide_eq_true_eq]
    omega
  · intro h
    obtain ⟨y, hy, e⟩ := List.mem_map.mp h1
    have := h y hy
    simp only [decide_eq_true_eq] at this
    omega
theorem w__law_cycles : ∀ cs r, m__law_cycles cs = some r → wps b__law_cycles (DsOf r) (start0 n__law_cycles cs) := by
  intro cs r h
  unfold m__law_cycles at h
  split at h
  · rename_i d
    split at h
    · rename_i hat
      obtain ⟨ha, ht⟩ := hat
      cases h
      show wps b__law_cycles _ [.val d, .un, .un, .un]
      apply of_jps
      obtain ⟨e, hp, hl1, hl2⟩ := turn_perm ht
      generalize nats d = p at e hp hl1 hl2 ⊢
      subst e
      refine j_cons (j_asg (x := .own (.lst [])) (ev_lst0 _) rfl ?_)
      have el : ∀ a b c, ev (.blt bLen [(.var 0)]) [.val (tD p), a, b, c] = M.ok (.val (.int p.length)) := fun a b c => ev_blt (cs := [.val (tD p)]) rfl rfl (len_tD p)
      refine jx_cons (j_for (ev_rng1 (el _ _ _) (by omega)) rfl ?_)
      refine for_inv _ (fun x ρ => ∃ c a, ρ = [.val (tD p), .own (.lst ((fnd p x).map tD)), c, a]) ⟨_, _, rfl⟩ ?_ ?_
      · rintro x d ρ Q hd ⟨c, a, rfl⟩ hQ
        have hx : x < p.length := by
          have := (List.getElem?_eq_some_iff.mp hd).1
          simpa using this
        have hd' : d = iD x := by
          rw [List.getElem?_map, List.getElem?_range hx] at hd
          exact (Option.some.inj hd).symm
        subst hd'
        refine ⟨_, rfl, ?_⟩
        show jps _ _ [.val (tD p), .own (.lst ((fnd p x).map tD)), .val (iD x), a]
        have hpl := per_le hp hx
        have e1 : ev (.lst [(.var 2)]) [.val (tD p), .own (.lst ((fnd p x).map tD)), .val (iD x), a] = M.ok (.own (.lst [iD x])) := by
          have ea : evs [(.var 2)] [.val (tD p), .own (.lst ((fnd p x).map tD)), .val (iD x), a] = M.ok [.val (iD x)] := rfl
          simp only [ev]
          rw [ea, M.bind_ok]
          have ek : keepAll [C.val (iD x)] = some [iD x] := rfl
          rw [ek, M.lift_some', M.bind_ok, if_pos (Nat.le_of_lt (sz12 (by simp)))]
        refine j_cons (j_asg e1 rfl ?_)
        have hpart : ∀ k, (part p x k).length = k := fun k => by unfold part; simp
        -- p[cycle[-1]]
        have enx : ∀ k c0, 0 < k → ev (.ix (.var 0) (.ix (.var 3) (.neg (.cst (.int 1))))) [.val (tD p), c0, .val (iD x), .own (.lst ((part p x k).map iD))] = M.ok (.val (iD (it p x k))) := fun k c0 hk => by
          obtain ⟨j, rfl⟩ : ∃ j, k = j + 1 := ⟨k - 1, by omega⟩
          refine ev_ix (x := tD p) (y := iD (it p x j)) rfl (lk (x := .val (iD (it p x j))) (ev_ix (x := .lst ((part p x (j + 1)).map iD)) (y := .int (-1)) rfl rfl ?_)) (ix_turn (it_lt hp hx j))
          rw [part_succ]
          exact ix_last
        refine jx_cons (j_while (fun m ρ => ∃ k, 0 < k ∧ k ≤ per p x ∧ m = per p x - k ∧ ρ = [.val (tD p), .own (.lst ((fnd p x).map tD)), .val (iD x), .own (.lst ((part p x k).map iD))]) (per p x - 1)
          ⟨1, by omega, per_pos p x, rfl, rfl⟩ ?_)
        rintro m ρ ⟨k, hk0, hk, rfl, rfl⟩
        refine ⟨!decide ((it p x k : Int) = (x : Int)), ev_op (x := iD (it p x k)) (y := iD x) (lk (enx k _ hk0)) rfl (op_ne_int _ _), fun hb Q2 kk => ?_, fun hb => ?_⟩
        · have hne : it p x k ≠ x := fun e => by
            rw [e] at hb
            simp at hb
          have hlt : k < per p x := by
            apply Nat.lt_of_le_of_ne hk
            intro e
            subst e
            exact hne (it_per hp hx)
          refine j_cons (j_app (xs := (part p x k).map iD) (d := iD (it p x k)) rfl (kp (enx k _ hk0)) (by rw [List.length_map, hpart]; exact sz12 (by omega)) ?_)
          refine jx_nil (kk (per p x - (k + 1)) _ (by omega) ⟨k + 1, by omega, hlt, rfl, ?_⟩)
          show [C.val (tD p), C.own (O.lst ((fnd p x).map tD)), C.val (iD x), C.own (O.lst ((part p x k).map iD ++ [iD (it p x k)]))] = _
          rw [part_succ, List.map_append]
          rfl
        · have heq : it p x k = x := by
            simp only [Bool.not_eq_false', decide_eq_true_eq] at hb
            omega
          have hkp : k = per p x := by
            apply Classical.byContradiction
            intro hne
            exact it_min hp hx hk0 (by omega) heq
          subst hkp
          have hcy : part p x (per p x) = cyc p x := rfl
          rw [hcy]
          have elen : ev (.op .gt (.blt bLen [(.var 3)]) (.cst (.int 1))) [.val (tD p), .own (.lst ((fnd p x).map tD)), .val (iD x), .own (.lst ((cyc p x).map iD))] = M.ok (.val (.bl (decide ((1 : Int) < per p x)))) := by
            refine ev_op (x := .int (per p x)) (y := .int 1) (lk (ev_blt (cs := [.bor (.lst ((cyc p x).map iD))]) (z := .val (.int (per p x))) rfl rfl ?_)) rfl rfl
            show some (C.val (.int (((cyc p x).map iD).length : Nat))) = _
            rw [List.length_map, cyc_length]
          have emin : ev (.op .eq (.blt bMin [(.var 3)]) (.var 2)) [.val (tD p), .own (.lst ((fnd p x).map tD)), .val (iD x), .own (.lst ((cyc p x).map iD))] = M.ok (.val (.bl (lead p x))) := by
            refine ev_op (x := .int (minI ((cyc p x).map fun i : Nat => (i : Int)))) (y := iD x) (lk (ev_blt (cs := [.bor (.lst ((cyc p x).map iD))]) (z := .val (.int (minI ((cyc p x).map fun i : Nat => (i : Int))))) rfl rfl ?_)) rfl ?_
            · show minD [.lst ((cyc p x).map iD)] = _
              simp only [minD, intsD_iD, Option.bind_some]
              rw [if_pos]
              intro h
              have := congrArg List.length h
              rw [List.length_map, cyc_length] at this
              have := per_pos p x
              simp at *
              omega
            · show opD .eq (.int _) (.int _) = _
              rw [op_eq_int, minI_lead]
          have hfn : (if (decide ((1 : Int) < per p x) && lead p x) = true then (fnd p x).map tD ++ [tD (cyc p x)] else (fnd p x).map tD) = (fnd p (x + 1)).map tD := by
            rw [fnd_succ]
            by_cases h1 : 1 < per p x
            · cases hl : lead p x
              · simp
              · have : (1 : Int) < (per p x : Int) := by omega
                simp [h1, this]
            · have : ¬ (1 : Int) < (per p x : Int) := by omega
              simp [h1, this]
          refine jx_cons (j_if (ev_and (lk elen) fun _ => emin) (fun h1 => ?_) fun h1 => ?_)
          · rw [if_pos h1] at hfn
            refine j_cons (j_app (xs := (fnd p x).map tD) (d := tD (cyc p x)) rfl (kp (ev_blt (cs := [.bor (.lst ((cyc p x).map iD))]) (z := .val (tD (cyc p x))) rfl rfl rfl)) (by rw [List.length_map]; have := fnd_length p x; exact sz12 (by omega)) ?_)
            refine jx_nil (jx_nil (hQ _ ⟨.val (iD x), .own (.lst ((cyc p x).map iD)), ?_⟩))
            show [C.val (tD p), C.own (O.lst ((fnd p x).map tD ++ [tD (cyc p x)])), C.val (iD x), C.own (O.lst ((cyc p x).map iD))] = _
            rw [hfn]
          · rw [if_neg (by rw [h1]; exact Bool.false_ne_true)] at hfn
            refine j_nil (jx_nil (hQ _ ⟨.val (iD x), .own (.lst ((cyc p x).map iD)), ?_⟩))
            rw [hfn]
      · rintro ρ ⟨c, a, rfl⟩
        rw [List.length_map, List.length_range]
        exact jx_cons (j_ret (ev_blt (cs := [.bor (.lst ((fnd p p.length).map tD))]) (z := .val (.tup ((fnd p p.length).map tD))) rfl rfl rfl) rfl rfl)
    · cases h
  · cases h
end K01

set_option Elab.async false
set_option linter.all false
set_option autoImplicit false
set_option maxRecDepth 100000
set_option maxHeartbeats 4000000
/-! K01: caught errors. -/
namespace K01
open PySem L2 VS VP
def held : List (Nat × Mir) := [(0, m_still), (1, m_need_turn), (2, m_cycles), (3, m_order), (4, m_is_even)]
def m__law_caught : Mir
  | [.val (.glb n), .val d] => match held.lookup n with
    | some m => match m [.val d] with
      | some (.ok _) => some (.ok (.val .non))
      | some (.error e) => if e ∈ [0, 1, 2] then some (.ok (.val (.err e))) else none
      | none => none
    | none => none
  | _ => none
def b__law_caught : List S := [.asg 2 (.cst .non),
  .tryE [0, 1, 2] [.ex (.callV 0 [(0, m_still), (1, m_need_turn), (2, m_cycles), (3, m_order), (4, m_is_even)] [(.var 1)])] 0 "TurnError" 3 2,
  .retV 2]
def n__law_caught : List Str := ["_law_deed", "_law_thing", "_law_found", "e"]
theorem ev_callV {i n : Nat} {fs : List (Nat × Mir)} {es : List E} {ρ cs : List C} {m : Mir} {z : M C} (hi : ρ[i]? = some (.val (.glb n))) (hm : fs.lookup n = some m) (hs : evs es ρ = M.ok cs) (h : m cs = z) : ev (.callV i fs es) ρ = z := by
  simp only [ev]
  rw [hi]
  show (match fs.lookup n with | some m => (evs es ρ).bind m | none => none) = z
  rw [hm]
  show (evs es ρ).bind m = z
  rw [hs, M.bind_ok, h]
theorem w__law_caught : ∀ cs r, m__law_caught cs = some r → wps b__law_caught (DsOf r) (start0 n__law_caught cs) := by
  intro cs r h
  unfold m__law_caught at h
  split at h
  · rename_i n d
    split at h
    · rename_i m hm
      show wps b__law_caught _ [.val (.glb n), .val d, .un, .un]
      apply of_jps
      refine j_cons (j_asg (x := .val .non) rfl rfl ?_)
      split at h
      · rename_i c hc
        cases h
        refine jx_cons (j_try (j_cons (j_ex (x := c) (ev_callV (n := n) (cs := [.val d]) rfl hm rfl hc) (jx_nil ?_))))
        exact jx_cons (j_retV (x := .val .non) rfl rfl rfl)
      · rename_i e hc
        split at h
        · rename_i he
          cases h
          refine jx_cons (j_try (j_cons (j_exE (j := e) (ev_callV (n := n) (cs := [.val d]) rfl hm rfl hc) ⟨he, ?_⟩)))
          have hs : sub e 0 = true := by simp [sub]
          rw [if_pos hs]
          exact jx_cons (j_retV (x := .val (.err e)) rfl rfl rfl)
        · cases h
      · cases h
    · cases h
  · cases h
theorem ev_lst {es : List E} {ρ cs : List C} {ds : List D} (hs : evs es ρ = M.ok cs) (hk : keepAll cs = some ds) (hl : ds.length ≤ 1000) : ev (.lst es) ρ = M.ok (.own (.lst ds)) := by
  simp only [ev]
  rw [hs, M.bind_ok, hk, M.lift_some', M.bind_ok, if_pos (Nat.le_of_lt (sz12 hl))]
theorem caught_er {n : Nat} {d : D} {m : Mir} {e : Nat} (hm : held.lookup n = some m) (hc : m [.val d] = some (.error e)) (he : e ∈ [0, 1, 2]) : m__law_caught [.val (.glb n), .val d] = M.ok (.val (.err e)) := by
  simp only [m__law_caught, hm, hc]
  rw [if_pos he]
theorem is_ok {e : Nat} {k : Int} (h : (e = 1 ∨ e = 2) ∧ (k = 0 ∨ k = 1)) : m__law_is [.val (.err e), .val (.int k)] = M.ok (.val (.bl (decide ((e : Int) = k + 1)))) := by
  simp only [m__law_is]
  rw [if_pos h]
/-! ### _law_counts -/
def m__law_counts : Mir
  | [.val (.int c)] => if 0 ≤ c then some (.ok (.val (.bl true))) else none
  | _ => none
def e_many : E := .lst [(.op .add (.cst (.int 1)) (.op .mod (.op .fdiv (.var 0) (.cst (.int 9))) (.cst (.int 12)))), (.cst (.int 0)), (.cst (.int 13)), (.neg (.cst (.int 1))), (.cst (.bl true)), (.cst .non), (.cst (.str "5")), (.lst [(.cst (.int 5))]), (.op .pow (.cst (.int 10)) (.cst (.int 20)))]
def b__law_counts : List S := [.asg 1 (.ix (.lst [(.op .add (.cst (.int 1)) (.op .mod (.op .fdiv (.var 0) (.cst (.int 9))) (.cst (.int 12)))), (.cst (.int 0)), (.cst (.int 13)), (.neg (.cst (.int 1))), (.cst (.bl true)), (.cst .non), (.cst (.str "5")), (.lst [(.cst (.int 5))]), (.op .pow (.cst (.int 10)) (.cst (.int 20)))]) (.op .mod (.var 0) (.cst (.int 9)))),
  .ifs (.op .eq (.op .mod (.var 0) (.cst (.int 9))) (.cst (.int 0))) [.ret (.op .eq (.call "still" m_still [(.var 1)]) (.lstR true (.var 1)))] [],
  .ret (.call "_law_is" m__law_is [(.call "_law_caught" m__law_caught [(.gl "still" (.glb 0)), (.var 1)]), (.cst (.int 1))])]
def n__law_counts : List Str := ["_law_cell", "_law_many"]
def manyL (x : Int) : List D := [.int x, .int 0, .int 13, .int (-1), .bl true, .non, .str "5", .lst [.int 5], .int (10 ^ 20)]
theorem ev_many {c : Int} {a : C} : ev e_many [.val (.int c), a] = M.ok (.own (.lst (manyL (1 + (c.fdiv 9).fmod 12)))) := by
  have e0 : ev (.op .add (.cst (.int 1)) (.op .mod (.op .fdiv (.var 0) (.cst (.int 9))) (.cst (.int 12)))) [.val (.int c), a] = M.ok (.val (.int (1 + (c.fdiv 9).fmod 12))) :=
    ev_op (x := .int 1) (y := .int ((c.fdiv 9).fmod 12)) rfl (lk (ev_op (x := .int (c.fdiv 9)) (y := .int 12) (lk (ev_op (x := .int c) (y := .int 9) rfl rfl (op_fdiv (by decide) (by decide)))) rfl (op_mod (by decide)))) rfl
  have e1 : ev (.lst [(.cst (.int 5))]) [.val (.int c), a] = M.ok (.own (.lst [.int 5])) := ev_lst (cs := [.val (.int 5)]) rfl rfl (by simp)
  have e2 : ev (.op .pow (.cst (.int 10)) (.cst (.int 20))) [.val (.int c), a] = M.ok (.val (.int (10 ^ 20))) := by
    refine ev_op (x := .int 10) (y := .int 20) rfl rfl ?_
    simp only [opD]
    rw [if_pos (by refine ⟨by decide, by decide, by decide⟩)]
    rfl
  refine ev_lst (cs := [.val (.int (1 + (c.fdiv 9).fmod 12)), .val (.int 0), .val (.int 13), .val (.int (-1)), .val (.bl true), .val .non, .val (.str "5"), .val (.lst [.int 5]), .val (.int (10 ^ 20))]) ?_ rfl (by simp [manyL])
  exact evs_cons e0 (evs_cons rfl (evs_cons rfl (evs_cons rfl (evs_cons rfl (evs_cons rfl (evs_cons rfl (evs_cons e1 (evs_cons e2 evs_nil))))))))
theorem still_er {d : D} (h : plainD d = true) (hn : ∀ n, d = .int n → ¬ (1 ≤ n ∧ n ≤ 12)) : m_still [.val d] = some (.error 2) := by
  simp only [m_still]
  rw [if_pos h]
  cases d <;> first | (cases h; done) | rfl | skip
  rename_i n
  show (if 1 ≤ n ∧ n ≤ 12 then _ else _) = _
  rw [if_neg (hn n rfl)]
theorem w__law_counts : ∀ cs r, m__law_counts cs = some r → wps b__law_counts (DsOf r) (start0 n__law_counts cs) := by
  intro cs r h
  unfold m__law_counts at h
  split at h
  · rename_i c
    split at h
    · rename_i hc
      cases h
      show wps b__law_counts _ [.val (.int c), .un]
      apply of_jps
      have h1 := Int.fmod_nonneg_of_pos (b := 9) c (by decide)
      have h2 := Int.fmod_lt_of_pos (b := 9) c (by decide)
      have h3 := Int.fmod_nonneg_of_pos (b := 12) (c.fdiv 9) (by decide)
      have h4 := Int.fmod_lt_of_pos (b := 12) (c.fdiv 9) (by decide)
      have ek : ∀ a, ev (.op .mod (.var 0) (.cst (.int 9))) [.val (.int c), a] = M.ok (.val (.int (c.fmod 9))) := fun a => ev_op (x := .int c) (y := .int 9) rfl rfl (op_mod (by decide))
      have hm := ev_many (c := c) (a := .un)
      generalize c.fmod 9 = k at h1 h2 ek
      generalize (c.fdiv 9).fmod 12 = x at h3 h4 hm
      have hpick : ∀ d, ixD (.lst (manyL (1 + x))) (.int k) = some d → ev (.ix e_many (.op .mod (.var 0) (.cst (.int 9)))) [.val (.int c), .un] = M.ok (.val d) := fun d hd => ev_ix (lk hm) (lk (ek _)) hd
      have bad : ∀ d, ixD (.lst (manyL (1 + x))) (.int k) = some d → k ≠ 0 → plainD d = true → (∀ n, d = .int n → ¬ (1 ≤ n ∧ n ≤ 12)) → jps b__law_counts (DsOf (.ok (.val (.bl true)))) [.val (.int c), .un] := fun d hd hk hp hn => by
        refine j_cons (j_asg (hpick d hd) rfl ?_)
        show Ds.nx _ [.val (.int c), .val d]
        refine jx_cons (j_if (ev_op (lk (ek _)) rfl (op_eq_int _ _)) (fun hb => absurd (of_decide_eq_true hb) hk) fun _ => ?_)
        refine j_nil (jx_cons (j_ret (x := .val (.bl true)) ?_ rfl rfl))
        have ec : ev (.call "_law_caught" m__law_caught [(.gl "still" (.glb 0)), (.var 1)]) [.val (.int c), .val d] = M.ok (.val (.err 2)) := ev_call (cs := [.val (.glb 0), .val d]) rfl (caught_er (m := m_still) rfl (still_er hp hn) (by decide))
        exact ev_call (evs_cons ec (evs_cons (x := .val (.int 1)) rfl evs_nil)) (is_ok (e := 2) (k := 1) (by decide))
      rcases (by omega : k = 0 ∨ k = 1 ∨ k = 2 ∨ k = 3 ∨ k = 4 ∨ k = 5 ∨ k = 6 ∨ k = 7 ∨ k = 8) with rfl | rfl | rfl | rfl | rfl | rfl | rfl | rfl | rfl
      · refine j_cons (j_asg (hpick (.int (1 + x)) rfl) rfl ?_)
        show Ds.nx _ [.val (.int c), .val (.int (1 + x))]
        refine jx_cons (j_if (ev_op (lk (ek _)) rfl (op_eq_int _ _)) (fun _ => ?_) fun hb => absurd rfl (of_decide_eq_false hb))
        refine j_cons (j_ret (x := .val (.bl true)) ?_ rfl rfl)
        have es : ev (.call "still" m_still [(.var 1)]) [.val (.int c), .val (.int (1 + x))] = M.ok (.val (.tup (rngD 0 (1 + x)))) := by
          refine ev_call (cs := [.val (.int (1 + x))]) rfl ?_
          simp only [m_still]
          rw [if_pos (show plainD (.int (1 + x)) = true from rfl), if_pos (by omega)]
        refine ev_op (lk es) (lk (ev_lstR (t := true) (n := 1 + x) rfl (by omega) (by omega))) ?_
        simp only [opD]
        obtain ⟨n, hn⟩ : ∃ n : Nat, 1 + x = n := ⟨(1 + x).toNat, by omega⟩
        rw [hn, rngD_I]
        obtain ⟨q, q1, q2⟩ := eqD_ok (a := .tup ((rngI n).map D.int)) (b := .tup ((rngI n).map D.int)) (by simp only [okd, okds_ints]) (by simp only [okd, okds_ints]) (by have := dpts_ints (rngI n); simp only [dpt]; omega) (by have := dpts_ints (rngI n); simp only [dpt]; omega)
        rw [q1, q2.mpr rfl]; rfl
      · exact bad (.int 0) rfl (by decide) rfl (fun n e => by cases e; omega)
      · exact bad (.int 13) rfl (by decide) rfl (fun n e => by cases e; omega)
      · exact bad (.int (-1)) rfl (by decide) rfl (fun n e => by cases e; omega)
      · exact bad (.bl true) rfl (by decide) rfl (fun n e => by cases e)
      · exact bad .non rfl (by decide) rfl (fun n e => by cases e)
      · exact bad (.str "5") rfl (by decide) rfl (fun n e => by cases e)
      · exact bad (.lst [.int 5]) rfl (by decide) rfl (fun n e => by cases e)
      · exact bad (.int (10 ^ 20)) rfl (by decide) rfl (fun n e => by have := D.int.inj e; omega)
    · cases h
  · cases h
end K01

set_option Elab.async false
set_option linter.all false
set_option autoImplicit false
set_option maxRecDepth 100000
set_option maxHeartbeats 4000000
/-! K01: the law's odd things. -/
namespace K01
open PySem L2 VS VP
def oddL (p : List Nat) (a : Nat) : List D :=
  let xs := p.map iD
  let A := cutD xs none (some (a : Int))
  let B := cutD xs (some ((a : Int) + 1)) none
  [.non, .int 5, .str "01", .lst xs, .tup [], .tup (xs ++ [.int p.length]), .tup (xs ++ [iD (nx p a)]), .tup (A ++ B),
   .tup (A ++ [.bl true] ++ B), .tup (A ++ [.int (-1)] ++ B), .tup (rngD 0 13), .bl true,
   .tup (A ++ [.str (toString ((nx p a : Nat) : Int))] ++ B), .dK [.inl 0] [.int 0], .tup [.non], .tup (A ++ [.int p.length] ++ B), .tup (A ++ [.lst [.int 0]] ++ B)]
def oddAt (c : Int) (p : List Nat) : Nat := ((c.fdiv 17).fmod p.length).toNat
def oddD (c : Int) (p : List Nat) : D := (oddL p (oddAt c p)).getD (c.fmod 17).toNat .non
theorem cut_mem {xs : List D} {lo hi : Option Int} {d : D} (h : d ∈ cutD xs lo hi) : d ∈ xs := by
  unfold cutD at h
  exact List.mem_of_mem_drop (List.mem_of_mem_take h)
theorem cut_len (xs : List D) (lo hi : Option Int) : (cutD xs lo hi).length ≤ xs.length := by
  unfold cutD
  rw [List.length_take, List.length_drop]
  omega
theorem odd_ask (c : Int) (p : List Nat) : askD (oddD c p) = true := by
  have hx : ∀ d ∈ p.map iD, plainD d = true := fun d hd => by
    obtain ⟨i, _, rfl⟩ := List.mem_map.mp hd; rfl
  have hr : ∀ d ∈ rngD 0 13, plainD d = true := fun d hd => by
    unfold rngD at hd
    obtain ⟨i, _, rfl⟩ := List.mem_map.mp hd; rfl
  have cut : ∀ lo hi, ∀ d ∈ cutD (p.map iD) lo hi, plainD d = true := fun lo hi d hd => hx d (cut_mem hd)
  have three : ∀ (A B : List D) (z : D), (∀ d ∈ A, plainD d = true) → (∀ d ∈ B, plainD d = true) → plainD z = true → askD (.tup (A ++ [z] ++ B)) = true := fun A B z ha hb hz => by
    show (A ++ [z] ++ B).all plainD = true
    rw [List.all_append, List.all_append]
    simp only [Bool.and_eq_true, List.all_eq_true]
    refine ⟨⟨ha, ?_⟩, hb⟩
    intro d hd
    rw [List.mem_singleton] at hd
    subst hd; exact hz
  have two : ∀ (A B : List D), (∀ d ∈ A, plainD d = true) → (∀ d ∈ B, plainD d = true) → askD (.tup (A ++ B)) = true := fun A B ha hb => by
    show (A ++ B).all plainD = true
    rw [List.all_append]
    simp only [Bool.and_eq_true, List.all_eq_true]
    exact ⟨ha, hb⟩
  have one : ∀ z : D, plainD z = true → ∀ d ∈ [z], plainD d = true := fun z hz d hd => by
    rw [List.mem_singleton] at hd
    subst hd; exact hz
  have all : ∀ d ∈ oddL p (oddAt c p), askD d = true := by
    intro d hd
    simp only [oddL, List.mem_cons, List.not_mem_nil, or_false] at hd
    rcases hd with rfl | rfl | rfl | rfl | rfl | rfl | rfl | rfl | rfl | rfl | rfl | rfl | rfl | rfl | rfl | rfl | rfl
    · rfl
    · rfl
    · rfl
    · rfl
    · rfl
    · exact two _ _ hx (one _ rfl)
    · exact two _ _ hx (one _ rfl)
    · exact two _ _ (cut _ _) (cut _ _)
    · exact three _ _ _ (cut _ _) (cut _ _) rfl
    · exact three _ _ _ (cut _ _) (cut _ _) rfl
    · show (rngD 0 13).all plainD = true
      rw [List.all_eq_true]; exact hr
    · rfl
    · exact three _ _ _ (cut _ _) (cut _ _) rfl
    · rfl
    · rfl
    · exact three _ _ _ (cut _ _) (cut _ _) rfl
    · exact three _ _ _ (cut _ _) (cut _ _) rfl
  unfold oddD
  by_cases h : (c.fmod 17).toNat < (oddL p (oddAt c p)).length
  · rw [List.getD_eq_getElem?_getD, List.getElem?_eq_getElem h]
    exact all _ (List.getElem_mem h)
  · rw [List.getD_eq_getElem?_getD, List.getElem?_eq_none (by omega)]
    rfl
def m__law_odd : Mir
  | [.val (.int c), .val d] => if 0 ≤ c ∧ turnB d = true then some (.ok (.val (oddD c (nats d)))) else none
  | _ => none
end K01

set_option Elab.async false
set_option linter.all false
set_option autoImplicit false
set_option maxRecDepth 100000
set_option maxHeartbeats 4000000
/-! K01: the law's odd things, walked. -/
namespace K01
open PySem L2 VS VP
theorem ev_tup {es : List E} {ρ cs : List C} {ds : List D} (hs : evs es ρ = M.ok cs) (hk : keepAll cs = some ds) (hl : ds.length ≤ 1000) : ev (.tup es) ρ = M.ok (.val (.tup ds)) := by
  simp only [ev]
  rw [hs, M.bind_ok, hk, M.lift_some', M.bind_ok, if_pos (Nat.le_of_lt (sz12 hl))]
theorem op_addT {xs ys : List D} (h : xs.length + ys.length ≤ 1000) : opD .add (.tup xs) (.tup ys) = some (.val (.tup (xs ++ ys))) := by
  simp only [opD]
  rw [if_pos (Nat.le_of_lt (sz12 h))]
theorem op_addL {xs ys : List D} (h : xs.length + ys.length ≤ 1000) : opD .add (.lst xs) (.lst ys) = some (.own (.lst (xs ++ ys))) := by
  simp only [opD]
  rw [if_pos (Nat.le_of_lt (sz12 h))]
theorem ev_slA {a b : E} {ρ : List C} {xs : List D} {i : Int} (hb : b.isNop = false) (h1 : look1 (ev a ρ) = M.ok (.tup xs)) (h2 : look1 (ev b ρ) = M.ok (.int i)) : ev (.sl a .nop b) ρ = M.ok (.val (.tup (cutD xs none (some i)))) := by
  simp only [ev]
  rw [h1, M.bind_ok, h2]
  show ((M.ok (none : Option Int)).bind fun l => (if b.isNop = true then M.ok none else (M.ok (D.int i)).bind partO).bind fun h => M.lift (slD (.tup xs) l h)) = _
  rw [M.bind_ok, hb]
  rfl
theorem ev_slB {a b : E} {ρ : List C} {xs : List D} {i : Int} (hb : b.isNop = false) (h1 : look1 (ev a ρ) = M.ok (.tup xs)) (h2 : look1 (ev b ρ) = M.ok (.int i)) : ev (.sl a b .nop) ρ = M.ok (.val (.tup (cutD xs (some i) none))) := by
  simp only [ev]
  rw [h1, M.bind_ok, h2, hb]
  rfl
def b__law_odd : List S := [.asg 2 (.blt bLen [(.var 1)]),
  .asg 3 (.op .mod (.op .fdiv (.var 0) (.cst (.int 17))) (.var 2)),
  .asg 4 (.lst [(.cst .non), (.cst (.int 5)), (.cst (.str "01")), (.blt bList [(.var 1)]), (.tup []), (.op .add (.var 1) (.tup [(.var 2)])), (.op .add (.var 1) (.tup [(.ix (.var 1) (.var 3))])), (.op .add (.sl (.var 1) .nop (.var 3)) (.sl (.var 1) (.op .add (.var 3) (.cst (.int 1))) .nop))]),
  .asg 4 (.op .add (.var 4) (.lst [(.op .add (.op .add (.sl (.var 1) .nop (.var 3)) (.tup [(.cst (.bl true))])) (.sl (.var 1) (.op .add (.var 3) (.cst (.int 1))) .nop)), (.op .add (.op .add (.sl (.var 1) .nop (.var 3)) (.tup [(.neg (.cst (.int 1)))])) (.sl (.var 1) (.op .add (.var 3) (.cst (.int 1))) .nop)), (.lstR true (.cst (.int 13))), (.cst (.bl true))])),
  .asg 4 (.op .add (.var 4) (.lst [(.op .add (.op .add (.sl (.var 1) .nop (.var 3)) (.tup [(.blt bStr [(.ix (.var 1) (.var 3))])])) (.sl (.var 1) (.op .add (.var 3) (.cst (.int 1))) .nop)), (.dict1 (.cst (.int 0)) (.cst (.int 0))), (.tup [(.cst .non)]), (.op .add (.op .add (.sl (.var 1) .nop (.var 3)) (.tup [(.var 2)])) (.sl (.var 1) (.op .add (.var 3) (.cst (.int 1))) .nop))])),
  .app 4 (.op .add (.op .add (.sl (.var 1) .nop (.var 3)) (.tup [(.lst [(.cst (.int 0))])])) (.sl (.var 1) (.op .add (.var 3) (.cst (.int 1))) .nop)),
  .ret (.ix (.var 4) (.op .mod (.var 0) (.cst (.int 17))))]
def n__law_odd : List Str := ["_law_cell", "_law_turn_here", "_law_many", "_law_at", "_law_some"]
theorem w__law_odd : ∀ cs r, m__law_odd cs = some r → wps b__law_odd (DsOf r) (start0 n__law_odd cs) := by
  intro cs r h
  unfold m__law_odd at h
  split at h
  · rename_i c d
    split at h
    · rename_i hh
      obtain ⟨hc, ht⟩ := hh
      cases h
      show wps b__law_odd _ [.val (.int c), .val d, .un, .un, .un]
      apply of_jps
      obtain ⟨e, hp, hl1, hl2⟩ := turn_perm ht
      generalize nats d = p at e hp hl1 hl2 ⊢
      subst e
      have h1 := Int.fmod_nonneg_of_pos (c.fdiv 17) (show (0 : Int) < (p.length : Int) by omega)
      have h2 := Int.fmod_lt_of_pos (c.fdiv 17) (show (0 : Int) < (p.length : Int) by omega)
      have ha : (c.fdiv 17).fmod p.length = ((oddAt c p : Nat) : Int) := by unfold oddAt; rw [Int.toNat_of_nonneg h1]
      have hal : oddAt c p < p.length := by omega
      have hv : (nx p (oddAt c p)) < p.length := nx_lt hp hal
      generalize hA : cutD (p.map iD) none (some ((oddAt c p : Nat) : Int)) = A
      generalize hB : cutD (p.map iD) (some (((oddAt c p : Nat) : Int) + 1)) none = B
      have lA : A.length ≤ 12 := by rw [← hA]; have := cut_len (p.map iD) none (some ((oddAt c p : Nat) : Int)); rw [List.length_map] at this; omega
      have lB : B.length ≤ 12 := by rw [← hB]; have := cut_len (p.map iD) (some (((oddAt c p : Nat) : Int) + 1)) none; rw [List.length_map] at this; omega
      have hodd : oddL p (oddAt c p) = [.non, .int 5, .str "01", .lst (p.map iD), .tup [], .tup (p.map iD ++ [.int p.length]), .tup (p.map iD ++ [iD (nx p (oddAt c p))]), .tup (A ++ B),
          .tup (A ++ [.bl true] ++ B), .tup (A ++ [.int (-1)] ++ B), .tup (rngD 0 13), .bl true,
          .tup (A ++ [.str (toString ((nx p (oddAt c p) : Nat) : Int))] ++ B), .dK [.inl 0] [.int 0], .tup [.non], .tup (A ++ [.int p.length] ++ B), .tup (A ++ [.lst [.int 0]] ++ B)] := by rw [← hA, ← hB]; rfl
      refine j_cons (j_asg (x := .val (.int p.length)) (ev_blt (cs := [.val (tD p)]) rfl rfl (len_tD p)) rfl ?_)
      refine jx_cons (j_asg (x := .val (.int (oddAt c p : Nat))) (ev_op (x := .int (c.fdiv 17)) (y := .int p.length) (lk (ev_op (x := .int c) (y := .int 17) rfl rfl (op_fdiv (by decide) (by decide)))) rfl (by rw [op_mod (by omega), ha])) rfl ?_)
      have body : ∀ (L : C), ∀ {z : D} {ez : E} {zc : C}, ev ez [.val (.int c), .val (tD p), .val (.int p.length), .val (.int (oddAt c p : Nat)), L] = M.ok zc → zc.arg.bind C.keep = some z →
          ev (.op .add (.op .add (.sl (.var 1) .nop (.var 3)) (.tup [ez])) (.sl (.var 1) (.op .add (.var 3) (.cst (.int 1))) .nop)) [.val (.int c), .val (tD p), .val (.int p.length), .val (.int (oddAt c p : Nat)), L] = M.ok (.val (.tup (A ++ [z] ++ B))) := by
        intro L z ez zc hz hk
        obtain ⟨a1, q1, q2⟩ : ∃ a1, zc.arg = some a1 ∧ a1.keep = some z := by
          cases h : zc.arg with
          | none => rw [h] at hk; cases hk
          | some a1 => rw [h] at hk; exact ⟨a1, rfl, hk⟩
        have t1 : ev (.sl (.var 1) .nop (.var 3)) [.val (.int c), .val (tD p), .val (.int p.length), .val (.int (oddAt c p : Nat)), L] = M.ok (.val (.tup A)) := by
          rw [ev_slA (xs := p.map iD) (i := (oddAt c p : Nat)) rfl rfl rfl, hA]
        have t2 : ev (.sl (.var 1) (.op .add (.var 3) (.cst (.int 1))) .nop) [.val (.int c), .val (tD p), .val (.int p.length), .val (.int (oddAt c p : Nat)), L] = M.ok (.val (.tup B)) := by
          rw [ev_slB (xs := p.map iD) (i := (oddAt c p : Nat) + 1) rfl rfl rfl, hB]
        have t3 : ev (.tup [ez]) [.val (.int c), .val (tD p), .val (.int p.length), .val (.int (oddAt c p : Nat)), L] = M.ok (.val (.tup [z])) := by
          refine ev_tup (cs := [a1]) (evs_cons hz evs_nil q1) ?_ (by simp)
          simp only [keepAll]
          rw [q2]
        refine ev_op (x := .tup (A ++ [z])) (y := .tup B) (lk (ev_op (x := .tup A) (y := .tup [z]) (lk t1) (lk t3) (op_addT (by simp; omega)))) (lk t2) (op_addT (by simp; omega))
      have bare : ∀ (L : C), ev (.op .add (.sl (.var 1) .nop (.var 3)) (.sl (.var 1) (.op .add (.var 3) (.cst (.int 1))) .nop)) [.val (.int c), .val (tD p), .val (.int p.length), .val (.int (oddAt c p : Nat)), L] = M.ok (.val (.tup (A ++ B))) := by
        intro L
        refine ev_op (x := .tup A) (y := .tup B) (lk (x := .val (.tup A)) ?_) (lk (x := .val (.tup B)) ?_) (op_addT (by omega))
        · rw [ev_slA (xs := p.map iD) (i := (oddAt c p : Nat)) rfl rfl rfl, hA]
        · rw [ev_slB (xs := p.map iD) (i := (oddAt c p : Nat) + 1) rfl rfl rfl, hB]
      have plus : ∀ (L : C) {z : D} {ez : E}, ev ez [.val (.int c), .val (tD p), .val (.int p.length), .val (.int (oddAt c p : Nat)), L] = M.ok (.val z) →
          ev (.op .add (.var 1) (.tup [ez])) [.val (.int c), .val (tD p), .val (.int p.length), .val (.int (oddAt c p : Nat)), L] = M.ok (.val (.tup (p.map iD ++ [z]))) := by
        intro L z ez hz
        exact ev_op (x := .tup (p.map iD)) (y := .tup [z]) rfl (lk (ev_tup (cs := [.val z]) (evs_cons hz evs_nil) rfl (by simp))) (op_addT (by simp; omega))
      have eix : ∀ (L : C), ev (.ix (.var 1) (.var 3)) [.val (.int c), .val (tD p), .val (.int p.length), .val (.int (oddAt c p : Nat)), L] = M.ok (.val (iD (nx p (oddAt c p)))) := fun L => ev_ix (x := tD p) (y := iD (oddAt c p)) rfl rfl (ix_turn hal)
      have e1 : ev (.lst [(.cst .non), (.cst (.int 5)), (.cst (.str "01")), (.blt bList [(.var 1)]), (.tup []), (.op .add (.var 1) (.tup [(.var 2)])), (.op .add (.var 1) (.tup [(.ix (.var 1) (.var 3))])), (.op .add (.sl (.var 1) .nop (.var 3)) (.sl (.var 1) (.op .add (.var 3) (.cst (.int 1))) .nop))]) [.val (.int c), .val (tD p), .val (.int p.length), .val (.int (oddAt c p : Nat)), .un] = M.ok (.own (.lst [.non, .int 5, .str "01", .lst (p.map iD), .tup [], .tup (p.map iD ++ [.int p.length]), .tup (p.map iD ++ [iD (nx p (oddAt c p))]), .tup (A ++ B)])) := by
        refine ev_lst (cs := [.val .non, .val (.int 5), .val (.str "01"), .val (.lst (p.map iD)), .val (.tup []), .val (.tup (p.map iD ++ [.int p.length])), .val (.tup (p.map iD ++ [iD (nx p (oddAt c p))])), .val (.tup (A ++ B))]) ?_ rfl (by simp)
        refine evs_cons rfl (evs_cons rfl (evs_cons rfl (evs_cons (x := .own (.lst (p.map iD))) (ev_blt (cs := [.val (tD p)]) rfl rfl rfl) (evs_cons (ev_tup (cs := []) rfl rfl (by simp)) (evs_cons (plus _ rfl) (evs_cons (plus _ (eix _)) (evs_cons (bare _) evs_nil)))))))
      refine jx_cons (j_asg e1 rfl ?_)
      generalize hL1 : [D.non, .int 5, .str "01", .lst (p.map iD), .tup [], .tup (p.map iD ++ [.int p.length]), .tup (p.map iD ++ [iD (nx p (oddAt c p))]), .tup (A ++ B)] = L1
      have l1 : L1.length = 8 := by rw [← hL1]; rfl
      have e2 : ev (.lst [(.op .add (.op .add (.sl (.var 1) .nop (.var 3)) (.tup [(.cst (.bl true))])) (.sl (.var 1) (.op .add (.var 3) (.cst (.int 1))) .nop)), (.op .add (.op .add (.sl (.var 1) .nop (.var 3)) (.tup [(.neg (.cst (.int 1)))])) (.sl (.var 1) (.op .add (.var 3) (.cst (.int 1))) .nop)), (.lstR true (.cst (.int 13))), (.cst (.bl true))]) [.val (.int c), .val (tD p), .val (.int p.length), .val (.int (oddAt c p : Nat)), .own (.lst L1)] = M.ok (.own (.lst [.tup (A ++ [.bl true] ++ B), .tup (A ++ [.int (-1)] ++ B), .tup (rngD 0 13), .bl true])) := by
        refine ev_lst (cs := [.val (.tup (A ++ [.bl true] ++ B)), .val (.tup (A ++ [.int (-1)] ++ B)), .val (.tup (rngD 0 13)), .val (.bl true)]) ?_ rfl (by simp)
        exact evs_cons (body _ (zc := .val (.bl true)) rfl rfl) (evs_cons (body _ (zc := .val (.int (-1))) rfl rfl) (evs_cons (ev_lstR (t := true) (n := 13) rfl (by decide) (by decide)) (evs_cons rfl evs_nil)))
      refine jx_cons (j_asg (ev_op (x := .lst L1) (y := .lst [.tup (A ++ [.bl true] ++ B), .tup (A ++ [.int (-1)] ++ B), .tup (rngD 0 13), .bl true]) rfl (lk e2) (op_addL (by rw [l1]; simp))) rfl ?_)
      generalize hL2 : L1 ++ [D.tup (A ++ [.bl true] ++ B), .tup (A ++ [.int (-1)] ++ B), .tup (rngD 0 13), .bl true] = L2
      have l2 : L2.length = 12 := by rw [← hL2, List.length_append, l1]; rfl
      have estr : ∀ L, ev (.blt bStr [(.ix (.var 1) (.var 3))]) [.val (.int c), .val (tD p), .val (.int p.length), .val (.int (oddAt c p : Nat)), L] = M.ok (.val (.str (toString ((nx p (oddAt c p) : Nat) : Int)))) := fun L => by
        refine ev_blt (cs := [.val (iD (nx p (oddAt c p)))]) (evs_cons (eix L) evs_nil) rfl ?_
        show strD [.int _] = _
        simp only [strD]
        rw [if_pos]
        have hle : ((nx p (oddAt c p) : Nat) : Int).natAbs < 2 ^ 1920 := by
          have : ((nx p (oddAt c p) : Nat) : Int).natAbs ≤ 12 := by omega
          exact Nat.lt_of_le_of_lt this (by decide)
        by_cases h0 : ((nx p (oddAt c p) : Nat) : Int).natAbs = 0
        · rw [h0]; decide
        · exact (Nat.log2_lt h0).mpr hle
      have e3 : ev (.lst [(.op .add (.op .add (.sl (.var 1) .nop (.var 3)) (.tup [(.blt bStr [(.ix (.var 1) (.var 3))])])) (.sl (.var 1) (.op .add (.var 3) (.cst (.int 1))) .nop)), (.dict1 (.cst (.int 0)) (.cst (.int 0))), (.tup [(.cst .non)]), (.op .add (.op .add (.sl (.var 1) .nop (.var 3)) (.tup [(.var 2)])) (.sl (.var 1) (.op .add (.var 3) (.cst (.int 1))) .nop))]) [.val (.int c), .val (tD p), .val (.int p.length), .val (.int (oddAt c p : Nat)), .own (.lst L2)] = M.ok (.own (.lst [.tup (A ++ [.str (toString ((nx p (oddAt c p) : Nat) : Int))] ++ B), .dK [.inl 0] [.int 0], .tup [.non], .tup (A ++ [.int p.length] ++ B)])) := by
        refine ev_lst (cs := [.val (.tup (A ++ [.str (toString ((nx p (oddAt c p) : Nat) : Int))] ++ B)), .val (.dK [.inl 0] [.int 0]), .val (.tup [.non]), .val (.tup (A ++ [.int p.length] ++ B))]) ?_ rfl (by simp)
        exact evs_cons (body _ (estr _) rfl) (evs_cons (x := .own (.dK [.inl 0] [.int 0])) rfl (evs_cons (ev_tup (cs := [.val .non]) rfl rfl (by simp)) (evs_cons (body _ (zc := .val (.int p.length)) rfl rfl) evs_nil)))
      refine jx_cons (j_asg (ev_op (x := .lst L2) (y := .lst [.tup (A ++ [.str (toString ((nx p (oddAt c p) : Nat) : Int))] ++ B), .dK [.inl 0] [.int 0], .tup [.non], .tup (A ++ [.int p.length] ++ B)]) rfl (lk e3) (op_addL (by rw [l2]; simp))) rfl ?_)
      generalize hL3 : L2 ++ [D.tup (A ++ [.str (toString ((nx p (oddAt c p) : Nat) : Int))] ++ B), .dK [.inl 0] [.int 0], .tup [.non], .tup (A ++ [.int p.length] ++ B)] = L3
      have l3 : L3.length = 16 := by rw [← hL3, List.length_append, l2]; rfl
      have e4 := body (.own (.lst L3)) (z := .lst [.int 0]) (ez := .lst [(.cst (.int 0))]) (zc := .own (.lst [.int 0])) (ev_lst (cs := [.val (.int 0)]) rfl rfl (by simp)) rfl
      refine jx_cons (j_app (xs := L3) (d := .tup (A ++ [.lst [.int 0]] ++ B)) rfl (kp e4) (by rw [l3]; exact sz12 (by decide)) ?_)
      have hall : L3 ++ [.tup (A ++ [.lst [.int 0]] ++ B)] = oddL p (oddAt c p) := by
        rw [hodd, ← hL3, ← hL2, ← hL1]; rfl
      show Ds.nx _ [.val (.int c), .val (tD p), .val (.int p.length), .val (.int (oddAt c p : Nat)), .own (.lst (L3 ++ [.tup (A ++ [.lst [.int 0]] ++ B)]))]
      rw [hall]
      have k1 := Int.fmod_nonneg_of_pos (b := 17) c (by decide)
      have k2 := Int.fmod_lt_of_pos (b := 17) c (by decide)
      have hlen : (oddL p (oddAt c p)).length = 17 := rfl
      refine jx_cons (j_ret (ev_ix (x := .lst (oddL p (oddAt c p))) (y := .int (c.fmod 17)) (d := oddD c p) rfl (lk (ev_op (x := .int c) (y := .int 17) rfl rfl (op_mod (by decide)))) ?_) rfl rfl)
      show atI (oddL p (oddAt c p)) (c.fmod 17) = _
      unfold atI ixN
      rw [hlen, if_pos k1, if_pos (by omega)]
      show (oddL p (oddAt c p))[(c.fmod 17).toNat]? = _
      unfold oddD
      rw [List.getD_eq_getElem?_getD, List.getElem?_eq_getElem (by rw [hlen]; omega)]
      rfl
    · cases h
  · cases h
end K01

set_option Elab.async false
set_option linter.all false
set_option autoImplicit false
set_option maxRecDepth 100000
set_option maxHeartbeats 4000000
/-! K01: the law's own look at a turn. -/
namespace K01
open PySem L2 VS VP
theorem lcm_dvd_all : ∀ (cs : List (List Nat)) (a m : Nat), a ∣ m → (∀ c ∈ cs, c.length ∣ m) → cs.foldl (fun a c => Nat.lcm a c.length) a ∣ m
  | [], a, m, h, _ => h
  | c :: cs, a, m, h, hc => lcm_dvd_all cs _ m (Nat.lcm_dvd h (hc c List.mem_cons_self)) fun x hx => hc x (List.mem_cons_of_mem _ hx)
theorem dvd_lcm_all : ∀ (cs : List (List Nat)) (a : Nat), a ∣ cs.foldl (fun a c => Nat.lcm a c.length) a ∧ ∀ c ∈ cs, c.length ∣ cs.foldl (fun a c => Nat.lcm a c.length) a
  | [], a => ⟨Nat.dvd_refl _, fun c h => by cases h⟩
  | c :: cs, a => by
    obtain ⟨h1, h2⟩ := dvd_lcm_all cs (Nat.lcm a c.length)
    refine ⟨Nat.dvd_trans (Nat.dvd_lcm_left _ _) h1, fun x hx => ?_⟩
    rcases List.mem_cons.mp hx with e | hx
    · subst e; exact Nat.dvd_trans (Nat.dvd_lcm_right _ _) h1
    · exact h2 x hx
theorem ordr_dvd {p c : List Nat} (h : c ∈ cycs p) : c.length ∣ ordr p := (dvd_lcm_all _ _).2 c h
theorem ordr_least {p : List Nat} {m : Nat} (hm : 0 < m) (h : ∀ c ∈ cycs p, c.length ∣ m) : ordr p ≤ m := Nat.le_of_dvd hm (lcm_dvd_all _ _ _ (Nat.one_dvd _) h)
theorem ordr_bound {p : List Nat} (hp : Pm p) (hl : p.length ≤ 12) : ordr p ≤ 27720 := by
  refine ordr_least (by decide) fun c hc => ?_
  have := cycs_len hp hc
  have hk : ∀ k, 1 < k → k ≤ 12 → k ∣ 27720 := by
    intro k h1 h2
    have : k = 2 ∨ k = 3 ∨ k = 4 ∨ k = 5 ∨ k = 6 ∨ k = 7 ∨ k = 8 ∨ k = 9 ∨ k = 10 ∨ k = 11 ∨ k = 12 := by omega
    rcases this with rfl | rfl | rfl | rfl | rfl | rfl | rfl | rfl | rfl | rfl | rfl <;> decide
  exact hk _ this.1 (by omega)
theorem okd_tD (p : List Nat) : okd (tD p) = true := by
  have e : tD p = .tup ((p.map fun i : Nat => (i : Int)).map D.int) := by unfold tD; rw [List.map_map]; rfl
  rw [e]
  simp only [okd, okds_ints]
theorem dpt_tD (p : List Nat) : dpt (tD p) ≤ 2 := by
  have e : tD p = .tup ((p.map fun i : Nat => (i : Int)).map D.int) := by unfold tD; rw [List.map_map]; rfl
  rw [e]
  have := dpts_ints (p.map fun i : Nat => (i : Int))
  simp only [dpt]
  omega
theorem okds_tDs : ∀ cs : List (List Nat), okds (cs.map tD) = true
  | [] => rfl
  | c :: cs => by rw [List.map_cons]; simp only [okds, okd_tD, okds_tDs cs, Bool.and_self]
theorem dpts_tDs : ∀ cs : List (List Nat), dpts (cs.map tD) ≤ 2
  | [] => by simp [dpts]
  | c :: cs => by
    rw [List.map_cons]
    simp only [dpts]
    have := dpts_tDs cs
    have := dpt_tD c
    omega
theorem eqD_self {d : D} (h : okd d = true) (hd : dpt d ≤ 64) : eqD d d = some true := by
  obtain ⟨k, h1, h2⟩ := eqD_ok h h hd hd
  rw [h1, h2.mpr rfl]
theorem eqD_lst0 (cs : List (List Nat)) : eqD (.lst (cs.map tD)) (.lst []) = some (decide (cs = [])) := by
  obtain ⟨k, h1, h2⟩ := eqD_ok (a := .lst (cs.map tD)) (b := .lst []) (by simp only [okd, okds_tDs]) rfl (by have := dpts_tDs cs; simp only [dpt]; omega) (by simp [dpt, dpts])
  rw [h1]
  congr 1
  rw [D.lst.injEq, List.map_eq_nil_iff] at h2
  by_cases h : cs = []
  · rw [h2.mpr h, decide_eq_true h]
  · rw [decide_eq_false h]
    cases k
    · rfl
    · exact absurd (h2.mp rfl) h
/-- the cycles whose length does not divide -/
def undiv (cs : List (List Nat)) (m : Nat) : List (List Nat) := cs.filter fun c => !decide ((m : Int).fmod c.length = 0)
theorem undiv_nil {cs : List (List Nat)} {m : Nat} (hc : ∀ c ∈ cs, 0 < c.length) : undiv cs m = [] ↔ ∀ c ∈ cs, c.length ∣ m := by
  unfold undiv
  rw [List.filter_eq_nil_iff]
  constructor
  · intro h c hcm
    have := h c hcm
    simp only [Bool.not_eq_true', Bool.not_eq_false', decide_eq_true_eq, Bool.not_eq_true] at this
    have h3 : (m : Int).fmod c.length = 0 := by simpa using this
    rw [Int.fmod_eq_emod_of_nonneg _ (by omega)] at h3
    have : ((m % c.length : Nat) : Int) = 0 := h3
    exact Nat.dvd_of_mod_eq_zero (by omega)
  · intro h c hcm
    have hd := h c hcm
    have : (m : Int).fmod c.length = 0 := by
      rw [Int.fmod_eq_emod_of_nonneg _ (by omega)]
      have : m % c.length = 0 := Nat.mod_eq_zero_of_dvd hd
      show ((m % c.length : Nat) : Int) = 0
      rw [this]; rfl
    simp [this]
def e_undiv (v : Nat) : E := .lc (.one 5) (.var 1) [(.op .ne (.op .mod (.var v) (.blt bLen [(.var 5)])) (.cst (.int 0)))] (.var 5)
theorem ev_undiv {v m : Nat} {ρ : List C} {cs : List (List Nat)} (hv : v ≠ 5) (h5 : 5 < ρ.length) (h1 : ρ[1]? = some (.val (.tup (cs.map tD)))) (hm : ρ[v]? = some (.val (.int m))) (hc : ∀ c ∈ cs, 0 < c.length) (hl : cs.length ≤ 100) :
    ev (e_undiv v) ρ = M.ok (.own (.lst ((undiv cs m).map tD))) := by
  have hlen : (undiv cs m).length ≤ 100 := Nat.le_trans (List.length_filter_le _ _) hl
  unfold e_undiv
  refine ev_lc (x := .val (.tup (cs.map tD))) (ds := cs.map tD) (ev_var h1) rfl ?_ (by rw [List.length_map]; exact Nat.le_of_lt (sz12 (by omega)))
  have e : (undiv cs m).map tD = ((cs.map tD).filter fun d => !decide ((m : Int).fmod (nats d).length = 0)).map id := by
    rw [List.map_id, List.filter_map]
    unfold undiv
    congr 1
    apply List.filter_congr
    intro c _
    show _ = !decide ((m : Int).fmod (nats (tD c)).length = 0)
    rw [nats_tD]
  rw [e]
  refine collect_filter fun d hd => ?_
  obtain ⟨c, hcm, rfl⟩ := List.mem_map.mp hd
  have hpos := hc c hcm
  rw [nats_tD]
  have g5 : ((wipeC ρ [5]).set 5 (.val (tD c)))[5]? = some (.val (tD c)) := List.getElem?_set_self (by rw [wipeC_length]; exact h5)
  have gv : ((wipeC ρ [5]).set 5 (.val (tD c)))[v]? = some (.val (.int m)) := by
    rw [List.getElem?_set_ne (fun e => hv e.symm), wipeC_get]
    rw [if_neg (by simp [hv])]
    exact hm
  refine turn_if (ρ' := (wipeC ρ [5]).set 5 (.val (tD c))) rfl (lk (ev_op (x := .int ((m : Int).fmod c.length)) (y := .int 0) (lk (ev_op (x := .int m) (y := .int c.length) (lk (ev_var gv)) (lk (ev_blt (cs := [.val (tD c)]) (evs_cons (ev_var g5) evs_nil) rfl (len_tD c))) (op_mod (by omega)))) rfl (op_ne_int _ _))) fun _ => kp (ev_var g5)
end K01

set_option Elab.async false
set_option linter.all false
set_option autoImplicit false
set_option maxRecDepth 100000
set_option maxHeartbeats 4000000
/-! K01: the law's own look at a turn, walked. -/
namespace K01
open PySem L2 VS VP
def m__law_right : Mir
  | [.val d] => if askD d = true ∧ turnB d = true then some (.ok (.val (.bl true))) else none
  | _ => none
def b__law_right : List S := [.asg 1 (.call "_law_cycles" m__law_cycles [(.var 0)]),
  .ifs (.or_ (.op .ne (.call "cycles" m_cycles [(.var 0)]) (.var 1)) (.or_ (.op .ne (.call "need_turn" m_need_turn [(.var 0)]) (.var 0)) (.op .isnot (.call "is_turn" m_is_turn [(.var 0)]) (.cst (.bl true))))) [.ret (.cst (.bl false))] [],
  .asg 2 (.call "order" m_order [(.var 0)]),
  .ifs (.or_ (.isi (.var 2) [.tyBool]) (.or_ (.not_ (.isi (.var 2) [.tyInt])) (.op .ne (.lc (.one 5) (.var 1) [(.op .ne (.op .mod (.var 2) (.blt bLen [(.var 5)])) (.cst (.int 0)))] (.var 5)) (.lst [])))) [.ret (.cst (.bl false))] [],
  .for_ (.one 3) (.iRng [(.cst (.int 1)), (.var 2)]) [.ifs (.op .eq (.lc (.one 5) (.var 1) [(.op .ne (.op .mod (.var 3) (.blt bLen [(.var 5)])) (.cst (.int 0)))] (.var 5)) (.lst [])) [.ret (.cst (.bl false))] []],
  .asg 4 (.call "is_even" m_is_even [(.var 0)]),
  .ret (.and_ (.isi (.var 4) [.tyBool]) (.op .eq (.var 4) (.op .eq (.op .mod (.blt bSum [(.lc (.one 5) (.var 1) [] (.op .sub (.blt bLen [(.var 5)]) (.cst (.int 1))))]) (.cst (.int 2))) (.cst (.int 0)))))]
def n__law_right : List Str := ["_law_turn_here", "_law_due", "_law_found", "_law_less", "_law_even", "_law_one"]
theorem ev_rng12 {b : E} {ρ : List C} {n : Nat} (h : ev b ρ = M.ok (.val (.int n))) (h0 : 1 ≤ n) (h1 : n ≤ 100000) : ev (.iRng [.cst (.int 1), b]) ρ = M.ok (.own (.lst ((List.range (n - 1)).map fun i => iD (i + 1)))) := by
  simp only [ev]
  rw [evs_cons (x := .val (.int 1)) rfl (evs_cons h evs_nil), M.bind_ok]
  have e2 : lookAll [C.val (.int 1), .val (.int (n : Int))] = some [.int 1, .int n] := rfl
  have h62 : (2 : Int) ^ 62 = 4611686018427387904 := by decide
  have hb : (bnd62 1 && bnd62 (n : Int)) = true := by
    simp only [bnd62, Bool.and_eq_true, decide_eq_true_eq]
    rw [h62]
    refine ⟨⟨by omega, by omega⟩, by omega, by omega⟩
  have : rngArgs [.int 1, .int (n : Int)] = some ((List.range (n - 1)).map fun i => iD (i + 1)) := by
    simp only [rngArgs]
    rw [if_pos hb]
    refine congrArg some ?_
    unfold rngD
    have e : ((n : Int) - 1).toNat = n - 1 := by omega
    rw [e]
    apply List.map_congr_left
    intro i _
    show D.int _ = D.int _
    refine congrArg D.int ?_
    show (1 : Int) + ((i : Nat) : Int) = (((i + 1 : Nat)) : Int)
    omega
  rw [e2, M.lift_some', M.bind_ok, this, M.lift_some', M.bind_ok]
theorem ordr_pos (p : List Nat) (hp : Pm p) : 0 < ordr p := by
  unfold ordr
  have : ∀ (cs : List (List Nat)) (a : Nat), 0 < a → (∀ c ∈ cs, 0 < c.length) → 0 < cs.foldl (fun a c => Nat.lcm a c.length) a := by
    intro cs
    induction cs with
    | nil => intro a h _; exact h
    | cons c cs ih => intro a h hc; exact ih _ (Nat.lcm_pos h (hc c List.mem_cons_self)) fun x hx => hc x (List.mem_cons_of_mem _ hx)
  exact this _ _ (by decide) fun c hc => by have := cycs_len hp hc; omega
theorem order_ok {d : D} (ha : askD d = true) (h : turnB d = true) : m_order [.val d] = M.ok (.val (.int (ordr (nats d)))) := by
  simp only [m_order]
  rw [if_pos ha, if_pos h]
theorem even_ok {d : D} (ha : askD d = true) (h : turnB d = true) : m_is_even [.val d] = M.ok (.val (.bl (evn (nats d)))) := by
  simp only [m_is_even]
  rw [if_pos ha, if_pos h]
theorem lawc_ok {d : D} (ha : askD d = true) (h : turnB d = true) : m__law_cycles [.val d] = M.ok (.val (.tup ((cycs (nats d)).map tD))) := by
  simp only [m__law_cycles]
  rw [if_pos ⟨ha, h⟩]
theorem op_ne_self {d : D} (h : okd d = true) (hd : dpt d ≤ 64) : opD .ne d d = some (.val (.bl false)) := by
  have : opD .ne d d = (eqD d d).map fun b => .val (.bl !b) := by cases d <;> rfl
  rw [this, eqD_self h hd]; rfl
theorem w__law_right : ∀ cs r, m__law_right cs = some r → wps b__law_right (DsOf r) (start0 n__law_right cs) := by
  intro cs r h
  unfold m__law_right at h
  split at h
  · rename_i d
    split at h
    · rename_i hat
      obtain ⟨ha, ht⟩ := hat
      cases h
      show wps b__law_right _ [.val d, .un, .un, .un, .un, .un]
      apply of_jps
      obtain ⟨e, hp, hl1, hl2⟩ := turn_perm ht
      have hc := lawc_ok ha ht
      have hc2 := cycles_ok ha ht
      have hn := need_ok ha ht
      have ho := order_ok ha ht
      have hev := even_ok ha ht
      have hti := turn_call ha
      rw [ht] at hti
      generalize nats d = p at e hp hl1 hl2 hc hc2 ho hev ⊢
      subst e
      have hcount := cycs_count p
      have hpos : ∀ c ∈ cycs p, 0 < c.length := fun c hcm => by have := cycs_len hp hcm; omega
      have ob := ordr_bound hp hl2
      have op0 := ordr_pos p hp
      refine j_cons (j_asg (ev_call (cs := [.val (tD p)]) rfl hc) rfl ?_)
      show Ds.nx _ [.val (tD p), .val (.tup ((cycs p).map tD)), .un, .un, .un, .un]
      refine jx_cons (j_if (b1 := false) ?_ (fun hb => by cases hb) fun _ => ?_)
      · refine ev_or (b1 := false) (b2 := false) (lk (ev_op (x := .tup ((cycs p).map tD)) (y := .tup ((cycs p).map tD)) (lk (ev_call (cs := [.val (tD p)]) rfl hc2)) rfl (op_ne_self (by simp only [okd, okds_tDs]) (by have := dpts_tDs (cycs p); simp only [dpt]; omega)))) fun _ => ?_
        refine ev_or (b1 := false) (b2 := false) (lk (ev_op (x := tD p) (y := tD p) (lk (ev_call (cs := [.val (tD p)]) rfl hn)) rfl (op_ne_self (okd_tD p) (by have := dpt_tD p; omega)))) fun _ => ?_
        exact ev_op (x := .bl true) (y := .bl true) (lk (ev_call (cs := [.val (tD p)]) rfl hti)) rfl rfl
      refine j_nil (jx_cons (j_asg (ev_call (cs := [.val (tD p)]) rfl ho) rfl ?_))
      show Ds.nx _ [.val (tD p), .val (.tup ((cycs p).map tD)), .val (.int (ordr p)), .un, .un, .un]
      refine jx_cons (j_if (b1 := false) ?_ (fun hb => by cases hb) fun _ => ?_)
      · refine ev_or (b1 := false) (b2 := false) (lk (x := .val (.bl false)) rfl) fun _ => ev_or (b1 := false) (b2 := false) (lk (x := .val (.bl false)) rfl) fun _ => ?_
        have hu := ev_undiv (v := 2) (m := ordr p) (ρ := [.val (tD p), .val (.tup ((cycs p).map tD)), .val (.int (ordr p)), .un, .un, .un]) (by decide) (by simp) rfl rfl hpos (by omega)
        have hnil : undiv (cycs p) (ordr p) = [] := (undiv_nil hpos).mpr fun c hcm => ordr_dvd hcm
        rw [hnil] at hu
        refine ev_op (x := .lst []) (y := .lst []) (lk hu) (lk (ev_lst0 _)) ?_
        exact op_ne_self rfl (by simp [dpt, dpts])
      refine j_nil (jx_cons (j_for (ev_rng12 rfl (by omega) (by omega)) rfl ?_))
      refine for_inv _ (fun i ρ => ∃ a b c, ρ = [.val (tD p), .val (.tup ((cycs p).map tD)), .val (.int (ordr p)), a, b, c]) ⟨.un, .un, .un, rfl⟩ ?_ ?_
      · rintro i d ρ Q hd ⟨a, b, c, rfl⟩ hQ
        have hlt : i < ordr p - 1 := by
          have := (List.getElem?_eq_some_iff.mp hd).1
          simpa using this
        rw [List.getElem?_map, List.getElem?_range hlt] at hd
        have hd : d = iD (i + 1) := (Option.some.inj hd).symm
        subst hd
        refine ⟨_, rfl, ?_⟩
        show jps _ _ [.val (tD p), .val (.tup ((cycs p).map tD)), .val (.int (ordr p)), .val (iD (i + 1)), b, c]
        have hu := ev_undiv (v := 3) (m := i + 1) (ρ := [.val (tD p), .val (.tup ((cycs p).map tD)), .val (.int (ordr p)), .val (iD (i + 1)), b, c]) (by decide) (by simp) rfl rfl hpos (by omega)
        have hne : undiv (cycs p) (i + 1) ≠ [] := fun hz => by
          have := ordr_least (p := p) (m := i + 1) (by omega) ((undiv_nil hpos).mp hz)
          omega
        refine j_cons (j_if (b1 := false) ?_ (fun hb => by cases hb) fun _ => ?_)
        · refine ev_op (x := .lst ((undiv (cycs p) (i + 1)).map tD)) (y := .lst []) (lk hu) (lk (ev_lst0 _)) ?_
          show (eqD _ _).map _ = _
          rw [eqD_lst0, decide_eq_false hne]; rfl
        · exact j_nil (jx_nil (hQ _ ⟨_, _, _, rfl⟩))
      · rintro ρ ⟨a, b, c, rfl⟩
        refine jx_cons (j_asg (ev_call (cs := [.val (tD p)]) rfl hev) rfl ?_)
        show Ds.nx _ [.val (tD p), .val (.tup ((cycs p).map tD)), .val (.int (ordr p)), a, .val (.bl (evn p)), c]
        have hpar := ev_par (it := .var 1) (v := 5) (ρ := [.val (tD p), .val (.tup ((cycs p).map tD)), .val (.int (ordr p)), a, .val (.bl (evn p)), c]) (x := .val (.tup ((cycs p).map tD))) (cs := cycs p) (by simp) rfl rfl (by omega)
        refine jx_cons (j_ret (ev_and (b1 := true) (b2 := true) (lk (x := .val (.bl true)) rfl) fun _ => ev_op (x := .bl (evn p)) (y := .bl (evn p)) rfl (lk hpar) ?_) rfl rfl)
        cases evn p <;> rfl
    · cases h
  · cases h
end K01

set_option Elab.async false
set_option linter.all false
set_option autoImplicit false
set_option maxRecDepth 100000
set_option maxHeartbeats 4000000
/-! K02: after, back. -/
namespace K02
open PySem L2 VS VP K01
/-- a comprehension over whole numbers -/
theorem ev_lc_nat {it elt : E} {v : Nat} {ρ : List C} {x : C} {l : List Nat} {f : Nat → D} (h : ev it ρ = M.ok x) (hs : seqC x = M.ok (l.map iD)) (hf : ∀ i ∈ l, keep1 (ev elt ((wipeC ρ [v]).set v (.val (iD i)))) = M.ok (f i)) (hl : l.length ≤ 1000) :
    ev (.lc (.one v) it [] elt) ρ = M.ok (.own (.lst (l.map f))) := by
  refine ev_lc (ys := l.map f) h hs ?_ (by rw [List.length_map]; exact Nat.le_of_lt (sz12 hl))
  have e : l.map f = (l.map iD).map (fun d => f (natD d)) := by
    rw [List.map_map]
    exact List.map_congr_left fun i _ => by simp [iD, natD]
  rw [e]
  refine collect_map fun d hd => ?_
  obtain ⟨i, hi, rfl⟩ := List.mem_map.mp hd
  have e2 : natD (iD i) = i := by simp [iD, natD]
  rw [e2]
  exact turn_all rfl (hf i hi)
def m_after : Mir
  | [.val a, .val b] => if askD a = true ∧ askD b = true then (if turnB a = true ∧ turnB b = true ∧ (nats a).length = (nats b).length then some (.ok (.val (tD (cmp (nats a) (nats b))))) else some (.error 1)) else none
  | _ => none
def b_after : List S := [.ex (.call "need_turn" m_need_turn [(.var 0)]),
  .ex (.call "need_turn" m_need_turn [(.var 1)]),
  .ifs (.op .ne (.blt bLen [(.var 0)]) (.blt bLen [(.var 1)])) [.raise_ 1 "BadTurn"] [],
  .ret (.blt bTuple [(.lc (.one 2) (.var 0) [] (.ix (.var 1) (.var 2)))])]
def n_after : List Str := ["one", "other", "point"]
theorem w_after : ∀ cs r, m_after cs = some r → wps b_after (DsOf r) (start0 n_after cs) := by
  intro cs r h
  unfold m_after at h
  split at h
  · rename_i a b
    split at h
    · rename_i hab
      obtain ⟨ha, hb⟩ := hab
      show wps b_after _ [.val a, .val b, .un]
      apply of_jps
      by_cases ta : turnB a = true
      · refine j_cons (j_ex (ev_call (cs := [.val a]) rfl (need_ok ha ta)) ?_)
        by_cases tb : turnB b = true
        · refine jx_cons (j_ex (ev_call (cs := [.val b]) rfl (need_ok hb tb)) ?_)
          obtain ⟨ea, hp, a1, a2⟩ := turn_perm ta
          obtain ⟨eb, hq, b1, b2⟩ := turn_perm tb
          rw [ta, tb] at h
          generalize nats a = p at ea hp a1 a2 h
          generalize nats b = q at eb hq b1 b2 h
          subst ea eb
          have e1 : ev (.op .ne (.blt bLen [(.var 0)]) (.blt bLen [(.var 1)])) [.val (tD p), .val (tD q), .un] = M.ok (.val (.bl (!decide ((p.length : Int) = (q.length : Int))))) :=
            ev_op (x := .int p.length) (y := .int q.length) (lk (ev_blt (cs := [.val (tD p)]) rfl rfl (len_tD p))) (lk (ev_blt (cs := [.val (tD q)]) rfl rfl (len_tD q))) (op_ne_int _ _)
          refine jx_cons (j_if e1 (fun hh => ?_) fun hh => ?_)
          · have hne : ¬ p.length = q.length := fun e => by
              rw [e] at hh
              simp at hh
            rw [if_neg (fun z => hne z.2.2)] at h
            cases h
            exact j_cons (j_raise rfl)
          · have he : p.length = q.length := by
              simp only [Bool.not_eq_false', decide_eq_true_eq] at hh
              omega
            rw [if_pos ⟨rfl, rfl, he⟩] at h
            cases h
            refine j_nil (jx_cons (j_ret (x := .val (tD (cmp p q))) ?_ rfl rfl))
            refine ev_blt (cs := [.val (.lst (p.map fun i => iD (nx q i)))]) (evs_cons (ev_lc_nat (l := p) rfl rfl (fun i hi => ?_) (by omega)) evs_nil) rfl ?_
            · exact kp (ev_ix (x := tD q) (y := iD i) rfl rfl (ix_turn (by rw [← he]; exact mem_lt hp hi)))
            · show some (C.val (D.tup _)) = some (C.val (D.tup _))
              unfold cmp
              rw [List.map_map]
              rfl
        · rw [if_neg (fun z => tb z.2.1)] at h
          cases h
          exact jx_cons (j_exE (j := 1) (by rw [ev_call (cs := [.val b]) rfl (need_er hb (by simpa using tb))]) rfl)
      · rw [if_neg (fun z => ta z.1)] at h
        cases h
        exact j_cons (j_exE (j := 1) (by rw [ev_call (cs := [.val a]) rfl (need_er ha (by simpa using ta))]) rfl)
    · cases h
  · cases h
def m_back : Mir
  | [.val a] => if askD a = true then (if turnB a = true then some (.ok (.val (tD (inv (nats a))))) else some (.error 1)) else none
  | _ => none
def b_back : List S := [.ex (.call "need_turn" m_need_turn [(.var 0)]),
  .asg 1 (.op .mul (.lst [(.cst (.int 0))]) (.blt bLen [(.var 0)])),
  .for_ (.tup [2, 3]) (.iEnum (.var 0)) [.setx 1 (.var 3) (.var 2)],
  .ret (.blt bTuple [(.var 1)])]
def n_back : List Str := ["one", "found", "point", "goal"]
theorem rep_one {α : Type} (a : α) : ∀ k : Nat, (List.replicate k [a]).flatten = List.replicate k a
  | 0 => rfl
  | k + 1 => by rw [List.replicate_succ, List.flatten_cons, rep_one a k, List.replicate_succ]; rfl
theorem w_back : ∀ cs r, m_back cs = some r → wps b_back (DsOf r) (start0 n_back cs) := by
  intro cs r h
  unfold m_back at h
  split at h
  · rename_i a
    split at h
    · rename_i ha
      show wps b_back _ [.val a, .un, .un, .un]
      apply of_jps
      by_cases ta : turnB a = true
      · rw [if_pos ta] at h
        cases h
        have hn := need_ok ha ta
        obtain ⟨ea, hp, a1, a2⟩ := turn_perm ta
        generalize nats a = p at ea hp a1 a2 ⊢
        subst ea
        refine j_cons (j_ex (ev_call (cs := [.val (tD p)]) rfl hn) ?_)
        refine jx_cons (j_asg (x := .own (.lst ((bk p 0).map iD))) ?_ rfl ?_)
        · refine ev_op (x := .lst [.int 0]) (y := .int p.length) rfl (lk (ev_blt (cs := [.val (tD p)]) rfl rfl (len_tD p))) ?_
          simp only [opD]
          rw [if_pos ⟨by omega, by omega, by simp only [List.length_singleton, Nat.one_mul]; exact Nat.le_of_lt (sz12 (by omega))⟩]
          have : (p.length : Int).toNat = p.length := by omega
          rw [this, rep_one]
          simp [bk, iD]
        refine jx_cons (j_for (x := .own (.lst (enumD (p.map iD)))) (by simp only [ev]; rfl) rfl ?_)
        refine for_inv _ (fun k ρ => k ≤ p.length ∧ ∃ b c, ρ = [.val (tD p), .own (.lst ((bk p k).map iD)), b, c]) ⟨Nat.zero_le _, _, _, rfl⟩ ?_ ?_
        · rintro k d ρ Q hd ⟨hk, b, c, rfl⟩ hQ
          have hk' : k < p.length := by
            have := (List.getElem?_eq_some_iff.mp hd).1
            simpa [enumD] using this
          have hd' : d = .tup [iD k, iD (nx p k)] := by
            unfold enumD at hd
            rw [List.getElem?_mapIdx, List.getElem?_map, List.getElem?_eq_getElem hk', ← nx_get hk'] at hd
            exact (Option.some.inj hd).symm
          subst hd'
          refine ⟨[.val (tD p), .own (.lst ((bk p k).map iD)), .val (iD k), .val (iD (nx p k))], rfl, ?_⟩
          refine j_cons (j_setx (o := .lst ((bk p k).map iD)) (o' := .lst (((bk p k).set (nx p k) k).map iD)) (x := iD (nx p k)) (d := iD k) rfl rfl rfl (set_lst (by rw [bk_length]; exact nx_lt hp hk')) ?_)
          exact jx_nil (hQ _ ⟨by omega, _, _, rfl⟩)
        · rintro ρ ⟨hk, b, c, rfl⟩
          have hl : (enumD (p.map iD)).length = p.length := by simp [enumD]
          rw [hl, bk_inv hp]
          exact jx_cons (j_ret (ev_blt (cs := [.bor (.lst ((inv p).map iD))]) (z := .val (tD (inv p))) rfl rfl rfl) rfl rfl)
      · rw [if_neg ta] at h
        cases h
        exact j_cons (j_exE (j := 1) (by rw [ev_call (cs := [.val a]) rfl (need_er ha (by simpa using ta))]) rfl)
    · cases h
  · cases h
end K02

set_option Elab.async false
set_option linter.all false
set_option autoImplicit false
set_option maxRecDepth 100000
set_option maxHeartbeats 4000000
/-! VS: methods of tuples. -/
namespace VS
open PySem PySem.Spec PyProof.Rows L2
theorem few_of {as : List Expr} {cp : Pos} {env : Env} (hp : as.all isPlain = true) (hl : as.length < 30) :
    ((backTo cp (starEach as env)).all (fun x => !x.1) && (backToKw cp (keywordEach [] env)).all (fun x => x.1.isSome) && decide (as.length + ([] : List Keyword).length + (if ([] : List Keyword).isEmpty then 0 else 1) < 30)) = true := by
  have h1 : (backTo cp (starEach as env)).all (fun x => !x.1) = true := by
    have h := back_of (pos := cp) (env := env) hp
    rw [List.all_eq_true]
    intro x hx
    cases q : x.1 with
    | false => rfl
    | true =>
      rw [List.any_eq_true.mpr ⟨x, hx, q⟩] at h
      cases h
  rw [h1]
  show (true && true && decide (as.length + 0 + 0 < 30)) = true
  simp; omega
section
variable {G : Ctx} {X : Cx} {nm : Str} {id : String} {r : V → List V → Hp → VK → Prop} {f : D → List D → Option C} {ty : D → Bool} {o : Expr} {es : List Expr} {to : TE} {ta : TA} {apos cpos : Pos}
theorem pe_tupM (slot : Slot "tuple" nm id) (hty : typeOf (.builtin id) = pure (.type "method_descriptor")) (hm : MtR X id r) (ht : ∀ d, ty d = true → ∃ xs, d = .tup xs)
    (hf : ∀ xs ds c x vs H Hs Q, Same Hs H → RdW G H Hs (.tup xs) x → RdL G H Hs ds vs → f (.tup xs) ds = some c → PostN G H Hs c Q → r x vs H Q)
    (hat : attrOk o = true) (hp : es.all isPlain = true) (he : (apos.endLine == cpos.line) = true) (hl : es.length < 30) (hne : es ≠ []) (ho : PE X o to) (ha : PA X es ta) : PE X (.Call (.Attribute o nm apos) es [] cpos) (tM G ty f to ta) := by
  cases es with
  | nil => exact absurd rfl hne
  | cons e es =>
    have hpe : isPlain e = true := by simp only [List.all_cons, Bool.and_eq_true] at hp; exact hp.1
    have hps : es.all isPlain = true := by simp only [List.all_cons, Bool.and_eq_true] at hp; exact hp.2
    refine ⟨fun pins s σ H Q I h => wpAny_Call_method_late (base_of hat) (few_of hp hl) he rfl (thn (ho.run pins s σ H _ I h) ?_)⟩
    rintro v s1 ⟨x, H1, I1, r1, Hs, d, sm, rx, hd, q1⟩
    obtain ⟨xs, rfl⟩ := ht d hd
    obtain ⟨a, vs, rfl, ⟨ob, h1, hdc⟩, h3⟩ := rd_tup sm rx
    cases r1
    obtain ⟨hget, _, its, rv, o', h2, hc, n, hda⟩ := I1.hok a _ h1
    have eo : o' = ob := Option.some.inj (h2.symm.trans hget)
    subst eo
    refine ⟨"tuple", id, PySem.F.plainAttrs_tuple, slot, hty, ⟨o', h2, hc⟩, fun b e => by cases e; exact ⟨o', h2, hdc⟩, ?_⟩
    have hA := ha.run cpos pins s1 σ H1 _ I1 q1
    rw [star_of hpe] at hA ⊢
    refine Calls.callWith_builtin (by show (false || (backTo cpos (starEach es X.env)).any (·.1)) = false; rw [back_of hps]; rfl) (Calls.evalArgs_plain ?_)
    refine thn hA fun us s2 ⟨ws, H2, I2, r2, Hs2, ds, c, sm2, rx2, rl, e2, po⟩ => ?_
    exact hm pins s2 σ H2 (.ref a) ws (.ref a) us Q I2 rfl r2 (hf xs ds c _ ws H2 Hs2 Q sm2 rx2 rl e2 po)
end
def idxD : D → List D → Option C
  | .tup xs, [.int k] => (intsD xs).bind fun ns => if k ∈ ns then some (.val (.int (ns.idxOf k : Nat))) else none
  | _, _ => none
def isTupD : D → Bool
  | .tup _ => true
  | _ => false
def mIndex : Mth where
  nm := "index"
  ar := 1
  ty := isTupD
  f := idxD
  ok := fun {G X} xk {o es to ta apos cpos} hat hp he hl ho ha => by
    refine pe_tupM PySem.F.slot_tuple_index PySem.F.type_tuple_index mt_index (fun d h => ?_) (fun xs ds c x vs H Hs Q s rx rl e po => ?_) hat hp he hl.2 (fun z => by rw [z] at hl; cases hl.1) ho ha
    · cases d <;> first | exact ⟨_, rfl⟩ | cases h
    · match ds, e with
      | [.int k], e =>
        simp only [idxD] at e
        obtain ⟨ns, e1, e2⟩ := bind_some e
        split at e2
        · rename_i hk
          cases e2
          obtain ⟨a, ws, rfl, h1, h2⟩ := rd_tup s rx
          rw [ints_of e1] at h2
          rw [h2.ints] at h1
          obtain ⟨v, rfl, rk⟩ := rdl1 rl
          exact ⟨a, ns, k, rfl, by rw [rd_int rk], h1.sq, hk, int_post s po⟩
        · cases e2
/-- int(x) of a number, of a truth -/
def intD : List D → Option C
  | [.int i] => some (.val (.int i))
  | [.bl b] => some (.val (.int (if b then 1 else 0)))
  | [.str z] => if z.length ≤ 640 then (PySem.intText? z).map fun n => .val (.int n) else none
  | _ => none
theorem int_ok {G : Ctx} {X : Cx} (xk : XOk G X) : CallR X (.type "int") (rC G intD) := callR_of fun ds c e => by
  match ds, e with
  | [.int i], e =>
    cases e
    refine ⟨_, call_int1, fun vs H Q Hs s0 rd po => ?_⟩
    obtain ⟨v, rfl, r1⟩ := rdl1 rd
    exact .inl ⟨i, by rw [rd_int r1], int_post s0 po⟩
  | [.bl b], e =>
    cases e
    refine ⟨_, call_int1, fun vs H Q Hs s0 rd po => ?_⟩
    obtain ⟨v, rfl, r1⟩ := rdl1 rd
    exact .inr ⟨b, by rw [rd_bl r1], int_post s0 po⟩
  | [.str z], e =>
    simp only [intD] at e
    split at e
    · rename_i hz
      cases hn : PySem.intText? z with
      | none => rw [hn] at e; cases e
      | some n =>
        rw [hn] at e
        cases e
        refine ⟨_, call_int_str, fun vs H Q Hs s0 rd po => ?_⟩
        obtain ⟨v, rfl, r1⟩ := rdl1 rd
        exact ⟨z, n, by rw [rd_str r1], hn, hz, int_post s0 po⟩
    · cases e
def bInt : Blt := ⟨"int", intD, fun xk => .inr ⟨_, by decide +kernel, int_ok xk⟩, by decide +kernel, by decide +kernel⟩
end VS

set_option Elab.async false
set_option linter.all false
set_option autoImplicit false
set_option maxRecDepth 100000
set_option maxHeartbeats 4000000
/-! K02: the law's own product, back and power; power. -/
namespace K02
open PySem VS VP K01
theorem nx_all (p : List Nat) : (List.range p.length).map (nx p) = p := by
  refine List.ext_getElem (by simp) fun i h1 h2 => ?_
  rw [List.getElem_map, List.getElem_range, nx_get h2]
theorem cmp_range (p q : List Nat) : cmp p q = (List.range p.length).map fun i => nx q (nx p i) := by
  unfold cmp
  conv => lhs; rw [← nx_all p]
  rw [List.map_map]
  rfl
def m__law_after : Mir
  | [.val a, .val b] => if (turnB a = true ∧ turnB b = true) ∧ (nats a).length = (nats b).length then some (.ok (.val (tD (cmp (nats a) (nats b))))) else none
  | _ => none
def b__law_after : List S := [.ret (.blt bTuple [(.lc (.one 2) (.iRng [(.blt bLen [(.var 0)])]) [] (.ix (.var 1) (.ix (.var 0) (.var 2))))])]
def n__law_after : List Str := ["_law_one", "_law_other", "_law_point"]
theorem w__law_after : ∀ cs r, m__law_after cs = some r → wps b__law_after (DsOf r) (start0 n__law_after cs) := by
  intro cs r h
  unfold m__law_after at h
  split at h
  · rename_i a b
    split at h
    · rename_i hh
      obtain ⟨⟨ta, tb⟩, he⟩ := hh
      cases h
      show wps b__law_after _ [.val a, .val b, .un]
      apply of_jps
      obtain ⟨ea, hp, a1, a2⟩ := turn_perm ta
      obtain ⟨eb, hq, b1, b2⟩ := turn_perm tb
      generalize nats a = p at ea hp a1 a2 he ⊢
      generalize nats b = q at eb hq b1 b2 he ⊢
      subst ea eb
      refine j_cons (j_ret (x := .val (tD (cmp p q))) ?_ rfl rfl)
      refine ev_blt (cs := [.val (.lst ((List.range p.length).map fun i => iD (nx q (nx p i))))]) (evs_cons (ev_lc_nat (l := List.range p.length) (ev_rng1 (ev_blt (cs := [.val (tD p)]) rfl rfl (len_tD p)) (by omega)) rfl (fun i hi => ?_) (by simp; omega)) evs_nil) rfl ?_
      · have hi := List.mem_range.mp hi
        exact kp (ev_ix (x := tD q) (y := iD (nx p i)) rfl (lk (ev_ix (x := tD p) (y := iD i) rfl rfl (ix_turn hi))) (ix_turn (by rw [← he]; exact nx_lt hp hi)))
      · show some (C.val (D.tup _)) = some (C.val (D.tup _))
        rw [cmp_range, List.map_map]
        rfl
    · cases h
  · cases h
theorem ev_mth {b : Mth} {o : E} {es : List E} {ρ cs : List C} {x : D} {ds : List D} {z : C} (ho : look1 (ev o ρ) = M.ok x) (ht : b.ty x = true) (hs : evs es ρ = M.ok cs) (hl : lookAll cs = some ds) (h : b.f x ds = some z) : ev (.mth b o es) ρ = M.ok z := by
  simp only [ev]
  rw [ho, M.bind_ok, if_neg (by rw [ht]; exact fun e => by cases e), hs, M.bind_ok, hl, M.lift_some', M.bind_ok, h]; rfl
theorem idx_cast (i : Nat) : ∀ p : List Nat, (p.map fun n : Nat => (n : Int)).idxOf (i : Int) = p.idxOf i
  | [] => rfl
  | a :: p => by
    rw [List.map_cons, List.idxOf_cons, List.idxOf_cons, idx_cast i p]
    by_cases e : a = i
    · subst e; simp
    · have e2 : ¬ (a : Int) = (i : Int) := by omega
      rw [beq_eq_false_iff_ne.mpr e, beq_eq_false_iff_ne.mpr e2]
theorem index_turn {p : List Nat} {i : Nat} (h : i ∈ p) : idxD (tD p) [iD i] = some (.val (iD (p.idxOf i))) := by
  show (intsD (p.map iD)).bind _ = _
  rw [intsD_iD, Option.bind_some]
  have hm : (i : Int) ∈ p.map fun n : Nat => (n : Int) := List.mem_map.mpr ⟨i, h, rfl⟩
  rw [if_pos hm, idx_cast]
  rfl
def m__law_back : Mir
  | [.val a] => if turnB a = true then some (.ok (.val (tD (inv (nats a))))) else none
  | _ => none
def b__law_back : List S := [.ret (.blt bTuple [(.lc (.one 1) (.iRng [(.blt bLen [(.var 0)])]) [] (.mth mIndex (.var 0) [(.var 1)]))])]
def n__law_back : List Str := ["_law_one", "_law_point"]
theorem w__law_back : ∀ cs r, m__law_back cs = some r → wps b__law_back (DsOf r) (start0 n__law_back cs) := by
  intro cs r h
  unfold m__law_back at h
  split at h
  · rename_i a
    split at h
    · rename_i ta
      cases h
      show wps b__law_back _ [.val a, .un]
      apply of_jps
      obtain ⟨ea, hp, a1, a2⟩ := turn_perm ta
      generalize nats a = p at ea hp a1 a2 ⊢
      subst ea
      refine j_cons (j_ret (x := .val (tD (inv p))) ?_ rfl rfl)
      refine ev_blt (cs := [.val (.lst ((List.range p.length).map fun i => iD (p.idxOf i)))]) (evs_cons (ev_lc_nat (l := List.range p.length) (ev_rng1 (ev_blt (cs := [.val (tD p)]) rfl rfl (len_tD p)) (by omega)) rfl (fun i hi => ?_) (by simp; omega)) evs_nil) rfl ?_
      · have hi := List.mem_range.mp hi
        exact kp (x := .val (iD (p.idxOf i))) (ev_mth (x := tD p) (cs := [.val (iD i)]) (ds := [iD i]) rfl rfl rfl rfl (index_turn (lt_mem hp hi)))
      · show some (C.val (D.tup _)) = some (C.val (D.tup _))
        unfold inv
        rw [List.map_map]
        rfl
    · cases h
  · cases h
theorem per_dvd {p : List Nat} (hp : Pm p) (x : Nat) (h : x < p.length) : per p x ∣ ordr p := by
  rcases per_cycs hp h with e | ⟨c, h1, h2⟩
  · rw [e]; exact Nat.one_dvd _
  · rw [← h2]; exact ordr_dvd h1
theorem pw_turn {p : List Nat} (hp : Pm p) (h1 : 1 ≤ p.length) (h2 : p.length ≤ 12) (k : Nat) : turnB (tD (pw p k)) = true := turnT (pw_pm hp k) (by rw [pw_length]; exact h1) (by rw [pw_length]; exact h2)
theorem after_ok {p q : List Nat} (hp : Pm p) (hq : Pm q) (e : p.length = q.length) (h1 : 1 ≤ p.length) (h2 : p.length ≤ 12) : m_after [.val (tD p), .val (tD q)] = M.ok (.val (tD (cmp p q))) := by
  simp only [m_after]
  rw [if_pos ⟨askT p, askT q⟩, if_pos ⟨turnT hp h1 h2, turnT hq (by omega) (by omega), by rw [nats_tD, nats_tD]; exact e⟩, nats_tD, nats_tD]
def m_power : Mir
  | [.val a, .val c] => if askD a = true ∧ plainD c = true then (if turnB a = true then (match c with
    | .int n => some (.ok (.val (tD (far (nats a) n))))
    | _ => some (.error 2)) else some (.error 1)) else none
  | _ => none
def b_power : List S := [.ex (.call "need_turn" m_need_turn [(.var 0)]),
  .ifs (.not_ (.call "is_whole" m_is_whole [(.var 1)])) [.raise_ 2 "BadCount"] [],
  .asg 2 (.call "still" m_still [(.blt bLen [(.var 0)])]),
  .for_ (.one 3) (.iRng [(.op .mod (.var 1) (.call "order" m_order [(.var 0)]))]) [.asg 2 (.call "after" m_after [(.var 2), (.var 0)])],
  .retV 2]
def n_power : List Str := ["one", "count", "found", "turn"]
theorem w_power : ∀ cs r, m_power cs = some r → wps b_power (DsOf r) (start0 n_power cs) := by
  intro cs r h
  unfold m_power at h
  split at h
  · rename_i a c
    split at h
    · rename_i hac
      obtain ⟨ha, hc⟩ := hac
      show wps b_power _ [.val a, .val c, .un, .un]
      apply of_jps
      by_cases ta : turnB a = true
      · rw [if_pos ta] at h
        have hn := need_ok ha ta
        have ho := order_ok ha ta
        obtain ⟨ea, hp, a1, a2⟩ := turn_perm ta
        generalize nats a = p at ea hp a1 a2 ho h
        subst ea
        refine j_cons (j_ex (ev_call (cs := [.val (tD p)]) rfl hn) ?_)
        refine jx_cons (j_if (ev_not (lk (ev_call (cs := [.val c]) rfl (whole_call hc)))) (fun hh => ?_) fun hh => ?_)
        · have hw : wholeD c = false := by simpa using hh
          cases c <;> first | (cases hw; done) | (cases hc; done) | skip
          all_goals
            cases h
            exact j_cons (j_raise rfl)
        · have hw : wholeD c = true := by simpa using hh
          obtain ⟨n, rfl⟩ : ∃ n, c = .int n := by
            cases c <;> first | (cases hw; done) | exact ⟨_, rfl⟩
          cases h
          have hM := ordr_pos p hp
          have hB := ordr_bound hp a2
          refine j_nil (jx_cons (j_asg (x := .val (tD (pw p 0))) (ev_call (cs := [.val (.int p.length)]) (evs_cons (ev_blt (cs := [.val (tD p)]) rfl rfl (len_tD p)) evs_nil) ?_) rfl ?_))
          · simp only [m_still]
            rw [if_pos (show plainD (.int (p.length : Int)) = true from rfl), if_pos ⟨by omega, by omega⟩, rngD_nat]
            rfl
          have hm0 := Int.fmod_nonneg_of_pos n (show (0 : Int) < (ordr p : Int) by omega)
          have hm1 := Int.fmod_lt_of_pos n (show (0 : Int) < (ordr p : Int) by omega)
          have emod : ev (.op .mod (.var 1) (.call "order" m_order [(.var 0)])) [.val (tD p), .val (.int n), .val (tD (pw p 0)), .un] = M.ok (.val (.int ((n.fmod (ordr p)).toNat : Nat))) := by
            refine ev_op (x := .int n) (y := .int (ordr p)) rfl (lk (ev_call (cs := [.val (tD p)]) rfl ho)) ?_
            rw [op_mod (by omega), Int.toNat_of_nonneg hm0]
          refine jx_cons (j_for (ev_rng1 emod (by omega)) rfl ?_)
          refine for_inv _ (fun k ρ => ∃ c, ρ = [.val (tD p), .val (.int n), .val (tD (pw p k)), c]) ⟨_, rfl⟩ ?_ ?_
          · rintro k d ρ Q hd ⟨c, rfl⟩ hQ
            refine ⟨_, rfl, ?_⟩
            refine j_cons (j_asg (x := .val (tD (pw p (k + 1)))) (ev_call (cs := [.val (tD (pw p k)), .val (tD p)]) rfl (after_ok (pw_pm hp k) hp (pw_length p k) (by rw [pw_length]; exact a1) (by rw [pw_length]; exact a2))) rfl ?_)
            exact jx_nil (hQ _ ⟨_, rfl⟩)
          · rintro ρ ⟨c, rfl⟩
            rw [List.length_map, List.length_range, pw_far hp hM (per_dvd hp)]
            exact jx_cons (j_retV (x := .val (tD (far p n))) rfl rfl rfl)
      · rw [if_neg ta] at h
        cases h
        exact j_cons (j_exE (j := 1) (by rw [ev_call (cs := [.val a]) rfl (need_er ha (by simpa using ta))]) rfl)
    · cases h
  · cases h
def m__law_power : Mir
  | [.val a, .val (.int n)] => if turnB a = true then some (.ok (.val (tD (far (nats a) n)))) else none
  | _ => none
def b__law_power : List S := [.asg 2 (.lst []),
  .for_ (.one 3) (.iRng [(.blt bLen [(.var 0)])]) [.asg 4 (.lst [(.var 3)]), .while_ (.op .ne (.ix (.var 0) (.ix (.var 4) (.neg (.cst (.int 1))))) (.var 3)) [.app 4 (.ix (.var 0) (.ix (.var 4) (.neg (.cst (.int 1)))))], .app 2 (.ix (.var 4) (.op .mod (.var 1) (.blt bLen [(.var 4)])))],
  .ret (.blt bTuple [(.var 2)])]
def n__law_power : List Str := ["_law_one", "_law_count", "_law_found", "_law_point", "_law_cycle"]
def farI (p : List Nat) (n : Int) (x : Nat) : List Nat := (List.range x).map fun y => it p y (n.fmod (per p y)).toNat
theorem farI_succ (p : List Nat) (n : Int) (x : Nat) : farI p n (x + 1) = farI p n x ++ [it p x (n.fmod (per p x)).toNat] := by
  unfold farI
  rw [List.range_succ, List.map_append]; rfl
theorem w__law_power : ∀ cs r, m__law_power cs = some r → wps b__law_power (DsOf r) (start0 n__law_power cs) := by
  intro cs r h
  unfold m__law_power at h
  split at h
  · rename_i a n
    split at h
    · rename_i ta
      cases h
      show wps b__law_power _ [.val a, .val (.int n), .un, .un, .un]
      apply of_jps
      obtain ⟨ea, hp, a1, a2⟩ := turn_perm ta
      generalize nats a = p at ea hp a1 a2 ⊢
      subst ea
      refine j_cons (j_asg (x := .own (.lst [])) (ev_lst0 _) rfl ?_)
      have el : ∀ a b c d, ev (.blt bLen [(.var 0)]) [.val (tD p), a, b, c, d] = M.ok (.val (.int p.length)) := fun a b c d => ev_blt (cs := [.val (tD p)]) rfl rfl (len_tD p)
      refine jx_cons (j_for (ev_rng1 (el _ _ _ _) (by omega)) rfl ?_)
      refine for_inv _ (fun x ρ => ∃ c b, ρ = [.val (tD p), .val (.int n), .own (.lst ((farI p n x).map iD)), c, b]) ⟨_, _, rfl⟩ ?_ ?_
      · rintro x d ρ Q hd ⟨c, b, rfl⟩ hQ
        have hx : x < p.length := by
          have := (List.getElem?_eq_some_iff.mp hd).1
          simpa using this
        have hd' : d = iD x := by
          rw [List.getElem?_map, List.getElem?_range hx] at hd
          exact (Option.some.inj hd).symm
        subst hd'
        refine ⟨_, rfl, ?_⟩
        show jps _ _ [.val (tD p), .val (.int n), .own (.lst ((farI p n x).map iD)), .val (iD x), b]
        have hpl := per_le hp hx
        have hpart : ∀ k, (part p x k).length = k := fun k => by unfold part; simp
        have e1 : ev (.lst [(.var 3)]) [.val (tD p), .val (.int n), .own (.lst ((farI p n x).map iD)), .val (iD x), b] = M.ok (.own (.lst [iD x])) := by
          have ea : evs [(.var 3)] [.val (tD p), .val (.int n), .own (.lst ((farI p n x).map iD)), .val (iD x), b] = M.ok [.val (iD x)] := rfl
          simp only [ev]
          rw [ea, M.bind_ok]
          have ek : keepAll [C.val (iD x)] = some [iD x] := rfl
          rw [ek, M.lift_some', M.bind_ok, if_pos (Nat.le_of_lt (sz12 (by simp)))]
        refine j_cons (j_asg e1 rfl ?_)
        have enx : ∀ k c0, 0 < k → ev (.ix (.var 0) (.ix (.var 4) (.neg (.cst (.int 1))))) [.val (tD p), .val (.int n), c0, .val (iD x), .own (.lst ((part p x k).map iD))] = M.ok (.val (iD (it p x k))) := fun k c0 hk => by
          obtain ⟨j, rfl⟩ : ∃ j, k = j + 1 := ⟨k - 1, by omega⟩
          refine ev_ix (x := tD p) (y := iD (it p x j)) rfl (lk (x := .val (iD (it p x j))) (ev_ix (x := .lst ((part p x (j + 1)).map iD)) (y := .int (-1)) rfl rfl ?_)) (ix_turn (it_lt hp hx j))
          rw [part_succ]
          exact ix_last
        refine jx_cons (j_while (fun m ρ => ∃ k, 0 < k ∧ k ≤ per p x ∧ m = per p x - k ∧ ρ = [.val (tD p), .val (.int n), .own (.lst ((farI p n x).map iD)), .val (iD x), .own (.lst ((part p x k).map iD))]) (per p x - 1)
          ⟨1, by omega, per_pos p x, rfl, rfl⟩ ?_)
        rintro m ρ ⟨k, hk0, hk, rfl, rfl⟩
        refine ⟨!decide ((it p x k : Int) = (x : Int)), ev_op (x := iD (it p x k)) (y := iD x) (lk (enx k _ hk0)) rfl (op_ne_int _ _), fun hb Q2 kk => ?_, fun hb => ?_⟩
        · have hne : it p x k ≠ x := fun e => by
            rw [e] at hb
            simp at hb
          have hlt : k < per p x := by
            apply Nat.lt_of_le_of_ne hk
            intro e
            subst e
            exact hne (it_per hp hx)
          refine j_cons (j_app (xs := (part p x k).map iD) (d := iD (it p x k)) rfl (kp (enx k _ hk0)) (by rw [List.length_map, hpart]; exact sz12 (by omega)) ?_)
          refine jx_nil (kk (per p x - (k + 1)) _ (by omega) ⟨k + 1, by omega, hlt, rfl, ?_⟩)
          show [C.val (tD p), C.val (.int n), C.own (O.lst ((farI p n x).map iD)), C.val (iD x), C.own (O.lst ((part p x k).map iD ++ [iD (it p x k)]))] = _
          rw [part_succ, List.map_append]
          rfl
        · have heq : it p x k = x := by
            simp only [Bool.not_eq_false', decide_eq_true_eq] at hb
            omega
          have hkp : k = per p x := by
            apply Classical.byContradiction
            intro hne
            exact it_min hp hx hk0 (by omega) heq
          subst hkp
          have hpp := per_pos p x
          have hm0 := Int.fmod_nonneg_of_pos n (show (0 : Int) < (per p x : Int) by omega)
          have hm1 := Int.fmod_lt_of_pos n (show (0 : Int) < (per p x : Int) by omega)
          have emod : ∀ c0, ev (.op .mod (.var 1) (.blt bLen [(.var 4)])) [.val (tD p), .val (.int n), c0, .val (iD x), .own (.lst ((part p x (per p x)).map iD))] = M.ok (.val (iD (n.fmod (per p x)).toNat)) := fun c0 => by
            refine ev_op (x := .int n) (y := .int (per p x)) rfl (lk (ev_blt (cs := [.bor (.lst ((part p x (per p x)).map iD))]) (z := .val (.int (per p x))) rfl rfl ?_)) ?_
            · show some (C.val (.int (((part p x (per p x)).map iD).length : Nat))) = _
              rw [List.length_map, hpart]
            · rw [op_mod (by omega)]
              unfold iD
              rw [Int.toNat_of_nonneg hm0]
          have hlt : (n.fmod (per p x)).toNat < per p x := by omega
          refine jx_cons (j_app (xs := (farI p n x).map iD) (d := iD (it p x (n.fmod (per p x)).toNat)) rfl (kp (ev_ix (x := .lst ((part p x (per p x)).map iD)) (y := iD (n.fmod (per p x)).toNat) rfl (lk (emod _)) ?_)) ?_ ?_)
          · refine atI_nat ?_
            unfold part
            rw [List.getElem?_map, List.getElem?_map, List.getElem?_range hlt]
            rfl
          · rw [List.length_map]
            unfold farI
            rw [List.length_map, List.length_range]
            exact sz12 (by omega)
          · refine jx_nil (hQ _ ⟨.val (iD x), .own (.lst ((part p x (per p x)).map iD)), ?_⟩)
            rw [farI_succ, List.map_append]
            rfl
      · rintro ρ ⟨c, b, rfl⟩
        rw [List.length_map, List.length_range]
        exact jx_cons (j_ret (ev_blt (cs := [.bor (.lst ((farI p n p.length).map iD))]) (z := .val (tD (far p n))) rfl rfl rfl) rfl rfl)
    · cases h
  · cases h
end K02

set_option Elab.async false
set_option linter.all false
set_option autoImplicit false
set_option maxRecDepth 100000
set_option maxHeartbeats 4000000
/-! VS: equations by which a pure proof is reckoned on (for simp only). -/
namespace VS
open PySem L2
def ifP (d : D) (p q : Prop) : Prop := match d with
  | .bl true => p
  | .bl false => q
  | _ => False
theorem ifP_b {b : Bool} {p q : Prop} : ifP (.bl b) p q = ((b = true → p) ∧ (b = false → q)) := by
  cases b <;> simp [ifP]
def iteM {α : Type} (d : D) (x y : M α) : M α := match d with
  | .bl true => x
  | .bl false => y
  | _ => none
theorem iteM_t {α : Type} {x y : M α} : iteM (.bl true) x y = x := rfl
theorem iteM_f {α : Type} {x y : M α} : iteM (.bl false) x y = y := rfl
def vr : Option C → M C
  | some .un => none
  | some c => .ok c.rd
  | none => none
theorem vr_val {d : D} : vr (some (.val d)) = M.ok (.val d) := rfl
theorem vr_own {o : O} : vr (some (.own o)) = M.ok (.lon o) := rfl
theorem vr_bor {o : O} : vr (some (.bor o)) = M.ok (.bor o) := rfl
def fldM (c : Nat) (f : Str) : D → M C
  | .ins c' ns vs => if c' = c then (M.lift (findK ns vs f)).bind fun d => .ok (.val d) else none
  | _ => none
def methM (c : Nat) (nm : Str) (m : Mir) (as : M (List C)) : D → M C
  | .ins c' ns vs => if c' = c ∧ nm ∉ ns then as.bind fun cs => m (.val (.ins c' ns vs) :: cs) else none
  | _ => none
def negM : D → M C
  | .int i => .ok (.val (.int (-i)))
  | _ => none
def notM : D → M C
  | .bl b => .ok (.val (.bl !b))
  | _ => none
def chM (x : M D) (f : D → Option C) : C → M C
  | .val (.bl true) => x.bind fun z => M.lift (f z)
  | .val (.bl false) => .ok (.val (.bl false))
  | _ => none
def lcM (x : M (List D)) (F : D → M (Option D)) : M C := x.bind fun ds => match VS.collect F ds with
  | some (.ok ys) => if ys.length ≤ sizeLine then .ok (.own (.lst ys)) else none
  | _ => none
def szM (n : Nat) (c : C) : M C := if n ≤ sizeLine then .ok c else none
def szO (n : Nat) (c : C) : Option C := if n ≤ sizeLine then some c else none
def collA {α : Type} (f : α → M (Option D)) : List α → M (List D)
  | [] => .ok []
  | d :: ds => (f d).bind fun o => (collA f ds).bind fun rest => .ok (match o with | some y => y :: rest | none => rest)
def lcA {α : Type} (l : List α) (F : α → M (Option D)) : M C := match collA F l with
  | some (.ok ys) => if ys.length ≤ sizeLine then .ok (.own (.lst ys)) else none
  | _ => none
def cvM (fs : List (Nat × Mir)) (as : M (List C)) : Option C → M C
  | some (.val (.glb n)) => match fs.lookup n with
    | some m => as.bind m
    | none => none
  | _ => none
def rvM : D → M C
  | .lst xs => .ok (.own (.lst xs.reverse))
  | _ => none
def d1M (y : D) : Option Key → M C
  | some kk => .ok (.own (.dK [kk] [y]))
  | none => none
def g2M (k x : M D) : D → M C
  | .dK ks vs => k.bind fun i => x.bind fun z => match keyD i with
      | some kk => .ok (.val ((findK ks vs kk).getD z))
      | none => none
  | _ => none
def revRM : D → M C
  | .int b => if bnd62 b then .ok (.own (.lst (rngC (b - 1) (-1) b.toNat))) else none
  | _ => none
def strM : D → M C
  | .str z => .ok (.own (.lst (z.cps.toList.map fun c => .str ⟨#[c]⟩)))
  | _ => none
def mthM (b : Mth) (as : M (List C)) (x : D) : M C := if b.ty x = false then none else as.bind fun cs => (M.lift (lookAll cs)).bind fun ds => M.lift (b.f x ds)
section
variable {ρ : List C} {a b c e : E} {P : Ds} {es : List E}
theorem collect_A {α : Type} (f : α → D) (F : D → M (Option D)) : ∀ l : List α, VS.collect F (l.map f) = collA (fun a => F (f a)) l
  | [] => rfl
  | x :: l => by
    rw [List.map_cons]
    simp only [VS.collect, collA]
    rw [collect_A f F l]
    all_goals rfl
theorem lc_map {α : Type} {l : List α} {f : α → D} {F : D → M (Option D)} : lcM (M.ok (l.map f)) F = lcA l fun a => F (f a) := by
  show (match VS.collect F (l.map f) with | some (.ok ys) => if ys.length ≤ sizeLine then M.ok (C.own (O.lst ys)) else none | _ => none) = _
  rw [collect_A]; rfl
def lcF : M (List D) → M C
  | some (.ok ys) => szM ys.length (.own (.lst ys))
  | _ => none
def consO : Option D → List D → List D
  | some y, l => y :: l
  | none, l => l
theorem consO_s {y : D} {l : List D} : consO (some y) l = y :: l := rfl
theorem consO_n {l : List D} : consO none l = l := rfl
theorem lc_lit {d : D} {ds : List D} {F : D → M (Option D)} : lcM (M.ok (d :: ds)) F = lcF (VS.collect F (d :: ds)) := by
  show (match VS.collect F (d :: ds) with | some (.ok ys) => if ys.length ≤ sizeLine then M.ok (C.own (O.lst ys)) else none | _ => none) = _
  cases VS.collect F (d :: ds) with
  | none => rfl
  | some r => cases r <;> rfl
theorem lcF_ok {ys : List D} : lcF (M.ok ys) = szM ys.length (.own (.lst ys)) := rfl
theorem col_cons {d : D} {ds : List D} {F : D → M (Option D)} : VS.collect F (d :: ds) = (F d).bind fun o => (VS.collect F ds).bind fun rest => .ok (consO o rest) := by
  simp only [VS.collect]
  congr 1; funext o; congr 1; funext rest
  cases o <;> rfl
theorem col_nil {F : D → M (Option D)} : VS.collect F [] = M.ok [] := rfl
theorem lc_lit0 {F : D → M (Option D)} : lcM (M.ok []) F = M.ok (.own (.lst [])) := rfl
/-- how a comprehension over l goes, item by item -/
theorem lcA_cons {α : Type} (F : α → M (Option D)) (g : α → Option D) : ∀ (l : List α), (∀ a ∈ l, F a = M.ok (g a)) → collA F l = M.ok (l.filterMap g)
  | [], _ => rfl
  | x :: l, h => by
    simp only [collA]
    rw [h x List.mem_cons_self, M.bind_ok, lcA_cons F g l fun a ha => h a (List.mem_cons_of_mem _ ha), M.bind_ok, List.filterMap_cons]
    cases g x <;> rfl
theorem collA_congr {α : Type} {F F' : α → M (Option D)} : ∀ {l : List α}, (∀ a, a ∈ l → F a = F' a) → collA F l = collA F' l
  | [], _ => rfl
  | x :: l, h => by
    simp only [collA]
    rw [h x List.mem_cons_self, collA_congr fun a ha => h a (List.mem_cons_of_mem _ ha)]
theorem lcA_some {α : Type} {l : List α} {g : α → D} : lcA l (fun a => M.ok (some (g a))) = szM l.length (.own (.lst (l.map g))) := by
  unfold lcA szM
  rw [lcA_cons (fun a => M.ok (some (g a))) (fun a => some (g a)) l fun a _ => rfl]
  rw [List.filterMap_eq_map']
  show (if (l.map g).length ≤ sizeLine then _ else _) = _
  rw [List.length_map]
theorem lcA_if {α : Type} {l : List α} {p : α → Bool} {g : α → D} : lcA l (fun a => M.ok (if p a = true then some (g a) else none)) = szM (l.filter p).length (.own (.lst ((l.filter p).map g))) := by
  unfold lcA szM
  rw [lcA_cons (fun a => M.ok (if p a = true then some (g a) else none)) (fun a => if p a = true then some (g a) else none) l fun a _ => rfl]
  have : l.filterMap (fun a => if p a = true then some (g a) else none) = (l.filter p).map g := by
    induction l with
    | nil => rfl
    | cons x l ih =>
      rw [List.filterMap_cons]
      by_cases h : p x = true
      · rw [if_pos h, List.filter_cons_of_pos h, List.map_cons, ih]
      · rw [if_neg h, List.filter_cons_of_neg h, ih]
  rw [this]
  show (if ((l.filter p).map g).length ≤ sizeLine then _ else _) = _
  rw [List.length_map]
theorem lcA_of {α : Type} {l : List α} {F : α → M (Option D)} (g : α → D) (h : ∀ a, a ∈ l → F a = M.ok (some (g a))) : lcA l F = szM l.length (.own (.lst (l.map g))) := by
  unfold lcA szM
  rw [lcA_cons F (fun a => some (g a)) l h, List.filterMap_eq_map']
  show (if (l.map g).length ≤ sizeLine then _ else _) = _
  rw [List.length_map]
theorem lcA_ofIf {α : Type} {l : List α} {F : α → M (Option D)} (p : α → Bool) (g : α → D) (h : ∀ a, a ∈ l → F a = M.ok (if p a = true then some (g a) else none)) : lcA l F = szM (l.filter p).length (.own (.lst ((l.filter p).map g))) := by
  unfold lcA
  rw [collA_congr h]
  exact lcA_if
theorem szM_ok {n : Nat} {c : C} (h : n ≤ sizeLine) : szM n c = M.ok c := if_pos h
theorem szO_ok {n : Nat} {c : C} (h : n ≤ sizeLine) : szO n c = some c := if_pos h
theorem szO_lit {n : Nat} {c : C} (h : decide (n ≤ 1000000) = true) : szO n c = some c := if_pos (Nat.le_trans (of_decide_eq_true h) (by decide))
theorem szM_lit {n : Nat} {c : C} (h : decide (n ≤ 1000000) = true) : szM n c = M.ok c := if_pos (Nat.le_trans (of_decide_eq_true h) (by decide))

/-! ### expressions -/
theorem x_var {i : Nat} : ev (.var i) ρ = vr ρ[i]? := by
  simp only [ev]
  cases ρ[i]? with
  | none => rfl
  | some c => cases c <;> rfl
theorem x_cst {d : D} : ev (.cst d) ρ = M.ok (.val d) := by simp only [ev]
theorem x_gl {x : Str} {d : D} : ev (.gl x d) ρ = M.ok (.val d) := by simp only [ev]
theorem x_tup : ev (.tup es) ρ = (evs es ρ).bind fun cs => (M.lift (keepAll cs)).bind fun ds => szM ds.length (.val (.tup ds)) := by simp only [ev]; rfl
theorem x_lst : ev (.lst es) ρ = (evs es ρ).bind fun cs => (M.lift (keepAll cs)).bind fun ds => szM ds.length (.own (.lst ds)) := by simp only [ev]; rfl
theorem x_op {o : Op2} : ev (.op o a b) ρ = (look1 (ev a ρ)).bind fun x => (look1 (ev b ρ)).bind fun y => M.lift (opD o x y) := by simp only [ev]
theorem x_chain {o1 o2 : Op2} : ev (.chain o1 o2 a b c) ρ = (look1 (ev a ρ)).bind fun x => (look1 (ev b ρ)).bind fun y => (M.lift (opD o1 x y)).bind fun r => chM (look1 (ev c ρ)) (fun z => opD o2 y z) r := by
  simp only [ev]
  congr 1
theorem x_neg : ev (.neg a) ρ = (look1 (ev a ρ)).bind negM := by
  simp only [ev]; congr 1
theorem x_not : ev (.not_ a) ρ = (look1 (ev a ρ)).bind notM := by
  simp only [ev]; congr 1
theorem x_and : ev (.and_ a b) ρ = (look1 (ev a ρ)).bind fun x => iteM x (ev b ρ) (M.ok (.val (.bl false))) := by
  simp only [ev]; congr 1
theorem x_or : ev (.or_ a b) ρ = (look1 (ev a ρ)).bind fun x => iteM x (M.ok (.val (.bl true))) (ev b ρ) := by
  simp only [ev]; congr 1
theorem x_ite : ev (.ite c a b) ρ = (look1 (ev c ρ)).bind fun x => iteM x (ev a ρ) (ev b ρ) := by
  simp only [ev]; congr 1
/-- and, or, if: both ways tell -/
theorem iteM_and {p q : Bool} : iteM (.bl p) (M.ok (C.val (.bl q))) (M.ok (C.val (.bl false))) = M.ok (C.val (.bl (p && q))) := by cases p <;> rfl
theorem iteM_or {p q : Bool} : iteM (.bl p) (M.ok (C.val (.bl true))) (M.ok (C.val (.bl q))) = M.ok (C.val (.bl (p || q))) := by cases p <;> rfl
theorem x_ix : ev (.ix a b) ρ = (look1 (ev a ρ)).bind fun x => (look1 (ev b ρ)).bind fun y => (M.lift (ixD x y)).bind fun d => .ok (.val d) := by simp only [ev]
theorem x_sl : ev (.sl a b c) ρ = (look1 (ev a ρ)).bind fun x => (if b.isNop then .ok none else (look1 (ev b ρ)).bind partO).bind fun l =>
      (if c.isNop then .ok none else (look1 (ev c ρ)).bind partO).bind fun h => M.lift (slD x l h) := by simp only [ev]
theorem x_rev : ev (.rev a) ρ = (look1 (ev a ρ)).bind rvM := by
  simp only [ev]; congr 1
theorem x_lc {t : Tgt} {it elt : E} {cs : List E} : ev (.lc t it cs elt) ρ = lcM ((ev it ρ).bind seqC) (turnD t cs elt ρ) := by
  simp only [ev]; rfl
theorem x_turn {t : Tgt} {cs : List E} {elt : E} {d : D} : turnD t cs elt ρ d = (M.lift (bindT t d (wipeC ρ t.slots))).bind fun ρ' => (evCond cs ρ').bind fun b => iteM (.bl b) ((keep1 (ev elt ρ')).bind fun y => M.ok (some y)) (M.ok none) := by
  unfold turnD
  cases bindT t d (wipeC ρ t.slots) with
  | none => rfl
  | some ρ' =>
    show (evCond cs ρ').bind _ = (evCond cs ρ').bind _
    congr 1; funext b; cases b <;> rfl
theorem iteM_opt {p : Bool} {y : D} : iteM (.bl p) (M.ok (some y)) (M.ok none) = M.ok (if p = true then some y else none) := by cases p <;> rfl
theorem x_c0 : evCond [] ρ = M.ok true := by simp only [evCond]
def tstM : D → M Bool
  | .bl b => .ok b
  | _ => none
theorem x_c1 : evCond [a] ρ = (look1 (ev a ρ)).bind tstM := by
  simp only [evCond]; congr 1; funext x; cases x <;> first | rfl | (rename_i b; cases b <;> rfl)
theorem x_call {nm : Str} {m : Mir} : ev (.call nm m es) ρ = (evs es ρ).bind m := by simp only [ev]
theorem x_make {k : Nat} {nm : Str} {m : Mir} : ev (.make k nm m es) ρ = (evs es ρ).bind m := by simp only [ev]
theorem x_meth {k : Nat} {nm : Str} {m : Mir} {o : E} : ev (.meth k nm m o es) ρ = (look1 (ev o ρ)).bind (methM k nm m (evs es ρ)) := by
  simp only [ev]; congr 1
theorem x_blt {bl : Blt} : ev (.blt bl es) ρ = (evs es ρ).bind fun cs => (M.lift (lookAll cs)).bind fun ds => M.lift (bl.f ds) := by simp only [ev]
theorem x_mth {bl : Mth} {o : E} : ev (.mth bl o es) ρ = (look1 (ev o ρ)).bind (mthM bl (evs es ρ)) := by simp only [ev]; rfl
theorem x_fld {k : Nat} {o : E} {f : Str} : ev (.fld k o f) ρ = (look1 (ev o ρ)).bind (fldM k f) := by
  simp only [ev]; congr 1
theorem x_isi {ks : List Kls} : ev (.isi a ks) ρ = (look1 (ev a ρ)).bind fun x => (M.lift (isAny x ks)).bind fun b => .ok (.val (.bl b)) := by simp only [ev]
theorem x_lstR {t : Bool} : ev (.lstR t b) ρ = (look1 (ev b ρ)).bind fun y => M.lift (rngV t (.int 0) y) := by simp only [ev]
theorem x_lstR2 {t : Bool} : ev (.lstR2 t a b) ρ = (look1 (ev a ρ)).bind fun x => (look1 (ev b ρ)).bind fun y => M.lift (rngV t x y) := by simp only [ev]
theorem x_dK : ev .dnewK ρ = M.ok (.own (.dK [] [])) := by simp only [ev]
theorem x_d1 : ev (.dict1 a b) ρ = (look1 (ev a ρ)).bind fun x => (keep1 (ev b ρ)).bind fun y => d1M y (keyD x) := by
  simp only [ev]; congr 1
theorem x_g2 : ev (.dget2 a b c) ρ = (look1 (ev a ρ)).bind (g2M (look1 (ev b ρ)) (keep1 (ev c ρ))) := by
  simp only [ev]; congr 1
theorem x_spec {s : Spc} : ev (.spec s es) ρ = (evs es ρ).bind fun cs => M.lift (s.f cs) := by simp only [ev]
theorem x_callV {i : Nat} {fs : List (Nat × Mir)} : ev (.callV i fs es) ρ = cvM fs (evs es ρ) ρ[i]? := by
  simp only [ev]
  cases ρ[i]? with
  | none => rfl
  | some x => cases x with
    | val d => cases d <;> rfl
    | _ => rfl
theorem x_rng : ev (.iRng es) ρ = (evs es ρ).bind fun cs => (M.lift (lookAll cs)).bind fun ds => (M.lift (rngArgs ds)).bind fun xs => .ok (.own (.lst xs)) := by simp only [ev]
theorem x_enum : ev (.iEnum e) ρ = ((ev e ρ).bind seqC).bind fun xs => .ok (.own (.lst (enumD xs))) := by simp only [ev]
theorem x_revR : ev (.iRevR b) ρ = (look1 (ev b ρ)).bind revRM := by
  simp only [ev]; congr 1
theorem x_str : ev (.iStr a) ρ = (look1 (ev a ρ)).bind strM := by
  simp only [ev]; congr 1
theorem x_evs0 : evs [] ρ = M.ok [] := by simp only [evs]
theorem x_evs1 : evs (e :: es) ρ = (ev e ρ).bind fun c => (M.lift c.arg).bind fun a => (evs es ρ).bind fun cs => .ok (a :: cs) := by simp only [evs]
theorem x_esp {b : ESp} : ev (.esp b) ρ = b.ev ρ := by simp only [ev]
/-! ### what is read, kept -/
theorem k_lv {d : D} : look1 (M.ok (.val d)) = M.ok d := rfl
theorem k_lo {o : O} : look1 (M.ok (.own o)) = M.ok o.frz := rfl
theorem k_lb {o : O} : look1 (M.ok (.bor o)) = M.ok o.frz := rfl
theorem k_ll {o : O} : look1 (M.ok (.lon o)) = M.ok o.frz := rfl
theorem k_le {k : Nat} : look1 (some (.error k)) = some (.error k) := rfl
theorem k_kv {d : D} : keep1 (M.ok (.val d)) = M.ok d := rfl
theorem k_ko {o : O} : keep1 (M.ok (.own o)) = M.ok o.frz := rfl
theorem k_ke {k : Nat} : keep1 (some (.error k)) = some (.error k) := rfl
theorem k_f1 {xs : List D} : O.frz (.lst xs) = .lst xs := rfl
theorem k_f2 {ks : List Key} {vs : List D} : O.frz (.dK ks vs) = .dK ks vs := rfl
theorem k_av {d : D} : C.arg (.val d) = some (.val d) := rfl
theorem k_ao {o : O} : C.arg (.own o) = some (.val o.frz) := rfl
theorem k_ab {o : O} : C.arg (.bor o) = some (.bor o) := rfl
theorem k_al {o : O} : C.arg (.lon o) = some (.bor o) := rfl
theorem k_sv {d : D} : C.st (.val d) = some (.val d) := rfl
theorem k_so {o : O} : C.st (.own o) = some (.own o) := rfl
theorem k_la0 : lookAll [] = some [] := rfl
theorem k_la1 {d : D} {cs : List C} : lookAll (.val d :: cs) = (lookAll cs).map (d :: ·) := by
  simp only [lookAll]; cases lookAll cs <;> rfl
theorem k_la2 {o : O} {cs : List C} : lookAll (.bor o :: cs) = (lookAll cs).map (o.frz :: ·) := by
  simp only [lookAll]; cases lookAll cs <;> rfl
theorem k_ka0 : keepAll [] = some [] := rfl
theorem k_ka1 {d : D} {cs : List C} : keepAll (.val d :: cs) = (keepAll cs).map (d :: ·) := by
  simp only [keepAll]; cases keepAll cs <;> rfl
theorem k_sq1 {xs : List D} : seqC (.val (.lst xs)) = M.ok xs := rfl
theorem k_sq2 {xs : List D} : seqC (.val (.tup xs)) = M.ok xs := rfl
theorem k_sq3 {xs : List D} : seqC (.own (.lst xs)) = M.ok xs := rfl
theorem k_sq4 {xs : List D} : seqC (.bor (.lst xs)) = M.ok xs := rfl
theorem k_sq5 {xs : List D} : seqC (.lon (.lst xs)) = none := rfl
theorem k_er {k : Nat} {α β : Type} {f : α → M β} : M.bind (some (.error k)) f = some (.error k) := rfl
theorem k_r1 {α : Type} {a : α} {er : Nat → Prop} {ok : α → Prop} : run1 (M.ok a) er ok = ok a := rfl
theorem k_r2 {α : Type} {k : Nat} {er : Nat → Prop} {ok : α → Prop} : run1 (some (.error k)) er ok = er k := rfl
theorem k_o1 {α : Type} {a : α} {q : α → Prop} : optP (some a) q = q a := rfl
theorem k_b1 {i : Nat} {d : D} : bindT (.one i) d ρ = some (ρ.set i (.val d)) := rfl
theorem k_b2 {i j : Nat} {x y : D} : bindT (.tup [i, j]) (.tup [x, y]) ρ = some ((ρ.set i (.val x)).set j (.val y)) := rfl
theorem k_b3 {i j k : Nat} {x y z : D} : bindT (.tup [i, j, k]) (.tup [x, y, z]) ρ = some (((ρ.set i (.val x)).set j (.val y)).set k (.val z)) := rfl
theorem k_b4 {i j : Nat} {x y : D} : bindT (.tup [i, j]) (.lst [x, y]) ρ = some ((ρ.set i (.val x)).set j (.val y)) := rfl
theorem k_w0 : wipeC ρ [] = ρ := rfl
theorem k_w1 {v : Nat} {vs : List Nat} : wipeC ρ (v :: vs) = (wipeC ρ vs).set v .un := rfl
theorem k_ts1 {i : Nat} : Tgt.slots (.one i) = [i] := rfl
theorem k_ts2 {is : List Nat} : Tgt.slots (.tup is) = is := rfl
theorem k_ch1 {x : M D} {f : D → Option C} : chM x f (.val (.bl true)) = x.bind fun z => M.lift (f z) := rfl
theorem k_ch2 {x : M D} {f : D → Option C} : chM x f (.val (.bl false)) = M.ok (.val (.bl false)) := rfl
theorem k_ch3 {p q : Bool} {x : M D} {z : D} {f : D → Option C} (hx : x = M.ok z) (hf : f z = some (.val (.bl q))) : chM x f (.val (.bl p)) = M.ok (.val (.bl (p && q))) := by
  subst hx
  cases p
  · rfl
  · show M.lift (f z) = _
    rw [hf]; rfl
theorem k_not {p : Bool} : notM (.bl p) = M.ok (.val (.bl !p)) := rfl
theorem k_neg {i : Int} : negM (.int i) = M.ok (.val (.int (-i))) := rfl
theorem k_tst {p : Bool} : tstM (.bl p) = M.ok p := rfl
theorem k_po {i : Int} : partO (.int i) = M.ok (some i) := rfl
theorem k_n1 : E.isNop .nop = true := rfl
theorem k_n2 {i : Nat} : E.isNop (.var i) = false := rfl
theorem k_n3 {d : D} : E.isNop (.cst d) = false := rfl
theorem k_n4 {o : Op2} : E.isNop (.op o a b) = false := rfl
theorem k_n5 : E.isNop (.neg a) = false := rfl
theorem k_n6 {bl : Blt} : E.isNop (.blt bl es) = false := rfl
theorem k_rv {xs : List D} : rvM (.lst xs) = M.ok (.own (.lst xs.reverse)) := rfl
theorem k_strM {z : Str} : strM (.str z) = .ok (.own (.lst (z.cps.toList.map fun c => .str ⟨#[c]⟩))) := rfl
theorem k_fld {k k' : Nat} {ns : List Str} {vs : List D} {f : Str} : fldM k f (.ins k' ns vs) = if k' = k then (M.lift (findK ns vs f)).bind fun d => .ok (.val d) else none := rfl
theorem k_mth {k k' : Nat} {nm : Str} {m : Mir} {as : M (List C)} {ns : List Str} {vs : List D} : methM k nm m as (.ins k' ns vs) = if k' = k ∧ nm ∉ ns then as.bind fun cs => m (.val (.ins k' ns vs) :: cs) else none := rfl
/-! ### operators -/
theorem o_add {i j : Int} : opD .add (.int i) (.int j) = some (.val (.int (i + j))) := rfl
theorem o_sub {i j : Int} : opD .sub (.int i) (.int j) = some (.val (.int (i - j))) := rfl
theorem o_fdiv {i j : Int} (h : decide (j ≠ 0 ∧ j.natAbs < 1073741824) = true) : opD .fdiv (.int i) (.int j) = some (.val (.int (i.fdiv j))) := by
  show (if _ then _ else _) = _
  rw [if_pos (of_decide_eq_true h)]
theorem o_mod {i j : Int} (h : j ≠ 0) : opD .mod (.int i) (.int j) = some (.val (.int (i.fmod j))) := by
  show (if _ then _ else _) = _
  rw [if_pos h]
theorem o_mulL {i j : Int} (h : decide (-10000000000 < i ∧ i < 10000000000) = true) : opD .mul (.int i) (.int j) = some (.val (.int (i * j))) := by
  have h := of_decide_eq_true h
  show (if _ then _ else _) = _
  have e : (2 : Int) ^ 64 = 18446744073709551616 := by decide
  rw [if_pos (.inl (by rw [e]; omega))]
theorem o_mulR {i j : Int} (h : decide (-10000000000 < j ∧ j < 10000000000) = true) : opD .mul (.int i) (.int j) = some (.val (.int (i * j))) := by
  have h := of_decide_eq_true h
  show (if _ then _ else _) = _
  have e : (2 : Int) ^ 64 = 18446744073709551616 := by decide
  rw [if_pos (.inr (by rw [e]; omega))]
theorem o_lt {i j : Int} : opD .lt (.int i) (.int j) = some (.val (.bl (decide (i < j)))) := rfl
theorem o_le {i j : Int} : opD .le (.int i) (.int j) = some (.val (.bl (decide (i ≤ j)))) := rfl
theorem o_gt {i j : Int} : opD .gt (.int i) (.int j) = some (.val (.bl (decide (j < i)))) := rfl
theorem o_ge {i j : Int} : opD .ge (.int i) (.int j) = some (.val (.bl (decide (j ≤ i)))) := rfl
theorem o_eq {x y : D} : opD .eq x y = (eqD x y).map fun b => .val (.bl b) := by cases x <;> cases y <;> rfl
theorem o_ne {x y : D} : opD .ne x y = (eqD x y).map fun b => .val (.bl !b) := by cases x <;> cases y <;> rfl
theorem o_is {x y : D} : opD .is_ x y = (isD x y).map fun b => .val (.bl b) := by cases x <;> cases y <;> rfl
theorem o_isn {x y : D} : opD .isnot x y = (isD x y).map fun b => .val (.bl !b) := by cases x <;> cases y <;> rfl
theorem o_in {x y : D} : opD .in_ x y = (inD x y).map fun b => .val (.bl b) := by cases x <;> cases y <;> rfl
theorem o_nin {x y : D} : opD .notin x y = (inD x y).map fun b => .val (.bl !b) := by cases x <;> cases y <;> rfl
theorem o_addL {xs ys : List D} : opD .add (.lst xs) (.lst ys) = szO (xs.length + ys.length) (.own (.lst (xs ++ ys))) := rfl
theorem o_addT {xs ys : List D} : opD .add (.tup xs) (.tup ys) = szO (xs.length + ys.length) (.val (.tup (xs ++ ys))) := rfl
theorem o_addS {x y : Str} : opD .add (.str x) (.str y) = szO (x.length + y.length) (.val (.str (x ++ y))) := rfl
theorem k_isE {k j : Nat} {x : Str} : isAny (.err k) [.own j x] = some (sub k j || false) := rfl
theorem k_isV {k : Nat} : isAny (.err k) [.tyValueError] = some (true || false) := rfl
/-! ### statements -/
theorem x_cons {s : S} {ss : List S} : jps (s :: ss) P ρ = jp s { P with nx := jps ss P } ρ := by rw [jps_eq, jp_eq]; rfl
theorem x_nil : jps [] P ρ = P.nx ρ := by rw [jps_eq]; rfl
theorem x_asg {i : Nat} : jp (.asg i e) P ρ = run1 (ev e ρ) (fun k => P.ex k ρ) fun c => optP c.st fun c' => P.nx (ρ.set i c') := by rw [jp_eq]; rfl
theorem x_unp {t : Tgt} : jp (.unp t e) P ρ = run1 (keep1 (ev e ρ)) (fun k => P.ex k ρ) fun d => optP (bindT t d ρ) P.nx := by rw [jp_eq]; rfl
def appP (xs : Option (List D)) (x : M D) (er : Nat → Prop) (q : List D → Prop) : Prop := optP xs fun xs => run1 x er fun d => xs.length < sizeLine ∧ q (xs ++ [d])
theorem appP_1 {xs : List D} {x : M D} {er : Nat → Prop} {q : List D → Prop} : appP (some xs) x er q = run1 x er fun d => xs.length < sizeLine ∧ q (xs ++ [d]) := rfl
theorem x_app {i : Nat} : jp (.app i e) P ρ = appP ((ownAt ρ i).bind O.lstD) (keep1 (ev e ρ)) (fun k => P.ex k ρ) fun ys => P.nx (ρ.set i (.own (.lst ys))) := by rw [jp_eq]; rfl
def lenP (n : Nat) (p : Prop) : Prop := n < sizeLine ∧ p
def ownO : Option C → Option O
  | some (.own o) => some o
  | _ => none
theorem x_ownAt {i : Nat} : ownAt ρ i = ownO ρ[i]? := by
  unfold ownAt
  cases ρ[i]? with
  | none => rfl
  | some c => cases c <;> rfl
theorem ownO_1 {o : O} : ownO (some (.own o)) = some o := rfl
theorem lstD_1 {xs : List D} : O.lstD (.lst xs) = some xs := rfl
theorem dKD_1 {ks : List Key} {vs : List D} : O.dKD (.dK ks vs) = some (ks, vs) := rfl
def extP (xs : Option (List D)) (x : M D) (er : Nat → Prop) (q : List D → Prop) : Prop := optP xs fun xs => run1 x er fun d => match d with
    | .lst ys => xs.length + ys.length ≤ sizeLine ∧ q (xs ++ ys)
    | _ => False
theorem extP_1 {xs ys : List D} {er : Nat → Prop} {q : List D → Prop} : extP (some xs) (M.ok (.lst ys)) er q = (xs.length + ys.length ≤ sizeLine ∧ q (xs ++ ys)) := rfl
theorem x_ext {i : Nat} : jp (.ext i e) P ρ = extP ((ownAt ρ i).bind O.lstD) (keep1 (ev e ρ)) (fun k => P.ex k ρ) fun ys => P.nx (ρ.set i (.own (.lst ys))) := by
  rw [jp_eq]
  simp only [wp, extP]
  all_goals (
    cases (ownAt ρ i).bind O.lstD with
    | none => rfl
    | some xs =>
      show run1 _ _ _ = run1 _ _ _
      congr 1)
theorem x_clr {i : Nat} : jp (.clr i) P ρ = optP ((ownAt ρ i).bind O.lstD) fun _ => P.nx (ρ.set i (.own (.lst []))) := by rw [jp_eq]; rfl
def augP (x : Option C) (y : M D) (er : Nat → Prop) (q : Int → Prop) : Prop := match x with
    | some (.val (.int a)) => run1 y er fun d => match d with
      | .int b => q (a + b)
      | _ => False
    | _ => False
theorem augP_1 {a b : Int} {er : Nat → Prop} {q : Int → Prop} : augP (some (.val (.int a))) (M.ok (.int b)) er q = q (a + b) := rfl
theorem x_augA {i : Nat} : jp (.augA i e) P ρ = augP ρ[i]? (look1 (ev e ρ)) (fun k => P.ex k ρ) fun z => P.nx (ρ.set i (.val (.int z))) := by
  rw [jp_eq]
  simp only [wp]
  cases ρ[i]? with
  | none => rfl
  | some c => cases c with
    | val d => cases d with
      | int a =>
        show run1 _ _ _ = run1 _ _ _
        congr 1
      | _ => rfl
    | _ => rfl
def popP (i j : Nat) (xs ys : Option (List D)) (x : M D) (er : Nat → Prop) (q : List D → List D → Prop) : Prop := optP xs fun xs => optP ys fun ys => run1 x er fun d => match d with
    | .int z => i ≠ j ∧ 0 ≤ z ∧ z < (ys.length : Int) ∧ ys.length ≤ 100000 ∧ xs.length < sizeLine ∧ ∃ y, ys[z.toNat]? = some y ∧ q (xs ++ [y]) (ys.eraseIdx z.toNat)
    | _ => False
theorem popP_1 {i j : Nat} {xs ys : List D} {z : Int} {er : Nat → Prop} {q : List D → List D → Prop} : popP i j (some xs) (some ys) (M.ok (.int z)) er q = (i ≠ j ∧ 0 ≤ z ∧ z < (ys.length : Int) ∧ ys.length ≤ 100000 ∧ xs.length < sizeLine ∧ ∃ y, ys[z.toNat]? = some y ∧ q (xs ++ [y]) (ys.eraseIdx z.toNat)) := rfl
theorem x_apop {i j : Nat} : jp (.apop i j e) P ρ = popP i j ((ownAt ρ i).bind O.lstD) ((ownAt ρ j).bind O.lstD) (look1 (ev e ρ)) (fun k => P.ex k ρ) fun xs ys => P.nx ((ρ.set j (.own (.lst ys))).set i (.own (.lst xs))) := by
  rw [jp_eq]
  simp only [wp, popP]
  all_goals (
    cases (ownAt ρ i).bind O.lstD with
    | none => rfl
    | some xs =>
      cases (ownAt ρ j).bind O.lstD with
      | none => rfl
      | some ys =>
        show run1 _ _ _ = run1 _ _ _
        congr 1)
theorem x_setx {i : Nat} {k : E} : jp (.setx i k e) P ρ = optP (ownAt ρ i) fun o => run1 (keep1 (ev e ρ)) (fun k => P.ex k ρ) fun d => run1 (look1 (ev k ρ)) (fun k => P.ex k ρ) fun x => optP (setO o x d) fun o' => P.nx (ρ.set i (.own o')) := by rw [jp_eq]; rfl
theorem x_frz {i : Nat} : jp (.frz i) P ρ = optP (ownAt ρ i) fun o => P.nx (ρ.set i (.val o.frz)) := by rw [jp_eq]; rfl
theorem x_ret : jp (.ret e) P ρ = run1 (ev e ρ) (fun k => P.ex k ρ) fun c => optP c.st (P.rt · ρ) := by rw [jp_eq]; rfl
theorem x_retV {i : Nat} : jp (.retV i) P ρ = optP (ρ[i]?.bind C.st) (P.rt · ρ) := by rw [jp_eq]; rfl
theorem x_ex : jp (.ex e) P ρ = run1 (ev e ρ) (fun k => P.ex k ρ) fun _ => P.nx ρ := by rw [jp_eq]; rfl
theorem x_ifs {s1 s2 : List S} : jp (.ifs c s1 s2) P ρ = run1 (look1 (ev c ρ)) (fun k => P.ex k ρ) fun d => ifP d (jps s1 P ρ) (jps s2 P ρ) := by
  rw [jp_eq, jps_eq]
  simp only [wp]
  congr 1
theorem x_for {t : Tgt} {body : List S} : jp (.for_ t e body) P ρ = run1 ((ev e ρ).bind seqC) (fun k => P.ex k ρ) fun ds => forW t (jps body) P ds ρ := by rw [jp_eq, jps_eq]; rfl
theorem e_forc {t : Tgt} {body : Ds → List C → Prop} {d : D} {ds : List D} : forW t body P (d :: ds) ρ = optP (bindT t d ρ) (body { P with nx := forW t body P ds }) := by
  simp only [forW]
  cases bindT t d ρ <;> rfl
theorem e_forn {t : Tgt} {body : Ds → List C → Prop} : forW t body P [] ρ = P.nx ρ := rfl
theorem x_raise {k : Nat} {x : Str} : jp (.raise_ k x) P ρ = P.ex k ρ := by rw [jp_eq]; rfl
theorem x_try {es : List Nat} {body : List S} {k n j : Nat} {x : Str} : jp (.tryE es body k x n j) P ρ = jps body { P with ex := fun e ρ' => e ∈ es ∧ if sub e k = true then P.nx ((ρ'.set j (.val (.err e))).set n .un) else P.ex e ρ' } ρ := by rw [jp_eq, jps_eq]; rfl
theorem x_sp {b : SSp} : jp (.sp b) P ρ = b.w P ρ := by rw [jp_eq]; rfl
theorem x_upd {i : Nat} : jp (.upd i e) P ρ = wp (.upd i e) P ρ := by rw [jp_eq]

/-! ### loops -/
/-- over the items f a of l -/
theorem for_map {α : Type} {t : Tgt} {body : Ds → List C → Prop} (l : List α) (f : α → D) (I : Nat → List C → Prop) (h0 : I 0 ρ)
    (step : ∀ i a ρ (Q : List C → Prop), l[i]? = some a → I i ρ → (∀ ρ', I (i + 1) ρ' → Q ρ') → optP (bindT t (f a) ρ) (body { P with nx := Q }))
    (fin : ∀ ρ, I l.length ρ → P.nx ρ) : forW t body P (l.map f) ρ := by
  refine for_inv _ I h0 (fun i d ρ Q hd hI hQ => ?_) fun ρ h => fin ρ (by rwa [List.length_map] at h)
  rw [List.getElem?_map] at hd
  cases ha : l[i]? with
  | none => rw [ha] at hd; cases hd
  | some a =>
    rw [ha] at hd; cases hd
    exact optP_cases (step i a ρ Q ha hI hQ)
/-- over an enumeration of them -/
theorem for_enum {α : Type} {t : Tgt} {body : Ds → List C → Prop} (l : List α) (f : α → D) (I : Nat → List C → Prop) (h0 : I 0 ρ)
    (step : ∀ i a ρ (Q : List C → Prop), l[i]? = some a → I i ρ → (∀ ρ', I (i + 1) ρ' → Q ρ') → optP (bindT t (.tup [.int (i : Nat), f a]) ρ) (body { P with nx := Q }))
    (fin : ∀ ρ, I l.length ρ → P.nx ρ) : forW t body P (enumD (l.map f)) ρ := by
  refine for_inv _ I h0 (fun i d ρ Q hd hI hQ => ?_) fun ρ h => fin ρ (by simpa [enumD] using h)
  unfold enumD at hd
  rw [List.getElem?_mapIdx, List.getElem?_map] at hd
  cases ha : l[i]? with
  | none => rw [ha] at hd; cases hd
  | some a =>
    rw [ha] at hd; cases hd
    exact optP_cases (step i a ρ Q ha hI hQ)
/-- over a count -/
theorem for_cnt {t : Tgt} {body : Ds → List C → Prop} (n : Nat) (f : Nat → D) (I : Nat → List C → Prop) (h0 : I 0 ρ)
    (step : ∀ i ρ (Q : List C → Prop), i < n → I i ρ → (∀ ρ', I (i + 1) ρ' → Q ρ') → optP (bindT t (f i) ρ) (body { P with nx := Q }))
    (fin : ∀ ρ, I n ρ → P.nx ρ) : forW t body P ((List.range n).map f) ρ := by
  refine for_map _ f I h0 (fun i a ρ Q hd hI hQ => ?_) fun ρ h => fin ρ (by rwa [List.length_range] at h)
  have hi : i < n := by have := (List.getElem?_eq_some_iff.mp hd).1; simpa using this
  rw [List.getElem?_range hi] at hd
  cases hd
  exact step i ρ Q hi hI hQ
theorem while_m {body : List S} (I : Nat → List C → Prop) (m0 : Nat) (h0 : I m0 ρ)
    (turn : ∀ m ρ, I m ρ → run1 (look1 (ev c ρ)) (fun k => P.ex k ρ) fun d => ifP d (∀ Q : List C → Prop, (∀ m' ρ', m' < m → I m' ρ' → Q ρ') → jps body { P with nx := Q } ρ) (P.nx ρ)) : jp (.while_ c body) P ρ := by
  rw [jps_eq] at turn; rw [jp_eq]
  simp only [wp]
  refine ⟨I, ⟨m0, h0⟩, fun m ρ hI => ?_⟩
  have t := turn m ρ hI
  rcases run1_cases t with ⟨d, e, h⟩ | ⟨k, e, h⟩
  · rw [e]
    simp only [run1]
    clear e t
    cases d with
    | bl b =>
      cases b with
      | true => exact h _ fun m' ρ' hm hi => ⟨m', hm, hi⟩
      | false => exact h
    | _ => exact h
  · rw [e]; exact h
end
end VS

set_option Elab.async false
set_option linter.all false
set_option autoImplicit false
set_option maxRecDepth 100000
set_option maxHeartbeats 4000000
/-! KX: facts for reckoning on: lists of points, turns. -/
namespace KX
open PySem L2 VS VP K01 K02
theorem big : 1000000 ≤ sizeLine := by decide
theorem fm (x m : Int) (h : 0 < m) : 0 ≤ x.fmod m ∧ x.fmod m < m := ⟨Int.fmod_nonneg_of_pos (b := m) x h, Int.fmod_lt_of_pos (b := m) x h⟩
theorem sz {n : Nat} (h : n ≤ 1000000) : n ≤ sizeLine := Nat.le_trans h (by decide)
theorem szl {n : Nat} (h : n < 1000000) : n < sizeLine := Nat.lt_of_lt_of_le h (by decide)
theorem okds_nat (l : List Nat) : okds (l.map iD) = true := by
  have := okds_ints (l.map fun i : Nat => (i : Int))
  rwa [List.map_map] at this
theorem dpts_nat (l : List Nat) : dpts (l.map iD) ≤ 1 := by
  have := dpts_ints (l.map fun i : Nat => (i : Int))
  rwa [List.map_map] at this
theorem any_ok {x : D} {d : PyData} (hx : okd x = true) (e : toPD x = some d) : ∀ {xs : List D} {ds : List PyData}, okds xs = true → toPDs xs = some ds → ((ds.any fun z => PyData.eqv z d) = true ↔ x ∈ xs)
  | [], ds, _, h2 => by
    simp only [toPDs, Option.some.injEq] at h2
    subst h2
    simp
  | y :: xs, ds, h1, h2 => by
    simp only [okds, Bool.and_eq_true] at h1
    simp only [toPDs] at h2
    split at h2
    · rename_i b bs e1 e2
      cases h2
      rw [List.any_cons, Bool.or_eq_true, any_ok hx e h1.2 e2, eqv_ok h1.1 hx e1 e, List.mem_cons]
      exact or_congr eq_comm Iff.rfl
    · cases h2
theorem inD_lst {x : D} {xs : List D} (hx : okd x = true) (hxs : okds xs = true) (d1 : dpt x ≤ 60) (d2 : dpts xs ≤ 60) : ∃ k, inD x (.lst xs) = some k ∧ (k = true ↔ x ∈ xs) := by
  obtain ⟨y, e1, s1⟩ := shp_ok hx (by omega)
  obtain ⟨z, e2, s2⟩ := shp_ok (d := .lst xs) (by simpa only [okd] using hxs) (by simp only [dpt]; omega)
  simp only [toPD] at e2
  cases e3 : toPDs xs with
  | none => rw [e3] at e2; cases e2
  | some ys =>
    rw [e3] at e2
    cases e2
    refine ⟨_, ?_, any_ok hx e1 hxs e3⟩
    simp only [inD, s1, s2]
theorem f_in (i : Nat) (l : List Nat) : inD (.int (i : Nat)) (.lst (l.map iD)) = some (decide (i ∈ l)) := by
  obtain ⟨k, h1, h2⟩ := inD_lst (x := iD i) (xs := l.map iD) rfl (okds_nat l) (by simp [dpt, iD]) (by have := dpts_nat l; omega)
  rw [show (D.int (i : Nat)) = iD i from rfl, h1]
  congr 1
  rw [Bool.eq_iff_iff, h2, decide_eq_true_iff, List.mem_map]
  constructor
  · rintro ⟨j, hj, e⟩
    have := D.int.inj e
    have : j = i := by omega
    exact this ▸ hj
  · exact fun h => ⟨i, h, rfl⟩
theorem f_lenL {xs : List D} : bLen.f [.lst xs] = some (.val (.int (xs.length : Nat))) := rfl
theorem f_lenT {xs : List D} : bLen.f [.tup xs] = some (.val (.int (xs.length : Nat))) := rfl
theorem f_lenD {ks : List Key} {vs : List D} : bLen.f [.dK ks vs] = some (.val (.int (ks.length : Nat))) := rfl
theorem f_tupL {xs : List D} : bTuple.f [.lst xs] = some (.val (.tup xs)) := rfl
theorem f_tupT {xs : List D} : bTuple.f [.tup xs] = some (.val (.tup xs)) := rfl
theorem f_lstL {xs : List D} : bList.f [.lst xs] = some (.own (.lst xs)) := rfl
theorem f_lstT {xs : List D} : bList.f [.tup xs] = some (.own (.lst xs)) := rfl
theorem e_max {i j : Int} : bMax.f [.int i, .int j] = some (.val (.int (if j > i then j else i))) := rfl
theorem f_min {i j : Int} : bMin.f [.int i, .int j] = some (.val (.int (if j < i then j else i))) := rfl
theorem f_rng {n : Nat} (h : n ≤ 100000) : rngArgs [.int (n : Nat)] = some ((List.range n).map iD) := by
  have hb : bnd62 (n : Int) = true := by
    simp only [bnd62, Bool.and_eq_true, decide_eq_true_eq]
    have : (2 : Int) ^ 62 = 4611686018427387904 := by decide
    omega
  simp only [rngArgs]
  rw [if_pos hb, rngD_nat]
theorem f_rng2 {m n : Nat} (h : m ≤ 100000 ∧ n ≤ 100000) : rngArgs [.int (m : Nat), .int (n : Nat)] = some ((List.range (n - m)).map fun i => .int ((m + i : Nat) : Int)) := by
  have hb : ∀ k : Nat, k ≤ 100000 → bnd62 (k : Int) = true := fun k hk => by
    simp only [bnd62, Bool.and_eq_true, decide_eq_true_eq]
    have : (2 : Int) ^ 62 = 4611686018427387904 := by decide
    omega
  simp only [rngArgs]
  rw [if_pos (by rw [hb _ h.1, hb _ h.2]; rfl)]
  unfold rngD
  congr 1
  have : ((n : Int) - (m : Int)).toNat = n - m := by omega
  rw [this]
  refine List.map_congr_left fun i _ => ?_
  simp
theorem f_lstR {n : Nat} {t : Bool} (h : n ≤ 100000) : rngV t (.int 0) (.int (n : Nat)) = some (if t = true then .val (.tup ((List.range n).map iD)) else .own (.lst ((List.range n).map iD))) := by
  rw [rngV_small t (by omega) (by omega), rngD_nat]
theorem f_eqI (i j : Int) : eqD (.int i) (.int j) = some (decide (i = j)) := eqD_int i j
theorem f_ixT {p : List Nat} {i : Nat} (h : i < p.length) : ixD (.tup (p.map iD)) (.int (i : Nat)) = some (.int (nx p i : Nat)) := ix_turn h
theorem f_ixL {p : List Nat} {i : Nat} (h : i < p.length) : ixD (.lst (p.map iD)) (.int (i : Nat)) = some (.int (nx p i : Nat)) := ix_turn h
theorem f_ix0 {x : D} {xs : List D} : ixD (.lst (x :: xs)) (.int 0) = some x := atI_nat (i := 0) rfl
theorem f_ix0t {x : D} {xs : List D} : ixD (.tup (x :: xs)) (.int 0) = some x := atI_nat (i := 0) rfl
theorem f_ix1t {x y : D} {xs : List D} : ixD (.tup (x :: y :: xs)) (.int 1) = some y := atI_nat (i := 1) rfl
theorem f_ix1 {x y : D} {xs : List D} : ixD (.lst (x :: y :: xs)) (.int 1) = some y := atI_nat (i := 1) rfl
theorem f_last {xs : List D} {x : D} : ixD (.lst (xs ++ [x])) (.int (-1)) = some x := by
  show atI _ _ = _
  unfold atI ixN
  rw [if_neg (by decide), if_pos (by rw [List.length_append]; simp; omega)]
  simp only [Option.bind_some]
  have e : (-1 + ((xs ++ [x]).length : Int)).toNat = xs.length := by rw [List.length_append]; simp; omega
  rw [e, List.getElem?_append_right (Nat.le_refl _)]
  simp
theorem f_isn (d : D) (h : ∀ n, d ≠ .glb n) : isD d .non = some (match d with | .non => true | _ => false) := by
  cases d <;> first | rfl | exact absurd rfl (h _)
theorem f_isE {k : Nat} : isD (.err k) .non = some false := rfl
theorem f_isN : isD .non .non = some true := rfl
theorem f_isI {i : Int} : isD (.int i) .non = some false := rfl
theorem f_isT {l : List D} : isD (.tup l) .non = some false := rfl
theorem f_isB {a b : Bool} : isD (.bl a) (.bl b) = some (decide (a = b)) := rfl
theorem f_tt {l : List D} : isAny (.tup l) [.tyTup] = some (true || false) := rfl
theorem f_tl {l : List D} : isAny (.lst l) [.tyLst] = some (true || false) := rfl
theorem f_ib {i : Int} : isAny (.int i) [.tyBool] = some (false || false) := rfl
theorem f_ii {i : Int} : isAny (.int i) [.tyInt] = some (true || false) := rfl
theorem f_ts {z : Str} : isAny (.str z) [.tyStr] = some (true || false) := rfl
/-- a call as it is reckoned on -/
theorem f_mixed {c k : Int} (h : 0 ≤ k ∧ k ≤ 1000) : m__law_mixed [.val (.int c), .val (.int k)] = M.ok (.val (.int (mixed c k))) := by
  exact mixed_call (by omega) (by omega)
end KX

set_option Elab.async false
set_option linter.all false
set_option autoImplicit false
set_option maxRecDepth 100000
set_option maxHeartbeats 4000000
/-! VS: defs of the module, put together. -/
namespace VS
open PySem L2
/-- a def of the module, as its text has left it -/
structure DefT (K : PySem.W.Frag) (mg : Str → Option Value) (x : Str) (st : Stmt) (ps : List Str) : Prop where
  ex : ∃ f fd, mg x = some (.ref f) ∧ Fun K x x st f fd ∧ Binds K fd ps []
/-- .. and its promise, k deep -/
structure DefOk (P : Program) (w : World) (K : PySem.W.Frag) (mg : Str → Option Value) (base : Heap) (G : Ctx) (k : Nat) (x : Str) (ps : List Str) (m : Mir) : Prop where
  ex : ∃ f fd, mg x = some (.ref f) ∧ PySem.W.keepIn K (.ref f) = true ∧ Binds K fd ps [] ∧ FnOk P w K mg base (L2.CX P w) k f fd ps (spM G m)
section
variable {P : Program} {w : World} {K : PySem.W.Frag} {mg : Str → Option Value} {base : Heap} {G : Ctx}
theorem DefOk.ref {k k' : Nat} {x : Str} {ps : List Str} {m : Mir} (d : DefOk P w K mg base G k x ps m) (hk : k ≤ k') {X : Cx} (h1 : X.prog = P) (h2 : X.w = w) (h3 : X.K = K) (h4 : X.mg = mg) (h5 : X.base = base) (hr : Room k' X.A) : RefOk G X (.fn x m) := by
  obtain ⟨f, fd, a1, a2, a3, a4⟩ := d.ex
  subst h1; subst h2; subst h3; subst h4; subst h5
  exact ⟨k, f, fd, ps, a4, hr.mono hk, a1, a2, a3⟩
theorem def_ok {x : Str} {st : Stmt} {N ps : List Str} {k : Nat} {m : Mir} (ss : List S) (T : DefT K mg x st ps) (Sc : FnScope N ps (defScope st)) (hK : K = G.K) (nb : ∀ x ∈ bltNames, mg x = none)
    (hchk : chkSs N (defScope st) ss (defBody st) = true)
    (hrf : ∀ X : Cx, X.prog = P → X.w = w → X.K = K → X.mg = mg → X.base = base → Room k X.A → ∀ r ∈ refSs ss, RefOk G X r)
    (hex : ∀ X : Cx, X.K = K → X.mg = mg → ∀ r ∈ excSs ss, ExOk G X r)
    (hlen : ∀ cs r, m cs = some r → cs.length = ps.length)
    (hm : ∀ cs r, m cs = some r → wps ss (DsOf r) (start0 N cs)) : DefOk P w K mg base G (k + 1) x ps m := by
  obtain ⟨f, fd, h1, F, hb⟩ := T.ex
  exact ⟨f, fd, h1, F.kp, hb, fn_ok ss F Sc hK nb hchk hrf hex hlen hm⟩
end
end VS

set_option Elab.async false
set_option linter.all false
set_option autoImplicit false
set_option maxRecDepth 100000
set_option maxHeartbeats 4000000
/-! VS: what the written part says of the module's own errors and defs, put together. -/
namespace VS
open PySem L2
abbrev VE : List Value := [.type "ValueError", .type "Exception", .type "BaseException", .type "object"]
theorem tail_has {K : PySem.W.Frag} {bmB : List Value} (T : String) : ∀ {l : List Value}, PySem.W.tailIn K bmB l = true → l.contains (.type T) = bmB.contains (.type T)
  | [], e => by
    unfold PySem.W.tailIn at e
    rw [beq_iff_eq.mp e]
  | v :: r, e => by
    unfold PySem.W.tailIn at e
    rcases Bool.or_eq_true_iff.mp e with q | q
    · rw [beq_iff_eq.mp q]
    · split at q
      · split at q
        · simp only [Bool.and_eq_true, beq_iff_eq] at q
          rw [← tail_has T q.2, List.contains_cons]
          rfl
        · cases q
      · cases q
theorem exc_cls {K : PySem.W.Frag} {C : Addr} {bmB : List Value} {n : String} (q : PySem.W.excIn K C bmB n = true) : ∃ cd bm, PySem.W.clsIn K C = some cd ∧ PySem.W.typeIn K (.ref C) = some (.type "type") ∧ cd.mro = .ref C :: bm ∧ PySem.W.tailIn K bmB bm = true := by
  unfold PySem.W.excIn at q
  split at q
  · rename_i dd cd sl ho
    split at q
    · rename_i C' bm k0 k1 k2 k3 n k5 hm hs
      simp only [Bool.and_eq_true, beq_iff_eq, Bool.not_eq_true'] at q
      obtain ⟨⟨⟨⟨⟨rfl, _⟩, _⟩, h4⟩, _⟩, _⟩ := q
      refine ⟨cd, bm, ?_, ?_, hm, h4⟩
      · unfold PySem.W.clsIn
        rw [ho]
      · unfold PySem.W.typeIn
        simp only [ho]
        rfl
    · cases q
  · cases q
theorem exc_sub {K : PySem.W.Frag} {C : Addr} {bmB : List Value} {n : String} (q : PySem.W.excIn K C bmB n = true) (T : String) : PySem.W.subIn K (.ref C) (.type T) = some (bmB.contains (.type T)) := by
  obtain ⟨cd, bm, h1, _, h2, h3⟩ := exc_cls q
  show PySem.W.mroIn K C (.type T) = _
  unfold PySem.W.mroIn
  rw [h1]
  show (if cd.mro.isEmpty = true then none else some (cd.mro.contains (.type T))) = _
  rw [h2, if_neg (by simp), List.contains_cons, tail_has T h3]
  rfl
theorem kit_ref {K : PySem.W.Frag} {t : Value} {C : Addr} {v : Bool} (hc : (PySem.W.clsIn K C).isSome = true) (ht : PySem.W.typeIn K (.ref C) = some (.type "type")) (hs : PySem.W.subIn K t (.ref C) = some v) (hr : t = .ref C → v = true) : PySem.W.kitOne K t (.ref C) = some v := by
  unfold PySem.W.kitOne
  by_cases h : t = .ref C
  · subst h
    rw [if_pos (by simp), hr rfl]
  · rw [if_neg (by simpa using h)]
    unfold PySem.W.kitCls
    simp only [hc, ht, Bool.true_and]
    rw [if_pos (by rfl), hs]
theorem exm_ref {K : PySem.W.Frag} {cls : Value} {C : Addr} {v : Bool} (hb : PySem.W.subIn K (.ref C) (.type "BaseException") = some true) (hc : (PySem.W.clsIn K C).isSome = true) (ht : PySem.W.typeIn K (.ref C) = some (.type "type")) (hs : PySem.W.subIn K cls (.ref C) = some v) : PySem.W.exmOne K cls (.ref C) = some v := by
  unfold PySem.W.exmOne
  rw [if_pos (by rw [hb]; rfl)]
  unfold PySem.W.kitCls
  simp only [hc, ht, Bool.true_and]
  rw [if_pos (by rfl), hs]
/-- no built-in type that we ask is under an own class -/
def allTy (l : List Value) : Bool := l.all fun v => match v with | .type _ => true | _ => false
theorem allTy_ref {l : List Value} (h : allTy l = true) (C : Addr) : l.contains (.ref C) = false := by
  induction l with
  | nil => rfl
  | cons v r ih =>
    unfold allTy at h
    rw [List.all_cons, Bool.and_eq_true] at h
    rw [List.contains_cons, ih h.2]
    cases v <;> first | rfl | exact absurd h.1 (by simp)
theorem tys_ok : ∀ T ∈ tyNames, ((fastBuiltinMro T).map allTy) = some true := by decide +kernel
theorem ty_not {K : PySem.W.Frag} {T : String} (h : T ∈ tyNames) (C : Addr) : PySem.W.subIn K (.type T) (.ref C) = some false := by
  obtain ⟨l, h1, h2⟩ := Option.map_eq_some_iff.mp (tys_ok T h)
  show (fastBuiltinMro T).map (·.contains (.ref C)) = _
  rw [h1]
  exact congrArg some (allTy_ref h2 C)
theorem ty_int : ∀ T ∈ tyNames, kitB T "int" = some (isTy T .tyInt) := by decide +kernel
theorem ty_bool : ∀ T ∈ tyNames, kitB T "bool" = some (isTy T .tyBool) := by decide +kernel
theorem ty_str : ∀ T ∈ tyNames, kitB T "str" = some (isTy T .tyStr) := by decide +kernel
theorem ty_tup : ∀ T ∈ tyNames, kitB T "tuple" = some (isTy T .tyTup) := by decide +kernel
theorem ty_lst : ∀ T ∈ tyNames, kitB T "list" = some (isTy T .tyLst) := by decide +kernel
theorem ty_dict : ∀ T ∈ tyNames, kitB T "dict" = some (isTy T .tyDict) := by decide +kernel
theorem ty_verr : ∀ T ∈ tyNames, kitB T "ValueError" = some (isTy T .tyValueError) := by decide +kernel
theorem kitMetas : ∀ T ∈ ["int", "bool", "str", "tuple", "list", "dict", "ValueError"], PySem.W.kitMeta T = true := by decide +kernel
theorem kit_et {K : PySem.W.Frag} {C : Addr} (q : PySem.W.excIn K C VE "ValueError.__new__" = true) {T : String} (h : T ∈ ["int", "bool", "str", "tuple", "list", "dict", "ValueError"]) : PySem.W.kitOne K (.ref C) (.type T) = some (VE.contains (.type T)) := by
  unfold PySem.W.kitOne
  rw [if_neg (by simp)]
  show (if PySem.W.kitMeta T = true then PySem.W.subIn K (.ref C) (.type T) else none) = _
  rw [if_pos (kitMetas T h), exc_sub q]
/-- an own error -/
structure ErrF (K : PySem.W.Frag) (mg : Str → Option Value) (x : Str) (C : Addr) : Prop where
  g : mg x = some (.ref C)
  xn : PySem.W.excIn K C VE "ValueError.__new__" = true
  kp : PySem.W.keepIn K (.ref C) = true
  hg : PySem.W.findIn K (.ref C) "__getattribute__" = some (some (.builtin "BaseException.__getattribute__"))
  hk : PySem.W.findIn K (.ref C) "__getattr__" = some none
  hd : PySem.W.hasDictIn K C = true
  ha : PySem.W.findIn K (.ref C) "__class__" = some (some (.builtin "object.__class__"))
/-- the own errors, by number -/
structure ErrsF (K : PySem.W.Frag) (mg : Str → Option Value) (G : Ctx) (nm : Nat → Str) : Prop where
  hn : PySem.W.specialIn K (.builtin "object.__class__") "__get__" = some (some (.builtin "getset_descriptor.__get__"))
  ht : PySem.W.takesIn K (.builtin "object.__class__") = some true
  each : ∀ i ∈ G.errs, ErrF K mg (nm i) (G.cls i)
  subs : ∀ i ∈ G.errs, ∀ j ∈ G.errs, PySem.W.subIn K (.ref (G.cls i)) (.ref (G.cls j)) = some (sub i j)
section
variable {K : PySem.W.Frag} {mg : Str → Option Value} {G : Ctx} {nm : Nat → Str}
theorem ErrF.cl {x : Str} {C : Addr} (e : ErrF K mg x C) : (PySem.W.clsIn K C).isSome = true := by
  obtain ⟨cd, bm, h1, _⟩ := exc_cls e.xn
  rw [h1]
  rfl
theorem ErrF.ty {x : Str} {C : Addr} (e : ErrF K mg x C) : PySem.W.typeIn K (.ref C) = some (.type "type") := by
  obtain ⟨cd, bm, _, h1, _⟩ := exc_cls e.xn
  exact h1
theorem ErrF.sb {x : Str} {C : Addr} (e : ErrF K mg x C) : PySem.W.subIn K (.ref C) (.type "BaseException") = some true := exc_sub e.xn _
theorem ErrsF.exC (E : ErrsF K mg G nm) {i : Nat} (hi : i ∈ G.errs) : ExcC K (G.cls i) :=
  have e := E.each i hi
  ⟨e.hg, e.hk, e.sb, e.hd, e.ha, E.hn, E.ht, exc_sub e.xn "object"⟩
theorem ErrsF.kl (E : ErrsF K mg G nm) {X : Cx} (h1 : X.K = K) (h2 : X.mg = mg) (k : Kls) (hk : ∀ j x, k = .own j x → j ∈ G.errs ∧ x = nm j) : RefOk G X (.kl k) := by
  subst h1; subst h2
  have hb : ∀ T b, (∀ T ∈ tyNames, kitB T b = some (isTy T k)) → T ∈ tyNames → PySem.W.kitOne X.K (.type T) (.type b) = some (isTy T k) := fun T b h hT => kit_ty (h T hT)
  refine ⟨fun c x e => ?_, fun T hT => ?_, fun i hi => ?_, fun i hi => E.exC hi⟩
  · obtain ⟨a, rfl⟩ := hk c x e
    exact (E.each c a).g
  · cases k with
    | tyInt => exact hb T _ ty_int hT
    | tyBool => exact hb T _ ty_bool hT
    | tyStr => exact hb T _ ty_str hT
    | tyTup => exact hb T _ ty_tup hT
    | tyLst => exact hb T _ ty_lst hT
    | tyDict => exact hb T _ ty_dict hT
    | tyValueError => exact hb T _ ty_verr hT
    | own j x =>
      obtain ⟨a, _⟩ := hk j x rfl
      have e := E.each j a
      exact kit_ref e.cl e.ty (ty_not hT _) fun z => by cases z
  · have e := E.each i hi
    cases k with
    | tyInt => exact kit_et e.xn (by decide)
    | tyBool => exact kit_et e.xn (by decide)
    | tyStr => exact kit_et e.xn (by decide)
    | tyTup => exact kit_et e.xn (by decide)
    | tyLst => exact kit_et e.xn (by decide)
    | tyDict => exact kit_et e.xn (by decide)
    | tyValueError => exact kit_et e.xn (by decide)
    | own j x =>
      obtain ⟨a, _⟩ := hk j x rfl
      have e' := E.each j a
      by_cases hc : G.cls i = G.cls j
      · show PySem.W.kitOne X.K (.ref (G.cls i)) (.ref (G.cls j)) = some (sub i j)
        have q1 := E.subs i hi j a
        have q2 := E.subs j a j a
        rw [hc] at q1
        have : sub i j = true := by
          rw [← Option.some.inj (q1.symm.trans q2) |>.symm]
          simp [sub]
        rw [this, hc]
        exact kit_ref e'.cl e'.ty (by rw [q2]; simp [sub]) fun _ => rfl
      · exact kit_ref e'.cl e'.ty (E.subs i hi j a) fun z => absurd (Value.ref.inj z) hc
theorem ErrsF.raise (E : ErrsF K mg G nm) {X : Cx} (h1 : X.K = K) (h2 : X.mg = mg) {k : Nat} {x : Str} (hk : k ∈ G.errs) (hx : x = nm k) : ExOk G X (.raise k x) := by
  subst h1; subst h2; subst hx
  have e := E.each k hk
  exact ⟨e.g, ⟨_, _, _, _, PySem.F.excBase_ValueError, e.xn⟩, e.kp, raises_own e.sb e.ty⟩
theorem ErrsF.catch (E : ErrsF K mg G nm) {X : Cx} (h1 : X.K = K) (h2 : X.mg = mg) {es : List Nat} {k : Nat} {x : Str} (hk : k ∈ G.errs) (hx : x = nm k) (he : ∀ i ∈ es, i ∈ G.errs) : ExOk G X (.catch es k x) := by
  subst h1; subst h2; subst hx
  have e := E.each k hk
  exact ⟨e.g, fun i hi => ⟨he i hi, exm_ref e.sb e.cl e.ty (E.subs i (he i hi) k hk)⟩⟩
end
section
variable {P : Program} {w : World} {K : PySem.W.Frag} {mg : Str → Option Value} {base : Heap} {G : Ctx}
theorem DefOk.held {k k' : Nat} {x : Str} {ps : List Str} {m : Mir} {n : Nat} (d : DefOk P w K mg base G k x ps m) (hg : ∃ f, mg x = some (.ref f) ∧ G.glb n = .ref f) (hk : k ≤ k') {X : Cx} (h1 : X.prog = P) (h2 : X.w = w) (h3 : X.K = K) (h4 : X.mg = mg) (h5 : X.base = base) (hr : Room k' X.A) : RefOk G X (.hd n m) := by
  obtain ⟨f, fd, a1, a2, a3, a4⟩ := d.ex
  obtain ⟨g, b1, b2⟩ := hg
  cases a1.symm.trans b1
  subst h1; subst h2; subst h3; subst h4; subst h5
  exact ⟨k, f, fd, ps, a4, hr.mono hk, b2, a2, a3⟩
theorem gl_held {x : Str} {n : Nat} (hg : ∃ f, mg x = some (.ref f) ∧ G.glb n = .ref f) {X : Cx} (h4 : X.mg = mg) : RefOk G X (.gl x (.glb n)) := by
  obtain ⟨f, b1, b2⟩ := hg
  subst h4
  exact ⟨.ref f, .ref f, b1, rfl, fun H => by simp only [Rep]; exact b2.symm⟩
theorem gl_int {x : Str} {i : Int} (hg : ∃ t, mg x = some (.int i t)) {X : Cx} (h4 : X.mg = mg) : RefOk G X (.gl x (.int i)) := by
  obtain ⟨t, hg⟩ := hg
  subst h4
  exact ⟨.int i t, .int i, hg, ⟨t, rfl⟩, fun H => by simp only [Rep]⟩
theorem gl_str {x : Str} {i : Str} (hg : ∃ t, mg x = some (.str i t)) {X : Cx} (h4 : X.mg = mg) : RefOk G X (.gl x (.str i)) := by
  obtain ⟨t, hg⟩ := hg
  subst h4
  exact ⟨.str i t, .str i, hg, ⟨t, rfl⟩, fun H => by simp only [Rep]⟩
theorem all_nil {α : Type} {p : α → Prop} : ∀ x ∈ ([] : List α), p x := fun _ h => by cases h
theorem all_cons {α : Type} {p : α → Prop} {a : α} {l : List α} (h : p a) (t : ∀ x ∈ l, p x) : ∀ x ∈ a :: l, p x := fun x hx => by
  rcases List.mem_cons.mp hx with rfl | hx
  · exact h
  · exact t x hx
theorem all_app {α : Type} {p : α → Prop} {a l : List α} (h : ∀ x ∈ a, p x) (t : ∀ x ∈ l, p x) : ∀ x ∈ a ++ l, p x := fun x hx => by
  rcases List.mem_append.mp hx with hx | hx
  · exact h x hx
  · exact t x hx
/-- the law's own promise, from its mirror's -/
theorem law_imp {k : Nat} {f : Addr} {fd : FuncData} {ps : List Str} {m : Mir} (F : FnOk P w K mg base (L2.CX P w) k f fd ps (spM G m)) (hK : K = G.K) (hT : G.tabs = []) (hR : G.root = fun _ => none) (hR2 : G.rootS = fun _ => none)
    (hm : ∀ ns : List Int, ns.length ≤ 63 → m [.bor (.lst (ns.map D.int))] = some (.ok (.val (.bl true)))) :
    FnOk P w K mg base (L2.CX P w) k f fd ps (fun vs H Q _ => ∃ (a : Addr) (ns : List Int), vs = [.ref a] ∧ SqL K H a (ns.map V.int) ∧ ns.length ≤ 63 ∧ ∀ H', Q (.bl true) H') := by
  refine F.imp fun vs H Q E ⟨a, ns, hv, hs, hl, hq⟩ => ?_
  subst hK
  refine ⟨H, [.bor (.lst (ns.map D.int))], .ok (.val (.bl true)), by rw [hR, hR2]; exact Stp.zero (Same.refl H), (by rw [hT]; exact fun p hp => by cases hp), ?_, hm ns hl, ?_⟩
  · refine (show ∃ v ws, vs = v :: ws ∧ ArgR G H H (.bor (.lst (ns.map D.int))) v ∧ ArgsR G H H [] ws from ⟨.ref a, [], hv, ?_, rfl⟩)
    refine (show ∃ a vs, V.ref _ = .ref a ∧ SqL G.K H a vs ∧ RepL G H (ns.map D.int) vs from ⟨a, ns.map V.int, rfl, hs, ?_⟩)
    clear hs hq hl hv
    induction ns with
    | nil => simp [RepL]
    | cons n ns ih => exact RepL.cons (by simp only [Rep]) ih
  · intro v H' Hs' st r
    have r : Rep G Hs' (.bl true) v := r
    simp only [Rep] at r
    subst r
    exact hq H'
end
end VS

set_option Elab.async false
set_option linter.all false
set_option autoImplicit false
set_option maxRecDepth 100000
set_option maxHeartbeats 4000000
/-! VS: a law's end. -/
namespace VS
open PySem L2
def spLaw (K : PySem.W.Frag) : Sp := fun vs H Q _ => ∃ (a : Addr) (ns : List Int), vs = [.ref a] ∧ SqL K H a (ns.map V.int) ∧ ns.length ≤ 63 ∧ ∀ H', Q (.bl true) H'
theorem ints_map : ∀ ns : List Int, intsD (ns.map D.int) = some ns
  | [] => rfl
  | n :: ns => by simp only [List.map_cons, intsD, ints_map ns]
theorem walk {k : Nat} {l : PySem.W.OpenLaw} {q : Program} {loose : List Str} {XP : (Str → Option Value) → Heap → Prop} {YP : World → Heap → Prop} {d : DefRec} {K : Params → PySem.W.Frag} (hk : k ≤ 30) (hn : l.most = some 63) (hdf : d.params.defaults = [])
    (hY : ∀ (w : World) (h : Heap), YP w h → (K w.params).In h)
    (F : ∀ (w : World) (mg : Str → Option Value) (fa : Addr) (h : Heap), (K w.params).In h → h.Ns mainGlobals mg → mg d.name = some (.ref fa) →
      ∃ fd : FuncData, (∀ (s : Shared) (u : Value), BindsTo s fd ⟨[u], []⟩ [("_law_script", u)]) ∧ ∀ base : Heap, (K w.params).In base → base.Ns mainGlobals mg → FnOk l.prog w (K w.params) mg base (L2.CX l.prog w) k fa fd ["_law_script"] (spLaw (K w.params))) :
    PySem.W.WalkO q loose XP YP l.row.toRowW d [] (fun f vs => PySem.call f vs) :=
  L2.walk_of (n := 63) (k := k) (x := "_law_script") (CX := fun w => L2.CX l.prog w) (sp := fun w => spLaw (K w.params)) hn (by decide) hdf (Room.mono (k := 30) ⟨rfl, by decide, by decide⟩ hk) hY F (fun _ _ a ns hl _ hS => ⟨a, ns, rfl, hS, hl, fun _ => rfl⟩) fun _ _ _ _ _ z => by
    obtain ⟨_, _, _, _, _, _, _, _, _, _, _, _, e⟩ := z
    exact e
end VS

set_option Elab.async false
set_option linter.all false
set_option autoImplicit false
set_option maxRecDepth 100000
set_option maxHeartbeats 4000000
/-! VS: a class whose __init__ ends in two fields; its methods. -/
namespace VS
open PySem L2
section
variable {G : Ctx} {H0 Hs0 H Hs : Hp} {σ : L2.St} {ρ : List C}
/-- an object beside the shared ones is written -/
theorem ins_nt {C dx : Addr} {fs : List (Str × V)} : ¬ IsTb (.ins C dx fs) := fun ⟨_, z⟩ => by cases z
theorem ins_nc {C dx : Addr} {fs : List (Str × V)} : ∀ c q, HO.ins C dx fs ≠ LamX.CodeO c q := fun c q z => by unfold LamX.CodeO at z; cases z
theorem SR.side (r : SR G H0 Hs0 σ H Hs ρ) {x : Addr} {o u : HO} (h0 : H0 x = none) (hs : Hs x = none) (hu : H x = some u) (nt : ¬ IsTb u) (nc : ∀ c q, u ≠ LamX.CodeO c q) (hn : ∀ (i : Nat) (o' : O), ρ[i]? ≠ some (C.own o')) : SR G H0 Hs0 σ (upd H x o) Hs ρ := by
  have keep : ∀ {F : Hp}, Same F H → F x = none → Same F (upd H x o) := fun {F} s hx a h e => by
    exact (s a h e).upd (fun z => by rw [z, hx] at e; cases e)
  refine ⟨keep r.sh hs, keep r.k0 h0, r.ks, r.fr, r.len, fun i c e => ?_, r.sep, r.tb.trans (.upd hu nt nc), r.tg, r.k00, r.ro.chg (r.k00.free h0) hs hu nt nc⟩
  have q := r.cell i c e
  cases c with
  | un => trivial
  | lon o => exact q.elim
  | val d => exact q
  | bor o => exact q
  | own o' => exact absurd e (hn i o')
end
/-- the context in which number 777 names the thing at x -/
def Ctx.at (G : Ctx) (x : Addr) : Ctx := { G with glb := fun i => if i = 777 then .ref x else G.glb i }
theorem at_777 {G : Ctx} {x : Addr} : (G.at x).glb 777 = .ref x := by simp [Ctx.at]
mutual
/-- data without the module's own things -/
def gfree : D → Bool
  | .glb _ => false
  | .tup xs => gfrees xs
  | .lst xs => gfrees xs
  | .dK _ vs => gfrees vs
  | .dT _ vs => gfrees vs
  | .ins _ _ vs => gfrees vs
  | _ => true
def gfrees : List D → Bool
  | [] => true
  | d :: ds => gfree d && gfrees ds
end
section
variable {G : Ctx} {H : Hp} {x : Addr}
mutual
theorem rep_at : ∀ (d : D) (v : V), gfree d = true → (Rep (G.at x) H d v ↔ Rep G H d v)
  | .non, _, _ => by simp only [Rep]
  | .bl _, _, _ => by simp only [Rep]
  | .int _, _, _ => by simp only [Rep]
  | .str _, _, _ => by simp only [Rep]
  | .tup xs, v, h => by simp only [Rep]; exact exists_congr fun a => exists_congr fun vs => and_congr_right fun _ => and_congr_right fun _ => repL_at xs vs h
  | .lst xs, v, h => by simp only [Rep]; exact exists_congr fun a => exists_congr fun vs => and_congr_right fun _ => and_congr_right fun _ => repL_at xs vs h
  | .dK ks xs, v, h => by simp only [Rep]; exact exists_congr fun a => exists_congr fun vs => and_congr_right fun _ => and_congr_right fun _ => and_congr_right fun _ => repL_at xs vs h
  | .dT ks xs, v, h => by simp only [Rep]; exact exists_congr fun a => exists_congr fun vs => and_congr_right fun _ => and_congr_right fun _ => and_congr_right fun _ => repL_at xs vs h
  | .ins c ks xs, v, h => by simp only [Rep]; exact exists_congr fun a => exists_congr fun dx => exists_congr fun vs => and_congr_right fun _ => and_congr_right fun _ => and_congr_right fun _ => repL_at xs vs h
  | .err _, _, _ => by simp only [Rep]; exact Iff.rfl
  | .glb _, _, h => by cases h
theorem repL_at : ∀ (ds : List D) (vs : List V), gfrees ds = true → (RepL (G.at x) H ds vs ↔ RepL G H ds vs)
  | [], vs, _ => by simp only [RepL]
  | d :: ds, vs, h => by
    simp only [gfrees, Bool.and_eq_true] at h
    simp only [RepL]
    exact exists_congr fun v => exists_congr fun ws => and_congr_right fun _ => and_congr (rep_at d v h.1) (repL_at ds ws h.2)
end
end
/-- what __init__ is promised: the object that was just made, the arguments, what is wished of it -/
def spI (G : Ctx) (m : Mir) (c : Nat) : Sp := fun vs0 H0 Q0 E0 => ∃ (x dx : Addr) (vs : List V) (H : Hp) (Q : VK), vs0 = .ref x :: vs ∧ H x = none ∧ H dx = none ∧ dx ≠ x ∧ H0 = upd (upd H dx (.own x)) x (.ins (G.cls c) dx []) ∧ spM G m vs H Q E0 ∧ ∀ H2, Q (.ref x) H2 → Q0 .non H2
/-- the text: ahead what S says, then two fields of the first slot's thing -/
def initChk (N : List Str) (sc : Scope) (a1 a2 a3 : S) (f1 : Str) (e1 : E) (f2 : Str) (e2 : E) (sts : List Stmt) : Bool := match sts with
  | [t1, t2, t3, .Assign [.Attribute (.Name s1 p1) g1 q1] v1 r1, .Assign [.Attribute (.Name s2 p2) g2 q2] v2 r2] =>
    decide (g1 = f1 ∧ g2 = f2) && nmAt N sc false 0 (.Name s1 p1) && nmAt N sc false 0 (.Name s2 p2) && !(s1 == ("__debug__" : Str)) && !(s2 == ("__debug__" : Str)) && !(s1 == ("__classdict__" : Str)) && !(s2 == ("__classdict__" : Str)) && !compE v1 && !compE v2 && chk N sc 0 e1 v1 && chk N sc 0 e2 v2 &&
      chkS N sc a1 t1 && chkS N sc a2 t2 && chkS N sc a3 t3
  | _ => false
theorem swaps_attr {v : Expr} {t : Expr} {n : Nat} {env : Env} (h : compE v = false) : swapsWith v (some t) n env = pure false := by
  cases v <;> first | rfl | cases h
section
variable {P : Program} {w : World} {K : PySem.W.Frag} {mg : Str → Option Value} {base : Heap}
theorem init_ok {G : Ctx} {qual : Str} {st : Stmt} {f : Addr} {fd : FuncData} {N : List Str} {self a b : Str} {k c : Nat} {m : Mir} (a1 a2 a3 : S) (f1 f2 : Str) (e1 e2 : E) (F : Fun K "__init__" qual st f fd) (Sc : FnScope N [self, a, b] (defScope st)) (hK : K = G.K) (nb : ∀ x ∈ bltNames, mg x = none)
    (hchk : initChk N (defScope st) a1 a2 a3 f1 e1 f2 e2 (defBody st) = true) (cl : Cls K (G.cls c)) (n1 : NoAttr K (G.cls c) f1) (n2 : NoAttr K (G.cls c) f2) (hf : f1 ≠ f2)
    (hrf : ∀ (x : Addr) (X : Cx), X.prog = P → X.w = w → X.K = K → X.mg = mg → X.base = base → Room k X.A → ∀ r ∈ refS a1 ++ (refS a2 ++ (refS a3 ++ (refs e1 ++ refs e2))), RefOk (G.at x) X r)
    (hex : ∀ (x : Addr) (X : Cx), X.K = K → X.mg = mg → ∀ r ∈ excS a1 ++ (excS a2 ++ excS a3), ExOk (G.at x) X r)
    (hlen : ∀ cs r, m cs = some r → ∃ d1 d2, cs = [.val d1, .val d2] ∧ gfree d1 = true ∧ gfree d2 = true)
    (hm : ∀ d1 d2 r, m [.val d1, .val d2] = some r → wps [a1, a2, a3] { nx := fun ρ => ρ[0]? = some (.val (.glb 777)) ∧ (∀ (i : Nat) (o' : O), ρ[i]? ≠ some (C.own o') ∧ ρ[i]? ≠ some (C.bor o')) ∧ ∃ d1 d2, keep1 (ev e1 ρ) = M.ok d1 ∧ keep1 (ev e2 ρ) = M.ok d2 ∧ gfree d1 = true ∧ gfree d2 = true ∧ r = .ok (.val (.ins c [f1, f2] [d1, d2])), rt := fun _ _ => False, ex := fun k _ => r = .error k } (start0 N [.val (.glb 777), .val d1, .val d2])) :
    FnOk P w K mg base (L2.CX P w) (k + 1) f fd [self, a, b] (spI G m c) := by
  refine F.okX Sc (fun vs H Q E ⟨x, dx, vs', H', Q', e, _, _, _, _, ⟨Hs, cs, r, s0, _, ra, e2, _⟩, _⟩ => by
    obtain ⟨d1, d2, rfl, _, _⟩ := hlen cs r e2
    rw [e]; show vs'.length + 1 = 3; rw [← args_len ra]; rfl) fun cdv A outer s Hx vs Q E hr ⟨x, dx, vs', H, Q', evs, hx, hdx, hne, eH, ⟨Hs, cs, r, s0, t0, ra, em, post⟩, fin⟩ => ?_
  obtain ⟨d1, d2, rfl, gf1, gf2⟩ := hlen cs r em
  have hlv := args_len ra
  subst evs
  have xk : XOkS (G.at x) (cxOf (L2.CX P w) P w K mg base N qual (defScope st) f cdv A outer s Hx E) (fun cls d σ H => E cls d H) N (defScope st) :=
    ⟨⟨⟨hK, rfl, Sc.nd, lt_un hr.un⟩, rfl, rfl, nb, takes_of rfl rfl rfl rfl⟩, (by show (if (defScope st).kind.isAnnotationScope then _ else (defScope st).kind) = ScopeKind.function; rw [Sc.kind]; rfl), rfl, rfl, passes_of rfl, fun _ => rfl⟩
  have rf := hrf x (cxOf (L2.CX P w) P w K mg base N qual (defScope st) f cdv A outer s Hx E) rfl rfl rfl rfl rfl hr
  have ex := hex x (cxOf (L2.CX P w) P w K mg base N qual (defScope st) f cdv A outer s Hx E) rfl rfl
  unfold initChk at hchk
  split at hchk
  · rename_i t1 t2 t3 s1 p1 g1 q1 v1 r1 s2 p2 g2 q2 v2 r2 hd
    simp only [Bool.and_eq_true, decide_eq_true_eq, Bool.not_eq_true'] at hchk
    obtain ⟨⟨⟨⟨⟨⟨⟨⟨⟨⟨⟨⟨⟨⟨rfl, rfl⟩, m1⟩, m2⟩, x1⟩, x2⟩, y1⟩, y2⟩, z1⟩, z2⟩, w1⟩, w2⟩, c1⟩, c2⟩, c3⟩ := hchk
    obtain ⟨k1, k2⟩ := nm_kind m1
    obtain ⟨k3, k4⟩ := nm_kind m2
    have vis : ∀ {x : Str}, ((defScope st).names.lookup x = some .local ∨ (false = true ∧ (defScope st).names.lookup x = some .cell)) → Vis (defScope st) x := fun h => by
      rcases h with h | ⟨h, _⟩
      · exact .inl h
      · cases h
    have he1 := (sndA e1 xk.toXOkE fun r h => rf r (List.mem_append_right _ (List.mem_append_right _ (List.mem_append_right _ (List.mem_append_left _ h))))).e v1 w1
    have he2 := (sndA e2 xk.toXOkE fun r h => rf r (List.mem_append_right _ (List.mem_append_right _ (List.mem_append_right _ (List.mem_append_right _ h))))).e v2 w2
    have pf1 := ps_fld (f := g1) (pos := r1) (pos' := q1) (pe_var (X := cxOf (L2.CX P w) P w K mg base N qual (defScope st) f cdv A outer s Hx E) (i := 0) (pos := p1) k1 (vis k2) x1 y1) he1 (swaps_attr z1)
    have pf2 := ps_fld (f := g2) (pos := r2) (pos' := q2) (pe_var (X := cxOf (L2.CX P w) P w K mg base N qual (defScope st) f cdv A outer s Hx E) (i := 0) (pos := p2) k3 (vis k4) x2 y2) he2 (swaps_attr z2)
    have b1 := sndS (G.at x) a1 xk (fun r h => rf r (List.mem_append_left _ h)) (fun r h => ex r (List.mem_append_left _ h)) t1 c1
    have b2 := sndS (G.at x) a2 xk (fun r h => rf r (List.mem_append_right _ (List.mem_append_left _ h))) (fun r h => ex r (List.mem_append_right _ (List.mem_append_left _ h))) t2 c2
    have b3 := sndS (G.at x) a3 xk (fun r h => rf r (List.mem_append_right _ (List.mem_append_right _ (List.mem_append_left _ h)))) (fun r h => ex r (List.mem_append_right _ (List.mem_append_right _ h))) t3 c3
    rw [hd]
    refine ⟨_, pss_cons b1 (pss_cons b2 (pss_cons b3 (pss_cons pf1 (pss_one pf2)))), ?_⟩
    -- the start
    have hs0 : Hs x = none := s0.s.free hx
    have tHx : TbS G.tabs H Hx := by
      rw [eH]
      exact (TbS.new hdx).trans (TbS.new (by rw [upd_ne (Ne.symm hne)]; exact hx))
    have sHx : Same H Hx := .of fun a o e => by
      rw [eH, upd_ne (fun z => by rw [z, hx] at e; cases e), upd_ne (fun z => by rw [z, hdx] at e; cases e)]
      exact e
    have stHx : Stp G.tabs H Hs Hx Hs := ⟨sHx, Same.refl _, fun _ z _ => z, s0.s.trans sHx, tHx⟩
    obtain ⟨va, wa, ea, ra1, ra2⟩ := ra
    obtain ⟨vb, wb, eb, rb1, rb2⟩ := ra2
    have rb2 : wb = [] := rb2
    subst ea eb rb2
    have ra1 : Rep G Hs d1 va := ra1
    have rb1 : Rep G Hs d2 vb := rb1
    have hNl : 3 ≤ N.length := by have := congrArg List.length Sc.pre; rw [List.length_take] at this; simp at this; omega
    have sr : SR (G.at x) Hx Hs (L2.start N [.ref x, va, vb]) Hx Hs (start0 N [.val (.glb 777), .val d1, .val d2]) := by
      refine ⟨s0.s.trans sHx, Same.refl _, Same.refl _, fun a h _ => h, ?_, fun i c0 ec => ?_, fun i j o o' z ei ej _ _ => ?_, TbS.refl _, tHx.tabs t0, s0.a.trans sHx, s0.trans stHx⟩
      · unfold start0 L2.start
        simp
      · unfold start0 at ec
        by_cases hi : i < 3
        · rw [List.getElem?_append_left (by simpa using hi)] at ec
          have hv : (L2.start N [.ref x, va, vb])[i]? = ([some (.ref x), some va, some vb] : List (Option V))[i]? := by
            unfold L2.start
            rw [List.getElem?_append_left (by simpa using hi)]
            rfl
          rw [hv]
          match i, hi, ec with
          | 0, _, ec =>
            cases ec
            refine ⟨.ref x, rfl, ?_⟩
            simp only [Rep]
            exact at_777.symm
          | 1, _, ec => cases ec; exact ⟨va, rfl, (rep_at d1 va gf1).mpr ra1⟩
          | 2, _, ec => cases ec; exact ⟨vb, rfl, (rep_at d2 vb gf2).mpr rb1⟩
        · rw [List.getElem?_append_right (by simp; omega)] at ec
          have := List.eq_of_mem_replicate (List.mem_of_getElem? ec)
          subst this
          trivial
      · exfalso
        unfold start0 at ei
        by_cases hi : i < 3
        · rw [List.getElem?_append_left (by simpa using hi)] at ei
          match i, hi, ei with
          | 0, _, ei => cases ei
          | 1, _, ei => cases ei
          | 2, _, ei => cases ei
        · rw [List.getElem?_append_right (by simp; omega)] at ei
          have := List.eq_of_mem_replicate (List.mem_of_getElem? ei)
          cases this
    have w0 := hm d1 d2 r em
    simp only [wps] at w0
    have hxx : Hx x = some (.ins (G.cls c) dx []) := by rw [eH]; exact upd_same
    have nHx : ∀ a, H a ≠ none → Hx a ≠ none := fun a h z => h (sHx.free z)
    -- an error on the way
    have er : ∀ {σ' : L2.St} {H' Hs' : Hp} {ρ' : List C} {j : Nat}, SR (G.at x) Hx Hs σ' H' Hs' ρ' → r = .error j → E (.ref ((G.at x).cls j)) none H' := fun {σ' H' Hs' ρ' j} sr' e => by
      subst e
      exact post H' Hs' ⟨sHx.trans sr'.k0, sr'.ks, fun a h1 h2 => sr'.fr a h1 (nHx a h2), sr'.sh, tHx.trans sr'.tb⟩
    -- the end
    have endd : ∀ (σ' : L2.St) (H' Hs' : Hp) (ρ' : List C), SR (G.at x) Hx Hs σ' H' Hs' ρ' → (ρ'[0]? = some (.val (.glb 777)) ∧ (∀ (i : Nat) (o' : O), ρ'[i]? ≠ some (C.own o') ∧ ρ'[i]? ≠ some (C.bor o')) ∧ ∃ d1 d2, keep1 (ev e1 ρ') = M.ok d1 ∧ keep1 (ev e2 ρ') = M.ok d2 ∧ gfree d1 = true ∧ gfree d2 = true ∧ r = .ok (.val (.ins c [g1, g2] [d1, d2]))) →
        tSeq (sFld K (tVar 0) (tE (G.at x) (fun cls d σ H => E cls d H) e1) g1) (sFld K (tVar 0) (tE (G.at x) (fun cls d σ H => E cls d H) e2) g2) { nx := fun _ H' => Q .non H', rt := Q } σ' H' := by
      rintro σ' H' Hs' ρ' sr' ⟨h0, hn, y1', y2', hk1, hk2, hg1, hg2, hr'⟩
      have hσ : σ'[0]? = some (some (.ref x)) := by
        obtain ⟨v', e1', e2'⟩ := sr'.cell 0 _ h0
        simp only [Rep] at e2'
        have e3 : v' = V.ref x := e2'.trans at_777
        rw [e1', e3]
      have Lf : ∀ (F : Hp) (Dn : Ends), Lnk (G.at x) (fun cls d σ H => E cls d H) F Hs { nx := fun _ => False, rt := fun _ _ => False, ex := fun _ _ => False } Dn := fun F Dn => ⟨fun _ _ _ _ _ h => h.elim, fun _ _ _ _ _ _ _ h => h.elim, fun _ _ _ _ _ _ h => h.elim⟩
      refine run_keep (Lf Hx ⟨fun _ _ => True, fun _ _ => True, fun _ _ => True, fun _ _ => True⟩) sr' (ok := fun d => d = y1') (by rw [hk1]; rfl) fun dA v H1 Hs1 st1 rv1 sr1 ed => ?_
      subst ed
      have hx1 : H1 x = some (.ins (G.cls c) dx []) := sr1.k0 _ _ hxx
      have hsx : Hs1 x = none := sr1.fr x hs0 (by rw [hxx]; exact fun z => by cases z)
      refine ⟨.ref x, hσ, x, G.cls c, dx, [], rfl, hx1, cl, n1, by simp, ?_⟩
      have sr1' : SR (G.at x) H Hs σ' (upd H1 x (.ins (G.cls c) dx (putF g1 v []))) Hs1 ρ' := by
        refine SR.side (G := G.at x) (o := .ins (G.cls c) dx (putF g1 v [])) ⟨sr1.sh, sHx.trans sr1.k0, sr1.ks, fun a h1 h2 => sr1.fr a h1 (nHx a h2), sr1.len, fun i c0 ec => ?_, sr1.sep, tHx.trans sr1.tb, (show LamX.Tabs (G.at x).tabs H from t0), s0.a, sr1.ro⟩ hx hsx hx1 ins_nt ins_nc fun i o => (hn i o).1
        have q := sr1.cell i c0 ec
        cases c0 with
        | un => trivial
        | lon o => exact q.elim
        | val d => exact q
        | bor o => exact absurd ec (hn i o).2
        | own o => exact absurd ec (hn i o).1
      refine run_keep (Lf H ⟨fun _ _ => True, fun _ _ => True, fun _ _ => True, fun _ _ => True⟩) sr1' (ok := fun d => d = y2') (by rw [hk2]; rfl) fun dB v2 H2 Hs2 st2 rv2 sr2 ed => ?_
      subst ed
      have hx2 : H2 x = some (.ins (G.cls c) dx (putF g1 v [])) := st2.a _ _ upd_same
      have hsx2 : Hs2 x = none := st2.n x hsx (by rw [upd_same]; exact fun z => by cases z)
      refine ⟨.ref x, hσ, x, G.cls c, dx, _, rfl, hx2, cl, n2, by simp [putF], ?_⟩
      have ep : putF g2 v2 (putF g1 v []) = [(g1, v), (g2, v2)] := by simp [putF, hf]
      rw [ep]
      refine fin _ ?_
      subst hr'
      have post : PostN G H Hs (.val (.ins c [g1, g2] [dA, dB])) Q' := post
      have b23 : Same Hs2 (upd Hs2 x (.ins (G.cls c) dx [(g1, v), (g2, v2)])) := same_new hsx2
      refine post (.ref x) _ (upd Hs2 x (.ins (G.cls c) dx [(g1, v), (g2, v2)])) ⟨fun a o e => ?_, sr2.ks.trans b23, fun a h1 h2 => ?_, same_upd sr2.sh, sr2.tb.trans (.upd hx2 ins_nt ins_nc)⟩ ?_
      · exact (sr2.k0 a o e).upd (fun z => by rw [z, hx] at e; cases e)
      · have ne : a ≠ x := fun z => h2 (by rw [z]; exact hx)
        rw [upd_ne ne]
        exact sr2.fr a h1 h2
      · show Rep G _ (.ins c [g1, g2] [dA, dB]) (.ref x)
        simp only [Rep]
        refine ⟨x, dx, [v, v2], rfl, upd_same, rfl, RepL.cons ?_ (RepL.cons ?_ RepL.nil)⟩
        · exact Rep.mono (st2.b.trans b23) _ _ ((rep_at dA v hg1).mp rv1)
        · exact Rep.mono b23 _ _ ((rep_at dB v2 hg2).mp rv2)
    refine ⟨Hx, Hs, Hs, _, _, sr, w0, ⟨fun σ1 H1 Hs1 ρ1 sr1 w1 => ⟨Hx, Hs, Hs1, ρ1, _, sr1, w1, ⟨fun σ2 H2 Hs2 ρ2 sr2 w2 => ⟨Hx, Hs, Hs2, ρ2, _, sr2, w2, ⟨fun σ3 H3 Hs3 ρ3 sr3 w3 => endd σ3 H3 Hs3 ρ3 sr3 w3, fun _ _ _ _ _ _ _ h => h.elim, fun σ' H' Hs' ρ' j sr' h => er sr' h⟩⟩, fun _ _ _ _ _ _ _ h => h.elim, fun σ' H' Hs' ρ' j sr' h => er sr' h⟩⟩, fun _ _ _ _ _ _ _ h => h.elim, fun σ' H' Hs' ρ' j sr' h => er sr' h⟩⟩
  · cases hchk
end
end VS

set_option Elab.async false
set_option linter.all false
set_option autoImplicit false
set_option maxRecDepth 100000
set_option maxHeartbeats 4000000
/-! VS: classes of the module, put together. -/
namespace VS
open PySem L2
/-- a method, as the text has left it -/
structure MtT (K : PySem.W.Frag) (C : Addr) (x qual : Str) (st : Stmt) (ps : List Str) : Prop where
  ex : ∃ f fd, Meth K C x f ∧ Fun K x qual st f fd ∧ Binds K fd ps []
/-- a class: it may be made by its name -/
structure ClT (K : PySem.W.Frag) (mg : Str → Option Value) (C : Addr) (nm qual : Str) (st : Stmt) (ps : List Str) : Prop where
  cl : Cls K C
  mg : mg nm = some (.ref C)
  ex : ∃ f fd, Mk K C f ∧ Fun K "__init__" qual st f fd ∧ Binds K fd ps []
structure MtOk (P : Program) (w : World) (K : PySem.W.Frag) (mg : Str → Option Value) (base : Heap) (G : Ctx) (k c : Nat) (x : Str) (ps : List Str) (m : Mir) : Prop where
  ex : ∃ f fd, Cls K (G.cls c) ∧ Meth K (G.cls c) x f ∧ Binds K fd ps [] ∧ FnOk P w K mg base (L2.CX P w) k f fd ps (spM G m)
structure MkOk (P : Program) (w : World) (K : PySem.W.Frag) (mg : Str → Option Value) (base : Heap) (G : Ctx) (k c : Nat) (x : Str) (ps : List Str) (m : Mir) : Prop where
  ex : ∃ f fd, mg x = some (.ref (G.cls c)) ∧ Mk K (G.cls c) f ∧ Binds K fd ps [] ∧ FnOk P w K mg base (L2.CX P w) k f fd ps (spI G m c)
section
variable {P : Program} {w : World} {K : PySem.W.Frag} {mg : Str → Option Value} {base : Heap} {G : Ctx}
theorem MtOk.ref {k k' c : Nat} {x : Str} {ps : List Str} {m : Mir} (d : MtOk P w K mg base G k c x ps m) (hk : k ≤ k') {X : Cx} (h1 : X.prog = P) (h2 : X.w = w) (h3 : X.K = K) (h4 : X.mg = mg) (h5 : X.base = base) (hr : Room k' X.A) : RefOk G X (.mt c x m) := by
  obtain ⟨f, fd, a1, a2, a3, a4⟩ := d.ex
  subst h1; subst h2; subst h3; subst h4; subst h5
  exact ⟨k, f, fd, ps, a4, hr.mono hk, a1, a2, a3⟩
theorem MkOk.ref {k k' c : Nat} {x : Str} {ps : List Str} {m : Mir} (d : MkOk P w K mg base G k c x ps m) (hk : k + 1 ≤ k') {X : Cx} (h1 : X.prog = P) (h2 : X.w = w) (h3 : X.K = K) (h4 : X.mg = mg) (h5 : X.base = base) (hr : Room k' X.A) : RefOk G X (.mk c x m) := by
  obtain ⟨f, fd, a1, a2, a3, a4⟩ := d.ex
  subst h1; subst h2; subst h3; subst h4; subst h5
  exact ⟨k, f, fd, ps, _, a4, hr.mono hk, a1, a2, a3, fun vs H Q E h x dx n1 n2 n3 => ⟨x, dx, vs, H, Q, rfl, n1, n2, n3, rfl, h, fun H2 q => ⟨rfl, q⟩⟩⟩
theorem mt_ok {x qual : Str} {st : Stmt} {N ps : List Str} {k c : Nat} {m : Mir} (ss : List S) (T : MtT K (G.cls c) x qual st ps) (cl : Cls K (G.cls c)) (Sc : FnScope N ps (defScope st)) (hK : K = G.K) (nb : ∀ x ∈ bltNames, mg x = none)
    (hchk : chkSs N (defScope st) ss (defBody st) = true)
    (hrf : ∀ X : Cx, X.prog = P → X.w = w → X.K = K → X.mg = mg → X.base = base → Room k X.A → ∀ r ∈ refSs ss, RefOk G X r)
    (hex : ∀ X : Cx, X.K = K → X.mg = mg → ∀ r ∈ excSs ss, ExOk G X r)
    (hlen : ∀ cs r, m cs = some r → cs.length = ps.length)
    (hm : ∀ cs r, m cs = some r → wps ss (DsOf r) (start0 N cs)) : MtOk P w K mg base G (k + 1) c x ps m := by
  obtain ⟨f, fd, h1, F, hb⟩ := T.ex
  exact ⟨f, fd, cl, h1, hb, fn_ok ss F Sc hK nb hchk hrf hex hlen hm⟩
theorem fl_ref {X : Cx} {c : Nat} {f : Str} (h3 : X.K = K) (cl : Cls K (G.cls c)) (n : NoAttr K (G.cls c) f) : RefOk G X (.fl c f) := by
  subst h3
  exact ⟨cl, n⟩
end
end VS

set_option Elab.async false
set_option linter.all false
set_option autoImplicit false
set_option maxRecDepth 100000
set_option maxHeartbeats 4000000
/-! A group: its making, its methods. -/
namespace KG
open PySem VS VP K01
/-- turns of n points -/
def turnsB (n : Int) (gs : List D) : Bool := gs.all fun x => turnB x && decide (((nats x).length : Int) = n)
def goodG (n : Int) (gs : List D) : Bool := decide (1 ≤ n ∧ n ≤ 12) && (decide (1 ≤ gs.length ∧ gs.length ≤ 66) && turnsB n gs)
def grp (n : Int) (gs : List D) : D := .ins 50 ["amount", "makers"] [.int n, .lst gs]
def m_Group : Mir
  | [.val (.int n), .val (.lst gs)] => if goodG n gs = true then some (.ok (.val (grp n gs))) else none
  | _ => none
def a1 : S := .ex (.call "still" m_still [(.var 1)])
def a2 (e : Nat) : S := .ifs (.or_ (.not_ (.isi (.var 2) [.tyLst])) (.not_ (.chain .le .le (.cst (.int 1)) (.blt bLen [(.var 2)]) (.gl "MOST_GENERATORS" (.int 66))))) [.raise_ e "BadGroup"] []
def a3 (e : Nat) : S := .ifs (.not_ (.blt bAll [(.lc (.one 3) (.var 2) [] (.and_ (.call "is_turn" m_is_turn [(.var 3)]) (.op .eq (.blt bLen [(.var 3)]) (.var 1))))])) [.raise_ e "BadGroup"] []
def n_Group : List Str := ["self", "many", "generators", "one"]
theorem gfree_ints : ∀ p : List Nat, gfrees (p.map iD) = true
  | [] => rfl
  | i :: p => by simp only [List.map_cons, gfrees, gfree, iD, gfree_ints p, Bool.true_and]
theorem gfree_tD (p : List Nat) : gfree (tD p) = true := by simp only [tD, gfree, gfree_ints]
theorem gfree_turns {n : Int} : ∀ {gs : List D}, turnsB n gs = true → gfrees gs = true
  | [], _ => rfl
  | d :: ds, h => by
    unfold turnsB at h
    rw [List.all_cons, Bool.and_eq_true, Bool.and_eq_true] at h
    obtain ⟨e, _⟩ := turn_perm h.1.1
    simp only [gfrees, Bool.and_eq_true]
    exact ⟨by rw [e]; exact gfree_tD _, gfree_turns h.2⟩
theorem l_Group : ∀ cs r, m_Group cs = some r → ∃ d1 d2, cs = [.val d1, .val d2] ∧ gfree d1 = true ∧ gfree d2 = true := by
  intro cs r h
  unfold m_Group at h
  split at h
  · rename_i n gs
    split at h
    · rename_i hg
      unfold goodG at hg
      simp only [Bool.and_eq_true] at hg
      exact ⟨_, _, rfl, rfl, gfree_turns hg.2.2⟩
    · cases h
  · cases h
theorem turns_at {n : Int} {gs : List D} (h : turnsB n gs = true) {d : D} (hd : d ∈ gs) : turnB d = true ∧ ((nats d).length : Int) = n := by
  unfold turnsB at h
  have := List.all_eq_true.mp h d hd
  simpa using this
theorem w_Group (e : Nat) : ∀ d1 d2 r, m_Group [.val d1, .val d2] = some r →
    wps [a1, a2 e, a3 e] { nx := fun ρ => ρ[0]? = some (.val (.glb 777)) ∧ (∀ (i : Nat) (o' : O), ρ[i]? ≠ some (C.own o') ∧ ρ[i]? ≠ some (C.bor o')) ∧ ∃ d1 d2, keep1 (ev (.var 1) ρ) = M.ok d1 ∧ keep1 (ev (.blt bList [(.var 2)]) ρ) = M.ok d2 ∧ gfree d1 = true ∧ gfree d2 = true ∧ r = .ok (.val (.ins 50 ["amount", "makers"] [d1, d2])), rt := fun _ _ => False, ex := fun k _ => r = .error k } (start0 n_Group [.val (.glb 777), .val d1, .val d2]) := by
  intro d1 d2 r h
  unfold m_Group at h
  split at h
  · rename_i n gs heq
    split at h
    · rename_i hg
      cases h
      obtain ⟨rfl, rfl⟩ : d1 = .int n ∧ d2 = .lst gs := by
        have := heq
        simp only [List.cons.injEq, C.val.injEq, and_true] at this
        exact this
      have hg' := hg
      unfold goodG at hg'
      simp only [Bool.and_eq_true, decide_eq_true_eq] at hg'
      obtain ⟨h1, h2, h3⟩ := hg'
      show wps _ _ [.val (.glb 777), .val (.int n), .val (.lst gs), .un]
      apply of_jps
      have es : m_still [.val (.int n)] = M.ok (.val (.tup (rngD 0 n))) := by
        simp only [m_still]
        rw [if_pos (show plainD (.int n) = true from rfl), if_pos h1]
      refine j_cons (j_ex (ev_call (cs := [.val (.int n)]) rfl es) ?_)
      have el : ev (.blt bLen [(.var 2)]) [.val (.glb 777), .val (.int n), .val (.lst gs), .un] = M.ok (.val (.int gs.length)) := ev_blt (cs := [.val (.lst gs)]) rfl rfl rfl
      refine jx_cons (j_if (b1 := false) ?_ (fun hb => by cases hb) fun _ => ?_)
      · have e1 : ev (.not_ (.isi (.var 2) [.tyLst])) [.val (.glb 777), .val (.int n), .val (.lst gs), .un] = M.ok (.val (.bl false)) := rfl
        have e2 : ev (.chain .le .le (.cst (.int 1)) (.blt bLen [(.var 2)]) (.gl "MOST_GENERATORS" (.int 66))) [.val (.glb 777), .val (.int n), .val (.lst gs), .un] = M.ok (.val (.bl (decide ((1 : Int) ≤ gs.length) && decide ((gs.length : Int) ≤ 66)))) :=
          ev_chain (z := .int 66) rfl (lk el) rfl fun _ => ⟨rfl, rfl⟩
        have hb : (decide ((1 : Int) ≤ gs.length) && decide ((gs.length : Int) ≤ 66)) = true := by
          rw [Bool.and_eq_true, decide_eq_true_eq, decide_eq_true_eq]
          omega
        rw [hb] at e2
        exact ev_or (b1 := false) (b2 := false) (lk e1) fun _ => ev_not (b1 := true) (lk e2)
      refine j_nil (jx_cons (j_if (b1 := false) ?_ (fun hb => by cases hb) fun _ => j_nil (jx_nil ⟨rfl, ?_, .int n, .lst gs, rfl, ?_, rfl, ?_, rfl⟩)))
      · have elc : ev (.lc (.one 3) (.var 2) [] (.and_ (.call "is_turn" m_is_turn [(.var 3)]) (.op .eq (.blt bLen [(.var 3)]) (.var 1)))) [.val (.glb 777), .val (.int n), .val (.lst gs), .un] = M.ok (.own (.lst (gs.map fun _ => .bl true))) := by
          refine ev_lc (x := .val (.lst gs)) (ds := gs) rfl rfl (collect_map fun d hd => ?_) (by rw [List.length_map]; exact Nat.le_of_lt (sz12 (by omega)))
          obtain ⟨t1, t2⟩ := turns_at h3 hd
          obtain ⟨e, _⟩ := turn_perm t1
          have ha : askD d = true := by rw [e]; exact askT _
          have hti := turn_call ha
          rw [t1] at hti
          refine turn_all rfl (kp (x := .val (.bl true)) (ev_and (b1 := true) (b2 := true) (lk (ev_call (cs := [.val d]) rfl hti)) fun _ => ?_))
          rw [e]
          have ee : opD .eq (.int ((nats d).length : Nat)) (.int n) = some (.val (.bl true)) := by rw [op_eq_int, decide_eq_true t2]
          exact ev_op (x := .int ((nats d).length : Nat)) (y := .int n) (lk (ev_blt (cs := [.val (tD (nats d))]) rfl rfl (len_tD _))) rfl ee
        have em : gs.map (fun _ => D.bl true) = (gs.map fun _ => true).map D.bl := by rw [List.map_map]; rfl
        rw [em] at elc
        refine ev_not (b1 := true) (lk (ev_blt (z := .val (.bl true)) (evs_cons elc evs_nil) rfl ?_))
        show allD true [.lst ((gs.map fun _ => true).map D.bl)] = _
        simp only [allD, blsD_map, Option.map_some]
        congr 3
        rw [List.all_map]
        simp
      · intro i o'
        match i with
        | 0 => exact ⟨fun z => by simp at z, fun z => by simp at z⟩
        | 1 => exact ⟨fun z => by simp at z, fun z => by simp at z⟩
        | 2 => exact ⟨fun z => by simp at z, fun z => by simp at z⟩
        | 3 => exact ⟨fun z => by simp at z, fun z => by simp at z⟩
        | _ + 4 => exact ⟨fun z => by simp at z, fun z => by simp at z⟩
      · exact kp (ev_blt (cs := [.val (.lst gs)]) rfl rfl rfl)
      · exact gfree_turns h3
    · cases h
  · cases h
/-! ### methods -/
def m_Group_many : Mir
  | [.val (.ins 50 ["amount", "makers"] [.int n, .lst gs])] => some (.ok (.val (.int n)))
  | _ => none
def b_Group_many : List S := [.ret (.fld 50 (.var 0) "amount")]
def n_Group_many : List Str := ["self"]
theorem ev_fld {c : Nat} {o : E} {ρ : List C} {f : Str} {ns : List Str} {vs : List D} {d : D} (h : look1 (ev o ρ) = M.ok (.ins c ns vs)) (hf : findK ns vs f = some d) : ev (.fld c o f) ρ = M.ok (.val d) := by
  simp only [ev]
  rw [h, M.bind_ok]
  show (if c = c then _ else _) = _
  rw [if_pos rfl, hf, M.lift_some', M.bind_ok]
theorem w_Group_many : ∀ cs r, m_Group_many cs = some r → wps b_Group_many (DsOf r) (start0 n_Group_many cs) := by
  intro cs r h
  unfold m_Group_many at h
  split at h
  · rename_i n gs
    cases h
    show wps b_Group_many _ [.val (grp n gs)]
    apply of_jps
    exact j_cons (j_ret (ev_fld (ns := ["amount", "makers"]) (vs := [.int n, .lst gs]) rfl (by rfl)) rfl rfl)
  · cases h
def m_Group_generators : Mir
  | [.val (.ins 50 ["amount", "makers"] [.int n, .lst gs])] => some (.ok (.own (.lst gs)))
  | _ => none
def b_Group_generators : List S := [.ret (.blt bList [(.fld 50 (.var 0) "makers")])]
def n_Group_generators : List Str := ["self"]
theorem w_Group_generators : ∀ cs r, m_Group_generators cs = some r → wps b_Group_generators (DsOf r) (start0 n_Group_generators cs) := by
  intro cs r h
  unfold m_Group_generators at h
  split at h
  · rename_i n gs
    cases h
    show wps b_Group_generators _ [.val (grp n gs)]
    apply of_jps
    have e1 : ev (.fld 50 (.var 0) "makers") [.val (grp n gs)] = M.ok (.val (.lst gs)) := ev_fld (ns := ["amount", "makers"]) (vs := [.int n, .lst gs]) rfl (by rfl)
    exact j_cons (j_ret (x := .own (.lst gs)) (ev_blt (evs_cons e1 evs_nil) rfl rfl) rfl rfl)
  · cases h
end KG

set_option Elab.async false
set_option linter.all false
set_option autoImplicit false
set_option maxRecDepth 100000
set_option maxHeartbeats 4000000
/-! VS: dict(list of pairs), sorted(set(tuple)). -/
namespace VS
open PySem PySem.Spec PyProof.Rows L2
def pairsD : List D → Option (List Key × List D)
  | [] => some ([], [])
  | d :: ds => match d, pairsD ds with
    | .tup [k, v], some (ks, vs) => (keyD k).map fun k => (k :: ks, v :: vs)
    | _, _ => none
def dictD : List D → Option C
  | [.lst xs] => (pairsD xs).map fun q => .own (.dK (mrgD q.1 q.2 [] []).1 (mrgD q.1 q.2 [] []).2)
  | _ => none
section
variable {G : Ctx} {X : Cx} {H Hs : Hp}
theorem pairs_rep (s0 : Same Hs H) : ∀ {ds : List D} {q : List Key × List D} {ws : List V}, pairsD ds = some q → RepL G Hs ds ws → ∃ (ps : List Addr) (us : List V), ws = ps.map V.ref ∧ q.1.length = us.length ∧ Paired (fun p kv => SqT X.K H p [kV kv.1, kv.2]) ps (q.1.zip us) ∧ RepL G Hs q.2 us
  | [], q, ws, e, r => by
    simp only [pairsD, Option.some.injEq] at e
    subst e
    simp only [RepL] at r
    subst r
    exact ⟨[], [], rfl, rfl, .nil, by simp [RepL]⟩
  | d :: ds, q, ws, e, r => by
    simp only [pairsD] at e
    split at e
    · rename_i k v ks vs e2
      cases hk : keyD k with
      | none => rw [hk] at e; cases e
      | some kk =>
        rw [hk] at e
        cases e
        simp only [RepL] at r
        obtain ⟨w, ws', rfl, r1, r2⟩ := r
        obtain ⟨ps, us, rfl, h1, h2, h3⟩ := pairs_rep s0 (q := (ks, vs)) e2 r2
        obtain ⟨a, vs2, rfl, t1, t2⟩ := rd_tup s0 (Rep.rd s0 r1)
        simp only [RepL] at t2
        obtain ⟨x, r3, rfl, t3, y, r4, rfl, t4, rfl⟩ := t2
        refine ⟨a :: ps, y :: us, rfl, by simpa using h1, ?_, .cons t4 h3⟩
        rw [List.zip_cons_cons]
        refine .cons ?_ h2
        have hx := key_of hk t3
        subst hx
        exact t1.sq
    · cases e
theorem dict_ok (xk : XOk G X) : CallR X (.type "dict") (rC G dictD) := callR_of fun ds c e => by
  match ds, e with
  | [.lst xs], e =>
    simp only [dictD] at e
    cases hq : pairsD xs with
    | none => rw [hq] at e; cases e
    | some q =>
      rw [hq] at e
      cases e
      refine ⟨_, call_dictP xk.calm, fun vs H Q Hs s0 rd po => ?_⟩
      obtain ⟨v, rfl, a, ws, rfl, h1, h2⟩ := rdl1 rd
      obtain ⟨ps, us, rfl, l1, l2, l3⟩ := pairs_rep (X := X) s0 hq h2
      refine ⟨a, ps, q.1.zip us, rfl, by rw [xk.K]; exact h1, l2, fun p hp => ?_⟩
      obtain ⟨ws', m1, m2, m3⟩ := mergeK_zip (ks2 := q.1) (ks := []) (ds := []) (ws := []) l1 l3 rfl (by simp [RepL])
      have e0 : ([] : List Key).zip ([] : List V) = [] := rfl
      rw [e0] at m1
      rw [m1]
      exact po _ _ _ (Stp.nw s0 hp) ⟨p, _, rfl, hp, s0.free hp, upd_same, ws', rfl, m2, m3⟩
end
def bDict : Blt := ⟨"dict", dictD, fun xk => .inr ⟨_, by decide +kernel, dict_ok xk⟩, by decide +kernel, by decide +kernel⟩
/-! ### sorted(set(xs)) -/
def sortSetD : List C → Option C
  | [.val (.tup xs)] => (intsD xs).bind fun ns => if ns.length ≤ 60 then some (.own (.lst ((srt (ddp ns)).map D.int))) else none
  | _ => none
def patSortSet (N : List Str) (sc : Scope) : Expr → Option (List Expr)
  | .Call (.Name x _) [.Call (.Name y _) [a] [] _] [] _ => if x = "sorted" ∧ y = "set" ∧ glo sc x = true ∧ glo sc y = true then some [a] else none
  | _ => none
theorem patSortSet_ok {N : List Str} {sc : Scope} {e : Expr} {es : List Expr} (h : patSortSet N sc e = some es) : ∃ p q r s a, e = .Call (.Name "sorted" p) [.Call (.Name "set" q) [a] [] r] [] s ∧ es = [a] ∧ glo sc "sorted" = true ∧ glo sc "set" = true := by
  unfold patSortSet at h
  split at h
  · rename_i x p y q a r s
    split at h
    · rename_i hh
      obtain ⟨h1, h2, h3, h4⟩ := hh
      subst h1; subst h2
      cases h
      exact ⟨p, q, r, s, a, rfl, rfl, h3, h4⟩
    · cases h
  · cases h
def pSortSet : Spc where
  pat := patSortSet
  f := sortSetD
  pl := fun h => by
    obtain ⟨p, q, r, s, a, rfl, _⟩ := patSortSet_ok h
    exact ⟨rfl, rfl, rfl⟩
  ok := fun {G X N sc e es ta} xk h hp ha => by
    obtain ⟨p, q, r, s, a, rfl, rfl, g1, g2⟩ := patSortSet_ok h
    have pl : isPlain a = true := by simpa using hp
    have na : starEach [a] X.env = (false, eval a X.env) :: starEach [] X.env := star_of pl
    refine ⟨fun pins s σ H Q I hw => ?_⟩
    refine Call_ (ld_blt I (glo_gl xk.hsc g1) (xk.nb _ (by decide +kernel)) (PyProof.Rows.boot_sorted) ?_)
    refine PyProof.Rows.callWith_builtin1 (PyProof.Rows.args_cons ?_ rfl) rfl rfl
    refine Call_ (ld_blt I (glo_gl xk.hsc g2) (xk.nb _ (by decide +kernel)) boot_set ?_)
    refine PyProof.Rows.callWith_type1 (thn (ha.run r pins s σ H _ I hw) fun us s1 ⟨vs, H1, I1, r1, Hs, cs, c, s0, ra, e1, post⟩ => ?_) na rfl
    unfold sortSetD at e1
    split at e1
    · rename_i xs
      obtain ⟨v, ws, rfl, rv, hws⟩ := ra
      cases (show ws = [] from hws)
      cases hi : intsD xs with
      | none => rw [hi] at e1; cases e1
      | some ns =>
        rw [hi] at e1
        simp only [Option.bind_some] at e1
        split at e1
        · rename_i hl
          cases e1
          obtain ⟨t, us2, rfl, h1, h2⟩ := rd_tup s0 (Rep.rd s0 rv)
          rw [ints_of hi] at h2
          rw [h2.ints] at h1
          rw [Vals.ref1 r1]
          obtain ⟨its, rr, tt, hz⟩ := I1.tuple (h1.sq (K := X.K))
          refine call_set_tupI ns (I1.ok.hd xk.calm) (show s1.heap.IsTuple t its.toArray from tt) (by simpa using rr.ints) (by unfold scanBound; omega) fun h' tk c hS hc hk => ?_
          refine PyProof.Rows.args_nil ?_
          have hn : H1 s1.heap.objs.size = none := I1.hok.fresh (Nat.le_refl _)
          have I2 : Inv X pins σ (upd H1 s1.heap.objs.size (SetO X.w s1.heap.objs.size (fun j => decide (j ∈ ns)) c)) { s1 with heap := h', toks := tk } := I1.laid (t' := tk) (fun b u e => hk b u e) (Nat.le_refl _) (setO_new hS)
          refine cr_sortedSet xk.calm pins _ σ _ [.ref s1.heap.objs.size] [.ref s1.heap.objs.size] _ I2 (.cons rfl .nil) ⟨_, _, c, rfl, upd_same, by omega, fun ms p hs hm hlm hpn => ?_⟩
          have e2 : ms = srt (ddp ns) := srt_eq ((List.perm_ext_iff_of_nodup (hs.imp fun {a b} q => by omega) (nodup_ddp ns)).mpr fun k => by rw [hm, mem_ddp, decide_eq_true_iff]) (hs.imp fun {a b} q => by omega)
          subst e2
          have st := Stp.nw (T := G.tabs) (o := SetO X.w s1.heap.objs.size (fun j => decide (j ∈ ns)) c) s0 hn
          have st2 := Stp.nw (T := G.tabs) (o := .lst ((srt (ddp ns)).map V.int)) st.s hpn
          have hp1 : H1 p = none := st.a.free hpn
          exact post _ _ _ (st.trans st2) ⟨p, _, rfl, hp1, s0.free hp1, upd_same, _, rfl, ints_rep _⟩
        · cases e1
    · cases e1
end VS

set_option Elab.async false
set_option linter.all false
set_option autoImplicit false
set_option maxRecDepth 100000
set_option maxHeartbeats 4000000
/-! VS: sorted() of pairs of ints; of a dict's keys. -/
namespace VS
open PySem PySem.Spec PyProof.Rows L2
def leP (p q : Int × Int) : Bool := decide (p.1 < q.1) || (decide (p.1 = q.1) && decide (p.2 ≤ q.2))
def srtP (ps : List (Int × Int)) : List (Int × Int) := ps.mergeSort leP
theorem srtP_perm (ps : List (Int × Int)) : (srtP ps).Perm ps := List.mergeSort_perm _ _
theorem leP_iff {p q : Int × Int} : leP p q = true ↔ p.1 < q.1 ∨ (p.1 = q.1 ∧ p.2 ≤ q.2) := by simp [leP]
theorem srtP_pw (ps : List (Int × Int)) : (srtP ps).Pairwise fun p q => leP p q = true :=
  List.pairwise_mergeSort (le := leP) (fun a b c h1 h2 => by rw [leP_iff] at *; omega) (fun a b => by rw [Bool.or_eq_true, leP_iff, leP_iff]; omega) ps
theorem srtP_eq {ms ns : List (Int × Int)} (h1 : ms.Perm ns) (h2 : ms.Pairwise fun p q => leP p q = true) : ms = srtP ns :=
  (h1.trans (srtP_perm ns).symm).eq_of_pairwise (fun a b _ _ x y => by
    rw [leP_iff] at x y
    exact Prod.ext (by omega) (by omega)) h2 (srtP_pw ns)
def pairI (p : Int × Int) : D := .tup [.int p.1, .int p.2]
def pairsI : List D → Option (List (Int × Int))
  | [] => some []
  | d :: ds => match d, pairsI ds with
    | .tup [.int i, .int j], some ps => some ((i, j) :: ps)
    | _, _ => none
theorem pairsI_of : ∀ {ds : List D} {ps : List (Int × Int)}, pairsI ds = some ps → ds = ps.map pairI
  | [], ps, h => by cases h; rfl
  | d :: ds, ps, h => by
    simp only [pairsI] at h
    split at h
    · rename_i i j qs e
      cases h
      rw [pairsI_of e]; rfl
    · cases h
theorem pairsI_map : ∀ ps : List (Int × Int), pairsI (ps.map pairI) = some ps
  | [] => rfl
  | p :: ps => by
    rw [List.map_cons]
    show (match pairI p, pairsI (ps.map pairI) with
      | .tup [.int i, .int j], some qs => some ((i, j) :: qs)
      | _, _ => none) = _
    rw [pairsI_map ps]
    rfl
def sortedPD : List D → Option C
  | [.lst xs] => (pairsI xs).map fun ps => .own (.lst ((srtP ps).map pairI))
  | _ => none
theorem lookV : ∀ {l : List (V × (Int × Int))} {v : V} {p : Int × Int}, l.lookup v = some p → (v, p) ∈ l
  | (k, q) :: r, v, p, h => by
    rw [List.lookup_cons] at h
    split at h
    · rename_i hb
      cases h
      rw [eq_of_beq hb]
      exact List.mem_cons_self
    · exact List.mem_cons_of_mem _ (lookV h)
section
variable {G : Ctx} {X : Cx}
/-- what a pair's object tells -/
def isP (G : Ctx) (Hs : Hp) (v : V) (p : Int × Int) : Prop := ∃ t, v = .ref t ∧ Tp Hs t [.int p.1, .int p.2]
theorem isP_rep {Hs : Hp} {v : V} {p : Int × Int} : Rep G Hs (pairI p) v ↔ isP G Hs v p := by
  simp only [pairI, Rep, RepL]
  constructor
  · rintro ⟨a, vs, rfl, h, u, us, rfl, rfl, w, ws, rfl, rfl, rfl⟩
    exact ⟨a, rfl, h⟩
  · rintro ⟨t, rfl, h⟩
    exact ⟨t, _, rfl, h, _, _, rfl, rfl, _, _, rfl, rfl, rfl⟩
theorem sortedP_ok (xk : XOk G X) : CallR X (.builtin "sorted") (rC G sortedPD) := by
  rintro pins s σ H vs us Q I r ⟨Hs, ds, c, s0, rd, e, po⟩
  unfold sortedPD at e
  split at e
  · rename_i xs
    cases hp : pairsI xs with
    | none => rw [hp] at e; cases e
    | some ps =>
      rw [hp] at e
      cases e
      obtain ⟨v0, rfl, r1⟩ := rdl1 rd
      obtain ⟨a, ws, rfl, h1, h2⟩ := r1
      rw [pairsI_of hp] at h2
      rw [← xk.K] at h1
      obtain ⟨its, rv, hl, hz⟩ := I.list h1
      rw [Vals.ref1 r]
      have all : ∀ {qs : List (Int × Int)} {zs : List V}, RepL G Hs (qs.map pairI) zs → zs.length = qs.length ∧ ∃ k : List (V × (Int × Int)), k.map (·.1) = zs ∧ k.map (·.2) = qs ∧ ∀ e ∈ k, isP G Hs e.1 e.2 := by
        intro qs
        induction qs with
        | nil => intro zs h; cases (show zs = [] from h); exact ⟨rfl, [], rfl, rfl, fun e he => by cases he⟩
        | cons q qs ih =>
          intro zs h
          obtain ⟨z, zs', rfl, q1, q2⟩ := h
          obtain ⟨g1, k, g2, g3, g4⟩ := ih q2
          refine ⟨by simp [g1], (z, q) :: k, by rw [List.map_cons, g2], by rw [List.map_cons, g3], fun e he => ?_⟩
          rcases List.mem_cons.mp he with rfl | he
          · exact isP_rep.mp q1
          · exact g4 e he
      obtain ⟨hlen, kl, k1, k2, k3⟩ := all h2
      -- the pair of an object is one
      have uniq : ∀ {v : V} {p q : Int × Int}, isP G Hs v p → isP G Hs v q → p = q := by
        rintro v p q ⟨t, rfl, o, h, _⟩ ⟨t', e, o', h', _⟩
        cases e
        rw [h] at h'
        injection h' with h'
        injection h' with _ h'
        injection h' with h'
        injection h' with q1 q2
        injection q1 with q1
        injection q2 with q2
        injection q2 with q2
        exact Prod.ext q1 q2
      have isK : ∀ v ∈ ws, isP G Hs v ((kl.lookup v).getD (0, 0)) := by
        intro v hv
        rw [← k1] at hv
        obtain ⟨e, he, rfl⟩ := List.mem_map.mp hv
        cases hlk : kl.lookup e.1 with
        | none =>
          exfalso
          rw [List.lookup_eq_none_iff] at hlk
          have := hlk e he
          simp at this
        | some p => exact k3 (e.1, p) (lookV hlk)
      generalize hkf : (fun v : V => (kl.lookup v).getD (0, 0)) = kf at *
      have isK : ∀ v ∈ ws, isP G Hs v (kf v) := fun v hv => by rw [← hkf]; exact isK v hv
      obtain ⟨e1, e2⟩ := refs_back rv fun x m => by
        obtain ⟨t, e, _⟩ := isK x m
        exact ⟨t, e⟩
      refine SrtO.sorted_pairsO (k := fun u => kf (backV u)) hl.isList (by rw [← rv.length]; exact hz) (fun v hv => ?_) fun h' d out g1 g2 kp hd hn => ?_
      · obtain ⟨t, rfl⟩ := e2 v hv
        have hm : V.ref t ∈ ws := by rw [e1]; exact List.mem_map.mpr ⟨_, hv, rfl⟩
        obtain ⟨t', e, o, ht, _⟩ := isK _ hm
        cases e
        obtain ⟨ho, _, its2, r2, hT⟩ := I.hok _ _ (s0 _ _ ht)
        obtain ⟨u1, u2, rfl, ri, rj⟩ := vals2 r2
        obtain ⟨t1, rfl⟩ := ri
        obtain ⟨t2, rfl⟩ := rj
        obtain ⟨o2, ho2, hc, n, hd⟩ := hT
        exact ⟨t, o2, t1, t2, n, rfl, ho2, hc, hd⟩
      · have h3 : ∀ u ∈ out, ∃ a, u = Value.ref a := fun u hu => e2 u (g2.perm.mem_iff.mp hu)
        obtain ⟨n, hn⟩ := hn
        have hb : SrtO.Stb (ltP kf) (out.map backV) ws := by
          rw [e1]
          exact SrtO.Stb.map (ltP_swo kf) backV g2
        have hsr : SrtO.Srtd (ltP kf) (out.map backV) := SrtO.srtd_map g1
        have hfr : H d = none := I.hok.fresh hd
        have hperm : ((out.map backV).map kf).Perm ps := by
          refine (hb.perm.map kf).trans ?_
          have : ws.map kf = ps := by
            rw [← k1, ← k2, List.map_map]
            refine List.map_congr_left fun e he => ?_
            exact uniq (isK e.1 (by rw [← k1]; exact List.mem_map.mpr ⟨e, he, rfl⟩)) (k3 e he)
          rw [this]
        have hpw : ((out.map backV).map kf).Pairwise fun p q => leP p q = true := by
          rw [List.pairwise_map]
          refine hsr.imp fun {x y} hxy => ?_
          have := SrtO.lexB_no.mp hxy
          rw [leP_iff]
          omega
        have hse := srtP_eq hperm hpw
        have hsz : (out.map backV).length ≤ sizeLine := by rw [hb.len]; exact hz
        refine ⟨.ref d, _, I.laid (t' := s.toks) (o := .lst (out.map backV)) kp hd ⟨hsz, out, n, vals_back h3, hn⟩, rfl, ?_⟩
        refine po.lst s0 ?_ d hfr
        rw [← hse, List.map_map]
        have : ∀ zs : List V, (∀ z ∈ zs, z ∈ ws) → RepL G Hs (zs.map (pairI ∘ kf)) zs := by
          intro zs
          induction zs with
          | nil => intro _; exact RepL.nil
          | cons z zs ih => exact fun h => RepL.cons (isP_rep.mpr (isK z (h z List.mem_cons_self))) (ih fun y hy => h y (List.mem_cons_of_mem _ hy))
        exact this _ fun z hz => hb.perm.mem_iff.mp hz
  · cases e
end
def bSortP : Blt := ⟨"sorted", sortedPD, fun xk => .inl ⟨_, by decide +kernel, sortedP_ok xk⟩, by decide +kernel, by decide +kernel⟩
/-- the keys of a dict -/
def sortedKD : List D → Option C
  | [.dK ks vs] => if ks.length = vs.length ∧ ks.length < 64 then (intsD (ks.map keyOf)).map fun ns => .own (.lst ((srt ns).map D.int)) else none
  | _ => none
theorem keys_ints : ∀ {ks : List Key} {ns : List Int}, intsD (ks.map keyOf) = some ns → ks = ns.map Sum.inl
  | [], ns, h => by cases h; rfl
  | .inl i :: ks, ns, h => by
    simp only [List.map_cons, keyOf, intsD] at h
    cases hk : intsD (ks.map keyOf) with
    | none => rw [hk] at h; cases h
    | some ms =>
      rw [hk] at h
      cases h
      rw [keys_ints hk]; rfl
  | .inr x :: ks, ns, h => by
    simp only [List.map_cons, keyOf, intsD] at h
    cases h
theorem sortedK_ok {G : Ctx} {X : Cx} (xk : XOk G X) : CallR X (.builtin "sorted") (rC G sortedKD) := callR_of fun ds c e => by
  unfold sortedKD at e
  split at e
  · rename_i ks ws
    split at e
    · rename_i hl
      cases hi : intsD (ks.map keyOf) with
      | none => rw [hi] at e; cases e
      | some ns =>
        rw [hi] at e
        cases e
        refine ⟨_, call_sortedDI xk.calm, fun vs H Q Hs s0 rd po => ?_⟩
        obtain ⟨v, rfl, r1⟩ := rdl1 rd
        obtain ⟨a, us, rfl, h1, h2, h3⟩ := r1
        have hk := keys_ints hi
        refine ⟨a, _, ns, rfl, .inl h1, ?_, ?_, fun ys p g1 g2 hp => ?_⟩
        · rw [← hk]
          exact List.map_fst_zip (Nat.le_of_eq h2)
        · have := hl.2
          rw [hk, List.length_map] at this
          exact this
        · rw [srt_eq g1 g2]
          exact po.lst s0 (ints_rep _) p hp
    · cases e
  · cases e
def bSortK : Blt := ⟨"sorted", sortedKD, fun xk => .inl ⟨_, by decide +kernel, sortedK_ok xk⟩, by decide +kernel, by decide +kernel⟩
end VS

set_option Elab.async false
set_option linter.all false
set_option autoImplicit false
set_option maxRecDepth 100000
set_option maxHeartbeats 4000000
/-! KO: points, letters, words from a point on, ways, orbits. -/
-- <M2>
local macro_rules
  | `(tactic| simp?! [$as,*] $[$l:location]?) => `(tactic| simp (implicitDefEqProofs := false) (disch := first | assumption | decide | omega) only [VS.ifP_b, VS.iteM_t, VS.iteM_f, VS.vr_val, VS.vr_own, VS.vr_bor, VS.lc_map, VS.consO_s, VS.consO_n, VS.lc_lit, VS.lcF_ok, VS.col_cons, VS.col_nil, VS.lc_lit0, VS.lcA_some, VS.szM_ok, VS.szO_ok, VS.szO_lit, VS.szM_lit, VS.x_var, VS.x_cst, VS.x_gl, VS.x_tup, VS.x_lst, VS.x_op, VS.x_chain, VS.x_neg, VS.x_not, VS.x_and, VS.x_or, VS.x_ite, VS.iteM_and, VS.iteM_or, VS.x_ix, VS.x_sl, VS.x_rev, VS.x_lc, VS.x_turn, VS.iteM_opt, VS.x_c0, VS.x_c1, VS.x_call, VS.x_make, VS.x_meth, VS.x_blt, VS.x_mth, VS.x_fld, VS.x_isi, VS.x_lstR, VS.x_lstR2, VS.x_dK, VS.x_d1, VS.x_g2, VS.x_spec, VS.x_callV, VS.x_rng, VS.x_enum, VS.x_revR, VS.x_str, VS.x_evs0, VS.x_evs1, VS.x_esp, VS.k_lv, VS.k_lo, VS.k_lb, VS.k_ll, VS.k_le, VS.k_kv, VS.k_ko, VS.k_ke, VS.k_f1, VS.k_f2, VS.k_av, VS.k_ao, VS.k_ab, VS.k_al, VS.k_sv, VS.k_so, VS.k_la0, VS.k_la1, VS.k_la2, VS.k_ka0, VS.k_ka1, VS.k_sq1, VS.k_sq2, VS.k_sq3, VS.k_sq4, VS.k_sq5, VS.k_er, VS.k_r1, VS.k_r2, VS.k_o1, VS.k_b1, VS.k_b2, VS.k_b3, VS.k_b4, VS.k_w0, VS.k_w1, VS.k_ts1, VS.k_ts2, VS.k_ch1, VS.k_ch2, VS.k_not, VS.k_neg, VS.k_tst, VS.k_po, VS.k_n1, VS.k_n2, VS.k_n3, VS.k_n4, VS.k_n5, VS.k_n6, VS.k_rv, VS.k_strM, VS.o_add, VS.o_sub, VS.o_fdiv, VS.o_mod, VS.o_mulL, VS.o_mulR, VS.o_lt, VS.o_le, VS.o_gt, VS.o_ge, VS.o_eq, VS.o_ne, VS.o_is, VS.o_isn, VS.o_in, VS.o_nin, VS.o_addL, VS.o_addT, VS.o_addS, VS.k_isE, VS.k_isV, VS.x_cons, VS.x_nil, VS.x_asg, VS.x_unp, VS.appP_1, VS.x_app, VS.x_ownAt, VS.ownO_1, VS.lstD_1, VS.dKD_1, VS.extP_1, VS.x_ext, VS.x_clr, VS.augP_1, VS.x_augA, VS.popP_1, VS.x_apop, VS.x_setx, VS.x_frz, VS.x_ret, VS.x_retV, VS.x_ex, VS.x_ifs, VS.x_for, VS.x_raise, VS.x_sp, List.set_cons_zero, List.set_cons_succ, List.getElem?_cons_zero, List.getElem?_cons_succ, Option.bind_some, Option.map_some, if_true, ite_true, ite_false, VS.M.bind_ok, VS.M.lift_some', eq_self, forall_const, true_implies, false_implies, Bool.true_eq_false, Bool.false_eq_true, and_true, true_and, Bool.true_and, Bool.and_true, Bool.false_and, Bool.and_false, Bool.or_false, Bool.false_or, Bool.or_true, Bool.true_or, Bool.not_true, Bool.not_false, Bool.not_not, decide_true, decide_false, if_false, reduceIte, Int.natCast_zero, List.length_cons, List.length_nil, List.length_map, exists_eq_left', VS.DsOf, reduceCtorEq, implies_true, List.nil_append, List.append_nil, VS.bind_ok, VS.lift_some, Nat.reduceAdd, Nat.reduceLeDiff, List.cons_append, List.length_append, List.length_range, List.length_take, List.length_drop, List.map_cons, List.map_nil, exists_prop, and_self, not_true, VS.sub, Nat.reduceBEq, beq_self_eq_true, not_false_eq_true, ne_eq, Option.some.injEq, K01.iD, K01.tD, KX.f_in, KX.f_lenL, KX.f_lenT, KX.f_lenD, KX.f_tupL, KX.f_tupT, KX.f_lstL, KX.f_lstT, KX.f_min, KX.f_rng, KX.f_rng2, KX.f_lstR, KX.f_eqI, KX.f_ixT, KX.f_ixL, KX.f_ix0, KX.f_ix0t, KX.f_ix1t, KX.f_ix1, KX.f_last, KX.f_isn, KX.f_isE, KX.f_isN, KX.f_isI, KX.f_isT, KX.f_isB, KX.f_tt, KX.f_tl, KX.f_ib, KX.f_ii, KX.f_ts, KX.f_mixed, $as,*] $[$l]?)
local macro_rules
  | `(tactic| simp?! $[$l:location]?) => `(tactic| simp (implicitDefEqProofs := false) (disch := first | assumption | decide | omega) only [VS.ifP_b, VS.iteM_t, VS.iteM_f, VS.vr_val, VS.vr_own, VS.vr_bor, VS.lc_map, VS.consO_s, VS.consO_n, VS.lc_lit, VS.lcF_ok, VS.col_cons, VS.col_nil, VS.lc_lit0, VS.lcA_some, VS.szM_ok, VS.szO_ok, VS.szO_lit, VS.szM_lit, VS.x_var, VS.x_cst, VS.x_gl, VS.x_tup, VS.x_lst, VS.x_op, VS.x_chain, VS.x_neg, VS.x_not, VS.x_and, VS.x_or, VS.x_ite, VS.iteM_and, VS.iteM_or, VS.x_ix, VS.x_sl, VS.x_rev, VS.x_lc, VS.x_turn, VS.iteM_opt, VS.x_c0, VS.x_c1, VS.x_call, VS.x_make, VS.x_meth, VS.x_blt, VS.x_mth, VS.x_fld, VS.x_isi, VS.x_lstR, VS.x_lstR2, VS.x_dK, VS.x_d1, VS.x_g2, VS.x_spec, VS.x_callV, VS.x_rng, VS.x_enum, VS.x_revR, VS.x_str, VS.x_evs0, VS.x_evs1, VS.x_esp, VS.k_lv, VS.k_lo, VS.k_lb, VS.k_ll, VS.k_le, VS.k_kv, VS.k_ko, VS.k_ke, VS.k_f1, VS.k_f2, VS.k_av, VS.k_ao, VS.k_ab, VS.k_al, VS.k_sv, VS.k_so, VS.k_la0, VS.k_la1, VS.k_la2, VS.k_ka0, VS.k_ka1, VS.k_sq1, VS.k_sq2, VS.k_sq3, VS.k_sq4, VS.k_sq5, VS.k_er, VS.k_r1, VS.k_r2, VS.k_o1, VS.k_b1, VS.k_b2, VS.k_b3, VS.k_b4, VS.k_w0, VS.k_w1, VS.k_ts1, VS.k_ts2, VS.k_ch1, VS.k_ch2, VS.k_not, VS.k_neg, VS.k_tst, VS.k_po, VS.k_n1, VS.k_n2, VS.k_n3, VS.k_n4, VS.k_n5, VS.k_n6, VS.k_rv, VS.k_strM, VS.o_add, VS.o_sub, VS.o_fdiv, VS.o_mod, VS.o_mulL, VS.o_mulR, VS.o_lt, VS.o_le, VS.o_gt, VS.o_ge, VS.o_eq, VS.o_ne, VS.o_is, VS.o_isn, VS.o_in, VS.o_nin, VS.o_addL, VS.o_addT, VS.o_addS, VS.k_isE, VS.k_isV, VS.x_cons, VS.x_nil, VS.x_asg, VS.x_unp, VS.appP_1, VS.x_app, VS.x_ownAt, VS.ownO_1, VS.lstD_1, VS.dKD_1, VS.extP_1, VS.x_ext, VS.x_clr, VS.augP_1, VS.x_augA, VS.popP_1, VS.x_apop, VS.x_setx, VS.x_frz, VS.x_ret, VS.x_retV, VS.x_ex, VS.x_ifs, VS.x_for, VS.x_raise, VS.x_sp, List.set_cons_zero, List.set_cons_succ, List.getElem?_cons_zero, List.getElem?_cons_succ, Option.bind_some, Option.map_some, if_true, ite_true, ite_false, VS.M.bind_ok, VS.M.lift_some', eq_self, forall_const, true_implies, false_implies, Bool.true_eq_false, Bool.false_eq_true, and_true, true_and, Bool.true_and, Bool.and_true, Bool.false_and, Bool.and_false, Bool.or_false, Bool.false_or, Bool.or_true, Bool.true_or, Bool.not_true, Bool.not_false, Bool.not_not, decide_true, decide_false, if_false, reduceIte, Int.natCast_zero, List.length_cons, List.length_nil, List.length_map, exists_eq_left', VS.DsOf, reduceCtorEq, implies_true, List.nil_append, List.append_nil, VS.bind_ok, VS.lift_some, Nat.reduceAdd, Nat.reduceLeDiff, List.cons_append, List.length_append, List.length_range, List.length_take, List.length_drop, List.map_cons, List.map_nil, exists_prop, and_self, not_true, VS.sub, Nat.reduceBEq, beq_self_eq_true, not_false_eq_true, ne_eq, Option.some.injEq, K01.iD, K01.tD, KX.f_in, KX.f_lenL, KX.f_lenT, KX.f_lenD, KX.f_tupL, KX.f_tupT, KX.f_lstL, KX.f_lstT, KX.f_min, KX.f_rng, KX.f_rng2, KX.f_lstR, KX.f_eqI, KX.f_ixT, KX.f_ixL, KX.f_ix0, KX.f_ix0t, KX.f_ix1t, KX.f_ix1, KX.f_last, KX.f_isn, KX.f_isE, KX.f_isN, KX.f_isI, KX.f_isT, KX.f_isB, KX.f_tt, KX.f_tl, KX.f_ib, KX.f_ii, KX.f_ts, KX.f_mixed] $[$l]?)
-- </M2>
namespace KO
open PySem L2 VS VP K01 K02 KX KG WY
def ptB (n : Int) : D → Bool
  | .int i => decide (0 ≤ i) && decide (i < n)
  | _ => false
def m_need_point : Mir
  | [.val (.ins 50 ["amount", "makers"] [.int n, .lst gs]), .val d] => if plainD d = true then (if ptB n d = true then some (.ok (.val .non)) else some (.error 3)) else none
  | _ => none
def n_need_point : List Str := ["group", "thing"]
def b_need_point : List S := [.ifs (.or_ (.not_ (.isi (.var 1) [.tyInt])) (.or_ (.isi (.var 1) [.tyBool]) (.not_ (.chain .le .lt (.cst (.int 0)) (.var 1) (.meth 50 "many" m_Group_many (.var 0) []))))) [.raise_ 3 "BadPoint"] []]
theorem f_many {n : Int} {gs : List D} : m_Group_many [.val (.ins 50 ["amount", "makers"] [.int n, .lst gs])] = M.ok (.val (.int n)) := rfl
theorem f_gens {n : Int} {gs : List D} : m_Group_generators [.val (.ins 50 ["amount", "makers"] [.int n, .lst gs])] = M.ok (.own (.lst gs)) := rfl
theorem f_m1 {as : M (List C)} {m : Mir} {vs : List D} : methM 50 "many" m as (.ins 50 ["amount", "makers"] vs) = as.bind fun cs => m (.val (.ins 50 ["amount", "makers"] vs) :: cs) := by
  rw [k_mth, if_pos (by decide +kernel)]
theorem f_m2 {as : M (List C)} {m : Mir} {vs : List D} : methM 50 "generators" m as (.ins 50 ["amount", "makers"] vs) = as.bind fun cs => m (.val (.ins 50 ["amount", "makers"] vs) :: cs) := by
  rw [k_mth, if_pos (by decide +kernel)]
theorem f_fm {n : Int} {gs : List D} : fldM 50 "makers" (.ins 50 ["amount", "makers"] [.int n, .lst gs]) = M.ok (.val (.lst gs)) := by
  rw [k_fld, if_pos rfl]; rfl
theorem f_fa {n : Int} {gs : List D} : fldM 50 "amount" (.ins 50 ["amount", "makers"] [.int n, .lst gs]) = M.ok (.val (.int n)) := by
  rw [k_fld, if_pos rfl]; rfl
theorem w_need_point : ∀ cs r, m_need_point cs = some r → wps b_need_point (DsOf r) (start0 n_need_point cs) := by
  intro cs r h
  refine of_jps ?_
  unfold m_need_point at h
  split at h
  · rename_i n gs d
    split at h
    · rename_i hp
      show jps b_need_point _ [.val (.ins 50 ["amount", "makers"] [.int n, .lst gs]), .val d]
      have er : ptB n d = false → r = .error 3 := fun e => by rw [e] at h; cases h; rfl
      cases d with
      | int i =>
        by_cases hb : ptB n (.int i) = true
        · rw [if_pos hb] at h
          cases h
          have h2 : 0 ≤ i ∧ i < n := by simpa [ptB] using hb
          simp?! [b_need_point, f_ii, f_ib, f_m1, f_many, k_ch3, decide_eq_true h2.1, decide_eq_true h2.2]
        · have hb2 : ptB n (.int i) = false := by simpa using hb
          rw [er hb2]
          by_cases h0 : 0 ≤ i
          · have h1 : ¬ i < n := fun q => hb (by simp [ptB, h0, q])
            simp?! [b_need_point, f_ii, f_ib, f_m1, f_many, k_ch3, decide_eq_true h0, decide_eq_false h1]
          · simp?! [b_need_point, f_ii, f_ib, f_m1, f_many, k_ch3, decide_eq_false h0]
      | bl b =>
        rw [er rfl]
        have e1 : isAny (.bl b) [.tyInt] = some (true || false) := rfl
        have e2 : isAny (.bl b) [.tyBool] = some (true || false) := rfl
        simp?! [b_need_point, e1, e2]
      | non =>
        rw [er rfl]
        have e1 : isAny .non [.tyInt] = some (false || false) := rfl
        simp?! [b_need_point, e1]
      | str z =>
        rw [er rfl]
        have e1 : isAny (.str z) [.tyInt] = some (false || false) := rfl
        simp?! [b_need_point, e1]
      | tup z =>
        rw [er rfl]
        have e1 : isAny (.tup z) [.tyInt] = some (false || false) := rfl
        simp?! [b_need_point, e1]
      | lst z =>
        rw [er rfl]
        have e1 : isAny (.lst z) [.tyInt] = some (false || false) := rfl
        simp?! [b_need_point, e1]
      | dK ks z =>
        rw [er rfl]
        have e1 : isAny (.dK ks z) [.tyInt] = some (false || false) := rfl
        simp?! [b_need_point, e1]
      | dT ks z =>
        rw [er rfl]
        have e1 : isAny (.dT ks z) [.tyInt] = some (false || false) := rfl
        simp?! [b_need_point, e1]
      | ins _ _ _ => cases hp
      | err _ => cases hp
      | glb _ => cases hp
    · cases h
  · cases h
/-! ### letters -/
def pairL (T : List (List Nat)) (i : Nat) : D := .tup [.int (lv i), tD (tn T i)]
def ltD (T : List (List Nat)) : List D := (List.range T.length).map (pairL T)
theorem ltD_length (T : List (List Nat)) : (ltD T).length = T.length := by simp [ltD]
theorem tn_old {T : List (List Nat)} {U : List (List Nat)} {i : Nat} (h : i < T.length) : tn (T ++ U) i = tn T i := by
  unfold tn; rw [List.getD_eq_getElem?_getD, List.getD_eq_getElem?_getD, List.getElem?_append_left h]
theorem ltD_two (T : List (List Nat)) (x y : List Nat) : ltD (T ++ [x, y]) = ltD T ++ [.tup [.int (lv T.length), tD x], .tup [.int (lv (T.length + 1)), tD y]] := by
  unfold ltD
  rw [List.length_append]
  show (List.range (T.length + 2)).map _ = _
  rw [List.range_succ, List.range_succ, List.map_append, List.map_append, List.append_assoc]
  congr 1
  · refine List.map_congr_left fun i hi => ?_
    unfold pairL; rw [tn_old (List.mem_range.mp hi)]
  · have e1 : tn (T ++ [x, y]) T.length = x := by unfold tn; rw [List.getD_eq_getElem?_getD, List.getElem?_append_right (Nat.le_refl _)]; simp
    have e2 : tn (T ++ [x, y]) (T.length + 1) = y := by unfold tn; rw [List.getD_eq_getElem?_getD, List.getElem?_append_right (by omega)]; simp
    simp only [List.map_cons, List.map_nil, pairL, e1, e2]
    rfl
theorem turns_tD {n : Int} {gs : List D} (h : turnsB n gs = true) : gs = (gs.map nats).map tD ∧ ∀ g ∈ gs.map nats, Pm g ∧ (g.length : Int) = n ∧ 1 ≤ g.length ∧ g.length ≤ 12 := by
  refine ⟨?_, fun g hg => ?_⟩
  · rw [List.map_map]
    conv => lhs; rw [← List.map_id gs]
    refine List.map_congr_left fun d hd => ?_
    exact (turn_perm (turns_at h hd).1).1
  · obtain ⟨d, hd, rfl⟩ := List.mem_map.mp hg
    obtain ⟨h1, h2⟩ := turns_at h hd
    obtain ⟨_, h3, h4, h5⟩ := turn_perm h1
    exact ⟨h3, h2, h4, h5⟩
/-- what a group holds -/
structure Gr (n : Int) (gs : List D) (N : Nat) (ps : List (List Nat)) : Prop where
  hn : n = (N : Nat)
  hg : gs = ps.map tD
  pm : ∀ p ∈ ps, Pm p ∧ p.length = N
  n1 : 1 ≤ N
  n2 : N ≤ 12
  l1 : 1 ≤ ps.length
  l2 : ps.length ≤ 66
theorem gr_of {n : Int} {gs : List D} (h : goodG n gs = true) : Gr n gs n.toNat (gs.map nats) := by
  unfold goodG at h
  simp only [Bool.and_eq_true, decide_eq_true_eq] at h
  obtain ⟨h1, h2, h3⟩ := h
  obtain ⟨e, h4⟩ := turns_tD h3
  exact ⟨by omega, e, fun p hp => by obtain ⟨q1, q2, _⟩ := h4 p hp; exact ⟨q1, by omega⟩, by omega, by omega, by rw [List.length_map]; omega, by rw [List.length_map]; omega⟩
theorem Gr.clo {n : Int} {gs : List D} {N : Nat} {ps : List (List Nat)} (g : Gr n gs N ps) : Clo (lts ps) N := lts_clo g.pm
def m_letters_of : Mir
  | [.val (.ins 50 ["amount", "makers"] [.int n, .lst gs])] => if goodG n gs = true then some (.ok (.own (.lst (ltD (lts (gs.map nats)))))) else none
  | _ => none
def n_letters_of : List Str := ["group", "found", "number", "one"]
def b_letters_of : List S := [.asg 1 (.lst []),
  .for_ (.tup [2, 3]) (.iEnum (.meth 50 "generators" m_Group_generators (.var 0) [])) [.app 1 (.tup [(.op .add (.var 2) (.cst (.int 1))), (.var 3)]), .app 1 (.tup [(.op .sub (.op .sub (.cst (.int 0)) (.var 2)) (.cst (.int 1))), (.call "back" m_back [(.var 3)])])],
  .retV 1]
theorem back_ok {p : List Nat} (hp : Pm p) (h1 : 1 ≤ p.length) (h2 : p.length ≤ 12) : m_back [.val (.tup (p.map iD))] = M.ok (.val (.tup ((inv p).map iD))) := by
  show (if askD (tD p) = true then (if turnB (tD p) = true then some (Except.ok (C.val (tD (inv (nats (tD p)))))) else some (.error 1)) else none) = _
  rw [if_pos (askT p), if_pos (turnT hp h1 h2), nats_tD]; rfl
theorem get_take' {α : Type} {l : List α} {i : Nat} {a : α} (h : l[i]? = some a) : l.take (i + 1) = l.take i ++ [a] ∧ i < l.length ∧ a ∈ l := by
  have hi := (List.getElem?_eq_some_iff.mp h).1
  refine ⟨?_, hi, List.mem_of_getElem? h⟩
  rw [List.take_succ, h]; rfl
theorem w_letters_of : ∀ cs r, m_letters_of cs = some r → wps b_letters_of (DsOf r) (start0 n_letters_of cs) := by
  intro cs r h
  refine of_jps ?_
  unfold m_letters_of at h
  split at h
  · rename_i n gs
    split at h
    · rename_i hg
      cases h
      have G := gr_of hg
      generalize gs.map nats = ps at G ⊢
      obtain ⟨hn, rfl, hpm, n1, n2, l1, l2⟩ := G
      generalize n.toNat = N at *
      subst hn
      show jps b_letters_of _ [.val (.ins 50 ["amount", "makers"] [.int (N : Nat), .lst (ps.map tD)]), .un, .un, .un]
      have hbig := big
      simp?! [b_letters_of, f_m2, f_gens]
      refine for_enum _ _ (fun k ρ => k ≤ ps.length ∧ ∃ c2 c3, ρ = [.val (.ins 50 ["amount", "makers"] [.int (N : Nat), .lst (ps.map tD)]), .own (.lst (ltD (lts (ps.take k)))), c2, c3]) ⟨Nat.zero_le _, _, _, rfl⟩ ?_ ?_
      · rintro k p ρ Q hk ⟨_, c2, c3, rfl⟩ hQ
        obtain ⟨e1, e2, e3⟩ := get_take' hk
        obtain ⟨p1, p2⟩ := hpm p e3
        have hb := back_ok p1 (by omega) (by omega)
        have hT : tD p = .tup (p.map iD) := rfl
        have hL : (ltD (lts (ps.take k))).length = 2 * k := by rw [ltD_length, lts_length, List.length_take]; omega
        simp?! [hT, hb, hL]
        refine ⟨by omega, by omega, hQ _ ⟨by omega, .val (.int (k : Nat)), .val (.tup (p.map iD)), ?_⟩⟩
        rw [e1, lts_snoc, ltD_two, lts_length, List.length_take, Nat.min_eq_left (by omega), lv_even, lv_odd]
        have e4 : (0 : Int) - (k : Nat) - 1 = -(k : Nat) - 1 := by omega
        rw [e4]
        simp only [List.append_assoc]
        rfl
      · rintro ρ ⟨_, c2, c3, rfl⟩
        simp?! [List.take_length]
    · cases h
  · cases h
/-! ### words from a point on -/
def wD (w : List Nat) : D := .tup (w.map fun i => .int (lv i))
def kQ (Q : QL) : List Key := Q.map fun e => Sum.inl (e.1 : Int)
def vQ (Q : QL) : List D := Q.map fun e => wD e.2
def pQ (Q : QL) : List D := Q.map fun e => iD e.1
theorem find_Q (x : Nat) : ∀ Q : QL, findK (kQ Q) (vQ Q) (Sum.inl (x : Int)) = (Q.lookup x).map wD
  | [] => rfl
  | e :: Q => by
    show (if (Sum.inl (e.1 : Int) : Key) = Sum.inl (x : Int) then some (wD e.2) else findK (kQ Q) (vQ Q) (Sum.inl (x : Int))) = ((e :: Q).lookup x).map wD
    obtain ⟨k, w⟩ := e
    rw [List.lookup_cons]
    by_cases h : x = k
    · subst h
      rw [if_pos rfl, beq_self_eq_true]; rfl
    · rw [if_neg (fun z => h (by injection z with z; omega)), beq_eq_false_iff_ne.mpr h, find_Q x Q]
theorem lookup_isSome {x : Nat} : ∀ {Q : QL}, (Q.lookup x).isSome = decide (x ∈ Q.map (·.1))
  | [] => by simp
  | (k, w) :: Q => by
    rw [List.lookup_cons]
    by_cases h : x = k
    · subst h; rw [beq_self_eq_true]; simp
    · rw [beq_eq_false_iff_ne.mpr h, lookup_isSome]; simp [h]
theorem f_inQ {x : Nat} {Q : QL} : inD (.int (x : Nat)) (.dK (kQ Q) (vQ Q)) = some (decide (x ∈ Q.map (·.1))) := by
  show some (findK (kQ Q) (vQ Q) (Sum.inl (x : Int))).isSome = _
  rw [find_Q, Option.isSome_map, lookup_isSome]
theorem f_ixQ {x : Nat} {Q : QL} {w : List Nat} (h : Q.lookup x = some w) : ixD (.dK (kQ Q) (vQ Q)) (.int (x : Nat)) = some (.tup (w.map fun i => .int (lv i))) := by
  show (some (Sum.inl (x : Int) : Key)).bind (findK (kQ Q) (vQ Q)) = _
  show findK (kQ Q) (vQ Q) (Sum.inl (x : Int)) = _
  rw [find_Q, h]; rfl
theorem kQ_mem {x : Nat} {Q : QL} : (Sum.inl (x : Int) : Key) ∈ kQ Q ↔ x ∈ Q.map (·.1) := by
  unfold kQ
  rw [List.mem_map, List.mem_map]
  constructor
  · rintro ⟨e, he, q⟩
    exact ⟨e, he, by injection q with q; omega⟩
  · rintro ⟨e, he, rfl⟩
    exact ⟨e, he, rfl⟩
theorem f_setQ {x : Nat} {Q : QL} {w : List Nat} (h : x ∉ Q.map (·.1)) (hl : Q.length ≤ 100000) : setO (.dK (kQ Q) (vQ Q)) (.int (x : Nat)) (.tup (w.map fun i => .int (lv i))) = some (.dK (kQ (Q ++ [(x, w)])) (vQ (Q ++ [(x, w)]))) := by
  show (if (kQ Q).length < sizeLine then some (O.dK (putD (kQ Q) (vQ Q) (Sum.inl (x : Int)) (wD w)).1 (putD (kQ Q) (vQ Q) (Sum.inl (x : Int)) (wD w)).2) else none) = _
  have hbig := big
  rw [if_pos (by unfold kQ; rw [List.length_map]; omega)]
  unfold putD
  rw [if_neg (fun z => h (kQ_mem.mp z))]
  simp only [kQ, vQ, List.map_append]
  rfl
theorem f_ixP {Q : QL} {n : Nat} {e : Nat × List Nat} (h : Q[n]? = some e) : ixD (.lst (pQ Q)) (.int (n : Nat)) = some (.int (e.1 : Nat)) := by
  refine K01.atI_nat ?_
  unfold pQ
  rw [List.getElem?_map, h]; rfl
theorem pQ_snoc (Q : QL) (x : Nat) (w : List Nat) : pQ (Q ++ [(x, w)]) = pQ Q ++ [.int (x : Nat)] := by
  unfold pQ; rw [List.map_append]; rfl
def m_words_from : Mir
  | [.val (.ins 50 ["amount", "makers"] [.int n, .lst gs]), .val (.int a)] => if goodG n gs = true ∧ 0 ≤ a ∧ a < n then some (.ok (.own (.dK (kQ (wrd (lts (gs.map nats)) n.toNat a.toNat)) (vQ (wrd (lts (gs.map nats)) n.toNat a.toNat))))) else none
  | _ => none
def n_words_from : List Str := ["group", "point", "letters", "found", "waiting", "at", "here", "letter", "turn"]
def b_words_from : List S := [.asg 2 (.call "letters_of" m_letters_of [(.var 0)]),
  .frz 2,
  .asg 3 (.dict1 (.var 1) (.tup [])),
  .asg 4 (.lst [(.var 1)]),
  .asg 5 (.cst (.int 0)),
  .while_ (.op .lt (.var 5) (.blt bLen [(.var 4)])) [.asg 6 (.ix (.var 4) (.var 5)), .for_ (.tup [7, 8]) (.var 2) [.ifs (.op .notin (.ix (.var 8) (.var 6)) (.var 3)) [.setx 3 (.ix (.var 8) (.var 6)) (.op .add (.ix (.var 3) (.var 6)) (.tup [(.var 7)])), .app 4 (.ix (.var 8) (.var 6))] []], .augA 5 (.cst (.int 1))],
  .retV 3]
theorem w_words_from : ∀ cs r, m_words_from cs = some r → wps b_words_from (DsOf r) (start0 n_words_from cs) := by
  intro cs r h
  refine of_jps ?_
  unfold m_words_from at h
  split at h
  · rename_i n gs a
    split at h
    · rename_i hg
      obtain ⟨hg, ha0, han⟩ := hg
      cases h
      have hlet : m_letters_of [.val (.ins 50 ["amount", "makers"] [.int n, .lst gs])] = M.ok (.own (.lst (ltD (lts (gs.map nats))))) := if_pos hg
      have G := gr_of hg
      generalize gs.map nats = ps at G hlet ⊢
      have C0 := G.clo
      obtain ⟨hn, rfl, hpm, n1, n2, l1, l2⟩ := G
      generalize n.toNat = N at *
      subst hn
      obtain ⟨x0, rfl⟩ : ∃ x0 : Nat, a = x0 := ⟨a.toNat, by omega⟩
      rw [Int.toNat_natCast]
      have hx0 : x0 < N := by omega
      show jps b_words_from _ [.val (.ins 50 ["amount", "makers"] [.int (N : Nat), .lst (ps.map tD)]), .val (.int (x0 : Nat)), .un, .un, .un, .un, .un, .un, .un]
      have hbig := big
      have hTl : (lts ps).length ≤ 132 := by rw [lts_length]; omega
      generalize lts ps = T at *
      have e0 : kQ (bfs T x0 0) = [Sum.inl (x0 : Int)] := rfl
      have e1 : vQ (bfs T x0 0) = [.tup []] := rfl
      have e2 : pQ (bfs T x0 0) = [.int (x0 : Nat)] := rfl
      have key : keyD (.int (x0 : Nat)) = some (Sum.inl (x0 : Int)) := rfl
      have hd1 : d1M (.tup []) (some (Sum.inl (x0 : Int))) = M.ok (.own (.dK [Sum.inl (x0 : Int)] [.tup []])) := rfl
      simp?! [b_words_from, hlet, key, hd1]
      refine while_m (fun m ρ => ∃ k c6 c7 c8, m = N - k ∧ k ≤ (bfs T x0 k).length ∧ ρ = [.val (.ins 50 ["amount", "makers"] [.int (N : Nat), .lst (ps.map tD)]), .val (.int (x0 : Nat)), .val (.lst (ltD T)), .own (.dK (kQ (bfs T x0 k)) (vQ (bfs T x0 k))), .own (.lst (pQ (bfs T x0 k))), .val (.int (k : Nat)), c6, c7, c8]) N ⟨0, _, _, _, rfl, Nat.zero_le _, by rw [e0, e1, e2]; rfl⟩ ?_
      rintro m ρ ⟨k, c6, c7, c8, rfl, hk, rfl⟩
      have iv := inv_bfs C0.toTok hx0 k hk
      have hQN := inv_len iv
      have hPl : (pQ (bfs T x0 k)).length = (bfs T x0 k).length := by unfold pQ; rw [List.length_map]
      simp?! [f_lenL, hPl, ifP_b]
      refine ⟨fun hlt => ?_, fun hge => ?_⟩
      · have hlt : k < (bfs T x0 k).length := by simpa using hlt
        intro Q hQ
        obtain ⟨e, he⟩ : ∃ e, (bfs T x0 k)[k]? = some e := ⟨_, List.getElem?_eq_getElem hlt⟩
        have hstep := bfs_succ he
        obtain ⟨x, w⟩ := e
        have hx := iv.lt _ (List.mem_of_getElem? he)
        have eP := f_ixP he
        simp?! [eP]
        refine for_cnt _ _ (fun j ρ => j ≤ T.length ∧ ∃ c7 c8, ρ = [.val (.ins 50 ["amount", "makers"] [.int (N : Nat), .lst (ps.map tD)]), .val (.int (x0 : Nat)), .val (.lst (ltD T)), .own (.dK (kQ (inn T x w (bfs T x0 k) j)) (vQ (inn T x w (bfs T x0 k) j))), .own (.lst (pQ (inn T x w (bfs T x0 k) j))), .val (.int (k : Nat)), .val (.int (x : Nat)), c7, c8]) ⟨Nat.zero_le _, _, _, rfl⟩ ?_ ?_
        · rintro j ρ Q2 hj ⟨_, c7, c8, rfl⟩ hQ2
          obtain ⟨iv2, at2⟩ := inv_inn C0.toTok iv he j (by omega)
          have hl2 := inv_len iv2
          obtain ⟨t1, t2⟩ := C0.pm j hj
          have eT : pairL T j = .tup [.int (lv j), .tup ((tn T j).map iD)] := rfl
          have eX : ixD (.tup ((tn T j).map iD)) (.int (x : Nat)) = some (.int (nx (tn T j) x : Nat)) := f_ixT (by have : x < N := hx; omega)
          have hlk : (inn T x w (bfs T x0 k) j).lookup x = some w := mem_lookup iv2.nd (List.mem_of_getElem? at2)
          have eW := f_ixQ hlk
          have hwl : w.length ≤ 100000 := by
            have h1 := (inv_inn C0.toTok iv he j (by omega)).1
            have hwN : w.length ≤ N := len_bound C0.toTok hx0 hk (List.mem_of_getElem? he)
            omega
          have hPl2 : (pQ (inn T x w (bfs T x0 k) j)).length = (inn T x w (bfs T x0 k) j).length := by unfold pQ; rw [List.length_map]
          have hsucc := inn_succ T x w (bfs T x0 k) j
          unfold inS at hsucc
          simp?! [eT, eX, f_inQ, ifP_b]
          refine ⟨fun hb => ?_, fun hb => ?_⟩
          · have hno : nx (tn T j) x ∉ (inn T x w (bfs T x0 k) j).map (·.1) := by simpa using hb
            rw [if_neg hno] at hsucc
            have eS := f_setQ (w := w ++ [j]) hno (by omega)
            rw [List.map_append, List.map_cons, List.map_nil] at eS
            have hwm : (w.map fun i => D.int (lv i)).length = w.length := List.length_map _
            simp?! [eX, eW, hwm, eS, hPl2]
            refine ⟨by omega, hQ2 _ ⟨hj, .val (.int (lv j)), .val (.tup ((tn T j).map iD)), ?_⟩⟩
            rw [hsucc, pQ_snoc]
          · have hyes : nx (tn T j) x ∈ (inn T x w (bfs T x0 k) j).map (·.1) := by simpa using hb
            rw [if_pos hyes] at hsucc
            refine hQ2 _ ⟨hj, .val (.int (lv j)), .val (.tup ((tn T j).map iD)), ?_⟩
            rw [hsucc]
        · rintro ρ ⟨_, c7, c8, rfl⟩
          simp?!
          have hge2 : k + 1 ≤ (bfs T x0 (k + 1)).length := by
            have := grow hlt
            omega
          refine hQ (N - (k + 1)) _ (by omega) ⟨k + 1, .val (.int (x : Nat)), c7, c8, rfl, hge2, ?_⟩
          rw [hstep]
          rfl
      · have hge : (bfs T x0 k).length ≤ k := by simpa using hge
        have hend : wrd T N x0 = bfs T x0 k := by
          have h2 := bfs_stop hge (N - k)
          unfold wrd
          rwa [show k + (N - k) = N by omega] at h2
        simp?! [hend]
    · cases h
  · cases h
end KO

set_option Elab.async false
set_option linter.all false
set_option autoImplicit false
/-! Turns drawn: parts, rounds, turned about. No program in sight. -/
namespace VP
theorem nd_map {l : List Nat} {f : Nat → Nat} (h : l.Nodup) (hf : ∀ a ∈ l, ∀ b ∈ l, f a = f b → a = b) : (l.map f).Nodup := by
  rw [List.Nodup, List.pairwise_map]
  exact h.imp_of_mem fun {a b} ha hb hab hc => hab (hf a ha b hb hc)
theorem pm_app {p : List Nat} (hp : Pm p) (m : Nat) : Pm (p ++ (List.range m).map fun i => p.length + i) := by
  refine pm_of ?_ fun y hy => ?_
  · rw [List.nodup_append]
    refine ⟨pm_nodup hp, nd_map List.nodup_range fun a _ b _ e => by omega, fun a ha b hb e => ?_⟩
    obtain ⟨i, _, rfl⟩ := List.mem_map.mp hb
    have := mem_lt hp ha
    omega
  · rw [List.length_append, List.length_map, List.length_range]
    rcases List.mem_append.mp hy with h | h
    · have := mem_lt hp h; omega
    · obtain ⟨i, hi, rfl⟩ := List.mem_map.mp h
      have := List.mem_range.mp hi
      omega
theorem mod_inj {s t i j : Nat} (hi : i < s) (hj : j < s) (e : (i + t) % s = (j + t) % s) : i = j := by
  have h1 := Nat.sub_mod_eq_zero_of_mod_eq e
  have h2 := Nat.sub_mod_eq_zero_of_mod_eq e.symm
  have e1 : i + t - (j + t) = i - j := by omega
  have e2 : j + t - (i + t) = j - i := by omega
  rw [e1, Nat.mod_eq_of_lt (by omega)] at h1
  rw [e2, Nat.mod_eq_of_lt (by omega)] at h2
  omega
theorem pm_rot (s t : Nat) : Pm ((List.range s).map fun i => (i + t) % s) := by
  refine pm_of (nd_map List.nodup_range fun a ha b hb e => mod_inj (List.mem_range.mp ha) (List.mem_range.mp hb) e) fun y hy => ?_
  obtain ⟨i, hi, rfl⟩ := List.mem_map.mp hy
  have := List.mem_range.mp hi
  rw [List.length_map, List.length_range]
  exact Nat.mod_lt _ (by omega)
theorem pm_rev {n s : Nat} (h : s ≤ n) : Pm (List.range (n - s) ++ (List.range s).map fun j => n - 1 - j) := by
  refine pm_of ?_ fun y hy => ?_
  · rw [List.nodup_append]
    refine ⟨List.nodup_range, nd_map List.nodup_range fun a ha b hb e => ?_, fun a ha b hb e => ?_⟩
    · have := List.mem_range.mp ha
      have := List.mem_range.mp hb
      omega
    · have h1 := List.mem_range.mp ha
      obtain ⟨j, hj, rfl⟩ := List.mem_map.mp hb
      have := List.mem_range.mp hj
      omega
  · rw [List.length_append, List.length_map, List.length_range, List.length_range]
    rcases List.mem_append.mp hy with hm | hm
    · have := List.mem_range.mp hm; omega
    · obtain ⟨j, hj, rfl⟩ := List.mem_map.mp hm
      have := List.mem_range.mp hj
      omega
end VP

set_option Elab.async false
set_option linter.all false
set_option autoImplicit false
set_option maxRecDepth 100000
set_option maxHeartbeats 4000000
/-! KO: ways, orbits as they are told; groups drawn. -/
-- <M2>
local macro_rules
  | `(tactic| simp?! [$as,*] $[$l:location]?) => `(tactic| simp (implicitDefEqProofs := false) (disch := first | assumption | decide | omega) only [VS.ifP_b, VS.iteM_t, VS.iteM_f, VS.vr_val, VS.vr_own, VS.vr_bor, VS.lc_map, VS.consO_s, VS.consO_n, VS.lc_lit, VS.lcF_ok, VS.col_cons, VS.col_nil, VS.lc_lit0, VS.lcA_some, VS.szM_ok, VS.szO_ok, VS.szO_lit, VS.szM_lit, VS.x_var, VS.x_cst, VS.x_gl, VS.x_tup, VS.x_lst, VS.x_op, VS.x_chain, VS.x_neg, VS.x_not, VS.x_and, VS.x_or, VS.x_ite, VS.iteM_and, VS.iteM_or, VS.x_ix, VS.x_sl, VS.x_rev, VS.x_lc, VS.x_turn, VS.iteM_opt, VS.x_c0, VS.x_c1, VS.x_call, VS.x_make, VS.x_meth, VS.x_blt, VS.x_mth, VS.x_fld, VS.x_isi, VS.x_lstR, VS.x_lstR2, VS.x_dK, VS.x_d1, VS.x_g2, VS.x_spec, VS.x_callV, VS.x_rng, VS.x_enum, VS.x_revR, VS.x_str, VS.x_evs0, VS.x_evs1, VS.x_esp, VS.k_lv, VS.k_lo, VS.k_lb, VS.k_ll, VS.k_le, VS.k_kv, VS.k_ko, VS.k_ke, VS.k_f1, VS.k_f2, VS.k_av, VS.k_ao, VS.k_ab, VS.k_al, VS.k_sv, VS.k_so, VS.k_la0, VS.k_la1, VS.k_la2, VS.k_ka0, VS.k_ka1, VS.k_sq1, VS.k_sq2, VS.k_sq3, VS.k_sq4, VS.k_sq5, VS.k_er, VS.k_r1, VS.k_r2, VS.k_o1, VS.k_b1, VS.k_b2, VS.k_b3, VS.k_b4, VS.k_w0, VS.k_w1, VS.k_ts1, VS.k_ts2, VS.k_ch1, VS.k_ch2, VS.k_not, VS.k_neg, VS.k_tst, VS.k_po, VS.k_n1, VS.k_n2, VS.k_n3, VS.k_n4, VS.k_n5, VS.k_n6, VS.k_rv, VS.k_strM, VS.o_add, VS.o_sub, VS.o_fdiv, VS.o_mod, VS.o_mulL, VS.o_mulR, VS.o_lt, VS.o_le, VS.o_gt, VS.o_ge, VS.o_eq, VS.o_ne, VS.o_is, VS.o_isn, VS.o_in, VS.o_nin, VS.o_addL, VS.o_addT, VS.o_addS, VS.k_isE, VS.k_isV, VS.x_cons, VS.x_nil, VS.x_asg, VS.x_unp, VS.appP_1, VS.x_app, VS.x_ownAt, VS.ownO_1, VS.lstD_1, VS.dKD_1, VS.extP_1, VS.x_ext, VS.x_clr, VS.augP_1, VS.x_augA, VS.popP_1, VS.x_apop, VS.x_setx, VS.x_frz, VS.x_ret, VS.x_retV, VS.x_ex, VS.x_ifs, VS.x_for, VS.x_raise, VS.x_sp, List.set_cons_zero, List.set_cons_succ, List.getElem?_cons_zero, List.getElem?_cons_succ, Option.bind_some, Option.map_some, if_true, ite_true, ite_false, VS.M.bind_ok, VS.M.lift_some', eq_self, forall_const, true_implies, false_implies, Bool.true_eq_false, Bool.false_eq_true, and_true, true_and, Bool.true_and, Bool.and_true, Bool.false_and, Bool.and_false, Bool.or_false, Bool.false_or, Bool.or_true, Bool.true_or, Bool.not_true, Bool.not_false, Bool.not_not, decide_true, decide_false, if_false, reduceIte, Int.natCast_zero, List.length_cons, List.length_nil, List.length_map, exists_eq_left', VS.DsOf, reduceCtorEq, implies_true, List.nil_append, List.append_nil, VS.bind_ok, VS.lift_some, Nat.reduceAdd, Nat.reduceLeDiff, List.cons_append, List.length_append, List.length_range, List.length_take, List.length_drop, List.map_cons, List.map_nil, exists_prop, and_self, not_true, VS.sub, Nat.reduceBEq, beq_self_eq_true, not_false_eq_true, ne_eq, Option.some.injEq, K01.iD, K01.tD, KX.f_in, KX.f_lenL, KX.f_lenT, KX.f_lenD, KX.f_tupL, KX.f_tupT, KX.f_lstL, KX.f_lstT, KX.f_min, KX.f_rng, KX.f_rng2, KX.f_lstR, KX.f_eqI, KX.f_ixT, KX.f_ixL, KX.f_ix0, KX.f_ix0t, KX.f_ix1t, KX.f_ix1, KX.f_last, KX.f_isn, KX.f_isE, KX.f_isN, KX.f_isI, KX.f_isT, KX.f_isB, KX.f_tt, KX.f_tl, KX.f_ib, KX.f_ii, KX.f_ts, KX.f_mixed, $as,*] $[$l]?)
local macro_rules
  | `(tactic| simp?! $[$l:location]?) => `(tactic| simp (implicitDefEqProofs := false) (disch := first | assumption | decide | omega) only [VS.ifP_b, VS.iteM_t, VS.iteM_f, VS.vr_val, VS.vr_own, VS.vr_bor, VS.lc_map, VS.consO_s, VS.consO_n, VS.lc_lit, VS.lcF_ok, VS.col_cons, VS.col_nil, VS.lc_lit0, VS.lcA_some, VS.szM_ok, VS.szO_ok, VS.szO_lit, VS.szM_lit, VS.x_var, VS.x_cst, VS.x_gl, VS.x_tup, VS.x_lst, VS.x_op, VS.x_chain, VS.x_neg, VS.x_not, VS.x_and, VS.x_or, VS.x_ite, VS.iteM_and, VS.iteM_or, VS.x_ix, VS.x_sl, VS.x_rev, VS.x_lc, VS.x_turn, VS.iteM_opt, VS.x_c0, VS.x_c1, VS.x_call, VS.x_make, VS.x_meth, VS.x_blt, VS.x_mth, VS.x_fld, VS.x_isi, VS.x_lstR, VS.x_lstR2, VS.x_dK, VS.x_d1, VS.x_g2, VS.x_spec, VS.x_callV, VS.x_rng, VS.x_enum, VS.x_revR, VS.x_str, VS.x_evs0, VS.x_evs1, VS.x_esp, VS.k_lv, VS.k_lo, VS.k_lb, VS.k_ll, VS.k_le, VS.k_kv, VS.k_ko, VS.k_ke, VS.k_f1, VS.k_f2, VS.k_av, VS.k_ao, VS.k_ab, VS.k_al, VS.k_sv, VS.k_so, VS.k_la0, VS.k_la1, VS.k_la2, VS.k_ka0, VS.k_ka1, VS.k_sq1, VS.k_sq2, VS.k_sq3, VS.k_sq4, VS.k_sq5, VS.k_er, VS.k_r1, VS.k_r2, VS.k_o1, VS.k_b1, VS.k_b2, VS.k_b3, VS.k_b4, VS.k_w0, VS.k_w1, VS.k_ts1, VS.k_ts2, VS.k_ch1, VS.k_ch2, VS.k_not, VS.k_neg, VS.k_tst, VS.k_po, VS.k_n1, VS.k_n2, VS.k_n3, VS.k_n4, VS.k_n5, VS.k_n6, VS.k_rv, VS.k_strM, VS.o_add, VS.o_sub, VS.o_fdiv, VS.o_mod, VS.o_mulL, VS.o_mulR, VS.o_lt, VS.o_le, VS.o_gt, VS.o_ge, VS.o_eq, VS.o_ne, VS.o_is, VS.o_isn, VS.o_in, VS.o_nin, VS.o_addL, VS.o_addT, VS.o_addS, VS.k_isE, VS.k_isV, VS.x_cons, VS.x_nil, VS.x_asg, VS.x_unp, VS.appP_1, VS.x_app, VS.x_ownAt, VS.ownO_1, VS.lstD_1, VS.dKD_1, VS.extP_1, VS.x_ext, VS.x_clr, VS.augP_1, VS.x_augA, VS.popP_1, VS.x_apop, VS.x_setx, VS.x_frz, VS.x_ret, VS.x_retV, VS.x_ex, VS.x_ifs, VS.x_for, VS.x_raise, VS.x_sp, List.set_cons_zero, List.set_cons_succ, List.getElem?_cons_zero, List.getElem?_cons_succ, Option.bind_some, Option.map_some, if_true, ite_true, ite_false, VS.M.bind_ok, VS.M.lift_some', eq_self, forall_const, true_implies, false_implies, Bool.true_eq_false, Bool.false_eq_true, and_true, true_and, Bool.true_and, Bool.and_true, Bool.false_and, Bool.and_false, Bool.or_false, Bool.false_or, Bool.or_true, Bool.true_or, Bool.not_true, Bool.not_false, Bool.not_not, decide_true, decide_false, if_false, reduceIte, Int.natCast_zero, List.length_cons, List.length_nil, List.length_map, exists_eq_left', VS.DsOf, reduceCtorEq, implies_true, List.nil_append, List.append_nil, VS.bind_ok, VS.lift_some, Nat.reduceAdd, Nat.reduceLeDiff, List.cons_append, List.length_append, List.length_range, List.length_take, List.length_drop, List.map_cons, List.map_nil, exists_prop, and_self, not_true, VS.sub, Nat.reduceBEq, beq_self_eq_true, not_false_eq_true, ne_eq, Option.some.injEq, K01.iD, K01.tD, KX.f_in, KX.f_lenL, KX.f_lenT, KX.f_lenD, KX.f_tupL, KX.f_tupT, KX.f_lstL, KX.f_lstT, KX.f_min, KX.f_rng, KX.f_rng2, KX.f_lstR, KX.f_eqI, KX.f_ixT, KX.f_ixL, KX.f_ix0, KX.f_ix0t, KX.f_ix1t, KX.f_ix1, KX.f_last, KX.f_isn, KX.f_isE, KX.f_isN, KX.f_isI, KX.f_isT, KX.f_isB, KX.f_tt, KX.f_tl, KX.f_ib, KX.f_ii, KX.f_ts, KX.f_mixed] $[$l]?)
-- </M2>
namespace KO
open PySem L2 VS VP K01 K02 KX KG WY
def wayD (T : List (List Nat)) (N a b : Nat) : D := match wof T N a b with
  | some w => .tup (w.map fun i => .int (lv i))
  | none => .non
def m_way : Mir
  | [.val (.ins 50 ["amount", "makers"] [.int n, .lst gs]), .val a, .val b] => if goodG n gs = true ∧ plainD a = true ∧ plainD b = true then
      (if ptB n a = false ∨ ptB n b = false then some (.error 3) else some (.ok (.val (wayD (lts (gs.map nats)) n.toNat (natD a) (natD b))))) else none
  | _ => none
def n_way : List Str := ["group", "point", "other"]
def b_way : List S := [.ex (.call "need_point" m_need_point [(.var 0), (.var 1)]),
  .ex (.call "need_point" m_need_point [(.var 0), (.var 2)]),
  .ret (.dget2 (.call "words_from" m_words_from [(.var 0), (.var 1)]) (.var 2) (.cst .non))]
theorem need_ok {n : Int} {gs : List D} {d : D} (hp : plainD d = true) (h : ptB n d = true) : m_need_point [.val (.ins 50 ["amount", "makers"] [.int n, .lst gs]), .val d] = M.ok (.val .non) := by
  show (if _ then (if _ then _ else _) else _) = _
  rw [if_pos hp, if_pos h]
theorem need_er {n : Int} {gs : List D} {d : D} (hp : plainD d = true) (h : ptB n d = false) : m_need_point [.val (.ins 50 ["amount", "makers"] [.int n, .lst gs]), .val d] = some (.error 3) := by
  show (if _ then (if _ then _ else _) else _) = _
  rw [if_pos hp, if_neg (by rw [h]; exact Bool.false_ne_true)]
theorem pt_of {n : Int} {d : D} (h : ptB n d = true) : ∃ a : Nat, d = .int (a : Nat) ∧ (a : Int) < n := by
  cases d <;> first | (cases h; done) | skip
  rename_i i
  have h : 0 ≤ i ∧ i < n := by simpa [ptB] using h
  exact ⟨i.toNat, by congr 1; omega, by omega⟩
theorem words_ok {n : Int} {gs : List D} {a : Nat} (hg : goodG n gs = true) (ha : (a : Int) < n) : m_words_from [.val (.ins 50 ["amount", "makers"] [.int n, .lst gs]), .val (.int (a : Nat))] = M.ok (.own (.dK (kQ (wrd (lts (gs.map nats)) n.toNat a)) (vQ (wrd (lts (gs.map nats)) n.toNat a)))) := by
  show (if _ then _ else _) = _
  rw [if_pos ⟨hg, by omega, ha⟩, Int.toNat_natCast]
theorem f_g2 {Q : QL} {b : Nat} : g2M (M.ok (.int (b : Nat))) (M.ok .non) (.dK (kQ Q) (vQ Q)) = M.ok (.val (match Q.lookup b with | some w => .tup (w.map fun i => .int (lv i)) | none => .non)) := by
  show M.ok (C.val ((findK (kQ Q) (vQ Q) (Sum.inl (b : Int))).getD .non)) = _
  rw [find_Q]
  cases Q.lookup b <;> rfl
theorem w_way : ∀ cs r, m_way cs = some r → wps b_way (DsOf r) (start0 n_way cs) := by
  intro cs r h
  refine of_jps ?_
  unfold m_way at h
  split at h
  · rename_i n gs a b
    split at h
    · rename_i hh
      obtain ⟨hg, hpa, hpb⟩ := hh
      show jps b_way _ [.val (.ins 50 ["amount", "makers"] [.int n, .lst gs]), .val a, .val b]
      by_cases ha : ptB n a = true
      · by_cases hb : ptB n b = true
        · rw [if_neg (by rw [ha, hb]; simp)] at h
          cases h
          have e1 := need_ok (n := n) (gs := gs) hpa ha
          have e2 := need_ok (n := n) (gs := gs) hpb hb
          obtain ⟨a, rfl, ha2⟩ := pt_of ha
          obtain ⟨b, rfl, hb2⟩ := pt_of hb
          have e3 := words_ok hg ha2
          have na : natD (.int (a : Nat)) = a := by show ((a : Int)).toNat = a; omega
          have nb : natD (.int (b : Nat)) = b := by show ((b : Int)).toNat = b; omega
          simp?! [b_way, e1, e2, e3, f_g2, na, nb]
          rfl
        · have hb : ptB n b = false := by simpa using hb
          rw [if_pos (.inr hb)] at h
          cases h
          have e1 := need_ok (n := n) (gs := gs) hpa ha
          have e2 := need_er (n := n) (gs := gs) hpb hb
          simp?! [b_way, e1, e2]
      · have ha : ptB n a = false := by simpa using ha
        rw [if_pos (.inl ha)] at h
        cases h
        have e1 := need_er (n := n) (gs := gs) hpa ha
        simp?! [b_way, e1]
    · cases h
  · cases h
/-- an orbit, rising -/
def orb (T : List (List Nat)) (N a : Nat) : List Nat := (List.range N).filter fun x => decide (x ∈ (wrd T N a).map (·.1))
def m_orbit : Mir
  | [.val (.ins 50 ["amount", "makers"] [.int n, .lst gs]), .val a] => if goodG n gs = true ∧ plainD a = true then
      (if ptB n a = false then some (.error 3) else some (.ok (.own (.lst ((orb (lts (gs.map nats)) n.toNat (natD a)).map iD))))) else none
  | _ => none
def n_orbit : List Str := ["group", "point"]
def b_orbit : List S := [.ex (.call "need_point" m_need_point [(.var 0), (.var 1)]),
  .ret (.blt bSortK [(.call "words_from" m_words_from [(.var 0), (.var 1)])])]
theorem sort_keys {T : List (List Nat)} {N a : Nat} (ok : Tok T N) (ha : a < N) (hN : N ≤ 12) : bSortK.f [.dK (kQ (wrd T N a)) (vQ (wrd T N a))] = some (.own (.lst ((orb T N a).map iD))) := by
  obtain ⟨n, _, _, _, iv⟩ := wrd_end ok ha
  have hl := inv_len iv
  have e1 : (kQ (wrd T N a)).map VS.keyOf = ((wrd T N a).map fun e => (e.1 : Int)).map D.int := by
    unfold kQ
    rw [List.map_map, List.map_map]; rfl
  show (if (kQ (wrd T N a)).length = (vQ (wrd T N a)).length ∧ (kQ (wrd T N a)).length < 64 then (intsD ((kQ (wrd T N a)).map VS.keyOf)).map _ else none) = _
  rw [if_pos ⟨by simp [kQ, vQ], by simp only [kQ, List.length_map]; omega⟩, e1, VS.ints_map]
  have e2 : (orb T N a).map (fun i : Nat => (i : Int)) = srt ((wrd T N a).map fun e => (e.1 : Int)) := by
    refine srt_eq ?_ ?_
    · have h2 : ((wrd T N a).map fun e => (e.1 : Int)) = ((wrd T N a).map (·.1)).map fun i : Nat => (i : Int) := by rw [List.map_map]; rfl
      rw [h2]
      refine List.Perm.map _ ((List.perm_ext_iff_of_nodup (List.nodup_range.filter _) iv.nd).mpr fun x => ?_)
      rw [List.mem_filter, List.mem_range, decide_eq_true_iff]
      constructor
      · exact fun h => h.2
      · intro h
        obtain ⟨e, he, rfl⟩ := List.mem_map.mp h
        exact ⟨iv.lt e he, h⟩
    · rw [List.pairwise_map]
      unfold orb
      exact (List.pairwise_lt_range.filter _).imp fun {a b} h => by omega
  show some (C.own (.lst ((srt ((wrd T N a).map fun e => (e.1 : Int))).map D.int))) = _
  rw [← e2, List.map_map]; rfl
theorem w_orbit : ∀ cs r, m_orbit cs = some r → wps b_orbit (DsOf r) (start0 n_orbit cs) := by
  intro cs r h
  refine of_jps ?_
  unfold m_orbit at h
  split at h
  · rename_i n gs a
    split at h
    · rename_i hh
      obtain ⟨hg, hpa⟩ := hh
      show jps b_orbit _ [.val (.ins 50 ["amount", "makers"] [.int n, .lst gs]), .val a]
      by_cases ha : ptB n a = true
      · rw [if_neg (by rw [ha]; simp)] at h
        cases h
        have e1 := need_ok (n := n) (gs := gs) hpa ha
        obtain ⟨a, rfl, ha2⟩ := pt_of ha
        have e3 := words_ok hg ha2
        have na : natD (.int (a : Nat)) = a := by show ((a : Int)).toNat = a; omega
        have G := gr_of hg
        have e4 := sort_keys G.clo.toTok (a := a) (by have := G.hn; omega) G.n2
        simp?! [b_orbit, e1, e3, e4, na]
      · have ha : ptB n a = false := by simpa using ha
        rw [if_pos ha] at h
        cases h
        have e1 := need_er (n := n) (gs := gs) hpa ha
        simp?! [b_orbit, e1]
    · cases h
  · cases h
/-! ### drawn -/
def sdF : List Int → Nat → Int → Int
  | [], _, s => s
  | c :: cs, k, s => sdF cs (k + 1) ((s * 999983 + mixed c ((k : Int).fmod 60)).fmod 2147483629)
def m__law_seed : Mir
  | [.bor (.lst xs)] => match intsD xs with
    | some ns => if ns.length ≤ 63 then some (.ok (.val (.int (sdF ns 0 7)))) else none
    | none => none
  | _ => none
def n__law_seed : List Str := ["_law_script", "_law_found", "_law_k", "_law_cell"]
def b__law_seed : List S := [.asg 1 (.cst (.int 7)),
  .for_ (.tup [2, 3]) (.iEnum (.var 0)) [.asg 1 (.op .mod (.op .add (.op .mul (.var 1) (.cst (.int 999983))) (.call "_law_mixed" m__law_mixed [(.var 3), (.op .mod (.var 2) (.cst (.int 60)))])) (.cst (.int 2147483629)))],
  .retV 1]
theorem w__law_seed : ∀ cs r, m__law_seed cs = some r → wps b__law_seed (DsOf r) (start0 n__law_seed cs) := by
  intro cs r h
  refine of_jps ?_
  unfold m__law_seed at h
  split at h
  · rename_i xs
    split at h
    · rename_i ns hns
      split at h
      · rename_i hlen
        cases h
        have hx := ints_of hns
        subst hx
        show jps b__law_seed _ [.bor (.lst (ns.map D.int)), .un, .un, .un]
        have hbig := big
        simp?! [b__law_seed]
        refine for_enum _ _ (fun i ρ => i ≤ ns.length ∧ ∃ v c2 c3, sdF (ns.drop i) i v = sdF ns 0 7 ∧ ρ = [.bor (.lst (ns.map D.int)), .val (.int v), c2, c3]) ⟨Nat.zero_le _, 7, _, _, rfl, rfl⟩ ?_ ?_
        · rintro i c ρ Q hc ⟨_, v, c2, c3, hv, rfl⟩ hQ
          have hi := (List.getElem?_eq_some_iff.mp hc).1
          obtain ⟨q1, q2⟩ := fm (i : Int) 60 (by decide)
          have hdr : ns.drop i = c :: ns.drop (i + 1) := by
            rw [List.drop_eq_getElem_cons hi]; congr 1; exact (List.getElem?_eq_some_iff.mp hc).2
          rw [hdr] at hv
          simp?!
          exact hQ _ ⟨hi, _, _, _, hv, rfl⟩
        · rintro ρ ⟨_, v, c2, c3, hv, rfl⟩
          rw [List.drop_length] at hv
          have hv : v = sdF ns 0 7 := hv
          simp?! [hv]
      · cases h
    · cases h
  · cases h
/-- some points go round -/
def spn (row : List Nat) (f n : Nat) (j : Nat) : List Nat := (List.range j).foldl (fun l p => l.set (nx row p) (nx row ((p + 1) % f))) (List.range n)
theorem spn_succ (row : List Nat) (f n j : Nat) : spn row f n (j + 1) = (spn row f n j).set (nx row j) (nx row ((j + 1) % f)) := by
  unfold spn; rw [List.range_succ, List.foldl_append]; rfl
theorem spn_len (row : List Nat) (f n : Nat) : ∀ j, (spn row f n j).length = n
  | 0 => by simp [spn]
  | j + 1 => by rw [spn_succ, List.length_set, spn_len]
theorem nx_range {n x : Nat} (h : x < n) : nx (List.range n) x = x := by
  unfold nx; rw [List.getD_eq_getElem?_getD, List.getElem?_range h]; rfl
theorem spn_at {row : List Nat} {f n : Nat} (hr : Pm row) (hn : row.length = n) {x : Nat} (hx : x < n) : ∀ j, j ≤ n → nx (spn row f n j) x = if row.idxOf x < j then nx row ((row.idxOf x + 1) % f) else x
  | 0, _ => by rw [if_neg (by omega)]; exact nx_range hx
  | j + 1, hj => by
    rw [spn_succ, nx_set (by rw [spn_len]; exact hx), spn_at hr hn hx j (by omega)]
    have e1 : nx row j = x ↔ row.idxOf x = j := by
      constructor
      · intro e; rw [← e]; exact idx_nx hr (by omega)
      · intro e; rw [← e]; exact nx_idx hr (by omega)
    by_cases h : nx row j = x
    · have := e1.mp h
      rw [if_pos h, if_pos (by omega), this]
    · have : row.idxOf x ≠ j := fun z => h (e1.mpr z)
      rw [if_neg h]
      by_cases h2 : row.idxOf x < j
      · rw [if_pos h2, if_pos (by omega)]
      · rw [if_neg h2, if_neg (by omega)]
theorem spn_pm {row : List Nat} {f n : Nat} (hr : Pm row) (hn : row.length = n) (hf : f ≤ n) (h0 : 0 < f) : Pm (spn row f n f) := by
  have hl := spn_len row f n f
  have at_ := fun {x : Nat} (hx : x < n) => spn_at (f := f) hr hn hx f hf
  have ix : ∀ {x : Nat}, x < n → row.idxOf x < n := fun hx => by have := idx_lt hr (i := _) (by rw [hn]; exact hx); omega
  have ml : ∀ i, (i + 1) % f < f := fun i => Nat.mod_lt _ h0
  have hlt : ∀ x, x < n → nx (spn row f n f) x < n := fun x hx => by
    rw [at_ hx]
    split
    · have := nx_lt hr (i := (row.idxOf x + 1) % f) (by have := ml (row.idxOf x); omega); omega
    · exact hx
  refine pm_of ?_ fun y hy => ?_
  · rw [← nx_all (spn row f n f), hl]
    refine nd_map List.nodup_range fun a ha b hb e => ?_
    have ha := List.mem_range.mp ha
    have hb := List.mem_range.mp hb
    rw [at_ ha, at_ hb] at e
    have back : ∀ {x : Nat}, x < n → nx row (row.idxOf x) = x := fun hx => nx_idx hr (by omega)
    by_cases h1 : row.idxOf a < f
    · rw [if_pos h1] at e
      by_cases h2 : row.idxOf b < f
      · rw [if_pos h2] at e
        have e2 := nx_inj hr (by have := ml (row.idxOf a); omega) (by have := ml (row.idxOf b); omega) e
        have e3 := mod_inj h1 h2 e2
        rw [← back ha, ← back hb, e3]
      · rw [if_neg h2] at e
        rw [← e, idx_nx hr (by have := ml (row.idxOf a); omega)] at h2
        exact absurd (ml _) h2
    · rw [if_neg h1] at e
      by_cases h2 : row.idxOf b < f
      · rw [if_pos h2] at e
        rw [e, idx_nx hr (by have := ml (row.idxOf b); omega)] at h1
        exact absurd (ml _) h1
      · rw [if_neg h2] at e
        exact e
  · rw [← nx_all (spn row f n f), hl] at hy
    obtain ⟨x, hx, rfl⟩ := List.mem_map.mp hy
    rw [hl]
    exact hlt x (List.mem_range.mp hx)
/-- the points by drawn numbers -/
def rowP (s : Int) (k n : Nat) : List (Int × Int) := (List.range n).map fun p : Nat => (mixed s (30 * (k : Int) + (p : Int)), (p : Int))
def row (s : Int) (k n : Nat) : List Nat := (srtP (rowP s k n)).map fun q => q.2.toNat
theorem row_ok (s : Int) (k n : Nat) : Pm (row s k n) ∧ (row s k n).length = n ∧ ∀ q ∈ srtP (rowP s k n), 0 ≤ q.2 := by
  have hp := srtP_perm (rowP s k n)
  have h1 : (row s k n).Perm (List.range n) := by
    refine (hp.map fun q => q.2.toNat).trans ?_
    unfold rowP
    rw [List.map_map]
    have : ((fun q : Int × Int => q.2.toNat) ∘ fun p : Nat => (mixed s (30 * (k : Int) + (p : Int)), (p : Int))) = id := by funext p; simp
    rw [this, List.map_id]
  have hl : (row s k n).length = n := by rw [h1.length_eq, List.length_range]
  refine ⟨by unfold Pm; rw [hl]; exact h1, hl, fun q hq => ?_⟩
  have := hp.mem_iff.mp hq
  unfold rowP at this
  obtain ⟨p, _, rfl⟩ := List.mem_map.mp this
  exact Int.natCast_nonneg _
def farN (n : Nat) (z : Int) : Nat := min n ([1, 1, 2, 2, 3, 2 + (((z.fdiv 6).fmod 5)).toNat].getD (z.fmod 6).toNat 1)
def drT (s : Int) (k n : Nat) : List Nat := if (mixed s (30 * (k : Int) + 20)).fmod 6 = 0 then row s k n else spn (row s k n) (farN n (mixed s (30 * (k : Int) + 20))) n (farN n (mixed s (30 * (k : Int) + 20)))
theorem farN_pos {n : Nat} (h : 1 ≤ n) (z : Int) : 0 < farN n z ∧ farN n z ≤ n := by
  unfold farN
  obtain ⟨h1, h2⟩ := fm z 6 (by decide)
  obtain ⟨i, hi⟩ : ∃ i : Nat, z.fmod 6 = i := ⟨(z.fmod 6).toNat, by omega⟩
  rw [hi, Int.toNat_natCast]
  have : i < 6 := by omega
  have : 0 < ([1, 1, 2, 2, 3, 2 + (((z.fdiv 6).fmod 5)).toNat] : List Nat).getD i 1 := by
    rcases (by omega : i = 0 ∨ i = 1 ∨ i = 2 ∨ i = 3 ∨ i = 4 ∨ i = 5) with rfl | rfl | rfl | rfl | rfl | rfl <;> simp <;> omega
  omega
theorem drT_ok (s : Int) (k : Nat) {n : Nat} (h : 1 ≤ n) : Pm (drT s k n) ∧ (drT s k n).length = n := by
  obtain ⟨h1, h2, _⟩ := row_ok s k n
  unfold drT
  split
  · exact ⟨h1, h2⟩
  · obtain ⟨f1, f2⟩ := farN_pos h (mixed s (30 * (k : Int) + 20))
    exact ⟨spn_pm h1 h2 f2 f1, spn_len _ _ _ _⟩
def m__law_turn : Mir
  | [.val (.int s), .val (.int k), .val (.int n)] => if 0 ≤ k ∧ k ≤ 30 ∧ 1 ≤ n ∧ n ≤ 12 then some (.ok (.val (.tup ((drT s k.toNat n.toNat).map iD)))) else none
  | _ => none
def n__law_turn : List Str := ["_law_seed_here", "_law_k", "_law_many", "_law_row", "_law_number", "_law_far_here", "_law_found", "_law_p", "_law_pair"]
def b__law_turn : List S := [.asg 3 (.lc (.one 8) (.blt bSortP [(.lc (.one 7) (.iRng [(.var 2)]) [] (.tup [(.call "_law_mixed" m__law_mixed [(.var 0), (.op .add (.op .mul (.cst (.int 30)) (.var 1)) (.var 7))]), (.var 7)]))]) [] (.ix (.var 8) (.cst (.int 1)))),
  .asg 4 (.call "_law_mixed" m__law_mixed [(.var 0), (.op .add (.op .mul (.cst (.int 30)) (.var 1)) (.cst (.int 20)))]),
  .ifs (.op .eq (.op .mod (.var 4) (.cst (.int 6))) (.cst (.int 0))) [.ret (.blt bTuple [(.var 3)])] [],
  .asg 5 (.blt bMin [(.var 2), (.ix (.lst [(.cst (.int 1)), (.cst (.int 1)), (.cst (.int 2)), (.cst (.int 2)), (.cst (.int 3)), (.op .add (.cst (.int 2)) (.op .mod (.op .fdiv (.var 4) (.cst (.int 6))) (.cst (.int 5))))]) (.op .mod (.var 4) (.cst (.int 6))))]),
  .asg 6 (.lstR false (.var 2)),
  .for_ (.one 7) (.iRng [(.var 5)]) [.setx 6 (.ix (.var 3) (.var 7)) (.ix (.var 3) (.op .mod (.op .add (.var 7) (.cst (.int 1))) (.var 5)))],
  .ret (.blt bTuple [(.var 6)])]
theorem f_sortP {ps : List (Int × Int)} : bSortP.f [.lst (ps.map pairI)] = some (.own (.lst ((srtP ps).map pairI))) := by
  show (pairsI (ps.map pairI)).map _ = _
  rw [pairsI_map]; rfl
theorem f_setI {l : List Nat} {i v : Nat} (h : i < l.length) : setO (.lst (l.map iD)) (.int (i : Nat)) (.int (v : Nat)) = some (.lst ((l.set i v).map iD)) := by
  show (ixN (l.map iD).length (i : Int)).map _ = _
  unfold ixN
  rw [if_pos (by omega), if_pos (by rw [List.length_map]; omega)]
  show some (O.lst ((l.map iD).set ((i : Int)).toNat (.int (v : Nat)))) = _
  rw [Int.toNat_natCast, List.map_set]; rfl
theorem w__law_turn : ∀ cs r, m__law_turn cs = some r → wps b__law_turn (DsOf r) (start0 n__law_turn cs) := by
  intro cs r h
  refine of_jps ?_
  unfold m__law_turn at h
  split at h
  · rename_i s k n
    split at h
    · rename_i hh
      cases h
      obtain ⟨k, rfl⟩ : ∃ j : Nat, k = j := ⟨k.toNat, by omega⟩
      obtain ⟨n, rfl⟩ : ∃ j : Nat, n = j := ⟨n.toNat, by omega⟩
      rw [Int.toNat_natCast, Int.toNat_natCast]
      show jps b__law_turn _ [.val (.int s), .val (.int (k : Nat)), .val (.int (n : Nat)), .un, .un, .un, .un, .un, .un]
      have hbig := big
      obtain ⟨r1, r2, r3⟩ := row_ok s k n
      have t1 : (false = true) = False := by simp
      simp?! [b__law_turn]
      rw [lcA_of (fun p : Nat => pairI (mixed s (30 * (k : Int) + (p : Int)), (p : Int))) fun p hp => by
        have := List.mem_range.mp hp
        simp?! [pairI]]
      have eM : ((List.range n).map fun p : Nat => pairI (mixed s (30 * (k : Int) + (p : Int)), (p : Int))) = (rowP s k n).map pairI := by unfold rowP; rw [List.map_map]; rfl
      rw [eM]
      have hsl : (srtP (rowP s k n)).length = n := by rw [(srtP_perm _).length_eq]; simp [rowP]
      simp?! [f_sortP]
      rw [lcA_of (fun q : Int × Int => iD q.2.toNat) fun q hq => by
        have h0 := r3 q hq
        have e1 : (q.2.toNat : Int) = q.2 := by omega
        simp?! [pairI, f_ix1t, e1]]
      have eR : (srtP (rowP s k n)).map (fun q => iD q.2.toNat) = (row s k n).map iD := by unfold row; rw [List.map_map]; rfl
      rw [eR, hsl]
      obtain ⟨Z, hZ⟩ : ∃ Z, mixed s (30 * (k : Int) + 20) = Z := ⟨_, rfl⟩
      unfold drT
      rw [hZ]
      obtain ⟨q1, q2⟩ := fm Z 6 (by decide)
      obtain ⟨q3, q4⟩ := fm (Z.fdiv 6) 5 (by decide)
      obtain ⟨f1, f2⟩ := farN_pos (n := n) (by omega) Z
      have eL : ixD (.lst [.int 1, .int 1, .int 2, .int 2, .int 3, .int (2 + (Z.fdiv 6).fmod 5)]) (.int (Z.fmod 6)) = some (.int (([1, 1, 2, 2, 3, 2 + (((Z.fdiv 6).fmod 5)).toNat].getD (Z.fmod 6).toNat 1 : Nat) : Int)) := by
        obtain ⟨i, hi⟩ : ∃ i : Nat, Z.fmod 6 = i := ⟨(Z.fmod 6).toNat, by omega⟩
        rw [hi, Int.toNat_natCast]
        have e5 : 2 + (Z.fdiv 6).fmod 5 = ((2 + ((Z.fdiv 6).fmod 5).toNat : Nat) : Int) := by omega
        rw [e5]
        rcases (by omega : i = 0 ∨ i = 1 ∨ i = 2 ∨ i = 3 ∨ i = 4 ∨ i = 5) with rfl | rfl | rfl | rfl | rfl | rfl
        all_goals exact K01.atI_nat rfl
      have eF : (if (([1, 1, 2, 2, 3, 2 + (((Z.fdiv 6).fmod 5)).toNat].getD (Z.fmod 6).toNat 1 : Nat) : Int) < (n : Int) then (([1, 1, 2, 2, 3, 2 + (((Z.fdiv 6).fmod 5)).toNat].getD (Z.fmod 6).toNat 1 : Nat) : Int) else (n : Int)) = ((farN n Z : Nat) : Int) := by
        unfold farN
        split <;> omega
      simp?! [hZ, ifP_b]
      by_cases h6 : Z.fmod 6 = 0
      · rw [if_pos h6]
        refine ⟨fun _ => ?_, fun hb => absurd h6 (by simpa using hb)⟩
        simp?!
      · rw [if_neg h6]
        refine ⟨fun hb => absurd (by simpa using hb) h6, fun _ => ?_⟩
        generalize farN n Z = F at f1 f2 eF ⊢
        simp?! [eL, eF, t1]
        refine for_cnt _ _ (fun j ρ => j ≤ F ∧ ∃ c7, ρ = [.val (.int s), .val (.int (k : Nat)), .val (.int (n : Nat)), .own (.lst ((row s k n).map iD)), .val (.int Z), .val (.int (F : Nat)), .own (.lst ((spn (row s k n) F n j).map iD)), c7, .un]) ⟨Nat.zero_le _, _, rfl⟩ ?_ ?_
        · rintro j ρ Q hj ⟨_, c7, rfl⟩ hQ
          have m1 : ((j : Int) + 1).fmod (F : Int) = (((j + 1) % F : Nat) : Int) := by
            rw [Int.fmod_eq_emod_of_nonneg _ (by omega), Int.natCast_emod]; rfl
          have m2 : (j + 1) % F < F := Nat.mod_lt _ f1
          have x1 : ixD (.lst ((row s k n).map iD)) (.int (j : Nat)) = some (.int (nx (row s k n) j : Nat)) := f_ixL (by omega)
          have x2 : ixD (.lst ((row s k n).map iD)) (.int ((j + 1) % F : Nat)) = some (.int (nx (row s k n) ((j + 1) % F) : Nat)) := f_ixL (by omega)
          have x3 := nx_lt r1 (i := j) (by omega)
          have x4 := f_setI (l := spn (row s k n) F n j) (i := nx (row s k n) j) (v := nx (row s k n) ((j + 1) % F)) (by rw [spn_len]; omega)
          have x5 : ((F : Int) = 0) = False := by simp; omega
          simp?! [x1, m1, x2, x4, x5]
          exact hQ _ ⟨hj, _, by rw [spn_succ]⟩
        · rintro ρ ⟨_, c7, rfl⟩
          simp?!
    · cases h
  · cases h
end KO

set_option Elab.async false
set_option linter.all false
set_option autoImplicit false
set_option maxRecDepth 100000
set_option maxHeartbeats 4000000
/-! VS: a lambda without parameters, handed to a def that calls it. -/
namespace VS
open PySem PySem.Spec PyProof.Rows L2

/-- how a thunk ends, as a cell -/
def outC : Except Nat D → Except Nat C
  | .ok d => .ok (.val d)
  | .error k => .error k
/-- the context in which number 99 names the thunk at f -/
def Ctx.th (G : Ctx) (f : Addr) (H Hs : Hp) : Ctx := { G with glb := fun i => if i = 99 then .ref f else G.glb i, root := H, rootS := Hs }
theorem th_99 {G : Ctx} {f : Addr} {H Hs : Hp} : (G.th f H Hs).glb 99 = .ref f := by simp [Ctx.th]
def tAct (G : Ctx) (W : WX) (i : Nat) (r : Except Nat D) : TE := fun σ H Q => ∃ H0 Hs0 Hs ρ, SR G H0 Hs0 σ H Hs ρ ∧ ρ[i]? = some (.val (.glb 99)) ∧ PostE G W H0 σ H Hs Q (outC r)
def actX (i : Nat) (r : Except Nat D) : XRp where
  P := fun G X => ∀ (pn : List (Addr × Obj)) (xe : Value → Shared → Prop) (W : WX) (a : Str) (p1 p2 : Pos), Takes (X.tr pn xe) W → X.N[i]? = some a → Vis X.env.scope a →
    (a == ("__debug__" : Str)) = false → (a == ("__classdict__" : Str)) = false → PE (X.tr pn xe) (.Call (.Name a p1) [] [] p2) (tAct G W i r)
  tr := fun h => h
def actChk (j : Option Nat) (i : Nat) (N : List Str) (sc : Scope) (st : Stmt) : Bool := match j, st with
  | none, .Expr (.Call (.Name x _) [] [] _) _ => decide (N[i]? = some x) && vis sc x && nmOk x
  | some j, .Assign [.Name y p] (.Call (.Name x _) [] [] _) _ => nmAt N sc true j (.Name y p) && decide (N[i]? = some x) && vis sc x && nmOk x
  | _, _ => false
def putO (j : Option Nat) (d : D) (ρ : List C) : List C := match j with
  | some j => ρ.set j (.val d)
  | none => ρ
def actO (j : Option Nat) (r : Except Nat D) (P : Ds) (ρ : List C) : Prop := match r with
  | .ok d => P.nx (putO j d ρ)
  | .error k => P.ex k ρ
def actW (j : Option Nat) (i : Nat) (r : Except Nat D) (P : Ds) (ρ : List C) : Prop := match ρ[i]? with
  | some (.val (.glb 99)) => actO j r P ρ
  | _ => False
theorem actW_of {j : Option Nat} {i : Nat} {r : Except Nat D} {P : Ds} {ρ : List C} (w : actW j i r P ρ) : ρ[i]? = some (.val (.glb 99)) ∧ actO j r P ρ := by
  unfold actW at w
  split at w
  · rename_i e; exact ⟨e, w⟩
  · exact w.elim
/-- a(), y = a() where a is the thunk -/
def actS (j : Option Nat) (i : Nat) (r : Except Nat D) : SSp where
  chk := actChk j i
  w := actW j i r
  refs := []
  exs := [.any (actX i r)]
  ok := fun {G X W N sc st} xk rf ex h => by
    have act := ex _ List.mem_cons_self
    have called : ∀ {x : Str} {p1 p2 : Pos}, N[i]? = some x → vis sc x = true → nmOk x = true → PE X (.Call (.Name x p1) [] [] p2) (tAct G W i r) := fun {x p1 p2} h1 h2 h3 => by
      simp only [nmOk, Bool.and_eq_true, Bool.not_eq_true'] at h3
      exact act X.pn X.xe W x p1 p2 xk.tk (by rw [xk.hN]; exact h1) (xk.vis h2) h3.1 h3.2
    unfold actChk at h
    split at h
    · simp only [Bool.and_eq_true, decide_eq_true_eq] at h
      refine (ps_expr (called h.1.1 h.1.2 h.2) (swaps_plain rfl)).imp fun D σ H ⟨H0, Hs0, Hs, ρ, P, sr, w, L⟩ => ?_
      obtain ⟨e, w⟩ := actW_of w
      refine ⟨H0, Hs0, Hs, ρ, sr, e, ?_⟩
      cases r with
      | ok d => exact fun v H' Hs' st rc => L.nx σ H' Hs' ρ (sr.step st) w
      | error k => exact L.erP sr w
    · rename_i j y p x q p2 sp
      simp only [Bool.and_eq_true, decide_eq_true_eq] at h
      obtain ⟨⟨⟨h1, h2⟩, h3⟩, h4⟩ := h
      obtain ⟨hj, hl⟩ := nm_kind h1
      have hlc : Loc X.env.scope y := by
        rw [xk.hsc]
        rcases hl with hl | ⟨_, hl⟩
        · exact .inl hl
        · exact .inr hl
      rw [← xk.hN] at hj
      refine (ps_set (i := j) xk.nd hj hlc (called h2 h3 h4) (swaps_plain rfl) (.inl (xk.fn y))).imp fun D σ H ⟨H0, Hs0, Hs, ρ, P, sr, w, L⟩ => ?_
      obtain ⟨e, w⟩ := actW_of w
      refine ⟨H0, Hs0, Hs, ρ, sr, e, ?_⟩
      cases r with
      | ok d => exact fun v H' Hs' st rc => L.nx _ H' Hs' _ (sr.store st rc rfl j) w
      | error k => exact L.erP sr w
    · cases h

/-! ### the lambda is made -/
section
variable {X : Cx} {pins : List (Addr × Obj)} {σ : L2.St} {H : Hp} {s : Shared}
/-- the new function, its code object, the table as it is behind -/
theorem lam_new {T : List (Addr × Str)} {c P : Addr} {ps : Arguments} {bd : Expr} {sc : Scope} {pos : Pos} {E Q : Value → Shared → Prop} (J : Inv X pins σ H s) (tb : LamX.TabB X.base X.mg c P) (hc : X.env.code = .ref c)
    (hm : (P, X.env.qual ++ "<lambda>") ∈ T) (hu : ∀ p ∈ T, p.1 = P → p.2 = X.env.qual ++ "<lambda>") (ht : LamX.Tabs T H) (hd : defaultsOf ps X.env = ([], [])) (hf : ∀ y ∈ sc.names, y.2 = .free → ∃ c, X.env.cells.lookup y.1 = some c)
    (go : ∀ (f d : Addr) (pm ct : Value) (H1 : Hp) (s1 : Shared), Inv X pins σ H1 s1 → Same H H1 → LamX.Tabs T H1 →
      s1.heap.get? f = some (PySem.W.kla_obj "<lambda>" (X.env.qual ++ "<lambda>") ps bd sc (cloFrom X.env.cells sc.names []) pm d ct) → H1 f = none → f ∉ frs X.stack → H1 d = some (LamX.CodeO d (X.env.qual ++ "<lambda>")) → Q (.ref f) s1) :
    wpAny (model X.prog X.w) X.A (eval (.Lambda ps bd sc pos) X.env) Q E s := by
  obtain ⟨tab, atP, good, named⟩ := ht _ hm
  have bmod : s.heap.BuiltinsAt X.mg P := tb.bm.keeps J.bk
  have realP : s.heap.get? P = some { cls := .none, data := .fields tab } := J.hok P _ atP
  have outside : ∀ f, s.heap.objs.size ≤ f → f ∉ frs X.stack := fun f big z => by
    rcases List.mem_cons.mp (J.stkSub _ z) with e | e
    · exact absurd (e ▸ J.lt) (Nat.not_lt.mpr big)
    · exact J.nofs big e
  refine PySem.W.kla_eval hd ?_
  cases look : codeAmong pos tab.toList with
  | some cv =>
    obtain ⟨d, rfl, isCode⟩ := named pos cv look
    refine PySem.W.kla_makeFunctionHit (mg := X.mg) (c := c) (P := P) (ps := tab) (closure_ok hf) J.ok.glob (J.mod.glob.keeps J.bk) hc (tb.code.keeps J.bk) realP good look bmod fun ct h1 tk ext sz => ?_
    exact go h1.objs.size d _ ct H _ (J.kept (t' := tk) fun b o e => Heap.get?_push_of_some _ (ext b o e)) (Same.refl H) ht (Heap.get?_push_size _ rfl) (J.hok.fresh sz) (outside _ sz) isCode
  | none =>
    refine PySem.W.kla_makeFunction (mg := X.mg) (c := c) (P := P) (ps := tab) (closure_ok hf) J.ok.glob (J.mod.glob.keeps J.bk) hc (tb.code.keeps J.bk) realP good look tb.gP bmod fun d ct h1 tk ext ge lt rec tabNow => ?_
    obtain ⟨d2, oc, vs, t, e2, isC, dat, nm⟩ := rec
    cases e2
    have sz : s.heap.objs.size ≤ h1.objs.size := Nat.le_trans ge (Nat.le_of_lt lt)
    have newD : H d = none := J.hok.fresh ge
    have nPd : P ≠ d := ne_of_none atP newD
    have J1 := LamX.inv_table (t' := tk) (more := #[rawInt pos.line, rawInt pos.col, .ref d]) (h' := h1.push (PySem.W.kla_obj "<lambda>" (X.env.qual ++ "<lambda>") ps bd sc (cloFrom X.env.cells sc.names []) ((X.mg "__name__").getD .none) d ct)) J atP
      (fun b o ne e => Heap.get?_push_of_some _ (ext b o ne e)) (Heap.get?_push_of_some _ tabNow) ge ⟨oc, vs, t, Heap.get?_push_of_some _ isC, dat, nm⟩
    have sm : Same H (upd (upd H P (.tbl (tab ++ #[rawInt pos.line, rawInt pos.col, .ref d]))) d (LamX.CodeO d (X.env.qual ++ "<lambda>"))) := fun b o e => by
      have nbd : b ≠ d := ne_of_none e newD
      by_cases hb : b = P
      · rw [hb, atP] at e
        cases e
        exact ⟨_, by rw [hb, upd_ne nPd, upd_same]⟩
      · exact .mk (by rw [upd_ne nbd, upd_ne hb]; exact e)
    have listed : (tab ++ #[rawInt pos.line, rawInt pos.col, .ref d]).toList = tab.toList ++ [rawInt pos.line, rawInt pos.col, .ref d] := by simp
    refine go h1.objs.size d _ ct _ _ J1 sm (fun p hp => ?_) (Heap.get?_push_size _ rfl) ?_ (outside _ sz) upd_same
    · by_cases hb : p.1 = P
      · rw [hu p hp hb, hb]
        refine ⟨_, by rw [upd_ne nPd, upd_same], by rw [listed]; exact PySem.TriplesOk_snoc _ _ _ _ good, fun q cv hcv => ?_⟩
        rw [listed] at hcv
        rcases LamX.among_app _ good hcv with z | z
        · obtain ⟨k, e1, e2⟩ := named q cv z
          exact ⟨k, e1, sm.to e2 fun ⟨_, w⟩ => LamX.codeO_ne _ w⟩
        · exact ⟨d, z, upd_same⟩
      · obtain ⟨tab2, a1, a2, a3⟩ := ht p hp
        refine ⟨tab2, by rw [upd_ne (ne_of_none a1 newD), upd_ne hb]; exact a1, a2, fun q cv hcv => ?_⟩
        obtain ⟨k, e1, e2⟩ := a3 q cv hcv
        exact ⟨k, e1, sm.to e2 fun ⟨_, w⟩ => LamX.codeO_ne _ w⟩
    · rw [upd_ne (Nat.ne_of_gt lt), upd_ne (Nat.ne_of_gt (Nat.lt_of_lt_of_le (Heap.lt_size realP) sz))]
      exact J.hok.fresh sz

/-! ### the thunk is called -/
/-- the context of the def that got it, entered at s -/
abbrev cxTh (P : Program) (w : World) (K : PySem.W.Frag) (mg : Str → Option Value) (base : Heap) (Ng : List Str) (nm : Str) (sg : Scope) (g : Addr) (cd : Value) (A : Around) (outer : List Env) (s : Shared) (H : Hp) : Cx :=
  cxOf C8.CX0 P w K mg base Ng nm sg g cd A outer s H C8.E0
theorem th_call {Ng : List Str} {nm a : Str} {sg sc : Scope} {g f d : Addr} {cd pm ct : Value} {ps : Arguments} {bd : Expr} {k i : Nat} {pn : List (Addr × Obj)} {xe : Value → Shared → Prop} {W : WX} {tb : XK → TE} {p1 p2 : Pos}
    (J : Inv X pins σ H s) (L : LamX.LamS X.env.scope sc) (isF : s.heap.get? f = some (PySem.W.kla_obj "<lambda>" (X.env.qual ++ "<lambda>") ps bd sc (cloFrom X.env.cells sc.names []) pm d ct)) (newF : H f = none) (outF : f ∉ frs X.stack)
    (binds : bindArgs (PySem.W.kla_fn "<lambda>" (X.env.qual ++ "<lambda>") ps bd sc (cloFrom X.env.cells sc.names []) pm (.ref d) ct) ⟨[], []⟩ = pure [])
    (tk : Takes ((cxTh X.prog X.w X.K X.mg X.base Ng nm sg g cd X.A X.stack s H).tr pn xe) W) (hr : Room (k + 1) (X.A.deeper (envOfC nm sg s.heap.objs.size g cd)))
    (body : ∀ (E : XK) (A : Around) (outer : List Env) (t : Shared) (F : Hp), Room k (A.deeper (LamX.lamEnv X sc t.heap.objs.size f d)) → PE (LamX.lamCx X A outer t F E sc f d) bd (tb E))
    (hN : Ng[i]? = some a) (hv : Vis sg a) (n1 : (a == ("__debug__" : Str)) = false) (n2 : (a == ("__classdict__" : Str)) = false) :
    PE ((cxTh X.prog X.w X.K X.mg X.base Ng nm sg g cd X.A X.stack s H).tr pn xe) (.Call (.Name a p1) [] [] p2)
      (fun σZ HZ Q => σZ[i]? = some (some (.ref f)) ∧ HZ d = some (LamX.CodeO d (X.env.qual ++ "<lambda>")) ∧ tb (WE W σZ) σ HZ Q) := by
  refine ⟨fun pinsZ sZ σZ HZ Q JZ ⟨atI, code, run⟩ => ?_⟩
  have name := (pe_var (pos := p1) (i := i) hN hv n1 n2).run pinsZ sZ σZ HZ (fun v F => v = .ref f ∧ F = HZ) JZ ⟨.ref f, atI, rfl, rfl⟩
  refine wpAny_Call_Name_kw (thn name fun u t ⟨v, F, J1, r1, q1⟩ => ?_)
  obtain ⟨rfl, eF⟩ := q1
  rw [eF] at J1
  obtain rfl : u = Value.ref f := r1
  have un : Un (frs X.stack) [] H HZ s.heap t.heap := J1.base
  have still := un.keep f _ isF newF outF (fun z => nomatch (show f ∈ ([] : List Addr) from z))
  refine PySem.W.callWith_F0 ⟨_, _, _, _, still⟩ ?_
  obtain ⟨⟨oc, vs, tn, c1, c2, c3⟩, _, _⟩ := J1.hok d _ code
  have ran : codeAny (model X.prog X.w) (X.A.deeper (envOfC nm sg s.heap.objs.size g cd)) (.call (.ref f) ⟨[], []⟩)
      (CR (L2.CX X.prog X.w) (envOfC nm sg s.heap.objs.size g cd :: X.stack) X.prog X.w HZ t Q (WE W σZ)) t := by
    refine PySem.W.kla_callFunE hr.depth still rfl L.co L.gen rfl ⟨d, oc, vs, tn, rfl, c1, c2, c3⟩ ?_
    rw [binds]
    refine wpAny_pure (wpAny_newFunctionEnv (fun y hy => (L.own y hy).2) (fun y hy => absurd hy (by simp)) (fun h₁ ns sb => ⟨J1.nolimit.fresh _ sb, ?_⟩) L.kind)
    show codeAny _ _ (.expr bd (LamX.lamEnv X sc t.heap.objs.size f d)) _ _
    have old : ∀ b o, t.heap.get? b = some o → h₁.get? b = some o := fun b o e => sb.extBut b o (Nat.ne_of_lt (Heap.lt_size e)) (Heap.get?_push_of_some _ e)
    have JL : Inv (LamX.lamCx X (X.A.deeper (envOfC nm sg s.heap.objs.size g cd)) (envOfC nm sg s.heap.objs.size g cd :: X.stack) t HZ (WE W σZ) sc f d) [] σ HZ { t with heap := h₁, toks := t.toks + ([] : List (Str × Value)).length } :=
      LamX.lam_start2 J L J1.env0 hr.hd un ns old
    refine PySem.W.kla_codeExpr (wpAny_mono ((body (WE W σZ) _ _ t HZ (hr.deeper _)).run [] _ _ HZ Q JL run) (fun v s' hq => ?_) fun e s' hq => hq)
    obtain ⟨w', H', J', rv, q⟩ := hq
    exact ⟨w', H', J'.os, J'.bare, J'.base, J'.hok, rv, q⟩
  refine wpAny_call (codeAny_mono ran fun r s' hq => ?_)
  match r, hq with
  | .error e, hq => exact passAt tk σZ pinsZ HZ t e s' J1 hq
  | .ok (.ret u), hq => exact J1.after hq
  | .ok .next, hq => exact False.elim hq
  | .ok .brk, hq => exact False.elim hq
  | .ok .cont, hq => exact False.elim hq
end
/-- how a thunk ends, as its caller has it -/
def PostO (G : Ctx) (E : XK) (H Hs : Hp) (Q : VK) : Except Nat D → Prop
  | .ok d => ∀ v H' Hs', Stp G.tabs H Hs H' Hs' → Rep G Hs' d v → Q v H'
  | .error k => ∀ H' Hs', Stp G.tabs H Hs H' Hs' → E (.ref (G.cls k)) none H'
/-- a def of one parameter, a thunk: what it makes of the thunk's end -/
structure ThDef (P : Program) (w : World) (K : PySem.W.Frag) (mg : Str → Option Value) (base : Heap) (G : Ctx) (k : Nat) (nm : Str) (ml : Except Nat D → Option C) : Prop where
  ex : ∃ (g : Addr) (a : Str) (Ng : List Str) (pg : Arguments) (bg : List Stmt) (sg : Scope) (dV kV doc pm cdv ct oc : Value) (an od : Option Addr) (osl : Array (Option Value)),
    mg nm = some (.ref g) ∧ PySem.W.keepIn K (.ref g) = true ∧ K.lookup g = some ⟨oc, od, .func (PySem.W.fnOf nm nm pg bg sg dV kV doc pm an cdv ct), osl⟩ ∧ PySem.W.codeIn K cdv nm = true ∧
    L2.Binds K (PySem.W.fnOf nm nm pg bg sg dV kV doc pm an cdv ct) [a] [] ∧ FnScope Ng [a] sg ∧ Vis sg a ∧ nmOk a = true ∧ (nm == ("__debug__" : Str)) = false ∧
    ∀ (A : Around) (outer : List Env) (f d : Addr) (q : Str) (s : Shared) (H Hs : Hp) (Q : VK) (r : Except Nat D) (c : C) (tl : XK → Hp → VK → Prop), Room (k + 1) (A.deeper (envOfC nm sg s.heap.objs.size g cdv)) →
      (∀ (W : WX) (pn : List (Addr × Obj)) (xe : Value → Shared → Prop) (p1 p2 : Pos), Takes ((cxTh P w K mg base Ng nm sg g cdv A outer s H).tr pn xe) W →
        PE ((cxTh P w K mg base Ng nm sg g cdv A outer s H).tr pn xe) (.Call (.Name a p1) [] [] p2) (fun σZ HZ Q => σZ[0]? = some (some (.ref f)) ∧ HZ d = some (LamX.CodeO d q) ∧ tl (WE W σZ) HZ Q)) →
      H d = some (LamX.CodeO d q) → Same Hs H → LamX.Tabs G.tabs H → ml r = some c → PostN G H Hs c Q → (∀ E HZ HsZ Q', Stp G.tabs H Hs HZ HsZ → PostO G E HZ HsZ Q' r → tl E HZ Q') →
      ∃ t, PSs (cxTh P w K mg base Ng nm sg g cdv A outer s H).nox bg t ∧ t { nx := fun _ H' => Q .non H', rt := Q } (L2.start Ng [.ref f]) H
def lamR (nm : Str) (ml : Except Nat D → Option C) (fn : Str) (m : Mir) : RSp where
  P := fun G X => ∃ (k : Nat) (c Pt : Addr), Room (k + 2) X.A ∧ ThDef X.prog X.w X.K X.mg X.base G k nm ml ∧ LamX.TabB X.base X.mg c Pt ∧ X.env.code = .ref c ∧ (Pt, X.env.qual ++ "<lambda>") ∈ G.tabs ∧ (∀ p ∈ G.tabs, p.1 = Pt → p.2 = X.env.qual ++ "<lambda>") ∧
    ∀ Y : Cx, Y.prog = X.prog → Y.w = X.w → Y.K = X.K → Y.mg = X.mg → Y.base = X.base → Room k Y.A → RefOk G Y (.fn fn m)
  tr := fun h => h
  blk := fun h => h
def lamEv (ml : Except Nat D → Option C) (fn : Str) (m : Mir) (es : List E) (ρ : List C) : M C := match ev (.call fn m es) ρ with
  | some (.ok (.val d)) => M.lift (ml (.ok d))
  | some (.error k) => M.lift (ml (.error k))
  | _ => none
theorem lamEv_of {ml : Except Nat D → Option C} {fn : Str} {m : Mir} {es : List E} {ρ : List C} {r : Except Nat C} (h : lamEv ml fn m es ρ = some r) : ∃ ro c, ev (.call fn m es) ρ = some (outC ro) ∧ ml ro = some c ∧ r = .ok c := by
  unfold lamEv at h
  split at h
  · rename_i d e
    obtain ⟨c, h1, h2⟩ := lift_cases h
    exact ⟨.ok d, c, e, h1, h2⟩
  · rename_i k e
    obtain ⟨c, h1, h2⟩ := lift_cases h
    exact ⟨.error k, c, e, h1, h2⟩
  · cases h
def lamChk (nm fn : Str) (m : Mir) (es : List E) (N : List Str) (sc : Scope) (e : Expr) : Bool := match e with
  | .Call (.Name x _) [.Lambda ⟨[], [], none, [], [], none, []⟩ (.Call f as ks q) ls _] [] _ => decide (x = nm) && glo sc x && LamX.lamSB sc ls && chk N ls 0 (.call fn m es) (.Call f as ks q)
  | _ => false
theorem no_args (q : Str) (cl : List (Str × Addr)) (pm cv ct : Value) {bd : Expr} {sc : Scope} : bindArgs (PySem.W.kla_fn "<lambda>" q ⟨[], [], none, [], [], none, []⟩ bd sc cl pm cv ct) ⟨[], []⟩ = pure [] := rfl
/-- nm(lambda: fn(es)) -/
def lamC (nm : Str) (ml : Except Nat D → Option C) (fn : Str) (m : Mir) (es : List E) (hes : refsL es = []) : ESp where
  chk := lamChk nm fn m es
  ev := lamEv ml fn m es
  refs := [.any (lamR nm ml fn m)]
  pl := fun {N sc e} h => by
    unfold lamChk at h
    split at h
    · exact ⟨rfl, rfl, rfl⟩
    · cases h
  ok := fun {G X W N sc e} xk rf h => by
    unfold lamChk at h
    split at h
    · rename_i x p f0 as ks q ls lp pos
      simp only [Bool.and_eq_true, decide_eq_true_eq] at h
      obtain ⟨⟨⟨rfl, h2⟩, h3⟩, h4⟩ := h
      obtain ⟨g1, g2⟩ := xk.glo h2
      obtain ⟨k, c, Pt, hr, D, TB, hcode, hmT, hu, hfn⟩ := rf _ List.mem_cons_self
      obtain ⟨g, a, Ng, pg, bg, sg, dV, kV, doc, pm, cdv, ct, oc, an, od, osl, d1, d2, d3, d4, d5, d6, d7, d8, d9, d10⟩ := D.ex
      have L : LamX.LamS X.env.scope ls := LamX.lamS_by (by rw [xk.hsc]; exact h3)
      have hNg : Ng[0]? = some a := by
        have := congrArg (fun l : List Str => l[0]?) d6.pre
        rw [List.getElem?_take] at this
        simpa using this
      simp only [nmOk, Bool.and_eq_true, Bool.not_eq_true'] at d8
      refine ⟨fun pins s σ H Q I ⟨H0, Hs0, Hs, ρ, r, sr, ee, po⟩ => ?_⟩
      obtain ⟨ro, cr, e1, e2, rfl⟩ := lamEv_of ee
      refine wpAny_Call_Name_kw (ld_glob I g1 d1 ?_ d9)
      refine PySem.W.callWith_K (h₀ := X.base) I.ok.mod.kin d2 ?_ (by rfl) (by rfl)
      show wpAny _ _ (spliced ((false, eval (.Lambda ⟨[], [], none, [], [], none, []⟩ (.Call f0 as ks q) ls lp) X.env) :: backTo pos (starEach [] X.env))) _ _ s
      refine Calls.spliced_cons (lam_new I TB hcode hmT hu sr.tt rfl (L.has I.ok) fun f d pm' ct' H1 s1 I1 sm T1 isF newF outF code => ?_)
      have st1 : Stp G.tabs H Hs H1 Hs := ⟨sm, Same.refl _, fun _ z _ => z, sr.sh.trans sm, fun p hp _ => T1 p hp⟩
      have sr1 := sr.step st1
      refine Calls.spliced_nil ⟨I1.kIn, ?_⟩
      have rc : codeAny (model X.prog X.w) X.A (.call (.ref g) ⟨[.ref f], []⟩) (CR C8.CX0 X.stack X.prog X.w H1 s1 Q C8.E0) s1 := by
        refine LamX.run_ofS (N := Ng) (ps := [a]) (us := [.ref f]) (vs := [.ref f]) d3 d4 d6 hr I1.env0 (d5 s1 [.ref f] I1.kIn rfl) (.cons rfl .nil) rfl fun hr' => ?_
        obtain ⟨t, ht, hq⟩ := d10 X.A X.stack f d _ s1 H1 Hs Q ro cr (fun E H' Q' => tE G (fun cls dd _ F => E cls dd F) (.call fn m es) σ H' Q') hr'
          (fun W' pn xe p1 p2 tk => th_call (i := 0) I1 L isF newF outF (no_args _ _ _ _ _) tk hr' (fun E A outer t F hr2 => (sndA (.call fn m es) (X := LamX.lamCx X A outer t F E ls f d) (W := fun cls dd _ F => E cls dd F) (N := N) (sc := ls)
            ⟨⟨xk.K, rfl, xk.nd, lt_un hr2.un⟩, xk.hN, rfl, xk.nb, takes_of rfl rfl rfl rfl⟩ (fun z hz => by
              have hz : z ∈ Ref.fn fn m :: refsL es := hz
              rw [hes] at hz
              rw [List.mem_singleton.mp hz]
              exact hfn _ rfl rfl rfl rfl rfl hr2)).e _ h4) hNg d7 d8.1 d8.2)
          code sr1.sh sr1.tt e2 (po.n st1) fun E HZ HsZ Q' stZ pz => ⟨H0, Hs0, HsZ, ρ, _, sr1.step stZ, e1, by
            cases ro with
            | ok dd => exact fun v H' Hs' st rc => pz v H' Hs' st rc
            | error kk => exact fun H' Hs' st => pz H' Hs' st⟩
        exact ⟨t, ht.nox, hq⟩
      refine wpAny_call (codeAny_mono rc fun r s2 hq => ?_)
      match r, hq with
      | .error e, hq => exact (show False from hq).elim
      | .ok (.ret u), hq => exact I1.after hq
      | .ok .next, hq => exact False.elim hq
      | .ok .brk, hq => exact False.elim hq
      | .ok .cont, hq => exact False.elim hq
    · cases h
end VS

set_option Elab.async false
set_option linter.all false
set_option autoImplicit false
set_option maxRecDepth 100000
set_option maxHeartbeats 4000000
/-! VS: a def that gets a thunk; a def that makes lambdas; the end with tables. -/
namespace VS
open PySem L2
section
variable {G G' : Ctx} {H : Hp}
mutual
/-- data say the same in contexts that differ in the module's things alone -/
theorem rep_of (h1 : G'.cls = G.cls) (h2 : G'.errs = G.errs) : ∀ (d : D) (v : V), gfree d = true → (Rep G' H d v ↔ Rep G H d v)
  | .non, _, _ => by simp only [Rep]
  | .bl _, _, _ => by simp only [Rep]
  | .int _, _, _ => by simp only [Rep]
  | .str _, _, _ => by simp only [Rep]
  | .tup xs, v, h => by simp only [Rep]; exact exists_congr fun a => exists_congr fun vs => and_congr_right fun _ => and_congr_right fun _ => repL_of h1 h2 xs vs h
  | .lst xs, v, h => by simp only [Rep]; exact exists_congr fun a => exists_congr fun vs => and_congr_right fun _ => and_congr_right fun _ => repL_of h1 h2 xs vs h
  | .dK ks xs, v, h => by simp only [Rep]; exact exists_congr fun a => exists_congr fun vs => and_congr_right fun _ => and_congr_right fun _ => and_congr_right fun _ => repL_of h1 h2 xs vs h
  | .dT ks xs, v, h => by simp only [Rep]; exact exists_congr fun a => exists_congr fun vs => and_congr_right fun _ => and_congr_right fun _ => and_congr_right fun _ => repL_of h1 h2 xs vs h
  | .ins c ks xs, v, h => by simp only [Rep, h1]; exact exists_congr fun a => exists_congr fun dx => exists_congr fun vs => and_congr_right fun _ => and_congr_right fun _ => and_congr_right fun _ => repL_of h1 h2 xs vs h
  | .err _, _, _ => by simp only [Rep, h1, h2]
theorem repL_of (h1 : G'.cls = G.cls) (h2 : G'.errs = G.errs) : ∀ (ds : List D) (vs : List V), gfrees ds = true → (RepL G' H ds vs ↔ RepL G H ds vs)
  | [], vs, _ => by simp only [RepL]
  | d :: ds, vs, h => by
    simp only [gfrees, Bool.and_eq_true] at h
    simp only [RepL]
    exact exists_congr fun v => exists_congr fun ws => and_congr_right fun _ => and_congr (rep_of h1 h2 d v h.1) (repL_of h1 h2 ds ws h.2)
end
end
def gfC : C → Bool
  | .val d => gfree d
  | .own (.lst xs) => gfrees xs
  | _ => false
theorem repN_th {G G' : Ctx} {H H' Hs' : Hp} {c : C} {v : V} (h1 : G'.cls = G.cls) (h2 : G'.errs = G.errs) (hc : gfC c = true) (r : RepN G' H H' Hs' c v) : RepN G H H' Hs' c v := by
  cases c with
  | un => cases hc
  | lon o => cases hc
  | bor o => cases hc
  | val d => exact (rep_of h1 h2 d v hc).mp r
  | own o =>
    cases o with
    | lst xs =>
      obtain ⟨a, h, q1, q2, q3, q4, vs, q5, q6⟩ := r
      exact ⟨a, h, q1, q2, q3, q4, vs, q5, (repL_of h1 h2 xs vs hc).mp q6⟩
    | dK _ _ => cases hc
    | dT _ _ => cases hc
section
variable {P : Program} {w : World} {K : PySem.W.Frag} {mg : Str → Option Value} {base : Heap} {G : Ctx}
theorem start_ok {G : Ctx} {N : List Str} {ss : List S} {r : Except Nat C} {cs : List C} {vs : List V} {H Hs : Hp} {Q : VK} {E : XK} (s0 : Stp G.tabs G.root G.rootS H Hs) (t0 : LamX.Tabs G.tabs H) (ra : ArgsR G H Hs cs vs) (hNl : cs.length ≤ N.length)
    (post : match r with
      | .ok c => PostN G H Hs c Q
      | .error k => ∀ H' Hs', Stp G.tabs H Hs H' Hs' → E (.ref (G.cls k)) none H') (hm : wps ss (DsOf r) (start0 N cs)) : tSv G (fun cls d σ H => E cls d H) (wps ss) { nx := fun _ H' => Q .non H', rt := Q } (L2.start N vs) H := by
  have hlv := args_len ra
  refine ⟨H, Hs, Hs, start0 N cs, DsOf r, ?_, hm, ?_⟩
  · have hcsl : (start0 N cs).length = (L2.start N vs).length := by
      unfold start0 L2.start
      simp only [List.length_append, List.length_replicate, List.length_map]
      omega
    have hun : ∀ i c, (start0 N cs)[i]? = some c → c = C.un ∨ cs[i]? = some c := fun i c e => by
      unfold start0 at e
      by_cases hi : i < cs.length
      · rw [List.getElem?_append_left hi] at e; exact .inr e
      · rw [List.getElem?_append_right (by omega)] at e
        exact .inl (List.eq_of_mem_replicate (List.mem_of_getElem? e))
    have hv : ∀ i v, vs[i]? = some v → (L2.start N vs)[i]? = some (some v) := fun i v e => by
      unfold L2.start
      have hi := (List.getElem?_eq_some_iff.mp e).1
      rw [List.getElem?_append_left (by simpa using hi), List.getElem?_map, e]
      rfl
    refine ⟨s0.s, Same.refl _, Same.refl _, fun a h _ => h, hcsl, fun i c ec => ?_, fun i j o o' x ei ej _ _ => ?_, TbS.refl _, t0, s0.a, s0⟩
    · rcases hun i c ec with rfl | e2
      · trivial
      · obtain ⟨v, h1, h2⟩ := args_get ra e2
        rw [hv i v h1]
        cases c with
        | un => trivial
        | val d => exact ⟨v, rfl, h2⟩
        | bor o => exact ⟨v, rfl, h2⟩
        | own o => exact h2.elim
        | lon o => exact h2.elim
    · rcases hun i _ ei with z | e2
      · cases z
      · obtain ⟨_, _, z⟩ := args_get ra e2
        exact z.elim
  · refine ⟨fun σ' H' Hs' ρ' sr' z => ?_, fun σ' H' Hs' ρ' c v sr' z rn => ?_, fun σ' H' Hs' ρ' e' sr' z => ?_⟩
    · have z : r = .ok (.val .non) := z
      subst z
      have post : PostN G H Hs (.val .non) Q := post
      exact post .non H' Hs' ⟨sr'.k0, sr'.ks, sr'.fr, sr'.sh, sr'.tb⟩ (by simp [RepN, Rep])
    · have z : r = .ok c := z
      subst z
      have post : PostN G H Hs c Q := post
      exact post v H' Hs' ⟨sr'.k0, sr'.ks, sr'.fr, sr'.sh, sr'.tb⟩ rn
    · have z : r = .error e' := z
      subst z
      exact post H' Hs' ⟨sr'.k0, sr'.ks, sr'.fr, sr'.sh, sr'.tb⟩
theorem vis_of {sc : Scope} {a : Str} (h : vis sc a = true) : Vis sc a := by
  unfold vis at h
  unfold Vis
  split at h
  · left; assumption
  · right; left; assumption
  · right; right; assumption
  · cases h
/-- THE RULE for a def that gets a thunk -/
theorem th_def {nm a : Str} {st : Stmt} {Ng : List Str} {k : Nat} {ml : Except Nat D → Option C} (T : DefT K mg nm st [a]) (Sc : FnScope Ng [a] (defScope st)) (va : (vis (defScope st) a && nmOk a && !(nm == ("__debug__" : Str))) = true) (hK : K = G.K) (nb : ∀ x ∈ bltNames, mg x = none)
    (body : ∀ r c, ml r = some c → gfC c = true ∧ (∀ d, r = .ok d → gfree d = true) ∧ ∃ ss, chkSs Ng (defScope st) ss (defBody st) = true ∧
      (∀ f H Hs (X : Cx), X.prog = P → X.w = w → X.K = K → X.mg = mg → X.base = base → Room k X.A → ∀ z ∈ refSs ss, RefOk (G.th f H Hs) X z) ∧
      (∀ f H Hs (X : Cx), X.K = K → X.mg = mg → ∀ z ∈ excSs ss, z = .any (actX 0 r) ∨ ExOk (G.th f H Hs) X z) ∧ wps ss (DsOf (.ok c)) (start0 Ng [.val (.glb 99)])) : ThDef P w K mg base G k nm ml := by
  obtain ⟨g, fd, h1, F, hb⟩ := T.ex
  have kp := F.kp
  obtain ⟨oc, od, kV, doc, pm, an, cdv, ct, osl, rfl, lk, hcd⟩ := F.ex
  simp only [Bool.and_eq_true, Bool.not_eq_true'] at va
  refine ⟨g, a, Ng, defArgs st, defBody st, defScope st, .none, kV, doc, pm, cdv, ct, oc, an, od, osl, h1, kp, lk, hcd, hb, Sc, vis_of va.1.1, va.1.2, va.2, ?_⟩
  intro A outer f d q s H Hs Q r c tl hr act code s0 t0 em post htl
  obtain ⟨gc, gd, ss, hchk, hrf, hex, hw⟩ := body r c em
  have hN0 : Ng[0]? = some a := by
    have := congrArg (fun l : List Str => l[0]?) Sc.pre
    rw [List.getElem?_take] at this
    simpa using this
  have hNl : 1 ≤ Ng.length := (List.getElem?_eq_some_iff.mp hN0).1
  have xk : XOkS (G.th f H Hs) (cxTh P w K mg base Ng nm (defScope st) g cdv A outer s H).nox (fun _ _ _ _ => False) Ng (defScope st) :=
    ⟨⟨⟨hK, rfl, Sc.nd, lt_un hr.un⟩, rfl, rfl, nb, takes0⟩, (by show (if (defScope st).kind.isAnnotationScope then _ else (defScope st).kind) = ScopeKind.function; rw [Sc.kind]; rfl), rfl, rfl, PassesOwn.never, fun _ => rfl⟩
  refine ⟨_, sndSs (G.th f H Hs) ss xk (hrf f H Hs _ rfl rfl rfl rfl rfl (hr.mono (Nat.le_succ k))) (fun z hz => ?_) _ hchk, ?_⟩
  · rcases hex f H Hs (cxTh P w K mg base Ng nm (defScope st) g cdv A outer s H).nox rfl rfl z hz with rfl | h
    · intro pn xe W b p1 p2 tk hN _ _ _
      have hN : Ng[0]? = some b := hN
      rw [hN0] at hN
      cases hN
      refine (act W pn xe p1 p2 tk).imp fun σ HZ Q ⟨H0, Hs0, HsZ, ρ, sr, e0, po⟩ => ⟨?_, sr.ro.a.to code fun ⟨_, z⟩ => LamX.codeO_ne _ z, htl _ HZ HsZ Q sr.ro ?_⟩
      · obtain ⟨v, e1, e2⟩ := sr.cell 0 _ e0
        simp only [Rep] at e2
        rw [e1, e2, th_99]
      · cases r with
        | ok dd => exact fun v H' Hs' st rc => po v H' Hs' st ((rep_of (G := G) (G' := G.th f H Hs) rfl rfl dd v (gd dd rfl)).mpr rc)
        | error kk => exact fun H' Hs' st => po H' Hs' st
    · exact h
  · refine ⟨H, Hs, Hs, start0 Ng [.val (.glb 99)], DsOf (.ok c), ?_, hw, ?_⟩
    · have l1 : ∀ i c, (start0 Ng [.val (.glb 99)])[i]? = some c → c = C.un ∨ (i = 0 ∧ c = .val (.glb 99)) := fun i c e => by
        unfold start0 at e
        cases i with
        | zero => cases e; exact .inr ⟨rfl, rfl⟩
        | succ i =>
          rw [List.getElem?_append_right (by simp)] at e
          exact .inl (List.eq_of_mem_replicate (List.mem_of_getElem? e))
      refine ⟨s0, Same.refl _, Same.refl _, fun a h _ => h, ?_, fun i c ec => ?_, fun i j o o' x ei ej _ _ => ?_, TbS.refl _, t0, Same.refl _, Stp.refl s0⟩
      · simp [start0, L2.start]
      · rcases l1 i c ec with rfl | ⟨rfl, rfl⟩
        · trivial
        · refine ⟨.ref f, rfl, ?_⟩
          simp only [Rep]
          exact th_99.symm
      · rcases l1 i _ ei with z | ⟨_, z⟩ <;> cases z
    · refine ⟨fun σ' H' Hs' ρ' sr' z => ?_, fun σ' H' Hs' ρ' c' v sr' z rn => ?_, fun σ' H' Hs' ρ' e' sr' z => ?_⟩
      · have z : Except.ok c = .ok (.val .non) := z
        cases z
        exact post .non H' Hs' ⟨sr'.k0, sr'.ks, sr'.fr, sr'.sh, sr'.tb⟩ (by simp [RepN, Rep])
      · have z : Except.ok c = .ok c' := z
        cases z
        exact post v H' Hs' ⟨sr'.k0, sr'.ks, sr'.fr, sr'.sh, sr'.tb⟩ (repN_th (G' := G.th f H Hs) rfl rfl gc rn)
      · have z : Except.ok c = .error e' := z
        cases z
/-- THE RULE for a def that makes lambdas: its code object is told -/
theorem fn_okL {x : Str} {st : Stmt} {f ca : Addr} {fd : FuncData} {N ps : List Str} {k : Nat} {m : Mir} (ss : List S) (F : Fun K x x st f fd) (hca : fd.code = .ref ca) (Sc : FnScope N ps (defScope st)) (hK : K = G.K) (nb : ∀ x ∈ bltNames, mg x = none)
    (hchk : chkSs N (defScope st) ss (defBody st) = true)
    (hrf : ∀ X : Cx, X.prog = P → X.w = w → X.K = K → X.mg = mg → X.base = base → Room k X.A → X.env.code = .ref ca → X.env.qual = x ++ ".<locals>." → ∀ r ∈ refSs ss, RefOk G X r)
    (hex : ∀ X : Cx, X.K = K → X.mg = mg → ∀ r ∈ excSs ss, ExOk G X r)
    (hlen : ∀ cs r, m cs = some r → cs.length = ps.length)
    (hm : ∀ cs r, m cs = some r → wps ss (DsOf r) (start0 N cs)) : FnOk P w K mg base (L2.CX P w) (k + 1) f fd ps (spM G m) := by
  obtain ⟨oc, od, kV, doc, pm, an, cdv, ct, osl, rfl, lk, hcd⟩ := F.ex
  have hca : cdv = .ref ca := hca
  subst hca
  refine fn_of lk hcd Sc (fun vs H Q E ⟨Hs, cs, r, s0, _, ra, e, _⟩ => by rw [← args_len ra]; exact hlen cs r e) fun A outer s H vs Q E hr ⟨Hs, cs, r, s0, t0, ra, e, post⟩ => ?_
  have hlc := hlen cs r e
  have hlv := args_len ra
  have xk : XOkS G (cxOf (L2.CX P w) P w K mg base N x (defScope st) f (.ref ca) A outer s H E) (fun cls d σ H => E cls d H) N (defScope st) :=
    ⟨⟨⟨hK, rfl, Sc.nd, lt_un hr.un⟩, rfl, rfl, nb, takes_of rfl rfl rfl rfl⟩, (by show (if (defScope st).kind.isAnnotationScope then _ else (defScope st).kind) = ScopeKind.function; rw [Sc.kind]; rfl), rfl, rfl, passes_of rfl, fun _ => rfl⟩
  refine ⟨_, sndSs G ss xk (hrf _ rfl rfl rfl rfl rfl hr rfl rfl) (hex _ rfl rfl) _ hchk, ?_⟩
  have hNl : ps.length ≤ N.length := by have := congrArg List.length Sc.pre; rw [List.length_take] at this; omega
  exact start_ok s0 t0 ra (by omega) post (hm cs r e)
end
end VS

set_option Elab.async false
set_option linter.all false
set_option autoImplicit false
set_option maxRecDepth 100000
set_option maxHeartbeats 4000000
/-! VS: reckoning: lambdas, thunks. -/
namespace VS
open PySem L2
def lamM (ml : Except Nat D → Option C) : M C → M C
  | some (.ok (.val d)) => M.lift (ml (.ok d))
  | some (.error k) => M.lift (ml (.error k))
  | _ => none
section
variable {ρ : List C} {P : Ds}
theorem x_lam {nm : Str} {ml : Except Nat D → Option C} {fn : Str} {m : Mir} {es : List E} {h : refsL es = []} : ev (.esp (lamC nm ml fn m es h)) ρ = lamM ml ((evs es ρ).bind m) := by
  rw [x_esp]
  show (match ev (.call fn m es) ρ with
    | some (.ok (.val d)) => M.lift (ml (.ok d))
    | some (.error k) => M.lift (ml (.error k))
    | _ => none) = _
  rw [x_call]
  rfl
theorem k_lamE {ml : Except Nat D → Option C} {k : Nat} {c : C} (h : ml (.error k) = some c) : lamM ml (some (.error k)) = M.ok c := by
  show M.lift (ml (.error k)) = _
  rw [h]; rfl
theorem k_lamV {ml : Except Nat D → Option C} {d : D} {c : C} (h : ml (.ok d) = some c) : lamM ml (M.ok (.val d)) = M.ok c := by
  show M.lift (ml (.ok d)) = _
  rw [h]; rfl
theorem x_actE {j : Option Nat} {k : Nat} {cs : List C} : jp (.sp (actS j 0 (.error k))) P (.val (.glb 99) :: cs) = P.ex k (.val (.glb 99) :: cs) := by
  rw [x_sp]; rfl
theorem x_actV {j : Nat} {d : D} {cs : List C} : jp (.sp (actS (some j) 0 (.ok d))) P (.val (.glb 99) :: cs) = P.nx ((C.val (.glb 99) :: cs).set j (.val d)) := by
  rw [x_sp]; rfl
end
end VS

set_option Elab.async false
set_option linter.all false
set_option autoImplicit false
set_option maxRecDepth 100000
set_option maxHeartbeats 4000000
/-! KO: groups made; the law's letters, how far, the first that leads nearer. -/
-- <M2>
local macro_rules
  | `(tactic| simp?! [$as,*] $[$l:location]?) => `(tactic| simp (implicitDefEqProofs := false) (disch := first | assumption | decide | omega) only [VS.ifP_b, VS.iteM_t, VS.iteM_f, VS.vr_val, VS.vr_own, VS.vr_bor, VS.lc_map, VS.consO_s, VS.consO_n, VS.lc_lit, VS.lcF_ok, VS.col_cons, VS.col_nil, VS.lc_lit0, VS.lcA_some, VS.szM_ok, VS.szO_ok, VS.szO_lit, VS.szM_lit, VS.x_var, VS.x_cst, VS.x_gl, VS.x_tup, VS.x_lst, VS.x_op, VS.x_chain, VS.x_neg, VS.x_not, VS.x_and, VS.x_or, VS.x_ite, VS.iteM_and, VS.iteM_or, VS.x_ix, VS.x_sl, VS.x_rev, VS.x_lc, VS.x_turn, VS.iteM_opt, VS.x_c0, VS.x_c1, VS.x_call, VS.x_make, VS.x_meth, VS.x_blt, VS.x_mth, VS.x_fld, VS.x_isi, VS.x_lstR, VS.x_lstR2, VS.x_dK, VS.x_d1, VS.x_g2, VS.x_spec, VS.x_callV, VS.x_rng, VS.x_enum, VS.x_revR, VS.x_str, VS.x_evs0, VS.x_evs1, VS.k_lv, VS.k_lo, VS.k_lb, VS.k_ll, VS.k_le, VS.k_kv, VS.k_ko, VS.k_ke, VS.k_f1, VS.k_f2, VS.k_av, VS.k_ao, VS.k_ab, VS.k_al, VS.k_sv, VS.k_so, VS.k_la0, VS.k_la1, VS.k_la2, VS.k_ka0, VS.k_ka1, VS.k_sq1, VS.k_sq2, VS.k_sq3, VS.k_sq4, VS.k_sq5, VS.k_er, VS.k_r1, VS.k_r2, VS.k_o1, VS.k_b1, VS.k_b2, VS.k_b3, VS.k_b4, VS.k_w0, VS.k_w1, VS.k_ts1, VS.k_ts2, VS.k_ch1, VS.k_ch2, VS.k_not, VS.k_neg, VS.k_tst, VS.k_po, VS.k_n1, VS.k_n2, VS.k_n3, VS.k_n4, VS.k_n5, VS.k_n6, VS.k_rv, VS.k_strM, VS.o_add, VS.o_sub, VS.o_fdiv, VS.o_mod, VS.o_mulL, VS.o_mulR, VS.o_lt, VS.o_le, VS.o_gt, VS.o_ge, VS.o_eq, VS.o_ne, VS.o_is, VS.o_isn, VS.o_in, VS.o_nin, VS.o_addL, VS.o_addT, VS.o_addS, VS.k_isE, VS.k_isV, VS.x_cons, VS.x_nil, VS.x_asg, VS.x_unp, VS.appP_1, VS.x_app, VS.x_ownAt, VS.ownO_1, VS.lstD_1, VS.dKD_1, VS.extP_1, VS.x_ext, VS.x_clr, VS.augP_1, VS.x_augA, VS.popP_1, VS.x_apop, VS.x_setx, VS.x_frz, VS.x_ret, VS.x_retV, VS.x_ex, VS.x_ifs, VS.x_for, VS.x_raise, List.set_cons_zero, List.set_cons_succ, List.getElem?_cons_zero, List.getElem?_cons_succ, Option.bind_some, Option.map_some, if_true, ite_true, ite_false, VS.M.bind_ok, VS.M.lift_some', eq_self, forall_const, true_implies, false_implies, Bool.true_eq_false, Bool.false_eq_true, and_true, true_and, Bool.true_and, Bool.and_true, Bool.false_and, Bool.and_false, Bool.or_false, Bool.false_or, Bool.or_true, Bool.true_or, Bool.not_true, Bool.not_false, Bool.not_not, decide_true, decide_false, if_false, reduceIte, Int.natCast_zero, List.length_cons, List.length_nil, List.length_map, exists_eq_left', VS.DsOf, reduceCtorEq, implies_true, List.nil_append, List.append_nil, VS.bind_ok, VS.lift_some, Nat.reduceAdd, Nat.reduceLeDiff, List.cons_append, List.length_append, List.length_range, List.length_take, List.length_drop, List.map_cons, List.map_nil, exists_prop, and_self, not_true, VS.sub, Nat.reduceBEq, beq_self_eq_true, not_false_eq_true, ne_eq, Option.some.injEq, K01.iD, K01.tD, KX.f_in, KX.f_lenL, KX.f_lenT, KX.f_lenD, KX.f_tupL, KX.f_tupT, KX.f_lstL, KX.f_lstT, KX.f_min, KX.f_rng, KX.f_rng2, KX.f_lstR, KX.f_eqI, KX.f_ixT, KX.f_ixL, KX.f_ix0, KX.f_ix0t, KX.f_ix1t, KX.f_ix1, KX.f_last, KX.f_isn, KX.f_isE, KX.f_isN, KX.f_isI, KX.f_isT, KX.f_isB, KX.f_tt, KX.f_tl, KX.f_ib, KX.f_ii, KX.f_ts, KX.f_mixed, $as,*] $[$l]?)
local macro_rules
  | `(tactic| simp?! $[$l:location]?) => `(tactic| simp (implicitDefEqProofs := false) (disch := first | assumption | decide | omega) only [VS.ifP_b, VS.iteM_t, VS.iteM_f, VS.vr_val, VS.vr_own, VS.vr_bor, VS.lc_map, VS.consO_s, VS.consO_n, VS.lc_lit, VS.lcF_ok, VS.col_cons, VS.col_nil, VS.lc_lit0, VS.lcA_some, VS.szM_ok, VS.szO_ok, VS.szO_lit, VS.szM_lit, VS.x_var, VS.x_cst, VS.x_gl, VS.x_tup, VS.x_lst, VS.x_op, VS.x_chain, VS.x_neg, VS.x_not, VS.x_and, VS.x_or, VS.x_ite, VS.iteM_and, VS.iteM_or, VS.x_ix, VS.x_sl, VS.x_rev, VS.x_lc, VS.x_turn, VS.iteM_opt, VS.x_c0, VS.x_c1, VS.x_call, VS.x_make, VS.x_meth, VS.x_blt, VS.x_mth, VS.x_fld, VS.x_isi, VS.x_lstR, VS.x_lstR2, VS.x_dK, VS.x_d1, VS.x_g2, VS.x_spec, VS.x_callV, VS.x_rng, VS.x_enum, VS.x_revR, VS.x_str, VS.x_evs0, VS.x_evs1, VS.k_lv, VS.k_lo, VS.k_lb, VS.k_ll, VS.k_le, VS.k_kv, VS.k_ko, VS.k_ke, VS.k_f1, VS.k_f2, VS.k_av, VS.k_ao, VS.k_ab, VS.k_al, VS.k_sv, VS.k_so, VS.k_la0, VS.k_la1, VS.k_la2, VS.k_ka0, VS.k_ka1, VS.k_sq1, VS.k_sq2, VS.k_sq3, VS.k_sq4, VS.k_sq5, VS.k_er, VS.k_r1, VS.k_r2, VS.k_o1, VS.k_b1, VS.k_b2, VS.k_b3, VS.k_b4, VS.k_w0, VS.k_w1, VS.k_ts1, VS.k_ts2, VS.k_ch1, VS.k_ch2, VS.k_not, VS.k_neg, VS.k_tst, VS.k_po, VS.k_n1, VS.k_n2, VS.k_n3, VS.k_n4, VS.k_n5, VS.k_n6, VS.k_rv, VS.k_strM, VS.o_add, VS.o_sub, VS.o_fdiv, VS.o_mod, VS.o_mulL, VS.o_mulR, VS.o_lt, VS.o_le, VS.o_gt, VS.o_ge, VS.o_eq, VS.o_ne, VS.o_is, VS.o_isn, VS.o_in, VS.o_nin, VS.o_addL, VS.o_addT, VS.o_addS, VS.k_isE, VS.k_isV, VS.x_cons, VS.x_nil, VS.x_asg, VS.x_unp, VS.appP_1, VS.x_app, VS.x_ownAt, VS.ownO_1, VS.lstD_1, VS.dKD_1, VS.extP_1, VS.x_ext, VS.x_clr, VS.augP_1, VS.x_augA, VS.popP_1, VS.x_apop, VS.x_setx, VS.x_frz, VS.x_ret, VS.x_retV, VS.x_ex, VS.x_ifs, VS.x_for, VS.x_raise, List.set_cons_zero, List.set_cons_succ, List.getElem?_cons_zero, List.getElem?_cons_succ, Option.bind_some, Option.map_some, if_true, ite_true, ite_false, VS.M.bind_ok, VS.M.lift_some', eq_self, forall_const, true_implies, false_implies, Bool.true_eq_false, Bool.false_eq_true, and_true, true_and, Bool.true_and, Bool.and_true, Bool.false_and, Bool.and_false, Bool.or_false, Bool.false_or, Bool.or_true, Bool.true_or, Bool.not_true, Bool.not_false, Bool.not_not, decide_true, decide_false, if_false, reduceIte, Int.natCast_zero, List.length_cons, List.length_nil, List.length_map, exists_eq_left', VS.DsOf, reduceCtorEq, implies_true, List.nil_append, List.append_nil, VS.bind_ok, VS.lift_some, Nat.reduceAdd, Nat.reduceLeDiff, List.cons_append, List.length_append, List.length_range, List.length_take, List.length_drop, List.map_cons, List.map_nil, exists_prop, and_self, not_true, VS.sub, Nat.reduceBEq, beq_self_eq_true, not_false_eq_true, ne_eq, Option.some.injEq, K01.iD, K01.tD, KX.f_in, KX.f_lenL, KX.f_lenT, KX.f_lenD, KX.f_tupL, KX.f_tupT, KX.f_lstL, KX.f_lstT, KX.f_min, KX.f_rng, KX.f_rng2, KX.f_lstR, KX.f_eqI, KX.f_ixT, KX.f_ixL, KX.f_ix0, KX.f_ix0t, KX.f_ix1t, KX.f_ix1, KX.f_last, KX.f_isn, KX.f_isE, KX.f_isN, KX.f_isI, KX.f_isT, KX.f_isB, KX.f_tt, KX.f_tl, KX.f_ib, KX.f_ii, KX.f_ts, KX.f_mixed] $[$l]?)
-- </M2>
namespace KO
open PySem L2 VS VP K01 K02 KX KG WY
theorem f_pick {xs : List D} {z : Int} (h : 0 ≤ z ∧ z < (xs.length : Int)) : ixD (.lst xs) (.int z) = some (xs.getD z.toNat .non) := by
  obtain ⟨k, rfl⟩ : ∃ k : Nat, z = k := ⟨z.toNat, by omega⟩
  refine K01.atI_nat ?_
  rw [Int.toNat_natCast, List.getD_eq_getElem?_getD, List.getElem?_eq_getElem (by omega)]
  rfl
theorem getD_memD {xs : List D} {z : Int} (h : 0 ≤ z ∧ z < (xs.length : Int)) : xs.getD z.toNat .non ∈ xs := by
  rw [List.getD_eq_getElem?_getD, List.getElem?_eq_getElem (by omega)]
  exact List.getElem_mem _
def mdN (s : Int) (most : Nat) : Nat := 1 + ((mixed s 1).fmod (most : Nat)).toNat
def mdM (s : Int) : Nat := ([6, 4, 20] : List Nat).getD ((mixed s 6).fmod 3).toNat 1
def mdC (s : Int) : Nat := 1 + ((mixed s 2).fmod (mdM s : Nat)).toNat
def mdG (s : Int) (most : Nat) : List (List Nat) := (List.range (mdC s)).map fun k => drT s (7 + k) (mdN s most)
def m__law_made : Mir
  | [.val (.int s), .val (.int most)] => if most = 12 then some (.ok (.val (.tup [.int (mdN s 12 : Nat), .lst ((mdG s 12).map tD)]))) else none
  | _ => none
def n__law_made : List Str := ["_law_seed_here", "_law_most", "_law_many", "_law_k"]
def b__law_made : List S := [.asg 2 (.op .add (.cst (.int 1)) (.op .mod (.call "_law_mixed" m__law_mixed [(.var 0), (.cst (.int 1))]) (.var 1))),
  .asg 1 (.ix (.lst [(.cst (.int 6)), (.cst (.int 4)), (.cst (.int 20))]) (.op .mod (.call "_law_mixed" m__law_mixed [(.var 0), (.cst (.int 6))]) (.cst (.int 3)))),
  .ret (.tup [(.var 2), (.lc (.one 3) (.iRng [(.op .add (.cst (.int 1)) (.op .mod (.call "_law_mixed" m__law_mixed [(.var 0), (.cst (.int 2))]) (.var 1)))]) [] (.call "_law_turn" m__law_turn [(.var 0), (.op .add (.cst (.int 7)) (.var 3)), (.var 2)]))])]
theorem mdN_ok (s : Int) : 1 ≤ mdN s 12 ∧ mdN s 12 ≤ 12 := by
  obtain ⟨h1, h2⟩ := fm (mixed s 1) 12 (by decide)
  have : ((12 : Nat) : Int) = 12 := rfl
  unfold mdN
  rw [this]; omega
theorem mdM_ok (s : Int) : 4 ≤ mdM s ∧ mdM s ≤ 20 ∧ ixD (.lst [.int 6, .int 4, .int 20]) (.int ((mixed s 6).fmod 3)) = some (.int (mdM s : Nat)) := by
  obtain ⟨h1, h2⟩ := fm (mixed s 6) 3 (by decide)
  unfold mdM
  rcases (by omega : (mixed s 6).fmod 3 = 0 ∨ (mixed s 6).fmod 3 = 1 ∨ (mixed s 6).fmod 3 = 2) with e | e | e
  all_goals (rw [e]; exact ⟨by decide, by decide, K01.atI_nat rfl⟩)
theorem mdC_ok (s : Int) : 1 ≤ mdC s ∧ mdC s ≤ 20 := by
  obtain ⟨h1, h2, _⟩ := mdM_ok s
  obtain ⟨h3, h4⟩ := fm (mixed s 2) (mdM s : Nat) (by omega)
  unfold mdC; omega
theorem mdG_ok (s : Int) : (∀ p ∈ mdG s 12, Pm p ∧ p.length = mdN s 12) ∧ (mdG s 12).length = mdC s := by
  refine ⟨fun p hp => ?_, by simp [mdG]⟩
  unfold mdG at hp
  obtain ⟨k, _, rfl⟩ := List.mem_map.mp hp
  exact drT_ok s (7 + k) (mdN_ok s).1
theorem f_turn {s : Int} {k n : Nat} (h : k ≤ 30 ∧ 1 ≤ n ∧ n ≤ 12) : m__law_turn [.val (.int s), .val (.int (k : Nat)), .val (.int (n : Nat))] = M.ok (.val (.tup ((drT s k n).map iD))) := by
  show (if _ then _ else _) = _
  rw [if_pos (by omega), Int.toNat_natCast, Int.toNat_natCast]
theorem w__law_made : ∀ cs r, m__law_made cs = some r → wps b__law_made (DsOf r) (start0 n__law_made cs) := by
  intro cs r h
  refine of_jps ?_
  unfold m__law_made at h
  split at h
  · rename_i s most
    split at h
    · rename_i hm
      subst hm
      cases h
      show jps b__law_made _ [.val (.int s), .val (.int 12), .un, .un]
      have hbig := big
      obtain ⟨n1, n2⟩ := mdN_ok s
      obtain ⟨m1, m2, m3⟩ := mdM_ok s
      obtain ⟨c1, c2⟩ := mdC_ok s
      have eN : 1 + (mixed s 1).fmod 12 = ((mdN s 12 : Nat) : Int) := by
        obtain ⟨h1, h2⟩ := fm (mixed s 1) 12 (by decide)
        have : ((12 : Nat) : Int) = 12 := rfl
        unfold mdN; rw [this]; omega
      have eC : 1 + (mixed s 2).fmod (mdM s : Int) = ((mdC s : Nat) : Int) := by
        obtain ⟨h3, h4⟩ := fm (mixed s 2) (mdM s : Nat) (by omega)
        unfold mdC; omega
      have x5 : (((mdM s : Nat) : Int) = 0) = False := by simp; omega
      simp?! [b__law_made, eN, m3, eC, x5]
      rw [lcA_of (fun k : Nat => tD (drT s (7 + k) (mdN s 12))) fun k hk => by
        have := List.mem_range.mp hk
        have e1 : (7 : Int) + (k : Nat) = ((7 + k : Nat) : Int) := by omega
        simp?! [e1, f_turn, tD]]
      have eG : ((List.range (mdC s)).map fun k : Nat => tD (drT s (7 + k) (mdN s 12))) = (mdG s 12).map tD := by unfold mdG; rw [List.map_map]; rfl
      rw [eG]
      simp?!
    · cases h
  · cases h
/-! ### the law's letters -/
def pair2 (T : List (List Nat)) (i : Nat) : D := .tup [.int (lv i), .lst ((tn T i).map iD)]
def lt2 (T : List (List Nat)) : List D := (List.range T.length).map (pair2 T)
theorem lt2_length (T : List (List Nat)) : (lt2 T).length = T.length := by simp [lt2]
theorem lt2_two (T : List (List Nat)) (x y : List Nat) : lt2 (T ++ [x, y]) = lt2 T ++ [.tup [.int (lv T.length), .lst (x.map iD)], .tup [.int (lv (T.length + 1)), .lst (y.map iD)]] := by
  unfold lt2
  rw [List.length_append]
  show (List.range (T.length + 2)).map _ = _
  rw [List.range_succ, List.range_succ, List.map_append, List.map_append, List.append_assoc]
  congr 1
  · refine List.map_congr_left fun i hi => ?_
    unfold pair2; rw [tn_old (List.mem_range.mp hi)]
  · have e1 : tn (T ++ [x, y]) T.length = x := by unfold tn; rw [List.getD_eq_getElem?_getD, List.getElem?_append_right (Nat.le_refl _)]; simp
    have e2 : tn (T ++ [x, y]) (T.length + 1) = y := by unfold tn; rw [List.getD_eq_getElem?_getD, List.getElem?_append_right (by omega)]; simp
    simp only [List.map_cons, List.map_nil, pair2, e1, e2]
    rfl
def natL : D → List Nat
  | .tup [_, .lst ys] => ys.map natD
  | _ => []
def ltT (xs : List D) : List (List Nat) := xs.map natL
theorem ltT_lt2 (T : List (List Nat)) : ltT (lt2 T) = T := by
  unfold ltT lt2
  rw [List.map_map]
  have : (natL ∘ pair2 T) = tn T := by
    funext i
    show ((tn T i).map iD).map natD = tn T i
    rw [List.map_map]
    have : natD ∘ iD = id := by funext i; show ((i : Int)).toNat = i; simp
    rw [this, List.map_id]
  rw [this]
  refine List.ext_getElem (by simp) fun i h1 h2 => ?_
  rw [List.getElem_map, List.getElem_range]
  unfold tn
  rw [List.getD_eq_getElem?_getD, List.getElem?_eq_getElem h2]; rfl
def m__law_letters : Mir
  | [.val (.lst gs)] => if gs.all turnB = true ∧ gs.length ≤ 66 then some (.ok (.own (.lst (lt2 (lts (gs.map nats)))))) else none
  | _ => none
def n__law_letters : List Str := ["_law_some", "_law_found", "_law_k", "_law_one", "_law_turned", "_law_p", "_law_q"]
def b__law_letters : List S := [.asg 1 (.lst []),
  .for_ (.tup [2, 3]) (.iEnum (.var 0)) [.asg 4 (.op .mul (.lst [(.cst (.int 0))]) (.blt bLen [(.var 3)])), .for_ (.tup [5, 6]) (.iEnum (.var 3)) [.setx 4 (.var 6) (.var 5)], .app 1 (.tup [(.op .add (.var 2) (.cst (.int 1))), (.blt bList [(.var 3)])]), .frz 4, .app 1 (.tup [(.op .sub (.neg (.cst (.int 1))) (.var 2)), (.var 4)])],
  .retV 1]
theorem rep0 (n : Nat) (h : n ≤ 100) : opD .mul (.lst [.int 0]) (.int (n : Nat)) = some (.own (.lst ((List.replicate n 0).map iD))) := by
  have hbig := big
  simp only [opD]
  rw [if_pos ⟨by omega, by have : (2 : Int) ^ 63 = 9223372036854775808 := by decide
                           omega, by simp; omega⟩]
  rw [Int.toNat_natCast]
  congr 3
  rw [rep_one, List.map_replicate]; rfl
theorem w__law_letters : ∀ cs r, m__law_letters cs = some r → wps b__law_letters (DsOf r) (start0 n__law_letters cs) := by
  intro cs r h
  refine of_jps ?_
  unfold m__law_letters at h
  split at h
  · rename_i gs
    split at h
    · rename_i hh
      cases h
      obtain ⟨hg, hl⟩ := hh
      obtain ⟨ps, rfl, hps⟩ : ∃ ps : List (List Nat), gs = ps.map tD ∧ ∀ p ∈ ps, Pm p ∧ 1 ≤ p.length ∧ p.length ≤ 12 := by
        rw [List.all_eq_true] at hg
        refine ⟨gs.map nats, ?_, fun p hp => ?_⟩
        · rw [List.map_map]
          conv => lhs; rw [← List.map_id gs]
          exact List.map_congr_left fun d hd => (turn_perm (hg d hd)).1
        · obtain ⟨d, hd, rfl⟩ := List.mem_map.mp hp
          exact (turn_perm (hg d hd)).2
      have eN : (ps.map tD).map nats = ps := by
        rw [List.map_map]
        have : nats ∘ tD = id := by funext p; exact nats_tD p
        rw [this, List.map_id]
      rw [eN]
      rw [List.length_map] at hl
      show jps b__law_letters _ [.val (.lst (ps.map tD)), .un, .un, .un, .un, .un, .un]
      have hbig := big
      simp?! [b__law_letters]
      refine for_enum _ _ (fun k ρ => k ≤ ps.length ∧ ∃ c2 c3 c4 c5 c6, ρ = [.val (.lst (ps.map tD)), .own (.lst (lt2 (lts (ps.take k)))), c2, c3, c4, c5, c6]) ⟨Nat.zero_le _, _, _, _, _, _, rfl⟩ ?_ ?_
      · rintro k p ρ Q hk ⟨_, c2, c3, c4, c5, c6, rfl⟩ hQ
        obtain ⟨e1, e2, e3⟩ := get_take' hk
        obtain ⟨p1, p2, p3⟩ := hps p e3
        have hT : tD p = .tup (p.map iD) := rfl
        have hr := rep0 p.length (by omega)
        have hL : (lt2 (lts (ps.take k))).length = 2 * k := by rw [lt2_length, lts_length, List.length_take]; omega
        simp?! [hT, hr]
        refine for_enum _ _ (fun j ρ => j ≤ p.length ∧ ∃ c5 c6, ρ = [.val (.lst (ps.map tD)), .own (.lst (lt2 (lts (ps.take k)))), .val (.int (k : Nat)), .val (.tup (p.map iD)), .own (.lst ((bk p j).map iD)), c5, c6]) ⟨Nat.zero_le _, _, _, rfl⟩ ?_ ?_
        · rintro j q ρ Q2 hj ⟨_, c5, c6, rfl⟩ hQ2
          obtain ⟨j1, j2, j3⟩ := get_take' hj
          have hq : q < p.length := mem_lt p1 j3
          have eS := f_setI (l := bk p j) (i := q) (v := j) (by rw [bk_length]; omega)
          have eI : iD q = .int (q : Nat) := rfl
          have eB : bk p (j + 1) = (bk p j).set q j := by
            show (bk p j).set (nx p j) j = _
            rw [nx_get j2, (List.getElem?_eq_some_iff.mp hj).2]
          simp?! [eI, eS]
          exact hQ2 _ ⟨by omega, _, _, by rw [eB]⟩
        · rintro ρ ⟨_, c5, c6, rfl⟩
          rw [bk_inv p1]
          simp?! [hL]
          refine ⟨by omega, by omega, hQ _ ⟨by omega, .val (.int (k : Nat)), .val (.tup (p.map iD)), .val (.lst ((inv p).map iD)), c5, c6, ?_⟩⟩
          rw [e1, lts_snoc, lt2_two, lts_length, List.length_take, Nat.min_eq_left (by omega), lv_even, lv_odd]
          have e4 : (-1 : Int) - (k : Nat) = -(k : Nat) - 1 := by omega
          rw [e4]
          simp only [List.append_assoc]
          rfl
      · rintro ρ ⟨_, c2, c3, c4, c5, c6, rfl⟩
        simp?! [List.take_length]
    · cases h
  · cases h
/-! ### how far -/
def fQ (Q : QL) : List D := Q.map fun e => .int (e.2.length : Nat)
theorem find_F (x : Nat) : ∀ Q : QL, findK (kQ Q) (fQ Q) (Sum.inl (x : Int)) = (Q.lookup x).map fun w => .int (w.length : Nat)
  | [] => rfl
  | (k, w) :: Q => by
    show (if (Sum.inl (k : Int) : Key) = Sum.inl (x : Int) then some (D.int (w.length : Nat)) else findK (kQ Q) (fQ Q) (Sum.inl (x : Int))) = _
    rw [List.lookup_cons]
    by_cases h : x = k
    · subst h
      rw [if_pos rfl, beq_self_eq_true]; rfl
    · rw [if_neg (fun z => h (by injection z with z; omega)), beq_eq_false_iff_ne.mpr h, find_F x Q]
theorem f_inF {x : Nat} {Q : QL} : inD (.int (x : Nat)) (.dK (kQ Q) (fQ Q)) = some (decide (x ∈ Q.map (·.1))) := by
  show some (findK (kQ Q) (fQ Q) (Sum.inl (x : Int))).isSome = _
  rw [find_F, Option.isSome_map, lookup_isSome]
theorem f_ixF {x : Nat} {Q : QL} {w : List Nat} (h : Q.lookup x = some w) : ixD (.dK (kQ Q) (fQ Q)) (.int (x : Nat)) = some (.int (w.length : Nat)) := by
  show findK (kQ Q) (fQ Q) (Sum.inl (x : Int)) = _
  rw [find_F, h]; rfl
theorem f_setF {x z : Nat} {Q : QL} {w : List Nat} (h : x ∉ Q.map (·.1)) (hl : Q.length ≤ 100000) (hz : w.length = z) : setO (.dK (kQ Q) (fQ Q)) (.int (x : Nat)) (.int (z : Nat)) = some (.dK (kQ (Q ++ [(x, w)])) (fQ (Q ++ [(x, w)]))) := by
  subst hz
  show (if (kQ Q).length < sizeLine then some (O.dK (putD (kQ Q) (fQ Q) (Sum.inl (x : Int)) (.int (w.length : Nat))).1 (putD (kQ Q) (fQ Q) (Sum.inl (x : Int)) (.int (w.length : Nat))).2) else none) = _
  have hbig := big
  rw [if_pos (by unfold kQ; rw [List.length_map]; omega)]
  unfold putD
  rw [if_neg (fun z => h (kQ_mem.mp z))]
  simp only [kQ, fQ, List.map_append]
  rfl
theorem f_neN (l : List Nat) : eqD (.lst (l.map iD)) (.lst []) = some (decide (l = [])) := by
  obtain ⟨k, e1, e2⟩ := eqD_ok (a := .lst (l.map iD)) (b := .lst []) (by simp only [okd]; exact okds_nat l) rfl (by simp only [dpt]; have := dpts_nat l; omega) (by simp [dpt, dpts])
  rw [e1]
  congr 1
  rw [Bool.eq_iff_iff, e2, decide_eq_true_iff, D.lst.injEq, List.map_eq_nil_iff]
theorem f_neP (Q : QL) : eqD (.lst (pQ Q)) (.lst []) = some (decide (Q = [])) := by
  have e : pQ Q = (Q.map (·.1)).map iD := by unfold pQ; rw [List.map_map]; rfl
  rw [e, f_neN]
  congr 1
  rw [decide_eq_decide, List.map_eq_nil_iff]
def nOf (T : List (List Nat)) : Nat := (tn T 0).length
open Classical in
noncomputable def m__law_far : Mir
  | [.bor (.lst xs), .val (.int g)] => if xs = lt2 (ltT xs) ∧ Clo (ltT xs) (nOf (ltT xs)) ∧ (ltT xs).length ≤ 132 ∧ nOf (ltT xs) ≤ 12 ∧ 0 ≤ g ∧ g < nOf (ltT xs) then
      some (.ok (.own (.dK (kQ (wrd (ltT xs) (nOf (ltT xs)) g.toNat)) (fQ (wrd (ltT xs) (nOf (ltT xs)) g.toNat))))) else none
  | _ => none
def n__law_far : List Str := ["_law_letters_here", "_law_goal", "_law_found", "_law_edge", "_law_later", "_law_p", "_law_letter", "_law_row"]
def b__law_far : List S := [.asg 2 (.dict1 (.var 1) (.cst (.int 0))),
  .asg 3 (.lst [(.var 1)]),
  .frz 3,
  .while_ (.op .ne (.var 3) (.lst [])) [.asg 4 (.lst []), .for_ (.one 5) (.var 3) [.for_ (.tup [6, 7]) (.var 0) [.ifs (.op .notin (.ix (.var 7) (.var 5)) (.var 2)) [.setx 2 (.ix (.var 7) (.var 5)) (.op .add (.ix (.var 2) (.var 5)) (.cst (.int 1))), .app 4 (.ix (.var 7) (.var 5))] []]], .frz 4, .asg 3 (.var 4)],
  .retV 2]
theorem inn_pre (T : List (List Nat)) (x : Nat) (w : List Nat) (Q : QL) : ∀ j, ∃ R, inn T x w Q j = Q ++ R
  | 0 => ⟨[], (List.append_nil Q).symm⟩
  | j + 1 => by
    obtain ⟨R, h⟩ := inn_pre T x w Q j
    rw [inn_succ, h]
    unfold inS
    split
    · exact ⟨R, rfl⟩
    · exact ⟨_, List.append_assoc ..⟩
theorem bfs_pre (T : List (List Nat)) (a n : Nat) : ∀ k, ∃ R, bfs T a (n + k) = bfs T a n ++ R
  | 0 => ⟨[], (List.append_nil _).symm⟩
  | k + 1 => by
    obtain ⟨R, h⟩ := bfs_pre T a n k
    show ∃ R, (match (bfs T a (n + k))[n + k]? with | some e => inn T e.1 e.2 (bfs T a (n + k)) T.length | none => bfs T a (n + k)) = _
    split
    · rename_i e _
      obtain ⟨R2, h2⟩ := inn_pre T e.1 e.2 (bfs T a (n + k)) T.length
      rw [h2, h]
      exact ⟨_, List.append_assoc ..⟩
    · exact ⟨R, h⟩
theorem pre_get {Q R : QL} {i : Nat} (h : i < Q.length) : (Q ++ R)[i]? = Q[i]? := List.getElem?_append_left h
theorem w__law_far : ∀ cs r, m__law_far cs = some r → wps b__law_far (DsOf r) (start0 n__law_far cs) := by
  intro cs r h
  refine of_jps ?_
  unfold m__law_far at h
  split at h
  · rename_i xs g
    split at h
    · rename_i hh
      cases h
      obtain ⟨hxs, C0, hT, hN, hg0, hgN⟩ := hh
      generalize ltT xs = T at *
      subst hxs
      generalize nOf T = N at *
      obtain ⟨g, rfl⟩ : ∃ j : Nat, g = j := ⟨g.toNat, by omega⟩
      rw [Int.toNat_natCast]
      have hg : g < N := by omega
      show jps b__law_far _ [.bor (.lst (lt2 T)), .val (.int (g : Nat)), .un, .un, .un, .un, .un, .un]
      have hbig := big
      have e0 : kQ (bfs T g 0) = [Sum.inl (g : Int)] := rfl
      have e1 : fQ (bfs T g 0) = [.int 0] := rfl
      have e2 : pQ (bfs T g 0) = [.int (g : Nat)] := rfl
      have key : keyD (.int (g : Nat)) = some (Sum.inl (g : Int)) := rfl
      have hd1 : d1M (.int 0) (some (Sum.inl (g : Int))) = M.ok (.own (.dK [Sum.inl (g : Int)] [.int 0])) := rfl
      simp?! [b__law_far, key, hd1]
      refine while_m (fun m ρ => ∃ k c4 c5 c6 c7, m = N - k ∧ k ≤ (bfs T g k).length ∧ ρ = [.bor (.lst (lt2 T)), .val (.int (g : Nat)), .own (.dK (kQ (bfs T g k)) (fQ (bfs T g k))), .val (.lst (pQ ((bfs T g k).drop k))), c4, c5, c6, c7]) N ⟨0, _, _, _, _, rfl, Nat.zero_le _, by rw [e0, e1]; rfl⟩ ?_
      rintro m ρ ⟨k, c4, c5, c6, c7, rfl, hk, rfl⟩
      have iv := inv_bfs C0.toTok hg k hk
      have hQN := inv_len iv
      simp?! [f_neP, ifP_b]
      refine ⟨fun hlt => ?_, fun hge => ?_⟩
      · have hlt : k < (bfs T g k).length := by
          refine Decidable.byContradiction fun q => ?_
          have : (bfs T g k).drop k = [] := List.drop_eq_nil_of_le (by omega)
          rw [this] at hlt
          simp at hlt
        intro Q hQ
        obtain ⟨e, he1⟩ : ∃ e, e = (bfs T g k).length := ⟨_, rfl⟩
        simp?!
        refine for_map _ _ (fun t ρ => t ≤ e - k ∧ k + t ≤ (bfs T g (k + t)).length ∧ ∃ c5 c6 c7, ρ = [.bor (.lst (lt2 T)), .val (.int (g : Nat)), .own (.dK (kQ (bfs T g (k + t))) (fQ (bfs T g (k + t)))), .val (.lst (pQ ((bfs T g k).drop k))), .own (.lst (pQ ((bfs T g (k + t)).drop e))), c5, c6, c7]) ⟨Nat.zero_le _, hk, c5, c6, c7, by rw [Nat.add_zero, he1, List.drop_length]; rfl⟩ ?_ ?_
        · rintro t ex ρ Q2 ht ⟨_, hkt, c5, c6, c7, rfl⟩ hQ2
          obtain ⟨x, w0⟩ := ex
          have htl : k + t < e := by
            have := (List.getElem?_eq_some_iff.mp ht).1
            simp at this; omega
          obtain ⟨R, hR⟩ := bfs_pre T g k t
          have at1 : ∃ w, (bfs T g (k + t))[k + t]? = some (x, w) := by
            rw [hR, pre_get (by omega)]
            rw [List.getElem?_drop] at ht
            exact ⟨w0, ht⟩
          obtain ⟨w, at1⟩ := at1
          have iv1 := inv_bfs C0.toTok hg (k + t) hkt
          have hstep := bfs_succ at1
          have hx := iv1.lt _ (List.mem_of_getElem? at1)
          have hle : e ≤ (bfs T g (k + t)).length := by rw [hR, List.length_append]; omega
          have eI : iD x = .int (x : Nat) := rfl
          have hpl : ∀ Q : QL, (pQ Q).length = Q.length := fun Q => by unfold pQ; rw [List.length_map]
          simp?! [eI]
          refine for_cnt _ _ (fun j ρ => j ≤ T.length ∧ ∃ c6 c7, ρ = [.bor (.lst (lt2 T)), .val (.int (g : Nat)), .own (.dK (kQ (inn T x w (bfs T g (k + t)) j)) (fQ (inn T x w (bfs T g (k + t)) j))), .val (.lst (pQ ((bfs T g k).drop k))), .own (.lst (pQ ((inn T x w (bfs T g (k + t)) j).drop e))), .val (.int (x : Nat)), c6, c7]) ⟨Nat.zero_le _, _, _, rfl⟩ ?_ ?_
          · rintro j ρ Q3 hj ⟨_, c6, c7, rfl⟩ hQ3
            obtain ⟨iv2, at2⟩ := inv_inn C0.toTok iv1 at1 j (by omega)
            have hl2 := inv_len iv2
            have hgr := inn_grow T x w (bfs T g (k + t)) j
            obtain ⟨t1, t2⟩ := C0.pm j hj
            have eT : pair2 T j = .tup [.int (lv j), .lst ((tn T j).map iD)] := rfl
            have eX : ixD (.lst ((tn T j).map iD)) (.int (x : Nat)) = some (.int (nx (tn T j) x : Nat)) := f_ixL (by have : x < N := hx; omega)
            have hlk : (inn T x w (bfs T g (k + t)) j).lookup x = some w := mem_lookup iv2.nd (List.mem_of_getElem? at2)
            have eW := f_ixF hlk
            have hsucc := inn_succ T x w (bfs T g (k + t)) j
            unfold inS at hsucc
            simp?! [eT, eX, f_inF, ifP_b]
            refine ⟨fun hb => ?_, fun hb => ?_⟩
            · have hno : nx (tn T j) x ∉ (inn T x w (bfs T g (k + t)) j).map (·.1) := by simpa using hb
              rw [if_neg hno] at hsucc
              have eS := f_setF (w := w ++ [j]) (z := w.length + 1) hno (by omega) (by simp)
              have e1w : ((w.length : Nat) : Int) + 1 = ((w.length + 1 : Nat) : Int) := rfl
              simp?! [eX, eW, e1w, eS, hpl, List.length_drop]
              refine ⟨by omega, hQ3 _ ⟨hj, .val (.int (lv j)), .val (.lst ((tn T j).map iD)), ?_⟩⟩
              rw [hsucc, List.drop_append_of_le_length (by omega), pQ_snoc]
            · have hyes : nx (tn T j) x ∈ (inn T x w (bfs T g (k + t)) j).map (·.1) := by simpa using hb
              rw [if_pos hyes] at hsucc
              refine hQ3 _ ⟨hj, .val (.int (lv j)), .val (.lst ((tn T j).map iD)), ?_⟩
              rw [hsucc]
          · rintro ρ ⟨_, c6, c7, rfl⟩
            have hge2 : k + t + 1 ≤ (bfs T g (k + t + 1)).length := by
              have h1 : k + t < (bfs T g (k + t)).length := by omega
              have := grow h1
              omega
            simp?!
            refine hQ2 _ ⟨by omega, hge2, .val (.int (x : Nat)), c6, c7, ?_⟩
            rw [show k + (t + 1) = k + t + 1 by omega, hstep]
        · rintro ρ ⟨_, hkt, c5, c6, c7, rfl⟩
          have hlen : ((bfs T g k).drop k).length = e - k := by simp; omega
          rw [hlen] at hkt ⊢
          rw [show k + (e - k) = e by omega] at hkt ⊢
          simp?!
          exact hQ (N - e) _ (by omega) ⟨e, _, c5, c6, c7, rfl, hkt, rfl⟩
      · have hge : (bfs T g k).length ≤ k := by
          have hz : (bfs T g k).drop k = [] := by simpa using hge
          have := congrArg List.length hz
          simp at this; omega
        have hend : wrd T N g = bfs T g k := by
          have h2 := bfs_stop hge (N - k)
          unfold wrd
          rwa [show k + (N - k) = N by omega] at h2
        simp?! [hend]
    · cases h
  · cases h
/-! ### what is due -/
open Classical in
noncomputable def m__law_due : Mir
  | [.bor (.lst xs), .val (.int a), .val (.int g)] => if xs = lt2 (ltT xs) ∧ Clo (ltT xs) (nOf (ltT xs)) ∧ (ltT xs).length ≤ 132 ∧ nOf (ltT xs) ≤ 12 ∧ (0 ≤ g ∧ g < nOf (ltT xs)) ∧ 0 ≤ a ∧ a < nOf (ltT xs) then
      some (.ok (.val (wayD (ltT xs) (nOf (ltT xs)) a.toNat g.toNat))) else none
  | _ => none
def n__law_due : List Str := ["_law_letters_here", "_law_point", "_law_goal", "_law_far_here", "_law_found", "_law_here", "_law_letter", "_law_row", "_law_pair"]
noncomputable def b__law_due : List S := [.asg 3 (.call "_law_far" m__law_far [(.var 0), (.var 2)]),
  .ifs (.op .notin (.var 1) (.var 3)) [.ret (.cst .non)] [],
  .asg 4 (.tup []),
  .asg 5 (.var 1),
  .while_ (.op .ne (.var 5) (.var 2)) [.unp (.tup [6, 7]) (.ix (.lc (.one 8) (.var 0) [(.op .eq (.ix (.var 3) (.ix (.ix (.var 8) (.cst (.int 1))) (.var 5))) (.op .sub (.ix (.var 3) (.var 5)) (.cst (.int 1))))] (.var 8)) (.cst (.int 0))), .asg 4 (.op .add (.var 4) (.tup [(.var 6)])), .asg 5 (.ix (.var 7) (.var 5))],
  .retV 4]
theorem lookup_wof {T : List (List Nat)} {N g x : Nat} {d : Nat} (h : farO T N g x = some d) : ∃ w, (wrd T N g).lookup x = some w ∧ w.length = d := by
  unfold farO wof at h
  cases hw : (wrd T N g).lookup x with
  | none => rw [hw] at h; cases h
  | some w => rw [hw] at h; cases h; exact ⟨w, rfl, rfl⟩
theorem w__law_due : ∀ cs r, m__law_due cs = some r → wps b__law_due (DsOf r) (start0 n__law_due cs) := by
  intro cs r h
  refine of_jps ?_
  unfold m__law_due at h
  split at h
  · rename_i xs a g
    split at h
    · rename_i hh
      cases h
      have hfar : m__law_far [.bor (.lst xs), .val (.int g)] = M.ok (.own (.dK (kQ (wrd (ltT xs) (nOf (ltT xs)) g.toNat)) (fQ (wrd (ltT xs) (nOf (ltT xs)) g.toNat)))) := by
        unfold m__law_far
        exact if_pos ⟨hh.1, hh.2.1, hh.2.2.1, hh.2.2.2.1, hh.2.2.2.2.1.1, hh.2.2.2.2.1.2⟩
      obtain ⟨hxs, C0, hT, hN, ⟨hg0, hgN⟩, ha0, haN⟩ := hh
      generalize ltT xs = T at *
      subst hxs
      generalize nOf T = N at *
      obtain ⟨g, rfl⟩ : ∃ j : Nat, g = j := ⟨g.toNat, by omega⟩
      obtain ⟨a, rfl⟩ : ∃ j : Nat, a = j := ⟨a.toNat, by omega⟩
      rw [Int.toNat_natCast] at *
      rw [Int.toNat_natCast]
      have hg : g < N := by omega
      have ha : a < N := by omega
      show jps b__law_due _ [.bor (.lst (lt2 T)), .val (.int (a : Nat)), .val (.int (g : Nat)), .un, .un, .un, .un, .un, .un]
      have hbig := big
      have hsome : ∀ x, decide (x ∈ (wrd T N g).map (·.1)) = (farO T N g x).isSome := fun x => by
        rw [← lookup_isSome]; unfold farO wof; rw [Option.isSome_map]
      cases hfa : farO T N g a with
      | none =>
        have e1 : wayD T N a g = .non := by unfold wayD; rw [wof_none C0 ha hg hfa]
        have e2 := hsome a
        rw [hfa] at e2
        have e2 : decide (a ∈ (wrd T N g).map (·.1)) = false := e2
        simp?! [b__law_due, hfar, f_inF, e2, e1]
      | some d0 =>
        have e1 : wayD T N a g = .tup ((gre T (farO T N g) d0 a).map fun i => .int (lv i)) := by unfold wayD; rw [wof_gre C0 ha hg hfa]
        have e2 := hsome a
        rw [hfa] at e2
        have e2 : decide (a ∈ (wrd T N g).map (·.1)) = true := e2
        have t1 : (false = true) = False := by simp
        have hdl : d0 ≤ 1000000 - 500 := by
          obtain ⟨w, hw, hl⟩ := lookup_wof hfa
          obtain ⟨n, h1, h2, h3, iv⟩ := wrd_end C0.toTok hg
          have h4 := len_bound C0.toTok hg (Nat.le_of_eq h1) (by rw [← h3]; exact WY.lookup_mem hw)
          have h4 : w.length ≤ N := h4
          omega
        simp?! [b__law_due, hfar, f_inF, e2, e1, t1]
        refine while_m (fun m ρ => ∃ x d u c6 c7, m = d ∧ x < N ∧ farO T N g x = some d ∧ u ++ gre T (farO T N g) d x = gre T (farO T N g) d0 a ∧ ρ = [.bor (.lst (lt2 T)), .val (.int (a : Nat)), .val (.int (g : Nat)), .own (.dK (kQ (wrd T N g)) (fQ (wrd T N g))), .val (.tup (u.map fun i => .int (lv i))), .val (.int (x : Nat)), c6, c7, .un]) d0 ⟨a, d0, [], _, _, rfl, ha, hfa, rfl, rfl⟩ ?_
        rintro m ρ ⟨x, d, u, c6, c7, rfl, hx, hfx, hu, rfl⟩
        have hul : u.length ≤ d0 := by
          have h1 := congrArg List.length hu
          rw [List.length_append] at h1
          have h2 := (gre_ok C0 hg d0 a ha (far_isD C0 ha hg hfa)).2.1
          omega
        simp?! [f_eqI, ifP_b]
        refine ⟨fun hb => ?_, fun hb => ?_⟩
        · have hne : x ≠ g := fun z => by subst z; simp at hb
          intro Q hQ
          have hD := far_isD C0 hx hg hfx
          cases m with
          | zero =>
            obtain ⟨⟨v, v1, v2, v3⟩, _⟩ := hD
            cases v with
            | nil => exact absurd v3 hne
            | cons _ _ => cases v2
          | succ d =>
            -- a letter that leads nearer is there
            obtain ⟨⟨v, v1, v2, v3⟩, hmin⟩ := hD
            cases v with
            | nil => cases v2
            | cons l0 v0 =>
              have hlt := (val_cons.mp v1).1
              have hnl : nearB T (farO T N g) d x l0 = true := by
                unfold nearB
                rw [decide_eq_true_iff]
                refine isD_far C0 (C0.toTok.lt hlt hx) hg ⟨⟨v0, (val_cons.mp v1).2, by simpa using v2, v3⟩, fun w hw hwg => ?_⟩
                have := hmin (l0 :: w) (val_cons.mpr ⟨hlt, hw⟩) hwg
                simp at this; omega
              obtain ⟨f1, f2, f3, r, hr⟩ := fi_spec hlt hnl
              have hfx2 : farO T N g (nx (tn T (fi T (farO T N g) d x)) x) = some d := by simpa [nearB] using f2
              obtain ⟨wx, hwx, hwxl⟩ := lookup_wof hfx
              have eX := f_ixF hwx
              rw [hwxl] at eX
              have ed : (((d + 1 : Nat) : Int)) - 1 = (d : Int) := by omega
              have eLL : lt2 T = (List.range T.length).map (pair2 T) := rfl
              simp?! [eX, eLL]
              rw [lcA_ofIf (nearB T (farO T N g) d x) (pair2 T) fun i hi => by
                have hi := List.mem_range.mp hi
                obtain ⟨t1', t2'⟩ := C0.pm i hi
                have hy := C0.toTok.lt hi hx
                have eT : pair2 T i = .tup [.int (lv i), .lst ((tn T i).map iD)] := rfl
                have eR : ixD (.lst ((tn T i).map iD)) (.int (x : Nat)) = some (.int (nx (tn T i) x : Nat)) := f_ixL (by omega)
                obtain ⟨kk, hkk⟩ := far_reach C0 hy hg (u := (back_word C0 [i] x (val_one.mpr hi) hx).choose ++ (l0 :: v0)) (val_app.mpr ⟨(back_word C0 [i] x (val_one.mpr hi) hx).choose_spec.1, v1⟩) (by
                  rw [gow_app]
                  have := (back_word C0 [i] x (val_one.mpr hi) hx).choose_spec.2.2
                  have this : gow T _ (nx (tn T i) x) = x := this
                  rw [this]; exact v3)
                obtain ⟨wy, hwy, hwyl⟩ := lookup_wof hkk
                have eY := f_ixF hwy
                rw [hwyl] at eY
                have eB : nearB T (farO T N g) d x i = decide ((kk : Int) = (d : Int)) := by
                  unfold nearB; rw [hkk]
                  refine decide_eq_decide.mpr ⟨fun q => by injection q with q; omega, fun q => by congr 1; omega⟩
                rw [eB]
                simp?! [eT, eR, eX, eY, ed, f_ix1t, f_eqI]]
              have hfl : (List.range T.length).filter (nearB T (farO T N g) d x) = fi T (farO T N g) d x :: r := hr
              rw [hfl]
              have hrl : (fi T (farO T N g) d x :: r).length ≤ 132 := by
                rw [← hfl]
                exact Nat.le_trans (List.length_filter_le _ _) (by rw [List.length_range]; exact hT)
              generalize hfi : fi T (farO T N g) d x = i0 at *
              have eT : pair2 T i0 = .tup [.int (lv i0), .lst ((tn T i0).map iD)] := rfl
              obtain ⟨t1', t2'⟩ := C0.pm i0 f1
              have eR : ixD (.lst ((tn T i0).map iD)) (.int (x : Nat)) = some (.int (nx (tn T i0) x : Nat)) := f_ixL (by omega)
              have hum : (u.map fun i => D.int (lv i)).length = u.length := List.length_map _
              rw [szM_ok (by omega), List.map_cons]
              simp?! [f_ix0, eT, eR, hum]
              refine hQ d _ (by omega) ⟨nx (tn T i0) x, d, u ++ [i0], .val (.int (lv i0)), .val (.lst ((tn T i0).map iD)), rfl, C0.toTok.lt f1 hx, hfx2, ?_, ?_⟩
              · rw [← hu]
                show (u ++ [i0]) ++ gre T (farO T N g) d (nx (tn T i0) x) = u ++ (fi T (farO T N g) d x :: gre T (farO T N g) d (nx (tn T (fi T (farO T N g) d x)) x))
                rw [hfi, List.append_assoc]; rfl
              · rw [List.map_append]; rfl
        · have hxg : x = g := by
            have : ((x : Int) = (g : Int)) := by simpa using hb
            omega
          subst hxg
          have hm0 : m = 0 := by
            have h1 := (far_isD C0 hx hg hfx).2 [] val_nil rfl
            simpa using h1
          subst hm0
          have hu : u ++ [] = gre T (farO T N x) d0 a := hu
          rw [List.append_nil] at hu
          simp?! [hu]
    · cases h
  · cases h
end KO

set_option Elab.async false
set_option linter.all false
set_option autoImplicit false
set_option maxRecDepth 100000
set_option maxHeartbeats 4000000
/-! KO: ways compared; the word of a refusal; the law k08. -/
-- <M2>
local macro_rules
  | `(tactic| simp?! [$as,*] $[$l:location]?) => `(tactic| simp (implicitDefEqProofs := false) (disch := first | assumption | decide | omega) only [VS.ifP_b, VS.iteM_t, VS.iteM_f, VS.vr_val, VS.vr_own, VS.vr_bor, VS.lc_map, VS.consO_s, VS.consO_n, VS.lc_lit, VS.lcF_ok, VS.col_cons, VS.col_nil, VS.lc_lit0, VS.lcA_some, VS.szM_ok, VS.szO_ok, VS.szO_lit, VS.szM_lit, VS.x_var, VS.x_cst, VS.x_gl, VS.x_tup, VS.x_lst, VS.x_op, VS.x_chain, VS.x_neg, VS.x_not, VS.x_and, VS.x_or, VS.x_ite, VS.iteM_and, VS.iteM_or, VS.x_ix, VS.x_sl, VS.x_rev, VS.x_lc, VS.x_turn, VS.iteM_opt, VS.x_c0, VS.x_c1, VS.x_call, VS.x_make, VS.x_meth, VS.x_blt, VS.x_mth, VS.x_fld, VS.x_isi, VS.x_lstR, VS.x_lstR2, VS.x_dK, VS.x_d1, VS.x_g2, VS.x_spec, VS.x_callV, VS.x_rng, VS.x_enum, VS.x_revR, VS.x_str, VS.x_evs0, VS.x_evs1, VS.k_lv, VS.k_lo, VS.k_lb, VS.k_ll, VS.k_le, VS.k_kv, VS.k_ko, VS.k_ke, VS.k_f1, VS.k_f2, VS.k_av, VS.k_ao, VS.k_ab, VS.k_al, VS.k_sv, VS.k_so, VS.k_la0, VS.k_la1, VS.k_la2, VS.k_ka0, VS.k_ka1, VS.k_sq1, VS.k_sq2, VS.k_sq3, VS.k_sq4, VS.k_sq5, VS.k_er, VS.k_r1, VS.k_r2, VS.k_o1, VS.k_b1, VS.k_b2, VS.k_b3, VS.k_b4, VS.k_w0, VS.k_w1, VS.k_ts1, VS.k_ts2, VS.k_ch1, VS.k_ch2, VS.k_not, VS.k_neg, VS.k_tst, VS.k_po, VS.k_n1, VS.k_n2, VS.k_n3, VS.k_n4, VS.k_n5, VS.k_n6, VS.k_rv, VS.k_strM, VS.o_add, VS.o_sub, VS.o_fdiv, VS.o_mod, VS.o_mulL, VS.o_mulR, VS.o_lt, VS.o_le, VS.o_gt, VS.o_ge, VS.o_eq, VS.o_ne, VS.o_is, VS.o_isn, VS.o_in, VS.o_nin, VS.o_addL, VS.o_addT, VS.o_addS, VS.k_isE, VS.k_isV, VS.x_cons, VS.x_nil, VS.x_asg, VS.x_unp, VS.appP_1, VS.x_app, VS.x_ownAt, VS.ownO_1, VS.lstD_1, VS.dKD_1, VS.extP_1, VS.x_ext, VS.x_clr, VS.augP_1, VS.x_augA, VS.popP_1, VS.x_apop, VS.x_setx, VS.x_frz, VS.x_ret, VS.x_retV, VS.x_ex, VS.x_ifs, VS.x_for, VS.x_raise, List.set_cons_zero, List.set_cons_succ, List.getElem?_cons_zero, List.getElem?_cons_succ, Option.bind_some, Option.map_some, if_true, ite_true, ite_false, VS.M.bind_ok, VS.M.lift_some', eq_self, forall_const, true_implies, false_implies, Bool.true_eq_false, Bool.false_eq_true, and_true, true_and, Bool.true_and, Bool.and_true, Bool.false_and, Bool.and_false, Bool.or_false, Bool.false_or, Bool.or_true, Bool.true_or, Bool.not_true, Bool.not_false, Bool.not_not, decide_true, decide_false, if_false, reduceIte, Int.natCast_zero, List.length_cons, List.length_nil, List.length_map, exists_eq_left', VS.DsOf, reduceCtorEq, implies_true, List.nil_append, List.append_nil, VS.bind_ok, VS.lift_some, Nat.reduceAdd, Nat.reduceLeDiff, List.cons_append, List.length_append, List.length_range, List.length_take, List.length_drop, List.map_cons, List.map_nil, exists_prop, and_self, not_true, VS.sub, Nat.reduceBEq, beq_self_eq_true, not_false_eq_true, ne_eq, Option.some.injEq, K01.iD, K01.tD, KX.f_in, KX.f_lenL, KX.f_lenT, KX.f_lenD, KX.f_tupL, KX.f_tupT, KX.f_lstL, KX.f_lstT, KX.f_min, KX.f_rng, KX.f_rng2, KX.f_lstR, KX.f_eqI, KX.f_ixT, KX.f_ixL, KX.f_ix0, KX.f_ix0t, KX.f_ix1t, KX.f_ix1, KX.f_last, KX.f_isn, KX.f_isE, KX.f_isN, KX.f_isI, KX.f_isT, KX.f_isB, KX.f_tt, KX.f_tl, KX.f_ib, KX.f_ii, KX.f_ts, KX.f_mixed, $as,*] $[$l]?)
local macro_rules
  | `(tactic| simp?! $[$l:location]?) => `(tactic| simp (implicitDefEqProofs := false) (disch := first | assumption | decide | omega) only [VS.ifP_b, VS.iteM_t, VS.iteM_f, VS.vr_val, VS.vr_own, VS.vr_bor, VS.lc_map, VS.consO_s, VS.consO_n, VS.lc_lit, VS.lcF_ok, VS.col_cons, VS.col_nil, VS.lc_lit0, VS.lcA_some, VS.szM_ok, VS.szO_ok, VS.szO_lit, VS.szM_lit, VS.x_var, VS.x_cst, VS.x_gl, VS.x_tup, VS.x_lst, VS.x_op, VS.x_chain, VS.x_neg, VS.x_not, VS.x_and, VS.x_or, VS.x_ite, VS.iteM_and, VS.iteM_or, VS.x_ix, VS.x_sl, VS.x_rev, VS.x_lc, VS.x_turn, VS.iteM_opt, VS.x_c0, VS.x_c1, VS.x_call, VS.x_make, VS.x_meth, VS.x_blt, VS.x_mth, VS.x_fld, VS.x_isi, VS.x_lstR, VS.x_lstR2, VS.x_dK, VS.x_d1, VS.x_g2, VS.x_spec, VS.x_callV, VS.x_rng, VS.x_enum, VS.x_revR, VS.x_str, VS.x_evs0, VS.x_evs1, VS.k_lv, VS.k_lo, VS.k_lb, VS.k_ll, VS.k_le, VS.k_kv, VS.k_ko, VS.k_ke, VS.k_f1, VS.k_f2, VS.k_av, VS.k_ao, VS.k_ab, VS.k_al, VS.k_sv, VS.k_so, VS.k_la0, VS.k_la1, VS.k_la2, VS.k_ka0, VS.k_ka1, VS.k_sq1, VS.k_sq2, VS.k_sq3, VS.k_sq4, VS.k_sq5, VS.k_er, VS.k_r1, VS.k_r2, VS.k_o1, VS.k_b1, VS.k_b2, VS.k_b3, VS.k_b4, VS.k_w0, VS.k_w1, VS.k_ts1, VS.k_ts2, VS.k_ch1, VS.k_ch2, VS.k_not, VS.k_neg, VS.k_tst, VS.k_po, VS.k_n1, VS.k_n2, VS.k_n3, VS.k_n4, VS.k_n5, VS.k_n6, VS.k_rv, VS.k_strM, VS.o_add, VS.o_sub, VS.o_fdiv, VS.o_mod, VS.o_mulL, VS.o_mulR, VS.o_lt, VS.o_le, VS.o_gt, VS.o_ge, VS.o_eq, VS.o_ne, VS.o_is, VS.o_isn, VS.o_in, VS.o_nin, VS.o_addL, VS.o_addT, VS.o_addS, VS.k_isE, VS.k_isV, VS.x_cons, VS.x_nil, VS.x_asg, VS.x_unp, VS.appP_1, VS.x_app, VS.x_ownAt, VS.ownO_1, VS.lstD_1, VS.dKD_1, VS.extP_1, VS.x_ext, VS.x_clr, VS.augP_1, VS.x_augA, VS.popP_1, VS.x_apop, VS.x_setx, VS.x_frz, VS.x_ret, VS.x_retV, VS.x_ex, VS.x_ifs, VS.x_for, VS.x_raise, List.set_cons_zero, List.set_cons_succ, List.getElem?_cons_zero, List.getElem?_cons_succ, Option.bind_some, Option.map_some, if_true, ite_true, ite_false, VS.M.bind_ok, VS.M.lift_some', eq_self, forall_const, true_implies, false_implies, Bool.true_eq_false, Bool.false_eq_true, and_true, true_and, Bool.true_and, Bool.and_true, Bool.false_and, Bool.and_false, Bool.or_false, Bool.false_or, Bool.or_true, Bool.true_or, Bool.not_true, Bool.not_false, Bool.not_not, decide_true, decide_false, if_false, reduceIte, Int.natCast_zero, List.length_cons, List.length_nil, List.length_map, exists_eq_left', VS.DsOf, reduceCtorEq, implies_true, List.nil_append, List.append_nil, VS.bind_ok, VS.lift_some, Nat.reduceAdd, Nat.reduceLeDiff, List.cons_append, List.length_append, List.length_range, List.length_take, List.length_drop, List.map_cons, List.map_nil, exists_prop, and_self, not_true, VS.sub, Nat.reduceBEq, beq_self_eq_true, not_false_eq_true, ne_eq, Option.some.injEq, K01.iD, K01.tD, KX.f_in, KX.f_lenL, KX.f_lenT, KX.f_lenD, KX.f_tupL, KX.f_tupT, KX.f_lstL, KX.f_lstT, KX.f_min, KX.f_rng, KX.f_rng2, KX.f_lstR, KX.f_eqI, KX.f_ixT, KX.f_ixL, KX.f_ix0, KX.f_ix0t, KX.f_ix1t, KX.f_ix1, KX.f_last, KX.f_isn, KX.f_isE, KX.f_isN, KX.f_isI, KX.f_isT, KX.f_isB, KX.f_tt, KX.f_tl, KX.f_ib, KX.f_ii, KX.f_ts, KX.f_mixed] $[$l]?)
-- </M2>
namespace KO
open PySem L2 VS VP K01 K02 KX KG WY
def m__law_same : Mir
  | [.val .non, .val .non] => some (.ok (.val (.bl true)))
  | [.val (.tup xs), .val (.tup ys)] => match intsD xs with
    | some ns => if intsD ys = some ns ∧ ns.length ≤ 1000 then some (.ok (.val (.bl true))) else none
    | none => none
  | _ => none
def n__law_same : List Str := ["_law_found", "_law_due_here", "_law_one"]
def b__law_same : List S := [.ifs (.op .is_ (.var 1) (.cst .non)) [.ret (.op .is_ (.var 0) (.cst .non))] [],
  .ifs (.or_ (.not_ (.isi (.var 0) [.tyTup])) (.op .ne (.var 0) (.var 1))) [.ret (.cst (.bl false))] [],
  .ret (.op .eq (.lc (.one 2) (.var 0) [(.or_ (.isi (.var 2) [.tyBool]) (.not_ (.isi (.var 2) [.tyInt])))] (.var 2)) (.lst []))]
theorem eq_ints (ns : List Int) : eqD (.tup (ns.map D.int)) (.tup (ns.map D.int)) = some true :=
  eqD_self (by simp only [okd]; exact okds_ints ns) (by simp only [dpt]; have := dpts_ints ns; omega)
theorem w__law_same : ∀ cs r, m__law_same cs = some r → wps b__law_same (DsOf r) (start0 n__law_same cs) := by
  intro cs r h
  refine of_jps ?_
  unfold m__law_same at h
  split at h
  · cases h
    show jps b__law_same _ [.val .non, .val .non, .un]
    simp?! [b__law_same, f_isN]
  · rename_i xs ys
    split at h
    · rename_i ns hns
      split at h
      · rename_i hh
        cases h
        obtain ⟨h1, h2⟩ := hh
        have e1 := ints_of hns
        have e2 := ints_of h1
        subst e1
        subst e2
        show jps b__law_same _ [.val (.tup (ns.map D.int)), .val (.tup (ns.map D.int)), .un]
        have hbig := big
        have e3 := eq_ints ns
        have e4 : eqD (.lst []) (.lst []) = some true := rfl
        simp?! [b__law_same, f_isT, f_tt, e3]
        rw [lcA_ofIf (fun _ => false) (fun i : Int => .int i) fun i hi => by simp?! [f_ib, f_ii]]
        have e5 : ns.filter (fun _ => false) = [] := by simp
        rw [e5]
        simp?! [e4]
      · cases h
    · cases h
  · cases h
theorem f_same (T : List (List Nat)) (N a b : Nat) (h : ∀ w, wof T N a b = some w → w.length ≤ 1000) : m__law_same [.val (wayD T N a b), .val (wayD T N a b)] = M.ok (.val (.bl true)) := by
  unfold wayD
  cases hw : wof T N a b with
  | none => rfl
  | some w =>
    have e : intsD (w.map fun i => D.int (lv i)) = some (w.map lv) := by
      have := VS.ints_map (w.map lv)
      rwa [List.map_map] at this
    show (match intsD (w.map fun i => D.int (lv i)) with
      | some ns => if intsD (w.map fun i => D.int (lv i)) = some ns ∧ ns.length ≤ 1000 then some (Except.ok (C.val (.bl true))) else none
      | none => none) = _
    rw [e]
    show (if _ then _ else _) = _
    rw [if_pos ⟨rfl, by rw [List.length_map]; exact h w hw⟩]
/-! ### the word of a refusal -/
def ml__law_word : Except Nat D → Option C
  | .error 3 => some (.own (.lst [.str "point"]))
  | _ => none
def n__law_word : List Str := ["_law_deed", "_law_caught", "e", "_law_some", "_law_word_here", "_law_is_so"]
def b__law_word (r : Except Nat D) : List S := [.asg 1 (.cst .non),
  .tryE [0, 1, 2, 3, 4, 5, 6, 7, 8, 9, 10, 11] [.sp (actS none 0 r)] 0 "TurnError" 2 1,
  .asg 3 (.lst [(.tup [(.cst (.str "turn")), (.isi (.var 1) [.own 1 "BadTurn"])]), (.tup [(.cst (.str "count")), (.isi (.var 1) [.own 2 "BadCount"])])]),
  .asg 3 (.op .add (.var 3) (.lst [(.tup [(.cst (.str "point")), (.isi (.var 1) [.own 3 "BadPoint"])]), (.tup [(.cst (.str "text")), (.isi (.var 1) [.own 4 "NoText"])])])),
  .asg 3 (.op .add (.var 3) (.lst [(.tup [(.cst (.str "group")), (.isi (.var 1) [.own 5 "BadGroup"])]), (.tup [(.cst (.str "word")), (.isi (.var 1) [.own 6 "BadWord"])])])),
  .asg 3 (.op .add (.var 3) (.lst [(.tup [(.cst (.str "paper")), (.isi (.var 1) [.own 7 "BadPaper"])]), (.tup [(.cst (.str "member")), (.isi (.var 1) [.own 8 "NoMember"])])])),
  .asg 3 (.op .add (.var 3) (.lst [(.tup [(.cst (.str "number")), (.isi (.var 1) [.own 9 "BadNumber"])]), (.tup [(.cst (.str "unlike")), (.isi (.var 1) [.own 10 "Unlike"])])])),
  .app 3 (.tup [(.cst (.str "line")), (.isi (.var 1) [.own 11 "BadLine"])]),
  .ifs (.and_ (.op .isnot (.var 1) (.cst .non)) (.not_ (.isi (.var 1) [.tyValueError]))) [.app 3 (.tup [(.cst (.str "other")), (.cst (.bl true))])] [],
  .frz 3, .ret (.lc (.tup [4, 5]) (.var 3) [(.var 5)] (.var 4))]
theorem word_at (k : Nat) (hk : k = 3 ∨ k = 4 ∨ k = 6) : wps (b__law_word (.error k)) (DsOf (.ok (.own (.lst [.str (if k = 3 then "point" else if k = 4 then "text" else "word")])))) (start0 n__law_word [.val (.glb 99)]) := by
  refine of_jps ?_
  show jps (b__law_word (.error k)) _ [.val (.glb 99), .un, .un, .un, .un, .un]
  have hbig := big
  have n43 : (4 = 3) = False := by simp
  have n63 : (6 = 3) = False := by simp
  have n64 : (6 = 4) = False := by simp
  rcases hk with rfl | rfl | rfl
  · have e2 : (3 ∈ [0, 1, 2, 3, 4, 5, 6, 7, 8, 9, 10, 11]) = True := by simp
    simp?! [b__law_word, x_try, x_actE, e2, f_isE]
    omega
  · have e2 : (4 ∈ [0, 1, 2, 3, 4, 5, 6, 7, 8, 9, 10, 11]) = True := by simp
    simp?! [b__law_word, x_try, x_actE, e2, f_isE, n43]
    omega
  · have e2 : (6 ∈ [0, 1, 2, 3, 4, 5, 6, 7, 8, 9, 10, 11]) = True := by simp
    simp?! [b__law_word, x_try, x_actE, e2, f_isE, n63, n64]
    omega
theorem wl__law_word : ∀ r c, ml__law_word r = some c → gfC c = true ∧ (∀ d, r = .ok d → gfree d = true) ∧ wps (b__law_word r) (DsOf (.ok c)) (start0 n__law_word [.val (.glb 99)]) := by
  intro r c h
  unfold ml__law_word at h
  split at h
  · cases h
    exact ⟨rfl, (fun d e => by cases e), word_at 3 (.inl rfl)⟩
  · cases h
/-! ### facts for the law -/
theorem good_of {N : Nat} {ps : List (List Nat)} (h : ∀ p ∈ ps, Pm p ∧ p.length = N) (n1 : 1 ≤ N) (n2 : N ≤ 12) (l1 : 1 ≤ ps.length) (l2 : ps.length ≤ 66) : goodG (N : Nat) (ps.map tD) = true := by
  unfold goodG
  simp only [Bool.and_eq_true, decide_eq_true_eq]
  refine ⟨by omega, by rw [List.length_map]; omega, ?_⟩
  unfold turnsB
  rw [List.all_map, List.all_eq_true]
  intro p hp
  obtain ⟨h1, h2⟩ := h p hp
  show (turnB (tD p) && decide (((nats (tD p)).length : Int) = (N : Nat))) = true
  rw [turnT h1 (by omega) (by omega), nats_tD, h2]
  simp
theorem nats_map (ps : List (List Nat)) : (ps.map tD).map nats = ps := by
  rw [List.map_map]
  have : nats ∘ tD = id := by funext p; exact nats_tD p
  rw [this, List.map_id]
theorem f_group {N : Nat} {ps : List (List Nat)} (h : goodG (N : Nat) (ps.map tD) = true) : m_Group [.val (.int (N : Nat)), .val (.lst (ps.map tD))] = M.ok (.val (.ins 50 ["amount", "makers"] [.int (N : Nat), .lst (ps.map tD)])) := by
  show (if _ then _ else _) = _
  rw [if_pos h]; rfl
theorem f_letters {N : Nat} {ps : List (List Nat)} (h : ∀ p ∈ ps, Pm p ∧ p.length = N) (n1 : 1 ≤ N) (n2 : N ≤ 12) (l2 : ps.length ≤ 66) : m__law_letters [.val (.lst (ps.map tD))] = M.ok (.own (.lst (lt2 (lts ps)))) := by
  have e : (ps.map tD).all turnB = true := by
    rw [List.all_map, List.all_eq_true]
    intro p hp
    obtain ⟨h1, h2⟩ := h p hp
    exact turnT h1 (by omega) (by omega)
  show (if _ then _ else _) = _
  rw [if_pos ⟨e, by rw [List.length_map]; exact l2⟩, nats_map]
theorem nOf_lts {N : Nat} {ps : List (List Nat)} (h : ∀ p ∈ ps, Pm p ∧ p.length = N) (l1 : 1 ≤ ps.length) : nOf (lts ps) = N := by
  unfold nOf
  have := lts_even ps 0
  rw [Nat.mul_zero] at this
  rw [this]
  exact (h _ (getD_mem (by omega))).2
theorem f_due {N a g : Nat} {ps : List (List Nat)} (h : ∀ p ∈ ps, Pm p ∧ p.length = N) (n2 : N ≤ 12) (l1 : 1 ≤ ps.length) (l2 : ps.length ≤ 66) (ha : a < N) (hg : g < N) : m__law_due [.bor (.lst (lt2 (lts ps))), .val (.int (a : Nat)), .val (.int (g : Nat))] = M.ok (.val (wayD (lts ps) N a g)) := by
  unfold m__law_due
  refine (if_pos (by rw [ltT_lt2, nOf_lts h l1]; exact ⟨rfl, lts_clo h, by rw [lts_length]; omega, n2, by omega, by omega⟩)).trans ?_
  rw [ltT_lt2, nOf_lts h l1, Int.toNat_natCast, Int.toNat_natCast]
theorem f_way {N a b : Nat} {ps : List (List Nat)} (h : goodG (N : Nat) (ps.map tD) = true) (ha : a < N) (hb : b < N) : m_way [.val (.ins 50 ["amount", "makers"] [.int (N : Nat), .lst (ps.map tD)]), .val (.int (a : Nat)), .val (.int (b : Nat))] = M.ok (.val (wayD (lts ps) N a b)) := by
  show (if _ then (if _ then _ else _) else _) = _
  have p1 : ∀ {x : Nat}, x < N → ptB (N : Nat) (.int (x : Nat)) = true := fun hx => by simp [ptB]; omega
  rw [if_pos ⟨h, rfl, rfl⟩, if_neg (by rw [p1 ha, p1 hb]; simp), nats_map]
  rfl
theorem f_wayE {n : Int} {gs : List D} {a b : D} (h : goodG n gs = true) (pa : plainD a = true) (pb : plainD b = true) (hp : ptB n a = false ∨ ptB n b = false) : m_way [.val (.ins 50 ["amount", "makers"] [.int n, .lst gs]), .val a, .val b] = some (.error 3) := by
  show (if _ then (if _ then _ else _) else _) = _
  rw [if_pos ⟨h, pa, pb⟩, if_pos hp]
theorem way_len {N a b : Nat} {ps : List (List Nat)} (h : ∀ p ∈ ps, Pm p ∧ p.length = N) (n2 : N ≤ 12) (ha : a < N) : ∀ w, wof (lts ps) N a b = some w → w.length ≤ 1000 := fun w hw => by
  have C0 := lts_clo h
  obtain ⟨n, h1, h2, h3, iv⟩ := wrd_end C0.toTok ha
  have h4 : w.length ≤ N := len_bound C0.toTok ha (Nat.le_of_eq h1) (by rw [← h3]; exact WY.lookup_mem hw)
  omega
def oddP (N : Nat) : List D := [.int (N : Nat), .int (-1), .bl true, .non, .str "0", .lst [.int 0], .tup [.int 0], .dK [] [], .int 100000000000000000000, .bl false, .int ((N : Nat) + 5)]
theorem oddP_ok {N : Nat} (h : N ≤ 12) : ∀ d ∈ oddP N, plainD d = true ∧ ptB (N : Nat) d = false := by
  intro d hd
  unfold oddP at hd
  simp only [List.mem_cons, List.not_mem_nil, or_false] at hd
  rcases hd with rfl | rfl | rfl | rfl | rfl | rfl | rfl | rfl | rfl | rfl | rfl
  all_goals (refine ⟨rfl, ?_⟩; simp [ptB] <;> omega)
theorem f_pow20 : opD .pow (.int 10) (.int 20) = some (.val (.int 100000000000000000000)) := by
  simp only [opD]
  rw [if_pos (by decide)]
  rfl
def m_law : Mir
  | [.bor (.lst xs)] => match intsD xs with
    | some ns => if ns.length ≤ 63 then some (.ok (.val (.bl true))) else none
    | none => none
  | _ => none
theorem f_seed {ns : List Int} (h : ns.length ≤ 63) : m__law_seed [.bor (.lst (ns.map D.int))] = M.ok (.val (.int (sdF ns 0 7))) := by
  show (match intsD (ns.map D.int) with | some ns => if ns.length ≤ 63 then some (Except.ok (C.val (.int (sdF ns 0 7)))) else none | none => none) = _
  rw [VS.ints_map]
  exact if_pos h
theorem f_made (s : Int) : m__law_made [.val (.int s), .val (.int 12)] = M.ok (.val (.tup [.int (mdN s 12 : Nat), .lst ((mdG s 12).map tD)])) := rfl
end KO
namespace K08
open PySem L2 VS VP K01 K02 KX KG WY KO
noncomputable def b_law : List S := [.asg 1 (.call "_law_seed" m__law_seed [(.var 0)]),
  .unp (.tup [7, 8]) (.call "_law_made" m__law_made [(.var 1), (.cst (.int 12))]),
  .asg 2 (.call "_law_letters" m__law_letters [(.var 8)]),
  .asg 3 (.make 50 "Group" m_Group [(.var 7), (.blt bList [(.var 8)])]),
  .for_ (.one 4) (.iRng [(.var 7)]) [.for_ (.one 9) (.iRng [(.var 7)]) [.asg 10 (.call "_law_due" m__law_due [(.var 2), (.var 4), (.var 9)]), .ifs (.not_ (.call "_law_same" m__law_same [(.call "way" m_way [(.var 3), (.var 4), (.var 9)]), (.var 10)])) [.ret (.cst (.bl false))] []]],
  .asg 5 (.ix (.lst [(.var 7), (.neg (.cst (.int 1))), (.cst (.bl true)), (.cst .non), (.cst (.str "0")), (.lst [(.cst (.int 0))]), (.tup [(.cst (.int 0))]), .dnewK, (.op .pow (.cst (.int 10)) (.cst (.int 20))), (.cst (.bl false)), (.op .add (.var 7) (.cst (.int 5)))]) (.op .mod (.call "_law_mixed" m__law_mixed [(.var 1), (.cst (.int 3))]) (.cst (.int 11)))),
  .asg 6 (.lst [(.esp (lamC "_law_word" ml__law_word "way" m_way [(.var 3), (.var 5), (.cst (.int 0))] (by simp only [refsL, refs, List.append_nil])))]),
  .app 6 (.esp (lamC "_law_word" ml__law_word "way" m_way [(.var 3), (.cst (.int 0)), (.var 5)] (by simp only [refsL, refs, List.append_nil]))),
  .app 6 (.esp (lamC "_law_word" ml__law_word "way" m_way [(.var 3), (.var 5), (.var 5)] (by simp only [refsL, refs, List.append_nil]))),
  .ret (.and_ (.op .eq (.var 6) (.op .mul (.lst [(.lst [(.cst (.str "point"))])]) (.cst (.int 3)))) (.call "_law_same" m__law_same [(.call "way" m_way [(.var 3), (.cst (.int 0)), (.op .sub (.var 7) (.cst (.int 1)))]), (.call "_law_due" m__law_due [(.var 2), (.cst (.int 0)), (.op .sub (.var 7) (.cst (.int 1)))])]))]
def n_law : List Str := ["_law_script", "_law_seed_here", "_law_letters_here", "_law_group", "_law_point", "_law_odd", "_law_words", "_law_many", "_law_some", "_law_goal", "_law_due_here"]
theorem w_law : ∀ cs r, KO.m_law cs = some r → wps b_law (DsOf r) (start0 n_law cs) := by
  intro cs r h
  refine of_jps ?_
  unfold KO.m_law at h
  split at h
  · rename_i xs
    split at h
    · rename_i ns hns
      split at h
      · rename_i hlen
        cases h
        have hx := ints_of hns
        subst hx
        show jps b_law _ [.bor (.lst (ns.map D.int)), .un, .un, .un, .un, .un, .un, .un, .un, .un, .un]
        have hbig := big
        have t1 : (false = true) = False := by simp
        have eS := f_seed hlen
        generalize sdF ns 0 7 = s at eS
        have eM := f_made s
        obtain ⟨g1, g2⟩ := mdG_ok s
        obtain ⟨n1, n2⟩ := mdN_ok s
        obtain ⟨c1, c2⟩ := mdC_ok s
        rw [← g2] at c1 c2
        generalize mdG s 12 = ps at eM g1 c1 c2
        generalize mdN s 12 = N at eM g1 n1 n2
        have hgood := good_of g1 n1 n2 c1 (by omega)
        have eL := f_letters g1 n1 n2 (by omega)
        have eG := f_group hgood
        simp?! [b_law, eS, eM, eL, eG]
        refine for_cnt _ _ (fun i ρ => i ≤ N ∧ ∃ c4 c9 c10, ρ = [.bor (.lst (ns.map D.int)), .val (.int s), .own (.lst (lt2 (lts ps))), .val (.ins 50 ["amount", "makers"] [.int (N : Nat), .lst (ps.map tD)]), c4, .un, .un, .val (.int (N : Nat)), .val (.lst (ps.map tD)), c9, c10]) ⟨Nat.zero_le _, _, _, _, rfl⟩ ?_ ?_
        · rintro i ρ Q hi ⟨_, c4, c9, c10, rfl⟩ hQ
          simp?!
          refine for_cnt _ _ (fun j ρ => j ≤ N ∧ ∃ c9 c10, ρ = [.bor (.lst (ns.map D.int)), .val (.int s), .own (.lst (lt2 (lts ps))), .val (.ins 50 ["amount", "makers"] [.int (N : Nat), .lst (ps.map tD)]), .val (.int (i : Nat)), .un, .un, .val (.int (N : Nat)), .val (.lst (ps.map tD)), c9, c10]) ⟨Nat.zero_le _, _, _, rfl⟩ ?_ ?_
          · rintro j ρ Q2 hj ⟨_, c9, c10, rfl⟩ hQ2
            have e1 := f_due g1 n2 c1 (by omega) hi hj
            have e2 := f_way hgood hi hj
            have e3 := f_same (lts ps) N i j (way_len g1 n2 hi)
            simp?! [e1, e2, e3]
            exact hQ2 _ ⟨hj, _, _, rfl⟩
          · rintro ρ ⟨_, c9, c10, rfl⟩
            simp?!
            exact hQ _ ⟨hi, _, _, _, rfl⟩
        · rintro ρ ⟨_, c4, c9, c10, rfl⟩
          obtain ⟨q1, q2⟩ := fm (mixed s 3) 11 (by decide)
          have ll : (oddP N).length = 11 := rfl
          have o1 := f_pick (xs := oddP N) (z := (mixed s 3).fmod 11) (by omega)
          obtain ⟨o2, o3⟩ := oddP_ok n2 _ (getD_memD (xs := oddP N) (z := (mixed s 3).fmod 11) (by omega))
          generalize (oddP N).getD ((mixed s 3).fmod 11).toNat .non = d at o1 o2 o3
          unfold oddP at o1
          have w1 := f_wayE (b := .int 0) hgood o2 rfl (.inl o3)
          have w2 := f_wayE (a := .int 0) hgood rfl o2 (.inr o3)
          have w3 := f_wayE hgood o2 o2 (.inl o3)
          have hl : lamM ml__law_word (some (.error 3)) = M.ok (.own (.lst [.str "point"])) := rfl
          have m3 : opD .mul (.lst [.lst [.str "point"]]) (.int 3) = some (.own (.lst [.lst [.str "point"], .lst [.str "point"], .lst [.str "point"]])) := by
            simp only [opD]
            rw [if_pos (by decide)]
            rfl
          have m4 : eqD (.lst [.lst [.str "point"], .lst [.str "point"], .lst [.str "point"]]) (.lst [.lst [.str "point"], .lst [.str "point"], .lst [.str "point"]]) = some true := eqD_self (by decide +kernel) (by decide)
          have eN : (N : Int) - 1 = ((N - 1 : Nat) : Int) := by omega
          have e1 := f_due (a := 0) (g := N - 1) g1 n2 c1 (by omega) (by omega) (by omega)
          have e2 := f_way (a := 0) (b := N - 1) hgood (by omega) (by omega)
          have e3 := f_same (lts ps) N 0 (N - 1) (way_len g1 n2 (by omega))
          have z0 : ((0 : Nat) : Int) = 0 := rfl
          rw [z0] at e1 e2
          simp?! [f_pow20, o1, x_lam, w1, w2, w3, hl, m3, m4, eN, e1, e2, e3]
          exact ⟨by omega, by omega⟩
      · cases h
    · cases h
  · cases h
end K08

set_option Elab.async false
set_option linter.all false
set_option autoImplicit false
set_option maxRecDepth 100000
set_option maxHeartbeats 4000000
/-! VS: a law's end, where some defs make lambdas. -/
namespace VS
open PySem PySem.Spec PyProof.Rows L2
/-- code objects, their tables, the names of what they hold -/
abbrev TabL := List (Addr × Addr × Str)
def TabL.tabs (T : TabL) : List (Addr × Str) := T.map fun t => (t.2.1, t.2.2)
def spLawT (K : PySem.W.Frag) (T : TabL) : Sp := fun vs H Q _ => ∃ (a : Addr) (ns : List Int), vs = [.ref a] ∧ SqL K H a (ns.map V.int) ∧ ns.length ≤ 63 ∧ (∀ t ∈ T, H t.2.1 = some (.tbl #[])) ∧ ∀ H', Q (.bl true) H'
section
variable {P : Program} {w : World} {K : PySem.W.Frag} {mg : Str → Option Value} {base : Heap} {G : Ctx}
theorem law_impT {k : Nat} {f : Addr} {fd : FuncData} {ps : List Str} {m : Mir} {T : TabL} (F : FnOk P w K mg base (L2.CX P w) k f fd ps (spM G m)) (hK : K = G.K) (hT : G.tabs = T.tabs) (hR : G.root = fun _ => none) (hR2 : G.rootS = fun _ => none)
    (hm : ∀ ns : List Int, ns.length ≤ 63 → m [.bor (.lst (ns.map D.int))] = some (.ok (.val (.bl true)))) : FnOk P w K mg base (L2.CX P w) k f fd ps (spLawT K T) := by
  refine F.imp fun vs H Q E ⟨a, ns, hv, hs, hl, ht, hq⟩ => ?_
  subst hK
  refine ⟨H, [.bor (.lst (ns.map D.int))], .ok (.val (.bl true)), by rw [hR, hR2]; exact Stp.zero (Same.refl H), ?_, ?_, hm ns hl, ?_⟩
  · rw [hT]
    intro p hp
    obtain ⟨t, h1, rfl⟩ := List.mem_map.mp hp
    exact LamX.TabS.nil (ht t h1)
  · refine (show ∃ v ws, vs = v :: ws ∧ ArgR G H H (.bor (.lst (ns.map D.int))) v ∧ ArgsR G H H [] ws from ⟨.ref a, [], hv, ?_, rfl⟩)
    exact (show ∃ b us, V.ref a = .ref b ∧ SqL G.K H b us ∧ RepL G H (ns.map D.int) us from ⟨a, ns.map V.int, rfl, hs, repL_ints⟩)
  · intro v H' Hs' st r
    have r : Rep G Hs' (.bl true) v := r
    simp only [Rep] at r
    subst r
    exact hq H'
end
theorem walkT {k : Nat} {l : PySem.W.OpenLaw} {q : Program} {loose : List Str} {XP : (Str → Option Value) → Heap → Prop} {YP : World → Heap → Prop} {d : DefRec} {K : Params → PySem.W.Frag} (xs : List Str) (hk : k ≤ 30) (hn : l.most = some 63) (hdf : d.params.defaults = [])
    (hrec : (xs.all fun x => (recsOf q).any fun e => e.name == x) = true) (hY : ∀ (w : World) (h : Heap), YP w h → (K w.params).In h)
    (F : ∀ (w : World) (mg : Str → Option Value) (fa : Addr) (h : Heap), (K w.params).In h → h.Ns mainGlobals mg → mg d.name = some (.ref fa) → (∀ x ∈ xs, ∀ a, mg x = some (.ref a) → LamX.OwnTab (K w.params) a h) →
      ∃ (fd : FuncData) (T : TabL), (∀ (s : Shared) (u : Value), BindsTo s fd ⟨[u], []⟩ [("_law_script", u)]) ∧ (∀ t ∈ T, h.get? t.2.1 = some { cls := .none, data := .fields #[] }) ∧ (∀ t ∈ T, (K w.params).lookup t.2.1 = none) ∧ (∀ t ∈ T, PySem.W.CodeHd h t.1 t.2.1) ∧
        ∀ base : Heap, (K w.params).In base → base.Ns mainGlobals mg → (∀ t ∈ T, LamX.TabB base mg t.1 t.2.1) → FnOk l.prog w (K w.params) mg base (L2.CX l.prog w) k fa fd ["_law_script"] (spLawT (K w.params) T)) :
    PySem.W.WalkO q loose XP YP l.row.toRowW d [] (fun f vs => PySem.call f vs) := by
  refine Att.attach_callB hn hdf fun w s₀ s₁ mg mb fa o pm cd doc a vs ns G Y ho hd hcd hmg hobj hints hlen hbits hg => ?_
  have inH := hY w _ Y
  have own : ∀ x ∈ xs, ∀ a, mg x = some (.ref a) → LamX.OwnTab (K w.params) a s₁.heap := by
    intro x hx b hb c Pt o1 f1 e1 dd us sl k1 k2 k3 k4 k5
    obtain ⟨r, hr, hrx⟩ := List.any_eq_true.mp (List.all_eq_true.mp hrec x hx)
    have hrx : r.name = x := beq_iff_eq.mp hrx
    obtain ⟨b', o', f', c', P', h1, h2, h3, h4, h5, h6⟩ := G.T.tab r hr
    rw [hrx, hb] at h1
    cases h1
    rw [inH _ _ k1] at h2
    cases h2
    rw [k2] at h3
    cases h3
    rw [k3] at h4
    cases h4
    obtain ⟨⟨oc, vc, q1, _, q3, q4⟩, hP⟩ := h6
    rw [inH _ _ k4] at q1
    cases q1
    cases q3
    rw [k5] at q4
    cases q4
    exact hP
  obtain ⟨fd, T, hb, t1, t2, t3, hF⟩ := F w mg fa _ inH G.T.g hmg own
  have cs : ∀ {R : Addr × Addr → Prop}, (∀ t ∈ T, R (t.1, t.2.1)) → ∀ p ∈ T.map (fun t => (t.1, t.2.1)), R p := fun h p hp => by
    obtain ⟨t, h1, rfl⟩ := List.mem_map.mp hp
    exact h t h1
  refine LamX.law_callTs (cs := T.map fun t => (t.1, t.2.1)) (k := k) inH G.T.g G.T.b G.T.builtins G.T.nolimit hg (cs t1) (cs t2) (cs t3) G.T.bmain hobj hints (Nat.le_trans hlen (by decide)) (Room.mono (k := 30) ⟨rfl, by decide, by decide⟩ hk)
    (fun base b1 b2 b3 => hF base b1 b2 fun t ht => b3 (t.1, t.2.1) (List.mem_map.mpr ⟨t, ht, rfl⟩)) hb (fun H hH hS => ⟨a, ns, rfl, hS, hlen, fun t ht => hH (t.1, t.2.1) (List.mem_map.mpr ⟨t, ht, rfl⟩), fun _ => rfl⟩) fun H e s' z => ?_
  obtain ⟨_, _, _, _, _, _, _, _, _, _, _, _, e⟩ := z
  exact e
end VS

set_option Elab.async false
set_option linter.all false
set_option autoImplicit false
set_option maxRecDepth 100000
set_option maxHeartbeats 4000000
namespace K08
open PySem L2 VS VP K02 KX KG WY KO
open K01 hiding n__law_turn b__law_turn m__law_turn w__law_turn
def top (i : Nat) : Stmt := PySem.Challenge.pw_turnchain_k08_ways.main.body.getD i (.Pass ⟨0, 0, 0, 0⟩)
abbrev t_is_whole : Stmt := top 15
def p_is_whole : List Str := ["thing"]
abbrev t_is_turn : Stmt := top 16
def p_is_turn : List Str := ["thing"]
abbrev t_need_turn : Stmt := top 17
def p_need_turn : List Str := ["thing"]
abbrev t_still : Stmt := top 18
def p_still : List Str := ["many"]
abbrev t_back : Stmt := top 19
def p_back : List Str := ["one"]
abbrev t_need_point : Stmt := top 22
def p_need_point : List Str := ["group", "thing"]
abbrev t_letters_of : Stmt := top 23
def p_letters_of : List Str := ["group"]
abbrev t_words_from : Stmt := top 24
def p_words_from : List Str := ["group", "point"]
abbrev t_way : Stmt := top 25
def p_way : List Str := ["group", "point", "other"]
abbrev t__law_mixed : Stmt := top 34
def p__law_mixed : List Str := ["_law_cell", "_law_k"]
abbrev t__law_seed : Stmt := top 35
def p__law_seed : List Str := ["_law_script"]
abbrev t__law_turn : Stmt := top 36
def p__law_turn : List Str := ["_law_seed_here", "_law_k", "_law_many"]
abbrev t__law_made : Stmt := top 37
def p__law_made : List Str := ["_law_seed_here", "_law_most"]
abbrev t__law_letters : Stmt := top 38
def p__law_letters : List Str := ["_law_some"]
abbrev t__law_far : Stmt := top 39
def p__law_far : List Str := ["_law_letters_here", "_law_goal"]
abbrev t__law_due : Stmt := top 40
def p__law_due : List Str := ["_law_letters_here", "_law_point", "_law_goal"]
abbrev t__law_same : Stmt := top 41
def p__law_same : List Str := ["_law_found", "_law_due_here"]
abbrev t__law_word : Stmt := top 42
def p__law_word : List Str := ["_law_deed"]
abbrev t_law : Stmt := top 43
def p_law : List Str := ["_law_script"]
abbrev t_Group : Stmt := inClass (top 31) 0
abbrev t_Group_many : Stmt := inClass (top 31) 1
abbrev t_Group_generators : Stmt := inClass (top 31) 2
theorem c_is_whole : chkSs n_is_whole (defScope t_is_whole) b_is_whole (defBody t_is_whole) = true := by decide +kernel
theorem s_is_whole : FnScope n_is_whole p_is_whole (defScope t_is_whole) := ⟨rfl, rfl, rfl, by decide +kernel, rfl, by decide +kernel, by decide +kernel⟩
theorem c_is_turn : chkSs n_is_turn (defScope t_is_turn) b_is_turn (defBody t_is_turn) = true := by decide +kernel
theorem s_is_turn : FnScope n_is_turn p_is_turn (defScope t_is_turn) := ⟨rfl, rfl, rfl, by decide +kernel, rfl, by decide +kernel, by decide +kernel⟩
theorem c_need_turn : chkSs n_need_turn (defScope t_need_turn) b_need_turn (defBody t_need_turn) = true := by decide +kernel
theorem s_need_turn : FnScope n_need_turn p_need_turn (defScope t_need_turn) := ⟨rfl, rfl, rfl, by decide +kernel, rfl, by decide +kernel, by decide +kernel⟩
theorem c_still : chkSs n_still (defScope t_still) b_still (defBody t_still) = true := by decide +kernel
theorem s_still : FnScope n_still p_still (defScope t_still) := ⟨rfl, rfl, rfl, by decide +kernel, rfl, by decide +kernel, by decide +kernel⟩
theorem c_back : chkSs n_back (defScope t_back) b_back (defBody t_back) = true := by decide +kernel
theorem s_back : FnScope n_back p_back (defScope t_back) := ⟨rfl, rfl, rfl, by decide +kernel, rfl, by decide +kernel, by decide +kernel⟩
theorem c_need_point : chkSs n_need_point (defScope t_need_point) b_need_point (defBody t_need_point) = true := by decide +kernel
theorem s_need_point : FnScope n_need_point p_need_point (defScope t_need_point) := ⟨rfl, rfl, rfl, by decide +kernel, rfl, by decide +kernel, by decide +kernel⟩
theorem c_letters_of : chkSs n_letters_of (defScope t_letters_of) b_letters_of (defBody t_letters_of) = true := by decide +kernel
theorem s_letters_of : FnScope n_letters_of p_letters_of (defScope t_letters_of) := ⟨rfl, rfl, rfl, by decide +kernel, rfl, by decide +kernel, by decide +kernel⟩
theorem c_words_from : chkSs n_words_from (defScope t_words_from) b_words_from (defBody t_words_from) = true := by decide +kernel
theorem s_words_from : FnScope n_words_from p_words_from (defScope t_words_from) := ⟨rfl, rfl, rfl, by decide +kernel, rfl, by decide +kernel, by decide +kernel⟩
theorem c_way : chkSs n_way (defScope t_way) b_way (defBody t_way) = true := by decide +kernel
theorem s_way : FnScope n_way p_way (defScope t_way) := ⟨rfl, rfl, rfl, by decide +kernel, rfl, by decide +kernel, by decide +kernel⟩
theorem c__law_mixed : chkSs n__law_mixed (defScope t__law_mixed) b__law_mixed (defBody t__law_mixed) = true := by decide +kernel
theorem s__law_mixed : FnScope n__law_mixed p__law_mixed (defScope t__law_mixed) := ⟨rfl, rfl, rfl, by decide +kernel, rfl, by decide +kernel, by decide +kernel⟩
theorem c__law_seed : chkSs n__law_seed (defScope t__law_seed) b__law_seed (defBody t__law_seed) = true := by decide +kernel
theorem s__law_seed : FnScope n__law_seed p__law_seed (defScope t__law_seed) := ⟨rfl, rfl, rfl, by decide +kernel, rfl, by decide +kernel, by decide +kernel⟩
theorem c__law_turn : chkSs n__law_turn (defScope t__law_turn) b__law_turn (defBody t__law_turn) = true := by decide +kernel
theorem s__law_turn : FnScope n__law_turn p__law_turn (defScope t__law_turn) := ⟨rfl, rfl, rfl, by decide +kernel, rfl, by decide +kernel, by decide +kernel⟩
theorem c__law_made : chkSs n__law_made (defScope t__law_made) b__law_made (defBody t__law_made) = true := by decide +kernel
theorem s__law_made : FnScope n__law_made p__law_made (defScope t__law_made) := ⟨rfl, rfl, rfl, by decide +kernel, rfl, by decide +kernel, by decide +kernel⟩
theorem c__law_letters : chkSs n__law_letters (defScope t__law_letters) b__law_letters (defBody t__law_letters) = true := by decide +kernel
theorem s__law_letters : FnScope n__law_letters p__law_letters (defScope t__law_letters) := ⟨rfl, rfl, rfl, by decide +kernel, rfl, by decide +kernel, by decide +kernel⟩
theorem c__law_far : chkSs n__law_far (defScope t__law_far) b__law_far (defBody t__law_far) = true := by decide +kernel
theorem s__law_far : FnScope n__law_far p__law_far (defScope t__law_far) := ⟨rfl, rfl, rfl, by decide +kernel, rfl, by decide +kernel, by decide +kernel⟩
theorem c__law_due : chkSs n__law_due (defScope t__law_due) b__law_due (defBody t__law_due) = true := by decide +kernel
theorem s__law_due : FnScope n__law_due p__law_due (defScope t__law_due) := ⟨rfl, rfl, rfl, by decide +kernel, rfl, by decide +kernel, by decide +kernel⟩
theorem c__law_same : chkSs n__law_same (defScope t__law_same) b__law_same (defBody t__law_same) = true := by decide +kernel
theorem s__law_same : FnScope n__law_same p__law_same (defScope t__law_same) := ⟨rfl, rfl, rfl, by decide +kernel, rfl, by decide +kernel, by decide +kernel⟩
theorem c__law_word (r : Except Nat D) : chkSs n__law_word (defScope t__law_word) (b__law_word r) (defBody t__law_word) = true := by kernel_rfl
theorem s__law_word : FnScope n__law_word p__law_word (defScope t__law_word) := ⟨rfl, rfl, rfl, by decide +kernel, rfl, by decide +kernel, by decide +kernel⟩
theorem c_law : chkSs n_law (defScope t_law) b_law (defBody t_law) = true := by decide +kernel
theorem s_law : FnScope n_law p_law (defScope t_law) := ⟨rfl, rfl, rfl, by decide +kernel, rfl, by decide +kernel, by decide +kernel⟩
theorem c_Group : initChk KG.n_Group (defScope t_Group) KG.a1 (KG.a2 5) (KG.a3 5) "amount" (.var 1) "makers" (.blt bList [(.var 2)]) (defBody t_Group) = true := by decide +kernel
theorem s_Group : FnScope KG.n_Group ["self", "many", "generators"] (defScope t_Group) := ⟨rfl, rfl, rfl, by decide +kernel, rfl, by decide +kernel, by decide +kernel⟩
theorem c_Group_many : chkSs KG.n_Group_many (defScope t_Group_many) KG.b_Group_many (defBody t_Group_many) = true := by decide +kernel
theorem s_Group_many : FnScope KG.n_Group_many ["self"] (defScope t_Group_many) := ⟨rfl, rfl, rfl, by decide +kernel, rfl, by decide +kernel, by decide +kernel⟩
theorem c_Group_generators : chkSs KG.n_Group_generators (defScope t_Group_generators) KG.b_Group_generators (defBody t_Group_generators) = true := by decide +kernel
theorem s_Group_generators : FnScope KG.n_Group_generators ["self"] (defScope t_Group_generators) := ⟨rfl, rfl, rfl, by decide +kernel, rfl, by decide +kernel, by decide +kernel⟩
end K08

set_option Elab.async false
set_option linter.all false
set_option autoImplicit false
set_option maxRecDepth 100000
set_option maxHeartbeats 4000000
namespace K08
open PySem L2 VS VP K02 KX KG WY KO
open K01 hiding n__law_turn b__law_turn m__law_turn w__law_turn
theorem law_m (ns : List Int) (h : ns.length ≤ 63) : m_law [.bor (.lst (ns.map D.int))] = some (.ok (.val (.bl true))) := by
  simp only [m_law, VS.ints_map, h, if_true]
def nmErr (i : Nat) : Str := (["TurnError", "BadTurn", "BadCount", "BadPoint", "NoText", "BadGroup", "BadWord", "BadPaper", "NoMember", "BadNumber", "Unlike", "BadLine"] : List Str).getD i ""
structure Txt (K : PySem.W.Frag) (mg : Str → Option Value) (G : VS.Ctx) : Prop where
  hK : K = G.K
  nb : ∀ x ∈ bltNames, mg x = none
  ge : G.errs = [0, 1, 2, 3, 4, 5, 6, 7, 8, 9, 10, 11]
  er : ErrsF K mg G nmErr
  g_MOST_POINTS : ∃ t, mg "MOST_POINTS" = some (.int 12 t)
  g_MOST_GENERATORS : ∃ t, mg "MOST_GENERATORS" = some (.int 66 t)
  t_is_whole : DefT K mg "is_whole" t_is_whole p_is_whole
  t_is_turn : DefT K mg "is_turn" t_is_turn p_is_turn
  t_need_turn : DefT K mg "need_turn" t_need_turn p_need_turn
  t_still : DefT K mg "still" t_still p_still
  t_back : DefT K mg "back" t_back p_back
  t_need_point : DefT K mg "need_point" t_need_point p_need_point
  t_letters_of : DefT K mg "letters_of" t_letters_of p_letters_of
  t_words_from : DefT K mg "words_from" t_words_from p_words_from
  t_way : DefT K mg "way" t_way p_way
  t__law_mixed : DefT K mg "_law_mixed" t__law_mixed p__law_mixed
  t__law_seed : DefT K mg "_law_seed" t__law_seed p__law_seed
  t__law_turn : DefT K mg "_law_turn" t__law_turn p__law_turn
  t__law_made : DefT K mg "_law_made" t__law_made p__law_made
  t__law_letters : DefT K mg "_law_letters" t__law_letters p__law_letters
  t__law_far : DefT K mg "_law_far" t__law_far p__law_far
  t__law_due : DefT K mg "_law_due" t__law_due p__law_due
  t__law_same : DefT K mg "_law_same" t__law_same p__law_same
  t__law_word : DefT K mg "_law_word" t__law_word p__law_word
  o_Group : ClT K mg (G.cls 50) "Group" "Group.__init__" t_Group ["self", "many", "generators"]
  o_Group_many : MtT K (G.cls 50) "many" "Group.many" t_Group_many ["self"]
  o_Group_generators : MtT K (G.cls 50) "generators" "Group.generators" t_Group_generators ["self"]
  nA : NoAttr K (G.cls 50) "amount"
  nM : NoAttr K (G.cls 50) "makers"
section
variable {P : Program} {w : World} {K : PySem.W.Frag} {mg : Str → Option Value} {base : Heap} {G : VS.Ctx}
theorem Txt.at (T : Txt K mg G) (x : Addr) : Txt K mg (G.at x) :=
  { hK := T.hK
    nb := T.nb
    ge := T.ge
    er := ⟨T.er.hn, T.er.ht, T.er.each, T.er.subs⟩
    g_MOST_POINTS := T.g_MOST_POINTS
    g_MOST_GENERATORS := T.g_MOST_GENERATORS
    t_is_whole := T.t_is_whole
    t_is_turn := T.t_is_turn
    t_need_turn := T.t_need_turn
    t_still := T.t_still
    t_back := T.t_back
    t_need_point := T.t_need_point
    t_letters_of := T.t_letters_of
    t_words_from := T.t_words_from
    t_way := T.t_way
    t__law_mixed := T.t__law_mixed
    t__law_seed := T.t__law_seed
    t__law_turn := T.t__law_turn
    t__law_made := T.t__law_made
    t__law_letters := T.t__law_letters
    t__law_far := T.t__law_far
    t__law_due := T.t__law_due
    t__law_same := T.t__law_same
    t__law_word := T.t__law_word
    o_Group := T.o_Group
    o_Group_many := T.o_Group_many
    o_Group_generators := T.o_Group_generators
    nA := T.nA
    nM := T.nM
  }
theorem Txt.th (T : Txt K mg G) (f : Addr) (H Hs : Hp) : Txt K mg (G.th f H Hs) :=
  { hK := T.hK
    nb := T.nb
    ge := T.ge
    er := ⟨T.er.hn, T.er.ht, T.er.each, T.er.subs⟩
    g_MOST_POINTS := T.g_MOST_POINTS
    g_MOST_GENERATORS := T.g_MOST_GENERATORS
    t_is_whole := T.t_is_whole
    t_is_turn := T.t_is_turn
    t_need_turn := T.t_need_turn
    t_still := T.t_still
    t_back := T.t_back
    t_need_point := T.t_need_point
    t_letters_of := T.t_letters_of
    t_words_from := T.t_words_from
    t_way := T.t_way
    t__law_mixed := T.t__law_mixed
    t__law_seed := T.t__law_seed
    t__law_turn := T.t__law_turn
    t__law_made := T.t__law_made
    t__law_letters := T.t__law_letters
    t__law_far := T.t__law_far
    t__law_due := T.t__law_due
    t__law_same := T.t__law_same
    t__law_word := T.t__law_word
    o_Group := T.o_Group
    o_Group_many := T.o_Group_many
    o_Group_generators := T.o_Group_generators
    nA := T.nA
    nM := T.nM
  }
theorem l_Group_many : ∀ cs r, KG.m_Group_many cs = some r → cs.length = 1 := by
  intro cs r h
  unfold KG.m_Group_many at h
  split at h
  all_goals first | rfl | (cases h; done)
theorem d_Group_many (T : Txt K mg G) : MtOk P w K mg base G 1 50 "many" ["self"] KG.m_Group_many :=
  mt_ok (k := 0) KG.b_Group_many T.o_Group_many T.o_Group.cl s_Group_many T.hK T.nb c_Group_many
    (fun X h1 h2 h3 h4 h5 hr => by
      simp only [KG.b_Group_many, refSs, refS, refs, refsL, List.map_cons, List.map_nil, List.append_nil, List.nil_append, List.cons_append]
      repeat' (first | exact all_nil | refine all_cons ?_ ?_ | refine all_app ?_ ?_)
      all_goals first
        | exact T.er.kl h3 h4 _ (fun j x e => by cases e; all_goals exact ⟨by rw [T.ge]; decide, rfl⟩)
        | exact fl_ref h3 T.o_Group.cl T.nA
        | exact fl_ref h3 T.o_Group.cl T.nM)
    (fun X h3 h4 => by
      simp only [KG.b_Group_many, excSs, excS, List.append_nil, List.nil_append, List.cons_append]
      repeat' (first | exact all_nil | refine all_cons ?_ ?_ | refine all_app ?_ ?_)
      all_goals first
        | exact T.er.raise h3 h4 (by rw [T.ge]; decide) rfl
        | exact T.er.catch h3 h4 (by rw [T.ge]; decide) rfl (by rw [T.ge]; decide))
    l_Group_many KG.w_Group_many
theorem l_Group_generators : ∀ cs r, KG.m_Group_generators cs = some r → cs.length = 1 := by
  intro cs r h
  unfold KG.m_Group_generators at h
  split at h
  all_goals first | rfl | (cases h; done)
theorem d_Group_generators (T : Txt K mg G) : MtOk P w K mg base G 1 50 "generators" ["self"] KG.m_Group_generators :=
  mt_ok (k := 0) KG.b_Group_generators T.o_Group_generators T.o_Group.cl s_Group_generators T.hK T.nb c_Group_generators
    (fun X h1 h2 h3 h4 h5 hr => by
      simp only [KG.b_Group_generators, refSs, refS, refs, refsL, List.map_cons, List.map_nil, List.append_nil, List.nil_append, List.cons_append]
      repeat' (first | exact all_nil | refine all_cons ?_ ?_ | refine all_app ?_ ?_)
      all_goals first
        | exact T.er.kl h3 h4 _ (fun j x e => by cases e; all_goals exact ⟨by rw [T.ge]; decide, rfl⟩)
        | exact fl_ref h3 T.o_Group.cl T.nA
        | exact fl_ref h3 T.o_Group.cl T.nM)
    (fun X h3 h4 => by
      simp only [KG.b_Group_generators, excSs, excS, List.append_nil, List.nil_append, List.cons_append]
      repeat' (first | exact all_nil | refine all_cons ?_ ?_ | refine all_app ?_ ?_)
      all_goals first
        | exact T.er.raise h3 h4 (by rw [T.ge]; decide) rfl
        | exact T.er.catch h3 h4 (by rw [T.ge]; decide) rfl (by rw [T.ge]; decide))
    l_Group_generators KG.w_Group_generators
theorem l_is_whole : ∀ cs r, m_is_whole cs = some r → cs.length = p_is_whole.length := by
  intro cs r h
  unfold m_is_whole at h
  split at h
  all_goals first | rfl | (cases h; done)
theorem d_is_whole (T : Txt K mg G) : DefOk P w K mg base G 1 "is_whole" p_is_whole m_is_whole :=
  def_ok (k := 0) b_is_whole T.t_is_whole s_is_whole T.hK T.nb c_is_whole
    (fun X h1 h2 h3 h4 h5 hr => by
      simp only [b_is_whole, refSs, refS, refs, refsL, List.map_cons, List.map_nil, List.append_nil, List.nil_append, List.cons_append]
      repeat' (first | exact all_nil | refine all_cons ?_ ?_ | refine all_app ?_ ?_)
      all_goals first
        | exact T.er.kl h3 h4 _ (fun j x e => by cases e; all_goals exact ⟨by rw [T.ge]; decide, rfl⟩)
        | exact fl_ref h3 T.o_Group.cl T.nA
        | exact fl_ref h3 T.o_Group.cl T.nM)
    (fun X h3 h4 => by
      simp only [b_is_whole, excSs, excS, List.append_nil, List.nil_append, List.cons_append]
      repeat' (first | exact all_nil | refine all_cons ?_ ?_ | refine all_app ?_ ?_)
      all_goals first
        | exact T.er.raise h3 h4 (by rw [T.ge]; decide) rfl
        | exact T.er.catch h3 h4 (by rw [T.ge]; decide) rfl (by rw [T.ge]; decide))
    l_is_whole w_is_whole
theorem l__law_mixed : ∀ cs r, m__law_mixed cs = some r → cs.length = p__law_mixed.length := by
  intro cs r h
  unfold m__law_mixed at h
  split at h
  all_goals first | rfl | (cases h; done)
theorem d__law_mixed (T : Txt K mg G) : DefOk P w K mg base G 1 "_law_mixed" p__law_mixed m__law_mixed :=
  def_ok (k := 0) b__law_mixed T.t__law_mixed s__law_mixed T.hK T.nb c__law_mixed
    (fun X h1 h2 h3 h4 h5 hr => by
      simp only [b__law_mixed, refSs, refS, refs, refsL, List.map_cons, List.map_nil, List.append_nil, List.nil_append, List.cons_append]
      repeat' (first | exact all_nil | refine all_cons ?_ ?_ | refine all_app ?_ ?_)
      all_goals first
        | exact T.er.kl h3 h4 _ (fun j x e => by cases e; all_goals exact ⟨by rw [T.ge]; decide, rfl⟩)
        | exact fl_ref h3 T.o_Group.cl T.nA
        | exact fl_ref h3 T.o_Group.cl T.nM)
    (fun X h3 h4 => by
      simp only [b__law_mixed, excSs, excS, List.append_nil, List.nil_append, List.cons_append]
      repeat' (first | exact all_nil | refine all_cons ?_ ?_ | refine all_app ?_ ?_)
      all_goals first
        | exact T.er.raise h3 h4 (by rw [T.ge]; decide) rfl
        | exact T.er.catch h3 h4 (by rw [T.ge]; decide) rfl (by rw [T.ge]; decide))
    l__law_mixed w__law_mixed
theorem l__law_letters : ∀ cs r, m__law_letters cs = some r → cs.length = p__law_letters.length := by
  intro cs r h
  unfold m__law_letters at h
  split at h
  all_goals first | rfl | (cases h; done)
theorem d__law_letters (T : Txt K mg G) : DefOk P w K mg base G 1 "_law_letters" p__law_letters m__law_letters :=
  def_ok (k := 0) b__law_letters T.t__law_letters s__law_letters T.hK T.nb c__law_letters
    (fun X h1 h2 h3 h4 h5 hr => by
      simp only [b__law_letters, refSs, refS, refs, refsL, List.map_cons, List.map_nil, List.append_nil, List.nil_append, List.cons_append]
      repeat' (first | exact all_nil | refine all_cons ?_ ?_ | refine all_app ?_ ?_)
      all_goals first
        | exact T.er.kl h3 h4 _ (fun j x e => by cases e; all_goals exact ⟨by rw [T.ge]; decide, rfl⟩)
        | exact fl_ref h3 T.o_Group.cl T.nA
        | exact fl_ref h3 T.o_Group.cl T.nM)
    (fun X h3 h4 => by
      simp only [b__law_letters, excSs, excS, List.append_nil, List.nil_append, List.cons_append]
      repeat' (first | exact all_nil | refine all_cons ?_ ?_ | refine all_app ?_ ?_)
      all_goals first
        | exact T.er.raise h3 h4 (by rw [T.ge]; decide) rfl
        | exact T.er.catch h3 h4 (by rw [T.ge]; decide) rfl (by rw [T.ge]; decide))
    l__law_letters w__law_letters
theorem l__law_far : ∀ cs r, m__law_far cs = some r → cs.length = p__law_far.length := by
  intro cs r h
  unfold m__law_far at h
  split at h
  all_goals first | rfl | (cases h; done)
theorem d__law_far (T : Txt K mg G) : DefOk P w K mg base G 1 "_law_far" p__law_far m__law_far :=
  def_ok (k := 0) b__law_far T.t__law_far s__law_far T.hK T.nb c__law_far
    (fun X h1 h2 h3 h4 h5 hr => by
      simp only [b__law_far, refSs, refS, refs, refsL, List.map_cons, List.map_nil, List.append_nil, List.nil_append, List.cons_append]
      repeat' (first | exact all_nil | refine all_cons ?_ ?_ | refine all_app ?_ ?_)
      all_goals first
        | exact T.er.kl h3 h4 _ (fun j x e => by cases e; all_goals exact ⟨by rw [T.ge]; decide, rfl⟩)
        | exact fl_ref h3 T.o_Group.cl T.nA
        | exact fl_ref h3 T.o_Group.cl T.nM)
    (fun X h3 h4 => by
      simp only [b__law_far, excSs, excS, List.append_nil, List.nil_append, List.cons_append]
      repeat' (first | exact all_nil | refine all_cons ?_ ?_ | refine all_app ?_ ?_)
      all_goals first
        | exact T.er.raise h3 h4 (by rw [T.ge]; decide) rfl
        | exact T.er.catch h3 h4 (by rw [T.ge]; decide) rfl (by rw [T.ge]; decide))
    l__law_far w__law_far
theorem l__law_same : ∀ cs r, m__law_same cs = some r → cs.length = p__law_same.length := by
  intro cs r h
  unfold m__law_same at h
  split at h
  all_goals first | rfl | (cases h; done)
theorem d__law_same (T : Txt K mg G) : DefOk P w K mg base G 1 "_law_same" p__law_same m__law_same :=
  def_ok (k := 0) b__law_same T.t__law_same s__law_same T.hK T.nb c__law_same
    (fun X h1 h2 h3 h4 h5 hr => by
      simp only [b__law_same, refSs, refS, refs, refsL, List.map_cons, List.map_nil, List.append_nil, List.nil_append, List.cons_append]
      repeat' (first | exact all_nil | refine all_cons ?_ ?_ | refine all_app ?_ ?_)
      all_goals first
        | exact T.er.kl h3 h4 _ (fun j x e => by cases e; all_goals exact ⟨by rw [T.ge]; decide, rfl⟩)
        | exact fl_ref h3 T.o_Group.cl T.nA
        | exact fl_ref h3 T.o_Group.cl T.nM)
    (fun X h3 h4 => by
      simp only [b__law_same, excSs, excS, List.append_nil, List.nil_append, List.cons_append]
      repeat' (first | exact all_nil | refine all_cons ?_ ?_ | refine all_app ?_ ?_)
      all_goals first
        | exact T.er.raise h3 h4 (by rw [T.ge]; decide) rfl
        | exact T.er.catch h3 h4 (by rw [T.ge]; decide) rfl (by rw [T.ge]; decide))
    l__law_same w__law_same
theorem d__law_word {k : Nat} (T : Txt K mg G) : ThDef P w K mg base G k "_law_word" ml__law_word :=
  th_def T.t__law_word s__law_word (by decide +kernel) T.hK T.nb fun r c h => ⟨(wl__law_word r c h).1, (wl__law_word r c h).2.1, b__law_word r, c__law_word r,
    (fun f H Hs X h1 h2 h3 h4 h5 hr => by
      simp only [b__law_word, actS, refSs, refS, refs, refsL, List.map_cons, List.map_nil, List.append_nil, List.nil_append, List.cons_append]
      repeat' (first | exact all_nil | refine all_cons ?_ ?_ | refine all_app ?_ ?_)
      all_goals first
        | exact (T.th f H Hs).er.kl h3 h4 _ (fun j x e => by cases e; all_goals exact ⟨by rw [(T.th f H Hs).ge]; decide, rfl⟩)
        | exact fl_ref h3 T.o_Group.cl T.nA
        | exact fl_ref h3 T.o_Group.cl T.nM),
    (fun f H Hs X h3 h4 => by
      simp only [b__law_word, actS, excSs, excS, List.append_nil, List.nil_append, List.cons_append]
      repeat' (first | exact all_nil | refine all_cons ?_ ?_ | refine all_app ?_ ?_)
      all_goals first
        | exact .inl rfl
        | exact .inr ((T.th f H Hs).er.raise h3 h4 (by rw [(T.th f H Hs).ge]; decide) rfl)
        | exact .inr ((T.th f H Hs).er.catch h3 h4 (by rw [(T.th f H Hs).ge]; decide) rfl (by rw [(T.th f H Hs).ge]; decide))),
    (wl__law_word r c h).2.2⟩
theorem l_is_turn : ∀ cs r, m_is_turn cs = some r → cs.length = p_is_turn.length := by
  intro cs r h
  unfold m_is_turn at h
  split at h
  all_goals first | rfl | (cases h; done)
theorem d_is_turn (T : Txt K mg G) : DefOk P w K mg base G 2 "is_turn" p_is_turn m_is_turn :=
  def_ok (k := 1) b_is_turn T.t_is_turn s_is_turn T.hK T.nb c_is_turn
    (fun X h1 h2 h3 h4 h5 hr => by
      simp only [b_is_turn, refSs, refS, refs, refsL, List.map_cons, List.map_nil, List.append_nil, List.nil_append, List.cons_append]
      repeat' (first | exact all_nil | refine all_cons ?_ ?_ | refine all_app ?_ ?_)
      all_goals first
        | exact T.er.kl h3 h4 _ (fun j x e => by cases e; all_goals exact ⟨by rw [T.ge]; decide, rfl⟩)
        | exact (d_is_whole T).ref (by decide) h1 h2 h3 h4 h5 hr
        | exact gl_int T.g_MOST_POINTS h4
        | exact fl_ref h3 T.o_Group.cl T.nA
        | exact fl_ref h3 T.o_Group.cl T.nM)
    (fun X h3 h4 => by
      simp only [b_is_turn, excSs, excS, List.append_nil, List.nil_append, List.cons_append]
      repeat' (first | exact all_nil | refine all_cons ?_ ?_ | refine all_app ?_ ?_)
      all_goals first
        | exact T.er.raise h3 h4 (by rw [T.ge]; decide) rfl
        | exact T.er.catch h3 h4 (by rw [T.ge]; decide) rfl (by rw [T.ge]; decide))
    l_is_turn w_is_turn
theorem l_still : ∀ cs r, m_still cs = some r → cs.length = p_still.length := by
  intro cs r h
  unfold m_still at h
  split at h
  all_goals first | rfl | (cases h; done)
theorem d_still (T : Txt K mg G) : DefOk P w K mg base G 2 "still" p_still m_still :=
  def_ok (k := 1) b_still T.t_still s_still T.hK T.nb c_still
    (fun X h1 h2 h3 h4 h5 hr => by
      simp only [b_still, refSs, refS, refs, refsL, List.map_cons, List.map_nil, List.append_nil, List.nil_append, List.cons_append]
      repeat' (first | exact all_nil | refine all_cons ?_ ?_ | refine all_app ?_ ?_)
      all_goals first
        | exact T.er.kl h3 h4 _ (fun j x e => by cases e; all_goals exact ⟨by rw [T.ge]; decide, rfl⟩)
        | exact (d_is_whole T).ref (by decide) h1 h2 h3 h4 h5 hr
        | exact gl_int T.g_MOST_POINTS h4
        | exact fl_ref h3 T.o_Group.cl T.nA
        | exact fl_ref h3 T.o_Group.cl T.nM)
    (fun X h3 h4 => by
      simp only [b_still, excSs, excS, List.append_nil, List.nil_append, List.cons_append]
      repeat' (first | exact all_nil | refine all_cons ?_ ?_ | refine all_app ?_ ?_)
      all_goals first
        | exact T.er.raise h3 h4 (by rw [T.ge]; decide) rfl
        | exact T.er.catch h3 h4 (by rw [T.ge]; decide) rfl (by rw [T.ge]; decide))
    l_still w_still
theorem l_need_point : ∀ cs r, m_need_point cs = some r → cs.length = p_need_point.length := by
  intro cs r h
  unfold m_need_point at h
  split at h
  all_goals first | rfl | (cases h; done)
theorem d_need_point (T : Txt K mg G) : DefOk P w K mg base G 2 "need_point" p_need_point m_need_point :=
  def_ok (k := 1) b_need_point T.t_need_point s_need_point T.hK T.nb c_need_point
    (fun X h1 h2 h3 h4 h5 hr => by
      simp only [b_need_point, refSs, refS, refs, refsL, List.map_cons, List.map_nil, List.append_nil, List.nil_append, List.cons_append]
      repeat' (first | exact all_nil | refine all_cons ?_ ?_ | refine all_app ?_ ?_)
      all_goals first
        | exact T.er.kl h3 h4 _ (fun j x e => by cases e; all_goals exact ⟨by rw [T.ge]; decide, rfl⟩)
        | exact (d_Group_many T).ref (by decide) h1 h2 h3 h4 h5 hr
        | exact fl_ref h3 T.o_Group.cl T.nA
        | exact fl_ref h3 T.o_Group.cl T.nM)
    (fun X h3 h4 => by
      simp only [b_need_point, excSs, excS, List.append_nil, List.nil_append, List.cons_append]
      repeat' (first | exact all_nil | refine all_cons ?_ ?_ | refine all_app ?_ ?_)
      all_goals first
        | exact T.er.raise h3 h4 (by rw [T.ge]; decide) rfl
        | exact T.er.catch h3 h4 (by rw [T.ge]; decide) rfl (by rw [T.ge]; decide))
    l_need_point w_need_point
theorem l__law_seed : ∀ cs r, m__law_seed cs = some r → cs.length = p__law_seed.length := by
  intro cs r h
  unfold m__law_seed at h
  split at h
  all_goals first | rfl | (cases h; done)
theorem d__law_seed (T : Txt K mg G) : DefOk P w K mg base G 2 "_law_seed" p__law_seed m__law_seed :=
  def_ok (k := 1) b__law_seed T.t__law_seed s__law_seed T.hK T.nb c__law_seed
    (fun X h1 h2 h3 h4 h5 hr => by
      simp only [b__law_seed, refSs, refS, refs, refsL, List.map_cons, List.map_nil, List.append_nil, List.nil_append, List.cons_append]
      repeat' (first | exact all_nil | refine all_cons ?_ ?_ | refine all_app ?_ ?_)
      all_goals first
        | exact T.er.kl h3 h4 _ (fun j x e => by cases e; all_goals exact ⟨by rw [T.ge]; decide, rfl⟩)
        | exact (d__law_mixed T).ref (by decide) h1 h2 h3 h4 h5 hr
        | exact fl_ref h3 T.o_Group.cl T.nA
        | exact fl_ref h3 T.o_Group.cl T.nM)
    (fun X h3 h4 => by
      simp only [b__law_seed, excSs, excS, List.append_nil, List.nil_append, List.cons_append]
      repeat' (first | exact all_nil | refine all_cons ?_ ?_ | refine all_app ?_ ?_)
      all_goals first
        | exact T.er.raise h3 h4 (by rw [T.ge]; decide) rfl
        | exact T.er.catch h3 h4 (by rw [T.ge]; decide) rfl (by rw [T.ge]; decide))
    l__law_seed w__law_seed
theorem l__law_turn : ∀ cs r, m__law_turn cs = some r → cs.length = p__law_turn.length := by
  intro cs r h
  unfold m__law_turn at h
  split at h
  all_goals first | rfl | (cases h; done)
theorem d__law_turn (T : Txt K mg G) : DefOk P w K mg base G 2 "_law_turn" p__law_turn m__law_turn :=
  def_ok (k := 1) b__law_turn T.t__law_turn s__law_turn T.hK T.nb c__law_turn
    (fun X h1 h2 h3 h4 h5 hr => by
      simp only [b__law_turn, refSs, refS, refs, refsL, List.map_cons, List.map_nil, List.append_nil, List.nil_append, List.cons_append]
      repeat' (first | exact all_nil | refine all_cons ?_ ?_ | refine all_app ?_ ?_)
      all_goals first
        | exact T.er.kl h3 h4 _ (fun j x e => by cases e; all_goals exact ⟨by rw [T.ge]; decide, rfl⟩)
        | exact (d__law_mixed T).ref (by decide) h1 h2 h3 h4 h5 hr
        | exact fl_ref h3 T.o_Group.cl T.nA
        | exact fl_ref h3 T.o_Group.cl T.nM)
    (fun X h3 h4 => by
      simp only [b__law_turn, excSs, excS, List.append_nil, List.nil_append, List.cons_append]
      repeat' (first | exact all_nil | refine all_cons ?_ ?_ | refine all_app ?_ ?_)
      all_goals first
        | exact T.er.raise h3 h4 (by rw [T.ge]; decide) rfl
        | exact T.er.catch h3 h4 (by rw [T.ge]; decide) rfl (by rw [T.ge]; decide))
    l__law_turn w__law_turn
theorem l__law_due : ∀ cs r, m__law_due cs = some r → cs.length = p__law_due.length := by
  intro cs r h
  unfold m__law_due at h
  split at h
  all_goals first | rfl | (cases h; done)
theorem d__law_due (T : Txt K mg G) : DefOk P w K mg base G 2 "_law_due" p__law_due m__law_due :=
  def_ok (k := 1) b__law_due T.t__law_due s__law_due T.hK T.nb c__law_due
    (fun X h1 h2 h3 h4 h5 hr => by
      simp only [b__law_due, refSs, refS, refs, refsL, List.map_cons, List.map_nil, List.append_nil, List.nil_append, List.cons_append]
      repeat' (first | exact all_nil | refine all_cons ?_ ?_ | refine all_app ?_ ?_)
      all_goals first
        | exact T.er.kl h3 h4 _ (fun j x e => by cases e; all_goals exact ⟨by rw [T.ge]; decide, rfl⟩)
        | exact (d__law_far T).ref (by decide) h1 h2 h3 h4 h5 hr
        | exact fl_ref h3 T.o_Group.cl T.nA
        | exact fl_ref h3 T.o_Group.cl T.nM)
    (fun X h3 h4 => by
      simp only [b__law_due, excSs, excS, List.append_nil, List.nil_append, List.cons_append]
      repeat' (first | exact all_nil | refine all_cons ?_ ?_ | refine all_app ?_ ?_)
      all_goals first
        | exact T.er.raise h3 h4 (by rw [T.ge]; decide) rfl
        | exact T.er.catch h3 h4 (by rw [T.ge]; decide) rfl (by rw [T.ge]; decide))
    l__law_due w__law_due
theorem l_need_turn : ∀ cs r, m_need_turn cs = some r → cs.length = p_need_turn.length := by
  intro cs r h
  unfold m_need_turn at h
  split at h
  all_goals first | rfl | (cases h; done)
theorem d_need_turn (T : Txt K mg G) : DefOk P w K mg base G 3 "need_turn" p_need_turn m_need_turn :=
  def_ok (k := 2) b_need_turn T.t_need_turn s_need_turn T.hK T.nb c_need_turn
    (fun X h1 h2 h3 h4 h5 hr => by
      simp only [b_need_turn, refSs, refS, refs, refsL, List.map_cons, List.map_nil, List.append_nil, List.nil_append, List.cons_append]
      repeat' (first | exact all_nil | refine all_cons ?_ ?_ | refine all_app ?_ ?_)
      all_goals first
        | exact T.er.kl h3 h4 _ (fun j x e => by cases e; all_goals exact ⟨by rw [T.ge]; decide, rfl⟩)
        | exact (d_is_turn T).ref (by decide) h1 h2 h3 h4 h5 hr
        | exact fl_ref h3 T.o_Group.cl T.nA
        | exact fl_ref h3 T.o_Group.cl T.nM)
    (fun X h3 h4 => by
      simp only [b_need_turn, excSs, excS, List.append_nil, List.nil_append, List.cons_append]
      repeat' (first | exact all_nil | refine all_cons ?_ ?_ | refine all_app ?_ ?_)
      all_goals first
        | exact T.er.raise h3 h4 (by rw [T.ge]; decide) rfl
        | exact T.er.catch h3 h4 (by rw [T.ge]; decide) rfl (by rw [T.ge]; decide))
    l_need_turn w_need_turn
theorem l__law_made : ∀ cs r, m__law_made cs = some r → cs.length = p__law_made.length := by
  intro cs r h
  unfold m__law_made at h
  split at h
  all_goals first | rfl | (cases h; done)
theorem d__law_made (T : Txt K mg G) : DefOk P w K mg base G 3 "_law_made" p__law_made m__law_made :=
  def_ok (k := 2) b__law_made T.t__law_made s__law_made T.hK T.nb c__law_made
    (fun X h1 h2 h3 h4 h5 hr => by
      simp only [b__law_made, refSs, refS, refs, refsL, List.map_cons, List.map_nil, List.append_nil, List.nil_append, List.cons_append]
      repeat' (first | exact all_nil | refine all_cons ?_ ?_ | refine all_app ?_ ?_)
      all_goals first
        | exact T.er.kl h3 h4 _ (fun j x e => by cases e; all_goals exact ⟨by rw [T.ge]; decide, rfl⟩)
        | exact (d__law_mixed T).ref (by decide) h1 h2 h3 h4 h5 hr
        | exact (d__law_turn T).ref (by decide) h1 h2 h3 h4 h5 hr
        | exact fl_ref h3 T.o_Group.cl T.nA
        | exact fl_ref h3 T.o_Group.cl T.nM)
    (fun X h3 h4 => by
      simp only [b__law_made, excSs, excS, List.append_nil, List.nil_append, List.cons_append]
      repeat' (first | exact all_nil | refine all_cons ?_ ?_ | refine all_app ?_ ?_)
      all_goals first
        | exact T.er.raise h3 h4 (by rw [T.ge]; decide) rfl
        | exact T.er.catch h3 h4 (by rw [T.ge]; decide) rfl (by rw [T.ge]; decide))
    l__law_made w__law_made
theorem l_back : ∀ cs r, m_back cs = some r → cs.length = p_back.length := by
  intro cs r h
  unfold m_back at h
  split at h
  all_goals first | rfl | (cases h; done)
theorem d_back (T : Txt K mg G) : DefOk P w K mg base G 4 "back" p_back m_back :=
  def_ok (k := 3) b_back T.t_back s_back T.hK T.nb c_back
    (fun X h1 h2 h3 h4 h5 hr => by
      simp only [b_back, refSs, refS, refs, refsL, List.map_cons, List.map_nil, List.append_nil, List.nil_append, List.cons_append]
      repeat' (first | exact all_nil | refine all_cons ?_ ?_ | refine all_app ?_ ?_)
      all_goals first
        | exact T.er.kl h3 h4 _ (fun j x e => by cases e; all_goals exact ⟨by rw [T.ge]; decide, rfl⟩)
        | exact (d_need_turn T).ref (by decide) h1 h2 h3 h4 h5 hr
        | exact fl_ref h3 T.o_Group.cl T.nA
        | exact fl_ref h3 T.o_Group.cl T.nM)
    (fun X h3 h4 => by
      simp only [b_back, excSs, excS, List.append_nil, List.nil_append, List.cons_append]
      repeat' (first | exact all_nil | refine all_cons ?_ ?_ | refine all_app ?_ ?_)
      all_goals first
        | exact T.er.raise h3 h4 (by rw [T.ge]; decide) rfl
        | exact T.er.catch h3 h4 (by rw [T.ge]; decide) rfl (by rw [T.ge]; decide))
    l_back w_back
theorem d_Group (T : Txt K mg G) : MkOk P w K mg base G 3 50 "Group" ["self", "many", "generators"] KG.m_Group := by
  obtain ⟨f, fd, hM, F, hb⟩ := T.o_Group.ex
  refine ⟨f, fd, T.o_Group.mg, hM, hb, init_ok (k := 2) KG.a1 (KG.a2 5) (KG.a3 5) "amount" "makers" (.var 1) (.blt bList [(.var 2)]) F s_Group T.hK T.nb c_Group T.o_Group.cl T.nA T.nM (by decide +kernel)
    (fun x X h1 h2 h3 h4 h5 hr => by
      simp only [KG.a1, KG.a2, KG.a3, refSs, refS, refs, refsL, List.map_cons, List.map_nil, List.append_nil, List.nil_append, List.cons_append]
      repeat' (first | exact all_nil | refine all_cons ?_ ?_ | refine all_app ?_ ?_)
      all_goals first
        | exact (T.at x).er.kl h3 h4 _ (fun j x e => by cases e; all_goals exact ⟨by rw [(T.at x).ge]; decide, rfl⟩)
        | exact (d_still (T.at x)).ref (by decide) h1 h2 h3 h4 h5 hr
        | exact (d_is_turn (T.at x)).ref (by decide) h1 h2 h3 h4 h5 hr
        | exact gl_int (T.at x).g_MOST_GENERATORS h4)
    (fun x X h3 h4 => by
      simp only [KG.a1, KG.a2, KG.a3, excSs, excS, List.append_nil, List.nil_append, List.cons_append]
      repeat' (first | exact all_nil | refine all_cons ?_ ?_ | refine all_app ?_ ?_)
      all_goals first
        | exact (T.at x).er.raise h3 h4 (by rw [(T.at x).ge]; decide) rfl
        | exact (T.at x).er.catch h3 h4 (by rw [(T.at x).ge]; decide) rfl (by rw [(T.at x).ge]; decide))
    KG.l_Group (KG.w_Group 5)⟩
theorem l_letters_of : ∀ cs r, m_letters_of cs = some r → cs.length = p_letters_of.length := by
  intro cs r h
  unfold m_letters_of at h
  split at h
  all_goals first | rfl | (cases h; done)
theorem d_letters_of (T : Txt K mg G) : DefOk P w K mg base G 5 "letters_of" p_letters_of m_letters_of :=
  def_ok (k := 4) b_letters_of T.t_letters_of s_letters_of T.hK T.nb c_letters_of
    (fun X h1 h2 h3 h4 h5 hr => by
      simp only [b_letters_of, refSs, refS, refs, refsL, List.map_cons, List.map_nil, List.append_nil, List.nil_append, List.cons_append]
      repeat' (first | exact all_nil | refine all_cons ?_ ?_ | refine all_app ?_ ?_)
      all_goals first
        | exact T.er.kl h3 h4 _ (fun j x e => by cases e; all_goals exact ⟨by rw [T.ge]; decide, rfl⟩)
        | exact (d_Group_generators T).ref (by decide) h1 h2 h3 h4 h5 hr
        | exact (d_back T).ref (by decide) h1 h2 h3 h4 h5 hr
        | exact fl_ref h3 T.o_Group.cl T.nA
        | exact fl_ref h3 T.o_Group.cl T.nM)
    (fun X h3 h4 => by
      simp only [b_letters_of, excSs, excS, List.append_nil, List.nil_append, List.cons_append]
      repeat' (first | exact all_nil | refine all_cons ?_ ?_ | refine all_app ?_ ?_)
      all_goals first
        | exact T.er.raise h3 h4 (by rw [T.ge]; decide) rfl
        | exact T.er.catch h3 h4 (by rw [T.ge]; decide) rfl (by rw [T.ge]; decide))
    l_letters_of w_letters_of
theorem l_words_from : ∀ cs r, m_words_from cs = some r → cs.length = p_words_from.length := by
  intro cs r h
  unfold m_words_from at h
  split at h
  all_goals first | rfl | (cases h; done)
theorem d_words_from (T : Txt K mg G) : DefOk P w K mg base G 6 "words_from" p_words_from m_words_from :=
  def_ok (k := 5) b_words_from T.t_words_from s_words_from T.hK T.nb c_words_from
    (fun X h1 h2 h3 h4 h5 hr => by
      simp only [b_words_from, refSs, refS, refs, refsL, List.map_cons, List.map_nil, List.append_nil, List.nil_append, List.cons_append]
      repeat' (first | exact all_nil | refine all_cons ?_ ?_ | refine all_app ?_ ?_)
      all_goals first
        | exact T.er.kl h3 h4 _ (fun j x e => by cases e; all_goals exact ⟨by rw [T.ge]; decide, rfl⟩)
        | exact (d_letters_of T).ref (by decide) h1 h2 h3 h4 h5 hr
        | exact fl_ref h3 T.o_Group.cl T.nA
        | exact fl_ref h3 T.o_Group.cl T.nM)
    (fun X h3 h4 => by
      simp only [b_words_from, excSs, excS, List.append_nil, List.nil_append, List.cons_append]
      repeat' (first | exact all_nil | refine all_cons ?_ ?_ | refine all_app ?_ ?_)
      all_goals first
        | exact T.er.raise h3 h4 (by rw [T.ge]; decide) rfl
        | exact T.er.catch h3 h4 (by rw [T.ge]; decide) rfl (by rw [T.ge]; decide))
    l_words_from w_words_from
theorem l_way : ∀ cs r, m_way cs = some r → cs.length = p_way.length := by
  intro cs r h
  unfold m_way at h
  split at h
  all_goals first | rfl | (cases h; done)
theorem d_way (T : Txt K mg G) : DefOk P w K mg base G 7 "way" p_way m_way :=
  def_ok (k := 6) b_way T.t_way s_way T.hK T.nb c_way
    (fun X h1 h2 h3 h4 h5 hr => by
      simp only [b_way, refSs, refS, refs, refsL, List.map_cons, List.map_nil, List.append_nil, List.nil_append, List.cons_append]
      repeat' (first | exact all_nil | refine all_cons ?_ ?_ | refine all_app ?_ ?_)
      all_goals first
        | exact T.er.kl h3 h4 _ (fun j x e => by cases e; all_goals exact ⟨by rw [T.ge]; decide, rfl⟩)
        | exact (d_need_point T).ref (by decide) h1 h2 h3 h4 h5 hr
        | exact (d_words_from T).ref (by decide) h1 h2 h3 h4 h5 hr
        | exact fl_ref h3 T.o_Group.cl T.nA
        | exact fl_ref h3 T.o_Group.cl T.nM)
    (fun X h3 h4 => by
      simp only [b_way, excSs, excS, List.append_nil, List.nil_append, List.cons_append]
      repeat' (first | exact all_nil | refine all_cons ?_ ?_ | refine all_app ?_ ?_)
      all_goals first
        | exact T.er.raise h3 h4 (by rw [T.ge]; decide) rfl
        | exact T.er.catch h3 h4 (by rw [T.ge]; decide) rfl (by rw [T.ge]; decide))
    l_way w_way
theorem lam__law_word_way {X : Cx} {ca Pt : Addr} (T : Txt K mg G) (h1 : X.prog = P) (h2 : X.w = w) (h3 : X.K = K) (h4 : X.mg = mg) (h5 : X.base = base) (hr : Room 9 X.A) (hc : X.env.code = .ref ca) (hq : X.env.qual = ("law" : Str) ++ ".<locals>.") (tb : LamX.TabB base mg ca Pt) (hG : G.tabs = [(Pt, ("law" : Str) ++ ".<locals>." ++ "<lambda>")]) : RefOk G X (.any (lamR "_law_word" ml__law_word "way" m_way)) := by
  subst h1 h2 h3 h4 h5
  refine ⟨7, ca, Pt, hr, d__law_word T, tb, hc, by rw [hG, hq]; exact List.mem_cons_self, fun p hp e => ?_, fun Y e1 e2 e3 e4 e5 hr2 => (d_way T).ref (by decide) e1 e2 e3 e4 e5 hr2⟩
  rw [hG] at hp
  rw [List.mem_singleton.mp hp, hq]
theorem l_law : ∀ cs r, m_law cs = some r → cs.length = p_law.length := by
  intro cs r h
  unfold m_law at h
  split at h
  all_goals first | rfl | (cases h; done)
theorem d_law {f ca Pt : Addr} {fd : FuncData} (T : Txt K mg G) (F : Fun K "law" "law" t_law f fd) (hca : fd.code = .ref ca) (tb : LamX.TabB base mg ca Pt) (hG : G.tabs = [(Pt, ("law" : Str) ++ ".<locals>." ++ "<lambda>")]) : FnOk P w K mg base (L2.CX P w) 10 f fd p_law (spM G m_law) :=
  fn_okL (k := 9) b_law F hca s_law T.hK T.nb c_law
    (fun X h1 h2 h3 h4 h5 hr hc hq => by
      simp only [b_law, lamC, refSs, refS, refs, refsL, List.map_cons, List.map_nil, List.append_nil, List.nil_append, List.cons_append]
      repeat' (first | exact all_nil | refine all_cons ?_ ?_ | refine all_app ?_ ?_)
      all_goals first
        | exact T.er.kl h3 h4 _ (fun j x e => by cases e; all_goals exact ⟨by rw [T.ge]; decide, rfl⟩)
        | exact (d__law_mixed T).ref (by decide) h1 h2 h3 h4 h5 hr
        | exact (d__law_letters T).ref (by decide) h1 h2 h3 h4 h5 hr
        | exact (d__law_same T).ref (by decide) h1 h2 h3 h4 h5 hr
        | exact (d__law_seed T).ref (by decide) h1 h2 h3 h4 h5 hr
        | exact (d__law_due T).ref (by decide) h1 h2 h3 h4 h5 hr
        | exact (d__law_made T).ref (by decide) h1 h2 h3 h4 h5 hr
        | exact (d_Group T).ref (by decide) h1 h2 h3 h4 h5 hr
        | exact (d_way T).ref (by decide) h1 h2 h3 h4 h5 hr
        | exact lam__law_word_way T h1 h2 h3 h4 h5 hr hc hq tb hG
        | exact fl_ref h3 T.o_Group.cl T.nA
        | exact fl_ref h3 T.o_Group.cl T.nM)
    (fun X h3 h4 => by
      simp only [b_law, excSs, excS, List.append_nil, List.nil_append, List.cons_append]
      repeat' (first | exact all_nil | refine all_cons ?_ ?_ | refine all_app ?_ ?_)
      all_goals first
        | exact T.er.raise h3 h4 (by rw [T.ge]; decide) rfl
        | exact T.er.catch h3 h4 (by rw [T.ge]; decide) rfl (by rw [T.ge]; decide))
    l_law w_law
end
theorem all_mk {P : Program} {w : World} {K : PySem.W.Frag} {h : Heap} {mg : Str → Option Value} {fa : Addr} (X : K.In h) (N : h.Ns mainGlobals mg) (hfa : mg "law" = some (.ref fa)) (own : LamX.OwnTab K fa h)
    {C0 C1 C2 C3 C4 C5 C6 C7 C8 C9 C10 C11 CG f0 f1 f2 f3 f4 f5 f6 f7 f8 f9 f10 f11 f12 f13 f14 f15 f16 f17 f18 f19 f20 f21 : Addr} {od0 an0 od1 an1 od2 an2 od3 an3 od4 an4 od5 an5 od6 an6 od7 an7 od8 an8 od9 an9 od10 an10 od11 an11 od12 an12 od13 an13 od14 an14 od15 an15 od16 an16 od17 an17 od18 an18 od19 an19 od20 an20 od21 an21 : Option Addr} {sl0 sl1 sl2 sl3 sl4 sl5 sl6 sl7 sl8 sl9 sl10 sl11 sl12 sl13 sl14 sl15 sl16 sl17 sl18 sl19 sl20 sl21 : Array (Option Value)} {oc0 kV0 dc0 pm0 ct0 cd0 oc1 kV1 dc1 pm1 ct1 cd1 oc2 kV2 dc2 pm2 ct2 cd2 oc3 kV3 dc3 pm3 ct3 cd3 oc4 kV4 dc4 pm4 ct4 cd4 oc5 kV5 dc5 pm5 ct5 cd5 oc6 kV6 dc6 pm6 ct6 cd6 oc7 kV7 dc7 pm7 ct7 cd7 oc8 kV8 dc8 pm8 ct8 cd8 oc9 kV9 dc9 pm9 ct9 cd9 oc10 kV10 dc10 pm10 ct10 cd10 oc11 kV11 dc11 pm11 ct11 cd11 oc12 kV12 dc12 pm12 ct12 cd12 oc13 kV13 dc13 pm13 ct13 cd13 oc14 kV14 dc14 pm14 ct14 cd14 oc15 kV15 dc15 pm15 ct15 cd15 oc16 kV16 dc16 pm16 ct16 cd16 oc17 kV17 dc17 pm17 ct17 cd17 oc18 kV18 dc18 pm18 ct18 oc19 kV19 dc19 pm19 ct19 cd19 oc20 kV20 dc20 pm20 ct20 cd20 oc21 kV21 dc21 pm21 ct21 cd21 : Value} {tk_MOST_POINTS : Tok} {tk_MOST_GENERATORS : Tok} {ca Pt : Addr} {ce : Value} {cdd : Option Addr} {cvs : Array Value} {csl : Array (Option Value)}
    (eg0 : PySem.W.nsIn K mainGlobals "TurnError" = some (some (.ref C0)))
    (ex0 : PySem.W.excIn K C0 [.type "ValueError", .type "Exception", .type "BaseException", .type "object"] "ValueError.__new__" = true)
    (ek0 : PySem.W.keepIn K (.ref C0) = true)
    (ea0 : PySem.W.findIn K (.ref C0) "__getattribute__" = some (some (.builtin "BaseException.__getattribute__")))
    (eb0 : PySem.W.findIn K (.ref C0) "__getattr__" = some none)
    (ed0 : PySem.W.hasDictIn K C0 = true)
    (ec0 : PySem.W.findIn K (.ref C0) "__class__" = some (some (.builtin "object.__class__")))
    (eg1 : PySem.W.nsIn K mainGlobals "BadTurn" = some (some (.ref C1)))
    (ex1 : PySem.W.excIn K C1 [.type "ValueError", .type "Exception", .type "BaseException", .type "object"] "ValueError.__new__" = true)
    (ek1 : PySem.W.keepIn K (.ref C1) = true)
    (ea1 : PySem.W.findIn K (.ref C1) "__getattribute__" = some (some (.builtin "BaseException.__getattribute__")))
    (eb1 : PySem.W.findIn K (.ref C1) "__getattr__" = some none)
    (ed1 : PySem.W.hasDictIn K C1 = true)
    (ec1 : PySem.W.findIn K (.ref C1) "__class__" = some (some (.builtin "object.__class__")))
    (eg2 : PySem.W.nsIn K mainGlobals "BadCount" = some (some (.ref C2)))
    (ex2 : PySem.W.excIn K C2 [.type "ValueError", .type "Exception", .type "BaseException", .type "object"] "ValueError.__new__" = true)
    (ek2 : PySem.W.keepIn K (.ref C2) = true)
    (ea2 : PySem.W.findIn K (.ref C2) "__getattribute__" = some (some (.builtin "BaseException.__getattribute__")))
    (eb2 : PySem.W.findIn K (.ref C2) "__getattr__" = some none)
    (ed2 : PySem.W.hasDictIn K C2 = true)
    (ec2 : PySem.W.findIn K (.ref C2) "__class__" = some (some (.builtin "object.__class__")))
    (eg3 : PySem.W.nsIn K mainGlobals "BadPoint" = some (some (.ref C3)))
    (ex3 : PySem.W.excIn K C3 [.type "ValueError", .type "Exception", .type "BaseException", .type "object"] "ValueError.__new__" = true)
    (ek3 : PySem.W.keepIn K (.ref C3) = true)
    (ea3 : PySem.W.findIn K (.ref C3) "__getattribute__" = some (some (.builtin "BaseException.__getattribute__")))
    (eb3 : PySem.W.findIn K (.ref C3) "__getattr__" = some none)
    (ed3 : PySem.W.hasDictIn K C3 = true)
    (ec3 : PySem.W.findIn K (.ref C3) "__class__" = some (some (.builtin "object.__class__")))
    (eg4 : PySem.W.nsIn K mainGlobals "NoText" = some (some (.ref C4)))
    (ex4 : PySem.W.excIn K C4 [.type "ValueError", .type "Exception", .type "BaseException", .type "object"] "ValueError.__new__" = true)
    (ek4 : PySem.W.keepIn K (.ref C4) = true)
    (ea4 : PySem.W.findIn K (.ref C4) "__getattribute__" = some (some (.builtin "BaseException.__getattribute__")))
    (eb4 : PySem.W.findIn K (.ref C4) "__getattr__" = some none)
    (ed4 : PySem.W.hasDictIn K C4 = true)
    (ec4 : PySem.W.findIn K (.ref C4) "__class__" = some (some (.builtin "object.__class__")))
    (eg5 : PySem.W.nsIn K mainGlobals "BadGroup" = some (some (.ref C5)))
    (ex5 : PySem.W.excIn K C5 [.type "ValueError", .type "Exception", .type "BaseException", .type "object"] "ValueError.__new__" = true)
    (ek5 : PySem.W.keepIn K (.ref C5) = true)
    (ea5 : PySem.W.findIn K (.ref C5) "__getattribute__" = some (some (.builtin "BaseException.__getattribute__")))
    (eb5 : PySem.W.findIn K (.ref C5) "__getattr__" = some none)
    (ed5 : PySem.W.hasDictIn K C5 = true)
    (ec5 : PySem.W.findIn K (.ref C5) "__class__" = some (some (.builtin "object.__class__")))
    (eg6 : PySem.W.nsIn K mainGlobals "BadWord" = some (some (.ref C6)))
    (ex6 : PySem.W.excIn K C6 [.type "ValueError", .type "Exception", .type "BaseException", .type "object"] "ValueError.__new__" = true)
    (ek6 : PySem.W.keepIn K (.ref C6) = true)
    (ea6 : PySem.W.findIn K (.ref C6) "__getattribute__" = some (some (.builtin "BaseException.__getattribute__")))
    (eb6 : PySem.W.findIn K (.ref C6) "__getattr__" = some none)
    (ed6 : PySem.W.hasDictIn K C6 = true)
    (ec6 : PySem.W.findIn K (.ref C6) "__class__" = some (some (.builtin "object.__class__")))
    (eg7 : PySem.W.nsIn K mainGlobals "BadPaper" = some (some (.ref C7)))
    (ex7 : PySem.W.excIn K C7 [.type "ValueError", .type "Exception", .type "BaseException", .type "object"] "ValueError.__new__" = true)
    (ek7 : PySem.W.keepIn K (.ref C7) = true)
    (ea7 : PySem.W.findIn K (.ref C7) "__getattribute__" = some (some (.builtin "BaseException.__getattribute__")))
    (eb7 : PySem.W.findIn K (.ref C7) "__getattr__" = some none)
    (ed7 : PySem.W.hasDictIn K C7 = true)
    (ec7 : PySem.W.findIn K (.ref C7) "__class__" = some (some (.builtin "object.__class__")))
    (eg8 : PySem.W.nsIn K mainGlobals "NoMember" = some (some (.ref C8)))
    (ex8 : PySem.W.excIn K C8 [.type "ValueError", .type "Exception", .type "BaseException", .type "object"] "ValueError.__new__" = true)
    (ek8 : PySem.W.keepIn K (.ref C8) = true)
    (ea8 : PySem.W.findIn K (.ref C8) "__getattribute__" = some (some (.builtin "BaseException.__getattribute__")))
    (eb8 : PySem.W.findIn K (.ref C8) "__getattr__" = some none)
    (ed8 : PySem.W.hasDictIn K C8 = true)
    (ec8 : PySem.W.findIn K (.ref C8) "__class__" = some (some (.builtin "object.__class__")))
    (eg9 : PySem.W.nsIn K mainGlobals "BadNumber" = some (some (.ref C9)))
    (ex9 : PySem.W.excIn K C9 [.type "ValueError", .type "Exception", .type "BaseException", .type "object"] "ValueError.__new__" = true)
    (ek9 : PySem.W.keepIn K (.ref C9) = true)
    (ea9 : PySem.W.findIn K (.ref C9) "__getattribute__" = some (some (.builtin "BaseException.__getattribute__")))
    (eb9 : PySem.W.findIn K (.ref C9) "__getattr__" = some none)
    (ed9 : PySem.W.hasDictIn K C9 = true)
    (ec9 : PySem.W.findIn K (.ref C9) "__class__" = some (some (.builtin "object.__class__")))
    (eg10 : PySem.W.nsIn K mainGlobals "Unlike" = some (some (.ref C10)))
    (ex10 : PySem.W.excIn K C10 [.type "ValueError", .type "Exception", .type "BaseException", .type "object"] "ValueError.__new__" = true)
    (ek10 : PySem.W.keepIn K (.ref C10) = true)
    (ea10 : PySem.W.findIn K (.ref C10) "__getattribute__" = some (some (.builtin "BaseException.__getattribute__")))
    (eb10 : PySem.W.findIn K (.ref C10) "__getattr__" = some none)
    (ed10 : PySem.W.hasDictIn K C10 = true)
    (ec10 : PySem.W.findIn K (.ref C10) "__class__" = some (some (.builtin "object.__class__")))
    (eg11 : PySem.W.nsIn K mainGlobals "BadLine" = some (some (.ref C11)))
    (ex11 : PySem.W.excIn K C11 [.type "ValueError", .type "Exception", .type "BaseException", .type "object"] "ValueError.__new__" = true)
    (ek11 : PySem.W.keepIn K (.ref C11) = true)
    (ea11 : PySem.W.findIn K (.ref C11) "__getattribute__" = some (some (.builtin "BaseException.__getattribute__")))
    (eb11 : PySem.W.findIn K (.ref C11) "__getattr__" = some none)
    (ed11 : PySem.W.hasDictIn K C11 = true)
    (ec11 : PySem.W.findIn K (.ref C11) "__class__" = some (some (.builtin "object.__class__")))
    (en : PySem.W.specialIn K (.builtin "object.__class__") "__get__" = some (some (.builtin "getset_descriptor.__get__")))
    (et : PySem.W.takesIn K (.builtin "object.__class__") = some true)
    (s0_0 : PySem.W.subIn K (.ref C0) (.ref C0) = some true)
    (s0_1 : PySem.W.subIn K (.ref C0) (.ref C1) = some false)
    (s0_2 : PySem.W.subIn K (.ref C0) (.ref C2) = some false)
    (s0_3 : PySem.W.subIn K (.ref C0) (.ref C3) = some false)
    (s0_4 : PySem.W.subIn K (.ref C0) (.ref C4) = some false)
    (s0_5 : PySem.W.subIn K (.ref C0) (.ref C5) = some false)
    (s0_6 : PySem.W.subIn K (.ref C0) (.ref C6) = some false)
    (s0_7 : PySem.W.subIn K (.ref C0) (.ref C7) = some false)
    (s0_8 : PySem.W.subIn K (.ref C0) (.ref C8) = some false)
    (s0_9 : PySem.W.subIn K (.ref C0) (.ref C9) = some false)
    (s0_10 : PySem.W.subIn K (.ref C0) (.ref C10) = some false)
    (s0_11 : PySem.W.subIn K (.ref C0) (.ref C11) = some false)
    (s1_0 : PySem.W.subIn K (.ref C1) (.ref C0) = some true)
    (s1_1 : PySem.W.subIn K (.ref C1) (.ref C1) = some true)
    (s1_2 : PySem.W.subIn K (.ref C1) (.ref C2) = some false)
    (s1_3 : PySem.W.subIn K (.ref C1) (.ref C3) = some false)
    (s1_4 : PySem.W.subIn K (.ref C1) (.ref C4) = some false)
    (s1_5 : PySem.W.subIn K (.ref C1) (.ref C5) = some false)
    (s1_6 : PySem.W.subIn K (.ref C1) (.ref C6) = some false)
    (s1_7 : PySem.W.subIn K (.ref C1) (.ref C7) = some false)
    (s1_8 : PySem.W.subIn K (.ref C1) (.ref C8) = some false)
    (s1_9 : PySem.W.subIn K (.ref C1) (.ref C9) = some false)
    (s1_10 : PySem.W.subIn K (.ref C1) (.ref C10) = some false)
    (s1_11 : PySem.W.subIn K (.ref C1) (.ref C11) = some false)
    (s2_0 : PySem.W.subIn K (.ref C2) (.ref C0) = some true)
    (s2_1 : PySem.W.subIn K (.ref C2) (.ref C1) = some false)
    (s2_2 : PySem.W.subIn K (.ref C2) (.ref C2) = some true)
    (s2_3 : PySem.W.subIn K (.ref C2) (.ref C3) = some false)
    (s2_4 : PySem.W.subIn K (.ref C2) (.ref C4) = some false)
    (s2_5 : PySem.W.subIn K (.ref C2) (.ref C5) = some false)
    (s2_6 : PySem.W.subIn K (.ref C2) (.ref C6) = some false)
    (s2_7 : PySem.W.subIn K (.ref C2) (.ref C7) = some false)
    (s2_8 : PySem.W.subIn K (.ref C2) (.ref C8) = some false)
    (s2_9 : PySem.W.subIn K (.ref C2) (.ref C9) = some false)
    (s2_10 : PySem.W.subIn K (.ref C2) (.ref C10) = some false)
    (s2_11 : PySem.W.subIn K (.ref C2) (.ref C11) = some false)
    (s3_0 : PySem.W.subIn K (.ref C3) (.ref C0) = some true)
    (s3_1 : PySem.W.subIn K (.ref C3) (.ref C1) = some false)
    (s3_2 : PySem.W.subIn K (.ref C3) (.ref C2) = some false)
    (s3_3 : PySem.W.subIn K (.ref C3) (.ref C3) = some true)
    (s3_4 : PySem.W.subIn K (.ref C3) (.ref C4) = some false)
    (s3_5 : PySem.W.subIn K (.ref C3) (.ref C5) = some false)
    (s3_6 : PySem.W.subIn K (.ref C3) (.ref C6) = some false)
    (s3_7 : PySem.W.subIn K (.ref C3) (.ref C7) = some false)
    (s3_8 : PySem.W.subIn K (.ref C3) (.ref C8) = some false)
    (s3_9 : PySem.W.subIn K (.ref C3) (.ref C9) = some false)
    (s3_10 : PySem.W.subIn K (.ref C3) (.ref C10) = some false)
    (s3_11 : PySem.W.subIn K (.ref C3) (.ref C11) = some false)
    (s4_0 : PySem.W.subIn K (.ref C4) (.ref C0) = some true)
    (s4_1 : PySem.W.subIn K (.ref C4) (.ref C1) = some false)
    (s4_2 : PySem.W.subIn K (.ref C4) (.ref C2) = some false)
    (s4_3 : PySem.W.subIn K (.ref C4) (.ref C3) = some false)
    (s4_4 : PySem.W.subIn K (.ref C4) (.ref C4) = some true)
    (s4_5 : PySem.W.subIn K (.ref C4) (.ref C5) = some false)
    (s4_6 : PySem.W.subIn K (.ref C4) (.ref C6) = some false)
    (s4_7 : PySem.W.subIn K (.ref C4) (.ref C7) = some false)
    (s4_8 : PySem.W.subIn K (.ref C4) (.ref C8) = some false)
    (s4_9 : PySem.W.subIn K (.ref C4) (.ref C9) = some false)
    (s4_10 : PySem.W.subIn K (.ref C4) (.ref C10) = some false)
    (s4_11 : PySem.W.subIn K (.ref C4) (.ref C11) = some false)
    (s5_0 : PySem.W.subIn K (.ref C5) (.ref C0) = some true)
    (s5_1 : PySem.W.subIn K (.ref C5) (.ref C1) = some false)
    (s5_2 : PySem.W.subIn K (.ref C5) (.ref C2) = some false)
    (s5_3 : PySem.W.subIn K (.ref C5) (.ref C3) = some false)
    (s5_4 : PySem.W.subIn K (.ref C5) (.ref C4) = some false)
    (s5_5 : PySem.W.subIn K (.ref C5) (.ref C5) = some true)
    (s5_6 : PySem.W.subIn K (.ref C5) (.ref C6) = some false)
    (s5_7 : PySem.W.subIn K (.ref C5) (.ref C7) = some false)
    (s5_8 : PySem.W.subIn K (.ref C5) (.ref C8) = some false)
    (s5_9 : PySem.W.subIn K (.ref C5) (.ref C9) = some false)
    (s5_10 : PySem.W.subIn K (.ref C5) (.ref C10) = some false)
    (s5_11 : PySem.W.subIn K (.ref C5) (.ref C11) = some false)
    (s6_0 : PySem.W.subIn K (.ref C6) (.ref C0) = some true)
    (s6_1 : PySem.W.subIn K (.ref C6) (.ref C1) = some false)
    (s6_2 : PySem.W.subIn K (.ref C6) (.ref C2) = some false)
    (s6_3 : PySem.W.subIn K (.ref C6) (.ref C3) = some false)
    (s6_4 : PySem.W.subIn K (.ref C6) (.ref C4) = some false)
    (s6_5 : PySem.W.subIn K (.ref C6) (.ref C5) = some false)
    (s6_6 : PySem.W.subIn K (.ref C6) (.ref C6) = some true)
    (s6_7 : PySem.W.subIn K (.ref C6) (.ref C7) = some false)
    (s6_8 : PySem.W.subIn K (.ref C6) (.ref C8) = some false)
    (s6_9 : PySem.W.subIn K (.ref C6) (.ref C9) = some false)
    (s6_10 : PySem.W.subIn K (.ref C6) (.ref C10) = some false)
    (s6_11 : PySem.W.subIn K (.ref C6) (.ref C11) = some false)
    (s7_0 : PySem.W.subIn K (.ref C7) (.ref C0) = some true)
    (s7_1 : PySem.W.subIn K (.ref C7) (.ref C1) = some false)
    (s7_2 : PySem.W.subIn K (.ref C7) (.ref C2) = some false)
    (s7_3 : PySem.W.subIn K (.ref C7) (.ref C3) = some false)
    (s7_4 : PySem.W.subIn K (.ref C7) (.ref C4) = some false)
    (s7_5 : PySem.W.subIn K (.ref C7) (.ref C5) = some false)
    (s7_6 : PySem.W.subIn K (.ref C7) (.ref C6) = some false)
    (s7_7 : PySem.W.subIn K (.ref C7) (.ref C7) = some true)
    (s7_8 : PySem.W.subIn K (.ref C7) (.ref C8) = some false)
    (s7_9 : PySem.W.subIn K (.ref C7) (.ref C9) = some false)
    (s7_10 : PySem.W.subIn K (.ref C7) (.ref C10) = some false)
    (s7_11 : PySem.W.subIn K (.ref C7) (.ref C11) = some false)
    (s8_0 : PySem.W.subIn K (.ref C8) (.ref C0) = some true)
    (s8_1 : PySem.W.subIn K (.ref C8) (.ref C1) = some false)
    (s8_2 : PySem.W.subIn K (.ref C8) (.ref C2) = some false)
    (s8_3 : PySem.W.subIn K (.ref C8) (.ref C3) = some false)
    (s8_4 : PySem.W.subIn K (.ref C8) (.ref C4) = some false)
    (s8_5 : PySem.W.subIn K (.ref C8) (.ref C5) = some false)
    (s8_6 : PySem.W.subIn K (.ref C8) (.ref C6) = some false)
    (s8_7 : PySem.W.subIn K (.ref C8) (.ref C7) = some false)
    (s8_8 : PySem.W.subIn K (.ref C8) (.ref C8) = some true)
    (s8_9 : PySem.W.subIn K (.ref C8) (.ref C9) = some false)
    (s8_10 : PySem.W.subIn K (.ref C8) (.ref C10) = some false)
    (s8_11 : PySem.W.subIn K (.ref C8) (.ref C11) = some false)
    (s9_0 : PySem.W.subIn K (.ref C9) (.ref C0) = some true)
    (s9_1 : PySem.W.subIn K (.ref C9) (.ref C1) = some false)
    (s9_2 : PySem.W.subIn K (.ref C9) (.ref C2) = some false)
    (s9_3 : PySem.W.subIn K (.ref C9) (.ref C3) = some false)
    (s9_4 : PySem.W.subIn K (.ref C9) (.ref C4) = some false)
    (s9_5 : PySem.W.subIn K (.ref C9) (.ref C5) = some false)
    (s9_6 : PySem.W.subIn K (.ref C9) (.ref C6) = some false)
    (s9_7 : PySem.W.subIn K (.ref C9) (.ref C7) = some false)
    (s9_8 : PySem.W.subIn K (.ref C9) (.ref C8) = some false)
    (s9_9 : PySem.W.subIn K (.ref C9) (.ref C9) = some true)
    (s9_10 : PySem.W.subIn K (.ref C9) (.ref C10) = some false)
    (s9_11 : PySem.W.subIn K (.ref C9) (.ref C11) = some false)
    (s10_0 : PySem.W.subIn K (.ref C10) (.ref C0) = some true)
    (s10_1 : PySem.W.subIn K (.ref C10) (.ref C1) = some false)
    (s10_2 : PySem.W.subIn K (.ref C10) (.ref C2) = some false)
    (s10_3 : PySem.W.subIn K (.ref C10) (.ref C3) = some false)
    (s10_4 : PySem.W.subIn K (.ref C10) (.ref C4) = some false)
    (s10_5 : PySem.W.subIn K (.ref C10) (.ref C5) = some false)
    (s10_6 : PySem.W.subIn K (.ref C10) (.ref C6) = some false)
    (s10_7 : PySem.W.subIn K (.ref C10) (.ref C7) = some false)
    (s10_8 : PySem.W.subIn K (.ref C10) (.ref C8) = some false)
    (s10_9 : PySem.W.subIn K (.ref C10) (.ref C9) = some false)
    (s10_10 : PySem.W.subIn K (.ref C10) (.ref C10) = some true)
    (s10_11 : PySem.W.subIn K (.ref C10) (.ref C11) = some false)
    (s11_0 : PySem.W.subIn K (.ref C11) (.ref C0) = some true)
    (s11_1 : PySem.W.subIn K (.ref C11) (.ref C1) = some false)
    (s11_2 : PySem.W.subIn K (.ref C11) (.ref C2) = some false)
    (s11_3 : PySem.W.subIn K (.ref C11) (.ref C3) = some false)
    (s11_4 : PySem.W.subIn K (.ref C11) (.ref C4) = some false)
    (s11_5 : PySem.W.subIn K (.ref C11) (.ref C5) = some false)
    (s11_6 : PySem.W.subIn K (.ref C11) (.ref C6) = some false)
    (s11_7 : PySem.W.subIn K (.ref C11) (.ref C7) = some false)
    (s11_8 : PySem.W.subIn K (.ref C11) (.ref C8) = some false)
    (s11_9 : PySem.W.subIn K (.ref C11) (.ref C9) = some false)
    (s11_10 : PySem.W.subIn K (.ref C11) (.ref C10) = some false)
    (s11_11 : PySem.W.subIn K (.ref C11) (.ref C11) = some true)
    (g_MOST_POINTS : PySem.W.nsIn K mainGlobals "MOST_POINTS" = some (some (.int 12 tk_MOST_POINTS)))
    (g_MOST_GENERATORS : PySem.W.nsIn K mainGlobals "MOST_GENERATORS" = some (some (.int 66 tk_MOST_GENERATORS)))
    (z_len : PySem.W.nsIn K mainGlobals "len" = some none)
    (z_list : PySem.W.nsIn K mainGlobals "list" = some none)
    (z_tuple : PySem.W.nsIn K mainGlobals "tuple" = some none)
    (z_range : PySem.W.nsIn K mainGlobals "range" = some none)
    (z_enumerate : PySem.W.nsIn K mainGlobals "enumerate" = some none)
    (z_reversed : PySem.W.nsIn K mainGlobals "reversed" = some none)
    (z_zip : PySem.W.nsIn K mainGlobals "zip" = some none)
    (z_isinstance : PySem.W.nsIn K mainGlobals "isinstance" = some none)
    (z_sorted : PySem.W.nsIn K mainGlobals "sorted" = some none)
    (z_sum : PySem.W.nsIn K mainGlobals "sum" = some none)
    (z_min : PySem.W.nsIn K mainGlobals "min" = some none)
    (z_max : PySem.W.nsIn K mainGlobals "max" = some none)
    (z_abs : PySem.W.nsIn K mainGlobals "abs" = some none)
    (z_all : PySem.W.nsIn K mainGlobals "all" = some none)
    (z_any : PySem.W.nsIn K mainGlobals "any" = some none)
    (z_str : PySem.W.nsIn K mainGlobals "str" = some none)
    (z_int : PySem.W.nsIn K mainGlobals "int" = some none)
    (z_dict : PySem.W.nsIn K mainGlobals "dict" = some none)
    (z_set : PySem.W.nsIn K mainGlobals "set" = some none)
    (z_bool : PySem.W.nsIn K mainGlobals "bool" = some none)
    (z_ValueError : PySem.W.nsIn K mainGlobals "ValueError" = some none)
    (a0 : PySem.W.nsIn K mainGlobals "is_whole" = some (some (.ref f0)))
    (l0 : K.lookup f0 = some ⟨oc0, od0, .func (PySem.W.fnOf "is_whole" "is_whole" (defArgs t_is_whole) (defBody t_is_whole) (defScope t_is_whole) .none kV0 dc0 pm0 an0 cd0 ct0), sl0⟩)
    (c0 : PySem.W.codeIn K cd0 "is_whole" = true)
    (k0 : PySem.W.keepIn K (.ref f0) = true)
    (a1 : PySem.W.nsIn K mainGlobals "is_turn" = some (some (.ref f1)))
    (l1 : K.lookup f1 = some ⟨oc1, od1, .func (PySem.W.fnOf "is_turn" "is_turn" (defArgs t_is_turn) (defBody t_is_turn) (defScope t_is_turn) .none kV1 dc1 pm1 an1 cd1 ct1), sl1⟩)
    (c1 : PySem.W.codeIn K cd1 "is_turn" = true)
    (k1 : PySem.W.keepIn K (.ref f1) = true)
    (a2 : PySem.W.nsIn K mainGlobals "need_turn" = some (some (.ref f2)))
    (l2 : K.lookup f2 = some ⟨oc2, od2, .func (PySem.W.fnOf "need_turn" "need_turn" (defArgs t_need_turn) (defBody t_need_turn) (defScope t_need_turn) .none kV2 dc2 pm2 an2 cd2 ct2), sl2⟩)
    (c2 : PySem.W.codeIn K cd2 "need_turn" = true)
    (k2 : PySem.W.keepIn K (.ref f2) = true)
    (a3 : PySem.W.nsIn K mainGlobals "still" = some (some (.ref f3)))
    (l3 : K.lookup f3 = some ⟨oc3, od3, .func (PySem.W.fnOf "still" "still" (defArgs t_still) (defBody t_still) (defScope t_still) .none kV3 dc3 pm3 an3 cd3 ct3), sl3⟩)
    (c3 : PySem.W.codeIn K cd3 "still" = true)
    (k3 : PySem.W.keepIn K (.ref f3) = true)
    (a4 : PySem.W.nsIn K mainGlobals "back" = some (some (.ref f4)))
    (l4 : K.lookup f4 = some ⟨oc4, od4, .func (PySem.W.fnOf "back" "back" (defArgs t_back) (defBody t_back) (defScope t_back) .none kV4 dc4 pm4 an4 cd4 ct4), sl4⟩)
    (c4 : PySem.W.codeIn K cd4 "back" = true)
    (k4 : PySem.W.keepIn K (.ref f4) = true)
    (a5 : PySem.W.nsIn K mainGlobals "need_point" = some (some (.ref f5)))
    (l5 : K.lookup f5 = some ⟨oc5, od5, .func (PySem.W.fnOf "need_point" "need_point" (defArgs t_need_point) (defBody t_need_point) (defScope t_need_point) .none kV5 dc5 pm5 an5 cd5 ct5), sl5⟩)
    (c5 : PySem.W.codeIn K cd5 "need_point" = true)
    (k5 : PySem.W.keepIn K (.ref f5) = true)
    (a6 : PySem.W.nsIn K mainGlobals "letters_of" = some (some (.ref f6)))
    (l6 : K.lookup f6 = some ⟨oc6, od6, .func (PySem.W.fnOf "letters_of" "letters_of" (defArgs t_letters_of) (defBody t_letters_of) (defScope t_letters_of) .none kV6 dc6 pm6 an6 cd6 ct6), sl6⟩)
    (c6 : PySem.W.codeIn K cd6 "letters_of" = true)
    (k6 : PySem.W.keepIn K (.ref f6) = true)
    (a7 : PySem.W.nsIn K mainGlobals "words_from" = some (some (.ref f7)))
    (l7 : K.lookup f7 = some ⟨oc7, od7, .func (PySem.W.fnOf "words_from" "words_from" (defArgs t_words_from) (defBody t_words_from) (defScope t_words_from) .none kV7 dc7 pm7 an7 cd7 ct7), sl7⟩)
    (c7 : PySem.W.codeIn K cd7 "words_from" = true)
    (k7 : PySem.W.keepIn K (.ref f7) = true)
    (a8 : PySem.W.nsIn K mainGlobals "way" = some (some (.ref f8)))
    (l8 : K.lookup f8 = some ⟨oc8, od8, .func (PySem.W.fnOf "way" "way" (defArgs t_way) (defBody t_way) (defScope t_way) .none kV8 dc8 pm8 an8 cd8 ct8), sl8⟩)
    (c8 : PySem.W.codeIn K cd8 "way" = true)
    (k8 : PySem.W.keepIn K (.ref f8) = true)
    (a9 : PySem.W.nsIn K mainGlobals "_law_mixed" = some (some (.ref f9)))
    (l9 : K.lookup f9 = some ⟨oc9, od9, .func (PySem.W.fnOf "_law_mixed" "_law_mixed" (defArgs t__law_mixed) (defBody t__law_mixed) (defScope t__law_mixed) .none kV9 dc9 pm9 an9 cd9 ct9), sl9⟩)
    (c9 : PySem.W.codeIn K cd9 "_law_mixed" = true)
    (k9 : PySem.W.keepIn K (.ref f9) = true)
    (a10 : PySem.W.nsIn K mainGlobals "_law_seed" = some (some (.ref f10)))
    (l10 : K.lookup f10 = some ⟨oc10, od10, .func (PySem.W.fnOf "_law_seed" "_law_seed" (defArgs t__law_seed) (defBody t__law_seed) (defScope t__law_seed) .none kV10 dc10 pm10 an10 cd10 ct10), sl10⟩)
    (c10 : PySem.W.codeIn K cd10 "_law_seed" = true)
    (k10 : PySem.W.keepIn K (.ref f10) = true)
    (a11 : PySem.W.nsIn K mainGlobals "_law_turn" = some (some (.ref f11)))
    (l11 : K.lookup f11 = some ⟨oc11, od11, .func (PySem.W.fnOf "_law_turn" "_law_turn" (defArgs t__law_turn) (defBody t__law_turn) (defScope t__law_turn) .none kV11 dc11 pm11 an11 cd11 ct11), sl11⟩)
    (c11 : PySem.W.codeIn K cd11 "_law_turn" = true)
    (k11 : PySem.W.keepIn K (.ref f11) = true)
    (a12 : PySem.W.nsIn K mainGlobals "_law_made" = some (some (.ref f12)))
    (l12 : K.lookup f12 = some ⟨oc12, od12, .func (PySem.W.fnOf "_law_made" "_law_made" (defArgs t__law_made) (defBody t__law_made) (defScope t__law_made) .none kV12 dc12 pm12 an12 cd12 ct12), sl12⟩)
    (c12 : PySem.W.codeIn K cd12 "_law_made" = true)
    (k12 : PySem.W.keepIn K (.ref f12) = true)
    (a13 : PySem.W.nsIn K mainGlobals "_law_letters" = some (some (.ref f13)))
    (l13 : K.lookup f13 = some ⟨oc13, od13, .func (PySem.W.fnOf "_law_letters" "_law_letters" (defArgs t__law_letters) (defBody t__law_letters) (defScope t__law_letters) .none kV13 dc13 pm13 an13 cd13 ct13), sl13⟩)
    (c13 : PySem.W.codeIn K cd13 "_law_letters" = true)
    (k13 : PySem.W.keepIn K (.ref f13) = true)
    (a14 : PySem.W.nsIn K mainGlobals "_law_far" = some (some (.ref f14)))
    (l14 : K.lookup f14 = some ⟨oc14, od14, .func (PySem.W.fnOf "_law_far" "_law_far" (defArgs t__law_far) (defBody t__law_far) (defScope t__law_far) .none kV14 dc14 pm14 an14 cd14 ct14), sl14⟩)
    (c14 : PySem.W.codeIn K cd14 "_law_far" = true)
    (k14 : PySem.W.keepIn K (.ref f14) = true)
    (a15 : PySem.W.nsIn K mainGlobals "_law_due" = some (some (.ref f15)))
    (l15 : K.lookup f15 = some ⟨oc15, od15, .func (PySem.W.fnOf "_law_due" "_law_due" (defArgs t__law_due) (defBody t__law_due) (defScope t__law_due) .none kV15 dc15 pm15 an15 cd15 ct15), sl15⟩)
    (c15 : PySem.W.codeIn K cd15 "_law_due" = true)
    (k15 : PySem.W.keepIn K (.ref f15) = true)
    (a16 : PySem.W.nsIn K mainGlobals "_law_same" = some (some (.ref f16)))
    (l16 : K.lookup f16 = some ⟨oc16, od16, .func (PySem.W.fnOf "_law_same" "_law_same" (defArgs t__law_same) (defBody t__law_same) (defScope t__law_same) .none kV16 dc16 pm16 an16 cd16 ct16), sl16⟩)
    (c16 : PySem.W.codeIn K cd16 "_law_same" = true)
    (k16 : PySem.W.keepIn K (.ref f16) = true)
    (a17 : PySem.W.nsIn K mainGlobals "_law_word" = some (some (.ref f17)))
    (l17 : K.lookup f17 = some ⟨oc17, od17, .func (PySem.W.fnOf "_law_word" "_law_word" (defArgs t__law_word) (defBody t__law_word) (defScope t__law_word) .none kV17 dc17 pm17 an17 cd17 ct17), sl17⟩)
    (c17 : PySem.W.codeIn K cd17 "_law_word" = true)
    (k17 : PySem.W.keepIn K (.ref f17) = true)
    (a18 : PySem.W.nsIn K mainGlobals "law" = some (some (.ref f18)))
    (l18 : K.lookup f18 = some ⟨oc18, od18, .func (PySem.W.fnOf "law" "law" (defArgs t_law) (defBody t_law) (defScope t_law) .none kV18 dc18 pm18 an18 (.ref ca) ct18), sl18⟩)
    (c18 : PySem.W.codeIn K (.ref ca) "law" = true)
    (k18 : PySem.W.keepIn K (.ref f18) = true)
    (y1 : K.lookup ca = some ⟨ce, cdd, .fields cvs, csl⟩)
    (y2 : cvs[11]? = some (.ref Pt))
    (y3 : K.lookup Pt = none)
    (y4 : PySem.W.codeHdIn K ca Pt = true)
    (qC : PySem.W.nsIn K mainGlobals "Group" = some (some (.ref CG)))
    (a19 : PySem.W.findIn K (.ref CG) "__init__" = some (some (.ref f19)))
    (i19 : PySem.W.isFn K (.ref f19) = true)
    (l19 : K.lookup f19 = some ⟨oc19, od19, .func (PySem.W.fnOf "__init__" "Group.__init__" (defArgs t_Group) (defBody t_Group) (defScope t_Group) .none kV19 dc19 pm19 an19 cd19 ct19), sl19⟩)
    (c19 : PySem.W.codeIn K cd19 "Group.__init__" = true)
    (k19 : PySem.W.keepIn K (.ref f19) = true)
    (a20 : PySem.W.findIn K (.ref CG) "many" = some (some (.ref f20)))
    (i20 : PySem.W.isFn K (.ref f20) = true)
    (l20 : K.lookup f20 = some ⟨oc20, od20, .func (PySem.W.fnOf "many" "Group.many" (defArgs t_Group_many) (defBody t_Group_many) (defScope t_Group_many) .none kV20 dc20 pm20 an20 cd20 ct20), sl20⟩)
    (c20 : PySem.W.codeIn K cd20 "Group.many" = true)
    (k20 : PySem.W.keepIn K (.ref f20) = true)
    (a21 : PySem.W.findIn K (.ref CG) "generators" = some (some (.ref f21)))
    (i21 : PySem.W.isFn K (.ref f21) = true)
    (l21 : K.lookup f21 = some ⟨oc21, od21, .func (PySem.W.fnOf "generators" "Group.generators" (defArgs t_Group_generators) (defBody t_Group_generators) (defScope t_Group_generators) .none kV21 dc21 pm21 an21 cd21 ct21), sl21⟩)
    (c21 : PySem.W.codeIn K cd21 "Group.generators" = true)
    (k21 : PySem.W.keepIn K (.ref f21) = true)
    (qpg : PySem.W.plainGet K CG Str.empty = true)
    (qhd : PySem.W.hasDictIn K CG = true)
    (qpo : PySem.W.plainOver K CG = true)
    (qsa : PySem.W.findIn K (.ref CG) "__setattr__" = some (some (.builtin "object.__setattr__")))
    (qmk : PySem.W.makesIn K CG = true)
    (qkc : PySem.W.keepIn K (.ref CG) = true)
    (qnA : PySem.W.findIn K (.ref CG) "amount" = some none)
    (qnM : PySem.W.findIn K (.ref CG) "makers" = some none)
    : ∃ (fd : FuncData) (T : TabL), (∀ (s : Shared) (v : Value), BindsTo s fd ⟨[v], []⟩ [("_law_script", v)]) ∧ (∀ t ∈ T, h.get? t.2.1 = some { cls := .none, data := .fields #[] }) ∧ (∀ t ∈ T, K.lookup t.2.1 = none) ∧ (∀ t ∈ T, PySem.W.CodeHd h t.1 t.2.1) ∧ ∀ base : Heap, K.In base → base.Ns mainGlobals mg → (∀ t ∈ T, LamX.TabB base mg t.1 t.2.1) → FnOk P w K mg base (L2.CX P w) 10 fa fd ["_law_script"] (spLawT K T) := by
  have e := hfa.symm.trans (PySem.W.mg_of X N a18)
  cases e
  let G : VS.Ctx := ⟨K, fun i => [C0, C1, C2, C3, C4, C5, C6, C7, C8, C9, C10, C11].getD i CG, fun i => V.ref (([] : List Addr).getD i 0), [0, 1, 2, 3, 4, 5, 6, 7, 8, 9, 10, 11], [(Pt, ("law" : Str) ++ ".<locals>." ++ "<lambda>")], fun _ => none, fun _ => none⟩
  have T : Txt K mg G :=
    { hK := rfl
      ge := rfl
      nb := all_cons (PySem.W.mg_none_of X N z_len) (all_cons (PySem.W.mg_none_of X N z_list) (all_cons (PySem.W.mg_none_of X N z_tuple) (all_cons (PySem.W.mg_none_of X N z_range) (all_cons (PySem.W.mg_none_of X N z_enumerate) (all_cons (PySem.W.mg_none_of X N z_reversed) (all_cons (PySem.W.mg_none_of X N z_zip) (all_cons (PySem.W.mg_none_of X N z_isinstance) (all_cons (PySem.W.mg_none_of X N z_sorted) (all_cons (PySem.W.mg_none_of X N z_sum) (all_cons (PySem.W.mg_none_of X N z_min) (all_cons (PySem.W.mg_none_of X N z_max) (all_cons (PySem.W.mg_none_of X N z_abs) (all_cons (PySem.W.mg_none_of X N z_all) (all_cons (PySem.W.mg_none_of X N z_any) (all_cons (PySem.W.mg_none_of X N z_str) (all_cons (PySem.W.mg_none_of X N z_int) (all_cons (PySem.W.mg_none_of X N z_dict) (all_cons (PySem.W.mg_none_of X N z_set) (all_cons (PySem.W.mg_none_of X N z_bool) (all_cons (PySem.W.mg_none_of X N z_ValueError) (all_nil)))))))))))))))))))))
      er := ⟨en, et, all_cons ⟨PySem.W.mg_of X N eg0, ex0, ek0, ea0, eb0, ed0, ec0⟩ (all_cons ⟨PySem.W.mg_of X N eg1, ex1, ek1, ea1, eb1, ed1, ec1⟩ (all_cons ⟨PySem.W.mg_of X N eg2, ex2, ek2, ea2, eb2, ed2, ec2⟩ (all_cons ⟨PySem.W.mg_of X N eg3, ex3, ek3, ea3, eb3, ed3, ec3⟩ (all_cons ⟨PySem.W.mg_of X N eg4, ex4, ek4, ea4, eb4, ed4, ec4⟩ (all_cons ⟨PySem.W.mg_of X N eg5, ex5, ek5, ea5, eb5, ed5, ec5⟩ (all_cons ⟨PySem.W.mg_of X N eg6, ex6, ek6, ea6, eb6, ed6, ec6⟩ (all_cons ⟨PySem.W.mg_of X N eg7, ex7, ek7, ea7, eb7, ed7, ec7⟩ (all_cons ⟨PySem.W.mg_of X N eg8, ex8, ek8, ea8, eb8, ed8, ec8⟩ (all_cons ⟨PySem.W.mg_of X N eg9, ex9, ek9, ea9, eb9, ed9, ec9⟩ (all_cons ⟨PySem.W.mg_of X N eg10, ex10, ek10, ea10, eb10, ed10, ec10⟩ (all_cons ⟨PySem.W.mg_of X N eg11, ex11, ek11, ea11, eb11, ed11, ec11⟩ (all_nil)))))))))))), all_cons (all_cons s0_0 (all_cons s0_1 (all_cons s0_2 (all_cons s0_3 (all_cons s0_4 (all_cons s0_5 (all_cons s0_6 (all_cons s0_7 (all_cons s0_8 (all_cons s0_9 (all_cons s0_10 (all_cons s0_11 (all_nil))))))))))))) (all_cons (all_cons s1_0 (all_cons s1_1 (all_cons s1_2 (all_cons s1_3 (all_cons s1_4 (all_cons s1_5 (all_cons s1_6 (all_cons s1_7 (all_cons s1_8 (all_cons s1_9 (all_cons s1_10 (all_cons s1_11 (all_nil))))))))))))) (all_cons (all_cons s2_0 (all_cons s2_1 (all_cons s2_2 (all_cons s2_3 (all_cons s2_4 (all_cons s2_5 (all_cons s2_6 (all_cons s2_7 (all_cons s2_8 (all_cons s2_9 (all_cons s2_10 (all_cons s2_11 (all_nil))))))))))))) (all_cons (all_cons s3_0 (all_cons s3_1 (all_cons s3_2 (all_cons s3_3 (all_cons s3_4 (all_cons s3_5 (all_cons s3_6 (all_cons s3_7 (all_cons s3_8 (all_cons s3_9 (all_cons s3_10 (all_cons s3_11 (all_nil))))))))))))) (all_cons (all_cons s4_0 (all_cons s4_1 (all_cons s4_2 (all_cons s4_3 (all_cons s4_4 (all_cons s4_5 (all_cons s4_6 (all_cons s4_7 (all_cons s4_8 (all_cons s4_9 (all_cons s4_10 (all_cons s4_11 (all_nil))))))))))))) (all_cons (all_cons s5_0 (all_cons s5_1 (all_cons s5_2 (all_cons s5_3 (all_cons s5_4 (all_cons s5_5 (all_cons s5_6 (all_cons s5_7 (all_cons s5_8 (all_cons s5_9 (all_cons s5_10 (all_cons s5_11 (all_nil))))))))))))) (all_cons (all_cons s6_0 (all_cons s6_1 (all_cons s6_2 (all_cons s6_3 (all_cons s6_4 (all_cons s6_5 (all_cons s6_6 (all_cons s6_7 (all_cons s6_8 (all_cons s6_9 (all_cons s6_10 (all_cons s6_11 (all_nil))))))))))))) (all_cons (all_cons s7_0 (all_cons s7_1 (all_cons s7_2 (all_cons s7_3 (all_cons s7_4 (all_cons s7_5 (all_cons s7_6 (all_cons s7_7 (all_cons s7_8 (all_cons s7_9 (all_cons s7_10 (all_cons s7_11 (all_nil))))))))))))) (all_cons (all_cons s8_0 (all_cons s8_1 (all_cons s8_2 (all_cons s8_3 (all_cons s8_4 (all_cons s8_5 (all_cons s8_6 (all_cons s8_7 (all_cons s8_8 (all_cons s8_9 (all_cons s8_10 (all_cons s8_11 (all_nil))))))))))))) (all_cons (all_cons s9_0 (all_cons s9_1 (all_cons s9_2 (all_cons s9_3 (all_cons s9_4 (all_cons s9_5 (all_cons s9_6 (all_cons s9_7 (all_cons s9_8 (all_cons s9_9 (all_cons s9_10 (all_cons s9_11 (all_nil))))))))))))) (all_cons (all_cons s10_0 (all_cons s10_1 (all_cons s10_2 (all_cons s10_3 (all_cons s10_4 (all_cons s10_5 (all_cons s10_6 (all_cons s10_7 (all_cons s10_8 (all_cons s10_9 (all_cons s10_10 (all_cons s10_11 (all_nil))))))))))))) (all_cons (all_cons s11_0 (all_cons s11_1 (all_cons s11_2 (all_cons s11_3 (all_cons s11_4 (all_cons s11_5 (all_cons s11_6 (all_cons s11_7 (all_cons s11_8 (all_cons s11_9 (all_cons s11_10 (all_cons s11_11 (all_nil))))))))))))) (all_nil))))))))))))⟩
      g_MOST_POINTS := ⟨_, PySem.W.mg_of X N g_MOST_POINTS⟩
      g_MOST_GENERATORS := ⟨_, PySem.W.mg_of X N g_MOST_GENERATORS⟩
      t_is_whole := ⟨_, _, PySem.W.mg_of X N a0, fun_mk (st := t_is_whole) l0 c0 k0, (fun_mk (st := t_is_whole) l0 c0 k0).binds (ps := p_is_whole) fun _ _ _ _ _ _ us hl => match us, hl with | [_], _ => rfl⟩
      t_is_turn := ⟨_, _, PySem.W.mg_of X N a1, fun_mk (st := t_is_turn) l1 c1 k1, (fun_mk (st := t_is_turn) l1 c1 k1).binds (ps := p_is_turn) fun _ _ _ _ _ _ us hl => match us, hl with | [_], _ => rfl⟩
      t_need_turn := ⟨_, _, PySem.W.mg_of X N a2, fun_mk (st := t_need_turn) l2 c2 k2, (fun_mk (st := t_need_turn) l2 c2 k2).binds (ps := p_need_turn) fun _ _ _ _ _ _ us hl => match us, hl with | [_], _ => rfl⟩
      t_still := ⟨_, _, PySem.W.mg_of X N a3, fun_mk (st := t_still) l3 c3 k3, (fun_mk (st := t_still) l3 c3 k3).binds (ps := p_still) fun _ _ _ _ _ _ us hl => match us, hl with | [_], _ => rfl⟩
      t_back := ⟨_, _, PySem.W.mg_of X N a4, fun_mk (st := t_back) l4 c4 k4, (fun_mk (st := t_back) l4 c4 k4).binds (ps := p_back) fun _ _ _ _ _ _ us hl => match us, hl with | [_], _ => rfl⟩
      t_need_point := ⟨_, _, PySem.W.mg_of X N a5, fun_mk (st := t_need_point) l5 c5 k5, (fun_mk (st := t_need_point) l5 c5 k5).binds (ps := p_need_point) fun _ _ _ _ _ _ us hl => match us, hl with | [_, _], _ => rfl⟩
      t_letters_of := ⟨_, _, PySem.W.mg_of X N a6, fun_mk (st := t_letters_of) l6 c6 k6, (fun_mk (st := t_letters_of) l6 c6 k6).binds (ps := p_letters_of) fun _ _ _ _ _ _ us hl => match us, hl with | [_], _ => rfl⟩
      t_words_from := ⟨_, _, PySem.W.mg_of X N a7, fun_mk (st := t_words_from) l7 c7 k7, (fun_mk (st := t_words_from) l7 c7 k7).binds (ps := p_words_from) fun _ _ _ _ _ _ us hl => match us, hl with | [_, _], _ => rfl⟩
      t_way := ⟨_, _, PySem.W.mg_of X N a8, fun_mk (st := t_way) l8 c8 k8, (fun_mk (st := t_way) l8 c8 k8).binds (ps := p_way) fun _ _ _ _ _ _ us hl => match us, hl with | [_, _, _], _ => rfl⟩
      t__law_mixed := ⟨_, _, PySem.W.mg_of X N a9, fun_mk (st := t__law_mixed) l9 c9 k9, (fun_mk (st := t__law_mixed) l9 c9 k9).binds (ps := p__law_mixed) fun _ _ _ _ _ _ us hl => match us, hl with | [_, _], _ => rfl⟩
      t__law_seed := ⟨_, _, PySem.W.mg_of X N a10, fun_mk (st := t__law_seed) l10 c10 k10, (fun_mk (st := t__law_seed) l10 c10 k10).binds (ps := p__law_seed) fun _ _ _ _ _ _ us hl => match us, hl with | [_], _ => rfl⟩
      t__law_turn := ⟨_, _, PySem.W.mg_of X N a11, fun_mk (st := t__law_turn) l11 c11 k11, (fun_mk (st := t__law_turn) l11 c11 k11).binds (ps := p__law_turn) fun _ _ _ _ _ _ us hl => match us, hl with | [_, _, _], _ => rfl⟩
      t__law_made := ⟨_, _, PySem.W.mg_of X N a12, fun_mk (st := t__law_made) l12 c12 k12, (fun_mk (st := t__law_made) l12 c12 k12).binds (ps := p__law_made) fun _ _ _ _ _ _ us hl => match us, hl with | [_, _], _ => rfl⟩
      t__law_letters := ⟨_, _, PySem.W.mg_of X N a13, fun_mk (st := t__law_letters) l13 c13 k13, (fun_mk (st := t__law_letters) l13 c13 k13).binds (ps := p__law_letters) fun _ _ _ _ _ _ us hl => match us, hl with | [_], _ => rfl⟩
      t__law_far := ⟨_, _, PySem.W.mg_of X N a14, fun_mk (st := t__law_far) l14 c14 k14, (fun_mk (st := t__law_far) l14 c14 k14).binds (ps := p__law_far) fun _ _ _ _ _ _ us hl => match us, hl with | [_, _], _ => rfl⟩
      t__law_due := ⟨_, _, PySem.W.mg_of X N a15, fun_mk (st := t__law_due) l15 c15 k15, (fun_mk (st := t__law_due) l15 c15 k15).binds (ps := p__law_due) fun _ _ _ _ _ _ us hl => match us, hl with | [_, _, _], _ => rfl⟩
      t__law_same := ⟨_, _, PySem.W.mg_of X N a16, fun_mk (st := t__law_same) l16 c16 k16, (fun_mk (st := t__law_same) l16 c16 k16).binds (ps := p__law_same) fun _ _ _ _ _ _ us hl => match us, hl with | [_, _], _ => rfl⟩
      t__law_word := ⟨_, _, PySem.W.mg_of X N a17, fun_mk (st := t__law_word) l17 c17 k17, (fun_mk (st := t__law_word) l17 c17 k17).binds (ps := p__law_word) fun _ _ _ _ _ _ us hl => match us, hl with | [_], _ => rfl⟩
      o_Group := ⟨⟨qpg, qhd, qpo, qsa⟩, PySem.W.mg_of X N qC, _, _, ⟨qmk, a19, i19, qkc⟩, fun_mk (st := t_Group) l19 c19 k19, (fun_mk (st := t_Group) l19 c19 k19).binds (ps := ["self", "many", "generators"]) fun _ _ _ _ _ _ us hl => match us, hl with | [_, _, _], _ => rfl⟩
      o_Group_many := ⟨_, _, ⟨a20, i20, k20⟩, fun_mk (st := t_Group_many) l20 c20 k20, (fun_mk (st := t_Group_many) l20 c20 k20).binds (ps := ["self"]) fun _ _ _ _ _ _ us hl => match us, hl with | [_], _ => rfl⟩
      o_Group_generators := ⟨_, _, ⟨a21, i21, k21⟩, fun_mk (st := t_Group_generators) l21 c21 k21, (fun_mk (st := t_Group_generators) l21 c21 k21).binds (ps := ["self"]) fun _ _ _ _ _ _ us hl => match us, hl with | [_], _ => rfl⟩
      nA := qnA
      nM := qnM
    }
  refine ⟨PySem.W.fnOf "law" "law" (defArgs t_law) (defBody t_law) (defScope t_law) .none kV18 dc18 pm18 an18 (.ref ca) ct18, [(ca, Pt, ("law" : Str) ++ ".<locals>." ++ "<lambda>")], fun s v => .of_eq rfl, all_cons ?_ all_nil, all_cons y3 all_nil, all_cons (PySem.W.codeHd_of_K X y4) all_nil, fun base _ _ tb => law_impT (d_law T (fun_mk (st := t_law) l18 c18 k18) rfl (tb _ List.mem_cons_self) rfl) rfl rfl rfl rfl law_m⟩
  exact own ca Pt _ _ ce cdd cvs csl l18 rfl rfl y1 y2
end K08

set_option Elab.async false
set_option linter.all false
set_option autoImplicit false
open PySem PySem.W PyProof.Rows in
set_option maxRecDepth 100000 in
set_option maxHeartbeats 0 in
theorem PySem.Challenge.cw_turnchain_k08_ways_holds : PySem.Challenge.rw_turnchain_k08_ways.Holds := by
  w_on; o_law; k_head; (case hw => w_witness2)
  k_fill
  refine VS.walkT (k := 10) (l := PySem.Challenge.rw_turnchain_k08_ways) ["law"] (by decide) rfl rfl (by decide +kernel) (fun w h Y => PySem.W.km_in_of Y) ?F
  case F =>
    intro w mg fa h KX G hmg own
    refine' K08.all_mk KX G hmg (own _ List.mem_cons_self _ hmg) ?eg0 ?ex0 ?ek0 ?ea0 ?eb0 ?ed0 ?ec0 ?eg1 ?ex1 ?ek1 ?ea1 ?eb1 ?ed1 ?ec1 ?eg2 ?ex2 ?ek2 ?ea2 ?eb2 ?ed2 ?ec2 ?eg3 ?ex3 ?ek3 ?ea3 ?eb3 ?ed3 ?ec3 ?eg4 ?ex4 ?ek4 ?ea4 ?eb4 ?ed4 ?ec4 ?eg5 ?ex5 ?ek5 ?ea5 ?eb5 ?ed5 ?ec5 ?eg6 ?ex6 ?ek6 ?ea6 ?eb6 ?ed6 ?ec6 ?eg7 ?ex7 ?ek7 ?ea7 ?eb7 ?ed7 ?ec7 ?eg8 ?ex8 ?ek8 ?ea8 ?eb8 ?ed8 ?ec8 ?eg9 ?ex9 ?ek9 ?ea9 ?eb9 ?ed9 ?ec9 ?eg10 ?ex10 ?ek10 ?ea10 ?eb10 ?ed10 ?ec10 ?eg11 ?ex11 ?ek11 ?ea11 ?eb11 ?ed11 ?ec11 ?en ?et ?s0_0 ?s0_1 ?s0_2 ?s0_3 ?s0_4 ?s0_5 ?s0_6 ?s0_7 ?s0_8 ?s0_9 ?s0_10 ?s0_11 ?s1_0 ?s1_1 ?s1_2 ?s1_3 ?s1_4 ?s1_5 ?s1_6 ?s1_7 ?s1_8 ?s1_9 ?s1_10 ?s1_11 ?s2_0 ?s2_1 ?s2_2 ?s2_3 ?s2_4 ?s2_5 ?s2_6 ?s2_7 ?s2_8 ?s2_9 ?s2_10 ?s2_11 ?s3_0 ?s3_1 ?s3_2 ?s3_3 ?s3_4 ?s3_5 ?s3_6 ?s3_7 ?s3_8 ?s3_9 ?s3_10 ?s3_11 ?s4_0 ?s4_1 ?s4_2 ?s4_3 ?s4_4 ?s4_5 ?s4_6 ?s4_7 ?s4_8 ?s4_9 ?s4_10 ?s4_11 ?s5_0 ?s5_1 ?s5_2 ?s5_3 ?s5_4 ?s5_5 ?s5_6 ?s5_7 ?s5_8 ?s5_9 ?s5_10 ?s5_11 ?s6_0 ?s6_1 ?s6_2 ?s6_3 ?s6_4 ?s6_5 ?s6_6 ?s6_7 ?s6_8 ?s6_9 ?s6_10 ?s6_11 ?s7_0 ?s7_1 ?s7_2 ?s7_3 ?s7_4 ?s7_5 ?s7_6 ?s7_7 ?s7_8 ?s7_9 ?s7_10 ?s7_11 ?s8_0 ?s8_1 ?s8_2 ?s8_3 ?s8_4 ?s8_5 ?s8_6 ?s8_7 ?s8_8 ?s8_9 ?s8_10 ?s8_11 ?s9_0 ?s9_1 ?s9_2 ?s9_3 ?s9_4 ?s9_5 ?s9_6 ?s9_7 ?s9_8 ?s9_9 ?s9_10 ?s9_11 ?s10_0 ?s10_1 ?s10_2 ?s10_3 ?s10_4 ?s10_5 ?s10_6 ?s10_7 ?s10_8 ?s10_9 ?s10_10 ?s10_11 ?s11_0 ?s11_1 ?s11_2 ?s11_3 ?s11_4 ?s11_5 ?s11_6 ?s11_7 ?s11_8 ?s11_9 ?s11_10 ?s11_11 ?g_MOST_POINTS ?g_MOST_GENERATORS ?z_len ?z_list ?z_tuple ?z_range ?z_enumerate ?z_reversed ?z_zip ?z_isinstance ?z_sorted ?z_sum ?z_min ?z_max ?z_abs ?z_all ?z_any ?z_str ?z_int ?z_dict ?z_set ?z_bool ?z_ValueError ?a0 ?l0 ?c0 ?k0 ?a1 ?l1 ?c1 ?k1 ?a2 ?l2 ?c2 ?k2 ?a3 ?l3 ?c3 ?k3 ?a4 ?l4 ?c4 ?k4 ?a5 ?l5 ?c5 ?k5 ?a6 ?l6 ?c6 ?k6 ?a7 ?l7 ?c7 ?k7 ?a8 ?l8 ?c8 ?k8 ?a9 ?l9 ?c9 ?k9 ?a10 ?l10 ?c10 ?k10 ?a11 ?l11 ?c11 ?k11 ?a12 ?l12 ?c12 ?k12 ?a13 ?l13 ?c13 ?k13 ?a14 ?l14 ?c14 ?k14 ?a15 ?l15 ?c15 ?k15 ?a16 ?l16 ?c16 ?k16 ?a17 ?l17 ?c17 ?k17 ?a18 ?l18 ?c18 ?k18 ?y1 ?y2 ?y3 ?y4 ?qC ?a19 ?i19 ?l19 ?c19 ?k19 ?a20 ?i20 ?l20 ?c20 ?k20 ?a21 ?i21 ?l21 ?c21 ?k21 ?qpg ?qhd ?qpo ?qsa ?qmk ?qkc ?qnA ?qnM
    (case eg0 => k_is)
    (case ex0 => k_exc)
    (case ek0 => k_is)
    (case ea0 => k_is)
    (case eb0 => k_is)
    (case ed0 => k_is)
    (case ec0 => k_is)
    (case eg1 => k_is)
    (case ex1 => k_exc)
    (case ek1 => k_is)
    (case ea1 => k_is)
    (case eb1 => k_is)
    (case ed1 => k_is)
    (case ec1 => k_is)
    (case eg2 => k_is)
    (case ex2 => k_exc)
    (case ek2 => k_is)
    (case ea2 => k_is)
    (case eb2 => k_is)
    (case ed2 => k_is)
    (case ec2 => k_is)
    (case eg3 => k_is)
    (case ex3 => k_exc)
    (case ek3 => k_is)
    (case ea3 => k_is)
    (case eb3 => k_is)
    (case ed3 => k_is)
    (case ec3 => k_is)
    (case eg4 => k_is)
    (case ex4 => k_exc)
    (case ek4 => k_is)
    (case ea4 => k_is)
    (case eb4 => k_is)
    (case ed4 => k_is)
    (case ec4 => k_is)
    (case eg5 => k_is)
    (case ex5 => k_exc)
    (case ek5 => k_is)
    (case ea5 => k_is)
    (case eb5 => k_is)
    (case ed5 => k_is)
    (case ec5 => k_is)
    (case eg6 => k_is)
    (case ex6 => k_exc)
    (case ek6 => k_is)
    (case ea6 => k_is)
    (case eb6 => k_is)
    (case ed6 => k_is)
    (case ec6 => k_is)
    (case eg7 => k_is)
    (case ex7 => k_exc)
    (case ek7 => k_is)
    (case ea7 => k_is)
    (case eb7 => k_is)
    (case ed7 => k_is)
    (case ec7 => k_is)
    (case eg8 => k_is)
    (case ex8 => k_exc)
    (case ek8 => k_is)
    (case ea8 => k_is)
    (case eb8 => k_is)
    (case ed8 => k_is)
    (case ec8 => k_is)
    (case eg9 => k_is)
    (case ex9 => k_exc)
    (case ek9 => k_is)
    (case ea9 => k_is)
    (case eb9 => k_is)
    (case ed9 => k_is)
    (case ec9 => k_is)
    (case eg10 => k_is)
    (case ex10 => k_exc)
    (case ek10 => k_is)
    (case ea10 => k_is)
    (case eb10 => k_is)
    (case ed10 => k_is)
    (case ec10 => k_is)
    (case eg11 => k_is)
    (case ex11 => k_exc)
    (case ek11 => k_is)
    (case ea11 => k_is)
    (case eb11 => k_is)
    (case ed11 => k_is)
    (case ec11 => k_is)
    (case en => k_is)
    (case et => k_is)
    (case s0_0 => k_is)
    (case s0_1 => k_is)
    (case s0_2 => k_is)
    (case s0_3 => k_is)
    (case s0_4 => k_is)
    (case s0_5 => k_is)
    (case s0_6 => k_is)
    (case s0_7 => k_is)
    (case s0_8 => k_is)
    (case s0_9 => k_is)
    (case s0_10 => k_is)
    (case s0_11 => k_is)
    (case s1_0 => k_is)
    (case s1_1 => k_is)
    (case s1_2 => k_is)
    (case s1_3 => k_is)
    (case s1_4 => k_is)
    (case s1_5 => k_is)
    (case s1_6 => k_is)
    (case s1_7 => k_is)
    (case s1_8 => k_is)
    (case s1_9 => k_is)
    (case s1_10 => k_is)
    (case s1_11 => k_is)
    (case s2_0 => k_is)
    (case s2_1 => k_is)
    (case s2_2 => k_is)
    (case s2_3 => k_is)
    (case s2_4 => k_is)
    (case s2_5 => k_is)
    (case s2_6 => k_is)
    (case s2_7 => k_is)
    (case s2_8 => k_is)
    (case s2_9 => k_is)
    (case s2_10 => k_is)
    (case s2_11 => k_is)
    (case s3_0 => k_is)
    (case s3_1 => k_is)
    (case s3_2 => k_is)
    (case s3_3 => k_is)
    (case s3_4 => k_is)
    (case s3_5 => k_is)
    (case s3_6 => k_is)
    (case s3_7 => k_is)
    (case s3_8 => k_is)
    (case s3_9 => k_is)
    (case s3_10 => k_is)
    (case s3_11 => k_is)
    (case s4_0 => k_is)
    (case s4_1 => k_is)
    (case s4_2 => k_is)
    (case s4_3 => k_is)
    (case s4_4 => k_is)
    (case s4_5 => k_is)
    (case s4_6 => k_is)
    (case s4_7 => k_is)
    (case s4_8 => k_is)
    (case s4_9 => k_is)
    (case s4_10 => k_is)
    (case s4_11 => k_is)
    (case s5_0 => k_is)
    (case s5_1 => k_is)
    (case s5_2 => k_is)
    (case s5_3 => k_is)
    (case s5_4 => k_is)
    (case s5_5 => k_is)
    (case s5_6 => k_is)
    (case s5_7 => k_is)
    (case s5_8 => k_is)
    (case s5_9 => k_is)
    (case s5_10 => k_is)
    (case s5_11 => k_is)
    (case s6_0 => k_is)
    (case s6_1 => k_is)
    (case s6_2 => k_is)
    (case s6_3 => k_is)
    (case s6_4 => k_is)
    (case s6_5 => k_is)
    (case s6_6 => k_is)
    (case s6_7 => k_is)
    (case s6_8 => k_is)
    (case s6_9 => k_is)
    (case s6_10 => k_is)
    (case s6_11 => k_is)
    (case s7_0 => k_is)
    (case s7_1 => k_is)
    (case s7_2 => k_is)
    (case s7_3 => k_is)
    (case s7_4 => k_is)
    (case s7_5 => k_is)
    (case s7_6 => k_is)
    (case s7_7 => k_is)
    (case s7_8 => k_is)
    (case s7_9 => k_is)
    (case s7_10 => k_is)
    (case s7_11 => k_is)
    (case s8_0 => k_is)
    (case s8_1 => k_is)
    (case s8_2 => k_is)
    (case s8_3 => k_is)
    (case s8_4 => k_is)
    (case s8_5 => k_is)
    (case s8_6 => k_is)
    (case s8_7 => k_is)
    (case s8_8 => k_is)
    (case s8_9 => k_is)
    (case s8_10 => k_is)
    (case s8_11 => k_is)
    (case s9_0 => k_is)
    (case s9_1 => k_is)
    (case s9_2 => k_is)
    (case s9_3 => k_is)
    (case s9_4 => k_is)
    (case s9_5 => k_is)
    (case s9_6 => k_is)
    (case s9_7 => k_is)
    (case s9_8 => k_is)
    (case s9_9 => k_is)
    (case s9_10 => k_is)
    (case s9_11 => k_is)
    (case s10_0 => k_is)
    (case s10_1 => k_is)
    (case s10_2 => k_is)
    (case s10_3 => k_is)
    (case s10_4 => k_is)
    (case s10_5 => k_is)
    (case s10_6 => k_is)
    (case s10_7 => k_is)
    (case s10_8 => k_is)
    (case s10_9 => k_is)
    (case s10_10 => k_is)
    (case s10_11 => k_is)
    (case s11_0 => k_is)
    (case s11_1 => k_is)
    (case s11_2 => k_is)
    (case s11_3 => k_is)
    (case s11_4 => k_is)
    (case s11_5 => k_is)
    (case s11_6 => k_is)
    (case s11_7 => k_is)
    (case s11_8 => k_is)
    (case s11_9 => k_is)
    (case s11_10 => k_is)
    (case s11_11 => k_is)
    (case g_MOST_POINTS => k_is)
    (case g_MOST_GENERATORS => k_is)
    (case z_len => k_is)
    (case z_list => k_is)
    (case z_tuple => k_is)
    (case z_range => k_is)
    (case z_enumerate => k_is)
    (case z_reversed => k_is)
    (case z_zip => k_is)
    (case z_isinstance => k_is)
    (case z_sorted => k_is)
    (case z_sum => k_is)
    (case z_min => k_is)
    (case z_max => k_is)
    (case z_abs => k_is)
    (case z_all => k_is)
    (case z_any => k_is)
    (case z_str => k_is)
    (case z_int => k_is)
    (case z_dict => k_is)
    (case z_set => k_is)
    (case z_bool => k_is)
    (case z_ValueError => k_is)
    (case a0 => k_is)
    (case l0 => k_is)
    (case c0 => k_is)
    (case k0 => k_is)
    (case a1 => k_is)
    (case l1 => k_is)
    (case c1 => k_is)
    (case k1 => k_is)
    (case a2 => k_is)
    (case l2 => k_is)
    (case c2 => k_is)
    (case k2 => k_is)
    (case a3 => k_is)
    (case l3 => k_is)
    (case c3 => k_is)
    (case k3 => k_is)
    (case a4 => k_is)
    (case l4 => k_is)
    (case c4 => k_is)
    (case k4 => k_is)
    (case a5 => k_is)
    (case l5 => k_is)
    (case c5 => k_is)
    (case k5 => k_is)
    (case a6 => k_is)
    (case l6 => k_is)
    (case c6 => k_is)
    (case k6 => k_is)
    (case a7 => k_is)
    (case l7 => k_is)
    (case c7 => k_is)
    (case k7 => k_is)
    (case a8 => k_is)
    (case l8 => k_is)
    (case c8 => k_is)
    (case k8 => k_is)
    (case a9 => k_is)
    (case l9 => k_is)
    (case c9 => k_is)
    (case k9 => k_is)
    (case a10 => k_is)
    (case l10 => k_is)
    (case c10 => k_is)
    (case k10 => k_is)
    (case a11 => k_is)
    (case l11 => k_is)
    (case c11 => k_is)
    (case k11 => k_is)
    (case a12 => k_is)
    (case l12 => k_is)
    (case c12 => k_is)
    (case k12 => k_is)
    (case a13 => k_is)
    (case l13 => k_is)
    (case c13 => k_is)
    (case k13 => k_is)
    (case a14 => k_is)
    (case l14 => k_is)
    (case c14 => k_is)
    (case k14 => k_is)
    (case a15 => k_is)
    (case l15 => k_is)
    (case c15 => k_is)
    (case k15 => k_is)
    (case a16 => k_is)
    (case l16 => k_is)
    (case c16 => k_is)
    (case k16 => k_is)
    (case a17 => k_is)
    (case l17 => k_is)
    (case c17 => k_is)
    (case k17 => k_is)
    (case a18 => k_is)
    (case l18 => k_is)
    (case c18 => k_is)
    (case k18 => k_is)
    (case y1 => k_is)
    (case y2 => first | rfl | k_is)
    (case y3 => kernel_rfl)
    (case y4 => kernel_rfl)
    (case qC => k_is)
    (case a19 => k_is)
    (case i19 => k_is)
    (case l19 => k_is)
    (case c19 => k_is)
    (case k19 => k_is)
    (case a20 => k_is)
    (case i20 => k_is)
    (case l20 => k_is)
    (case c20 => k_is)
    (case k20 => k_is)
    (case a21 => k_is)
    (case i21 => k_is)
    (case l21 => k_is)
    (case c21 => k_is)
    (case k21 => k_is)
    (case qpg => k_is)
    (case qhd => k_is)
    (case qpo => k_is)
    (case qsa => k_is)
    (case qmk => k_is)
    (case qkc => k_is)
    (case qnA => k_is)
    (case qnM => k_is)
#print axioms PySem.Challenge.cw_turnchain_k08_ways_holds

