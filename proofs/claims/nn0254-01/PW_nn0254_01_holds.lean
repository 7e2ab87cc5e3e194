import PyProof.Rows.All
import Wide.All
import Open.Line
import Wide.FinOn
import Lean
import PySem.Challenge.RW_nn0254_01
open PySem PySem.W PyProof.Rows
set_option Elab.async false
set_option maxRecDepth 100000
set_option maxHeartbeats 8000000
set_option linter.unusedVariables false

/-! the plain model: extended -/
namespace Mine
theorem fm_neg {a b : Int} (hb : b < 0) : b < a.fmod b ∧ a.fmod b ≤ 0 := by
  have h := Int.neg_fmod_neg (-a) (-b)
  simp only [Int.neg_neg] at h
  have h2 := Int.fmod_nonneg_of_pos (-a) (b := -b) (by omega)
  have h3 := Int.fmod_lt_of_pos (-a) (b := -b) (by omega)
  omega
theorem fm_pos {a b : Int} (hb : 0 < b) : 0 ≤ a.fmod b ∧ a.fmod b < b := ⟨Int.fmod_nonneg_of_pos a hb, Int.fmod_lt_of_pos a hb⟩
theorem fm_eq (a b : Int) : a - a.fdiv b * b = a.fmod b := by have := Int.mul_fdiv_add_fmod a b; rw [Int.mul_comm] at this; omega
noncomputable abbrev Tri := Int × Int × Int
noncomputable def extStep (o p : Tri) : Tri := (o.1 - o.1.fdiv p.1 * p.1, o.2.1 - o.1.fdiv p.1 * p.2.1, o.2.2 - o.1.fdiv p.1 * p.2.2)
theorem extStep_lt {o p : Tri} (h : p.1 ≠ 0) : (extStep o p).1.natAbs < p.1.natAbs := by
  show (o.1 - o.1.fdiv p.1 * p.1).natAbs < p.1.natAbs
  rw [fm_eq]
  rcases Int.lt_or_gt_of_ne h with q | q
  · have := fm_neg (a := o.1) q; omega
  · have := fm_pos (a := o.1) q; omega
theorem natAbs_wf : WellFounded fun q r : Tri × Tri => q.2.1.natAbs < r.2.1.natAbs := (measure fun q : Tri × Tri => q.2.1.natAbs).wf
noncomputable def extGo (o p : Tri) : Tri := natAbs_wf.fix (C := fun _ => Tri) (fun q rec => if h : q.2.1 = 0 then q.1 else rec (q.2, extStep q.1 q.2) (extStep_lt h)) (o, p)
theorem extGo_eq (o p : Tri) : extGo o p = if _h : p.1 = 0 then o else extGo p (extStep o p) := natAbs_wf.fix_eq _ _
noncomputable def extFin (o : Tri) : Tri := if 0 ≤ o.1 then o else (0 - o.1, 0 - o.2.1, 0 - o.2.2)
noncomputable def extd (a b : Int) : Tri := extFin (extGo (a, 1, 0) (b, 0, 1))
end Mine

/-! the plain model: matrices -/
namespace Mine
noncomputable abbrev Mat := List (List Int)
noncomputable def row (M : Mat) (i : Nat) : List Int := M.getD i []
noncomputable def el (M : Mat) (i j : Nat) : Int := (row M i).getD j 0
noncomputable def tab (n : Nat) (f : Nat → Int) : List Int := (List.range n).map f
theorem tab_length (n : Nat) (f : Nat → Int) : (tab n f).length = n := by simp [tab]
theorem tab_get {n : Nat} {f : Nat → Int} {k : Nat} (h : k < n) : (tab n f).getD k 0 = f k := by simp [tab, List.getD_eq_getElem?_getD, h]
noncomputable def unitRows (n : Nat) : Mat := (List.range n).map fun i => tab n fun j => if i = j then 1 else 0
noncomputable def rowComb (s t : Int) (x y : List Int) : List Int := tab x.length fun k => s * x.getD k 0 + t * y.getD k 0
noncomputable def rowNeg (x : List Int) : List Int := tab x.length fun k => -(x.getD k 0)
noncomputable def rowSub (q : Int) (x y : List Int) : List Int := tab x.length fun k => x.getD k 0 - q * y.getD k 0
noncomputable def rowAdd (x y : List Int) : List Int := tab x.length fun k => x.getD k 0 + y.getD k 0
noncomputable def combineM (M : Mat) (i j : Nat) (s t u v : Int) : Mat := (M.set i (rowComb s t (row M i) (row M j))).set j (rowComb u v (row M i) (row M j))
noncomputable def negRow (M : Mat) (i : Nat) : Mat := M.set i (rowNeg (row M i))
noncomputable def subRow (M : Mat) (i j : Nat) (q : Int) : Mat := M.set i (rowSub q (row M i) (row M j))
noncomputable def addRow (M : Mat) (i j : Nat) : Mat := M.set i (rowAdd (row M i) (row M j))
noncomputable def clearStep (r c : Nat) (p : Mat × Mat) (o : Nat) : Mat × Mat :=
  if el p.1 o c = 0 then p else
    let e := extd (el p.1 r c) (el p.1 o c)
    (combineM p.1 r o e.2.1 e.2.2 (-((el p.1 o c).fdiv e.1)) ((el p.1 r c).fdiv e.1), combineM p.2 r o e.2.1 e.2.2 (-((el p.1 o c).fdiv e.1)) ((el p.1 r c).fdiv e.1))
noncomputable def clearBelow (r c n : Nat) (p : Mat × Mat) : Mat × Mat := (List.range (n - (r + 1))).foldl (fun p k => clearStep r c p (r + 1 + k)) p
noncomputable def reduceStep (r c : Nat) (p : Mat × Mat) (o : Nat) : Mat × Mat := (subRow p.1 o r ((el p.1 o c).fdiv (el p.1 r c)), subRow p.2 o r ((el p.1 o c).fdiv (el p.1 r c)))
noncomputable def reduceNeg (r c : Nat) (p : Mat × Mat) : Mat × Mat := if el p.1 r c < 0 then (negRow p.1 r, negRow p.2 r) else p
noncomputable def reduceAbove (r c : Nat) (p : Mat × Mat) : Mat × Mat := (List.range r).foldl (reduceStep r c) (reduceNeg r c p)
noncomputable def hermStep (n : Nat) (q : (Mat × Mat) × Nat) (c : Nat) : (Mat × Mat) × Nat :=
  if q.2 = n then q else
    let p := clearBelow q.2 c n q.1
    if el p.1 q.2 c ≠ 0 then (reduceAbove q.2 c p, q.2 + 1) else (p, q.2)
noncomputable def hermite (M : Mat) (w : Nat) : Mat × Mat := ((List.range w).foldl (hermStep M.length) ((M, unitRows M.length), 0)).1

/-- all things are below 2 ^ B in size -/
noncomputable def Bd (B : Nat) (M : Mat) : Prop := ∀ x ∈ M, ∀ y ∈ x, y.natAbs < 2 ^ B
theorem Bd.mono {B C : Nat} {M : Mat} (h : Bd B M) (e : B ≤ C) : Bd C M := fun x hx y hy => Nat.lt_of_lt_of_le (h x hx y hy) (Nat.pow_le_pow_right (by decide) e)
theorem row_mem {M : Mat} {i : Nat} (h : i < M.length) : row M i ∈ M := by
  unfold row; rw [List.getD_eq_getElem?_getD, List.getElem?_eq_getElem h]; simp
theorem getD_mem {x : List Int} {j : Nat} (h : j < x.length) : x.getD j 0 ∈ x := by
  rw [List.getD_eq_getElem?_getD, List.getElem?_eq_getElem h]; simp
theorem Bd.el {B : Nat} {M : Mat} (h : Bd B M) (i j : Nat) : (el M i j).natAbs < 2 ^ B := by
  have h0 : (0 : Int).natAbs < 2 ^ B := Nat.two_pow_pos B
  unfold Mine.el row
  rw [List.getD_eq_getElem?_getD, List.getD_eq_getElem?_getD]
  cases hr : M[i]? with
  | none => simpa using h0
  | some x =>
    cases hy : x[j]? with
    | none => simpa [hy] using h0
    | some y => simpa [hy] using h x (List.mem_of_getElem? hr) y (List.mem_of_getElem? hy)
theorem Bd.getD {B : Nat} {M : Mat} (h : Bd B M) {x : List Int} (hx : x ∈ M) (j : Nat) : (x.getD j 0).natAbs < 2 ^ B := by
  rw [List.getD_eq_getElem?_getD]
  cases hy : x[j]? with
  | none => simpa using Nat.two_pow_pos B
  | some y => simpa using h x hx y (List.mem_of_getElem? hy)

/-- n rows of m things -/
noncomputable def Sh (n m : Nat) (M : Mat) : Prop := M.length = n ∧ ∀ x ∈ M, x.length = m
theorem Sh.row {n m : Nat} {M : Mat} (h : Sh n m M) {i : Nat} (hi : i < n) : (row M i).length = m := h.2 _ (row_mem (by rw [h.1]; exact hi))
theorem Sh.set {n m : Nat} {M : Mat} (h : Sh n m M) (i : Nat) {x : List Int} (hx : x.length = m) : Sh n m (M.set i x) := ⟨by simp [h.1], fun y hy => by
  rcases List.mem_or_eq_of_mem_set hy with q | q
  · exact h.2 y q
  · rw [q]; exact hx⟩
theorem row_set_eq {M : Mat} {i : Nat} {x : List Int} (h : i < M.length) : row (M.set i x) i = x := by
  unfold row; simp [List.getD_eq_getElem?_getD, h]
theorem row_set_ne {M : Mat} {i j : Nat} {x : List Int} (h : i ≠ j) : row (M.set i x) j = row M j := by
  unfold row; rw [List.getD_eq_getElem?_getD, List.getD_eq_getElem?_getD, List.getElem?_set_ne h]
theorem Sh.unit (n : Nat) : Sh n n (unitRows n) := ⟨by simp [unitRows], fun x hx => by
  unfold unitRows at hx
  obtain ⟨i, _, rfl⟩ := List.mem_map.mp hx
  exact tab_length _ _⟩
theorem Sh.combine {n m : Nat} {M : Mat} (h : Sh n m M) {i : Nat} (hi : i < n) (j : Nat) (s t u v : Int) : Sh n m (combineM M i j s t u v) := by
  have e := h.row hi
  exact (h.set i (by unfold rowComb; rw [tab_length]; exact e)).set j (by unfold rowComb; rw [tab_length]; exact e)
theorem Sh.neg {n m : Nat} {M : Mat} (h : Sh n m M) {i : Nat} (hi : i < n) : Sh n m (negRow M i) := h.set i (by unfold rowNeg; rw [tab_length]; exact h.row hi)
theorem Sh.sub {n m : Nat} {M : Mat} (h : Sh n m M) {i : Nat} (hi : i < n) (j : Nat) (q : Int) : Sh n m (subRow M i j q) := h.set i (by unfold rowSub; rw [tab_length]; exact h.row hi)
theorem Sh.add {n m : Nat} {M : Mat} (h : Sh n m M) {i : Nat} (hi : i < n) (j : Nat) : Sh n m (addRow M i j) := h.set i (by unfold rowAdd; rw [tab_length]; exact h.row hi)
theorem Sh.clearStep {n m k : Nat} {p : Mat × Mat} {r : Nat} (h1 : Sh n m p.1) (h2 : Sh n k p.2) (hr : r < n) (c o : Nat) : Sh n m (clearStep r c p o).1 ∧ Sh n k (clearStep r c p o).2 := by
  unfold Mine.clearStep
  split
  · exact ⟨h1, h2⟩
  · exact ⟨h1.combine hr _ _ _ _ _, h2.combine hr _ _ _ _ _⟩
end Mine

/-! the plain model: extended -/
namespace Mine
theorem natAbs_lt_of {B : Nat} {x : Int} (h : x.natAbs ≤ 2 ^ B) : x.natAbs < 2 ^ (B + 1) := by
  have := Nat.two_pow_pos B
  rw [Nat.pow_succ]; lia

/-- what stands between two steps of extended -/
structure EInv (a b : Int) (o p : Tri) : Prop where
  ex : ∃ (σ ε : Int) (x y u v : Nat), (σ = 1 ∨ σ = -1) ∧ (ε = 1 ∨ ε = -1) ∧ o.1 = σ * x ∧ p.1 = σ * y ∧ o.2.1 = ε * u ∧ p.2.1 = -(ε * v) ∧ v * x + u * y = b.natAbs ∧ y < x ∧ x ≤ b.natAbs ∧ u ≤ b.natAbs
  lo : o.1 = o.2.1 * a + o.2.2 * b
  lp : p.1 = p.2.1 * a + p.2.2 * b
  det : o.2.1 * p.2.2 - o.2.2 * p.2.1 = 1 ∨ o.2.1 * p.2.2 - o.2.2 * p.2.1 = -1

theorem fdiv_sign {σ : Int} (h : σ = 1 ∨ σ = -1) (x y : Nat) : (σ * x).fdiv (σ * y) = ((x / y : Nat) : Int) := by
  rcases h with rfl | rfl
  · simp only [Int.one_mul]; exact Int.ofNat_fdiv x y |>.symm
  · rw [Int.neg_one_mul, Int.neg_one_mul, Int.neg_fdiv_neg]; exact Int.ofNat_fdiv x y |>.symm

theorem einv_first {a b : Int} (hb : b ≠ 0) : EInv a b (b, 0, 1) (extStep (a, 1, 0) (b, 0, 1)) where
  ex := by
    have e : (extStep (a, 1, 0) (b, 0, 1)).1 = a.fmod b := fm_eq a b
    rcases Int.lt_or_gt_of_ne hb with q | q
    · have := fm_neg (a := a) q
      exact ⟨-1, -1, b.natAbs, (a.fmod b).natAbs, 0, 1, .inr rfl, .inr rfl, by simp only []; lia, by rw [e]; lia, by simp, by simp [extStep], by lia, by lia, by lia, by lia⟩
    · have := fm_pos (a := a) q
      exact ⟨1, -1, b.natAbs, (a.fmod b).natAbs, 0, 1, .inl rfl, .inr rfl, by simp only []; lia, by rw [e]; lia, by simp, by simp [extStep], by lia, by lia, by lia, by lia⟩
  lo := by simp
  lp := by simp only [extStep]; grind
  det := by simp [extStep]

theorem einv_step {a b : Int} {o p : Tri} (h : EInv a b o p) (hp : p.1 ≠ 0) : EInv a b p (extStep o p) where
  ex := by
    obtain ⟨σ, ε, x, y, u, v, hσ, hε, h1, h2, h3, h4, h5, h6, h7, h8⟩ := h.ex
    have hy : 0 < y := by
      rcases Nat.eq_zero_or_pos y with q | q
      · rw [q] at h2; simp at h2; exact absurd h2 hp
      · exact q
    have hq : o.1.fdiv p.1 = ((x / y : Nat) : Int) := by rw [h1, h2, fdiv_sign hσ]
    have hdm := Nat.div_add_mod x y
    have hml := Nat.mod_lt x hy
    have hv : v ≤ v * x := Nat.le_mul_of_pos_right v (by lia)
    have hmz : (x : Int) = (y : Int) * ((x / y : Nat) : Int) + ((x % y : Nat) : Int) := by exact_mod_cast hdm.symm
    refine ⟨σ, -ε, y, x % y, v, u + x / y * v, hσ, by lia, h2, ?_, ?_, ?_, ?_, hml, by lia, by lia⟩
    · simp only [extStep]; rw [hq, h1, h2, hmz]; grind
    · rw [h4]; grind
    · simp only [extStep]; rw [hq, h3, h4]; push_cast; grind
    · rw [← h5]
      have : v * x = v * (y * (x / y) + x % y) := by rw [hdm]
      rw [this]
      generalize x / y = q
      generalize x % y = r
      grind
  lo := h.lp
  lp := by
    have h1 := h.lo
    have h2 := h.lp
    simp only [extStep]
    generalize o.1.fdiv p.1 = q
    grind
  det := by
    have h1 := h.det
    simp only [extStep]
    generalize o.1.fdiv p.1 = q
    have e : p.2.1 * (o.2.2 - q * p.2.2) - p.2.2 * (o.2.1 - q * p.2.1) = -(o.2.1 * p.2.2 - o.2.2 * p.2.1) := by grind
    rw [e]; lia

theorem natAbs_mul_le_cancel {x y c : Int} (hc : c ≠ 0) (h : x * c = y) {k : Nat} (hy : y.natAbs ≤ k * c.natAbs) : x.natAbs ≤ k := by
  have : x.natAbs * c.natAbs ≤ k * c.natAbs := by rw [← Int.natAbs_mul, h]; exact hy
  exact Nat.le_of_mul_le_mul_right this (by lia)

theorem EInv.bounds {a b : Int} {o p : Tri} (h : EInv a b o p) (hb : b ≠ 0) : o.1.natAbs ≤ b.natAbs ∧ p.1.natAbs ≤ b.natAbs ∧ o.2.1.natAbs ≤ b.natAbs ∧ p.2.1.natAbs ≤ b.natAbs ∧ o.2.2.natAbs ≤ a.natAbs + 1 ∧ p.2.2.natAbs ≤ a.natAbs + 1 := by
  obtain ⟨σ, ε, x, y, u, v, hσ, hε, h1, h2, h3, h4, h5, h6, h7, h8⟩ := h.ex
  have ab : ∀ (σ : Int) (n : Nat), (σ = 1 ∨ σ = -1) → (σ * n).natAbs = n := fun σ n hs => by rcases hs with rfl | rfl <;> simp
  have hv : v ≤ v * x := Nat.le_mul_of_pos_right v (by lia)
  have e1 : o.1.natAbs = x := by rw [h1]; exact ab _ _ hσ
  have e2 : p.1.natAbs = y := by rw [h2]; exact ab _ _ hσ
  have e3 : o.2.1.natAbs = u := by rw [h3]; exact ab _ _ hε
  have e4 : p.2.1.natAbs = v := by rw [h4, Int.natAbs_neg]; exact ab _ _ hε
  have tb : ∀ q : Tri, q.1 = q.2.1 * a + q.2.2 * b → q.1.natAbs ≤ b.natAbs → q.2.1.natAbs ≤ b.natAbs → q.2.2.natAbs ≤ a.natAbs + 1 := fun q hq hq1 hq2 => by
    refine natAbs_mul_le_cancel (c := b) (y := q.1 - q.2.1 * a) hb (by lia) ?_
    have z1 := Int.natAbs_sub_le q.1 (q.2.1 * a)
    rw [Int.natAbs_mul] at z1
    have z2 : q.2.1.natAbs * a.natAbs ≤ b.natAbs * a.natAbs := Nat.mul_le_mul_right _ hq2
    have z3 : (a.natAbs + 1) * b.natAbs = b.natAbs * a.natAbs + b.natAbs := by rw [Nat.add_mul, Nat.one_mul, Nat.mul_comm]
    lia
  refine ⟨by lia, by lia, by lia, by lia, tb o h.lo (by lia) (by lia), tb p h.lp (by lia) (by lia)⟩

theorem extGo_inv {a b : Int} : ∀ (n : Nat) (o p : Tri), p.1.natAbs = n → EInv a b o p → ∃ p', EInv a b (extGo o p) p' ∧ p'.1 = 0 := by
  intro n
  induction n using Nat.strongRecOn with
  | _ n ih =>
    intro o p hn h
    by_cases hp : p.1 = 0
    · rw [extGo_eq, dif_pos hp]; exact ⟨p, h, hp⟩
    · rw [extGo_eq, dif_neg hp]
      exact ih _ (by rw [← hn]; exact extStep_lt hp) p _ rfl (einv_step h hp)

structure ExtF (a b : Int) (e : Tri) : Prop where
  lin : e.1 = e.2.1 * a + e.2.2 * b
  pos : 0 < e.1
  da : e.1 ∣ a
  db : e.1 ∣ b
  bs : e.2.1.natAbs ≤ b.natAbs
  bt : e.2.2.natAbs ≤ a.natAbs + 1
theorem extd_facts {a b : Int} (hb : b ≠ 0) : ExtF a b (extd a b) := by
  have h0 : extGo (a, 1, 0) (b, 0, 1) = extGo (b, 0, 1) (extStep (a, 1, 0) (b, 0, 1)) := by rw [extGo_eq, dif_neg (by exact hb)]
  obtain ⟨p, h, hp⟩ := extGo_inv _ _ _ rfl (einv_first (a := a) hb)
  rw [← h0] at h
  unfold extd
  generalize extGo (a, 1, 0) (b, 0, 1) = o at h
  obtain ⟨_, _, k1, _, k2, _⟩ := h.bounds hb
  obtain ⟨σ, ε, x, y, u, v, hσ, hε, h1, h2, h3, h4, h5, h6, h7, h8⟩ := h.ex
  have hne : o.1 ≠ 0 := by rw [h1]; rcases hσ with rfl | rfl <;> lia
  have lo := h.lo
  have lp := h.lp
  have da : o.1 ∣ a := by
    have e : a * (o.2.1 * p.2.2 - o.2.2 * p.2.1) = o.1 * p.2.2 - p.1 * o.2.2 := by grind
    rw [hp] at e
    rcases h.det with d | d <;> rw [d] at e
    · exact ⟨p.2.2, by lia⟩
    · exact ⟨-p.2.2, by rw [Int.mul_neg]; lia⟩
  have db : o.1 ∣ b := by
    have e : b * (o.2.1 * p.2.2 - o.2.2 * p.2.1) = p.1 * o.2.1 - o.1 * p.2.1 := by grind
    rw [hp] at e
    rcases h.det with d | d <;> rw [d] at e
    · exact ⟨-p.2.1, by rw [Int.mul_neg]; lia⟩
    · exact ⟨p.2.1, by omega⟩
  unfold extFin
  split
  · exact ⟨lo, by lia, da, db, k1, k2⟩
  · refine ⟨by simp only []; grind, by simp only []; lia, ?_, ?_, by simp only [Int.zero_sub, Int.natAbs_neg]; exact k1, by simp only [Int.zero_sub, Int.natAbs_neg]; exact k2⟩
    · simp only [Int.zero_sub]; exact Int.neg_dvd.mpr da
    · simp only [Int.zero_sub]; exact Int.neg_dvd.mpr db
end Mine

/-! the plain model: sizes -/
namespace Mine
theorem two_le {B C : Nat} (h : B ≤ C) : 2 ^ B ≤ 2 ^ C := Nat.pow_le_pow_right (by decide) h
theorem mul_lt_two {a b : Int} {B C : Nat} (ha : a.natAbs < 2 ^ B) (hb : b.natAbs < 2 ^ C) : (a * b).natAbs < 2 ^ (B + C) := by
  rw [Int.natAbs_mul, Nat.pow_add]
  exact Nat.lt_of_le_of_lt (Nat.mul_le_mul_right _ (Nat.le_of_lt ha)) (Nat.mul_lt_mul_of_pos_left hb (Nat.two_pow_pos B))
theorem add_lt_two {a b : Int} {B : Nat} (ha : a.natAbs < 2 ^ B) (hb : b.natAbs < 2 ^ B) : (a + b).natAbs < 2 ^ (B + 1) := by
  have := Int.natAbs_add_le a b
  rw [Nat.pow_succ]; lia
theorem sub_lt_two {a b : Int} {B : Nat} (ha : a.natAbs < 2 ^ B) (hb : b.natAbs < 2 ^ B) : (a - b).natAbs < 2 ^ (B + 1) := by
  have := Int.natAbs_sub_le a b
  rw [Nat.pow_succ]; lia
theorem lt_mono {a : Int} {B C : Nat} (ha : a.natAbs < 2 ^ B) (h : B ≤ C) : a.natAbs < 2 ^ C := Nat.lt_of_lt_of_le ha (two_le h)
theorem fdiv_lt {a b : Int} {B : Nat} (ha : a.natAbs < 2 ^ B) : (a.fdiv b).natAbs < 2 ^ B := Nat.lt_of_le_of_lt (Int.natAbs_fdiv_le_natAbs a b) ha

theorem tab_mem {n : Nat} {f : Nat → Int} {y : Int} (h : y ∈ tab n f) : ∃ k, k < n ∧ y = f k := by
  unfold tab at h
  obtain ⟨k, h1, h2⟩ := List.mem_map.mp h
  exact ⟨k, List.mem_range.mp h1, h2.symm⟩
theorem Bd.set {B : Nat} {M : Mat} (h : Bd B M) (i : Nat) {x : List Int} (hx : ∀ y ∈ x, y.natAbs < 2 ^ B) : Bd B (M.set i x) := fun z hz y hy => by
  rcases List.mem_or_eq_of_mem_set hz with q | q
  · exact h z q y hy
  · rw [q] at hy; exact hx y hy
theorem rowComb_lt {B C : Nat} {s t : Int} {x y : List Int} (hs : s.natAbs < 2 ^ C) (ht : t.natAbs < 2 ^ C) (hx : ∀ k, (x.getD k 0).natAbs < 2 ^ B) (hy : ∀ k, (y.getD k 0).natAbs < 2 ^ B) : ∀ z ∈ rowComb s t x y, z.natAbs < 2 ^ (C + B + 1) := fun z hz => by
  obtain ⟨k, _, rfl⟩ := tab_mem hz
  exact add_lt_two (mul_lt_two hs (hx k)) (mul_lt_two ht (hy k))
theorem Bd.combine {B C : Nat} {M : Mat} (h : Bd B M) (i j : Nat) {s t u v : Int} (hs : s.natAbs < 2 ^ C) (ht : t.natAbs < 2 ^ C) (hu : u.natAbs < 2 ^ C) (hv : v.natAbs < 2 ^ C) : Bd (C + B + 1) (combineM M i j s t u v) :=
  ((h.mono (by lia)).set i (rowComb_lt hs ht (fun k => h.el i k) fun k => h.el j k)).set j (rowComb_lt hu hv (fun k => h.el i k) fun k => h.el j k)
theorem ext_lt {a b : Int} {B : Nat} (ha : a.natAbs < 2 ^ B) (hb : b.natAbs < 2 ^ B) (h : b ≠ 0) : (extd a b).1.natAbs < 2 ^ B ∧ (extd a b).2.1.natAbs < 2 ^ (B + 1) ∧ (extd a b).2.2.natAbs < 2 ^ (B + 1) := by
  have F := extd_facts (a := a) h
  have := F.bs
  have := F.bt
  have h3 : (extd a b).1.natAbs ≤ b.natAbs := Nat.le_of_dvd (by lia) (Int.natAbs_dvd_natAbs.mpr F.db)
  exact ⟨by lia, by rw [Nat.pow_succ]; lia, by rw [Nat.pow_succ]; lia⟩
theorem bd_clearStep {B : Nat} {p : Mat × Mat} (h1 : Bd B p.1) (h2 : Bd B p.2) (r c o : Nat) : Bd (2 * B + 2) (clearStep r c p o).1 ∧ Bd (2 * B + 2) (clearStep r c p o).2 := by
  unfold clearStep
  split
  · exact ⟨h1.mono (by lia), h2.mono (by lia)⟩
  · rename_i hz
    obtain ⟨q1, q2, q3⟩ := ext_lt (h1.el r c) (h1.el o c) hz
    have e1 : (-((el p.1 o c).fdiv (extd (el p.1 r c) (el p.1 o c)).1)).natAbs < 2 ^ (B + 1) := by rw [Int.natAbs_neg]; exact lt_mono (fdiv_lt (h1.el o c)) (by lia)
    have e2 : ((el p.1 r c).fdiv (extd (el p.1 r c) (el p.1 o c)).1).natAbs < 2 ^ (B + 1) := lt_mono (fdiv_lt (h1.el r c)) (by lia)
    exact ⟨(h1.combine r o q2 q3 e1 e2).mono (by lia), (h2.combine r o q2 q3 e1 e2).mono (by lia)⟩
noncomputable def clearUpto (r c k : Nat) (p : Mat × Mat) : Mat × Mat := (List.range k).foldl (fun p j => clearStep r c p (r + 1 + j)) p
theorem clearUpto_succ (r c k : Nat) (p : Mat × Mat) : clearUpto r c (k + 1) p = clearStep r c (clearUpto r c k p) (r + 1 + k) := by
  unfold clearUpto; rw [List.range_succ, List.foldl_append]; rfl
theorem clearUpto_ok {n m k B r c : Nat} {p : Mat × Mat} (s1 : Sh n m p.1) (s2 : Sh n k p.2) (b1 : Bd B p.1) (b2 : Bd B p.2) (hr : r < n) : ∀ i, Sh n m (clearUpto r c i p).1 ∧ Sh n k (clearUpto r c i p).2 ∧ ∃ B', B' + 2 = (B + 2) * 2 ^ i ∧ Bd B' (clearUpto r c i p).1 ∧ Bd B' (clearUpto r c i p).2 := by
  intro i
  induction i with
  | zero => exact ⟨s1, s2, B, by simp, b1, b2⟩
  | succ i ih =>
    obtain ⟨h1, h2, B', hB, h3, h4⟩ := ih
    rw [clearUpto_succ]
    have q := Sh.clearStep h1 h2 hr c (r + 1 + i)
    have z := bd_clearStep h3 h4 r c (r + 1 + i)
    exact ⟨q.1, q.2, 2 * B' + 2, by rw [Nat.pow_succ, ← Nat.mul_assoc, ← hB]; lia, z.1, z.2⟩
theorem Bd.neg {B : Nat} {M : Mat} (h : Bd B M) (i : Nat) : Bd B (negRow M i) := h.set i fun y hy => by
  obtain ⟨k, _, rfl⟩ := tab_mem hy
  rw [Int.natAbs_neg]; exact h.el i k
theorem Bd.subRow {B C : Nat} {M : Mat} (h : Bd B M) (i j : Nat) {q : Int} (hq : q.natAbs < 2 ^ C) : Bd (C + B + 1) (subRow M i j q) := (h.mono (by lia)).set i fun y hy => by
  obtain ⟨k, _, rfl⟩ := tab_mem hy
  exact sub_lt_two (lt_mono (h.el i k) (by lia)) (mul_lt_two hq (h.el j k))
theorem Bd.addRow {B : Nat} {M : Mat} (h : Bd B M) (i j : Nat) : Bd (B + 1) (addRow M i j) := (h.mono (by lia)).set i fun y hy => by
  obtain ⟨k, _, rfl⟩ := tab_mem hy
  exact add_lt_two (h.el i k) (h.el j k)
theorem bd_reduceStep {B : Nat} {p : Mat × Mat} (h1 : Bd B p.1) (h2 : Bd B p.2) (r c o : Nat) : Bd (2 * B + 2) (reduceStep r c p o).1 ∧ Bd (2 * B + 2) (reduceStep r c p o).2 := by
  have hq : ((el p.1 o c).fdiv (el p.1 r c)).natAbs < 2 ^ B := fdiv_lt (h1.el o c)
  exact ⟨(h1.subRow o r hq).mono (by lia), (h2.subRow o r hq).mono (by lia)⟩
noncomputable def reduceUpto (r c k : Nat) (p : Mat × Mat) : Mat × Mat := (List.range k).foldl (reduceStep r c) p
theorem reduceUpto_succ (r c k : Nat) (p : Mat × Mat) : reduceUpto r c (k + 1) p = reduceStep r c (reduceUpto r c k p) k := by
  unfold reduceUpto; rw [List.range_succ, List.foldl_append]; rfl
theorem reduceUpto_ok {n m k B r c : Nat} {p : Mat × Mat} (s1 : Sh n m p.1) (s2 : Sh n k p.2) (b1 : Bd B p.1) (b2 : Bd B p.2) : ∀ i, i ≤ n → Sh n m (reduceUpto r c i p).1 ∧ Sh n k (reduceUpto r c i p).2 ∧ ∃ B', B' + 2 = (B + 2) * 2 ^ i ∧ Bd B' (reduceUpto r c i p).1 ∧ Bd B' (reduceUpto r c i p).2 := by
  intro i
  induction i with
  | zero => exact fun _ => ⟨s1, s2, B, by simp, b1, b2⟩
  | succ i ih =>
    intro hi
    obtain ⟨h1, h2, B', hB, h3, h4⟩ := ih (by lia)
    rw [reduceUpto_succ]
    have z := bd_reduceStep h3 h4 r c i
    exact ⟨h1.sub (by lia) _ _, h2.sub (by lia) _ _, 2 * B' + 2, by rw [Nat.pow_succ, ← Nat.mul_assoc, ← hB]; lia, z.1, z.2⟩
theorem reduceNeg_ok {n m k B r c : Nat} {p : Mat × Mat} (s1 : Sh n m p.1) (s2 : Sh n k p.2) (b1 : Bd B p.1) (b2 : Bd B p.2) (hr : r < n) : Sh n m (reduceNeg r c p).1 ∧ Sh n k (reduceNeg r c p).2 ∧ Bd B (reduceNeg r c p).1 ∧ Bd B (reduceNeg r c p).2 := by
  unfold reduceNeg
  split
  · exact ⟨s1.neg hr, s2.neg hr, b1.neg r, b2.neg r⟩
  · exact ⟨s1, s2, b1, b2⟩
end Mine

/-! the plain model: the steps' form -/
namespace Mine
theorem el_negRow {M : Mat} {r c : Nat} (hr : r < M.length) (hc : c < (row M r).length) : el (negRow M r) r c = -(el M r c) := by
  unfold el negRow
  rw [row_set_eq hr]
  exact tab_get hc
theorem reduceUpto_row {r c : Nat} {p : Mat × Mat} : ∀ {i : Nat}, i ≤ r → row (reduceUpto r c i p).1 r = row p.1 r := by
  intro i
  induction i with
  | zero => intro _; rfl
  | succ i ih =>
    intro hi
    rw [reduceUpto_succ]
    unfold reduceStep subRow
    rw [row_set_ne (by lia)]
    exact ih (by lia)
theorem reduceNeg_el {n m r c : Nat} {p : Mat × Mat} (s1 : Sh n m p.1) (hr : r < n) (hc : c < m) (hz : el p.1 r c ≠ 0) : el (reduceNeg r c p).1 r c ≠ 0 ∧ 0 < el (reduceNeg r c p).1 r c := by
  unfold reduceNeg
  split
  · simp only []
    rw [el_negRow (by rw [s1.1]; exact hr) (by rw [s1.row hr]; exact hc)]; lia
  · lia
theorem reduce_keeps {n m r c : Nat} {p : Mat × Mat} (s1 : Sh n m p.1) (hr : r < n) (hc : c < m) (hz : el p.1 r c ≠ 0) {i : Nat} (hi : i ≤ r) : el (reduceUpto r c i (reduceNeg r c p)).1 r c ≠ 0 := by
  unfold el; rw [reduceUpto_row hi]; exact (reduceNeg_el s1 hr hc hz).1

noncomputable def hermUpto (M : Mat) (i : Nat) : (Mat × Mat) × Nat := (List.range i).foldl (hermStep M.length) ((M, unitRows M.length), 0)
theorem hermUpto_succ (M : Mat) (i : Nat) : hermUpto M (i + 1) = hermStep M.length (hermUpto M i) i := by
  unfold hermUpto; rw [List.range_succ, List.foldl_append]; rfl
theorem hermUpto_stop {M : Mat} {i : Nat} (h : (hermUpto M i).2 = M.length) : ∀ {w : Nat}, i ≤ w → hermUpto M w = hermUpto M i := by
  intro w
  induction w with
  | zero => intro hw; have : i = 0 := by lia
            rw [this]
  | succ w ih =>
    intro hw
    rcases Nat.lt_or_ge w i with q | q
    · have : i = w + 1 := by lia
      rw [this]
    · rw [hermUpto_succ, ih q]; unfold hermStep; rw [if_pos h]
theorem hermite_eq (M : Mat) (w : Nat) : hermite M w = (hermUpto M w).1 := rfl
theorem clearBelow_eq (r c n : Nat) (p : Mat × Mat) : clearBelow r c n p = clearUpto r c (n - (r + 1)) p := rfl
theorem reduceAbove_eq (r c : Nat) (p : Mat × Mat) : reduceAbove r c p = reduceUpto r c r (reduceNeg r c p) := rfl
theorem Bd.unit {n B : Nat} (hB : 1 ≤ B) : Bd B (unitRows n) := fun x hx y hy => by
  unfold unitRows at hx
  obtain ⟨i, _, rfl⟩ := List.mem_map.mp hx
  obtain ⟨k, _, rfl⟩ := tab_mem hy
  have : 2 ^ 1 ≤ 2 ^ B := two_le hB
  split <;> simp <;> lia
theorem hermStep_stop {n c : Nat} {q : (Mat × Mat) × Nat} (h : q.2 = n) : hermStep n q c = q := by unfold hermStep; rw [if_pos h]
theorem hermStep_lead {n c : Nat} {q : (Mat × Mat) × Nat} (h : ¬ q.2 = n) (hz : el (clearUpto q.2 c (n - (q.2 + 1)) q.1).1 q.2 c ≠ 0) :
    hermStep n q c = (reduceUpto q.2 c q.2 (reduceNeg q.2 c (clearUpto q.2 c (n - (q.2 + 1)) q.1)), q.2 + 1) := by
  unfold hermStep; rw [if_neg h]; exact if_pos hz
theorem hermStep_none {n c : Nat} {q : (Mat × Mat) × Nat} (h : ¬ q.2 = n) (hz : ¬ el (clearUpto q.2 c (n - (q.2 + 1)) q.1).1 q.2 c ≠ 0) :
    hermStep n q c = (clearUpto q.2 c (n - (q.2 + 1)) q.1, q.2) := by
  unfold hermStep; rw [if_neg h]; exact if_neg hz
/-- one column -/
theorem hermStep_ok {n m B c : Nat} {q : (Mat × Mat) × Nat} (s1 : Sh n m q.1.1) (s2 : Sh n n q.1.2) (b1 : Bd B q.1.1) (b2 : Bd B q.1.2) (hq : q.2 ≤ n) :
    Sh n m (hermStep n q c).1.1 ∧ Sh n n (hermStep n q c).1.2 ∧ (hermStep n q c).2 ≤ n ∧ ∃ B', B' + 2 ≤ (B + 2) * 2 ^ (2 * n) ∧ Bd B' (hermStep n q c).1.1 ∧ Bd B' (hermStep n q c).1.2 := by
  have hp := Nat.two_pow_pos (2 * n)
  have h1 : B + 2 ≤ (B + 2) * 2 ^ (2 * n) := Nat.le_mul_of_pos_right _ hp
  by_cases hs : q.2 = n
  · rw [hermStep_stop hs]; exact ⟨s1, s2, hq, B, h1, b1, b2⟩
  · have hr : q.2 < n := by lia
    obtain ⟨t1, t2, B1, hB1, c1, c2⟩ := clearUpto_ok (c := c) s1 s2 b1 b2 hr (n - (q.2 + 1))
    have e1 : B1 + 2 ≤ (B + 2) * 2 ^ n := by rw [hB1]; exact Nat.mul_le_mul_left _ (two_le (by lia))
    by_cases hz : el (clearUpto q.2 c (n - (q.2 + 1)) q.1).1 q.2 c ≠ 0
    · rw [hermStep_lead hs hz]
      obtain ⟨u1, u2, d1, d2⟩ := reduceNeg_ok (c := c) t1 t2 c1 c2 hr
      obtain ⟨v1, v2, B2, hB2, f1, f2⟩ := reduceUpto_ok (c := c) (r := q.2) u1 u2 d1 d2 q.2 hq
      refine ⟨v1, v2, hr, B2, ?_, f1, f2⟩
      rw [hB2, show 2 * n = n + n from by lia, Nat.pow_add, ← Nat.mul_assoc]
      exact Nat.mul_le_mul e1 (two_le hq)
    · rw [hermStep_none hs hz]
      refine ⟨t1, t2, hq, B1, Nat.le_trans e1 (Nat.mul_le_mul_left _ (two_le (by lia))), c1, c2⟩
theorem hermUpto_ok {n m B : Nat} {M : Mat} (s : Sh n m M) (b : Bd B M) (hB : 1 ≤ B) : ∀ i, Sh n m (hermUpto M i).1.1 ∧ Sh n n (hermUpto M i).1.2 ∧ (hermUpto M i).2 ≤ n ∧ ∃ B', B' + 2 ≤ (B + 2) * 2 ^ (2 * n * i) ∧ Bd B' (hermUpto M i).1.1 ∧ Bd B' (hermUpto M i).1.2 := by
  intro i
  induction i with
  | zero => exact ⟨s, by show Sh n n (unitRows M.length); rw [s.1]; exact Sh.unit n, Nat.zero_le _, B, by simp, b, Bd.unit hB⟩
  | succ i ih =>
    obtain ⟨h1, h2, h3, B', h4, h5, h6⟩ := ih
    rw [hermUpto_succ, s.1]
    obtain ⟨k1, k2, k3, B2, k4, k5, k6⟩ := hermStep_ok (c := i) h1 h2 h5 h6 h3
    refine ⟨k1, k2, k3, B2, Nat.le_trans k4 ?_, k5, k6⟩
    rw [show 2 * n * (i + 1) = 2 * n * i + 2 * n from by rw [Nat.mul_add, Nat.mul_one], Nat.pow_add, ← Nat.mul_assoc]
    exact Nat.mul_le_mul_right _ h4
end Mine

/-! the plain model: Smith's form -/
namespace Mine
noncomputable def leastBetter (M : Mat) (i j : Nat) : Option (Nat × Nat) → Bool
  | none => decide (0 < (el M i j).natAbs)
  | some p => decide (0 < (el M i j).natAbs) && decide ((el M i j).natAbs < (el M p.1 p.2).natAbs)
noncomputable def leastStep (M : Mat) (i : Nat) (f : Option (Nat × Nat)) (j : Nat) : Option (Nat × Nat) := if leastBetter M i j f then some (i, j) else f
noncomputable def leastUpto (M : Mat) (st i k : Nat) (f : Option (Nat × Nat)) : Option (Nat × Nat) := (List.range k).foldl (fun f j => leastStep M i f (st + j)) f
theorem leastUpto_succ (M : Mat) (st i k : Nat) (f : Option (Nat × Nat)) : leastUpto M st i (k + 1) f = leastStep M i (leastUpto M st i k f) (st + k) := by
  unfold leastUpto; rw [List.range_succ, List.foldl_append]; rfl
noncomputable def leastRows (M : Mat) (st w k : Nat) : Option (Nat × Nat) := (List.range k).foldl (fun f i => leastUpto M st (st + i) (w - st) f) none
theorem leastRows_succ (M : Mat) (st w k : Nat) : leastRows M st w (k + 1) = leastUpto M st (st + k) (w - st) (leastRows M st w k) := by
  unfold leastRows; rw [List.range_succ, List.foldl_append]; rfl
noncomputable def least (M : Mat) (st n w : Nat) : Option (Nat × Nat) := leastRows M st w (n - st)
noncomputable def In (st n w : Nat) (f : Option (Nat × Nat)) : Prop := ∀ p, f = some p → st ≤ p.1 ∧ p.1 < n ∧ st ≤ p.2 ∧ p.2 < w
theorem In.upto {M : Mat} {st n w i k : Nat} {f : Option (Nat × Nat)} (h : In st n w f) (hi : st ≤ i) (hi' : i < n) (hk : st + k ≤ w) : In st n w (leastUpto M st i k f) := by
  induction k with
  | zero => exact h
  | succ k ih =>
    rw [leastUpto_succ]; unfold leastStep
    split
    · intro p hp; cases hp; exact ⟨hi, hi', by simp only []; lia, by simp only []; lia⟩
    · exact ih (by lia)
theorem In.rows {M : Mat} {st n w k : Nat} (hk : st + k ≤ n) (hw : st ≤ w) : In st n w (leastRows M st w k) := by
  induction k with
  | zero => intro p hp; cases hp
  | succ k ih => rw [leastRows_succ]; exact (ih (by lia)).upto (by lia) (by lia) (by lia)

noncomputable def swapRows (M : Mat) (i k : Nat) : Mat := (M.set i (row M k)).set k (row M i)
noncomputable def swapAt (i k : Nat) (x : List Int) : List Int := (x.set i (x.getD k 0)).set k (x.getD i 0)
noncomputable def swapCols (M : Mat) (i k : Nat) : Mat := M.map (swapAt i k)
noncomputable def subAt (c k : Nat) (q : Int) (x : List Int) : List Int := x.set c (x.getD c 0 - q * x.getD k 0)
noncomputable def subCol (M : Mat) (c k : Nat) (q : Int) : Mat := M.map (subAt c k q)
end Mine

/-! the plain model: Smith's form, one turn -/
namespace Mine
theorem Sh.map {n m : Nat} {M : Mat} (h : Sh n m M) {f : List Int → List Int} (hf : ∀ x, (f x).length = x.length) : Sh n m (M.map f) := ⟨by simp [h.1], fun x hx => by
  obtain ⟨y, hy, rfl⟩ := List.mem_map.mp hx
  rw [hf]; exact h.2 y hy⟩
theorem swapAt_length (i k : Nat) (x : List Int) : (swapAt i k x).length = x.length := by simp [swapAt]
theorem subAt_length (c k : Nat) (q : Int) (x : List Int) : (subAt c k q x).length = x.length := by simp [subAt]
theorem Sh.swapCols {n m : Nat} {M : Mat} (h : Sh n m M) (i k : Nat) : Sh n m (swapCols M i k) := h.map (swapAt_length i k)
theorem Sh.subCol {n m : Nat} {M : Mat} (h : Sh n m M) (c k : Nat) (q : Int) : Sh n m (subCol M c k q) := h.map (subAt_length c k q)
theorem Sh.swapRows {n m : Nat} {M : Mat} (h : Sh n m M) {i k : Nat} (hi : i < n) (hk : k < n) : Sh n m (swapRows M i k) := (h.set i (h.row hk)).set k (h.row hi)

structure St where
  S : Mat
  U : Mat
  V : Mat
  k : Nat
structure Shs (n m : Nat) (x : St) : Prop where
  s : Sh n m x.S
  u : Sh n n x.U
  v : Sh m m x.V
noncomputable def bringM (x : St) (i j : Nat) : St := ⟨swapCols (swapRows x.S i x.k) j x.k, swapRows x.U i x.k, swapCols x.V j x.k, x.k⟩
theorem Shs.bring {n m : Nat} {x : St} (h : Shs n m x) {i j : Nat} (hi : i < n) (hk : x.k < n) : Shs n m (bringM x i j) :=
  ⟨(h.s.swapRows hi hk).swapCols _ _, h.u.swapRows hi hk, h.v.swapCols _ _⟩
noncomputable def crossRow (l : Int) (p : St × Bool) (i : Nat) : St × Bool :=
  let S' := subRow p.1.S i p.1.k ((el p.1.S i p.1.k).fdiv l)
  (⟨S', subRow p.1.U i p.1.k ((el p.1.S i p.1.k).fdiv l), p.1.V, p.1.k⟩, p.2 && decide (el S' i p.1.k = 0))
noncomputable def crossCol (l : Int) (p : St × Bool) (c : Nat) : St × Bool :=
  let S' := subCol p.1.S c p.1.k ((el p.1.S p.1.k c).fdiv l)
  (⟨S', p.1.U, subCol p.1.V c p.1.k ((el p.1.S p.1.k c).fdiv l), p.1.k⟩, p.2 && decide (el S' p.1.k c = 0))
noncomputable def crossRows (l : Int) (k : Nat) (p : St × Bool) : St × Bool := (List.range k).foldl (fun p j => crossRow l p (p.1.k + 1 + j)) p
noncomputable def crossCols (l : Int) (k : Nat) (p : St × Bool) : St × Bool := (List.range k).foldl (fun p j => crossCol l p (p.1.k + 1 + j)) p
theorem crossRows_succ (l : Int) (k : Nat) (p : St × Bool) : crossRows l (k + 1) p = crossRow l (crossRows l k p) ((crossRows l k p).1.k + 1 + k) := by
  unfold crossRows; rw [List.range_succ, List.foldl_append]; rfl
theorem crossCols_succ (l : Int) (k : Nat) (p : St × Bool) : crossCols l (k + 1) p = crossCol l (crossCols l k p) ((crossCols l k p).1.k + 1 + k) := by
  unfold crossCols; rw [List.range_succ, List.foldl_append]; rfl
theorem crossRows_k (l : Int) (k : Nat) (p : St × Bool) : (crossRows l k p).1.k = p.1.k := by
  induction k with
  | zero => rfl
  | succ k ih => rw [crossRows_succ]; exact ih
theorem crossCols_k (l : Int) (k : Nat) (p : St × Bool) : (crossCols l k p).1.k = p.1.k := by
  induction k with
  | zero => rfl
  | succ k ih => rw [crossCols_succ]; exact ih
theorem crossRows_V (l : Int) (k : Nat) (p : St × Bool) : (crossRows l k p).1.V = p.1.V := by
  induction k with
  | zero => rfl
  | succ k ih => rw [crossRows_succ]; exact ih
theorem crossCols_U (l : Int) (k : Nat) (p : St × Bool) : (crossCols l k p).1.U = p.1.U := by
  induction k with
  | zero => rfl
  | succ k ih => rw [crossCols_succ]; exact ih
noncomputable def crossed (n m : Nat) (x : St) : St × Bool := crossCols (el x.S x.k x.k) (m - (x.k + 1)) (crossRows (el x.S x.k x.k) (n - (x.k + 1)) (x, true))
theorem Shs.crossRows {n m : Nat} {p : St × Bool} (h : Shs n m p.1) (l : Int) {k : Nat} (hk : p.1.k + 1 + k ≤ n) : Shs n m (crossRows l k p).1 := by
  induction k with
  | zero => exact h
  | succ k ih =>
    rw [crossRows_succ]
    have := ih (by lia)
    exact ⟨this.s.sub (by rw [crossRows_k]; lia) _ _, this.u.sub (by rw [crossRows_k]; lia) _ _, this.v⟩
theorem Shs.crossCols {n m : Nat} {p : St × Bool} (h : Shs n m p.1) (l : Int) (k : Nat) : Shs n m (crossCols l k p).1 := by
  induction k with
  | zero => exact h
  | succ k ih =>
    rw [crossCols_succ]
    exact ⟨ih.s.subCol _ _ _, ih.u, ih.v.subCol _ _ _⟩
/-- the products of a clearing of a cross may be made -/
structure CrossMul (ok : Int → Int → Prop) (n m : Nat) (x : St) : Prop where
  nz : el x.S x.k x.k ≠ 0
  rs : ∀ k, x.k + 1 + k < n → ∀ j, ok ((el (crossRows (el x.S x.k x.k) k (x, true)).1.S (x.k + 1 + k) x.k).fdiv (el x.S x.k x.k)) (el (crossRows (el x.S x.k x.k) k (x, true)).1.S x.k j)
  ru : ∀ k, x.k + 1 + k < n → ∀ j, ok ((el (crossRows (el x.S x.k x.k) k (x, true)).1.S (x.k + 1 + k) x.k).fdiv (el x.S x.k x.k)) (el (crossRows (el x.S x.k x.k) k (x, true)).1.U x.k j)
  cs : ∀ k, x.k + 1 + k < m → ∀ i, ok ((el (crossCols (el x.S x.k x.k) k (crossRows (el x.S x.k x.k) (n - (x.k + 1)) (x, true))).1.S x.k (x.k + 1 + k)).fdiv (el x.S x.k x.k)) (el (crossCols (el x.S x.k x.k) k (crossRows (el x.S x.k x.k) (n - (x.k + 1)) (x, true))).1.S i x.k)
  cv : ∀ k, x.k + 1 + k < m → ∀ i, ok ((el (crossCols (el x.S x.k x.k) k (crossRows (el x.S x.k x.k) (n - (x.k + 1)) (x, true))).1.S x.k (x.k + 1 + k)).fdiv (el x.S x.k x.k)) (el (crossCols (el x.S x.k x.k) k (crossRows (el x.S x.k x.k) (n - (x.k + 1)) (x, true))).1.V i x.k)
noncomputable def undivAt (S : Mat) (k m i : Nat) : Bool := (List.range (m - (k + 1))).any fun j => decide ((el S i (k + 1 + j)).fmod (el S k k) ≠ 0)
noncomputable def undivFind (S : Mat) (k m : Nat) : Nat → Option Nat
  | 0 => none
  | q + 1 => match undivFind S k m q with
    | some r => some r
    | none => if undivAt S k m (k + 1 + q) then some (k + 1 + q) else none
noncomputable def undiv (S : Mat) (k n m : Nat) : Option Nat := undivFind S k m (n - (k + 1))
theorem undivFind_in {S : Mat} {k m : Nat} : ∀ {q r : Nat}, undivFind S k m q = some r → k < r ∧ r < k + 1 + q ∧ undivAt S k m r = true := by
  intro q
  induction q with
  | zero => intro r h; cases h
  | succ q ih =>
    intro r h
    unfold undivFind at h
    cases z : undivFind S k m q with
    | some r' => rw [z] at h; cases h; obtain ⟨h1, h2, h3⟩ := ih z; exact ⟨h1, by lia, h3⟩
    | none =>
      rw [z] at h
      simp only at h
      split at h
      · rename_i hq; cases h; exact ⟨by lia, by lia, hq⟩
      · cases h
theorem undivFind_none {S : Mat} {k m : Nat} : ∀ {q : Nat}, undivFind S k m q = none → ∀ i, i < q → undivAt S k m (k + 1 + i) = false := by
  intro q
  induction q with
  | zero => intro _ i hi; lia
  | succ q ih =>
    intro h i hi
    unfold undivFind at h
    cases z : undivFind S k m q with
    | some r' => rw [z] at h; cases h
    | none =>
      rw [z] at h
      simp only at h
      split at h
      · cases h
      · rename_i hq
        rcases Nat.lt_or_ge i q with w | w
        · exact ih z i w
        · have : i = q := by lia
          subst this; simpa using hq
/-- behind a cleared cross -/
noncomputable def settle (n m : Nat) (x : St) : St := match undiv x.S x.k n m with
  | some r => ⟨addRow x.S x.k r, addRow x.U x.k r, x.V, x.k⟩
  | none => if el x.S x.k x.k < 0 then ⟨negRow x.S x.k, negRow x.U x.k, x.V, x.k + 1⟩ else ⟨x.S, x.U, x.V, x.k + 1⟩
noncomputable def smithStep (n m : Nat) (x : St) : Option St :=
  if x.k < min n m then match least x.S x.k n m with
    | none => none
    | some p => if (crossed n m (bringM x p.1 p.2)).2 then some (settle n m (crossed n m (bringM x p.1 p.2)).1) else some (crossed n m (bringM x p.1 p.2)).1
  else none
/-- k turns lead from x to the end z -/
inductive Run (ok : Int → Int → Prop) (n m : Nat) : Nat → St → St → Prop
  | stop {x : St} : smithStep n m x = none → Run ok n m 0 x x
  | turn {k : Nat} {x y z : St} : smithStep n m x = some y → (∀ p, least x.S x.k n m = some p → CrossMul ok n m (bringM x p.1 p.2)) → Run ok n m k y z → Run ok n m (k + 1) x z
end Mine

/-! the plain model: the things of the matrices behind each step -/
namespace Mine
theorem el_out {n m : Nat} {M : Mat} (h : Sh n m M) {i j : Nat} (hj : n ≤ i ∨ m ≤ j) : el M i j = 0 := by
  unfold el row
  rw [List.getD_eq_getElem?_getD, List.getD_eq_getElem?_getD]
  cases hr : M[i]? with
  | none => simp
  | some x =>
    have hi := (List.getElem?_eq_some_iff.mp hr).1
    have hx := h.2 x (List.mem_of_getElem? hr)
    rcases hj with q | q
    · rw [h.1] at hi; lia
    · rw [Option.getD_some, List.getElem?_eq_none (by lia)]; rfl
theorem el_set {n m : Nat} {M : Mat} (h : Sh n m M) {i : Nat} (hi : i < n) (x : List Int) (a b : Nat) : el (M.set i x) a b = if a = i then x.getD b 0 else el M a b := by
  split
  · rename_i q; subst q; unfold el; rw [row_set_eq (by rw [h.1]; exact hi)]
  · rename_i q; unfold el; rw [row_set_ne (Ne.symm q)]
theorem tab_getD {n : Nat} {f : Nat → Int} (h : ∀ k, n ≤ k → f k = 0) (k : Nat) : (tab n f).getD k 0 = f k := by
  rcases Nat.lt_or_ge k n with q | q
  · exact tab_get q
  · rw [h k q, List.getD_eq_getElem?_getD, List.getElem?_eq_none (by rw [tab_length]; exact q)]; rfl
theorem el_subRow {n m : Nat} {M : Mat} (h : Sh n m M) {i : Nat} (hi : i < n) (j : Nat) (q : Int) (a b : Nat) : el (subRow M i j q) a b = if a = i then el M i b - q * el M j b else el M a b := by
  unfold subRow rowSub
  rw [el_set h hi, h.row hi, tab_getD]
  · rfl
  · intro k hk
    have h1 := el_out h (i := i) (j := k) (.inr hk)
    have h2 := el_out h (i := j) (j := k) (.inr hk)
    unfold el at h1 h2
    rw [h1, h2]; simp
theorem el_addRow {n m : Nat} {M : Mat} (h : Sh n m M) {i : Nat} (hi : i < n) (j : Nat) (a b : Nat) : el (addRow M i j) a b = if a = i then el M i b + el M j b else el M a b := by
  unfold addRow rowAdd
  rw [el_set h hi, h.row hi, tab_getD]
  · rfl
  · intro k hk
    have h1 := el_out h (i := i) (j := k) (.inr hk)
    have h2 := el_out h (i := j) (j := k) (.inr hk)
    unfold el at h1 h2
    rw [h1, h2]; simp
theorem el_neg {n m : Nat} {M : Mat} (h : Sh n m M) {i : Nat} (hi : i < n) (a b : Nat) : el (negRow M i) a b = if a = i then -el M i b else el M a b := by
  unfold negRow rowNeg
  rw [el_set h hi, h.row hi, tab_getD]
  · rfl
  · intro k hk
    have h1 := el_out h (i := i) (j := k) (.inr hk)
    unfold el at h1
    rw [h1]; simp
theorem el_combine {n m : Nat} {M : Mat} (h : Sh n m M) {i j : Nat} (hi : i < n) (hj : j < n) (s t u v : Int) (a b : Nat) : el (combineM M i j s t u v) a b = if a = j then u * el M i b + v * el M j b else if a = i then s * el M i b + t * el M j b else el M a b := by
  have z : ∀ k, m ≤ k → (row M i).getD k 0 = 0 ∧ (row M j).getD k 0 = 0 := fun k hk => ⟨el_out h (i := i) (j := k) (.inr hk), el_out h (i := j) (j := k) (.inr hk)⟩
  unfold combineM rowComb
  rw [el_set (h.set i (by rw [tab_length]; exact h.row hi)) hj, el_set h hi, h.row hi, tab_getD, tab_getD]
  · rfl
  · intro k hk; rw [(z k hk).1, (z k hk).2]; simp
  · intro k hk; rw [(z k hk).1, (z k hk).2]; simp
theorem el_swapRows {n m : Nat} {M : Mat} (h : Sh n m M) {i k : Nat} (hi : i < n) (hk : k < n) (a b : Nat) : el (swapRows M i k) a b = if a = k then el M i b else if a = i then el M k b else el M a b := by
  unfold swapRows
  rw [el_set (h.set i (h.row hk)) hk, el_set h hi]; rfl
theorem el_map {n m : Nat} {M : Mat} (h : Sh n m M) (f : List Int → List Int) (a b : Nat) (ha : a < n) : el (M.map f) a b = (f (row M a)).getD b 0 := by
  unfold el row
  rw [List.getD_eq_getElem?_getD (l := M.map f), List.getElem?_map, List.getD_eq_getElem?_getD (l := M), List.getElem?_eq_getElem (by rw [h.1]; exact ha)]; rfl
theorem getD_set {x : List Int} {i : Nat} (hi : i < x.length) (y : Int) (b : Nat) : (x.set i y).getD b 0 = if b = i then y else x.getD b 0 := by
  rw [List.getD_eq_getElem?_getD, List.getD_eq_getElem?_getD]
  split
  · rename_i q; subst q; rw [List.getElem?_set_self hi]; rfl
  · rename_i q; rw [List.getElem?_set_ne (Ne.symm q)]
theorem el_swapCols {n m : Nat} {M : Mat} (h : Sh n m M) {j k : Nat} (hj : j < m) (hk : k < m) (a b : Nat) : el (swapCols M j k) a b = if b = k then el M a j else if b = j then el M a k else el M a b := by
  rcases Nat.lt_or_ge a n with ha | ha
  · unfold swapCols
    rw [el_map h _ a b ha]
    unfold swapAt
    have hl := h.row ha
    rw [getD_set (by simp [hl]; exact hk), getD_set (by rw [hl]; exact hj)]; rfl
  · rw [el_out (h.swapCols j k) (.inl ha), el_out h (.inl ha), el_out h (.inl ha), el_out h (.inl ha)]; simp
theorem el_subCol {n m : Nat} {M : Mat} (h : Sh n m M) {c : Nat} (hc : c < m) (k : Nat) (q : Int) (a b : Nat) : el (subCol M c k q) a b = if b = c then el M a c - q * el M a k else el M a b := by
  rcases Nat.lt_or_ge a n with ha | ha
  · unfold subCol
    rw [el_map h _ a b ha]
    unfold subAt
    rw [getD_set (by rw [h.row ha]; exact hc)]; rfl
  · rw [el_out (h.subCol c k q) (.inl ha), el_out h (.inl ha), el_out h (.inl ha), el_out h (.inl ha)]; simp

theorem el_crossRow {n m : Nat} {p : St × Bool} (h : Shs n m p.1) {i : Nat} (hi : i < n) (l : Int) (a b : Nat) : el (crossRow l p i).1.S a b = if a = i then el p.1.S i b - (el p.1.S i p.1.k).fdiv l * el p.1.S p.1.k b else el p.1.S a b := el_subRow h.s hi _ _ a b
theorem el_crossCol {n m : Nat} {p : St × Bool} (h : Shs n m p.1) {c : Nat} (hc : c < m) (l : Int) (a b : Nat) : el (crossCol l p c).1.S a b = if b = c then el p.1.S a c - (el p.1.S p.1.k c).fdiv l * el p.1.S a p.1.k else el p.1.S a b := el_subCol h.s hc _ _ a b
/-- the cleared cross, thing by thing -/
theorem el_crossRows {n m : Nat} {p : St × Bool} (h : Shs n m p.1) (l : Int) {k : Nat} (hk : p.1.k + 1 + k ≤ n) (a b : Nat) :
    el (crossRows l k p).1.S a b = if p.1.k < a ∧ a < p.1.k + 1 + k then el p.1.S a b - (el p.1.S a p.1.k).fdiv l * el p.1.S p.1.k b else el p.1.S a b := by
  induction k generalizing a b with
  | zero => rw [if_neg (by lia)]; rfl
  | succ k ih =>
    have ih := fun a b => ih (by lia) a b
    rw [crossRows_succ, el_crossRow (h.crossRows l (by lia)) (by rw [crossRows_k]; lia), crossRows_k]
    by_cases ha : a = p.1.k + 1 + k
    · subst ha
      rw [if_pos rfl, if_pos (by lia), ih, ih, ih, if_neg (by lia), if_neg (by lia), if_neg (by lia)]
    · rw [if_neg ha, ih]
      by_cases hb : p.1.k < a ∧ a < p.1.k + 1 + k
      · rw [if_pos hb, if_pos (by lia)]
      · rw [if_neg hb, if_neg (by lia)]
theorem el_crossCols {n m : Nat} {p : St × Bool} (h : Shs n m p.1) (l : Int) {k : Nat} (hk : p.1.k + 1 + k ≤ m) (a b : Nat) :
    el (crossCols l k p).1.S a b = if p.1.k < b ∧ b < p.1.k + 1 + k then el p.1.S a b - (el p.1.S p.1.k b).fdiv l * el p.1.S a p.1.k else el p.1.S a b := by
  induction k generalizing a b with
  | zero => rw [if_neg (by lia)]; rfl
  | succ k ih =>
    have ih := fun a b => ih (by lia) a b
    rw [crossCols_succ, el_crossCol (h.crossCols l k) (by rw [crossCols_k]; lia), crossCols_k]
    by_cases ha : b = p.1.k + 1 + k
    · subst ha
      rw [if_pos rfl, if_pos (by lia), ih, ih, ih, if_neg (by lia), if_neg (by lia), if_neg (by lia)]
    · rw [if_neg ha, ih]
      by_cases hb : p.1.k < b ∧ b < p.1.k + 1 + k
      · rw [if_pos hb, if_pos (by lia)]
      · rw [if_neg hb, if_neg (by lia)]
theorem Shs.crossed {n m : Nat} {x : St} (h : Shs n m x) (hk : x.k < n) : Shs n m (crossed n m x).1 := by
  unfold Mine.crossed
  exact (h.crossRows (p := (x, true)) _ (by show x.k + 1 + _ ≤ n; lia)).crossCols _ _
theorem crossed_k (n m : Nat) (x : St) : (crossed n m x).1.k = x.k := by unfold crossed; rw [crossCols_k, crossRows_k]
theorem crossed_lead {n m : Nat} {x : St} (h : Shs n m x) (hk : x.k < n) (hm : x.k < m) : el (crossed n m x).1.S x.k x.k = el x.S x.k x.k := by
  unfold crossed
  have h1 := h.crossRows (p := (x, true)) (el x.S x.k x.k) (k := n - (x.k + 1)) (by show x.k + 1 + _ ≤ n; lia)
  rw [el_crossCols h1 _ (by rw [crossRows_k]; show x.k + 1 + _ ≤ m; lia), crossRows_k]
  rw [if_neg (by show ¬ (x.k < x.k ∧ _); lia), el_crossRows (p := (x, true)) h _ (by show x.k + 1 + _ ≤ n; lia)]
  rw [if_neg (by show ¬ (x.k < x.k ∧ _); lia)]
theorem Shs.settle {n m : Nat} {x : St} (h : Shs n m x) (hk : x.k < n) : Shs n m (settle n m x) := by
  unfold Mine.settle
  split
  · exact ⟨h.s.add hk _, h.u.add hk _, h.v⟩
  · split
    · exact ⟨h.s.neg hk, h.u.neg hk, h.v⟩
    · exact ⟨h.s, h.u, h.v⟩
theorem smithStep_end {n m : Nat} {x : St} (h : ¬ x.k < min n m) : smithStep n m x = none := by unfold smithStep; rw [if_neg h]
theorem smithStep_none {n m : Nat} {x : St} (h : least x.S x.k n m = none) : smithStep n m x = none := by
  unfold smithStep
  split
  · rw [h]
  · rfl
theorem smithStep_not {n m : Nat} {x : St} {p : Nat × Nat} (h : x.k < min n m) (hp : least x.S x.k n m = some p) (hd : (crossed n m (bringM x p.1 p.2)).2 = false) : smithStep n m x = some (crossed n m (bringM x p.1 p.2)).1 := by
  unfold smithStep
  rw [if_pos h, hp]
  simp only [hd, Bool.false_eq_true, if_false]
theorem smithStep_done {n m : Nat} {x : St} {p : Nat × Nat} (h : x.k < min n m) (hp : least x.S x.k n m = some p) (hd : (crossed n m (bringM x p.1 p.2)).2 = true) : smithStep n m x = some (settle n m (crossed n m (bringM x p.1 p.2)).1) := by
  unfold smithStep
  rw [if_pos h, hp]
  simp only [hd, if_true]
theorem Run.stopped {ok : Int → Int → Prop} {n m k : Nat} {x z : St} (h : Run ok n m k x z) (e : smithStep n m x = none) : z = x := by
  cases h with
  | stop _ => rfl
  | turn h _ _ => rw [e] at h; cases h
theorem Run.turned {ok : Int → Int → Prop} {n m k : Nat} {x y z : St} (h : Run ok n m k x z) (e : smithStep n m x = some y) : ∃ k', k' < k ∧ (∀ p, least x.S x.k n m = some p → CrossMul ok n m (bringM x p.1 p.2)) ∧ Run ok n m k' y z := by
  cases h with
  | stop h => rw [e] at h; cases h
  | turn h h2 h3 => rw [e] at h; cases h; exact ⟨_, Nat.lt_succ_self _, h2, h3⟩
theorem settle_row {n m : Nat} {x : St} {r : Nat} (h : undiv x.S x.k n m = some r) : settle n m x = ⟨addRow x.S x.k r, addRow x.U x.k r, x.V, x.k⟩ := by unfold settle; rw [h]
theorem settle_neg {n m : Nat} {x : St} (h : undiv x.S x.k n m = none) (hl : el x.S x.k x.k < 0) : settle n m x = ⟨negRow x.S x.k, negRow x.U x.k, x.V, x.k + 1⟩ := by unfold settle; rw [h]; exact if_pos hl
theorem settle_pos {n m : Nat} {x : St} (h : undiv x.S x.k n m = none) (hl : ¬ el x.S x.k x.k < 0) : settle n m x = ⟨x.S, x.U, x.V, x.k + 1⟩ := by unfold settle; rw [h]; exact if_neg hl
end Mine

/-! the plain model: the law's determinants, products -/
namespace Mine
noncomputable def psum (f : Nat → Int) : Nat → Int
  | 0 => 0
  | k + 1 => psum f k + f k
theorem psum_congr {f g : Nat → Int} {k : Nat} (h : ∀ i, i < k → f i = g i) : psum f k = psum g k := by
  induction k with
  | zero => rfl
  | succ k ih => unfold psum; rw [ih fun i hi => h i (by lia), h k (by lia)]
noncomputable def minor (M : Mat) (j : Nat) : Mat := (M.drop 1).map fun x => x.take j ++ x.drop (j + 1)
noncomputable def sgn (j : Nat) : Int := 1 - 2 * (j : Int).fmod 2
noncomputable def detF : Nat → Mat → Int
  | 0, _ => 1
  | n + 1, M => psum (fun j => sgn j * el M 0 j * detF n (minor M j)) (n + 1)
theorem sgn_small (j : Nat) : (sgn j).natAbs ≤ 1 := by
  unfold sgn
  have h1 := Int.fmod_nonneg_of_pos (j : Int) (b := 2) (by decide)
  have h2 := Int.fmod_lt_of_pos (j : Int) (b := 2) (by decide)
  lia
theorem Sh.minor {n m : Nat} {M : Mat} (h : Sh (n + 1) (m + 1) M) {j : Nat} (hj : j < m + 1) : Sh n m (minor M j) := ⟨by simp [Mine.minor, h.1], fun x hx => by
  unfold Mine.minor at hx
  obtain ⟨y, hy, rfl⟩ := List.mem_map.mp hx
  have := h.2 y (List.mem_of_mem_drop hy)
  simp [this]; lia⟩
theorem Bd.minor {B : Nat} {M : Mat} (h : Bd B M) (j : Nat) : Bd B (minor M j) := fun x hx y hy => by
  unfold Mine.minor at hx
  obtain ⟨z, hz, rfl⟩ := List.mem_map.mp hx
  rcases List.mem_append.mp hy with q | q
  · exact h z (List.mem_of_mem_drop hz) y (List.mem_of_mem_take q)
  · exact h z (List.mem_of_mem_drop hz) y (List.mem_of_mem_drop q)
theorem psum_lt {f : Nat → Int} {B : Nat} {k : Nat} (h : ∀ i, (f i).natAbs < 2 ^ B) (hk : k ≤ 4) : (psum f k).natAbs < 2 ^ (B + 2) := by
  have key : ∀ k, (psum f k).natAbs ≤ k * 2 ^ B := by
    intro k
    induction k with
    | zero => simp [psum]
    | succ k ih =>
      have h1 := Int.natAbs_add_le (psum f k) (f k)
      have h2 := h k
      show (psum f k + f k).natAbs ≤ _
      rw [Nat.succ_mul]; lia
  have h1 := key k
  have h2 : (psum f k).natAbs < 2 ^ (B + 2) ∨ k * 2 ^ B = 4 * 2 ^ B := by
    rw [Nat.pow_add]
    have h3 : k * 2 ^ B ≤ 4 * 2 ^ B := Nat.mul_le_mul_right _ hk
    lia
  rcases h2 with h2 | h2
  · exact h2
  · -- strictly: one thing at least
    cases k with
    | zero => simp [psum]; exact Nat.two_pow_pos _
    | succ k =>
      have h3 := key k
      have h4 := Int.natAbs_add_le (psum f k) (f k)
      have h5 := h k
      rw [Nat.succ_mul] at h2
      show (psum f k + f k).natAbs < _
      rw [Nat.pow_add]; lia
theorem detF_lt {B : Nat} : ∀ {n : Nat} {M : Mat}, n ≤ 3 → Bd B M → (detF n M).natAbs < 2 ^ (n * (B + 3) + 1)
  | 0, M, _, _ => by simp [detF]
  | n + 1, M, hn, hB => by
    have ht : ∀ j, (sgn j * el M 0 j * detF n (minor M j)).natAbs < 2 ^ (B + (n * (B + 3) + 1)) := fun j => by
      refine mul_lt_two (B := B) ?_ (detF_lt (by lia) (hB.minor j))
      rw [Int.natAbs_mul]
      have h1 := sgn_small j
      have h2 := hB.el 0 j
      calc _ ≤ 1 * (el M 0 j).natAbs := Nat.mul_le_mul_right _ h1
        _ < _ := by lia
    have := psum_lt ht (k := n + 1) (by lia)
    show (psum _ _).natAbs < _
    refine Nat.lt_of_lt_of_le this (two_le ?_)
    rw [Nat.succ_mul]; lia
theorem tab_sum (k : Nat) (f : Nat → Int) : (tab k f).sum = psum f k := by
  induction k with
  | zero => rfl
  | succ k ih =>
    have : tab (k + 1) f = tab k f ++ [f k] := by unfold tab; rw [List.range_succ, List.map_append]; rfl
    rw [this, List.sum_append, ih]; simp [psum]
noncomputable def mulM (k : Nat) (w : Nat) (X Y : Mat) : Mat := X.map fun x => tab w fun j => psum (fun t => x.getD t 0 * el Y t j) k
theorem Sh.mul {n k w p m : Nat} {X Y : Mat} (h : Sh n p X) (_h : Sh k m Y) : Sh n w (mulM k w X Y) := ⟨by simp [mulM, h.1], fun x hx => by
  unfold mulM at hx
  obtain ⟨y, _, rfl⟩ := List.mem_map.mp hx
  exact tab_length _ _⟩
end Mine

/-! the plain model: the choices of lines -/
namespace Mine
noncomputable def choices : Nat → Nat → List (List Nat)
  | 0, _ => [[]]
  | k + 1, many => (List.range (many - k)).flatMap fun i => (choices k (k + i)).map (· ++ [k + i])
noncomputable def chI (k many : Nat) : Mat := (choices k many).map fun w => w.map fun (x : Nat) => (x : Int)
noncomputable def chPart (k i : Nat) : Mat := (List.range i).flatMap fun i => (chI k (k + i)).map (· ++ [((k + i : Nat) : Int)])
theorem chPart_succ (k i : Nat) : chPart k (i + 1) = chPart k i ++ (chI k (k + i)).map (· ++ [((k + i : Nat) : Int)]) := by
  unfold chPart; rw [List.range_succ, List.flatMap_append]; simp
theorem chI_succ (k many : Nat) : chI (k + 1) many = chPart k (many - k) := by
  unfold chI chPart
  show List.map _ (List.flatMap _ _) = _
  rw [List.map_flatMap]
  congr 1
  funext i
  unfold chI
  simp [List.map_map, Function.comp_def]
theorem chI_few : ∀ k < 4, ∀ many < 4, (chI k many).length ≤ 3 ∧ ∀ x ∈ chI k many, x.length = k := by decide
theorem chPart_few : ∀ k < 3, ∀ i < 4, (chPart k i).length ≤ 20 := by decide
theorem chI_in : ∀ k < 4, ∀ many < 4, ∀ x ∈ chI k many, ∀ y ∈ x, 0 ≤ y ∧ y < many := by decide
theorem fmod_lt_abs {a b : Int} (h : b ≠ 0) : (a.fmod b).natAbs < b.natAbs := by
  rcases Int.lt_or_gt_of_ne h with q | q
  · have := fm_neg (a := a) q; omega
  · have := fm_pos (a := a) q; omega
theorem absWf : WellFounded fun q r : Int × Int => q.2.natAbs < r.2.natAbs := (measure fun q : Int × Int => q.2.natAbs).wf
noncomputable def gcdGo (w o : Int) : Int := absWf.fix (C := fun _ => Int) (fun q rec => if h : q.2 = 0 then q.1 else rec (q.2, q.1.fmod q.2) (fmod_lt_abs h)) (w, o)
theorem gcdGo_eq (w o : Int) : gcdGo w o = if _h : o = 0 then w else gcdGo o (w.fmod o) := absWf.fix_eq _ _
noncomputable def divisor (xs : List Int) : Nat := (xs.foldl gcdGo 0).natAbs
noncomputable def subM (G : Mat) (ls ss : List Int) : Mat := ls.map fun i => ss.map fun j => el G i.toNat j.toNat
noncomputable def partsRow (G : Mat) (k m : Nat) (ls : List Int) : List Mat := (chI k m).map fun ss => subM G ls ss
noncomputable def partsUpto (G : Mat) (k n m i : Nat) : List Mat := ((chI k n).take i).flatMap (partsRow G k m)
noncomputable def parts (G : Mat) (k n m : Nat) : List Mat := (chI k n).flatMap (partsRow G k m)
theorem partsUpto_succ {G : Mat} {k n m i : Nat} (h : i < (chI k n).length) : partsUpto G k n m (i + 1) = partsUpto G k n m i ++ partsRow G k m (row (chI k n) i) := by
  unfold partsUpto
  rw [List.take_add_one, List.flatMap_append, List.getElem?_eq_getElem h]
  unfold row
  rw [List.getD_eq_getElem?_getD, List.getElem?_eq_getElem h]; simp
theorem partsUpto_all {G : Mat} {k n m : Nat} : partsUpto G k n m (chI k n).length = parts G k n m := by unfold partsUpto parts; rw [List.take_length]
theorem tab_map (xs : List Int) (f : Int → Int) : tab xs.length (fun z => f (xs.getD z 0)) = xs.map f := by
  refine List.ext_getElem (by simp [tab]) fun i h1 h2 => ?_
  have hi : i < xs.length := by simpa using h2
  simp [tab, List.getD_eq_getElem?_getD, hi]
theorem rowMem {M : Mat} {i q : Nat} {P : Int → Prop} (h : ∀ x ∈ M, ∀ y ∈ x, P y) (hi : i < M.length) (hq : q < (row M i).length) : P ((row M i).getD q 0) := h _ (row_mem hi) _ (getD_mem hq)
end Mine

/-! the plain model: steps -/
namespace Mine
structure Steps (H : Mat) (n m r : Nat) (piv : Nat → Nat) : Prop where
  rn : r ≤ n
  pm : ∀ k, k < r → piv k < m
  pos : ∀ k, k < r → 0 < el H k (piv k)
  left : ∀ k, k < r → ∀ j, j < piv k → el H k j = 0
  up : ∀ k, k < r → ∀ k', k' < k → piv k' < piv k ∧ 0 ≤ el H k' (piv k) ∧ el H k' (piv k) < el H k (piv k)
  rest : ∀ k, r ≤ k → k < n → ∀ j, j < m → el H k j = 0
/-- picked, as in the walk -/
noncomputable def pick (p : Nat → Bool) (f : Nat → Int) (n : Nat) : List Int := ((List.range n).filter p).map f
theorem pick_succ (p : Nat → Bool) (f : Nat → Int) (n : Nat) : pick p f (n + 1) = pick p f n ++ if p n then [f n] else [] := by
  unfold pick
  rw [List.range_succ, List.filter_append, List.map_append]
  cases h : p n <;> simp [h]
theorem pick_none {p : Nat → Bool} {f : Nat → Int} {n : Nat} (h : ∀ i, i < n → p i = false) : pick p f n = [] := by
  induction n with
  | zero => rfl
  | succ n ih => rw [pick_succ, ih fun i hi => h i (by lia), h n (by lia)]; rfl
theorem pick_first {p : Nat → Bool} {f : Nat → Int} {q : Nat} (h0 : ∀ i, i < q → p i = false) (hq : p q = true) : ∀ {n : Nat}, q < n → ∃ r, pick p f n = f q :: r
  | n + 1, hn => by
    rw [pick_succ]
    rcases Nat.lt_or_ge q n with w | w
    · obtain ⟨r, hr⟩ := pick_first (f := f) h0 hq w
      exact ⟨_, by rw [hr]; rfl⟩
    · have : q = n := by lia
      subst this
      rw [pick_none h0, hq]; exact ⟨[], rfl⟩
end Mine

/-! what the plain law is to show -/
namespace Mine
structure MulOk (ok : Int → Int → Prop) : Prop where
  l : ∀ a b : Int, a.natAbs < 2 ^ 64 → ok a b
  r : ∀ a b : Int, b.natAbs < 2 ^ 64 → ok a b
  b : ∀ (B : Nat) (a b : Int), B ≤ 2 ^ 26 → a.natAbs < 2 ^ B → b.natAbs < 2 ^ B → ok a b
noncomputable def prodF (f : Nat → Int) : Nat → Int
  | 0 => 1
  | k + 1 => prodF f k * f k
structure SmithOk (n m : Nat) (G : Mat) (z : St) : Prop where
  shs : Shs n m z
  eq : z.S = mulM m m (mulM n m z.U G) z.V
  du : (detF n z.U).natAbs = 1
  dv : (detF m z.V).natAbs = 1
  bs : Bd (2 ^ 24) z.S
  bu : Bd (2 ^ 24) z.U
  bv : Bd (2 ^ 24) z.V
  diag : ∀ i j, i ≠ j → el z.S i j = 0
  pos : ∀ i, 0 ≤ el z.S i i
  prod : ∀ k, k < min n m → prodF (fun i => el z.S i i) (k + 1) = (divisor ((parts G (k + 1) n m).map (detF (k + 1))) : Nat)
  dvd : ∀ k, k + 1 < min n m → if el z.S k k = 0 then el z.S (k + 1) (k + 1) = 0 else (el z.S (k + 1) (k + 1)).fmod (el z.S k k) = 0
structure LawOk (ok : Int → Int → Prop) (n m : Nat) (G : Mat) : Prop where
  eq : (hermite G m).1 = mulM n m (hermite G m).2 G
  du : (detF n (hermite G m).2).natAbs = 1
  steps : ∃ r piv, Steps (hermite G m).1 n m r piv
  sh : Sh n m (hermite G m).1
  su : Sh n n (hermite G m).2
  bu : Bd (2 ^ 24) (hermite G m).2
  smith : ∃ N z, Run ok n m N ⟨G, unitRows n, unitRows m, 0⟩ z ∧ SmithOk n m G z
theorem Bd.mul {B C p w : Nat} {X Y : Mat} (hX : Bd B X) (hY : Bd C Y) (hp : p ≤ 4) : Bd (B + C + 2) (mulM p w X Y) := fun x hx y hy => by
  unfold mulM at hx
  obtain ⟨z, hz, rfl⟩ := List.mem_map.mp hx
  obtain ⟨j, _, rfl⟩ := tab_mem hy
  exact psum_lt (fun t => mul_lt_two (hX.getD hz t) (hY.el t j)) hp
theorem prodF_lt {f : Nat → Int} {B : Nat} (h : ∀ i, (f i).natAbs < 2 ^ B) (hB : 0 < B) : ∀ k, (prodF f k).natAbs < 2 ^ (k * B + 1)
  | 0 => by simp [prodF]
  | k + 1 => by
    have := mul_lt_two (prodF_lt h hB k) (h k)
    show (prodF f k * f k).natAbs < _
    rw [Nat.succ_mul]
    exact lt_mono this (by lia)
theorem subM_sh {G : Mat} {ls ss : List Int} {k : Nat} (h1 : ls.length = k) (h2 : ss.length = k) : Sh k k (subM G ls ss) := ⟨by simp [subM, h1], fun x hx => by
  unfold subM at hx
  obtain ⟨i, _, rfl⟩ := List.mem_map.mp hx
  simp [h2]⟩
theorem subM_bd {G : Mat} {B : Nat} (b : Bd B G) (ls ss : List Int) : Bd B (subM G ls ss) := fun x hx y hy => by
  unfold subM at hx
  obtain ⟨i, _, rfl⟩ := List.mem_map.mp hx
  obtain ⟨j, _, rfl⟩ := List.mem_map.mp hy
  exact b.el _ _
theorem parts_mem {G : Mat} {k n m : Nat} {P : Mat} (h : P ∈ parts G k n m) : ∃ ls ∈ chI k n, ∃ ss ∈ chI k m, P = subM G ls ss := by
  unfold parts partsRow at h
  obtain ⟨ls, h1, h2⟩ := List.mem_flatMap.mp h
  obtain ⟨ss, h3, h4⟩ := List.mem_map.mp h2
  exact ⟨ls, h1, ss, h3, h4.symm⟩
theorem parts_ok {G : Mat} {k n m B : Nat} (hk : k ≤ 3) (hn : n ≤ 3) (hm : m ≤ 3) (b : Bd B G) {P : Mat} (h : P ∈ parts G k n m) : Sh k k P ∧ Bd B P := by
  obtain ⟨ls, h1, ss, h2, rfl⟩ := parts_mem h
  exact ⟨subM_sh ((chI_few k (by lia) n (by lia)).2 ls h1) ((chI_few k (by lia) m (by lia)).2 ss h2), subM_bd b ls ss⟩
theorem parts_len {G : Mat} {k n m : Nat} (hk : k ≤ 3) (hn : n ≤ 3) (hm : m ≤ 3) : (parts G k n m).length ≤ 100 := by
  have h1 := (chI_few k (by lia) n (by lia)).1
  have h2 := (chI_few k (by lia) m (by lia)).1
  unfold parts
  have : ∀ l : List (List Int), (l.flatMap (partsRow G k m)).length ≤ 3 * l.length := by
    intro l
    induction l with
    | nil => simp
    | cons x r ih =>
      rw [List.flatMap_cons, List.length_append]
      have : (partsRow G k m x).length ≤ 3 := by unfold partsRow; rw [List.length_map]; exact h2
      simp only [List.length_cons]; lia
  have := this (chI k n)
  lia
theorem tab_mapM (Ps : List Mat) (f : Mat → Int) : tab Ps.length (fun q => f (Ps.getD q [])) = Ps.map f := by
  refine List.ext_getElem (by simp [tab]) fun i h1 h2 => ?_
  have hi : i < Ps.length := by simpa using h2
  simp [tab, List.getD_eq_getElem?_getD, hi]
end Mine

/-! the plain law: matrices as functions, products, determinants -/
namespace Mine
noncomputable abbrev FM := Nat → Nat → Int
noncomputable def fm (k : Nat) (X Y : FM) : FM := fun i j => psum (fun t => X i t * Y t j) k
theorem psum_mul_left (c : Int) (f : Nat → Int) (k : Nat) : psum (fun t => c * f t) k = c * psum f k := by
  induction k with
  | zero => simp [psum]
  | succ k ih => simp only [psum, ih, Int.mul_add]
theorem psum_mul_right (c : Int) (f : Nat → Int) (k : Nat) : psum (fun t => f t * c) k = psum f k * c := by
  induction k with
  | zero => simp [psum]
  | succ k ih => simp only [psum, ih, Int.add_mul]
theorem psum_add (f g : Nat → Int) (k : Nat) : psum (fun t => f t + g t) k = psum f k + psum g k := by
  induction k with
  | zero => simp [psum]
  | succ k ih => simp only [psum, ih]; lia
theorem psum_zero (k : Nat) : psum (fun _ => 0) k = 0 := by
  induction k with
  | zero => rfl
  | succ k ih => simp only [psum, ih]; rfl
theorem psum_fubini (f : Nat → Nat → Int) (n m : Nat) : psum (fun t => psum (fun r => f t r) m) n = psum (fun r => psum (fun t => f t r) n) m := by
  induction n with
  | zero => simp only [psum]; exact (psum_zero m).symm
  | succ n ih => simp only [psum, ih]; rw [← psum_add]
theorem psum_dvd {d : Int} {f : Nat → Int} {k : Nat} (h : ∀ i, i < k → d ∣ f i) : d ∣ psum f k := by
  induction k with
  | zero => exact Int.dvd_zero d
  | succ k ih => exact Int.dvd_add (ih fun i hi => h i (by lia)) (h k (by lia))
theorem psum_one {f : Nat → Int} {i k : Nat} (hi : i < k) (h : ∀ t, t ≠ i → f t = 0) : psum f k = f i := by
  induction k with
  | zero => lia
  | succ k ih =>
    unfold psum
    by_cases hk : i = k
    · subst hk
      rw [psum_congr (g := fun _ => 0) fun t ht => h t (by lia), psum_zero]; lia
    · rw [ih (by lia), h k (by lia)]; lia
theorem fm_assoc (n m : Nat) (X Y Z : FM) : fm m (fm n X Y) Z = fm n X (fm m Y Z) := by
  funext i j
  unfold fm
  rw [psum_congr (g := fun t => psum (fun r => X i r * Y r t * Z t j) n) fun t _ => (psum_mul_right _ _ _).symm, psum_fubini]
  refine psum_congr fun r _ => ?_
  rw [← psum_mul_left]
  exact psum_congr fun t _ => by rw [Int.mul_assoc]
/-- the unit -/
noncomputable def idF : FM := fun a b => if a = b then 1 else 0
theorem fm_id_left {n : Nat} {Y : FM} {i j : Nat} (hi : i < n) : fm n idF Y i j = Y i j := by
  unfold fm
  rw [psum_one hi]
  · simp [idF]
  · intro t ht; simp [idF, Ne.symm ht]
theorem fm_id_right {m : Nat} {Y : FM} {i j : Nat} (hj : j < m) : fm m Y idF i j = Y i j := by
  unfold fm
  rw [psum_one hj]
  · simp [idF]
  · intro t ht; simp [idF, ht]
noncomputable def dN : Nat → FM → Int
  | 1, X => X 0 0
  | 2, X => X 0 0 * X 1 1 - X 0 1 * X 1 0
  | 3, X => X 0 0 * (X 1 1 * X 2 2 - X 1 2 * X 2 1) - X 0 1 * (X 1 0 * X 2 2 - X 1 2 * X 2 0) + X 0 2 * (X 1 0 * X 2 1 - X 1 1 * X 2 0)
  | _, _ => 1
theorem dN_mul {n : Nat} (hn : n ≤ 3) (X Y : FM) : dN n (fm n X Y) = dN n X * dN n Y := by
  match n, hn with
  | 0, _ => rfl
  | 1, _ => simp [dN, fm, psum]
  | 2, _ => simp only [dN, fm, psum]; grind
  | 3, _ => simp only [dN, fm, psum]; grind
theorem dN_congr {n : Nat} (hn : n ≤ 3) {X Y : FM} (h : ∀ a b, a < n → b < n → X a b = Y a b) : dN n X = dN n Y := by
  match n, hn with
  | 0, _ => rfl
  | 1, _ => simp only [dN, h 0 0 (by lia) (by lia)]
  | 2, _ => simp only [dN, h 0 0 (by lia) (by lia), h 0 1 (by lia) (by lia), h 1 0 (by lia) (by lia), h 1 1 (by lia) (by lia)]
  | 3, _ => simp only [dN, h 0 0 (by lia) (by lia), h 0 1 (by lia) (by lia), h 0 2 (by lia) (by lia), h 1 0 (by lia) (by lia), h 1 1 (by lia) (by lia), h 1 2 (by lia) (by lia), h 2 0 (by lia) (by lia), h 2 1 (by lia) (by lia), h 2 2 (by lia) (by lia)]
theorem el_minor {n m : Nat} {M : Mat} (h : Sh (n + 1) (m + 1) M) {j : Nat} (hj : j < m + 1) (a b : Nat) : el (minor M j) a b = el M (a + 1) (if b < j then b else b + 1) := by
  rcases Nat.lt_or_ge a n with ha | ha
  · unfold el row minor
    have hr : a + 1 < M.length := by rw [h.1]; lia
    have hl : (M[a + 1]).length = m + 1 := h.2 _ (List.getElem_mem hr)
    rw [List.getD_eq_getElem?_getD (l := List.map _ _), List.getElem?_map, List.getElem?_drop, Nat.add_comm 1 a, List.getElem?_eq_getElem hr]
    rw [List.getD_eq_getElem?_getD (l := M), List.getElem?_eq_getElem hr]
    simp only [Option.map_some, Option.getD_some]
    rw [List.getD_eq_getElem?_getD, List.getD_eq_getElem?_getD, List.getElem?_append]
    rw [List.length_take, hl, Nat.min_eq_left (by lia)]
    split
    · rename_i q; rw [List.getElem?_take, if_pos q]
    · rename_i q; rw [List.getElem?_drop]; congr 2; lia
  · rw [el_out (h.minor hj) (.inl ha), el_out h (.inl (by lia))]
theorem sgn_val : sgn 0 = 1 ∧ sgn 1 = -1 ∧ sgn 2 = 1 := by decide
theorem detF1 {M : Mat} : detF 1 M = el M 0 0 := by
  simp [detF, psum, sgn_val.1]
theorem detF2 {M : Mat} (h : Sh 2 2 M) : detF 2 M = dN 2 (el M) := by
  show psum _ 2 = _
  simp only [psum, detF1, sgn_val.1, sgn_val.2.1, el_minor (n := 1) (m := 1) h (show 0 < 2 by lia), el_minor (n := 1) (m := 1) h (show 1 < 2 by lia), dN]
  simp; grind
theorem detF3 {M : Mat} (h : Sh 3 3 M) : detF 3 M = dN 3 (el M) := by
  show psum _ 3 = _
  simp only [psum, detF2 (Sh.minor (n := 2) (m := 2) h (show 0 < 3 by lia)), detF2 (Sh.minor (n := 2) (m := 2) h (show 1 < 3 by lia)), detF2 (Sh.minor (n := 2) (m := 2) h (show 2 < 3 by lia)), sgn_val.1, sgn_val.2.1, sgn_val.2.2, dN,
    el_minor (n := 2) (m := 2) h (show 0 < 3 by lia), el_minor (n := 2) (m := 2) h (show 1 < 3 by lia), el_minor (n := 2) (m := 2) h (show 2 < 3 by lia)]
  simp; grind
theorem detF_eq {n : Nat} {M : Mat} (h : Sh n n M) (hn : n ≤ 3) : detF n M = dN n (el M) := by
  match n, hn with
  | 0, _ => rfl
  | 1, _ => exact detF1
  | 2, _ => exact detF2 h
  | 3, _ => exact detF3 h
theorem mat_ext {n m : Nat} {M N : Mat} (h : Sh n m M) (h' : Sh n m N) (e : ∀ i j, i < n → j < m → el M i j = el N i j) : M = N := by
  refine List.ext_getElem (by rw [h.1, h'.1]) fun i h1 h2 => ?_
  have l1 := h.2 _ (List.getElem_mem h1)
  have l2 := h'.2 _ (List.getElem_mem h2)
  refine List.ext_getElem (by rw [l1, l2]) fun j k1 k2 => ?_
  have := e i j (by rw [← h.1]; exact h1) (by rw [← l1]; exact k1)
  unfold el row at this
  simpa [List.getD_eq_getElem?_getD, h1, h2, k1, k2] using this
theorem el_mulM {n p k w : Nat} {X Y : Mat} (h : Sh n p X) {i j : Nat} (hi : i < n) (hj : j < w) : el (mulM k w X Y) i j = fm k (el X) (el Y) i j := by
  unfold mulM
  rw [el_map h _ i j hi, tab_get hj]; rfl
theorem el_unit {n : Nat} {i j : Nat} (hi : i < n) (hj : j < n) : el (unitRows n) i j = idF i j := by
  unfold el row unitRows
  rw [List.getD_eq_getElem?_getD (l := List.map _ _), List.getElem?_map, List.getElem?_range hi]
  simp only [Option.map_some, Option.getD_some]
  rw [tab_get hj]; rfl
end Mine

/-! the plain law: elementary steps -/
namespace Mine
structure Elem (n k : Nat) (e : FM) : Prop where
  top : ∀ a t, a < k → e a t = idF a t
  low : ∀ a t, k ≤ a → t < k → e a t = 0
  det : (dN n e).natAbs = 1
noncomputable def tr (e : FM) : FM := fun a b => e b a
theorem dN_tr (n : Nat) (X : FM) : dN n (tr X) = dN n X := by
  unfold tr
  match n with
  | 0 => rfl
  | 1 => rfl
  | 2 => simp only [dN]; grind
  | 3 => simp only [dN]; grind
  | _ + 4 => rfl
inductive Ops (n m k : Nat) : St → St → Prop
  | refl (x : St) : Ops n m k x x
  | row {x y z : St} {e : FM} : Ops n m k x y → Elem n k e → el z.S = fm n e (el y.S) → el z.U = fm n e (el y.U) → z.V = y.V → Shs n m z → Ops n m k x z
  | col {x y z : St} {e : FM} : Ops n m k x y → Elem m k e → el z.S = fm m (el y.S) (tr e) → el z.V = fm m (el y.V) (tr e) → z.U = y.U → Shs n m z → Ops n m k x z
theorem Ops.trans {n m k : Nat} {x y z : St} (h : Ops n m k x y) (h' : Ops n m k y z) : Ops n m k x z := by
  induction h' with
  | refl => exact h
  | row _ a b c d e ih => exact .row ih a b c d e
  | col _ a b c d e ih => exact .col ih a b c d e
theorem Elem.le {n k k' : Nat} {e : FM} (h : Elem n k e) (hk : k' ≤ k) : Elem n k' e := ⟨fun a t q => h.top a t (by lia), fun a t q z => by
  by_cases ha : a < k
  · rw [h.top a t ha]; unfold idF; rw [if_neg (by lia)]
  · exact h.low a t (by lia) (by lia), h.det⟩

structure Lin (n m : Nat) (G : Mat) (x : St) : Prop where
  sh : Shs n m x
  lin : el x.S = fm m (fm n (el x.U) (el G)) (el x.V)
  du : (dN n (el x.U)).natAbs = 1
  dv : (dN m (el x.V)).natAbs = 1
theorem Lin.ops {n m k : Nat} {G : Mat} {x y : St} (hn : n ≤ 3) (hm : m ≤ 3) (h : Lin n m G x) (o : Ops n m k x y) : Lin n m G y := by
  induction o with
  | refl => exact h
  | row _ E hS hU hV hsh ih =>
    refine ⟨hsh, ?_, ?_, by rw [hV]; exact ih.dv⟩
    · rw [hS, hU, hV, ih.lin, ← fm_assoc, fm_assoc n n]
    · rw [hU, dN_mul hn, Int.natAbs_mul, E.det, ih.du]
  | col _ E hS hV hU hsh ih =>
    refine ⟨hsh, ?_, by rw [hU]; exact ih.du, ?_⟩
    · rw [hS, hV, hU, ih.lin, fm_assoc]
    · rw [hV, dN_mul hm, Int.natAbs_mul, dN_tr, E.det, ih.dv]

/-- the first k lines and columns stand apart -/
structure Blk (k : Nat) (x : St) : Prop where
  z1 : ∀ i j, i < k → i ≠ j → el x.S i j = 0
  z2 : ∀ i j, i < k → i ≠ j → el x.S j i = 0
  pos : ∀ i, i < k → 0 < el x.S i i
  dv : ∀ i, i < k → ∀ a b, i ≤ a → i ≤ b → el x.S i i ∣ el x.S a b
theorem Elem.keep {n k : Nat} {e Y : FM} (E : Elem n k e) {i : Nat} (hi : i < k) (hk : k ≤ n) (j : Nat) : fm n e Y i j = Y i j := by
  unfold fm
  rw [psum_one (i := i) (by lia)]
  · rw [E.top i i hi]; simp [idF]
  · intro t ht; rw [E.top i t hi]; simp [idF, Ne.symm ht]
theorem Elem.keepZ {n k : Nat} {e Y : FM} (E : Elem n k e) (hk : k ≤ n) {i j : Nat} (hi : i < k) (hij : i ≠ j) (z : ∀ t, t ≠ i → Y t i = 0) : fm n e Y j i = 0 := by
  unfold fm
  rw [psum_one (i := i) (by lia)]
  · by_cases hj : j < k
    · rw [E.top j i hj]; simp [idF, Ne.symm hij]
    · rw [E.low j i (by lia) hi]; simp
  · intro t ht; rw [z t ht]; simp
theorem fm_tr (m : Nat) (X e : FM) (i j : Nat) : fm m X (tr e) i j = fm m e (tr X) j i := by
  unfold fm tr
  exact psum_congr fun t _ => Int.mul_comm _ _
theorem Blk.ops {n m k : Nat} {x y : St} (hn : k ≤ n) (hm : k ≤ m) (h : Blk k x) (o : Ops n m k x y) : Blk k y := by
  induction o with
  | refl => exact h
  | row _ E hS hU hV hsh ih =>
    have same : ∀ i, i < k → ∀ j, el _ i j = el _ i j := fun i hi j => (congrFun (congrFun hS i) j).trans (E.keep hi hn j)
    refine ⟨fun i j hi hij => (same i hi j).trans (ih.z1 i j hi hij), fun i j hi hij => ?_, fun i hi => by rw [same i hi]; exact ih.pos i hi, fun i hi a b ha hb => ?_⟩
    · rw [hS]; exact E.keepZ hn hi hij fun t ht => ih.z2 i t hi (Ne.symm ht)
    · rw [same i hi, hS]
      refine psum_dvd fun t _ => ?_
      by_cases ht : i ≤ t
      · exact Int.dvd_mul_of_dvd_right (ih.dv i hi t b ht hb)
      · rw [ih.z1 t b (by lia) (by lia)]; simp
  | col _ E hS hV hU hsh ih =>
    have same : ∀ i, i < k → ∀ j, el _ j i = el _ j i := fun i hi j => (congrFun (congrFun hS j) i).trans ((fm_tr ..).trans (E.keep hi hm j))
    refine ⟨fun i j hi hij => ?_, fun i j hi hij => (same i hi j).trans (ih.z2 i j hi hij), fun i hi => by rw [same i hi]; exact ih.pos i hi, fun i hi a b ha hb => ?_⟩
    · rw [hS, fm_tr]; exact E.keepZ hm hi hij fun t ht => ih.z1 i t hi (Ne.symm ht)
    · rw [same i hi, hS]
      refine psum_dvd fun t _ => ?_
      by_cases ht : i ≤ t
      · exact Int.dvd_mul_of_dvd_left (ih.dv i hi a t ha ht)
      · rw [ih.z2 t a (by lia) (by lia)]; simp

/-! the steps of the text -/
noncomputable def eSwap (i j : Nat) : FM := fun a t => if a = j then idF i t else if a = i then idF j t else idF a t
noncomputable def eSub (i j : Nat) (q : Int) : FM := fun a t => if a = i then idF i t - q * idF j t else idF a t
noncomputable def eNeg (i : Nat) : FM := fun a t => if a = i then -idF i t else idF a t
noncomputable def eComb (i j : Nat) (s t' u v : Int) : FM := fun a t => if a = j then u * idF i t + v * idF j t else if a = i then s * idF i t + t' * idF j t else idF a t
theorem fm_id_out {n : Nat} {Y : FM} {a b : Nat} (ha : n ≤ a) : fm n idF Y a b = 0 := by
  unfold fm
  rw [psum_congr (g := fun _ => 0) fun t ht => by simp only [idF]; rw [if_neg (by lia)]; simp, psum_zero]
theorem fm_row {n m : Nat} {M : Mat} (h : Sh n m M) (a b : Nat) : fm n idF (el M) a b = el M a b := by
  rcases Nat.lt_or_ge a n with q | q
  · exact fm_id_left q
  · rw [fm_id_out q, el_out h (.inl q)]
theorem fm_at (n : Nat) (e Y : FM) (a b : Nat) (g : Nat → Int) (h : ∀ t, e a t = g t) : fm n e Y a b = psum (fun t => g t * Y t b) n := psum_congr fun t _ => by rw [h t]
theorem el_id {n m : Nat} {M : Mat} (h : Sh n m M) (a b : Nat) : psum (fun t => idF a t * el M t b) n = el M a b := fm_row h a b
theorem fm_eSwap {n m : Nat} {M : Mat} (h : Sh n m M) {i k : Nat} (hi : i < n) (hk : k < n) : el (swapRows M i k) = fm n (eSwap i k) (el M) := by
  funext a b
  rw [el_swapRows h hi hk]
  unfold fm eSwap
  by_cases h1 : a = k
  · simp only [if_pos h1]; exact (el_id h i b).symm
  · by_cases h2 : a = i
    · simp only [if_neg h1, if_pos h2]; exact (el_id h k b).symm
    · simp only [if_neg h1, if_neg h2]; exact (el_id h a b).symm
theorem psum_two {n m : Nat} {M : Mat} (h : Sh n m M) (i j : Nat) (s t : Int) (b : Nat) : psum (fun r => (s * idF i r + t * idF j r) * el M r b) n = s * el M i b + t * el M j b := by
  rw [psum_congr (g := fun r => s * (idF i r * el M r b) + t * (idF j r * el M r b)) fun r _ => by rw [Int.add_mul, Int.mul_assoc, Int.mul_assoc], psum_add, psum_mul_left, psum_mul_left, el_id h, el_id h]
theorem fm_eSub {n m : Nat} {M : Mat} (h : Sh n m M) {i : Nat} (hi : i < n) (j : Nat) (q : Int) : el (subRow M i j q) = fm n (eSub i j q) (el M) := by
  funext a b
  rw [el_subRow h hi]
  unfold fm eSub
  by_cases h2 : a = i
  · simp only [if_pos h2]
    have := psum_two h i j 1 (-q) b
    rw [psum_congr (g := fun r => (1 * idF i r + -q * idF j r) * el M r b) fun r _ => by rw [Int.one_mul, Int.neg_mul, Int.sub_eq_add_neg], this]
    rw [Int.one_mul, Int.neg_mul, Int.sub_eq_add_neg]
  · simp only [if_neg h2]; exact (el_id h a b).symm
theorem fm_eNeg {n m : Nat} {M : Mat} (h : Sh n m M) {i : Nat} (hi : i < n) : el (negRow M i) = fm n (eNeg i) (el M) := by
  funext a b
  rw [el_neg h hi]
  unfold fm eNeg
  by_cases h2 : a = i
  · simp only [if_pos h2]
    rw [psum_congr (g := fun r => -1 * (idF i r * el M r b)) fun r _ => by rw [Int.neg_one_mul, Int.neg_mul], psum_mul_left, el_id h]; lia
  · simp only [if_neg h2]; exact (el_id h a b).symm
theorem fm_eComb {n m : Nat} {M : Mat} (h : Sh n m M) {i j : Nat} (hi : i < n) (hj : j < n) (s t u v : Int) : el (combineM M i j s t u v) = fm n (eComb i j s t u v) (el M) := by
  funext a b
  rw [el_combine h hi hj]
  unfold fm eComb
  by_cases h1 : a = j
  · simp only [if_pos h1]; exact (psum_two h i j u v b).symm
  · by_cases h2 : a = i
    · simp only [if_neg h1, if_pos h2]; exact (psum_two h i j s t b).symm
    · simp only [if_neg h1, if_neg h2]; exact (el_id h a b).symm
theorem addRow_sub {n m : Nat} {M : Mat} (h : Sh n m M) {i : Nat} (hi : i < n) (j : Nat) : el (addRow M i j) = el (subRow M i j (-1)) := by
  funext a b
  rw [el_addRow h hi, el_subRow h hi]
  split
  · lia
  · rfl
theorem idF_vals : idF 0 0 = 1 ∧ idF 0 1 = 0 ∧ idF 0 2 = 0 ∧ idF 1 0 = 0 ∧ idF 1 1 = 1 ∧ idF 1 2 = 0 ∧ idF 2 0 = 0 ∧ idF 2 1 = 0 ∧ idF 2 2 = 1 := by decide
theorem few3 {n i : Nat} (hn : n ≤ 3) (hi : i < n) : i = 0 ∨ i = 1 ∨ i = 2 := by lia
theorem dN_eComb {n i j : Nat} (hn : n ≤ 3) (hi : i < n) (hj : j < n) (hij : i ≠ j) (s t u v : Int) : dN n (eComb i j s t u v) = s * v - t * u := by
  have cn : n = 2 ∨ n = 3 := by lia
  have ci := few3 hn hi
  have cj := few3 hn hj
  rcases cn with rfl | rfl <;> rcases ci with rfl | rfl | rfl <;> rcases cj with rfl | rfl | rfl <;> first | exact absurd rfl hij | exact absurd hi (by decide) | exact absurd hj (by decide) | (simp [dN, eComb, idF]; done) | (simp [dN, eComb, idF]; grind)
theorem eSub_comb (i j : Nat) (hij : i ≠ j) (q : Int) : eSub i j q = eComb i j 1 (-q) 0 1 := by
  funext a t
  unfold eSub eComb
  by_cases h2 : a = i
  · subst h2; rw [if_pos rfl, if_neg hij, if_pos rfl]; rw [Int.one_mul, Int.neg_mul, Int.sub_eq_add_neg]
  · rw [if_neg h2]
    by_cases h1 : a = j
    · subst h1; rw [if_pos rfl]; simp
    · rw [if_neg h1, if_neg h2]
theorem dN_id {n : Nat} (hn : n ≤ 3) : dN n idF = 1 := by
  match n, hn with
  | 0, _ => rfl
  | 1, _ => rfl
  | 2, _ => rfl
  | 3, _ => rfl
theorem eSwap_same (i : Nat) : eSwap i i = idF := by
  funext a t
  unfold eSwap
  by_cases h : a = i
  · subst h; rw [if_pos rfl]
  · rw [if_neg h, if_neg h]
theorem eSwap_comb (i j : Nat) (_hij : i ≠ j) : eSwap i j = eComb i j 0 1 1 0 := by
  funext a t
  unfold eSwap eComb
  simp
theorem dN_eNeg {n i : Nat} (hn : n ≤ 3) (hi : i < n) : dN n (eNeg i) = -1 := by
  have cn : n = 1 ∨ n = 2 ∨ n = 3 := by lia
  have ci := few3 hn hi
  rcases cn with rfl | rfl | rfl <;> rcases ci with rfl | rfl | rfl <;> first | exact absurd hi (by decide) | (simp [dN, eNeg, idF]; done)
theorem idF_ne {a t : Nat} (h : a ≠ t) : idF a t = 0 := if_neg h
theorem Elem.comb {n k i j : Nat} {s t u v : Int} (hn : n ≤ 3) (hi : i < n) (hj : j < n) (hij : i ≠ j) (hki : k ≤ i) (hkj : k ≤ j) (hd : (s * v - t * u).natAbs = 1) : Elem n k (eComb i j s t u v) where
  top := fun a r ha => by unfold eComb; rw [if_neg (by lia), if_neg (by lia)]
  low := fun a r ha hr => by
    unfold eComb
    rw [idF_ne (show i ≠ r by lia), idF_ne (show j ≠ r by lia), idF_ne (show a ≠ r by lia)]
    simp
  det := by rw [dN_eComb hn hi hj hij]; exact hd
theorem Elem.swap {n k i j : Nat} (hn : n ≤ 3) (hi : i < n) (hj : j < n) (hki : k ≤ i) (hkj : k ≤ j) : Elem n k (eSwap i j) := by
  by_cases hij : i = j
  · subst hij
    rw [eSwap_same]
    exact ⟨fun _ _ _ => rfl, fun a t ha ht => idF_ne (by lia), by rw [dN_id hn]; rfl⟩
  · rw [eSwap_comb i j hij]
    exact .comb hn hi hj hij hki hkj (by decide)
theorem Elem.sub {n k i j : Nat} (hn : n ≤ 3) (hi : i < n) (hj : j < n) (hij : i ≠ j) (hki : k ≤ i) (hkj : k ≤ j) (q : Int) : Elem n k (eSub i j q) := by
  rw [eSub_comb i j hij]
  exact .comb hn hi hj hij hki hkj (by simp)
theorem Elem.neg {n k i : Nat} (hn : n ≤ 3) (hi : i < n) (hki : k ≤ i) : Elem n k (eNeg i) where
  top := fun a r ha => by unfold eNeg; rw [if_neg (by lia)]
  low := fun a r ha hr => by
    unfold eNeg
    rw [idF_ne (show i ≠ r by lia), idF_ne (show a ≠ r by lia)]
    simp
  det := by rw [dN_eNeg hn hi]; rfl
end Mine

/-! the plain law: the steps of smith_form are elementary; what a cleared cross looks like -/
namespace Mine
theorem el_idR {n m : Nat} {M : Mat} (h : Sh n m M) (a b : Nat) : psum (fun t => el M a t * idF b t) m = el M a b := by
  rcases Nat.lt_or_ge b m with q | q
  · rw [psum_one q]
    · simp [idF]
    · intro t ht; rw [idF_ne (Ne.symm ht)]; simp
  · rw [el_out h (.inr q), psum_congr (g := fun _ => 0) fun t ht => by rw [idF_ne (show b ≠ t by lia)]; simp, psum_zero]
theorem fm_cSwap {n m : Nat} {M : Mat} (h : Sh n m M) {j k : Nat} (hj : j < m) (hk : k < m) : el (swapCols M j k) = fm m (el M) (tr (eSwap j k)) := by
  funext a b
  rw [el_swapCols h hj hk]
  unfold fm tr eSwap
  by_cases h1 : b = k
  · simp only [if_pos h1]; exact (el_idR h a j).symm
  · by_cases h2 : b = j
    · simp only [if_neg h1, if_pos h2]; exact (el_idR h a k).symm
    · simp only [if_neg h1, if_neg h2]; exact (el_idR h a b).symm
theorem fm_cSub {n m : Nat} {M : Mat} (h : Sh n m M) {c : Nat} (hc : c < m) (k : Nat) (q : Int) : el (subCol M c k q) = fm m (el M) (tr (eSub c k q)) := by
  funext a b
  rw [el_subCol h hc]
  unfold fm tr eSub
  by_cases h2 : b = c
  · simp only [if_pos h2]
    rw [psum_congr (g := fun t => el M a t * idF c t + -q * (el M a t * idF k t)) fun t _ => by rw [Int.mul_sub]; grind, psum_add, psum_mul_left, el_idR h, el_idR h]
    rw [Int.neg_mul, Int.sub_eq_add_neg]
  · simp only [if_neg h2]; exact (el_idR h a b).symm
theorem fm_unit {n m : Nat} {M : Mat} (h : Sh n m M) : el M = fm n idF (el M) := by funext a b; exact (fm_row h a b).symm
theorem Elem.id {n k : Nat} (hn : n ≤ 3) : Elem n k idF := ⟨fun _ _ _ => rfl, fun a t ha ht => idF_ne (by lia), by rw [dN_id hn]; rfl⟩
theorem Ops.setK {n m k : Nat} {x y : St} (hn : n ≤ 3) (o : Ops n m k x y) (sh : Shs n m y) (j : Nat) : Ops n m k x ⟨y.S, y.U, y.V, j⟩ :=
  .row o (Elem.id hn) (fm_unit sh.s) (fm_unit sh.u) rfl ⟨sh.s, sh.u, sh.v⟩
theorem Shs.ops {n m k : Nat} {x y : St} (h : Shs n m x) (o : Ops n m k x y) : Shs n m y := by cases o <;> assumption
section
variable {n m : Nat} {x : St} (hn : n ≤ 3) (hm : m ≤ 3) (h : Shs n m x) (hk : x.k < n) (hkm : x.k < m)
include hn hm h hk hkm
theorem ops_bring {i j : Nat} (hi : i < n) (hj : j < m) (hki : x.k ≤ i) (hkj : x.k ≤ j) : Ops n m x.k x (bringM x i j) := by
  have h1 : Shs n m ⟨swapRows x.S i x.k, swapRows x.U i x.k, x.V, x.k⟩ := ⟨h.s.swapRows hi hk, h.u.swapRows hi hk, h.v⟩
  exact .col (.row (z := ⟨swapRows x.S i x.k, swapRows x.U i x.k, x.V, x.k⟩) (.refl x) (Elem.swap hn hi hk hki (Nat.le_refl _)) (fm_eSwap h.s hi hk) (fm_eSwap h.u hi hk) rfl h1)
    (Elem.swap hm hj hkm hkj (Nat.le_refl _)) (fm_cSwap h1.s hj hkm) (fm_cSwap h1.v hj hkm) rfl (h.bring hi hk)
theorem ops_crossRows (l : Int) : ∀ q, x.k + 1 + q ≤ n → Ops n m x.k x (crossRows l q (x, true)).1
  | 0, _ => .refl x
  | q + 1, hq => by
    have o := ops_crossRows l q (by lia)
    have sh := h.ops o
    have e := crossRows_k l q (x, true)
    rw [crossRows_succ]
    generalize crossRows l q (x, true) = p at *
    have hi : p.1.k + 1 + q < n := by rw [e]; show x.k + 1 + q < n; lia
    have hk' : p.1.k < n := by rw [e]; exact hk
    refine .row o (Elem.sub hn hi hk' (by lia) (by rw [e]; show x.k ≤ x.k + 1 + q; lia) (by rw [e]; exact Nat.le_refl _) ((el p.1.S (p.1.k + 1 + q) p.1.k).fdiv l)) (fm_eSub sh.s hi _ _) (fm_eSub sh.u hi _ _) rfl ⟨sh.s.sub hi _ _, sh.u.sub hi _ _, sh.v⟩
theorem ops_crossCols {p : St × Bool} (o : Ops n m x.k x p.1) (e : p.1.k = x.k) (l : Int) : ∀ q, x.k + 1 + q ≤ m → Ops n m x.k x (crossCols l q p).1
  | 0, _ => o
  | q + 1, hq => by
    have o := ops_crossCols o e l q (by lia)
    have sh := h.ops o
    have e := (crossCols_k l q p).trans e
    rw [crossCols_succ]
    generalize crossCols l q p = p at *
    have hi : p.1.k + 1 + q < m := by rw [e]; lia
    have hk' : p.1.k < m := by rw [e]; exact hkm
    refine .col o (Elem.sub hm hi hk' (by lia) (by lia) (by lia) ((el p.1.S p.1.k (p.1.k + 1 + q)).fdiv l)) (fm_cSub sh.s hi _ _) (fm_cSub sh.v hi _ _) rfl ⟨sh.s.subCol _ _ _, sh.u, sh.v.subCol _ _ _⟩
theorem ops_crossed : Ops n m x.k x (crossed n m x).1 := by
  unfold crossed
  exact ops_crossCols hn hm h hk hkm (ops_crossRows hn hm h hk hkm _ _ (by lia)) (crossRows_k _ _ _) _ _ (by lia)
theorem ops_settle : Ops n m x.k x (settle n m x) := by
  unfold settle
  split
  · rename_i r hr
    obtain ⟨r1, r2, _⟩ := undivFind_in hr
    have hrn : r < n := by lia
    refine .row (.refl x) (Elem.sub hn hk hrn (by lia) (Nat.le_refl _) (by lia) (-1)) ?_ ?_ rfl ⟨h.s.add hk _, h.u.add hk _, h.v⟩
    · exact (addRow_sub h.s hk r).trans (fm_eSub h.s hk r (-1))
    · exact (addRow_sub h.u hk r).trans (fm_eSub h.u hk r (-1))
  · split
    · exact .row (.refl x) (Elem.neg hn hk (Nat.le_refl _)) (fm_eNeg h.s hk) (fm_eNeg h.u hk) rfl ⟨h.s.neg hk, h.u.neg hk, h.v⟩
    · exact Ops.setK hn (.refl x) h _
end
theorem least_in {S : Mat} {k n m : Nat} (hn : k ≤ n) (hm : k ≤ m) {p : Nat × Nat} (h : least S k n m = some p) : k ≤ p.1 ∧ p.1 < n ∧ k ≤ p.2 ∧ p.2 < m := In.rows (by lia) hm p h
theorem ops_step {n m : Nat} {x y : St} (hn : n ≤ 3) (hm : m ≤ 3) (h : Shs n m x) (hs : smithStep n m x = some y) : Ops n m x.k x y := by
  by_cases hlt : x.k < min n m
  · have hk : x.k < n := by lia
    have hkm : x.k < m := by lia
    cases hl : least x.S x.k n m with
    | none => rw [smithStep_none hl] at hs; cases hs
    | some p =>
      obtain ⟨i1, i2, i3, i4⟩ := least_in (by lia) (by lia) hl
      have o1 := ops_bring hn hm h hk hkm i2 i4 i1 i3
      have h1 := h.ops o1
      have o2 := ops_crossed hn hm h1 hk hkm
      have h2 := h1.ops o2
      have e := crossed_k n m (bringM x p.1 p.2)
      cases hd : (crossed n m (bringM x p.1 p.2)).2 with
      | false =>
        rw [smithStep_not hlt hl hd] at hs
        cases hs; exact o1.trans o2
      | true =>
        rw [smithStep_done hlt hl hd] at hs
        cases hs
        have e' : (crossed n m (bringM x p.1 p.2)).1.k = x.k := e
        have o3 := ops_settle (x := (crossed n m (bringM x p.1 p.2)).1) hn hm h2 (by rw [e']; exact hk) (by rw [e']; exact hkm)
        rw [e'] at o3
        exact (o1.trans o2).trans o3
  · rw [smithStep_end hlt] at hs; cases hs

/-! a cleared cross -/
noncomputable def mid (n : Nat) (S : FM) (k : Nat) : FM := fun i j => if k < i then S i j - (S i k).fdiv (S k k) * S k j else S i j
section
variable {n m : Nat} {x : St} (h : Shs n m x) (hk : x.k < n) (hkm : x.k < m)
include h hk hkm
theorem el_rows (i j : Nat) : el (crossRows (el x.S x.k x.k) (n - (x.k + 1)) (x, true)).1.S i j = mid n (el x.S) x.k i j := by
  rw [el_crossRows (p := (x, true)) h _ (by show x.k + 1 + _ ≤ n; lia)]
  unfold mid
  show (if x.k < i ∧ i < x.k + 1 + (n - (x.k + 1)) then _ else _) = _
  by_cases hi : x.k < i
  · by_cases h2 : i < n
    · rw [if_pos ⟨hi, by lia⟩, if_pos hi]
    · rw [if_neg (by lia), if_pos hi, el_out h.s (.inl (by lia)), el_out h.s (.inl (by lia))]; simp
  · rw [if_neg (by lia), if_neg hi]
theorem el_crossed (i j : Nat) : el (crossed n m x).1.S i j = if x.k < j then mid n (el x.S) x.k i j - (el x.S x.k j).fdiv (el x.S x.k x.k) * mid n (el x.S) x.k i x.k else mid n (el x.S) x.k i j := by
  have sh := h.crossRows (p := (x, true)) (el x.S x.k x.k) (k := n - (x.k + 1)) (by show x.k + 1 + _ ≤ n; lia)
  have e := crossRows_k (el x.S x.k x.k) (n - (x.k + 1)) (x, true)
  unfold crossed
  rw [el_crossCols sh _ (by rw [e]; show x.k + 1 + _ ≤ m; lia), e]
  simp only [el_rows h hk hkm]
  have hmk : ∀ j, mid n (el x.S) x.k x.k j = el x.S x.k j := fun j => by unfold mid; rw [if_neg (Nat.lt_irrefl _)]
  by_cases hj : x.k < j
  · by_cases h2 : j < m
    · rw [if_pos ⟨hj, by show j < x.k + 1 + _; lia⟩, if_pos hj, hmk]
    · rw [if_neg (by show ¬ (_ ∧ j < x.k + 1 + _); lia), if_pos hj]
      have z : ∀ a, el x.S a j = 0 := fun a => el_out h.s (.inr (by lia))
      rw [z]
      simp
  · rw [if_neg (fun q => hj q.1), if_neg hj]
end
theorem fmod_def (a b : Int) : a - a.fdiv b * b = a.fmod b := fm_eq a b
section
variable {n m : Nat} {x : St} (h : Shs n m x) (hk : x.k < n) (hkm : x.k < m)
include h hk hkm
theorem crossed_col {i : Nat} (hi : x.k < i) : el (crossed n m x).1.S i x.k = (el x.S i x.k).fmod (el x.S x.k x.k) := by
  rw [el_crossed h hk hkm, if_neg (Nat.lt_irrefl _)]
  unfold mid; rw [if_pos hi, fmod_def]
theorem crossed_row {j : Nat} (hj : x.k < j) : el (crossed n m x).1.S x.k j = (el x.S x.k j).fmod (el x.S x.k x.k) := by
  rw [el_crossed h hk hkm, if_pos hj]
  unfold mid; rw [if_neg (Nat.lt_irrefl _), if_neg (Nat.lt_irrefl _), fmod_def]
theorem crossed_in {i j : Nat} (hi : x.k < i) (hj : x.k < j) : el (crossed n m x).1.S i j = el x.S i j - (el x.S i x.k).fdiv (el x.S x.k x.k) * el x.S x.k j - (el x.S x.k j).fdiv (el x.S x.k x.k) * (el x.S i x.k).fmod (el x.S x.k x.k) := by
  rw [el_crossed h hk hkm, if_pos hj]
  unfold mid; rw [if_pos hi, if_pos hi, fmod_def]
theorem rows_flag : ∀ q, x.k + 1 + q ≤ n → (crossRows (el x.S x.k x.k) q (x, true)).2 = true → ∀ i, x.k < i → i < x.k + 1 + q → (el x.S i x.k).fmod (el x.S x.k x.k) = 0
  | 0, _, _, i, h1, h2 => by lia
  | q + 1, hq, hf, i, h1, h2 => by
    have e := crossRows_k (el x.S x.k x.k) q (x, true)
    rw [crossRows_succ] at hf
    unfold crossRow at hf
    simp only [Bool.and_eq_true, decide_eq_true_eq] at hf
    rcases Nat.lt_or_ge i (x.k + 1 + q) with w | w
    · exact rows_flag q (by lia) hf.1 i h1 w
    · have hi : i = x.k + 1 + q := by lia
      have sh := h.crossRows (p := (x, true)) (el x.S x.k x.k) (k := q) (by show x.k + 1 + q ≤ n; lia)
      have hf2 := hf.2
      rw [e, el_subRow sh.s (by show x.k + 1 + q < n; lia)] at hf2
      have e1 := fun a b => el_crossRows (p := (x, true)) h (el x.S x.k x.k) (k := q) (by show x.k + 1 + q ≤ n; lia) a b
      rw [if_pos rfl, e1, e1] at hf2
      simp only [] at hf2
      rw [if_neg (by lia), if_neg (by lia)] at hf2
      rw [hi, ← fmod_def]; exact hf2
theorem cols_flag {p : St × Bool} (sp : Shs n m p.1) (e : p.1.k = x.k) (hrow : ∀ j, el p.1.S x.k j = el x.S x.k j) : ∀ q, x.k + 1 + q ≤ m → (crossCols (el x.S x.k x.k) q p).2 = true → p.2 = true ∧ ∀ j, x.k < j → j < x.k + 1 + q → (el x.S x.k j).fmod (el x.S x.k x.k) = 0
  | 0, _, hf => ⟨hf, fun j h1 h2 => by lia⟩
  | q + 1, hq, hf => by
    have ek := (crossCols_k (el x.S x.k x.k) q p).trans e
    rw [crossCols_succ] at hf
    unfold crossCol at hf
    simp only [Bool.and_eq_true, decide_eq_true_eq] at hf
    obtain ⟨ih1, ih2⟩ := cols_flag sp e hrow q (by lia) hf.1
    refine ⟨ih1, fun j h1 h2 => ?_⟩
    rcases Nat.lt_or_ge j (x.k + 1 + q) with w | w
    · exact ih2 j h1 w
    · have hj : j = x.k + 1 + q := by lia
      have sh := sp.crossCols (el x.S x.k x.k) q
      have hf2 := hf.2
      rw [ek, el_subCol sh.s (by lia)] at hf2
      have e1 := fun a b => el_crossCols sp (el x.S x.k x.k) (k := q) (by rw [e]; lia) a b
      rw [if_pos rfl, e1, e1] at hf2
      rw [e, if_neg (by lia), if_neg (by lia), hrow, hrow] at hf2
      rw [hj, ← fmod_def]; exact hf2
/-- the flag says that the cross is clear -/
theorem crossed_flag (hf : (crossed n m x).2 = true) : (∀ i, x.k < i → el (crossed n m x).1.S i x.k = 0) ∧ ∀ j, x.k < j → el (crossed n m x).1.S x.k j = 0 := by
  have sh := h.crossRows (p := (x, true)) (el x.S x.k x.k) (k := n - (x.k + 1)) (by show x.k + 1 + _ ≤ n; lia)
  have hrow : ∀ j, el (crossRows (el x.S x.k x.k) (n - (x.k + 1)) (x, true)).1.S x.k j = el x.S x.k j := fun j => by
    rw [el_rows h hk hkm]; unfold mid; rw [if_neg (Nat.lt_irrefl _)]
  obtain ⟨f1, f2⟩ := cols_flag h hk hkm sh (crossRows_k _ _ _) hrow (m - (x.k + 1)) (by lia) hf
  have f3 := rows_flag h hk hkm (n - (x.k + 1)) (by lia) f1
  refine ⟨fun i hi => ?_, fun j hj => ?_⟩
  · rw [crossed_col h hk hkm hi]
    rcases Nat.lt_or_ge i n with w | w
    · exact f3 i hi (by lia)
    · rw [el_out h.s (.inl w)]; simp
  · rw [crossed_row h hk hkm hj]
    rcases Nat.lt_or_ge j m with w | w
    · exact f2 j hj (by lia)
    · rw [el_out h.s (.inr w)]; simp
end
end Mine

/-! the plain law: the least spot, a step's law, the end -/
namespace Mine
noncomputable def Best (M : Mat) (Z : Nat → Nat → Prop) : Option (Nat × Nat) → Prop
  | none => ∀ i j, Z i j → el M i j = 0
  | some p => Z p.1 p.2 ∧ el M p.1 p.2 ≠ 0 ∧ ∀ i j, Z i j → el M i j ≠ 0 → (el M p.1 p.2).natAbs ≤ (el M i j).natAbs
theorem Best.step {M : Mat} {Z : Nat → Nat → Prop} {f : Option (Nat × Nat)} (h : Best M Z f) (i j : Nat) : Best M (fun a b => Z a b ∨ (a = i ∧ b = j)) (leastStep M i f j) := by
  unfold leastStep leastBetter
  cases f with
  | none =>
    by_cases hz : el M i j = 0
    · rw [if_neg (by simp [hz])]
      rintro a b (q | ⟨rfl, rfl⟩)
      · exact h a b q
      · exact hz
    · rw [if_pos (by simp; lia)]
      refine ⟨.inr ⟨rfl, rfl⟩, hz, ?_⟩
      rintro a b (q | ⟨rfl, rfl⟩) hn
      · exact absurd (h a b q) hn
      · exact Nat.le_refl _
  | some p =>
    obtain ⟨h1, h2, h3⟩ := h
    by_cases hz : 0 < (el M i j).natAbs ∧ (el M i j).natAbs < (el M p.1 p.2).natAbs
    · rw [if_pos (by simpa using hz)]
      refine ⟨.inr ⟨rfl, rfl⟩, by simp only []; lia, ?_⟩
      rintro a b (q | ⟨rfl, rfl⟩) hn
      · exact Nat.le_of_lt (Nat.lt_of_lt_of_le hz.2 (h3 a b q hn))
      · exact Nat.le_refl _
    · rw [if_neg (by simpa using hz)]
      refine ⟨.inl h1, h2, ?_⟩
      rintro a b (q | ⟨rfl, rfl⟩) hn
      · exact h3 a b q hn
      · lia
theorem Best.congr {M : Mat} {Z Z' : Nat → Nat → Prop} {f : Option (Nat × Nat)} (h : Best M Z f) (e : ∀ i j, Z i j ↔ Z' i j) : Best M Z' f := by
  cases f with
  | none => exact fun i j q => h i j ((e i j).mpr q)
  | some p => exact ⟨(e _ _).mp h.1, h.2.1, fun i j q => h.2.2 i j ((e i j).mpr q)⟩
theorem best_upto {M : Mat} {Z : Nat → Nat → Prop} {f : Option (Nat × Nat)} {st i : Nat} (h : Best M Z f) : ∀ q, Best M (fun a b => Z a b ∨ (a = i ∧ st ≤ b ∧ b < st + q)) (leastUpto M st i q f)
  | 0 => h.congr fun a b => ⟨.inl, fun q => q.elim _root_.id fun z => by lia⟩
  | q + 1 => by
    rw [leastUpto_succ]
    refine ((best_upto h q).step i (st + q)).congr fun a b => ?_
    constructor
    · rintro ((w | w) | w)
      · exact .inl w
      · exact .inr (by lia)
      · exact .inr (by lia)
    · rintro (w | w)
      · exact .inl (.inl w)
      · by_cases hb : b = st + q
        · exact .inr ⟨w.1, hb⟩
        · exact .inl (.inr (by lia))
theorem best_rows {M : Mat} {st w : Nat} (hw : st ≤ w) : ∀ q, Best M (fun a b => (st ≤ a ∧ a < st + q) ∧ st ≤ b ∧ b < w) (leastRows M st w q)
  | 0 => fun i j q => by lia
  | q + 1 => by
    rw [leastRows_succ]
    refine (best_upto (best_rows hw q) (w - st)).congr fun a b => ?_
    constructor
    · rintro (z | z) <;> lia
    · intro z
      by_cases ha : a = st + q
      · exact .inr (by lia)
      · exact .inl (by lia)
theorem least_none {M : Mat} {st n w : Nat} (hw : st ≤ w) (h : least M st n w = none) {i j : Nat} (h1 : st ≤ i) (h2 : i < n) (h3 : st ≤ j) (h4 : j < w) : el M i j = 0 := by
  have := best_rows (M := M) hw (n - st)
  unfold least at h
  rw [h] at this
  exact this i j (by lia)
theorem least_some {M : Mat} {st n w : Nat} (hw : st ≤ w) {p : Nat × Nat} (h : least M st n w = some p) : el M p.1 p.2 ≠ 0 ∧ ∀ i j, st ≤ i → i < n → st ≤ j → j < w → el M i j ≠ 0 → (el M p.1 p.2).natAbs ≤ (el M i j).natAbs := by
  have := best_rows (M := M) hw (n - st)
  unfold least at h
  rw [h] at this
  exact ⟨this.2.1, fun i j a b c d => this.2.2 i j (by lia)⟩
/-- the first spot keeps its place unless something is less -/
noncomputable def First (M : Mat) (k : Nat) (f : Option (Nat × Nat)) : Prop := ∃ p, f = some p ∧ (p = (k, k) ∨ (el M p.1 p.2).natAbs < (el M k k).natAbs)
theorem First.step {M : Mat} {k : Nat} {f : Option (Nat × Nat)} (h : First M k f) (i j : Nat) : First M k (leastStep M i f j) := by
  obtain ⟨p, rfl, hp⟩ := h
  unfold leastStep leastBetter
  by_cases hz : 0 < (el M i j).natAbs ∧ (el M i j).natAbs < (el M p.1 p.2).natAbs
  · rw [if_pos (by simpa using hz)]
    refine ⟨_, rfl, .inr ?_⟩
    rcases hp with rfl | hp
    · exact hz.2
    · exact Nat.lt_trans hz.2 hp
  · rw [if_neg (by simpa using hz)]
    exact ⟨p, rfl, hp⟩
theorem First.upto {M : Mat} {k st i : Nat} {f : Option (Nat × Nat)} (h : First M k f) : ∀ q, First M k (leastUpto M st i q f)
  | 0 => h
  | q + 1 => by rw [leastUpto_succ]; exact (First.upto h q).step _ _
theorem first_row {M : Mat} {k : Nat} (h : el M k k ≠ 0) : ∀ q, First M k (leastUpto M k k (q + 1) none)
  | 0 => by
    refine ⟨(k, k), ?_, .inl rfl⟩
    show leastStep M k none (k + 0) = _
    unfold leastStep leastBetter
    rw [Nat.add_zero, if_pos (by simp; lia)]
  | q + 1 => by rw [leastUpto_succ]; exact (first_row h q).step _ _
theorem first_least {M : Mat} {k n w : Nat} (hn : k < n) (hw : k < w) (h : el M k k ≠ 0) : First M k (least M k n w) := by
  unfold least
  obtain ⟨q, hq⟩ : ∃ q, n - k = q + 1 := ⟨n - k - 1, by lia⟩
  rw [hq]
  clear hq
  induction q with
  | zero =>
    rw [leastRows_succ]
    obtain ⟨r, hr⟩ : ∃ r, w - k = r + 1 := ⟨w - k - 1, by lia⟩
    rw [hr]
    exact first_row h r
  | succ q ih => rw [leastRows_succ]; exact ih.upto _

/-- behind a step at the same k, or one on -/
theorem undivAt_false {S : Mat} {k m i : Nat} (h : undivAt S k m i = false) {j : Nat} (h1 : k < j) (h2 : j < m) : (el S i j).fmod (el S k k) = 0 := by
  unfold undivAt at h
  rw [List.any_eq_false] at h
  have := h (j - (k + 1)) (List.mem_range.mpr (by lia))
  rw [show k + 1 + (j - (k + 1)) = j from by lia] at this
  simpa using this
theorem undivAt_true {S : Mat} {k m i : Nat} (h : undivAt S k m i = true) : ∃ j, k < j ∧ j < m ∧ (el S i j).fmod (el S k k) ≠ 0 := by
  unfold undivAt at h
  rw [List.any_eq_true] at h
  obtain ⟨q, h1, h2⟩ := h
  have := List.mem_range.mp h1
  exact ⟨k + 1 + q, by lia, by lia, by simpa using h2⟩
theorem settle_k {n m : Nat} {x : St} : (undiv x.S x.k n m = none → (settle n m x).k = x.k + 1) ∧ ∀ r, undiv x.S x.k n m = some r → (settle n m x).k = x.k := by
  refine ⟨fun h => ?_, fun r h => by rw [settle_row h]⟩
  by_cases hl : el x.S x.k x.k < 0
  · rw [settle_neg h hl]
  · rw [settle_pos h hl]
/-- one line more stands apart -/
theorem Blk.next {n m : Nat} {x : St} (sh : Shs n m x) (hk : x.k < n) (hkm : x.k < m) (h : Blk x.k x) (hz : el x.S x.k x.k ≠ 0) (c1 : ∀ i, x.k < i → el x.S i x.k = 0) (c2 : ∀ j, x.k < j → el x.S x.k j = 0) (hu : undiv x.S x.k n m = none) : Blk (x.k + 1) (settle n m x) := by
  have hd : ∀ a b, x.k < a → x.k < b → el x.S x.k x.k ∣ el x.S a b := fun a b ha hb => by
    rcases Nat.lt_or_ge a n with w | w
    · rcases Nat.lt_or_ge b m with w' | w'
      · have := undivAt_false (undivFind_none hu (a - (x.k + 1)) (by lia)) hb w'
        rw [show x.k + 1 + (a - (x.k + 1)) = a from by lia] at this
        exact Int.dvd_of_fmod_eq_zero this
      · rw [el_out sh.s (.inr w')]; exact Int.dvd_zero _
    · rw [el_out sh.s (.inl w)]; exact Int.dvd_zero _
  have hall : ∀ a b, x.k ≤ a → x.k ≤ b → el x.S x.k x.k ∣ el x.S a b := fun a b ha hb => by
    by_cases e1 : a = x.k
    · subst e1
      by_cases e2 : b = x.k
      · rw [e2]; exact Int.dvd_refl _
      · rw [c2 b (by lia)]; exact Int.dvd_zero _
    · by_cases e2 : b = x.k
      · rw [e2, c1 a (by lia)]; exact Int.dvd_zero _
      · exact hd a b (by lia) (by lia)
  have row0 : ∀ j, x.k ≠ j → el x.S x.k j = 0 := fun j hj => by
    rcases Nat.lt_or_ge x.k j with w | w
    · exact c2 j w
    · exact h.z2 j x.k (by lia) (by lia)
  have col0 : ∀ j, x.k ≠ j → el x.S j x.k = 0 := fun j hj => by
    rcases Nat.lt_or_ge x.k j with w | w
    · exact c1 j w
    · exact h.z1 j x.k (by lia) (by lia)
  by_cases hl : el x.S x.k x.k < 0
  · rw [settle_neg hu hl]
    have e : ∀ a b, el (negRow x.S x.k) a b = if a = x.k then -el x.S x.k b else el x.S a b := el_neg sh.s hk
    have eo : ∀ i, i < x.k → ∀ b, el (negRow x.S x.k) i b = el x.S i b := fun i hi b => by rw [e, if_neg (by lia)]
    refine ⟨fun i j hi hij => ?_, fun i j hi hij => ?_, fun i hi => ?_, fun i hi a b ha hb => ?_⟩
    · show el (negRow x.S x.k) i j = 0
      rw [e]; split
      · rw [row0 j (by lia)]; rfl
      · exact h.z1 i j (by lia) hij
    · show el (negRow x.S x.k) j i = 0
      rw [e]; split
      · by_cases e3 : i = x.k
        · lia
        · rw [row0 i (by lia)]; rfl
      · by_cases e3 : i = x.k
        · rw [e3]; exact col0 j (by lia)
        · exact h.z2 i j (by lia) hij
    · show 0 < el (negRow x.S x.k) i i
      rw [e]; split
      · rename_i q; rw [q]; lia
      · exact h.pos i (by lia)
    · show el (negRow x.S x.k) i i ∣ el (negRow x.S x.k) a b
      by_cases e3 : i = x.k
      · subst e3
        rw [e, if_pos rfl, e]
        split
        · exact Int.neg_dvd.mpr (Int.dvd_neg.mpr (hall _ _ (Nat.le_refl _) hb))
        · exact Int.neg_dvd.mpr (hall _ _ ha hb)
      · rw [eo i (by lia), e]
        split
        · exact Int.dvd_neg.mpr (h.dv i (by lia) _ _ (by lia) hb)
        · exact h.dv i (by lia) _ _ ha hb
  · rw [settle_pos hu hl]
    refine ⟨fun i j hi hij => ?_, fun i j hi hij => ?_, fun i hi => ?_, fun i hi a b ha hb => ?_⟩
    · by_cases e3 : i = x.k
      · subst e3; exact row0 j hij
      · exact h.z1 i j (by lia) hij
    · by_cases e3 : i = x.k
      · subst e3; exact col0 j hij
      · exact h.z2 i j (by lia) hij
    · by_cases e3 : i = x.k
      · subst e3; show 0 < el x.S x.k x.k; lia
      · exact h.pos i (by lia)
    · by_cases e3 : i = x.k
      · subst e3; exact hall a b ha hb
      · exact h.dv i (by lia) a b ha hb
/-- the lead of the brought matrix -/
theorem bring_lead {n m : Nat} {x : St} (h : Shs n m x) {i j : Nat} (hi : i < n) (hj : j < m) (hk : x.k < n) (hkm : x.k < m) : el (bringM x i j).S x.k x.k = el x.S i j := by
  show el (swapCols (swapRows x.S i x.k) j x.k) x.k x.k = _
  rw [el_swapCols (h.s.swapRows hi hk) hj hkm, if_pos rfl, el_swapRows h.s hi hk, if_pos rfl]
/-- a step: what came of it -/
structure Stepped (n m : Nat) (x : St) (p : Nat × Nat) (y : St) : Prop where
  hk : x.k < n
  hkm : x.k < m
  lp : least x.S x.k n m = some p
  pin : x.k ≤ p.1 ∧ p.1 < n ∧ x.k ≤ p.2 ∧ p.2 < m
  is : ((crossed n m (bringM x p.1 p.2)).2 = false ∧ y = (crossed n m (bringM x p.1 p.2)).1) ∨ ((crossed n m (bringM x p.1 p.2)).2 = true ∧ y = settle n m (crossed n m (bringM x p.1 p.2)).1)
theorem stepped {n m : Nat} {x y : St} (hs : smithStep n m x = some y) : ∃ p, Stepped n m x p y := by
  by_cases hlt : x.k < min n m
  · cases hl : least x.S x.k n m with
    | none => rw [smithStep_none hl] at hs; cases hs
    | some p =>
      refine ⟨p, by lia, by lia, hl, least_in (by lia) (by lia) hl, ?_⟩
      cases hd : (crossed n m (bringM x p.1 p.2)).2 with
      | false => rw [smithStep_not hlt hl hd] at hs; cases hs; exact .inl ⟨rfl, rfl⟩
      | true => rw [smithStep_done hlt hl hd] at hs; cases hs; exact .inr ⟨rfl, rfl⟩
  · rw [smithStep_end hlt] at hs; cases hs
theorem step_blk {n m : Nat} {x y : St} (hn : n ≤ 3) (hm : m ≤ 3) (h : Shs n m x) (hb : Blk x.k x) (hs : smithStep n m x = some y) : (y.k = x.k ∨ y.k = x.k + 1) ∧ Blk y.k y := by
  obtain ⟨p, P⟩ := stepped hs
  obtain ⟨i1, i2, i3, i4⟩ := P.pin
  have o1 := ops_bring hn hm h P.hk P.hkm i2 i4 i1 i3
  have h1 := h.ops o1
  have hk1 : (bringM x p.1 p.2).k < n := P.hk
  have hkm1 : (bringM x p.1 p.2).k < m := P.hkm
  have o2 := ops_crossed hn hm h1 hk1 hkm1
  have h2 := h1.ops o2
  have e : (crossed n m (bringM x p.1 p.2)).1.k = x.k := crossed_k n m (bringM x p.1 p.2)
  have hb2 : Blk x.k (crossed n m (bringM x p.1 p.2)).1 := hb.ops (Nat.le_of_lt P.hk) (Nat.le_of_lt P.hkm) (o1.trans o2)
  rcases P.is with ⟨hd, rfl⟩ | ⟨hd, rfl⟩
  · rw [e]; exact ⟨.inl rfl, hb2⟩
  · obtain ⟨c1, c2⟩ := crossed_flag h1 hk1 hkm1 hd
    have hl : el (crossed n m (bringM x p.1 p.2)).1.S x.k x.k ≠ 0 := by
      have := crossed_lead h1 hk1 hkm1
      rw [show (bringM x p.1 p.2).k = x.k from rfl] at this
      rw [this, bring_lead h i2 i4 P.hk P.hkm]
      exact (least_some (Nat.le_of_lt P.hkm) P.lp).1
    cases hu : undiv (crossed n m (bringM x p.1 p.2)).1.S (crossed n m (bringM x p.1 p.2)).1.k n m with
    | none =>
      have := (settle_k (n := n) (m := m)).1 hu
      rw [this, e]
      refine ⟨.inr rfl, ?_⟩
      have := Blk.next h2 (by rw [e]; exact P.hk) (by rw [e]; exact P.hkm) (by rw [e]; exact hb2) (by rw [e]; exact hl) (by rw [e]; exact c1) (by rw [e]; exact c2) hu
      rw [e] at this; exact this
    | some r =>
      have hk' := (settle_k (n := n) (m := m)).2 r hu
      rw [hk', e]
      refine ⟨.inl rfl, ?_⟩
      have o3 := ops_settle hn hm h2 (by rw [e]; exact P.hk) (by rw [e]; exact P.hkm)
      rw [e] at o3
      exact hb2.ops (Nat.le_of_lt P.hk) (Nat.le_of_lt P.hkm) o3
theorem step_lin {n m : Nat} {G : Mat} {x y : St} (hn : n ≤ 3) (hm : m ≤ 3) (h : Lin n m G x) (hs : smithStep n m x = some y) : Lin n m G y := h.ops hn hm (ops_step hn hm h.sh hs)
/-- the end -/
structure Ended (n m : Nat) (z : St) : Prop where
  diag : ∀ i j, i ≠ j → el z.S i j = 0
  pos : ∀ i, 0 ≤ el z.S i i
  dv : ∀ i, el z.S i i ∣ el z.S (i + 1) (i + 1)
theorem ended {n m : Nat} {z : St} (sh : Shs n m z) (hb : Blk z.k z) (hs : smithStep n m z = none) : Ended n m z := by
  have hz : ∀ i j, z.k ≤ i → z.k ≤ j → el z.S i j = 0 := fun i j hi hj => by
    rcases Nat.lt_or_ge i n with w | w
    · rcases Nat.lt_or_ge j m with w' | w'
      · cases hl : least z.S z.k n m with
        | none => exact least_none (by lia) hl hi w hj w'
        | some p =>
          exfalso
          have hlt : z.k < min n m := by lia
          cases hd : (crossed n m (bringM z p.1 p.2)).2 with
          | false => rw [smithStep_not hlt hl hd] at hs; cases hs
          | true => rw [smithStep_done hlt hl hd] at hs; cases hs
      · exact el_out sh.s (.inr w')
    · exact el_out sh.s (.inl w)
  refine ⟨fun i j hij => ?_, fun i => ?_, fun i => ?_⟩
  · rcases Nat.lt_or_ge i z.k with w | w
    · exact hb.z1 i j w hij
    · rcases Nat.lt_or_ge j z.k with w' | w'
      · exact hb.z2 j i w' (Ne.symm hij)
      · exact hz i j w w'
  · rcases Nat.lt_or_ge i z.k with w | w
    · exact Int.le_of_lt (hb.pos i w)
    · rw [hz i i w w]; exact Int.le_refl 0
  · rcases Nat.lt_or_ge i z.k with w | w
    · exact hb.dv i w (i + 1) (i + 1) (by lia) (by lia)
    · rw [hz (i + 1) (i + 1) (by lia) (by lia)]; exact Int.dvd_zero _
end Mine

/-! the plain law: the greatest divisors of the parts' determinants -/
namespace Mine
theorem gcdGo_dvd {d : Int} : ∀ (k : Nat) (w o : Int), o.natAbs = k → (d ∣ gcdGo w o ↔ d ∣ w ∧ d ∣ o) := by
  intro k
  induction k using Nat.strongRecOn with
  | _ k ih =>
    intro w o hk
    by_cases ho : o = 0
    · subst ho; rw [gcdGo_eq, dif_pos rfl]; exact ⟨fun h => ⟨h, Int.dvd_zero _⟩, fun h => h.1⟩
    · rw [gcdGo_eq, dif_neg ho, ih _ (by rw [← hk]; exact fmod_lt_abs ho) o (w.fmod o) rfl]
      have e : w = w.fdiv o * o + w.fmod o := by have := fm_eq w o; lia
      constructor
      · rintro ⟨h1, h2⟩
        refine ⟨?_, h1⟩
        rw [e]; exact Int.dvd_add (Int.dvd_mul_of_dvd_right h1) h2
      · rintro ⟨h1, h2⟩
        refine ⟨h2, ?_⟩
        rw [← fm_eq w o]; exact Int.dvd_sub h1 (Int.dvd_mul_of_dvd_right h2)
theorem foldl_dvd {d : Int} : ∀ (xs : List Int) (w : Int), d ∣ xs.foldl gcdGo w ↔ d ∣ w ∧ ∀ x ∈ xs, d ∣ x
  | [], w => by simp
  | x :: r, w => by
    rw [List.foldl_cons, foldl_dvd r, gcdGo_dvd _ w x rfl]
    simp [and_assoc]
theorem divisor_dvd {d : Int} (xs : List Int) : d ∣ (divisor xs : Int) ↔ ∀ x ∈ xs, d ∣ x := by
  unfold divisor
  rw [Int.dvd_natAbs, foldl_dvd]; simp

noncomputable def subF (X : FM) (is js : Nat → Nat) : FM := fun a b => X (is a) (js b)
noncomputable def AllM (k n m : Nat) (d : Int) (X : FM) : Prop := ∀ is js : Nat → Nat, (∀ a, a < k → is a < n) → (∀ b, b < k → js b < m) → d ∣ dN k (subF X is js)
theorem AllM.congr {k n m : Nat} {d : Int} {X Y : FM} (hk : k ≤ 3) (h : AllM k n m d X) (e : ∀ i j, i < n → j < m → X i j = Y i j) : AllM k n m d Y := fun is js h1 h2 => by
  rw [← dN_congr hk (X := subF X is js) (Y := subF Y is js) fun a b ha hb => e _ _ (h1 a ha) (h2 b hb)]
  exact h is js h1 h2
theorem AllM.tr {k n m : Nat} {d : Int} {X : FM} (h : AllM k n m d X) : AllM k m n d (tr X) := fun is js h1 h2 => by
  have := h js is h2 h1
  rw [← dN_tr] at this
  exact this
/-! one line at a time -/
noncomputable def d2 (r0 r1 : Nat → Int) : Int := r0 0 * r1 1 - r0 1 * r1 0
noncomputable def d3 (r0 r1 r2 : Nat → Int) : Int := r0 0 * (r1 1 * r2 2 - r1 2 * r2 1) - r0 1 * (r1 0 * r2 2 - r1 2 * r2 0) + r0 2 * (r1 0 * r2 1 - r1 1 * r2 0)
noncomputable def comb (c : Nat → Int) (Y : FM) (n : Nat) : Nat → Int := fun b => psum (fun t => c t * Y t b) n
theorem comb_succ (c : Nat → Int) (Y : FM) (n b : Nat) : comb c Y (n + 1) b = comb c Y n b + c n * Y n b := rfl
theorem comb_zero (c : Nat → Int) (Y : FM) (b : Nat) : comb c Y 0 b = 0 := rfl
theorem d2_0 (c : Nat → Int) (Y : FM) (r1 : Nat → Int) (n : Nat) : d2 (comb c Y n) r1 = psum (fun t => c t * d2 (Y t) r1) n := by
  induction n with
  | zero => simp [d2, comb_zero, psum]
  | succ n ih => unfold psum; rw [← ih]; simp only [d2, comb_succ]; grind
theorem d2_1 (c : Nat → Int) (Y : FM) (r0 : Nat → Int) (n : Nat) : d2 r0 (comb c Y n) = psum (fun t => c t * d2 r0 (Y t)) n := by
  induction n with
  | zero => simp [d2, comb_zero, psum]
  | succ n ih => unfold psum; rw [← ih]; simp only [d2, comb_succ]; grind
theorem d3_0 (c : Nat → Int) (Y : FM) (r1 r2 : Nat → Int) (n : Nat) : d3 (comb c Y n) r1 r2 = psum (fun t => c t * d3 (Y t) r1 r2) n := by
  induction n with
  | zero => simp [d3, comb_zero, psum]
  | succ n ih => unfold psum; rw [← ih]; simp only [d3, comb_succ]; grind
theorem d3_1 (c : Nat → Int) (Y : FM) (r0 r2 : Nat → Int) (n : Nat) : d3 r0 (comb c Y n) r2 = psum (fun t => c t * d3 r0 (Y t) r2) n := by
  induction n with
  | zero => simp [d3, comb_zero, psum]
  | succ n ih => unfold psum; rw [← ih]; simp only [d3, comb_succ]; grind
theorem d3_2 (c : Nat → Int) (Y : FM) (r0 r1 : Nat → Int) (n : Nat) : d3 r0 r1 (comb c Y n) = psum (fun t => c t * d3 r0 r1 (Y t)) n := by
  induction n with
  | zero => simp [d3, comb_zero, psum]
  | succ n ih => unfold psum; rw [← ih]; simp only [d3, comb_succ]; grind
theorem AllM.left {k n m : Nat} {d : Int} {X : FM} (hk : k ≤ 3) (e : FM) (h : AllM k n m d X) : AllM k n m d (fm n e X) := fun is js h1 h2 => by
  match k, hk with
  | 0, _ => exact h is js h1 h2
  | 1, _ =>
    show d ∣ psum _ n
    exact psum_dvd fun t ht => Int.dvd_mul_of_dvd_right (h (fun _ => t) js (fun _ _ => ht) h2)
  | 2, _ =>
    show d ∣ d2 (comb (e (is 0)) (fun t b => X t (js b)) n) (comb (e (is 1)) (fun t b => X t (js b)) n)
    rw [d2_0]
    refine psum_dvd fun p hp => Int.dvd_mul_of_dvd_right ?_
    rw [d2_1]
    refine psum_dvd fun q hq => Int.dvd_mul_of_dvd_right ?_
    exact h (fun a => if a = 0 then p else q) js (fun a _ => by show (if a = 0 then p else q) < n; split <;> assumption) h2
  | 3, _ =>
    show d ∣ d3 (comb (e (is 0)) (fun t b => X t (js b)) n) (comb (e (is 1)) (fun t b => X t (js b)) n) (comb (e (is 2)) (fun t b => X t (js b)) n)
    rw [d3_0]
    refine psum_dvd fun p hp => Int.dvd_mul_of_dvd_right ?_
    rw [d3_1]
    refine psum_dvd fun q hq => Int.dvd_mul_of_dvd_right ?_
    rw [d3_2]
    refine psum_dvd fun r hr => Int.dvd_mul_of_dvd_right ?_
    exact h (fun a => if a = 0 then p else if a = 1 then q else r) js (fun a _ => by show (if a = 0 then p else if a = 1 then q else r) < n; split; assumption; split <;> assumption) h2
theorem AllM.right {k n m : Nat} {d : Int} {X : FM} (hk : k ≤ 3) (f : FM) (h : AllM k n m d X) : AllM k n m d (fm m X f) := by
  have := (h.tr.left hk (Mine.tr f)).tr
  refine this.congr hk fun i j _ _ => ?_
  show psum _ m = psum _ m
  exact psum_congr fun t _ => Int.mul_comm _ _
/-! inverses -/
noncomputable def adj : Nat → FM → FM
  | 1, _ => fun _ _ => 1
  | 2, X => fun a b => if a = 0 then (if b = 0 then X 1 1 else -X 0 1) else (if b = 0 then -X 1 0 else X 0 0)
  | 3, X => fun a b =>
      if a = 0 then (if b = 0 then X 1 1 * X 2 2 - X 1 2 * X 2 1 else if b = 1 then X 0 2 * X 2 1 - X 0 1 * X 2 2 else X 0 1 * X 1 2 - X 0 2 * X 1 1)
      else if a = 1 then (if b = 0 then X 1 2 * X 2 0 - X 1 0 * X 2 2 else if b = 1 then X 0 0 * X 2 2 - X 0 2 * X 2 0 else X 0 2 * X 1 0 - X 0 0 * X 1 2)
      else (if b = 0 then X 1 0 * X 2 1 - X 1 1 * X 2 0 else if b = 1 then X 0 1 * X 2 0 - X 0 0 * X 2 1 else X 0 0 * X 1 1 - X 0 1 * X 1 0)
  | _, _ => fun _ _ => 0
theorem adj_left {n : Nat} (hn : n ≤ 3) (X : FM) {i j : Nat} (hi : i < n) (hj : j < n) : fm n (adj n X) X i j = dN n X * idF i j := by
  match n, hn with
  | 0, _ => lia
  | 1, _ => have : i = 0 := by lia
            have : j = 0 := by lia
            subst i j; simp [fm, psum, adj, dN, idF]
  | 2, _ =>
    have ci : i = 0 ∨ i = 1 := by lia
    have cj : j = 0 ∨ j = 1 := by lia
    rcases ci with rfl | rfl <;> rcases cj with rfl | rfl <;> (simp [fm, psum, adj, dN, idF]; try grind)
  | 3, _ =>
    have ci : i = 0 ∨ i = 1 ∨ i = 2 := by lia
    have cj : j = 0 ∨ j = 1 ∨ j = 2 := by lia
    rcases ci with rfl | rfl | rfl <;> rcases cj with rfl | rfl | rfl <;> (simp [fm, psum, adj, dN, idF]; try grind)
theorem inv_left {n : Nat} (hn : n ≤ 3) {X : FM} (hd : (dN n X).natAbs = 1) : ∃ Y, ∀ i j, i < n → j < n → fm n Y X i j = idF i j := by
  refine ⟨fun i j => dN n X * adj n X i j, fun i j hi hj => ?_⟩
  have : fm n (fun i j => dN n X * adj n X i j) X i j = dN n X * fm n (adj n X) X i j := by
    unfold fm
    rw [← psum_mul_left]
    exact psum_congr fun t _ => Int.mul_assoc ..
  rw [this, adj_left hn X hi hj, ← Int.mul_assoc]
  have : dN n X * dN n X = 1 := by
    have : dN n X = 1 ∨ dN n X = -1 := by lia
    rcases this with h | h <;> rw [h] <;> rfl
  rw [this, Int.one_mul]
theorem inv_right {n : Nat} (hn : n ≤ 3) {X : FM} (hd : (dN n X).natAbs = 1) : ∃ Y, ∀ i j, i < n → j < n → fm n X Y i j = idF i j := by
  obtain ⟨Y, hY⟩ := inv_left hn (X := tr X) (by rw [dN_tr]; exact hd)
  refine ⟨tr Y, fun i j hi hj => ?_⟩
  have := hY j i hj hi
  rw [show idF i j = idF j i from by unfold idF; by_cases h : i = j <;> simp [h, eq_comm]]
  rw [← this]
  show psum _ n = psum _ n
  exact psum_congr fun t _ => Int.mul_comm _ _
theorem fm_congr_left {n : Nat} {X X' Y : FM} {i j : Nat} (h : ∀ t, t < n → X i t = X' i t) : fm n X Y i j = fm n X' Y i j := psum_congr fun t ht => by rw [h t ht]
theorem fm_congr_right {n : Nat} {X Y Y' : FM} {i j : Nat} (h : ∀ t, t < n → Y t j = Y' t j) : fm n X Y i j = fm n X Y' i j := psum_congr fun t ht => by rw [h t ht]
theorem minors_iff {n m : Nat} {G : Mat} {z : St} (hn : n ≤ 3) (hm : m ≤ 3) (L : Lin n m G z) {k : Nat} (hk : k ≤ 3) (d : Int) : AllM k n m d (el G) ↔ AllM k n m d (el z.S) := by
  constructor
  · intro h
    rw [L.lin]
    exact (h.left hk _).right hk _
  · intro h
    obtain ⟨U', hU⟩ := inv_left hn L.du
    obtain ⟨V', hV⟩ := inv_right hm L.dv
    refine ((h.left hk U').right hk V').congr hk fun i j hi hj => ?_
    rw [L.lin, ← fm_assoc, ← fm_assoc, fm_assoc m m]
    rw [fm_congr_right (Y' := idF) fun t ht => hV t j ht hj, fm_id_right hj]
    rw [fm_congr_left (X' := idF) fun t ht => hU i t hi ht, fm_id_left hi]
/-! diagonal -/
section
variable {n m : Nat} {z : St} (E : Ended n m z)
include E
theorem Ended.chain {a b : Nat} (h : a ≤ b) : el z.S a a ∣ el z.S b b := by
  induction b with
  | zero => have : a = 0 := by lia
            subst this; exact Int.dvd_refl _
  | succ b ih =>
    rcases Nat.lt_or_ge a (b + 1) with w | w
    · exact Int.dvd_trans (ih (by lia)) (E.dv b)
    · have : a = b + 1 := by lia
      subst this; exact Int.dvd_refl _
theorem Ended.prod_pos (k : Nat) : 0 ≤ prodF (fun i => el z.S i i) k := by
  induction k with
  | zero => show (0 : Int) ≤ 1; decide
  | succ k ih => exact Int.mul_nonneg ih (E.pos k)
theorem Ended.two {d : Int} (h : d ∣ el z.S 0 0 * el z.S 1 1) {i i' : Nat} (hi : i ≠ i') (j j' : Nat) : d ∣ el z.S i j * el z.S i' j' := by
  by_cases e1 : i = j
  · by_cases e2 : i' = j'
    · subst e1 e2
      rcases Nat.lt_or_ge i i' with w | w
      · exact Int.dvd_trans h (Int.mul_dvd_mul (E.chain (Nat.zero_le i)) (E.chain (by lia)))
      · rw [Int.mul_comm (el z.S i i)]
        exact Int.dvd_trans h (Int.mul_dvd_mul (E.chain (Nat.zero_le i')) (E.chain (by lia)))
    · rw [E.diag i' j' e2]; simp
  · rw [E.diag i j e1]; simp
theorem diag_iff {k : Nat} (hk0 : 0 < k) (hk : k ≤ 3) (hn : n ≤ 3) (hm : m ≤ 3) (hkn : k ≤ n) (hkm : k ≤ m) (d : Int) : AllM k n m d (el z.S) ↔ d ∣ prodF (fun i => el z.S i i) k := by
  have z01 := E.diag 0 1 (by decide)
  have z02 := E.diag 0 2 (by decide)
  have z10 := E.diag 1 0 (by decide)
  have z12 := E.diag 1 2 (by decide)
  have z20 := E.diag 2 0 (by decide)
  have z21 := E.diag 2 1 (by decide)
  have hprod : dN k (el z.S) = prodF (fun i => el z.S i i) k := by
    match k, hk0, hk with
    | 1, _, _ => simp [dN, prodF]
    | 2, _, _ => simp [dN, prodF, z01, z10]
    | 3, _, _ => simp only [dN, prodF, z01, z02, z10, z12, z20, z21]; grind
  constructor
  · intro h
    rw [← hprod]
    exact h (fun a => a) (fun b => b) (fun a ha => by lia) (fun b hb => by lia)
  · intro h is js h1 h2
    match k, hk0, hk with
    | 1, _, _ =>
      show d ∣ el z.S (is 0) (js 0)
      simp only [prodF, Int.one_mul] at h
      by_cases e : is 0 = js 0
      · rw [← e]; exact Int.dvd_trans h (E.chain (Nat.zero_le _))
      · rw [E.diag _ _ e]; exact Int.dvd_zero _
    | 2, _, _ =>
      simp only [prodF, Int.one_mul] at h
      show d ∣ el z.S (is 0) (js 0) * el z.S (is 1) (js 1) - el z.S (is 0) (js 1) * el z.S (is 1) (js 0)
      by_cases e : is 0 = is 1
      · rw [e, Int.mul_comm (el z.S (is 1) (js 1))]; simp
      · exact Int.dvd_sub (E.two h e _ _) (E.two h e _ _)
    | 3, _, _ =>
      have hn3 : n = 3 := by lia
      have hm3 : m = 3 := by lia
      subst hn3 hm3
      have e : dN 3 (subF (el z.S) is js) = dN 3 (fm 3 (fm 3 (fun a b => idF (is a) b) (el z.S)) (tr fun a b => idF (js a) b)) := by
        refine dN_congr (by decide) fun a b ha hb => ?_
        show el z.S (is a) (js b) = psum _ 3
        rw [psum_one (h2 b hb) fun t ht => by show _ * idF (js b) t = 0; rw [idF_ne (Ne.symm ht)]; simp]
        show _ = fm 3 (fun a b => idF (is a) b) (el z.S) a (js b) * idF (js b) (js b)
        have : fm 3 (fun a b => idF (is a) b) (el z.S) a (js b) = el z.S (is a) (js b) := by
          show psum _ 3 = _
          rw [psum_one (h1 a ha) fun t ht => by show idF (is a) t * _ = 0; rw [idF_ne (Ne.symm ht)]; simp]
          simp [idF]
        rw [this]; simp [idF]
      rw [e, dN_mul (by decide), dN_mul (by decide), hprod]
      exact Int.dvd_mul_of_dvd_left (Int.dvd_mul_of_dvd_right h)
end
/-! the law's parts -/
theorem el_subM {G : Mat} {ls ss : List Int} {k a b : Nat} (h1 : ls.length = k) (h2 : ss.length = k) (ha : a < k) (hb : b < k) : el (subM G ls ss) a b = el G (ls.getD a 0).toNat (ss.getD b 0).toNat := by
  unfold el row subM
  rw [List.getD_eq_getElem?_getD (l := List.map _ _), List.getElem?_map, List.getElem?_eq_getElem (by lia)]
  simp only [Option.map_some, Option.getD_some]
  rw [List.getD_eq_getElem?_getD, List.getElem?_map, List.getElem?_eq_getElem (by lia)]
  simp [List.getD_eq_getElem?_getD, h1, h2, ha, hb]
  rfl
theorem ch1 : ∀ n < 4, ∀ i < n, [(i : Int)] ∈ chI 1 n := by decide
theorem ch2 : ∀ n < 4, ∀ i' < n, ∀ i < i', [(i : Int), (i' : Int)] ∈ chI 2 n := by decide
theorem ch3 : [(0 : Int), 1, 2] ∈ chI 3 3 := by decide
theorem part_in {G : Mat} {k n m : Nat} {ls ss : List Int} (h1 : ls ∈ chI k n) (h2 : ss ∈ chI k m) : subM G ls ss ∈ parts G k n m := by
  unfold parts
  exact List.mem_flatMap.mpr ⟨ls, h1, by unfold partsRow; exact List.mem_map.mpr ⟨ss, h2, rfl⟩⟩
theorem part_det {G : Mat} {k n m : Nat} {ls ss : List Int} (hk : k ≤ 3) (hn : n ≤ 3) (hm : m ≤ 3) (h1 : ls ∈ chI k n) (h2 : ss ∈ chI k m) : detF k (subM G ls ss) = dN k (subF (el G) (fun a => (ls.getD a 0).toNat) fun b => (ss.getD b 0).toNat) := by
  have l1 := (chI_few k (by lia) n (by lia)).2 ls h1
  have l2 := (chI_few k (by lia) m (by lia)).2 ss h2
  rw [detF_eq (subM_sh l1 l2) hk]
  exact dN_congr hk fun a b ha hb => el_subM l1 l2 ha hb
theorem parts_iff {G : Mat} {k n m : Nat} (hk0 : 0 < k) (hk : k ≤ 3) (hn : n ≤ 3) (hm : m ≤ 3) (hkn : k ≤ n) (hkm : k ≤ m) (d : Int) : (∀ x ∈ (parts G k n m).map (detF k), d ∣ x) ↔ AllM k n m d (el G) := by
  constructor
  · intro h is js h1 h2
    have get : ∀ ls ∈ chI k n, ∀ ss ∈ chI k m, d ∣ dN k (subF (el G) (fun a => (ls.getD a 0).toNat) fun b => (ss.getD b 0).toNat) := fun ls hl ss hs => by
      rw [← part_det hk hn hm hl hs]
      exact h _ (List.mem_map.mpr ⟨_, part_in hl hs, rfl⟩)
    match k, hk0, hk with
    | 1, _, _ =>
      have := get _ (ch1 n (by lia) (is 0) (h1 0 (by lia))) _ (ch1 m (by lia) (js 0) (h2 0 (by lia)))
      simpa [dN, subF] using this
    | 2, _, _ =>
      have key : ∀ i i' j j', i < i' → i' < n → j < j' → j' < m → d ∣ el G i j * el G i' j' - el G i j' * el G i' j := fun i i' j j' a b c e => by
        have := get _ (ch2 n (by lia) i' b i a) _ (ch2 m (by lia) j' e j c)
        simpa [dN, subF] using this
      have key2 : ∀ i i' j j', i < i' → i' < n → j < m → j' < m → d ∣ el G i j * el G i' j' - el G i j' * el G i' j := fun i i' j j' a b c e => by
        rcases Nat.lt_trichotomy j j' with w | w | w
        · exact key i i' j j' a b w e
        · subst w; simp
        · have := Int.dvd_neg.mpr (key i i' j' j a b w c)
          rw [Int.neg_sub] at this; exact this
      show d ∣ el G (is 0) (js 0) * el G (is 1) (js 1) - el G (is 0) (js 1) * el G (is 1) (js 0)
      have a0 := h1 0 (by lia)
      have a1 := h1 1 (by lia)
      have b0 := h2 0 (by lia)
      have b1 := h2 1 (by lia)
      rcases Nat.lt_trichotomy (is 0) (is 1) with w | w | w
      · exact key2 _ _ _ _ w a1 b0 b1
      · rw [w, Int.mul_comm (el G (is 1) (js 1))]; simp
      · have := Int.dvd_neg.mpr (key2 _ _ _ _ w a0 b0 b1)
        rw [Int.neg_sub] at this
        rw [Int.mul_comm (el G (is 0) (js 0)), Int.mul_comm (el G (is 0) (js 1))]
        exact this
    | 3, _, _ =>
      have hn3 : n = 3 := by lia
      have hm3 : m = 3 := by lia
      subst hn3 hm3
      have hG := get _ ch3 _ ch3
      have e0 : dN 3 (subF (el G) (fun a => (([(0 : Int), 1, 2] : List Int).getD a 0).toNat) fun b => (([(0 : Int), 1, 2] : List Int).getD b 0).toNat) = dN 3 (el G) := by
        simp [dN, subF]
      rw [e0] at hG
      have e : dN 3 (subF (el G) is js) = dN 3 (fm 3 (fm 3 (fun a b => idF (is a) b) (el G)) (tr fun a b => idF (js a) b)) := by
        refine dN_congr (by decide) fun a b ha hb => ?_
        show el G (is a) (js b) = psum _ 3
        rw [psum_one (h2 b hb) fun t ht => by show _ * idF (js b) t = 0; rw [idF_ne (Ne.symm ht)]; simp]
        show _ = fm 3 (fun a b => idF (is a) b) (el G) a (js b) * idF (js b) (js b)
        have : fm 3 (fun a b => idF (is a) b) (el G) a (js b) = el G (is a) (js b) := by
          show psum _ 3 = _
          rw [psum_one (h1 a ha) fun t ht => by show idF (is a) t * _ = 0; rw [idF_ne (Ne.symm ht)]; simp]
          simp [idF]
        rw [this]; simp [idF]
      rw [e, dN_mul (by decide), dN_mul (by decide)]
      exact Int.dvd_mul_of_dvd_left (Int.dvd_mul_of_dvd_right hG)
  · intro h x hx
    obtain ⟨P, hP, rfl⟩ := List.mem_map.mp hx
    obtain ⟨ls, l1, ss, l2, rfl⟩ := parts_mem hP
    rw [part_det hk hn hm l1 l2]
    have len1 := (chI_few k (by lia) n (by lia)).2 ls l1
    have len2 := (chI_few k (by lia) m (by lia)).2 ss l2
    refine h _ _ (fun a ha => ?_) fun b hb => ?_
    · have := chI_in k (by lia) n (by lia) ls l1 _ (getD_mem (x := ls) (j := a) (by lia))
      lia
    · have := chI_in k (by lia) m (by lia) ss l2 _ (getD_mem (x := ss) (j := b) (by lia))
      lia
/-- the products are the greatest divisors -/
theorem prod_eq {n m : Nat} {G : Mat} {z : St} (hn : n ≤ 3) (hm : m ≤ 3) (L : Lin n m G z) (E : Ended n m z) {k : Nat} (hk : k < min n m) : prodF (fun i => el z.S i i) (k + 1) = (divisor ((parts G (k + 1) n m).map (detF (k + 1))) : Nat) := by
  have key : ∀ d : Int, d ∣ prodF (fun i => el z.S i i) (k + 1) ↔ d ∣ (divisor ((parts G (k + 1) n m).map (detF (k + 1))) : Int) := fun d => by
    rw [← diag_iff E (by lia) (by lia) hn hm (by lia) (by lia) d, ← minors_iff hn hm L (by lia) d, divisor_dvd, parts_iff (by lia) (by lia) hn hm (by lia) (by lia)]
  exact Int.dvd_antisymm (E.prod_pos _) (by lia) ((key _).mp (Int.dvd_refl _)) ((key _).mpr (Int.dvd_refl _))
end Mine

/-! the plain law: sizes of a step, the measure -/
namespace Mine
section
variable {n m : Nat} {x : St} (h : Shs n m x) (hk : x.k < n) (hkm : x.k < m)
include h hk hkm
theorem el_rowsU (l : Int) : ∀ q, x.k + 1 + q ≤ n → ∀ i j, el (crossRows l q (x, true)).1.U i j = if x.k < i ∧ i < x.k + 1 + q then el x.U i j - (el x.S i x.k).fdiv l * el x.U x.k j else el x.U i j
  | 0, _, i, j => by rw [if_neg (by lia)]; rfl
  | q + 1, hq, i, j => by
    have ih := el_rowsU l q (by lia)
    have e := crossRows_k l q (x, true)
    have sh := h.crossRows (p := (x, true)) l (k := q) (by show x.k + 1 + q ≤ n; lia)
    have es := fun a b => el_crossRows (p := (x, true)) h l (k := q) (by show x.k + 1 + q ≤ n; lia) a b
    rw [crossRows_succ]
    unfold crossRow
    simp only []
    rw [el_subRow sh.u (by rw [e]; show x.k + 1 + q < n; lia), e]
    simp only [] at es ⊢
    by_cases hi : i = x.k + 1 + q
    · subst hi
      rw [if_pos rfl, if_pos (by lia), ih, ih, es, if_neg (by lia), if_neg (by lia), if_neg (by lia)]
    · rw [if_neg hi, ih]
      by_cases hb : x.k < i ∧ i < x.k + 1 + q
      · rw [if_pos hb, if_pos (by lia)]
      · rw [if_neg hb, if_neg (by lia)]
theorem el_crossedU (i j : Nat) : el (crossed n m x).1.U i j = if x.k < i then el x.U i j - (el x.S i x.k).fdiv (el x.S x.k x.k) * el x.U x.k j else el x.U i j := by
  unfold crossed
  rw [crossCols_U, el_rowsU h hk hkm _ _ (by lia)]
  by_cases hi : x.k < i
  · by_cases h2 : i < n
    · rw [if_pos ⟨hi, by lia⟩, if_pos hi]
    · rw [if_neg (by lia), if_pos hi, el_out h.u (.inl (by lia)), el_out h.s (.inl (by lia))]; simp
  · rw [if_neg (by lia), if_neg hi]
theorem el_colsV {p : St × Bool} (sp : Shs n m p.1) (e : p.1.k = x.k) (l : Int) : ∀ q, x.k + 1 + q ≤ m → ∀ i j, el (crossCols l q p).1.V i j = if x.k < j ∧ j < x.k + 1 + q then el p.1.V i j - (el p.1.S x.k j).fdiv l * el p.1.V i x.k else el p.1.V i j
  | 0, _, i, j => by rw [if_neg (by lia)]; rfl
  | q + 1, hq, i, j => by
    have ih := el_colsV sp e l q (by lia)
    have ek := (crossCols_k l q p).trans e
    have sh := sp.crossCols l q
    have es := fun a b => el_crossCols sp l (k := q) (by rw [e]; lia) a b
    rw [crossCols_succ]
    unfold crossCol
    simp only []
    rw [el_subCol sh.v (by rw [ek]; lia), ek]
    rw [e] at es
    by_cases hi : j = x.k + 1 + q
    · subst hi
      rw [if_pos rfl, if_pos (by lia), ih, ih, es, if_neg (by lia), if_neg (by lia), if_neg (by lia)]
    · rw [if_neg hi, ih]
      by_cases hb : x.k < j ∧ j < x.k + 1 + q
      · rw [if_pos hb, if_pos (by lia)]
      · rw [if_neg hb, if_neg (by lia)]
theorem el_crossedV (i j : Nat) : el (crossed n m x).1.V i j = if x.k < j then el x.V i j - (el x.S x.k j).fdiv (el x.S x.k x.k) * el x.V i x.k else el x.V i j := by
  have sh := h.crossRows (p := (x, true)) (el x.S x.k x.k) (k := n - (x.k + 1)) (by show x.k + 1 + _ ≤ n; lia)
  have hrow : ∀ j, el (crossRows (el x.S x.k x.k) (n - (x.k + 1)) (x, true)).1.S x.k j = el x.S x.k j := fun j => by
    rw [el_rows h hk hkm]; unfold mid; rw [if_neg (Nat.lt_irrefl _)]
  unfold crossed
  rw [el_colsV h hk hkm sh (crossRows_k _ _ _) _ _ (by lia), hrow, crossRows_V]
  simp only []
  by_cases hj : x.k < j
  · by_cases h2 : j < m
    · rw [if_pos ⟨hj, by lia⟩, if_pos hj]
    · rw [if_neg (by lia), if_pos hj, el_out h.v (.inr (by lia)), el_out h.s (.inr (by lia))]; simp
  · rw [if_neg (by lia), if_neg hj]
/-- what the products of a clearing need -/
theorem crossMul {ok : Int → Int → Prop} (nz : el x.S x.k x.k ≠ 0) (hA : ∀ i, x.k < i → i < n → ∀ j, ok ((el x.S i x.k).fdiv (el x.S x.k x.k)) (el x.S x.k j) ∧ ok ((el x.S i x.k).fdiv (el x.S x.k x.k)) (el x.U x.k j))
    (hB : ∀ j, x.k < j → j < m → ∀ i, ok ((el x.S x.k j).fdiv (el x.S x.k x.k)) (mid n (el x.S) x.k i x.k) ∧ ok ((el x.S x.k j).fdiv (el x.S x.k x.k)) (el x.V i x.k)) : CrossMul ok n m x := by
  have es := fun q (hq : x.k + 1 + q < n) a b => el_crossRows (p := (x, true)) h (el x.S x.k x.k) (k := q) (by show x.k + 1 + q ≤ n; lia) a b
  have sh := h.crossRows (p := (x, true)) (el x.S x.k x.k) (k := n - (x.k + 1)) (by show x.k + 1 + _ ≤ n; lia)
  have e := crossRows_k (el x.S x.k x.k) (n - (x.k + 1)) (x, true)
  have hrow : ∀ j, el (crossRows (el x.S x.k x.k) (n - (x.k + 1)) (x, true)).1.S x.k j = el x.S x.k j := fun j => by
    rw [el_rows h hk hkm]; unfold mid; rw [if_neg (Nat.lt_irrefl _)]
  have ec := fun q (hq : x.k + 1 + q < m) a b => el_crossCols sh (el x.S x.k x.k) (k := q) (by rw [e]; show x.k + 1 + q ≤ m; lia) a b
  refine ⟨nz, fun q hq j => ?_, fun q hq j => ?_, fun q hq i => ?_, fun q hq i => ?_⟩
  · rw [es q hq, es q hq]
    simp only []
    rw [if_neg (by lia), if_neg (by lia)]
    exact (hA _ (by lia) hq j).1
  · rw [es q hq, el_rowsU h hk hkm _ _ (by lia)]
    simp only []
    rw [if_neg (by lia), if_neg (by lia)]
    exact (hA _ (by lia) hq j).2
  · rw [ec q hq, ec q hq, e]
    simp only []
    rw [if_neg (by lia), if_neg (by lia), hrow, el_rows h hk hkm]
    exact (hB _ (by lia) hq i).1
  · rw [ec q hq, el_colsV h hk hkm sh e _ _ (by lia), e]
    simp only []
    rw [if_neg (by lia), if_neg (by lia), hrow, crossRows_V]
    exact (hB _ (by lia) hq i).2
theorem rows_flag' : ∀ q, x.k + 1 + q ≤ n → (∀ i, x.k < i → (el x.S i x.k).fmod (el x.S x.k x.k) = 0) → (crossRows (el x.S x.k x.k) q (x, true)).2 = true
  | 0, _, _ => rfl
  | q + 1, hq, hz => by
    have e := crossRows_k (el x.S x.k x.k) q (x, true)
    have sh := h.crossRows (p := (x, true)) (el x.S x.k x.k) (k := q) (by show x.k + 1 + q ≤ n; lia)
    have e1 := fun a b => el_crossRows (p := (x, true)) h (el x.S x.k x.k) (k := q) (by show x.k + 1 + q ≤ n; lia) a b
    rw [crossRows_succ]
    unfold crossRow
    simp only [Bool.and_eq_true, decide_eq_true_eq]
    refine ⟨rows_flag' q (by lia) hz, ?_⟩
    rw [e, el_subRow sh.s (by show x.k + 1 + q < n; lia)]
    rw [if_pos rfl, e1, e1]
    simp only []
    rw [if_neg (by lia), if_neg (by lia), fmod_def]
    exact hz _ (by lia)
theorem cols_flag' {p : St × Bool} (sp : Shs n m p.1) (e : p.1.k = x.k) (hrow : ∀ j, el p.1.S x.k j = el x.S x.k j) (hp : p.2 = true) : ∀ q, x.k + 1 + q ≤ m → (∀ j, x.k < j → (el x.S x.k j).fmod (el x.S x.k x.k) = 0) → (crossCols (el x.S x.k x.k) q p).2 = true
  | 0, _, _ => hp
  | q + 1, hq, hz => by
    have ek := (crossCols_k (el x.S x.k x.k) q p).trans e
    have sh := sp.crossCols (el x.S x.k x.k) q
    have e1 := fun a b => el_crossCols sp (el x.S x.k x.k) (k := q) (by rw [e]; lia) a b
    rw [crossCols_succ]
    unfold crossCol
    simp only [Bool.and_eq_true, decide_eq_true_eq]
    refine ⟨cols_flag' sp e hrow hp q (by lia) hz, ?_⟩
    rw [ek, el_subCol sh.s (by lia)]
    rw [if_pos rfl, e1, e1]
    rw [e, if_neg (by lia), if_neg (by lia), hrow, hrow, fmod_def]
    exact hz _ (by lia)
theorem crossed_not (hf : (crossed n m x).2 = false) : (∃ i, x.k < i ∧ i < n ∧ (el x.S i x.k).fmod (el x.S x.k x.k) ≠ 0) ∨ ∃ j, x.k < j ∧ j < m ∧ (el x.S x.k j).fmod (el x.S x.k x.k) ≠ 0 := by
  refine Classical.byContradiction fun hno => ?_
  have h1 : ∀ i, x.k < i → (el x.S i x.k).fmod (el x.S x.k x.k) = 0 := fun i hi => by
    rcases Nat.lt_or_ge i n with w | w
    · exact Classical.byContradiction fun q => hno (.inl ⟨i, hi, w, q⟩)
    · rw [el_out h.s (.inl w)]; simp
  have h2 : ∀ j, x.k < j → (el x.S x.k j).fmod (el x.S x.k x.k) = 0 := fun j hj => by
    rcases Nat.lt_or_ge j m with w | w
    · exact Classical.byContradiction fun q => hno (.inr ⟨j, hj, w, q⟩)
    · rw [el_out h.s (.inr w)]; simp
  have sh := h.crossRows (p := (x, true)) (el x.S x.k x.k) (k := n - (x.k + 1)) (by show x.k + 1 + _ ≤ n; lia)
  have hrow : ∀ j, el (crossRows (el x.S x.k x.k) (n - (x.k + 1)) (x, true)).1.S x.k j = el x.S x.k j := fun j => by
    rw [el_rows h hk hkm]; unfold mid; rw [if_neg (Nat.lt_irrefl _)]
  have := cols_flag' h hk hkm sh (crossRows_k _ _ _) hrow (rows_flag' h hk hkm _ (by lia) h1) (m - (x.k + 1)) (by lia) h2
  unfold crossed at hf
  rw [this] at hf; cases hf
end

/-! the measure -/
noncomputable def lam (n m : Nat) (x : St) : Nat := match least x.S x.k n m with
  | some p => (el x.S p.1 p.2).natAbs
  | none => 0
noncomputable def Stuck (n m : Nat) (x : St) : Prop := least x.S x.k n m = some (x.k, x.k) ∧ (∀ i, x.k < i → el x.S i x.k = 0) ∧ ∃ j, x.k < j ∧ j < m ∧ (el x.S x.k j).fmod (el x.S x.k x.k) ≠ 0
noncomputable def meas (n m : Nat) (x : St) : Nat := 2 * lam n m x + @ite Nat (Stuck n m x) (Classical.propDecidable _) 0 1
theorem meas_le (n m : Nat) (x : St) : meas n m x ≤ 2 * lam n m x + 1 := by unfold meas; split <;> lia
theorem le_meas (n m : Nat) (x : St) : 2 * lam n m x ≤ meas n m x := by unfold meas; lia
theorem lam_le {n m : Nat} {x : St} (hk : x.k < m) {i j : Nat} (h1 : x.k ≤ i) (h2 : i < n) (h3 : x.k ≤ j) (h4 : j < m) (hz : el x.S i j ≠ 0) : lam n m x ≤ (el x.S i j).natAbs := by
  unfold lam
  cases hl : least x.S x.k n m with
  | none => exact Nat.zero_le _
  | some p => exact (least_some (Nat.le_of_lt hk) hl).2 i j h1 h2 h3 h4 hz

/-- a step that stays at its k -/
structure Stay (n m : Nat) (x : St) (p : Nat × Nat) (y : St) : Prop where
  st : Stepped n m x p y
  k : y.k = x.k
  lead : el y.S x.k x.k = el (bringM x p.1 p.2).S x.k x.k
  nz : el (bringM x p.1 p.2).S x.k x.k ≠ 0
  lam : (el (bringM x p.1 p.2).S x.k x.k).natAbs = lam n m x
  is : y = (crossed n m (bringM x p.1 p.2)).1 ∧ (crossed n m (bringM x p.1 p.2)).2 = false ∨
    (crossed n m (bringM x p.1 p.2)).2 = true ∧ ∃ r, x.k < r ∧ r < n ∧ undivAt (crossed n m (bringM x p.1 p.2)).1.S x.k m r = true ∧ y = ⟨addRow (crossed n m (bringM x p.1 p.2)).1.S x.k r, addRow (crossed n m (bringM x p.1 p.2)).1.U x.k r, (crossed n m (bringM x p.1 p.2)).1.V, x.k⟩
theorem stay {n m : Nat} {x y : St} (h : Shs n m x) {p : Nat × Nat} (P : Stepped n m x p y) (e : y.k = x.k) : Stay n m x p y := by
  obtain ⟨i1, i2, i3, i4⟩ := P.pin
  have hb := h.bring (j := p.2) i2 P.hk
  have hl := bring_lead h i2 i4 P.hk P.hkm
  have hls := least_some (Nat.le_of_lt P.hkm) P.lp
  have hc : el (crossed n m (bringM x p.1 p.2)).1.S x.k x.k = el (bringM x p.1 p.2).S x.k x.k := crossed_lead hb P.hk P.hkm
  have ek : (crossed n m (bringM x p.1 p.2)).1.k = x.k := crossed_k n m (bringM x p.1 p.2)
  have hnz : el (bringM x p.1 p.2).S x.k x.k ≠ 0 := by rw [hl]; exact hls.1
  have hlam : (el (bringM x p.1 p.2).S x.k x.k).natAbs = lam n m x := by rw [hl]; unfold Mine.lam; rw [P.lp]
  rcases P.is with ⟨hd, rfl⟩ | ⟨hd, rfl⟩
  · exact ⟨P, e, hc, hnz, hlam, .inl ⟨rfl, hd⟩⟩
  · have hcb := hb.crossed P.hk
    cases hu : undiv (crossed n m (bringM x p.1 p.2)).1.S (crossed n m (bringM x p.1 p.2)).1.k n m with
    | none =>
      have := (settle_k (n := n) (m := m)).1 hu
      lia
    | some r =>
      obtain ⟨r1, r2, r3⟩ := undivFind_in hu
      rw [ek] at r1 r2 r3
      have hrn : r < n := by have := P.hk; lia
      have hset := settle_row hu
      rw [ek] at hset
      refine ⟨P, e, ?_, hnz, hlam, .inr ⟨hd, r, r1, hrn, r3, hset⟩⟩
      rw [hset]
      show el (addRow _ x.k r) x.k x.k = _
      rw [el_addRow hcb.s P.hk, if_pos rfl, hc]
      have := (crossed_flag hb P.hk P.hkm hd).1 r r1
      rw [show (bringM x p.1 p.2).k = x.k from rfl] at this
      rw [this]; lia
theorem Stay.sh {n m : Nat} {x y : St} {p : Nat × Nat} (hn : n ≤ 3) (hm : m ≤ 3) (h : Shs n m x) (T : Stay n m x p y) : Shs n m y := by
  have hb := h.bring (j := p.2) T.st.pin.2.1 T.st.hk
  have hc := hb.crossed (n := n) T.st.hk
  rcases T.is with ⟨rfl, _⟩ | ⟨_, r, _, hr, _, rfl⟩
  · exact hc
  · exact ⟨hc.s.add T.st.hk _, hc.u.add T.st.hk _, hc.v⟩
/-- it lowers the measure -/
theorem stay_meas {n m : Nat} {x y : St} {p : Nat × Nat} (hn : n ≤ 3) (hm : m ≤ 3) (h : Shs n m x) (T : Stay n m x p y) : meas n m y < meas n m x ∧ lam n m y ≤ lam n m x := by
  have hk := T.st.hk
  have hkm := T.st.hkm
  have hb := h.bring (j := p.2) T.st.pin.2.1 hk
  have hk1 : (bringM x p.1 p.2).k < n := hk
  have hkm1 : (bringM x p.1 p.2).k < m := hkm
  have hly : lam n m y ≤ lam n m x := by
    rw [← T.lam, ← T.lead]
    have := lam_le (n := n) (m := m) (x := y) (by rw [T.k]; exact hkm) (i := x.k) (j := x.k) (by rw [T.k]; exact Nat.le_refl _) hk (by rw [T.k]; exact Nat.le_refl _) hkm (by rw [T.lead]; exact T.nz)
    exact this
  refine ⟨?_, hly⟩
  have hx := le_meas n m x
  have hy := meas_le n m y
  have lpos : 0 < lam n m x := by rw [← T.lam]; have := T.nz; lia
  rcases T.is with ⟨e, hd⟩ | ⟨hd, r, hr1, hr2, hr3, e⟩
  · have : lam n m y < lam n m x := by
      rcases crossed_not hb hk1 hkm1 hd with ⟨i, a1, a2, a3⟩ | ⟨j, a1, a2, a3⟩
      · have a1' : x.k < i := a1
        have v : el y.S i x.k = (el (bringM x p.1 p.2).S i x.k).fmod (el (bringM x p.1 p.2).S x.k x.k) := by rw [e]; exact crossed_col hb hk1 hkm1 a1
        have q := lam_le (n := n) (m := m) (x := y) (by rw [T.k]; exact hkm) (i := i) (j := x.k) (by rw [T.k]; lia) a2 (by rw [T.k]; exact Nat.le_refl _) hkm (by rw [v]; exact a3)
        have w := fmod_lt_abs (a := el (bringM x p.1 p.2).S i x.k) T.nz
        rw [← v, T.lam] at w
        lia
      · have a1' : x.k < j := a1
        have v : el y.S x.k j = (el (bringM x p.1 p.2).S x.k j).fmod (el (bringM x p.1 p.2).S x.k x.k) := by rw [e]; exact crossed_row hb hk1 hkm1 a1
        have q := lam_le (n := n) (m := m) (x := y) (by rw [T.k]; exact hkm) (i := x.k) (j := j) (by rw [T.k]; exact Nat.le_refl _) hk (by rw [T.k]; lia) a2 (by rw [v]; exact a3)
        have w := fmod_lt_abs (a := el (bringM x p.1 p.2).S x.k j) T.nz
        rw [← v, T.lam] at w
        lia
    lia
  · rcases Nat.lt_or_ge (lam n m y) (lam n m x) with w | w
    · lia
    · -- y is stuck, x is not
      have hcb := hb.crossed (n := n) hk1
      obtain ⟨c1, c2⟩ := crossed_flag hb hk1 hkm1 hd
      replace c2 : ∀ j, x.k < j → el (crossed n m (bringM x p.1 p.2)).1.S x.k j = 0 := c2
      have hcl : el (crossed n m (bringM x p.1 p.2)).1.S x.k x.k = el (bringM x p.1 p.2).S x.k x.k := crossed_lead hb hk1 hkm1
      have hyS : ∀ a b, el y.S a b = if a = x.k then el (crossed n m (bringM x p.1 p.2)).1.S x.k b + el (crossed n m (bringM x p.1 p.2)).1.S r b else el (crossed n m (bringM x p.1 p.2)).1.S a b := fun a b => by
        rw [e]; exact el_addRow hcb.s hk r a b
      have stY : Stuck n m y := by
        refine ⟨?_, fun i hi => ?_, ?_⟩
        · have hne : el y.S y.k y.k ≠ 0 := by rw [T.k, T.lead]; exact T.nz
          obtain ⟨q, hq, hq'⟩ := first_least (n := n) (w := m) (by rw [T.k]; exact hk) (by rw [T.k]; exact hkm) hne
          rcases hq' with rfl | hq'
          · exact hq
          · exfalso
            have : lam n m y = (el y.S q.1 q.2).natAbs := by unfold Mine.lam; rw [hq]
            rw [T.k, T.lead, T.lam] at hq'
            lia
        · rw [T.k] at hi ⊢
          rw [hyS, if_neg (by lia)]
          exact c1 i hi
        · obtain ⟨j, j1, j2, j3⟩ := undivAt_true hr3
          refine ⟨j, by rw [T.k]; exact j1, j2, ?_⟩
          rw [T.k, T.lead, hyS, if_pos rfl, c2 j j1, Int.zero_add, ← hcl]
          exact j3
      have stX : ¬ Stuck n m x := by
        rintro ⟨s1, s2, j, j1, j2, j3⟩
        have hp : p = (x.k, x.k) := by have := T.st.lp; rw [s1] at this; cases this; rfl
        subst hp
        have hbS : ∀ a b, el (bringM x x.k x.k).S a b = el x.S a b := fun a b => by
          show el (swapCols (swapRows x.S x.k x.k) x.k x.k) a b = _
          rw [el_swapCols (h.s.swapRows hk hk) hkm hkm]
          have hr : ∀ a b, el (swapRows x.S x.k x.k) a b = el x.S a b := fun a b => by
            rw [el_swapRows h.s hk hk]
            split
            · rename_i q; rw [q]
            · rfl
          split
          · rename_i q; rw [q, hr]
          · rw [hr]
        have := c2 j j1
        have v := crossed_row hb hk1 hkm1 (j := j) j1
        rw [show (bringM x (x.k, x.k).1 (x.k, x.k).2).k = x.k from rfl] at v
        rw [this, hbS, hbS] at v
        exact j3 v.symm
      unfold meas
      rw [if_pos stY, if_neg stX]
      lia
end Mine

/-! the plain law: sizes of U, V along the run -/
namespace Mine
noncomputable def Sz (B : Nat) (x : St) : Prop := ∀ i j, (el x.S i j).natAbs < 2 ^ B ∧ (el x.U i j).natAbs < 2 ^ B ∧ (el x.V i j).natAbs < 2 ^ B
theorem Sz.mono {B C : Nat} {x : St} (h : Sz B x) (e : B ≤ C) : Sz C x := fun i j => ⟨lt_mono (h i j).1 e, lt_mono (h i j).2.1 e, lt_mono (h i j).2.2 e⟩
section
variable {n m : Nat} {x : St} (h : Shs n m x) {i j : Nat} (hi : i < n) (hj : j < m) (hk : x.k < n) (hkm : x.k < m)
include h hi hj hk hkm
theorem el_bringS (a b : Nat) : el (bringM x i j).S a b = el x.S (if a = x.k then i else if a = i then x.k else a) (if b = x.k then j else if b = j then x.k else b) := by
  show el (swapCols (swapRows x.S i x.k) j x.k) a b = _
  have hr : ∀ a b, el (swapRows x.S i x.k) a b = el x.S (if a = x.k then i else if a = i then x.k else a) b := fun a b => by
    rw [el_swapRows h.s hi hk]
    split
    · rfl
    · split <;> rfl
  rw [el_swapCols (h.s.swapRows hi hk) hj hkm]
  split
  · rw [hr]
  · split <;> rw [hr]
theorem el_bringU (a b : Nat) : el (bringM x i j).U a b = el x.U (if a = x.k then i else if a = i then x.k else a) b := by
  show el (swapRows x.U i x.k) a b = _
  rw [el_swapRows h.u hi hk]
  split
  · rfl
  · split <;> rfl
theorem el_bringV (a b : Nat) : el (bringM x i j).V a b = el x.V a (if b = x.k then j else if b = j then x.k else b) := by
  show el (swapCols x.V j x.k) a b = _
  rw [el_swapCols h.v hj hkm]
  split
  · rfl
  · split <;> rfl
theorem Sz.bring {B : Nat} (s : Sz B x) : Sz B (bringM x i j) := fun a b => by
  rw [el_bringS h hi hj hk hkm, el_bringU h hi hj hk hkm, el_bringV h hi hj hk hkm]
  exact ⟨(s _ _).1, (s _ b).2.1, (s a _).2.2⟩
end
theorem fdiv_le (a b : Int) : (a.fdiv b).natAbs ≤ a.natAbs := Int.natAbs_fdiv_le_natAbs a b
section
variable {n m : Nat} {x : St} (h : Shs n m x) (hk : x.k < n) (hkm : x.k < m) (nz : el x.S x.k x.k ≠ 0)
include h hk hkm nz
theorem mid_col (i : Nat) : (mid n (el x.S) x.k i x.k).natAbs < (el x.S x.k x.k).natAbs ∨ mid n (el x.S) x.k i x.k = el x.S i x.k := by
  unfold mid
  split
  · left; rw [fmod_def]; exact fmod_lt_abs nz
  · exact .inr rfl
theorem mid_lt {B : Nat} (s : Sz B x) (i : Nat) : (mid n (el x.S) x.k i x.k).natAbs < 2 ^ B := by
  rcases mid_col h hk hkm nz i with q | q
  · exact Nat.lt_trans q (s _ _).1
  · rw [q]; exact (s _ _).1
theorem crossMul_sz {B : Nat} {ok : Int → Int → Prop} (M : MulOk ok) (s : Sz B x) (hB : B ≤ 2 ^ 26) : CrossMul ok n m x :=
  crossMul h hk hkm nz (fun i _ _ j => ⟨M.b B _ _ hB (fdiv_lt (s _ _).1) (s _ _).1, M.b B _ _ hB (fdiv_lt (s _ _).1) (s _ _).2.1⟩)
    fun j _ _ i => ⟨M.b B _ _ hB (fdiv_lt (s _ _).1) (mid_lt h hk hkm nz s i), M.b B _ _ hB (fdiv_lt (s _ _).1) (s _ _).2.2⟩
/-- quotients below 2 ^ C -/
theorem sz_crossed {B C : Nat} (s : Sz B x) (hr : ∀ i, x.k < i → ((el x.S i x.k).fdiv (el x.S x.k x.k)).natAbs < 2 ^ C) (hc : ∀ j, x.k < j → ((el x.S x.k j).fdiv (el x.S x.k x.k)).natAbs < 2 ^ C) : Sz (C + B + 2) (crossed n m x).1 := fun i j => by
  have hm1 : ∀ i j, (mid n (el x.S) x.k i j).natAbs < 2 ^ (C + B + 1) := fun i j => by
    unfold mid
    split
    · exact sub_lt_two (lt_mono (s i j).1 (by lia)) (mul_lt_two (hr i (by assumption)) (s x.k j).1)
    · exact lt_mono (s i j).1 (by lia)
  refine ⟨?_, ?_, ?_⟩
  · rw [el_crossed h hk hkm]
    split
    · exact sub_lt_two (hm1 i j) (lt_mono (mul_lt_two (hc j (by assumption)) (mid_lt h hk hkm nz s i)) (by lia))
    · exact lt_mono (hm1 i j) (by lia)
  · rw [el_crossedU h hk hkm]
    split
    · exact lt_mono (sub_lt_two (lt_mono (s i j).2.1 (show B ≤ C + B by lia)) (mul_lt_two (hr i (by assumption)) (s x.k j).2.1)) (by lia)
    · exact lt_mono (s i j).2.1 (by lia)
  · rw [el_crossedV h hk hkm]
    split
    · exact lt_mono (sub_lt_two (lt_mono (s i j).2.2 (show B ≤ C + B by lia)) (mul_lt_two (hc j (by assumption)) (s i x.k).2.2)) (by lia)
    · exact lt_mono (s i j).2.2 (by lia)
end
theorem sz_settle {n m B : Nat} {x : St} (h : Shs n m x) (hk : x.k < n) (s : Sz B x) : Sz (B + 1) (settle n m x) := by
  unfold settle
  split
  · refine fun i j => ⟨?_, ?_, lt_mono (s i j).2.2 (by lia)⟩
    · show (el (addRow x.S x.k _) i j).natAbs < _
      rw [el_addRow h.s hk]; split
      · exact add_lt_two (s _ _).1 (s _ _).1
      · exact lt_mono (s _ _).1 (by lia)
    · show (el (addRow x.U x.k _) i j).natAbs < _
      rw [el_addRow h.u hk]; split
      · exact add_lt_two (s _ _).2.1 (s _ _).2.1
      · exact lt_mono (s _ _).2.1 (by lia)
  · split
    · refine fun i j => ⟨?_, ?_, lt_mono (s i j).2.2 (by lia)⟩
      · show (el (negRow x.S x.k) i j).natAbs < _
        rw [el_neg h.s hk]; split
        · rw [Int.natAbs_neg]; exact lt_mono (s _ _).1 (by lia)
        · exact lt_mono (s _ _).1 (by lia)
      · show (el (negRow x.U x.k) i j).natAbs < _
        rw [el_neg h.u hk]; split
        · rw [Int.natAbs_neg]; exact lt_mono (s _ _).2.1 (by lia)
        · exact lt_mono (s _ _).2.1 (by lia)
    · exact fun i j => ⟨lt_mono (s i j).1 (by lia), lt_mono (s i j).2.1 (by lia), lt_mono (s i j).2.2 (by lia)⟩
/-- any step -/
theorem sz_stepC {n m B C : Nat} {x y : St} {p : Nat × Nat} (h : Shs n m x) (P : Stepped n m x p y) (s : Sz B x)
    (hr : ∀ i, x.k < i → ((el (bringM x p.1 p.2).S i x.k).fdiv (el (bringM x p.1 p.2).S x.k x.k)).natAbs < 2 ^ C) (hc : ∀ j, x.k < j → ((el (bringM x p.1 p.2).S x.k j).fdiv (el (bringM x p.1 p.2).S x.k x.k)).natAbs < 2 ^ C) : Sz (C + B + 3) y := by
  obtain ⟨i1, i2, i3, i4⟩ := P.pin
  have hb := h.bring (j := p.2) i2 P.hk
  have s1 := s.bring h i2 i4 P.hk P.hkm
  have nz : el (bringM x p.1 p.2).S x.k x.k ≠ 0 := by rw [bring_lead h i2 i4 P.hk P.hkm]; exact (least_some (Nat.le_of_lt P.hkm) P.lp).1
  have s2 := sz_crossed hb P.hk P.hkm nz s1 hr hc
  have ek : (crossed n m (bringM x p.1 p.2)).1.k = x.k := crossed_k n m (bringM x p.1 p.2)
  rcases P.is with ⟨_, rfl⟩ | ⟨_, rfl⟩
  · exact s2.mono (by lia)
  · exact sz_settle (hb.crossed P.hk) (by rw [ek]; exact P.hk) s2
theorem sz_step {n m B : Nat} {x y : St} {p : Nat × Nat} (h : Shs n m x) (P : Stepped n m x p y) (s : Sz B x) : Sz (2 * B + 3) y := by
  obtain ⟨i1, i2, i3, i4⟩ := P.pin
  have s1 := s.bring h i2 i4 P.hk P.hkm
  have := sz_stepC (C := B) h P s (fun i _ => fdiv_lt (s1 _ _).1) fun j _ => fdiv_lt (s1 _ _).1
  exact this.mono (by lia)
theorem step_mul {n m B : Nat} {x y : St} {p : Nat × Nat} {ok : Int → Int → Prop} (M : MulOk ok) (h : Shs n m x) (P : Stepped n m x p y) (s : Sz B x) (hB : B ≤ 2 ^ 26) : CrossMul ok n m (bringM x p.1 p.2) := by
  obtain ⟨i1, i2, i3, i4⟩ := P.pin
  have nz : el (bringM x p.1 p.2).S x.k x.k ≠ 0 := by rw [bring_lead h i2 i4 P.hk P.hkm]; exact (least_some (Nat.le_of_lt P.hkm) P.lp).1
  exact crossMul_sz (h.bring (j := p.2) i2 P.hk) P.hk P.hkm nz M (s.bring h i2 i4 P.hk P.hkm) hB

/-! the block of two lines -/
noncomputable def dl (S : FM) : Int := S 1 1 * S 2 2 - S 1 2 * S 2 1
theorem delta_le {n m K : Nat} {G : Mat} {x : St} (hn : n ≤ 3) (hm : m ≤ 3) (L : Lin n m G x) (Bk : Blk 1 x) (hK : n = 3 → m = 3 → (dN 3 (el G)).natAbs ≤ K) : (dl (el x.S)).natAbs ≤ K := by
  by_cases h3 : n = 3
  · by_cases k3 : m = 3
    · subst h3 k3
      have e : dN 3 (el x.S) = el x.S 0 0 * dl (el x.S) := by
        have z1 := Bk.z1 0 1 (by lia) (by lia)
        have z2 := Bk.z1 0 2 (by lia) (by lia)
        have z3 := Bk.z2 0 1 (by lia) (by lia)
        have z4 := Bk.z2 0 2 (by lia) (by lia)
        simp only [dN, dl, z1, z2, z3, z4]; grind
      have e2 : (dN 3 (el x.S)).natAbs = (dN 3 (el G)).natAbs := by
        rw [L.lin, dN_mul (by decide), dN_mul (by decide), Int.natAbs_mul, Int.natAbs_mul, L.du, L.dv]; lia
      rw [e, Int.natAbs_mul] at e2
      have hp := Bk.pos 0 (by lia)
      have h1 : 1 ≤ (el x.S 0 0).natAbs := by lia
      have := Nat.mul_le_mul_right (dl (el x.S)).natAbs h1
      have := hK rfl rfl
      lia
    · have z1 := el_out L.sh.s (i := 1) (j := 2) (.inr (by lia))
      have z2 := el_out L.sh.s (i := 2) (j := 2) (.inr (by lia))
      simp [dl, z1, z2]
  · have z1 := el_out L.sh.s (i := 2) (j := 1) (.inl (by lia))
    have z2 := el_out L.sh.s (i := 2) (j := 2) (.inl (by lia))
    simp [dl, z1, z2]
/-- one sign, as naturals -/
theorem pot {u1 u2 u2' a b c d q c2 d3 b2 : Nat} (hc : c = q * a + c2) (hd : d3 + q * b2 ≤ d) (hb : b2 ≤ b) (hu : u2' ≤ u2 + q * u1) : u1 * c2 + u1 * d3 + u2' * a + u2' * b2 ≤ u1 * c + u1 * d + u2 * a + u2 * b := by
  have e1 := Nat.mul_le_mul_right a hu
  have e2 := Nat.mul_le_mul_right b2 hu
  have e3 := Nat.mul_le_mul_left u1 hd
  have e4 := Nat.mul_le_mul_left u2 hb
  have f1 : (u2 + q * u1) * a = u2 * a + u1 * (q * a) := by grind
  have f2 : (u2 + q * u1) * b2 = u2 * b2 + u1 * (q * b2) := by grind
  have f3 : u1 * (d3 + q * b2) = u1 * d3 + u1 * (q * b2) := by grind
  have f4 : u1 * c = u1 * (q * a) + u1 * c2 := by rw [hc]; grind
  lia
theorem sgn_fmod {σ l : Int} (hs : (σ = 1 ∧ 0 < l) ∨ (σ = -1 ∧ l < 0)) (a : Int) : 0 ≤ σ * a.fmod l ∧ σ * a.fmod l < σ * l := by
  rcases hs with ⟨rfl, h⟩ | ⟨rfl, h⟩
  · have := fm_pos (a := a) h; lia
  · have := fm_neg (a := a) h; lia
/-- the context at the second line -/
structure Two1 (n m K : Nat) (G : Mat) (x : St) (p : Nat × Nat) (y : St) : Prop where
  hn : n ≤ 3
  hm : m ≤ 3
  L : Lin n m G x
  Bk : Blk 1 x
  k1 : x.k = 1
  T : Stay n m x p y
  hK : n = 3 → m = 3 → (dN 3 (el G)).natAbs ≤ K
section
variable {n m K : Nat} {G : Mat} {x y : St} {p : Nat × Nat} (C : Two1 n m K G x p y)
include C
theorem Two1.ops : Ops n m 1 x (bringM x p.1 p.2) ∧ Ops n m 1 x (crossed n m (bringM x p.1 p.2)).1 := by
  obtain ⟨i1, i2, i3, i4⟩ := C.T.st.pin
  have o1 := ops_bring C.hn C.hm C.L.sh C.T.st.hk C.T.st.hkm i2 i4 i1 i3
  have o2 := ops_crossed C.hn C.hm (C.L.sh.ops o1) C.T.st.hk C.T.st.hkm
  rw [C.k1] at o1
  rw [show (bringM x p.1 p.2).k = 1 from C.k1] at o2
  exact ⟨o1, o1.trans o2⟩
theorem Two1.dcross : (dl (el (crossed n m (bringM x p.1 p.2)).1.S)).natAbs ≤ K := by
  have hk := C.T.st.hk
  have hkm := C.T.st.hkm
  rw [C.k1] at hk hkm
  exact delta_le C.hn C.hm (C.L.ops C.hn C.hm C.ops.2) (C.Bk.ops (by lia) (by lia) C.ops.2) C.hK
/-- the things of the cleared block -/
theorem Two1.vals : let X := bringM x p.1 p.2; let Y := (crossed n m X).1; el Y.S 1 1 = el X.S 1 1 ∧ el Y.S 2 1 = (el X.S 2 1).fmod (el X.S 1 1) ∧ el Y.S 1 2 = (el X.S 1 2).fmod (el X.S 1 1) ∧
    el Y.S 2 2 = el X.S 2 2 - (el X.S 2 1).fdiv (el X.S 1 1) * el X.S 1 2 - (el X.S 1 2).fdiv (el X.S 1 1) * (el X.S 2 1).fmod (el X.S 1 1) := by
  intro X Y
  have hb : Shs n m X := C.L.sh.bring (j := p.2) C.T.st.pin.2.1 C.T.st.hk
  have kX : X.k = 1 := C.k1
  have hk : X.k < n := C.T.st.hk
  have hkm : X.k < m := C.T.st.hkm
  have h1 := crossed_lead hb hk hkm
  have h2 := crossed_col hb hk hkm (i := 2) (by lia)
  have h3 := crossed_row hb hk hkm (j := 2) (by lia)
  have h4 := crossed_in hb hk hkm (i := 2) (j := 2) (by lia) (by lia)
  rw [kX] at h1 h2 h3 h4
  exact ⟨h1, h2, h3, h4⟩
/-- a great lead: no undivided row, one sign -/
theorem Two1.big (hl : K < (el (bringM x p.1 p.2).S 1 1).natAbs) : y = (crossed n m (bringM x p.1 p.2)).1 ∧ ∃ σ : Int, (σ = 1 ∨ σ = -1) ∧ 0 < σ * el y.S 1 1 ∧ 0 ≤ σ * el y.S 1 2 ∧ 0 ≤ σ * el y.S 2 1 ∧ 0 ≤ σ * el y.S 2 2 := by
  obtain ⟨v1, v2, v3, v4⟩ := C.vals
  have hd := C.dcross
  have hb : Shs n m (bringM x p.1 p.2) := C.L.sh.bring (j := p.2) C.T.st.pin.2.1 C.T.st.hk
  have hk : (bringM x p.1 p.2).k < n := C.T.st.hk
  have hkm : (bringM x p.1 p.2).k < m := C.T.st.hkm
  have kX : (bringM x p.1 p.2).k = 1 := C.k1
  unfold dl at hd
  rcases C.T.is with ⟨e, _⟩ | ⟨hf, r, r1, r2, r3, _⟩
  · refine ⟨e, ?_⟩
    rw [← e] at v1 v2 v3 v4 hd
    have hs : ∃ σ : Int, (σ = 1 ∧ 0 < el (bringM x p.1 p.2).S 1 1) ∨ (σ = -1 ∧ el (bringM x p.1 p.2).S 1 1 < 0) := by
      by_cases q : 0 < el (bringM x p.1 p.2).S 1 1
      · exact ⟨1, .inl ⟨rfl, q⟩⟩
      · exact ⟨-1, .inr ⟨rfl, by lia⟩⟩
    obtain ⟨σ, hs⟩ := hs
    obtain ⟨b1, b2⟩ := sgn_fmod hs (el (bringM x p.1 p.2).S 1 2)
    obtain ⟨c1, c2⟩ := sgn_fmod hs (el (bringM x p.1 p.2).S 2 1)
    rw [← v3] at b1
    rw [← v2] at c1
    rw [← v1] at hl hs
    clear v1 v2 v3 v4 b2 c2
    generalize el y.S 1 1 = a at *
    generalize el y.S 1 2 = b at *
    generalize el y.S 2 1 = c at *
    generalize el y.S 2 2 = d at *
    refine ⟨σ, hs.imp And.left And.left, by rcases hs with ⟨rfl, q⟩ | ⟨rfl, q⟩ <;> lia, b1, c1, ?_⟩
    have hbc : 0 ≤ b * c := by
      rcases hs with ⟨rfl, q⟩ | ⟨rfl, q⟩
      · exact Int.mul_nonneg (by lia) (by lia)
      · exact Int.mul_nonneg_of_nonpos_of_nonpos (by lia) (by lia)
    refine Classical.byContradiction fun hneg => ?_
    have h1 : a * d ≤ -(a.natAbs : Int) := by
      rcases hs with ⟨rfl, q⟩ | ⟨rfl, q⟩
      · have : a * d ≤ a * (-1) := Int.mul_le_mul_of_nonneg_left (by lia) (by lia)
        lia
      · have : a * d ≤ a * 1 := Int.mul_le_mul_of_nonpos_left (by lia) (by lia)
        lia
    lia
  · exfalso
    obtain ⟨c1, c2⟩ := crossed_flag hb hk hkm hf
    have z1 := c1 2 (by lia)
    have z2 := c2 2 (by lia)
    rw [kX] at z1 z2
    rw [z2, z1, Int.mul_zero, Int.sub_zero, Int.natAbs_mul, v1] at hd
    have hn := C.hn
    have hm := C.hm
    have k1 := C.k1
    have hr : r = 2 := by lia
    subst hr
    obtain ⟨j, j1, j2, j3⟩ := undivAt_true r3
    have hj : j = 2 := by lia
    subst hj
    have h0 : (el (crossed n m (bringM x p.1 p.2)).1.S 2 2).natAbs = 0 := by
      refine Classical.byContradiction fun hne => ?_
      have := Nat.mul_le_mul_left (el (bringM x p.1 p.2).S 1 1).natAbs (show 1 ≤ (el (crossed n m (bringM x p.1 p.2)).1.S 2 2).natAbs by lia)
      lia
    rw [show el (crossed n m (bringM x p.1 p.2)).1.S 2 2 = 0 by lia] at j3
    simp at j3
/-- a small lead: small things -/
theorem Two1.small (hl : (el (bringM x p.1 p.2).S 1 1).natAbs ≤ K) : ∀ i j, 1 ≤ i → 1 ≤ j → (el y.S i j).natAbs ≤ 2 * K := by
  obtain ⟨v1, v2, v3, v4⟩ := C.vals
  have hd := C.dcross
  have hb : Shs n m (bringM x p.1 p.2) := C.L.sh.bring (j := p.2) C.T.st.pin.2.1 C.T.st.hk
  have hk : (bringM x p.1 p.2).k < n := C.T.st.hk
  have hkm : (bringM x p.1 p.2).k < m := C.T.st.hkm
  have kX : (bringM x p.1 p.2).k = 1 := C.k1
  have hY : Shs n m (crossed n m (bringM x p.1 p.2)).1 := hb.crossed hk
  have nz := C.T.nz
  rw [C.k1] at nz
  have lt1 : (el (crossed n m (bringM x p.1 p.2)).1.S 1 2).natAbs < (el (bringM x p.1 p.2).S 1 1).natAbs := by rw [v3]; exact fmod_lt_abs nz
  have lt2 : (el (crossed n m (bringM x p.1 p.2)).1.S 2 1).natAbs < (el (bringM x p.1 p.2).S 1 1).natAbs := by rw [v2]; exact fmod_lt_abs nz
  have hd2 : (el (crossed n m (bringM x p.1 p.2)).1.S 2 2).natAbs ≤ 2 * K ∧ (el (crossed n m (bringM x p.1 p.2)).1.S 1 2 = 0 → (el (crossed n m (bringM x p.1 p.2)).1.S 2 2).natAbs ≤ K) := by
    unfold dl at hd
    rw [v1] at hd
    generalize el (bringM x p.1 p.2).S 1 1 = a at *
    generalize el (crossed n m (bringM x p.1 p.2)).1.S 1 2 = b at *
    generalize el (crossed n m (bringM x p.1 p.2)).1.S 2 1 = c at *
    generalize el (crossed n m (bringM x p.1 p.2)).1.S 2 2 = d at *
    have h1 : (a * d).natAbs ≤ K + (b * c).natAbs := by
      have q := Int.natAbs_add_le (a * d - b * c) (b * c)
      rw [Int.sub_add_cancel] at q
      exact Nat.le_trans q (Nat.add_le_add_right hd _)
    rw [Int.natAbs_mul, Int.natAbs_mul] at h1
    have h2 : b.natAbs * c.natAbs ≤ a.natAbs * a.natAbs := Nat.mul_le_mul (by lia) (by lia)
    have ha : 1 ≤ a.natAbs := by lia
    refine ⟨?_, fun hb0 => ?_⟩
    · refine Classical.byContradiction fun hne => ?_
      have h3 : a.natAbs * (K + a.natAbs + 1) ≤ a.natAbs * d.natAbs := Nat.mul_le_mul_left _ (by lia)
      have h4 : a.natAbs * (K + a.natAbs + 1) = a.natAbs * K + a.natAbs * a.natAbs + a.natAbs := by grind
      have h5 : 1 * K ≤ a.natAbs * K := Nat.mul_le_mul_right _ ha
      lia
    · rw [hb0] at h1
      have h3 : 1 * d.natAbs ≤ a.natAbs * d.natAbs := Nat.mul_le_mul_right _ ha
      simp at h1
      lia
  have hall : ∀ i j, 1 ≤ i → 1 ≤ j → (el (crossed n m (bringM x p.1 p.2)).1.S i j).natAbs ≤ 2 * K := fun i j hi hj => by
    by_cases h3 : 3 ≤ i ∨ 3 ≤ j
    · rw [el_out hY.s (by have := C.hn; have := C.hm; lia)]; simp
    · have ci : i = 1 ∨ i = 2 := by lia
      have cj : j = 1 ∨ j = 2 := by lia
      rcases ci with rfl | rfl <;> rcases cj with rfl | rfl
      · rw [v1]; lia
      · lia
      · lia
      · exact hd2.1
  intro i j hi hj
  rcases C.T.is with ⟨e, _⟩ | ⟨hf, r, r1, r2, r3, e⟩
  · rw [e]; exact hall i j hi hj
  · have k1 := C.k1
    obtain ⟨c1, c2⟩ := crossed_flag hb hk hkm hf
    have z1 := c1 2 (by lia)
    have z2 := c2 2 (by lia)
    rw [kX] at z1 z2
    have hn := C.hn
    have hm := C.hm
    have hr : r = 2 := by lia
    subst hr
    rw [e]
    show (el (addRow (crossed n m (bringM x p.1 p.2)).1.S x.k 2) i j).natAbs ≤ _
    rw [k1, el_addRow hY.s (by lia)]
    split
    · by_cases h3 : 3 ≤ j
      · rw [el_out hY.s (.inr (by lia)), el_out hY.s (.inr (by lia))]; simp
      · have cj : j = 1 ∨ j = 2 := by lia
        rcases cj with rfl | rfl
        · rw [z1, v1]; simp; lia
        · rw [z2, Int.zero_add]; have := hd2.2 z2; lia
    · exact hall i j hi hj
end
end Mine

/-! the plain law: the run ends, its sizes -/
namespace Mine
/-- a block of one sign, potentials -/
structure Big (P : Nat) (x : St) : Prop where
  sz : Sz P x
  sg : ∃ σ : Int, (σ = 1 ∨ σ = -1) ∧ 0 ≤ σ * el x.S 1 1 ∧ 0 ≤ σ * el x.S 1 2 ∧ 0 ≤ σ * el x.S 2 1 ∧ 0 ≤ σ * el x.S 2 2
  pu : ∀ j, (el x.U 1 j).natAbs * (el x.S 2 1).natAbs + (el x.U 1 j).natAbs * (el x.S 2 2).natAbs + (el x.U 2 j).natAbs * (el x.S 1 1).natAbs + (el x.U 2 j).natAbs * (el x.S 1 2).natAbs < 2 ^ P
  pv : ∀ i, (el x.V i 1).natAbs * (el x.S 1 2).natAbs + (el x.V i 1).natAbs * (el x.S 2 2).natAbs + (el x.V i 2).natAbs * (el x.S 1 1).natAbs + (el x.V i 2).natAbs * (el x.S 2 1).natAbs < 2 ^ P
theorem per1 {a b c d N : Nat} (h : a + b + c + d < N) : c + d + a + b < N := by lia
theorem per2 {a b c d N : Nat} (h : a + b + c + d < N) : b + a + d + c < N := by lia
theorem per3 {a b c d N : Nat} (h : a + b + c + d < N) : d + c + b + a < N := by lia
theorem one_two {i : Nat} (h : 1 ≤ i) (h' : i < 3) : i = 1 ∨ i = 2 := by lia
theorem third_lt {u a b c d N : Nat} (ha : 1 ≤ a) (h : b + c + u * a + d < N) : u < N := by
  have := Nat.mul_le_mul_left u ha
  rw [Nat.mul_one] at this
  exact Nat.lt_of_le_of_lt (Nat.le_trans this (Nat.le_trans (Nat.le_add_left _ _) (Nat.le_add_right _ _))) h
theorem Big.bring {n m P : Nat} {x : St} {i j : Nat} (hn : n ≤ 3) (hm : m ≤ 3) (h : Shs n m x) (hk1 : x.k = 1) (hi : i < n) (hj : j < m) (hk : x.k < n) (hkm : x.k < m) (hi1 : 1 ≤ i) (hj1 : 1 ≤ j) (B : Big P x) : Big P (bringM x i j) := by
  have eS := el_bringS h hi hj hk hkm
  have eU := el_bringU h hi hj hk hkm
  have eV := el_bringV h hi hj hk hkm
  obtain ⟨σ, hσ, g1, g2, g3, g4⟩ := B.sg
  have ci : i = 1 ∨ i = 2 := one_two hi1 (Nat.lt_of_lt_of_le hi hn)
  have cj : j = 1 ∨ j = 2 := one_two hj1 (Nat.lt_of_lt_of_le hj hm)
  rw [hk1] at eS eU eV
  have hz := B.sz.bring h hi hj hk hkm
  rcases ci with rfl | rfl <;> rcases cj with rfl | rfl
  · refine ⟨hz, ⟨σ, hσ, ?_⟩, fun q => ?_, fun q => ?_⟩
    · rw [eS, eS, eS, eS]; exact ⟨g1, g2, g3, g4⟩
    · rw [eS, eS, eS, eS, eU, eU]; exact B.pu q
    · rw [eS, eS, eS, eS, eV, eV]; exact B.pv q
  · refine ⟨hz, ⟨σ, hσ, ?_⟩, fun q => ?_, fun q => ?_⟩
    · rw [eS, eS, eS, eS]; exact ⟨g2, g1, g4, g3⟩
    · rw [eS, eS, eS, eS, eU, eU]; exact per2 (B.pu q)
    · rw [eS, eS, eS, eS, eV, eV]; exact per1 (B.pv q)
  · refine ⟨hz, ⟨σ, hσ, ?_⟩, fun q => ?_, fun q => ?_⟩
    · rw [eS, eS, eS, eS]; exact ⟨g3, g4, g1, g2⟩
    · rw [eS, eS, eS, eS, eU, eU]; exact per1 (B.pu q)
    · rw [eS, eS, eS, eS, eV, eV]; exact per2 (B.pv q)
  · refine ⟨hz, ⟨σ, hσ, ?_⟩, fun q => ?_, fun q => ?_⟩
    · rw [eS, eS, eS, eS]; exact ⟨g4, g3, g2, g1⟩
    · rw [eS, eS, eS, eS, eU, eU]; exact per3 (B.pu q)
    · rw [eS, eS, eS, eS, eV, eV]; exact per3 (B.pv q)
theorem zero_lt_two (B : Nat) : (0 : Int).natAbs < 2 ^ B := Nat.two_pow_pos B
/-- one sign: the division as naturals -/
theorem nabs {σ x : Int} (hσ : σ = 1 ∨ σ = -1) (h : 0 ≤ σ * x) : (x.natAbs : Int) = σ * x := by
  rcases hσ with rfl | rfl
  · rw [Int.one_mul] at h ⊢; exact Int.natAbs_of_nonneg h
  · rw [← Int.neg_eq_neg_one_mul] at h ⊢; rw [← Int.natAbs_neg]; exact Int.natAbs_of_nonneg h
theorem sum_eq {a b c : Nat} {x y z : Int} (ha : (a : Int) = x) (hb : (b : Int) = y) (hc : (c : Int) = z) (h : x = y + z) : a = b + c := by lia
theorem sum_le {a b c : Nat} {x y z w : Int} (ha : (a : Int) = x) (hb : (b : Int) = y) (hc : (c : Int) = z) (hw : 0 ≤ w) (h : x + y = z - w) : a + b ≤ c := by lia
theorem sgn_cases {σ l : Int} (hσ : σ = 1 ∨ σ = -1) (hl : 0 < σ * l) : (σ = 1 ∧ 0 < l) ∨ (σ = -1 ∧ l < 0) := by
  rcases hσ with rfl | rfl
  · exact .inl ⟨rfl, by rwa [Int.one_mul] at hl⟩
  · exact .inr ⟨rfl, by rw [← Int.neg_eq_neg_one_mul] at hl; exact Int.neg_pos.mp hl⟩
theorem nat_div {σ c l : Int} (hσ : σ = 1 ∨ σ = -1) (hl : 0 < σ * l) (hc : 0 ≤ σ * c) : 0 ≤ c.fdiv l ∧ c.natAbs = (c.fdiv l).natAbs * l.natAbs + (c.fmod l).natAbs := by
  have hr := (sgn_fmod (sgn_cases hσ hl) c).1
  have q : 0 ≤ c.fdiv l := by
    rcases sgn_cases hσ hl with ⟨rfl, hp⟩ | ⟨rfl, hp⟩
    · rw [Int.one_mul] at hc; exact Int.fdiv_nonneg hc (Int.le_of_lt hp)
    · rw [← Int.neg_eq_neg_one_mul] at hc; rw [← Int.neg_fdiv_neg]; exact Int.fdiv_nonneg hc (Int.neg_nonneg_of_nonpos (Int.le_of_lt hp))
  refine ⟨q, ?_⟩
  rw [← Int.natAbs_mul]
  refine sum_eq (nabs hσ hc) (nabs hσ (x := c.fdiv l * l) ?_) (nabs hσ hr) ?_
  · rw [Int.mul_left_comm]; exact Int.mul_nonneg q (Int.le_of_lt hl)
  · rw [← Int.mul_add, Int.mul_comm (c.fdiv l), Int.mul_fdiv_add_fmod]
theorem same_sgn {σ τ a : Int} (h : σ = 1 ∨ σ = -1) (h' : τ = 1 ∨ τ = -1) (p : 0 < τ * a) (q : 0 < σ * a) : τ = σ := by
  rcases h with rfl | rfl <;> rcases h' with rfl | rfl <;> lia
theorem sgn_mul {σ a b : Int} (h : 0 ≤ a) (h' : 0 ≤ σ * b) : 0 ≤ σ * (a * b) := by rw [Int.mul_left_comm]; exact Int.mul_nonneg h h'
theorem abs_sum {σ x y z w : Int} (hσ : σ = 1 ∨ σ = -1) (hx : 0 ≤ σ * x) (hy : 0 ≤ σ * y) (hw : 0 ≤ σ * w) (f : x + y = z - w) : x.natAbs + y.natAbs ≤ z.natAbs := by
  have hz : 0 ≤ σ * z := by
    have e : z = x + y + w := by rw [f, Int.sub_add_cancel]
    rw [e, Int.mul_add, Int.mul_add]; exact Int.add_nonneg (Int.add_nonneg hx hy) hw
  exact sum_le (nabs hσ hx) (nabs hσ hy) (nabs hσ hz) hw (by rw [← Int.mul_add, f, Int.mul_sub])
section
variable {n m K P : Nat} {G : Mat} {x y : St} {p : Nat × Nat} (C : Two1 n m K G x p y)
include C
theorem Two1.bring : Big P x → Big P (bringM x p.1 p.2) := fun B => by
  obtain ⟨i1, i2, i3, i4⟩ := C.T.st.pin
  have k1 := C.k1
  exact B.bring C.hn C.hm C.L.sh k1 i2 i4 C.T.st.hk C.T.st.hkm (by lia) (by lia)
/-- it stays great -/
theorem Two1.goOn (B : Big P x) (hl : K < (el (bringM x p.1 p.2).S 1 1).natAbs) : Big P y := by
  have B1 := C.bring B
  obtain ⟨ey, σ', hσ', s1, s2, s3, s4⟩ := C.big hl
  obtain ⟨v1, v2, v3, v4⟩ := C.vals
  rw [← ey] at v1 v2 v3 v4
  have hb : Shs n m (bringM x p.1 p.2) := C.L.sh.bring (j := p.2) C.T.st.pin.2.1 C.T.st.hk
  have hk : (bringM x p.1 p.2).k < n := C.T.st.hk
  have hkm : (bringM x p.1 p.2).k < m := C.T.st.hkm
  have kX : (bringM x p.1 p.2).k = 1 := C.k1
  have hU := el_crossedU hb hk hkm
  have hV := el_crossedV hb hk hkm
  have hS := el_crossed hb hk hkm
  have hy : Shs n m y := by rw [ey]; exact hb.crossed hk
  rw [← ey, kX] at hU hV hS
  have hn := C.hn
  have hm := C.hm
  have hkz : el y.S 0 2 = 0 ∧ el y.S 2 0 = 0 := by
    have b : Blk 1 y := by rw [ey]; exact C.Bk.ops (by lia) (by lia) C.ops.2
    exact ⟨b.z1 0 2 (by lia) (by lia), b.z2 0 2 (by lia) (by lia)⟩
  clear ey
  generalize bringM x p.1 p.2 = X at *
  -- one sign of X and y
  obtain ⟨σ, hσ, g1, g2, g3, g4⟩ := B1.sg
  have hll : 0 < σ * el X.S 1 1 := Int.lt_iff_le_and_ne.mpr (And.intro g1 fun e => by
    rcases Int.mul_eq_zero.mp e.symm with e | e
    · rcases hσ with rfl | rfl <;> exact absurd e (by decide)
    · rw [v1, e, Int.mul_zero] at s1; exact absurd s1 (by decide))
  have es : σ' = σ := by
    rw [v1] at s1
    exact same_sgn hσ hσ' s1 hll
  subst es
  obtain ⟨q1, d1⟩ := nat_div hσ hll g3
  obtain ⟨q2, d2⟩ := nat_div hσ hll g2
  rw [← v2] at d1
  rw [← v3] at d2
  rw [← v2] at v4
  have le12 : (el y.S 1 2).natAbs ≤ (el X.S 1 2).natAbs := by rw [d2]; exact Nat.le_add_left _ _
  have le21 : (el y.S 2 1).natAbs ≤ (el X.S 2 1).natAbs := by rw [d1]; exact Nat.le_add_left _ _
  have hd1 : (el y.S 2 2).natAbs + ((el X.S 2 1).fdiv (el X.S 1 1)).natAbs * (el y.S 1 2).natAbs ≤ (el X.S 2 2).natAbs ∧ (el y.S 2 2).natAbs + ((el X.S 1 2).fdiv (el X.S 1 1)).natAbs * (el y.S 2 1).natAbs ≤ (el X.S 2 2).natAbs := by
    have e2 := fm_eq (el X.S 1 2) (el X.S 1 1)
    have e1 := fm_eq (el X.S 2 1) (el X.S 1 1)
    rw [← v3] at e2
    rw [← v2] at e1
    generalize (el X.S 2 1).fdiv (el X.S 1 1) = q at *
    generalize (el X.S 1 2).fdiv (el X.S 1 1) = r at *
    rw [← Int.natAbs_mul, ← Int.natAbs_mul]
    generalize el y.S 2 2 = d' at *
    generalize el y.S 1 2 = b' at *
    generalize el y.S 2 1 = c' at *
    generalize el X.S 2 2 = d at *
    generalize el X.S 1 2 = b at *
    generalize el X.S 2 1 = c at *
    generalize el X.S 1 1 = a at *
    have f1 : d' + q * b' = d - r * c := by grind
    have f2 : d' + r * c' = d - q * b := by grind
    exact ⟨abs_sum hσ s4 (sgn_mul q1 s2) (sgn_mul q2 g3) f1, abs_sum hσ s4 (sgn_mul q2 s3) (sgn_mul q1 g2) f2⟩
  have hU1 : ∀ j, el y.U 1 j = el X.U 1 j := fun j => by rw [hU, if_neg (by decide)]
  have hU2 : ∀ j, (el y.U 2 j).natAbs ≤ (el X.U 2 j).natAbs + ((el X.S 2 1).fdiv (el X.S 1 1)).natAbs * (el X.U 1 j).natAbs := fun j => by
    rw [hU, if_pos (by decide), ← Int.natAbs_mul]; exact Int.natAbs_sub_le _ _
  have hV1 : ∀ i, el y.V i 1 = el X.V i 1 := fun i => by rw [hV, if_neg (by decide)]
  have hV2 : ∀ i, (el y.V i 2).natAbs ≤ (el X.V i 2).natAbs + ((el X.S 1 2).fdiv (el X.S 1 1)).natAbs * (el X.V i 1).natAbs := fun i => by
    rw [hV, if_pos (by decide), ← Int.natAbs_mul]; exact Int.natAbs_sub_le _ _
  have pu : ∀ j, (el y.U 1 j).natAbs * (el y.S 2 1).natAbs + (el y.U 1 j).natAbs * (el y.S 2 2).natAbs + (el y.U 2 j).natAbs * (el y.S 1 1).natAbs + (el y.U 2 j).natAbs * (el y.S 1 2).natAbs < 2 ^ P := fun j => by
    have := pot (u1 := (el X.U 1 j).natAbs) d1 hd1.1 le12 (hU2 j)
    rw [hU1, v1]
    exact Nat.lt_of_le_of_lt this (B1.pu j)
  have pv : ∀ i, (el y.V i 1).natAbs * (el y.S 1 2).natAbs + (el y.V i 1).natAbs * (el y.S 2 2).natAbs + (el y.V i 2).natAbs * (el y.S 1 1).natAbs + (el y.V i 2).natAbs * (el y.S 2 1).natAbs < 2 ^ P := fun i => by
    have := pot (u1 := (el X.V i 1).natAbs) d2 hd1.2 le21 (hV2 i)
    rw [hV1, v1]
    exact Nat.lt_of_le_of_lt this (B1.pv i)
  have ha : 1 ≤ (el y.S 1 1).natAbs := Nat.pos_of_ne_zero fun e => by rw [Int.natAbs_eq_zero.mp e, Int.mul_zero] at s1; exact absurd s1 (by decide)
  refine ⟨fun i j => ⟨?_, ?_, ?_⟩, ⟨σ', hσ, Int.le_of_lt s1, s2, s3, s4⟩, pu, pv⟩
  · have hx := B1.sz
    by_cases h3 : 3 ≤ i ∨ 3 ≤ j
    · rw [el_out hy.s (by lia)]; exact zero_lt_two P
    · have ci : i = 0 ∨ i = 1 ∨ i = 2 := by lia
      have cj : j = 0 ∨ j = 1 ∨ j = 2 := by lia
      have b21 := (hx 2 1).1
      have b12 := (hx 1 2).1
      have b22 := (hx 2 2).1
      have b11 := (hx 1 1).1
      rcases ci with rfl | rfl | rfl
      · -- row 0: as in X, for X has nothing there
        rcases cj with rfl | rfl | rfl
        · rw [hS, if_neg (by decide)]; unfold mid; rw [if_neg (by decide)]; exact (hx 0 0).1
        · rw [hS, if_neg (by decide)]; unfold mid; rw [if_neg (by decide)]; exact (hx 0 1).1
        · rw [hkz.1]; exact zero_lt_two P
      · rcases cj with rfl | rfl | rfl
        · rw [hS, if_neg (by decide)]; unfold mid; rw [if_neg (by decide)]; exact (hx 1 0).1
        · rw [v1]; exact b11
        · exact Nat.lt_of_le_of_lt le12 b12
      · rcases cj with rfl | rfl | rfl
        · rw [hkz.2]; exact zero_lt_two P
        · exact Nat.lt_of_le_of_lt le21 b21
        · exact Nat.lt_of_le_of_lt (Nat.le_trans (Nat.le_add_right _ _) hd1.1) b22
  · by_cases h2 : i = 2
    · subst h2
      exact third_lt ha (pu j)
    · by_cases h3 : 3 ≤ i
      · rw [el_out hy.u (by lia)]; exact zero_lt_two P
      · rw [hU, if_neg (by lia)]; exact (B1.sz i j).2.1
  · by_cases h2 : j = 2
    · subst h2
      exact third_lt ha (pv i)
    · by_cases h3 : 3 ≤ j
      · rw [el_out hy.v (by lia)]; exact zero_lt_two P
      · rw [hV, if_neg (by lia)]; exact (B1.sz i j).2.2
end
end Mine

/-! the plain law: every run ends -/
namespace Mine
noncomputable def FinP (ok : Int → Int → Prop) (n m C : Nat) (x : St) : Prop := ∃ N z, Run ok n m N x z ∧ Sz C z
section
variable {ok : Int → Int → Prop} {n m C : Nat}
theorem FinP.stop {x : St} {B : Nat} (h : smithStep n m x = none) (s : Sz B x) (e : B ≤ C) : FinP ok n m C x := ⟨0, x, .stop h, s.mono e⟩
theorem FinP.turn {x y : St} {p : Nat × Nat} (h : smithStep n m x = some y) (P : Stepped n m x p y) (hm : CrossMul ok n m (bringM x p.1 p.2)) (f : FinP ok n m C y) : FinP ok n m C x := by
  obtain ⟨N, z, r, s⟩ := f
  refine ⟨N + 1, z, .turn h (fun q hq => ?_) r, s⟩
  have := P.lp
  rw [hq] at this; cases this; exact hm
theorem fin3 {x : St} {B : Nat} (h : min n m ≤ x.k) (s : Sz B x) (e : B ≤ C) : FinP ok n m C x := .stop (smithStep_end (by lia)) s e
theorem fin2 {x : St} {B : Nat} (M : MulOk ok) (hn : n ≤ 3) (hm : m ≤ 3) (h : Shs n m x) (hb : Blk x.k x) (hk : x.k = 2) (s : Sz B x) (e : 2 * B + 3 ≤ C) (hB : B ≤ 2 ^ 26) : FinP ok n m C x := by
  cases hs : smithStep n m x with
  | none => exact .stop hs s (by lia)
  | some y =>
    obtain ⟨p, P⟩ := stepped hs
    refine .turn hs P (step_mul M h P s hB) ?_
    have hkn := P.hk
    have hkm := P.hkm
    have hy := (step_blk hn hm h hb hs).1
    rcases hy with hy | hy
    · exfalso
      have T := stay h P hy
      rcases T.is with ⟨_, hf⟩ | ⟨_, r, r1, r2, _⟩
      · rcases crossed_not (h.bring (j := p.2) P.pin.2.1 hkn) hkn hkm hf with ⟨i, a, b, _⟩ | ⟨i, a, b, _⟩
        · have a' : x.k < i := a
          lia
        · have a' : x.k < i := a
          lia
      · lia
    · exact fin3 (by lia) (sz_step h P s) e
variable {K : Nat} {G : Mat}
/-- behind the second line -/
theorem fin12 {x : St} {B : Nat} (M : MulOk ok) (hn : n ≤ 3) (hm : m ≤ 3) (h : Shs n m x) (hb : Blk x.k x) (hk : x.k = 2) (s : Sz B x) (e : 2 * B + 3 ≤ C) (hB : B ≤ 2 ^ 26) : FinP ok n m C x := fin2 M hn hm h hb hk s e hB
theorem fin1small (M : MulOk ok) (hn : n ≤ 3) (hm : m ≤ 3) (hK : n = 3 → m = 3 → (dN 3 (el G)).natAbs ≤ K) (hK2 : 2 * K < 2 ^ 16) : ∀ (μ : Nat) (x : St) (Q : Nat), x.k = 1 → Lin n m G x → Blk 1 x → Sz Q x → lam n m x ≤ K → (∀ i j, 1 ≤ i → 1 ≤ j → (el x.S i j).natAbs ≤ 2 * K) → meas n m x ≤ μ → 2 * (Q + 19 * (μ + 1)) + 3 ≤ C → Q + 19 * (μ + 1) ≤ 2 ^ 26 → FinP ok n m C x := by
  intro μ
  induction μ with
  | zero =>
    intro x Q hk L Bk s hl he hμ hC hB
    cases hs : smithStep n m x with
    | none => exact .stop hs s (by lia)
    | some y =>
      exfalso
      obtain ⟨p, P⟩ := stepped hs
      have := le_meas n m x
      have hls := least_some (Nat.le_of_lt P.hkm) P.lp
      have : lam n m x = (el x.S p.1 p.2).natAbs := by unfold lam; rw [P.lp]
      lia
  | succ μ ih =>
    intro x Q hk L Bk s hl he hμ hC hB
    cases hs : smithStep n m x with
    | none => exact .stop hs s (by lia)
    | some y =>
      obtain ⟨p, P⟩ := stepped hs
      obtain ⟨i1, i2, i3, i4⟩ := P.pin
      have hb := L.sh.bring (j := p.2) i2 P.hk
      have heX : ∀ i j, 1 ≤ i → 1 ≤ j → (el (bringM x p.1 p.2).S i j).natAbs ≤ 2 * K := fun i j hi hj => by
        rw [el_bringS L.sh i2 i4 P.hk P.hkm]
        refine he _ _ ?_ ?_
        · split
          · lia
          · split <;> lia
        · split
          · lia
          · split <;> lia
      have h16 : ∀ a b : Int, a.natAbs ≤ 2 * K → (a.fdiv b).natAbs < 2 ^ 16 := fun a b h => Nat.lt_of_le_of_lt (Nat.le_trans (fdiv_le a b) h) hK2
      have h64 : ∀ a b : Int, a.natAbs ≤ 2 * K → (a.fdiv b).natAbs < 2 ^ 64 := fun a b h => lt_mono (h16 a b h) (by decide)
      have kX : (bringM x p.1 p.2).k = 1 := hk
      have nz : el (bringM x p.1 p.2).S x.k x.k ≠ 0 := by rw [bring_lead L.sh i2 i4 P.hk P.hkm]; exact (least_some (Nat.le_of_lt P.hkm) P.lp).1
      have hmul : CrossMul ok n m (bringM x p.1 p.2) := crossMul hb P.hk P.hkm nz
        (fun i hi _ j => by
          have := h64 (el (bringM x p.1 p.2).S i (bringM x p.1 p.2).k) (el (bringM x p.1 p.2).S (bringM x p.1 p.2).k (bringM x p.1 p.2).k) (heX _ _ (by lia) (by lia))
          exact ⟨M.l _ _ this, M.l _ _ this⟩)
        (fun j hj _ i => by
          have := h64 (el (bringM x p.1 p.2).S (bringM x p.1 p.2).k j) (el (bringM x p.1 p.2).S (bringM x p.1 p.2).k (bringM x p.1 p.2).k) (heX _ _ (by lia) (by lia))
          exact ⟨M.l _ _ this, M.l _ _ this⟩)
      have sy : Sz (Q + 19) y := (sz_stepC (C := 16) L.sh P s (fun i hi => h16 _ _ (heX _ _ (by lia) (by lia))) fun j hj => h16 _ _ (heX _ _ (by lia) (by lia))).mono (by lia)
      refine .turn hs P hmul ?_
      obtain ⟨hyk, hyb⟩ := step_blk hn hm L.sh (by rw [hk]; exact Bk) hs
      have Ly := step_lin hn hm L hs
      rcases hyk with hyk | hyk
      · have T := stay L.sh P hyk
        have C1 : Two1 n m K G x p y := ⟨hn, hm, L, Bk, hk, T, hK⟩
        obtain ⟨m1, m2⟩ := stay_meas hn hm L.sh T
        have hlK : (el (bringM x p.1 p.2).S 1 1).natAbs ≤ K := by have := T.lam; rw [hk] at this; lia
        exact ih y (Q + 19) (by lia) Ly (by rw [hyk, hk] at hyb; exact hyb) sy (by lia) (C1.small hlK) (by lia) (by lia) (by lia)
      · by_cases h2 : min n m ≤ 2
        · exact fin3 (by lia) sy (by lia)
        · exact fin2 M hn hm Ly.sh hyb (by lia) sy (by lia) (by lia)
theorem fin1big (M : MulOk ok) (hn : n ≤ 3) (hm : m ≤ 3) (hK : n = 3 → m = 3 → (dN 3 (el G)).natAbs ≤ K) (hK2 : 2 * K < 2 ^ 16) {P : Nat} (hC : 2 * (2 * P + 3 + 19 * (2 * K + 2)) + 3 ≤ C) (hP : 2 * P + 3 + 19 * (2 * K + 2) ≤ 2 ^ 26) : ∀ (μ : Nat) (x : St), x.k = 1 → Lin n m G x → Blk 1 x → Big P x → meas n m x ≤ μ → FinP ok n m C x := by
  intro μ
  induction μ using Nat.strongRecOn with
  | _ μ ih =>
    intro x hk L Bk B hμ
    cases hs : smithStep n m x with
    | none => exact .stop hs B.sz (by lia)
    | some y =>
      obtain ⟨p, Pp⟩ := stepped hs
      have sy := sz_step L.sh Pp B.sz
      refine .turn hs Pp (step_mul M L.sh Pp B.sz (by lia)) ?_
      obtain ⟨hyk, hyb⟩ := step_blk hn hm L.sh (by rw [hk]; exact Bk) hs
      have Ly := step_lin hn hm L hs
      rcases hyk with hyk | hyk
      · have T := stay L.sh Pp hyk
        have C1 : Two1 n m K G x p y := ⟨hn, hm, L, Bk, hk, T, hK⟩
        obtain ⟨m1, m2⟩ := stay_meas hn hm L.sh T
        have hyb1 : Blk 1 y := by rw [hyk, hk] at hyb; exact hyb
        by_cases hl : K < (el (bringM x p.1 p.2).S 1 1).natAbs
        · exact ih (meas n m y) (by lia) y (by lia) Ly hyb1 (C1.goOn B hl) (Nat.le_refl _)
        · have hlK : lam n m y ≤ K := by have := T.lam; rw [hk] at this; lia
          have := meas_le n m y
          exact fin1small M hn hm hK hK2 (2 * K + 1) y (2 * P + 3) (by lia) Ly hyb1 sy hlK (C1.small (by lia)) (by lia) (by lia) (by lia)
      · by_cases h2 : min n m ≤ 2
        · exact fin3 (by lia) sy (by lia)
        · exact fin2 M hn hm Ly.sh hyb (by lia) sy (by lia) (by lia)
theorem four_lt {a b c d e f g h B : Nat} (ha : a < 2 ^ B) (hb : b < 2 ^ B) (hc : c < 2 ^ B) (hd : d < 2 ^ B) (he : e < 2 ^ B) (hf : f < 2 ^ B) (hg : g < 2 ^ B) (hh : h < 2 ^ B) : a * b + c * d + e * f + g * h < 2 ^ (2 * B + 2) := by
  have key : ∀ x y, x < 2 ^ B → y < 2 ^ B → x * y < 2 ^ (B + B) := fun x y hx hy => by
    rw [Nat.pow_add]
    exact Nat.lt_of_le_of_lt (Nat.mul_le_mul_right _ (Nat.le_of_lt hx)) (Nat.mul_lt_mul_of_pos_left hy (Nat.two_pow_pos B))
  have h1 := key a b ha hb
  have h2 := key c d hc hd
  have h3 := key e f he hf
  have h4 := key g h hg hh
  have e1 : 2 ^ (2 * B + 2) = 2 ^ (B + B) * 4 := by rw [show 2 * B + 2 = (B + B) + 2 by lia, Nat.pow_add]
  lia
theorem fin1fresh (M : MulOk ok) (hn : n ≤ 3) (hm : m ≤ 3) (hK : n = 3 → m = 3 → (dN 3 (el G)).natAbs ≤ K) (hK2 : 2 * K < 2 ^ 16) {B : Nat} (hC : 2 * (2 * (4 * B + 8) + 3 + 19 * (2 * K + 2)) + 3 ≤ C) (hP : 2 * (4 * B + 8) + 3 + 19 * (2 * K + 2) ≤ 2 ^ 26) {x : St} (hk : x.k = 1) (L : Lin n m G x) (Bk : Blk 1 x) (s : Sz B x) : FinP ok n m C x := by
  cases hs : smithStep n m x with
  | none => exact .stop hs s (by lia)
  | some y =>
    obtain ⟨p, Pp⟩ := stepped hs
    have sy := sz_step L.sh Pp s
    refine .turn hs Pp (step_mul M L.sh Pp s (by lia)) ?_
    obtain ⟨hyk, hyb⟩ := step_blk hn hm L.sh (by rw [hk]; exact Bk) hs
    have Ly := step_lin hn hm L hs
    rcases hyk with hyk | hyk
    · have T := stay L.sh Pp hyk
      have C1 : Two1 n m K G x p y := ⟨hn, hm, L, Bk, hk, T, hK⟩
      obtain ⟨m1, m2⟩ := stay_meas hn hm L.sh T
      have hyb1 : Blk 1 y := by rw [hyk, hk] at hyb; exact hyb
      by_cases hl : K < (el (bringM x p.1 p.2).S 1 1).natAbs
      · obtain ⟨_, σ, hσ, g1, g2, g3, g4⟩ := C1.big hl
        have BB : Big (4 * B + 8) y := by
          refine ⟨sy.mono (by lia), ⟨σ, hσ, Int.le_of_lt g1, g2, g3, g4⟩, fun j => ?_, fun i => ?_⟩
          · have := four_lt (sy 1 j).2.1 (sy 2 1).1 (sy 1 j).2.1 (sy 2 2).1 (sy 2 j).2.1 (sy 1 1).1 (sy 2 j).2.1 (sy 1 2).1
            rw [show 4 * B + 8 = 2 * (2 * B + 3) + 2 by lia]; exact this
          · have := four_lt (sy i 1).2.2 (sy 1 2).1 (sy i 1).2.2 (sy 2 2).1 (sy i 2).2.2 (sy 1 1).1 (sy i 2).2.2 (sy 2 1).1
            rw [show 4 * B + 8 = 2 * (2 * B + 3) + 2 by lia]; exact this
        exact fin1big M hn hm hK hK2 hC hP _ y (by lia) Ly hyb1 BB (Nat.le_refl _)
      · have hlK : lam n m y ≤ K := by have := T.lam; rw [hk] at this; lia
        have := meas_le n m y
        exact fin1small M hn hm hK hK2 (2 * K + 1) y (2 * B + 3) (by lia) Ly hyb1 sy hlK (C1.small (by lia)) (by lia) (by lia) (by lia)
    · by_cases h2 : min n m ≤ 2
      · exact fin3 (by lia) sy (by lia)
      · exact fin2 M hn hm Ly.sh hyb (by lia) sy (by lia) (by lia)
theorem fin0 (M : MulOk ok) (hn : n ≤ 3) (hm : m ≤ 3) (hK : n = 3 → m = 3 → (dN 3 (el G)).natAbs ≤ K) (hK2 : 2 * K < 2 ^ 16) {C0 : Nat} (hC : 2 * (2 * (4 * C0 + 8) + 3 + 19 * (2 * K + 2)) + 3 ≤ C) (hP : 2 * (4 * C0 + 8) + 3 + 19 * (2 * K + 2) ≤ 2 ^ 26) : ∀ (μ : Nat) (x : St) (B : Nat), x.k = 0 → Lin n m G x → Blk 0 x → Sz B x → meas n m x ≤ μ → (B + 3) * 2 ^ μ ≤ C0 → FinP ok n m C x := by
  intro μ
  induction μ with
  | zero =>
    intro x B hk L Bk s hμ hC0
    rw [Nat.pow_zero, Nat.mul_one] at hC0
    cases hs : smithStep n m x with
    | none => exact .stop hs s (by lia)
    | some y =>
      exfalso
      obtain ⟨p, P⟩ := stepped hs
      have := le_meas n m x
      have hls := least_some (Nat.le_of_lt P.hkm) P.lp
      have : lam n m x = (el x.S p.1 p.2).natAbs := by unfold lam; rw [P.lp]
      lia
  | succ μ ih =>
    intro x B hk L Bk s hμ hC0
    have hp := Nat.two_pow_pos μ
    have hC1 : (2 * B + 3 + 3) * 2 ^ μ ≤ C0 := by
      have : (B + 3) * 2 ^ (μ + 1) = (2 * B + 3 + 3) * 2 ^ μ := by rw [Nat.pow_succ]; grind
      lia
    have hB1 : 2 * B + 3 + 3 ≤ C0 := Nat.le_trans (Nat.le_mul_of_pos_right _ hp) hC1
    cases hs : smithStep n m x with
    | none => exact .stop hs s (by lia)
    | some y =>
      obtain ⟨p, Pp⟩ := stepped hs
      have sy := sz_step L.sh Pp s
      refine .turn hs Pp (step_mul M L.sh Pp s (by lia)) ?_
      obtain ⟨hyk, hyb⟩ := step_blk hn hm L.sh (by rw [hk]; exact Bk) hs
      have Ly := step_lin hn hm L hs
      rcases hyk with hyk | hyk
      · have T := stay L.sh Pp hyk
        obtain ⟨m1, m2⟩ := stay_meas hn hm L.sh T
        exact ih y (2 * B + 3) (by lia) Ly (by rw [hyk, hk] at hyb; exact hyb) sy (by lia) hC1
      · rw [hk] at hyk
        by_cases h2 : min n m ≤ 1
        · exact fin3 (by lia) sy (by lia)
        · exact fin1fresh (B := 2 * B + 3) M hn hm hK hK2 (by lia) (by lia) (by lia) Ly (by rw [hyk] at hyb; exact hyb) sy
end
theorem run_ok {ok : Int → Int → Prop} {n m N : Nat} {G : Mat} {x z : St} (hn : n ≤ 3) (hm : m ≤ 3) (r : Run ok n m N x z) : Lin n m G x → Blk x.k x → Lin n m G z ∧ Blk z.k z ∧ smithStep n m z = none := by
  induction r with
  | stop h => exact fun L B => ⟨L, B, h⟩
  | turn h _ _ ih => exact fun L B => ih (step_lin hn hm L h) (step_blk hn hm L.sh B h).2
end Mine

/-! the plain law: hermite_form -/
namespace Mine
noncomputable def stOf (V : Mat) (p : Mat × Mat) : St := ⟨p.1, p.2, V, 0⟩
theorem ext_one {a b : Int} (hb : b ≠ 0) : (extd a b).2.1 * (a.fdiv (extd a b).1) + (extd a b).2.2 * (b.fdiv (extd a b).1) = 1 := by
  have F := extd_facts (a := a) hb
  obtain ⟨a', ha⟩ := F.da
  obtain ⟨b', hb'⟩ := F.db
  have hl := F.lin
  have hp := F.pos
  generalize extd a b = g at *
  obtain ⟨g, s, t⟩ := g
  dsimp only at *
  have e1 : a.fdiv g = a' := by rw [ha, Int.mul_comm]; exact Int.mul_fdiv_cancel _ (by lia)
  have e2 : b.fdiv g = b' := by rw [hb', Int.mul_comm]; exact Int.mul_fdiv_cancel _ (by lia)
  rw [e1, e2]
  have : g * (s * a' + t * b') = g * 1 := by rw [Int.mul_one]; grind
  exact Int.eq_of_mul_eq_mul_left (by lia) this
theorem ext_zero {a b : Int} (hb : b ≠ 0) : -(b.fdiv (extd a b).1) * a + a.fdiv (extd a b).1 * b = 0 := by
  have F := extd_facts (a := a) hb
  obtain ⟨a', ha⟩ := F.da
  obtain ⟨b', hb'⟩ := F.db
  have hp := F.pos
  generalize extd a b = g at *
  obtain ⟨g, s, t⟩ := g
  dsimp only at *
  have e1 : a.fdiv g = a' := by rw [ha, Int.mul_comm]; exact Int.mul_fdiv_cancel _ (by lia)
  have e2 : b.fdiv g = b' := by rw [hb', Int.mul_comm]; exact Int.mul_fdiv_cancel _ (by lia)
  rw [e1, e2]; grind
section
variable {n m : Nat} {V : Mat} (hn : n ≤ 3)
include hn
theorem ops_clearStep {p : Mat × Mat} (h : Shs n m (stOf V p)) {r o c : Nat} (hr : r < n) (ho : o < n) (hro : r ≠ o) : Ops n m 0 (stOf V p) (stOf V (clearStep r c p o)) := by
  unfold clearStep
  by_cases hz : el p.1 o c = 0
  · rw [if_pos hz]; exact .refl _
  · rw [if_neg hz]
    have e1 := ext_one (a := el p.1 r c) hz
    refine .row (.refl _) (Elem.comb hn hr ho hro (Nat.zero_le _) (Nat.zero_le _) ?_) (fm_eComb h.s hr ho _ _ _ _) (fm_eComb h.u hr ho _ _ _ _) rfl ⟨h.s.combine hr _ _ _ _ _, h.u.combine hr _ _ _ _ _, h.v⟩
    rw [Int.mul_neg, Int.sub_neg, e1]; rfl
theorem ops_clearUpto {p : Mat × Mat} (h : Shs n m (stOf V p)) {r c : Nat} (hr : r < n) : ∀ i, r + 1 + i ≤ n → Ops n m 0 (stOf V p) (stOf V (clearUpto r c i p))
  | 0, _ => .refl _
  | i + 1, hi => by
    have o := ops_clearUpto h (c := c) hr i (by lia)
    rw [clearUpto_succ]
    exact o.trans (ops_clearStep hn (h.ops o) hr (by lia) (by lia))
theorem ops_reduceNeg {p : Mat × Mat} (h : Shs n m (stOf V p)) {r c : Nat} (hr : r < n) : Ops n m 0 (stOf V p) (stOf V (reduceNeg r c p)) := by
  unfold reduceNeg
  split
  · exact .row (.refl _) (Elem.neg hn hr (Nat.zero_le _)) (fm_eNeg h.s hr) (fm_eNeg h.u hr) rfl ⟨h.s.neg hr, h.u.neg hr, h.v⟩
  · exact .refl _
theorem ops_reduceUpto {p : Mat × Mat} (h : Shs n m (stOf V p)) {r c : Nat} (hr : r < n) : ∀ i, i ≤ r → Ops n m 0 (stOf V p) (stOf V (reduceUpto r c i p))
  | 0, _ => .refl _
  | i + 1, hi => by
    have o := ops_reduceUpto h (c := c) hr i (by lia)
    rw [reduceUpto_succ]
    have h' := h.ops o
    exact .row o (Elem.sub hn (show i < n by lia) hr (by lia) (Nat.zero_le _) (Nat.zero_le _) _) (fm_eSub h'.s (by lia) _ _) (fm_eSub h'.u (by lia) _ _) rfl ⟨h'.s.sub (by lia) _ _, h'.u.sub (by lia) _ _, h'.v⟩
theorem ops_hermStep {q : (Mat × Mat) × Nat} (h : Shs n m (stOf V q.1)) (hq : q.2 ≤ n) (c : Nat) : Ops n m 0 (stOf V q.1) (stOf V (hermStep n q c).1) := by
  by_cases hs : q.2 = n
  · rw [hermStep_stop hs]; exact .refl _
  · have hr : q.2 < n := by lia
    have o1 := ops_clearUpto hn h (c := c) hr (n - (q.2 + 1)) (by lia)
    by_cases hz : el (clearUpto q.2 c (n - (q.2 + 1)) q.1).1 q.2 c ≠ 0
    · rw [hermStep_lead hs hz]
      have h1 := h.ops o1
      have o2 := ops_reduceNeg hn h1 (c := c) hr
      exact (o1.trans o2).trans (ops_reduceUpto hn (h1.ops o2) hr _ (Nat.le_refl _))
    · rw [hermStep_none hs hz]; exact o1
end
theorem hermUpto_lin {n m : Nat} {M : Mat} (hn : n ≤ 3) (hm : m ≤ 3) (s : Sh n m M) {B : Nat} (b : Bd B M) (hB : 1 ≤ B) : ∀ i, Lin n m M (stOf (unitRows m) (hermUpto M i).1)
  | 0 => by
    have sU : Sh n n (unitRows M.length) := by rw [s.1]; exact Sh.unit n
    refine ⟨⟨s, sU, Sh.unit m⟩, ?_, ?_, ?_⟩
    · show el M = fm m (fm n (el (unitRows M.length)) (el M)) (el (unitRows m))
      rw [s.1]
      funext i j
      rcases Nat.lt_or_ge j m with w | w
      · rw [fm_congr_right (Y' := idF) fun t ht => el_unit ht w, fm_id_right w]
        rcases Nat.lt_or_ge i n with w' | w'
        · rw [fm_congr_left (X' := idF) fun t ht => el_unit w' ht, fm_id_left w']
        · rw [fm_congr_left (X' := fun _ _ => 0) fun t ht => el_out (Sh.unit n) (.inl w'), el_out s (.inl w')]
          unfold fm
          rw [psum_congr (g := fun _ => 0) fun t _ => by simp, psum_zero]
      · rw [el_out s (.inr w)]
        unfold fm
        rw [psum_congr (g := fun _ => 0) fun t _ => by rw [el_out (Sh.unit m) (.inr w)]; simp, psum_zero]
    · show (dN n (el (unitRows M.length))).natAbs = 1
      rw [s.1, dN_congr hn (Y := idF) fun a b ha hb => el_unit ha hb, dN_id hn]; rfl
    · show (dN m (el (unitRows m))).natAbs = 1
      rw [dN_congr hm (Y := idF) fun a b ha hb => el_unit ha hb, dN_id hm]; rfl
  | i + 1 => by
    have L := hermUpto_lin hn hm s b hB i
    obtain ⟨_, _, hq, _⟩ := hermUpto_ok s b hB i
    rw [hermUpto_succ, s.1]
    exact L.ops hn hm (ops_hermStep hn L.sh hq i)

/-! its steps -/
section
variable {n m : Nat} {p : Mat × Mat} (s1 : Sh n m p.1) (s2 : Sh n n p.2) {r c : Nat} (hr : r < n)
include s1 s2 hr
theorem clear_facts : ∀ i, r + 1 + i ≤ n → (∀ a b, a < r → el (clearUpto r c i p).1 a b = el p.1 a b) ∧ (∀ a, r < a → a < r + 1 + i → el (clearUpto r c i p).1 a c = 0) ∧ (∀ b, (∀ a, r ≤ a → el p.1 a b = 0) → ∀ a, r ≤ a → el (clearUpto r c i p).1 a b = 0)
  | 0, _ => ⟨fun _ _ _ => rfl, fun a h1 h2 => by lia, fun _ h => h⟩
  | i + 1, hi => by
    obtain ⟨f1, f2, f3⟩ := clear_facts i (by lia)
    have sh : Sh n m (clearUpto r c i p).1 ∧ Sh n n (clearUpto r c i p).2 := by
      clear f1 f2 f3
      have : ∀ i, Sh n m (clearUpto r c i p).1 ∧ Sh n n (clearUpto r c i p).2 := by
        intro i
        induction i with
        | zero => exact ⟨s1, s2⟩
        | succ i ih => rw [clearUpto_succ]; exact Sh.clearStep ih.1 ih.2 hr c _
      exact this i
    rw [clearUpto_succ]
    generalize clearUpto r c i p = q at *
    unfold clearStep
    by_cases hz : el q.1 (r + 1 + i) c = 0
    · rw [if_pos hz]
      refine ⟨f1, fun a h1 h2 => ?_, f3⟩
      by_cases ha : a = r + 1 + i
      · rw [ha]; exact hz
      · exact f2 a h1 (by lia)
    · rw [if_neg hz]
      have ho : r + 1 + i < n := by lia
      have e := fun a b => el_combine sh.1 hr ho (extd (el q.1 r c) (el q.1 (r + 1 + i) c)).2.1 (extd (el q.1 r c) (el q.1 (r + 1 + i) c)).2.2 (-((el q.1 (r + 1 + i) c).fdiv (extd (el q.1 r c) (el q.1 (r + 1 + i) c)).1)) ((el q.1 r c).fdiv (extd (el q.1 r c) (el q.1 (r + 1 + i) c)).1) a b
      refine ⟨fun a b ha => ?_, fun a h1 h2 => ?_, fun b hb a ha => ?_⟩
      · simp only []
        rw [e, if_neg (by lia), if_neg (by lia)]; exact f1 a b ha
      · simp only []
        rw [e]
        by_cases ha : a = r + 1 + i
        · rw [if_pos ha]; exact ext_zero hz
        · rw [if_neg ha, if_neg (by lia)]; exact f2 a h1 (by lia)
      · simp only []
        rw [e]
        have z := f3 b hb
        split
        · rw [z r (Nat.le_refl _), z (r + 1 + i) (by lia)]; simp
        · split
          · rw [z r (Nat.le_refl _), z (r + 1 + i) (by lia)]; simp
          · exact z a ha
theorem el_reduceUpto (hsq : Sh n m p.1) : ∀ i, i ≤ r → ∀ a b, el (reduceUpto r c i p).1 a b = if a < i then el p.1 a b - (el p.1 a c).fdiv (el p.1 r c) * el p.1 r b else el p.1 a b
  | 0, _, a, b => by rw [if_neg (by lia)]; rfl
  | i + 1, hi, a, b => by
    have ih := el_reduceUpto hsq i (by lia)
    have sh : Sh n m (reduceUpto r c i p).1 := by
      clear ih
      have : ∀ j, j ≤ r → Sh n m (reduceUpto r c j p).1 := by
        intro j
        induction j with
        | zero => intro _; exact hsq
        | succ j ihj => intro hj; rw [reduceUpto_succ]; exact (ihj (by lia)).sub (by lia) _ _
      exact this i (by lia)
    rw [reduceUpto_succ]
    unfold reduceStep
    simp only []
    have e1 := ih i b
    have e2 := ih r b
    have e3 := ih i c
    have e4 := ih r c
    have e5 := ih a b
    rw [if_neg (by lia)] at e1 e2 e3 e4
    rw [el_subRow sh (by lia), e1, e2, e3, e4, e5]
    by_cases ha : a = i
    · subst ha
      rw [if_pos rfl, if_pos (by lia)]
    · rw [if_neg ha]
      by_cases hb : a < i
      · rw [if_pos hb, if_pos (by lia)]
      · rw [if_neg hb, if_neg (by lia)]
end
theorem hermStep_steps {n m c : Nat} {q : (Mat × Mat) × Nat} {piv : Nat → Nat} (s1 : Sh n m q.1.1) (s2 : Sh n n q.1.2) (hc : c < m) (P : Steps q.1.1 n c q.2 piv) : ∃ piv', Steps (hermStep n q c).1.1 n (c + 1) (hermStep n q c).2 piv' := by
  by_cases hs : q.2 = n
  · rw [hermStep_stop hs]
    exact ⟨piv, ⟨P.rn, fun k hk => by have := P.pm k hk; lia, P.pos, P.left, P.up, fun k h1 h2 => by lia⟩⟩
  · have hr : q.2 < n := by have := P.rn; lia
    obtain ⟨⟨H, U⟩, r⟩ := q
    dsimp only at *
    obtain ⟨f1, f2, f3⟩ := clear_facts (p := (H, U)) s1 s2 (c := c) hr (n - (r + 1)) (by lia)
    have hz0 : ∀ j, j < c → ∀ a, r ≤ a → el H a j = 0 := fun j hj a ha => by
      rcases Nat.lt_or_ge a n with w | w
      · exact P.rest a ha w j hj
      · exact el_out s1 (.inl w)
    have z3 : ∀ j, j < c → ∀ a, r ≤ a → el (clearUpto r c (n - (r + 1)) (H, U)).1 a j = 0 := fun j hj => f3 j (hz0 j hj)
    have sh3 : Sh n m (clearUpto r c (n - (r + 1)) (H, U)).1 ∧ Sh n n (clearUpto r c (n - (r + 1)) (H, U)).2 := by
      have : ∀ i, Sh n m (clearUpto r c i (H, U)).1 ∧ Sh n n (clearUpto r c i (H, U)).2 := by
        intro i
        induction i with
        | zero => exact ⟨s1, s2⟩
        | succ i ih => rw [clearUpto_succ]; exact Sh.clearStep ih.1 ih.2 hr c _
      exact this _
    have hst := hermStep_lead (n := n) (c := c) (q := ((H, U), r)) hs
    have hst' := hermStep_none (n := n) (c := c) (q := ((H, U), r)) hs
    dsimp only at hst hst' f1 f2
    by_cases hz : el (clearUpto r c (n - (r + 1)) (H, U)).1 r c ≠ 0
    · rw [hst hz]
      clear hst hst'
      have hlt : ∀ a, r < a → a < n → el (clearUpto r c (n - (r + 1)) (H, U)).1 a c = 0 := fun a h1 h2 => f2 a h1 (by lia)
      generalize clearUpto r c (n - (r + 1)) (H, U) = T at *
      -- the lead's sign
      have eN : ∀ a b, el (reduceNeg r c T).1 a b = el T.1 a b ∨ (a = r ∧ el (reduceNeg r c T).1 a b = -el T.1 r b) := fun a b => by
        unfold reduceNeg
        split
        · show el (negRow T.1 r) a b = _ ∨ (_ ∧ el (negRow T.1 r) a b = _)
          rw [el_neg sh3.1 hr]
          by_cases ha : a = r
          · rw [if_pos ha]; exact .inr ⟨ha, rfl⟩
          · rw [if_neg ha]; exact .inl rfl
        · exact .inl rfl
      have hpos := (reduceNeg_el sh3.1 hr hc hz).2
      have shN : Sh n m (reduceNeg r c T).1 ∧ Sh n n (reduceNeg r c T).2 := by
        unfold reduceNeg
        split
        · exact ⟨sh3.1.neg hr, sh3.2.neg hr⟩
        · exact sh3
      have eNo : ∀ a b, a ≠ r → el (reduceNeg r c T).1 a b = el T.1 a b := fun a b ha => (eN a b).elim _root_.id fun q => absurd q.1 ha
      have eN0 : ∀ j, j < c → el (reduceNeg r c T).1 r j = 0 := fun j hj => by
        have z := z3 j hj r (Nat.le_refl _)
        rcases eN r j with q | ⟨_, q⟩ <;> rw [q, z]
        rfl
      have eR := el_reduceUpto (p := reduceNeg r c T) shN.1 shN.2 (c := c) hr shN.1 r (Nat.le_refl _)
      have eRl : ∀ a j, a < r → j < c → el (reduceUpto r c r (reduceNeg r c T)).1 a j = el H a j := fun a j ha hj => by
        rw [eR, if_pos ha, eN0 j hj, eNo a j (by lia), f1 a j ha]; simp
      have eRr : ∀ j, el (reduceUpto r c r (reduceNeg r c T)).1 r j = el (reduceNeg r c T).1 r j := fun j => by rw [eR, if_neg (by lia)]
      refine ⟨fun k => if k = r then c else piv k, ⟨hr, fun k hk => ?_, fun k hk => ?_, fun k hk j hj => ?_, fun k hk k' hk' => ?_, fun k h1 h2 j hj => ?_⟩⟩
      · by_cases e : k = r
        · rw [if_pos e]; lia
        · rw [if_neg e]; have := P.pm k (by lia); lia
      · by_cases e : k = r
        · subst e; rw [if_pos rfl, eRr]; exact hpos
        · rw [if_neg e, eRl k _ (by lia) (P.pm k (by lia))]; exact P.pos k (by lia)
      · by_cases e : k = r
        · subst e; rw [if_pos rfl] at hj; rw [eRr]; exact eN0 j hj
        · rw [if_neg e] at hj
          have := P.pm k (by lia)
          rw [eRl k j (by lia) (by lia)]; exact P.left k (by lia) j hj
      · by_cases e : k = r
        · subst e
          rw [if_pos rfl, if_neg (by lia)]
          refine ⟨P.pm k' hk', ?_⟩
          rw [eRr, eR, if_pos hk', fmod_def]
          exact fm_pos hpos
        · have hkr : k < r := by lia
          rw [if_neg e, if_neg (by lia), eRl k' _ (by lia) (P.pm k hkr), eRl k _ hkr (P.pm k hkr)]
          exact P.up k hkr k' hk'
      · rw [eR, if_neg (by lia), eNo k j (by lia)]
        by_cases e : j = c
        · rw [e]; exact hlt k (by lia) h2
        · exact z3 j (by lia) k (by lia)
    · rw [hst' hz]
      refine ⟨piv, ⟨P.rn, fun k hk => by have := P.pm k hk; lia, fun k hk => ?_, fun k hk j hj => ?_, fun k hk k' hk' => ?_, fun k h1 h2 j hj => ?_⟩⟩
      · show 0 < el (clearUpto r c (n - (r + 1)) (H, U)).1 k (piv k)
        rw [f1 k _ hk]; exact P.pos k hk
      · show el (clearUpto r c (n - (r + 1)) (H, U)).1 k j = 0
        rw [f1 k _ hk]; exact P.left k hk j hj
      · show _ ∧ 0 ≤ el (clearUpto r c (n - (r + 1)) (H, U)).1 k' (piv k) ∧ el (clearUpto r c (n - (r + 1)) (H, U)).1 k' (piv k) < el (clearUpto r c (n - (r + 1)) (H, U)).1 k (piv k)
        rw [f1 k' _ (by lia), f1 k _ hk]; exact P.up k hk k' hk'
      · show el (clearUpto r c (n - (r + 1)) (H, U)).1 k j = 0
        by_cases e : j = c
        · subst e
          by_cases e2 : k = r
          · rw [e2]; exact Classical.byContradiction fun w => hz w
          · exact f2 k (by lia) (by lia)
        · exact z3 j (by lia) k h1
theorem hermUpto_steps {n m : Nat} {M : Mat} (s : Sh n m M) {B : Nat} (b : Bd B M) (hB : 1 ≤ B) : ∀ i, i ≤ m → ∃ piv, Steps (hermUpto M i).1.1 n i (hermUpto M i).2 piv
  | 0, _ => ⟨fun _ => 0, ⟨Nat.zero_le _, fun k hk => absurd hk (Nat.not_lt_zero k), fun k hk => absurd hk (Nat.not_lt_zero k), fun k hk => absurd hk (Nat.not_lt_zero k), fun k hk => absurd hk (Nat.not_lt_zero k), fun k _ _ j hj => absurd hj (Nat.not_lt_zero j)⟩⟩
  | i + 1, hi => by
    obtain ⟨piv, P⟩ := hermUpto_steps s b hB i (by lia)
    obtain ⟨h1, h2, _, _⟩ := hermUpto_ok s b hB i
    rw [hermUpto_succ, s.1]
    exact hermStep_steps h1 h2 (by lia) P
end Mine

/-! the plain law -/
namespace Mine
structure GridOk (n m : Nat) (G : Mat) : Prop where
  bd : Bd 6 G
  rows : ∀ i j, i + 1 < n → (el G i j).natAbs < 2 ^ 3
  some : ∀ i j, el G i j ≠ 0 → ∃ i' j', el G i' j' ≠ 0 ∧ (el G i' j').natAbs < 2 ^ 3
theorem Bd.of {n m B : Nat} {M : Mat} (h : Sh n m M) (e : ∀ i j, (Mine.el M i j).natAbs < 2 ^ B) : Bd B M := fun x hx y hy => by
  obtain ⟨i, hi, rfl⟩ := List.getElem_of_mem hx
  obtain ⟨j, hj, rfl⟩ := List.getElem_of_mem hy
  have := e i j
  unfold Mine.el row at this
  simpa [List.getD_eq_getElem?_getD, hi, hj] using this
theorem det_le {G : Mat} (g : GridOk 3 3 G) : (dN 3 (el G)).natAbs ≤ 18522 := by
  have a := fun j => g.rows 0 j (by decide)
  have b := fun j => g.rows 1 j (by decide)
  have c := fun j => g.bd.el 2 j
  have two : ∀ x y z w : Int, x.natAbs < 2 ^ 3 → y.natAbs < 2 ^ 6 → z.natAbs < 2 ^ 3 → w.natAbs < 2 ^ 6 → (x * y - z * w).natAbs ≤ 882 := fun x y z w h1 h2 h3 h4 => by
    have e1 : (x * y).natAbs ≤ 7 * 63 := by rw [Int.natAbs_mul]; exact Nat.mul_le_mul (by omega) (by omega)
    have e2 : (z * w).natAbs ≤ 7 * 63 := by rw [Int.natAbs_mul]; exact Nat.mul_le_mul (by omega) (by omega)
    exact Nat.le_trans (Int.natAbs_sub_le _ _) (Nat.add_le_add e1 e2)
  have three : ∀ x y : Int, x.natAbs < 2 ^ 3 → y.natAbs ≤ 882 → (x * y).natAbs ≤ 6174 := fun x y h1 h2 => by
    rw [Int.natAbs_mul]; exact Nat.mul_le_mul (show x.natAbs ≤ 7 by omega) h2
  have t0 := three _ _ (a 0) (two _ _ _ _ (b 1) (c 2) (b 2) (c 1))
  have t1 := three _ _ (a 1) (two _ _ _ _ (b 0) (c 2) (b 2) (c 0))
  have t2 := three _ _ (a 2) (two _ _ _ _ (b 0) (c 1) (b 1) (c 0))
  show (el G 0 0 * (el G 1 1 * el G 2 2 - el G 1 2 * el G 2 1) - el G 0 1 * (el G 1 0 * el G 2 2 - el G 1 2 * el G 2 0) + el G 0 2 * (el G 1 0 * el G 2 1 - el G 1 1 * el G 2 0)).natAbs ≤ _
  exact Nat.le_trans (Int.natAbs_add_le _ _) (Nat.add_le_add (Nat.le_trans (Int.natAbs_sub_le _ _) (Nat.add_le_add t0 t1)) t2)
theorem unit_lt {n : Nat} (i j : Nat) : (el (unitRows n) i j).natAbs < 2 ^ 6 := by
  by_cases h : i < n ∧ j < n
  · rw [el_unit h.1 h.2]; unfold idF; split <;> decide
  · rw [el_out (Sh.unit n) (by omega)]; decide
theorem lin_start {n m : Nat} {G : Mat} (hn : n ≤ 3) (hm : m ≤ 3) (s : Sh n m G) (b : Bd 6 G) : Lin n m G ⟨G, unitRows n, unitRows m, 0⟩ := by
  have := hermUpto_lin hn hm s b (by decide) 0
  unfold hermUpto stOf at this
  simp only [List.range_zero, List.foldl_nil, s.1] at this
  exact this
theorem mul_of_lin {n m : Nat} {U V S G : Mat} (sU : Sh n n U) (sV : Sh m m V) (sS : Sh n m S) (sG : Sh n m G) (e : el S = fm m (fm n (el U) (el G)) (el V)) : S = mulM m m (mulM n m U G) V := by
  have s1 : Sh n m (mulM n m U G) := sU.mul sG
  refine mat_ext sS (s1.mul sV) fun i j hi hj => ?_
  rw [el_mulM s1 hi hj, e]
  exact fm_congr_left fun t ht => (el_mulM sU hi ht).symm
theorem smith_law {ok : Int → Int → Prop} (M : MulOk ok) {n m : Nat} {G : Mat} (hn0 : 0 < n) (hn : n ≤ 3) (hm0 : 0 < m) (hm : m ≤ 3) (s : Sh n m G) (g : GridOk n m G) : ∃ N z, Run ok n m N ⟨G, unitRows n, unitRows m, 0⟩ z ∧ SmithOk n m G z := by
  have L := lin_start hn hm s g.bd
  have B0 : Blk 0 ⟨G, unitRows n, unitRows m, 0⟩ := ⟨fun i j h => by omega, fun i j h => by omega, fun i h => by omega, fun i h => by omega⟩
  have hlam : lam n m ⟨G, unitRows n, unitRows m, 0⟩ ≤ 7 := by
    cases hl : least G 0 n m with
    | none => unfold lam; rw [hl]; exact Nat.zero_le 7
    | some p =>
      obtain ⟨i', j', h1, h2⟩ := g.some _ _ (least_some (Nat.zero_le m) hl).1
      have hin : i' < n ∧ j' < m := by
        refine Classical.byContradiction fun hno => h1 (el_out s (by omega))
      have := lam_le (n := n) (m := m) (x := ⟨G, unitRows n, unitRows m, 0⟩) hm0 (i := i') (j := j') (Nat.zero_le _) hin.1 (Nat.zero_le _) hin.2 h1
      have h3 : (el G i' j').natAbs < 8 := h2
      exact Nat.le_trans this (by show (el G i' j').natAbs ≤ 7; omega)
  have hmeas := meas_le n m ⟨G, unitRows n, unitRows m, 0⟩
  obtain ⟨N, z, r, sz⟩ := fin0 (C := 2 ^ 24) (K := 18522) (C0 := 294912) M hn hm (fun e1 e2 => by subst e1 e2; exact det_le g) (by decide) (by decide) (by decide) 15 ⟨G, unitRows n, unitRows m, 0⟩ 6 rfl L B0
    (fun i j => ⟨g.bd.el i j, unit_lt i j, unit_lt i j⟩) (by omega) (by decide)
  obtain ⟨Lz, Bz, hz⟩ := run_ok hn hm r L B0
  have E := ended Lz.sh Bz hz
  refine ⟨N, z, r, ⟨Lz.sh, mul_of_lin Lz.sh.u Lz.sh.v Lz.sh.s s Lz.lin, ?_, ?_, Bd.of Lz.sh.s fun i j => (sz i j).1, Bd.of Lz.sh.u fun i j => (sz i j).2.1, Bd.of Lz.sh.v fun i j => (sz i j).2.2, E.diag, E.pos, fun k hk => prod_eq hn hm Lz E hk, fun k _ => ?_⟩⟩
  · rw [detF_eq Lz.sh.u hn]; exact Lz.du
  · rw [detF_eq Lz.sh.v hm]; exact Lz.dv
  · have := E.dv k
    split
    · rename_i h0
      rw [h0] at this
      exact Int.zero_dvd.mp this
    · exact Int.fmod_eq_zero_of_dvd this
theorem plain_law {ok : Int → Int → Prop} (M : MulOk ok) {n m : Nat} {G : Mat} (hn0 : 0 < n) (hn : n ≤ 3) (hm0 : 0 < m) (hm : m ≤ 3) (s : Sh n m G) (g : GridOk n m G) : LawOk ok n m G := by
  obtain ⟨h1, h2, h3, B', h4, h5, h6⟩ := hermUpto_ok s g.bd (by decide) m
  have L := hermUpto_lin hn hm s g.bd (by decide) m
  obtain ⟨piv, P⟩ := hermUpto_steps s g.bd (by decide) m (Nat.le_refl _)
  have hB : B' ≤ 2 ^ 24 := by
    have e1 : 2 * n * m ≤ 18 := Nat.mul_le_mul (show 2 * n ≤ 6 by omega) hm
    have e2 : (6 + 2) * 2 ^ (2 * n * m) ≤ (6 + 2) * 2 ^ 18 := Nat.mul_le_mul_left _ (two_le e1)
    have e3 : (6 + 2) * 2 ^ 18 ≤ 2 ^ 24 := by decide
    omega
  refine ⟨?_, ?_, ⟨_, piv, P⟩, h1, h2, h6.mono hB, smith_law M hn0 hn hm0 hm s g⟩
  · have e := mul_of_lin h2 (Sh.unit m) h1 s L.lin
    rw [hermite_eq]
    refine e.trans ?_
    have s1 : Sh n m (mulM n m (hermUpto G m).1.2 G) := h2.mul s
    refine mat_ext (s1.mul (Sh.unit m)) s1 fun i j hi hj => ?_
    rw [el_mulM s1 hi hj, fm_congr_right (Y' := idF) fun t ht => el_unit ht hj, fm_id_right hj]
  · rw [hermite_eq, detF_eq h2 hn]; exact L.du
theorem GridOk.of3 {n m : Nat} {G : Mat} (b : Bd 3 G) : GridOk n m G := ⟨b.mono (by decide), fun i j _ => b.el i j, fun i j h => ⟨i, j, h, b.el i j⟩⟩
theorem GridOk.dep {n m : Nat} {G : Mat} (sh : Sh n m G) (b : Bd 3 G) (hn : 1 < n) {y : Int} (hy : y.natAbs < 2 ^ 3) : GridOk n m (G.set (n - 1) (tab m fun j => y * (row G (n - 2)).getD j 0)) := by
  have e := fun i j => el_set sh (show n - 1 < n by omega) (tab m fun j => y * (row G (n - 2)).getD j 0) i j
  refine ⟨(b.mono (by decide)).set _ fun z hz => ?_, fun i j hi => ?_, fun i j h => ?_⟩
  · obtain ⟨j, _, rfl⟩ := tab_mem hz
    exact mul_lt_two (B := 3) (C := 3) hy (b.el (n - 2) j)
  · rw [e, if_neg (by omega)]; exact b.el i j
  · rw [e] at h
    by_cases hi : i = n - 1
    · rw [if_pos hi] at h
      have hz : el G (n - 2) j ≠ 0 := fun q => h (by
        rcases Nat.lt_or_ge j m with w | w
        · rw [tab_get w]; show y * el G (n - 2) j = 0; rw [q]; simp
        · rw [List.getD_eq_getElem?_getD, List.getElem?_eq_none (by rw [tab_length]; exact w)]; rfl)
      exact ⟨n - 2, j, by rw [e, if_neg (by omega)]; exact hz, by rw [e, if_neg (by omega)]; exact b.el _ _⟩
    · rw [if_neg hi] at h
      exact ⟨i, j, by rw [e, if_neg hi]; exact h, by rw [e, if_neg hi]; exact b.el _ _⟩
end Mine

namespace Mine

noncomputable abbrev NoE : Value → Shared → Prop := fun _ _ => False

/-- what is known of an address: a list of zs, a list of given values, a tuple of given values -/
inductive Cell where
  | zs (xs : List Int)
  | vals (vs : List Value)
  | tup (vs : List Value)
  | plain (xs : List Int)

noncomputable abbrev Cell.refs (rs : List Addr) : Cell := .vals (rs.map Value.ref)

noncomputable def Holds (h : Heap) (a : Addr) : Cell → Prop
  | .zs xs => ∃ vs, h.IsList a vs ∧ IntsAre vs.toList xs
  | .vals vs => h.IsList a vs.toArray
  | .tup vs => h.IsTuple a vs.toArray
  | .plain xs => ∃ vs n, h.get? a = some { cls := .type "list", dict := none, data := .seq vs n, slots := #[] } ∧ IntsAre vs.toList xs

noncomputable abbrev Know := Addr → Option Cell
noncomputable def upd (D : Know) (a : Addr) (c : Cell) : Know := fun b => if b = a then some c else D b
theorem upd_same (D : Know) (a : Addr) (c : Cell) : upd D a c a = some c := if_pos rfl
theorem upd_ne {D : Know} {a b : Addr} {c : Cell} (h : b ≠ a) : upd D a c b = D b := if_neg h

theorem Holds.seq {h : Heap} {a : Addr} {c : Cell} (x : Holds h a c) : ∃ o xs n, h.get? a = some o ∧ o.data = .seq xs n := by
  cases c with
  | zs xs => obtain ⟨vs, ⟨o, ho, _, n, hd⟩, _⟩ := x; exact ⟨o, _, n, ho, hd⟩
  | vals vs => obtain ⟨o, ho, _, n, hd⟩ := x; exact ⟨o, _, n, ho, hd⟩
  | tup vs => obtain ⟨o, ho, _, n, hd⟩ := x; exact ⟨o, _, n, ho, hd⟩
  | plain xs => obtain ⟨vs, n, ho, _⟩ := x; exact ⟨_, _, n, ho, rfl⟩
theorem Holds.at {h h' : Heap} {a : Addr} {c : Cell} (x : Holds h a c) (e : ∀ o, h.get? a = some o → h'.get? a = some o) : Holds h' a c := by
  cases c with
  | zs xs => obtain ⟨vs, ⟨o, ho, r⟩, i⟩ := x; exact ⟨vs, ⟨o, e _ ho, r⟩, i⟩
  | vals vs => obtain ⟨o, ho, r⟩ := x; exact ⟨o, e _ ho, r⟩
  | tup vs => obtain ⟨o, ho, r⟩ := x; exact ⟨o, e _ ho, r⟩
  | plain xs => obtain ⟨vs, n, ho, r⟩ := x; exact ⟨vs, n, e _ ho, r⟩
theorem Holds.lt {h : Heap} {a : Addr} {c : Cell} (x : Holds h a c) : a < h.objs.size := by
  obtain ⟨o, _, _, ho, _⟩ := x.seq; exact Heap.lt_size ho

noncomputable abbrev Vars := List (Str × Value)

/-- the frame: locals and cells, as far as they are known -/
structure FrameOk (h : Heap) (env : Env) (σ : Vars) : Prop where
  ns : ∃ m, h.Ns env.locals m ∧ ∀ x v, env.kindOf x = some .local → σ.lookup x = some v → m x = some v
  cel : ∀ x c, env.cells.lookup x = some c → ∃ v?, h.IsCell c v? ∧ ∀ v, (env.kindOf x = some .cell ∨ env.kindOf x = some .free) → σ.lookup x = some v → v? = some v
  apart : ∀ x y c, env.cells.lookup x = some c → env.cells.lookup y = some c → x = y

theorem FrameOk.at {h h' : Heap} {env : Env} {σ : Vars} (F : FrameOk h env σ) (e1 : ∀ o es n, h.get? env.locals = some o → o.data = .dict es n → h'.get? env.locals = some o)
    (e2 : ∀ x c, env.cells.lookup x = some c → ∀ o v, h.get? c = some o → o.data = .cell v → h'.get? c = some o) : FrameOk h' env σ where
  ns := by
    obtain ⟨m, ⟨o, es, ep, ho, hd, r⟩, hm⟩ := F.ns
    exact ⟨m, ⟨o, es, ep, e1 o es ep ho hd, hd, r⟩, hm⟩
  cel := fun x c hc => by
    obtain ⟨v?, ⟨o, ho, hd⟩, hv⟩ := F.cel x c hc
    exact ⟨v?, ⟨o, e2 x c hc o _ ho hd, hd⟩, hv⟩
  apart := F.apart
theorem FrameOk.sub {h : Heap} {env : Env} {σ σ' : Vars} (F : FrameOk h env σ) (e : ∀ x v, σ'.lookup x = some v → σ.lookup x = some v) : FrameOk h env σ' where
  ns := by
    obtain ⟨m, hn, hm⟩ := F.ns
    exact ⟨m, hn, fun x v k l => hm x v k (e x v l)⟩
  cel := fun x c hc => by
    obtain ⟨v?, h1, hv⟩ := F.cel x c hc
    exact ⟨v?, h1, fun v k l => hv v k (e x v l)⟩
  apart := F.apart

/-- a record, or a frame's thing below L -/
noncomputable def Still (L b : Addr) (o : Obj) : Prop := (∃ vs, o.data = .fields vs) ∨ (b < L ∧ ∀ xs n, o.data ≠ .seq xs n)
theorem Still.notSeq {L b : Addr} {o : Obj} (h : Still L b o) (xs : Array Value) (n : Nat) : o.data ≠ .seq xs n := by
  rcases h with ⟨vs, h⟩ | ⟨_, h⟩
  · rw [h]; intro q; cases q
  · exact h xs n

/-- the state within an activation: se the state at its entry, mods what it may change of that, O records that stand, D what is known -/
structure Ok (Hs : Heap) (se : Shared) (mods : Addr → Prop) (env : Env) (O : Addr → Option Obj) (σ : Vars) (D : Know) (s : Shared) : Prop where
  statE : ∀ b o, Hs.get? b = some o → se.heap.get? b = some o
  modsNew : ∀ b, mods b → Hs.get? b = none
  keep : ∀ b o, se.heap.get? b = some o → ¬ mods b → s.heap.get? b = some o
  objs : ∀ b o, O b = some o → s.heap.get? b = some o ∧ Still env.locals b o
  know : ∀ b c, D b = some c → Holds s.heap b c
  fr : FrameOk s.heap env σ
  low : se.heap.objs.size ≤ env.locals
  gens : s.gens = se.gens
  drawn : s.drawn = se.drawn
  os : s.os = se.os

noncomputable def Can (se : Shared) (mods : Addr → Prop) (a : Addr) : Prop := mods a ∨ se.heap.get? a = none

section
variable {Hs : Heap} {se s : Shared} {mods : Addr → Prop} {env : Env} {O : Addr → Option Obj} {σ σ' : Vars} {D D' : Know}

theorem Ok.stat (S : Ok Hs se mods env O σ D s) : ∀ b o, Hs.get? b = some o → s.heap.get? b = some o := fun b o e =>
  S.keep b o (S.statE b o e) fun m => by rw [S.modsNew b m] at e; cases e

theorem Ok.lt (S : Ok Hs se mods env O σ D s) : env.locals < s.heap.objs.size := by
  obtain ⟨m, hn, _⟩ := S.fr.ns; exact hn.lt
theorem Ok.fresh (S : Ok Hs se mods env O σ D s) {a : Addr} (h : s.heap.objs.size ≤ a) : D a = none := by
  cases e : D a with
  | none => rfl
  | some c => exact absurd (S.know a c e).lt (Nat.not_lt.mpr h)
theorem Ok.freshE (S : Ok Hs se mods env O σ D s) {a : Addr} (h : s.heap.objs.size ≤ a) : se.heap.get? a = none := by
  cases e : se.heap.get? a with
  | none => rfl
  | some o => exact absurd (Nat.lt_of_lt_of_le (Heap.lt_size e) (Nat.le_trans S.low (Nat.le_of_lt S.lt))) (Nat.not_lt.mpr h)

theorem Ok.sub (S : Ok Hs se mods env O σ D s) (e : ∀ x v, σ'.lookup x = some v → σ.lookup x = some v) (e2 : ∀ b c, D' b = some c → D b = some c) : Ok Hs se mods env O σ' D' s :=
  { S with know := fun b c h => S.know b c (e2 b c h), fr := S.fr.sub e }
theorem Ok.vars (S : Ok Hs se mods env O σ D s) (e : ∀ x v, σ'.lookup x = some v → σ.lookup x = some v) : Ok Hs se mods env O σ' D s := S.sub e fun _ _ h => h

theorem Ok.tok (S : Ok Hs se mods env O σ D s) {t : Nat} : Ok Hs se mods env O σ D { s with toks := t } := ⟨S.statE, S.modsNew, S.keep, S.objs, S.know, S.fr, S.low, S.gens, S.drawn, S.os⟩

/-- everything stands, something may be new -/
theorem Ok.ext (S : Ok Hs se mods env O σ D s) {h' : Heap} {t : Nat} (e : ∀ b o, s.heap.get? b = some o → h'.get? b = some o) : Ok Hs se mods env O σ D { s with heap := h', toks := t } where
  statE := S.statE
  modsNew := S.modsNew
  keep := fun b o x n => e _ _ (S.keep b o x n)
  objs := fun b o x => ⟨e _ _ (S.objs b o x).1, (S.objs b o x).2⟩
  know := fun b c x => (S.know b c x).at fun o => e b o
  fr := S.fr.at (fun o _ _ x _ => e _ o x) fun _ c _ o _ x _ => e c o x
  low := S.low
  gens := S.gens
  drawn := S.drawn
  os := S.os

theorem Ok.add (S : Ok Hs se mods env O σ D s) {a : Addr} {c : Cell} (h : Holds s.heap a c) : Ok Hs se mods env O σ (upd D a c) s :=
  ⟨S.statE, S.modsNew, S.keep, S.objs, fun b c' q => by
    by_cases hb : b = a
    · rw [hb, upd_same] at q; cases q; rw [hb]; exact h
    · rw [upd_ne hb] at q; exact S.know b c' q, S.fr, S.low, S.gens, S.drawn, S.os⟩

theorem Ok.frame_dict (S : Ok Hs se mods env O σ D s) : ∃ o es n, s.heap.get? env.locals = some o ∧ o.data = .dict es n := by
  obtain ⟨m, ⟨o, es, ep, ho, hd, _⟩, _⟩ := S.fr.ns; exact ⟨o, es, ep, ho, hd⟩

theorem data_ne {h : Heap} {a b : Addr} {o o' : Obj} (h1 : h.get? a = some o) (h2 : h.get? b = some o') (hd : o.data ≠ o'.data) : a ≠ b := by
  rintro rfl; rw [h1] at h2; cases h2; exact hd rfl

/-- a name of the frame's locals is stored -/
theorem Ok.setLocal (S : Ok Hs se mods env O σ D s) {h' : Heap} {t : Nat} {x : Str} {v : Value} {m : Str → Option Value} (hm : ∀ y w, env.kindOf y = some .local → σ.lookup y = some w → m y = some w)
    (hn' : h'.Ns env.locals (fun y => if y = x then some v else m y)) (hs : Heap.SameBut env.locals s.heap h') (hk : env.kindOf x = some .local) : Ok Hs se mods env O ((x, v) :: σ) D { s with heap := h', toks := t } := by
  obtain ⟨oL, esL, nL, hL, hLd⟩ := S.frame_dict
  refine ⟨S.statE, S.modsNew, fun b o e n => ?_, fun b o e => ?_, fun b c e => ?_, ⟨⟨_, hn', fun y w k l => ?_⟩, fun y c hc => ?_, S.fr.apart⟩, S.low, S.gens, S.drawn, S.os⟩
  · exact (hs.2 b (Nat.ne_of_lt (Nat.lt_of_lt_of_le (Heap.lt_size e) S.low))).trans (S.keep b o e n)
  · obtain ⟨h1, h2⟩ := S.objs b o e
    refine ⟨(hs.2 b ?_).trans h1, h2⟩
    rcases h2 with ⟨vs, h2⟩ | ⟨h2, _⟩
    · exact data_ne h1 hL (by rw [h2, hLd]; intro q; cases q)
    · exact Nat.ne_of_lt h2
  · obtain ⟨o, xs, n, h1, h2⟩ := (S.know b c e).seq
    exact (S.know b c e).at fun o' e' => (hs.2 b (data_ne h1 hL (by rw [h2, hLd]; intro q; cases q))).trans e'
  · rw [List.lookup_cons] at l
    split at l
    · rename_i q; cases l; simp [beq_iff_eq.mp q]
    · rename_i q
      have : y ≠ x := by simpa using q
      simp only [this, if_false]; exact hm y w k l
  · obtain ⟨v?, ⟨o, ho, hd⟩, hv⟩ := S.fr.cel y c hc
    refine ⟨v?, ⟨o, (hs.2 c (data_ne ho hL (by rw [hd, hLd]; intro q; cases q))).trans ho, hd⟩, fun w k l => hv w k ?_⟩
    rw [List.lookup_cons] at l
    split at l
    · rename_i q; cases l; rw [← beq_iff_eq.mp q, ] at hk; rcases k with k | k <;> rw [k] at hk <;> cases hk
    · exact l

/-- a cell variable of the frame's own is stored -/
theorem Ok.setCell (S : Ok Hs se mods env O σ D s) {h' : Heap} {t : Nat} {x : Str} {v : Value} {c : Addr} (hc : env.cells.lookup x = some c) (hlo : env.locals ≤ c)
    (hn' : h'.IsCell c (some v)) (hs : Heap.SameBut c s.heap h') (hk : env.kindOf x = some .cell) : Ok Hs se mods env O ((x, v) :: σ) D { s with heap := h', toks := t } := by
  obtain ⟨v?, ⟨oC, hC, hCd⟩, hCv⟩ := S.fr.cel x c hc
  refine ⟨S.statE, S.modsNew, fun b o e n => ?_, fun b o e => ?_, fun b k e => ?_, ⟨?_, fun y c' hc' => ?_, S.fr.apart⟩, S.low, S.gens, S.drawn, S.os⟩
  · exact (hs.2 b (Nat.ne_of_lt (Nat.lt_of_lt_of_le (Heap.lt_size e) (Nat.le_trans S.low hlo)))).trans (S.keep b o e n)
  · obtain ⟨h1, h2⟩ := S.objs b o e
    refine ⟨(hs.2 b ?_).trans h1, h2⟩
    rcases h2 with ⟨vs, h2⟩ | ⟨h2, _⟩
    · exact data_ne h1 hC (by rw [h2, hCd]; intro q; cases q)
    · exact Nat.ne_of_lt (Nat.lt_of_lt_of_le h2 hlo)
  · obtain ⟨o, xs, n, h1, h2⟩ := (S.know b k e).seq
    exact (S.know b k e).at fun o' e' => (hs.2 b (data_ne h1 hC (by rw [h2, hCd]; intro q; cases q))).trans e'
  · obtain ⟨m, ⟨o, es, ep, ho, hd, r⟩, hm⟩ := S.fr.ns
    refine ⟨m, ⟨o, es, ep, (hs.2 _ (data_ne ho hC (by rw [hd, hCd]; intro q; cases q))).trans ho, hd, r⟩, fun y w k l => hm y w k ?_⟩
    rw [List.lookup_cons] at l
    split at l
    · rename_i q; rw [beq_iff_eq.mp q, hk] at k; cases k
    · exact l
  · by_cases hcc : c' = c
    · subst hcc
      have hyx : y = x := S.fr.apart y x c' hc' hc
      subst hyx
      exact ⟨some v, hn', fun w _ l => by rw [List.lookup_cons] at l; simpa using l⟩
    · obtain ⟨v2, ⟨o, ho, hd⟩, hv⟩ := S.fr.cel y c' hc'
      refine ⟨v2, ⟨o, (hs.2 c' hcc).trans ho, hd⟩, fun w k l => hv w k ?_⟩
      rw [List.lookup_cons] at l
      split at l
      · rename_i q; rw [beq_iff_eq.mp q, hc] at hc'; cases hc'; exact absurd rfl hcc
      · exact l

/-- a known list is changed in place -/
theorem Ok.setList (S : Ok Hs se mods env O σ D s) {h' : Heap} {t : Nat} {a : Addr} {c c' : Cell} (hc : D a = some c) (hcan : Can se mods a) (hn : Holds h' a c') (hs : Heap.SameBut a s.heap h') :
    Ok Hs se mods env O σ (upd D a c') { s with heap := h', toks := t } := by
  obtain ⟨oA, xsA, nA, hA, hAd⟩ := (S.know a c hc).seq
  refine ⟨S.statE, S.modsNew, fun b o e n => ?_, fun b o e => ?_, fun b k e => ?_, S.fr.at (fun o es n ho hd => ?_) (fun x c hx o v ho hd => ?_), S.low, S.gens, S.drawn, S.os⟩
  · refine (hs.2 b ?_).trans (S.keep b o e n)
    rintro rfl
    rcases hcan with m | m
    · exact n m
    · rw [m] at e; cases e
  · obtain ⟨h1, h2⟩ := S.objs b o e
    exact ⟨(hs.2 b (data_ne h1 hA (by rw [hAd]; exact h2.notSeq _ _))).trans h1, h2⟩
  · unfold upd at e
    split at e
    · rename_i q; cases e; rw [q]; exact hn
    · rename_i q
      exact (S.know b k e).at fun o' e' => (hs.2 b q).trans e'
  · exact (hs.2 _ (data_ne ho hA (by rw [hd, hAd]; intro q; cases q))).trans ho
  · exact (hs.2 _ (data_ne ho hA (by rw [hd, hAd]; intro q; cases q))).trans ho

/-- back from an inner activation -/
theorem Ok.back {mods' : Addr → Prop} {env' : Env} {O' : Addr → Option Obj} {σ'' : Vars} {s' : Shared} (S : Ok Hs se mods env O σ D s) (S' : Ok Hs s mods' env' O' σ'' D' s')
    (hl : ∀ b, mods' b → ∃ c, D b = some c) (hm : ∀ b, mods' b → Can se mods b) : Ok Hs se mods env O σ D' s' := by
  refine ⟨S.statE, S.modsNew, fun b o e n => ?_, fun b o e => ?_, S'.know, S.fr.at (fun o es n ho hd => ?_) (fun x c hx o v ho hd => ?_), S.low, S'.gens.trans S.gens, S'.drawn.trans S.drawn, S'.os.trans S.os⟩
  · refine S'.keep b o (S.keep b o e n) fun m => ?_
    rcases hm b m with q | q
    · exact n q
    · rw [q] at e; cases e
  · obtain ⟨h1, h2⟩ := S.objs b o e
    refine ⟨S'.keep b o h1 fun m => ?_, h2⟩
    obtain ⟨c, hc⟩ := hl b m
    obtain ⟨o', xs, n, h3, h4⟩ := (S.know b c hc).seq
    exact data_ne h1 h3 (by rw [h4]; exact h2.notSeq _ _) rfl
  · refine S'.keep _ o ho fun m => ?_
    obtain ⟨c, hc⟩ := hl _ m
    obtain ⟨o', xs, n, h3, h4⟩ := (S.know _ c hc).seq
    exact data_ne ho h3 (by rw [hd, h4]; intro q; cases q) rfl
  · refine S'.keep _ o ho fun m => ?_
    obtain ⟨c', hc⟩ := hl _ m
    obtain ⟨o', xs, n, h3, h4⟩ := (S.know _ c' hc).seq
    exact data_ne ho h3 (by rw [hd, h4]; intro q; cases q) rfl
end

end Mine

namespace Mine

/-- the names of an environment, the cells, the globals -/
structure EnvIs (env : Env) (ns : List (Str × NameKind)) (cs : List (Str × Addr)) : Prop where
  kind : env.scope.kind = .function
  loc : ∀ x k, ns.lookup x = some k → k ≠ .free → env.kindOf x = some k
  fre : ∀ x, ns.lookup x = some .free → env.kindOf x = some .free ∨ env.kindOf x = some .cell
  cells : env.cells = cs
  globals : env.globals = mainGlobals
  builtins : env.builtins = builtinsNs

/-- what the program's top left -/
structure Base (Hs : Heap) (mg mb : Str → Option Value) : Prop where
  g : Hs.Ns mainGlobals mg
  b : Hs.Ns builtinsNs mb
  lim : Hs.NoLimit
  seer : Hs.NoSeer

/-- room on the stack for n more frames -/
structure Rm (A : Around) (n : Nat) : Prop where
  hh : A.handled = none
  dep : A.depth + n ≤ 850
  un : A.units + 10 * n ≤ 9000
  frs : ∃ l, A.frames = some l

theorem Rm.deeper {A : Around} {n : Nat} (R : Rm A (n + 1)) (env : Env) : Rm (A.deeper env) n where
  hh := R.hh
  dep := by have := R.dep; simp only [Around.deeper]; lia
  un := by have := R.un; simp only [Around.deeper]; lia
  frs := by obtain ⟨l, h⟩ := R.frs; exact ⟨env :: l, by simp only [Around.deeper, h]; rfl⟩
theorem Rm.le {A : Around} {n k : Nat} (R : Rm A n) (h : k ≤ n) : Rm A k := ⟨R.hh, by have := R.dep; lia, by have := R.un; lia, R.frs⟩

/-- great ints may be divided here -/
noncomputable def Div (prog : Program) (w : World) (Hs : Heap) (A : Around) : Prop := ∀ s : Shared, (∀ b o, Hs.get? b = some o → s.heap.get? b = some o) → PylongRoom (model prog w) A s

theorem Heap.Ns.upTo {h h' : Heap} {a : Addr} {m : Str → Option Value} (x : h.Ns a m) (hk : ∀ b o, h.get? b = some o → h'.get? b = some o) : h'.Ns a m :=
  let ⟨o, es, ep, e, r⟩ := x; ⟨o, es, ep, hk _ _ e, r⟩

theorem div_deeper {prog : Program} {w : World} {Hs : Heap} {A : Around} {n : Nat} {mg mb : Str → Option Value} {env : Env} (B : Base Hs mg mb) (R : Rm A (n + 1)) (ht : prog.given.tree = none) (hgen : env.scope.isGenerator = false)
    (hco : env.scope.isCoroutine = false) (hb : env.builtins = builtinsNs) (hg : env.globals = mainGlobals) : Div prog w Hs (A.deeper env) := fun s hk => by
  obtain ⟨l, hl⟩ := R.frs
  refine PylongRoom.of (M := model prog w) (B.lim.keeps hk) (by have := R.dep; show A.depth + 1 + 100 < 1000; lia) (SeerAt.of (B.seer.keeps hk) ht (env := env) (l := l) (by simp only [Around.deeper, hl]; rfl) hgen hco hb hg)

section
variable {prog : Program} {w : World} {A : Around} {E : Value → Shared → Prop} {n : Nat}
variable {Hs : Heap} {se s : Shared} {mods : Addr → Prop} {env : Env} {O : Addr → Option Obj} {σ σ' : Vars} {D D' : Know} {mg mb : Str → Option Value}
variable {ns : List (Str × NameKind)} {cs : List (Str × Addr)}

theorem mono {α : Type} {t : Sem α} {Q : α → Shared → Prop} (h : wpAny (model prog w) A t Q NoE s) : wpAny (model prog w) A t Q E s := wpAny_mono h (fun _ _ x => x) fun _ _ x => x.elim

theorem nm_local {x : Str} {pos : Pos} {v : Value} {Q : Value → Shared → Prop} (S : Ok Hs se mods env O σ D s) (I : EnvIs env ns cs) (hk : ns.lookup x = some .local) (hv : σ.lookup x = some v) (h : Q v s)
    (hd : (x == ("__debug__" : Str)) = false) : wpAny (model prog w) A (eval (.Name x pos) env) Q E s := by
  obtain ⟨m, hn, hm⟩ := S.fr.ns
  have k := I.loc x .local hk (by intro q; cases q)
  exact wpAny_Name (wpAny_loadName_local I.kind k hn (hm x v k hv) h) hd

theorem nm_cell {x : Str} {pos : Pos} {c : Addr} {v : Value} {Q : Value → Shared → Prop} (S : Ok Hs se mods env O σ D s) (I : EnvIs env ns cs) (hk : ns.lookup x = some .cell ∨ ns.lookup x = some .free) (hc : cs.lookup x = some c) (hv : σ.lookup x = some v) (h : Q v s)
    (hd : (x == ("__debug__" : Str)) = false) (hd' : (x == ("__classdict__" : Str)) = false) : wpAny (model prog w) A (eval (.Name x pos) env) Q E s := by
  have hc' : env.cells.lookup x = some c := by rw [I.cells]; exact hc
  obtain ⟨v?, hi, hv'⟩ := S.fr.cel x c hc'
  have k : env.kindOf x = some .cell ∨ env.kindOf x = some .free := by
    rcases hk with hk | hk
    · exact .inl (I.loc x .cell hk (by intro q; cases q))
    · exact (I.fre x hk).symm
  obtain rfl := hv' v k hv
  rcases k with k | k
  · exact wpAny_Name (wpAny_loadName_cell I.kind k hc' hi h) hd
  · exact wpAny_Name (wpAny_loadName_free I.kind k hc' hi h hd') hd

theorem nm_glob {x : Str} {pos : Pos} {v : Value} {Q : Value → Shared → Prop} (S : Ok Hs se mods env O σ D s) (I : EnvIs env ns cs) (B : Base Hs mg mb) (hk : ns.lookup x = some .globalImplicit) (hv : mg x = some v) (h : Q v s)
    (hd : (x == ("__debug__" : Str)) = false) : wpAny (model prog w) A (eval (.Name x pos) env) Q E s :=
  Calls.Name_function_global I.kind (I.loc x .globalImplicit hk (by intro q; cases q)) (Calls.loadGlobal_global (by rw [I.globals]; exact Heap.Ns.upTo B.g S.stat) hv h) hd
theorem nm_built {x : Str} {pos : Pos} {v : Value} {Q : Value → Shared → Prop} (S : Ok Hs se mods env O σ D s) (I : EnvIs env ns cs) (B : Base Hs mg mb) (hk : ns.lookup x = some .globalImplicit) (hn : mg x = none) (hv : mb x = some v) (h : Q v s)
    (hd : (x == ("__debug__" : Str)) = false) : wpAny (model prog w) A (eval (.Name x pos) env) Q E s :=
  Calls.Name_function_global I.kind (I.loc x .globalImplicit hk (by intro q; cases q)) (Calls.loadGlobal_builtin (by rw [I.globals]; exact Heap.Ns.upTo B.g S.stat) hn (by rw [I.builtins]; exact Heap.Ns.upTo B.b S.stat) hv h) hd

theorem st_local {x : Str} {v : Value} {Q : Unit → Shared → Prop} (S : Ok Hs se mods env O σ D s) (I : EnvIs env ns cs) (hk : ns.lookup x = some .local) (h : ∀ s', Ok Hs se mods env O ((x, v) :: σ) D s' → Q () s') :
    wpAny (model prog w) A (storeName env x v) Q E s := by
  obtain ⟨m, hn, hm⟩ := S.fr.ns
  have k := I.loc x .local hk (by intro q; cases q)
  exact wpAny_storeName_local k hn (fun h' hn' hs => h _ (S.setLocal hm hn' hs k)) (by rw [I.kind]; rfl)

theorem st_cell {x : Str} {c : Addr} {v : Value} {Q : Unit → Shared → Prop} (S : Ok Hs se mods env O σ D s) (I : EnvIs env ns cs) (hk : ns.lookup x = some .cell) (hc : cs.lookup x = some c) (hlo : env.locals ≤ c) (h : ∀ s', Ok Hs se mods env O ((x, v) :: σ) D s' → Q () s') :
    wpAny (model prog w) A (storeName env x v) Q E s := by
  have hc' : env.cells.lookup x = some c := by rw [I.cells]; exact hc
  obtain ⟨v?, hi, hv'⟩ := S.fr.cel x c hc'
  have k := I.loc x .cell hk (by intro q; cases q)
  exact wpAny_storeName_cell I.kind k hc' hi fun h' hc'' hs => h _ (S.setCell hc' hlo hc'' hs k)

theorem as_name {x : Str} {pos : Pos} {v : Value} {Q : Unit → Shared → Prop} (h : wpAny (model prog w) A (storeName env x v) Q E s) : wpAny (model prog w) A (assign (.Name x pos) env v) Q E s := assign_Name h

theorem c_int {i : Int} {k : Nat} {pos : Pos} {Q : Value → Shared → Prop} (S : Ok Hs se mods env O σ D s) (h : ∀ t s', Ok Hs se mods env O σ D s' → Q (.int i t) s') : wpAny (model prog w) A (eval (.Constant (.int i) k pos) env) Q E s :=
  wpAny_Constant_int (h _ _ S.tok)
theorem c_none {k : Nat} {pos : Pos} {Q : Value → Shared → Prop} (h : Q .none s) : wpAny (model prog w) A (eval (.Constant .none k pos) env) Q E s := wpAny_Constant_none h
theorem c_bool {b : Bool} {k : Nat} {pos : Pos} {Q : Value → Shared → Prop} (h : Q (.bool b) s) : wpAny (model prog w) A (eval (.Constant (.bool b) k pos) env) Q E s := wpAny_Constant_bool h

variable {a b : Int} {t u : Tok}
theorem o_add {Q : Value → Shared → Prop} (S : Ok Hs se mods env O σ D s) (h : ∀ t' s', Ok Hs se mods env O σ D s' → Q (.int (a + b) t') s') : wpAny (model prog w) A (binaryOp .Add (.int a t) (.int b u)) Q E s := add_int (h _ _ S.tok)
theorem o_sub {Q : Value → Shared → Prop} (S : Ok Hs se mods env O σ D s) (h : ∀ t' s', Ok Hs se mods env O σ D s' → Q (.int (a - b) t') s') : wpAny (model prog w) A (binaryOp .Sub (.int a t) (.int b u)) Q E s := sub_int (h _ _ S.tok)
theorem o_mul {Q : Value → Shared → Prop} (S : Ok Hs se mods env O σ D s) (hm : IntMulOk a b) (h : ∀ t' s', Ok Hs se mods env O σ D s' → Q (.int (a * b) t') s') : wpAny (model prog w) A (binaryOp .Mult (.int a t) (.int b u)) Q E s := mul_int (h _ _ S.tok) hm
theorem o_div {Q : Value → Shared → Prop} (S : Ok Hs se mods env O σ D s) (V : Div prog w Hs A) (hb : b ≠ 0) (h : ∀ t' s', Ok Hs se mods env O σ D s' → Q (.int (a.fdiv b) t') s') : wpAny (model prog w) A (binaryOp .FloorDiv (.int a t) (.int b u)) Q E s :=
  floordiv_int hb (h _ _ S.tok) (.inr (V s S.stat))
theorem o_mod {Q : Value → Shared → Prop} (S : Ok Hs se mods env O σ D s) (hb : b ≠ 0) (h : ∀ t' s', Ok Hs se mods env O σ D s' → Q (.int (a.fmod b) t') s') : wpAny (model prog w) A (binaryOp .Mod (.int a t) (.int b u)) Q E s := mod_int' hb (h _ _ S.tok)
theorem o_neg {Q : Value → Shared → Prop} (S : Ok Hs se mods env O σ D s) (h : ∀ t' s', Ok Hs se mods env O σ D s' → Q (.int (-a) t') s') : wpAny (model prog w) A (unaryOp .USub (.int a t)) Q E s := neg_int (h _ _ S.tok)
theorem q_eq {Q : Value → Shared → Prop} (h : Q (.bool (decide (a = b))) s) : wpAny (model prog w) A (compareOp .Eq (.int a t) (.int b u)) Q E s := eq_int h
theorem q_ne {Q : Value → Shared → Prop} (h : Q (.bool (decide (a ≠ b))) s) : wpAny (model prog w) A (compareOp .NotEq (.int a t) (.int b u)) Q E s := ne_int (by
  rw [show (a != b) = decide (a ≠ b) from by by_cases q : a = b <;> simp [q]]; exact h)
theorem q_lt {Q : Value → Shared → Prop} (h : Q (.bool (decide (a < b))) s) : wpAny (model prog w) A (compareOp .Lt (.int a t) (.int b u)) Q E s := lt_int h
theorem q_le {Q : Value → Shared → Prop} (h : Q (.bool (decide (a ≤ b))) s) : wpAny (model prog w) A (compareOp .LtE (.int a t) (.int b u)) Q E s := le_int h
theorem q_gt {Q : Value → Shared → Prop} (h : Q (.bool (decide (b < a))) s) : wpAny (model prog w) A (compareOp .Gt (.int a t) (.int b u)) Q E s := gt_int h
theorem q_truth {b : Bool} {Q : Bool → Shared → Prop} (h : Q b s) : wpAny (model prog w) A (truthy (.bool b)) Q E s := wpAny_truthy_bool h

theorem f_abs {Q : Value → Shared → Prop} (S : Ok Hs se mods env O σ D s) (h : ∀ t' s', Ok Hs se mods env O σ D s' → Q (.int (a.natAbs : Int) t') s') : wpAny (model prog w) A (call (.builtin "abs") [.int a t]) Q E s :=
  call_abs_int fun u tk => by rw [show (if a < 0 then -a else a) = (a.natAbs : Int) from by split <;> lia]; exact h _ _ S.tok
theorem f_min {Q : Value → Shared → Prop} (S : Ok Hs se mods env O σ D s) (hh : A.handled = none) (h : ∀ t' s', Ok Hs se mods env O σ D s' → Q (.int (if b < a then b else a) t') s') : wpAny (model prog w) A (call (.builtin "min") [.int a t, .int b u]) Q E s :=
  min_two_ints hh fun h' tk hk => by
    by_cases c : b < a
    · have := fun t' => h t' _ (S.ext (h' := h') (t := tk) hk); simp only [if_pos c] at this ⊢; exact this _
    · have := fun t' => h t' _ (S.ext (h' := h') (t := tk) hk); simp only [if_neg c] at this ⊢; exact this _

/-! lists -/
theorem Holds.zs_inv {h : Heap} {l : Addr} {xs : List Int} (x : Holds h l (.zs xs)) : ∃ vs, h.IsList l vs ∧ IntsAre vs.toList xs := x

theorem IntsAre.get {vs : List Value} {xs : List Int} (h : IntsAre vs xs) : ∀ {i : Nat} {x : Int}, xs[i]? = some x → ∃ t, vs[i]? = some (.int x t) := by
  induction h with
  | nil => intro i x e; simp at e
  | cons n t _ ih =>
    intro i x e
    cases i with
    | zero => simp at e; subst e; exact ⟨t, rfl⟩
    | succ i => simpa using ih (by simpa using e)
theorem IntsAre.len {vs : List Value} {xs : List Int} (h : IntsAre vs xs) : vs.length = xs.length := by induction h <;> simp_all
theorem IntsAre.set {vs : List Value} {xs : List Int} (h : IntsAre vs xs) : ∀ (i : Nat) (x : Int) (t : Tok), IntsAre (vs.set i (.int x t)) (xs.set i x) := by
  induction h with
  | nil => intro i x t; exact .nil
  | cons n t h ih =>
    intro i x u
    cases i with
    | zero => exact .cons x u h
    | succ i => exact .cons n t (ih i x u)
theorem IntsAre.snoc {vs : List Value} {xs : List Int} (h : IntsAre vs xs) (x : Int) (t : Tok) : IntsAre (vs ++ [.int x t]) (xs ++ [x]) := by
  induction h with
  | nil => exact .cons x t .nil
  | cons n t' _ ih => exact .cons n t' ih

theorem g_zs {l : Addr} {xs : List Int} {k x : Int} {Q : Value → Shared → Prop} (S : Ok Hs se mods env O σ D s) (hl : D l = some (.zs xs)) (h0 : 0 ≤ k) (hx : xs[k.toNat]? = some x) (hz : k < 2 ^ 63) (h : ∀ t', Q (.int x t') s) :
    wpAny (model prog w) A (getItem (.ref l) (.int k t)) Q E s := by
  obtain ⟨vs, hl', hi⟩ := S.know l _ hl
  obtain ⟨t', e⟩ := IntsAre.get hi hx
  exact wpAny_getItem_list hl' h0 hz (by rw [← Array.getElem?_toList]; exact e) (h t')
theorem g_vals {l : Addr} {vs : List Value} {k : Int} {x : Value} {Q : Value → Shared → Prop} (S : Ok Hs se mods env O σ D s) (hl : D l = some (.vals vs)) (h0 : 0 ≤ k) (hx : vs[k.toNat]? = some x) (hz : k < 2 ^ 63) (h : Q x s) :
    wpAny (model prog w) A (getItem (.ref l) (.int k t)) Q E s :=
  wpAny_getItem_list (S.know l _ hl) h0 hz (by rw [List.getElem?_toArray]; exact hx) h
theorem p_zs {l : Addr} {xs : List Int} {k x : Int} {Q : Unit → Shared → Prop} (S : Ok Hs se mods env O σ D s) (hl : D l = some (.zs xs)) (hc : Can se mods l) (h0 : 0 ≤ k) (hk : k < xs.length) (hz : k < 2 ^ 63)
    (h : ∀ s', Ok Hs se mods env O σ (upd D l (.zs (xs.set k.toNat x))) s' → Q () s') : wpAny (model prog w) A (setItem (.ref l) (.int k t) (.int x u)) Q E s := by
  obtain ⟨vs, hl', hi⟩ := S.know l _ hl
  refine wpAny_setItem_list hl' h0 hz (by rw [← Array.length_toList, IntsAre.len hi]; exact hk) fun h' hn hs => h _ (S.setList hl hc ⟨_, hn, ?_⟩ hs)
  rw [Array.toList_setIfInBounds]; exact IntsAre.set hi _ _ _
theorem p_vals {l : Addr} {vs : List Value} {k : Int} {x : Value} {Q : Unit → Shared → Prop} (S : Ok Hs se mods env O σ D s) (hl : D l = some (.vals vs)) (hc : Can se mods l) (h0 : 0 ≤ k) (hk : k < vs.length) (hz : k < 2 ^ 63)
    (h : ∀ s', Ok Hs se mods env O σ (upd D l (.vals (vs.set k.toNat x))) s' → Q () s') : wpAny (model prog w) A (setItem (.ref l) (.int k t) x) Q E s := by
  refine wpAny_setItem_list (S.know l _ hl) h0 hz (by simpa using hk) fun h' hn hs => h _ (S.setList hl hc ?_ hs)
  show h'.IsList l (vs.set k.toNat x).toArray
  rw [show (vs.set k.toNat x).toArray = vs.toArray.setIfInBounds k.toNat x by simp]; exact hn

theorem f_len_zs {l : Addr} {xs : List Int} {Q : Value → Shared → Prop} (S : Ok Hs se mods env O σ D s) (hl : D l = some (.zs xs)) (hz : xs.length < 2 ^ 63) (h : ∀ t' s', Ok Hs se mods env O σ D s' → Q (.int xs.length t') s') :
    wpAny (model prog w) A (call (.builtin "len") [.ref l]) Q E s := by
  obtain ⟨vs, hl', hi⟩ := S.know l _ hl
  have e : vs.size = xs.length := by rw [← Array.length_toList, IntsAre.len hi]
  exact Calls.call_len_list hl' (by rw [e]; lia) (by rw [e]; exact h _ _ S.tok)
theorem f_len_vals {l : Addr} {vs : List Value} {Q : Value → Shared → Prop} (S : Ok Hs se mods env O σ D s) (hl : D l = some (.vals vs)) (hz : vs.length < 2 ^ 63) (h : ∀ t' s', Ok Hs se mods env O σ D s' → Q (.int vs.length t') s') :
    wpAny (model prog w) A (call (.builtin "len") [.ref l]) Q E s := by
  have e : vs.toArray.size = vs.length := by simp
  exact Calls.call_len_list (S.know l _ hl) (by rw [e]; lia) (by rw [e]; exact h _ _ S.tok)

/-- a new object: a list or a tuple -/
theorem Ok.pushed (S : Ok Hs se mods env O σ D s) {o : Obj} {c : Cell} (hc : Holds (s.heap.push o) s.heap.objs.size c) :
    Ok Hs se mods env O σ (upd D s.heap.objs.size c) { s with heap := s.heap.push o } := by
  have S' := S.ext (h' := s.heap.push o) (t := s.toks) fun b x e => Heap.get?_push_of_some _ e
  exact S'.add hc

theorem n_vals {vs : List Value} {Q : Value → Shared → Prop} (S : Ok Hs se mods env O σ D s) (hz : vs.length ≤ 1000000) (h : ∀ l s', D l = none → se.heap.get? l = none → Ok Hs se mods env O σ (upd D l (.vals vs)) s' → Q (.ref l) s') :
    wpAny (model prog w) A (newList vs) Q E s :=
  wpAny_newList (h _ _ (S.fresh (Nat.le_refl _)) (S.freshE (Nat.le_refl _)) (S.pushed ⟨_, Heap.get?_push_size _ rfl, rfl, _, rfl⟩)) (by rw [sizeLine_eq]; lia)
theorem n_zs {vs : List Value} {xs : List Int} {Q : Value → Shared → Prop} (S : Ok Hs se mods env O σ D s) (hi : IntsAre vs xs) (hz : vs.length ≤ 1000000) (h : ∀ l s', D l = none → se.heap.get? l = none → Ok Hs se mods env O σ (upd D l (.zs xs)) s' → Q (.ref l) s') :
    wpAny (model prog w) A (newList vs) Q E s :=
  wpAny_newList (h _ _ (S.fresh (Nat.le_refl _)) (S.freshE (Nat.le_refl _)) (S.pushed ⟨vs.toArray, ⟨_, Heap.get?_push_size _ rfl, rfl, _, rfl⟩, hi⟩)) (by rw [sizeLine_eq]; lia)
theorem n_tup {vs : List Value} {Q : Value → Shared → Prop} (S : Ok Hs se mods env O σ D s) (hz : vs.length ≤ 1000000) (h : ∀ l s', D l = none → se.heap.get? l = none → Ok Hs se mods env O σ (upd D l (.tup vs)) s' → Q (.ref l) s') :
    wpAny (model prog w) A (newTuple vs) Q E s :=
  wpAny_newTuple (h _ _ (S.fresh (Nat.le_refl _)) (S.freshE (Nat.le_refl _)) (S.pushed ⟨_, Heap.get?_push_size _ rfl, rfl, _, rfl⟩)) (by rw [sizeLine_eq]; lia)
end

end Mine

namespace Mine

section
variable {prog : Program} {w : World} {A : Around} {E : Value → Shared → Prop} {n : Nat}
variable {Hs : Heap} {se s : Shared} {mods : Addr → Prop} {env : Env} {O : Addr → Option Obj} {σ σ' : Vars} {D D' : Know} {mg mb : Str → Option Value}
variable {ns : List (Str × NameKind)} {cs : List (Str × Addr)} {a b : Int} {t u : Tok}

/-! subscripts -/
theorem e_sub {value slice : Expr} {pos : Pos} {Q : Value → Shared → Prop}
    (h : wpAny (model prog w) A (eval value env) (fun o s₁ => wpAny (model prog w) A (eval slice env) (fun i s₂ => wpAny (model prog w) A (subscriptTail value slice o i) Q E s₂) E s₁) E s) :
    wpAny (model prog w) A (eval (.Subscript value slice pos) env) Q E s := Subscript_ h
/-- the index is no slice -/
noncomputable def Plain (slice : Expr) : Prop := ∀ o i, subscripted slice false o i = operate [o, i] (getItem o i)
theorem t_zs {value slice : Expr} {l : Addr} {xs : List Int} {k x : Int} {Q : Value → Shared → Prop} (S : Ok Hs se mods env O σ D s) (hl : D l = some (.zs xs)) (h0 : 0 ≤ k) (hx : xs[k.toNat]? = some x) (hz : k < 2 ^ 63) (hp : Plain slice) (h : ∀ t', Q (.int x t') s) :
    wpAny (model prog w) A (subscriptTail value slice (.ref l) (.int k t)) Q E s := by
  obtain ⟨vs, hl', hi⟩ := S.know l _ hl
  exact tail_any hl'.typeIs slot_list_getitem.lookup (g_zs S hl h0 hx hz h) (hp _ _)
theorem t_vals {value slice : Expr} {l : Addr} {vs : List Value} {k : Int} {x : Value} {Q : Value → Shared → Prop} (S : Ok Hs se mods env O σ D s) (hl : D l = some (.vals vs)) (h0 : 0 ≤ k) (hx : vs[k.toNat]? = some x) (hz : k < 2 ^ 63) (hp : Plain slice) (h : Q x s) :
    wpAny (model prog w) A (subscriptTail value slice (.ref l) (.int k t)) Q E s :=
  tail_any (Heap.IsList.typeIs (S.know l _ hl)) slot_list_getitem.lookup (g_vals S hl h0 hx hz h) (hp _ _)
theorem t_tup {value slice : Expr} {l : Addr} {vs : List Value} {k : Int} {x : Value} {Q : Value → Shared → Prop} (S : Ok Hs se mods env O σ D s) (hl : D l = some (.tup vs)) (h0 : 0 ≤ k) (hx : vs[k.toNat]? = some x) (hz : k < 2 ^ 63) (hp : Plain slice) (h : Q x s) :
    wpAny (model prog w) A (subscriptTail value slice (.ref l) (.int k t)) Q E s := by
  have hk : k < vs.length := by have := (List.getElem?_eq_some_iff.mp hx).1; lia
  exact tail_any (Heap.IsTuple.typeIs (S.know l _ hl)) slot_tuple_getitem.lookup (PyProof.Rows.getItem_tuple (S.know l _ hl) (by lia) hz (seqIndex_of h0 (by simpa using hk)) (by rw [List.getElem?_toArray]; exact hx) h) (hp _ _)

/-! stores -/
theorem x_sub {o i value : Expr} {pos' pos : Pos} {Q : Flow → Shared → Prop}
    (h : wpAny (model prog w) A (eval value env) (fun v s₁ => wpAny (model prog w) A (eval o env) (fun ov s₂ => wpAny (model prog w) A (eval i env) (fun iv s₃ => wpAny (model prog w) A (setItem ov iv v) (fun _ => Q .next) E s₃) E s₂) E s₁) E s)
    (hs : swapsWith value (some (.Subscript o i pos')) pos.line env = pure false) : wpAny (model prog w) A (exec (.Assign [.Subscript o i pos'] value pos) env) Q E s := wpAny_Assign_Subscript h hs
theorem as_sub {o i : Expr} {pos : Pos} {v : Value} {Q : Unit → Shared → Prop}
    (h : wpAny (model prog w) A (eval o env) (fun ov s₂ => wpAny (model prog w) A (eval i env) (fun iv s₃ => wpAny (model prog w) A (setItem ov iv v) Q E s₃) E s₂) E s) :
    wpAny (model prog w) A (assign (.Subscript o i pos) env v) Q E s := fun Γ p hΓ => by
  simp only [assign_Subscript, Sem.wp_bind', Sem.wp_holding, Sem.wp_cmd_standAt, Sem.wp_release, Sem.wp_pure']
  exact Sem.wp_mono _ Γ _ (fun ov p₂ s₂ h₂ => Sem.wp_mono _ Γ _ (fun iv _ s₃ h₃ => h₃ Γ _ hΓ) (fun _ _ _ h' => h') _ _ (h₂ Γ p₂ hΓ)) (fun _ _ _ h' => h') _ _ (h Γ p hΓ)

/-- what unpacking a tuple leaves: its items are handed to the stores in order -/
theorem as_tup {elts : List Expr} {k : Nat} {pos : Pos} {l : Addr} {vs : List Value} {Q : Unit → Shared → Prop} (S : Ok Hs se mods env O σ D s) (hh : A.handled = none) (hl : D l = some (.tup vs))
    (hn : (assignEach elts env).length = vs.length) (hstar : (assignEach elts env).findIdx? (·.1) = none)
    (h : ∀ s', Ok Hs se mods env O σ D s' → wpAny (model prog w) A (assignInOrder ((assignEach elts env).map (·.2)) vs) Q E s') :
    wpAny (model prog w) A (assign (.Tuple elts k pos) env (.ref l)) Q E s :=
  wpAny_assign_Tuple hh (S.know l _ hl) (by simpa using hn) hstar fun h' he => by
    have := h { s with heap := h' } (S.ext (t := s.toks) fun _ _ e => he _ _ (Nat.ne_of_lt (Heap.lt_size e)) e)
    simpa using this
theorem u_tup {l : Addr} {vs : List Value} {n : Nat} {Q : List Value → Shared → Prop} (S : Ok Hs se mods env O σ D s) (hh : A.handled = none) (hl : D l = some (.tup vs)) (hn : n = vs.length)
    (h : ∀ s', Ok Hs se mods env O σ D s' → Q vs s') : wpAny (model prog w) A (unpackItems (.ref l) n none) Q E s := by
  have e : n = vs.toArray.size := by simpa using hn
  rw [e]
  exact wpAny_unpackItems_tuple hh (S.know l _ hl) fun h' he => by
    have := h { s with heap := h' } (S.ext (t := s.toks) fun _ _ e => he _ _ (Nat.ne_of_lt (Heap.lt_size e)) e)
    simpa using this
theorem in_nil {Q : Unit → Shared → Prop} {ts : List (Value → Sem Unit)} (h : Q () s) : wpAny (model prog w) A (assignInOrder ts []) Q E s := by
  cases ts <;> exact wpAny_pure h
theorem in_cons {Q : Unit → Shared → Prop} {f : Value → Sem Unit} {ts : List (Value → Sem Unit)} {v : Value} {vs : List Value}
    (h : wpAny (model prog w) A (f v) (fun _ s₁ => wpAny (model prog w) A (assignInOrder ts vs) Q E s₁) E s) : wpAny (model prog w) A (assignInOrder (f :: ts) (v :: vs)) Q E s :=
  wpAny_bind (wpAny_holding h)
theorem bn {x : Str} {v : Value} {Q : Unit → Shared → Prop} (h : wpAny (model prog w) A (storeName env x v) Q E s) : wpAny (model prog w) A (bindName env x v) Q E s := wpAny_bindName h

/-! calls of built-ins -/
theorem f_range1 {Q : Value → Shared → Prop} (S : Ok Hs se mods env O σ D s) (h : ∀ r s', Ok Hs se mods env O σ D s' → (∃ t u v, IsRange s'.heap r 0 a 1 t u v) → Q (.ref r) s') : wpAny (model prog w) A (call (.type "range") [.int a t]) Q E s :=
  call_range_1 (h _ _ (S.ext fun _ _ e => Heap.get?_push_of_some _ e) ⟨_, _, _, IsRange.new ..⟩)
theorem f_range2 {Q : Value → Shared → Prop} (S : Ok Hs se mods env O σ D s) (h : ∀ r s', Ok Hs se mods env O σ D s' → (∃ t u v, IsRange s'.heap r a b 1 t u v) → Q (.ref r) s') : wpAny (model prog w) A (call (.type "range") [.int a t, .int b u]) Q E s :=
  call_range_2 (h _ _ (S.ext fun _ _ e => Heap.get?_push_of_some _ e) ⟨_, _, _, IsRange.new ..⟩)
theorem i_range {r : Addr} {Q : Value → Shared → Prop} (S : Ok Hs se mods env O σ D s) (hr : ∃ t u v, IsRange s.heap r a b 1 t u v) (ha : -1000000 ≤ a) (ha' : a ≤ 1000000) (hb : -1000000 ≤ b) (hb' : b ≤ 1000000)
    (h : ∀ it s', Ok Hs se mods env O σ D s' → O it = none → se.heap.get? it = none → IsRangeIter s'.heap it a (b - a).toNat 1 → Q (.ref it) s') : wpAny (model prog w) A (pyIter (.ref r)) Q E s := by
  obtain ⟨t, u, v, hr⟩ := hr
  refine wpAny_pyIter_range hr (small_one (by lia) (by lia) (by lia) (by lia)) (h _ _ (S.ext fun _ _ e => Heap.get?_push_of_some _ e) ?_ (S.freshE (Nat.le_refl _)) ?_)
  · cases e : O s.heap.objs.size with
    | none => rfl
    | some o => exact absurd (Heap.lt_size (S.objs _ _ e).1) (Nat.lt_irrefl _)
  · rw [show (((b - a).toNat : Nat) : Int) = Builtin.Range.rangeSize a b 1 from by rw [rangeSize_one]; split <;> lia]
    exact Heap.get?_push_size _ rfl
theorem f_enum {l : Addr} {items : Array Value} {Q : Value → Shared → Prop} (S : Ok Hs se mods env O σ D s) (hl : s.heap.IsList l items)
    (h : ∀ e it s', Ok Hs se mods env O σ D s' → O e = none → O it = none → se.heap.get? e = none → se.heap.get? it = none → e ≠ it → IsEnum s'.heap e it 0 .none → s'.heap.IsListIter it l 0 → s'.heap.IsList l items → Q (.ref e) s') : wpAny (model prog w) A (call (.type "enumerate") [.ref l]) Q E s := by
  have no : ∀ x, s.heap.objs.size ≤ x → O x = none := fun x hx => by
    cases e : O x with
    | none => rfl
    | some o => exact absurd (Heap.lt_size (S.objs _ _ e).1) (Nat.not_lt.mpr hx)
  exact call_enumerate_list hl fun h' he hi _ hk => h _ _ _ (S.ext (t := s.toks) hk) (no _ (Nat.le_succ _)) (no _ (Nat.le_refl _)) (S.freshE (Nat.le_succ _)) (S.freshE (Nat.le_refl _)) (Nat.succ_ne_self _) he hi (hl.at fun o => hk l o)
theorem i_enum {e it : Addr} {old : Value} {Q : Value → Shared → Prop} {i : Int} (he : IsEnum s.heap e it i old) (h : Q (.ref e) s) : wpAny (model prog w) A (pyIter (.ref e)) Q E s := wpAny_pyIter_enum he h
theorem i_list {l : Addr} {items : Array Value} {Q : Value → Shared → Prop} (S : Ok Hs se mods env O σ D s) (hl : s.heap.IsList l items) (h : ∀ it s', Ok Hs se mods env O σ D s' → O it = none → se.heap.get? it = none → s'.heap.IsListIter it l 0 → Q (.ref it) s') :
    wpAny (model prog w) A (pyIter (.ref l)) Q E s := by
  refine wpAny_pyIter_list hl (h _ _ (S.ext fun _ _ e => Heap.get?_push_of_some _ e) ?_ (S.freshE (Nat.le_refl _)) ⟨_, Heap.get?_push_size _ rfl, rfl, rfl⟩)
  cases e : O s.heap.objs.size with
  | none => rfl
  | some o => exact absurd (Heap.lt_size (S.objs _ _ e).1) (Nat.lt_irrefl _)
theorem i_tup {l : Addr} {items : Array Value} {Q : Value → Shared → Prop} (S : Ok Hs se mods env O σ D s) (hl : s.heap.IsTuple l items) (h : ∀ it s', Ok Hs se mods env O σ D s' → O it = none → se.heap.get? it = none → s'.heap.IsTupleIter it l 0 → Q (.ref it) s') :
    wpAny (model prog w) A (pyIter (.ref l)) Q E s := by
  refine wpAny_pyIter_tuple hl (h _ _ (S.ext fun _ _ e => Heap.get?_push_of_some _ e) ?_ (S.freshE (Nat.le_refl _)) ⟨_, Heap.get?_push_size _ rfl, rfl, rfl⟩)
  cases e : O s.heap.objs.size with
  | none => rfl
  | some o => exact absurd (Heap.lt_size (S.objs _ _ e).1) (Nat.lt_irrefl _)

/-- list(l): a copy -/
theorem f_list_zs {l : Addr} {xs : List Int} {Q : Value → Shared → Prop} (S : Ok Hs se mods env O σ D s) (hl : D l = some (.zs xs)) (hz : xs.length ≤ 1000000)
    (h : ∀ l' s', D l' = none → se.heap.get? l' = none → Ok Hs se mods env O σ (upd D l' (.plain xs)) s' → Q (.ref l') s') : wpAny (model prog w) A (call (.type "list") [.ref l]) Q E s := by
  obtain ⟨vs, ⟨o, ho, hc, n, hd⟩, hi⟩ := S.know l _ hl
  refine call_list_seq (hsz := ?_) l (.inl rfl) ho hc hd fun h' c' hk hD => h _ _ (S.fresh (Nat.le_refl _)) (S.freshE (Nat.le_refl _)) (Ok.add (S.ext (t := s.toks) hk) ⟨_, c', hD, hi⟩)
  rw [← Array.length_toList, IntsAre.len hi, sizeLine_eq]; lia

theorem f_sum {l : Addr} {xs : List Int} {Q : Value → Shared → Prop} (S : Ok Hs se mods env O σ D s) (hh : A.handled = none) (hl : D l = some (.zs xs)) (h : ∀ t' s', Ok Hs se mods env O σ D s' → Q (.int xs.sum t') s') :
    wpAny (model prog w) A (call (.builtin "sum") [.ref l]) Q E s := by
  obtain ⟨vs, hl', hi⟩ := S.know l _ hl
  have e0 : xs.sum = preSum (fun i => xs.getD i 0) vs.size := by
    have hsz : vs.size = xs.length := by rw [← Array.length_toList, IntsAre.len hi]
    rw [hsz]
    have key : ∀ (k : Nat) (ys : List Int), k ≤ ys.length → preSum (fun i => ys.getD i 0) k = (ys.take k).sum := by
      intro k ys
      induction k with
      | zero => intro _; simp [preSum]
      | succ k ih =>
        intro hk
        have hk' : k < ys.length := hk
        rw [List.take_add_one, List.sum_append, ← ih (Nat.le_of_succ_le hk)]
        simp [preSum, hk', List.getD_eq_getElem?_getD]
    rw [key _ _ (Nat.le_refl _), List.take_length]
  refine call_sum_walkG (wpAny_pyIter_list hl' ?_)
  have hne : l ≠ s.heap.objs.size := by obtain ⟨o, ho, _⟩ := hl'; exact Nat.ne_of_lt (Heap.lt_size ho)
  refine ⟨s.heap.objs.size, _, _, _, _, _, fun i => xs.getD i 0, rfl, Walks.list (A := A.in1) hh s.heap.objs.size l hne vs, ⟨⟨_, Heap.get?_push_size _ rfl, rfl, rfl⟩, hl'.push _⟩, ?_, fun i v hv => ?_, fun h' tk t' hk => ?_⟩
  · intro b hb
    obtain ⟨o, ho, _⟩ := hl'
    have h1 := Heap.lt_size ho
    rw [Heap.size_push]
    simp at hb
    rcases hb with rfl | rfl
    · exact Nat.lt_succ_self _
    · exact Nat.lt_succ_of_lt h1
  · have hlt : i < xs.length := by rw [← IntsAre.len hi, Array.length_toList]; exact (Array.getElem?_eq_some_iff.mp hv).1
    obtain ⟨t', e⟩ := IntsAre.get hi (i := i) (x := xs.getD i 0) (by simp [List.getD_eq_getElem?_getD, hlt])
    rw [Array.getElem?_toList, hv] at e
    exact ⟨t', by injection e⟩
  · rw [← e0]
    exact h _ _ (S.ext fun b o e => hk b o (fun m => by simp at m; rw [m] at e; exact absurd (Heap.lt_size e) (Nat.lt_irrefl _)) (Heap.get?_push_of_some _ e))

/-- l.pop(0) of a plain list -/
theorem f_pop0 {l : Addr} {x : Int} {xs : List Int} {Q : Value → Shared → Prop} (S : Ok Hs se mods env O σ D s) (hl : D l = some (.plain (x :: xs))) (hc : Can se mods l) (hz : xs.length ≤ 1000000)
    (h : ∀ t' s', Ok Hs se mods env O σ (upd D l (.plain xs)) s' → Q (.int x t') s') : wpAny (model prog w) A (call (.builtin "list.pop") [.ref l, .int 0 t]) Q E s := by
  obtain ⟨vs, n, ho, hi⟩ := S.know l _ hl
  obtain ⟨vl⟩ := vs
  cases hi with
  | cons _ tx hi' =>
    rename_i vt
    refine call_meets PySem.F.slot_list_pop ⟨_, ho, rfl⟩ PySem.F.entry_list_pop (PySem.F.args_list_pop_2 _ _) (PySem.MeetsSeq.list_pop_at l _ n 0 t 0 (.int x tx) (by decide) (by simp [seqIndex?]) rfl ?_) ⟨ho, ?_⟩
    · have := IntsAre.len hi'; rw [sizeLine_eq]; simp; lia
    · refine h _ _ (Ok.setList (t := s.toks) S hl hc ?_ (Heap.SameBut.update ..))
      refine ⟨⟨vt⟩, n + 1, ?_, hi'⟩
      rw [Heap.get?_update_self _ ho (by rfl)]
      simp [Obj.mapSeq, Array.eraseIdxIfInBounds]
theorem f_len_plain {l : Addr} {xs : List Int} {Q : Value → Shared → Prop} (S : Ok Hs se mods env O σ D s) (hl : D l = some (.plain xs)) (hz : xs.length < 2 ^ 63) (h : ∀ t' s', Ok Hs se mods env O σ D s' → Q (.int xs.length t') s') :
    wpAny (model prog w) A (call (.builtin "len") [.ref l]) Q E s := by
  obtain ⟨vs, n, ho, hi⟩ := S.know l _ hl
  have e : vs.size = xs.length := by rw [← Array.length_toList, IntsAre.len hi]
  exact Calls.call_len_list ⟨_, ho, rfl, _, rfl⟩ (by rw [e]; lia) (by rw [e]; exact h _ _ S.tok)

/-- l + b, two lists -/
theorem o_cat {l l₂ : Addr} {vs ws : Array Value} {Q : Value → Shared → Prop} (S : Ok Hs se mods env O σ D s) (hl : s.heap.IsList l vs) (hb : s.heap.IsList l₂ ws) (hz : vs.size + ws.size ≤ 1000000)
    (h : ∀ l' s', D l' = none → se.heap.get? l' = none → Ok Hs se mods env O σ (upd D l' (.vals (vs ++ ws).toList)) s' → Q (.ref l') s') : wpAny (model prog w) A (binaryOp .Add (.ref l) (.ref l₂)) Q E s := by
  obtain ⟨⟨cls, dd, data, sl⟩, ho, hc, n, hd⟩ := id hl
  obtain ⟨⟨cls2, dd2, data2, sl2⟩, ho2, hc2, n2, hd2⟩ := id hb
  simp only at hc hd hc2 hd2
  subst hc hd hc2 hd2
  refine concat_meets ⟨_, ho, rfl⟩ ⟨_, ho2, rfl⟩ noFill_list_add seq_list_add PySem.F.slot_list_add PySem.F.entry_list_add (PySem.F.args_list_add_2 _ _) (list_addW l l₂ vs ws n n2 dd dd2 sl sl2 (by rw [sizeLine_eq]; lia)) ⟨ho, ho2, ?_⟩
  exact h _ _ (S.fresh (Nat.le_refl _)) (S.freshE (Nat.le_refl _)) (S.pushed ⟨_, Heap.get?_push_size _ rfl, rfl, 0, by simp⟩)
end

end Mine

namespace Mine

section
variable {prog : Program} {w : World} {A : Around} {E : Value → Shared → Prop} {n : Nat}
variable {Hs : Heap} {se s : Shared} {mods : Addr → Prop} {env : Env} {O : Addr → Option Obj} {σ σ' : Vars} {D D' : Know} {mg mb : Str → Option Value}
variable {ns : List (Str × NameKind)} {cs : List (Str × Addr)} {a b : Int} {t u : Tok}

/-! what is known grows, but for some addresses -/
noncomputable def Ext (P : Addr → Prop) (D D' : Know) : Prop := ∀ b c, D b = some c → ¬ P b → D' b = some c
theorem Ext.refl {P : Addr → Prop} : Ext P D D := fun _ _ h _ => h
theorem Ext.trans {P : Addr → Prop} {D'' : Know} (h : Ext P D D') (h' : Ext P D' D'') : Ext P D D'' := fun b c e n => h' b c (h b c e n) n
theorem Ext.mono {P P' : Addr → Prop} (h : Ext P D D') (hp : ∀ b, P b → P' b) : Ext P' D D' := fun b c e n => h b c e fun m => n (hp b m)
theorem Ext.new {P : Addr → Prop} {l : Addr} {c : Cell} (h : D l = none) : Ext P D (upd D l c) := fun b c' e _ => by
  rw [upd_ne]; exact e
  rintro rfl; rw [h] at e; cases e
theorem Ext.at {P : Addr → Prop} {l : Addr} {c : Cell} (h : P l) : Ext P D (upd D l c) := fun b c' e n => by
  rw [upd_ne]; exact e
  rintro rfl; exact n h
theorem ne_know {l l' : Addr} {c c' : Cell} (h : D l = some c) (h' : D l' = some c') (e : c ≠ c') : l ≠ l' := by rintro rfl; rw [h] at h'; exact e (by injection h')
theorem ne_new {l l' : Addr} {c : Cell} (h : D l = some c) (h' : D l' = none) : l ≠ l' := by rintro rfl; rw [h] at h'; cases h'

theorem Ok.lessO {O' : Addr → Option Obj} (S : Ok Hs se mods env O' σ D s) (h : ∀ b o, O b = some o → O' b = some o) : Ok Hs se mods env O σ D s :=
  ⟨S.statE, S.modsNew, S.keep, fun b o e => S.objs b o (h b o e), S.know, S.fr, S.low, S.gens, S.drawn, S.os⟩
theorem Ok.noneO (S : Ok Hs se mods env O σ D s) {x : Addr} (h : s.heap.objs.size ≤ x) : O x = none := by
  cases e : O x with
  | none => rfl
  | some o => exact absurd (Heap.lt_size (S.objs _ _ e).1) (Nat.not_lt.mpr h)

/-- a record that nothing else leans on is changed -/
theorem Ok.setRec (S : Ok Hs se mods env O σ D s) {h' : Heap} {t : Nat} {it : Addr} {o : Obj} (ho : s.heap.get? it = some o) (hf : ∃ vs, o.data = .fields vs) (hO : O it = none) (hE : se.heap.get? it = none) (hs : Heap.ExtBut it s.heap h') :
    Ok Hs se mods env O σ D { s with heap := h', toks := t } := by
  obtain ⟨vs, hf⟩ := hf
  refine ⟨S.statE, S.modsNew, fun b x e q => hs b x ?_ (S.keep b x e q), fun b x e => ⟨hs b x ?_ (S.objs b x e).1, (S.objs b x e).2⟩, fun b c e => ?_, S.fr.at (fun x es q hx hd => hs _ _ ?_ hx) (fun y c hy x v hx hd => hs _ _ ?_ hx), S.low, S.gens, S.drawn, S.os⟩
  · rintro rfl; rw [hE] at e; cases e
  · rintro rfl; rw [hO] at e; cases e
  · obtain ⟨x, xs, q, h1, h2⟩ := (S.know b c e).seq
    exact (S.know b c e).at fun o' e' => hs b o' (data_ne h1 ho (by rw [h2, hf]; intro z; cases z)) e'
  · exact data_ne hx ho (by rw [hd, hf]; intro z; cases z)
  · exact data_ne hx ho (by rw [hd, hf]; intro z; cases z)
theorem Ok.withRec (S : Ok Hs se mods env O σ D s) {it : Addr} {o : Obj} (ho : s.heap.get? it = some o) (hf : ∃ vs, o.data = .fields vs) : Ok Hs se mods env (fun b => if b = it then some o else O b) σ D s :=
  ⟨S.statE, S.modsNew, S.keep, fun b x e => by
    by_cases q : b = it
    · simp only [if_pos q] at e; cases e; rw [q]; exact ⟨ho, .inl hf⟩
    · simp only [if_neg q] at e; exact S.objs b x e, S.know, S.fr, S.low, S.gens, S.drawn, S.os⟩

/-! streams: what an iterator hands out -/
structure Draws (prog : Program) (w : World) (A : Around) (it : Addr) (n : Nat) (val : Nat → Value → Prop) (Pos : Nat → Obj → Prop) (need : Shared → Prop) : Prop where
  item : ∀ i (s : Shared) (o : Obj) (Q : Option Value → Shared → Prop) (E : Value → Shared → Prop), i < n → s.heap.get? it = some o → Pos i o → need s →
    (∀ h' t v o', val i v → h'.get? it = some o' → Pos (i + 1) o' → Heap.SameBut it s.heap h' → Q (some v) { s with heap := h', toks := t }) → wpAny (model prog w) A (pyNext (.ref it)) Q E s
  done : ∀ (s : Shared) (o : Obj) (Q : Option Value → Shared → Prop) (E : Value → Shared → Prop), s.heap.get? it = some o → Pos n o → need s →
    (∀ h', Heap.ExtBut it s.heap h' → Q none { s with heap := h' }) → wpAny (model prog w) A (pyNext (.ref it)) Q E s
  fld : ∀ i o, Pos i o → ∃ vs, o.data = .fields vs
  self : ∀ i (s : Shared) (o : Obj) (Q : Value → Shared → Prop) (E : Value → Shared → Prop), s.heap.get? it = some o → Pos i o → Q (.ref it) s → wpAny (model prog w) A (pyIter (.ref it)) Q E s

theorem draws_range (hh : A.handled = none) (it : Addr) (a : Int) (n : Nat) :
    Draws prog w A it n (fun i v => ∃ t, v = .int (a + i) t) (fun i o => o = { cls := .type "range_iterator", dict := none, data := .fields #[rawInt (a + i), rawInt ((n : Int) - i), rawInt 1], slots := #[] }) (fun _ => True) where
  item := fun i s o Q E hi ho hp _ h => by
    subst hp
    refine wpAny_pyNext_range_item (x := a + i) (left := (n : Int) - i) (step := 1) ho (by omega) fun h' hit hs => h h' _ _ _ ⟨_, rfl⟩ hit ?_ hs
    rw [show a + (i : Int) + 1 = a + ((i + 1 : Nat) : Int) by push_cast; omega, show (n : Int) - i - 1 = (n : Int) - ((i + 1 : Nat) : Int) by push_cast; omega]
  done := fun s o Q E ho hp _ h => by
    subst hp
    exact wpAny_pyNext_range_end hh (x := a + n) (left := (n : Int) - n) (step := 1) ho (by omega) h
  fld := fun i o hp => by subst hp; exact ⟨_, rfl⟩
  self := fun i s o Q E ho hp h => by subst hp; exact wpAny_pyIter_rangeiter (x := a + i) (left := (n : Int) - i) (step := 1) ho h
theorem draws_list (hh : A.handled = none) (it l : Addr) (items : Array Value) :
    Draws prog w A it items.size (fun i v => items[i]? = some v) (fun i o => o.cls = .type "list_iterator" ∧ o.data = .fields #[.ref l, .int i 0]) (fun s => s.heap.IsList l items) where
  item := fun i s o Q E hi ho hp hn h => by
    have hi' : items[i]? = some items[i] := by simp [hi]
    exact wpAny_pyNext_list_item ⟨o, ho, hp⟩ hn hi' fun h' ⟨o', ho', hp'⟩ hs => h h' _ _ o' hi' ho' hp' hs
  done := fun s o Q E ho hp hn h => wpAny_pyNext_list_end hh ⟨o, ho, hp⟩ hn (by simp) h
  fld := fun i o hp => ⟨_, hp.2⟩
  self := fun i s o Q E ho hp h => wpAny_pyIter_listiter ⟨o, ho, hp⟩ h
theorem draws_tup (hh : A.handled = none) (it l : Addr) (items : Array Value) :
    Draws prog w A it items.size (fun i v => items[i]? = some v) (fun i o => o.cls = .type "tuple_iterator" ∧ o.data = .fields #[.ref l, .int i 0]) (fun s => s.heap.IsTuple l items) where
  item := fun i s o Q E hi ho hp hn h => by
    have hi' : items[i]? = some items[i] := by simp [hi]
    exact wpAny_pyNext_tuple_item ⟨o, ho, hp⟩ hn hi' fun h' ⟨o', ho', hp'⟩ hs => h h' _ _ o' hi' ho' hp' hs
  done := fun s o Q E ho hp hn h => wpAny_pyNext_tuple_end hh ⟨o, ho, hp⟩ hn (by simp) h
  fld := fun i o hp => ⟨_, hp.2⟩
  self := fun i s o Q E ho hp h => wpAny_pyIter_tupleiter ⟨o, ho, hp⟩ h

/-- a name may be bound -/
noncomputable def Bnd (prog : Program) (w : World) (A : Around) (Hs : Heap) (se : Shared) (mods : Addr → Prop) (env : Env) (x : Str) : Prop :=
  ∀ (O : Addr → Option Obj) (σ : Vars) (D : Know) (s : Shared) (E : Value → Shared → Prop) (Q : Unit → Shared → Prop) (v : Value), Ok Hs se mods env O σ D s → (∀ s', Ok Hs se mods env O ((x, v) :: σ) D s' → Q () s') → wpAny (model prog w) A (storeName env x v) Q E s
theorem bnd_local {x : Str} (I : EnvIs env ns cs) (hk : ns.lookup x = some .local) : Bnd prog w A Hs se mods env x := fun _ _ _ _ _ _ _ S h => st_local S I hk h
theorem bnd_cell {x : Str} {c : Addr} (I : EnvIs env ns cs) (hk : ns.lookup x = some .cell) (hc : cs.lookup x = some c) (hlo : env.locals ≤ c) : Bnd prog w A Hs se mods env x := fun _ _ _ _ _ _ _ S h => st_cell S I hk hc hlo h

/-- the end's word becomes a letter -/
theorem cutQ {α : Type} {tr : Sem α} {Q : α → Shared → Prop} (h : ∀ Q' : α → Shared → Prop, (∀ a s, Q a s → Q' a s) → wpAny (model prog w) A tr Q' E s) : wpAny (model prog w) A tr Q E s := h Q fun _ _ x => x
theorem cutR {c : Code} (h : ∀ R' : Result → Shared → Prop, (∀ a s, R a s → R' a s) → codeAny (model prog w) A c R' s) : codeAny (model prog w) A c R s := h R fun _ _ x => x
theorem noted_noE {α : Type} {tr : Sem α} {Q : α → Shared → Prop} (h : wpAny (model prog w) A tr Q NoE s) : wpAny (model prog w) A tr Q E s := wpAny_mono h (fun _ _ x => x) fun _ _ x => x.elim

theorem loop_gen {R : Result → Shared → Prop} {x : Str} {px : Pos} {body : List Stmt} {it : Addr} {n : Nat} {val : Nat → Value → Prop} {Pos' : Nat → Obj → Prop} {need : Shared → Prop} {o₀ : Obj}
    (W : Draws prog w A it n val Pos' need) (S : Ok Hs se mods env O σ D s) (hO : O it = none) (hE : se.heap.get? it = none) (h0 : s.heap.get? it = some o₀) (hp : Pos' 0 o₀) (bx : Bnd prog w A Hs se mods env x)
    (Inv : Nat → Vars → Know → Prop) (hI : Inv 0 σ D) (hneed : ∀ i σ' D' s', Inv i σ' D' → Ok Hs se mods env O σ' D' s' → need s')
    (step : ∀ i v O' σ' D' s', i < n → val i v → (∀ b o, O b = some o → O' b = some o) → Inv i σ' D' → Ok Hs se mods env O' ((x, v) :: σ') D' s' →
      wpAny (model prog w) A (execs body env) (fun fl s'' => match fl with
        | .next | .cont => ∃ σ'' D'', Inv (i + 1) σ'' D'' ∧ Ok Hs se mods env O' σ'' D'' s''
        | .brk => R (.ok .next) s''
        | .ret v => R (.ok (.ret v)) s'') NoE s')
    (done : ∀ σ' D' s', Inv n σ' D' → Ok Hs se mods env O σ' D' s' → R (.ok .next) s') :
    codeAny (model prog w) A (.forLoop (.Name x px) (.ref it) body [] env) R s := by
  refine codeAny_forLoop_any (fun k s' => ∃ i σ' D' o, i ≤ n ∧ k = n - i ∧ Inv i σ' D' ∧ Ok Hs se mods env O σ' D' s' ∧ s'.heap.get? it = some o ∧ Pos' i o) ?_ (n - 0) ⟨0, σ, D, o₀, Nat.zero_le _, rfl, hI, S, h0, hp⟩
  rintro k s' ⟨i, σ', D', o, hi, rfl, hinv, S', ho, hpos⟩
  refine noted_noE ?_
  by_cases hlt : i < n
  · refine W.item i s' o _ _ hlt ho hpos (hneed i σ' D' s' hinv S') fun h' t v o' hv ho' hpos' hs => ?_
    have S1 : Ok Hs se mods env O σ' D' { s' with heap := h', toks := t } := S'.setRec ho (W.fld i o hpos) hO hE hs.extBut
    have S2 := S1.withRec ho' (W.fld _ o' hpos')
    have hsub : ∀ b q, O b = some q → (fun b => if b = it then some o' else O b) b = some q := fun b q e => by
      have : b ≠ it := by rintro rfl; rw [hO] at e; cases e
      simp only [if_neg this]; exact e
    show wpAny _ _ (letOwnedTupleGo (.Name x px) (.ref it) v) _ _ _
    refine wpAny_pure ?_
    refine assign_Name (bx _ _ _ _ _ _ v S2 fun s3 S3 => noted_noE ?_)
    refine wpAny_mono (step i v _ σ' D' s3 hlt hv hsub hinv S3) (fun fl s4 h4 => ?_) fun _ _ x => x
    cases fl with
    | next =>
      obtain ⟨σ'', D'', hi', S4⟩ := h4
      exact ⟨n - (i + 1), by omega, i + 1, σ'', D'', o', hlt, rfl, hi', S4.lessO hsub, (S4.objs it o' (by simp)).1, hpos'⟩
    | cont =>
      obtain ⟨σ'', D'', hi', S4⟩ := h4
      exact ⟨n - (i + 1), by omega, i + 1, σ'', D'', o', hlt, rfl, hi', S4.lessO hsub, (S4.objs it o' (by simp)).1, hpos'⟩
    | brk => exact h4
    | ret v => exact h4
  · have hin : i = n := by omega
    subst hin
    refine W.done s' o _ _ ho hpos (hneed i σ' D' s' hinv S') fun h' he => ?_
    exact wpAny_execs_nil (done σ' D' _ hinv (Ok.setRec (t := s'.toks) S' ho (W.fld i o hpos) hO hE he))

theorem loop_while {R : Result → Shared → Prop} {test : Expr} {body : List Stmt} (Inv : Nat → Vars → Know → Prop) (k : Nat) (hI : Inv k σ D) (S : Ok Hs se mods env O σ D s)
    (turn : ∀ k σ' D' s', Inv k σ' D' → Ok Hs se mods env O σ' D' s' → wpAny (model prog w) A (isTrue test env (eval test env)) (fun b s₂ =>
      if b then wpAny (model prog w) A (execs body env) (fun fl s₃ => match fl with
        | .next | .cont => ∃ k' σ'' D'', k' < k ∧ Inv k' σ'' D'' ∧ Ok Hs se mods env O σ'' D'' s₃
        | .brk => R (.ok .next) s₃
        | .ret v => R (.ok (.ret v)) s₃) NoE s₂
      else R (.ok .next) s₂) NoE s') :
    codeAny (model prog w) A (.whileLoop test body [] env) R s := by
  refine codeAny_whileLoop (fun k s' => ∃ σ' D', Inv k σ' D' ∧ Ok Hs se mods env O σ' D' s') ?_ k ⟨σ, D, hI, S⟩
  rintro k s' ⟨σ', D', hinv, S'⟩
  refine noted_noE (wpAny_mono (turn k σ' D' s' hinv S') (fun b s₂ h₂ => ?_) fun _ _ x => x)
  cases b with
  | true =>
    simp only [if_true] at h₂ ⊢
    refine noted_noE (wpAny_mono h₂ (fun fl s₃ h₃ => ?_) fun _ _ x => x)
    cases fl with
    | next => obtain ⟨k', σ'', D'', hk, hi, S3⟩ := h₃; exact ⟨k', hk, σ'', D'', hi, S3⟩
    | cont => obtain ⟨k', σ'', D'', hk, hi, S3⟩ := h₃; exact ⟨k', hk, σ'', D'', hi, S3⟩
    | brk => exact h₃
    | ret v => exact h₃
  | false =>
    simp only [Bool.false_eq_true, if_false] at h₂ ⊢
    exact wpAny_execs_nil h₂

/-- for i, v in enumerate(l) -/
theorem loop_enum {R : Result → Shared → Prop} {xi xv : Str} {pi pv pt : Pos} {x1 : Nat} {body : List Stmt} {e it l : Addr} {n : Nat} {val : Nat → Value → Prop}
    (hh : A.handled = none) (S : Ok Hs se mods env O σ D s) (hOe : O e = none) (hOi : O it = none) (hEe : se.heap.get? e = none) (hEi : se.heap.get? it = none) (hei : e ≠ it)
    (he : IsEnum s.heap e it 0 .none) (hit : s.heap.IsListIter it l 0) (bi : Bnd prog w A Hs se mods env xi) (bv : Bnd prog w A Hs se mods env xv)
    (Inv : Nat → Vars → Know → Prop) (hI : Inv 0 σ D) (hneed : ∀ i σ' D' s', Inv i σ' D' → Ok Hs se mods env O σ' D' s' → ∃ items : Array Value, items.size = n ∧ s'.heap.IsList l items ∧ ∀ i v, items[i]? = some v → val i v)
    (step : ∀ (i : Nat) v ti O' σ' D' s', i < n → val i v → (∀ b o, O b = some o → O' b = some o) → Inv i σ' D' → Ok Hs se mods env O' ((xv, v) :: (xi, .int i ti) :: σ') D' s' →
      wpAny (model prog w) A (execs body env) (fun fl s'' => match fl with
        | .next | .cont => ∃ σ'' D'', Inv (i + 1) σ'' D'' ∧ Ok Hs se mods env O' σ'' D'' s''
        | .brk => R (.ok .next) s''
        | .ret v => R (.ok (.ret v)) s'') NoE s')
    (done : ∀ σ' D' s', Inv n σ' D' → Ok Hs se mods env O σ' D' s' → R (.ok .next) s') :
    codeAny (model prog w) A (.forLoop (.Tuple [.Name xi pi, .Name xv pv] x1 pt) (.ref e) body [] env) R s := by
  refine codeAny_forLoop_any (fun k s' => ∃ i σ' D' old, i ≤ n ∧ k = n - i ∧ Inv i σ' D' ∧ Ok Hs se mods env O σ' D' s' ∧ IsEnum s'.heap e it ((i : Nat) : Int) old ∧ s'.heap.IsListIter it l i) ?_ (n - 0)
    ⟨0, σ, D, .none, Nat.zero_le _, rfl, hI, S, he, hit⟩
  rintro k s' ⟨i, σ', D', old, hi, rfl, hinv, S', he', hit'⟩
  refine noted_noE ?_
  obtain ⟨items, hn, hl', hval⟩ := hneed i σ' D' s' hinv S'
  subst hn
  obtain ⟨oi, hoi, hci, hdi⟩ := id hit'
  cases hv : items[i]? with
  | none =>
    have hsz : i = items.size := Nat.le_antisymm hi (by simpa using hv)
    subst hsz
    exact wpAny_pyNext_enum_end hh he' hit' hl' hv fun h₁ he₁ => wpAny_execs_nil (done σ' D' _ hinv (Ok.setRec (t := s'.toks) S' hoi ⟨_, hdi⟩ hOi hEi he₁))
  | some v =>
    have hlt : i < items.size := (Array.getElem?_eq_some_iff.mp hv).1
    refine wpAny_pyNext_enum_item he' hit' hl' hv hei fun h₁ heo hit₁ ht₁ hz₁ hk₁ => ?_
    have heH : e ≠ s'.heap.objs.size := Nat.ne_of_lt (Heap.lt_size he')
    refine wpAny_letOwnedTupleGo_enum heo fun h₂ he₂ hs₂ => ?_
    replace hs₂ : Heap.SameBut e h₁ h₂ := hs₂
    have ht₂ : h₂.IsTuple s'.heap.objs.size #[.int i s'.toks, v] := ⟨_, (hs₂.2 _ (Ne.symm heH)).trans ht₁, rfl, _, rfl⟩
    obtain ⟨oi₁, hoi₁, hci₁, hdi₁⟩ := id hit₁
    have hoi₂ : h₂.get? it = some oi₁ := (hs₂.2 it (Ne.symm hei)).trans hoi₁
    -- all but e and it stands
    have S1 : Ok Hs se mods env O σ' D' { s' with heap := h₂, toks := s'.toks + 1 } := by
      have kp : ∀ b o, b ≠ e → b ≠ it → s'.heap.get? b = some o → h₂.get? b = some o := fun b o h1 h2 x => (hs₂.2 b h1).trans (hk₁ b o h1 h2 x)
      refine ⟨S'.statE, S'.modsNew, fun b x q m => kp b x ?_ ?_ (S'.keep b x q m), fun b x q => ⟨kp b x ?_ ?_ (S'.objs b x q).1, (S'.objs b x q).2⟩, fun b c q => ?_, S'.fr.at (fun x es z hx hd => kp _ _ ?_ ?_ hx) (fun y c hy x z hx hd => kp _ _ ?_ ?_ hx), S'.low, S'.gens, S'.drawn, S'.os⟩
      · rintro rfl; rw [hEe] at q; cases q
      · rintro rfl; rw [hEi] at q; cases q
      · rintro rfl; rw [hOe] at q; cases q
      · rintro rfl; rw [hOi] at q; cases q
      · obtain ⟨x, xs, z, h1, h2⟩ := (S'.know b c q).seq
        exact (S'.know b c q).at fun o' e' => kp b o' (data_ne h1 he' (by rw [h2]; intro z; cases z)) (data_ne h1 hoi (by rw [h2, hdi]; intro z; cases z)) e'
      · exact data_ne hx he' (by rw [hd]; intro z; cases z)
      · exact data_ne hx hoi (by rw [hd, hdi]; intro z; cases z)
      · exact data_ne hx he' (by rw [hd]; intro z; cases z)
      · exact data_ne hx hoi (by rw [hd, hdi]; intro z; cases z)
    have S2 := (S1.withRec he₂ ⟨_, rfl⟩).withRec (it := it) hoi₂ ⟨_, hdi₁⟩
    generalize hOO : (fun b => if b = it then some oi₁ else (fun b => if b = e then some _ else O b) b) = O' at S2
    have hsub : ∀ b q, O b = some q → O' b = some q := fun b q x => by
      have h1 : b ≠ it := by rintro rfl; rw [hOi] at x; cases x
      have h2 : b ≠ e := by rintro rfl; rw [hOe] at x; cases x
      rw [← hOO]; simp only [if_neg h1, if_neg h2]; exact x
    have hOit : O' it = some oi₁ := by rw [← hOO]; simp
    have hOe' : ∃ oe, O' e = some oe ∧ oe = { cls := .type "enumerate", dict := none, data := .fields #[.none, .bool false, .ref it, rawInt ((i : Int) + 1), .none, v], slots := #[] } := by
      rw [← hOO]; simp only [if_neg hei, if_true]; exact ⟨_, rfl, rfl⟩
    refine wpAny_assign_Tuple hh ht₂ (by rfl) (by rfl) fun h₃ he₃ => ?_
    have S3 : Ok Hs se mods env O' σ' D' { s' with heap := h₃, toks := s'.toks + 1 } := S2.ext (t := s'.toks + 1) fun _ _ x => he₃ _ _ (Nat.ne_of_lt (Heap.lt_size x)) x
    refine in_cons (assign_Name (bi _ _ _ _ _ _ _ S3 fun s4 S4 => ?_))
    refine in_cons (assign_Name (bv _ _ _ _ _ _ _ S4 fun s5 S5 => in_nil (noted_noE ?_)))
    refine wpAny_mono (step i v _ O' σ' D' s5 hlt (hval i v hv) hsub hinv S5) (fun fl s6 h6 => ?_) fun _ _ x => x
    have fin : (∃ σ'' D'', Inv (i + 1) σ'' D'' ∧ Ok Hs se mods env O' σ'' D'' s6) → ∃ m, m < items.size - i ∧ ∃ i σ' D' old, i ≤ items.size ∧ m = items.size - i ∧ Inv i σ' D' ∧ Ok Hs se mods env O σ' D' s6 ∧ IsEnum s6.heap e it ((i : Nat) : Int) old ∧ s6.heap.IsListIter it l i := by
      rintro ⟨σ'', D'', hi', S6⟩
      obtain ⟨oe, q1, q2⟩ := hOe'
      exact ⟨items.size - (i + 1), by omega, i + 1, σ'', D'', v, hlt, rfl, hi', S6.lessO hsub, (by have z := (S6.objs e oe q1).1; rw [q2] at z; exact z), ⟨_, (S6.objs it oi₁ hOit).1, hci₁, hdi₁⟩⟩
    cases fl with
    | next => exact fin h6
    | cont => exact fin h6
    | brk => exact h6
    | ret v => exact h6
end

end Mine

namespace Mine

/-! the cells that a comprehension takes along -/
noncomputable def closOf : List (Str × NameKind) → List (Str × Addr) → List (Str × Addr) → Option (List (Str × Addr))
  | [], acc, _ => some acc
  | (x, k) :: r, acc, cs => if k == .free then (match cs.lookup x with
      | some a => closOf r ((x, a) :: acc) cs
      | none => none) else closOf r acc cs

theorem closureFor_eq {scope : Scope} {env : Env} {cl : List (Str × Addr)} (h : closOf scope.names [] env.cells = some cl) : closureFor scope env = pure cl := by
  have key : ∀ (names : List (Str × NameKind)) (acc : List (Str × Addr)), closOf names acc env.cells = some cl →
      (forIn names acc fun (x : Str × NameKind) (r : List (Str × Addr)) => (match x with
        | (name, kind) => if (kind == NameKind.free) = true then (do let a ← cellOf env name; pure (ForInStep.yield ((name, a) :: r))) else pure (ForInStep.yield r) : Sem (ForInStep (List (Str × Addr))))) = pure cl := by
    intro names
    induction names with
    | nil => intro acc e; simp only [closOf, Option.some.injEq] at e; subst e; rfl
    | cons x r ih =>
      intro acc e
      obtain ⟨x, k⟩ := x
      rw [List.forIn_cons]
      unfold closOf at e
      by_cases hk : (k == NameKind.free) = true
      · simp only [hk, if_true] at e ⊢
        cases hc : env.cells.lookup x with
        | none => rw [hc] at e; cases e
        | some a =>
          rw [hc] at e
          unfold cellOf; rw [hc]
          exact ih _ e
      · simp only [hk, if_false] at e ⊢
        exact ih _ e
  unfold closureFor
  have := key scope.names [] h
  simp only [bind_pure] at this ⊢
  exact this

theorem closOf_mem : ∀ {names : List (Str × NameKind)} {acc cs cl : List (Str × Addr)}, closOf names acc cs = some cl → ∀ p ∈ cl, p ∈ acc ∨ cs.lookup p.1 = some p.2
  | [], acc, cs, cl, h, p, hp => by simp only [closOf, Option.some.injEq] at h; subst h; exact .inl hp
  | (x, k) :: r, acc, cs, cl, h, p, hp => by
    unfold closOf at h
    split at h
    · split at h
      · rename_i a ha
        rcases closOf_mem h p hp with q | q
        · rcases List.mem_cons.mp q with rfl | q
          · exact .inr ha
          · exact .inl q
        · exact .inr q
      · cases h
    · exact closOf_mem h p hp

theorem mem_of_lk {α : Type} : ∀ {l : List (Str × α)} {n : Str} {c : α}, l.lookup n = some c → (n, c) ∈ l := mem_of_lookup

theorem cellsFrom_append : ∀ (names : List (Str × NameKind)) (n : Nat) (acc : List (Str × Addr)), cellsFrom n names acc = cellsFrom n names [] ++ acc
  | [], _, _ => rfl
  | (x, k) :: r, n, acc => by
    unfold cellsFrom
    split
    · rw [cellsFrom_append r (n + 1) ((x, n) :: acc), cellsFrom_append r (n + 1) [(x, n)]]; simp
    · exact cellsFrom_append r n acc
theorem cellsFrom_names : ∀ (names : List (Str × NameKind)) (n : Nat) (acc : List (Str × Addr)), ∀ p ∈ cellsFrom n names acc, p ∈ acc ∨ (p.1, NameKind.cell) ∈ names
  | [], _, _, p, hp => .inl hp
  | (x, k) :: r, n, acc, p, hp => by
    unfold cellsFrom at hp
    split at hp
    · rename_i hk
      rcases cellsFrom_names r _ _ p hp with q | q
      · rcases List.mem_cons.mp q with rfl | q
        · refine .inr ?_
          rw [beq_iff_eq.mp hk]; exact List.mem_cons_self
        · exact .inl q
      · exact .inr (List.mem_cons_of_mem _ q)
    · rcases cellsFrom_names r _ _ p hp with q | q
      · exact .inl q
      · exact .inr (List.mem_cons_of_mem _ q)

theorem lookup_of_mem_nodup {α : Type} : ∀ {l : List (Str × α)} {x : Str} {v : α}, (l.map Prod.fst).Nodup → (x, v) ∈ l → l.lookup x = some v
  | (y, w) :: r, x, v, hn, hm => by
    rw [List.lookup_cons]
    simp only [List.map_cons, List.nodup_cons] at hn
    rcases List.mem_cons.mp hm with e | hm2
    · cases e; simp
    · have : x ≠ y := by rintro rfl; exact hn.1 (List.mem_map.mpr ⟨(x, v), hm2, rfl⟩)
      have hb : (x == y) = false := beq_eq_false_iff_ne.mpr this
      rw [hb]; exact lookup_of_mem_nodup hn.2 hm2

theorem relabel_lookup {scope : Scope} {env : Env} (x : Str) : (relabel scope env).names.lookup x = (scope.names.lookup x).map fun k => if (k == .free && env.scope.kind == .function && env.kindOf x == some .cell) then .cell else k := by
  unfold relabel
  simp only
  generalize scope.names = names
  induction names with
  | nil => rfl
  | cons y r ih =>
    obtain ⟨y, k⟩ := y
    rw [List.map_cons]
    by_cases hc : (k == NameKind.free && env.scope.kind == ScopeKind.function && env.kindOf y == some NameKind.cell) = true
    · show List.lookup x ((if (k == NameKind.free && env.scope.kind == ScopeKind.function && env.kindOf y == some NameKind.cell) = true then (y, NameKind.cell) else (y, k)) :: _) = _
      rw [if_pos hc]
      cases hx : x == y with
      | true =>
        have := beq_iff_eq.mp hx; subst this
        rw [List.lookup_cons, List.lookup_cons, hx]
        exact congrArg some (if_pos hc).symm
      | false => rw [List.lookup_cons, List.lookup_cons, hx]; exact ih
    · show List.lookup x ((if (k == NameKind.free && env.scope.kind == ScopeKind.function && env.kindOf y == some NameKind.cell) = true then (y, NameKind.cell) else (y, k)) :: _) = _
      rw [if_neg hc]
      cases hx : x == y with
      | true =>
        have := beq_iff_eq.mp hx; subst this
        rw [List.lookup_cons, List.lookup_cons, hx]
        exact congrArg some (if_neg hc).symm
      | false => rw [List.lookup_cons, List.lookup_cons, hx]; exact ih

/-- of the outer names those that the block takes along -/
noncomputable def taken (names : List (Str × NameKind)) (σ : Vars) : Vars := σ.filter fun p => names.lookup p.1 == some .free
theorem taken_lookup {names : List (Str × NameKind)} : ∀ {σ : Vars} {x : Str} {v : Value}, (taken names σ).lookup x = some v → names.lookup x = some .free ∧ σ.lookup x = some v
  | [], _, _, h => by cases h
  | (y, u) :: r, x, v, h => by
    unfold taken at h
    rw [List.filter_cons] at h
    split at h
    · rename_i hy
      rw [List.lookup_cons] at h ⊢
      split at h
      · rename_i q; cases h
        have := beq_iff_eq.mp q; subst this
        exact ⟨beq_iff_eq.mp hy, rfl⟩
      · exact taken_lookup h
    · rename_i hy
      have := taken_lookup (σ := r) h
      refine ⟨this.1, ?_⟩
      rw [List.lookup_cons]
      split
      · rename_i q
        have q' := beq_iff_eq.mp q; subst q'
        rw [this.1] at hy; exact absurd (beq_self_eq_true _) hy
      · exact this.2

/-- all frames' things below C stand -/
noncomputable def guardO (h : Heap) (C : Addr) (O : Addr → Option Obj) : Addr → Option Obj := fun b => match O b with
  | some o => some o
  | none => if b < C then (match h.get? b with
    | some o => (match o.data with
      | .dict .. => some o
      | .cell .. => some o
      | _ => none)
    | none => none) else none
theorem guardO_sub {h : Heap} {C : Addr} {O : Addr → Option Obj} : ∀ b o, O b = some o → guardO h C O b = some o := fun b o e => by unfold guardO; rw [e]
theorem guardO_dict {h : Heap} {C : Addr} {O : Addr → Option Obj} {b : Addr} {o : Obj} {es : Array DictEntry} {n : Nat} (hO : O b = none) (hb : b < C) (ho : h.get? b = some o) (hd : o.data = .dict es n) : guardO h C O b = some o := by
  unfold guardO; rw [hO]; simp only [if_pos hb, ho, hd]
theorem guardO_cell {h : Heap} {C : Addr} {O : Addr → Option Obj} {b : Addr} {o : Obj} {v : Option Value} (hO : O b = none) (hb : b < C) (ho : h.get? b = some o) (hd : o.data = .cell v) : guardO h C O b = some o := by
  unfold guardO; rw [hO]; simp only [if_pos hb, ho, hd]
theorem guardO_cases {h : Heap} {C : Addr} {O : Addr → Option Obj} {b : Addr} {o : Obj} (e : guardO h C O b = some o) : O b = some o ∨ (O b = none ∧ b < C ∧ h.get? b = some o ∧ ((∃ es n, o.data = .dict es n) ∨ ∃ v, o.data = .cell v)) := by
  unfold guardO at e
  split at e
  · rename_i o' h'; cases e; exact .inl h'
  · rename_i h'
    split at e
    · rename_i hb
      split at e
      · rename_i o' ho
        split at e
        · rename_i es n hd; cases e; exact .inr ⟨h', hb, ho, .inl ⟨_, _, hd⟩⟩
        · rename_i v hd; cases e; exact .inr ⟨h', hb, ho, .inr ⟨_, hd⟩⟩
        · cases e
      · cases e
    · cases e

section
variable {prog : Program} {w : World} {A : Around} {E : Value → Shared → Prop} {n : Nat}
variable {Hs : Heap} {se s : Shared} {mods : Addr → Prop} {env : Env} {O : Addr → Option Obj} {σ σ' : Vars} {D D' : Know} {mg mb : Str → Option Value}
variable {ns : List (Str × NameKind)} {cs : List (Str × Addr)} {a b : Int} {t u : Tok}

/-- what a comprehension's block may lean on; the way back to the frame around it -/
structure Block (Hs : Heap) (se : Shared) (mods : Addr → Prop) (env : Env) (O : Addr → Option Obj) (σ : Vars) (cenv : Env) (O' : Addr → Option Obj) : Prop where
  sub : ∀ b o, O b = some o → O' b = some o
  back : ∀ σ'' D'' s'' h' t, Ok Hs se mods cenv O' σ'' D'' s'' → Heap.SameBut cenv.locals s''.heap h' → Ok Hs se mods env O σ D'' { s'' with heap := h', toks := t }
  locals_ne : env.locals ≠ cenv.locals
  back_lt : ¬ cenv.locals < env.locals

theorem comp_env {scope : Scope} {cl : List (Str × Addr)} {Q : Env → Shared → Prop} (S : Ok Hs se mods env O σ D s) (I : EnvIs env ns cs) (hcl : closOf scope.names [] cs = some cl) (hk : scope.kind = .function)
    (hnd : (scope.names.map Prod.fst).Nodup) (hcap : (cl.all fun p => ns.lookup p.1 == some .cell || ns.lookup p.1 == some .free) = true)
    (h : ∀ (cenv : Env) O' s', EnvIs { cenv with scope := relabel scope env } scope.names (cellsFrom (cenv.locals + 1) scope.names cl) → Ok Hs se mods { cenv with scope := relabel scope env } O' (taken scope.names σ) D s' →
      Block Hs se mods env O σ { cenv with scope := relabel scope env } O' → (∀ b o vs, s.heap.get? b = some o → o.data = .fields vs → O b = none → O' b = none) →
      (∀ b o, s.heap.get? b = some o → s'.heap.get? b = some o) → Q cenv s') :
    wpAny (model prog w) A (newFunctionEnv scope env.globals cl [] env.qual none .none (some env)) Q E s := by
  simp only [newFunctionEnv, Option.isSome_some, if_true]
  refine wpAny_bind (wpAny_alloc ?_)
  refine wpAny_bind (wpAny_layCells _ (fun name kind cells => by cases hkc : kind == NameKind.cell <;> simp [hkc]) _ _ _ _ ?_)
  rw [List.forIn_nil]
  refine wpAny_bind (wpAny_pure (wpAny_pure ?_))
  rw [show ({ s with heap := s.heap.push { cls := .type "dict", data := .dict #[] } } : Shared).heap.objs.size = s.heap.objs.size + 1 from Heap.size_push ..]
  have ok := cellsFrom_ok scope.names (s.heap.push { cls := .type "dict", data := .dict #[] }) (s.heap.objs.size + 1) [] ⟨fun _ _ hm => (nomatch hm), List.Pairwise.nil⟩ (by rw [Heap.size_push]; exact Nat.le_refl _)
  rw [Heap.size_push] at ok
  generalize hC : s.heap.objs.size = C at ok ⊢
  generalize hH : pushCells (s.heap.push { cls := .type "dict", data := .dict #[] }) scope.names = H at ok ⊢
  have keepH : ∀ b o, s.heap.get? b = some o → H.get? b = some o := fun b o e => by rw [← hH]; exact pushCells_keeps _ _ _ _ (Heap.get?_push_of_some _ e)
  have nsH : H.Ns C fun _ => none := by rw [← hH, ← hC]; exact (Heap.Ns.new s.heap (.type "dict")).keeps (pushCells_keeps _ _)
  have LC : env.locals < C := by rw [← hC]; exact S.lt
  have belowC : ∀ b o, s.heap.get? b = some o → b < C := fun b o e => by rw [← hC]; exact Heap.lt_size e
  -- the cells
  have hcl' : ∀ x c, cl.lookup x = some c → env.cells.lookup x = some c := fun x c e => by
    rcases closOf_mem hcl (x, c) (mem_of_lookup e) with q | q
    · cases q
    · rw [I.cells]; exact q
  have hcells : ∀ x c, (cellsFrom (C + 1) scope.names cl).lookup x = some c → ((cellsFrom (C + 1) scope.names []).lookup x = some c ∧ scope.names.lookup x = some .cell ∧ C < c) ∨ ((cellsFrom (C + 1) scope.names []).lookup x = none ∧ cl.lookup x = some c ∧ c < C) := fun x c e => by
    rw [cellsFrom_append, List.lookup_append] at e
    cases q : (cellsFrom (C + 1) scope.names []).lookup x with
    | some c' =>
      rw [q] at e
      have e' : c' = c := by simpa using e
      subst e'
      refine .inl ⟨rfl, ?_, (ok.empty _ _ (mem_of_lookup q)).2⟩
      rcases cellsFrom_names scope.names (C + 1) [] _ (mem_of_lookup q) with z | z
      · cases z
      · exact lookup_of_mem_nodup hnd z
    | none =>
      rw [q] at e
      have e' : cl.lookup x = some c := by simpa using e
      obtain ⟨v?, ⟨o, ho, _⟩, _⟩ := S.fr.cel x c (hcl' x c e')
      exact .inr ⟨rfl, e', belowC c o ho⟩
  refine h _ (guardO s.heap C O) _ ⟨hk, fun x k hx hf => ?_, fun x hx => ?_, rfl, I.globals, ?_⟩ ⟨S.statE, S.modsNew, fun b o e m => keepH b o (S.keep b o e m), fun b o e => ?_, fun b c e => (S.know b c e).at fun o => keepH b o, ⟨⟨_, nsH, fun x v hx hv => ?_⟩, fun x c hc => ?_, fun x y c hx hy => ?_⟩, Nat.le_trans S.low (Nat.le_of_lt LC), S.gens, S.drawn, S.os⟩
    ⟨guardO_sub, fun σ'' D'' s'' h' t S'' hs => ?_, Nat.ne_of_lt LC, Nat.lt_asymm LC⟩ (fun b o vs h1 h2 h3 => ?_) keepH
  · show (relabel scope env).names.lookup x = some k
    rw [relabel_lookup, hx]
    simp [hf]
  · show (relabel scope env).names.lookup x = some .free ∨ (relabel scope env).names.lookup x = some .cell
    rw [relabel_lookup, hx]
    simp only [Option.map_some]
    split
    · exact .inr rfl
    · exact .inl rfl
  · exact I.builtins
  · -- objs
    rcases guardO_cases e with q | ⟨q0, q1, q2, q3⟩
    · obtain ⟨h1, h2⟩ := S.objs b o q
      refine ⟨keepH b o h1, ?_⟩
      rcases h2 with h2 | ⟨h2, h3⟩
      · exact .inl h2
      · exact .inr ⟨Nat.lt_trans h2 LC, h3⟩
    · refine ⟨keepH b o q2, .inr ⟨q1, fun xs n z => ?_⟩⟩
      rcases q3 with ⟨es, n', q3⟩ | ⟨v, q3⟩ <;> rw [q3] at z <;> cases z
  · -- ns: nothing of the block's own is known
    have hx' : (relabel scope env).names.lookup x = some .local := hx
    have := (taken_lookup hv).1
    rw [relabel_lookup, this] at hx'
    simp only [Option.map_some, Option.some.injEq] at hx'
    split at hx' <;> cases hx'
  · rcases hcells x c hc with ⟨q1, q2, q3⟩ | ⟨q1, q2, q3⟩
    · refine ⟨none, (ok.empty _ _ (mem_of_lookup q1)).1, fun v _ hv => ?_⟩
      have := (taken_lookup hv).1
      rw [q2] at this; cases this
    · obtain ⟨v?, hi, hv?⟩ := S.fr.cel x c (hcl' x c q2)
      refine ⟨v?, hi.keeps keepH, fun v _ hv => hv? v ?_ (taken_lookup hv).2⟩
      have z := List.all_eq_true.mp hcap (x, c) (mem_of_lookup q2)
      simp only [Bool.or_eq_true, beq_iff_eq] at z
      rcases z with z | z
      · exact .inl (I.loc x _ z (by intro q; cases q))
      · exact (I.fre x z).symm
  · rcases hcells x c hx with ⟨q1, q2, q3⟩ | ⟨q1, q2, q3⟩ <;> rcases hcells y c hy with ⟨r1, r2, r3⟩ | ⟨r1, r2, r3⟩
    · exact name_of_addr ok.apart (mem_of_lookup q1) (mem_of_lookup r1)
    · exact absurd q3 (Nat.not_lt.mpr (Nat.le_of_lt r3))
    · exact absurd q3 (Nat.not_lt.mpr (Nat.le_of_lt r3))
    · exact S.fr.apart x y c (hcl' x c q2) (hcl' y c r2)
  · -- back
    obtain ⟨oC, esC, nC, hgC, hdC⟩ := S''.frame_dict
    refine ⟨S.statE, S.modsNew, fun b o e m => (hs.2 b ?_).trans (S''.keep b o e m), fun b o e => ?_, fun b c e => ?_, S.fr.at (fun o es q ho hd => ?_) (fun x c hx o v ho hd => ?_), S.low, S''.gens, S''.drawn, S''.os⟩
    · refine Nat.ne_of_lt (Nat.lt_of_lt_of_le (Heap.lt_size e) (Nat.le_trans S.low (Nat.le_of_lt LC)))
    · obtain ⟨h1, h2⟩ := S''.objs b o (guardO_sub b o e)
      obtain ⟨_, h3⟩ := S.objs b o e
      refine ⟨(hs.2 b ?_).trans h1, h3⟩
      rcases h3 with ⟨vs, h3⟩ | ⟨h3, _⟩
      · exact data_ne h1 hgC (by rw [h3, hdC]; intro q; cases q)
      · exact Nat.ne_of_lt (Nat.lt_trans h3 LC)
    · obtain ⟨o, xs, q, h1, h2⟩ := (S''.know b c e).seq
      exact (S''.know b c e).at fun o' e' => (hs.2 b (data_ne h1 hgC (by rw [h2, hdC]; intro q; cases q))).trans e'
    · refine (hs.2 _ (Nat.ne_of_lt LC)).trans ?_
      cases q : O env.locals with
      | none => exact (S''.objs _ _ (guardO_dict q LC ho hd)).1
      | some o' => have := (S.objs _ _ q).1; rw [ho] at this; rw [this]; exact (S''.objs _ _ (guardO_sub _ _ q)).1
    · have hlt := belowC c o ho
      refine (hs.2 c (Nat.ne_of_lt hlt)).trans ?_
      cases q : O c with
      | none => exact (S''.objs _ _ (guardO_cell q hlt ho hd)).1
      | some o' => have := (S.objs _ _ q).1; rw [ho] at this; rw [this]; exact (S''.objs _ _ (guardO_sub _ _ q)).1
  · -- O' at records
    cases q : guardO s.heap C O b with
    | none => rfl
    | some o' =>
      rcases guardO_cases q with z | ⟨z0, z1, z2, z3⟩
      · rw [h3] at z; cases z
      · exfalso
        rw [h1] at z2; cases z2
        rcases z3 with ⟨es, n', z3⟩ | ⟨v, z3⟩ <;> rw [h2] at z3 <;> cases z3
end

end Mine

namespace Mine

/-- the tests of a clause -/
noncomputable abbrev testsOf (ifs : List Expr) (env : Env) : Sem Bool := forIn ifs true fun c r => if r = true then do let ok ← isTrue c env (eval c env); pure (ForInStep.yield ok) else pure (ForInStep.yield r)

section
variable {prog : Program} {w : World} {A : Around} {E : Value → Shared → Prop} {n : Nat} {R : Result → Shared → Prop}
variable {Hs : Heap} {se s : Shared} {mods : Addr → Prop} {env : Env} {O : Addr → Option Obj} {σ σ' : Vars} {D D' : Know} {mg mb : Str → Option Value}
variable {ns : List (Str × NameKind)} {cs : List (Str × Addr)} {a b : Int} {t u : Tok}

theorem ts_nil {Q : Bool → Shared → Prop} (h : Q true s) : wpAny (model prog w) A (testsOf [] env) Q E s := wpAny_tests_nil h
theorem ts_one {c : Expr} {Q : Bool → Shared → Prop} (h : wpAny (model prog w) A (isTrue c env (eval c env)) Q E s) : wpAny (model prog w) A (testsOf [c] env) Q E s := wpAny_tests_one h

theorem turn_single (elt target iter : Expr) (ifs : List Expr) (scope : Scope) (pos : Pos) (it acc : Value) (env : Env) :
    compTurn (.ListComp elt [⟨target, iter, ifs, 0⟩] scope pos) 0 it acc env = (do
      standAt iter.pos
      match ← pyNext it with
      | none => pure (.done .next)
      | some v =>
        letOwnedTupleGo target it v
        assign target env v
        let ok ← testsOf ifs env
        if ok then
          (do let _ ← call (.builtin "list.append") [acc, ← eval elt env])
        again (.compLoop (.ListComp elt [⟨target, iter, ifs, 0⟩] scope pos) 0 it acc env)) := by rfl
theorem turn_last (elt target iter : Expr) (g : Comprehension) (ifs : List Expr) (scope : Scope) (pos : Pos) (it acc : Value) (env : Env) :
    compTurn (.ListComp elt [g, ⟨target, iter, ifs, 0⟩] scope pos) 1 it acc env = (do
      standAt iter.pos
      match ← pyNext it with
      | none => pure (.done .next)
      | some v =>
        letOwnedTupleGo target it v
        assign target env v
        let ok ← testsOf ifs env
        if ok then
          (do let _ ← call (.builtin "list.append") [acc, ← eval elt env])
        again (.compLoop (.ListComp elt [g, ⟨target, iter, ifs, 0⟩] scope pos) 1 it acc env)) := by rfl
theorem turn_outer (elt target iter target' iter' : Expr) (ifs ifs' : List Expr) (scope : Scope) (pos : Pos) (it acc : Value) (env : Env) :
    compTurn (.ListComp elt [⟨target, iter, ifs, 0⟩, ⟨target', iter', ifs', 0⟩] scope pos) 0 it acc env = (do
      standAt iter.pos
      match ← pyNext it with
      | none => pure (.done .next)
      | some v =>
        letOwnedTupleGo target it v
        assign target env v
        let ok ← testsOf ifs env
        if ok then do
            let x ← eval iter' env
            standAt iter'.pos
            let x ← foldedSetIterable iter' env x
            let it' ← holding [x] (pyIter x)
            let _ ← runOwn (.compStart (.ListComp elt [⟨target, iter, ifs, 0⟩, ⟨target', iter', ifs', 0⟩] scope pos) 1 it' acc env) env
            again (.compLoop (.ListComp elt [⟨target, iter, ifs, 0⟩, ⟨target', iter', ifs', 0⟩] scope pos) 0 it acc env)
        else again (.compLoop (.ListComp elt [⟨target, iter, ifs, 0⟩, ⟨target', iter', ifs', 0⟩] scope pos) 0 it acc env)) := by rfl

/-- the two codes that end by an append, the one that goes a clause deeper -/
noncomputable def emits (e : Expr) (d : Nat) (target iter : Expr) (ifs : List Expr) (elt : Expr) : Prop :=
  (∃ scope pos, e = .ListComp elt [⟨target, iter, ifs, 0⟩] scope pos ∧ d = 0) ∨ ∃ g scope pos, e = .ListComp elt [g, ⟨target, iter, ifs, 0⟩] scope pos ∧ d = 1

theorem codeAny_compStart_any {e : Expr} {d : Nat} {it acc : Value} {env : Env} {g : Comprehension} (hg : (clausesOf e)[d]? = some g) (ha : g.is_async = 0) (hfr : (Code.compStart e d it acc env).isFrame = false)
    (hA : A.under (Code.compStart e d it acc env) = A)
    (hq : ∀ it', (Code.compLoop e d it' acc env).quiet = true)
    (h0 : codeAny (model prog w) A (.compLoop e d it acc env) R s)
    (h : wpAny (model prog w) A (pyIter it) (fun it' s' => codeAny (model prog w) A (.compLoop e d it' acc env) R s') NoE s) :
    codeAny (model prog w) A (.compStart e d it acc env) R s := by
  refine codeAny_of_tree ?_
  rw [hA]
  show wpAny _ _ (if (Code.compStart e d it acc env).isFrame then (compStart e d it acc env).onRaise (leaving env) else (compStart e d it acc env).onRaise (fun x => do noteFrame x env; standAt theWindowsPlace)) _ _ s
  rw [hfr]
  simp only [Bool.false_eq_true, if_false]
  refine wpAny_notedAt (noted_noE ?_)
  unfold compStart
  rw [hg]
  have ha' : ((some g).elim false fun x => x.is_async != 0) = false := by simp [ha]
  simp only [ha', Bool.false_eq_true, if_false]
  refine wpAny_bind (wpAny_askSetting (wpAny_ite ?_))
  split
  · first
      | exact wpAny_bind (wpAny_pure (wpAny_pure ⟨hq _, h0⟩))
      | exact wpAny_pure ⟨hq _, h0⟩
  · refine wpAny_bind (wpAny_rule ?_)
    refine wpAny_bind (wpAny_standAt (wpAny_bind (wpAny_mono h (fun it' s' h' => wpAny_pure ⟨hq _, h'⟩) fun _ _ x => x)))

theorem compLoop_emit {e elt target iter : Expr} {d : Nat} {ifs : List Expr} {it acc : Value} {env : Env} (he : emits e d target iter ifs elt) (I : Nat → Shared → Prop)
    (turn : ∀ n s, I n s → wpAny (model prog w) A (pyNext it) (fun r s₁ => match r with
      | none => R (.ok .next) s₁
      | some v => wpAny (model prog w) A (letOwnedTupleGo target it v) (fun _ s₁' => wpAny (model prog w) A (assign target env v) (fun _ s₂ =>
          wpAny (model prog w) A (testsOf ifs env) (fun ok s₃ =>
            if ok = true then wpAny (model prog w) A (eval elt env) (fun x s₄ =>
              wpAny (model prog w) A (call (.builtin "list.append") [acc, x]) (fun _ s₅ => ∃ m, m < n ∧ I m s₅) NoE s₄) NoE s₃
            else ∃ m, m < n ∧ I m s₃) NoE s₂) NoE s₁') NoE s₁) NoE s)
    (n : Nat) (h : I n s) : codeAny (model prog w) A (.compLoop e d it acc env) R s := by
  have core : ∀ n s, I n s → wpAny (model prog w) A (do
      standAt iter.pos
      match ← pyNext it with
      | none => pure (.done .next)
      | some v =>
        letOwnedTupleGo target it v
        assign target env v
        let ok ← testsOf ifs env
        if ok then
          (do let _ ← call (.builtin "list.append") [acc, ← eval elt env])
        again (.compLoop e d it acc env)) (fun fin s' => match fin with | .done f => R (.ok f) s' | .again c' => c' = .compLoop e d it acc env ∧ ∃ m, m < n ∧ I m s') NoE s := by
    intro n s hI
    refine wpAny_bind (wpAny_standAt (wpAny_bind (wpAny_mono (turn n s hI) (fun r s₁ h₁ => ?_) fun _ _ h' => h')))
    cases r with
    | none => exact wpAny_pure h₁
    | some v =>
      refine wpAny_bind (wpAny_mono h₁ (fun _ s₁' h₁' => ?_) fun _ _ h' => h')
      refine wpAny_bind (wpAny_mono h₁' (fun _ s₂ h₂ => wpAny_bind (wpAny_mono h₂ (fun ok s₃ h₃ => ?_) fun _ _ h' => h')) fun _ _ h' => h')
      cases ok with
      | false => exact wpAny_pure ⟨rfl, h₃⟩
      | true =>
        exact wpAny_bind (wpAny_bind (wpAny_mono h₃ (fun x s₄ h₄ => wpAny_bind (wpAny_mono h₄ (fun _ s₅ h₅ => wpAny_pure (wpAny_pure ⟨rfl, h₅⟩)) fun _ _ h' => h')) fun _ _ h' => h'))
  rcases he with ⟨scope, pos, rfl, rfl⟩ | ⟨g, scope, pos, rfl, rfl⟩
  · refine codeAny_loop rfl I (fun n s hI => ?_) n h
    show wpAny _ A ((compTurn (.ListComp elt [⟨target, iter, ifs, 0⟩] scope pos) 0 it acc env).onRaise (fun x => do noteFrame x env; theTreesLotGoes x)) _ _ s
    refine wpAny_noted (noted_noE ?_)
    rw [turn_single]
    exact core n s hI
  · refine codeAny_loop rfl I (fun n s hI => ?_) n h
    show wpAny _ A ((compTurn (.ListComp elt [g, ⟨target, iter, ifs, 0⟩] scope pos) 1 it acc env).onRaise (fun x => do noteFrame x env; theTreesLotGoes x)) _ _ s
    refine wpAny_noted (noted_noE ?_)
    rw [turn_last]
    exact core n s hI

theorem compLoop_outer {elt target iter target' iter' : Expr} {ifs ifs' : List Expr} {scope : Scope} {pos : Pos} {it acc : Value} {env : Env} (I : Nat → Shared → Prop) (hs : ∀ x, foldedSetIterable iter' env x = pure x)
    (turn : ∀ n s, I n s → wpAny (model prog w) A (pyNext it) (fun r s₁ => match r with
      | none => R (.ok .next) s₁
      | some v => wpAny (model prog w) A (letOwnedTupleGo target it v) (fun _ s₁' => wpAny (model prog w) A (assign target env v) (fun _ s₂ =>
          wpAny (model prog w) A (testsOf ifs env) (fun ok s₃ =>
            if ok = true then wpAny (model prog w) A (eval iter' env) (fun x s₄ => wpAny (model prog w) A (pyIter x) (fun it' s₅ =>
              codeAny (model prog w) A (.compStart (.ListComp elt [⟨target, iter, ifs, 0⟩, ⟨target', iter', ifs', 0⟩] scope pos) 1 it' acc env) (fun r s₆ => match r with
                | .ok _ => ∃ m, m < n ∧ I m s₆
                | .error _ => False) s₅) NoE s₄) NoE s₃
            else ∃ m, m < n ∧ I m s₃) NoE s₂) NoE s₁') NoE s₁) NoE s)
    (n : Nat) (h : I n s) : codeAny (model prog w) A (.compLoop (.ListComp elt [⟨target, iter, ifs, 0⟩, ⟨target', iter', ifs', 0⟩] scope pos) 0 it acc env) R s := by
  refine codeAny_loop rfl I (fun n s hI => ?_) n h
  show wpAny _ A ((compTurn (.ListComp elt [⟨target, iter, ifs, 0⟩, ⟨target', iter', ifs', 0⟩] scope pos) 0 it acc env).onRaise (fun x => do noteFrame x env; theTreesLotGoes x)) _ _ s
  refine wpAny_noted (noted_noE ?_)
  rw [turn_outer]
  refine wpAny_bind (wpAny_standAt (wpAny_bind (wpAny_mono (turn n s hI) (fun r s₁ h₁ => ?_) fun _ _ h' => h')))
  cases r with
  | none => exact wpAny_pure h₁
  | some v =>
    refine wpAny_bind (wpAny_mono h₁ (fun _ s₁' h₁' => ?_) fun _ _ h' => h')
    refine wpAny_bind (wpAny_mono h₁' (fun _ s₂ h₂ => wpAny_bind (wpAny_mono h₂ (fun ok s₃ h₃ => ?_) fun _ _ h' => h')) fun _ _ h' => h')
    cases ok with
    | false => exact wpAny_pure ⟨rfl, h₃⟩
    | true =>
      refine wpAny_bind (wpAny_mono h₃ (fun x s₄ h₄ => wpAny_bind (wpAny_standAt (wpAny_bind (wpAny_of_eq (hs x) (wpAny_bind (wpAny_holding (wpAny_mono h₄ (fun it' s₅ h₅ => ?_) fun _ _ h' => h'))))))) fun _ _ h' => h')
      refine wpAny_bind (wpAny_runOwn (codeAny_mono h₅ fun r s₆ h₆ => ?_))
      cases r with
      | ok f => exact wpAny_pure ⟨rfl, h₆⟩
      | error x => exact h₆.elim
end

end Mine

namespace Mine

section
variable {prog : Program} {w : World} {A : Around} {E : Value → Shared → Prop} {n : Nat} {R : Result → Shared → Prop}
variable {Hs : Heap} {se s : Shared} {mods : Addr → Prop} {env : Env} {O : Addr → Option Obj} {σ σ' : Vars} {D D' : Know} {mg mb : Str → Option Value}
variable {ns : List (Str × NameKind)} {cs : List (Str × Addr)} {a b : Int} {t u : Tok}

theorem f_append {l : Addr} {ws : List Value} {y : Value} {Q : Value → Shared → Prop} (S : Ok Hs se mods env O σ D s) (hl : D l = some (.vals ws)) (hc : Can se mods l) (hz : ws.length ≤ 1000000)
    (h : ∀ s', Ok Hs se mods env O σ (upd D l (.vals (ws ++ [y]))) s' → Q .none s') : wpAny (model prog w) A (call (.builtin "list.append") [.ref l, y]) Q E s :=
  wpAny_list_append (S.know l _ hl) (fun h' hn hs => h _ (Ok.setList (t := s.toks) S hl hc (by show h'.IsList l _; simpa using hn) hs)) (by rw [sizeLine_eq]; simp; omega)

/-- a clause over a stream, each turn an append or none -/
theorem comp_gen {e elt iter : Expr} {x : Str} {px : Pos} {d : Nat} {ifs : List Expr} {l it : Addr} {n : Nat} {val : Nat → Value → Prop} {Pos' : Nat → Obj → Prop} {need : Shared → Prop} {o₀ : Obj}
    (he : emits e d (.Name x px) iter ifs elt) (W : Draws prog w A it n val Pos' need) (S : Ok Hs se mods env O σ D s) (hO : O it = none) (hE : se.heap.get? it = none) (h0 : s.heap.get? it = some o₀) (hp : Pos' 0 o₀)
    (bx : Bnd prog w A Hs se mods env x) (hcan : Can se mods l) (Inv : Nat → List Value → Vars → Know → Prop) {ws₀ : List Value} (hI : Inv 0 ws₀ σ D)
    (hacc : ∀ i ws σ' D', Inv i ws σ' D' → D' l = some (.vals ws) ∧ ws.length ≤ 1000000) (hneed : ∀ i ws σ' D' s', Inv i ws σ' D' → Ok Hs se mods env O σ' D' s' → need s')
    (step : ∀ i v O' ws σ' D' s', i < n → val i v → (∀ b o, O b = some o → O' b = some o) → Inv i ws σ' D' → Ok Hs se mods env O' ((x, v) :: σ') D' s' →
      wpAny (model prog w) A (testsOf ifs env) (fun ok s₃ => if ok = true then wpAny (model prog w) A (eval elt env) (fun y s₄ => ∃ σ'' D'', Ok Hs se mods env O' σ'' D'' s₄ ∧ D'' l = some (.vals ws) ∧ Inv (i + 1) (ws ++ [y]) σ'' (upd D'' l (.vals (ws ++ [y])))) NoE s₃
        else ∃ σ'' D'', Ok Hs se mods env O' σ'' D'' s₃ ∧ Inv (i + 1) ws σ'' D'') NoE s')
    (done : ∀ ws σ' D' s', Inv n ws σ' D' → Ok Hs se mods env O σ' D' s' → R (.ok .next) s') :
    codeAny (model prog w) A (.compLoop e d (.ref it) (.ref l) env) R s := by
  refine compLoop_emit he (fun k s' => ∃ i ws σ' D' o, i ≤ n ∧ k = n - i ∧ Inv i ws σ' D' ∧ Ok Hs se mods env O σ' D' s' ∧ s'.heap.get? it = some o ∧ Pos' i o) ?_ (n - 0) ⟨0, ws₀, σ, D, o₀, Nat.zero_le _, rfl, hI, S, h0, hp⟩
  rintro k s' ⟨i, ws, σ', D', o, hi, rfl, hinv, S', ho, hpos⟩
  by_cases hlt : i < n
  · refine W.item i s' o _ _ hlt ho hpos (hneed i ws σ' D' s' hinv S') fun h' t v o' hv ho' hpos' hs => ?_
    have S1 : Ok Hs se mods env O σ' D' { s' with heap := h', toks := t } := S'.setRec ho (W.fld i o hpos) hO hE hs.extBut
    have S2 := S1.withRec ho' (W.fld _ o' hpos')
    have hsub : ∀ b q, O b = some q → (fun b => if b = it then some o' else O b) b = some q := fun b q e => by
      have : b ≠ it := by rintro rfl; rw [hO] at e; cases e
      simp only [if_neg this]; exact e
    show wpAny _ _ (letOwnedTupleGo (.Name x px) (.ref it) v) _ _ _
    refine wpAny_pure ?_
    refine assign_Name (bx _ _ _ _ _ _ v S2 fun s3 S3 => ?_)
    refine wpAny_mono (step i v _ ws σ' D' s3 hlt hv hsub hinv S3) (fun ok s4 h4 => ?_) fun _ _ x => x
    cases ok with
    | false =>
      simp only [Bool.false_eq_true, if_false] at h4 ⊢
      obtain ⟨σ'', D'', S4, hi'⟩ := h4
      exact ⟨n - (i + 1), by omega, i + 1, ws, σ'', D'', o', hlt, rfl, hi', S4.lessO hsub, (S4.objs it o' (by simp)).1, hpos'⟩
    | true =>
      simp only [if_true] at h4 ⊢
      refine wpAny_mono h4 (fun y s5 h5 => ?_) fun _ _ x => x
      obtain ⟨σ'', D'', S5, hl, hi'⟩ := h5
      refine f_append S5 hl hcan (hacc i ws σ' D' hinv).2 fun s6 S6 => ?_
      exact ⟨n - (i + 1), by omega, i + 1, ws ++ [y], σ'', _, o', hlt, rfl, hi', S6.lessO hsub, (S6.objs it o' (by simp)).1, hpos'⟩
  · have hin : i = n := by omega
    subst hin
    refine W.done s' o _ _ ho hpos (hneed i ws σ' D' s' hinv S') fun h' he => ?_
    exact done ws σ' D' _ hinv (Ok.setRec (t := s'.toks) S' ho (W.fld i o hpos) hO hE he)

/-- the same over enumerate(l₀) -/
theorem comp_enum {e₀ elt iter : Expr} {xi xv : Str} {pi pv pt : Pos} {x1 : Nat} {d : Nat} {ifs : List Expr} {l e it l₀ : Addr} {n : Nat} {val : Nat → Value → Prop}
    (hee : emits e₀ d (.Tuple [.Name xi pi, .Name xv pv] x1 pt) iter ifs elt) (hh : A.handled = none) (S : Ok Hs se mods env O σ D s) (hOe : O e = none) (hOi : O it = none) (hEe : se.heap.get? e = none) (hEi : se.heap.get? it = none) (hei : e ≠ it)
    (he : IsEnum s.heap e it 0 .none) (hit : s.heap.IsListIter it l₀ 0) (bi : Bnd prog w A Hs se mods env xi) (bv : Bnd prog w A Hs se mods env xv) (hcan : Can se mods l) (Inv : Nat → List Value → Vars → Know → Prop) {ws₀ : List Value} (hI : Inv 0 ws₀ σ D)
    (hacc : ∀ i ws σ' D', Inv i ws σ' D' → D' l = some (.vals ws) ∧ ws.length ≤ 1000000) (hneed : ∀ i ws σ' D' s', Inv i ws σ' D' → Ok Hs se mods env O σ' D' s' → ∃ items : Array Value, items.size = n ∧ s'.heap.IsList l₀ items ∧ ∀ i v, items[i]? = some v → val i v)
    (step : ∀ (i : Nat) v ti O' ws σ' D' s', i < n → val i v → (∀ b o, O b = some o → O' b = some o) → Inv i ws σ' D' → Ok Hs se mods env O' ((xv, v) :: (xi, .int i ti) :: σ') D' s' →
      wpAny (model prog w) A (testsOf ifs env) (fun ok s₃ => if ok = true then wpAny (model prog w) A (eval elt env) (fun y s₄ => ∃ σ'' D'', Ok Hs se mods env O' σ'' D'' s₄ ∧ D'' l = some (.vals ws) ∧ Inv (i + 1) (ws ++ [y]) σ'' (upd D'' l (.vals (ws ++ [y])))) NoE s₃
        else ∃ σ'' D'', Ok Hs se mods env O' σ'' D'' s₃ ∧ Inv (i + 1) ws σ'' D'') NoE s')
    (done : ∀ ws σ' D' s', Inv n ws σ' D' → Ok Hs se mods env O σ' D' s' → R (.ok .next) s') :
    codeAny (model prog w) A (.compLoop e₀ d (.ref e) (.ref l) env) R s := by
  refine compLoop_emit hee (fun k s' => ∃ i ws σ' D' old, i ≤ n ∧ k = n - i ∧ Inv i ws σ' D' ∧ Ok Hs se mods env O σ' D' s' ∧ IsEnum s'.heap e it ((i : Nat) : Int) old ∧ s'.heap.IsListIter it l₀ i) ?_ (n - 0)
    ⟨0, ws₀, σ, D, .none, Nat.zero_le _, rfl, hI, S, he, hit⟩
  rintro k s' ⟨i, ws, σ', D', old, hi, rfl, hinv, S', he', hit'⟩
  obtain ⟨items, hn, hl', hval⟩ := hneed i ws σ' D' s' hinv S'
  subst hn
  obtain ⟨oi, hoi, hci, hdi⟩ := id hit'
  cases hv : items[i]? with
  | none =>
    have hsz : i = items.size := Nat.le_antisymm hi (by simpa using hv)
    subst hsz
    exact wpAny_pyNext_enum_end hh he' hit' hl' hv fun h₁ he₁ => done ws σ' D' _ hinv (Ok.setRec (t := s'.toks) S' hoi ⟨_, hdi⟩ hOi hEi he₁)
  | some v =>
    have hlt : i < items.size := (Array.getElem?_eq_some_iff.mp hv).1
    refine wpAny_pyNext_enum_item he' hit' hl' hv hei fun h₁ heo hit₁ ht₁ hz₁ hk₁ => ?_
    have heH : e ≠ s'.heap.objs.size := Nat.ne_of_lt (Heap.lt_size he')
    refine wpAny_letOwnedTupleGo_enum heo fun h₂ he₂ hs₂ => ?_
    replace hs₂ : Heap.SameBut e h₁ h₂ := hs₂
    have ht₂ : h₂.IsTuple s'.heap.objs.size #[.int i s'.toks, v] := ⟨_, (hs₂.2 _ (Ne.symm heH)).trans ht₁, rfl, _, rfl⟩
    obtain ⟨oi₁, hoi₁, hci₁, hdi₁⟩ := id hit₁
    have hoi₂ : h₂.get? it = some oi₁ := (hs₂.2 it (Ne.symm hei)).trans hoi₁
    have S1 : Ok Hs se mods env O σ' D' { s' with heap := h₂, toks := s'.toks + 1 } := by
      have kp : ∀ b o, b ≠ e → b ≠ it → s'.heap.get? b = some o → h₂.get? b = some o := fun b o h1 h2 x => (hs₂.2 b h1).trans (hk₁ b o h1 h2 x)
      refine ⟨S'.statE, S'.modsNew, fun b x q m => kp b x ?_ ?_ (S'.keep b x q m), fun b x q => ⟨kp b x ?_ ?_ (S'.objs b x q).1, (S'.objs b x q).2⟩, fun b c q => ?_, S'.fr.at (fun x es z hx hd => kp _ _ ?_ ?_ hx) (fun y c hy x z hx hd => kp _ _ ?_ ?_ hx), S'.low, S'.gens, S'.drawn, S'.os⟩
      · rintro rfl; rw [hEe] at q; cases q
      · rintro rfl; rw [hEi] at q; cases q
      · rintro rfl; rw [hOe] at q; cases q
      · rintro rfl; rw [hOi] at q; cases q
      · obtain ⟨x, xs, z, h1, h2⟩ := (S'.know b c q).seq
        exact (S'.know b c q).at fun o' e' => kp b o' (data_ne h1 he' (by rw [h2]; intro z; cases z)) (data_ne h1 hoi (by rw [h2, hdi]; intro z; cases z)) e'
      · exact data_ne hx he' (by rw [hd]; intro z; cases z)
      · exact data_ne hx hoi (by rw [hd, hdi]; intro z; cases z)
      · exact data_ne hx he' (by rw [hd]; intro z; cases z)
      · exact data_ne hx hoi (by rw [hd, hdi]; intro z; cases z)
    have S2 := (S1.withRec he₂ ⟨_, rfl⟩).withRec (it := it) hoi₂ ⟨_, hdi₁⟩
    generalize hOO : (fun b => if b = it then some oi₁ else (fun b => if b = e then some _ else O b) b) = O' at S2
    have hsub : ∀ b q, O b = some q → O' b = some q := fun b q x => by
      have h1 : b ≠ it := by rintro rfl; rw [hOi] at x; cases x
      have h2 : b ≠ e := by rintro rfl; rw [hOe] at x; cases x
      rw [← hOO]; simp only [if_neg h1, if_neg h2]; exact x
    have hOit : O' it = some oi₁ := by rw [← hOO]; simp
    have hOe' : ∃ oe, O' e = some oe ∧ oe = { cls := .type "enumerate", dict := none, data := .fields #[.none, .bool false, .ref it, rawInt ((i : Int) + 1), .none, v], slots := #[] } := by
      rw [← hOO]; simp only [if_neg hei, if_true]; exact ⟨_, rfl, rfl⟩
    refine wpAny_assign_Tuple hh ht₂ (by rfl) (by rfl) fun h₃ he₃ => ?_
    have S3 : Ok Hs se mods env O' σ' D' { s' with heap := h₃, toks := s'.toks + 1 } := S2.ext (t := s'.toks + 1) fun _ _ x => he₃ _ _ (Nat.ne_of_lt (Heap.lt_size x)) x
    refine in_cons (assign_Name (bi _ _ _ _ _ _ _ S3 fun s4 S4 => ?_))
    refine in_cons (assign_Name (bv _ _ _ _ _ _ _ S4 fun s5 S5 => in_nil ?_))
    have fin : ∀ s6 ws' σ'' D'', Inv (i + 1) ws' σ'' D'' → Ok Hs se mods env O' σ'' D'' s6 → ∃ m, m < items.size - i ∧ ∃ i ws σ' D' old, i ≤ items.size ∧ m = items.size - i ∧ Inv i ws σ' D' ∧ Ok Hs se mods env O σ' D' s6 ∧ IsEnum s6.heap e it ((i : Nat) : Int) old ∧ s6.heap.IsListIter it l₀ i := by
      intro s6 ws' σ'' D'' hi' S6
      obtain ⟨oe, q1, q2⟩ := hOe'
      exact ⟨items.size - (i + 1), by omega, i + 1, ws', σ'', D'', v, hlt, rfl, hi', S6.lessO hsub, (by have z := (S6.objs e oe q1).1; rw [q2] at z; exact z), ⟨_, (S6.objs it oi₁ hOit).1, hci₁, hdi₁⟩⟩
    refine wpAny_mono (step i v _ O' ws σ' D' s5 hlt (hval i v hv) hsub hinv S5) (fun ok s6 h6 => ?_) fun _ _ x => x
    cases ok with
    | false =>
      simp only [Bool.false_eq_true, if_false] at h6 ⊢
      obtain ⟨σ'', D'', S6, hi'⟩ := h6
      exact fin _ _ _ _ hi' S6
    | true =>
      simp only [if_true] at h6 ⊢
      refine wpAny_mono h6 (fun y s7 h7 => ?_) fun _ _ x => x
      obtain ⟨σ'', D'', S7, hl, hi'⟩ := h7
      exact f_append S7 hl hcan (hacc i ws σ' D' hinv).2 fun s8 S8 => fin _ _ _ _ hi' S8

/-- the first of two clauses -/
theorem comp_outer {elt iter iter' target' : Expr} {x : Str} {px : Pos} {ifs ifs' : List Expr} {scope : Scope} {pos : Pos} {l it : Addr} {n : Nat} {val : Nat → Value → Prop} {Pos' : Nat → Obj → Prop} {need : Shared → Prop} {o₀ : Obj}
    (W : Draws prog w A it n val Pos' need) (S : Ok Hs se mods env O σ D s) (hO : O it = none) (hE : se.heap.get? it = none) (h0 : s.heap.get? it = some o₀) (hp : Pos' 0 o₀) (hs : ∀ x, foldedSetIterable iter' env x = pure x)
    (bx : Bnd prog w A Hs se mods env x) (Inv : Nat → List Value → Vars → Know → Prop) {ws₀ : List Value} (hI : Inv 0 ws₀ σ D)
    (hneed : ∀ i ws σ' D' s', Inv i ws σ' D' → Ok Hs se mods env O σ' D' s' → need s')
    (step : ∀ i v O' ws σ' D' s', i < n → val i v → (∀ b o, O b = some o → O' b = some o) → Inv i ws σ' D' → Ok Hs se mods env O' ((x, v) :: σ') D' s' →
      wpAny (model prog w) A (testsOf ifs env) (fun ok s₃ => if ok = true then wpAny (model prog w) A (eval iter' env) (fun y s₄ => wpAny (model prog w) A (pyIter y) (fun it' s₅ =>
          codeAny (model prog w) A (.compStart (.ListComp elt [⟨.Name x px, iter, ifs, 0⟩, ⟨target', iter', ifs', 0⟩] scope pos) 1 it' (.ref l) env) (fun r s₆ => match r with
            | .ok _ => ∃ ws' σ'' D'', Ok Hs se mods env O' σ'' D'' s₆ ∧ Inv (i + 1) ws' σ'' D''
            | .error _ => False) s₅) NoE s₄) NoE s₃
        else ∃ σ'' D'', Ok Hs se mods env O' σ'' D'' s₃ ∧ Inv (i + 1) ws σ'' D'') NoE s')
    (done : ∀ ws σ' D' s', Inv n ws σ' D' → Ok Hs se mods env O σ' D' s' → R (.ok .next) s') :
    codeAny (model prog w) A (.compLoop (.ListComp elt [⟨.Name x px, iter, ifs, 0⟩, ⟨target', iter', ifs', 0⟩] scope pos) 0 (.ref it) (.ref l) env) R s := by
  refine compLoop_outer (fun k s' => ∃ i ws σ' D' o, i ≤ n ∧ k = n - i ∧ Inv i ws σ' D' ∧ Ok Hs se mods env O σ' D' s' ∧ s'.heap.get? it = some o ∧ Pos' i o) hs ?_ (n - 0) ⟨0, ws₀, σ, D, o₀, Nat.zero_le _, rfl, hI, S, h0, hp⟩
  rintro k s' ⟨i, ws, σ', D', o, hi, rfl, hinv, S', ho, hpos⟩
  by_cases hlt : i < n
  · refine W.item i s' o _ _ hlt ho hpos (hneed i ws σ' D' s' hinv S') fun h' t v o' hv ho' hpos' hs => ?_
    have S1 : Ok Hs se mods env O σ' D' { s' with heap := h', toks := t } := S'.setRec ho (W.fld i o hpos) hO hE hs.extBut
    have S2 := S1.withRec ho' (W.fld _ o' hpos')
    have hsub : ∀ b q, O b = some q → (fun b => if b = it then some o' else O b) b = some q := fun b q e => by
      have : b ≠ it := by rintro rfl; rw [hO] at e; cases e
      simp only [if_neg this]; exact e
    show wpAny _ _ (letOwnedTupleGo (.Name x px) (.ref it) v) _ _ _
    refine wpAny_pure ?_
    refine assign_Name (bx _ _ _ _ _ _ v S2 fun s3 S3 => ?_)
    refine wpAny_mono (step i v _ ws σ' D' s3 hlt hv hsub hinv S3) (fun ok s4 h4 => ?_) fun _ _ x => x
    cases ok with
    | false =>
      simp only [Bool.false_eq_true, if_false] at h4 ⊢
      obtain ⟨σ'', D'', S4, hi'⟩ := h4
      exact ⟨n - (i + 1), by omega, i + 1, ws, σ'', D'', o', hlt, rfl, hi', S4.lessO hsub, (S4.objs it o' (by simp)).1, hpos'⟩
    | true =>
      simp only [if_true] at h4 ⊢
      refine wpAny_mono h4 (fun y s5 h5 => wpAny_mono h5 (fun it' s6 h6 => codeAny_mono h6 fun r s7 h7 => ?_) fun _ _ x => x) fun _ _ x => x
      cases r with
      | error => exact h7
      | ok f =>
        obtain ⟨ws', σ'', D'', S7, hi'⟩ := h7
        exact ⟨n - (i + 1), by omega, i + 1, ws', σ'', D'', o', hlt, rfl, hi', S7.lessO hsub, (S7.objs it o' (by simp)).1, hpos'⟩
  · have hin : i = n := by omega
    subst hin
    refine W.done s' o _ _ ho hpos (hneed i ws σ' D' s' hinv S') fun h' he => ?_
    exact done ws σ' D' _ hinv (Ok.setRec (t := s'.toks) S' ho (W.fld i o hpos) hO hE he)

/-! the ends of a comprehension -/
theorem post_none {cenv : Env} {O' : Addr → Option Obj} {acc : Value} {Q : Value → Shared → Prop} {f : Flow} (K : Block Hs se mods env O σ cenv O') (S : Ok Hs se mods cenv O' σ' D s) (h : ∀ s', Ok Hs se mods env O σ D s' → Q acc s') :
    compPost (model prog w) A E none Q acc cenv.locals (.ok f) s := by
  obtain ⟨m, hn, _⟩ := S.fr.ns
  exact ⟨m, hn, fun h' hs => h _ (K.back _ _ _ h' s.toks S hs)⟩
theorem Heap.SameBut.rfl' {h : Heap} {a : Addr} : Heap.SameBut a h h := Heap.SameBut.refl ..
theorem post_use {cenv : Env} {O' : Addr → Option Obj} {acc : Value} {y : Str} {py : Pos} {Q : Value → Shared → Prop} {f : Flow} (I : EnvIs env ns cs) (hy : ns.lookup y = some .local) (K : Block Hs se mods env O σ cenv O') (S : Ok Hs se mods cenv O' σ' D s)
    (h : ∀ s', Ok Hs se mods env O ((y, acc) :: σ) D s' → Q .none s') : compPost (model prog w) A E (some (assign (.Name y py) env)) Q acc cenv.locals (.ok f) s := by
  show wpAny (model prog w) A (assign (.Name y py) env acc) (fun _ s'' => ∃ m, s''.heap.Ns cenv.locals m ∧ ∀ h', Heap.SameBut cenv.locals s''.heap h' → Q .none { s'' with heap := h' }) E s
  obtain ⟨mC, hnC, _⟩ := S.fr.ns
  have Sb := K.back _ _ _ s.heap s.toks S Heap.SameBut.rfl'
  obtain ⟨m, hn, hm⟩ := Sb.fr.ns
  have k := I.loc y .local hy (by intro q; cases q)
  refine assign_Name (wpAny_storeName_local k hn (fun h' hn' hs => ⟨mC, hnC.sameBut hs (Ne.symm K.locals_ne), fun h'' hs'' => h _ ?_⟩) (by rw [I.kind]; rfl))
  -- the block's frame may go: all else stands as behind the store
  have S2 := Ok.setLocal (t := s.toks + 1) Sb hm hn' hs k (v := acc)
  obtain ⟨oC, esC, nC, hgC, hdC⟩ := (show ∃ o es q, h'.get? cenv.locals = some o ∧ o.data = .dict es q from by
    obtain ⟨o, es, q, h1, h2, _⟩ := hnC.sameBut hs (Ne.symm K.locals_ne); exact ⟨o, es, q, h1, h2⟩)
  have S0 := K.back _ _ _ h'' s.toks S
  refine ⟨S2.statE, S2.modsNew, fun b o e q => (hs''.2 b ?_).trans (S2.keep b o e q), fun b o e => ?_, fun b c e => ?_, S2.fr.at (fun o es q ho hd => (hs''.2 _ K.locals_ne).trans ho) (fun x c hx o v ho hd => (hs''.2 _ (data_ne ho hgC (by rw [hd, hdC]; intro q; cases q))).trans ho), S2.low, S2.gens, S2.drawn, S2.os⟩
  · exact Nat.ne_of_lt (Nat.lt_of_lt_of_le (Heap.lt_size e) S.low)
  · obtain ⟨h1, h2⟩ := S2.objs b o e
    refine ⟨(hs''.2 b ?_).trans h1, h2⟩
    rcases h2 with ⟨vs, h2⟩ | ⟨h2, _⟩
    · exact data_ne h1 hgC (by rw [h2, hdC]; intro q; cases q)
    · rintro rfl
      exact K.back_lt h2
  · obtain ⟨o, xs, q, h1, h2⟩ := (S2.know b c e).seq
    exact (S2.know b c e).at fun o' e' => (hs''.2 b (data_ne h1 hgC (by rw [h2, hdC]; intro q; cases q))).trans e'
end

end Mine

namespace Mine

noncomputable def Sub (D D' : Know) : Prop := ∀ b c, D b = some c → D' b = some c
theorem Sub.refl {D : Know} : Sub D D := fun _ _ h => h
theorem Sub.trans {D D' D'' : Know} (h : Sub D D') (h' : Sub D' D'') : Sub D D'' := fun b c e => h' b c (h b c e)
theorem Sub.new {D : Know} {l : Addr} {c : Cell} (h : D l = none) : Sub D (upd D l c) := fun b c' e => by
  rw [upd_ne]; exact e
  rintro rfl; rw [h] at e; cases e
theorem Sub.ext {P : Addr → Prop} {D D' : Know} (h : Sub D D') : Ext P D D' := fun b c e _ => h b c e
theorem Ext.sub {P : Addr → Prop} {D D' : Know} (h : Ext P D D') (hp : ∀ b, ¬ P b) : Sub D D' := fun b c e => h b c e (hp b)
theorem Sub.upd {D D' : Know} {l : Addr} {c : Cell} (h : Sub D D') : Sub (upd D l c) (upd D' l c) := fun b c' e => by
  unfold Mine.upd at e ⊢
  split at e
  · rename_i q; rw [if_pos q]; exact e
  · rename_i q; rw [if_neg q]; exact h b c' e

section
variable {prog : Program} {w : World} {A : Around} {E : Value → Shared → Prop} {n : Nat} {R : Result → Shared → Prop}
variable {Hs : Heap} {se s : Shared} {mods : Addr → Prop} {env : Env} {O : Addr → Option Obj} {σ σ' : Vars} {D D' : Know} {mg mb : Str → Option Value}
variable {ns : List (Str × NameKind)} {cs : List (Str × Addr)} {a b : Int} {t u : Tok}

theorem Ok.forget (S : Ok Hs se mods env O σ D' s) (h : Sub D D') : Ok Hs se mods env O σ D s := S.sub (fun _ _ h => h) h

/-- a comprehension behind its iterator -/
theorem comp_tail {e : Expr} {scope : Scope} {cl : List (Str × Addr)} {it : Value} {use : Option (Value → Sem Unit)} {Q : Value → Shared → Prop} (S : Ok Hs se mods env O σ D s) (I : EnvIs env ns cs) (hcl : closOf scope.names [] cs = some cl)
    (hk : scope.kind = .function) (hnd : (scope.names.map Prod.fst).Nodup) (hcap : (cl.all fun p => ns.lookup p.1 == some .cell || ns.lookup p.1 == some .free) = true)
    (h : ∀ l cenv O' s', D l = none → se.heap.get? l = none → EnvIs cenv scope.names (cellsFrom (cenv.locals + 1) scope.names cl) → Ok Hs se mods cenv O' (taken scope.names σ) (upd D l (.vals [])) s' → Block Hs se mods env O σ cenv O' →
      (∀ b o, s.heap.get? b = some o → s'.heap.get? b = some o) → (∀ b o vs, s.heap.get? b = some o → o.data = .fields vs → O b = none → O' b = none) →
      codeAny (model prog w) A (.compStart e 0 it (.ref l) cenv) (compPost (model prog w) A E use Q (.ref l) cenv.locals) s') :
    wpAny (model prog w) A (newList []) (fun acc s₃ => wpAny (model prog w) A (newFunctionEnv scope env.globals cl [] env.qual none .none (some env)) (fun cenv s₄ =>
      codeAny (model prog w) A (.compStart e 0 it acc { cenv with scope := relabel scope env }) (compPost (model prog w) A E use Q acc cenv.locals) s₄) E s₃) E s := by
  refine wpAny_newList ?_ (by simp)
  have hl := S.fresh (Nat.le_refl s.heap.objs.size)
  have hlE := S.freshE (Nat.le_refl s.heap.objs.size)
  have S1 : Ok Hs se mods env O σ (upd D s.heap.objs.size (.vals [])) { s with heap := s.heap.push { cls := .type "list", data := .seq ([] : List Value).toArray } } := S.pushed ⟨_, Heap.get?_push_size _ rfl, rfl, _, rfl⟩
  refine comp_env S1 I hcl hk hnd hcap fun cenv O' s' Ic Sc K hO keep => ?_
  exact h s.heap.objs.size _ O' s' hl hlE Ic Sc K (fun b o e => keep b o (Heap.get?_push_of_some _ e)) fun b o vs e1 e2 e3 => hO b o vs (Heap.get?_push_of_some _ e1) e2 e3

theorem cs_start1 {elt target iter : Expr} {ifs : List Expr} {scope : Scope} {pos : Pos} {it acc : Value} (hself : ∀ Q : Value → Shared → Prop, Q it s → wpAny (model prog w) A (pyIter it) Q NoE s)
    (h : codeAny (model prog w) A (.compLoop (.ListComp elt [⟨target, iter, ifs, 0⟩] scope pos) 0 it acc env) R s) : codeAny (model prog w) A (.compStart (.ListComp elt [⟨target, iter, ifs, 0⟩] scope pos) 0 it acc env) R s :=
  codeAny_compStart_any (g := ⟨target, iter, ifs, 0⟩) rfl rfl rfl (Around.under_of_weight rfl) (fun _ => rfl) h (hself _ h)
theorem cs_start2 {elt target iter target' iter' : Expr} {ifs ifs' : List Expr} {scope : Scope} {pos : Pos} {it acc : Value} (hself : ∀ Q : Value → Shared → Prop, Q it s → wpAny (model prog w) A (pyIter it) Q NoE s)
    (h : codeAny (model prog w) A (.compLoop (.ListComp elt [⟨target, iter, ifs, 0⟩, ⟨target', iter', ifs', 0⟩] scope pos) 0 it acc env) R s) : codeAny (model prog w) A (.compStart (.ListComp elt [⟨target, iter, ifs, 0⟩, ⟨target', iter', ifs', 0⟩] scope pos) 0 it acc env) R s :=
  codeAny_compStart_any (g := ⟨target, iter, ifs, 0⟩) rfl rfl rfl (Around.under_of_weight rfl) (fun _ => rfl) h (hself _ h)
theorem cs_start2' {elt target iter target' iter' : Expr} {ifs ifs' : List Expr} {scope : Scope} {pos : Pos} {it acc : Value} (hself : ∀ Q : Value → Shared → Prop, Q it s → wpAny (model prog w) A (pyIter it) Q NoE s)
    (h : codeAny (model prog w) A (.compLoop (.ListComp elt [⟨target, iter, ifs, 0⟩, ⟨target', iter', ifs', 0⟩] scope pos) 1 it acc env) R s) : codeAny (model prog w) A (.compStart (.ListComp elt [⟨target, iter, ifs, 0⟩, ⟨target', iter', ifs', 0⟩] scope pos) 1 it acc env) R s :=
  codeAny_compStart_any (g := ⟨target', iter', ifs', 0⟩) rfl rfl rfl (Around.under_of_weight rfl) (fun _ => rfl) h (hself _ h)

/-- [elt for x in stream if test]: a list as a value -/
theorem e_comp {elt target iter : Expr} {ifs : List Expr} {scope : Scope} {pos : Pos} {cl : List (Str × Addr)} {Q : Value → Shared → Prop} (I : EnvIs env ns cs) (hcl : closOf scope.names [] cs = some cl) (hk : scope.kind = .function)
    (hnames : ∀ y ∈ scope.names, y.2 = .local → scope.names.lookup y.1 = some .local) (hs : ∀ x, foldedSetIterable iter env x = pure x)
    (h : wpAny (model prog w) A (eval iter env) (fun x s₁ => wpAny (model prog w) A (pyIter x) (fun it s₂ => wpAny (model prog w) A (newList []) (fun acc s₃ => wpAny (model prog w) A (newFunctionEnv scope env.globals cl [] env.qual none .none (some env)) (fun cenv s₄ =>
      codeAny (model prog w) A (.compStart (.ListComp elt [⟨target, iter, ifs, 0⟩] scope pos) 0 it acc { cenv with scope := relabel scope env }) (compPost (model prog w) A E none Q acc cenv.locals) s₄) E s₃) E s₂) E s₁) E s) :
    wpAny (model prog w) A (eval (.ListComp elt [⟨target, iter, ifs, 0⟩] scope pos) env) Q E s := by
  rw [eval_ListComp]
  exact wpAny_comprehension_free (use := none) rfl hs (closureFor_eq (by rw [I.cells]; exact hcl)) hk hnames h
theorem e_comp2 {elt target iter target' iter' : Expr} {ifs ifs' : List Expr} {scope : Scope} {pos : Pos} {cl : List (Str × Addr)} {Q : Value → Shared → Prop} (I : EnvIs env ns cs) (hcl : closOf scope.names [] cs = some cl) (hk : scope.kind = .function)
    (hnames : ∀ y ∈ scope.names, y.2 = .local → scope.names.lookup y.1 = some .local) (hs : ∀ x, foldedSetIterable iter env x = pure x)
    (h : wpAny (model prog w) A (eval iter env) (fun x s₁ => wpAny (model prog w) A (pyIter x) (fun it s₂ => wpAny (model prog w) A (newList []) (fun acc s₃ => wpAny (model prog w) A (newFunctionEnv scope env.globals cl [] env.qual none .none (some env)) (fun cenv s₄ =>
      codeAny (model prog w) A (.compStart (.ListComp elt [⟨target, iter, ifs, 0⟩, ⟨target', iter', ifs', 0⟩] scope pos) 0 it acc { cenv with scope := relabel scope env }) (compPost (model prog w) A E none Q acc cenv.locals) s₄) E s₃) E s₂) E s₁) E s) :
    wpAny (model prog w) A (eval (.ListComp elt [⟨target, iter, ifs, 0⟩, ⟨target', iter', ifs', 0⟩] scope pos) env) Q E s := by
  rw [eval_ListComp]
  exact wpAny_comprehension_free (use := none) rfl hs (closureFor_eq (by rw [I.cells]; exact hcl)) hk hnames h
/-- y = [..]: the name takes the list before the block's names go -/
theorem x_comp {elt target iter : Expr} {ifs : List Expr} {scope : Scope} {pos spos py : Pos} {y : Str} {cl : List (Str × Addr)} {Q : Flow → Shared → Prop} (I : EnvIs env ns cs) (hcl : closOf scope.names [] cs = some cl) (hk : scope.kind = .function)
    (hnames : ∀ y ∈ scope.names, y.2 = .local → scope.names.lookup y.1 = some .local) (hs : ∀ x, foldedSetIterable iter env x = pure x)
    (hsw : swapsWith (.ListComp elt [⟨target, iter, ifs, 0⟩] scope pos) (some (.Name y py)) spos.line env = pure true)
    (h : wpAny (model prog w) A (eval iter env) (fun x s₁ => wpAny (model prog w) A (pyIter x) (fun it s₂ => wpAny (model prog w) A (newList []) (fun acc s₃ => wpAny (model prog w) A (newFunctionEnv scope env.globals cl [] env.qual none .none (some env)) (fun cenv s₄ =>
      codeAny (model prog w) A (.compStart (.ListComp elt [⟨target, iter, ifs, 0⟩] scope pos) 0 it acc { cenv with scope := relabel scope env }) (compPost (model prog w) A E (some (assign (.Name y py) env)) (fun _ s' => Q .next s') acc cenv.locals) s₄) E s₃) E s₂) E s₁) E s) :
    wpAny (model prog w) A (exec (.Assign [.Name y py] (.ListComp elt [⟨target, iter, ifs, 0⟩] scope pos) spos) env) Q E s := by
  rw [exec_Assign_Name_used _ _ _ _ hsw]
  refine wpAny_bind (wpAny_standAt (wpAny_bind ?_))
  show wpAny _ A (do let _ ← comprehension (.ListComp elt [⟨target, iter, ifs, 0⟩] scope pos) scope env _ (newList []) false (eval iter env) (some (assign (.Name y py) env))) _ _ s
  exact wpAny_bind (wpAny_mono (wpAny_comprehension_free (use := some (assign (.Name y py) env)) (Q := fun _ s' => Q .next s') rfl hs (closureFor_eq (by rw [I.cells]; exact hcl)) hk hnames h) (fun _ s' hq => wpAny_pure (wpAny_pure hq)) fun _ _ e => e)

/-- the list at the end, ints -/
theorem Ok.asInts (S : Ok Hs se mods env O σ D s) {l : Addr} {ws : List Value} {xs : List Int} (hl : D l = some (.vals ws)) (hi : IntsAre ws xs) : Ok Hs se mods env O σ (upd D l (.zs xs)) s :=
  S.add ⟨ws.toArray, S.know l _ hl, by simpa using hi⟩
theorem Ok.asVals (S : Ok Hs se mods env O σ D s) {l : Addr} {xs : List Int} (hl : D l = some (.zs xs)) : ∃ ws, IntsAre ws xs ∧ Ok Hs se mods env O σ (upd D l (.vals ws)) s := by
  obtain ⟨vs, h1, h2⟩ := S.know l _ hl
  exact ⟨vs.toList, h2, S.add (by show s.heap.IsList l _; simpa using h1)⟩

/-- what the pure comprehension's turn shows: a test, an int -/
noncomputable def picked (p : Nat → Bool) (f : Nat → Int) (n : Nat) : List Int := ((List.range n).filter p).map f
theorem picked_succ (p : Nat → Bool) (f : Nat → Int) (n : Nat) : picked p f (n + 1) = picked p f n ++ if p n then [f n] else [] := by
  unfold picked
  rw [List.range_succ, List.filter_append, List.map_append]
  cases h : p n <;> simp [h]
theorem picked_length (p : Nat → Bool) (f : Nat → Int) (n : Nat) : (picked p f n).length ≤ n := by
  unfold picked; rw [List.length_map]; exact Nat.le_trans (List.length_filter_le _ _) (by simp)

theorem vars_drop {names : List (Str × NameKind)} {x : Str} {v : Value} (hx : names.lookup x ≠ some .free) : ∀ y u, (taken names σ).lookup y = some u → ((x, v) :: taken names σ).lookup y = some u := fun y u h => by
  rw [List.lookup_cons]
  have : y ≠ x := by rintro rfl; exact hx (taken_lookup h).1
  rw [show (y == x) = false from beq_eq_false_iff_ne.mpr this]; exact h

/-- a pure clause over a stream -/
theorem comp_pure {e elt iter : Expr} {x : Str} {px : Pos} {d : Nat} {ifs : List Expr} {l it : Addr} {n : Nat} {val : Nat → Value → Prop} {Pos' : Nat → Obj → Prop} {need : Shared → Prop} {o₀ : Obj}
    (he : emits e d (.Name x px) iter ifs elt) (W : Draws prog w A it n val Pos' need) (S : Ok Hs se mods env O σ (upd D l (.vals [])) s) (hl : D l = none) (hO : O it = none) (hE : se.heap.get? it = none) (h0 : s.heap.get? it = some o₀) (hp : Pos' 0 o₀)
    (bx : Bnd prog w A Hs se mods env x) (hx : ∀ v y u, σ.lookup y = some u → ((x, v) :: σ).lookup y = some u) (hE' : se.heap.get? l = none) (hz : n ≤ 1000000) (hneed : ∀ D' s', Sub D D' → Ok Hs se mods env O σ D' s' → need s')
    (p : Nat → Bool) (f : Nat → Int)
    (step : ∀ i v O' D' s', i < n → val i v → (∀ b o, O b = some o → O' b = some o) → Sub D D' → Ok Hs se mods env O' ((x, v) :: σ) D' s' →
      wpAny (model prog w) A (testsOf ifs env) (fun ok s₃ => ok = p i ∧ ∃ D'', Sub D' D'' ∧ Ok Hs se mods env O' ((x, v) :: σ) D'' s₃) NoE s')
    (elem : ∀ i v O' D' s', i < n → val i v → p i = true → (∀ b o, O b = some o → O' b = some o) → Sub D D' → Ok Hs se mods env O' ((x, v) :: σ) D' s' →
      wpAny (model prog w) A (eval elt env) (fun y s₄ => ∃ t D'', y = .int (f i) t ∧ Sub D' D'' ∧ Ok Hs se mods env O' ((x, v) :: σ) D'' s₄) NoE s')
    (done : ∀ s', Ok Hs se mods env O σ (upd D l (.zs (picked p f n))) s' → R (.ok .next) s') :
    codeAny (model prog w) A (.compLoop e d (.ref it) (.ref l) env) R s := by
  refine comp_gen he W S hO hE h0 hp bx (.inr hE') (fun i ws σ' D' => i ≤ n ∧ σ' = σ ∧ IntsAre ws (picked p f i) ∧ Sub D D' ∧ D' l = some (.vals ws)) ⟨Nat.zero_le _, rfl, .nil, Sub.new hl, upd_same ..⟩ ?_ ?_ ?_ ?_
  · rintro i ws σ' D' ⟨h1, _, h2, _, h3⟩
    refine ⟨h3, ?_⟩
    rw [IntsAre.len h2]; exact Nat.le_trans (picked_length p f i) (Nat.le_trans h1 hz)
  · rintro i ws σ' D' s' ⟨_, rfl, _, h, _⟩ S'; exact hneed D' s' h S'
  · rintro i v O' ws σ' D' s' hi hv hO' ⟨_, rfl, hws, hsub, hlD⟩ S'
    refine wpAny_mono (step i v O' D' s' hi hv hO' hsub S') (fun ok s₃ h₃ => ?_) fun _ _ x => x
    obtain ⟨rfl, D2, hsub2, S3⟩ := h₃
    cases hpi : p i with
    | false =>
      simp only [Bool.false_eq_true, if_false]
      exact ⟨σ', D2, S3.vars (hx v), hi, rfl, by rw [picked_succ, hpi]; simpa using hws, hsub.trans hsub2, hsub2 _ _ hlD⟩
    | true =>
      simp only [if_true]
      refine wpAny_mono (elem i v O' D2 s₃ hi hv hpi hO' (hsub.trans hsub2) S3) (fun y s₄ h₄ => ?_) fun _ _ x => x
      obtain ⟨t, D3, rfl, hsub3, S4⟩ := h₄
      refine ⟨σ', D3, S4.vars (hx v), hsub3 _ _ (hsub2 _ _ hlD), hi, rfl, ?_, fun b c e => ?_, upd_same ..⟩
      · rw [picked_succ, hpi]; exact IntsAre.snoc hws _ _
      · rw [upd_ne (by rintro rfl; rw [hl] at e; cases e)]
        exact hsub3 _ _ (hsub2 _ _ (hsub _ _ e))
  · rintro ws σ' D' s' ⟨_, rfl, hws, hsub, hlD⟩ S'
    exact done s' ((S'.asInts hlD hws).forget (hsub.upd))

theorem comp_pure_enum {e₀ elt iter : Expr} {xi xv : Str} {pi pv pt : Pos} {x1 : Nat} {d : Nat} {ifs : List Expr} {l e it l₀ : Addr} {n : Nat} {val : Nat → Value → Prop}
    (hee : emits e₀ d (.Tuple [.Name xi pi, .Name xv pv] x1 pt) iter ifs elt) (hh : A.handled = none) (S : Ok Hs se mods env O σ (upd D l (.vals [])) s) (hl : D l = none) (hOe : O e = none) (hOi : O it = none) (hEe : se.heap.get? e = none) (hEi : se.heap.get? it = none) (hei : e ≠ it)
    (he : IsEnum s.heap e it 0 .none) (hit : s.heap.IsListIter it l₀ 0) (bi : Bnd prog w A Hs se mods env xi) (bv : Bnd prog w A Hs se mods env xv) (hx : ∀ v u y z, σ.lookup y = some z → ((xv, v) :: (xi, u) :: σ).lookup y = some z) (hE' : se.heap.get? l = none) (hz : n ≤ 1000000)
    (hneed : ∀ D' s', Sub D D' → Ok Hs se mods env O σ D' s' → ∃ items : Array Value, items.size = n ∧ s'.heap.IsList l₀ items ∧ ∀ i v, items[i]? = some v → val i v) (p : Nat → Bool) (f : Nat → Int)
    (step : ∀ (i : Nat) v ti O' D' s', i < n → val i v → (∀ b o, O b = some o → O' b = some o) → Sub D D' → Ok Hs se mods env O' ((xv, v) :: (xi, .int i ti) :: σ) D' s' →
      wpAny (model prog w) A (testsOf ifs env) (fun ok s₃ => ok = p i ∧ ∃ D'', Sub D' D'' ∧ Ok Hs se mods env O' ((xv, v) :: (xi, .int i ti) :: σ) D'' s₃) NoE s')
    (elem : ∀ (i : Nat) v ti O' D' s', i < n → val i v → p i = true → (∀ b o, O b = some o → O' b = some o) → Sub D D' → Ok Hs se mods env O' ((xv, v) :: (xi, .int i ti) :: σ) D' s' →
      wpAny (model prog w) A (eval elt env) (fun y s₄ => ∃ t D'', y = .int (f i) t ∧ Sub D' D'' ∧ Ok Hs se mods env O' ((xv, v) :: (xi, .int i ti) :: σ) D'' s₄) NoE s')
    (done : ∀ s', Ok Hs se mods env O σ (upd D l (.zs (picked p f n))) s' → R (.ok .next) s') :
    codeAny (model prog w) A (.compLoop e₀ d (.ref e) (.ref l) env) R s := by
  refine comp_enum (n := n) (val := val) hee hh S hOe hOi hEe hEi hei he hit bi bv (.inr hE') (fun i ws σ' D' => i ≤ n ∧ σ' = σ ∧ IntsAre ws (picked p f i) ∧ Sub D D' ∧ D' l = some (.vals ws)) ⟨Nat.zero_le _, rfl, .nil, Sub.new hl, upd_same ..⟩ ?_ ?_ ?_ ?_
  · rintro i ws σ' D' ⟨h1, _, h2, _, h3⟩
    refine ⟨h3, ?_⟩
    rw [IntsAre.len h2]; exact Nat.le_trans (picked_length p f i) (Nat.le_trans h1 hz)
  · rintro i ws σ' D' s' ⟨_, rfl, _, h, _⟩ S'; exact hneed D' s' h S'
  · rintro i v ti O' ws σ' D' s' hi hv hO' ⟨_, rfl, hws, hsub, hlD⟩ S'
    refine wpAny_mono (step i v ti O' D' s' hi hv hO' hsub S') (fun ok s₃ h₃ => ?_) fun _ _ x => x
    obtain ⟨rfl, D2, hsub2, S3⟩ := h₃
    cases hpi : p i with
    | false =>
      simp only [Bool.false_eq_true, if_false]
      exact ⟨σ', D2, S3.vars (hx v _), hi, rfl, by rw [picked_succ, hpi]; simpa using hws, hsub.trans hsub2, hsub2 _ _ hlD⟩
    | true =>
      simp only [if_true]
      refine wpAny_mono (elem i v ti O' D2 s₃ hi hv hpi hO' (hsub.trans hsub2) S3) (fun y s₄ h₄ => ?_) fun _ _ x => x
      obtain ⟨t, D3, rfl, hsub3, S4⟩ := h₄
      refine ⟨σ', D3, S4.vars (hx v _), hsub3 _ _ (hsub2 _ _ hlD), hi, rfl, ?_, fun b c e => ?_, upd_same ..⟩
      · rw [picked_succ, hpi]; exact IntsAre.snoc hws _ _
      · rw [upd_ne (by rintro rfl; rw [hl] at e; cases e)]
        exact hsub3 _ _ (hsub2 _ _ (hsub _ _ e))
  · rintro ws σ' D' s' ⟨_, rfl, hws, hsub, hlD⟩ S'
    exact done s' ((S'.asInts hlD hws).forget (hsub.upd))

/-- a clause whose element is a new list each turn; G says what it is -/
theorem comp_new {e elt iter : Expr} {x : Str} {px : Pos} {d : Nat} {ifs : List Expr} {l it : Addr} {n : Nat} {val : Nat → Value → Prop} {Pos' : Nat → Obj → Prop} {need : Shared → Prop} {o₀ : Obj} {rs₀ : List Addr}
    (he : emits e d (.Name x px) iter ifs elt) (W : Draws prog w A it n val Pos' need) (S : Ok Hs se mods env O σ D s) (hl : D l = some (.refs rs₀)) (hO : O it = none) (hE : se.heap.get? it = none) (h0 : s.heap.get? it = some o₀) (hp : Pos' 0 o₀)
    (bx : Bnd prog w A Hs se mods env x) (hx : ∀ v y u, σ.lookup y = some u → ((x, v) :: σ).lookup y = some u) (hE' : se.heap.get? l = none) (hz : rs₀.length + n ≤ 1000000) (hneed : ∀ D' s', (∀ b c, b ≠ l → D b = some c → D' b = some c) → Ok Hs se mods env O σ D' s' → need s')
    (G : Nat → Addr → Know → Prop) (hG : ∀ i r D D', (∀ b c, b ≠ l → D b = some c → D' b = some c) → r ≠ l → G i r D → G i r D') (hG' : ∀ i r D, G i r D → D r ≠ none)
    (step : ∀ i v O' D' s', i < n → val i v → (∀ b o, O b = some o → O' b = some o) → (∀ b c, b ≠ l → D b = some c → D' b = some c) → Ok Hs se mods env O' ((x, v) :: σ) D' s' →
      wpAny (model prog w) A (testsOf ifs env) (fun ok s₃ => ok = true ∧ ∃ D'', Sub D' D'' ∧ Ok Hs se mods env O' ((x, v) :: σ) D'' s₃) NoE s')
    (elem : ∀ i v O' D' s', i < n → val i v → (∀ b o, O b = some o → O' b = some o) → (∀ b c, b ≠ l → D b = some c → D' b = some c) → Ok Hs se mods env O' ((x, v) :: σ) D' s' →
      wpAny (model prog w) A (eval elt env) (fun y s₄ => ∃ r D'', y = .ref r ∧ D' r = none ∧ se.heap.get? r = none ∧ Sub D' D'' ∧ G i r D'' ∧ Ok Hs se mods env O' ((x, v) :: σ) D'' s₄) NoE s')
    (done : ∀ rs D' s', rs.length = n → (∀ r ∈ rs, D r = none ∧ se.heap.get? r = none ∧ r ≠ l) → rs.Nodup → (∀ b c, b ≠ l → D b = some c → D' b = some c) → D' l = some (.refs (rs₀ ++ rs)) → (∀ i r, rs[i]? = some r → G i r D') → Ok Hs se mods env O σ D' s' → R (.ok .next) s') :
    codeAny (model prog w) A (.compLoop e d (.ref it) (.ref l) env) R s := by
  refine comp_gen he W S hO hE h0 hp bx (.inr hE') (fun i ws σ' D' => i ≤ n ∧ σ' = σ ∧ ∃ rs : List Addr, rs.length = i ∧ ws = (rs₀ ++ rs).map Value.ref ∧ (∀ r ∈ rs, D r = none ∧ se.heap.get? r = none ∧ r ≠ l) ∧ rs.Nodup ∧ (∀ b c, b ≠ l → D b = some c → D' b = some c) ∧ D' l = some (.vals ws) ∧ ∀ j r, rs[j]? = some r → G j r D')
    ⟨Nat.zero_le _, rfl, [], rfl, by rw [List.append_nil], (fun _ h => nomatch h), .nil, fun _ _ _ h => h, hl, fun j r h => by simp at h⟩ ?_ ?_ ?_ ?_
  · rintro i ws σ' D' ⟨h1, _, rs, h2, rfl, _, _, _, h3, _⟩
    exact ⟨h3, by simp; lia⟩
  · rintro i ws σ' D' s' ⟨_, rfl, rs, _, _, _, _, h, _⟩ S'; exact hneed D' s' h S'
  · rintro i v O' ws σ' D' s' hi hv hO' ⟨_, rfl, rs, hlen, rfl, hfr, hnd, hsub, hlD, hGs⟩ S'
    refine wpAny_mono (step i v O' D' s' hi hv hO' hsub S') (fun ok s₃ h₃ => ?_) fun _ _ x => x
    obtain ⟨rfl, D2, hsub2, S3⟩ := h₃
    simp only [if_true]
    refine wpAny_mono (elem i v O' D2 s₃ hi hv hO' (fun b c n e => hsub2 b c (hsub b c n e)) S3) (fun y s₄ h₄ => ?_) fun _ _ x => x
    obtain ⟨r, D3, rfl, hr, hrE, hsub3, hGr, S4⟩ := h₄
    have hlD3 := hsub3 _ _ (hsub2 _ _ hlD)
    have hrl : r ≠ l := by rintro rfl; rw [hsub2 _ _ hlD] at hr; cases hr
    have hrs : r ∉ rs := fun hm => by
      obtain ⟨j, hj⟩ := List.getElem?_of_mem hm
      have := hG' j r D' (hGs j r hj)
      cases q : D' r with
      | none => exact this q
      | some c => rw [hsub2 _ _ q] at hr; cases hr
    have hDr : D r = none := by
      cases q : D r with
      | none => rfl
      | some c => rw [hsub2 _ _ (hsub _ _ hrl q)] at hr; cases hr
    refine ⟨σ', D3, S4.vars (hx v), hlD3, hi, rfl, rs ++ [r], by simp [hlen], by simp, fun q hq => ?_, ?_, fun b c n e => ?_, upd_same .., fun j q hj => ?_⟩
    · rcases List.mem_append.mp hq with hq | hq
      · exact hfr q hq
      · rw [List.mem_singleton.mp hq]; exact ⟨hDr, hrE, hrl⟩
    · rw [List.nodup_append]; exact ⟨hnd, by simp, fun x hx y hy => by rw [List.mem_singleton.mp hy]; rintro rfl; exact hrs hx⟩
    · rw [upd_ne n]; exact hsub3 _ _ (hsub2 _ _ (hsub b c n e))
    · have hql : q ≠ l := by
        rcases List.mem_append.mp (List.mem_of_getElem? hj) with hq | hq
        · exact (hfr q hq).2.2
        · rw [List.mem_singleton.mp hq]; exact hrl
      refine hG j q D3 _ (fun b c n e => by rw [upd_ne n]; exact e) hql ?_
      by_cases hjr : j < rs.length
      · rw [List.getElem?_append_left hjr] at hj
        exact hG j q D' D3 (fun b c _ e => hsub3 _ _ (hsub2 _ _ e)) hql (hGs j q hj)
      · rw [List.getElem?_append_right (by lia)] at hj
        have : j - rs.length = 0 := by
          cases h : j - rs.length with
          | zero => rfl
          | succ k => rw [h] at hj; simp at hj
        rw [this] at hj
        simp at hj; subst hj
        have : j = i := by lia
        subst this; exact hGr
  · rintro ws σ' D' s' ⟨_, rfl, rs, hlen, rfl, hfr, hnd, hsub, hlD, hGs⟩ S'
    exact done rs D' s' hlen hfr hnd hsub hlD hGs S'
end

end Mine

namespace Mine

theorem bindL_lookup {k : Str → Option NameKind} : ∀ {binds : List (Str × Value)} {m : Str → Option Value} {x : Str} {v : Value}, (binds.map Prod.fst).Nodup → k x = some .local → binds.lookup x = some v → bindL k binds m x = some v
  | (y, u) :: r, m, x, v, hn, hk, h => by
    unfold bindL
    simp only [List.map_cons, List.nodup_cons] at hn
    rw [List.lookup_cons] at h
    split at h
    · rename_i q; cases h
      have := beq_iff_eq.mp q; subst this
      rw [if_pos hk]
      have key : ∀ (l : List (Str × Value)) (m : Str → Option Value), x ∉ l.map Prod.fst → bindL k l m x = m x := by
        intro l
        induction l with
        | nil => intro m _; rfl
        | cons y l ih =>
          intro m hm
          obtain ⟨y, u⟩ := y
          unfold bindL
          rw [ih _ (fun q => hm (List.mem_cons_of_mem _ q))]
          have : x ≠ y := by rintro rfl; exact hm (by simp)
          split <;> simp [this]
      rw [key r _ hn.1]; simp
    · exact bindL_lookup hn.2 hk h
theorem bindC_lookup {k : Str → Option NameKind} : ∀ {binds : List (Str × Value)} {m : Str → Option Value} {x : Str} {v : Value}, (binds.map Prod.fst).Nodup → k x ≠ some .local → binds.lookup x = some v → bindC k binds m x = some v
  | (y, u) :: r, m, x, v, hn, hk, h => by
    unfold bindC
    simp only [List.map_cons, List.nodup_cons] at hn
    rw [List.lookup_cons] at h
    split at h
    · rename_i q; cases h
      have := beq_iff_eq.mp q; subst this
      rw [if_neg hk]
      have key : ∀ (l : List (Str × Value)) (m : Str → Option Value), x ∉ l.map Prod.fst → bindC k l m x = m x := by
        intro l
        induction l with
        | nil => intro m _; rfl
        | cons y l ih =>
          intro m hm
          obtain ⟨y, u⟩ := y
          unfold bindC
          rw [ih _ (fun q => hm (List.mem_cons_of_mem _ q))]
          have : x ≠ y := by rintro rfl; exact hm (by simp)
          split <;> simp [this]
      rw [key r _ hn.1]; simp
    · exact bindC_lookup hn.2 hk h

theorem cellsFrom_nodup : ∀ {names : List (Str × NameKind)} (n : Nat), (names.map Prod.fst).Nodup → ((cellsFrom n names []).map Prod.fst).Nodup
  | [], _, _ => .nil
  | (x, k) :: r, n, h => by
    unfold cellsFrom
    simp only [List.map_cons, List.nodup_cons] at h
    split
    · rw [cellsFrom_append]
      rw [List.map_append, List.nodup_append]
      refine ⟨cellsFrom_nodup _ h.2, by simp, fun a ha b hb => ?_⟩
      simp only [List.map_cons, List.map_nil, List.mem_singleton] at hb
      subst hb
      rintro rfl
      obtain ⟨p, hp, rfl⟩ := List.mem_map.mp ha
      rcases cellsFrom_names r _ _ p hp with q | q
      · cases q
      · exact h.1 (List.mem_map.mpr ⟨_, q, rfl⟩)
    · exact cellsFrom_nodup _ h.2

section
variable {prog : Program} {w : World} {A : Around} {E : Value → Shared → Prop} {n : Nat} {R : Result → Shared → Prop}
variable {Hs : Heap} {se s : Shared} {mods : Addr → Prop} {env : Env} {O : Addr → Option Obj} {σ σ' : Vars} {D D' : Know} {mg mb : Str → Option Value}
variable {ns : List (Str × NameKind)} {cs : List (Str × Addr)} {a b : Int} {t u : Tok}

/-- what a call of a plain def of the text needs of its record: a test by computation -/
noncomputable def fnOk (fd : FuncData) (binds : List (Str × Value)) : Bool :=
  (binds.all fun p => fd.scope.names.lookup p.1 == some .local || fd.scope.names.lookup p.1 == some .cell) &&
  !fd.scope.isCoroutine && !fd.scope.isGenerator && fd.scope.kind == .function && fd.closure.isEmpty

theorem cellsFrom_some : ∀ (names : List (Str × NameKind)) (n : Nat) {x : Str}, names.lookup x = some .cell → (cellsFrom n names []).lookup x ≠ none
  | (y, k) :: r, n, x, h => by
    unfold cellsFrom
    rw [List.lookup_cons] at h
    split at h
    · rename_i q; cases h
      have := beq_iff_eq.mp q; subst this
      simp only [beq_self_eq_true, if_true]
      rw [cellsFrom_append, List.lookup_append]
      cases (cellsFrom (n + 1) r []).lookup x <;> simp
    · split
      · rw [cellsFrom_append, List.lookup_append]
        have := cellsFrom_some r (n + 1) h
        cases q : (cellsFrom (n + 1) r []).lookup x with
        | none => exact absurd q this
        | some c => simp
      · exact cellsFrom_some r n h

/-- a def of the text is called -/
theorem enter {k : Nat} {f : Addr} {o : Obj} {fd : FuncData} {body : List Stmt} {vals : List Value} {Q : Value → Shared → Prop} (nms : List Str) (B : Base Hs mg mb) (ht : prog.given.tree = none) (Rr : Rm A (k + 1)) (S : Ok Hs se mods env O σ D s)
    (hf : Hs.get? f = some o) (hd : o.data = .func fd) (hcd : Hs.CodeRec fd.code fd.qualname) (hbody : fd.body = .stmts body) (hbind : bindArgs fd ⟨vals, []⟩ = pure (nms.zip vals)) (hok : fnOk fd (nms.zip vals) = true) (hnms : nms.Nodup)
    (hg : fd.globals = mainGlobals) (hb : fd.builtins = builtinsNs) (mods' : Addr → Prop) (hmods : ∀ b, mods' b → ∃ c, D b = some c) (hcan : ∀ b, mods' b → Can se mods b)
    (h : ∀ env' s', EnvIs env' fd.scope.names (cellsFrom (env'.locals + 1) fd.scope.names []) → env'.scope.names = fd.scope.names → Ok Hs s mods' env' (fun _ => none) (nms.zip vals) D s' → Rm (A.deeper env') k → Div prog w Hs (A.deeper env') →
      wpAny (model prog w) (A.deeper env') (execs body env') (fun fl s'' => ∃ σ'' D'', Ok Hs s mods' env' (fun _ => none) σ'' D'' s'' ∧ ∀ s3, Ok Hs se mods env O σ D'' s3 → Q (match fl with | .ret v => v | _ => .none) s3) NoE s') :
    wpAny (model prog w) A (call (.ref f) vals) Q E s := by
  generalize hbb : nms.zip vals = binds at hbind hok h
  have hnb : (binds.map Prod.fst).Nodup := by
    have key : ∀ (l : List Str) (vs : List Value), l.Nodup → ((l.zip vs).map Prod.fst).Nodup := by
      intro l
      induction l with
      | nil => intro vs _; simp
      | cons x r ih =>
        intro vs hn
        cases vs with
        | nil => simp
        | cons v vs =>
          simp only [List.zip_cons_cons, List.map_cons, List.nodup_cons] at hn ⊢
          refine ⟨fun hm => hn.1 ?_, ih vs hn.2⟩
          obtain ⟨p, hp, rfl⟩ := List.mem_map.mp hm
          exact (List.of_mem_zip hp).1
    rw [← hbb]; exact key _ _ hnms
  unfold fnOk at hok
  simp only [Bool.and_eq_true, Bool.not_eq_true', beq_iff_eq] at hok
  obtain ⟨⟨⟨⟨k1, k2⟩, k3⟩, k4⟩, k5⟩ := hok
  have k5' : fd.closure = [] := by simpa using k5
  have kk : ∀ x ∈ binds, fd.scope.names.lookup x.1 = some .local ∨ fd.scope.names.lookup x.1 = some .cell := fun x hx => by
    have := List.all_eq_true.mp k1 x hx
    simpa using this
  refine wpAny_call (codeAny_call_cells (by have := Rr.dep; show A.depth < 1000; omega) (S.stat _ _ hf) hd (B.lim.keeps S.stat) (by
    obtain ⟨c, oc, vs, tq, h1, h2, h3, h4⟩ := hcd; exact ⟨c, oc, vs, tq, h1, S.stat _ _ h2, h3, h4⟩) hbody hbind k5' (fun x hx => (kk x hx).imp id fun q => ⟨q, ?_⟩) (fun s₁ X => ?_) k2 k3 k4)
  · have := cellsFrom_some fd.scope.names (s.heap.objs.size + 1) q
    cases z : (cellsFrom (s.heap.objs.size + 1) fd.scope.names []).lookup x.1 with
    | none => exact absurd z this
    | some c => rfl
  · generalize hL : s.heap.objs.size = L at X
    have hloc : (callEnvC fd L f).locals = L := rfl
    have hkind : ∀ x, (callEnvC fd L f).kindOf x = fd.scope.names.lookup x := fun _ => rfl
    obtain ⟨h₁, tk, he⟩ := X.toInCall.same
    have I' : EnvIs (callEnvC fd L f) fd.scope.names (cellsFrom ((callEnvC fd L f).locals + 1) fd.scope.names []) := ⟨k4, fun x k hx _ => hx, fun x hx => .inl hx, rfl, hg, hb⟩
    have S' : Ok Hs s mods' (callEnvC fd L f) (fun _ => none) binds D s₁ := by
      refine ⟨S.stat, fun b m => ?_, fun b o e _ => X.toInCall.keep b o e, fun b o e => (nomatch e), fun b c e => (S.know b c e).at fun o => X.toInCall.keep b o, ⟨⟨_, X.toInCall.ns, fun x v hx hv => bindL_lookup hnb hx hv⟩, fun x c hc => ⟨_, X.cell x c hc, fun v hx hv => ?_⟩, fun x y c hx hy => ?_⟩, ?_, ?_, ?_, ?_⟩
      · rcases hcan b m with q | q
        · exact S.modsNew b q
        · cases e : Hs.get? b with
          | none => rfl
          | some o => have := S.statE b o e; rw [q] at this; cases this
      · refine bindC_lookup hnb (fun z => ?_) hv
        rcases hx with hx | hx <;> rw [z] at hx <;> cases hx
      · exact name_of_addr X.apart (mem_of_lookup hx) (mem_of_lookup hy)
      · rw [hloc, hL]; exact Nat.le_refl _
      · rw [he]
      · rw [he]
      · rw [he]
    refine wpAny_mono (h (callEnvC fd L f) s₁ I' rfl S' (Rr.deeper _) (div_deeper B Rr ht k3 k2 hb hg)) (fun fl s2 h2 => ?_) fun _ _ x => x.elim
    obtain ⟨σ'', D'', S2, hq⟩ := h2
    have := hq s2 (S.back S2 hmods hcan)
    cases fl <;> exact this
end

end Mine

namespace Mine

section
variable {prog : Program} {w : World} {A : Around} {E : Value → Shared → Prop} {n : Nat} {R : Result → Shared → Prop}
variable {Hs : Heap} {se s : Shared} {mods : Addr → Prop} {env : Env} {O : Addr → Option Obj} {σ σ' : Vars} {D D' : Know} {mg mb : Str → Option Value}
variable {ns : List (Str × NameKind)} {cs : List (Str × Addr)} {a b : Int} {t u : Tok}

theorem upd_diff {l l' : Addr} {c c' x : Cell} (h : D l' = some x) (h' : D l = some c) (hne : x ≠ c) : upd D l c' l' = some x := by
  rw [upd_ne]; exact h
  rintro rfl; rw [h] at h'; exact hne (by injection h')
theorem q_ge {Q : Value → Shared → Prop} (h : Q (.bool (decide (b ≤ a))) s) : wpAny (model prog w) A (compareOp .GtE (.int a t) (.int b u)) Q E s := ge_int h

theorem vars_nil : ∀ (x : Str) (v : Value), ([] : Vars).lookup x = some v → σ.lookup x = some v := fun _ _ h => nomatch h
theorem vars_cons {x : Str} {v : Value} (h : σ.lookup x = some v) (h' : ∀ y u, σ'.lookup y = some u → σ.lookup y = some u) : ∀ y u, ((x, v) :: σ').lookup y = some u → σ.lookup y = some u := fun y u e => by
  rw [List.lookup_cons] at e
  split at e
  · rename_i q; cases e; rw [beq_iff_eq.mp q]; exact h
  · exact h' y u e
theorem Sub.updOf {l : Addr} {c : Cell} (h : Sub D D') (h' : D' l = some c) : Sub (Mine.upd D l c) D' := fun b c' e => by
  by_cases q : b = l
  · rw [q, upd_same] at e; cases e; rw [q]; exact h'
  · rw [upd_ne q] at e; exact h b c' e
theorem Sub.none {l : Addr} (h : Sub D D') (h' : D' l = Option.none) : D l = Option.none := by
  cases e : D l with
  | none => rfl
  | some c => rw [h l c e] at h'; cases h'

theorem noneSub {l : Addr} (h' : D' l = Option.none) (h : Sub D D') : D l = Option.none := h.none h'

/-- an environment of known names, the rest forgotten -/
noncomputable def env0 (ns : List (Str × NameKind)) : Env := { scope := { kind := .function, names := ns, isGenerator := false, isCoroutine := false, more := [] }, locals := 0, globals := 0, cells := [] }
theorem kind0 (hN : env.scope.names = ns) : env.kindOf = (env0 ns).kindOf := by funext x; simp [Env.kindOf, hN, env0]
theorem block0 (I : EnvIs env ns cs) : env.blockKind = (env0 ns).blockKind := by simp [Env.blockKind, I.kind, env0, ScopeKind.isAnnotationScope]
theorem sw_eq (I : EnvIs env ns cs) (hN : env.scope.names = ns) (targets : List Expr) (value : Expr) : swappedStores targets value env = swappedStores targets value (env0 ns) := by
  unfold swappedStores
  rw [kind0 hN, block0 I]
theorem swaps_eq (I : EnvIs env ns cs) (hN : env.scope.names = ns) (value : Expr) (x : Str) (p : Pos) (k : Nat) : swapsWith value (some (.Name x p)) k env = swapsWith value (some (.Name x p)) k (env0 ns) := by
  unfold swapsWith
  simp only
  rw [kind0 hN, block0 I]

inductive Sw2 (prog : Program) (w : World) (A : Around) (E : Value → Shared → Prop) (Hs : Heap) (se : Shared) (mods : Addr → Prop) (env : Env) (O : Addr → Option Obj) (x y : Str) (Q : Flow → Shared → Prop) : Value → Shared → Prop
  | mk {l : Addr} {w1 w2 : Value} {σ : Vars} {D : Know} {s : Shared} (S : Ok Hs se mods env O σ D s) (hl : D l = some (.tup [w1, w2]))
    (h : ∀ s2, Ok Hs se mods env O σ D s2 → wpAny (model prog w) A (storeName env y w2) (fun _ s3 => wpAny (model prog w) A (storeName env x w1) (fun _ => Q .next) E s3) E s2) : Sw2 prog w A E Hs se mods env O x y Q (.ref l) s
inductive Sw3 (prog : Program) (w : World) (A : Around) (E : Value → Shared → Prop) (Hs : Heap) (se : Shared) (mods : Addr → Prop) (env : Env) (O : Addr → Option Obj) (x y z : Str) (Q : Flow → Shared → Prop) : Value → Shared → Prop
  | mk {l : Addr} {w1 w2 w3 : Value} {σ : Vars} {D : Know} {s : Shared} (S : Ok Hs se mods env O σ D s) (hl : D l = some (.tup [w1, w2, w3]))
    (h : ∀ s2, Ok Hs se mods env O σ D s2 → wpAny (model prog w) A (storeName env z w3) (fun _ s3 => wpAny (model prog w) A (storeName env y w2) (fun _ s4 => wpAny (model prog w) A (storeName env x w1) (fun _ => Q .next) E s4) E s3) E s2) : Sw3 prog w A E Hs se mods env O x y z Q (.ref l) s
/-- x, y = e1, e2 with both names of the frame's locals -/
theorem x_swap2 {x y : Str} {px py tp : Pos} {k : Nat} {value : Expr} {pos : Pos} {Q : Flow → Shared → Prop} {σ₀ : Vars} {D₀ : Know} (_S : Ok Hs se mods env O σ₀ D₀ s) (hh : A.handled = none) (I : EnvIs env ns cs) (hN : env.scope.names = ns)
    (h : wpAny (model prog w) A (eval value env) (Sw2 prog w A E Hs se mods env O x y Q) E s)
    (hs : swapsWithSole [.Tuple [.Name x px, .Name y py] k tp] value pos.line env = pure false) (hw : swappedStores [.Tuple [.Name x px, .Name y py] k tp] value (env0 ns) = pure (some [x, y])) :
    wpAny (model prog w) A (exec (.Assign [.Tuple [.Name x px, .Name y py] k tp] value pos) env) Q E s := by
  refine Assign_Tuple_swapped (names := [x, y]) (wpAny_mono h (fun v s1 h1 => ?_) fun _ _ x => x) hs ((sw_eq I hN _ _).trans hw)
  obtain @⟨l, w1, w2, σ, D, _, S, hl, h2⟩ := h1
  refine u_tup S hh hl rfl fun s2 S2 => ?_
  show wpAny _ _ (assignInOrder [fun v => bindName env y v, fun v => bindName env x v] [w2, w1]) _ _ _
  exact in_cons (bn (wpAny_mono (h2 s2 S2) (fun _ s3 h3 => in_cons (bn (wpAny_mono h3 (fun _ _ h4 => in_nil h4) fun _ _ x => x))) fun _ _ x => x))
theorem x_swap3 {x y z : Str} {px py pz tp : Pos} {k : Nat} {value : Expr} {pos : Pos} {Q : Flow → Shared → Prop} {σ₀ : Vars} {D₀ : Know} (_S : Ok Hs se mods env O σ₀ D₀ s) (hh : A.handled = none) (I : EnvIs env ns cs) (hN : env.scope.names = ns)
    (h : wpAny (model prog w) A (eval value env) (Sw3 prog w A E Hs se mods env O x y z Q) E s)
    (hs : swapsWithSole [.Tuple [.Name x px, .Name y py, .Name z pz] k tp] value pos.line env = pure false) (hw : swappedStores [.Tuple [.Name x px, .Name y py, .Name z pz] k tp] value (env0 ns) = pure (some [x, y, z])) :
    wpAny (model prog w) A (exec (.Assign [.Tuple [.Name x px, .Name y py, .Name z pz] k tp] value pos) env) Q E s := by
  refine Assign_Tuple_swapped (names := [x, y, z]) (wpAny_mono h (fun v s1 h1 => ?_) fun _ _ x => x) hs ((sw_eq I hN _ _).trans hw)
  obtain @⟨l, w1, w2, w3, σ, D, _, S, hl, h2⟩ := h1
  refine u_tup S hh hl rfl fun s2 S2 => ?_
  show wpAny _ _ (assignInOrder [fun v => bindName env z v, fun v => bindName env y v, fun v => bindName env x v] [w3, w2, w1]) _ _ _
  exact in_cons (bn (wpAny_mono (h2 s2 S2) (fun _ s3 h3 => in_cons (bn (wpAny_mono h3 (fun _ _ h4 => in_cons (bn (wpAny_mono h4 (fun _ _ h5 => in_nil h5) fun _ _ x => x))) fun _ _ x => x))) fun _ _ x => x))
/-- the same stores in order: other targets, or a value that is no tuple display -/
theorem x_tup {elts : List Expr} {k : Nat} {tp : Pos} {value : Expr} {pos : Pos} {Q : Flow → Shared → Prop} (I : EnvIs env ns cs) (hN : env.scope.names = ns)
    (h : wpAny (model prog w) A (eval value env) (fun v s₁ => wpAny (model prog w) A (assign (.Tuple elts k tp) env v) (fun _ => Q .next) E s₁) E s)
    (hs : swapsWithSole [.Tuple elts k tp] value pos.line env = pure false) (hw : swappedStores [.Tuple elts k tp] value (env0 ns) = pure none) :
    wpAny (model prog w) A (exec (.Assign [.Tuple elts k tp] value pos) env) Q E s := Assign_Tuple h hs ((sw_eq I hN _ _).trans hw)
theorem as_tup2 {t1 t2 : Expr} {k : Nat} {pos : Pos} {l : Addr} {v1 v2 : Value} {Q : Unit → Shared → Prop} (S : Ok Hs se mods env O σ D s) (hh : A.handled = none) (hl : D l = some (.tup [v1, v2]))
    (he : assignEach [t1, t2] env = [(false, assign t1 env), (false, assign t2 env)])
    (h : ∀ s', Ok Hs se mods env O σ D s' → wpAny (model prog w) A (assign t1 env v1) (fun _ s1 => wpAny (model prog w) A (assign t2 env v2) Q E s1) E s') :
    wpAny (model prog w) A (assign (.Tuple [t1, t2] k pos) env (.ref l)) Q E s :=
  as_tup S hh hl (by rw [he]; rfl) (by rw [he]; rfl) fun s' S' => by
    rw [he]
    show wpAny _ _ (assignInOrder [assign t1 env, assign t2 env] _) _ _ _
    exact in_cons (wpAny_mono (h s' S') (fun _ s1 h1 => in_cons (wpAny_mono h1 (fun _ _ h2 => in_nil h2) fun _ _ x => x)) fun _ _ x => x)
theorem as_tup3 {t1 t2 t3 : Expr} {k : Nat} {pos : Pos} {l : Addr} {v1 v2 v3 : Value} {Q : Unit → Shared → Prop} (S : Ok Hs se mods env O σ D s) (hh : A.handled = none) (hl : D l = some (.tup [v1, v2, v3]))
    (he : assignEach [t1, t2, t3] env = [(false, assign t1 env), (false, assign t2 env), (false, assign t3 env)])
    (h : ∀ s', Ok Hs se mods env O σ D s' → wpAny (model prog w) A (assign t1 env v1) (fun _ s1 => wpAny (model prog w) A (assign t2 env v2) (fun _ s2 => wpAny (model prog w) A (assign t3 env v3) Q E s2) E s1) E s') :
    wpAny (model prog w) A (assign (.Tuple [t1, t2, t3] k pos) env (.ref l)) Q E s :=
  as_tup S hh hl (by rw [he]; rfl) (by rw [he]; rfl) fun s' S' => by
    rw [he]
    show wpAny _ _ (assignInOrder [assign t1 env, assign t2 env, assign t3 env] _) _ _ _
    exact in_cons (wpAny_mono (h s' S') (fun _ s1 h1 => in_cons (wpAny_mono h1 (fun _ _ h2 => in_cons (wpAny_mono h2 (fun _ _ h3 => in_nil h3) fun _ _ x => x)) fun _ _ x => x)) fun _ _ x => x)

/-- calls of the text's defs -/
theorem cw_fn {pos : Pos} {f : Addr} {o : Obj} {fd : FuncData} {e : Expr} {rest : List Expr} {Q : Value → Shared → Prop} (hf : Hs.get? f = some o) (hd : o.data = .func fd)
    (h : wpAny (model prog w) A (spliced (backTo pos (starEach (e :: rest) env))) (fun vs s₁ => (∀ b o, Hs.get? b = some o → s₁.heap.get? b = some o) ∧ wpAny (model prog w) A (call (.ref f) vs) Q E s₁) E s)
    (he : starEach (e :: rest) env = (false, eval e env) :: starEach rest env) : wpAny (model prog w) A (callWith pos (.ref f) [] (backTo pos (starEach (e :: rest) env)) []) Q E s :=
  callWith_def hd (wpAny_mono h (fun _ _ h1 => ⟨h1.1 _ _ hf, h1.2⟩) fun _ _ x => x) he
end

end Mine

namespace Mine

theorem b_range : bootBuiltins "range" = some (.type "range") := by decide +kernel
theorem b_len : bootBuiltins "len" = some (.builtin "len") := by decide +kernel
theorem b_list : bootBuiltins "list" = some (.type "list") := by decide +kernel
theorem b_enum : bootBuiltins "enumerate" = some (.type "enumerate") := by decide +kernel
theorem b_abs : bootBuiltins "abs" = some (.builtin "abs") := by decide +kernel
theorem b_min : bootBuiltins "min" = some (.builtin "min") := by decide +kernel
theorem b_sum : bootBuiltins "sum" = some (.builtin "sum") := by decide +kernel

noncomputable abbrev Pg : Program := PySem.Challenge.pw_nn0254_01
theorem pg_tree : Pg.given.tree = none := rfl
/-- the address that a global name stands for -/
noncomputable def fad (mg : Str → Option Value) (x : Str) : Addr := match mg x with
  | some (.ref a) => a
  | _ => 0
noncomputable def fnNames : List Str := (recsOf Pg).map (·.name)
noncomputable def biNames : List Str := ["range", "len", "list", "enumerate", "abs", "min", "sum"]

/-- what the run of the top left, as far as it is wanted -/
structure Wd (w : World) (Hs : Heap) (mg mb : Str → Option Value) : Prop where
  B : Base Hs mg mb
  fn : ∀ d ∈ recsOf Pg, ∃ a o pm code doc, mg d.name = some (.ref a) ∧ Hs.get? a = some o ∧ o.data = .func (Calls.docDef d.name d.params d.body d.scope pm code doc) ∧ Hs.CodeRec code d.name
  nb : ∀ x ∈ biNames, mg x = none
  bb : ∀ x : Str, x ≠ "__name__" → mb x = bootBuiltins x

section
variable {w : World} {A : Around} {E : Value → Shared → Prop} {Hs : Heap} {se s : Shared} {mods : Addr → Prop} {env : Env} {O : Addr → Option Obj} {σ : Vars} {D : Know} {mg mb : Str → Option Value} {x : Str} {d : DefRec}
theorem Wd.func (T : Wd w Hs mg mb) (e : (recsOf Pg).find? (fun e => e.name == x) = some d) :
    ∃ o pm code doc, Hs.get? (fad mg x) = some o ∧ o.data = .func (Calls.docDef x d.params d.body d.scope pm code doc) ∧ Hs.CodeRec code x := by
  have q : d.name = x := beq_iff_eq.mp (List.find?_some (p := fun e : DefRec => e.name == x) e)
  obtain ⟨a, o, pm, code, doc, h1, h2⟩ := T.fn d (List.mem_of_find?_eq_some e)
  subst q
  have : fad mg d.name = a := by unfold fad; rw [h1]
  exact ⟨o, pm, code, doc, this ▸ h2⟩
theorem Wd.glob (T : Wd w Hs mg mb) (e : fnNames.contains x = true) : mg x = some (.ref (fad mg x)) := by
  obtain ⟨d, hd, rfl⟩ := List.mem_map.mp (List.contains_iff_mem.mp e)
  obtain ⟨a, o, pm, code, doc, h1, h2⟩ := T.fn d hd
  unfold fad; rw [h1]
theorem Wd.nob (T : Wd w Hs mg mb) (e : biNames.contains x = true) : mg x = none := T.nb x (List.contains_iff_mem.mp e)
theorem cwW {pos : Pos} {e : Expr} {rest : List Expr} {Q : Value → Shared → Prop} (T : Wd w Hs mg mb) (hx : fnNames.contains x = true)
    (h : wpAny (model Pg w) A (spliced (backTo pos (starEach (e :: rest) env))) (fun vs s₁ => (∀ b o, Hs.get? b = some o → s₁.heap.get? b = some o) ∧ wpAny (model Pg w) A (call (.ref (fad mg x)) vs) Q E s₁) E s)
    (he : starEach (e :: rest) env = (false, eval e env) :: starEach rest env) : wpAny (model Pg w) A (callWith pos (.ref (fad mg x)) [] (backTo pos (starEach (e :: rest) env)) []) Q E s := by
  obtain ⟨d, hd, rfl⟩ := List.mem_map.mp (List.contains_iff_mem.mp hx)
  obtain ⟨a, o, pm, code, doc, h1, h2, h3, _⟩ := T.fn d hd
  have : fad mg d.name = a := by unfold fad; rw [h1]
  rw [this] at h ⊢
  exact cw_fn h2 h3 h he
/-- a call of a function of the program -/
theorem enterW {k : Nat} {vals : List Value} {Q : Value → Shared → Prop} (x : Str) (nms : List Str) (T : Wd w Hs mg mb) (Rr : Rm A (k + 1)) (S : Ok Hs se mods env O σ D s)
    (e : (recsOf Pg).find? (fun e => e.name == x) = some d) (hbind : ∀ pm code doc, bindArgs (Calls.docDef x d.params d.body d.scope pm code doc) ⟨vals, []⟩ = pure (nms.zip vals)) (hok : ∀ pm code doc, fnOk (Calls.docDef x d.params d.body d.scope pm code doc) (nms.zip vals) = true) (hnms : nms.Nodup)
    (mods' : Addr → Prop) (hmods : ∀ b, mods' b → ∃ c, D b = some c) (hcan : ∀ b, mods' b → Can se mods b)
    (h : ∀ env' s', EnvIs env' d.scope.names (cellsFrom (env'.locals + 1) d.scope.names []) → env'.scope.names = d.scope.names → Ok Hs s mods' env' (fun _ => none) (nms.zip vals) D s' → Rm (A.deeper env') k → Div Pg w Hs (A.deeper env') →
      wpAny (model Pg w) (A.deeper env') (execs d.body env') (fun fl s'' => ∃ σ'' D'', Ok Hs s mods' env' (fun _ => none) σ'' D'' s'' ∧ ∀ s3, Ok Hs se mods env O σ D'' s3 → Q (match fl with | .ret v => v | _ => .none) s3) NoE s') :
    wpAny (model Pg w) A (call (.ref (fad mg x)) vals) Q E s := by
  obtain ⟨o, pm, code, doc, h1, h2, h3⟩ := T.func e
  exact enter nms T.B pg_tree Rr S h1 h2 h3 rfl (hbind _ _ _) (hok _ _ _) hnms rfl rfl mods' hmods hcan h
end
end Mine

namespace Mine

section
variable {prog : Program} {w : World} {A : Around} {E : Value → Shared → Prop} {R : Result → Shared → Prop}
variable {Hs : Heap} {se s : Shared} {mods : Addr → Prop} {env : Env} {O : Addr → Option Obj} {σ σ' : Vars} {D D' : Know} {mg mb : Str → Option Value}
variable {ns : List (Str × NameKind)} {cs : List (Str × Addr)} {a b : Int} {t u : Tok}

/-- items of a known list of ints -/
theorem IntsAre.at {vs : List Value} {xs : List Int} (h : IntsAre vs xs) {i : Nat} {v : Value} (hv : vs[i]? = some v) : ∃ t, v = .int (xs.getD i 0) t := by
  have hi : i < xs.length := by rw [← IntsAre.len h]; exact (List.getElem?_eq_some_iff.mp hv).1
  have hx : xs[i]? = some (xs.getD i 0) := by rw [List.getD_eq_getElem?_getD, List.getElem?_eq_getElem hi]; rfl
  obtain ⟨t, ht⟩ := IntsAre.get h hx
  rw [ht] at hv; cases hv; exact ⟨t, rfl⟩
noncomputable abbrev valZ (xs : List Int) : Nat → Value → Prop := fun i v => ∃ t, v = .int (xs.getD i 0) t
noncomputable abbrev valV (vs : List Value) : Nat → Value → Prop := fun i v => vs[i]? = some v
theorem draws_zs (hh : A.handled = none) (it l : Addr) (xs : List Int) :
    Draws prog w A it xs.length (valZ xs) (fun i o => o.cls = .type "list_iterator" ∧ o.data = .fields #[.ref l, .int i 0]) (fun s => Mine.Holds s.heap l (.zs xs)) where
  item := fun i s o Q E hi ho hp hn h => by
    obtain ⟨vs, hl, hz⟩ := hn
    have hlen : vs.size = xs.length := by rw [← Array.length_toList]; exact IntsAre.len hz
    exact (draws_list hh it l vs).item i s o Q E (by lia) ho hp hl fun h' t v o' hv => h h' t v o' (IntsAre.at hz (i := i) (by simpa using hv))
  done := fun s o Q E ho hp hn h => by
    obtain ⟨vs, hl, hz⟩ := hn
    have hlen : vs.size = xs.length := by rw [← Array.length_toList]; exact IntsAre.len hz
    exact (draws_list hh it l vs).done s o Q E ho (by rw [hlen]; exact hp) hl h
  fld := fun i o hp => ⟨_, hp.2⟩
  self := fun i s o Q E ho hp h => wpAny_pyIter_listiter ⟨o, ho, hp⟩ h
theorem draws_vals (hh : A.handled = none) (it l : Addr) (vs : List Value) :
    Draws prog w A it vs.length (valV vs) (fun i o => o.cls = .type "list_iterator" ∧ o.data = .fields #[.ref l, .int i 0]) (fun s => Mine.Holds s.heap l (.vals vs)) where
  item := fun i s o Q E hi ho hp hn h => (draws_list hh it l vs.toArray).item i s o Q E (by simpa using hi) ho hp hn fun h' t v o' hv => h h' t v o' (by simpa using hv)
  done := fun s o Q E ho hp hn h => (draws_list hh it l vs.toArray).done s o Q E ho (by simpa using hp) hn h
  fld := fun i o hp => ⟨_, hp.2⟩
  self := fun i s o Q E ho hp h => wpAny_pyIter_listiter ⟨o, ho, hp⟩ h
theorem draws_tupl (hh : A.handled = none) (it l : Addr) (vs : List Value) :
    Draws prog w A it vs.length (valV vs) (fun i o => o.cls = .type "tuple_iterator" ∧ o.data = .fields #[.ref l, .int i 0]) (fun s => Mine.Holds s.heap l (.tup vs)) where
  item := fun i s o Q E hi ho hp hn h => (draws_tup hh it l vs.toArray).item i s o Q E (by simpa using hi) ho hp hn fun h' t v o' hv => h h' t v o' (by simpa using hv)
  done := fun s o Q E ho hp hn h => (draws_tup hh it l vs.toArray).done s o Q E ho (by simpa using hp) hn h
  fld := fun i o hp => ⟨_, hp.2⟩
  self := fun i s o Q E ho hp h => (draws_tup hh it l vs.toArray).self i s o Q E ho hp h

/-- a stream stands ready -/
structure Ready (prog : Program) (w : World) (A : Around) (se : Shared) (O : Addr → Option Obj) (it : Addr) (n : Nat) (val : Nat → Value → Prop) (need : Shared → Prop) (s : Shared) : Prop where
  draws : ∃ Pos o₀, Draws prog w A it n val Pos need ∧ s.heap.get? it = some o₀ ∧ Pos 0 o₀
  hO : O it = none
  hE : se.heap.get? it = none
noncomputable abbrev valR (a : Int) : Nat → Value → Prop := fun i v => ∃ t, v = .int (a + i) t

theorem r_range {r : Addr} {n : Nat} {Q : Value → Shared → Prop} (S : Ok Hs se mods env O σ D s) (hh : A.handled = none) (hr : ∃ t u v, IsRange s.heap r a b 1 t u v) (ha : -1000000 ≤ a) (ha' : a ≤ 1000000) (hb : -1000000 ≤ b) (hb' : b ≤ 1000000) (hn : (b - a).toNat = n)
    (h : ∀ it s', Ok Hs se mods env O σ D s' → Ready prog w A se O it n (valR a) (fun _ => True) s' → Q (.ref it) s') : wpAny (model prog w) A (pyIter (.ref r)) Q E s := by
  subst hn
  refine i_range S hr ha ha' hb hb' fun it s' S' hO hE hit => h it s' S' ⟨⟨_, _, draws_range hh it a _, hit, ?_⟩, hO, hE⟩
  simp
theorem r_zs {l : Addr} {xs : List Int} {Q : Value → Shared → Prop} (S : Ok Hs se mods env O σ D s) (hh : A.handled = none) (hl : D l = some (.zs xs))
    (h : ∀ it s', Ok Hs se mods env O σ D s' → Ready prog w A se O it xs.length (valZ xs) (fun s => Mine.Holds s.heap l (.zs xs)) s' → Q (.ref it) s') : wpAny (model prog w) A (pyIter (.ref l)) Q E s := by
  obtain ⟨vs, hl', hz⟩ := S.know l _ hl
  exact i_list S hl' fun it s' S' hO hE ⟨o, ho, hp⟩ => h it s' S' ⟨⟨_, o, draws_zs hh it l xs, ho, hp⟩, hO, hE⟩
theorem r_vals {l : Addr} {vs : List Value} {Q : Value → Shared → Prop} (S : Ok Hs se mods env O σ D s) (hh : A.handled = none) (hl : D l = some (.vals vs))
    (h : ∀ it s', Ok Hs se mods env O σ D s' → Ready prog w A se O it vs.length (valV vs) (fun s => Mine.Holds s.heap l (.vals vs)) s' → Q (.ref it) s') : wpAny (model prog w) A (pyIter (.ref l)) Q E s :=
  i_list S (S.know l _ hl) fun it s' S' hO hE ⟨o, ho, hp⟩ => h it s' S' ⟨⟨_, o, draws_vals hh it l vs, ho, hp⟩, hO, hE⟩
theorem r_tup {l : Addr} {vs : List Value} {Q : Value → Shared → Prop} (S : Ok Hs se mods env O σ D s) (hh : A.handled = none) (hl : D l = some (.tup vs))
    (h : ∀ it s', Ok Hs se mods env O σ D s' → Ready prog w A se O it vs.length (valV vs) (fun s => Mine.Holds s.heap l (.tup vs)) s' → Q (.ref it) s') : wpAny (model prog w) A (pyIter (.ref l)) Q E s :=
  i_tup S (S.know l _ hl) fun it s' S' hO hE ⟨o, ho, hp⟩ => h it s' S' ⟨⟨_, o, draws_tupl hh it l vs, ho, hp⟩, hO, hE⟩

/-- enumerate stands ready -/
structure ReadyE (se : Shared) (O : Addr → Option Obj) (e l : Addr) (s : Shared) : Prop where
  it : ∃ it, O e = none ∧ O it = none ∧ se.heap.get? e = none ∧ se.heap.get? it = none ∧ e ≠ it ∧ IsEnum s.heap e it 0 .none ∧ s.heap.IsListIter it l 0
theorem r_enum_zs {l : Addr} {xs : List Int} {Q : Value → Shared → Prop} (S : Ok Hs se mods env O σ D s) (hl : D l = some (.zs xs))
    (h : ∀ e s', Ok Hs se mods env O σ D s' → ReadyE se O e l s' → Q (.ref e) s') : wpAny (model prog w) A (call (.type "enumerate") [.ref l]) Q E s := by
  obtain ⟨vs, hl', hz⟩ := S.know l _ hl
  exact f_enum S hl' fun e it s' S' h1 h2 h3 h4 h5 h6 h7 _ => h e s' S' ⟨it, h1, h2, h3, h4, h5, h6, h7⟩
theorem r_enum_vals {l : Addr} {vs : List Value} {Q : Value → Shared → Prop} (S : Ok Hs se mods env O σ D s) (hl : D l = some (.vals vs))
    (h : ∀ e s', Ok Hs se mods env O σ D s' → ReadyE se O e l s' → Q (.ref e) s') : wpAny (model prog w) A (call (.type "enumerate") [.ref l]) Q E s :=
  f_enum S (S.know l _ hl) fun e it s' S' h1 h2 h3 h4 h5 h6 h7 _ => h e s' S' ⟨it, h1, h2, h3, h4, h5, h6, h7⟩
theorem ready_e_iter {e l : Addr} {Q : Value → Shared → Prop} (h : ReadyE se O e l s) (hq : Q (.ref e) s) : wpAny (model prog w) A (pyIter (.ref e)) Q E s := by
  obtain ⟨it, _, _, _, _, _, he, _⟩ := h
  exact i_enum he hq

theorem need_zs {l : Addr} {xs : List Int} (S : Ok Hs se mods env O σ D s) (hl : D l = some (.zs xs)) : ∃ items : Array Value, items.size = xs.length ∧ s.heap.IsList l items ∧ ∀ i v, items[i]? = some v → valZ xs i v := by
  obtain ⟨vs, h1, h2⟩ := S.know l _ hl
  exact ⟨vs, by rw [← Array.length_toList]; exact IntsAre.len h2, h1, fun i v hv => IntsAre.at h2 (i := i) (by simpa using hv)⟩
theorem need_vals {l : Addr} {vs : List Value} (S : Ok Hs se mods env O σ D s) (hl : D l = some (.vals vs)) : ∃ items : Array Value, items.size = vs.length ∧ s.heap.IsList l items ∧ ∀ i v, items[i]? = some v → valV vs i v :=
  ⟨vs.toArray, by simp, S.know l _ hl, fun i v hv => by simpa using hv⟩

/-- a binding in a comprehension's block -/
noncomputable def bndOk (ns : List (Str × NameKind)) (cl : List (Str × Addr)) (x : Str) : Bool :=
  ns.lookup x == some .local || (ns.lookup x == some .cell)
theorem cellsFrom_ge : ∀ (names : List (Str × NameKind)) (n : Nat) (acc : List (Str × Addr)) (x : Str) (c : Addr), (x, c) ∈ cellsFrom n names acc → (x, c) ∈ acc ∨ n ≤ c := by
  intro names
  induction names with
  | nil => intro n acc x c h; exact .inl h
  | cons p r ih =>
    intro n acc x c h
    obtain ⟨y, k⟩ := p
    cases k with
    | cell =>
      rcases ih (n + 1) _ x c h with q | q
      · rcases List.mem_cons.mp q with q | q
        · cases q; exact .inr (Nat.le_refl _)
        · exact .inl q
      · exact .inr (by lia)
    | «local» => exact ih n acc x c h
    | free => exact ih n acc x c h
    | globalImplicit => exact ih n acc x c h
    | globalExplicit => exact ih n acc x c h

theorem closOf_free : ∀ {names : List (Str × NameKind)} {acc cs cl : List (Str × Addr)}, closOf names acc cs = some cl → ∀ p ∈ cl, p ∈ acc ∨ (p.1, NameKind.free) ∈ names := by
  intro names
  induction names with
  | nil => intro acc cs cl h p hp; simp only [closOf, Option.some.injEq] at h; subst h; exact .inl hp
  | cons q r ih =>
    intro acc cs cl h p hp
    obtain ⟨y, k⟩ := q
    unfold closOf at h
    by_cases hk : (k == NameKind.free) = true
    · simp only [hk, if_true] at h
      have hk' : k = .free := by simpa using hk
      subst hk'
      cases hc : cs.lookup y with
      | none => rw [hc] at h; cases h
      | some a =>
        rw [hc] at h
        rcases ih h p hp with z | z
        · rcases List.mem_cons.mp z with z | z
          · rw [z]; exact .inr (by simp)
          · exact .inl z
        · exact .inr (List.mem_cons_of_mem _ z)
    · rw [if_neg hk] at h
      rcases ih h p hp with z | z
      · exact .inl z
      · exact .inr (List.mem_cons_of_mem _ z)

/-- the same for loops -/
theorem loop_over {R : Result → Shared → Prop} {x : Str} {px : Pos} {body : List Stmt} {it : Addr} {n : Nat} {val : Nat → Value → Prop} {need : Shared → Prop}
    (W : Ready prog w A se O it n val need s) (S : Ok Hs se mods env O σ D s) (bx : Bnd prog w A Hs se mods env x)
    (Inv : Nat → Vars → Know → Prop) (hI : Inv 0 σ D) (hneed : ∀ i σ' D' s', Inv i σ' D' → Ok Hs se mods env O σ' D' s' → need s')
    (step : ∀ i v O' σ' D' s', i < n → val i v → (∀ b o, O b = some o → O' b = some o) → Inv i σ' D' → Ok Hs se mods env O' ((x, v) :: σ') D' s' →
      wpAny (model prog w) A (execs body env) (fun fl s'' => match fl with
        | .next | .cont => ∃ σ'' D'', Inv (i + 1) σ'' D'' ∧ Ok Hs se mods env O' σ'' D'' s''
        | .brk => R (.ok .next) s''
        | .ret v => R (.ok (.ret v)) s'') NoE s')
    (done : ∀ σ' D' s', Inv n σ' D' → Ok Hs se mods env O σ' D' s' → R (.ok .next) s') :
    codeAny (model prog w) A (.forLoop (.Name x px) (.ref it) body [] env) R s := by
  obtain ⟨⟨Pos, o₀, W, h0, hp⟩, hO, hE⟩ := W
  exact loop_gen W S hO hE h0 hp bx Inv hI hneed step done
theorem loop_over_enum {R : Result → Shared → Prop} {xi xv : Str} {pi pv pt : Pos} {x1 : Nat} {body : List Stmt} {e l : Addr} {n : Nat} {val : Nat → Value → Prop}
    (W : ReadyE se O e l s) (hh : A.handled = none) (S : Ok Hs se mods env O σ D s) (bi : Bnd prog w A Hs se mods env xi) (bv : Bnd prog w A Hs se mods env xv)
    (Inv : Nat → Vars → Know → Prop) (hI : Inv 0 σ D) (hneed : ∀ i σ' D' s', Inv i σ' D' → Ok Hs se mods env O σ' D' s' → ∃ items : Array Value, items.size = n ∧ s'.heap.IsList l items ∧ ∀ i v, items[i]? = some v → val i v)
    (step : ∀ (i : Nat) v ti O' σ' D' s', i < n → val i v → (∀ b o, O b = some o → O' b = some o) → Inv i σ' D' → Ok Hs se mods env O' ((xv, v) :: (xi, .int i ti) :: σ') D' s' →
      wpAny (model prog w) A (execs body env) (fun fl s'' => match fl with
        | .next | .cont => ∃ σ'' D'', Inv (i + 1) σ'' D'' ∧ Ok Hs se mods env O' σ'' D'' s''
        | .brk => R (.ok .next) s''
        | .ret v => R (.ok (.ret v)) s'') NoE s')
    (done : ∀ σ' D' s', Inv n σ' D' → Ok Hs se mods env O σ' D' s' → R (.ok .next) s') :
    codeAny (model prog w) A (.forLoop (.Tuple [.Name xi pi, .Name xv pv] x1 pt) (.ref e) body [] env) R s := by
  obtain ⟨it, h1, h2, h3, h4, h5, h6, h7⟩ := W
  exact loop_enum hh S h1 h2 h3 h4 h5 h6 h7 bi bv Inv hI hneed step done

section
variable {elt iter : Expr} {ifs : List Expr} {scope : Scope} {pos : Pos} {cl : List (Str × Addr)} {it : Addr} {n : Nat} {val : Nat → Value → Prop} {need : Shared → Prop} {use : Option (Value → Sem Unit)} {Q : Value → Shared → Prop}

/-- [elt for x in stream if test], ints -/
theorem tail_pure {x : Str} {px : Pos} (S : Ok Hs se mods env O σ D s) (W : Ready prog w A se O it n val need s) (I : EnvIs env ns cs) (hcl : closOf scope.names [] cs = some cl)
    (hk : scope.kind = .function) (hnd : (scope.names.map Prod.fst).Nodup) (hcap : (cl.all fun p => ns.lookup p.1 == some .cell || ns.lookup p.1 == some .free) = true) (hx : scope.names.lookup x = some .local)
    (hz : n ≤ 1000000) (hneed : ∀ O' cenv D' s', Sub D D' → Ok Hs se mods cenv O' (taken scope.names σ) D' s' → need s') (p : Nat → Bool) (f : Nat → Int)
    (turn : ∀ i v O' cenv D' s', i < n → val i v → EnvIs cenv scope.names (cellsFrom (cenv.locals + 1) scope.names cl) → Sub D D' → Ok Hs se mods cenv O' ((x, v) :: taken scope.names σ) D' s' →
      wpAny (model prog w) A (testsOf ifs cenv) (fun ok s₃ => ok = p i ∧ ∃ D'', Sub D' D'' ∧ Ok Hs se mods cenv O' ((x, v) :: taken scope.names σ) D'' s₃) NoE s' ∧
      (p i = true → wpAny (model prog w) A (eval elt cenv) (fun y s₄ => ∃ t D'', y = .int (f i) t ∧ Sub D' D'' ∧ Ok Hs se mods cenv O' ((x, v) :: taken scope.names σ) D'' s₄) NoE s'))
    (done : ∀ l cenv O' s', D l = none → se.heap.get? l = none → Block Hs se mods env O σ cenv O' → Ok Hs se mods cenv O' (taken scope.names σ) (upd D l (.zs (picked p f n))) s' → compPost (model prog w) A E use Q (.ref l) cenv.locals (.ok .next) s') :
    wpAny (model prog w) A (newList []) (fun acc s₃ => wpAny (model prog w) A (newFunctionEnv scope env.globals cl [] env.qual none .none (some env)) (fun cenv s₄ =>
      codeAny (model prog w) A (.compStart (.ListComp elt [⟨.Name x px, iter, ifs, 0⟩] scope pos) 0 (.ref it) acc { cenv with scope := relabel scope env }) (compPost (model prog w) A E use Q acc cenv.locals) s₄) E s₃) E s := by
  obtain ⟨⟨Pos', o₀, W, h0, hp⟩, hO, hE⟩ := W
  refine comp_tail S I hcl hk hnd hcap fun l cenv O' s' hl hlE Ic Sc K keep hOf => ?_
  obtain ⟨vs, hd⟩ := W.fld _ _ hp
  refine cs_start1 (fun Q h => W.self 0 s' o₀ Q NoE (keep _ _ h0) hp h) ?_
  exact comp_pure (.inl ⟨_, _, rfl, rfl⟩) W Sc hl (hOf _ _ _ h0 hd hO) hE (keep _ _ h0) hp (bnd_local Ic hx) (fun v => vars_drop (by rw [hx]; intro q; cases q)) hlE hz (hneed O' cenv) p f
    (fun i v O'' D' s'' hi hv _ hsub S'' => (turn i v O'' cenv D' s'' hi hv Ic hsub S'').1)
    (fun i v O'' D' s'' hi hv hpi _ hsub S'' => (turn i v O'' cenv D' s'' hi hv Ic hsub S'').2 hpi) fun s'' S'' => done l cenv O' s'' hl hlE K S''

theorem tail_pure_enum {xi xv : Str} {pi pv pt : Pos} {x1 : Nat} {l₀ : Addr} (S : Ok Hs se mods env O σ D s) (W : ReadyE se O it l₀ s) (hh : A.handled = none) (I : EnvIs env ns cs) (hcl : closOf scope.names [] cs = some cl)
    (hk : scope.kind = .function) (hnd : (scope.names.map Prod.fst).Nodup) (hcap : (cl.all fun p => ns.lookup p.1 == some .cell || ns.lookup p.1 == some .free) = true) (hxi : scope.names.lookup xi = some .local) (hxv : scope.names.lookup xv = some .local)
    (hz : n ≤ 1000000) (hneed : ∀ O' cenv D' s', Sub D D' → Ok Hs se mods cenv O' (taken scope.names σ) D' s' → ∃ items : Array Value, items.size = n ∧ s'.heap.IsList l₀ items ∧ ∀ i v, items[i]? = some v → val i v) (p : Nat → Bool) (f : Nat → Int)
    (turn : ∀ (i : Nat) v ti O' cenv D' s', i < n → val i v → EnvIs cenv scope.names (cellsFrom (cenv.locals + 1) scope.names cl) → Sub D D' → Ok Hs se mods cenv O' ((xv, v) :: (xi, .int i ti) :: taken scope.names σ) D' s' →
      wpAny (model prog w) A (testsOf ifs cenv) (fun ok s₃ => ok = p i ∧ ∃ D'', Sub D' D'' ∧ Ok Hs se mods cenv O' ((xv, v) :: (xi, .int i ti) :: taken scope.names σ) D'' s₃) NoE s' ∧
      (p i = true → wpAny (model prog w) A (eval elt cenv) (fun y s₄ => ∃ t D'', y = .int (f i) t ∧ Sub D' D'' ∧ Ok Hs se mods cenv O' ((xv, v) :: (xi, .int i ti) :: taken scope.names σ) D'' s₄) NoE s'))
    (done : ∀ l cenv O' s', D l = none → se.heap.get? l = none → Block Hs se mods env O σ cenv O' → Ok Hs se mods cenv O' (taken scope.names σ) (upd D l (.zs (picked p f n))) s' → compPost (model prog w) A E use Q (.ref l) cenv.locals (.ok .next) s') :
    wpAny (model prog w) A (newList []) (fun acc s₃ => wpAny (model prog w) A (newFunctionEnv scope env.globals cl [] env.qual none .none (some env)) (fun cenv s₄ =>
      codeAny (model prog w) A (.compStart (.ListComp elt [⟨.Tuple [.Name xi pi, .Name xv pv] x1 pt, iter, ifs, 0⟩] scope pos) 0 (.ref it) acc { cenv with scope := relabel scope env }) (compPost (model prog w) A E use Q acc cenv.locals) s₄) E s₃) E s := by
  obtain ⟨it', h1, h2, h3, h4, h5, h6, h7⟩ := W
  obtain ⟨oi, hoi, hci, hdi⟩ := id h7
  refine comp_tail S I hcl hk hnd hcap fun l cenv O' s' hl hlE Ic Sc K keep hOf => ?_
  have h6' : IsEnum s'.heap it it' 0 .none := keep _ _ h6
  refine cs_start1 (fun Q h => i_enum h6' h) ?_
  exact comp_pure_enum (.inl ⟨_, _, rfl, rfl⟩) hh Sc hl (hOf _ _ _ h6 rfl h1) (hOf _ _ _ hoi hdi h2) h3 h4 h5 h6' ⟨_, keep _ _ hoi, hci, hdi⟩ (bnd_local Ic hxi) (bnd_local Ic hxv)
    (fun v u y z h => by
      have q1 := vars_drop (σ := σ) (names := scope.names) (x := xi) (v := u) (by rw [hxi]; intro q; cases q) y z h
      rw [List.lookup_cons]
      have : y ≠ xv := by rintro rfl; have := (taken_lookup h).1; rw [hxv] at this; cases this
      rw [show (y == xv) = false from beq_eq_false_iff_ne.mpr this]; exact q1) hlE hz (hneed O' cenv) p f
    (fun i v ti O'' D' s'' hi hv _ hsub S'' => (turn i v ti O'' cenv D' s'' hi hv Ic hsub S'').1)
    (fun i v ti O'' D' s'' hi hv hpi _ hsub S'' => (turn i v ti O'' cenv D' s'' hi hv Ic hsub S'').2 hpi) fun s'' S'' => done l cenv O' s'' hl hlE K S''

/-- [new list for x in stream] -/
theorem tail_new {x : Str} {px : Pos} (S : Ok Hs se mods env O σ D s) (W : Ready prog w A se O it n val need s) (I : EnvIs env ns cs) (hcl : closOf scope.names [] cs = some cl)
    (hk : scope.kind = .function) (hnd : (scope.names.map Prod.fst).Nodup) (hcap : (cl.all fun p => ns.lookup p.1 == some .cell || ns.lookup p.1 == some .free) = true) (hb : scope.names.lookup x = some .local ∨ scope.names.lookup x = some .cell)
    (hz : n ≤ 1000000) (hneed : ∀ O' cenv D' s', Sub D D' → Ok Hs se mods cenv O' (taken scope.names σ) D' s' → need s') (G : Nat → List Int)
    (turn : ∀ i v O' cenv D' s', i < n → val i v → EnvIs cenv scope.names (cellsFrom (cenv.locals + 1) scope.names cl) → Sub D D' → Ok Hs se mods cenv O' ((x, v) :: taken scope.names σ) D' s' →
      wpAny (model prog w) A (testsOf ifs cenv) (fun ok s₃ => ok = true ∧ ∃ D'', Sub D' D'' ∧ Ok Hs se mods cenv O' ((x, v) :: taken scope.names σ) D'' s₃) NoE s' ∧
      wpAny (model prog w) A (eval elt cenv) (fun y s₄ => ∃ r D'', y = .ref r ∧ D' r = none ∧ se.heap.get? r = none ∧ Sub D' D'' ∧ D'' r = some (.zs (G i)) ∧ Ok Hs se mods cenv O' ((x, v) :: taken scope.names σ) D'' s₄) NoE s')
    (done : ∀ l rs D' cenv O' s', D l = none → se.heap.get? l = none → rs.length = n → (∀ r ∈ rs, D r = none ∧ se.heap.get? r = none ∧ r ≠ l) → rs.Nodup → Sub D D' → D' l = some (.refs rs) → (∀ i r, rs[i]? = some r → D' r = some (.zs (G i))) →
      Block Hs se mods env O σ cenv O' → Ok Hs se mods cenv O' (taken scope.names σ) D' s' → compPost (model prog w) A E use Q (.ref l) cenv.locals (.ok .next) s') :
    wpAny (model prog w) A (newList []) (fun acc s₃ => wpAny (model prog w) A (newFunctionEnv scope env.globals cl [] env.qual none .none (some env)) (fun cenv s₄ =>
      codeAny (model prog w) A (.compStart (.ListComp elt [⟨.Name x px, iter, ifs, 0⟩] scope pos) 0 (.ref it) acc { cenv with scope := relabel scope env }) (compPost (model prog w) A E use Q acc cenv.locals) s₄) E s₃) E s := by
  obtain ⟨⟨Pos', o₀, W, h0, hp⟩, hO, hE⟩ := W
  refine comp_tail S I hcl hk hnd hcap fun l cenv O' s' hl hlE Ic Sc K keep hOf => ?_
  obtain ⟨vs, hd⟩ := W.fld _ _ hp
  refine cs_start1 (fun Q h => W.self 0 s' o₀ Q NoE (keep _ _ h0) hp h) ?_
  have bx : Bnd prog w A Hs se mods cenv x := by
    rcases hb with hb | hb
    · exact bnd_local Ic hb
    · cases hc : (cellsFrom (cenv.locals + 1) scope.names cl).lookup x with
      | none =>
        exfalso
        have : ∀ (names : List (Str × NameKind)) (n : Nat) (acc : List (Str × Addr)), names.lookup x = some .cell → (cellsFrom n names acc).lookup x ≠ none := fun names n acc h => by
          rw [cellsFrom_append]
          intro q
          have := cellsFrom_some names n h
          cases z : (cellsFrom n names []).lookup x with
          | none => exact this z
          | some c => rw [List.lookup_append, z] at q; cases q
        exact this _ _ _ hb hc
      | some c =>
        refine bnd_cell Ic hb hc ?_
        rcases cellsFrom_ge _ _ _ _ _ (mem_of_lk hc) with q | q
        · exfalso
          rcases closOf_free hcl _ q with z | z
          · cases z
          · have := lookup_of_mem_nodup hnd z
            rw [hb] at this; cases this
        · exact Nat.le_of_succ_le q
  have lne : ∀ b c, D b = some c → b ≠ l := fun b c e q => by rw [q, hl] at e; cases e
  refine comp_new (rs₀ := []) (.inl ⟨_, _, rfl, rfl⟩) W Sc (by exact upd_same ..) (hOf _ _ _ h0 hd hO) hE (keep _ _ h0) hp bx (fun v => vars_drop (by rcases hb with hb | hb <;> (rw [hb]; intro q; cases q))) hlE (by simpa using hz)
    (fun D' s'' h S'' => hneed O' cenv D' s'' (fun b c e => h b c (lne b c e) (by rw [upd_ne (lne b c e)]; exact e)) S'')
    (fun i r D => D r = some (.zs (G i))) (fun i r D1 D2 h hr e => h _ _ hr e) (fun i r D1 e => by rw [e]; intro q; cases q)
    (fun i v O'' D' s'' hi hv _ hsub S'' => (turn i v O'' cenv D' s'' hi hv Ic (fun b c e => hsub b c (lne b c e) (by rw [upd_ne (lne b c e)]; exact e)) S'').1)
    (fun i v O'' D' s'' hi hv _ hsub S'' => (turn i v O'' cenv D' s'' hi hv Ic (fun b c e => hsub b c (lne b c e) (by rw [upd_ne (lne b c e)]; exact e)) S'').2)
    fun rs D' s'' hlen hrs hnd' hsub hl' hG S'' => ?_
  exact done l rs D' cenv O' s'' hl hlE hlen (fun r hr => by
      obtain ⟨h1, h2, h3⟩ := hrs r hr
      exact ⟨by rw [upd_ne h3] at h1; exact h1, h2, h3⟩) hnd' (fun b c e => hsub b c (lne b c e) (by rw [upd_ne (lne b c e)]; exact e)) (by simpa using hl') hG K S''
end
end
end Mine

namespace Mine

theorem mulOk {B : Nat} {a b : Int} (ha : a.natAbs < 2 ^ B) (hb : b.natAbs < 2 ^ B) (hB : B ≤ 2 ^ 26) : IntMulOk a b := by
  have bits : ∀ x : Int, x.natAbs < 2 ^ B → Builtin.Int.intBits x ≤ B := fun x hx => by
    unfold Builtin.Int.intBits
    split
    · exact Nat.zero_le _
    · rename_i h0
      have hne : x.natAbs ≠ 0 := by intro q; apply h0; have : x = 0 := by lia
                                    simp [this]
      exact (Nat.log2_lt hne).mpr hx
  have h1 := bits a ha
  have h2 := bits b hb
  unfold IntMulOk
  intro h
  simp only [Bool.and_eq_true, decide_eq_true_eq] at h
  have := h.2
  unfold Builtin.Int.intTooBig bitsLine at this
  simp only [decide_eq_true_eq] at this
  lia
theorem mulOk_small {a b : Int} (ha : a.natAbs < 2 ^ 64) : IntMulOk a b := by
  unfold IntMulOk
  intro h
  simp only [Bool.and_eq_true, decide_eq_true_eq] at h
  have h1 := h.1.1
  unfold Builtin.Int.intBits shortFactorBits at h1
  split at h1
  · lia
  · rename_i h0
    have hne : a.natAbs ≠ 0 := by intro q; apply h0; have : a = 0 := by lia
                                  simp [this]
    have := (Nat.log2_lt hne).mpr ha
    lia
theorem mulOk_small' {a b : Int} (hb : b.natAbs < 2 ^ 64) : IntMulOk a b := by
  have := mulOk_small (a := b) (b := a) hb
  unfold IntMulOk at this ⊢
  intro h
  apply this
  simp only [Bool.and_eq_true, decide_eq_true_eq] at h ⊢
  refine ⟨⟨h.1.2, h.1.1⟩, ?_⟩
  rw [Int.add_comm]; exact h.2

/-- the matrix at a: its rows' addresses, its rows -/
noncomputable def MatD (D : Know) (a : Addr) (rs : List Addr) (M : Mat) : Prop := D a = some (.refs rs) ∧ rs.length = M.length ∧ ∀ (i : Nat) (r : Addr) (x : List Int), rs[i]? = some r → M[i]? = some x → D r = some (.zs x)

section
variable {prog : Program} {w : World} {A : Around} {E : Value → Shared → Prop} {n : Nat} {R : Result → Shared → Prop}
variable {Hs : Heap} {se s : Shared} {mods : Addr → Prop} {env : Env} {O : Addr → Option Obj} {σ σ' : Vars} {D D' : Know} {mg mb : Str → Option Value}
variable {ns : List (Str × NameKind)} {cs : List (Str × Addr)} {t u : Tok} {a : Addr} {rs : List Addr} {M : Mat}

theorem MatD.sub (h : MatD D a rs M) (hs : Sub D D') : MatD D' a rs M := ⟨hs _ _ h.1, h.2.1, fun i r x h1 h2 => hs _ _ (h.2.2 i r x h1 h2)⟩
theorem MatD.ext {P : Addr → Prop} (h : MatD D a rs M) (hs : Ext P D D') (ha : ¬ P a) (hr : ∀ r ∈ rs, ¬ P r) : MatD D' a rs M :=
  ⟨hs _ _ h.1 ha, h.2.1, fun i r x h1 h2 => hs _ _ (h.2.2 i r x h1 h2) (hr r (List.mem_of_getElem? h1))⟩
theorem MatD.known (h : MatD D a rs M) {r : Addr} (hr : r ∈ rs) : ∃ x, D r = some (.zs x) := by
  obtain ⟨i, hi⟩ := List.getElem?_of_mem hr
  have : i < M.length := by rw [← h.2.1]; exact (List.getElem?_eq_some_iff.mp hi).1
  exact ⟨_, h.2.2 i r _ hi (List.getElem?_eq_getElem this)⟩
theorem MatD.ne {b : Addr} {vs : List Value} (h : MatD D a rs M) (hb : D b = some (.vals vs)) : ∀ r ∈ rs, ¬ r = b := fun r hr e => by
  obtain ⟨x, hx⟩ := h.known hr
  rw [e, hb] at hx; cases hx
theorem MatD.extAt {b : Addr} {vs : List Value} (h : MatD D a rs M) (hs : Ext (· = b) D D') (hb : D b = some (.vals vs)) (hab : a ≠ b) : MatD D' a rs M := h.ext hs hab (h.ne hb)

theorem MatD.rowAt (h : MatD D a rs M) {i : Nat} (hi : i < M.length) : D (rs.getD i 0) = some (.zs (row M i)) := by
  have hr : i < rs.length := by rw [h.2.1]; exact hi
  refine h.2.2 i _ _ ?_ ?_
  · rw [List.getD_eq_getElem?_getD, List.getElem?_eq_getElem hr]; rfl
  · unfold row; rw [List.getD_eq_getElem?_getD, List.getElem?_eq_getElem hi]; rfl
theorem MatD.item (h : MatD D a rs M) {i : Nat} (hi : i < M.length) : (rs.map Value.ref)[i]? = some (.ref (rs.getD i 0)) := by
  have hr : i < rs.length := by rw [h.2.1]; exact hi
  rw [List.getElem?_map, List.getD_eq_getElem?_getD, List.getElem?_eq_getElem hr]; rfl
theorem zs_item {xs : List Int} {j : Nat} (hj : j < xs.length) : xs[j]? = some (xs.getD j 0) := by
  rw [List.getD_eq_getElem?_getD, List.getElem?_eq_getElem hj]; rfl

/-- a[i], a matrix -/
theorem t_row {value slice : Expr} {k : Int} {i : Nat} {Q : Value → Shared → Prop} (S : Ok Hs se mods env O σ D s) (h : MatD D a rs M) (hk : k = i) (hi : i < M.length) (hz : M.length ≤ 1000000) (hp : Plain slice) (hq : Q (.ref (rs.getD i 0)) s) :
    wpAny (model prog w) A (subscriptTail value slice (.ref a) (.int k t)) Q E s := by
  subst hk
  exact t_vals S h.1 (by lia) (by rw [Int.toNat_natCast]; exact h.item hi) (by lia) hp hq
/-- x[j], a list of ints -/
theorem t_el {value slice : Expr} {l : Addr} {xs : List Int} {k : Int} {j : Nat} {Q : Value → Shared → Prop} (S : Ok Hs se mods env O σ D s) (h : D l = some (.zs xs)) (hk : k = j) (hj : j < xs.length) (hz : xs.length ≤ 1000000) (hp : Plain slice) (hq : ∀ t', Q (.int (xs.getD j 0) t') s) :
    wpAny (model prog w) A (subscriptTail value slice (.ref l) (.int k t)) Q E s := by
  subst hk
  exact t_zs S h (by lia) (by rw [Int.toNat_natCast]; exact zs_item hj) (by lia) hp hq
/-- len(a) -/
theorem f_len_mat {Q : Value → Shared → Prop} (S : Ok Hs se mods env O σ D s) (h : MatD D a rs M) (hz : M.length ≤ 1000000) (hq : ∀ t' s', Ok Hs se mods env O σ D s' → Q (.int M.length t') s') : wpAny (model prog w) A (call (.builtin "len") [.ref a]) Q E s :=
  f_len_vals S h.1 (by rw [List.length_map, h.2.1]; lia) (by rw [List.length_map, h.2.1]; exact hq)

theorem MatD.setRow (h : MatD D a rs M) {i : Nat} {r : Addr} {x : List Int} (hr : D r = some (.zs x)) : MatD (upd D a (.refs (rs.set i r))) a (rs.set i r) (M.set i x) := by
  have har : ∀ q y, D q = some (.zs y) → upd D a (.refs (rs.set i r)) q = some (.zs y) := fun q y hq => by
    rw [upd_ne]; exact hq
    rintro rfl; rw [h.1] at hq; cases hq
  refine ⟨upd_same .., by simp [h.2.1], fun j q y h1 h2 => ?_⟩
  by_cases hij : i = j
  · subst hij
    have hl : i < rs.length := by have := (List.getElem?_eq_some_iff.mp h1).1; simpa using this
    have hl' : i < M.length := by rw [← h.2.1]; exact hl
    rw [List.getElem?_set_self hl] at h1
    rw [List.getElem?_set_self hl'] at h2
    cases h1; cases h2; exact har _ _ hr
  · rw [List.getElem?_set_ne hij] at h1 h2
    exact har _ _ (h.2.2 j q y h1 h2)

/-- a[i] = r -/
theorem p_row {k : Int} {i : Nat} {r : Addr} {x : List Int} {Q : Unit → Shared → Prop} (S : Ok Hs se mods env O σ D s) (h : MatD D a rs M) (hc : Can se mods a) (hk : k = i) (hi : i < M.length) (hz : M.length ≤ 1000000) (hr : D r = some (.zs x))
    (hq : ∀ D' s', D' = upd D a (.refs (rs.set i r)) → MatD D' a (rs.set i r) (M.set i x) → Ext (· = a) D D' → Ok Hs se mods env O σ D' s' → Q () s') : wpAny (model prog w) A (setItem (.ref a) (.int k t) (.ref r)) Q E s := by
  subst hk
  refine p_vals S h.1 hc (by lia) (by rw [List.length_map, h.2.1]; lia) (by lia) fun s' S' => ?_
  rw [Int.toNat_natCast, ← List.map_set] at S'
  exact hq _ s' rfl (h.setRow hr) (Ext.at rfl) S'

/-- a new matrix -/
structure NewMat (s : Shared) (D' : Know) (a : Addr) (rs : List Addr) (M : Mat) : Prop where
  mat : MatD D' a rs M
  na : s.heap.get? a = none
  nr : ∀ r ∈ rs, s.heap.get? r = none
  nd : rs.Nodup
theorem Sub.app {b : Addr} {c : Cell} (h : Sub D D') (e : D b = some c) : D' b = some c := h b c e
theorem t_rowS {value slice : Expr} {k : Int} {i n m : Nat} {Q : Value → Shared → Prop} (S : Ok Hs se mods env O σ D s) (h : MatD D a rs M) (sh : Sh n m M) (hk : k = i) (hi : i < n) (hz : n ≤ 1000) (hp : Plain slice) (hq : Q (.ref (rs.getD i 0)) s) :
    wpAny (model prog w) A (subscriptTail value slice (.ref a) (.int k t)) Q E s := t_row S h hk (by rw [sh.1]; exact hi) (by rw [sh.1]; lia) hp hq
theorem t_elS {value slice : Expr} {k : Int} {i j n m : Nat} {Q : Value → Shared → Prop} (S : Ok Hs se mods env O σ D s) (h : MatD D a rs M) (sh : Sh n m M) (hi : i < n) (hk : k = j) (hj : j < m) (hz : m ≤ 1000) (hp : Plain slice) (hq : ∀ t', Q (.int (el M i j) t') s) :
    wpAny (model prog w) A (subscriptTail value slice (.ref (rs.getD i 0)) (.int k t)) Q E s := t_el S (h.rowAt (by rw [sh.1]; exact hi)) hk (by rw [sh.row hi]; exact hj) (by rw [sh.row hi]; lia) hp hq
theorem p_rowS {k : Int} {i n m : Nat} {r : Addr} {x : List Int} {Q : Unit → Shared → Prop} (S : Ok Hs se mods env O σ D s) (h : MatD D a rs M) (sh : Sh n m M) (hc : Can se mods a) (hk : k = i) (hi : i < n) (hz : n ≤ 1000) (hr : D r = some (.zs x))
    (hq : ∀ D' s', D' = upd D a (.refs (rs.set i r)) → MatD D' a (rs.set i r) (M.set i x) → Ext (· = a) D D' → Ok Hs se mods env O σ D' s' → Q () s') : wpAny (model prog w) A (setItem (.ref a) (.int k t) (.ref r)) Q E s :=
  p_row S h hc hk (by rw [sh.1]; exact hi) (by rw [sh.1]; lia) hr hq
theorem picked_tab {n : Nat} {f : Nat → Int} : picked (fun _ => true) f n = tab n f := by
  unfold picked tab
  rw [List.filter_eq_self.mpr (fun _ _ => rfl)]
theorem Ok.noneOf (S : Ok Hs se mods env O σ D s) {x : Addr} (h : s.heap.get? x = none) : D x = none := by
  cases e : D x with
  | none => rfl
  | some c => obtain ⟨o, _, _, ho, _⟩ := (S.know x c e).seq; rw [h] at ho; cases ho
theorem Ok.canOf (S : Ok Hs se mods env O σ D s) {x : Addr} (h : s.heap.get? x = none) : Can se mods x := by
  by_cases m : mods x
  · exact .inl m
  · refine .inr ?_
    cases e : se.heap.get? x with
    | none => rfl
    | some o => have := S.keep x o e m; rw [h] at this; cases this
end
end Mine

namespace Mine
theorem newApp {D : Know} {l b : Addr} {c c' : Cell} (h : D l = none) (e : D b = some c') : upd D l c b = some c' := Sub.new h _ _ e
section
variable {prog : Program} {w : World} {A : Around} {E : Value → Shared → Prop} {R : Result → Shared → Prop}
variable {Hs : Heap} {se s : Shared} {mods : Addr → Prop} {env : Env} {O : Addr → Option Obj} {σ σ' : Vars} {D D' : Know} {mg mb : Str → Option Value}
variable {ns : List (Str × NameKind)} {cs : List (Str × Addr)}

theorem Ok.mat {a : Addr} {rs : List Addr} {M : Mat} {D₀ : Know} (_S : Ok Hs se mods env O σ D s) (h : MatD D₀ a rs M) (hs : Sub D₀ D) : MatD D a rs M := h.sub hs
theorem Ok.extS {P : Addr → Prop} {D₀ D₁ : Know} (_S : Ok Hs se mods env O σ D s) (h : Ext P D₀ D₁) (hs : Sub D₁ D) : Ext P D₀ D := h.trans hs.ext
theorem Ok.subOf {D₀ : Know} (_S : Ok Hs se mods env O σ D s) (h : Sub D₀ D) : Sub D₀ D := h
theorem Ok.knows {l : Addr} {c : Cell} (_S : Ok Hs se mods env O σ D s) (h : D l = some c) : D l = some c := h
/-- an expression for its effects -/
theorem x_expr {e : Expr} {pos : Pos} {Q : Flow → Shared → Prop} (I : EnvIs env ns cs) (h : wpAny (model prog w) A (eval e env) (fun v s' => match v with | .ref _ => False | _ => Q .next s') E s)
    (hs : swapsWith e none pos.line env = pure false) : wpAny (model prog w) A (exec (.Expr e pos) env) Q E s :=
  wpAny_Expr h (by unfold interactive; rw [I.kind]; rfl) hs
theorem f_len_matS {a : Addr} {rs : List Addr} {M : Mat} {n m : Nat} {Q : Value → Shared → Prop} (S : Ok Hs se mods env O σ D s) (h : MatD D a rs M) (sh : Sh n m M) (hz : n ≤ 1000) (hq : ∀ t' s', Ok Hs se mods env O σ D s' → Q (.int n t') s') : wpAny (model prog w) A (call (.builtin "len") [.ref a]) Q E s :=
  f_len_mat S h (by rw [sh.1]; lia) (by rw [sh.1]; exact hq)

/-- for x in (v1, v2) -/
theorem loop_pair {x : Str} {px : Pos} {body : List Stmt} {it l : Addr} {v1 v2 : Value}
    (W : Ready prog w A se O it 2 (valV [v1, v2]) (fun s => Mine.Holds s.heap l (.tup [v1, v2])) s) (S : Ok Hs se mods env O σ D s) (hl : D l = some (.tup [v1, v2])) (bx : Bnd prog w A Hs se mods env x)
    (P1 P2 : Vars → Know → Prop)
    (step1 : ∀ O' s', (∀ b o, O b = some o → O' b = some o) → Ok Hs se mods env O' ((x, v1) :: σ) D s' → wpAny (model prog w) A (execs body env) (fun fl s'' => match fl with
      | .next | .cont => ∃ σ'' D'', P1 σ'' D'' ∧ D'' l = some (.tup [v1, v2]) ∧ Ok Hs se mods env O' σ'' D'' s''
      | .brk => False
      | .ret _ => False) NoE s')
    (step2 : ∀ O' σ1 D1 s', (∀ b o, O b = some o → O' b = some o) → P1 σ1 D1 → D1 l = some (.tup [v1, v2]) → Ok Hs se mods env O' ((x, v2) :: σ1) D1 s' → wpAny (model prog w) A (execs body env) (fun fl s'' => match fl with
      | .next | .cont => ∃ σ'' D'', P2 σ'' D'' ∧ D'' l = some (.tup [v1, v2]) ∧ Ok Hs se mods env O' σ'' D'' s''
      | .brk => False
      | .ret _ => False) NoE s')
    (done : ∀ σ2 D2 s', P2 σ2 D2 → Ok Hs se mods env O σ2 D2 s' → R (.ok .next) s') :
    codeAny (model prog w) A (.forLoop (.Name x px) (.ref it) body [] env) R s := by
  refine loop_over W S bx (fun i σ' D' => D' l = some (.tup [v1, v2]) ∧ ((i = 0 ∧ σ' = σ ∧ D' = D) ∨ (i = 1 ∧ P1 σ' D') ∨ (i = 2 ∧ P2 σ' D'))) ⟨hl, .inl ⟨rfl, rfl, rfl⟩⟩ (fun i σ' D' s' h S' => S'.know _ _ h.1) ?_ ?_
  · rintro i v O' σ' D' s' hi hv hO' ⟨hlD, h⟩ S'
    rcases h with ⟨rfl, rfl, rfl⟩ | ⟨rfl, h⟩ | ⟨rfl, _⟩
    · cases hv
      refine wpAny_mono (step1 O' s' hO' S') (fun fl s'' h2 => ?_) fun _ _ e => e
      cases fl with
      | next => obtain ⟨σ2, D2, q1, q2, q3⟩ := h2; exact ⟨σ2, D2, ⟨q2, .inr (.inl ⟨rfl, q1⟩)⟩, q3⟩
      | cont => obtain ⟨σ2, D2, q1, q2, q3⟩ := h2; exact ⟨σ2, D2, ⟨q2, .inr (.inl ⟨rfl, q1⟩)⟩, q3⟩
      | brk => exact h2.elim
      | ret v => exact h2.elim
    · cases hv
      refine wpAny_mono (step2 O' σ' D' s' hO' h hlD S') (fun fl s'' h2 => ?_) fun _ _ e => e
      cases fl with
      | next => obtain ⟨σ2, D2, q1, q2, q3⟩ := h2; exact ⟨σ2, D2, ⟨q2, .inr (.inr ⟨rfl, q1⟩)⟩, q3⟩
      | cont => obtain ⟨σ2, D2, q1, q2, q3⟩ := h2; exact ⟨σ2, D2, ⟨q2, .inr (.inr ⟨rfl, q1⟩)⟩, q3⟩
      | brk => exact h2.elim
      | ret v => exact h2.elim
    · exact absurd hi (by decide)
  · rintro σ' D' s' ⟨_, h⟩ S'
    rcases h with ⟨q, _⟩ | ⟨q, _⟩ | ⟨_, h⟩
    · cases q
    · cases q
    · exact done σ' D' s' h S'
end
end Mine

namespace Mine

theorem nodup_set {r : Addr} : ∀ {rs : List Addr} (i : Nat), r ∉ rs → rs.Nodup → (rs.set i r).Nodup := by
  intro rs
  induction rs with
  | nil => intro i _ h; simpa using h
  | cons x t ih =>
    intro i hr h
    rw [List.nodup_cons] at h
    have hx : r ≠ x := fun e => hr (by rw [e]; simp)
    have ht : r ∉ t := fun e => hr (List.mem_cons_of_mem _ e)
    cases i with
    | zero => rw [List.set_cons_zero, List.nodup_cons]; exact ⟨ht, h.2⟩
    | succ i =>
      rw [List.set_cons_succ, List.nodup_cons]
      refine ⟨fun e => ?_, ih i ht h.2⟩
      rcases List.mem_or_eq_of_mem_set e with q | q
      · exact h.1 q
      · exact hx q.symm

/-- a's rows went from rs to rs', its matrix is M' now -/
structure Trans (se : Shared) (D D' : Know) (a : Addr) (rs rs' : List Addr) (M' : Mat) : Prop where
  mat : MatD D' a rs' M'
  ext : Ext (· = a) D D'
  grow : ∀ b, D' b = none → D b = none
  rows : ∀ r ∈ rs', r ∈ rs ∨ (D r = none ∧ se.heap.get? r = none)
  nd : rs.Nodup → rs'.Nodup

/-- two matrices went on -/
structure Two (se : Shared) (D D' : Know) (h u : Addr) (rh ru rh' ru' : List Addr) (H' U' : Mat) : Prop where
  mh : MatD D' h rh' H'
  mu : MatD D' u ru' U'
  ext : Ext (fun b => b = h ∨ b = u) D D'
  grow : ∀ b, D' b = none → D b = none
  oh : ∀ r ∈ rh', r ∈ rh ∨ (D r = none ∧ se.heap.get? r = none)
  ou : ∀ r ∈ ru', r ∈ ru ∨ (D r = none ∧ se.heap.get? r = none)
  nh : rh.Nodup → rh'.Nodup
  nu : ru.Nodup → ru'.Nodup
  dis : (∀ r ∈ rh, r ∉ ru) → ∀ r ∈ rh', r ∉ ru'

theorem MatD.notNone {D : Know} {a : Addr} {rs : List Addr} {M : Mat} (h : MatD D a rs M) {r : Addr} (hr : r ∈ rs) (e : D r = none) : False := by
  obtain ⟨x, hx⟩ := h.known hr
  rw [hx] at e; cases e

theorem Trans.two {se : Shared} {D D1 D2 : Know} {h u : Addr} {rh ru rh' ru' : List Addr} {U H' U' : Mat} (hU : MatD D u ru U) (hne : h ≠ u)
    (t1 : Trans se D D1 h rh rh' H') (t2 : Trans se D1 D2 u ru ru' U') : Two se D D2 h u rh ru rh' ru' H' U' where
  mh := t1.mat.extAt t2.ext (t1.ext _ _ hU.1 (Ne.symm hne)) hne
  mu := t2.mat
  ext := (t1.ext.mono fun _ => .inl).trans (t2.ext.mono fun _ => .inr)
  grow := fun b hb => t1.grow b (t2.grow b hb)
  oh := t1.rows
  ou := fun r hr => (t2.rows r hr).imp id fun q => ⟨t1.grow r q.1, q.2⟩
  nh := t1.nd
  nu := t2.nd
  dis := fun hd r hr hr' => by
    rcases t2.rows r hr' with q | q
    · rcases t1.rows r hr with z | z
      · exact hd r z q
      · exact hU.notNone q z.1
    · exact t1.mat.notNone hr q.1

section
variable {prog : Program} {w : World} {A : Around} {E : Value → Shared → Prop} {R : Result → Shared → Prop}
variable {Hs : Heap} {se s : Shared} {mods : Addr → Prop} {env : Env} {O : Addr → Option Obj} {σ σ' : Vars} {D D' : Know} {mg mb : Str → Option Value}
variable {ns : List (Str × NameKind)} {cs : List (Str × Addr)} {t : Tok}

/-- list(l), as a list of ints -/
theorem f_copy {l : Addr} {xs : List Int} {Q : Value → Shared → Prop} (S : Ok Hs se mods env O σ D s) (hl : D l = some (.zs xs)) (hz : xs.length ≤ 1000000)
    (h : ∀ l' s', D l' = none → se.heap.get? l' = none → Ok Hs se mods env O σ (upd D l' (.zs xs)) s' → Q (.ref l') s') : wpAny (model prog w) A (call (.type "list") [.ref l]) Q E s :=
  f_list_zs S hl hz fun l' s' h1 h2 S' => h l' s' h1 h2 (by
    obtain ⟨vs, n, ho, hi⟩ := S'.know l' _ (upd_same ..)
    have S2 := S'.add (a := l') (c := .zs xs) ⟨vs, ⟨_, ho, rfl, n, rfl⟩, hi⟩
    refine S2.sub (fun _ _ h => h) fun b c e => ?_
    by_cases hb : b = l'
    · rw [hb, upd_same] at e ⊢; exact e
    · rw [upd_ne hb] at e; rw [upd_ne hb, upd_ne hb]; exact e)
theorem MatD.ofRows {D : Know} {l : Addr} {rs : List Addr} {M : Mat} (h1 : D l = some (.refs rs)) (h2 : rs.length = M.length) (h3 : ∀ i r, rs[i]? = some r → D r = some (.zs (row M i))) : MatD D l rs M :=
  ⟨h1, h2, fun i r x q1 q2 => by rw [h3 i r q1]; unfold row; rw [List.getD_eq_getElem?_getD, q2]; rfl⟩
/-- the items of a matrix's list -/
theorem MatD.val {M : Mat} {rs : List Addr} {D : Know} {a : Addr} (hM : MatD D a rs M) {i : Nat} {v : Value} (hv : valV (rs.map Value.ref) i v) : i < M.length ∧ v = .ref (rs.getD i 0) ∧ D (rs.getD i 0) = some (.zs (row M i)) := by
  simp only [valV, List.getElem?_map] at hv
  cases hr : rs[i]? with
  | none => rw [hr] at hv; cases hv
  | some r =>
    rw [hr] at hv; cases hv
    have hi : i < M.length := by rw [← hM.2.1]; exact (List.getElem?_eq_some_iff.mp hr).1
    have e : rs.getD i 0 = r := by rw [List.getD_eq_getElem?_getD, hr]; rfl
    exact ⟨hi, by rw [e], hM.rowAt hi⟩

/-- the roads meet again -/
theorem cut_exec {t : Sem Flow} {P : Shared → Prop} {Q : Flow → Shared → Prop} (h : wpAny (model prog w) A t (fun f s' => f = .next ∧ P s') NoE s) (k : ∀ s', P s' → Q .next s') : wpAny (model prog w) A t Q E s :=
  wpAny_mono h (fun f s' h' => by rw [h'.1]; exact k s' h'.2) fun _ _ x => x.elim

theorem cut_code {c : Code} {P : Shared → Prop} (h : codeAny (model prog w) A c (fun r s' => r = .ok .next ∧ P s') s) (k : ∀ s', P s' → R (.ok .next) s') : codeAny (model prog w) A c R s :=
  codeAny_mono h fun r s' h' => by rw [h'.1]; exact k s' h'.2

/-- a[i] = r, r a new row -/
theorem p_rowT {D₁ : Know} {a r : Addr} {rs : List Addr} {M : Mat} {k : Int} {i n m : Nat} {x : List Int} {Q : Unit → Shared → Prop} (S : Ok Hs se mods env O σ D s) (hM : MatD D₁ a rs M) (hs : Sub D₁ D) (sh : Sh n m M) (hc : Can se mods a) (hk : k = i) (hi : i < n) (hz : n ≤ 1000)
    (hr : D r = some (.zs x)) (h1 : D₁ r = none) (hE : se.heap.get? r = none)
    (hq : ∀ D' s', Trans se D₁ D' a rs (rs.set i r) (M.set i x) → Ok Hs se mods env O σ D' s' → Q () s') : wpAny (model prog w) A (setItem (.ref a) (.int k t) (.ref r)) Q E s := by
  refine p_rowS S (hM.sub hs) sh hc hk hi hz hr fun D3 s' hD3 hM3 hE3 S3 => hq D3 s' ⟨hM3, (hs.ext).trans hE3, fun b hb => ?_, fun q hq => ?_, fun hn => nodup_set i (fun e => hM.notNone e h1) hn⟩ S3
  · have hba : b ≠ a := by rintro rfl; rw [hM3.1] at hb; cases hb
    rw [hD3, upd_ne hba] at hb
    exact hs.none hb
  · rcases List.mem_or_eq_of_mem_set hq with q | q
    · exact .inl q
    · rw [q]; exact .inr ⟨h1, hE⟩

/-- for x in (h, u): one thing done to two matrices -/
theorem loop_mats {x : Str} {px : Pos} {body : List Stmt} {it l h u : Addr} {rh ru : List Addr} {H U H' U' : Mat} (C : Addr → Mat → Mat → Prop)
    (W : Ready prog w A se O it 2 (valV [.ref h, .ref u]) (fun s => Mine.Holds s.heap l (.tup [.ref h, .ref u])) s) (S : Ok Hs se mods env O σ D s) (hl : D l = some (.tup [.ref h, .ref u])) (bx : Bnd prog w A Hs se mods env x)
    (hH : MatD D h rh H) (hU : MatD D u ru U) (hne : h ≠ u) (cH : C h H H') (cU : C u U U')
    (turn : ∀ O' D1 s' a rs M M', (∀ b o, O b = some o → O' b = some o) → C a M M' → MatD D1 a rs M → Ok Hs se mods env O' ((x, .ref a) :: σ) D1 s' →
      wpAny (model prog w) A (execs body env) (fun fl s'' => match fl with
      | .next | .cont => ∃ rs' D'', Trans se D1 D'' a rs rs' M' ∧ Ok Hs se mods env O' σ D'' s''
      | .brk => False
      | .ret _ => False) NoE s')
    (done : ∀ rh' ru' D2 s', Two se D D2 h u rh ru rh' ru' H' U' → Ok Hs se mods env O σ D2 s' → R (.ok .next) s') :
    codeAny (model prog w) A (.forLoop (.Name x px) (.ref it) body [] env) R s := by
  refine loop_pair W S hl bx (fun σ' D' => σ' = σ ∧ ∃ rh', Trans se D D' h rh rh' H') (fun σ' D' => σ' = σ ∧ ∃ rh' ru', Two se D D' h u rh ru rh' ru' H' U') ?_ ?_ ?_
  · intro O' s' hO' S'
    refine wpAny_mono (turn O' D s' h rh H H' hO' cH hH S') (fun fl s'' h2 => ?_) fun _ _ e => e
    cases fl with
    | next => obtain ⟨rs', D'', q1, q2⟩ := h2; exact ⟨σ, D'', ⟨rfl, rs', q1⟩, q1.ext _ _ hl (ne_know hl hH.1 (by intro q; cases q)), q2⟩
    | cont => obtain ⟨rs', D'', q1, q2⟩ := h2; exact ⟨σ, D'', ⟨rfl, rs', q1⟩, q1.ext _ _ hl (ne_know hl hH.1 (by intro q; cases q)), q2⟩
    | brk => exact h2
    | ret v => exact h2
  · rintro O' σ1 D1 s' hO' ⟨rfl, rh', t1⟩ hl1 S'
    have hU1 : MatD D1 u ru U := hU.extAt t1.ext hH.1 (Ne.symm hne)
    refine wpAny_mono (turn O' D1 s' u ru U U' hO' cU hU1 S') (fun fl s'' h2 => ?_) fun _ _ e => e
    cases fl with
    | next => obtain ⟨rs', D'', q1, q2⟩ := h2; exact ⟨σ1, D'', ⟨rfl, rh', rs', t1.two hU hne q1⟩, q1.ext _ _ hl1 (ne_know hl1 hU1.1 (by intro q; cases q)), q2⟩
    | cont => obtain ⟨rs', D'', q1, q2⟩ := h2; exact ⟨σ1, D'', ⟨rfl, rh', rs', t1.two hU hne q1⟩, q1.ext _ _ hl1 (ne_know hl1 hU1.1 (by intro q; cases q)), q2⟩
    | brk => exact h2
    | ret v => exact h2
  · rintro σ2 D2 s' ⟨rfl, rh', ru', h2⟩ S'
    exact done rh' ru' D2 s' h2 S'

theorem Two.trans {D D1 D2 : Know} {h u : Addr} {rh ru rh' ru' rh'' ru'' : List Addr} {H' U' H'' U'' : Mat}
    (t1 : Two se D D1 h u rh ru rh' ru' H' U') (t2 : Two se D1 D2 h u rh' ru' rh'' ru'' H'' U'') : Two se D D2 h u rh ru rh'' ru'' H'' U'' where
  mh := t2.mh
  mu := t2.mu
  ext := t1.ext.trans t2.ext
  grow := fun b hb => t1.grow b (t2.grow b hb)
  oh := fun r hr => by
    rcases t2.oh r hr with q | q
    · exact t1.oh r q
    · exact .inr ⟨t1.grow r q.1, q.2⟩
  ou := fun r hr => by
    rcases t2.ou r hr with q | q
    · exact t1.ou r q
    · exact .inr ⟨t1.grow r q.1, q.2⟩
  nh := fun q => t2.nh (t1.nh q)
  nu := fun q => t2.nu (t1.nu q)
  dis := fun q => t2.dis (t1.dis q)
theorem Two.refl {h u : Addr} {rh ru : List Addr} {H U : Mat} (hH : MatD D h rh H) (hU : MatD D u ru U) : Two se D D h u rh ru rh ru H U :=
  ⟨hH, hU, Ext.refl, fun _ h => h, fun _ h => .inl h, fun _ h => .inl h, id, id, id⟩
/-- something may be new ahead -/
theorem Two.pre {D₀ : Know} {h u : Addr} {rh ru rh' ru' : List Addr} {H' U' : Mat} (hs : Sub D₀ D) (t : Two se D D' h u rh ru rh' ru' H' U') : Two se D₀ D' h u rh ru rh' ru' H' U' where
  mh := t.mh
  mu := t.mu
  ext := hs.ext.trans t.ext
  grow := fun b hb => hs.none (t.grow b hb)
  oh := fun r hr => (t.oh r hr).imp id fun q => ⟨hs.none q.1, q.2⟩
  ou := fun r hr => (t.ou r hr).imp id fun q => ⟨hs.none q.1, q.2⟩
  nh := t.nh
  nu := t.nu
  dis := t.dis
end
end Mine

namespace Mine
theorem nle (n : Nat) : -1000000 ≤ (n : Int) := by lia
theorem nle1 (n : Nat) : -1000000 ≤ (n : Int) + 1 := by lia
theorem ncl {n k : Nat} (h : n ≤ k) (hk : Nat.ble k 1000000 = true) : (n : Int) ≤ 1000000 := Int.ofNat_le.mpr (Nat.le_trans h (Nat.le_of_ble_eq_true hk))
theorem ncl1 {n m k : Nat} (h : n < m) (h' : m ≤ k) (hk : Nat.ble k 1000000 = true) : (n : Int) + 1 ≤ 1000000 := Int.ofNat_le.mpr (Nat.le_trans h (Nat.le_trans h' (Nat.le_of_ble_eq_true hk)))
theorem ncl0 {n m k : Nat} (h : n < m) (h' : m ≤ k) (hk : Nat.ble k 1000000 = true) : (n : Int) ≤ 1000000 := Int.ofNat_le.mpr (Nat.le_trans (Nat.le_of_lt h) (Nat.le_trans h' (Nat.le_of_ble_eq_true hk)))
theorem tns (n k : Nat) : ((n : Int) - ((k : Int) + 1)).toNat = n - (k + 1) := Int.toNat_sub n (k + 1)
theorem tns0 (n : Nat) : ((n : Int) - 0).toNat = n := rfl
theorem lek {n k j : Nat} (h : n ≤ k) (hk : Nat.ble k j = true) : n ≤ j := Nat.le_trans h (Nat.le_of_ble_eq_true hk)
theorem ltk {n m k j : Nat} (h : n < m) (h' : m ≤ k) (hk : Nat.ble k j = true) : n < j := Nat.lt_of_lt_of_le h (Nat.le_trans h' (Nat.le_of_ble_eq_true hk))
/-! pure expressions: what they yield, told without a state -/
structure PX where
  w : World
  A : Around
  Hs : Heap
  se : Shared
  mods : Addr → Prop
  env : Env
  O : Addr → Option Obj
  σ : Vars
  D : Know
noncomputable def PX.Ok (X : PX) (s : Shared) : Prop := Mine.Ok X.Hs X.se X.mods X.env X.O X.σ X.D s
/-- e yields v -/
structure PV (X : PX) (e : Expr) (v : Value) : Prop where
  run : ∀ (Q : Value → Shared → Prop) (E : Value → Shared → Prop) (s : Shared), X.Ok s → (∀ s', X.Ok s' → Q v s') → wpAny (model Pg X.w) X.A (eval e X.env) Q E s
/-- e yields the int i -/
structure PI (X : PX) (e : Expr) (i : Int) : Prop where
  run : ∀ (Q : Value → Shared → Prop) (E : Value → Shared → Prop) (s : Shared), X.Ok s → (∀ t s', X.Ok s' → Q (.int i t) s') → wpAny (model Pg X.w) X.A (eval e X.env) Q E s
/-- the test e comes out b -/
structure PB (X : PX) (e : Expr) (b : Bool) : Prop where
  run : ∀ (Q : Bool → Shared → Prop) (E : Value → Shared → Prop) (s : Shared), X.Ok s → (∀ s', X.Ok s' → Q b s') → wpAny (model Pg X.w) X.A (isTrue e X.env (eval e X.env)) Q E s
/-- these arguments yield these values -/
structure PA (X : PX) (es : List Expr) (f : (Nat → Tok) → List Value) : Prop where
  run : ∀ (pos : Pos) (Q : List Value → Shared → Prop) (E : Value → Shared → Prop) (s : Shared), X.Ok s → (∀ tk s', X.Ok s' → Q (f tk) s') → wpAny (model Pg X.w) X.A (spliced (backTo pos (starEach es X.env))) Q E s

noncomputable def NoStar (e : Expr) : Prop := ∀ (es : List Expr) (env : Env), starEach (e :: es) env = (false, eval e env) :: starEach es env

noncomputable def nameVal (ns : List (Str × NameKind)) (cs : List (Str × Addr)) (σ : Vars) (x : Str) : Option Value :=
  if (x == ("__debug__" : Str)) = true then none else if (x == ("__classdict__" : Str)) = true then none else
  match ns.lookup x with
  | some .local => σ.lookup x
  | some .cell => (match cs.lookup x with | some _ => σ.lookup x | none => none)
  | some .free => (match cs.lookup x with | some _ => σ.lookup x | none => none)
  | _ => none

section
variable {X : PX} {ns : List (Str × NameKind)} {cs : List (Str × Addr)} {mg mb : Str → Option Value} {x : Str} {e l r ea ei ej : Expr} {es : List Expr} {p p' pos : Pos} {k : Nat} {v : Value} {i j a b : Int} {t : Tok}

theorem pv_name (I : EnvIs X.env ns cs) (h : nameVal ns cs X.σ x = some v) : PV X (.Name x pos) v := by
  refine ⟨fun Q E s S k => ?_⟩
  unfold nameVal at h
  split at h
  · cases h
  · rename_i h1
    split at h
    · cases h
    · rename_i h2
      have h1 : (x == ("__debug__" : Str)) = false := by simpa using h1
      have h2 : (x == ("__classdict__" : Str)) = false := by simpa using h2
      split at h
      · rename_i hk; exact nm_local S I hk h (k _ S) h1
      · rename_i hk
        split at h
        · rename_i hc; exact nm_cell S I (.inl hk) hc h (k _ S) h1 h2
        · cases h
      · rename_i hk
        split at h
        · rename_i hc; exact nm_cell S I (.inr hk) hc h (k _ S) h1 h2
        · cases h
      · cases h
theorem PV.int (h : PV X e (.int i t)) : PI X e i := ⟨fun Q E s S k => h.run Q E s S (k t)⟩
theorem pi_name (I : EnvIs X.env ns cs) (h : nameVal ns cs X.σ x = some v) (hv : v = .int i t) : PI X (.Name x pos) i := by subst hv; exact (pv_name I h).int
theorem pi_const : PI X (.Constant (.int i) k pos) i := ⟨fun _ _ _ S k => c_int S k⟩
theorem pv_none : PV X (.Constant .none k pos) .none := ⟨fun _ _ _ S k => c_none (k _ S)⟩
theorem pv_bool {b : Bool} : PV X (.Constant (.bool b) k pos) (.bool b) := ⟨fun _ _ _ S k => c_bool (k _ S)⟩
theorem pi_add (h1 : PI X l a) (h2 : PI X r b) : PI X (.BinOp l .Add r pos) (a + b) := ⟨fun Q E s S k => wpAny_BinOp (h1.run _ _ _ S fun _ _ S => h2.run _ _ _ S fun _ _ S => o_add S k)⟩
theorem pi_sub (h1 : PI X l a) (h2 : PI X r b) : PI X (.BinOp l .Sub r pos) (a - b) := ⟨fun Q E s S k => wpAny_BinOp (h1.run _ _ _ S fun _ _ S => h2.run _ _ _ S fun _ _ S => o_sub S k)⟩
theorem pi_mul (h1 : PI X l a) (h2 : PI X r b) (hm : IntMulOk a b) : PI X (.BinOp l .Mult r pos) (a * b) := ⟨fun Q E s S k => wpAny_BinOp (h1.run _ _ _ S fun _ _ S => h2.run _ _ _ S fun _ _ S => o_mul S hm k)⟩
theorem pi_div (V : Div Pg X.w X.Hs X.A) (h1 : PI X l a) (h2 : PI X r b) (hb : b ≠ 0) : PI X (.BinOp l .FloorDiv r pos) (a.fdiv b) := ⟨fun Q E s S k => wpAny_BinOp (h1.run _ _ _ S fun _ _ S => h2.run _ _ _ S fun _ _ S => o_div S V hb k)⟩
theorem pi_mod (h1 : PI X l a) (h2 : PI X r b) (hb : b ≠ 0) : PI X (.BinOp l .Mod r pos) (a.fmod b) := ⟨fun Q E s S k => wpAny_BinOp (h1.run _ _ _ S fun _ _ S => h2.run _ _ _ S fun _ _ S => o_mod S hb k)⟩
theorem pi_neg (h : PI X e a) : PI X (.UnaryOp .USub e pos) (-a) := ⟨fun Q E s S k => wpAny_UnaryOp (h.run _ _ _ S fun _ _ S => o_neg S k)⟩
/-- a[i], a matrix -/
theorem pv_row {ad : Addr} {rs : List Addr} {M : Mat} {n m q : Nat} (ha : PV X ea (.ref ad)) (hM : MatD X.D ad rs M) (sh : Sh n m M) (hi : PI X ei i) (hq : i = q) (hl : q < n) (hz : n ≤ 1000) (hp : Plain ei) : PV X (.Subscript ea ei pos) (.ref (rs.getD q 0)) :=
  ⟨fun _ _ _ S k => e_sub (ha.run _ _ _ S fun _ S => hi.run _ _ _ S fun _ _ S => t_rowS S hM sh hq hl hz hp (k _ S))⟩
/-- x[j], a list of ints -/
theorem pi_at {ad : Addr} {xs : List Int} {q : Nat} (ha : PV X ea (.ref ad)) (hM : X.D ad = some (.zs xs)) (hi : PI X ei i) (hq : i = q) (hl : q < xs.length) (hz : xs.length ≤ 1000000) (hp : Plain ei) : PI X (.Subscript ea ei pos) (xs.getD q 0) :=
  ⟨fun _ _ _ S k => e_sub (ha.run _ _ _ S fun _ S => hi.run _ _ _ S fun _ _ S => t_el S hM hq hl hz hp fun t => k t _ S)⟩
/-- a[i][j] -/
theorem pi_el {ad : Addr} {rs : List Addr} {M : Mat} {n m q q' : Nat} (ha : PV X ea (.ref ad)) (hM : MatD X.D ad rs M) (sh : Sh n m M) (hi : PI X ei i) (hq : i = q) (hl : q < n) (hz : n ≤ 1000) (hp : Plain ei)
    (hj : PI X ej j) (hq' : j = q') (hl' : q' < m) (hz' : m ≤ 1000) (hp' : Plain ej) : PI X (.Subscript (.Subscript ea ei pos) ej p) (el M q q') :=
  ⟨fun _ _ _ S k => e_sub ((pv_row ha hM sh hi hq hl hz hp).run _ _ _ S fun _ S => hj.run _ _ _ S fun _ _ S => t_elS S hM sh hl hq' hl' hz' hp' fun t => k t _ S)⟩
/-- t[k], a tuple -/
theorem pv_tup {ad : Addr} {vs : List Value} (ha : PV X ea (.ref ad)) (hM : X.D ad = some (.tup vs)) (hi : PI X ei i) (h : vs[i.toNat]? = some v) (h0 : 0 ≤ i) (hz : i < 2 ^ 63) (hp : Plain ei) : PV X (.Subscript ea ei pos) v :=
  ⟨fun _ _ _ S k => e_sub (ha.run _ _ _ S fun _ S => hi.run _ _ _ S fun _ _ S => t_tup S hM h0 h hz hp (k _ S))⟩
theorem pi_tup {ad : Addr} {vs : List Value} (ha : PV X ea (.ref ad)) (hM : X.D ad = some (.tup vs)) (hi : PI X ei i) (h : vs[i.toNat]? = some v) (hv : v = .int j t) (h0 : 0 ≤ i) (hz : i < 2 ^ 63) (hp : Plain ei) : PI X (.Subscript ea ei pos) j := by subst hv; exact (pv_tup ha hM hi h h0 hz hp).int
/-! built-ins -/
theorem nm_b {Q : Value → Shared → Prop} {E : Value → Shared → Prop} {s : Shared} (T : Wd X.w X.Hs mg mb) (I : EnvIs X.env ns cs) (S : X.Ok s) (hk : ns.lookup x = some .globalImplicit) (hx : biNames.contains x = true) (hn : x ≠ "__name__") (hb : bootBuiltins x = some v) (hd : (x == ("__debug__" : Str)) = false) (h : Q v s) :
    wpAny (model Pg X.w) X.A (eval (.Name x p) X.env) Q E s := nm_built S I T.B hk (T.nob hx) ((T.bb x hn).trans hb) h hd
theorem pi_abs (T : Wd X.w X.Hs mg mb) (I : EnvIs X.env ns cs) (hk : ns.lookup ("abs" : Str) = some .globalImplicit) (h : PI X e a) (hs : NoStar e) : PI X (.Call (.Name "abs" p) [e] [] pos) (a.natAbs : Int) := ⟨fun Q E s S k =>
  Call_ (nm_b T I S hk (by decide) (by decide) b_abs (by decide) (callWith_builtin1 (args_cons (h.run _ _ _ S fun _ _ S => args_nil (f_abs S k)) (hs _ _)) (hs _ _) (by rfl))) (by rfl)⟩
theorem pi_len {ad : Addr} {rs : List Addr} {M : Mat} {n m : Nat} (T : Wd X.w X.Hs mg mb) (I : EnvIs X.env ns cs) (hk : ns.lookup ("len" : Str) = some .globalImplicit) (h : PV X e (.ref ad)) (hM : MatD X.D ad rs M) (sh : Sh n m M) (hz : n ≤ 1000) (hs : NoStar e) : PI X (.Call (.Name "len" p) [e] [] pos) n := ⟨fun Q E s S k =>
  Call_ (nm_b T I S hk (by decide) (by decide) b_len (by decide) (callWith_builtin1 (args_cons (h.run _ _ _ S fun _ S => args_nil (f_len_matS S hM sh hz k)) (hs _ _)) (hs _ _) (by rfl))) (by rfl)⟩
theorem pi_lenz {ad : Addr} {xs : List Int} (T : Wd X.w X.Hs mg mb) (I : EnvIs X.env ns cs) (hk : ns.lookup ("len" : Str) = some .globalImplicit) (h : PV X e (.ref ad)) (hM : X.D ad = some (.zs xs)) (hz : xs.length < 2 ^ 63) (hs : NoStar e) : PI X (.Call (.Name "len" p) [e] [] pos) xs.length := ⟨fun Q E s S k =>
  Call_ (nm_b T I S hk (by decide) (by decide) b_len (by decide) (callWith_builtin1 (args_cons (h.run _ _ _ S fun _ S => args_nil (f_len_zs S hM hz k)) (hs _ _)) (hs _ _) (by rfl))) (by rfl)⟩
theorem pi_min (T : Wd X.w X.Hs mg mb) (I : EnvIs X.env ns cs) (hh : X.A.handled = none) (hk : ns.lookup ("min" : Str) = some .globalImplicit) (h1 : PI X l a) (h2 : PI X r b) (hs : NoStar l) (hs2 : NoStar r) : PI X (.Call (.Name "min" p) [l, r] [] pos) (if b < a then b else a) := ⟨fun Q E s S k =>
  Call_ (nm_b T I S hk (by decide) (by decide) b_min (by decide) (callWith_builtin1 (args_cons (h1.run _ _ _ S fun _ _ S => args_cons (h2.run _ _ _ S fun _ _ S => args_nil (f_min S hh k)) (hs2 _ _)) (hs _ _)) (hs _ _) (by rw [hs2]; rfl))) (by rfl)⟩
/-! tests -/
theorem pb_eq (h1 : PI X l a) (h2 : PI X r b) (hm : behindInMarks .Eq r = false) : PB X (.Compare l [.Eq] [r] pos) (decide (a = b)) := ⟨fun Q E s S k => wpAny_isTrue_Compare1 (h1.run _ _ _ S fun _ _ S => h2.run _ _ _ S fun _ _ S => q_eq (q_truth (k _ S))) hm⟩
theorem pb_ne (h1 : PI X l a) (h2 : PI X r b) (hm : behindInMarks .NotEq r = false) : PB X (.Compare l [.NotEq] [r] pos) (decide (a ≠ b)) := ⟨fun Q E s S k => wpAny_isTrue_Compare1 (h1.run _ _ _ S fun _ _ S => h2.run _ _ _ S fun _ _ S => q_ne (q_truth (k _ S))) hm⟩
theorem pb_lt (h1 : PI X l a) (h2 : PI X r b) (hm : behindInMarks .Lt r = false) : PB X (.Compare l [.Lt] [r] pos) (decide (a < b)) := ⟨fun Q E s S k => wpAny_isTrue_Compare1 (h1.run _ _ _ S fun _ _ S => h2.run _ _ _ S fun _ _ S => q_lt (q_truth (k _ S))) hm⟩
theorem pb_le (h1 : PI X l a) (h2 : PI X r b) (hm : behindInMarks .LtE r = false) : PB X (.Compare l [.LtE] [r] pos) (decide (a ≤ b)) := ⟨fun Q E s S k => wpAny_isTrue_Compare1 (h1.run _ _ _ S fun _ _ S => h2.run _ _ _ S fun _ _ S => q_le (q_truth (k _ S))) hm⟩
theorem pb_gt (h1 : PI X l a) (h2 : PI X r b) (hm : behindInMarks .Gt r = false) : PB X (.Compare l [.Gt] [r] pos) (decide (b < a)) := ⟨fun Q E s S k => wpAny_isTrue_Compare1 (h1.run _ _ _ S fun _ _ S => h2.run _ _ _ S fun _ _ S => q_gt (q_truth (k _ S))) hm⟩
theorem pb_ge (h1 : PI X l a) (h2 : PI X r b) (hm : behindInMarks .GtE r = false) : PB X (.Compare l [.GtE] [r] pos) (decide (b ≤ a)) := ⟨fun Q E s S k => wpAny_isTrue_Compare1 (h1.run _ _ _ S fun _ _ S => h2.run _ _ _ S fun _ _ S => q_ge (q_truth (k _ S))) hm⟩
theorem pb_not {b : Bool} (h : PB X e b) : PB X (.UnaryOp .Not e pos) (!b) := ⟨fun Q E s S k => wpAny_isTrue_Not (h.run _ _ _ S k)⟩
/-! arguments -/
theorem pa_nil : PA X [] (fun _ => []) := ⟨fun _ _ _ _ S k => args_nil (k (fun _ => default) _ S)⟩
theorem pa_int {f : (Nat → Tok) → List Value} (h : PI X e i) (h2 : PA X es f) (hs : NoStar e) : PA X (e :: es) (fun tk => .int i (tk 0) :: f fun n => tk (n + 1)) := ⟨fun _ _ _ _ S k =>
  args_cons (h.run _ _ _ S fun t _ S => h2.run _ _ _ _ S fun tk _ S => k (fun n => match n with | 0 => t | n + 1 => tk n) _ S) (hs _ _)⟩
theorem pa_val {f : (Nat → Tok) → List Value} (h : PV X e v) (h2 : PA X es f) (hs : NoStar e) : PA X (e :: es) (fun tk => v :: f tk) := ⟨fun _ _ _ _ S k =>
  args_cons (h.run _ _ _ S fun _ S => h2.run _ _ _ _ S fun tk _ S => k tk _ S) (hs _ _)⟩
end
section
variable {w : World} {A : Around} {E : Value → Shared → Prop} {Hs : Heap} {se s : Shared} {mods : Addr → Prop} {env : Env} {O : Addr → Option Obj} {σ : Vars} {D : Know} {mg mb : Str → Option Value}
variable {ns : List (Str × NameKind)} {cs : List (Str × Addr)} {x : Str} {e e1 e2 : Expr} {es : List Expr} {p pos : Pos} {v : Value} {a b i : Int}
theorem PI.use {Q : Value → Shared → Prop} (S : Ok Hs se mods env O σ D s) (h : PI ⟨w, A, Hs, se, mods, env, O, σ, D⟩ e i) (k : ∀ t s', Ok Hs se mods env O σ D s' → Q (.int i t) s') : wpAny (model Pg w) A (eval e env) Q E s := h.run Q E s S k
theorem PV.use {Q : Value → Shared → Prop} (S : Ok Hs se mods env O σ D s) (h : PV ⟨w, A, Hs, se, mods, env, O, σ, D⟩ e v) (k : ∀ s', Ok Hs se mods env O σ D s' → Q v s') : wpAny (model Pg w) A (eval e env) Q E s := h.run Q E s S k
theorem PB.use {c : Bool} {Q : Bool → Shared → Prop} (S : Ok Hs se mods env O σ D s) (h : PB ⟨w, A, Hs, se, mods, env, O, σ, D⟩ e c) (k : ∀ s', Ok Hs se mods env O σ D s' → Q c s') : wpAny (model Pg w) A (isTrue e env (eval e env)) Q E s := h.run Q E s S k
theorem ev_range1 {Q : Value → Shared → Prop} (S : Ok Hs se mods env O σ D s) (T : Wd w Hs mg mb) (I : EnvIs env ns cs) (hk : ns.lookup ("range" : Str) = some .globalImplicit) (h : PI ⟨w, A, Hs, se, mods, env, O, σ, D⟩ e a) (hs : NoStar e)
    (k : ∀ r s', Ok Hs se mods env O σ D s' → (∃ t u v, IsRange s'.heap r 0 a 1 t u v) → Q (.ref r) s') : wpAny (model Pg w) A (eval (.Call (.Name "range" p) [e] [] pos) env) Q E s :=
  Call_ (nm_b (X := ⟨w, A, Hs, se, mods, env, O, σ, D⟩) T I S hk (by decide) (by decide) b_range (by decide) (callWith_type1 (args_cons (h.run _ _ _ S fun _ _ S => args_nil (f_range1 S k)) (hs _ _)) (hs _ _) (by rfl))) (by rfl)
theorem ev_range2 {Q : Value → Shared → Prop} (S : Ok Hs se mods env O σ D s) (T : Wd w Hs mg mb) (I : EnvIs env ns cs) (hk : ns.lookup ("range" : Str) = some .globalImplicit) (h1 : PI ⟨w, A, Hs, se, mods, env, O, σ, D⟩ e1 a) (h2 : PI ⟨w, A, Hs, se, mods, env, O, σ, D⟩ e2 b) (hs : NoStar e1) (hs2 : NoStar e2)
    (k : ∀ r s', Ok Hs se mods env O σ D s' → (∃ t u v, IsRange s'.heap r a b 1 t u v) → Q (.ref r) s') : wpAny (model Pg w) A (eval (.Call (.Name "range" p) [e1, e2] [] pos) env) Q E s :=
  Call_ (nm_b (X := ⟨w, A, Hs, se, mods, env, O, σ, D⟩) T I S hk (by decide) (by decide) b_range (by decide) (callWith_type1 (args_cons (h1.run _ _ _ S fun _ _ S => args_cons (h2.run _ _ _ S fun _ _ S => args_nil (f_range2 S k)) (hs2 _ _)) (hs _ _)) (hs _ _) (by rw [hs2]; rfl))) (by rfl)
/-- a call of the program's own -/
theorem ev_call {f : (Nat → Tok) → List Value} {Q : Value → Shared → Prop} (S : Ok Hs se mods env O σ D s) (T : Wd w Hs mg mb) (I : EnvIs env ns cs) (hk : ns.lookup x = some .globalImplicit) (hx : fnNames.contains x = true) (hd : (x == ("__debug__" : Str)) = false) (h : PA ⟨w, A, Hs, se, mods, env, O, σ, D⟩ (e :: es) f) (hs : NoStar e)
    (k : ∀ tk s', Ok Hs se mods env O σ D s' → wpAny (model Pg w) A (call (.ref (fad mg x)) (f tk)) Q E s') : wpAny (model Pg w) A (eval (.Call (.Name x p) (e :: es) [] pos) env) Q E s :=
  Call_ (nm_glob S I T.B hk (T.glob hx) (cwW T hx (h.run _ _ _ _ S fun tk s' S' => ⟨S'.stat, k tk s' S'⟩) (hs _ _)) hd) (by rfl)
/-- x = e, an int -/
theorem sx_int {rest : List Stmt} {Q : Flow → Shared → Prop} (S : Ok Hs se mods env O σ D s) (I : EnvIs env ns cs) (hk : ns.lookup x = some .local) (h : PI ⟨w, A, Hs, se, mods, env, O, σ, D⟩ e i) (hs : swapsWith e (some (.Name x p)) pos.line env = pure false)
    (k : ∀ t s', Ok Hs se mods env O ((x, .int i t) :: σ) D s' → wpAny (model Pg w) A (execs rest env) Q E s') : wpAny (model Pg w) A (execs (.Assign [.Name x p] e pos :: rest) env) Q E s :=
  wpAny_execs_cons (wpAny_Assign_Name (h.run _ _ _ S fun t _ S => st_local S I hk fun s' S => k t s' S) hs)
end
end Mine

namespace Mine

/-- a matrix went on, its rows perhaps in place -/
structure Chg (se : Shared) (D D' : Know) (a : Addr) (rs rs' : List Addr) (M' : Mat) : Prop where
  mat : MatD D' a rs' M'
  ext : Ext (fun b => b = a ∨ b ∈ rs) D D'
  rows : ∀ r ∈ rs', r ∈ rs ∨ (D r = none ∧ se.heap.get? r = none)
  nd : rs.Nodup → rs'.Nodup
theorem Trans.chg {se : Shared} {D D' : Know} {a : Addr} {rs rs' : List Addr} {M' : Mat} (t : Trans se D D' a rs rs' M') : Chg se D D' a rs rs' M' :=
  ⟨t.mat, t.ext.mono fun _ => .inl, t.rows, t.nd⟩

/-- three matrices that share nothing, all ours -/
structure SUV (P : Addr → Prop) (D : Know) (s u v : Addr) (rs ru rv : List Addr) (S U V : Mat) : Prop where
  ms : MatD D s rs S
  mu : MatD D u ru U
  mv : MatD D v rv V
  ns : rs.Nodup
  nu : ru.Nodup
  nv : rv.Nodup
  su : ∀ r ∈ rs, r ∉ ru
  sv : ∀ r ∈ rs, r ∉ rv
  uv : ∀ r ∈ ru, r ∉ rv
  hsu : s ≠ u
  hsv : s ≠ v
  huv : u ≠ v
  os : P s ∧ ∀ r ∈ rs, P r
  ou : P u ∧ ∀ r ∈ ru, P r
  ov : P v ∧ ∀ r ∈ rv, P r

section
variable {P : Addr → Prop} {D D' : Know} {s u v : Addr} {rs ru rv rs' : List Addr} {S U V S' : Mat} {se : Shared}
theorem SUV.swap12 (h : SUV P D s u v rs ru rv S U V) : SUV P D u s v ru rs rv U S V :=
  ⟨h.mu, h.ms, h.mv, h.nu, h.ns, h.nv, fun r h1 h2 => h.su r h2 h1, h.uv, h.sv, Ne.symm h.hsu, h.huv, h.hsv, h.ou, h.os, h.ov⟩
theorem SUV.swap23 (h : SUV P D s u v rs ru rv S U V) : SUV P D s v u rs rv ru S V U :=
  ⟨h.ms, h.mv, h.mu, h.ns, h.nv, h.nu, h.sv, h.su, fun r h1 h2 => h.uv r h2 h1, h.hsv, h.hsu, Ne.symm h.huv, h.os, h.ov, h.ou⟩
theorem SUV.sub (h : SUV P D s u v rs ru rv S U V) (hs : Sub D D') : SUV P D' s u v rs ru rv S U V :=
  { h with ms := h.ms.sub hs, mu := h.mu.sub hs, mv := h.mv.sub hs }
theorem SUV.mono {P' : Addr → Prop} (h : SUV P D s u v rs ru rv S U V) (hp : ∀ b, P b → P' b) : SUV P' D s u v rs ru rv S U V :=
  { h with os := ⟨hp _ h.os.1, fun r q => hp _ (h.os.2 r q)⟩, ou := ⟨hp _ h.ou.1, fun r q => hp _ (h.ou.2 r q)⟩, ov := ⟨hp _ h.ov.1, fun r q => hp _ (h.ov.2 r q)⟩ }
theorem MatD.notIn {a b : Addr} {ra rb : List Addr} {A B : Mat} (ha : MatD D a ra A) (hb : MatD D b rb B) : a ∉ rb := fun q => by
  obtain ⟨x, hx⟩ := hb.known q
  rw [ha.1] at hx; cases hx
theorem MatD.chg {a b : Addr} {ra rb rb' : List Addr} {A B' : Mat} (ha : MatD D a ra A) (hb : MatD D b rb B') {M' : Mat} (t : Chg se D D' b rb rb' M') (hne : a ≠ b) (hd : ∀ r ∈ ra, r ∉ rb) : MatD D' a ra A :=
  ha.ext t.ext (fun q => q.elim hne (ha.notIn hb)) fun r hr q => q.elim (fun e => by
    obtain ⟨x, hx⟩ := ha.known hr
    rw [e, hb.1] at hx; cases hx) (hd r hr)
theorem SUV.chg (h : SUV P D s u v rs ru rv S U V) (t : Chg se D D' s rs rs' S') (hP : ∀ r, se.heap.get? r = none → P r) : SUV P D' s u v rs' ru rv S' U V where
  ms := t.mat
  mu := h.mu.chg h.ms t (Ne.symm h.hsu) fun r q z => h.su r z q
  mv := h.mv.chg h.ms t (Ne.symm h.hsv) fun r q z => h.sv r z q
  ns := t.nd h.ns
  nu := h.nu
  nv := h.nv
  su := fun r hr q => by
    rcases t.rows r hr with z | z
    · exact h.su r z q
    · exact h.mu.notNone q z.1
  sv := fun r hr q => by
    rcases t.rows r hr with z | z
    · exact h.sv r z q
    · exact h.mv.notNone q z.1
  uv := h.uv
  hsu := h.hsu
  hsv := h.hsv
  huv := h.huv
  os := ⟨h.os.1, fun r hr => (t.rows r hr).elim (h.os.2 r) fun q => hP r q.2⟩
  ou := h.ou
  ov := h.ov
theorem SUV.extP (h : SUV P D s u v rs ru rv S U V) (t : Chg se D D' s rs rs' S') : Ext P D D' := t.ext.mono fun b q => q.elim (fun e => e ▸ h.os.1) fun q => h.os.2 b q
theorem Chg.pre {D₀ : Know} {a : Addr} (hs : Sub D₀ D) (t : Chg se D D' a rs rs' S') : Chg se D₀ D' a rs rs' S' := ⟨t.mat, hs.ext.trans t.ext, fun r hr => (t.rows r hr).imp id fun q => ⟨hs.none q.1, q.2⟩, t.nd⟩
end

/-- what a called def may change: what is ours and known -/
noncomputable def Own (se : Shared) (mods : Addr → Prop) (D : Know) (b : Addr) : Prop := Can se mods b ∧ ∃ c, D b = some c
theorem MatD.own {P : Addr → Prop} {D : Know} {a : Addr} {ra : List Addr} {A : Mat} (h : MatD D a ra A) (o : P a ∧ ∀ r ∈ ra, P r) {s : Shared} : Can s (fun b => P b ∧ ∃ c, D b = some c) a ∧ ∀ r ∈ ra, Can s (fun b => P b ∧ ∃ c, D b = some c) r :=
  ⟨.inl ⟨o.1, _, h.1⟩, fun r hr => .inl ⟨o.2 r hr, (h.known hr).elim fun y hy => ⟨_, hy⟩⟩⟩
theorem SUV.into {se s : Shared} {mods : Addr → Prop} {D : Know} {a1 a2 a3 : Addr} {r1 r2 r3 : List Addr} {M1 M2 M3 : Mat} (X : SUV (Can se mods) D a1 a2 a3 r1 r2 r3 M1 M2 M3) : SUV (Can s (Own se mods D)) D a1 a2 a3 r1 r2 r3 M1 M2 M3 :=
  { X with os := X.ms.own X.os, ou := X.mu.own X.ou, ov := X.mv.own X.ov }
theorem Ok.ownBack {Hs : Heap} {se s : Shared} {mods : Addr → Prop} {env : Env} {O : Addr → Option Obj} {σ : Vars} {D : Know} (S : Ok Hs se mods env O σ D s) : ∀ b, Can s (Own se mods D) b → Can se mods b := fun b hb => hb.elim (fun q => q.1) fun q => S.canOf q

section
variable {prog : Program} {w : World} {A : Around} {E : Value → Shared → Prop} {R : Result → Shared → Prop}
variable {Hs : Heap} {se s : Shared} {mods : Addr → Prop} {env : Env} {O : Addr → Option Obj} {σ σ' : Vars} {D D' : Know} {mg mb : Str → Option Value}
variable {ns : List (Str × NameKind)} {cs : List (Str × Addr)} {t : Tok}

/-- l[i] = x, ints -/
theorem p_el {l : Addr} {xs : List Int} {k x : Int} {i : Nat} {u : Tok} {Q : Unit → Shared → Prop} (S : Ok Hs se mods env O σ D s) (hl : D l = some (.zs xs)) (hc : Can se mods l) (hk : k = i) (hi : i < xs.length) (hz : xs.length ≤ 1000000)
    (h : ∀ s', Ok Hs se mods env O σ (upd D l (.zs (xs.set i x))) s' → Q () s') : wpAny (model prog w) A (setItem (.ref l) (.int k t) (.int x u)) Q E s := by
  subst hk
  refine p_zs S hl hc (by omega) (by omega) (by omega) fun s' S' => ?_
  rw [Int.toNat_natCast] at S'
  exact h s' S'
/-- a[i] = r -/
theorem p_refs {l r : Addr} {rs : List Addr} {k : Int} {i : Nat} {Q : Unit → Shared → Prop} (S : Ok Hs se mods env O σ D s) (hl : D l = some (.refs rs)) (hc : Can se mods l) (hk : k = i) (hi : i < rs.length) (hz : rs.length ≤ 1000000)
    (h : ∀ s', Ok Hs se mods env O σ (upd D l (.refs (rs.set i r))) s' → Q () s') : wpAny (model prog w) A (setItem (.ref l) (.int k t) (.ref r)) Q E s := by
  subst hk
  refine p_vals S hl hc (by omega) (by simp; omega) (by omega) fun s' S' => ?_
  rw [Int.toNat_natCast, ← List.map_set] at S'
  exact h s' S'
theorem swap_perm {rs : List Addr} {i k : Nat} (hi : i < rs.length) (hk : k < rs.length) : ((rs.set i (rs.getD k 0)).set k (rs.getD i 0)).Perm rs := by
  rw [List.getD_eq_getElem?_getD, List.getD_eq_getElem?_getD, List.getElem?_eq_getElem hi, List.getElem?_eq_getElem hk]
  exact List.set_set_perm hi hk
theorem chg_swap {D₀ D₁ : Know} {a : Addr} {rs : List Addr} {M : Mat} {i k n m : Nat} (hM : MatD D a rs M) (sh : Sh n m M) (hi : i < n) (hk : k < n) (hs : Sub D D₀) (h1 : Ext (· = a) D₀ D₁) (h2 : D₁ a = some (.refs ((rs.set i (rs.getD k 0)).set k (rs.getD i 0)))) :
    Chg se D D₁ a rs ((rs.set i (rs.getD k 0)).set k (rs.getD i 0)) (swapRows M i k) := by
  have hl : rs.length = n := hM.2.1.trans sh.1
  have hp := swap_perm (rs := rs) (i := i) (k := k) (by omega) (by omega)
  refine ⟨⟨h2, by simp [swapRows, hM.2.1], fun j r y e1 e2 => ?_⟩, hs.ext.trans (h1.mono fun _ => .inl), fun r hr => .inl (hp.mem_iff.mp hr), fun hn => hp.nodup_iff.mpr hn⟩
  have lift : ∀ q z, D q = some (.zs z) → D₁ q = some (.zs z) := fun q z e => h1 _ _ (hs _ _ e) (by rintro rfl; rw [hM.1] at e; cases e)
  have ri := lift _ _ (hM.rowAt (i := i) (by rw [sh.1]; exact hi))
  have rk := lift _ _ (hM.rowAt (i := k) (by rw [sh.1]; exact hk))
  unfold swapRows at e2
  by_cases hjk : k = j
  · subst hjk
    rw [List.getElem?_set_self (by simp; omega)] at e1
    rw [List.getElem?_set_self (by simp [sh.1]; omega)] at e2
    cases e1; cases e2; exact ri
  · rw [List.getElem?_set_ne hjk] at e1 e2
    by_cases hji : i = j
    · subst hji
      rw [List.getElem?_set_self (by omega)] at e1
      rw [List.getElem?_set_self (by rw [sh.1]; omega)] at e2
      cases e1; cases e2; exact rk
    · rw [List.getElem?_set_ne hji] at e1 e2
      exact lift _ _ (hM.2.2 j r y e1 e2)
/-- for x in a: each row in place -/
theorem loop_rows {x : Str} {px : Pos} {body : List Stmt} {it a : Addr} {rs : List Addr} {M : Mat} {f : List Int → List Int} {n : Nat} {val : Nat → Value → Prop}
    (W : Ready prog w A se O it n val (fun s => Mine.Holds s.heap a (.refs rs)) s) (hn : n = M.length) (hval : ∀ i v, val i v → v = .ref (rs.getD i 0)) (S : Ok Hs se mods env O σ D s) (hM : MatD D a rs M) (hnd : rs.Nodup) (bx : Bnd prog w A Hs se mods env x)
    (turn : ∀ i O' D1 s', i < M.length → (∀ b o, O b = some o → O' b = some o) → D1 (rs.getD i 0) = some (.zs (row M i)) → Ext (· ∈ rs) D D1 → Ok Hs se mods env O' ((x, .ref (rs.getD i 0)) :: σ) D1 s' →
      wpAny (model prog w) A (execs body env) (fun fl s'' => match fl with
      | .next | .cont => ∃ D'', D'' (rs.getD i 0) = some (.zs (f (row M i))) ∧ Ext (· = rs.getD i 0) D1 D'' ∧ Ok Hs se mods env O' σ D'' s''
      | .brk => False
      | .ret _ => False) NoE s')
    (done : ∀ D' s', MatD D' a rs (M.map f) → Ext (· ∈ rs) D D' → Ok Hs se mods env O σ D' s' → R (.ok .next) s') :
    codeAny (model prog w) A (.forLoop (.Name x px) (.ref it) body [] env) R s := by
  subst hn
  have hget : ∀ i, i < M.length → rs[i]? = some (rs.getD i 0) := fun i hi => by
    have : i < rs.length := by rw [hM.2.1]; exact hi
    rw [List.getD_eq_getElem?_getD, List.getElem?_eq_getElem this]; rfl
  refine loop_over W S bx (fun j σ' D' => σ' = σ ∧ Ext (· ∈ rs) D D' ∧ ∀ i, i < M.length → D' (rs.getD i 0) = some (.zs (if i < j then f (row M i) else row M i))) ⟨rfl, Ext.refl, fun i hi => by simpa using hM.rowAt hi⟩
    (fun i σ' D' s' h S' => S'.know _ _ (h.2.1 _ _ hM.1 (hM.notIn hM))) ?_ ?_
  · rintro i v O' σ' D1 s1 hi hv hO' ⟨rfl, hX, hrow⟩ S1
    rw [hval i v hv] at S1
    refine wpAny_mono (turn i O' D1 s1 hi hO' (by simpa using hrow i hi) hX S1) (fun fl s2 h2 => ?_) fun _ _ e => e
    have fin : (∃ D'', D'' (rs.getD i 0) = some (.zs (f (row M i))) ∧ Ext (· = rs.getD i 0) D1 D'' ∧ Ok Hs se mods env O' σ' D'' s2) → ∃ σ'' D'', (σ'' = σ' ∧ Ext (· ∈ rs) D D'' ∧ ∀ k, k < M.length → D'' (rs.getD k 0) = some (.zs (if k < i + 1 then f (row M k) else row M k))) ∧ Ok Hs se mods env O' σ'' D'' s2 := by
      rintro ⟨D'', q1, q2, q3⟩
      refine ⟨σ', D'', ⟨rfl, hX.trans (q2.mono fun b e => by rw [e]; exact List.mem_of_getElem? (hget i hi)), fun k hk => ?_⟩, q3⟩
      by_cases hki : k = i
      · subst hki; rw [if_pos (Nat.lt_succ_self _)]; exact q1
      · have hne : rs.getD k 0 ≠ rs.getD i 0 := fun e => hki (by
          have h1 := hget k hk
          have h2 := hget i hi
          rw [e, ← h2] at h1
          exact (List.getElem?_inj (by rw [hM.2.1]; exact hk) hnd).mp h1)
        have := q2 _ _ (hrow k hk) hne
        rw [this]
        by_cases hlt : k < i
        · rw [if_pos hlt, if_pos (by omega)]
        · rw [if_neg hlt, if_neg (by omega)]
    cases fl with
    | next => exact fin h2
    | cont => exact fin h2
    | brk => exact h2.elim
    | ret v => exact h2.elim
  · rintro σ' D1 s1 ⟨rfl, hX, hrow⟩ S1
    refine done D1 s1 ⟨hX _ _ hM.1 (hM.notIn hM), by simp [hM.2.1], fun i r y h1 h2 => ?_⟩ hX S1
    have hi : i < M.length := by rw [← hM.2.1]; exact (List.getElem?_eq_some_iff.mp h1).1
    have e : rs.getD i 0 = r := by have := hget i hi; rw [h1] at this; injection this with this; exact this.symm
    rw [← e, hrow i hi, if_pos hi]
    rw [List.getElem?_map, List.getElem?_eq_getElem hi] at h2
    cases h2
    unfold row; rw [List.getD_eq_getElem?_getD, List.getElem?_eq_getElem hi]; rfl

/-- for x in (s, u): a change each -/
theorem loop_su {x : Str} {px : Pos} {body : List Stmt} {it l a1 a2 a3 : Addr} {r1 r2 r3 : List Addr} {M1 M2 M3 N1 N2 : Mat} {P : Addr → Prop} (C : Addr → Mat → Mat → Prop)
    (W : Ready prog w A se O it 2 (valV [.ref a1, .ref a2]) (fun s => Mine.Holds s.heap l (.tup [.ref a1, .ref a2])) s) (S : Ok Hs se mods env O σ D s) (hl : D l = some (.tup [.ref a1, .ref a2])) (bx : Bnd prog w A Hs se mods env x)
    (X : SUV P D a1 a2 a3 r1 r2 r3 M1 M2 M3) (hP : ∀ r, se.heap.get? r = none → P r) (c1 : C a1 M1 N1) (c2 : C a2 M2 N2)
    (turn : ∀ O' D1 s' a rs M M', (∀ b o, O b = some o → O' b = some o) → C a M M' → MatD D1 a rs M → rs.Nodup → (P a ∧ ∀ r ∈ rs, P r) → Ok Hs se mods env O' ((x, .ref a) :: σ) D1 s' →
      wpAny (model prog w) A (execs body env) (fun fl s'' => match fl with
      | .next | .cont => ∃ rs' D'', Chg se D1 D'' a rs rs' M' ∧ Ok Hs se mods env O' σ D'' s''
      | .brk => False
      | .ret _ => False) NoE s')
    (done : ∀ r1' r2' D2 s', SUV P D2 a1 a2 a3 r1' r2' r3 N1 N2 M3 → Ext P D D2 → Ok Hs se mods env O σ D2 s' → R (.ok .next) s') :
    codeAny (model prog w) A (.forLoop (.Name x px) (.ref it) body [] env) R s := by
  have keepL : ∀ {D1 D2 : Know} {a : Addr} {rs rs' : List Addr} {M M' : Mat}, MatD D1 a rs M → D1 l = some (.tup [.ref a1, .ref a2]) → Chg se D1 D2 a rs rs' M' → D2 l = some (.tup [.ref a1, .ref a2]) := fun hM h1 t =>
    t.ext _ _ h1 fun q => q.elim (fun e => by rw [e, hM.1] at h1; cases h1) fun q => by
      obtain ⟨x, hx⟩ := hM.known q
      rw [h1] at hx; cases hx
  refine loop_pair W S hl bx (fun σ' D' => σ' = σ ∧ ∃ r1', SUV P D' a1 a2 a3 r1' r2 r3 N1 M2 M3 ∧ Ext P D D') (fun σ' D' => σ' = σ ∧ ∃ r1' r2', SUV P D' a1 a2 a3 r1' r2' r3 N1 N2 M3 ∧ Ext P D D') ?_ ?_ ?_
  · intro O' s' hO' S'
    refine wpAny_mono (turn O' D s' a1 r1 M1 N1 hO' c1 X.ms X.ns X.os S') (fun fl s'' h2 => ?_) fun _ _ e => e
    cases fl with
    | next => obtain ⟨rs', D'', q1, q2⟩ := h2; exact ⟨σ, D'', ⟨rfl, rs', X.chg q1 hP, X.extP q1⟩, keepL X.ms hl q1, q2⟩
    | cont => obtain ⟨rs', D'', q1, q2⟩ := h2; exact ⟨σ, D'', ⟨rfl, rs', X.chg q1 hP, X.extP q1⟩, keepL X.ms hl q1, q2⟩
    | brk => exact h2
    | ret v => exact h2
  · rintro O' σ1 D1 s' hO' ⟨rfl, r1', X1, hE1⟩ hl1 S'
    refine wpAny_mono (turn O' D1 s' a2 r2 M2 N2 hO' c2 X1.mu X1.nu X1.ou S') (fun fl s'' h2 => ?_) fun _ _ e => e
    cases fl with
    | next => obtain ⟨rs', D'', q1, q2⟩ := h2; exact ⟨σ1, D'', ⟨rfl, r1', rs', (X1.swap12.chg q1 hP).swap12, hE1.trans (X1.swap12.extP q1)⟩, keepL X1.mu hl1 q1, q2⟩
    | cont => obtain ⟨rs', D'', q1, q2⟩ := h2; exact ⟨σ1, D'', ⟨rfl, r1', rs', (X1.swap12.chg q1 hP).swap12, hE1.trans (X1.swap12.extP q1)⟩, keepL X1.mu hl1 q1, q2⟩
    | brk => exact h2
    | ret v => exact h2
  · rintro σ2 D2 s' ⟨rfl, r1', r2', h2, h3⟩ S'
    exact done r1' r2' D2 s' h2 h3 S'
end
end Mine

namespace Mine
theorem Rm.units {A : Around} {n : Nat} (R : Rm A n) : A.units + 1 < cLine := by have := R.un; unfold cLine; lia
theorem ints_list {h : Heap} {l : Addr} {xs : List Int} (x : Holds h l (.zs xs)) : ∃ vs, h.IsList l vs ∧ vs.size = xs.length ∧ ∀ j (h1 : j < vs.size), ∃ t, vs[j] = .int (xs.getD j 0) t := by
  obtain ⟨vs, h1, h2⟩ := x
  have hl : vs.size = xs.length := by rw [← Array.length_toList]; exact IntsAre.len h2
  refine ⟨vs, h1, hl, fun j hj => ?_⟩
  obtain ⟨t, ht⟩ := IntsAre.at h2 (i := j) (v := vs[j]) (by simp [hj])
  exact ⟨t, ht⟩
theorem all_eq {xs ys : List Int} (h : xs.length = ys.length) : (List.range xs.length).all (fun j => xs.getD j 0 == ys.getD j 0) = decide (xs = ys) := by
  rw [Bool.eq_iff_iff]
  simp only [List.all_eq_true, List.mem_range, beq_iff_eq, decide_eq_true_eq]
  constructor
  · intro q
    refine List.ext_getElem h fun i h1 h2 => ?_
    have := q i h1
    simpa [List.getD_eq_getElem?_getD, h1, h2] using this
  · rintro rfl _ _; rfl
theorem eqAt_zs {A : Around} {s : Shared} {l b : Addr} {xs ys : List Int} (hl : Holds s.heap l (.zs xs)) (hb : Holds s.heap b (.zs ys)) (hne : l ≠ b) (hu : A.units < cLine) : SeqAt.EqAt A s (.ref l) (.ref b) (decide (xs = ys)) := by
  obtain ⟨vs, h1, h2, h3⟩ := ints_list hl
  obtain ⟨ws, k1, k2, k3⟩ := ints_list hb
  refine SeqAt.EqAt.of_refs hne ?_
  by_cases h : xs.length = ys.length
  · rw [← all_eq h, ← h2]
    refine SeqAt.RcAt.lists h1 k1 (by lia) hu fun j a1 a2 => ?_
    obtain ⟨t, ht⟩ := h3 j a1
    obtain ⟨u, hu⟩ := k3 j a2
    rw [ht, hu]; exact SeqAt.EqAt.int_int _ _ _ _
  · rw [decide_eq_false (by rintro rfl; exact h rfl)]
    exact SeqAt.RcAt.lists_lengths h1 k1 (by simp; lia) hu

section
variable {prog : Program} {w : World} {A : Around} {E : Value → Shared → Prop} {R : Result → Shared → Prop}
variable {Hs : Heap} {se s : Shared} {mods : Addr → Prop} {env : Env} {O : Addr → Option Obj} {σ σ' : Vars} {D D' : Know} {mg mb : Str → Option Value}

theorem cell_list {l : Addr} {c : Cell} {n : Nat} (x : Holds s.heap l c) (h : (∃ xs, c = .zs xs ∧ xs.length = n) ∨ ∃ vs, c = .vals vs ∧ vs.length = n) : ∃ items, s.heap.IsList l items ∧ items.size = n := by
  rcases h with ⟨xs, rfl, rfl⟩ | ⟨vs, rfl, rfl⟩
  · obtain ⟨vs, h1, h2, _⟩ := ints_list x; exact ⟨vs, h1, h2⟩
  · exact ⟨_, x, by simp⟩
/-- l != [] -/
theorem q_ne_nil {l b : Addr} {c : Cell} {n k : Nat} {Q : Value → Shared → Prop} (S : Ok Hs se mods env O σ D s) (Rr : Rm A k) (hl : D l = some c) (hb : D b = some (.vals [])) (hc : (∃ xs, c = .zs xs ∧ xs.length = n) ∨ ∃ vs, c = .vals vs ∧ vs.length = n)
    (h : Q (.bool (decide (n ≠ 0))) s) : wpAny (model prog w) A (compareOp .NotEq (.ref l) (.ref b)) Q E s := by
  obtain ⟨items, h1, h2⟩ := cell_list (S.know l c hl) hc
  have hu := Rr.units
  have hb' : s.heap.IsList b #[] := S.know b _ hb
  by_cases hn : n = 0
  · refine EqBoolInt.of_rcne (SeqAt.RcNeAt.lists (e := fun _ => true) h1 hb' (by rw [h2, hn]; rfl) (by lia) fun j _ h => absurd h (Nat.not_lt_zero _)) ?_
    rw [h2, hn]; rw [hn] at h; exact h
  · refine EqBoolInt.of_rcne (SeqAt.RcNeAt.lists_lengths h1 hb' (by simp [h2]; lia) (by lia)) ?_
    rw [decide_eq_true hn] at h; exact h
theorem q_eq_nil {l b : Addr} {c : Cell} {n k : Nat} {Q : Value → Shared → Prop} (S : Ok Hs se mods env O σ D s) (Rr : Rm A k) (hl : D l = some c) (hb : D b = some (.vals [])) (hc : (∃ xs, c = .zs xs ∧ xs.length = n) ∨ ∃ vs, c = .vals vs ∧ vs.length = n)
    (h : Q (.bool (decide (n = 0))) s) : wpAny (model prog w) A (compareOp .Eq (.ref l) (.ref b)) Q E s := by
  obtain ⟨items, h1, h2⟩ := cell_list (S.know l c hl) hc
  have hu := Rr.units
  have hb' : s.heap.IsList b #[] := S.know b _ hb
  by_cases hn : n = 0
  · refine EqBoolInt.of_rc (SeqAt.RcAt.lists (e := fun _ => true) h1 hb' (by rw [h2, hn]; rfl) (by lia) fun j _ h => absurd h (Nat.not_lt_zero _)) ?_
    rw [h2, hn]; rw [hn] at h; exact h
  · refine EqBoolInt.of_rc (SeqAt.RcAt.lists_lengths h1 hb' (by simp [h2]; lia) (by lia)) ?_
    rw [decide_eq_false hn] at h; exact h

theorem mat_all {M N : Mat} (h : M.length = N.length) : (List.range M.length).all (fun j => decide (row M j = row N j)) = decide (M = N) := by
  rw [Bool.eq_iff_iff]
  simp only [List.all_eq_true, List.mem_range, decide_eq_true_eq]
  constructor
  · intro q
    refine List.ext_getElem h fun i h1 h2 => ?_
    have := q i h1
    unfold row at this
    simpa [List.getD_eq_getElem?_getD, h1, h2] using this
  · rintro rfl _ _; rfl
theorem mat_items {a : Addr} {rs : List Addr} {M : Mat} (hM : MatD D a rs M) (S : Ok Hs se mods env O σ D s) : s.heap.IsList a (rs.map Value.ref).toArray ∧ ∀ j (h : j < (rs.map Value.ref).toArray.size), j < M.length ∧ (rs.map Value.ref).toArray[j] = .ref (rs.getD j 0) ∧ rs.getD j 0 ∈ rs ∧ D (rs.getD j 0) = some (.zs (row M j)) := by
  refine ⟨S.know a _ hM.1, fun j hj => ?_⟩
  have hj' : j < rs.length := by simpa using hj
  refine ⟨by rw [← hM.2.1]; exact hj', by simp [List.getD_eq_getElem?_getD, hj'], by simp [List.getD_eq_getElem?_getD, hj'], hM.rowAt (by rw [← hM.2.1]; exact hj')⟩
theorem mats_eqs {a b : Addr} {ra rb : List Addr} {M N : Mat} {k : Nat} (S : Ok Hs se mods env O σ D s) (Rr : Rm A k) (hM : MatD D a ra M) (hN : MatD D b rb N) (hd : ∀ r ∈ ra, r ∉ rb) :
    ∀ j (h1 : j < (ra.map Value.ref).toArray.size) (h2 : j < (rb.map Value.ref).toArray.size), SeqAt.EqAt A.in1 s (ra.map Value.ref).toArray[j] (rb.map Value.ref).toArray[j] (decide (row M j = row N j)) := fun j h1 h2 => by
  have hu := Rr.units
  obtain ⟨_, e1, m1, d1⟩ := (mat_items hM S).2 j h1
  obtain ⟨_, e2, m2, d2⟩ := (mat_items hN S).2 j h2
  rw [e1, e2]
  exact eqAt_zs (S.know _ _ d1) (S.know _ _ d2) (fun e => hd _ m1 (e ▸ m2)) hu
/-- two matrices -/
theorem q_ne_mats {a b : Addr} {ra rb : List Addr} {M N : Mat} {k : Nat} {Q : Value → Shared → Prop} (S : Ok Hs se mods env O σ D s) (Rr : Rm A k) (hM : MatD D a ra M) (hN : MatD D b rb N) (hd : ∀ r ∈ ra, r ∉ rb)
    (h : Q (.bool (decide (M ≠ N))) s) : wpAny (model prog w) A (compareOp .NotEq (.ref a) (.ref b)) Q E s := by
  have hu := Rr.units
  have h1 := (mat_items hM S).1
  have h2 := (mat_items hN S).1
  have z1 : (ra.map Value.ref).toArray.size = M.length := by simp [hM.2.1]
  have z2 : (rb.map Value.ref).toArray.size = N.length := by simp [hN.2.1]
  by_cases hl : M.length = N.length
  · refine EqBoolInt.of_rcne (SeqAt.RcNeAt.lists h1 h2 (by lia) (by lia) (mats_eqs S Rr hM hN hd)) ?_
    rw [z1, mat_all hl, ← decide_not]; exact h
  · refine EqBoolInt.of_rcne (SeqAt.RcNeAt.lists_lengths h1 h2 (by rw [z1, z2]; simpa using hl) (by lia)) ?_
    rw [decide_eq_true (by rintro rfl; exact hl rfl)] at h; exact h
theorem q_eq_mats {a b : Addr} {ra rb : List Addr} {M N : Mat} {k : Nat} {Q : Value → Shared → Prop} (S : Ok Hs se mods env O σ D s) (Rr : Rm A k) (hM : MatD D a ra M) (hN : MatD D b rb N) (hd : ∀ r ∈ ra, r ∉ rb)
    (h : Q (.bool (decide (M = N))) s) : wpAny (model prog w) A (compareOp .Eq (.ref a) (.ref b)) Q E s := by
  have hu := Rr.units
  have h1 := (mat_items hM S).1
  have h2 := (mat_items hN S).1
  have z1 : (ra.map Value.ref).toArray.size = M.length := by simp [hM.2.1]
  have z2 : (rb.map Value.ref).toArray.size = N.length := by simp [hN.2.1]
  by_cases hl : M.length = N.length
  · refine EqBoolInt.of_rc (SeqAt.RcAt.lists h1 h2 (by lia) (by lia) (mats_eqs S Rr hM hN hd)) ?_
    rw [z1, mat_all hl]; exact h
  · refine EqBoolInt.of_rc (SeqAt.RcAt.lists_lengths h1 h2 (by rw [z1, z2]; simpa using hl) (by lia)) ?_
    rw [decide_eq_false (by rintro rfl; exact hl rfl)] at h; exact h
end
end Mine

namespace Mine
/-- the law's box: its script, its stirred int -/
noncomputable def BoxD (D : Know) (b l : Addr) : Prop := ∃ x t xs, D b = some (.vals [.ref l, .int x t]) ∧ D l = some (.plain xs) ∧ xs.length ≤ 24
theorem BoxD.sub {D D' : Know} {b l : Addr} (h : BoxD D b l) (hs : Sub D D') : BoxD D' b l := by
  obtain ⟨x, t, xs, h1, h2, h3⟩ := h; exact ⟨x, t, xs, hs _ _ h1, hs _ _ h2, h3⟩
theorem BoxD.ext {P : Addr → Prop} {D D' : Know} {b l : Addr} (h : BoxD D b l) (hs : Ext P D D') (hb : ¬ P b) (hl : ¬ P l) : BoxD D' b l := by
  obtain ⟨x, t, xs, h1, h2, h3⟩ := h; exact ⟨x, t, xs, hs _ _ h1 hb, hs _ _ h2 hl, h3⟩
theorem BoxD.ne {D : Know} {b l : Addr} (h : BoxD D b l) : b ≠ l := by
  obtain ⟨x, t, xs, h1, h2, _⟩ := h; rintro rfl; rw [h1] at h2; cases h2
section
variable {prog : Program} {w : World} {A : Around} {E : Value → Shared → Prop} {R : Result → Shared → Prop}
variable {Hs : Heap} {se s : Shared} {mods : Addr → Prop} {env : Env} {O : Addr → Option Obj} {σ σ' : Vars} {D D' : Know} {mg mb : Str → Option Value}
theorem e_slice {value : Expr} {lower upper : Option Expr} {p pos : Pos} {Q : Value → Shared → Prop}
    (h : wpAny (model prog w) A (eval value env) (fun o s₁ => wpAny (model prog w) A (evalPart lower env) (fun vl s₂ => wpAny (model prog w) A (evalPart upper env) (fun vu s₃ =>
      ∃ l items lo hi σ D, o = .ref l ∧ Ok Hs se mods env O σ D s₃ ∧ s₃.heap.IsList l items ∧ items.size ≤ 1000000 ∧ IsPart vl lo ∧ IsPart vu hi ∧
        ∀ l' s', D l' = none → se.heap.get? l' = none → Ok Hs se mods env O σ D s' → s'.heap.IsList l' (slicePick items lo hi none) → Q (.ref l') s') E s₂) E s₁) E s)
    (ht : ∀ o r, letTemporaryGo value o r = pure ()) : wpAny (model prog w) A (eval (.Subscript value (.Slice lower upper none p) pos) env) Q E s := by
  refine wpAny_Subscript_list_slice (wpAny_mono h (fun o s₁ h₁ => wpAny_mono h₁ (fun vl s₂ h₂ => wpAny_mono h₂ (fun vu s₃ h₃ => ?_) fun _ _ e => e) fun _ _ e => e) fun _ _ e => e) ht
  obtain ⟨l, items, lo, hi, σ, D, rfl, S, hl, hsz, pl, pu, hQ⟩ := h₃
  have S1 := S.ext (h' := s₃.heap.push { cls := .type "slice", data := .fields #[vl, vu, .none] }) (t := s₃.toks) fun b x e => Heap.get?_push_of_some _ e
  have hz : (s₃.heap.push { cls := .type "slice", data := .fields #[vl, vu, .none] }).objs.size = s₃.heap.objs.size + 1 := Heap.size_push ..
  have S2 := S1.ext (h' := (s₃.heap.push { cls := .type "slice", data := .fields #[vl, vu, .none] }).push { cls := .type "list", data := .seq (slicePick items lo hi none) }) (t := s₃.toks) fun b x e => Heap.get?_push_of_some _ e
  refine ⟨l, items, lo, hi, rfl, hl, by rw [sizeLine_eq]; lia, pl, pu, hQ _ _ (S.fresh (Nat.le_succ _)) (S.freshE (Nat.le_succ _)) S2 ?_⟩
  refine ⟨{ cls := .type "list", data := .seq (slicePick items lo hi none) }, ?_, rfl, 0, rfl⟩
  have e1 := Heap.get?_push_size (s₃.heap.push { cls := .type "slice", data := .fields #[vl, vu, .none] }) (o := { cls := .type "list", data := .seq (slicePick items lo hi none) }) rfl
  rw [hz] at e1
  exact e1
/-- a part of a list: what is left, from k on -/
noncomputable def Cell.pick (lo hi : Option Nat) : Cell → Cell
  | .zs xs => .zs (match lo, hi with | some k, _ => xs.drop k | none, some k => xs.take k | none, none => xs)
  | .vals xs => .vals (match lo, hi with | some k, _ => xs.drop k | none, some k => xs.take k | none, none => xs)
  | c => c
noncomputable def Cell.few : Cell → Prop
  | .zs xs => xs.length ≤ 1000000
  | .vals xs => xs.length ≤ 1000000
  | _ => False
theorem pick_from {l l' : Addr} {c : Cell} {k : Nat} {h h' : Heap} (x : Holds h l c) (f : c.few) : ∃ items, h.IsList l items ∧ items.size ≤ 1000000 ∧ (h'.IsList l' (slicePick items (some (k : Int)) none none) → Holds h' l' (c.pick (some k) none)) := by
  cases c with
  | zs xs =>
    obtain ⟨vs, h1, h2⟩ := x
    have : vs.size = xs.length := by rw [← Array.length_toList]; exact IntsAre.len h2
    refine ⟨vs, h1, by rw [this]; exact f, fun y => ⟨_, y, ?_⟩⟩
    have := slice_ints_fromW h2 (x := (k : Int)) (by lia)
    simpa using this
  | vals vs =>
    refine ⟨_, x, by rw [List.size_toArray]; exact f, fun y => ?_⟩
    rw [slicePick_from'] at y
    simpa [Holds, Cell.pick] using y
  | tup _ => exact f.elim
  | plain _ => exact f.elim
theorem pick_to {l l' : Addr} {c : Cell} {k : Nat} {h h' : Heap} (x : Holds h l c) (f : c.few) : ∃ items, h.IsList l items ∧ items.size ≤ 1000000 ∧ (h'.IsList l' (slicePick items none (some (k : Int)) none) → Holds h' l' (c.pick none (some k))) := by
  cases c with
  | zs xs =>
    obtain ⟨vs, h1, h2⟩ := x
    have : vs.size = xs.length := by rw [← Array.length_toList]; exact IntsAre.len h2
    refine ⟨vs, h1, by rw [this]; exact f, fun y => ⟨_, y, ?_⟩⟩
    have := slice_ints_uptoW h2 (y := (k : Int)) (by lia)
    simpa using this
  | vals vs =>
    refine ⟨_, x, by rw [List.size_toArray]; exact f, fun y => ?_⟩
    rw [slicePick_upto'] at y
    simpa [Holds, Cell.pick] using y
  | tup _ => exact f.elim
  | plain _ => exact f.elim
/-- l[k:] -/
inductive Fr (Hs : Heap) (se : Shared) (mods : Addr → Prop) (env : Env) (O : Addr → Option Obj) (Q : Value → Shared → Prop) : Value → Value → Shared → Prop
  | mk (l : Addr) (c : Cell) (k : Nat) (t : Tok) (σ : Vars) (D : Know) {s : Shared} (S : Ok Hs se mods env O σ D s) (hl : D l = some c) (hf : c.few)
    (h : ∀ l' s', D l' = none → se.heap.get? l' = none → Ok Hs se mods env O σ (upd D l' (c.pick (some k) none)) s' → Q (.ref l') s') : Fr Hs se mods env O Q (.ref l) (.int (k : Nat) t) s
inductive To (Hs : Heap) (se : Shared) (mods : Addr → Prop) (env : Env) (O : Addr → Option Obj) (Q : Value → Shared → Prop) : Value → Value → Shared → Prop
  | mk (l : Addr) (c : Cell) (k : Nat) (t : Tok) (σ : Vars) (D : Know) {s : Shared} (S : Ok Hs se mods env O σ D s) (hl : D l = some c) (hf : c.few)
    (h : ∀ l' s', D l' = none → se.heap.get? l' = none → Ok Hs se mods env O σ (upd D l' (c.pick none (some k))) s' → Q (.ref l') s') : To Hs se mods env O Q (.ref l) (.int (k : Nat) t) s
theorem e_from {σ₀ : Vars} {D₀ : Know} (_S : Ok Hs se mods env O σ₀ D₀ s) {value lo : Expr} {p pos : Pos} {Q : Value → Shared → Prop}
    (h : wpAny (model prog w) A (eval value env) (fun o s₁ => wpAny (model prog w) A (eval lo env) (Fr Hs se mods env O Q o) E s₁) E s)
    (ht : ∀ o r, letTemporaryGo value o r = pure ()) : wpAny (model prog w) A (eval (.Subscript value (.Slice (some lo) none none p) pos) env) Q E s := by
  refine e_slice (Hs := Hs) (se := se) (mods := mods) (O := O) (wpAny_mono h (fun o s₁ h₁ => wpAny_mono h₁ (fun vl s₂ h₂ => wpAny_pure ?_) fun _ _ e => e) fun _ _ e => e) ht
  obtain ⟨l, c, k, t, σ, D, S, hl, hf, hQ⟩ := h₂
  obtain ⟨items, h1, h2, _⟩ := pick_from (k := k) (l' := 0) (h' := s₂.heap) (S.know l c hl) hf
  refine ⟨l, items, _, _, σ, D, rfl, S, h1, h2, .int _ _, .none, fun l' s' n1 n2 S' hl' => hQ l' s' n1 n2 (S'.add ?_)⟩
  obtain ⟨items', k1, _, k3⟩ := pick_from (k := k) (l' := l') (h' := s'.heap) (S.know l c hl) hf
  have : items' = items := by
    obtain ⟨o1, a1, _, m1, b1⟩ := h1
    obtain ⟨o2, a2, _, m2, b2⟩ := k1
    rw [a1] at a2; cases a2; rw [b1] at b2; cases b2; rfl
  subst this
  exact k3 hl'
/-- l[:k] -/
theorem e_to {σ₀ : Vars} {D₀ : Know} (_S : Ok Hs se mods env O σ₀ D₀ s) {value hi : Expr} {p pos : Pos} {Q : Value → Shared → Prop}
    (h : wpAny (model prog w) A (eval value env) (fun o s₁ => wpAny (model prog w) A (eval hi env) (To Hs se mods env O Q o) E s₁) E s)
    (ht : ∀ o r, letTemporaryGo value o r = pure ()) : wpAny (model prog w) A (eval (.Subscript value (.Slice none (some hi) none p) pos) env) Q E s := by
  refine e_slice (Hs := Hs) (se := se) (mods := mods) (O := O) (wpAny_mono h (fun o s₁ h₁ => wpAny_pure (wpAny_mono h₁ (fun vl s₂ h₂ => ?_) fun _ _ e => e)) fun _ _ e => e) ht
  obtain ⟨l, c, k, t, σ, D, S, hl, hf, hQ⟩ := h₂
  obtain ⟨items, h1, h2, _⟩ := pick_to (k := k) (l' := 0) (h' := s₂.heap) (S.know l c hl) hf
  refine ⟨l, items, _, _, σ, D, rfl, S, h1, h2, .none, .int _ _, fun l' s' n1 n2 S' hl' => hQ l' s' n1 n2 (S'.add ?_)⟩
  obtain ⟨items', k1, _, k3⟩ := pick_to (k := k) (l' := l') (h' := s'.heap) (S.know l c hl) hf
  have : items' = items := by
    obtain ⟨o1, a1, _, m1, b1⟩ := h1
    obtain ⟨o2, a2, _, m2, b2⟩ := k1
    rw [a1] at a2; cases a2; rw [b1] at b2; cases b2; rfl
  subst this
  exact k3 hl'
theorem plain_type {l : Addr} {xs : List Int} (S : Ok Hs se mods env O σ D s) (hl : D l = some (.plain xs)) : s.TypeIs (.ref l) "list" ∧ ∀ a, Value.ref l = .ref a → ∃ ob, s.heap.get? a = some ob ∧ ob.dict = none := by
  obtain ⟨vs, n, ho, _⟩ := S.know l _ hl
  exact ⟨Heap.IsList.typeIs ⟨_, ho, rfl, n, rfl⟩, fun a e => by cases e; exact ⟨_, ho, rfl⟩⟩
end
end Mine

namespace Mine
/-- all but what is known of l stays -/
noncomputable abbrev But (l : Addr) (D1 D2 : Know) : Prop := ∀ b c, b ≠ l → D1 b = some c → D2 b = some c
section
variable {prog : Program} {w : World} {A : Around} {E : Value → Shared → Prop} {R : Result → Shared → Prop}
variable {Hs : Heap} {se s : Shared} {mods : Addr → Prop} {env : Env} {O : Addr → Option Obj} {σ σ' : Vars} {D D' : Know} {mg mb : Str → Option Value}
variable {ns : List (Str × NameKind)} {cs : List (Str × Addr)}
variable {elt iter : Expr} {ifs : List Expr} {scope : Scope} {pos : Pos} {cl : List (Str × Addr)} {it : Addr} {n : Nat} {val : Nat → Value → Prop} {need : Shared → Prop} {use : Option (Value → Sem Unit)} {Q : Value → Shared → Prop}

theorem bnd_block {cenv : Env} {x : Str} (Ic : EnvIs cenv scope.names (cellsFrom (cenv.locals + 1) scope.names cl)) (hcl : closOf scope.names [] cs = some cl) (hnd : (scope.names.map Prod.fst).Nodup)
    (hb : scope.names.lookup x = some .local ∨ scope.names.lookup x = some .cell) : Bnd prog w A Hs se mods cenv x := by
  rcases hb with hb | hb
  · exact bnd_local Ic hb
  · cases hc : (cellsFrom (cenv.locals + 1) scope.names cl).lookup x with
    | none =>
      exfalso
      rw [cellsFrom_append] at hc
      have := cellsFrom_some scope.names (cenv.locals + 1) hb
      cases z : (cellsFrom (cenv.locals + 1) scope.names []).lookup x with
      | none => exact this z
      | some c => rw [List.lookup_append, z] at hc; cases hc
    | some c =>
      refine bnd_cell Ic hb hc ?_
      rcases cellsFrom_ge _ _ _ _ _ (mem_of_lk hc) with q | q
      · exfalso
        rcases closOf_free hcl _ q with z | z
        · cases z
        · have := lookup_of_mem_nodup hnd z
          rw [hb] at this; cases this
      · exact Nat.le_of_succ_le q

/-- [elt for x in stream if test], a word of one's own about what stands so far -/
theorem tail_gen {x : Str} {px : Pos} (S : Ok Hs se mods env O σ D s) (W : Ready prog w A se O it n val need s) (I : EnvIs env ns cs) (hcl : closOf scope.names [] cs = some cl)
    (hk : scope.kind = .function) (hnd : (scope.names.map Prod.fst).Nodup) (hcap : (cl.all fun p => ns.lookup p.1 == some .cell || ns.lookup p.1 == some .free) = true) (hb : scope.names.lookup x = some .local ∨ scope.names.lookup x = some .cell)
    (J : Addr → Nat → List Value → Know → Prop) (hJ0 : ∀ l, D l = none → se.heap.get? l = none → J l 0 [] (upd D l (.vals []))) (hJm : ∀ l i ws D1 D2, But l D1 D2 → J l i ws D1 → J l i ws D2) (hlen : ∀ l i ws D1, J l i ws D1 → ws.length ≤ 1000000)
    (hneed : ∀ l i ws O' cenv D' s', J l i ws D' → Ok Hs se mods cenv O' (taken scope.names σ) D' s' → need s')
    (turn : ∀ l i v O' cenv ws D' s', i < n → val i v → EnvIs cenv scope.names (cellsFrom (cenv.locals + 1) scope.names cl) → J l i ws D' → D' l = some (.vals ws) → Ok Hs se mods cenv O' ((x, v) :: taken scope.names σ) D' s' →
      wpAny (model prog w) A (testsOf ifs cenv) (fun ok s₃ => if ok = true then wpAny (model prog w) A (eval elt cenv) (fun y s₄ => ∃ D'', D'' l = some (.vals ws) ∧ J l (i + 1) (ws ++ [y]) D'' ∧ Ok Hs se mods cenv O' ((x, v) :: taken scope.names σ) D'' s₄) NoE s₃
        else ∃ D'', D'' l = some (.vals ws) ∧ J l (i + 1) ws D'' ∧ Ok Hs se mods cenv O' ((x, v) :: taken scope.names σ) D'' s₃) NoE s')
    (done : ∀ l cenv O' ws D' s', D l = none → se.heap.get? l = none → J l n ws D' → D' l = some (.vals ws) → Block Hs se mods env O σ cenv O' → Ok Hs se mods cenv O' (taken scope.names σ) D' s' → compPost (model prog w) A E use Q (.ref l) cenv.locals (.ok .next) s') :
    wpAny (model prog w) A (newList []) (fun acc s₃ => wpAny (model prog w) A (newFunctionEnv scope env.globals cl [] env.qual none .none (some env)) (fun cenv s₄ =>
      codeAny (model prog w) A (.compStart (.ListComp elt [⟨.Name x px, iter, ifs, 0⟩] scope pos) 0 (.ref it) acc { cenv with scope := relabel scope env }) (compPost (model prog w) A E use Q acc cenv.locals) s₄) E s₃) E s := by
  obtain ⟨⟨Pos', o₀, W, h0, hp⟩, hO, hE⟩ := W
  refine comp_tail S I hcl hk hnd hcap fun l cenv O' s' hl hlE Ic Sc K keep hOf => ?_
  obtain ⟨vs, hd⟩ := W.fld _ _ hp
  refine cs_start1 (fun Q h => W.self 0 s' o₀ Q NoE (keep _ _ h0) hp h) ?_
  have hvd : ∀ v y u, (taken scope.names σ).lookup y = some u → ((x, v) :: taken scope.names σ).lookup y = some u := fun v => vars_drop (by rcases hb with hb | hb <;> (rw [hb]; intro q; cases q))
  refine comp_gen (.inl ⟨_, _, rfl, rfl⟩) W Sc (hOf _ _ _ h0 hd hO) hE (keep _ _ h0) hp (bnd_block Ic hcl hnd hb) (.inr hlE) (fun i ws σ' D' => σ' = taken scope.names σ ∧ J l i ws D' ∧ D' l = some (.vals ws)) ⟨rfl, hJ0 l hl hlE, upd_same ..⟩ ?_ ?_ ?_ ?_
  · rintro i ws σ' D' ⟨rfl, h1, h2⟩; exact ⟨h2, hlen _ _ _ _ h1⟩
  · rintro i ws σ' D' s2 ⟨rfl, h1, h2⟩ S2; exact hneed l i ws _ _ D' s2 h1 S2
  · rintro i v O'' ws σ' D' s2 hi hv hO' ⟨rfl, h1, h2⟩ S2
    refine wpAny_mono (turn l i v O'' cenv ws D' s2 hi hv Ic h1 h2 S2) (fun ok s3 h3 => ?_) fun _ _ e => e
    cases ok with
    | true =>
      simp only [if_true] at h3 ⊢
      refine wpAny_mono h3 (fun y s4 h4 => ?_) fun _ _ e => e
      obtain ⟨D2, q1, q2, q3⟩ := h4
      exact ⟨_, D2, q3.vars (hvd v), q1, rfl, hJm _ _ _ _ _ (fun b c hb e => by rw [upd_ne hb]; exact e) q2, upd_same ..⟩
    | false =>
      simp only [Bool.false_eq_true, if_false] at h3 ⊢
      obtain ⟨D2, q1, q2, q3⟩ := h3
      exact ⟨_, D2, q3.vars (hvd v), rfl, q2, q1⟩
  · rintro ws σ' D' s2 ⟨rfl, h1, h2⟩ S2
    exact done l cenv O' ws D' s2 hl hlE h1 h2 K S2
/-- the same as tail_pure, the name a cell -/
theorem tail_pureC {x : Str} {px : Pos} (S : Ok Hs se mods env O σ D s) (W : Ready prog w A se O it n val need s) (I : EnvIs env ns cs) (hcl : closOf scope.names [] cs = some cl)
    (hk : scope.kind = .function) (hnd : (scope.names.map Prod.fst).Nodup) (hcap : (cl.all fun p => ns.lookup p.1 == some .cell || ns.lookup p.1 == some .free) = true) (hb : scope.names.lookup x = some .local ∨ scope.names.lookup x = some .cell)
    (hz : n ≤ 1000000) (hneed : ∀ O' cenv D' s', Sub D D' → Ok Hs se mods cenv O' (taken scope.names σ) D' s' → need s') (p : Nat → Bool) (f : Nat → Int)
    (turn : ∀ i v O' cenv D' s', i < n → val i v → EnvIs cenv scope.names (cellsFrom (cenv.locals + 1) scope.names cl) → Sub D D' → Ok Hs se mods cenv O' ((x, v) :: taken scope.names σ) D' s' →
      wpAny (model prog w) A (testsOf ifs cenv) (fun ok s₃ => ok = p i ∧ ∃ D'', Sub D' D'' ∧ Ok Hs se mods cenv O' ((x, v) :: taken scope.names σ) D'' s₃) NoE s' ∧
      (p i = true → wpAny (model prog w) A (eval elt cenv) (fun y s₄ => ∃ t D'', y = .int (f i) t ∧ Sub D' D'' ∧ Ok Hs se mods cenv O' ((x, v) :: taken scope.names σ) D'' s₄) NoE s'))
    (done : ∀ l cenv O' s', D l = none → se.heap.get? l = none → Block Hs se mods env O σ cenv O' → Ok Hs se mods cenv O' (taken scope.names σ) (upd D l (.zs (picked p f n))) s' → compPost (model prog w) A E use Q (.ref l) cenv.locals (.ok .next) s') :
    wpAny (model prog w) A (newList []) (fun acc s₃ => wpAny (model prog w) A (newFunctionEnv scope env.globals cl [] env.qual none .none (some env)) (fun cenv s₄ =>
      codeAny (model prog w) A (.compStart (.ListComp elt [⟨.Name x px, iter, ifs, 0⟩] scope pos) 0 (.ref it) acc { cenv with scope := relabel scope env }) (compPost (model prog w) A E use Q acc cenv.locals) s₄) E s₃) E s := by
  obtain ⟨⟨Pos', o₀, W, h0, hp⟩, hO, hE⟩ := W
  refine comp_tail S I hcl hk hnd hcap fun l cenv O' s' hl hlE Ic Sc K keep hOf => ?_
  obtain ⟨vs, hd⟩ := W.fld _ _ hp
  refine cs_start1 (fun Q h => W.self 0 s' o₀ Q NoE (keep _ _ h0) hp h) ?_
  exact comp_pure (.inl ⟨_, _, rfl, rfl⟩) W Sc hl (hOf _ _ _ h0 hd hO) hE (keep _ _ h0) hp (bnd_block Ic hcl hnd hb) (fun v => vars_drop (by rcases hb with hb | hb <;> (rw [hb]; intro q; cases q))) hlE hz (hneed O' cenv) p f
    (fun i v O'' D' s'' hi hv _ hsub S'' => (turn i v O'' cenv D' s'' hi hv Ic hsub S'').1)
    (fun i v O'' D' s'' hi hv hpi _ hsub S'' => (turn i v O'' cenv D' s'' hi hv Ic hsub S'').2 hpi) fun s'' S'' => done l cenv O' s'' hl hlE K S''
/-- l + l2, ints -/
theorem o_cat_zs {l l₂ : Addr} {xs ys : List Int} (S : Ok Hs se mods env O σ D s) (hl : D l = some (.zs xs)) (hb : D l₂ = some (.zs ys)) (hz : xs.length + ys.length ≤ 1000000)
    (h : ∀ l' s', D l' = none → se.heap.get? l' = none → Ok Hs se mods env O σ (upd D l' (.zs (xs ++ ys))) s' → Q (.ref l') s') : wpAny (model prog w) A (binaryOp .Add (.ref l) (.ref l₂)) Q E s := by
  obtain ⟨vs, h1, h2⟩ := S.know l _ hl
  obtain ⟨ws, k1, k2⟩ := S.know l₂ _ hb
  have e1 : vs.size = xs.length := by rw [← Array.length_toList]; exact IntsAre.len h2
  have e2 : ws.size = ys.length := by rw [← Array.length_toList]; exact IntsAre.len k2
  refine o_cat S h1 k1 (by lia) fun l' s' n1 n2 S' => h l' s' n1 n2 ?_
  have S2 := S'.asInts (xs := xs ++ ys) (upd_same ..) (by
    rw [Array.toList_append]
    exact IntsAre.append h2 k2)
  exact S2.forget fun b c e => by
    by_cases hb : b = l'
    · rw [hb, upd_same] at e ⊢; exact e
    · rw [upd_ne hb] at e; rw [upd_ne hb, upd_ne hb]; exact e
theorem o_cat_vals {l l₂ : Addr} {xs ys : List Value} (S : Ok Hs se mods env O σ D s) (hl : D l = some (.vals xs)) (hb : D l₂ = some (.vals ys)) (hz : xs.length + ys.length ≤ 1000000)
    (h : ∀ l' s', D l' = none → se.heap.get? l' = none → Ok Hs se mods env O σ (upd D l' (.vals (xs ++ ys))) s' → Q (.ref l') s') : wpAny (model prog w) A (binaryOp .Add (.ref l) (.ref l₂)) Q E s :=
  o_cat S (S.know l _ hl) (S.know l₂ _ hb) (by simpa using hz) fun l' s' n1 n2 S' => h l' s' n1 n2 (by simpa using S')
theorem BoxD.but {l b l0 : Addr} (h : BoxD D b l0) (hd : But l D D') (hb : b ≠ l) (hl : l0 ≠ l) : BoxD D' b l0 := by
  obtain ⟨x, t, xs, h1, h2, h3⟩ := h; exact ⟨x, t, xs, hd _ _ hb h1, hd _ _ hl h2, h3⟩
theorem BoxD.neNew {l b l0 : Addr} (h : BoxD D b l0) (hl : D l = none) : b ≠ l ∧ l0 ≠ l := by
  obtain ⟨x, t, xs, h1, h2, h3⟩ := h
  exact ⟨fun e => (by rw [e, hl] at h1; cases h1), fun e => (by rw [e, hl] at h2; cases h2)⟩
end
/-- a list of matrices -/
noncomputable def MatsD (D : Know) (rs : List Addr) (Ps : List Mat) : Prop := rs.length = Ps.length ∧ ∀ (i : Nat) (r : Addr) (P : Mat), rs[i]? = some r → Ps[i]? = some P → ∃ rr, MatD D r rr P
theorem MatsD.mono {D D' : Know} {rs : List Addr} {Ps : List Mat} (h : MatsD D rs Ps) (hm : ∀ r ∈ rs, ∀ rr P, MatD D r rr P → MatD D' r rr P) : MatsD D' rs Ps :=
  ⟨h.1, fun i r P h1 h2 => (h.2 i r P h1 h2).elim fun rr q => ⟨rr, hm r (List.mem_of_getElem? h1) rr P q⟩⟩
theorem MatsD.sub {D D' : Know} {rs : List Addr} {Ps : List Mat} (h : MatsD D rs Ps) (hs : Sub D D') : MatsD D' rs Ps := h.mono fun _ _ _ _ q => q.sub hs
theorem MatsD.snoc {D : Know} {rs : List Addr} {Ps : List Mat} {r : Addr} {rr : List Addr} {P : Mat} (h : MatsD D rs Ps) (q : MatD D r rr P) : MatsD D (rs ++ [r]) (Ps ++ [P]) := by
  refine ⟨by simp [h.1], fun i x X h1 h2 => ?_⟩
  by_cases hi : i < rs.length
  · rw [List.getElem?_append_left hi] at h1
    rw [List.getElem?_append_left (by rw [← h.1]; exact hi)] at h2
    exact h.2 i x X h1 h2
  · rw [List.getElem?_append_right (by lia)] at h1
    rw [List.getElem?_append_right (by rw [← h.1]; lia), ← h.1] at h2
    cases hz : i - rs.length with
    | zero => rw [hz] at h1 h2; cases h1; cases h2; exact ⟨rr, q⟩
    | succ z => rw [hz] at h1; cases h1
/-- l is not among what is known -/
theorem MatsD.but {D D' : Know} {l : Addr} {rs : List Addr} {Ps : List Mat} {D₀ : Know} (h : MatsD D rs Ps) (hb : But l D D') (hl : ∀ r ∈ rs, r ≠ l ∧ ∀ rr P, MatD D r rr P → l ∉ rr) : MatsD D' rs Ps :=
  h.mono fun r hr rr P q => ⟨hb _ _ (hl r hr).1 q.1, q.2.1, fun i x y e1 e2 => hb _ _ (fun e => (hl r hr).2 rr P q (e ▸ List.mem_of_getElem? e1)) (q.2.2 i x y e1 e2)⟩
end Mine

namespace Mine
theorem intMulOk : MulOk IntMulOk := ⟨fun _ _ h => mulOk_small h, fun _ _ h => mulOk_small' h, fun _ _ _ h1 h2 h3 => mulOk h2 h3 h1⟩
section
variable {prog : Program} {w : World} {A : Around} {E : Value → Shared → Prop} {s : Shared} {D : Know} {mg mb : Str → Option Value}
/-- the first call: nothing stands around it -/
theorem enter0 {k : Nat} {f : Addr} {o : Obj} {fd : FuncData} {body : List Stmt} {vals : List Value} {Q : Value → Shared → Prop} (nms : List Str) (B : Base s.heap mg mb) (ht : prog.given.tree = none) (Rr : Rm A (k + 1)) (hkn : ∀ b c, D b = some c → Mine.Holds s.heap b c)
    (hf : s.heap.get? f = some o) (hd : o.data = .func fd) (hcd : s.heap.CodeRec fd.code fd.qualname) (hbody : fd.body = .stmts body) (hbind : bindArgs fd ⟨vals, []⟩ = pure (nms.zip vals)) (hok : fnOk fd (nms.zip vals) = true) (hnms : nms.Nodup)
    (hg : fd.globals = mainGlobals) (hb : fd.builtins = builtinsNs)
    (h : ∀ env' s', EnvIs env' fd.scope.names (cellsFrom (env'.locals + 1) fd.scope.names []) → env'.scope.names = fd.scope.names → Ok s.heap s (fun _ => False) env' (fun _ => none) (nms.zip vals) D s' → Rm (A.deeper env') k → Div prog w s.heap (A.deeper env') →
      wpAny (model prog w) (A.deeper env') (execs body env') (fun fl s'' => ∃ σ'' D'', Ok s.heap s (fun _ => False) env' (fun _ => none) σ'' D'' s'' ∧ Q (match fl with | .ret v => v | _ => .none) s'') NoE s') :
    wpAny (model prog w) A (call (.ref f) vals) Q E s := by
  generalize hbb : nms.zip vals = binds at hbind hok h
  have hnb : (binds.map Prod.fst).Nodup := by
    have key : ∀ (l : List Str) (vs : List Value), l.Nodup → ((l.zip vs).map Prod.fst).Nodup := by
      intro l
      induction l with
      | nil => intro vs _; simp
      | cons x r ih =>
        intro vs hn
        cases vs with
        | nil => simp
        | cons v vs =>
          simp only [List.zip_cons_cons, List.map_cons, List.nodup_cons] at hn ⊢
          refine ⟨fun hm => hn.1 ?_, ih vs hn.2⟩
          obtain ⟨p, hp, rfl⟩ := List.mem_map.mp hm
          exact (List.of_mem_zip hp).1
    rw [← hbb]; exact key _ _ hnms
  unfold fnOk at hok
  simp only [Bool.and_eq_true, Bool.not_eq_true', beq_iff_eq] at hok
  obtain ⟨⟨⟨⟨k1, k2⟩, k3⟩, k4⟩, k5⟩ := hok
  have k5' : fd.closure = [] := by simpa using k5
  have kk : ∀ x ∈ binds, fd.scope.names.lookup x.1 = some .local ∨ fd.scope.names.lookup x.1 = some .cell := fun x hx => by
    have := List.all_eq_true.mp k1 x hx
    simpa using this
  refine wpAny_call (codeAny_call_cells (by have := Rr.dep; show A.depth < 1000; omega) hf hd B.lim (by
    exact hcd) hbody hbind k5' (fun x hx => (kk x hx).imp id fun q => ⟨q, ?_⟩) (fun s₁ X => ?_) k2 k3 k4)
  · have := cellsFrom_some fd.scope.names (s.heap.objs.size + 1) q
    cases z : (cellsFrom (s.heap.objs.size + 1) fd.scope.names []).lookup x.1 with
    | none => exact absurd z this
    | some c => rfl
  · generalize hL : s.heap.objs.size = L at X
    have hloc : (callEnvC fd L f).locals = L := rfl
    have hkind : ∀ x, (callEnvC fd L f).kindOf x = fd.scope.names.lookup x := fun _ => rfl
    obtain ⟨h₁, tk, he⟩ := X.toInCall.same
    have I' : EnvIs (callEnvC fd L f) fd.scope.names (cellsFrom ((callEnvC fd L f).locals + 1) fd.scope.names []) := ⟨k4, fun x k hx _ => hx, fun x hx => .inl hx, rfl, hg, hb⟩
    have S' : Ok s.heap s (fun _ => False) (callEnvC fd L f) (fun _ => none) binds D s₁ := by
      refine ⟨fun _ _ e => e, (fun b m => m.elim), fun b o e _ => X.toInCall.keep b o e, fun b o e => (nomatch e), fun b c e => (hkn b c e).at fun o => X.toInCall.keep b o, ⟨⟨_, X.toInCall.ns, fun x v hx hv => bindL_lookup hnb hx hv⟩, fun x c hc => ⟨_, X.cell x c hc, fun v hx hv => ?_⟩, fun x y c hx hy => ?_⟩, ?_, ?_, ?_, ?_⟩
      · refine bindC_lookup hnb (fun z => ?_) hv
        rcases hx with hx | hx <;> rw [z] at hx <;> cases hx
      · exact name_of_addr X.apart (mem_of_lookup hx) (mem_of_lookup hy)
      · rw [hloc, hL]; exact Nat.le_refl _
      · rw [he]
      · rw [he]
      · rw [he]
    refine wpAny_mono (h (callEnvC fd L f) s₁ I' rfl S' (Rr.deeper _) (div_deeper B Rr ht k3 k2 hb hg)) (fun fl s2 h2 => ?_) fun _ _ x => x.elim
    obtain ⟨σ'', D'', S2, hq⟩ := h2
    cases fl <;> exact hq
theorem enter0W {k : Nat} {vals : List Value} {Q : Value → Shared → Prop} {d : DefRec} (x : Str) (nms : List Str) (T : Wd w s.heap mg mb) (Rr : Rm A (k + 1)) (hkn : ∀ b c, D b = some c → Mine.Holds s.heap b c)
    (e : (recsOf Pg).find? (fun e => e.name == x) = some d) (hbind : ∀ pm code doc, bindArgs (Calls.docDef x d.params d.body d.scope pm code doc) ⟨vals, []⟩ = pure (nms.zip vals)) (hok : ∀ pm code doc, fnOk (Calls.docDef x d.params d.body d.scope pm code doc) (nms.zip vals) = true) (hnms : nms.Nodup)
    (h : ∀ env' s', EnvIs env' d.scope.names (cellsFrom (env'.locals + 1) d.scope.names []) → env'.scope.names = d.scope.names → Ok s.heap s (fun _ => False) env' (fun _ => none) (nms.zip vals) D s' → Rm (A.deeper env') k → Div Pg w s.heap (A.deeper env') →
      wpAny (model Pg w) (A.deeper env') (execs d.body env') (fun fl s'' => ∃ σ'' D'', Ok s.heap s (fun _ => False) env' (fun _ => none) σ'' D'' s'' ∧ Q (match fl with | .ret v => v | _ => .none) s'') NoE s') :
    wpAny (model Pg w) A (call (.ref (fad mg x)) vals) Q E s := by
  obtain ⟨o, pm, code, doc, h1, h2, h3⟩ := T.func e
  exact enter0 nms T.B pg_tree Rr hkn h1 h2 h3 rfl (hbind _ _ _) (hok _ _ _) hnms rfl rfl h
end
end Mine

namespace Mine
noncomputable def lawDef : DefRec := ((recsOf Pg).find? fun e => e.name == (Str.ofString "law")).getD ⟨"", ⟨[], [], .none, [], [], .none, []⟩, [], ⟨.function, [], false, false, []⟩, default⟩
noncomputable def lawRest (k : Nat) : List Stmt := lawDef.body.drop k
noncomputable def lawNames : List (Str × NameKind) := lawDef.scope.names
end Mine

namespace Mine
local macro_rules | `(tactic| walk_at "dk") => `(tactic| first | assumption | exact upd_same _ _ _ | (apply Sub.app; assumption; walk_at "dk") | (apply newApp; assumption; walk_at "dk") | (apply upd_diff; walk_at "dk"; walk_at "dk"; (intro q; cases q)))
local macro_rules | `(tactic| walk_at "vr") => `(tactic| first | exact vars_nil | exact vars_cons (by rfl) (by walk_at "vr"))
local macro_rules | `(tactic| walk_at "ds") => `(tactic| first | assumption | exact Sub.refl | (refine Sub.trans ?_ (Sub.new ?_); walk_at "ds"; assumption) | (refine Sub.trans ?_ (by assumption); walk_at "ds"))
local macro_rules | `(tactic| walk_at "fs") => `(tactic| first | assumption | exact noneSub (by assumption) (by walk_at "ds"))
local macro_rules | `(tactic| walk_at "mt") => `(tactic| first | assumption | (apply MatD.sub; assumption; walk_at "ds"))
local macro_rules | `(tactic| walk_at "ix") => `(tactic| first | rfl | exact Int.zero_add _)
local macro_rules | `(tactic| walk_at "bd") => `(tactic| first | assumption | exact lek (k := 3) (by assumption) rfl | exact lek (k := 10) (by assumption) rfl | lia)

section
variable {w : World} {A : Around} {E : Value → Shared → Prop}
variable {Hs : Heap} {se s : Shared} {mods : Addr → Prop} {env : Env} {O : Addr → Option Obj} {σ : Vars} {D : Know} {mg mb : Str → Option Value}

noncomputable def TupIs (D : Know) (l : Addr) (o : Tri) : Prop := ∃ t1 t2 t3, D l = some (.tup [.int o.1 t1, .int o.2.1 t2, .int o.2.2 t3])

theorem extended_spec (T : Wd w Hs mg mb) (Rr : Rm A 3) (S : Ok Hs se mods env O σ D s) {a b : Int} {ta tb : Tok} {Q : Value → Shared → Prop}
    (J : Tri → Tri → Prop) (hJ : J (a, 1, 0) (b, 0, 1)) (hJs : ∀ o p, J o p → p.1 ≠ 0 → IntMulOk (o.1.fdiv p.1) p.1 ∧ IntMulOk (o.1.fdiv p.1) p.2.1 ∧ IntMulOk (o.1.fdiv p.1) p.2.2 ∧ J p (extStep o p))
    (k : ∀ l D' s', D l = none → Sub D D' → TupIs D' l (extd a b) → Ok Hs se mods env O σ D' s' → Q (.ref l) s') : wpAny (model Pg w) A (call (.ref (fad mg "extended")) [.int a ta, .int b tb]) Q E s := by
  refine enterW "extended" ["a", "b"] T Rr S rfl (fun _ _ _ => rfl) (fun _ _ _ => rfl) (by decide) (fun _ => False) (fun _ h => h.elim) (fun _ h => h.elim) ?_
  clear S Rr
  intro env' s' I hN S' R' V
  dsimp only at I hN
  refine cutQ fun Q' hQ => ?_
  refine wpAny_execs_cons ?_
  refine x_swap2 S' R'.hh I hN ?_ rfl rfl
  refine Tuple_ ?_
  refine args_cons ?_ (by rfl)
  refine Tuple_ ?_
  refine args_cons ?_ (by rfl)
  (rename Ok _ _ _ _ _ _ _ _ => zS); refine nm_local zS (by assumption) (by rfl) (by rfl) ?_ (by decide)
  refine args_cons ?_ (by rfl)
  (rename Ok _ _ _ _ _ _ _ _ => zS); refine c_int zS ?_; intro zt zs zN; clear zS
  refine args_cons ?_ (by rfl)
  (rename Ok _ _ _ _ _ _ _ _ => zS); refine c_int zS ?_; intro zt zs zN; clear zS
  refine args_nil ?_
  (rename Ok _ _ _ _ _ _ _ _ => zS); refine n_tup zS (Nat.le_of_ble_eq_true rfl) ?_; intro zl zs zh zE zN; clear zS
  refine args_cons ?_ (by rfl)
  refine Tuple_ ?_
  refine args_cons ?_ (by rfl)
  (rename Ok _ _ _ _ _ _ _ _ => zS); refine nm_local zS (by assumption) (by rfl) (by rfl) ?_ (by decide)
  refine args_cons ?_ (by rfl)
  (rename Ok _ _ _ _ _ _ _ _ => zS); refine c_int zS ?_; intro zt zs zN; clear zS
  refine args_cons ?_ (by rfl)
  (rename Ok _ _ _ _ _ _ _ _ => zS); refine c_int zS ?_; intro zt zs zN; clear zS
  refine args_nil ?_
  (rename Ok _ _ _ _ _ _ _ _ => zS); refine n_tup zS (Nat.le_of_ble_eq_true rfl) ?_; intro zl zs zh zE zN; clear zS
  refine args_nil ?_
  (rename Ok _ _ _ _ _ _ _ _ => zS); refine n_tup zS (Nat.le_of_ble_eq_true rfl) ?_; intro zl zs zh zE zN; clear zS
  refine .mk (by assumption) (by walk_at "dk") ?_
  rename Ok _ _ _ _ _ _ _ _ => S
  intro s2 S2; clear S
  (rename Ok _ _ _ _ _ _ _ _ => zS); refine st_local zS (by assumption) (by rfl) ?_; intro zs zN; clear zS
  (rename Ok _ _ _ _ _ _ _ _ => zS); refine st_local zS (by assumption) (by rfl) ?_; intro zs zN; clear zS
  refine wpAny_execs_cons ?_
  rename Ok _ _ _ _ _ _ _ _ => S
  refine wpAny_While (loop_while (fun k σ' D' => ∃ o p lo lp, k = p.1.natAbs ∧ J o p ∧ σ' = ([("one", .ref lo), ("other", .ref lp)] : Vars) ∧ TupIs D' lo o ∧ TupIs D' lp p ∧ D lo = none ∧ D lp = none ∧ Sub D D' ∧ extGo o p = extGo (a, 1, 0) (b, 0, 1)) _
    ⟨(a, 1, 0), (b, 0, 1), _, _, rfl, hJ, rfl, ⟨_, _, _, by walk_at "dk"⟩, ⟨_, _, _, by walk_at "dk"⟩, by walk_at "fs", by walk_at "fs", by walk_at "ds", rfl⟩ (S.vars (by walk_at "vr")) ?_)
  clear S
  intro k1 σ' D' s3 g1 S3
  refine cutQ fun Q2 hQ2 => ?_
  obtain ⟨o, p, lo, lp, rfl, hj, rfl, ⟨t1, t2, t3, hlo⟩, ⟨u1, u2, u3, hlp⟩, hn1, hn2, hsub, hgo⟩ := g1
  (rename Ok _ _ _ _ _ _ _ _ => zS); refine PB.use zS (pb_ne (pi_tup (pv_name (by assumption) (by rfl)) (by walk_at "dk") pi_const (by rfl) (by rfl) (by decide) (by decide) (fun _ _ => rfl)) pi_const (by rfl)) ?_; intro zs zN; clear zS
  refine hQ2 _ _ ?_
  split
  · rename_i hne
    clear hQ2
    refine cutQ fun Q2 hQ2 => ?_
    have hp : p.1 ≠ 0 := by simpa using hne
    obtain ⟨m1, m2, m3, hj'⟩ := hJs o p hj hp
    (rename Ok _ _ _ _ _ _ _ _ => zS); refine sx_int zS (by assumption) (by rfl) (pi_div (by assumption) (pi_tup (pv_name (by assumption) (by rfl)) (by walk_at "dk") pi_const (by rfl) (by rfl) (by decide) (by decide) (fun _ _ => rfl)) (pi_tup (pv_name (by assumption) (by rfl)) (by walk_at "dk") pi_const (by rfl) (by rfl) (by decide) (by decide) (fun _ _ => rfl)) (by first | assumption | decide | (walk_at "div"))) (by rfl) ?_; intro zt zs zN; clear zS
    refine wpAny_execs_cons ?_
    refine wpAny_Assign_Name ?_ (by rfl)
    refine Tuple_ ?_
    refine args_cons ?_ (by rfl)
    (rename Ok _ _ _ _ _ _ _ _ => zS); refine PI.use zS (pi_sub (pi_tup (pv_name (by assumption) (by rfl)) (by walk_at "dk") pi_const (by rfl) (by rfl) (by decide) (by decide) (fun _ _ => rfl)) (pi_mul (pi_name (by assumption) (by rfl) (by rfl)) (pi_tup (pv_name (by assumption) (by rfl)) (by walk_at "dk") pi_const (by rfl) (by rfl) (by decide) (by decide) (fun _ _ => rfl)) (by first | assumption | (walk_at "mul")))) ?_; intro zt zs zN; clear zS
    refine args_cons ?_ (by rfl)
    (rename Ok _ _ _ _ _ _ _ _ => zS); refine PI.use zS (pi_sub (pi_tup (pv_name (by assumption) (by rfl)) (by walk_at "dk") pi_const (by rfl) (by rfl) (by decide) (by decide) (fun _ _ => rfl)) (pi_mul (pi_name (by assumption) (by rfl) (by rfl)) (pi_tup (pv_name (by assumption) (by rfl)) (by walk_at "dk") pi_const (by rfl) (by rfl) (by decide) (by decide) (fun _ _ => rfl)) (by first | assumption | (walk_at "mul")))) ?_; intro zt zs zN; clear zS
    refine args_cons ?_ (by rfl)
    (rename Ok _ _ _ _ _ _ _ _ => zS); refine PI.use zS (pi_sub (pi_tup (pv_name (by assumption) (by rfl)) (by walk_at "dk") pi_const (by rfl) (by rfl) (by decide) (by decide) (fun _ _ => rfl)) (pi_mul (pi_name (by assumption) (by rfl) (by rfl)) (pi_tup (pv_name (by assumption) (by rfl)) (by walk_at "dk") pi_const (by rfl) (by rfl) (by decide) (by decide) (fun _ _ => rfl)) (by first | assumption | (walk_at "mul")))) ?_; intro zt zs zN; clear zS
    refine args_nil ?_
    (rename Ok _ _ _ _ _ _ _ _ => zS); refine n_tup zS (Nat.le_of_ble_eq_true rfl) ?_; intro zl zs zh zE zN; clear zS
    (rename Ok _ _ _ _ _ _ _ _ => zS); refine st_local zS (by assumption) (by rfl) ?_; intro zs zN; clear zS
    refine wpAny_execs_cons ?_
    rename Ok _ _ _ _ _ _ _ _ => S
    refine x_swap2 S R'.hh I hN ?_ rfl rfl
    refine Tuple_ ?_
    refine args_cons ?_ (by rfl)
    (rename Ok _ _ _ _ _ _ _ _ => zS); refine nm_local zS (by assumption) (by rfl) (by rfl) ?_ (by decide)
    refine args_cons ?_ (by rfl)
    (rename Ok _ _ _ _ _ _ _ _ => zS); refine nm_local zS (by assumption) (by rfl) (by rfl) ?_ (by decide)
    refine args_nil ?_
    (rename Ok _ _ _ _ _ _ _ _ => zS); refine n_tup zS (Nat.le_of_ble_eq_true rfl) ?_; intro zl zs zh zE zN; clear zS
    refine .mk (by assumption) (by walk_at "dk") ?_
    rename Ok _ _ _ _ _ _ _ _ => S
    intro s2 S2; clear S
    (rename Ok _ _ _ _ _ _ _ _ => zS); refine st_local zS (by assumption) (by rfl) ?_; intro zs zN; clear zS
    (rename Ok _ _ _ _ _ _ _ _ => zS); refine st_local zS (by assumption) (by rfl) ?_; intro zs zN; clear zS
    refine wpAny_execs_nil ?_
    rename Ok _ _ _ _ _ _ _ _ => S
    refine hQ2 _ _ ⟨_, [("one", _), ("other", _)], _, ?_, ⟨p, extStep o p, _, _, rfl, hj', rfl, ?_, ?_, ?_, ?_, ?_, ?_⟩, S.vars (by walk_at "vr")⟩
    · exact extStep_lt hp
    · exact ⟨_, _, _, by walk_at "dk"⟩
    · exact ⟨_, _, _, by walk_at "dk"⟩
    · exact hn2
    · walk_at "fs"
    · walk_at "ds"
    · rw [← hgo, extGo_eq o p, dif_neg hp]
  · rename_i hne
    have hp : p.1 = 0 := by simpa using hne
    have hgo' : extd a b = extFin o := by unfold extd; rw [← hgo, extGo_eq o p, dif_pos hp]
    refine wpAny_execs_cons ?_
    refine wpAny_Return_some ?_
    refine wpAny_IfExp ?_
    (rename Ok _ _ _ _ _ _ _ _ => zS); refine PB.use zS (pb_ge (pi_tup (pv_name (by assumption) (by rfl)) (by walk_at "dk") pi_const (by rfl) (by rfl) (by decide) (by decide) (fun _ _ => rfl)) pi_const (by rfl)) ?_; intro zs zN; clear zS
    dsimp only
    split
    · rename_i hge
      have hge' : 0 ≤ o.1 := by simpa using hge
      (rename Ok _ _ _ _ _ _ _ _ => zS); refine nm_local zS (by assumption) (by rfl) (by rfl) ?_ (by decide)
      refine hQ _ _ ⟨_, _, by assumption, fun s3 S3 => k _ _ _ hn1 (by walk_at "ds") ?_ S3⟩
      rw [hgo', extFin, if_pos hge']
      exact ⟨_, _, _, hlo⟩
    · rename_i hge
      have hge' : ¬ 0 ≤ o.1 := by simpa using hge
      refine Tuple_ ?_
      refine args_cons ?_ (by rfl)
      (rename Ok _ _ _ _ _ _ _ _ => zS); refine PI.use zS (pi_sub pi_const (pi_tup (pv_name (by assumption) (by rfl)) (by walk_at "dk") pi_const (by rfl) (by rfl) (by decide) (by decide) (fun _ _ => rfl))) ?_; intro zt zs zN; clear zS
      refine args_cons ?_ (by rfl)
      (rename Ok _ _ _ _ _ _ _ _ => zS); refine PI.use zS (pi_sub pi_const (pi_tup (pv_name (by assumption) (by rfl)) (by walk_at "dk") pi_const (by rfl) (by rfl) (by decide) (by decide) (fun _ _ => rfl))) ?_; intro zt zs zN; clear zS
      refine args_cons ?_ (by rfl)
      (rename Ok _ _ _ _ _ _ _ _ => zS); refine PI.use zS (pi_sub pi_const (pi_tup (pv_name (by assumption) (by rfl)) (by walk_at "dk") pi_const (by rfl) (by rfl) (by decide) (by decide) (fun _ _ => rfl))) ?_; intro zt zs zN; clear zS
      refine args_nil ?_
      (rename Ok _ _ _ _ _ _ _ _ => zS); refine n_tup zS (Nat.le_of_ble_eq_true rfl) ?_; intro zl zs zh zE zN; clear zS
      refine hQ _ _ ⟨_, _, by assumption, fun s3 S3 => k _ _ _ (by walk_at "fs") (by walk_at "ds") ?_ S3⟩
      rw [hgo', extFin, if_neg hge']
      exact ⟨_, _, _, by walk_at "dk"⟩
end

section
variable {w : World} {A : Around} {E : Value → Shared → Prop}
variable {Hs : Heap} {se s : Shared} {mods : Addr → Prop} {env : Env} {O : Addr → Option Obj} {σ : Vars} {D : Know} {mg mb : Str → Option Value}
theorem unit_rows_spec (T : Wd w Hs mg mb) (Rr : Rm A 3) (S : Ok Hs se mods env O σ D s) {n : Nat} {t : Tok} {Q : Value → Shared → Prop} (hn : n ≤ 1000)
    (k : ∀ a rs D' s', Sub D D' → NewMat s D' a rs (unitRows n) → Ok Hs se mods env O σ D' s' → Q (.ref a) s') : wpAny (model Pg w) A (call (.ref (fad mg "unit_rows")) [.int n t]) Q E s := by
  refine enterW "unit_rows" ["n"] T Rr S rfl (fun _ _ _ => rfl) (fun _ _ _ => rfl) (by decide) (fun _ => False) (fun _ h => h.elim) (fun _ h => h.elim) ?_
  clear S Rr
  intro env' s' I hN S' R' V
  dsimp only at I hN
  refine cutQ fun Q' hQ => ?_
  refine wpAny_execs_cons ?_
  refine wpAny_Return_some ?_
  refine e_comp (by assumption) (by rfl) (by rfl) (by decide) (fun _ => rfl) ?_
  (rename Ok _ _ _ _ _ _ _ _ => zS); refine ev_range1 zS (by assumption) (by assumption) (by rfl) (pi_name (by assumption) (by rfl) (by rfl)) (fun _ _ => rfl) ?_; intro zr zs zN zq; clear zS
  dsimp only
  rename Ok _ _ _ _ _ _ _ _ => S
  refine r_range S R'.hh (by assumption) (by decide) (by decide) (by exact nle _) (by exact ncl (k := 1000) (by assumption) rfl) (n := n) (by exact tns0 _) ?_
  intro it s1 S1 W1
  refine tail_new S1 W1 I (by rfl) rfl (by decide) (by rfl) (.inr (by rfl)) (by exact lek (k := 1000) (by assumption) rfl) (fun _ _ _ _ _ _ => trivial) (fun i => tab n fun j => if i = j then 1 else 0) ?_ ?_
  · rintro i v O' cenv D' s2 hi ⟨ti, rfl⟩ Ic hsub S2
    dsimp only at Ic
    clear S S1 W1
    refine ⟨?_, ?_⟩
    · refine ts_nil ?_
      dsimp only
      exact ⟨rfl, D', Sub.refl, S2⟩
    · refine cutQ fun Q2 hQ2 => ?_
      refine e_comp (by assumption) (by rfl) (by rfl) (by decide) (fun _ => rfl) ?_
      (rename Ok _ _ _ _ _ _ _ _ => zS); refine ev_range1 zS (by assumption) (by assumption) (by rfl) (pi_name (by assumption) (by rfl) (by rfl)) (fun _ _ => rfl) ?_; intro zr zs zN zq; clear zS
      rename Ok _ _ _ _ _ _ _ _ => S
      refine r_range S R'.hh (by assumption) (by decide) (by decide) (by exact nle _) (by exact ncl (k := 1000) (by assumption) rfl) (n := n) (by exact tns0 _) ?_
      intro it s1 S1 W1
      refine tail_pure S1 W1 Ic (by rfl) rfl (by decide) (by rfl) (by rfl) (by exact lek (k := 1000) (by assumption) rfl) (fun _ _ _ _ _ _ => trivial) (fun _ => true) (fun j => if i = j then 1 else 0) ?_ ?_
      · rintro j v O'' cenv2 D2 s2 hj ⟨tj, rfl⟩ Ic2 hsub2 S2
        dsimp only at Ic2
        clear S S1 W1
        refine ⟨?_, fun _ => ?_⟩
        · refine ts_nil ?_
          dsimp only
          exact ⟨rfl, D2, Sub.refl, S2⟩
        · refine wpAny_IfExp ?_
          (rename Ok _ _ _ _ _ _ _ _ => zS); refine PB.use zS (pb_eq (pi_name (by assumption) (by rfl) (by rfl)) (pi_name (by assumption) (by rfl) (by rfl)) (by rfl)) ?_; intro zs zN; clear zS
          dsimp only
          split
          · rename_i h
            have : i = j := by simp at h; lia
            (rename Ok _ _ _ _ _ _ _ _ => zS); refine c_int zS ?_; intro zt zs zN; clear zS
            exact ⟨_, _, by rw [if_pos this], Sub.refl, by assumption⟩
          · rename_i h
            have : ¬ i = j := by simp at h; lia
            (rename Ok _ _ _ _ _ _ _ _ => zS); refine c_int zS ?_; intro zt zs zN; clear zS
            exact ⟨_, _, by rw [if_neg this], Sub.refl, by assumption⟩
      · intro l cenv2 O2 s2 hl hlE K S2
        refine post_none K S2 fun s3 S3 => hQ2 _ _ ⟨l, _, rfl, hl, hlE, Sub.new hl, ?_, S3⟩
        rw [upd_same, picked_tab]
  · intro l rs D' cenv O' s2 hl hlE hlen hrs hnd hsub hlD hG K S2
    refine post_none K S2 fun s3 S3 => hQ _ _ ⟨_, _, S3, fun s4 S4 => k l rs D' s4 hsub ⟨⟨hlD, by rw [hlen]; simp [unitRows], fun i r x h1 h2 => ?_⟩, hlE, fun r hr => (hrs r hr).2.1, hnd⟩ S4⟩
    rw [hG i r h1]
    simp only [unitRows, List.getElem?_map] at h2
    cases hi : (List.range n)[i]? with
    | none => rw [hi] at h2; cases h2
    | some j =>
      have := List.getElem?_eq_some_iff.mp hi
      obtain ⟨q1, q2⟩ := this
      simp at q2; subst q2
      rw [hi] at h2; cases h2; rfl
end

section
variable {w : World} {A : Around} {E : Value → Shared → Prop}
variable {Hs : Heap} {se s : Shared} {mods : Addr → Prop} {env : Env} {O : Addr → Option Obj} {σ : Vars} {D : Know} {mg mb : Str → Option Value}
theorem combine_spec (T : Wd w Hs mg mb) (Rr : Rm A 3) (S : Ok Hs se mods env O σ D s) {a : Addr} {rs : List Addr} {M : Mat} {n m i j : Nat} {s1 t1 u1 v1 : Int} {ti tj k1 k2 k3 k4 : Tok} {Q : Value → Shared → Prop}
    (hM : MatD D a rs M) (sh : Sh n m M) (hc : Can se mods a) (hi : i < n) (hj : j < n) (hn : n ≤ 1000) (hm : m ≤ 1000) (hij : i ≠ j)
    (hmul : ∀ k, IntMulOk s1 (el M i k) ∧ IntMulOk t1 (el M j k) ∧ IntMulOk u1 (el M i k) ∧ IntMulOk v1 (el M j k))
    (k : ∀ rs' D' s', MatD D' a rs' (combineM M i j s1 t1 u1 v1) → Ext (· = a) D D' → Ok Hs se mods env O σ D' s' → Q .none s') :
    wpAny (model Pg w) A (call (.ref (fad mg "combine")) [.ref a, .int i ti, .int j tj, .int s1 k1, .int t1 k2, .int u1 k3, .int v1 k4]) Q E s := by
  refine enterW "combine" ["a", "one", "other", "s", "t", "u", "v"] T Rr S rfl (fun _ _ _ => rfl) (fun _ _ _ => rfl) (by decide) (fun b => b = a) (fun _ h => ⟨_, h ▸ hM.1⟩) (fun _ h => h ▸ hc) ?_
  clear S Rr
  intro env' s' I hN S' R' V
  dsimp only at I hN
  refine cutQ fun Q' hQ => ?_
  have hca : Can s (fun b => b = a) a := .inl rfl
  have hri := hM.rowAt (i := i) (by rw [sh.1]; exact hi)
  have hrj := hM.rowAt (i := j) (by rw [sh.1]; exact hj)
  have hli := sh.row hi
  have hlj := sh.row hj
  refine wpAny_execs_cons ?_
  refine x_tup I hN ?_ rfl rfl
  refine Tuple_ ?_
  refine args_cons ?_ (by rfl)
  (rename Ok _ _ _ _ _ _ _ _ => zS); refine PV.use zS (pv_row (pv_name (by assumption) (by rfl)) (by walk_at "mt") (by assumption) (pi_name (by assumption) (by rfl) (by rfl)) (by walk_at "ix") (by walk_at "bd") (by walk_at "bd") (fun _ _ => rfl)) ?_; intro zs zN; clear zS
  refine args_cons ?_ (by rfl)
  (rename Ok _ _ _ _ _ _ _ _ => zS); refine PV.use zS (pv_row (pv_name (by assumption) (by rfl)) (by walk_at "mt") (by assumption) (pi_name (by assumption) (by rfl) (by rfl)) (by walk_at "ix") (by walk_at "bd") (by walk_at "bd") (fun _ _ => rfl)) ?_; intro zs zN; clear zS
  refine args_nil ?_
  (rename Ok _ _ _ _ _ _ _ _ => zS); refine n_tup zS (Nat.le_of_ble_eq_true rfl) ?_; intro zl zs zh zE zN; clear zS
  (rename Ok _ _ _ _ _ _ _ _ => zS); refine as_tup2 zS (Rm.hh (by assumption)) (by walk_at "dk") (by rfl) ?_; intro zs zN; clear zS
  refine as_name ?_
  (rename Ok _ _ _ _ _ _ _ _ => zS); refine st_local zS (by assumption) (by rfl) ?_; intro zs zN; clear zS
  refine as_name ?_
  (rename Ok _ _ _ _ _ _ _ _ => zS); refine st_cell zS (by assumption) (by rfl) (by rfl) (by first | exact Nat.le_succ _ | exact Nat.le_succ_of_le (Nat.le_succ _) | exact Nat.le_succ_of_le (Nat.le_succ_of_le (Nat.le_succ _)) | exact Nat.le_succ_of_le (Nat.le_succ_of_le (Nat.le_succ_of_le (Nat.le_succ _))) | exact Nat.le_succ_of_le (Nat.le_succ_of_le (Nat.le_succ_of_le (Nat.le_succ_of_le (Nat.le_succ _))))) ?_; intro zs zN; clear zS
  refine wpAny_execs_cons ?_
  refine x_sub ?_ (by rfl)
  refine e_comp (by assumption) (by rfl) (by rfl) (by decide) (fun _ => rfl) ?_
  refine Call_ ?_ (by rfl)
  (rename Ok _ _ _ _ _ _ _ _ => zS); refine nm_built zS (by assumption) (Wd.B (by assumption)) (by rfl) (Wd.nob (by assumption) (by rfl)) ((Wd.bb (by assumption) _ (by decide)).trans (by first | exact b_range | exact b_len | exact b_list | exact b_enum | exact b_abs | exact b_min | exact b_sum)) ?_ (by decide)
  refine PyProof.Rows.callWith_type1 ?_ (by rfl) (by rfl)
  refine args_cons ?_ (by rfl)
  (rename Ok _ _ _ _ _ _ _ _ => zS); refine nm_local zS (by assumption) (by rfl) (by rfl) ?_ (by decide)
  refine args_nil ?_
  (rename Ok _ _ _ _ _ _ _ _ => zS); refine r_enum_zs zS (by walk_at "dk") ?_; intro ze zs zN zW; clear zS
  refine ready_e_iter (by assumption) ?_
  dsimp only
  rename Ok _ _ _ _ _ _ _ _ => S
  rename ReadyE _ _ _ _ _ => W9
  refine tail_pure_enum (n := m) (val := valZ (row M i)) S W9 R'.hh I (by rfl) rfl (by decide) (by rfl) (by rfl) (by rfl) (by exact lek (k := 1000) (by assumption) rfl) ?_ (fun _ => true) (fun k => s1 * el M i k + t1 * el M j k) ?_ ?_
  · intro O' cenv D' s2 hsub S2
    rw [← hli]
    exact need_zs S2 (by walk_at "dk")
  · rintro k v tk O' cenv D' s2 hk ⟨tv, rfl⟩ Ic hsub S2
    dsimp only at Ic
    clear S W9
    obtain ⟨q1, q2, q3, q4⟩ := hmul k
    refine ⟨?_, fun _ => ?_⟩
    · refine ts_nil ?_
      dsimp only
      exact ⟨rfl, D', Sub.refl, S2⟩
    · (rename Ok _ _ _ _ _ _ _ _ => zS); refine PI.use zS (pi_add (pi_mul (pi_name (by assumption) (by rfl) (by rfl)) (pi_name (by assumption) (by rfl) (by rfl)) (by first | assumption | (walk_at "mul"))) (pi_mul (pi_name (by assumption) (by rfl) (by rfl)) (pi_at (pv_name (by assumption) (by rfl)) (by walk_at "dk") (pi_name (by assumption) (by rfl) (by rfl)) (by walk_at "ix") (by walk_at "bd") (by walk_at "bd") (fun _ _ => rfl)) (by first | assumption | (walk_at "mul")))) ?_; intro zt zs zN; clear zS
      dsimp only
      exact ⟨_, _, rfl, Sub.refl, by assumption⟩
  intro l cenv O' s2 hl hlE K S2
  refine post_none K S2 fun s3 S3 => ?_
  rw [picked_tab] at S3
  clear S S2 W9
  (rename Ok _ _ _ _ _ _ _ _ => zS); refine nm_local zS (by assumption) (by rfl) (by rfl) ?_ (by decide)
  (rename Ok _ _ _ _ _ _ _ _ => zS); refine nm_local zS (by assumption) (by rfl) (by rfl) ?_ (by decide)
  rename Ok _ _ _ _ _ _ _ _ => S
  refine p_rowS S (M := M) (rs := rs) (n := n) (i := i) (x := rowComb s1 t1 (row M i) (row M j)) ((hM.sub (Sub.new (by assumption))).sub (Sub.new (by assumption))) sh hca rfl hi hn ?_ ?_
  · unfold rowComb; rw [hli]; exact upd_same ..
  intro D1 s4 hD1 hM1 hE1 S1
  have hal9 : ∀ r : Addr, D r = some (.zs (row M i)) ∨ D r = some (.zs (row M j)) → D1 r = D r := fun r hr => by
    rcases hr with hr | hr
    · rw [hr]; exact hE1 _ _ (by walk_at "dk") (by rintro rfl; rw [hM.1] at hr; cases hr)
    · rw [hr]; exact hE1 _ _ (by walk_at "dk") (by rintro rfl; rw [hM.1] at hr; cases hr)
  have hri1 := (hal9 _ (.inl hri)).trans hri
  have hrj1 := (hal9 _ (.inr hrj)).trans hrj
  have hX : Ext (· = a) D D1 := Ext.trans (Ext.trans (Ext.new (by assumption)) (Ext.new (by assumption))) hE1
  clear S hal9 hD1
  refine wpAny_execs_cons ?_
  refine x_sub ?_ (by rfl)
  refine e_comp (by assumption) (by rfl) (by rfl) (by decide) (fun _ => rfl) ?_
  refine Call_ ?_ (by rfl)
  (rename Ok _ _ _ _ _ _ _ _ => zS); refine nm_built zS (by assumption) (Wd.B (by assumption)) (by rfl) (Wd.nob (by assumption) (by rfl)) ((Wd.bb (by assumption) _ (by decide)).trans (by first | exact b_range | exact b_len | exact b_list | exact b_enum | exact b_abs | exact b_min | exact b_sum)) ?_ (by decide)
  refine PyProof.Rows.callWith_type1 ?_ (by rfl) (by rfl)
  refine args_cons ?_ (by rfl)
  (rename Ok _ _ _ _ _ _ _ _ => zS); refine nm_local zS (by assumption) (by rfl) (by rfl) ?_ (by decide)
  refine args_nil ?_
  (rename Ok _ _ _ _ _ _ _ _ => zS); refine r_enum_zs zS (by walk_at "dk") ?_; intro ze zs zN zW; clear zS
  refine ready_e_iter (by assumption) ?_
  dsimp only
  rename Ok _ _ _ _ _ _ _ _ => S
  rename ReadyE _ _ _ _ _ => W9
  refine tail_pure_enum (n := m) (val := valZ (row M i)) S W9 R'.hh I (by rfl) rfl (by decide) (by rfl) (by rfl) (by rfl) (by exact lek (k := 1000) (by assumption) rfl) ?_ (fun _ => true) (fun k => u1 * el M i k + v1 * el M j k) ?_ ?_
  · intro O' cenv D' s2 hsub S2
    rw [← hli]
    exact need_zs S2 (by walk_at "dk")
  · rintro k v tk O' cenv D' s2 hk ⟨tv, rfl⟩ Ic hsub S2
    dsimp only at Ic
    clear S W9
    obtain ⟨q1, q2, q3, q4⟩ := hmul k
    refine ⟨?_, fun _ => ?_⟩
    · refine ts_nil ?_
      dsimp only
      exact ⟨rfl, D', Sub.refl, S2⟩
    · (rename Ok _ _ _ _ _ _ _ _ => zS); refine PI.use zS (pi_add (pi_mul (pi_name (by assumption) (by rfl) (by rfl)) (pi_name (by assumption) (by rfl) (by rfl)) (by first | assumption | (walk_at "mul"))) (pi_mul (pi_name (by assumption) (by rfl) (by rfl)) (pi_at (pv_name (by assumption) (by rfl)) (by walk_at "dk") (pi_name (by assumption) (by rfl) (by rfl)) (by walk_at "ix") (by walk_at "bd") (by walk_at "bd") (fun _ _ => rfl)) (by first | assumption | (walk_at "mul")))) ?_; intro zt zs zN; clear zS
      dsimp only
      exact ⟨_, _, rfl, Sub.refl, by assumption⟩
  intro l2 cenv O' s2 hl2 hlE2 K2 S2
  refine post_none K2 S2 fun s3 S3 => ?_
  rw [picked_tab] at S3
  clear S S2 W9
  (rename Ok _ _ _ _ _ _ _ _ => zS); refine nm_local zS (by assumption) (by rfl) (by rfl) ?_ (by decide)
  (rename Ok _ _ _ _ _ _ _ _ => zS); refine nm_local zS (by assumption) (by rfl) (by rfl) ?_ (by decide)
  rename Ok _ _ _ _ _ _ _ _ => S
  refine p_rowS S (n := n) (i := j) (x := rowComb u1 v1 (row M i) (row M j)) (hM1.sub (Sub.new hl2)) (sh.set i (by unfold rowComb; rw [tab_length]; exact hli)) hca rfl hj hn ?_ ?_
  · unfold rowComb; rw [hli]; exact upd_same ..
  intro D2 s5 _ hM2 hE2 S2
  clear S
  refine wpAny_execs_nil ?_
  exact hQ _ _ ⟨_, _, S2, fun s6 S6 => k _ _ _ hM2 (Ext.trans (Ext.trans hX (Ext.new hl2)) hE2) S6⟩
end

section
variable {w : World} {A : Around} {E : Value → Shared → Prop}
variable {Hs : Heap} {se s : Shared} {mods : Addr → Prop} {env : Env} {O : Addr → Option Obj} {σ : Vars} {D : Know} {mg mb : Str → Option Value}
/-- extended, of ints of known size -/
theorem extended_bd (T : Wd w Hs mg mb) (Rr : Rm A 3) (S : Ok Hs se mods env O σ D s) {a b : Int} {ta tb : Tok} {Q : Value → Shared → Prop} {B : Nat} (ha : a.natAbs < 2 ^ B) (hb : b.natAbs < 2 ^ B) (h0 : b ≠ 0) (hB : B + 1 ≤ 2 ^ 26)
    (k : ∀ l D' s', D l = none → Sub D D' → TupIs D' l (extd a b) → Ok Hs se mods env O σ D' s' → Q (.ref l) s') : wpAny (model Pg w) A (call (.ref (fad mg "extended")) [.int a ta, .int b tb]) Q E s := by
  refine extended_spec T Rr S (fun o p => (o = (a, 1, 0) ∧ p = (b, 0, 1)) ∨ EInv a b o p) (.inl ⟨rfl, rfl⟩) ?_ k
  have hp := Nat.two_pow_pos B
  have e1 : 2 ^ (B + 1) = 2 ^ B * 2 := Nat.pow_succ ..
  rintro o p (⟨rfl, rfl⟩ | h) hne
  · have hq : (a.fdiv b).natAbs < 2 ^ (B + 1) := lt_mono (fdiv_lt ha) (by lia)
    exact ⟨mulOk hq (lt_mono hb (by lia)) hB, mulOk hq (by show (0 : Int).natAbs < _; simp; lia) hB, mulOk hq (by show (1 : Int).natAbs < _; rw [e1]; simp; lia) hB, .inr (einv_first h0)⟩
  · obtain ⟨k1, k2, k3, k4, k5, k6⟩ := h.bounds h0
    have hq : (o.1.fdiv p.1).natAbs < 2 ^ (B + 1) := lt_mono (fdiv_lt (B := B) (by lia)) (by lia)
    exact ⟨mulOk hq (by lia) hB, mulOk hq (by lia) hB, mulOk hq (by lia) hB, .inr (einv_step h hne)⟩

theorem clear_below_spec (T : Wd w Hs mg mb) (Rr : Rm A 8) (S : Ok Hs se mods env O σ D s) {h u : Addr} {rh ru : List Addr} {H U : Mat} {n m r c B : Nat} {tr tc : Tok} {Q : Value → Shared → Prop}
    (hH : MatD D h rh H) (hU : MatD D u ru U) (shH : Sh n m H) (shU : Sh n n U) (hne : h ≠ u) (hch : Can se mods h) (hcu : Can se mods u) (hr : r < n) (hc : c < m) (hn : n ≤ 10) (hm : m ≤ 10)
    (bH : Bd B H) (bU : Bd B U) (hB : (B + 2) * 2 ^ n ≤ 2 ^ 26)
    (k : ∀ rh' ru' D' s', MatD D' h rh' (clearUpto r c (n - (r + 1)) (H, U)).1 → MatD D' u ru' (clearUpto r c (n - (r + 1)) (H, U)).2 → Ext (fun b => b = h ∨ b = u) D D' → Ok Hs se mods env O σ D' s' → Q .none s') :
    wpAny (model Pg w) A (call (.ref (fad mg "clear_below")) [.ref h, .ref u, .int r tr, .int c tc]) Q E s := by
  refine enterW "clear_below" ["h", "u", "row", "column"] T Rr S rfl (fun _ _ _ => rfl) (fun _ _ _ => rfl) (by decide) (fun b => b = h ∨ b = u) (fun b hb => hb.elim (fun q => ⟨_, q ▸ hH.1⟩) fun q => ⟨_, q ▸ hU.1⟩) (fun b hb => hb.elim (fun q => q ▸ hch) fun q => q ▸ hcu) ?_
  clear S Rr
  intro env' s' I hN S' R' V
  dsimp only at I hN
  refine cutQ fun Q' hQ => ?_
  have ch : Can s (fun b => b = h ∨ b = u) h := .inl (.inl rfl)
  have cu : Can s (fun b => b = h ∨ b = u) u := .inl (.inr rfl)
  refine wpAny_execs_cons ?_
  refine wpAny_For ?_ (fun _ => rfl)
  (rename Ok _ _ _ _ _ _ _ _ => zS); refine ev_range2 zS (by assumption) (by assumption) (by rfl) (pi_add (pi_name (by assumption) (by rfl) (by rfl)) pi_const) (pi_len (by assumption) (by assumption) (by rfl) (pv_name (by assumption) (by rfl)) (by walk_at "mt") (by assumption) (by walk_at "bd") (fun _ _ => rfl)) (fun _ _ => rfl) (fun _ _ => rfl) ?_; intro zr zs zN zq; clear zS
  rename Ok _ _ _ _ _ _ _ _ => S
  refine r_range S R'.hh (by assumption) (by exact nle1 _) (by lia) (by exact nle _) (by exact ncl (k := 10) (by assumption) rfl) (n := n - (r + 1)) (by exact tns _ _) ?_
  intro it s1 S1 W1
  have base : ([("h", .ref h), ("u", .ref u), ("row", .int r tr), ("column", .int c tc)] : Vars) = ([("h", .ref h), ("u", .ref u), ("row", .int r tr), ("column", .int c tc)] : Vars) := rfl
  refine loop_over W1 S1 (bnd_local I (by rfl)) (fun i σ' D' => σ' = ([("h", .ref h), ("u", .ref u), ("row", .int r tr), ("column", .int c tc)] : Vars) ∧ ∃ rh ru, MatD D' h rh (clearUpto r c i (H, U)).1 ∧ MatD D' u ru (clearUpto r c i (H, U)).2 ∧ Ext (fun b => b = h ∨ b = u) D D')
    ⟨rfl, rh, ru, hH, hU, Ext.refl⟩ (fun _ _ _ _ _ _ => trivial) ?_ ?_
  · clear S S1 W1
    intro i v O' σ' D1 s2 hi g2 hO' g3 S2
    clear hQ
    refine cutQ fun Q2 hQ2 => ?_
    obtain ⟨ti, rfl⟩ := g2
    obtain ⟨rfl, rh1, ru1, hH1, hU1, hX⟩ := g3
    obtain ⟨o, ho⟩ : ∃ o : Nat, o = r + 1 + i := ⟨_, rfl⟩
    have hoi : ((r : Int) + 1 + (i : Int)) = (o : Int) := by lia
    rw [hoi] at S2
    have hon : o < n := by lia
    obtain ⟨shH1, shU1, B', hB', bH1, bU1⟩ := clearUpto_ok (c := c) (p := (H, U)) shH shU bH bU hr i
    have hBB : B' + 2 ≤ 2 ^ 26 := by
      rw [hB']; exact Nat.le_trans (Nat.mul_le_mul_left _ (two_le (by lia))) hB
    rw [clearUpto_succ, ← ho] at hQ2
    generalize clearUpto r c i (H, U) = p at hH1 hU1 shH1 shU1 bH1 bU1 hQ2
    obtain ⟨H1, U1⟩ := p
    dsimp only at hH1 hU1 shH1 shU1 bH1 bU1 hQ2
    clear hH hU shH shU bH bU k
    refine wpAny_execs_cons ?_
    refine wpAny_If ?_
    (rename Ok _ _ _ _ _ _ _ _ => zS); refine PB.use zS (pb_eq (pi_el (pv_name (by assumption) (by rfl)) (by walk_at "mt") (by assumption) (pi_name (by assumption) (by rfl) (by rfl)) (by walk_at "ix") (by walk_at "bd") (by walk_at "bd") (fun _ _ => rfl) (pi_name (by assumption) (by rfl) (by rfl)) (by walk_at "ix") (by walk_at "bd") (by walk_at "bd") (fun _ _ => rfl)) pi_const (by rfl)) ?_; intro zs zN; clear zS
    split
    · rename_i hz
      have hz' : el H1 o c = 0 := by simpa using hz
      refine wpAny_execs_cons ?_
      refine wpAny_Continue ?_
      dsimp only
      rename Ok _ _ _ _ _ _ _ _ => S
      refine hQ2 _ _ ⟨_, _, ⟨rfl, rh1, ru1, ?_, ?_, hX⟩, S.vars (by walk_at "vr")⟩
      · unfold clearStep; rw [if_pos hz']; exact hH1
      · unfold clearStep; rw [if_pos hz']; exact hU1
    · rename_i hz
      have hz' : el H1 o c ≠ 0 := by simpa using hz
      refine wpAny_execs_nil ?_
      refine wpAny_execs_cons ?_
      refine x_tup I hN ?_ rfl rfl
      (rename Ok _ _ _ _ _ _ _ _ => zS); refine ev_call zS (by assumption) (by assumption) (by rfl) (by rfl) (by decide) (pa_int (pi_el (pv_name (by assumption) (by rfl)) (by walk_at "mt") (by assumption) (pi_name (by assumption) (by rfl) (by rfl)) (by walk_at "ix") (by walk_at "bd") (by walk_at "bd") (fun _ _ => rfl) (pi_name (by assumption) (by rfl) (by rfl)) (by walk_at "ix") (by walk_at "bd") (by walk_at "bd") (fun _ _ => rfl)) (pa_int (pi_el (pv_name (by assumption) (by rfl)) (by walk_at "mt") (by assumption) (pi_name (by assumption) (by rfl) (by rfl)) (by walk_at "ix") (by walk_at "bd") (by walk_at "bd") (fun _ _ => rfl) (pi_name (by assumption) (by rfl) (by rfl)) (by walk_at "ix") (by walk_at "bd") (by walk_at "bd") (fun _ _ => rfl)) pa_nil (fun _ _ => rfl)) (fun _ _ => rfl)) (fun _ _ => rfl) ?_; intro zt zs zN; clear zS
      dsimp only
      rename Ok _ _ _ _ _ _ _ _ => S
      refine extended_bd T (R'.le (by decide)) S (bH1.el r c) (bH1.el o c) hz' (by exact Nat.le_of_lt (by assumption)) ?_
      intro l D2 s3 hl hs2 ⟨t1, t2, t3, hlt⟩ S3
      clear S
      have F := extd_facts (a := el H1 r c) hz'
      obtain ⟨q1, q2, q3⟩ := ext_lt (bH1.el r c) (bH1.el o c) hz'
      have e1 : (-((el H1 o c).fdiv (extd (el H1 r c) (el H1 o c)).1)).natAbs < 2 ^ (B' + 1) := by rw [Int.natAbs_neg]; exact lt_mono (fdiv_lt (bH1.el o c)) (by lia)
      have e2 : ((el H1 r c).fdiv (extd (el H1 r c) (el H1 o c)).1).natAbs < 2 ^ (B' + 1) := lt_mono (fdiv_lt (bH1.el r c)) (by lia)
      have hstep : clearStep r c (H1, U1) o = (combineM H1 r o (extd (el H1 r c) (el H1 o c)).2.1 (extd (el H1 r c) (el H1 o c)).2.2 (-((el H1 o c).fdiv (extd (el H1 r c) (el H1 o c)).1)) ((el H1 r c).fdiv (extd (el H1 r c) (el H1 o c)).1), combineM U1 r o (extd (el H1 r c) (el H1 o c)).2.1 (extd (el H1 r c) (el H1 o c)).2.2 (-((el H1 o c).fdiv (extd (el H1 r c) (el H1 o c)).1)) ((el H1 r c).fdiv (extd (el H1 r c) (el H1 o c)).1)) := by
        unfold clearStep; rw [if_neg hz']
      rw [hstep] at hQ2
      have hg : (extd (el H1 r c) (el H1 o c)).1 ≠ 0 := by have := F.pos; lia
      clear F hstep
      generalize extd (el H1 r c) (el H1 o c) = g at *
      obtain ⟨g, x, y⟩ := g
      dsimp only at hlt q1 q2 q3 e1 e2 hg hQ2
      (rename Ok _ _ _ _ _ _ _ _ => zS); refine as_tup3 zS (Rm.hh (by assumption)) (by walk_at "dk") (by rfl) ?_; intro zs zN; clear zS
      refine as_name ?_
      (rename Ok _ _ _ _ _ _ _ _ => zS); refine st_local zS (by assumption) (by rfl) ?_; intro zs zN; clear zS
      refine as_name ?_
      (rename Ok _ _ _ _ _ _ _ _ => zS); refine st_local zS (by assumption) (by rfl) ?_; intro zs zN; clear zS
      refine as_name ?_
      (rename Ok _ _ _ _ _ _ _ _ => zS); refine st_local zS (by assumption) (by rfl) ?_; intro zs zN; clear zS
      refine wpAny_execs_cons ?_
      rename Ok _ _ _ _ _ _ _ _ => S
      refine x_swap2 S R'.hh I hN ?_ rfl rfl
      refine Tuple_ ?_
      refine args_cons ?_ (by rfl)
      (rename Ok _ _ _ _ _ _ _ _ => zS); refine PI.use zS (pi_div (by assumption) (pi_el (pv_name (by assumption) (by rfl)) (by walk_at "mt") (by assumption) (pi_name (by assumption) (by rfl) (by rfl)) (by walk_at "ix") (by walk_at "bd") (by walk_at "bd") (fun _ _ => rfl) (pi_name (by assumption) (by rfl) (by rfl)) (by walk_at "ix") (by walk_at "bd") (by walk_at "bd") (fun _ _ => rfl)) (pi_name (by assumption) (by rfl) (by rfl)) (by first | assumption | decide | (walk_at "div"))) ?_; intro zt zs zN; clear zS
      refine args_cons ?_ (by rfl)
      (rename Ok _ _ _ _ _ _ _ _ => zS); refine PI.use zS (pi_div (by assumption) (pi_el (pv_name (by assumption) (by rfl)) (by walk_at "mt") (by assumption) (pi_name (by assumption) (by rfl) (by rfl)) (by walk_at "ix") (by walk_at "bd") (by walk_at "bd") (fun _ _ => rfl) (pi_name (by assumption) (by rfl) (by rfl)) (by walk_at "ix") (by walk_at "bd") (by walk_at "bd") (fun _ _ => rfl)) (pi_name (by assumption) (by rfl) (by rfl)) (by first | assumption | decide | (walk_at "div"))) ?_; intro zt zs zN; clear zS
      refine args_nil ?_
      (rename Ok _ _ _ _ _ _ _ _ => zS); refine n_tup zS (Nat.le_of_ble_eq_true rfl) ?_; intro zl zs zh zE zN; clear zS
      refine .mk (by assumption) (by walk_at "dk") ?_
      rename Ok _ _ _ _ _ _ _ _ => S
      intro s4 S4
      clear S
      (rename Ok _ _ _ _ _ _ _ _ => zS); refine st_local zS (by assumption) (by rfl) ?_; intro zs zN; clear zS
      (rename Ok _ _ _ _ _ _ _ _ => zS); refine st_local zS (by assumption) (by rfl) ?_; intro zs zN; clear zS
      refine wpAny_execs_cons ?_
      refine wpAny_For ?_ (fun _ => rfl)
      refine Tuple_ ?_
      refine args_cons ?_ (by rfl)
      (rename Ok _ _ _ _ _ _ _ _ => zS); refine nm_local zS (by assumption) (by rfl) (by rfl) ?_ (by decide)
      refine args_cons ?_ (by rfl)
      (rename Ok _ _ _ _ _ _ _ _ => zS); refine nm_local zS (by assumption) (by rfl) (by rfl) ?_ (by decide)
      refine args_nil ?_
      (rename Ok _ _ _ _ _ _ _ _ => zS); refine n_tup zS (Nat.le_of_ble_eq_true rfl) ?_; intro zl zs zh zE zN; clear zS
      rename Ok _ _ _ _ _ _ _ _ => S
      refine r_tup S R'.hh (by walk_at "dk") ?_
      intro it5 s5 S5 W5
      clear S
      have hH3 := S5.mat hH1 (by walk_at "ds")
      have hU3 := S5.mat hU1 (by walk_at "ds")
      have hX3 := S5.extS hX (by walk_at "ds")
      refine loop_pair W5 S5 (by walk_at "dk") (bnd_local I (by rfl))
        (fun σ' D' => (∃ t8 t9, σ' = ([("left", .int ((el H1 r c).fdiv g) t8), ("right", .int ((el H1 o c).fdiv g) t9), ("t", .int y t3), ("s", .int x t2), ("other", .int o ti), ("h", .ref h), ("u", .ref u), ("row", .int r tr), ("column", .int c tc)] : Vars)) ∧
          (∃ rh2, MatD D' h rh2 (combineM H1 r o x y (-((el H1 o c).fdiv g)) ((el H1 r c).fdiv g))) ∧ (∃ ru2, MatD D' u ru2 U1) ∧ Ext (fun b => b = h ∨ b = u) D D')
        (fun σ' D' => σ' = ([("h", .ref h), ("u", .ref u), ("row", .int r tr), ("column", .int c tc)] : Vars) ∧
          (∃ rh2, MatD D' h rh2 (combineM H1 r o x y (-((el H1 o c).fdiv g)) ((el H1 r c).fdiv g))) ∧ (∃ ru2, MatD D' u ru2 (combineM U1 r o x y (-((el H1 o c).fdiv g)) ((el H1 r c).fdiv g))) ∧ Ext (fun b => b = h ∨ b = u) D D') ?_ ?_ ?_
      · intro O5 s6 hO5 S6
        clear S5 W5
        refine cutQ fun Q3 hQ3 => ?_
        refine wpAny_execs_cons ?_
        refine x_expr (by assumption) ?_ (by rfl)
        (rename Ok _ _ _ _ _ _ _ _ => zS); refine ev_call zS (by assumption) (by assumption) (by rfl) (by rfl) (by decide) (pa_val (pv_name (by assumption) (by rfl)) (pa_int (pi_name (by assumption) (by rfl) (by rfl)) (pa_int (pi_name (by assumption) (by rfl) (by rfl)) (pa_int (pi_name (by assumption) (by rfl) (by rfl)) (pa_int (pi_name (by assumption) (by rfl) (by rfl)) (pa_int (pi_neg (pi_name (by assumption) (by rfl) (by rfl))) (pa_int (pi_name (by assumption) (by rfl) (by rfl)) pa_nil (fun _ _ => rfl)) (fun _ _ => rfl)) (fun _ _ => rfl)) (fun _ _ => rfl)) (fun _ _ => rfl)) (fun _ _ => rfl)) (fun _ _ => rfl)) (fun _ _ => rfl) ?_; intro zt zs zN; clear zS
        dsimp only
        rename Ok _ _ _ _ _ _ _ _ => S
        refine combine_spec T (R'.le (by decide)) S hH3 shH1 ch hr hon (by exact lek (k := 10) (by assumption) rfl) (by exact lek (k := 10) (by assumption) rfl) (by lia) (fun k => ⟨mulOk q2 (lt_mono (bH1.el r k) (by lia)) (by exact Nat.le_of_lt (by assumption)), mulOk q3 (lt_mono (bH1.el o k) (by lia)) (by exact Nat.le_of_lt (by assumption)), mulOk e1 (lt_mono (bH1.el r k) (by lia)) (by exact Nat.le_of_lt (by assumption)), mulOk e2 (lt_mono (bH1.el o k) (by lia)) (by exact Nat.le_of_lt (by assumption))⟩) ?_
        intro rh2 D6 s7 hM6 hE6 S7
        clear S
        refine wpAny_execs_nil ?_
        rename Ok _ _ _ _ _ _ _ _ => S
        refine hQ3 _ _ ⟨_, D6, ⟨⟨_, _, rfl⟩, ⟨rh2, hM6⟩, ⟨ru1, hU3.extAt hE6 hH3.1 (Ne.symm hne)⟩, hX3.trans (hE6.mono fun b hb => .inl hb)⟩, ?_, S.vars (by walk_at "vr")⟩
        exact hE6 _ _ (by walk_at "dk") (ne_know (by walk_at "dk") hH3.1 (by intro q; cases q))
      · intro O5 σ1 D6 s6 hO5 g4 hl6 S6
        refine cutQ fun Q3 hQ3 => ?_
        obtain ⟨⟨t8, t9, rfl⟩, ⟨rh2, hH6⟩, ⟨ru2, hU6⟩, hX6⟩ := g4
        clear S5 W5
        refine wpAny_execs_cons ?_
        refine x_expr (by assumption) ?_ (by rfl)
        (rename Ok _ _ _ _ _ _ _ _ => zS); refine ev_call zS (by assumption) (by assumption) (by rfl) (by rfl) (by decide) (pa_val (pv_name (by assumption) (by rfl)) (pa_int (pi_name (by assumption) (by rfl) (by rfl)) (pa_int (pi_name (by assumption) (by rfl) (by rfl)) (pa_int (pi_name (by assumption) (by rfl) (by rfl)) (pa_int (pi_name (by assumption) (by rfl) (by rfl)) (pa_int (pi_neg (pi_name (by assumption) (by rfl) (by rfl))) (pa_int (pi_name (by assumption) (by rfl) (by rfl)) pa_nil (fun _ _ => rfl)) (fun _ _ => rfl)) (fun _ _ => rfl)) (fun _ _ => rfl)) (fun _ _ => rfl)) (fun _ _ => rfl)) (fun _ _ => rfl)) (fun _ _ => rfl) ?_; intro zt zs zN; clear zS
        dsimp only
        rename Ok _ _ _ _ _ _ _ _ => S
        refine combine_spec T (R'.le (by decide)) S hU6 shU1 cu hr hon (by exact lek (k := 10) (by assumption) rfl) (by exact lek (k := 10) (by assumption) rfl) (by lia) (fun k => ⟨mulOk q2 (lt_mono (bU1.el r k) (by lia)) (by exact Nat.le_of_lt (by assumption)), mulOk q3 (lt_mono (bU1.el o k) (by lia)) (by exact Nat.le_of_lt (by assumption)), mulOk e1 (lt_mono (bU1.el r k) (by lia)) (by exact Nat.le_of_lt (by assumption)), mulOk e2 (lt_mono (bU1.el o k) (by lia)) (by exact Nat.le_of_lt (by assumption))⟩) ?_
        intro ru3 D7 s7 hM7 hE7 S7
        clear S
        refine wpAny_execs_nil ?_
        rename Ok _ _ _ _ _ _ _ _ => S
        refine hQ3 _ _ ⟨_, D7, ⟨rfl, ⟨rh2, hH6.extAt hE7 hU6.1 hne⟩, ⟨ru3, hM7⟩, hX6.trans (hE7.mono fun b hb => .inr hb)⟩, ?_, S.vars (by walk_at "vr")⟩
        exact hE7 _ _ hl6 (ne_know hl6 hU6.1 (by intro q; cases q))
      · rintro σ2 D2 s6 ⟨rfl, ⟨rh2, hH6⟩, ⟨ru2, hU6⟩, hX6⟩ S6
        refine wpAny_execs_nil ?_
        exact hQ2 _ _ ⟨_, _, ⟨rfl, rh2, ru2, hH6, hU6, hX6⟩, S6⟩
  · rintro σ' D' s2 ⟨rfl, rh2, ru2, hH2, hU2, hX2⟩ S2
    refine wpAny_execs_nil ?_
    exact hQ _ _ ⟨_, _, S2, fun s3 S3 => k _ _ _ _ hH2 hU2 hX2 S3⟩
end

section
variable {w : World} {A : Around} {E : Value → Shared → Prop}
variable {Hs : Heap} {se s : Shared} {mods : Addr → Prop} {env : Env} {O : Addr → Option Obj} {σ : Vars} {D : Know} {mg mb : Str → Option Value}
theorem reduce_above_spec (T : Wd w Hs mg mb) (Rr : Rm A 8) (S : Ok Hs se mods env O σ D s) {h u : Addr} {rh ru : List Addr} {H U : Mat} {n m r c B : Nat} {tr tc : Tok} {Q : Value → Shared → Prop}
    (hH : MatD D h rh H) (hU : MatD D u ru U) (shH : Sh n m H) (shU : Sh n n U) (hne : h ≠ u) (hch : Can se mods h) (hcu : Can se mods u) (hr : r < n) (hc : c < m) (hn : n ≤ 10) (hm : m ≤ 10)
    (bH : Bd B H) (bU : Bd B U) (hB : (B + 2) * 2 ^ n ≤ 2 ^ 26) (hz : el H r c ≠ 0)
    (hz' : ∀ i ≤ r, el (reduceUpto r c i (reduceNeg r c (H, U))).1 r c ≠ 0)
    (k : ∀ rh' ru' D' s', Two s D D' h u rh ru rh' ru' (reduceUpto r c r (reduceNeg r c (H, U))).1 (reduceUpto r c r (reduceNeg r c (H, U))).2 → Ok Hs se mods env O σ D' s' → Q .none s') :
    wpAny (model Pg w) A (call (.ref (fad mg "reduce_above")) [.ref h, .ref u, .int r tr, .int c tc]) Q E s := by
  refine enterW "reduce_above" ["h", "u", "row", "column"] T Rr S rfl (fun _ _ _ => rfl) (fun _ _ _ => rfl) (by decide) (fun b => b = h ∨ b = u) (fun b hb => hb.elim (fun q => ⟨_, q ▸ hH.1⟩) fun q => ⟨_, q ▸ hU.1⟩) (fun b hb => hb.elim (fun q => q ▸ hch) fun q => q ▸ hcu) ?_
  clear S Rr
  intro env' s' I hN S' R' V
  dsimp only at I hN
  refine cutQ fun Q' hQ => ?_
  have ch : Can s (fun b => b = h ∨ b = u) h := .inl (.inl rfl)
  have cu : Can s (fun b => b = h ∨ b = u) u := .inl (.inr rfl)
  refine wpAny_execs_cons ?_
  refine cut_exec (P := fun s1 => ∃ rh1 ru1 D1, Two s D D1 h u rh ru rh1 ru1 (reduceNeg r c (H, U)).1 (reduceNeg r c (H, U)).2 ∧ Ok Hs s (fun b => b = h ∨ b = u) env' (fun _ => none) ([("h", .ref h), ("u", .ref u), ("row", .int r tr), ("column", .int c tc)] : Vars) D1 s1) ?_ ?_
  refine cutQ fun Q2 hQ2 => ?_
  refine wpAny_If ?_
  (rename Ok _ _ _ _ _ _ _ _ => zS); refine PB.use zS (pb_lt (pi_el (pv_name (by assumption) (by rfl)) (by walk_at "mt") (by assumption) (pi_name (by assumption) (by rfl) (by rfl)) (by walk_at "ix") (by walk_at "bd") (by walk_at "bd") (fun _ _ => rfl) (pi_name (by assumption) (by rfl) (by rfl)) (by walk_at "ix") (by walk_at "bd") (by walk_at "bd") (fun _ _ => rfl)) pi_const (by rfl)) ?_; intro zs zN; clear zS
  split
  · rename_i hz1
    have hneg : reduceNeg r c (H, U) = (negRow H r, negRow U r) := by unfold reduceNeg; rw [if_pos (by simpa using hz1)]
    rw [hneg] at hQ2
    refine wpAny_execs_cons ?_
    refine wpAny_For ?_ (fun _ => rfl)
    refine Tuple_ ?_
    refine args_cons ?_ (by rfl)
    (rename Ok _ _ _ _ _ _ _ _ => zS); refine nm_local zS (by assumption) (by rfl) (by rfl) ?_ (by decide)
    refine args_cons ?_ (by rfl)
    (rename Ok _ _ _ _ _ _ _ _ => zS); refine nm_local zS (by assumption) (by rfl) (by rfl) ?_ (by decide)
    refine args_nil ?_
    (rename Ok _ _ _ _ _ _ _ _ => zS); refine n_tup zS (Nat.le_of_ble_eq_true rfl) ?_; intro zl zs zh zE zN; clear zS
    rename Ok _ _ _ _ _ _ _ _ => S
    refine r_tup S R'.hh (by walk_at "dk") ?_
    intro it5 s5 S5 W5
    clear S
    refine loop_mats (fun a M M' => ((a = h ∧ Sh n m M) ∨ (a = u ∧ Sh n n M)) ∧ M' = negRow M r) W5 S5 (by walk_at "dk") (bnd_cell I (by rfl) (by rfl) (by first | exact Nat.le_succ _ | exact Nat.le_succ_of_le (Nat.le_succ _) | exact Nat.le_succ_of_le (Nat.le_succ_of_le (Nat.le_succ _)))) (S5.mat hH (by walk_at "ds")) (S5.mat hU (by walk_at "ds")) hne ⟨.inl ⟨rfl, shH⟩, rfl⟩ ⟨.inr ⟨rfl, shU⟩, rfl⟩ ?_ ?_
    · intro O5 D5 s6 a rs M M' hO5 hC hM S6
      clear S5 W5 hH hU
      refine cutQ fun Q3 hQ3 => ?_
      obtain ⟨m', shM, hm', ca, rfl⟩ : ∃ m', Sh n m' M ∧ m' ≤ 10 ∧ Can s (fun b => b = h ∨ b = u) a ∧ M' = negRow M r := by
        rcases hC with ⟨⟨rfl, q⟩ | ⟨rfl, q⟩, z⟩
        · exact ⟨m, q, hm, ch, z⟩
        · exact ⟨n, q, hn, cu, z⟩
      clear hC shH shU
      have hrow := hM.rowAt (i := r) (by rw [shM.1]; exact hr)
      have hlr := shM.row hr
      refine wpAny_execs_cons ?_
      refine x_sub ?_ (by rfl)
      refine e_comp (by assumption) (by rfl) (by rfl) (by decide) (fun _ => rfl) ?_
      (rename Ok _ _ _ _ _ _ _ _ => zS); refine PV.use zS (pv_row (pv_name (by assumption) (by rfl)) (by walk_at "mt") (by assumption) (pi_name (by assumption) (by rfl) (by rfl)) (by walk_at "ix") (by walk_at "bd") (by walk_at "bd") (fun _ _ => rfl)) ?_; intro zs zN; clear zS
      dsimp only
      rename Ok _ _ _ _ _ _ _ _ => S
      refine r_zs S R'.hh hrow ?_
      intro it7 s7 S7 W7
      refine tail_pure S7 W7 I (by rfl) rfl (by decide) (by rfl) (by rfl) (by lia) (fun _ _ _ _ hs S' => S'.know _ _ (hs _ _ hrow)) (fun _ => true) (fun k => -(row M r).getD k 0) ?_ ?_
      · rintro j v O6 cenv D6 s8 hj ⟨tj, rfl⟩ Ic hs6 S8
        dsimp only at Ic
        clear S S7 W7
        refine ⟨?_, fun _ => ?_⟩
        · refine ts_nil ?_
          dsimp only
          exact ⟨rfl, D6, Sub.refl, S8⟩
        · (rename Ok _ _ _ _ _ _ _ _ => zS); refine PI.use zS (pi_neg (pi_name (by assumption) (by rfl) (by rfl))) ?_; intro zt zs zN; clear zS
          dsimp only
          exact ⟨_, _, rfl, Sub.refl, by assumption⟩
      intro l8 cenv O6 s8 hl8 hlE8 K8 S8
      refine post_none K8 S8 fun s9 S9 => ?_
      rw [picked_tab, show tab (row M r).length (fun k => -(row M r).getD k 0) = rowNeg (row M r) from rfl] at S9
      clear S S8 W7 S7
      (rename Ok _ _ _ _ _ _ _ _ => zS); refine nm_cell zS (by assumption) (.inl (by rfl)) (by rfl) (by rfl) ?_ (by decide) (by decide)
      (rename Ok _ _ _ _ _ _ _ _ => zS); refine nm_cell zS (by assumption) (.inl (by rfl)) (by rfl) (by rfl) ?_ (by decide) (by decide)
      rename Ok _ _ _ _ _ _ _ _ => S
      refine p_rowT S hM (by walk_at "ds") shM ca rfl hr (by exact lek (k := 10) (by assumption) rfl) (upd_same ..) hl8 hlE8 ?_
      intro D9 s10 T9 S10
      clear S
      refine wpAny_execs_nil ?_
      exact hQ3 _ _ ⟨_, _, T9, S10.vars (by walk_at "vr")⟩
    · intro rh1 ru1 D1 s6 T1 S6
      clear S5 W5
      refine wpAny_execs_nil ?_
      exact hQ2 _ _ ⟨rfl, rh1, ru1, D1, T1.pre (by walk_at "ds"), S6⟩
  · rename_i hz1
    have hneg : reduceNeg r c (H, U) = (H, U) := by unfold reduceNeg; rw [if_neg (by simpa using hz1)]
    rw [hneg] at hQ2
    refine wpAny_execs_nil ?_
    exact hQ2 _ _ ⟨rfl, rh, ru, _, Two.refl hH hU, by assumption⟩
  · clear S'
    rintro s1 ⟨rh1, ru1, D1, T1, S1⟩
    refine wpAny_execs_cons ?_
    refine wpAny_For ?_ (fun _ => rfl)
    (rename Ok _ _ _ _ _ _ _ _ => zS); refine ev_range1 zS (by assumption) (by assumption) (by rfl) (pi_name (by assumption) (by rfl) (by rfl)) (fun _ _ => rfl) ?_; intro zr zs zN zq; clear zS
    rename Ok _ _ _ _ _ _ _ _ => S
    refine r_range S R'.hh (by assumption) (by decide) (by decide) (by exact nle _) (by lia) (n := r) (by exact tns0 _) ?_
    intro it s1 S1 W1
    clear S
    obtain ⟨sN1, sN2, bN1, bN2⟩ := reduceNeg_ok (c := c) (p := (H, U)) shH shU bH bU hr
    refine loop_over W1 S1 (bnd_local I (by rfl)) (fun i σ' D' => σ' = ([("h", .ref h), ("u", .ref u), ("row", .int r tr), ("column", .int c tc)] : Vars) ∧ ∃ rh2 ru2, Two s D D' h u rh ru rh2 ru2 (reduceUpto r c i (reduceNeg r c (H, U))).1 (reduceUpto r c i (reduceNeg r c (H, U))).2)
      ⟨rfl, rh1, ru1, T1⟩ (fun _ _ _ _ _ _ => trivial) ?_ ?_
    · clear S1 W1 T1
      intro o v O' σ' D2 s2 hi g5 hO' g6 S2
      clear hQ
      refine cutQ fun Q2 hQ2 => ?_
      obtain ⟨ti, rfl⟩ := g5
      obtain ⟨rfl, rh2, ru2, T2⟩ := g6
      rw [Int.zero_add] at S2
      obtain ⟨shH1, shU1, B', hB', bH1, bU1⟩ := reduceUpto_ok (c := c) (r := r) sN1 sN2 bN1 bN2 o (by lia)
      have hBB : B' + 2 ≤ 2 ^ 26 := by
        rw [hB']; exact Nat.le_trans (Nat.mul_le_mul_left _ (two_le (by lia))) hB
      have hzo := hz' o (by exact Nat.le_of_lt (by assumption))
      rw [reduceUpto_succ] at hQ2
      generalize reduceUpto r c o (reduceNeg r c (H, U)) = p at *
      obtain ⟨H1, U1⟩ := p
      dsimp only at *
      have hH1 := T2.mh
      have hU1 := T2.mu
      have hon : o < n := by lia
      clear hH hU shH shU sN1 sN2 bN1 bN2 bH bU hz k
      refine wpAny_execs_cons ?_
      refine wpAny_Assign_Name ?_ (by rfl)
      (rename Ok _ _ _ _ _ _ _ _ => zS); refine PI.use zS (pi_div (by assumption) (pi_el (pv_name (by assumption) (by rfl)) (by walk_at "mt") (by assumption) (pi_name (by assumption) (by rfl) (by rfl)) (by walk_at "ix") (by walk_at "bd") (by walk_at "bd") (fun _ _ => rfl) (pi_name (by assumption) (by rfl) (by rfl)) (by walk_at "ix") (by walk_at "bd") (by walk_at "bd") (fun _ _ => rfl)) (pi_el (pv_name (by assumption) (by rfl)) (by walk_at "mt") (by assumption) (pi_name (by assumption) (by rfl) (by rfl)) (by walk_at "ix") (by walk_at "bd") (by walk_at "bd") (fun _ _ => rfl) (pi_name (by assumption) (by rfl) (by rfl)) (by walk_at "ix") (by walk_at "bd") (by walk_at "bd") (fun _ _ => rfl)) (by first | assumption | decide | (walk_at "div"))) ?_; intro zt zs zN; clear zS
      (rename Ok _ _ _ _ _ _ _ _ => zS); refine st_cell zS (by assumption) (by rfl) (by rfl) (by first | exact Nat.le_succ _ | exact Nat.le_succ_of_le (Nat.le_succ _) | exact Nat.le_succ_of_le (Nat.le_succ_of_le (Nat.le_succ _)) | exact Nat.le_succ_of_le (Nat.le_succ_of_le (Nat.le_succ_of_le (Nat.le_succ _))) | exact Nat.le_succ_of_le (Nat.le_succ_of_le (Nat.le_succ_of_le (Nat.le_succ_of_le (Nat.le_succ _))))) ?_; intro zs zN; clear zS
      refine wpAny_execs_cons ?_
      refine wpAny_For ?_ (fun _ => rfl)
      refine Tuple_ ?_
      refine args_cons ?_ (by rfl)
      (rename Ok _ _ _ _ _ _ _ _ => zS); refine nm_local zS (by assumption) (by rfl) (by rfl) ?_ (by decide)
      refine args_cons ?_ (by rfl)
      (rename Ok _ _ _ _ _ _ _ _ => zS); refine nm_local zS (by assumption) (by rfl) (by rfl) ?_ (by decide)
      refine args_nil ?_
      (rename Ok _ _ _ _ _ _ _ _ => zS); refine n_tup zS (Nat.le_of_ble_eq_true rfl) ?_; intro zl zs zh zE zN; clear zS
      rename Ok _ _ _ _ _ _ _ _ => S
      refine r_tup S R'.hh (by walk_at "dk") ?_
      intro it5 s5 S5 W5
      clear S
      have hq : ((el H1 o c).fdiv (el H1 r c)).natAbs < 2 ^ B' := fdiv_lt (bH1.el o c)
      refine loop_mats (fun a M M' => ((a = h ∧ Sh n m M ∧ Bd B' M) ∨ (a = u ∧ Sh n n M ∧ Bd B' M)) ∧ M' = subRow M o r ((el H1 o c).fdiv (el H1 r c))) W5 S5 (by walk_at "dk") (bnd_cell I (by rfl) (by rfl) (by first | exact Nat.le_succ _ | exact Nat.le_succ_of_le (Nat.le_succ _) | exact Nat.le_succ_of_le (Nat.le_succ_of_le (Nat.le_succ _)))) (S5.mat hH1 (by walk_at "ds")) (S5.mat hU1 (by walk_at "ds")) hne ⟨.inl ⟨rfl, shH1, bH1⟩, rfl⟩ ⟨.inr ⟨rfl, shU1, bU1⟩, rfl⟩ ?_ ?_
      · intro O5 D5 s6 a rs M M' hO5 hC hM S6
        clear S5 W5
        refine cutQ fun Q3 hQ3 => ?_
        obtain ⟨m', shM, bM, hm', ca, rfl⟩ : ∃ m', Sh n m' M ∧ Bd B' M ∧ m' ≤ 10 ∧ Can s (fun b => b = h ∨ b = u) a ∧ M' = subRow M o r ((el H1 o c).fdiv (el H1 r c)) := by
          rcases hC with ⟨⟨rfl, q, q'⟩ | ⟨rfl, q, q'⟩, z⟩
          · exact ⟨m, q, q', hm, ch, z⟩
          · exact ⟨n, q, q', hn, cu, z⟩
        clear hC shH1 shU1 hH1 hU1
        have hrow := hM.rowAt (i := o) (by rw [shM.1]; exact hon)
        have hlr := shM.row hon
        refine wpAny_execs_cons ?_
        refine x_sub ?_ (by rfl)
        refine e_comp (by assumption) (by rfl) (by rfl) (by decide) (fun _ => rfl) ?_
        refine Call_ ?_ (by rfl)
        (rename Ok _ _ _ _ _ _ _ _ => zS); refine nm_built zS (by assumption) (Wd.B (by assumption)) (by rfl) (Wd.nob (by assumption) (by rfl)) ((Wd.bb (by assumption) _ (by decide)).trans (by first | exact b_range | exact b_len | exact b_list | exact b_enum | exact b_abs | exact b_min | exact b_sum)) ?_ (by decide)
        refine PyProof.Rows.callWith_type1 ?_ (by rfl) (by rfl)
        refine args_cons ?_ (by rfl)
        (rename Ok _ _ _ _ _ _ _ _ => zS); refine PV.use zS (pv_row (pv_name (by assumption) (by rfl)) (by walk_at "mt") (by assumption) (pi_name (by assumption) (by rfl) (by rfl)) (by walk_at "ix") (by walk_at "bd") (by walk_at "bd") (fun _ _ => rfl)) ?_; intro zs zN; clear zS
        refine args_nil ?_
        (rename Ok _ _ _ _ _ _ _ _ => zS); refine r_enum_zs zS (by walk_at "dk") ?_; intro ze zs zN zW; clear zS
        refine ready_e_iter (by assumption) ?_
        dsimp only
        rename Ok _ _ _ _ _ _ _ _ => S
        rename ReadyE _ _ _ _ _ => W9
        refine tail_pure_enum (n := m') (val := valZ (row M o)) S W9 R'.hh I (by rfl) rfl (by decide) (by rfl) (by rfl) (by rfl) (by exact lek (k := 10) (by assumption) rfl) ?_ (fun _ => true) (fun k => (row M o).getD k 0 - ((el H1 o c).fdiv (el H1 r c)) * el M r k) ?_ ?_
        · intro O' cenv D' s2 hsub S2
          rw [← hlr]
          exact need_zs S2 (by walk_at "dk")
        · rintro k v tk O' cenv D' s2 hk ⟨tv, rfl⟩ Ic hsub S2
          dsimp only at Ic
          clear S W9
          have hmul : IntMulOk ((el H1 o c).fdiv (el H1 r c)) (el M r k) := mulOk hq (bM.el r k) (by lia)
          refine ⟨?_, fun _ => ?_⟩
          · refine ts_nil ?_
            dsimp only
            exact ⟨rfl, D', Sub.refl, S2⟩
          · (rename Ok _ _ _ _ _ _ _ _ => zS); refine PI.use zS (pi_sub (pi_name (by assumption) (by rfl) (by rfl)) (pi_mul (pi_name (by assumption) (by rfl) (by rfl)) (pi_el (pv_name (by assumption) (by rfl)) (by walk_at "mt") (by assumption) (pi_name (by assumption) (by rfl) (by rfl)) (by walk_at "ix") (by walk_at "bd") (by walk_at "bd") (fun _ _ => rfl) (pi_name (by assumption) (by rfl) (by rfl)) (by walk_at "ix") (by walk_at "bd") (by walk_at "bd") (fun _ _ => rfl)) (by first | assumption | (walk_at "mul")))) ?_; intro zt zs zN; clear zS
            dsimp only
            exact ⟨_, _, rfl, Sub.refl, by assumption⟩
        intro l8 cenv O6 s8 hl8 hlE8 K8 S8
        refine post_none K8 S8 fun s9 S9 => ?_
        rw [picked_tab, show tab m' (fun k => (row M o).getD k 0 - ((el H1 o c).fdiv (el H1 r c)) * el M r k) = rowSub ((el H1 o c).fdiv (el H1 r c)) (row M o) (row M r) from by rw [← hlr]; rfl] at S9
        clear S S8 W9
        (rename Ok _ _ _ _ _ _ _ _ => zS); refine nm_cell zS (by assumption) (.inl (by rfl)) (by rfl) (by rfl) ?_ (by decide) (by decide)
        (rename Ok _ _ _ _ _ _ _ _ => zS); refine nm_local zS (by assumption) (by rfl) (by rfl) ?_ (by decide)
        rename Ok _ _ _ _ _ _ _ _ => S
        refine p_rowT S hM (by walk_at "ds") shM ca rfl hon (by exact lek (k := 10) (by assumption) rfl) (upd_same ..) hl8 hlE8 ?_
        intro D9 s10 T9 S10
        clear S
        refine wpAny_execs_nil ?_
        exact hQ3 _ _ ⟨_, _, T9, S10.vars (by walk_at "vr")⟩
      · intro rh3 ru3 D3 s6 T3 S6
        clear S5 W5
        refine wpAny_execs_nil ?_
        exact hQ2 _ _ ⟨_, _, ⟨rfl, rh3, ru3, T2.trans (T3.pre (by walk_at "ds"))⟩, S6.vars (by walk_at "vr")⟩
    · rintro σ' D' s2 ⟨rfl, rh2, ru2, T2⟩ S2
      refine wpAny_execs_nil ?_
      exact hQ _ _ ⟨_, _, S2, fun s3 S3 => k _ _ _ _ T2 S3⟩
end

section
variable {w : World} {A : Around} {E : Value → Shared → Prop}
variable {Hs : Heap} {se s : Shared} {mods : Addr → Prop} {env : Env} {O : Addr → Option Obj} {σ : Vars} {D : Know} {mg mb : Str → Option Value}
theorem hermite_spec (T : Wd w Hs mg mb) (Rr : Rm A 12) (S : Ok Hs se mods env O σ D s) {a : Addr} {ra : List Addr} {G : Mat} {n m B : Nat} {tw : Tok} {Q : Value → Shared → Prop}
    (hM : MatD D a ra G) (sh : Sh n m G) (hn0 : 0 < n) (hn : n ≤ 3) (hm : m ≤ 3) (bG : Bd B G) (hB1 : 1 ≤ B) (hB : B ≤ 100)
    (k : ∀ l h u rh ru D' s', D l = none → D' l = some (.tup [.ref h, .ref u]) → Sub D D' → MatD D' h rh (hermite G m).1 → MatD D' u ru (hermite G m).2 → Ok Hs se mods env O σ D' s' → Q (.ref l) s') :
    wpAny (model Pg w) A (call (.ref (fad mg "hermite_form")) [.ref a, .int m tw]) Q E s := by
  refine enterW "hermite_form" ["a", "width"] T Rr S rfl (fun _ _ _ => rfl) (fun _ _ _ => rfl) (by decide) (fun _ => False) (fun _ h => h.elim) (fun _ h => h.elim) ?_
  clear S Rr
  intro env' s' I hN S' R' V
  dsimp only at I hN
  refine cutQ fun Q' hQ => ?_
  refine wpAny_execs_cons ?_
  refine x_swap2 S' R'.hh I hN ?_ rfl rfl
  refine Tuple_ ?_
  refine args_cons ?_ (by rfl)
  refine e_comp (by assumption) (by rfl) (by rfl) (by decide) (fun _ => rfl) ?_
  (rename Ok _ _ _ _ _ _ _ _ => zS); refine nm_local zS (by assumption) (by rfl) (by rfl) ?_ (by decide)
  rename Ok _ _ _ _ _ _ _ _ => S
  refine r_vals S R'.hh hM.1 ?_
  intro it s1 S1 W1
  refine tail_new S1 W1 I (by rfl) rfl (by decide) (by rfl) (.inl (by rfl)) (by rw [List.length_map, hM.2.1, sh.1]; exact lek (k := 3) (by assumption) rfl) (fun _ _ _ _ hs S' => S'.know _ _ (hs _ _ hM.1)) (fun i => row G i) ?_ ?_
  · rintro i v O' cenv D' s2 hi hv Ic hsub S2
    dsimp only at Ic
    clear S S1 W1
    obtain ⟨hi', rfl, hr⟩ := hM.val hv
    have hlr := sh.row (i := i) (by rw [← sh.1]; exact hi')
    refine ⟨?_, ?_⟩
    · refine ts_nil ?_
      dsimp only
      exact ⟨rfl, D', Sub.refl, S2⟩
    · refine Call_ ?_ (by rfl)
      (rename Ok _ _ _ _ _ _ _ _ => zS); refine nm_built zS (by assumption) (Wd.B (by assumption)) (by rfl) (Wd.nob (by assumption) (by rfl)) ((Wd.bb (by assumption) _ (by decide)).trans (by first | exact b_range | exact b_len | exact b_list | exact b_enum | exact b_abs | exact b_min | exact b_sum)) ?_ (by decide)
      refine PyProof.Rows.callWith_type1 ?_ (by rfl) (by rfl)
      refine args_cons ?_ (by rfl)
      (rename Ok _ _ _ _ _ _ _ _ => zS); refine nm_local zS (by assumption) (by rfl) (by rfl) ?_ (by decide)
      refine args_nil ?_
      dsimp only
      rename Ok _ _ _ _ _ _ _ _ => S
      refine f_copy S (by walk_at "dk") (by lia) ?_
      intro l s3 hl hlE S3
      exact ⟨l, _, rfl, hl, hlE, Sub.new hl, upd_same .., S3⟩
  intro lh rh D1 cenv O' s2 hl hlE hlen hrs hnd hsub hlD hG K S2
  refine post_none K S2 fun s3 S3 => ?_
  have hH : MatD D1 lh rh G := MatD.ofRows hlD (by rw [hlen, List.length_map, hM.2.1]) hG
  clear S S1 W1 S2 K hG hlD hrs
  refine args_cons ?_ (by rfl)
  (rename Ok _ _ _ _ _ _ _ _ => zS); refine ev_call zS (by assumption) (by assumption) (by rfl) (by rfl) (by decide) (pa_int (pi_len (by assumption) (by assumption) (by rfl) (pv_name (by assumption) (by rfl)) (by walk_at "mt") (by assumption) (by walk_at "bd") (fun _ _ => rfl)) pa_nil (fun _ _ => rfl)) (fun _ _ => rfl) ?_; intro zt zs zN; clear zS
  rename Ok _ _ _ _ _ _ _ _ => S
  refine unit_rows_spec T (R'.le (by exact Nat.le_of_ble_eq_true rfl)) S (n := n) (by exact lek (k := 3) (by assumption) rfl) ?_
  intro lu ru D2 s4 hs2 NU S4
  have cu := S.canOf NU.na
  have hlu := S.noneOf NU.na
  have hne : lh ≠ lu := ne_new (hH.sub (Sub.refl)).1 hlu
  clear S
  refine args_nil ?_
  (rename Ok _ _ _ _ _ _ _ _ => zS); refine n_tup zS (Nat.le_of_ble_eq_true rfl) ?_; intro zl zs zh zE zN; clear zS
  refine .mk (by assumption) (by walk_at "dk") ?_
  rename Ok _ _ _ _ _ _ _ _ => S
  intro s5 S5
  clear S
  (rename Ok _ _ _ _ _ _ _ _ => zS); refine st_local zS (by assumption) (by rfl) ?_; intro zs zN; clear zS
  (rename Ok _ _ _ _ _ _ _ _ => zS); refine st_local zS (by assumption) (by rfl) ?_; intro zs zN; clear zS
  (rename Ok _ _ _ _ _ _ _ _ => zS); refine sx_int zS (by assumption) (by rfl) pi_const (by rfl) ?_; intro zt zs zN; clear zS
  refine wpAny_execs_cons ?_
  refine wpAny_For ?_ (fun _ => rfl)
  (rename Ok _ _ _ _ _ _ _ _ => zS); refine ev_range1 zS (by assumption) (by assumption) (by rfl) (pi_name (by assumption) (by rfl) (by rfl)) (fun _ _ => rfl) ?_; intro zr zs zN zq; clear zS
  rename Ok _ _ _ _ _ _ _ _ => S
  refine r_range S R'.hh (by assumption) (by decide) (by decide) (by exact nle _) (by exact ncl (k := 3) (by assumption) rfl) (n := m) (by exact tns0 _) ?_
  intro it s1 S1 W1
  have chh : Can s (fun _ => False) lh := .inr hlE
  have hH1 := S1.mat hH (by walk_at "ds")
  have hU1 := S1.mat NU.mat (by walk_at "ds")
  have hsub1 : Sub D _ := S1.subOf (by walk_at "ds")
  have hDh : D lh = none := hl
  have hDu : D lu = none := by walk_at "fs"
  refine cut_code (P := fun s1 => ∃ D1 rh ru, MatD D1 lh rh (hermite G m).1 ∧ MatD D1 lu ru (hermite G m).2 ∧ Sub D D1 ∧ Ok Hs s (fun _ => False) env' (fun _ => none) ([("h", .ref lh), ("u", .ref lu)] : Vars) D1 s1) ?_ ?_
  · refine loop_over W1 (S1.vars (σ' := ([("row", .int 0 _), ("h", .ref lh), ("u", .ref lu)] : Vars)) (by walk_at "vr")) (bnd_local I (by rfl)) (fun i σ' D' => ((∃ t8, σ' = ([("row", .int (hermUpto G i).2 t8), ("h", .ref lh), ("u", .ref lu)] : Vars)) ∧ ∃ rh ru, MatD D' lh rh (hermUpto G i).1.1 ∧ MatD D' lu ru (hermUpto G i).1.2 ∧ Sub D D'))
      ?_ (fun _ _ _ _ _ _ => trivial) ?_ ?_
    · exact ⟨⟨_, rfl⟩, rh, ru, hH1, by show MatD _ lu ru (unitRows G.length); rw [sh.1]; exact hU1, hsub1⟩
    · clear S1 W1 S
      intro c v O' σ' D2 s2 hi g7 hO' g8 S2
      clear hQ
      refine cutQ fun Q2 hQ2 => ?_
      obtain ⟨ti, rfl⟩ := g7
      obtain ⟨⟨t8, rfl⟩, rh2, ru2, hH2, hU2, hs2⟩ := g8
      rw [Int.zero_add] at S2
      obtain ⟨shH2, shU2, hq, B2, hB2, bH2, bU2⟩ := hermUpto_ok sh bG hB1 c
      have hBs : B2 + 2 ≤ 102 * 2 ^ 12 := Nat.le_trans hB2 (Nat.mul_le_mul (by lia) (two_le (Nat.le_trans (Nat.mul_le_mul (show 2 * n ≤ 6 by lia) (show c ≤ 2 by lia)) (by decide))))
      have h2n : 2 ^ n ≤ 2 ^ 3 := two_le hn
      have hBB : (B2 + 2) * 2 ^ n ≤ 2 ^ 26 := Nat.le_trans (Nat.mul_le_mul hBs h2n) (by decide)
      have hstop := fun hs => hermUpto_stop (M := G) (i := c) hs (w := m) (by exact Nat.le_of_lt (by assumption))
      rw [hermUpto_succ, sh.1] at hQ2
      rw [sh.1] at hstop
      generalize hermUpto G c = q at *
      obtain ⟨⟨H2, U2⟩, r⟩ := q
      dsimp only at *
      have hs2h : D2 lh ≠ none := by rw [hH2.1]; intro q; cases q
      clear hH NU hH1 hU1 hM sh bG
      refine wpAny_execs_cons ?_
      refine wpAny_If ?_
      (rename Ok _ _ _ _ _ _ _ _ => zS); refine PB.use zS (pb_eq (pi_name (by assumption) (by rfl) (by rfl)) (pi_len (by assumption) (by assumption) (by rfl) (pv_name (by assumption) (by rfl)) (by walk_at "mt") (by assumption) (by walk_at "bd") (fun _ _ => rfl)) (by rfl)) ?_; intro zs zN; clear zS
      split
      · rename_i hz
        have hz' : r = n := by simp at hz; lia
        refine wpAny_execs_cons ?_
        refine wpAny_Break ?_
        dsimp only
        rename Ok _ _ _ _ _ _ _ _ => S
        exact hQ2 _ _ ⟨rfl, D2, rh2, ru2, by rw [hermite_eq, hstop hz']; exact hH2, by rw [hermite_eq, hstop hz']; exact hU2, hs2, (S.lessO (O := fun _ => none) hO').vars (by walk_at "vr")⟩
      · rename_i hz
        have hz' : ¬ r = n := by simp at hz; lia
        have hrn : r < n := by lia
        refine wpAny_execs_nil ?_
        refine wpAny_execs_cons ?_
        refine x_expr (by assumption) ?_ (by rfl)
        (rename Ok _ _ _ _ _ _ _ _ => zS); refine ev_call zS (by assumption) (by assumption) (by rfl) (by rfl) (by decide) (pa_val (pv_name (by assumption) (by rfl)) (pa_val (pv_name (by assumption) (by rfl)) (pa_int (pi_name (by assumption) (by rfl) (by rfl)) (pa_int (pi_name (by assumption) (by rfl) (by rfl)) pa_nil (fun _ _ => rfl)) (fun _ _ => rfl)) (fun _ _ => rfl)) (fun _ _ => rfl)) (fun _ _ => rfl) ?_; intro zt zs zN; clear zS
        dsimp only
        rename Ok _ _ _ _ _ _ _ _ => S
        refine clear_below_spec T (R'.le (by exact Nat.le_of_ble_eq_true rfl)) S hH2 hU2 shH2 shU2 hne chh cu hrn (by assumption) (by exact lek (k := 3) (by assumption) rfl) (by exact lek (k := 3) (by assumption) rfl) bH2 bU2 hBB ?_
        intro rh3 ru3 D3 s3 hH3 hU3 hX3 S3
        clear S
        obtain ⟨shH3, shU3, B3, hB3, bH3, bU3⟩ := clearUpto_ok (c := c) (p := (H2, U2)) shH2 shU2 bH2 bU2 hrn (n - (r + 1))
        have hB3s : (B3 + 2) * 2 ^ n ≤ 2 ^ 26 := by
          rw [hB3]
          exact Nat.le_trans (Nat.mul_le_mul (Nat.mul_le_mul hBs (two_le (show n - (r + 1) ≤ 2 by lia))) h2n) (by decide)
        have hstep := fun hz => hermStep_lead (n := n) (c := c) (q := ((H2, U2), r)) hz' hz
        have hstep' := fun hz => hermStep_none (n := n) (c := c) (q := ((H2, U2), r)) hz' hz
        dsimp only at hstep hstep'
        have hX3' : Sub D D3 := fun b c' e => hX3 b c' (hs2 b c' e) (by rintro (rfl | rfl); · rw [hDh] at e; cases e
                                                                        · rw [hDu] at e; cases e)
        generalize clearUpto r c (n - (r + 1)) (H2, U2) = p at *
        obtain ⟨H3, U3⟩ := p
        dsimp only at *
        clear hH2 hU2 hX3 shH2 shU2 bH2 bU2 hs2
        refine wpAny_execs_cons ?_
        refine wpAny_If ?_
        (rename Ok _ _ _ _ _ _ _ _ => zS); refine PB.use zS (pb_ne (pi_el (pv_name (by assumption) (by rfl)) (by walk_at "mt") (by assumption) (pi_name (by assumption) (by rfl) (by rfl)) (by walk_at "ix") (by walk_at "bd") (by walk_at "bd") (fun _ _ => rfl) (pi_name (by assumption) (by rfl) (by rfl)) (by walk_at "ix") (by walk_at "bd") (by walk_at "bd") (fun _ _ => rfl)) pi_const (by rfl)) ?_; intro zs zN; clear zS
        split
        · rename_i hne0
          have hne0' : el H3 r c ≠ 0 := by simpa using hne0
          rw [hstep hne0'] at hQ2
          refine wpAny_execs_cons ?_
          refine x_expr (by assumption) ?_ (by rfl)
          (rename Ok _ _ _ _ _ _ _ _ => zS); refine ev_call zS (by assumption) (by assumption) (by rfl) (by rfl) (by decide) (pa_val (pv_name (by assumption) (by rfl)) (pa_val (pv_name (by assumption) (by rfl)) (pa_int (pi_name (by assumption) (by rfl) (by rfl)) (pa_int (pi_name (by assumption) (by rfl) (by rfl)) pa_nil (fun _ _ => rfl)) (fun _ _ => rfl)) (fun _ _ => rfl)) (fun _ _ => rfl)) (fun _ _ => rfl) ?_; intro zt zs zN; clear zS
          dsimp only
          rename Ok _ _ _ _ _ _ _ _ => S
          refine reduce_above_spec T (R'.le (by exact Nat.le_of_ble_eq_true rfl)) S hH3 hU3 shH3 shU3 hne chh cu hrn (by assumption) (by exact lek (k := 3) (by assumption) rfl) (by exact lek (k := 3) (by assumption) rfl) bH3 bU3 hB3s hne0' (fun i hi => reduce_keeps (p := (H3, U3)) shH3 hrn (by assumption) hne0' hi) ?_
          intro rh4 ru4 D4 s4 T4 S4
          clear S
          (rename Ok _ _ _ _ _ _ _ _ => zS); refine sx_int zS (by assumption) (by rfl) (pi_add (pi_name (by assumption) (by rfl) (by rfl)) pi_const) (by rfl) ?_; intro zt zs zN; clear zS
          refine wpAny_execs_nil ?_
          refine wpAny_execs_nil ?_
          rename Ok _ _ _ _ _ _ _ _ => S
          exact hQ2 _ _ ⟨_, D4, ⟨⟨_, rfl⟩, rh4, ru4, T4.mh, T4.mu, fun b c' e => T4.ext b c' (hX3' b c' e) (fun q => q.elim (fun q => by rw [q, hDh] at e; cases e) fun q => by rw [q, hDu] at e; cases e)⟩, S.vars (by walk_at "vr")⟩
        · rename_i hne0
          have hne0' : ¬ el H3 r c ≠ 0 := by simpa using hne0
          rw [hstep' hne0'] at hQ2
          refine wpAny_execs_nil ?_
          refine wpAny_execs_nil ?_
          rename Ok _ _ _ _ _ _ _ _ => S
          exact hQ2 _ _ ⟨_, D3, ⟨⟨_, rfl⟩, rh3, ru3, hH3, hU3, hX3'⟩, S.vars (by walk_at "vr")⟩
    · rintro σ' D' s2 ⟨⟨t8, rfl⟩, rh2, ru2, hH2, hU2, hs2⟩ S2
      exact ⟨rfl, D', rh2, ru2, hH2, hU2, hs2, S2.vars (by walk_at "vr")⟩
  · rintro s6 ⟨D6, rh6, ru6, hH6, hU6, hs6, S6⟩
    clear S1 W1
    refine wpAny_execs_cons ?_
    refine wpAny_Return_some ?_
    refine Tuple_ ?_
    refine args_cons ?_ (by rfl)
    (rename Ok _ _ _ _ _ _ _ _ => zS); refine nm_local zS (by assumption) (by rfl) (by rfl) ?_ (by decide)
    refine args_cons ?_ (by rfl)
    (rename Ok _ _ _ _ _ _ _ _ => zS); refine nm_local zS (by assumption) (by rfl) (by rfl) ?_ (by decide)
    refine args_nil ?_
    (rename Ok _ _ _ _ _ _ _ _ => zS); refine n_tup zS (Nat.le_of_ble_eq_true rfl) ?_; intro zl zs zh zE zN; clear zS
    dsimp only
    rename Ok _ _ _ _ _ _ _ _ => S
    exact hQ _ _ ⟨_, _, S, fun s7 S7 => k _ lh lu rh6 ru6 _ s7 (by walk_at "fs") (by walk_at "dk") (by walk_at "ds") (hH6.sub (by walk_at "ds")) (hU6.sub (by walk_at "ds")) S7⟩
end

section
variable {w : World} {A : Around} {E : Value → Shared → Prop}
variable {Hs : Heap} {se s : Shared} {mods : Addr → Prop} {env : Env} {O : Addr → Option Obj} {σ : Vars} {D : Know} {mg mb : Str → Option Value}
/-- the variable of the least spot -/
noncomputable def FoundIs (D : Know) (v : Value) : Option (Nat × Nat) → Prop
  | none => v = .none
  | some p => ∃ l t1 t2, v = .ref l ∧ D l = some (.tup [.int p.1 t1, .int p.2 t2])
theorem FoundIs.sub {D D' : Know} {v : Value} {f : Option (Nat × Nat)} (h : FoundIs D v f) (hs : Sub D D') : FoundIs D' v f := by
  cases f with
  | none => exact h
  | some p => obtain ⟨l, t1, t2, h1, h2⟩ := h; exact ⟨l, t1, t2, h1, hs _ _ h2⟩

theorem least_spot_spec (T : Wd w Hs mg mb) (Rr : Rm A 3) (S : Ok Hs se mods env O σ D s) {a : Addr} {ra : List Addr} {G : Mat} {n m st : Nat} {ts tw : Tok} {Q : Value → Shared → Prop}
    (hM : MatD D a ra G) (sh : Sh n m G) (hn : n ≤ 10) (hm : m ≤ 10) (hsn : st ≤ n) (hsm : st ≤ m)
    (k : ∀ v D' s', FoundIs D' v (least G st n m) → Sub D D' → Ok Hs se mods env O σ D' s' → Q v s') :
    wpAny (model Pg w) A (call (.ref (fad mg "least_spot")) [.ref a, .int st ts, .int m tw]) Q E s := by
  refine enterW "least_spot" ["a", "step", "width"] T Rr S rfl (fun _ _ _ => rfl) (fun _ _ _ => rfl) (by decide) (fun _ => False) (fun _ h => h.elim) (fun _ h => h.elim) ?_
  clear S Rr
  intro env' s' I hN S' R' V
  dsimp only at I hN
  refine cutQ fun Q' hQ => ?_
  refine wpAny_execs_cons ?_
  refine wpAny_Assign_Name ?_ (by rfl)
  refine c_none ?_
  (rename Ok _ _ _ _ _ _ _ _ => zS); refine st_local zS (by assumption) (by rfl) ?_; intro zs zN; clear zS
  refine wpAny_execs_cons ?_
  refine wpAny_For ?_ (fun _ => rfl)
  (rename Ok _ _ _ _ _ _ _ _ => zS); refine ev_range2 zS (by assumption) (by assumption) (by rfl) (pi_name (by assumption) (by rfl) (by rfl)) (pi_len (by assumption) (by assumption) (by rfl) (pv_name (by assumption) (by rfl)) (by walk_at "mt") (by assumption) (by walk_at "bd") (fun _ _ => rfl)) (fun _ _ => rfl) (fun _ _ => rfl) ?_; intro zr zs zN zq; clear zS
  rename Ok _ _ _ _ _ _ _ _ => S
  refine r_range S R'.hh (by assumption) (by exact nle _) (by lia) (by exact nle _) (by exact ncl (k := 10) (by assumption) rfl) (n := n - st) (by exact Int.toNat_sub _ _) ?_
  intro it s1 S1 W1
  clear S
  refine loop_over W1 (S1.vars (σ' := ([("found", .none), ("a", .ref a), ("step", .int st ts), ("width", .int m tw)] : Vars)) (by walk_at "vr")) (bnd_local I (by rfl))
    (fun i σ' D' => ∃ v, σ' = ([("found", v), ("a", .ref a), ("step", .int st ts), ("width", .int m tw)] : Vars) ∧ FoundIs D' v (leastRows G st m i) ∧ Sub D D') ⟨_, rfl, rfl, Sub.refl⟩ (fun _ _ _ _ _ _ => trivial) ?_ ?_
  · clear S1 W1
    intro i v O' σ' D2 s2 hi g9 hO' g10 S2
    clear hQ
    refine cutQ fun Q2 hQ2 => ?_
    obtain ⟨ti, rfl⟩ := g9
    obtain ⟨v, rfl, hv, hs2⟩ := g10
    obtain ⟨o, ho⟩ : ∃ o : Nat, o = st + i := ⟨_, rfl⟩
    have hoi : ((st : Int) + (i : Int)) = (o : Int) := by lia
    rw [hoi] at S2
    rw [leastRows_succ, ← ho] at hQ2
    have hin := In.rows (M := G) (st := st) (n := n) (w := m) (k := i) (by lia) hsm
    generalize leastRows G st m i = f at *
    refine wpAny_execs_cons ?_
    refine wpAny_For ?_ (fun _ => rfl)
    (rename Ok _ _ _ _ _ _ _ _ => zS); refine ev_range2 zS (by assumption) (by assumption) (by rfl) (pi_name (by assumption) (by rfl) (by rfl)) (pi_name (by assumption) (by rfl) (by rfl)) (fun _ _ => rfl) (fun _ _ => rfl) ?_; intro zr zs zN zq; clear zS
    rename Ok _ _ _ _ _ _ _ _ => S
    refine r_range S R'.hh (by assumption) (by exact nle _) (by lia) (by exact nle _) (by exact ncl (k := 10) (by assumption) rfl) (n := m - st) (by exact Int.toNat_sub _ _) ?_
    intro it3 s3 S3 W3
    clear S
    refine loop_over W3 (S3.vars (σ' := ([("found", v), ("row", .int o ti), ("a", .ref a), ("step", .int st ts), ("width", .int m tw)] : Vars)) (by walk_at "vr")) (bnd_local I (by rfl))
      (fun j σ' D' => ∃ v, σ' = ([("found", v), ("row", .int o ti), ("a", .ref a), ("step", .int st ts), ("width", .int m tw)] : Vars) ∧ FoundIs D' v (leastUpto G st o j f) ∧ Sub D D') ⟨_, rfl, hv, hs2⟩ (fun _ _ _ _ _ _ => trivial) ?_ ?_
    · clear S3 W3 hv hs2
      intro j v3 O3 σ3 D3 s3 hj g11 hO3 g12 S3
      clear hQ2
      refine cutQ fun Q3 hQ3 => ?_
      obtain ⟨tj, rfl⟩ := g11
      obtain ⟨v, rfl, hv, hs3⟩ := g12
      obtain ⟨c, hc⟩ : ∃ c : Nat, c = st + j := ⟨_, rfl⟩
      have hcj : ((st : Int) + (j : Int)) = (c : Int) := by lia
      rw [hcj] at S3
      rw [leastUpto_succ, ← hc] at hQ3
      have hin3 := In.upto (M := G) (k := j) hin (show st ≤ o by lia) (by lia) (by lia)
      generalize leastUpto G st o j f = g at *
      rename Ok _ _ _ _ _ _ _ _ => S3
      (rename Ok _ _ _ _ _ _ _ _ => zS); refine sx_int zS (by assumption) (by rfl) (pi_abs (by assumption) (by assumption) (by rfl) (pi_el (pv_name (by assumption) (by rfl)) (by walk_at "mt") (by assumption) (pi_name (by assumption) (by rfl) (by rfl)) (by walk_at "ix") (by walk_at "bd") (by walk_at "bd") (fun _ _ => rfl) (pi_name (by assumption) (by rfl) (by rfl)) (by walk_at "ix") (by walk_at "bd") (by walk_at "bd") (fun _ _ => rfl)) (fun _ _ => rfl)) (by rfl) ?_; intro zt zs zN; clear zS
      refine wpAny_execs_cons ?_
      refine wpAny_If ?_
      refine wpAny_isTrue_BoolOp ?_
      refine wpAny_allTrue_And_cons ?_
      (rename Ok _ _ _ _ _ _ _ _ => zS); refine PB.use zS (pb_gt (pi_name (by assumption) (by rfl) (by rfl)) pi_const (by rfl)) ?_; intro zs zN; clear zS
      by_cases hp : 0 < (el G o c).natAbs
      · rw [if_pos (by simpa using hp)]
        cases g with
        | none =>
          cases hv
          refine wpAny_allTrue_And_cons ?_
          refine wpAny_isTrue_BoolOp ?_
          refine wpAny_allTrue_Or_cons ?_
          refine wpAny_isTrue_Compare1 ?_ (by rfl)
          (rename Ok _ _ _ _ _ _ _ _ => zS); refine nm_local zS (by assumption) (by rfl) (by rfl) ?_ (by decide)
          refine c_none ?_
          refine is_none ?_
          refine q_truth ?_
          refine Eq.mpr (if_pos (by show (Value.none == Value.none) = true; rfl)) ?_
          refine Eq.mpr (if_pos (by with_reducible rfl)) ?_
          refine wpAny_allTrue_And_nil ?_
          refine Eq.mpr (if_pos (by with_reducible rfl)) ?_
          refine wpAny_execs_cons ?_
          refine wpAny_Assign_Name ?_ (by rfl)
          refine Tuple_ ?_
          refine args_cons ?_ (by rfl)
          (rename Ok _ _ _ _ _ _ _ _ => zS); refine nm_local zS (by assumption) (by rfl) (by rfl) ?_ (by decide)
          refine args_cons ?_ (by rfl)
          (rename Ok _ _ _ _ _ _ _ _ => zS); refine nm_local zS (by assumption) (by rfl) (by rfl) ?_ (by decide)
          refine args_nil ?_
          (rename Ok _ _ _ _ _ _ _ _ => zS); refine n_tup zS (Nat.le_of_ble_eq_true rfl) ?_; intro zl zs zh zE zN; clear zS
          (rename Ok _ _ _ _ _ _ _ _ => zS); refine st_local zS (by assumption) (by rfl) ?_; intro zs zN; clear zS
          refine wpAny_execs_nil ?_
          refine wpAny_execs_nil ?_
          rename Ok _ _ _ _ _ _ _ _ => S
          refine hQ3 _ _ ⟨_, _, ⟨_, rfl, ?_, Sub.trans hs3 (by walk_at "ds")⟩, S.vars (by walk_at "vr")⟩
          rw [show leastStep G o none c = some (o, c) from by unfold leastStep leastBetter; rw [if_pos (by simpa using hp)]]
          exact ⟨_, _, _, rfl, by walk_at "dk"⟩
        | some p =>
          obtain ⟨l, t1, t2, rfl, hl⟩ := hv
          obtain ⟨i1, i2, i3, i4⟩ := hin3 p rfl
          refine wpAny_allTrue_And_cons ?_
          refine wpAny_isTrue_BoolOp ?_
          refine wpAny_allTrue_Or_cons ?_
          refine wpAny_isTrue_Compare1 ?_ (by rfl)
          (rename Ok _ _ _ _ _ _ _ _ => zS); refine nm_local zS (by assumption) (by rfl) (by rfl) ?_ (by decide)
          refine c_none ?_
          refine is_none ?_
          refine q_truth ?_
          refine Eq.mpr (if_neg (show (!true) = true → False from Bool.false_ne_true)) ?_
          refine wpAny_allTrue_Or_cons ?_
          (rename Ok _ _ _ _ _ _ _ _ => zS); refine PB.use zS (pb_lt (pi_name (by assumption) (by rfl) (by rfl)) (pi_abs (by assumption) (by assumption) (by rfl) (pi_el (pv_name (by assumption) (by rfl)) (by walk_at "mt") (by assumption) (pi_tup (pv_name (by assumption) (by rfl)) (by walk_at "dk") pi_const (by rfl) (by rfl) (by decide) (by decide) (fun _ _ => rfl)) (by walk_at "ix") (by walk_at "bd") (by walk_at "bd") (fun _ _ => rfl) (pi_tup (pv_name (by assumption) (by rfl)) (by walk_at "dk") pi_const (by rfl) (by rfl) (by decide) (by decide) (fun _ _ => rfl)) (by walk_at "ix") (by walk_at "bd") (by walk_at "bd") (fun _ _ => rfl)) (fun _ _ => rfl)) (by rfl)) ?_; intro zs zN; clear zS
          by_cases hlt : (el G o c).natAbs < (el G p.1 p.2).natAbs
          · simp only [show decide (((el G o c).natAbs : Int) < ((el G p.1 p.2).natAbs : Int)) = true from by simpa using hlt, if_true]
            refine wpAny_allTrue_And_nil ?_
            refine Eq.mpr (if_pos (by with_reducible rfl)) ?_
            refine wpAny_execs_cons ?_
            refine wpAny_Assign_Name ?_ (by rfl)
            refine Tuple_ ?_
            refine args_cons ?_ (by rfl)
            (rename Ok _ _ _ _ _ _ _ _ => zS); refine nm_local zS (by assumption) (by rfl) (by rfl) ?_ (by decide)
            refine args_cons ?_ (by rfl)
            (rename Ok _ _ _ _ _ _ _ _ => zS); refine nm_local zS (by assumption) (by rfl) (by rfl) ?_ (by decide)
            refine args_nil ?_
            (rename Ok _ _ _ _ _ _ _ _ => zS); refine n_tup zS (Nat.le_of_ble_eq_true rfl) ?_; intro zl zs zh zE zN; clear zS
            (rename Ok _ _ _ _ _ _ _ _ => zS); refine st_local zS (by assumption) (by rfl) ?_; intro zs zN; clear zS
            refine wpAny_execs_nil ?_
            refine wpAny_execs_nil ?_
            rename Ok _ _ _ _ _ _ _ _ => S
            refine hQ3 _ _ ⟨_, _, ⟨_, rfl, ?_, Sub.trans hs3 (by walk_at "ds")⟩, S.vars (by walk_at "vr")⟩
            rw [show leastStep G o (some p) c = some (o, c) from by unfold leastStep leastBetter; rw [if_pos (by simp; lia)]]
            exact ⟨_, _, _, rfl, by walk_at "dk"⟩
          · simp only [show decide (((el G o c).natAbs : Int) < ((el G p.1 p.2).natAbs : Int)) = false from by simpa using hlt, Bool.false_eq_true, if_false]
            refine wpAny_allTrue_Or_nil ?_
            refine Eq.mpr (if_neg (by with_reducible exact Bool.false_ne_true)) ?_
            refine wpAny_execs_nil ?_
            refine wpAny_execs_nil ?_
            rename Ok _ _ _ _ _ _ _ _ => S
            refine hQ3 _ _ ⟨_, _, ⟨_, rfl, ?_, hs3⟩, S.vars (by walk_at "vr")⟩
            rw [show leastStep G o (some p) c = some p from by unfold leastStep leastBetter; rw [if_neg (by simp; lia)]]
            exact ⟨_, _, _, rfl, by walk_at "dk"⟩
      · rw [if_neg (by simpa using hp)]
        refine Eq.mpr (if_neg (by with_reducible exact Bool.false_ne_true)) ?_
        refine wpAny_execs_nil ?_
        refine wpAny_execs_nil ?_
        rename Ok _ _ _ _ _ _ _ _ => S
        refine hQ3 _ _ ⟨_, _, ⟨v, rfl, ?_, hs3⟩, S.vars (by walk_at "vr")⟩
        rw [show leastStep G o g c = g from by unfold leastStep leastBetter; cases g <;> (rw [if_neg (by simp; lia)])]
        exact hv
    · rintro σ3 D3 s3 ⟨v, rfl, hv, hs3⟩ S3
      refine wpAny_execs_nil ?_
      exact hQ2 _ _ ⟨_, _, ⟨v, rfl, hv, hs3⟩, S3.vars (by walk_at "vr")⟩
  · rintro σ' D' s2 ⟨v, rfl, hv, hs2⟩ S2
    refine wpAny_execs_cons ?_
    refine wpAny_Return_some ?_
    (rename Ok _ _ _ _ _ _ _ _ => zS); refine nm_local zS (by assumption) (by rfl) (by rfl) ?_ (by decide)
    dsimp only
    rename Ok _ _ _ _ _ _ _ _ => S
    exact hQ _ _ ⟨_, _, S, fun s3 S3 => k _ _ _ hv hs2 S3⟩
end

section
variable {w : World} {A : Around} {E : Value → Shared → Prop}
variable {Hs : Heap} {se s : Shared} {mods : Addr → Prop} {env : Env} {O : Addr → Option Obj} {σ : Vars} {D : Know} {mg mb : Str → Option Value}
theorem swap_columns_spec (T : Wd w Hs mg mb) (Rr : Rm A 3) (S : Ok Hs se mods env O σ D s) {a : Addr} {rs : List Addr} {M : Mat} {n m i j : Nat} {ti tj : Tok} {Q : Value → Shared → Prop}
    (hM : MatD D a rs M) (sh : Sh n m M) (hnd : rs.Nodup) (hc : ∀ r ∈ rs, Can se mods r) (hi : i < m) (hj : j < m) (hn : n ≤ 1000) (hm : m ≤ 1000)
    (k : ∀ D' s', MatD D' a rs (swapCols M i j) → Ext (· ∈ rs) D D' → Ok Hs se mods env O σ D' s' → Q .none s') :
    wpAny (model Pg w) A (call (.ref (fad mg "swap_columns")) [.ref a, .int i ti, .int j tj]) Q E s := by
  refine enterW "swap_columns" ["a", "one", "other"] T Rr S rfl (fun _ _ _ => rfl) (fun _ _ _ => rfl) (by decide) (· ∈ rs) (fun b hb => (hM.known hb).elim fun x hx => ⟨_, hx⟩) hc ?_
  clear S Rr
  intro env' s' I hN S' R' V
  dsimp only at I hN
  refine wpAny_execs_cons ?_
  refine wpAny_For ?_ (fun _ => rfl)
  (rename Ok _ _ _ _ _ _ _ _ => zS); refine nm_local zS (by assumption) (by rfl) (by rfl) ?_ (by decide)
  rename Ok _ _ _ _ _ _ _ _ => S
  refine r_vals S R'.hh hM.1 ?_
  intro it s1 S1 W1
  refine cutR fun R' hR => ?_
  refine loop_rows (f := swapAt i j) W1 (by rw [List.length_map, hM.2.1]) (fun i v hv => (hM.val hv).2.1) S1 hM hnd (bnd_local I (by rfl)) ?_ ?_
  · clear S S1 W1 hR
    have hcr : ∀ r ∈ rs, Can s (· ∈ rs) r := fun r hr => .inl hr
    have hget : ∀ i, i < M.length → rs[i]? = some (rs.getD i 0) := fun i hi => by
      have : i < rs.length := by rw [hM.2.1]; exact hi
      rw [List.getD_eq_getElem?_getD, List.getElem?_eq_getElem this]; rfl
    intro q O' D1 s2 hq hO' hr hX S2
    have hlr : (row M q).length = m := sh.row (by rw [← sh.1]; exact hq)
    refine cutQ fun Q' hQ => ?_
    refine wpAny_execs_cons ?_
    refine x_tup I hN ?_ rfl rfl
    refine Tuple_ ?_
    refine args_cons ?_ (by rfl)
    (rename Ok _ _ _ _ _ _ _ _ => zS); refine PI.use zS (pi_at (pv_name (by assumption) (by rfl)) (by walk_at "dk") (pi_name (by assumption) (by rfl) (by rfl)) (by walk_at "ix") (by walk_at "bd") (by walk_at "bd") (fun _ _ => rfl)) ?_; intro zt zs zN; clear zS
    refine args_cons ?_ (by rfl)
    (rename Ok _ _ _ _ _ _ _ _ => zS); refine PI.use zS (pi_at (pv_name (by assumption) (by rfl)) (by walk_at "dk") (pi_name (by assumption) (by rfl) (by rfl)) (by walk_at "ix") (by walk_at "bd") (by walk_at "bd") (fun _ _ => rfl)) ?_; intro zt zs zN; clear zS
    refine args_nil ?_
    (rename Ok _ _ _ _ _ _ _ _ => zS); refine n_tup zS (Nat.le_of_ble_eq_true rfl) ?_; intro zl zs zh zE zN; clear zS
    (rename Ok _ _ _ _ _ _ _ _ => zS); refine as_tup2 zS (Rm.hh (by assumption)) (by walk_at "dk") (by rfl) ?_; intro zs zN; clear zS
    refine as_sub ?_
    (rename Ok _ _ _ _ _ _ _ _ => zS); refine nm_local zS (by assumption) (by rfl) (by rfl) ?_ (by decide)
    (rename Ok _ _ _ _ _ _ _ _ => zS); refine nm_local zS (by assumption) (by rfl) (by rfl) ?_ (by decide)
    dsimp only
    rename Ok _ _ _ _ _ _ _ _ => S
    refine p_el S (by walk_at "dk") (hcr _ (List.mem_of_getElem? (hget q hq))) rfl (by lia) (by lia) fun s3 S3 => ?_
    clear S
    refine as_sub ?_
    (rename Ok _ _ _ _ _ _ _ _ => zS); refine nm_local zS (by assumption) (by rfl) (by rfl) ?_ (by decide)
    (rename Ok _ _ _ _ _ _ _ _ => zS); refine nm_local zS (by assumption) (by rfl) (by rfl) ?_ (by decide)
    rename Ok _ _ _ _ _ _ _ _ => S
    refine p_el S (upd_same ..) (hcr _ (List.mem_of_getElem? (hget q hq))) rfl (by simp; lia) (by simp; lia) fun s3 S3 => ?_
    clear S
    refine wpAny_execs_nil ?_
    refine hQ _ _ ⟨_, upd_same .., ?_, S3.vars (by walk_at "vr")⟩
    exact ((Sub.new (by assumption)).ext.trans (Ext.at (P := fun b => b = _) rfl)).trans (Ext.at (P := fun b => b = _) rfl)
  · intro D' s2 hM2 hX S2
    refine hR _ _ ?_
    refine wpAny_execs_nil ?_
    dsimp only
    exact ⟨_, _, S2, fun s3 S3 => k _ _ hM2 hX S3⟩
end

section
variable {w : World} {A : Around} {E : Value → Shared → Prop}
variable {Hs : Heap} {se s : Shared} {mods : Addr → Prop} {env : Env} {O : Addr → Option Obj} {σ : Vars} {D : Know} {mg mb : Str → Option Value}
theorem bring_spec (T : Wd w Hs mg mb) (Rr : Rm A 6) (S : Ok Hs se mods env O σ D s) {as au av ls : Addr} {rs ru rv : List Addr} {x : St} {n m i j : Nat} {t1 t2 t3 : Tok} {Q : Value → Shared → Prop}
    (X : SUV (Can se mods) D as au av rs ru rv x.S x.U x.V) (sh : Shs n m x) (hls : D ls = some (.tup [.int i t1, .int j t2])) (hi : i < n) (hj : j < m) (hk : x.k < n) (hkm : x.k < m) (hn : n ≤ 1000) (hm : m ≤ 1000)
    (k : ∀ D' s' rs' ru' rv', SUV (Can se mods) D' as au av rs' ru' rv' (bringM x i j).S (bringM x i j).U (bringM x i j).V → Ext (Can se mods) D D' → Ok Hs se mods env O σ D' s' → Q .none s') :
    wpAny (model Pg w) A (call (.ref (fad mg "bring")) [.ref as, .ref au, .ref av, .ref ls, .int x.k t3]) Q E s := by
  refine enterW "bring" ["s", "u", "v", "spot", "step"] T Rr S rfl (fun _ _ _ => rfl) (fun _ _ _ => rfl) (by decide) (Own se mods D) (fun b hb => hb.2) (fun b hb => hb.1) ?_
  have back := S.ownBack
  replace X := X.into (s := s)
  have hnew : ∀ r, s.heap.get? r = none → Can s (Own se mods D) r := fun r q => .inr q
  clear Rr S
  revert back X hnew
  generalize Own se mods D = mods'
  intro back X hnew env' s' I hN S' R' V
  dsimp only at I hN
  refine cutQ fun Q' hQ => ?_
  refine wpAny_execs_cons ?_
  refine x_tup I hN ?_ rfl rfl
  (rename Ok _ _ _ _ _ _ _ _ => zS); refine nm_local zS (by assumption) (by rfl) (by rfl) ?_ (by decide)
  (rename Ok _ _ _ _ _ _ _ _ => zS); refine as_tup2 zS (Rm.hh (by assumption)) (by walk_at "dk") (by rfl) ?_; intro zs zN; clear zS
  refine as_name ?_
  (rename Ok _ _ _ _ _ _ _ _ => zS); refine st_local zS (by assumption) (by rfl) ?_; intro zs zN; clear zS
  refine as_name ?_
  (rename Ok _ _ _ _ _ _ _ _ => zS); refine st_local zS (by assumption) (by rfl) ?_; intro zs zN; clear zS
  refine wpAny_execs_cons ?_
  refine wpAny_For ?_ (fun _ => rfl)
  refine Tuple_ ?_
  refine args_cons ?_ (by rfl)
  (rename Ok _ _ _ _ _ _ _ _ => zS); refine nm_local zS (by assumption) (by rfl) (by rfl) ?_ (by decide)
  refine args_cons ?_ (by rfl)
  (rename Ok _ _ _ _ _ _ _ _ => zS); refine nm_local zS (by assumption) (by rfl) (by rfl) ?_ (by decide)
  refine args_nil ?_
  (rename Ok _ _ _ _ _ _ _ _ => zS); refine n_tup zS (Nat.le_of_ble_eq_true rfl) ?_; intro zl zs zh zE zN; clear zS
  rename Ok _ _ _ _ _ _ _ _ => S
  refine r_tup S R'.hh (by walk_at "dk") ?_
  intro it5 s5 S5 W5
  clear S
  refine loop_su (fun a M M' => (Sh n n M ∨ Sh n m M) ∧ M' = swapRows M i x.k) W5 S5 (by walk_at "dk") (bnd_local I (by rfl)) (X.sub (by walk_at "ds")) hnew ⟨.inr sh.s, rfl⟩ ⟨.inl sh.u, rfl⟩ ?_ ?_
  · clear S5 W5
    intro O5 D5 s6 a ra M M' hO5 g1 hM hnd g2 S6
    refine cutQ fun Q' hQ => ?_
    obtain ⟨hC, rfl⟩ := g1
    obtain ⟨hca, hcr⟩ := g2
    obtain ⟨m', shM⟩ : ∃ m', Sh n m' M := hC.elim (fun q => ⟨_, q⟩) fun q => ⟨_, q⟩
    refine wpAny_execs_cons ?_
    refine x_tup I hN ?_ rfl rfl
    refine Tuple_ ?_
    refine args_cons ?_ (by rfl)
    (rename Ok _ _ _ _ _ _ _ _ => zS); refine PV.use zS (pv_row (pv_name (by assumption) (by rfl)) (by walk_at "mt") (by assumption) (pi_name (by assumption) (by rfl) (by rfl)) (by walk_at "ix") (by walk_at "bd") (by walk_at "bd") (fun _ _ => rfl)) ?_; intro zs zN; clear zS
    refine args_cons ?_ (by rfl)
    (rename Ok _ _ _ _ _ _ _ _ => zS); refine PV.use zS (pv_row (pv_name (by assumption) (by rfl)) (by walk_at "mt") (by assumption) (pi_name (by assumption) (by rfl) (by rfl)) (by walk_at "ix") (by walk_at "bd") (by walk_at "bd") (fun _ _ => rfl)) ?_; intro zs zN; clear zS
    refine args_nil ?_
    (rename Ok _ _ _ _ _ _ _ _ => zS); refine n_tup zS (Nat.le_of_ble_eq_true rfl) ?_; intro zl zs zh zE zN; clear zS
    (rename Ok _ _ _ _ _ _ _ _ => zS); refine as_tup2 zS (Rm.hh (by assumption)) (by walk_at "dk") (by rfl) ?_; intro zs zN; clear zS
    refine as_sub ?_
    (rename Ok _ _ _ _ _ _ _ _ => zS); refine nm_local zS (by assumption) (by rfl) (by rfl) ?_ (by decide)
    (rename Ok _ _ _ _ _ _ _ _ => zS); refine nm_local zS (by assumption) (by rfl) (by rfl) ?_ (by decide)
    dsimp only
    rename Ok _ _ _ _ _ _ _ _ => S
    have hlr := hM.2.1.trans shM.1
    refine p_refs S ((S.mat hM (by walk_at "ds")).1) hca rfl (by lia) (by lia) fun s7 S7 => ?_
    clear S
    refine as_sub ?_
    (rename Ok _ _ _ _ _ _ _ _ => zS); refine nm_local zS (by assumption) (by rfl) (by rfl) ?_ (by decide)
    (rename Ok _ _ _ _ _ _ _ _ => zS); refine nm_local zS (by assumption) (by rfl) (by rfl) ?_ (by decide)
    rename Ok _ _ _ _ _ _ _ _ => S
    refine p_refs S (upd_same ..) hca rfl (by simp; lia) (by simp; lia) fun s8 S8 => ?_
    clear S
    refine wpAny_execs_nil ?_
    exact hQ _ _ ⟨_, _, chg_swap (D₀ := upd D5 _ _) hM shM hi hk (Sub.new (by assumption)) ((Ext.at (P := fun b => b = a) rfl).trans (Ext.at (P := fun b => b = a) rfl)) (upd_same ..), S8.vars (by walk_at "vr")⟩
  · intro r1 r2 D6 s6 X6 hX6 S6
    clear S5 W5 X
    refine wpAny_execs_cons ?_
    refine wpAny_For ?_ (fun _ => rfl)
    refine Tuple_ ?_
    refine args_cons ?_ (by rfl)
    (rename Ok _ _ _ _ _ _ _ _ => zS); refine nm_local zS (by assumption) (by rfl) (by rfl) ?_ (by decide)
    refine args_cons ?_ (by rfl)
    (rename Ok _ _ _ _ _ _ _ _ => zS); refine nm_local zS (by assumption) (by rfl) (by rfl) ?_ (by decide)
    refine args_nil ?_
    (rename Ok _ _ _ _ _ _ _ _ => zS); refine n_tup zS (Nat.le_of_ble_eq_true rfl) ?_; intro zl zs zh zE zN; clear zS
    rename Ok _ _ _ _ _ _ _ _ => S
    refine r_tup S R'.hh (by walk_at "dk") ?_
    intro it5 s5 S5 W5
    have hX7 := S5.extS hX6 (by walk_at "ds")
    clear S
    refine loop_su (fun a M M' => (Sh m m M ∨ Sh n m M) ∧ M' = swapCols M j x.k) W5 S5 (by walk_at "dk") (bnd_local I (by rfl)) (X6.swap23.sub (by walk_at "ds")) hnew ⟨.inr (sh.s.swapRows hi hk), rfl⟩ ⟨.inl sh.v, rfl⟩ ?_ ?_
    · clear S5 W5 X6 hX7 hX6 sh
      intro O5 D5 s6 a ra M M' hO5 g3 hM hnd g4 S6
      clear hQ k
      refine cutQ fun Q' hQ => ?_
      obtain ⟨hC, rfl⟩ := g3
      obtain ⟨hca, hcr⟩ := g4
      obtain ⟨n', shM, hn'⟩ : ∃ n', Sh n' m M ∧ n' ≤ 1000 := hC.elim (fun q => ⟨_, q, hm⟩) fun q => ⟨_, q, hn⟩
      refine wpAny_execs_cons ?_
      refine x_expr (by assumption) ?_ (by rfl)
      (rename Ok _ _ _ _ _ _ _ _ => zS); refine ev_call zS (by assumption) (by assumption) (by rfl) (by rfl) (by decide) (pa_val (pv_name (by assumption) (by rfl)) (pa_int (pi_name (by assumption) (by rfl) (by rfl)) (pa_int (pi_name (by assumption) (by rfl) (by rfl)) pa_nil (fun _ _ => rfl)) (fun _ _ => rfl)) (fun _ _ => rfl)) (fun _ _ => rfl) ?_; intro zt zs zN; clear zS
      dsimp only
      rename Ok _ _ _ _ _ _ _ _ => S
      refine swap_columns_spec T (R'.le (by exact Nat.le_of_ble_eq_true rfl)) S hM shM hnd hcr hj hkm hn' hm fun D7 s7 hM7 hX7 S7 => ?_
      clear S
      refine wpAny_execs_nil ?_
      rename Ok _ _ _ _ _ _ _ _ => S
      exact hQ _ _ ⟨_, _, ⟨hM7, hX7.mono fun _ => .inr, fun _ h => .inl h, id⟩, S.vars (by walk_at "vr")⟩
    · intro r1' r3' D7 s7 X7 hX8 S7
      clear S5 W5
      refine wpAny_execs_nil ?_
      exact hQ _ _ ⟨_, _, S7, fun s8 S8 => k _ _ _ _ _ (X7.swap23.mono back) (((Sub.new (by assumption)).ext.trans (hX7.trans hX8)).mono back) S8⟩
end

section
variable {w : World} {A : Around} {E : Value → Shared → Prop}
variable {Hs : Heap} {se s : Shared} {mods : Addr → Prop} {env : Env} {O : Addr → Option Obj} {σ : Vars} {D : Know} {mg mb : Str → Option Value}
theorem clear_cross_spec (T : Wd w Hs mg mb) (Rr : Rm A 6) (S : Ok Hs se mods env O σ D s) {as au av : Addr} {rs ru rv : List Addr} {x : St} {n m : Nat} {t1 t2 : Tok} {Q : Value → Shared → Prop}
    (X : SUV (Can se mods) D as au av rs ru rv x.S x.U x.V) (sh : Shs n m x) (hk : x.k < n) (hkm : x.k < m) (hn : n ≤ 1000) (hm : m ≤ 1000) (C : CrossMul IntMulOk n m x)
    (k : ∀ D' s' rs' ru' rv', SUV (Can se mods) D' as au av rs' ru' rv' (crossed n m x).1.S (crossed n m x).1.U (crossed n m x).1.V → Ext (Can se mods) D D' → Ok Hs se mods env O σ D' s' → Q (.bool (crossed n m x).2) s') :
    wpAny (model Pg w) A (call (.ref (fad mg "clear_cross")) [.ref as, .ref au, .ref av, .int x.k t1, .int m t2]) Q E s := by
  refine enterW "clear_cross" ["s", "u", "v", "step", "width"] T Rr S rfl (fun _ _ _ => rfl) (fun _ _ _ => rfl) (by decide) (Own se mods D) (fun b hb => hb.2) (fun b hb => hb.1) ?_
  have back := S.ownBack
  replace X := X.into (s := s)
  have hnew : ∀ r, s.heap.get? r = none → Can s (Own se mods D) r := fun r q => .inr q
  clear Rr S
  revert back X hnew
  generalize Own se mods D = mods'
  intro back X hnew env' s' I hN S' R' V
  dsimp only at I hN
  refine cutQ fun Q' hQ => ?_
  refine wpAny_execs_cons ?_
  have shs := sh.s
  have hz := C.nz
  have hms := X.ms
  refine x_swap2 S' R'.hh I hN ?_ rfl rfl
  refine Tuple_ ?_
  refine args_cons ?_ (by rfl)
  (rename Ok _ _ _ _ _ _ _ _ => zS); refine PI.use zS (pi_el (pv_name (by assumption) (by rfl)) (by walk_at "mt") (by assumption) (pi_name (by assumption) (by rfl) (by rfl)) (by walk_at "ix") (by walk_at "bd") (by walk_at "bd") (fun _ _ => rfl) (pi_name (by assumption) (by rfl) (by rfl)) (by walk_at "ix") (by walk_at "bd") (by walk_at "bd") (fun _ _ => rfl)) ?_; intro zt zs zN; clear zS
  refine args_cons ?_ (by rfl)
  refine c_bool ?_
  refine args_nil ?_
  (rename Ok _ _ _ _ _ _ _ _ => zS); refine n_tup zS (Nat.le_of_ble_eq_true rfl) ?_; intro zl zs zh zE zN; clear zS
  refine .mk (by assumption) (by walk_at "dk") ?_
  rename Ok _ _ _ _ _ _ _ _ => S
  intro s4 S4; clear S
  (rename Ok _ _ _ _ _ _ _ _ => zS); refine st_local zS (by assumption) (by rfl) ?_; intro zs zN; clear zS
  (rename Ok _ _ _ _ _ _ _ _ => zS); refine st_local zS (by assumption) (by rfl) ?_; intro zs zN; clear zS
  refine wpAny_execs_cons ?_
  refine wpAny_For ?_ (fun _ => rfl)
  (rename Ok _ _ _ _ _ _ _ _ => zS); refine ev_range2 zS (by assumption) (by assumption) (by rfl) (pi_add (pi_name (by assumption) (by rfl) (by rfl)) pi_const) (pi_len (by assumption) (by assumption) (by rfl) (pv_name (by assumption) (by rfl)) (by walk_at "mt") (by assumption) (by walk_at "bd") (fun _ _ => rfl)) (fun _ _ => rfl) (fun _ _ => rfl) ?_; intro zr zs zN zq; clear zS
  rename Ok _ _ _ _ _ _ _ _ => S
  refine r_range S R'.hh (by assumption) (by exact nle1 _) (by lia) (by exact nle _) (by exact ncl (k := 1000) (by assumption) rfl) (n := n - (x.k + 1)) (by exact tns _ _) ?_
  intro it s1 S1 W1
  have X1 := X.sub (S1.subOf (by walk_at "ds"))
  have hs1 := S1.subOf (D₀ := D) (by walk_at "ds")
  clear S X
  obtain ⟨_, C1, C2, C3, C4⟩ := C
  unfold crossed at k
  generalize el x.S x.k x.k = l at *
  refine cutR fun R2 hR => ?_
  refine loop_over W1 (S1.vars (σ' := ([("is_done", .bool true), ("lead", .int l _), ("s", .ref as), ("u", .ref au), ("v", .ref av), ("step", .int x.k t1), ("width", .int m t2)] : Vars)) (by walk_at "vr")) (bnd_local I (by rfl))
    (fun i σ' D' => ∃ tl, σ' = ([("is_done", .bool (crossRows l i (x, true)).2), ("lead", .int l tl), ("s", .ref as), ("u", .ref au), ("v", .ref av), ("step", .int x.k t1), ("width", .int m t2)] : Vars) ∧ ∃ rs ru, SUV (Can s mods') D' as au av rs ru rv (crossRows l i (x, true)).1.S (crossRows l i (x, true)).1.U x.V ∧ Ext (Can s mods') D D')
    ⟨_, rfl, rs, ru, X1, hs1.ext⟩ (fun _ _ _ _ _ _ => trivial) ?_ ?_
  · clear S1 W1 X1 hs1 hR hQ k C3 C4
    intro i v O' σ' D2 s2 hi g5 hO' g6 S2
    refine cutQ fun Q' hQ => ?_
    obtain ⟨ti, rfl⟩ := g5
    obtain ⟨tl, rfl, rs2, ru2, X2, hX2⟩ := g6
    obtain ⟨o, ho⟩ : ∃ o : Nat, o = x.k + 1 + i := ⟨_, rfl⟩
    have hoi : ((x.k : Int) + 1 + (i : Int)) = (o : Int) := by lia
    rw [hoi] at S2
    have hon : o < n := by lia
    have c1 := C1 i (by lia)
    have c2 := C2 i (by lia)
    clear C1 C2
    have sh2 := sh.crossRows (p := (x, true)) l (k := i) (by show x.k + 1 + i ≤ n; lia)
    have hk2 := crossRows_k l i (x, true)
    rw [crossRows_succ, hk2, ← ho] at hQ
    rw [← ho] at c1 c2
    generalize crossRows l i (x, true) = p at *
    obtain ⟨⟨S2', U2', V2', k2⟩, dn⟩ := p
    dsimp only at *
    subst hk2
    have hms := X2.ms
    have shs := sh2.s
    unfold crossRow at hQ
    dsimp only at hQ
    refine wpAny_execs_cons ?_
    refine wpAny_Assign_Name ?_ (by rfl)
    (rename Ok _ _ _ _ _ _ _ _ => zS); refine PI.use zS (pi_div (by assumption) (pi_el (pv_name (by assumption) (by rfl)) (by walk_at "mt") (by assumption) (pi_name (by assumption) (by rfl) (by rfl)) (by walk_at "ix") (by walk_at "bd") (by walk_at "bd") (fun _ _ => rfl) (pi_name (by assumption) (by rfl) (by rfl)) (by walk_at "ix") (by walk_at "bd") (by walk_at "bd") (fun _ _ => rfl)) (pi_name (by assumption) (by rfl) (by rfl)) (by first | assumption | decide | (walk_at "div"))) ?_; intro zt zs zN; clear zS
    (rename Ok _ _ _ _ _ _ _ _ => zS); refine st_cell zS (by assumption) (by rfl) (by rfl) (by first | exact Nat.le_succ _ | exact Nat.le_succ_of_le (Nat.le_succ _) | exact Nat.le_succ_of_le (Nat.le_succ_of_le (Nat.le_succ _)) | exact Nat.le_succ_of_le (Nat.le_succ_of_le (Nat.le_succ_of_le (Nat.le_succ _))) | exact Nat.le_succ_of_le (Nat.le_succ_of_le (Nat.le_succ_of_le (Nat.le_succ_of_le (Nat.le_succ _))))) ?_; intro zs zN; clear zS
    refine wpAny_execs_cons ?_
    refine wpAny_For ?_ (fun _ => rfl)
    refine Tuple_ ?_
    refine args_cons ?_ (by rfl)
    (rename Ok _ _ _ _ _ _ _ _ => zS); refine nm_local zS (by assumption) (by rfl) (by rfl) ?_ (by decide)
    refine args_cons ?_ (by rfl)
    (rename Ok _ _ _ _ _ _ _ _ => zS); refine nm_local zS (by assumption) (by rfl) (by rfl) ?_ (by decide)
    refine args_nil ?_
    (rename Ok _ _ _ _ _ _ _ _ => zS); refine n_tup zS (Nat.le_of_ble_eq_true rfl) ?_; intro zl zs zh zE zN; clear zS
    rename Ok _ _ _ _ _ _ _ _ => S
    refine r_tup S R'.hh (by walk_at "dk") ?_
    intro it5 s5 S5 W5
    clear S
    refine loop_su (fun a M M' => (∃ m', Sh n m' M ∧ m' ≤ 1000 ∧ ∀ j, IntMulOk ((el S2' o x.k).fdiv l) (el M x.k j)) ∧ M' = subRow M o x.k ((el S2' o x.k).fdiv l)) W5 S5 (by walk_at "dk") (bnd_cell I (by rfl) (by rfl) (by first | exact Nat.le_succ _ | exact Nat.le_succ_of_le (Nat.le_succ _) | exact Nat.le_succ_of_le (Nat.le_succ_of_le (Nat.le_succ _)))) (X2.sub (by walk_at "ds")) hnew ⟨⟨m, shs, hm, c1⟩, rfl⟩ ⟨⟨n, sh2.u, hn, c2⟩, rfl⟩ ?_ ?_
    · clear S5 W5 hms shs X2 sh2 c1 c2 hX2
      intro O5 D5 s6 a ra M M' hO5 g7 hM hnd g8 S6
      clear hQ
      refine cutQ fun Q' hQ => ?_
      obtain ⟨⟨m', shM, hm', hmul⟩, rfl⟩ := g7
      obtain ⟨hca, hcr⟩ := g8
      have hrow := hM.rowAt (i := o) (by rw [shM.1]; exact hon)
      have hlr := shM.row hon
      refine wpAny_execs_cons ?_
      refine x_sub ?_ (by rfl)
      refine e_comp (by assumption) (by rfl) (by rfl) (by decide) (fun _ => rfl) ?_
      refine Call_ ?_ (by rfl)
      (rename Ok _ _ _ _ _ _ _ _ => zS); refine nm_built zS (by assumption) (Wd.B (by assumption)) (by rfl) (Wd.nob (by assumption) (by rfl)) ((Wd.bb (by assumption) _ (by decide)).trans (by first | exact b_range | exact b_len | exact b_list | exact b_enum | exact b_abs | exact b_min | exact b_sum)) ?_ (by decide)
      refine PyProof.Rows.callWith_type1 ?_ (by rfl) (by rfl)
      refine args_cons ?_ (by rfl)
      (rename Ok _ _ _ _ _ _ _ _ => zS); refine PV.use zS (pv_row (pv_name (by assumption) (by rfl)) (by walk_at "mt") (by assumption) (pi_name (by assumption) (by rfl) (by rfl)) (by walk_at "ix") (by walk_at "bd") (by walk_at "bd") (fun _ _ => rfl)) ?_; intro zs zN; clear zS
      refine args_nil ?_
      (rename Ok _ _ _ _ _ _ _ _ => zS); refine r_enum_zs zS (by walk_at "dk") ?_; intro ze zs zN zW; clear zS
      refine ready_e_iter (by assumption) ?_
      dsimp only
      rename Ok _ _ _ _ _ _ _ _ => S
      rename ReadyE _ _ _ _ _ => W9
      refine tail_pure_enum (n := m') (val := valZ (row M o)) S W9 R'.hh I (by rfl) rfl (by decide) (by rfl) (by rfl) (by rfl) (by exact lek (k := 1000) (by assumption) rfl) ?_ (fun _ => true) (fun k => (row M o).getD k 0 - ((el S2' o x.k).fdiv l) * el M x.k k) ?_ ?_
      · intro O' cenv D' s2 hsub S2
        rw [← hlr]
        exact need_zs S2 (by walk_at "dk")
      · rintro k v tk O' cenv D' s2 hk1 ⟨tv, rfl⟩ Ic hsub S2
        dsimp only at Ic
        clear S W9
        have hmul : IntMulOk ((el S2' o x.k).fdiv l) (el M x.k k) := hmul k
        refine ⟨?_, fun _ => ?_⟩
        · refine ts_nil ?_
          dsimp only
          exact ⟨rfl, D', Sub.refl, S2⟩
        · (rename Ok _ _ _ _ _ _ _ _ => zS); refine PI.use zS (pi_sub (pi_name (by assumption) (by rfl) (by rfl)) (pi_mul (pi_name (by assumption) (by rfl) (by rfl)) (pi_el (pv_name (by assumption) (by rfl)) (by walk_at "mt") (by assumption) (pi_name (by assumption) (by rfl) (by rfl)) (by walk_at "ix") (by walk_at "bd") (by walk_at "bd") (fun _ _ => rfl) (pi_name (by assumption) (by rfl) (by rfl)) (by walk_at "ix") (by walk_at "bd") (by walk_at "bd") (fun _ _ => rfl)) (by first | assumption | (walk_at "mul")))) ?_; intro zt zs zN; clear zS
          dsimp only
          exact ⟨_, _, rfl, Sub.refl, by assumption⟩
      intro l8 cenv O6 s8 hl8 hlE8 K8 S8
      refine post_none K8 S8 fun s9 S9 => ?_
      rw [picked_tab, show tab m' (fun k => (row M o).getD k 0 - ((el S2' o x.k).fdiv l) * el M x.k k) = rowSub ((el S2' o x.k).fdiv l) (row M o) (row M x.k) from by rw [← hlr]; rfl] at S9
      clear S S8 W9
      (rename Ok _ _ _ _ _ _ _ _ => zS); refine nm_cell zS (by assumption) (.inl (by rfl)) (by rfl) (by rfl) ?_ (by decide) (by decide)
      (rename Ok _ _ _ _ _ _ _ _ => zS); refine nm_local zS (by assumption) (by rfl) (by rfl) ?_ (by decide)
      rename Ok _ _ _ _ _ _ _ _ => S
      refine p_rowT S hM (by walk_at "ds") shM hca rfl hon (by assumption) (upd_same ..) hl8 hlE8 ?_
      intro D9 s10 T9 S10
      clear S
      refine wpAny_execs_nil ?_
      exact hQ _ _ ⟨_, _, T9.chg, S10.vars (by walk_at "vr")⟩
    · intro r1 r2 D6 s6 X6 hX6 S6
      clear S5 W5 X2 hms c1 c2
      have hms := X6.ms
      replace shs : Sh n m (subRow S2' o x.k ((el S2' o x.k).fdiv l)) := shs.sub hon _ _
      have hXX : Ext (Can s mods') D D6 := hX2.trans ((Sub.new (by assumption)).ext.trans hX6)
      refine wpAny_execs_cons ?_
      refine wpAny_Assign_Name ?_ (by rfl)
      refine BoolOp_and ?_
      (rename Ok _ _ _ _ _ _ _ _ => zS); refine nm_local zS (by assumption) (by rfl) (by rfl) ?_ (by decide)
      refine q_truth ?_
      dsimp only
      cases dn with
      | false =>
        refine Eq.mpr (if_neg (by with_reducible exact Bool.false_ne_true)) ?_
        (rename Ok _ _ _ _ _ _ _ _ => zS); refine st_local zS (by assumption) (by rfl) ?_; intro zs zN; clear zS
        refine wpAny_execs_nil ?_
        rename Ok _ _ _ _ _ _ _ _ => S
        exact hQ _ _ ⟨_, _, ⟨tl, by rw [Bool.false_and], _, _, X6, hXX⟩, S.vars (by walk_at "vr")⟩
      | true =>
        refine Eq.mpr (if_pos (by with_reducible rfl)) ?_
        refine BoolOp_one ?_
        refine wpAny_Compare1 ?_ (by rfl)
        (rename Ok _ _ _ _ _ _ _ _ => zS); refine PI.use zS (pi_el (pv_name (by assumption) (by rfl)) (by walk_at "mt") (by assumption) (pi_name (by assumption) (by rfl) (by rfl)) (by walk_at "ix") (by walk_at "bd") (by walk_at "bd") (fun _ _ => rfl) (pi_name (by assumption) (by rfl) (by rfl)) (by walk_at "ix") (by walk_at "bd") (by walk_at "bd") (fun _ _ => rfl)) ?_; intro zt zs zN; clear zS
        (rename Ok _ _ _ _ _ _ _ _ => zS); refine c_int zS ?_; intro zt zs zN; clear zS
        refine q_eq ?_
        (rename Ok _ _ _ _ _ _ _ _ => zS); refine st_local zS (by assumption) (by rfl) ?_; intro zs zN; clear zS
        refine wpAny_execs_nil ?_
        rename Ok _ _ _ _ _ _ _ _ => S
        exact hQ _ _ ⟨_, _, ⟨tl, by rw [Bool.true_and], _, _, X6, hXX⟩, S.vars (by walk_at "vr")⟩
  · clear S1 W1 X1 hs1 C1 C2
    rintro σ' D2 s2 ⟨tl, rfl, rs2, ru2, X2, hX2⟩ S2
    refine hR _ _ ?_
    clear hR
    have sh2 := sh.crossRows (p := (x, true)) l (k := n - (x.k + 1)) (by show x.k + 1 + (n - (x.k + 1)) ≤ n; lia)
    have hk2 := crossRows_k l (n - (x.k + 1)) (x, true)
    have hv2 := crossRows_V l (n - (x.k + 1)) (x, true)
    generalize crossRows l (n - (x.k + 1)) (x, true) = p at *
    refine wpAny_execs_cons ?_
    refine wpAny_For ?_ (fun _ => rfl)
    (rename Ok _ _ _ _ _ _ _ _ => zS); refine ev_range2 zS (by assumption) (by assumption) (by rfl) (pi_add (pi_name (by assumption) (by rfl) (by rfl)) pi_const) (pi_name (by assumption) (by rfl) (by rfl)) (fun _ _ => rfl) (fun _ _ => rfl) ?_; intro zr zs zN zq; clear zS
    rename Ok _ _ _ _ _ _ _ _ => S
    refine r_range S R'.hh (by assumption) (by exact nle1 _) (by lia) (by exact nle _) (by exact ncl (k := 1000) (by assumption) rfl) (n := m - (x.k + 1)) (by exact tns _ _) ?_
    intro it s1 S1 W1
    have X1 := X2.sub (S1.subOf (by walk_at "ds"))
    have hs1 := S1.extS hX2 (by walk_at "ds")
    clear S X2 hX2
    refine cutR fun R2 hR => ?_
    refine loop_over W1 (S1.vars (σ' := ([("is_done", .bool p.2), ("lead", .int l tl), ("s", .ref as), ("u", .ref au), ("v", .ref av), ("step", .int x.k t1), ("width", .int m t2)] : Vars)) (by walk_at "vr")) (bnd_local I (by rfl))
      (fun i σ' D' => ∃ tl, σ' = ([("is_done", .bool (crossCols l i p).2), ("lead", .int l tl), ("s", .ref as), ("u", .ref au), ("v", .ref av), ("step", .int x.k t1), ("width", .int m t2)] : Vars) ∧ ∃ rs ru rv, SUV (Can s mods') D' as au av rs ru rv (crossCols l i p).1.S (crossCols l i p).1.U (crossCols l i p).1.V ∧ Ext (Can s mods') D D')
      ⟨_, rfl, _, _, _, by rw [show (crossCols l 0 p) = p from rfl, hv2]; exact X1, hs1⟩ (fun _ _ _ _ _ _ => trivial) ?_ ?_
    · clear S1 W1 X1 hs1 hR hQ k
      intro i v O' σ' D2 s2 hi g9 hO' g10 S2
      refine cutQ fun Q' hQ => ?_
      obtain ⟨ti, rfl⟩ := g9
      obtain ⟨tl, rfl, rs2, ru2, rv2, X2, hX2⟩ := g10
      obtain ⟨o, ho⟩ : ∃ o : Nat, o = x.k + 1 + i := ⟨_, rfl⟩
      have hoi : ((x.k : Int) + 1 + (i : Int)) = (o : Int) := by lia
      rw [hoi] at S2
      have hom : o < m := by lia
      have c1 := C3 i (by lia)
      have c2 := C4 i (by lia)
      clear C3 C4
      have sh3 := sh2.crossCols l i
      have hk3 := (crossCols_k l i p).trans hk2
      rw [crossCols_succ, hk3] at hQ
      dsimp only at hQ
      rw [← ho] at hQ
      rw [← ho] at c1 c2
      clear hv2 hk2 sh2
      generalize crossCols l i p = p at *
      obtain ⟨⟨S2', U2', V2', k2⟩, dn⟩ := p
      dsimp only at *
      subst hk3
      have hms := X2.ms
      have shs := sh3.s
      unfold crossCol at hQ
      dsimp only at hQ
      refine wpAny_execs_cons ?_
      refine wpAny_Assign_Name ?_ (by rfl)
      (rename Ok _ _ _ _ _ _ _ _ => zS); refine PI.use zS (pi_div (by assumption) (pi_el (pv_name (by assumption) (by rfl)) (by walk_at "mt") (by assumption) (pi_name (by assumption) (by rfl) (by rfl)) (by walk_at "ix") (by walk_at "bd") (by walk_at "bd") (fun _ _ => rfl) (pi_name (by assumption) (by rfl) (by rfl)) (by walk_at "ix") (by walk_at "bd") (by walk_at "bd") (fun _ _ => rfl)) (pi_name (by assumption) (by rfl) (by rfl)) (by first | assumption | decide | (walk_at "div"))) ?_; intro zt zs zN; clear zS
      (rename Ok _ _ _ _ _ _ _ _ => zS); refine st_cell zS (by assumption) (by rfl) (by rfl) (by first | exact Nat.le_succ _ | exact Nat.le_succ_of_le (Nat.le_succ _) | exact Nat.le_succ_of_le (Nat.le_succ_of_le (Nat.le_succ _)) | exact Nat.le_succ_of_le (Nat.le_succ_of_le (Nat.le_succ_of_le (Nat.le_succ _))) | exact Nat.le_succ_of_le (Nat.le_succ_of_le (Nat.le_succ_of_le (Nat.le_succ_of_le (Nat.le_succ _))))) ?_; intro zs zN; clear zS
      refine wpAny_execs_cons ?_
      refine wpAny_For ?_ (fun _ => rfl)
      refine Tuple_ ?_
      refine args_cons ?_ (by rfl)
      (rename Ok _ _ _ _ _ _ _ _ => zS); refine nm_local zS (by assumption) (by rfl) (by rfl) ?_ (by decide)
      refine args_cons ?_ (by rfl)
      (rename Ok _ _ _ _ _ _ _ _ => zS); refine nm_local zS (by assumption) (by rfl) (by rfl) ?_ (by decide)
      refine args_nil ?_
      (rename Ok _ _ _ _ _ _ _ _ => zS); refine n_tup zS (Nat.le_of_ble_eq_true rfl) ?_; intro zl zs zh zE zN; clear zS
      rename Ok _ _ _ _ _ _ _ _ => S
      refine r_tup S R'.hh (by walk_at "dk") ?_
      intro it5 s5 S5 W5
      clear S
      refine loop_su (fun a M M' => (∃ n', Sh n' m M ∧ n' ≤ 1000 ∧ ∀ j, IntMulOk ((el S2' x.k o).fdiv l) (el M j x.k)) ∧ M' = subCol M o x.k ((el S2' x.k o).fdiv l)) W5 S5 (by walk_at "dk") (bnd_cell I (by rfl) (by rfl) (by first | exact Nat.le_succ _ | exact Nat.le_succ_of_le (Nat.le_succ _) | exact Nat.le_succ_of_le (Nat.le_succ_of_le (Nat.le_succ _)))) (X2.swap23.sub (by walk_at "ds")) hnew ⟨⟨n, shs, hn, c1⟩, rfl⟩ ⟨⟨m, sh3.v, hm, c2⟩, rfl⟩ ?_ ?_
      · clear S5 W5 hms shs X2 sh3 c1 c2 hX2
        intro O5 D5 s6 a ra M M' hO5 g11 hM hnd g12 S6
        clear hQ
        refine cutQ fun Q' hQ => ?_
        obtain ⟨⟨n', shM, hn', hmul⟩, rfl⟩ := g11
        obtain ⟨hca, hcr⟩ := g12
        refine wpAny_execs_cons ?_
        refine wpAny_For ?_ (fun _ => rfl)
        (rename Ok _ _ _ _ _ _ _ _ => zS); refine nm_cell zS (by assumption) (.inl (by rfl)) (by rfl) (by rfl) ?_ (by decide) (by decide)
        rename Ok _ _ _ _ _ _ _ _ => S
        refine r_vals S R'.hh (S.mat hM (by walk_at "ds")).1 ?_
        intro it7 s7 S7 W7
        clear S
        refine cutR fun R2 hR => ?_
        refine loop_rows (f := subAt o x.k ((el S2' x.k o).fdiv l)) W7 (by rw [List.length_map, hM.2.1]) (fun i v hv => (hM.val hv).2.1) S7 hM hnd (bnd_local I (by rfl)) ?_ ?_
        · clear S7 W7 hR hQ
          intro q O7 D7 s8 hq hO7 hr hX S8
          have hlr : (row M q).length = m := shM.row (by rw [← shM.1]; exact hq)
          have hmul : IntMulOk ((el S2' x.k o).fdiv l) ((row M q).getD x.k 0) := hmul q
          have hget : ra.getD q 0 ∈ ra := by
            have : q < ra.length := by rw [hM.2.1]; exact hq
            rw [List.getD_eq_getElem?_getD, List.getElem?_eq_getElem this]; simp
          refine cutQ fun Q' hQ => ?_
          refine wpAny_execs_cons ?_
          refine x_sub ?_ (by rfl)
          (rename Ok _ _ _ _ _ _ _ _ => zS); refine PI.use zS (pi_sub (pi_at (pv_name (by assumption) (by rfl)) (by walk_at "dk") (pi_name (by assumption) (by rfl) (by rfl)) (by walk_at "ix") (by walk_at "bd") (by walk_at "bd") (fun _ _ => rfl)) (pi_mul (pi_name (by assumption) (by rfl) (by rfl)) (pi_at (pv_name (by assumption) (by rfl)) (by walk_at "dk") (pi_name (by assumption) (by rfl) (by rfl)) (by walk_at "ix") (by walk_at "bd") (by walk_at "bd") (fun _ _ => rfl)) (by first | assumption | (walk_at "mul")))) ?_; intro zt zs zN; clear zS
          (rename Ok _ _ _ _ _ _ _ _ => zS); refine nm_local zS (by assumption) (by rfl) (by rfl) ?_ (by decide)
          (rename Ok _ _ _ _ _ _ _ _ => zS); refine nm_local zS (by assumption) (by rfl) (by rfl) ?_ (by decide)
          dsimp only
          rename Ok _ _ _ _ _ _ _ _ => S
          refine p_el S (by walk_at "dk") (hcr _ hget) rfl (by lia) (by lia) fun s9 S9 => ?_
          clear S
          refine wpAny_execs_nil ?_
          exact hQ _ _ ⟨_, upd_same .., Ext.at (P := fun b => b = _) rfl, S9.vars (by walk_at "vr")⟩
        · intro D8 s8 hM8 hX8 S8
          refine hR _ _ ?_
          refine wpAny_execs_nil ?_
          exact hQ _ _ ⟨_, _, ⟨hM8, hX8.mono fun _ => .inr, fun _ h => .inl h, id⟩, S8.vars (by walk_at "vr")⟩
      · intro r1 r3 D6 s6 X6 hX6 S6
        clear S5 W5 X2 hms c1 c2
        replace X6 := X6.swap23
        have hms := X6.ms
        replace shs : Sh n m (subCol S2' o x.k ((el S2' x.k o).fdiv l)) := shs.subCol _ _ _
        have hXX : Ext (Can s mods') D D6 := hX2.trans ((Sub.new (by assumption)).ext.trans hX6)
        refine wpAny_execs_cons ?_
        refine wpAny_Assign_Name ?_ (by rfl)
        refine BoolOp_and ?_
        (rename Ok _ _ _ _ _ _ _ _ => zS); refine nm_local zS (by assumption) (by rfl) (by rfl) ?_ (by decide)
        refine q_truth ?_
        dsimp only
        cases dn with
        | false =>
          refine Eq.mpr (if_neg (by with_reducible exact Bool.false_ne_true)) ?_
          (rename Ok _ _ _ _ _ _ _ _ => zS); refine st_local zS (by assumption) (by rfl) ?_; intro zs zN; clear zS
          refine wpAny_execs_nil ?_
          rename Ok _ _ _ _ _ _ _ _ => S
          exact hQ _ _ ⟨_, _, ⟨tl, by rw [Bool.false_and], _, _, _, X6, hXX⟩, S.vars (by walk_at "vr")⟩
        | true =>
          refine Eq.mpr (if_pos (by with_reducible rfl)) ?_
          refine BoolOp_one ?_
          refine wpAny_Compare1 ?_ (by rfl)
          (rename Ok _ _ _ _ _ _ _ _ => zS); refine PI.use zS (pi_el (pv_name (by assumption) (by rfl)) (by walk_at "mt") (by assumption) (pi_name (by assumption) (by rfl) (by rfl)) (by walk_at "ix") (by walk_at "bd") (by walk_at "bd") (fun _ _ => rfl) (pi_name (by assumption) (by rfl) (by rfl)) (by walk_at "ix") (by walk_at "bd") (by walk_at "bd") (fun _ _ => rfl)) ?_; intro zt zs zN; clear zS
          (rename Ok _ _ _ _ _ _ _ _ => zS); refine c_int zS ?_; intro zt zs zN; clear zS
          refine q_eq ?_
          (rename Ok _ _ _ _ _ _ _ _ => zS); refine st_local zS (by assumption) (by rfl) ?_; intro zs zN; clear zS
          refine wpAny_execs_nil ?_
          rename Ok _ _ _ _ _ _ _ _ => S
          exact hQ _ _ ⟨_, _, ⟨tl, by rw [Bool.true_and], _, _, _, X6, hXX⟩, S.vars (by walk_at "vr")⟩
    · rintro σ' D3 s3 ⟨tl, rfl, rs3, ru3, rv3, X3, hX3⟩ S3
      refine hR _ _ ?_
      refine wpAny_execs_cons ?_
      refine wpAny_Return_some ?_
      (rename Ok _ _ _ _ _ _ _ _ => zS); refine nm_local zS (by assumption) (by rfl) (by rfl) ?_ (by decide)
      dsimp only
      rename Ok _ _ _ _ _ _ _ _ => S
      exact hQ _ _ ⟨_, _, S, fun s8 S8 => k _ _ _ _ _ (X3.mono back) (hX3.mono back) S8⟩
end

section
variable {w : World} {A : Around} {E : Value → Shared → Prop}
variable {Hs : Heap} {se s : Shared} {mods : Addr → Prop} {env : Env} {O : Addr → Option Obj} {σ : Vars} {D : Know} {mg mb : Str → Option Value}
theorem undivided_spec (T : Wd w Hs mg mb) (Rr : Rm A 3) (S : Ok Hs se mods env O σ D s) {a : Addr} {ra : List Addr} {G : Mat} {n m k : Nat} {ts tw : Tok} {Q : Value → Shared → Prop}
    (hM : MatD D a ra G) (sh : Sh n m G) (hn : n ≤ 10) (hm : m ≤ 10) (hkn : k < n) (hkm : k < m) (hz : el G k k ≠ 0)
    (kk : ∀ v D' s', (match undiv G k n m with | some r => ∃ t, v = Value.int (r : Nat) t | none => v = .none) → Sub D D' → Ok Hs se mods env O σ D' s' → Q v s') :
    wpAny (model Pg w) A (call (.ref (fad mg "undivided_row")) [.ref a, .int k ts, .int m tw]) Q E s := by
  refine enterW "undivided_row" ["s", "step", "width"] T Rr S rfl (fun _ _ _ => rfl) (fun _ _ _ => rfl) (by decide) (fun _ => False) (fun _ h => h.elim) (fun _ h => h.elim) ?_
  clear S Rr
  intro env' s' I hN S' R' V
  dsimp only at I hN
  refine cutQ fun Q' hQ => ?_
  refine wpAny_execs_cons ?_
  refine wpAny_For ?_ (fun _ => rfl)
  (rename Ok _ _ _ _ _ _ _ _ => zS); refine ev_range2 zS (by assumption) (by assumption) (by rfl) (pi_add (pi_name (by assumption) (by rfl) (by rfl)) pi_const) (pi_len (by assumption) (by assumption) (by rfl) (pv_name (by assumption) (by rfl)) (by walk_at "mt") (by assumption) (by walk_at "bd") (fun _ _ => rfl)) (fun _ _ => rfl) (fun _ _ => rfl) ?_; intro zr zs zN zq; clear zS
  rename Ok _ _ _ _ _ _ _ _ => S
  refine r_range S R'.hh (by assumption) (by exact nle1 _) (by lia) (by exact nle _) (by exact ncl (k := 10) (by assumption) rfl) (n := n - (k + 1)) (by exact tns _ _) ?_
  intro it s1 S1 W1
  clear S
  have hfin := kk
  refine loop_over W1 S1 (bnd_cell I (by rfl) (by rfl) (by first | exact Nat.le_succ _ | exact Nat.le_succ_of_le (Nat.le_succ _) | exact Nat.le_succ_of_le (Nat.le_succ_of_le (Nat.le_succ _))))
    (fun i σ' D' => σ' = ([("s", .ref a), ("step", .int k ts), ("width", .int m tw)] : Vars) ∧ undivFind G k m i = none ∧ Sub D D') ⟨rfl, rfl, Sub.refl⟩ (fun _ _ _ _ _ _ => trivial) ?_ ?_
  · clear S1 W1
    intro i v O' σ' D2 s2 hi g13 hO' g14 S2
    refine cutQ fun Q2 hQ2 => ?_
    obtain ⟨ti, rfl⟩ := g13
    obtain ⟨rfl, hf, hs2⟩ := g14
    obtain ⟨o, ho⟩ : ∃ o : Nat, o = k + 1 + i := ⟨_, rfl⟩
    have hoi : ((k : Int) + 1 + (i : Int)) = (o : Int) := by lia
    rw [hoi] at S2
    have hon : o < n := by lia
    have hnext : undivFind G k m (i + 1) = if undivAt G k m o then some o else none := by
      show (match undivFind G k m i with | some r => some r | none => if undivAt G k m (k + 1 + i) then some (k + 1 + i) else none) = _
      rw [hf, ho]
    refine wpAny_execs_cons ?_
    refine wpAny_If ?_
    refine wpAny_isTrue_Compare1 ?_ (by rfl)
    refine e_comp (by assumption) (by rfl) (by rfl) (by decide) (fun _ => rfl) ?_
    (rename Ok _ _ _ _ _ _ _ _ => zS); refine ev_range2 zS (by assumption) (by assumption) (by rfl) (pi_add (pi_name (by assumption) (by rfl) (by rfl)) pi_const) (pi_name (by assumption) (by rfl) (by rfl)) (fun _ _ => rfl) (fun _ _ => rfl) ?_; intro zr zs zN zq; clear zS
    rename Ok _ _ _ _ _ _ _ _ => S
    refine r_range S R'.hh (by assumption) (by exact nle1 _) (by lia) (by exact nle _) (by exact ncl (k := 10) (by assumption) rfl) (n := m - (k + 1)) (by exact tns _ _) ?_
    intro it3 s3 S3 W3
    clear S
    refine tail_pure S3 W3 I (by rfl) rfl (by decide) (by rfl) (by rfl) (by lia) (fun _ _ _ _ _ _ => trivial) (fun j => decide ((el G o (k + 1 + j)).fmod (el G k k) ≠ 0)) (fun _ => 1) ?_ ?_
    · rintro j v O6 cenv D6 s8 hj ⟨tj, rfl⟩ Ic hs6 S8
      dsimp only at Ic
      clear S3 W3 hQ2 kk hfin hQ
      obtain ⟨c, hc⟩ : ∃ c : Nat, c = k + 1 + j := ⟨_, rfl⟩
      have hcj : ((k : Int) + 1 + (j : Int)) = (c : Int) := by lia
      rw [hcj] at S8 ⊢
      rw [← hc]
      have hM6 := hM.sub (hs2.trans hs6)
      refine ⟨?_, fun _ => ?_⟩
      · refine ts_one ?_
        (rename Ok _ _ _ _ _ _ _ _ => zS); refine PB.use zS (pb_ne (pi_mod (pi_el (pv_name (by assumption) (by rfl)) (by walk_at "mt") (by assumption) (pi_name (by assumption) (by rfl) (by rfl)) (by walk_at "ix") (by walk_at "bd") (by walk_at "bd") (fun _ _ => rfl) (pi_name (by assumption) (by rfl) (by rfl)) (by walk_at "ix") (by walk_at "bd") (by walk_at "bd") (fun _ _ => rfl)) (pi_el (pv_name (by assumption) (by rfl)) (by walk_at "mt") (by assumption) (pi_name (by assumption) (by rfl) (by rfl)) (by walk_at "ix") (by walk_at "bd") (by walk_at "bd") (fun _ _ => rfl) (pi_name (by assumption) (by rfl) (by rfl)) (by walk_at "ix") (by walk_at "bd") (by walk_at "bd") (fun _ _ => rfl)) (by first | assumption | decide | (walk_at "div"))) pi_const (by rfl)) ?_; intro zs zN; clear zS
        dsimp only
        exact ⟨rfl, D6, Sub.refl, by assumption⟩
      · (rename Ok _ _ _ _ _ _ _ _ => zS); refine c_int zS ?_; intro zt zs zN; clear zS
        dsimp only
        exact ⟨_, _, rfl, Sub.refl, by assumption⟩
    · intro l8 cenv O6 s8 hl8 hlE8 K8 S8
      refine post_none K8 S8 fun s9 S9 => ?_
      clear S3 W3 S8
      refine List_ ?_
      refine args_nil ?_
      rename Ok _ _ _ _ _ _ _ _ => S
      refine n_vals S (by simp) ?_
      intro l10 s10 hl10 hE10 S10
      clear S
      refine q_ne_nil S10 R' (Sub.new hl10 _ _ (upd_same ..)) (upd_same ..) (.inl ⟨_, rfl, rfl⟩) ?_
      have hpk : decide ((picked (fun j => decide ((el G o (k + 1 + j)).fmod (el G k k) ≠ 0)) (fun _ => 1) (m - (k + 1))).length ≠ 0) = undivAt G k m o := by
        unfold picked undivAt
        rw [List.length_map, Bool.eq_iff_iff]
        simp only [decide_eq_true_eq, ne_eq, List.length_eq_zero_iff, List.filter_eq_nil_iff, List.any_eq_true, Classical.not_forall, exists_prop, Decidable.not_not]
      rw [hpk]
      cases hu : undivAt G k m o with
      | true =>
        refine q_truth ?_
        refine Eq.mpr (if_pos (by with_reducible rfl)) ?_
        refine wpAny_execs_cons ?_
        refine wpAny_Return_some ?_
        (rename Ok _ _ _ _ _ _ _ _ => zS); refine nm_cell zS (by assumption) (.inl (by rfl)) (by rfl) (by rfl) ?_ (by decide) (by decide)
        dsimp only
        rename Ok _ _ _ _ _ _ _ _ => S
        refine hQ2 _ _ ?_
        have hres : undiv G k n m = some o := by
          unfold undiv
          have key : ∀ q r, undivFind G k m q = some r → ∀ q', q ≤ q' → undivFind G k m q' = some r := by
            intro q r h q' hq'
            induction q' with
            | zero => have : q = 0 := by lia
                      subst this; exact h
            | succ q' ih =>
              rcases Nat.lt_or_ge q' q with z | z
              · have : q = q' + 1 := by lia
                subst this; exact h
              · show (match undivFind G k m q' with | some r => some r | none => _) = _
                rw [ih z]
          exact key (i + 1) o (by rw [hnext, hu]; rfl) _ (by assumption)
        dsimp only
        refine hQ _ _ ⟨_, _, S.lessO (O := fun _ => none) hO', fun s3 S3 => kk _ _ _ ?_ (hs2.trans (by walk_at "ds")) S3⟩
        rw [hres]; exact ⟨_, rfl⟩
      | false =>
        refine q_truth ?_
        refine Eq.mpr (if_neg (by with_reducible exact Bool.false_ne_true)) ?_
        refine wpAny_execs_nil ?_
        refine wpAny_execs_nil ?_
        rename Ok _ _ _ _ _ _ _ _ => S
        refine hQ2 _ _ ⟨_, _, ⟨rfl, by rw [hnext, hu]; rfl, hs2.trans (by walk_at "ds")⟩, S.vars (by walk_at "vr")⟩
  · rintro σ' D2 s2 ⟨rfl, hf, hs2⟩ S2
    refine wpAny_execs_cons ?_
    refine wpAny_Return_some ?_
    refine c_none ?_
    dsimp only
    refine hQ _ _ ⟨_, _, S2, fun s3 S3 => kk _ _ _ ?_ hs2 S3⟩
    unfold undiv; rw [hf]
end

section
variable {w : World} {A : Around} {E : Value → Shared → Prop}
variable {Hs : Heap} {se s : Shared} {mods : Addr → Prop} {env : Env} {O : Addr → Option Obj} {σ : Vars} {D : Know} {mg mb : Str → Option Value}
theorem smith_spec (T : Wd w Hs mg mb) (Rr : Rm A 12) (S : Ok Hs se mods env O σ D s) {a : Addr} {ra : List Addr} {G : Mat} {n m N : Nat} {z : St} {tw : Tok} {Q : Value → Shared → Prop}
    (hM : MatD D a ra G) (sh : Sh n m G) (hn : n ≤ 3) (hm : m ≤ 3) (hr : Run IntMulOk n m N ⟨G, unitRows n, unitRows m, 0⟩ z)
    (k : ∀ l as au av rs ru rv D' s', D l = none → D' l = some (.tup [.ref as, .ref au, .ref av]) → Sub D D' → SUV (Can se mods) D' as au av rs ru rv z.S z.U z.V → (∀ b, b = as ∨ b = au ∨ b = av ∨ b ∈ rs ∨ b ∈ ru ∨ b ∈ rv → D b = none) → Ok Hs se mods env O σ D' s' → Q (.ref l) s') :
    wpAny (model Pg w) A (call (.ref (fad mg "smith_form")) [.ref a, .int m tw]) Q E s := by
  refine enterW "smith_form" ["a", "width"] T Rr S rfl (fun _ _ _ => rfl) (fun _ _ _ => rfl) (by decide) (fun _ => False) (fun _ h => h.elim) (fun _ h => h.elim) ?_
  have back : ∀ b, Can s (fun _ => False) b → Can se mods b ∧ D b = none := fun b q => q.elim (fun q => q.elim) fun q => ⟨S.canOf q, S.noneOf q⟩
  have hSub : ∀ D', Ext (Can s (fun _ => False)) D D' → Sub D D' := fun D' h b c e => h b c e fun q => by rw [(back b q).2] at e; cases e
  clear S Rr
  intro env' s' I hN S' R' V
  dsimp only at I hN
  refine cutQ fun Q' hQ => ?_
  refine wpAny_execs_cons ?_
  refine x_swap3 S' R'.hh I hN ?_ rfl rfl
  refine Tuple_ ?_
  refine args_cons ?_ (by rfl)
  refine e_comp (by assumption) (by rfl) (by rfl) (by decide) (fun _ => rfl) ?_
  (rename Ok _ _ _ _ _ _ _ _ => zS); refine nm_local zS (by assumption) (by rfl) (by rfl) ?_ (by decide)
  rename Ok _ _ _ _ _ _ _ _ => S
  refine r_vals S R'.hh hM.1 ?_
  intro it s1 S1 W1
  refine tail_new S1 W1 I (by rfl) rfl (by decide) (by rfl) (.inl (by rfl)) (by rw [List.length_map, hM.2.1, sh.1]; exact lek (k := 3) (by assumption) rfl) (fun _ _ _ _ hs S' => S'.know _ _ (hs _ _ hM.1)) (fun i => row G i) ?_ ?_
  · rintro i v O' cenv D' s2 hi hv Ic hsub S2
    dsimp only at Ic
    clear S S1 W1 hQ k
    obtain ⟨hi', rfl, hr⟩ := hM.val hv
    have hlr := sh.row (i := i) (by rw [← sh.1]; exact hi')
    refine ⟨?_, ?_⟩
    · refine ts_nil ?_
      dsimp only
      exact ⟨rfl, D', Sub.refl, S2⟩
    · refine Call_ ?_ (by rfl)
      (rename Ok _ _ _ _ _ _ _ _ => zS); refine nm_built zS (by assumption) (Wd.B (by assumption)) (by rfl) (Wd.nob (by assumption) (by rfl)) ((Wd.bb (by assumption) _ (by decide)).trans (by first | exact b_range | exact b_len | exact b_list | exact b_enum | exact b_abs | exact b_min | exact b_sum)) ?_ (by decide)
      refine PyProof.Rows.callWith_type1 ?_ (by rfl) (by rfl)
      refine args_cons ?_ (by rfl)
      (rename Ok _ _ _ _ _ _ _ _ => zS); refine nm_local zS (by assumption) (by rfl) (by rfl) ?_ (by decide)
      refine args_nil ?_
      dsimp only
      rename Ok _ _ _ _ _ _ _ _ => S
      refine f_copy S (by walk_at "dk") (by lia) ?_
      intro l s3 hl hlE S3
      exact ⟨l, _, rfl, hl, hlE, Sub.new hl, upd_same .., S3⟩
  intro ls rs D1 cenv O' s2 hl hlE hlen hrs hnd hsub hlD hG K S2
  refine post_none K S2 fun s3 S3 => ?_
  have hH : MatD D1 ls rs G := MatD.ofRows hlD (by rw [hlen, List.length_map, hM.2.1]) hG
  clear S S1 W1 S2 K hG hlD
  refine args_cons ?_ (by rfl)
  (rename Ok _ _ _ _ _ _ _ _ => zS); refine ev_call zS (by assumption) (by assumption) (by rfl) (by rfl) (by decide) (pa_int (pi_len (by assumption) (by assumption) (by rfl) (pv_name (by assumption) (by rfl)) (by walk_at "mt") (by assumption) (by walk_at "bd") (fun _ _ => rfl)) pa_nil (fun _ _ => rfl)) (fun _ _ => rfl) ?_; intro zt zs zN; clear zS
  rename Ok _ _ _ _ _ _ _ _ => S
  refine unit_rows_spec T (R'.le (by decide)) S (n := n) (by exact lek (k := 3) (by assumption) rfl) ?_
  intro lu ru D2 s4 hs2 NU S4
  have cu := S.canOf NU.na
  have cru := fun r hr => S.canOf (NU.nr r hr)
  have nlu := S.noneOf NU.na
  have nru := fun r hr => S.noneOf (NU.nr r hr)
  clear S
  refine args_cons ?_ (by rfl)
  (rename Ok _ _ _ _ _ _ _ _ => zS); refine ev_call zS (by assumption) (by assumption) (by rfl) (by rfl) (by decide) (pa_int (pi_name (by assumption) (by rfl) (by rfl)) pa_nil (fun _ _ => rfl)) (fun _ _ => rfl) ?_; intro zt zs zN; clear zS
  rename Ok _ _ _ _ _ _ _ _ => S
  refine unit_rows_spec T (R'.le (by decide)) S (n := m) (by exact lek (k := 3) (by assumption) rfl) ?_
  intro lv rv D3 s5 hs3 NV S5
  have cv := S.canOf NV.na
  have crv := fun r hr => S.canOf (NV.nr r hr)
  have nlv := S.noneOf NV.na
  have nrv := fun r hr => S.noneOf (NV.nr r hr)
  clear S
  have X : SUV (Can s (fun _ => False)) D3 ls lu lv rs ru rv G (unitRows n) (unitRows m) :=
    { ms := (hH.sub hs2).sub hs3, mu := NU.mat.sub hs3, mv := NV.mat, ns := hnd, nu := NU.nd, nv := NV.nd
      su := fun r h1 h2 => hH.notNone h1 (nru r h2), sv := fun r h1 h2 => (hH.sub hs2).notNone h1 (nrv r h2), uv := fun r h1 h2 => NU.mat.notNone h1 (nrv r h2)
      hsu := ne_new hH.1 nlu, hsv := ne_new (hH.sub hs2).1 nlv, huv := ne_new NU.mat.1 nlv
      os := ⟨.inr hlE, fun r hr => .inr (hrs r hr).2.1⟩, ou := ⟨cu, cru⟩, ov := ⟨cv, crv⟩ }
  have hs03 : Sub D D3 := (hsub.trans hs2).trans hs3
  have kDa : D3 a = some (.refs ra) := hs03 _ _ hM.1
  clear hH hs2 hs3 cu cru nlu nru NU cv crv nlv nrv NV hlE hrs hnd hsub hl
  refine args_nil ?_
  (rename Ok _ _ _ _ _ _ _ _ => zS); refine n_tup zS (Nat.le_of_ble_eq_true rfl) ?_; intro zl zs zh zE zN; clear zS
  refine .mk (by assumption) (by walk_at "dk") ?_
  rename Ok _ _ _ _ _ _ _ _ => S
  intro s6 S6
  clear S
  (rename Ok _ _ _ _ _ _ _ _ => zS); refine st_local zS (by assumption) (by rfl) ?_; intro zs zN; clear zS
  (rename Ok _ _ _ _ _ _ _ _ => zS); refine st_local zS (by assumption) (by rfl) ?_; intro zs zN; clear zS
  (rename Ok _ _ _ _ _ _ _ _ => zS); refine st_local zS (by assumption) (by rfl) ?_; intro zs zN; clear zS
  (rename Ok _ _ _ _ _ _ _ _ => zS); refine sx_int zS (by assumption) (by rfl) pi_const (by rfl) ?_; intro zt zs zN; clear zS
  refine wpAny_execs_cons ?_
  rename Ok _ _ _ _ _ _ _ _ => S
  have X6 := X.sub (S.subOf (by walk_at "ds"))
  have hs06 : Ext (Can s (fun _ => False)) D _ := (hs03.trans (S.subOf (by walk_at "ds"))).ext
  clear X hs03 kDa
  refine wpAny_While (loop_while (fun j σ' D' => ∃ x rs ru rv t8, Run IntMulOk n m j x z ∧ Shs n m x ∧ σ' = ([("step", .int x.k t8), ("s", .ref ls), ("u", .ref lu), ("v", .ref lv), ("width", .int m tw)] : Vars) ∧ SUV (Can s (fun _ => False)) D' ls lu lv rs ru rv x.S x.U x.V ∧ Ext (Can s (fun _ => False)) D D') N
    ⟨_, rs, ru, rv, _, hr, ⟨sh, Sh.unit n, Sh.unit m⟩, rfl, X6, hs06⟩ (S.vars (by walk_at "vr")) ?_)
  clear S X6 hs06 hr
  intro j σ' D2 s2 g15 S2
  refine cutQ fun Q2 hQ2 => ?_
  obtain ⟨x, rs, ru, rv, t8, hr, shx, rfl, X, hX⟩ := g15
  have shs := shx.s
  have hms := X.ms
  (rename Ok _ _ _ _ _ _ _ _ => zS); refine PB.use zS (pb_lt (pi_name (by assumption) (by rfl) (by rfl)) (pi_min (by assumption) (by assumption) (Rm.hh (by assumption)) (by rfl) (pi_len (by assumption) (by assumption) (by rfl) (pv_name (by assumption) (by rfl)) (by walk_at "mt") (by assumption) (by walk_at "bd") (fun _ _ => rfl)) (pi_name (by assumption) (by rfl) (by rfl)) (fun _ _ => rfl) (fun _ _ => rfl)) (by rfl)) ?_; intro zs zN; clear zS
  by_cases hlt : x.k < min n m
  · have hkn : x.k < n := by lia
    have hkm : x.k < m := by lia
    rw [show decide ((x.k : Int) < (if (m : Int) < n then (m : Int) else n)) = true from by rw [decide_eq_true_eq]; split <;> lia]
    refine hQ2 _ _ ?_
    rw [if_pos rfl]
    clear hQ2
    refine cutQ fun Q2 hQ2 => ?_
    refine wpAny_execs_cons ?_
    refine wpAny_Assign_Name ?_ (by rfl)
    (rename Ok _ _ _ _ _ _ _ _ => zS); refine ev_call zS (by assumption) (by assumption) (by rfl) (by rfl) (by decide) (pa_val (pv_name (by assumption) (by rfl)) (pa_int (pi_name (by assumption) (by rfl) (by rfl)) (pa_int (pi_name (by assumption) (by rfl) (by rfl)) pa_nil (fun _ _ => rfl)) (fun _ _ => rfl)) (fun _ _ => rfl)) (fun _ _ => rfl) ?_; intro zt zs zN; clear zS
    dsimp only
    rename Ok _ _ _ _ _ _ _ _ => S
    refine least_spot_spec T (R'.le (by decide)) S hms shs (by exact lek (k := 3) (by assumption) rfl) (by exact lek (k := 3) (by assumption) rfl) (by exact Nat.le_of_lt (by assumption)) (by exact Nat.le_of_lt (by assumption)) ?_
    intro v D3 s3 hf hs3 S3
    clear S
    have X3 := X.sub hs3
    replace hX := hX.trans hs3.ext
    clear X hs3 hms
    cases hls : least x.S x.k n m with
    | none =>
      have hz := hr.stopped (smithStep_none hls)
      subst hz
      rw [hls] at hf
      cases hf
      have X := X3
      (rename Ok _ _ _ _ _ _ _ _ => zS); refine st_local zS (by assumption) (by rfl) ?_; intro zs zN; clear zS
      refine wpAny_execs_cons ?_
      refine wpAny_If ?_
      refine wpAny_isTrue_Compare1 ?_ (by rfl)
      (rename Ok _ _ _ _ _ _ _ _ => zS); refine nm_local zS (by assumption) (by rfl) (by rfl) ?_ (by decide)
      refine c_none ?_
      refine is_none ?_
      refine q_truth ?_
      refine Eq.mpr (if_pos (by show (Value.none == Value.none) = true; rfl)) ?_
      refine wpAny_execs_cons ?_
      refine wpAny_Return_some ?_
      refine Tuple_ ?_
      refine args_cons ?_ (by rfl)
      (rename Ok _ _ _ _ _ _ _ _ => zS); refine nm_local zS (by assumption) (by rfl) (by rfl) ?_ (by decide)
      refine args_cons ?_ (by rfl)
      (rename Ok _ _ _ _ _ _ _ _ => zS); refine nm_local zS (by assumption) (by rfl) (by rfl) ?_ (by decide)
      refine args_cons ?_ (by rfl)
      (rename Ok _ _ _ _ _ _ _ _ => zS); refine nm_local zS (by assumption) (by rfl) (by rfl) ?_ (by decide)
      refine args_nil ?_
      (rename Ok _ _ _ _ _ _ _ _ => zS); refine n_tup zS (Nat.le_of_ble_eq_true rfl) ?_; intro zl zs zh zE zN; clear zS
      dsimp only
      rename Ok _ _ _ _ _ _ _ _ => S
      refine hQ2 _ _ ?_
      dsimp only
      refine hQ _ _ ⟨_, _, S, fun s8 S8 => k _ ls lu lv rs ru rv _ _ (noneSub (by assumption) (hSub _ hX)) (by walk_at "dk") ((hSub _ hX).trans (by walk_at "ds")) ((X.sub (by walk_at "ds")).mono fun b q => (back b q).1) ?_ S8⟩
      rintro b (rfl | rfl | rfl | hb | hb | hb)
      · exact (back _ X.os.1).2
      · exact (back _ X.ou.1).2
      · exact (back _ X.ov.1).2
      · exact (back _ (X.os.2 _ hb)).2
      · exact (back _ (X.ou.2 _ hb)).2
      · exact (back _ (X.ov.2 _ hb)).2
    | some p =>
      rw [hls] at hf
      obtain ⟨lf, f1, f2, rfl, hlf⟩ := hf
      obtain ⟨i1, i2, i3, i4⟩ := In.rows (M := x.S) (st := x.k) (n := n) (w := m) (k := n - x.k) (by lia) (by exact Nat.le_of_lt (by assumption)) p hls
      have hnot := smithStep_not hlt hls
      have hdone := smithStep_done hlt hls
      (rename Ok _ _ _ _ _ _ _ _ => zS); refine st_local zS (by assumption) (by rfl) ?_; intro zs zN; clear zS
      refine wpAny_execs_cons ?_
      refine wpAny_If ?_
      refine wpAny_isTrue_Compare1 ?_ (by rfl)
      (rename Ok _ _ _ _ _ _ _ _ => zS); refine nm_local zS (by assumption) (by rfl) (by rfl) ?_ (by decide)
      refine c_none ?_
      refine is_none ?_
      refine q_truth ?_
      refine Eq.mpr (if_neg (show (!true) = true → False from Bool.false_ne_true)) ?_
      refine wpAny_execs_nil ?_
      refine wpAny_execs_cons ?_
      refine x_expr (by assumption) ?_ (by rfl)
      (rename Ok _ _ _ _ _ _ _ _ => zS); refine ev_call zS (by assumption) (by assumption) (by rfl) (by rfl) (by decide) (pa_val (pv_name (by assumption) (by rfl)) (pa_val (pv_name (by assumption) (by rfl)) (pa_val (pv_name (by assumption) (by rfl)) (pa_val (pv_name (by assumption) (by rfl)) (pa_int (pi_name (by assumption) (by rfl) (by rfl)) pa_nil (fun _ _ => rfl)) (fun _ _ => rfl)) (fun _ _ => rfl)) (fun _ _ => rfl)) (fun _ _ => rfl)) (fun _ _ => rfl) ?_; intro zt zs zN; clear zS
      dsimp only
      rename Ok _ _ _ _ _ _ _ _ => S
      refine bring_spec T (R'.le (by decide)) S X3 shx hlf i2 i4 hkn hkm (by exact lek (k := 3) (by assumption) rfl) (by exact lek (k := 3) (by assumption) rfl) ?_
      intro D4 s4 rs4 ru4 rv4 X4 hX4 S4
      clear S X3
      have sh4 := shx.bring (j := p.2) i2 hkn
      have hk4 : (bringM x p.1 p.2).k = x.k := rfl
      have hcm : ∀ y, smithStep n m x = some y → CrossMul IntMulOk n m (bringM x p.1 p.2) ∧ ∃ j', j' < j ∧ Run IntMulOk n m j' y z := fun y e => by
        obtain ⟨j', q1, q2, q3⟩ := hr.turned e
        exact ⟨q2 p hls, j', q1, q3⟩
      clear hr shx shs hlf i1 i2 i3 i4 hls
      replace hX := hX.trans hX4
      clear hX4
      generalize bringM x p.1 p.2 = x4 at *
      obtain ⟨xS, xU, xV, xk⟩ := x
      dsimp only at *
      subst hk4
      have C4 : CrossMul IntMulOk n m x4 := by
        cases hd : (crossed n m x4).2 with
        | true => exact (hcm _ (hdone hd)).1
        | false => exact (hcm _ (hnot hd)).1
      refine wpAny_execs_cons ?_
      refine wpAny_If ?_
      refine wpAny_isTrue_Not ?_
      refine wpAny_isTrue_value ?_ (by rfl)
      (rename Ok _ _ _ _ _ _ _ _ => zS); refine ev_call zS (by assumption) (by assumption) (by rfl) (by rfl) (by decide) (pa_val (pv_name (by assumption) (by rfl)) (pa_val (pv_name (by assumption) (by rfl)) (pa_val (pv_name (by assumption) (by rfl)) (pa_int (pi_name (by assumption) (by rfl) (by rfl)) (pa_int (pi_name (by assumption) (by rfl) (by rfl)) pa_nil (fun _ _ => rfl)) (fun _ _ => rfl)) (fun _ _ => rfl)) (fun _ _ => rfl)) (fun _ _ => rfl)) (fun _ _ => rfl) ?_; intro zt zs zN; clear zS
      dsimp only
      rename Ok _ _ _ _ _ _ _ _ => S
      refine clear_cross_spec T (R'.le (by decide)) S X4 sh4 hkn hkm (by exact lek (k := 3) (by assumption) rfl) (by exact lek (k := 3) (by assumption) rfl) C4 ?_
      intro D5 s5 rs5 ru5 rv5 X5 hX5 S5
      clear S X4
      have sh5 := sh4.crossed hkn
      have hk5 := crossed_k n m x4
      have hl5 := crossed_lead sh4 hkn hkm
      replace hX := hX.trans hX5
      clear hX5 sh4
      have hnz := C4.nz
      rw [← hl5] at hnz
      clear C4 hl5
      generalize crossed n m x4 = x5 at *
      obtain ⟨x5, dn⟩ := x5
      dsimp only at *
      generalize x4.k = K at *
      subst hk5
      cases dn with
      | false =>
        obtain ⟨_, j', hj', hr'⟩ := hcm _ (hnot rfl)
        refine q_truth ?_
        refine Eq.mpr (if_pos (by show (Value.none == Value.none) = true; rfl)) ?_
        refine wpAny_execs_cons ?_
        refine wpAny_Continue ?_
        dsimp only
        rename Ok _ _ _ _ _ _ _ _ => S
        exact hQ2 _ _ ⟨j', _, _, hj', ⟨x5, _, _, _, _, hr', sh5, rfl, X5, hX⟩, S.vars (by walk_at "vr")⟩
      | true =>
        obtain ⟨_, j', hj', hr'⟩ := hcm _ (hdone rfl)
        have hms := X5.ms
        have shs := sh5.s
        clear hcm hdone hnot
        refine q_truth ?_
        refine Eq.mpr (if_neg (show (!true) = true → False from Bool.false_ne_true)) ?_
        refine wpAny_execs_nil ?_
        refine wpAny_execs_cons ?_
        refine wpAny_Assign_Name ?_ (by rfl)
        (rename Ok _ _ _ _ _ _ _ _ => zS); refine ev_call zS (by assumption) (by assumption) (by rfl) (by rfl) (by decide) (pa_val (pv_name (by assumption) (by rfl)) (pa_int (pi_name (by assumption) (by rfl) (by rfl)) (pa_int (pi_name (by assumption) (by rfl) (by rfl)) pa_nil (fun _ _ => rfl)) (fun _ _ => rfl)) (fun _ _ => rfl)) (fun _ _ => rfl) ?_; intro zt zs zN; clear zS
        dsimp only
        rename Ok _ _ _ _ _ _ _ _ => S
        refine undivided_spec T (R'.le (by decide)) S hms shs (by exact lek (k := 3) (by assumption) rfl) (by exact lek (k := 3) (by assumption) rfl) hkn hkm hnz ?_
        intro v D6 s6 hv hs6 S6
        clear S
        have X6 := X5.sub hs6
        replace hX := hX.trans hs6.ext
        clear X5 hs6 hms
        cases hu : undiv x5.S x5.k n m with
        | some r =>
          rw [hu] at hv
          obtain ⟨tr, rfl⟩ := hv
          have hrn : r < n := by obtain ⟨q1, q2, _⟩ := undivFind_in hu; lia
          rw [settle_row hu] at hr'
          have sh7 := sh5.settle (n := n) hkn
          rw [settle_row hu] at sh7
          (rename Ok _ _ _ _ _ _ _ _ => zS); refine st_cell zS (by assumption) (by rfl) (by rfl) (by first | exact Nat.le_succ _ | exact Nat.le_succ_of_le (Nat.le_succ _) | exact Nat.le_succ_of_le (Nat.le_succ_of_le (Nat.le_succ _)) | exact Nat.le_succ_of_le (Nat.le_succ_of_le (Nat.le_succ_of_le (Nat.le_succ _))) | exact Nat.le_succ_of_le (Nat.le_succ_of_le (Nat.le_succ_of_le (Nat.le_succ_of_le (Nat.le_succ _))))) ?_; intro zs zN; clear zS
          refine wpAny_execs_cons ?_
          refine wpAny_If ?_
          refine wpAny_isTrue_Compare1 ?_ (by rfl)
          (rename Ok _ _ _ _ _ _ _ _ => zS); refine nm_cell zS (by assumption) (.inl (by rfl)) (by rfl) (by rfl) ?_ (by decide) (by decide)
          refine c_none ?_
          refine isNot_none ?_
          refine q_truth ?_
          refine Eq.mpr (if_pos (by show (Value.none == Value.none) = true; rfl)) ?_
          refine wpAny_execs_cons ?_
          refine wpAny_For ?_ (fun _ => rfl)
          refine Tuple_ ?_
          refine args_cons ?_ (by rfl)
          (rename Ok _ _ _ _ _ _ _ _ => zS); refine nm_local zS (by assumption) (by rfl) (by rfl) ?_ (by decide)
          refine args_cons ?_ (by rfl)
          (rename Ok _ _ _ _ _ _ _ _ => zS); refine nm_local zS (by assumption) (by rfl) (by rfl) ?_ (by decide)
          refine args_nil ?_
          (rename Ok _ _ _ _ _ _ _ _ => zS); refine n_tup zS (Nat.le_of_ble_eq_true rfl) ?_; intro zl zs zh zE zN; clear zS
          rename Ok _ _ _ _ _ _ _ _ => S
          refine r_tup S R'.hh (by walk_at "dk") ?_
          intro it7 s7 S7 W7
          clear S
          refine loop_su (fun a M M' => (∃ m', Sh n m' M ∧ m' ≤ 3) ∧ M' = addRow M x5.k r) W7 S7 (by walk_at "dk") (bnd_cell I (by rfl) (by rfl) (by first | exact Nat.le_succ _ | exact Nat.le_succ_of_le (Nat.le_succ _) | exact Nat.le_succ_of_le (Nat.le_succ_of_le (Nat.le_succ _)))) (X6.sub (by walk_at "ds")) (fun _ q => .inr q) ⟨⟨m, shs, hm⟩, rfl⟩ ⟨⟨n, sh5.u, hn⟩, rfl⟩ ?_ ?_
          · clear S7 W7 shs X6 sh5 hX hQ2 hQ k sh7 hr' hnz hu
            intro O5 D5 s6 a ra M M' hO5 g16 hM hnd g17 S6
            refine cutQ fun Q' hQ => ?_
            obtain ⟨⟨m', shM, hm'⟩, rfl⟩ := g16
            obtain ⟨hca, hcr⟩ := g17
            have hrow := hM.rowAt (i := x5.k) (by rw [shM.1]; exact hkn)
            have hlr := shM.row hkn
            refine wpAny_execs_cons ?_
            refine x_sub ?_ (by rfl)
            refine e_comp (by assumption) (by rfl) (by rfl) (by decide) (fun _ => rfl) ?_
            refine Call_ ?_ (by rfl)
            (rename Ok _ _ _ _ _ _ _ _ => zS); refine nm_built zS (by assumption) (Wd.B (by assumption)) (by rfl) (Wd.nob (by assumption) (by rfl)) ((Wd.bb (by assumption) _ (by decide)).trans (by first | exact b_range | exact b_len | exact b_list | exact b_enum | exact b_abs | exact b_min | exact b_sum)) ?_ (by decide)
            refine PyProof.Rows.callWith_type1 ?_ (by rfl) (by rfl)
            refine args_cons ?_ (by rfl)
            (rename Ok _ _ _ _ _ _ _ _ => zS); refine PV.use zS (pv_row (pv_name (by assumption) (by rfl)) (by walk_at "mt") (by assumption) (pi_name (by assumption) (by rfl) (by rfl)) (by walk_at "ix") (by walk_at "bd") (by walk_at "bd") (fun _ _ => rfl)) ?_; intro zs zN; clear zS
            refine args_nil ?_
            (rename Ok _ _ _ _ _ _ _ _ => zS); refine r_enum_zs zS (by walk_at "dk") ?_; intro ze zs zN zW; clear zS
            refine ready_e_iter (by assumption) ?_
            dsimp only
            rename Ok _ _ _ _ _ _ _ _ => S
            rename ReadyE _ _ _ _ _ => W9
            refine tail_pure_enum (n := m') (val := valZ (row M x5.k)) S W9 R'.hh I (by rfl) rfl (by decide) (by rfl) (by rfl) (by rfl) (by exact lek (k := 3) (by assumption) rfl) ?_ (fun _ => true) (fun k => (row M x5.k).getD k 0 + el M r k) ?_ ?_
            · intro O' cenv D' s2 hsub S2
              rw [← hlr]
              exact need_zs S2 (by walk_at "dk")
            · rintro k v tk O' cenv D' s2 hk1 ⟨tv, rfl⟩ Ic hsub S2
              dsimp only at Ic
              clear S W9 hQ
              refine ⟨?_, fun _ => ?_⟩
              · refine ts_nil ?_
                dsimp only
                exact ⟨rfl, D', Sub.refl, S2⟩
              · (rename Ok _ _ _ _ _ _ _ _ => zS); refine PI.use zS (pi_add (pi_name (by assumption) (by rfl) (by rfl)) (pi_el (pv_name (by assumption) (by rfl)) (by walk_at "mt") (by assumption) (pi_name (by assumption) (by rfl) (by rfl)) (by walk_at "ix") (by walk_at "bd") (by walk_at "bd") (fun _ _ => rfl) (pi_name (by assumption) (by rfl) (by rfl)) (by walk_at "ix") (by walk_at "bd") (by walk_at "bd") (fun _ _ => rfl))) ?_; intro zt zs zN; clear zS
                dsimp only
                exact ⟨_, _, rfl, Sub.refl, by assumption⟩
            intro l8 cenv O6 s8 hl8 hlE8 K8 S8
            refine post_none K8 S8 fun s9 S9 => ?_
            rw [picked_tab, show tab m' (fun k => (row M x5.k).getD k 0 + el M r k) = rowAdd (row M x5.k) (row M r) from by rw [← hlr]; rfl] at S9
            clear S S8 W9
            (rename Ok _ _ _ _ _ _ _ _ => zS); refine nm_cell zS (by assumption) (.inl (by rfl)) (by rfl) (by rfl) ?_ (by decide) (by decide)
            (rename Ok _ _ _ _ _ _ _ _ => zS); refine nm_local zS (by assumption) (by rfl) (by rfl) ?_ (by decide)
            rename Ok _ _ _ _ _ _ _ _ => S
            refine p_rowT S hM (by walk_at "ds") shM hca rfl hkn (by exact lek (k := 3) (by assumption) rfl) (upd_same ..) hl8 hlE8 ?_
            intro D9 s10 T9 S10
            clear S
            refine wpAny_execs_nil ?_
            exact hQ _ _ ⟨_, _, T9.chg, S10.vars (by walk_at "vr")⟩
          · intro r1 r2 D7 s7 X7 hX7 S7
            refine wpAny_execs_cons ?_
            refine wpAny_Continue ?_
            dsimp only
            rename Ok _ _ _ _ _ _ _ _ => S
            exact hQ2 _ _ ⟨j', _, _, hj', ⟨_, _, _, _, _, hr', sh7, rfl, X7, hX.trans ((Sub.new (by assumption)).ext.trans hX7)⟩, S.vars (by walk_at "vr")⟩
        | none =>
          rw [hu] at hv
          subst hv
          have sh7 := sh5.settle (n := n) hkn
          have hms := X6.ms
          (rename Ok _ _ _ _ _ _ _ _ => zS); refine st_cell zS (by assumption) (by rfl) (by rfl) (by first | exact Nat.le_succ _ | exact Nat.le_succ_of_le (Nat.le_succ _) | exact Nat.le_succ_of_le (Nat.le_succ_of_le (Nat.le_succ _)) | exact Nat.le_succ_of_le (Nat.le_succ_of_le (Nat.le_succ_of_le (Nat.le_succ _))) | exact Nat.le_succ_of_le (Nat.le_succ_of_le (Nat.le_succ_of_le (Nat.le_succ_of_le (Nat.le_succ _))))) ?_; intro zs zN; clear zS
          refine wpAny_execs_cons ?_
          refine wpAny_If ?_
          refine wpAny_isTrue_Compare1 ?_ (by rfl)
          (rename Ok _ _ _ _ _ _ _ _ => zS); refine nm_cell zS (by assumption) (.inl (by rfl)) (by rfl) (by rfl) ?_ (by decide) (by decide)
          refine c_none ?_
          refine isNot_none ?_
          refine q_truth ?_
          refine Eq.mpr (if_neg (show (!true) = true → False from Bool.false_ne_true)) ?_
          refine wpAny_execs_nil ?_
          refine wpAny_execs_cons ?_
          refine wpAny_If ?_
          (rename Ok _ _ _ _ _ _ _ _ => zS); refine PB.use zS (pb_lt (pi_el (pv_name (by assumption) (by rfl)) (by walk_at "mt") (by assumption) (pi_name (by assumption) (by rfl) (by rfl)) (by walk_at "ix") (by walk_at "bd") (by walk_at "bd") (fun _ _ => rfl) (pi_name (by assumption) (by rfl) (by rfl)) (by walk_at "ix") (by walk_at "bd") (by walk_at "bd") (fun _ _ => rfl)) pi_const (by rfl)) ?_; intro zs zN; clear zS
          · split
            · rename_i hneg
              have hneg' : el x5.S x5.k x5.k < 0 := by simpa using hneg
              rw [settle_neg hu hneg'] at hr' sh7
              clear hneg hQ k hnz hu
              refine wpAny_execs_cons ?_
              refine wpAny_For ?_ (fun _ => rfl)
              refine Tuple_ ?_
              refine args_cons ?_ (by rfl)
              (rename Ok _ _ _ _ _ _ _ _ => zS); refine nm_local zS (by assumption) (by rfl) (by rfl) ?_ (by decide)
              refine args_cons ?_ (by rfl)
              (rename Ok _ _ _ _ _ _ _ _ => zS); refine nm_local zS (by assumption) (by rfl) (by rfl) ?_ (by decide)
              refine args_nil ?_
              (rename Ok _ _ _ _ _ _ _ _ => zS); refine n_tup zS (Nat.le_of_ble_eq_true rfl) ?_; intro zl zs zh zE zN; clear zS
              rename Ok _ _ _ _ _ _ _ _ => S
              refine r_tup S R'.hh (by walk_at "dk") ?_
              intro it7 s7 S7 W7
              clear S
              refine loop_su (fun a M M' => (∃ m', Sh n m' M ∧ m' ≤ 3) ∧ M' = negRow M x5.k) W7 S7 (by walk_at "dk") (bnd_cell I (by rfl) (by rfl) (by first | exact Nat.le_succ _ | exact Nat.le_succ_of_le (Nat.le_succ _) | exact Nat.le_succ_of_le (Nat.le_succ_of_le (Nat.le_succ _)))) (X6.sub (by walk_at "ds")) (fun _ q => .inr q) ⟨⟨m, shs, hm⟩, rfl⟩ ⟨⟨n, sh5.u, hn⟩, rfl⟩ ?_ ?_
              · clear S7 W7 shs X6 sh5 hX hms hQ2 sh7 hr'
                intro O5 D5 s6 a ra M M' hO5 g18 hM hnd g19 S6
                refine cutQ fun Q' hQ => ?_
                obtain ⟨⟨m', shM, hm'⟩, rfl⟩ := g18
                obtain ⟨hca, hcr⟩ := g19
                have hrow := hM.rowAt (i := x5.k) (by rw [shM.1]; exact hkn)
                have hlr := shM.row hkn
                refine wpAny_execs_cons ?_
                refine x_sub ?_ (by rfl)
                refine e_comp (by assumption) (by rfl) (by rfl) (by decide) (fun _ => rfl) ?_
                (rename Ok _ _ _ _ _ _ _ _ => zS); refine PV.use zS (pv_row (pv_name (by assumption) (by rfl)) (by walk_at "mt") (by assumption) (pi_name (by assumption) (by rfl) (by rfl)) (by walk_at "ix") (by walk_at "bd") (by walk_at "bd") (fun _ _ => rfl)) ?_; intro zs zN; clear zS
                dsimp only
                rename Ok _ _ _ _ _ _ _ _ => S
                refine r_zs S R'.hh hrow ?_
                intro it7 s7 S7 W7
                refine tail_pure S7 W7 I (by rfl) rfl (by decide) (by rfl) (by rfl) (by lia) (fun _ _ _ _ hs S' => S'.know _ _ (hs _ _ hrow)) (fun _ => true) (fun k => -(row M x5.k).getD k 0) ?_ ?_
                · rintro q v O6 cenv D6 s8 hq ⟨tj, rfl⟩ Ic hs6 S8
                  dsimp only at Ic
                  clear S S7 W7 hQ
                  refine ⟨?_, fun _ => ?_⟩
                  · refine ts_nil ?_
                    dsimp only
                    exact ⟨rfl, D6, Sub.refl, S8⟩
                  · (rename Ok _ _ _ _ _ _ _ _ => zS); refine PI.use zS (pi_neg (pi_name (by assumption) (by rfl) (by rfl))) ?_; intro zt zs zN; clear zS
                    dsimp only
                    exact ⟨_, _, rfl, Sub.refl, by assumption⟩
                intro l8 cenv O6 s8 hl8 hlE8 K8 S8
                refine post_none K8 S8 fun s9 S9 => ?_
                rw [picked_tab, show tab (row M x5.k).length (fun k => -(row M x5.k).getD k 0) = rowNeg (row M x5.k) from rfl] at S9
                clear S S8 W7 S7
                (rename Ok _ _ _ _ _ _ _ _ => zS); refine nm_cell zS (by assumption) (.inl (by rfl)) (by rfl) (by rfl) ?_ (by decide) (by decide)
                (rename Ok _ _ _ _ _ _ _ _ => zS); refine nm_local zS (by assumption) (by rfl) (by rfl) ?_ (by decide)
                rename Ok _ _ _ _ _ _ _ _ => S
                refine p_rowT S hM (by walk_at "ds") shM hca rfl hkn (by exact lek (k := 3) (by assumption) rfl) (upd_same ..) hl8 hlE8 ?_
                intro D9 s10 T9 S10
                clear S
                refine wpAny_execs_nil ?_
                exact hQ _ _ ⟨_, _, T9.chg, S10.vars (by walk_at "vr")⟩
              · intro r1 r2 D7 s7 X7 hX7 S7
                refine wpAny_execs_nil ?_
                (rename Ok _ _ _ _ _ _ _ _ => zS); refine sx_int zS (by assumption) (by rfl) (pi_add (pi_name (by assumption) (by rfl) (by rfl)) pi_const) (by rfl) ?_; intro zt zs zN; clear zS
                refine wpAny_execs_nil ?_
                rename Ok _ _ _ _ _ _ _ _ => S
                exact hQ2 _ _ ⟨j', _, _, hj', ⟨_, _, _, _, _, hr', sh7, rfl, X7, hX.trans ((Sub.new (by assumption)).ext.trans hX7)⟩, S.vars (by walk_at "vr")⟩
            · rename_i hneg
              have hneg' : ¬ el x5.S x5.k x5.k < 0 := by simpa using hneg
              rw [settle_pos hu hneg'] at hr' sh7
              clear hneg hQ k hnz hu
              refine wpAny_execs_nil ?_
              (rename Ok _ _ _ _ _ _ _ _ => zS); refine sx_int zS (by assumption) (by rfl) (pi_add (pi_name (by assumption) (by rfl) (by rfl)) pi_const) (by rfl) ?_; intro zt zs zN; clear zS
              refine wpAny_execs_nil ?_
              rename Ok _ _ _ _ _ _ _ _ => S
              exact hQ2 _ _ ⟨j', _, _, hj', ⟨_, _, _, _, _, hr', sh7, rfl, X6, hX⟩, S.vars (by walk_at "vr")⟩
  · rw [show decide ((x.k : Int) < (if (m : Int) < n then (m : Int) else n)) = false from by rw [decide_eq_false_iff_not]; split <;> lia]
    have hz := hr.stopped (smithStep_end hlt)
    subst hz
    refine hQ2 _ _ ?_
    rw [if_neg Bool.false_ne_true]
    refine wpAny_execs_cons ?_
    refine wpAny_Return_some ?_
    refine Tuple_ ?_
    refine args_cons ?_ (by rfl)
    (rename Ok _ _ _ _ _ _ _ _ => zS); refine nm_local zS (by assumption) (by rfl) (by rfl) ?_ (by decide)
    refine args_cons ?_ (by rfl)
    (rename Ok _ _ _ _ _ _ _ _ => zS); refine nm_local zS (by assumption) (by rfl) (by rfl) ?_ (by decide)
    refine args_cons ?_ (by rfl)
    (rename Ok _ _ _ _ _ _ _ _ => zS); refine nm_local zS (by assumption) (by rfl) (by rfl) ?_ (by decide)
    refine args_nil ?_
    (rename Ok _ _ _ _ _ _ _ _ => zS); refine n_tup zS (Nat.le_of_ble_eq_true rfl) ?_; intro zl zs zh zE zN; clear zS
    dsimp only
    rename Ok _ _ _ _ _ _ _ _ => S
    refine hQ _ _ ⟨_, _, S, fun s8 S8 => k _ ls lu lv rs ru rv _ _ (noneSub (by assumption) (hSub _ hX)) (by walk_at "dk") ((hSub _ hX).trans (by walk_at "ds")) ((X.sub (by walk_at "ds")).mono fun b q => (back b q).1) ?_ S8⟩
    rintro b (rfl | rfl | rfl | hb | hb | hb)
    · exact (back _ X.os.1).2
    · exact (back _ X.ou.1).2
    · exact (back _ X.ov.1).2
    · exact (back _ (X.os.2 _ hb)).2
    · exact (back _ (X.ou.2 _ hb)).2
    · exact (back _ (X.ov.2 _ hb)).2
end

section
variable {w : World} {A : Around} {E : Value → Shared → Prop}
variable {Hs : Heap} {se s : Shared} {mods : Addr → Prop} {env : Env} {O : Addr → Option Obj} {σ : Vars} {D : Know} {mg mb : Str → Option Value}
theorem diagonal_spec (T : Wd w Hs mg mb) (Rr : Rm A 3) (S : Ok Hs se mods env O σ D s) {a : Addr} {ra : List Addr} {G : Mat} {n m : Nat} {tw : Tok} {Q : Value → Shared → Prop}
    (hM : MatD D a ra G) (sh : Sh n m G) (hn : n ≤ 10) (hm : m ≤ 10)
    (k : ∀ l D' s', D l = none → D' l = some (.zs (tab (min n m) fun i => el G i i)) → Sub D D' → Ok Hs se mods env O σ D' s' → Q (.ref l) s') :
    wpAny (model Pg w) A (call (.ref (fad mg "diagonal")) [.ref a, .int m tw]) Q E s := by
  refine enterW "diagonal" ["s", "width"] T Rr S rfl (fun _ _ _ => rfl) (fun _ _ _ => rfl) (by decide) (fun _ => False) (fun _ h => h.elim) (fun _ h => h.elim) ?_
  clear S Rr
  intro env' s' I hN S' R' V
  dsimp only at I hN
  refine cutQ fun Q' hQ => ?_
  refine wpAny_execs_cons ?_
  refine wpAny_Return_some ?_
  refine e_comp (by assumption) (by rfl) (by rfl) (by decide) (fun _ => rfl) ?_
  (rename Ok _ _ _ _ _ _ _ _ => zS); refine ev_range1 zS (by assumption) (by assumption) (by rfl) (pi_min (by assumption) (by assumption) (Rm.hh (by assumption)) (by rfl) (pi_len (by assumption) (by assumption) (by rfl) (pv_name (by assumption) (by rfl)) (by walk_at "mt") (by assumption) (by walk_at "bd") (fun _ _ => rfl)) (pi_name (by assumption) (by rfl) (by rfl)) (fun _ _ => rfl) (fun _ _ => rfl)) (fun _ _ => rfl) ?_; intro zr zs zN zq; clear zS
  dsimp only
  rename Ok _ _ _ _ _ _ _ _ => S
  refine r_range S R'.hh (by assumption) (by decide) (by decide) (by split <;> exact nle _) (by split <;> exact ncl (k := 10) (by assumption) rfl) (n := min n m) (by split <;> lia) ?_
  intro it s1 S1 W1
  clear S
  refine tail_pure S1 W1 I (by rfl) rfl (by decide) (by rfl) (by rfl) (by lia) (fun _ _ _ _ _ _ => trivial) (fun _ => true) (fun i => el G i i) ?_ ?_
  · rintro j v O6 cenv D6 s8 hj ⟨tj, rfl⟩ Ic hs6 S8
    dsimp only at Ic
    clear S1 W1 hQ k
    rw [Int.zero_add] at S8 ⊢
    refine ⟨?_, fun _ => ?_⟩
    · refine ts_nil ?_
      dsimp only
      exact ⟨rfl, D6, Sub.refl, by assumption⟩
    · (rename Ok _ _ _ _ _ _ _ _ => zS); refine PI.use zS (pi_el (pv_name (by assumption) (by rfl)) (by walk_at "mt") (by assumption) (pi_name (by assumption) (by rfl) (by rfl)) (by walk_at "ix") (by walk_at "bd") (by walk_at "bd") (fun _ _ => rfl) (pi_name (by assumption) (by rfl) (by rfl)) (by walk_at "ix") (by walk_at "bd") (by walk_at "bd") (fun _ _ => rfl)) ?_; intro zt zs zN; clear zS
      dsimp only
      exact ⟨_, _, rfl, Sub.refl, by assumption⟩
  · intro l8 cenv O6 s8 hl8 hlE8 K8 S8
    refine post_none K8 S8 fun s9 S9 => ?_
    rw [picked_tab] at S9
    clear S1 W1 S8
    rename Ok _ _ _ _ _ _ _ _ => S
    exact hQ _ _ ⟨_, _, S, fun s10 S10 => k _ _ _ hl8 (upd_same ..) (Sub.new hl8) S10⟩
end

section
variable {w : World} {A : Around} {E : Value → Shared → Prop}
variable {Hs : Heap} {se s : Shared} {mods : Addr → Prop} {env : Env} {O : Addr → Option Obj} {σ : Vars} {D : Know} {mg mb : Str → Option Value}
theorem law_take_spec (T : Wd w Hs mg mb) (Rr : Rm A 3) (S : Ok Hs se mods env O σ D s) {b l : Addr} {wide : Nat} {tw : Tok} {Q : Value → Shared → Prop}
    (hB : BoxD D b l) (hcb : Can se mods b) (hcl : Can se mods l) (hw : 0 < wide)
    (k : ∀ (v : Nat) t D' s', v < wide → BoxD D' b l → Ext (fun a => a = b ∨ a = l) D D' → Ok Hs se mods env O σ D' s' → Q (.int v t) s') :
    wpAny (model Pg w) A (call (.ref (fad mg "_law_take")) [.ref b, .int wide tw]) Q E s := by
  obtain ⟨x, t, xs, h1, h2, h3⟩ := hB
  refine enterW "_law_take" ["box", "wide"] T Rr S rfl (fun _ _ _ => rfl) (fun _ _ _ => rfl) (by decide) (fun a => a = b ∨ a = l) (fun a hb => hb.elim (fun q => ⟨_, q ▸ h1⟩) fun q => ⟨_, q ▸ h2⟩) (fun a hb => hb.elim (fun q => q ▸ hcb) fun q => q ▸ hcl) ?_
  clear S Rr
  intro env' s' I hN S' R' V
  dsimp only at I hN
  have cb : Can s (fun a => a = b ∨ a = l) b := .inl (.inl rfl)
  have cl : Can s (fun a => a = b ∨ a = l) l := .inl (.inr rfl)
  have hw0 : (wide : Int) ≠ 0 := by lia
  have fin : ∀ (y : Int), ∃ v : Nat, v < wide ∧ y.fmod wide = v := fun y => by
    have q1 := Int.fmod_nonneg_of_pos y (b := wide) (by lia)
    have q2 := Int.fmod_lt_of_pos y (b := wide) (by lia)
    exact ⟨(y.fmod wide).toNat, by lia, by lia⟩
  refine cutQ fun Q' hQ => ?_
  refine wpAny_execs_cons ?_
  refine wpAny_If ?_
  refine wpAny_isTrue_Compare1 ?_ (by rfl)
  refine Call_ ?_ (by rfl)
  (rename Ok _ _ _ _ _ _ _ _ => zS); refine nm_built zS (by assumption) (Wd.B (by assumption)) (by rfl) (Wd.nob (by assumption) (by rfl)) ((Wd.bb (by assumption) _ (by decide)).trans (by first | exact b_range | exact b_len | exact b_list | exact b_enum | exact b_abs | exact b_min | exact b_sum)) ?_ (by decide)
  refine PyProof.Rows.callWith_builtin1 ?_ (by rfl) (by rfl)
  refine args_cons ?_ (by rfl)
  refine e_sub ?_
  (rename Ok _ _ _ _ _ _ _ _ => zS); refine nm_local zS (by assumption) (by rfl) (by rfl) ?_ (by decide)
  (rename Ok _ _ _ _ _ _ _ _ => zS); refine c_int zS ?_; intro zt zs zN; clear zS
  (rename Ok _ _ _ _ _ _ _ _ => zS); refine t_vals zS (by walk_at "dk") (by decide) (by rfl) (by decide) (fun _ _ => rfl) ?_
  refine args_nil ?_
  rename Ok _ _ _ _ _ _ _ _ => S
  refine f_len_plain S h2 (by lia) ?_
  intro t9 s9 S9
  clear S
  cases xs with
  | nil =>
    have hmul : IntMulOk x 48271 := mulOk_small' (by decide)
    (rename Ok _ _ _ _ _ _ _ _ => zS); refine c_int zS ?_; intro zt zs zN; clear zS
    refine q_gt ?_
    refine q_truth ?_
    refine Eq.mpr (if_neg (show (!true) = true → False from Bool.false_ne_true)) ?_
    refine wpAny_execs_nil ?_
    refine wpAny_execs_cons ?_
    refine x_sub ?_ (by rfl)
    refine wpAny_BinOp ?_
    refine wpAny_BinOp ?_
    refine wpAny_BinOp ?_
    refine e_sub ?_
    (rename Ok _ _ _ _ _ _ _ _ => zS); refine nm_local zS (by assumption) (by rfl) (by rfl) ?_ (by decide)
    (rename Ok _ _ _ _ _ _ _ _ => zS); refine c_int zS ?_; intro zt zs zN; clear zS
    (rename Ok _ _ _ _ _ _ _ _ => zS); refine t_vals zS (by walk_at "dk") (by decide) (by rfl) (by decide) (fun _ _ => rfl) ?_
    (rename Ok _ _ _ _ _ _ _ _ => zS); refine c_int zS ?_; intro zt zs zN; clear zS
    (rename Ok _ _ _ _ _ _ _ _ => zS); refine o_mul zS (by first | assumption | (walk_at "mul")) ?_; intro zt zs zN; clear zS
    (rename Ok _ _ _ _ _ _ _ _ => zS); refine c_int zS ?_; intro zt zs zN; clear zS
    (rename Ok _ _ _ _ _ _ _ _ => zS); refine o_add zS ?_; intro zt zs zN; clear zS
    (rename Ok _ _ _ _ _ _ _ _ => zS); refine c_int zS ?_; intro zt zs zN; clear zS
    (rename Ok _ _ _ _ _ _ _ _ => zS); refine o_mod zS (by first | assumption | decide | (walk_at "div")) ?_; intro zt zs zN; clear zS
    (rename Ok _ _ _ _ _ _ _ _ => zS); refine nm_local zS (by assumption) (by rfl) (by rfl) ?_ (by decide)
    (rename Ok _ _ _ _ _ _ _ _ => zS); refine c_int zS ?_; intro zt zs zN; clear zS
    dsimp only
    rename Ok _ _ _ _ _ _ _ _ => S
    refine p_vals S h1 cb (by decide) (Int.le_refl 2) (by decide) ?_
    intro s3 S3
    clear S
    refine wpAny_execs_cons ?_
    refine wpAny_Return_some ?_
    refine wpAny_BinOp ?_
    refine wpAny_BinOp ?_
    refine e_sub ?_
    (rename Ok _ _ _ _ _ _ _ _ => zS); refine nm_local zS (by assumption) (by rfl) (by rfl) ?_ (by decide)
    (rename Ok _ _ _ _ _ _ _ _ => zS); refine c_int zS ?_; intro zt zs zN; clear zS
    (rename Ok _ _ _ _ _ _ _ _ => zS); refine t_vals zS (by walk_at "dk") (by decide) (by rfl) (by decide) (fun _ _ => rfl) ?_
    (rename Ok _ _ _ _ _ _ _ _ => zS); refine c_int zS ?_; intro zt zs zN; clear zS
    (rename Ok _ _ _ _ _ _ _ _ => zS); refine o_div zS (by assumption) (by first | assumption | decide | (walk_at "div")) ?_; intro zt zs zN; clear zS
    (rename Ok _ _ _ _ _ _ _ _ => zS); refine nm_local zS (by assumption) (by rfl) (by rfl) ?_ (by decide)
    (rename Ok _ _ _ _ _ _ _ _ => zS); refine o_mod zS (by first | assumption | decide | (walk_at "div")) ?_; intro zt zs zN; clear zS
    dsimp only
    rename Ok _ _ _ _ _ _ _ _ => S
    obtain ⟨v, hv, e⟩ := fin (((x * 48271 + 11).fmod 2147483647).fdiv 97)
    refine hQ _ _ ⟨_, _, S, fun s8 S8 => ?_⟩
    rw [e]
    exact k v _ _ _ hv ⟨_, _, [], upd_same .., by rw [upd_ne (by rintro rfl; rw [h1] at h2; cases h2)]; exact h2, by simp⟩ (Ext.at (.inl rfl)) S8
  | cons y ys =>
    (rename Ok _ _ _ _ _ _ _ _ => zS); refine c_int zS ?_; intro zt zs zN; clear zS
    refine q_gt ?_
    refine q_truth ?_
    rw [show decide ((0 : Int) < (((y :: ys) : List Int).length : Int)) = true from by simp]
    refine Eq.mpr (if_pos (by with_reducible rfl)) ?_
    refine wpAny_execs_cons ?_
    refine wpAny_Return_some ?_
    refine wpAny_BinOp ?_
    dsimp only
    refine wpAny_Call_method (T := "list") (id := "list.pop") rfl (by rfl) rfl F.plainAttrs_list F.slot_list_pop rfl ?_
    refine e_sub ?_
    (rename Ok _ _ _ _ _ _ _ _ => zS); refine nm_local zS (by assumption) (by rfl) (by rfl) ?_ (by decide)
    (rename Ok _ _ _ _ _ _ _ _ => zS); refine c_int zS ?_; intro zt zs zN; clear zS
    (rename Ok _ _ _ _ _ _ _ _ => zS); refine t_vals zS (by walk_at "dk") (by decide) (by rfl) (by decide) (fun _ _ => rfl) ?_
    rename Ok _ _ _ _ _ _ _ _ => S
    refine ⟨(plain_type S h2).1, (plain_type S h2).2, ?_⟩
    refine callWith_method1 ?_ (by rfl) (by rfl)
    refine args_cons ?_ (by rfl)
    (rename Ok _ _ _ _ _ _ _ _ => zS); refine c_int zS ?_; intro zt zs zN; clear zS
    refine args_nil ?_
    rename Ok _ _ _ _ _ _ _ _ => S
    refine f_pop0 S h2 cl (by simp at h3; lia) ?_
    intro t3 s3 S3
    clear S
    (rename Ok _ _ _ _ _ _ _ _ => zS); refine nm_local zS (by assumption) (by rfl) (by rfl) ?_ (by decide)
    (rename Ok _ _ _ _ _ _ _ _ => zS); refine o_mod zS (by first | assumption | decide | (walk_at "div")) ?_; intro zt zs zN; clear zS
    rename Ok _ _ _ _ _ _ _ _ => S
    obtain ⟨v, hv, e⟩ := fin y
    refine hQ _ _ ⟨_, _, S, fun s8 S8 => ?_⟩
    rw [e]
    exact k v _ _ _ hv ⟨_, _, ys, by rw [upd_ne (by rintro rfl; rw [h1] at h2; cases h2)]; exact h1, upd_same .., by simp at h3; lia⟩ (Ext.at (.inr rfl)) S8
end

section
variable {w : World} {A : Around} {E : Value → Shared → Prop}
variable {Hs : Heap} {se s : Shared} {mods : Addr → Prop} {env : Env} {O : Addr → Option Obj} {σ : Vars} {D : Know} {mg mb : Str → Option Value}
theorem law_box_spec (T : Wd w Hs mg mb) (Rr : Rm A 3) (S : Ok Hs se mods env O σ D s) {a : Addr} {xs : List Int} {Q : Value → Shared → Prop}
    (hD : D a = some (.zs xs)) (hz : xs.length ≤ 1000)
    (k : ∀ b l D' s', D b = none → D l = none → Can se mods b → Can se mods l → BoxD D' b l → Sub D D' → Ok Hs se mods env O σ D' s' → Q (.ref b) s') :
    wpAny (model Pg w) A (call (.ref (fad mg "_law_box")) [.ref a]) Q E s := by
  refine enterW "_law_box" ["script"] T Rr S rfl (fun _ _ _ => rfl) (fun _ _ _ => rfl) (by decide) (fun _ => False) (fun _ h => h.elim) (fun _ h => h.elim) ?_
  have back : ∀ b, s.heap.get? b = none → Can se mods b ∧ D b = none := fun b q => ⟨S.canOf q, S.noneOf q⟩
  clear S Rr
  intro env' s' I hN S' R' V
  dsimp only at I hN
  refine cutQ fun Q' hQ => ?_
  (rename Ok _ _ _ _ _ _ _ _ => zS); refine sx_int zS (by assumption) (by rfl) pi_const (by rfl) ?_; intro zt zs zN; clear zS
  refine wpAny_execs_cons ?_
  refine wpAny_For ?_ (fun _ => rfl)
  (rename Ok _ _ _ _ _ _ _ _ => zS); refine e_to zS ?_ (fun _ _ => rfl)
  (rename Ok _ _ _ _ _ _ _ _ => zS); refine nm_local zS (by assumption) (by rfl) (by rfl) ?_ (by decide)
  (rename Ok _ _ _ _ _ _ _ _ => zS); refine c_int zS ?_; intro zt zs zN; clear zS
  rename Ok _ _ _ _ _ _ _ _ => S
  refine .mk a (.zs xs) 24 _ _ _ S (by walk_at "dk") (show xs.length ≤ 1000000 by exact lek (k := 1000) (by assumption) rfl) fun l1 s1 hl1 hE1 S1 => ?_
  clear S
  rename Ok _ _ _ _ _ _ _ _ => S
  refine r_zs S R'.hh (upd_same ..) ?_
  intro it s2 S2 W2
  clear S
  have hs1 := Sub.new (c := Cell.pick none (some 24) (.zs xs)) hl1
  refine cutR fun R2 hR => ?_
  refine loop_over W2 (S2.vars (σ' := ([("stirred", .int 83 _), ("script", .ref a)] : Vars)) (by walk_at "vr")) (bnd_local I (by rfl)) (fun i σ' D' => (∃ x t, σ' = ([("stirred", .int x t), ("script", .ref a)] : Vars)) ∧ Sub D D' ∧ D' l1 = some (.zs (xs.take 24))) ⟨⟨_, _, rfl⟩, hs1, upd_same ..⟩ (fun _ _ _ _ h S' => S'.know _ _ h.2.2) ?_ ?_
  · clear S2 W2 hR hQ k
    intro i v O' σ' D2 s2 hi g20 hO' g21 S2
    refine cutQ fun Q' hQ => ?_
    obtain ⟨ti, rfl⟩ := g20
    obtain ⟨⟨x, t, rfl⟩, hs2, hl2⟩ := g21
    have hmul : IntMulOk x 31 := mulOk_small' (by decide)
    (rename Ok _ _ _ _ _ _ _ _ => zS); refine sx_int zS (by assumption) (by rfl) (pi_mod (pi_add (pi_mul (pi_name (by assumption) (by rfl) (by rfl)) pi_const (by first | assumption | (walk_at "mul"))) (pi_name (by assumption) (by rfl) (by rfl))) pi_const (by first | assumption | decide | (walk_at "div"))) (by rfl) ?_; intro zt zs zN; clear zS
    refine wpAny_execs_nil ?_
    rename Ok _ _ _ _ _ _ _ _ => S
    exact hQ _ _ ⟨_, _, ⟨⟨_, _, rfl⟩, hs2, hl2⟩, S.vars (by walk_at "vr")⟩
  · clear S2 W2
    rintro σ' D2 s2 ⟨⟨x, t, rfl⟩, hs2, _⟩ S2
    refine hR _ _ ?_
    refine wpAny_execs_cons ?_
    refine wpAny_Return_some ?_
    refine List_ ?_
    refine args_cons ?_ (by rfl)
    refine Call_ ?_ (by rfl)
    (rename Ok _ _ _ _ _ _ _ _ => zS); refine nm_built zS (by assumption) (Wd.B (by assumption)) (by rfl) (Wd.nob (by assumption) (by rfl)) ((Wd.bb (by assumption) _ (by decide)).trans (by first | exact b_range | exact b_len | exact b_list | exact b_enum | exact b_abs | exact b_min | exact b_sum)) ?_ (by decide)
    refine PyProof.Rows.callWith_type1 ?_ (by rfl) (by rfl)
    refine args_cons ?_ (by rfl)
    (rename Ok _ _ _ _ _ _ _ _ => zS); refine e_to zS ?_ (fun _ _ => rfl)
    (rename Ok _ _ _ _ _ _ _ _ => zS); refine nm_local zS (by assumption) (by rfl) (by rfl) ?_ (by decide)
    (rename Ok _ _ _ _ _ _ _ _ => zS); refine c_int zS ?_; intro zt zs zN; clear zS
    dsimp only
    rename Ok _ _ _ _ _ _ _ _ => S
    refine .mk a (.zs xs) 24 _ _ _ S (hs2 _ _ hD) (show xs.length ≤ 1000000 by exact lek (k := 1000) (by assumption) rfl) fun l3 s3 hl3 hE3 S3 => ?_
    clear S
    refine args_nil ?_
    rename Ok _ _ _ _ _ _ _ _ => S
    have ht : (xs.take 24).length ≤ 24 := by rw [List.length_take]; exact Nat.min_le_left _ _
    refine f_list_zs S (upd_same ..) (show (xs.take 24).length ≤ 1000000 by lia) fun l4 s4 hl4 hE4 S4 => ?_
    clear S
    refine args_cons ?_ (by rfl)
    (rename Ok _ _ _ _ _ _ _ _ => zS); refine nm_local zS (by assumption) (by rfl) (by rfl) ?_ (by decide)
    refine args_nil ?_
    rename Ok _ _ _ _ _ _ _ _ => S
    refine n_vals S (Nat.le_of_ble_eq_true rfl) fun l5 s5 hl5 hE5 S5 => ?_
    refine hQ _ _ ⟨_, _, S5, fun s6 S6 => k l5 l4 _ _ (back _ hE5).2 (back _ hE4).2 (back _ hE5).1 (back _ hE4).1 ⟨x, t, _, upd_same .., by walk_at "dk", ht⟩ ?_ S6⟩
    exact ((hs2.trans (Sub.new hl3)).trans (Sub.new hl4)).trans (Sub.new hl5)
end

section
variable {w : World} {A : Around} {E : Value → Shared → Prop}
variable {Hs : Heap} {se s : Shared} {mods : Addr → Prop} {env : Env} {O : Addr → Option Obj} {σ : Vars} {D : Know} {mg mb : Str → Option Value}
theorem law_whole_spec (T : Wd w Hs mg mb) (Rr : Rm A 5) (S : Ok Hs se mods env O σ D s) {b l : Addr} {Q : Value → Shared → Prop}
    (hB : BoxD D b l) (hcb : Can se mods b) (hcl : Can se mods l)
    (k : ∀ (v : Int) t D' s', v.natAbs < 2 ^ 3 → BoxD D' b l → Ext (fun a => a = b ∨ a = l) D D' → Ok Hs se mods env O σ D' s' → Q (.int v t) s') :
    wpAny (model Pg w) A (call (.ref (fad mg "_law_whole")) [.ref b]) Q E s := by
  have h1 : ∃ c, D b = some c := by obtain ⟨x, t, xs, h1, h2, h3⟩ := hB; exact ⟨_, h1⟩
  have h2 : ∃ c, D l = some c := by obtain ⟨x, t, xs, h1, h2, h3⟩ := hB; exact ⟨_, h2⟩
  refine enterW "_law_whole" ["box"] T Rr S rfl (fun _ _ _ => rfl) (fun _ _ _ => rfl) (by decide) (fun a => a = b ∨ a = l) (fun a hb => hb.elim (fun q => q ▸ h1) fun q => q ▸ h2) (fun a hb => hb.elim (fun q => q ▸ hcb) fun q => q ▸ hcl) ?_
  clear S Rr
  intro env' s' I hN S' R' V
  dsimp only at I hN
  have cb : Can s (fun a => a = b ∨ a = l) b := .inl (.inl rfl)
  have cl : Can s (fun a => a = b ∨ a = l) l := .inl (.inr rfl)
  refine cutQ fun Q' hQ => ?_
  refine wpAny_execs_cons ?_
  refine wpAny_Return_some ?_
  refine e_sub ?_
  refine List_ ?_
  refine args_cons ?_ (by rfl)
  (rename Ok _ _ _ _ _ _ _ _ => zS); refine c_int zS ?_; intro zt zs zN; clear zS
  refine args_cons ?_ (by rfl)
  (rename Ok _ _ _ _ _ _ _ _ => zS); refine c_int zS ?_; intro zt zs zN; clear zS
  refine args_cons ?_ (by rfl)
  (rename Ok _ _ _ _ _ _ _ _ => zS); refine PI.use zS (pi_neg pi_const) ?_; intro zt zs zN; clear zS
  refine args_cons ?_ (by rfl)
  (rename Ok _ _ _ _ _ _ _ _ => zS); refine c_int zS ?_; intro zt zs zN; clear zS
  refine args_cons ?_ (by rfl)
  (rename Ok _ _ _ _ _ _ _ _ => zS); refine PI.use zS (pi_neg pi_const) ?_; intro zt zs zN; clear zS
  refine args_cons ?_ (by rfl)
  (rename Ok _ _ _ _ _ _ _ _ => zS); refine c_int zS ?_; intro zt zs zN; clear zS
  refine args_cons ?_ (by rfl)
  (rename Ok _ _ _ _ _ _ _ _ => zS); refine PI.use zS (pi_neg pi_const) ?_; intro zt zs zN; clear zS
  refine args_cons ?_ (by rfl)
  (rename Ok _ _ _ _ _ _ _ _ => zS); refine c_int zS ?_; intro zt zs zN; clear zS
  refine args_cons ?_ (by rfl)
  (rename Ok _ _ _ _ _ _ _ _ => zS); refine c_int zS ?_; intro zt zs zN; clear zS
  refine args_cons ?_ (by rfl)
  (rename Ok _ _ _ _ _ _ _ _ => zS); refine c_int zS ?_; intro zt zs zN; clear zS
  refine args_cons ?_ (by rfl)
  (rename Ok _ _ _ _ _ _ _ _ => zS); refine c_int zS ?_; intro zt zs zN; clear zS
  refine args_cons ?_ (by rfl)
  (rename Ok _ _ _ _ _ _ _ _ => zS); refine PI.use zS (pi_neg pi_const) ?_; intro zt zs zN; clear zS
  refine args_nil ?_
  dsimp only
  rename Ok _ _ _ _ _ _ _ _ => S
  refine n_zs S (xs := [0, 1, -1, 2, -2, 3, -3, 4, 0, 1, 6, -5]) (by repeat constructor) (Nat.le_of_ble_eq_true rfl) fun l1 s1 hl1 hE1 S1 => ?_
  clear S
  have hB1 : BoxD (upd D l1 (.zs [0, 1, -1, 2, -2, 3, -3, 4, 0, 1, 6, -5])) b l := hB.sub (Sub.new hl1)
  (rename Ok _ _ _ _ _ _ _ _ => zS); refine ev_call zS (by assumption) (by assumption) (by rfl) (by rfl) (by decide) (pa_val (pv_name (by assumption) (by rfl)) (pa_int pi_const pa_nil (fun _ _ => rfl)) (fun _ _ => rfl)) (fun _ _ => rfl) ?_; intro zt zs zN; clear zS
  rename Ok _ _ _ _ _ _ _ _ => S
  refine law_take_spec T (R'.le (by exact Nat.le_of_ble_eq_true rfl)) S (wide := 12) hB1 cb cl (by decide) fun v t2 D2 s2 hv hB2 hX2 S2 => ?_
  clear S
  have hne : l1 ≠ b ∧ l1 ≠ l := by
    obtain ⟨x, t, xs, h1, h2, h3⟩ := hB
    exact ⟨fun e => (by rw [e, h1] at hl1; cases hl1), fun e => (by rw [e, h2] at hl1; cases hl1)⟩
  have hl2 := hX2 _ _ (upd_same ..) (fun q => q.elim hne.1 hne.2)
  refine t_el S2 hl2 rfl hv (by decide) (fun _ _ => rfl) fun t3 => ?_
  refine hQ _ _ ⟨_, _, S2, fun s8 S8 => k _ _ _ _ ?_ hB2 ((Sub.new hl1).ext.trans hX2) S8⟩
  exact (by decide : ∀ v : Nat, v < 12 → (([0, 1, -1, 2, -2, 3, -3, 4, 0, 1, 6, -5] : List Int).getD v 0).natAbs < 2 ^ 3) v hv
end

section
variable {w : World} {A : Around} {E : Value → Shared → Prop}
variable {Hs : Heap} {se s : Shared} {mods : Addr → Prop} {env : Env} {O : Addr → Option Obj} {σ : Vars} {D : Know} {mg mb : Str → Option Value}
theorem law_grid_spec (T : Wd w Hs mg mb) (Rr : Rm A 8) (S : Ok Hs se mods env O σ D s) {b l0 : Addr} {n m : Nat} {tn tm : Tok} {Q : Value → Shared → Prop}
    (hB : BoxD D b l0) (hcb : Can se mods b) (hcl : Can se mods l0) (hn0 : 0 < n) (hn : n ≤ 3) (hm : m ≤ 3)
    (k : ∀ a rs G D' s', MatD D' a rs G → Sh n m G → GridOk n m G → rs.Nodup → Ok Hs se mods env O σ D' s' → Ext (fun a => a = b ∨ a = l0) D D' → Q (.ref a) s') :
    wpAny (model Pg w) A (call (.ref (fad mg "_law_grid")) [.ref b, .int n tn, .int m tm]) Q E s := by
  have h1 : ∃ c, D b = some c := by obtain ⟨x, t, xs, h1, h2, h3⟩ := hB; exact ⟨_, h1⟩
  have h2 : ∃ c, D l0 = some c := by obtain ⟨x, t, xs, h1, h2, h3⟩ := hB; exact ⟨_, h2⟩
  refine enterW "_law_grid" ["box", "high", "wide"] T Rr S rfl (fun _ _ _ => rfl) (fun _ _ _ => rfl) (by decide) (fun a => a = b ∨ a = l0) (fun a hb => hb.elim (fun q => q ▸ h1) fun q => q ▸ h2) (fun a hb => hb.elim (fun q => q ▸ hcb) fun q => q ▸ hcl) ?_
  clear S Rr
  intro env' s' I hN S' R' V
  dsimp only at I hN
  have cb : Can s (fun a => a = b ∨ a = l0) b := .inl (.inl rfl)
  have cl : Can s (fun a => a = b ∨ a = l0) l0 := .inl (.inr rfl)
  refine cutQ fun Q' hQ => ?_
  refine wpAny_execs_cons ?_
  refine x_comp I (by rfl) (by rfl) (by decide) (fun _ => rfl) ((swaps_eq I hN _ _ _ _).trans rfl) ?_
  (rename Ok _ _ _ _ _ _ _ _ => zS); refine ev_range1 zS (by assumption) (by assumption) (by rfl) (pi_name (by assumption) (by rfl) (by rfl)) (fun _ _ => rfl) ?_; intro zr zs zN zq; clear zS
  dsimp only
  rename Ok _ _ _ _ _ _ _ _ => S
  refine r_range S R'.hh (by assumption) (by decide) (by decide) (by exact nle _) (by exact ncl (k := 3) (by assumption) rfl) (n := n) (by exact tns0 _) ?_
  intro it s1 S1 W1
  clear S
  refine tail_gen S1 W1 I (by rfl) rfl (by decide) (by rfl) (.inl (by rfl))
    (fun l i ws D' => (b ≠ l ∧ l0 ≠ l ∧ D l = none) ∧ BoxD D' b l0 ∧ Ext (fun a => a = b ∨ a = l0) D D' ∧ ∃ rs : List Addr, rs.length = i ∧ ws = rs.map Value.ref ∧ rs.Nodup ∧ i ≤ n ∧ ∀ r ∈ rs, r ≠ l ∧ ∃ x, D' r = some (.zs x) ∧ x.length = m ∧ ∀ y ∈ x, y.natAbs < 2 ^ 3)
    ?_ ?_ ?_ (fun _ _ _ _ _ _ _ _ _ => trivial) ?_ ?_
  · intro l hl hE
    exact ⟨⟨(hB.neNew hl).1, (hB.neNew hl).2, hl⟩, hB.sub (Sub.new hl), (Sub.new hl).ext, [], rfl, rfl, .nil, Nat.zero_le _, fun r hr => nomatch hr⟩
  · rintro l i ws D1 D2 hbt ⟨⟨e1, e2, e3⟩, hB1, hX1, rs, q1, q2, q3, q4, q5⟩
    refine ⟨⟨e1, e2, e3⟩, hB1.but hbt e1 e2, fun a c h hp => hbt a c (fun e => by rw [e, e3] at h; cases h) (hX1 a c h hp), rs, q1, q2, q3, q4, fun r hr => ?_⟩
    obtain ⟨z1, x, z2, z3⟩ := q5 r hr
    exact ⟨z1, x, hbt _ _ z1 z2, z3⟩
  · rintro l i ws D1 ⟨_, _, _, rs, q1, q2, _, q4, _⟩
    rw [q2, List.length_map, q1]; lia
  · clear S1 W1 hQ k
    intro l i v O' cenv ws D1 s2 hi g22 Ic g23 hl1 S1
    refine cutQ fun Q' hQ => ?_
    obtain ⟨ti, rfl⟩ := g22
    obtain ⟨⟨e1, e2, e3⟩, hB1, hX1, rs, q1, q2, q3, q4, q5⟩ := g23
    dsimp only at Ic
    refine ts_nil ?_
    refine hQ _ _ ?_
    rw [if_pos rfl]
    refine e_comp (by assumption) (by rfl) (by rfl) (by decide) (fun _ => rfl) ?_
    (rename Ok _ _ _ _ _ _ _ _ => zS); refine ev_range1 zS (by assumption) (by assumption) (by rfl) (pi_name (by assumption) (by rfl) (by rfl)) (fun _ _ => rfl) ?_; intro zr zs zN zq; clear zS
    dsimp only
    rename Ok _ _ _ _ _ _ _ _ => S
    refine r_range S R'.hh (by assumption) (by decide) (by decide) (by exact nle _) (by exact ncl (k := 3) (by assumption) rfl) (n := m) (by exact tns0 _) ?_
    intro it2 s3 S3 W3
    clear S hQ
    refine tail_gen S3 W3 Ic (by rfl) rfl (by decide) (by rfl) (.inl (by rfl))
      (fun l2 j ws2 D' => (b ≠ l2 ∧ l0 ≠ l2 ∧ D1 l2 = none) ∧ BoxD D' b l0 ∧ Ext (fun a => a = b ∨ a = l0) D1 D' ∧ ∃ xs : List Int, IntsAre ws2 xs ∧ xs.length = j ∧ j ≤ m ∧ ∀ y ∈ xs, y.natAbs < 2 ^ 3)
      ?_ ?_ ?_ (fun _ _ _ _ _ _ _ _ _ => trivial) ?_ ?_
    · intro l2 hl hE
      exact ⟨⟨(hB1.neNew hl).1, (hB1.neNew hl).2, hl⟩, hB1.sub (Sub.new hl), (Sub.new hl).ext, [], .nil, rfl, Nat.zero_le _, fun r hr => nomatch hr⟩
    · rintro l2 j ws2 D2 D3 hbt ⟨⟨e1, e2, e3⟩, hB2, hX2, xs, z1, z2, z3, z4⟩
      exact ⟨⟨e1, e2, e3⟩, hB2.but hbt e1 e2, fun a c h hp => hbt a c (fun e => by rw [e, e3] at h; cases h) (hX2 a c h hp), xs, z1, z2, z3, z4⟩
    · rintro l2 j ws2 D2 ⟨_, _, _, xs, z1, z2, z3, _⟩
      rw [IntsAre.len z1, z2]; lia
    · clear S3 W3
      intro l2 j v O2 cenv2 ws2 D2 s4 hj g24 Ic2 g25 hl2 S4
      refine cutQ fun Q' hQ => ?_
      obtain ⟨tj, rfl⟩ := g24
      obtain ⟨⟨e1, e2, e3⟩, hB2, hX2, xs, z1, z2, z3, z4⟩ := g25
      dsimp only at Ic2
      refine ts_nil ?_
      refine hQ _ _ ?_
      rw [if_pos rfl]
      (rename Ok _ _ _ _ _ _ _ _ => zS); refine ev_call zS (by assumption) (by assumption) (by rfl) (by rfl) (by decide) (pa_val (pv_name (by assumption) (by rfl)) pa_nil (fun _ _ => rfl)) (fun _ _ => rfl) ?_; intro zt zs zN; clear zS
      dsimp only
      rename Ok _ _ _ _ _ _ _ _ => S
      refine law_whole_spec T (R'.le (by decide)) S hB2 cb cl fun y t D3 s5 hy hB3 hX3 S5 => ?_
      refine ⟨D3, hX3 _ _ hl2 (fun q => q.elim (Ne.symm e1) (Ne.symm e2)), ⟨⟨e1, e2, e3⟩, hB3, hX2.trans hX3, xs ++ [y], IntsAre.snoc z1 _ _, by simp [z2], hj, fun u hu => ?_⟩, S5⟩
      rcases List.mem_append.mp hu with h | h
      · exact z4 u h
      · rw [List.mem_singleton.mp h]; exact hy
    · clear S3 W3
      rintro l2 cenv2 O2 ws2 D2 s4 hl2 hlE2 ⟨⟨e1', e2', e3'⟩, hB2, hX2, xs, z1, z2, z3, z4⟩ hl2' K S4
      refine post_none K S4 fun s5 S5 => ?_
      have S6 := S5.asInts hl2' z1
      have hl2l : l2 ≠ l := fun e => by rw [e, hl1] at hl2; cases hl2
      have hdr : ∀ r ∈ rs, r ≠ l2 := fun r hr e => by obtain ⟨_, x, z, _⟩ := q5 r hr; rw [e, hl2] at z; cases z
      refine ⟨_, by rw [upd_ne (Ne.symm hl2l)]; exact hX2 _ _ hl1 (fun q => q.elim (Ne.symm e1) (Ne.symm e2)), ⟨⟨e1, e2, e3⟩, hB2.but (fun a c h q => by rw [upd_ne h]; exact q) e1' e2', fun a c h hp => ?_, rs ++ [l2], by simp [q1], by simp [q2], ?_, hi, fun r hr => ?_⟩, S6⟩
      · have h1 := hX1 a c h hp
        rw [upd_ne (fun e => by rw [e, hl2] at h1; cases h1)]
        exact hX2 a c h1 hp
      · rw [List.nodup_append]; exact ⟨q3, by simp, fun x hx y hy => by rw [List.mem_singleton.mp hy]; exact hdr x hx⟩
      · rcases List.mem_append.mp hr with h | h
        · obtain ⟨y1, x, y2, y3⟩ := q5 r h
          refine ⟨y1, x, ?_, y3⟩
          rw [upd_ne (hdr r h)]
          exact hX2 _ _ y2 (fun q => by
            obtain ⟨x1, t1, xs1, b1, b2, b3⟩ := hB1
            rcases q with q | q
            · rw [q, b1] at y2; cases y2
            · rw [q, b2] at y2; cases y2)
        · rw [List.mem_singleton.mp h]; exact ⟨hl2l, xs, upd_same .., z2, z4⟩
  · clear S1 W1
    rintro l cenv O' ws D1 s2 hl hlE ⟨⟨e1, e2, e3⟩, hB1, hX1, rs, q1, rfl, q3, q4, q5⟩ hl1 K S2
    refine post_use I (by rfl) K S2 fun s3 S3 => ?_
    have hc := fun r hr => (q5 r hr).2
    obtain ⟨G, hM, shG, bG⟩ : ∃ G, MatD D1 l rs G ∧ Sh n m G ∧ Bd 3 G := by
      refine ⟨rs.map fun r => if h : r ∈ rs then (hc r h).choose else [], ⟨hl1, by simp, fun i r x h1 h2 => ?_⟩, ⟨by simp [q1], fun x hx => ?_⟩, fun x hx => ?_⟩
      · rw [List.getElem?_map, h1] at h2
        have hr := List.mem_of_getElem? h1
        simp only [Option.map_some, dif_pos hr, Option.some.injEq] at h2
        rw [← h2]; exact (hc r hr).choose_spec.1
      · obtain ⟨r, hr, rfl⟩ := List.mem_map.mp hx
        rw [dif_pos hr]; exact (hc r hr).choose_spec.2.1
      · obtain ⟨r, hr, rfl⟩ := List.mem_map.mp hx
        rw [dif_pos hr]; exact (hc r hr).choose_spec.2.2
    clear hc q5 S2
    refine wpAny_execs_cons ?_
    refine wpAny_If ?_
    refine wpAny_isTrue_BoolOp ?_
    refine wpAny_allTrue_And_cons ?_
    (rename Ok _ _ _ _ _ _ _ _ => zS); refine PB.use zS (pb_gt (pi_name (by assumption) (by rfl) (by rfl)) pi_const (by rfl)) ?_; intro zs zN; clear zS
    by_cases h1n : 1 < n
    · rw [show decide ((1 : Int) < (n : Int)) = true from by rw [decide_eq_true_eq]; lia]
      refine Eq.mpr (if_pos (by with_reducible rfl)) ?_
      refine wpAny_allTrue_And_cons ?_
      refine wpAny_isTrue_Compare1 ?_ (by rfl)
      (rename Ok _ _ _ _ _ _ _ _ => zS); refine ev_call zS (by assumption) (by assumption) (by rfl) (by rfl) (by decide) (pa_val (pv_name (by assumption) (by rfl)) (pa_int pi_const pa_nil (fun _ _ => rfl)) (fun _ _ => rfl)) (fun _ _ => rfl) ?_; intro zt zs zN; clear zS
      rename Ok _ _ _ _ _ _ _ _ => S
      refine law_take_spec T (R'.le (by decide)) S (wide := 3) hB1 cb cl (by decide) fun v t2 D2 s4 hv hB2 hX2 S4 => ?_
      clear S
      have hM2 : MatD D2 l rs G := hM.ext hX2 (fun q => q.elim (Ne.symm e1) (Ne.symm e2)) fun r hr q => by
        obtain ⟨x1, t1, xs1, b1, b2, b3⟩ := hB1
        obtain ⟨x, hx⟩ := hM.known hr
        rcases q with q | q
        · rw [q, b1] at hx; cases hx
        · rw [q, b2] at hx; cases hx
      replace hX1 := hX1.trans hX2
      clear hX2 hM hl1 hB1
      (rename Ok _ _ _ _ _ _ _ _ => zS); refine c_int zS ?_; intro zt zs zN; clear zS
      refine q_eq ?_
      refine q_truth ?_
      cases hvz : decide ((v : Int) = 0) with
      | true =>
        refine Eq.mpr (if_pos (by with_reducible rfl)) ?_
        refine wpAny_allTrue_And_nil ?_
        refine Eq.mpr (if_pos (by with_reducible rfl)) ?_
        refine wpAny_execs_cons ?_
        refine wpAny_Assign_Name ?_ (by rfl)
        (rename Ok _ _ _ _ _ _ _ _ => zS); refine ev_call zS (by assumption) (by assumption) (by rfl) (by rfl) (by decide) (pa_val (pv_name (by assumption) (by rfl)) pa_nil (fun _ _ => rfl)) (fun _ _ => rfl) ?_; intro zt zs zN; clear zS
        dsimp only
        rename Ok _ _ _ _ _ _ _ _ => S
        refine law_whole_spec T (R'.le (by decide)) S hB2 cb cl fun y t D3 s5 hy hB3 hX3 S5 => ?_
        clear S
        have hM3 : MatD D3 l rs G := hM2.ext hX3 (fun q => q.elim (Ne.symm e1) (Ne.symm e2)) fun r hr q => by
          obtain ⟨x1, t1, xs1, b1, b2, b3⟩ := hB2
          obtain ⟨x, hx⟩ := hM2.known hr
          rcases q with q | q
          · rw [q, b1] at hx; cases hx
          · rw [q, b2] at hx; cases hx
        replace hX1 := hX1.trans hX3
        clear hX3 hM2 hB2
        (rename Ok _ _ _ _ _ _ _ _ => zS); refine st_cell zS (by assumption) (by rfl) (by rfl) (by first | exact Nat.le_succ _ | exact Nat.le_succ_of_le (Nat.le_succ _) | exact Nat.le_succ_of_le (Nat.le_succ_of_le (Nat.le_succ _)) | exact Nat.le_succ_of_le (Nat.le_succ_of_le (Nat.le_succ_of_le (Nat.le_succ _))) | exact Nat.le_succ_of_le (Nat.le_succ_of_le (Nat.le_succ_of_le (Nat.le_succ_of_le (Nat.le_succ _))))) ?_; intro zs zN; clear zS
        refine wpAny_execs_cons ?_
        refine x_sub ?_ (by rfl)
        refine e_comp (by assumption) (by rfl) (by rfl) (by decide) (fun _ => rfl) ?_
        refine e_sub ?_
        (rename Ok _ _ _ _ _ _ _ _ => zS); refine nm_local zS (by assumption) (by rfl) (by rfl) ?_ (by decide)
        (rename Ok _ _ _ _ _ _ _ _ => zS); refine PI.use zS (pi_sub (pi_name (by assumption) (by rfl) (by rfl)) pi_const) ?_; intro zt zs zN; clear zS
        dsimp only
        rename Ok _ _ _ _ _ _ _ _ => S
        refine t_rowS S hM3 shG (i := n - 2) (by lia) (by lia) (by exact lek (k := 3) (by assumption) rfl) (fun _ _ => rfl) ?_
        have hrow := hM3.rowAt (i := n - 2) (by rw [shG.1]; lia)
        have hlr := shG.row (i := n - 2) (by lia)
        refine r_zs S R'.hh hrow ?_
        intro it7 s7 S7 W7
        clear S
        have hmul : ∀ j, IntMulOk y ((row G (n - 2)).getD j 0) := fun j => mulOk_small (by lia)
        refine tail_pure S7 W7 I (by rfl) rfl (by decide) (by rfl) (by rfl) (by lia) (fun _ _ _ _ hs S' => S'.know _ _ (hs _ _ hrow)) (fun _ => true) (fun j => y * (row G (n - 2)).getD j 0) ?_ ?_
        · rintro j v O6 cenv D6 s8 hj ⟨tj, rfl⟩ Ic hs6 S8
          dsimp only at Ic
          clear S7 W7 hQ k
          have hmul := hmul j
          refine ⟨?_, fun _ => ?_⟩
          · refine ts_nil ?_
            dsimp only
            exact ⟨rfl, D6, Sub.refl, S8⟩
          · (rename Ok _ _ _ _ _ _ _ _ => zS); refine PI.use zS (pi_mul (pi_name (by assumption) (by rfl) (by rfl)) (pi_name (by assumption) (by rfl) (by rfl)) (by first | assumption | (walk_at "mul"))) ?_; intro zt zs zN; clear zS
            dsimp only
            exact ⟨_, _, rfl, Sub.refl, by assumption⟩
        intro l8 cenv O6 s8 hl8 hlE8 K8 S8
        refine post_none K8 S8 fun s9 S9 => ?_
        rw [picked_tab, hlr] at S9
        clear S8 W7 S7
        (rename Ok _ _ _ _ _ _ _ _ => zS); refine nm_local zS (by assumption) (by rfl) (by rfl) ?_ (by decide)
        (rename Ok _ _ _ _ _ _ _ _ => zS); refine PI.use zS (pi_sub (pi_name (by assumption) (by rfl) (by rfl)) pi_const) ?_; intro zt zs zN; clear zS
        rename Ok _ _ _ _ _ _ _ _ => S
        refine p_rowT (i := n - 1) S hM3 (by walk_at "ds") shG (.inr hlE) (by lia) (by lia) (by exact lek (k := 3) (by assumption) rfl) (upd_same ..) hl8 hlE8 ?_
        intro D9 s10 T9 S10
        clear S
        refine wpAny_execs_nil ?_
        refine wpAny_execs_cons ?_
        refine wpAny_Return_some ?_
        (rename Ok _ _ _ _ _ _ _ _ => zS); refine nm_local zS (by assumption) (by rfl) (by rfl) ?_ (by decide)
        dsimp only
        rename Ok _ _ _ _ _ _ _ _ => S
        refine hQ _ _ ⟨_, _, S, fun s11 S11 => k _ _ _ _ _ T9.mat (shG.set _ (tab_length _ _)) (GridOk.dep shG bG h1n hy) (T9.nd q3) S11 fun a c h hp => ?_⟩
        · exact T9.ext a c (hX1 a c h hp) (by rintro rfl; rw [e3] at h; cases h)
      | false =>
        refine Eq.mpr (if_neg (by with_reducible exact Bool.false_ne_true)) ?_
        refine Eq.mpr (if_neg (by with_reducible exact Bool.false_ne_true)) ?_
        refine wpAny_execs_nil ?_
        refine wpAny_execs_cons ?_
        refine wpAny_Return_some ?_
        (rename Ok _ _ _ _ _ _ _ _ => zS); refine nm_local zS (by assumption) (by rfl) (by rfl) ?_ (by decide)
        dsimp only
        rename Ok _ _ _ _ _ _ _ _ => S
        exact hQ _ _ ⟨_, _, S, fun s8 S8 => k _ _ _ _ _ hM2 shG (GridOk.of3 bG) q3 S8 hX1⟩
    · rw [show decide ((1 : Int) < (n : Int)) = false from by rw [decide_eq_false_iff_not]; lia]
      refine Eq.mpr (if_neg (by with_reducible exact Bool.false_ne_true)) ?_
      refine Eq.mpr (if_neg (by with_reducible exact Bool.false_ne_true)) ?_
      refine wpAny_execs_nil ?_
      refine wpAny_execs_cons ?_
      refine wpAny_Return_some ?_
      (rename Ok _ _ _ _ _ _ _ _ => zS); refine nm_local zS (by assumption) (by rfl) (by rfl) ?_ (by decide)
      dsimp only
      rename Ok _ _ _ _ _ _ _ _ => S
      exact hQ _ _ ⟨_, _, S, fun s8 S8 => k _ _ _ _ _ hM shG (GridOk.of3 bG) q3 S8 hX1⟩
end

section
variable {w : World} {A : Around} {E : Value → Shared → Prop}
variable {Hs : Heap} {se s : Shared} {mods : Addr → Prop} {env : Env} {O : Addr → Option Obj} {σ : Vars} {D : Know} {mg mb : Str → Option Value}
theorem law_det_spec (T : Wd w Hs mg mb) : ∀ (n : Nat) {A : Around} {E : Value → Shared → Prop} {se s : Shared} {mods : Addr → Prop} {env : Env} {O : Addr → Option Obj} {σ : Vars} {D : Know} (Rr : Rm A (n + 3)) (S : Ok Hs se mods env O σ D s) {a : Addr} {rs : List Addr} {M : Mat} {B : Nat} {Q : Value → Shared → Prop}
    (hM : MatD D a rs M) (sh : Sh n n M) (hn : n ≤ 3) (bM : Bd B M) (hB : 3 * (B + 3) + 1 ≤ 2 ^ 26)
    (k : ∀ t D' s', Sub D D' → Ok Hs se mods env O σ D' s' → Q (.int (detF n M) t) s'), wpAny (model Pg w) A (call (.ref (fad mg "_law_det")) [.ref a]) Q E s := by
  intro n
  induction n with
  | zero =>
    intro A E se s mods env O σ D Rr S a rs M B Q hM sh hn bM hB k
    refine enterW "_law_det" ["grid"] T Rr S rfl (fun _ _ _ => rfl) (fun _ _ _ => rfl) (by decide) (fun _ => False) (fun _ h => h.elim) (fun _ h => h.elim) ?_
    clear S Rr
    intro env' s' I hN S' R' V
    dsimp only at I hN
    refine cutQ fun Q' hQ => ?_
    refine wpAny_execs_cons ?_
    refine wpAny_If ?_
    refine wpAny_isTrue_Compare1 ?_ (by rfl)
    (rename Ok _ _ _ _ _ _ _ _ => zS); refine nm_local zS (by assumption) (by rfl) (by rfl) ?_ (by decide)
    refine List_ ?_
    refine args_nil ?_
    rename Ok _ _ _ _ _ _ _ _ => S
    refine n_vals S (by simp) fun l1 s1 hl1 hE1 S1 => ?_
    clear S
    refine q_eq_nil S1 R' (Sub.new hl1 _ _ hM.1) (upd_same ..) (n := 0) (.inr ⟨_, rfl, by rw [List.length_map, hM.2.1, sh.1]⟩) ?_
    refine q_truth ?_
    refine Eq.mpr (if_pos (by show (Value.none == Value.none) = true; rfl)) ?_
    refine wpAny_execs_cons ?_
    refine wpAny_Return_some ?_
    (rename Ok _ _ _ _ _ _ _ _ => zS); refine c_int zS ?_; intro zt zs zN; clear zS
    dsimp only
    rename Ok _ _ _ _ _ _ _ _ => S
    exact hQ _ _ ⟨_, _, S, fun s3 S3 => k _ _ _ (Sub.new hl1) S3⟩
  | succ n ih =>
    intro A E se s mods env O σ D Rr S a rs M B Q hM sh hn bM hB k
    refine enterW "_law_det" ["grid"] T Rr S rfl (fun _ _ _ => rfl) (fun _ _ _ => rfl) (by decide) (fun _ => False) (fun _ h => h.elim) (fun _ h => h.elim) ?_
    clear S Rr
    intro env' s' I hN S' R' V
    dsimp only at I hN
    refine cutQ fun Q' hQ => ?_
    refine wpAny_execs_cons ?_
    refine wpAny_If ?_
    refine wpAny_isTrue_Compare1 ?_ (by rfl)
    (rename Ok _ _ _ _ _ _ _ _ => zS); refine nm_local zS (by assumption) (by rfl) (by rfl) ?_ (by decide)
    refine List_ ?_
    refine args_nil ?_
    rename Ok _ _ _ _ _ _ _ _ => S
    refine n_vals S (by simp) fun l1 s1 hl1 hE1 S1 => ?_
    clear S
    have hs1 : Sub D (upd D l1 (.vals [])) := Sub.new hl1
    refine q_eq_nil S1 R' (hs1 _ _ hM.1) (upd_same ..) (n := n + 1) (.inr ⟨_, rfl, by rw [List.length_map, hM.2.1, sh.1]⟩) ?_
    rw [show decide (n + 1 = 0) = false from rfl]
    have hr0 := hM.rowAt (i := 0) (by rw [sh.1]; exact Nat.le_of_ble_eq_true rfl)
    have hl0 := sh.row (i := 0) (by exact Nat.le_of_ble_eq_true rfl)
    refine q_truth ?_
    refine Eq.mpr (if_neg (by with_reducible exact Bool.false_ne_true)) ?_
    refine wpAny_execs_nil ?_
    (rename Ok _ _ _ _ _ _ _ _ => zS); refine sx_int zS (by assumption) (by rfl) pi_const (by rfl) ?_; intro zt zs zN; clear zS
    refine wpAny_execs_cons ?_
    refine wpAny_For ?_ (fun _ => rfl)
    refine Call_ ?_ (by rfl)
    (rename Ok _ _ _ _ _ _ _ _ => zS); refine nm_built zS (by assumption) (Wd.B (by assumption)) (by rfl) (Wd.nob (by assumption) (by rfl)) ((Wd.bb (by assumption) _ (by decide)).trans (by first | exact b_range | exact b_len | exact b_list | exact b_enum | exact b_abs | exact b_min | exact b_sum)) ?_ (by decide)
    refine PyProof.Rows.callWith_type1 ?_ (by rfl) (by rfl)
    refine args_cons ?_ (by rfl)
    (rename Ok _ _ _ _ _ _ _ _ => zS); refine PV.use zS (pv_row (pv_name (by assumption) (by rfl)) (by walk_at "mt") (by assumption) pi_const (by walk_at "ix") (by walk_at "bd") (by walk_at "bd") (fun _ _ => rfl)) ?_; intro zs zN; clear zS
    refine args_nil ?_
    (rename Ok _ _ _ _ _ _ _ _ => zS); refine r_enum_zs zS (by walk_at "dk") ?_; intro ze zs zN zW; clear zS
    refine ready_e_iter (by assumption) ?_
    rename Ok _ _ _ _ _ _ _ _ => S
    rename Ok _ _ _ _ _ _ _ _ => S
    rename ReadyE _ _ _ _ _ => W
    refine cutR fun R2 hR => ?_
    refine loop_over_enum (n := n + 1) (val := valZ (row M 0)) W R'.hh (S.vars (σ' := ([("worth", .int 0 _), ("grid", .ref a)] : Vars)) (by walk_at "vr")) (bnd_cell I (by rfl) (by rfl) (by first | exact Nat.le_succ _ | exact Nat.le_succ_of_le (Nat.le_succ _) | exact Nat.le_succ_of_le (Nat.le_succ_of_le (Nat.le_succ _)))) (bnd_local I (by rfl))
      (fun i σ' D' => (∃ t, σ' = ([("worth", .int (psum (fun j => sgn j * el M 0 j * detF n (minor M j)) i) t), ("grid", .ref a)] : Vars)) ∧ Sub D D') ⟨⟨_, rfl⟩, hs1⟩ (fun i σ' D' s2 h S2 => by rw [← hl0]; exact need_zs S2 (h.2 _ _ hr0)) ?_ ?_
    · clear S W hR hQ k
      intro i v ti O' σ' D2 s2 hi g26 hO' g27 S2
      refine cutQ fun Q' hQ => ?_
      obtain ⟨tv, rfl⟩ := g26
      obtain ⟨⟨t, rfl⟩, hs2⟩ := g27
      refine wpAny_execs_cons ?_
      refine wpAny_If ?_
      (rename Ok _ _ _ _ _ _ _ _ => zS); refine PB.use zS (pb_ne (pi_name (by assumption) (by rfl) (by rfl)) pi_const (by rfl)) ?_; intro zs zN; clear zS
      split
      · rename_i hz
        refine wpAny_execs_cons ?_
        refine x_comp I (by rfl) (by rfl) (by decide) (fun _ => rfl) ((swaps_eq I hN _ _ _ _).trans rfl) ?_
        (rename Ok _ _ _ _ _ _ _ _ => zS); refine e_from zS ?_ (fun _ _ => rfl)
        (rename Ok _ _ _ _ _ _ _ _ => zS); refine nm_local zS (by assumption) (by rfl) (by rfl) ?_ (by decide)
        (rename Ok _ _ _ _ _ _ _ _ => zS); refine c_int zS ?_; intro zt zs zN; clear zS
        dsimp only
        rename Ok _ _ _ _ _ _ _ _ => S
        refine .mk a (.vals (rs.map Value.ref)) 1 _ _ _ S (hs2 _ _ hM.1) (show (rs.map Value.ref).length ≤ 1000000 by rw [List.length_map, hM.2.1, sh.1]; exact lek (k := 3) (by assumption) rfl) fun l3 s3 hl3 hE3 S3 => ?_
        clear S
        rename Ok _ _ _ _ _ _ _ _ => S
        refine r_vals S R'.hh (upd_same ..) ?_
        intro it s4 S4 W4
        clear S
        have hs3 : Sub D2 _ := Sub.new (c := Cell.vals ((rs.map Value.ref).drop 1)) hl3
        have hln : ((rs.map Value.ref).drop 1).length = n := by rw [List.length_drop, List.length_map, hM.2.1, sh.1]; rfl
        have hval : ∀ q v, valV ((rs.map Value.ref).drop 1) q v → q + 1 < n + 1 ∧ v = .ref (rs.getD (q + 1) 0) ∧ D (rs.getD (q + 1) 0) = some (.zs (row M (q + 1))) := fun q v hv => by
          have hv' : valV (rs.map Value.ref) (q + 1) v := by
            simp only [valV, List.getElem?_drop] at hv ⊢
            rw [Nat.add_comm]; exact hv
          obtain ⟨h1, h2, h3⟩ := hM.val hv'
          exact ⟨by rw [sh.1] at h1; exact h1, h2, h3⟩
        refine tail_new S4 W4 I (by rfl) rfl (by decide) (by rfl) (.inl (by rfl)) (by rw [hln]; lia) (fun _ _ _ _ hs S' => S'.know _ _ (hs _ _ (upd_same ..))) (fun q => (row M (q + 1)).take i ++ (row M (q + 1)).drop (i + 1)) ?_ ?_
        · rintro q v O6 cenv D6 s6 hq hv Ic hs6 S6
          dsimp only at Ic
          obtain ⟨hq', rfl, hrow⟩ := hval q v hv
          replace hrow := hs6 _ _ (hs3 _ _ (hs2 _ _ hrow))
          have hlr := sh.row hq'
          clear S4 W4 hQ
          refine ⟨?_, ?_⟩
          · refine ts_nil ?_
            dsimp only
            exact ⟨rfl, D6, Sub.refl, S6⟩
          · refine wpAny_BinOp ?_
            (rename Ok _ _ _ _ _ _ _ _ => zS); refine e_to zS ?_ (fun _ _ => rfl)
            (rename Ok _ _ _ _ _ _ _ _ => zS); refine nm_local zS (by assumption) (by rfl) (by rfl) ?_ (by decide)
            (rename Ok _ _ _ _ _ _ _ _ => zS); refine nm_cell zS (by assumption) (.inr (by rfl)) (by rfl) (by rfl) ?_ (by decide) (by decide)
            dsimp only
            rename Ok _ _ _ _ _ _ _ _ => S
            refine .mk _ (.zs (row M (q + 1))) i _ _ _ S hrow (show (row M (q + 1)).length ≤ 1000000 by lia) fun l7 s7 hl7 hE7 S7 => ?_
            clear S
            (rename Ok _ _ _ _ _ _ _ _ => zS); refine e_from zS ?_ (fun _ _ => rfl)
            (rename Ok _ _ _ _ _ _ _ _ => zS); refine nm_local zS (by assumption) (by rfl) (by rfl) ?_ (by decide)
            (rename Ok _ _ _ _ _ _ _ _ => zS); refine PI.use zS (pi_add (pi_name (by assumption) (by rfl) (by rfl)) pi_const) ?_; intro zt zs zN; clear zS
            rename Ok _ _ _ _ _ _ _ _ => S
            refine .mk _ (.zs (row M (q + 1))) (i + 1) _ _ _ S (by walk_at "dk") (show (row M (q + 1)).length ≤ 1000000 by lia) fun l8 s8 hl8 hE8 S8 => ?_
            clear S
            refine o_cat_zs (xs := (row M (q + 1)).take i) (ys := (row M (q + 1)).drop (i + 1)) S8 (Sub.new hl8 _ _ (upd_same ..)) (upd_same ..) (by simp; lia) fun l9 s9 hl9 hE9 S9 => ?_
            exact ⟨l9, _, rfl, noneSub hl9 ((Sub.new hl7).trans (Sub.new hl8)), hE9, ((Sub.new hl7).trans (Sub.new hl8)).trans (Sub.new hl9), upd_same .., S9⟩
        · intro lm rm D5 cenv O5 s5 hlm hlmE hlen hrs hnd hsub hlD hG K S5
          refine post_use I (by rfl) K S5 fun s6 S6 => ?_
          have hM5 : MatD D5 lm rm (minor M i) := ⟨hlD, by rw [hlen, hln]; simp [minor, sh.1], fun q r x h1 h2 => by
            rw [hG q r h1]
            unfold minor at h2
            rw [List.getElem?_map, List.getElem?_drop, show 1 + q = q + 1 from Nat.add_comm ..] at h2
            unfold row
            rw [List.getD_eq_getElem?_getD]
            cases hx : M[q + 1]? with
            | none => rw [hx] at h2; cases h2
            | some y => rw [hx] at h2; cases h2; rfl⟩
          clear S4 W4 S5 hG hval
          have hs5 : Sub D D5 := hs2.trans (hs3.trans hsub)
          have hm1 : IntMulOk 2 ((i : Int).fmod 2) := mulOk_small (by decide)
          have hm2 : IntMulOk (1 - 2 * (i : Int).fmod 2) ((row M 0).getD i 0) := mulOk_small (by have := sgn_small i; unfold sgn at this; lia)
          have hm3 : IntMulOk ((1 - 2 * (i : Int).fmod 2) * (row M 0).getD i 0) (detF n (minor M i)) := by
            refine mulOk (B := 3 * (B + 3) + 1) (lt_mono (B := B + 1) ?_ (by lia)) (lt_mono (detF_lt (by exact Nat.le_of_lt (by assumption)) (bM.minor i)) ?_) hB
            · rw [Int.natAbs_mul]
              have h1 := sgn_small i
              have h2 := bM.el 0 i
              have h3 := Nat.mul_le_mul_right ((row M 0).getD i 0).natAbs h1
              unfold sgn at h3
              unfold el at h2
              rw [Nat.pow_succ]; lia
            · have := Nat.mul_le_mul_right (B + 3) (show n ≤ 2 by lia)
              lia
          have shm := sh.minor (j := i) hi
          refine wpAny_execs_cons ?_
          refine wpAny_Assign_Name ?_ (by rfl)
          refine wpAny_BinOp ?_
          (rename Ok _ _ _ _ _ _ _ _ => zS); refine nm_local zS (by assumption) (by rfl) (by rfl) ?_ (by decide)
          refine wpAny_BinOp ?_
          (rename Ok _ _ _ _ _ _ _ _ => zS); refine PI.use zS (pi_mul (pi_sub pi_const (pi_mul pi_const (pi_mod (pi_name (by assumption) (by rfl) (by rfl)) pi_const (by first | assumption | decide | (walk_at "div"))) (by first | assumption | (walk_at "mul")))) (pi_name (by assumption) (by rfl) (by rfl)) (by first | assumption | (walk_at "mul"))) ?_; intro zt zs zN; clear zS
          (rename Ok _ _ _ _ _ _ _ _ => zS); refine ev_call zS (by assumption) (by assumption) (by rfl) (by rfl) (by decide) (pa_val (pv_name (by assumption) (by rfl)) pa_nil (fun _ _ => rfl)) (fun _ _ => rfl) ?_; intro zt zs zN; clear zS
          dsimp only
          rename Ok _ _ _ _ _ _ _ _ => S
          refine ih (R'.le (by lia)) S hM5 shm (by exact Nat.le_of_lt (by assumption)) (bM.minor i) hB fun t7 D6 s7 hs6 S7 => ?_
          clear S
          (rename Ok _ _ _ _ _ _ _ _ => zS); refine o_mul zS (by first | assumption | (walk_at "mul")) ?_; intro zt zs zN; clear zS
          (rename Ok _ _ _ _ _ _ _ _ => zS); refine o_add zS ?_; intro zt zs zN; clear zS
          (rename Ok _ _ _ _ _ _ _ _ => zS); refine st_local zS (by assumption) (by rfl) ?_; intro zs zN; clear zS
          refine wpAny_execs_nil ?_
          refine wpAny_execs_nil ?_
          rename Ok _ _ _ _ _ _ _ _ => S
          refine hQ _ _ ⟨([("worth", .int (psum (fun j => sgn j * el M 0 j * detF n (minor M j)) i + (1 - 2 * (i : Int).fmod 2) * (row M 0).getD i 0 * detF n (minor M i)) _), ("grid", .ref a)] : Vars), D6, ⟨⟨_, rfl⟩, hs5.trans hs6⟩, S.vars (by walk_at "vr")⟩
      · rename_i hz
        have hz' : el M 0 i = 0 := Classical.byContradiction fun h => hz (decide_eq_true h)
        refine wpAny_execs_nil ?_
        refine wpAny_execs_nil ?_
        rename Ok _ _ _ _ _ _ _ _ => S
        refine hQ _ _ ⟨([("worth", .int (psum (fun j => sgn j * el M 0 j * detF n (minor M j)) i) t), ("grid", .ref a)] : Vars), _, ⟨⟨t, ?_⟩, hs2⟩, S.vars (by walk_at "vr")⟩
        rw [show psum (fun j => sgn j * el M 0 j * detF n (minor M j)) (i + 1) = psum (fun j => sgn j * el M 0 j * detF n (minor M j)) i from by
          show _ + sgn i * el M 0 i * _ = _
          rw [hz']; simp]
    · clear S W
      rintro σ' D2 s2 ⟨⟨t, rfl⟩, hs2⟩ S2
      refine hR _ _ ?_
      refine wpAny_execs_cons ?_
      refine wpAny_Return_some ?_
      (rename Ok _ _ _ _ _ _ _ _ => zS); refine nm_local zS (by assumption) (by rfl) (by rfl) ?_ (by decide)
      dsimp only
      rename Ok _ _ _ _ _ _ _ _ => S
      exact hQ _ _ ⟨_, _, S, fun s3 S3 => k _ _ _ hs2 S3⟩
end

section
variable {w : World} {A : Around} {E : Value → Shared → Prop}
variable {Hs : Heap} {se s : Shared} {mods : Addr → Prop} {env : Env} {O : Addr → Option Obj} {σ : Vars} {D : Know} {mg mb : Str → Option Value}
theorem law_times_spec (T : Wd w Hs mg mb) (Rr : Rm A 3) (S : Ok Hs se mods env O σ D s) {a b : Addr} {ra rb : List Addr} {X Y : Mat} {n p m : Nat} {Q : Value → Shared → Prop}
    (hX : MatD D a ra X) (hY : MatD D b rb Y) (shX : Sh n p X) (shY : Sh p m Y) (hp0 : 0 < p) (hn : n ≤ 10) (hp : p ≤ 10) (hm : m ≤ 10) (hmul : ∀ i t j, IntMulOk (el X i t) (el Y t j))
    (k : ∀ l rs D' s', Sub D D' → NewMat s D' l rs (mulM p m X Y) → Ok Hs se mods env O σ D' s' → Q (.ref l) s') :
    wpAny (model Pg w) A (call (.ref (fad mg "_law_times")) [.ref a, .ref b]) Q E s := by
  refine enterW "_law_times" ["one", "two"] T Rr S rfl (fun _ _ _ => rfl) (fun _ _ _ => rfl) (by decide) (fun _ => False) (fun _ h => h.elim) (fun _ h => h.elim) ?_
  clear S Rr
  intro env' s' I hN S' R' V
  dsimp only at I hN
  refine cutQ fun Q' hQ => ?_
  refine wpAny_execs_cons ?_
  refine wpAny_Assign_Name ?_ (by rfl)
  refine wpAny_IfExp ?_
  refine wpAny_isTrue_Compare1 ?_ (by rfl)
  (rename Ok _ _ _ _ _ _ _ _ => zS); refine nm_cell zS (by assumption) (.inl (by rfl)) (by rfl) (by rfl) ?_ (by decide) (by decide)
  refine List_ ?_
  refine args_nil ?_
  dsimp only
  rename Ok _ _ _ _ _ _ _ _ => S
  refine n_vals S (by simp) fun l1 s1 hl1 hE1 S1 => ?_
  clear S
  have hs1 : Sub D (upd D l1 (.vals [])) := Sub.new hl1
  refine q_ne_nil S1 R' (hs1 _ _ hY.1) (upd_same ..) (n := p) (.inr ⟨_, rfl, by rw [List.length_map, hY.2.1, shY.1]⟩) ?_
  rw [show decide (p ≠ 0) = true from decide_eq_true (by lia)]
  have hr0 := hY.rowAt (i := 0) (by rw [shY.1]; assumption)
  have hl0 := shY.row (i := 0) (by assumption)
  refine q_truth ?_
  refine Eq.mpr (if_pos (by with_reducible rfl)) ?_
  (rename Ok _ _ _ _ _ _ _ _ => zS); refine PI.use zS (pi_lenz (by assumption) (by assumption) (by rfl) (pv_row (pv_name (by assumption) (by rfl)) (by walk_at "mt") (by assumption) pi_const (by walk_at "ix") (by walk_at "bd") (by walk_at "bd") (fun _ _ => rfl)) (by walk_at "dk") (by walk_at "bd") (fun _ _ => rfl)) ?_; intro zt zs zN; clear zS
  (rename Ok _ _ _ _ _ _ _ _ => zS); refine st_cell zS (by assumption) (by rfl) (by rfl) (by first | exact Nat.le_succ _ | exact Nat.le_succ_of_le (Nat.le_succ _) | exact Nat.le_succ_of_le (Nat.le_succ_of_le (Nat.le_succ _)) | exact Nat.le_succ_of_le (Nat.le_succ_of_le (Nat.le_succ_of_le (Nat.le_succ _))) | exact Nat.le_succ_of_le (Nat.le_succ_of_le (Nat.le_succ_of_le (Nat.le_succ_of_le (Nat.le_succ _))))) ?_; intro zs zN; clear zS
  refine wpAny_execs_cons ?_
  refine wpAny_Return_some ?_
  refine e_comp (by assumption) (by rfl) (by rfl) (by decide) (fun _ => rfl) ?_
  (rename Ok _ _ _ _ _ _ _ _ => zS); refine nm_local zS (by assumption) (by rfl) (by rfl) ?_ (by decide)
  dsimp only
  rename Ok _ _ _ _ _ _ _ _ => S
  rw [hl0] at S
  have hX1 := S.mat hX (by walk_at "ds")
  have hY1 := S.mat hY (by walk_at "ds")
  refine r_vals S R'.hh hX1.1 ?_
  intro it s1 S1 W1
  clear S hX hY hr0 hl0
  refine tail_new S1 W1 I (by rfl) rfl (by decide) (by rfl) (.inr (by rfl)) (by rw [List.length_map, hX1.2.1, shX.1]; exact lek (k := 10) (by assumption) rfl) (fun _ _ _ _ hs S' => S'.know _ _ (hs _ _ hX1.1)) (fun i => tab m fun j => psum (fun t => (row X i).getD t 0 * el Y t j) p) ?_ ?_
  · rintro i v O' cenv D1 s2 hi hv Ic hs2 S2
    dsimp only at Ic
    obtain ⟨hi', rfl, hr⟩ := hX1.val hv
    have hlr := shX.row (i := i) (by rw [← shX.1]; exact hi')
    replace hr := hs2 _ _ hr
    have hY2 := hY1.sub hs2
    clear S1 W1 hQ k hX1 hY1
    refine ⟨?_, ?_⟩
    · refine ts_nil ?_
      dsimp only
      exact ⟨rfl, D1, Sub.refl, S2⟩
    · refine cutQ fun Q' hQ => ?_
      refine e_comp (by assumption) (by rfl) (by rfl) (by decide) (fun _ => rfl) ?_
      (rename Ok _ _ _ _ _ _ _ _ => zS); refine ev_range1 zS (by assumption) (by assumption) (by rfl) (pi_name (by assumption) (by rfl) (by rfl)) (fun _ _ => rfl) ?_; intro zr zs zN zq; clear zS
      rename Ok _ _ _ _ _ _ _ _ => S
      refine r_range S R'.hh (by assumption) (by decide) (by decide) (by exact nle _) (by exact ncl (k := 10) (by assumption) rfl) (n := m) (by exact tns0 _) ?_
      intro it2 s3 S3 W3
      clear S
      refine tail_pureC S3 W3 Ic (by rfl) rfl (by decide) (by rfl) (.inr (by rfl)) (by exact lek (k := 10) (by assumption) rfl) (fun _ _ _ _ _ _ => trivial) (fun _ => true) (fun j => psum (fun t => (row X i).getD t 0 * el Y t j) p) ?_ ?_
      · rintro j v O2 cenv2 D2 s4 hj ⟨tj, rfl⟩ Ic2 hs4 S4
        dsimp only at Ic2
        rw [Int.zero_add] at S4 ⊢
        have hr := hs4 _ _ hr
        have hY4 := hY2.sub hs4
        clear S3 W3 hQ
        refine ⟨?_, fun _ => ?_⟩
        · refine ts_nil ?_
          dsimp only
          exact ⟨rfl, D2, Sub.refl, S4⟩
        · refine cutQ fun Q' hQ => ?_
          refine Call_ ?_ (by rfl)
          (rename Ok _ _ _ _ _ _ _ _ => zS); refine nm_built zS (by assumption) (Wd.B (by assumption)) (by rfl) (Wd.nob (by assumption) (by rfl)) ((Wd.bb (by assumption) _ (by decide)).trans (by first | exact b_range | exact b_len | exact b_list | exact b_enum | exact b_abs | exact b_min | exact b_sum)) ?_ (by decide)
          refine PyProof.Rows.callWith_builtin1 ?_ (by rfl) (by rfl)
          refine args_cons ?_ (by rfl)
          refine e_comp (by assumption) (by rfl) (by rfl) (by decide) (fun _ => rfl) ?_
          (rename Ok _ _ _ _ _ _ _ _ => zS); refine ev_range1 zS (by assumption) (by assumption) (by rfl) (pi_len (by assumption) (by assumption) (by rfl) (pv_name (by assumption) (by rfl)) (by walk_at "mt") (by assumption) (by walk_at "bd") (fun _ _ => rfl)) (fun _ _ => rfl) ?_; intro zr zs zN zq; clear zS
          rename Ok _ _ _ _ _ _ _ _ => S
          refine r_range S R'.hh (by assumption) (by decide) (by decide) (by exact nle _) (by exact ncl (k := 10) (by assumption) rfl) (n := p) (by exact tns0 _) ?_
          intro it3 s5 S5 W5
          clear S
          refine tail_pure S5 W5 Ic2 (by rfl) rfl (by decide) (by rfl) (by rfl) (by exact lek (k := 10) (by assumption) rfl) (fun _ _ _ _ _ _ => trivial) (fun _ => true) (fun t => (row X i).getD t 0 * el Y t j) ?_ ?_
          · rintro t v O3 cenv3 D3 s6 ht ⟨tt, rfl⟩ Ic3 hs6 S6
            dsimp only at Ic3
            rw [Int.zero_add] at S6 ⊢
            have hr := hs6 _ _ hr
            have hY6 := hY4.sub hs6
            have hm6 : IntMulOk ((row X i).getD t 0) (el Y t j) := hmul i t j
            clear S5 W5 hQ
            refine ⟨?_, fun _ => ?_⟩
            · refine ts_nil ?_
              dsimp only
              exact ⟨rfl, D3, Sub.refl, S6⟩
            · (rename Ok _ _ _ _ _ _ _ _ => zS); refine PI.use zS (pi_mul (pi_at (pv_name (by assumption) (by rfl)) (by walk_at "dk") (pi_name (by assumption) (by rfl) (by rfl)) (by walk_at "ix") (by walk_at "bd") (by walk_at "bd") (fun _ _ => rfl)) (pi_el (pv_name (by assumption) (by rfl)) (by walk_at "mt") (by assumption) (pi_name (by assumption) (by rfl) (by rfl)) (by walk_at "ix") (by walk_at "bd") (by walk_at "bd") (fun _ _ => rfl) (pi_name (by assumption) (by rfl) (by rfl)) (by walk_at "ix") (by walk_at "bd") (by walk_at "bd") (fun _ _ => rfl)) (by first | assumption | (walk_at "mul"))) ?_; intro zt zs zN; clear zS
              dsimp only
              exact ⟨_, _, rfl, Sub.refl, by assumption⟩
          · intro l8 cenv3 O3 s8 hl8 hlE8 K8 S8
            refine post_none K8 S8 fun s9 S9 => ?_
            rw [picked_tab] at S9
            clear S5 W5 S8
            refine args_nil ?_
            refine f_sum S9 R'.hh (upd_same ..) fun t9 s10 S10 => ?_
            rw [tab_sum]
            exact hQ _ _ ⟨_, _, rfl, Sub.new hl8, S10⟩
      · intro l8 cenv2 O2 s8 hl8 hlE8 K8 S8
        refine post_none K8 S8 fun s9 S9 => ?_
        rw [picked_tab] at S9
        exact hQ _ _ ⟨l8, _, rfl, hl8, hlE8, Sub.new hl8, upd_same .., S9⟩
  · intro l rs D1 cenv O' s2 hl hlE hlen hrs hnd hsub hlD hG K S2
    refine post_none K S2 fun s3 S3 => hQ _ _ ⟨_, _, S3, fun s4 S4 => k l rs D1 s4 (hs1.trans hsub) ⟨⟨hlD, by rw [hlen]; simp [mulM, hX1.2.1], fun i r x h1 h2 => ?_⟩, hlE, fun r hr => (hrs r hr).2.1, hnd⟩ S4⟩
    rw [hG i r h1]
    unfold mulM at h2
    rw [List.getElem?_map] at h2
    unfold row
    rw [List.getD_eq_getElem?_getD]
    cases hx : X[i]? with
    | none => rw [hx] at h2; cases h2
    | some y => rw [hx] at h2; cases h2; rfl
end

section
variable {w : World} {A : Around} {E : Value → Shared → Prop}
variable {Hs : Heap} {se s : Shared} {mods : Addr → Prop} {env : Env} {O : Addr → Option Obj} {σ : Vars} {D : Know} {mg mb : Str → Option Value}
theorem law_choices_spec (T : Wd w Hs mg mb) : ∀ (k : Nat) {A : Around} {E : Value → Shared → Prop} {se s : Shared} {mods : Addr → Prop} {env : Env} {O : Addr → Option Obj} {σ : Vars} {D : Know} (Rr : Rm A (k + 3)) (S : Ok Hs se mods env O σ D s) {many : Nat} {t1 t2 : Tok} {Q : Value → Shared → Prop}
    (hk : k ≤ 3) (hm : many ≤ 3)
    (kk : ∀ l rs D' s', Sub D D' → D l = none → MatD D' l rs (chI k many) → Ok Hs se mods env O σ D' s' → Q (.ref l) s'), wpAny (model Pg w) A (call (.ref (fad mg "_law_choices")) [.int many t1, .int k t2]) Q E s := by
  intro k
  induction k with
  | zero =>
    intro A E se s mods env O σ D Rr S many t1 t2 Q hk hm kk
    refine enterW "_law_choices" ["many", "size"] T Rr S rfl (fun _ _ _ => rfl) (fun _ _ _ => rfl) (by decide) (fun _ => False) (fun _ h => h.elim) (fun _ h => h.elim) ?_
    clear S Rr
    intro env' s' I hN S' R' V
    dsimp only at I hN
    refine cutQ fun Q' hQ => ?_
    refine wpAny_execs_cons ?_
    refine wpAny_If ?_
    (rename Ok _ _ _ _ _ _ _ _ => zS); refine PB.use zS (pb_eq (pi_name (by assumption) (by rfl) (by rfl)) pi_const (by rfl)) ?_; intro zs zN; clear zS
    refine Eq.mpr (if_pos (by show (Value.none == Value.none) = true; rfl)) ?_
    refine wpAny_execs_cons ?_
    refine wpAny_Return_some ?_
    refine List_ ?_
    refine args_cons ?_ (by rfl)
    refine List_ ?_
    refine args_nil ?_
    dsimp only
    rename Ok _ _ _ _ _ _ _ _ => S
    refine n_zs (xs := []) S .nil (by simp) fun l1 s1 hl1 hE1 S1 => ?_
    clear S
    refine args_nil ?_
    refine n_vals S1 (by simp) fun l2 s2 hl2 hE2 S2 => ?_
    clear S1
    refine hQ _ _ ⟨_, _, S2, fun s3 S3 => kk l2 [l1] _ _ ((Sub.new hl1).trans (Sub.new hl2)) (noneSub hl2 (Sub.new hl1)) ⟨upd_same .., rfl, fun i r x h1 h2 => ?_⟩ S3⟩
    cases i with
    | zero => cases h1; cases h2; exact Sub.new hl2 _ _ (upd_same ..)
    | succ i => cases h1
  | succ k ih =>
    intro A E se s mods env O σ D Rr S many t1 t2 Q hk hm kk
    refine enterW "_law_choices" ["many", "size"] T Rr S rfl (fun _ _ _ => rfl) (fun _ _ _ => rfl) (by decide) (fun _ => False) (fun _ h => h.elim) (fun _ h => h.elim) ?_
    clear S Rr
    intro env' s' I hN S' R' V
    dsimp only at I hN
    have hk1 : (((k + 1 : Nat) : Int)) - 1 = (k : Int) := by lia
    refine cutQ fun Q' hQ => ?_
    refine wpAny_execs_cons ?_
    refine wpAny_If ?_
    (rename Ok _ _ _ _ _ _ _ _ => zS); refine PB.use zS (pb_eq (pi_name (by assumption) (by rfl) (by rfl)) pi_const (by rfl)) ?_; intro zs zN; clear zS
    refine Eq.mpr (if_neg (show (!true) = true → False from Bool.false_ne_true)) ?_
    refine wpAny_execs_nil ?_
    refine wpAny_execs_cons ?_
    refine wpAny_Assign_Name ?_ (by rfl)
    refine List_ ?_
    refine args_nil ?_
    dsimp only
    rename Ok _ _ _ _ _ _ _ _ => S
    refine n_vals S (by simp) fun l1 s1 hl1 hE1 S1 => ?_
    clear S
    (rename Ok _ _ _ _ _ _ _ _ => zS); refine st_local zS (by assumption) (by rfl) ?_; intro zs zN; clear zS
    refine wpAny_execs_cons ?_
    refine wpAny_For ?_ (fun _ => rfl)
    (rename Ok _ _ _ _ _ _ _ _ => zS); refine ev_range2 zS (by assumption) (by assumption) (by rfl) (pi_sub (pi_name (by assumption) (by rfl) (by rfl)) pi_const) (pi_name (by assumption) (by rfl) (by rfl)) (fun _ _ => rfl) (fun _ _ => rfl) ?_; intro zr zs zN zq; clear zS
    rename Ok _ _ _ _ _ _ _ _ => S
    rename ∃ _ _ _, IsRange _ _ _ _ _ _ _ _ => hr9
    rw [hk1] at hr9
    refine r_range S R'.hh hr9 (by exact nle _) (by lia) (by exact nle _) (by exact ncl (k := 3) (by assumption) rfl) (n := many - k) (by exact Int.toNat_sub _ _) ?_
    intro it s2 S2 W2
    clear S hr9
    refine cutR fun R2 hR => ?_
    refine loop_over W2 S2 (bnd_cell I (by rfl) (by rfl) (by first | exact Nat.le_succ _ | exact Nat.le_succ_of_le (Nat.le_succ _) | exact Nat.le_succ_of_le (Nat.le_succ_of_le (Nat.le_succ _))))
      (fun i σ' D' => ∃ lw rw, σ' = ([("ways", .ref lw), ("many", .int many t1), ("size", .int (k + 1 : Nat) t2)] : Vars) ∧ D lw = none ∧ MatD D' lw rw (chPart k i) ∧ Sub D D') ⟨l1, [], rfl, hl1, ⟨upd_same .., rfl, fun i r x h => nomatch h⟩, Sub.new hl1⟩ (fun _ _ _ _ _ _ => trivial) ?_ ?_
    · clear S2 W2 hR hQ kk
      intro i v O' σ' D2 s2 hi g28 hO' g29 S2
      refine cutQ fun Q' hQ => ?_
      obtain ⟨ti, rfl⟩ := g28
      obtain ⟨lw, rw0, rfl, hlw, hMw, hs2⟩ := g29
      obtain ⟨o, ho⟩ : ∃ o : Nat, o = k + i := ⟨_, rfl⟩
      have hoi : ((k : Int) + (i : Int)) = (o : Int) := by lia
      rw [hoi] at S2
      refine wpAny_execs_cons ?_
      refine wpAny_Assign_Name ?_ (by rfl)
      refine wpAny_BinOp ?_
      (rename Ok _ _ _ _ _ _ _ _ => zS); refine nm_local zS (by assumption) (by rfl) (by rfl) ?_ (by decide)
      refine e_comp (by assumption) (by rfl) (by rfl) (by decide) (fun _ => rfl) ?_
      (rename Ok _ _ _ _ _ _ _ _ => zS); refine ev_call zS (by assumption) (by assumption) (by rfl) (by rfl) (by decide) (pa_int (pi_name (by assumption) (by rfl) (by rfl)) (pa_int (pi_sub (pi_name (by assumption) (by rfl) (by rfl)) pi_const) pa_nil (fun _ _ => rfl)) (fun _ _ => rfl)) (fun _ _ => rfl) ?_; intro zt zs zN; clear zS
      dsimp only
      rename Ok _ _ _ _ _ _ _ _ => S
      rw [hk1]
      refine ih (R'.le (by lia)) S (by exact Nat.le_of_lt (by assumption)) (by lia) fun l3 r3 D3 s3 hs3 hl3 hM3 S3 => ?_
      clear S
      refine r_vals S3 R'.hh hM3.1 ?_
      intro it4 s4 S4 W4
      clear S3
      have hfew := chI_few k (by lia) o (by lia)
      have hsz : ((r3.map Value.ref)).length ≤ 3 := by rw [List.length_map, hM3.2.1]; exact hfew.1
      refine tail_new S4 W4 I (by rfl) rfl (by decide) (by rfl) (.inl (by rfl)) (by exact lek (k := 3) (by assumption) rfl) (fun _ _ _ _ hs S' => S'.know _ _ (hs _ _ hM3.1)) (fun q => row (chI k o) q ++ [(o : Int)]) ?_ ?_
      · rintro q v O5 cenv D5 s5 hq hv Ic hs5 S5
        dsimp only at Ic
        obtain ⟨hq', rfl, hrow⟩ := hM3.val hv
        have hlr : (row (chI k o) q).length = k := hfew.2 _ (row_mem hq')
        clear S4 W4 hQ
        refine ⟨?_, ?_⟩
        · refine ts_nil ?_
          dsimp only
          exact ⟨rfl, D5, Sub.refl, S5⟩
        · refine wpAny_BinOp ?_
          (rename Ok _ _ _ _ _ _ _ _ => zS); refine nm_local zS (by assumption) (by rfl) (by rfl) ?_ (by decide)
          refine List_ ?_
          refine args_cons ?_ (by rfl)
          (rename Ok _ _ _ _ _ _ _ _ => zS); refine nm_cell zS (by assumption) (.inr (by rfl)) (by rfl) (by rfl) ?_ (by decide) (by decide)
          refine args_nil ?_
          dsimp only
          rename Ok _ _ _ _ _ _ _ _ => S
          refine n_zs (xs := [(o : Int)]) S (.cons _ _ .nil) (Nat.le_of_ble_eq_true rfl) fun l6 s6 hl6 hE6 S6 => ?_
          clear S
          refine o_cat_zs S6 (Sub.new hl6 _ _ (hs5 _ _ hrow)) (upd_same ..) (by simp; lia) fun l7 s7 hl7 hE7 S7 => ?_
          exact ⟨l7, _, rfl, noneSub hl7 (Sub.new hl6), hE7, (Sub.new hl6).trans (Sub.new hl7), upd_same .., S7⟩
      · intro lm rm D5 cenv O5 s5 hlm hlmE hlen hrs hnd hsub hlD hG K S5
        refine post_none K S5 fun s6 S6 => ?_
        clear S4 W4 S5
        have hMw5 := hMw.sub (hs3.trans hsub)
        have hf2 := chPart_few k (by assumption) i (by lia)
        have hf3 : (rw0.map Value.ref).length ≤ 20 := by rw [List.length_map, hMw.2.1]; exact hf2
        have hf4 : (rm.map Value.ref).length ≤ 3 := by rw [List.length_map, hlen]; exact hsz
        refine o_cat_vals S6 hMw5.1 hlD (Nat.le_trans (Nat.add_le_add hf3 hf4) (by decide)) fun l7 s7 hl7 hE7 S7 => ?_
        (rename Ok _ _ _ _ _ _ _ _ => zS); refine st_local zS (by assumption) (by rfl) ?_; intro zs zN; clear zS
        refine wpAny_execs_nil ?_
        rename Ok _ _ _ _ _ _ _ _ => S
        have hs7 : Sub D2 (upd D5 l7 (.vals (rw0.map Value.ref ++ rm.map Value.ref))) := (hs3.trans hsub).trans (Sub.new hl7)
        refine hQ _ _ ⟨_, _, ⟨l7, rw0 ++ rm, rfl, noneSub hl7 ((hs2.trans hs3).trans hsub), ?_, hs2.trans hs7⟩, S.vars (by walk_at "vr")⟩
        have hlm' : rm.length = (chI k o).length := by rw [hlen, List.length_map]; exact hM3.2.1
        refine ⟨by rw [upd_same]; simp, by rw [chPart_succ, ← ho]; simp [hMw.2.1, hlm'], fun q r x h1 h2 => ?_⟩
        rw [chPart_succ, ← ho] at h2
        refine Sub.new hl7 _ _ ?_
        by_cases hq : q < rw0.length
        · rw [List.getElem?_append_left hq] at h1
          rw [List.getElem?_append_left (by rw [← hMw.2.1]; exact hq)] at h2
          exact hMw5.2.2 q r x h1 h2
        · rw [List.getElem?_append_right (by lia)] at h1
          rw [List.getElem?_append_right (by rw [← hMw.2.1]; lia), ← hMw.2.1, List.getElem?_map] at h2
          rw [hG _ r h1]
          unfold row
          rw [List.getD_eq_getElem?_getD]
          cases hx : (chI k o)[q - rw0.length]? with
          | none => rw [hx] at h2; cases h2
          | some y => rw [hx] at h2; cases h2; rfl
    · clear S2 W2
      rintro σ' D2 s2 ⟨lw, rw0, rfl, hlw, hMw, hs2⟩ S2
      refine hR _ _ ?_
      refine wpAny_execs_cons ?_
      refine wpAny_Return_some ?_
      (rename Ok _ _ _ _ _ _ _ _ => zS); refine nm_local zS (by assumption) (by rfl) (by rfl) ?_ (by decide)
      dsimp only
      rename Ok _ _ _ _ _ _ _ _ => S
      exact hQ _ _ ⟨_, _, S, fun s3 S3 => kk _ _ _ _ hs2 hlw (by rw [chI_succ]; exact hMw) S3⟩
end

section
variable {w : World} {A : Around} {E : Value → Shared → Prop}
variable {Hs : Heap} {se s : Shared} {mods : Addr → Prop} {env : Env} {O : Addr → Option Obj} {σ : Vars} {D : Know} {mg mb : Str → Option Value}
theorem law_divisor_spec (T : Wd w Hs mg mb) (Rr : Rm A 3) (S : Ok Hs se mods env O σ D s) {a : Addr} {xs : List Int} {Q : Value → Shared → Prop}
    (hD : D a = some (.zs xs))
    (k : ∀ t D' s', Sub D D' → Ok Hs se mods env O σ D' s' → Q (.int (divisor xs : Nat) t) s') :
    wpAny (model Pg w) A (call (.ref (fad mg "_law_divisor")) [.ref a]) Q E s := by
  refine enterW "_law_divisor" ["numbers"] T Rr S rfl (fun _ _ _ => rfl) (fun _ _ _ => rfl) (by decide) (fun _ => False) (fun _ h => h.elim) (fun _ h => h.elim) ?_
  clear S Rr
  intro env' s' I hN S' R' V
  dsimp only at I hN
  refine cutQ fun Q' hQ => ?_
  (rename Ok _ _ _ _ _ _ _ _ => zS); refine sx_int zS (by assumption) (by rfl) pi_const (by rfl) ?_; intro zt zs zN; clear zS
  refine wpAny_execs_cons ?_
  refine wpAny_For ?_ (fun _ => rfl)
  (rename Ok _ _ _ _ _ _ _ _ => zS); refine nm_local zS (by assumption) (by rfl) (by rfl) ?_ (by decide)
  rename Ok _ _ _ _ _ _ _ _ => S
  refine r_zs S R'.hh hD ?_
  intro it s2 S2 W2
  clear S
  refine cutR fun R2 hR => ?_
  refine loop_over W2 (S2.vars (σ' := ([("worth", .int 0 _), ("numbers", .ref a)] : Vars)) (by walk_at "vr")) (bnd_local I (by rfl)) (fun i σ' D' => (∃ t, σ' = ([("worth", .int ((xs.take i).foldl gcdGo 0) t), ("numbers", .ref a)] : Vars)) ∧ Sub D D') ⟨⟨_, rfl⟩, Sub.refl⟩ (fun _ _ _ _ h S' => S'.know _ _ (h.2 _ _ hD)) ?_ ?_
  · clear S2 W2 hR hQ k
    intro i v O' σ' D2 s2 hi g30 hO' g31 S2
    refine cutQ fun Q' hQ => ?_
    obtain ⟨ti, rfl⟩ := g30
    obtain ⟨⟨t, rfl⟩, hs2⟩ := g31
    have hstep : (xs.take (i + 1)).foldl gcdGo 0 = gcdGo ((xs.take i).foldl gcdGo 0) (xs.getD i 0) := by
      rw [List.take_add_one, List.getElem?_eq_getElem hi, List.foldl_append, List.getD_eq_getElem?_getD, List.getElem?_eq_getElem hi]; rfl
    rw [hstep] at hQ
    generalize (xs.take i).foldl gcdGo 0 = w0 at *
    generalize xs.getD i 0 = v0 at *
    clear hstep
    refine wpAny_execs_cons ?_
    refine wpAny_While (loop_while (fun k σ' D' => ∃ x y tx ty, k = y.natAbs ∧ gcdGo x y = gcdGo w0 v0 ∧ σ' = ([("worth", .int x tx), ("one", .int y ty), ("numbers", .ref a)] : Vars) ∧ Sub D D') v0.natAbs ⟨w0, v0, _, _, rfl, rfl, rfl, hs2⟩ (S2.vars (by walk_at "vr")) ?_)
    clear S2
    intro k σ' D3 s3 g32 S3
    refine cutQ fun Q2 hQ2 => ?_
    obtain ⟨x, y, tx, ty, rfl, hg, rfl, hs3⟩ := g32
    (rename Ok _ _ _ _ _ _ _ _ => zS); refine PB.use zS (pb_ne (pi_name (by assumption) (by rfl) (by rfl)) pi_const (by rfl)) ?_; intro zs zN; clear zS
    by_cases hy : y = 0
    · subst hy
      refine hQ2 _ _ ?_
      rw [if_neg (by simp)]
      refine wpAny_execs_nil ?_
      rename Ok _ _ _ _ _ _ _ _ => S
      have hx : x = gcdGo w0 v0 := by rw [← hg, gcdGo_eq, dif_pos rfl]
      rw [← hx] at hQ
      exact hQ _ _ ⟨_, _, ⟨⟨tx, rfl⟩, hs3⟩, S.vars (by walk_at "vr")⟩
    · refine hQ2 _ _ ?_
      rw [if_pos (decide_eq_true hy)]
      clear hQ2
      refine cutQ fun Q2 hQ2 => ?_
      rename Ok _ _ _ _ _ _ _ _ => S
      refine wpAny_execs_cons ?_
      refine x_swap2 S R'.hh I hN ?_ rfl rfl
      refine Tuple_ ?_
      refine args_cons ?_ (by rfl)
      (rename Ok _ _ _ _ _ _ _ _ => zS); refine nm_local zS (by assumption) (by rfl) (by rfl) ?_ (by decide)
      refine args_cons ?_ (by rfl)
      (rename Ok _ _ _ _ _ _ _ _ => zS); refine PI.use zS (pi_mod (pi_name (by assumption) (by rfl) (by rfl)) (pi_name (by assumption) (by rfl) (by rfl)) (by first | assumption | decide | (walk_at "div"))) ?_; intro zt zs zN; clear zS
      refine args_nil ?_
      (rename Ok _ _ _ _ _ _ _ _ => zS); refine n_tup zS (Nat.le_of_ble_eq_true rfl) ?_; intro zl zs zh zE zN; clear zS
      refine .mk (by assumption) (by walk_at "dk") ?_
      rename Ok _ _ _ _ _ _ _ _ => S
      intro s4 S4
      clear S
      (rename Ok _ _ _ _ _ _ _ _ => zS); refine st_local zS (by assumption) (by rfl) ?_; intro zs zN; clear zS
      (rename Ok _ _ _ _ _ _ _ _ => zS); refine st_local zS (by assumption) (by rfl) ?_; intro zs zN; clear zS
      refine wpAny_execs_nil ?_
      rename Ok _ _ _ _ _ _ _ _ => S
      refine hQ2 _ _ ⟨_, _, _, fmod_lt_abs hy, ⟨y, x.fmod y, _, _, rfl, ?_, rfl, hs3.trans (by walk_at "ds")⟩, S.vars (by walk_at "vr")⟩
      rw [← hg, gcdGo_eq x y, dif_neg hy]
  · clear S2 W2
    rintro σ' D2 s2 ⟨⟨t, rfl⟩, hs2⟩ S2
    refine hR _ _ ?_
    refine wpAny_execs_cons ?_
    refine wpAny_Return_some ?_
    (rename Ok _ _ _ _ _ _ _ _ => zS); refine PI.use zS (pi_abs (by assumption) (by assumption) (by rfl) (pi_name (by assumption) (by rfl) (by rfl)) (fun _ _ => rfl)) ?_; intro zt zs zN; clear zS
    dsimp only
    rename Ok _ _ _ _ _ _ _ _ => S
    refine hQ _ _ ⟨_, _, S, fun s3 S3 => ?_⟩
    rw [List.take_length]
    exact k _ _ _ hs2 S3
end

section
variable {w : World} {A : Around} {E : Value → Shared → Prop}
variable {Hs : Heap} {se s : Shared} {mods : Addr → Prop} {env : Env} {O : Addr → Option Obj} {σ : Vars} {D : Know} {mg mb : Str → Option Value}
theorem law_stepped_spec (T : Wd w Hs mg mb) (Rr : Rm A 3) (S : Ok Hs se mods env O σ D s) {a : Addr} {ra : List Addr} {H : Mat} {n m r : Nat} {piv : Nat → Nat} {tw : Tok} {Q : Value → Shared → Prop}
    (hM : MatD D a ra H) (sh : Sh n m H) (hn : n ≤ 10) (hm : m ≤ 10) (P : Steps H n m r piv)
    (k : ∀ D' s', Sub D D' → Ok Hs se mods env O σ D' s' → Q (.bool true) s') :
    wpAny (model Pg w) A (call (.ref (fad mg "_law_is_stepped")) [.ref a, .int m tw]) Q E s := by
  refine enterW "_law_is_stepped" ["grid", "wide"] T Rr S rfl (fun _ _ _ => rfl) (fun _ _ _ => rfl) (by decide) (fun _ => False) (fun _ h => h.elim) (fun _ h => h.elim) ?_
  clear S Rr
  intro env' s' I hN S' R' V
  dsimp only at I hN
  refine cutQ fun Q' hQ => ?_
  (rename Ok _ _ _ _ _ _ _ _ => zS); refine sx_int zS (by assumption) (by rfl) (pi_neg pi_const) (by rfl) ?_; intro zt zs zN; clear zS
  refine wpAny_execs_cons ?_
  refine wpAny_For ?_ (fun _ => rfl)
  refine Call_ ?_ (by rfl)
  (rename Ok _ _ _ _ _ _ _ _ => zS); refine nm_built zS (by assumption) (Wd.B (by assumption)) (by rfl) (Wd.nob (by assumption) (by rfl)) ((Wd.bb (by assumption) _ (by decide)).trans (by first | exact b_range | exact b_len | exact b_list | exact b_enum | exact b_abs | exact b_min | exact b_sum)) ?_ (by decide)
  refine PyProof.Rows.callWith_type1 ?_ (by rfl) (by rfl)
  refine args_cons ?_ (by rfl)
  (rename Ok _ _ _ _ _ _ _ _ => zS); refine nm_local zS (by assumption) (by rfl) (by rfl) ?_ (by decide)
  refine args_nil ?_
  rename Ok _ _ _ _ _ _ _ _ => S
  refine r_enum_vals S hM.1 ?_
  intro e s1 S1 W
  clear S
  refine ready_e_iter W ?_
  refine cutR fun R2 hR => ?_
  refine loop_over_enum (n := n) (val := valV (ra.map Value.ref)) W R'.hh (S1.vars (σ' := ([("ahead", .int (-1) _), ("grid", .ref a), ("wide", .int m tw)] : Vars)) (by walk_at "vr")) (bnd_local I (by rfl)) (bnd_cell I (by rfl) (by rfl) (by first | exact Nat.le_succ _ | exact Nat.le_succ_of_le (Nat.le_succ _) | exact Nat.le_succ_of_le (Nat.le_succ_of_le (Nat.le_succ _))))
    (fun i σ' D' => (∃ av t, σ' = ([("ahead", .int av t), ("grid", .ref a), ("wide", .int m tw)] : Vars) ∧ (i < r → av < piv i)) ∧ Sub D D' ∧ i ≤ r) ⟨⟨_, _, rfl, fun _ => by lia⟩, Sub.refl, Nat.zero_le _⟩ (fun i σ' D' s2 h S2 => by have := need_vals S2 (h.2.1 _ _ hM.1); rw [List.length_map, hM.2.1, sh.1] at this; exact this) ?_ ?_
  · clear S1 W
    intro i v ti O' σ' D2 s2 hi hv hO' g33 S2
    refine cutQ fun Q2 hQ2 => ?_
    obtain ⟨⟨av, t, rfl, hav⟩, hs2, hir⟩ := g33
    obtain ⟨hi', rfl, hrow⟩ := hM.val hv
    have hlr := sh.row hi
    replace hrow := hs2 _ _ hrow
    refine wpAny_execs_cons ?_
    refine x_comp I (by rfl) (by rfl) (by decide) (fun _ => rfl) ((swaps_eq I hN _ _ _ _).trans rfl) ?_
    (rename Ok _ _ _ _ _ _ _ _ => zS); refine ev_range1 zS (by assumption) (by assumption) (by rfl) (pi_name (by assumption) (by rfl) (by rfl)) (fun _ _ => rfl) ?_; intro zr zs zN zq; clear zS
    dsimp only
    rename Ok _ _ _ _ _ _ _ _ => S
    refine r_range S R'.hh (by assumption) (by decide) (by decide) (by exact nle _) (by exact ncl (k := 10) (by assumption) rfl) (n := m) (by exact tns0 _) ?_
    intro it s3 S3 W3
    clear S
    refine tail_pure S3 W3 I (by rfl) rfl (by decide) (by rfl) (by rfl) (by exact lek (k := 10) (by assumption) rfl) (fun _ _ _ _ _ _ => trivial) (fun j => decide (el H i j ≠ 0)) (fun j => (j : Int)) ?_ ?_
    · rintro j v O6 cenv D6 s6 hj ⟨tj, rfl⟩ Ic hs6 S6
      dsimp only at Ic
      clear S3 W3 hQ2 k hQ hR
      rw [Int.zero_add] at S6 ⊢
      replace hrow := hs6 _ _ hrow
      refine ⟨?_, fun _ => ?_⟩
      · refine ts_one ?_
        (rename Ok _ _ _ _ _ _ _ _ => zS); refine PB.use zS (pb_ne (pi_at (pv_name (by assumption) (by rfl)) (by walk_at "dk") (pi_name (by assumption) (by rfl) (by rfl)) (by walk_at "ix") (by walk_at "bd") (by walk_at "bd") (fun _ _ => rfl)) pi_const (by rfl)) ?_; intro zs zN; clear zS
        dsimp only
        exact ⟨rfl, D6, Sub.refl, by assumption⟩
      · (rename Ok _ _ _ _ _ _ _ _ => zS); refine nm_local zS (by assumption) (by rfl) (by rfl) ?_ (by decide)
        dsimp only
        exact ⟨_, _, rfl, Sub.refl, by assumption⟩
    intro l4 cenv O4 s4 hl4 hlE4 K4 S4
    refine post_use I (by rfl) K4 S4 fun s5 S5 => ?_
    clear S3 W3 S4
    have hs4 := Sub.new (c := Cell.zs (picked (fun j => decide (el H i j ≠ 0)) (fun j => (j : Int)) m)) hl4
    refine wpAny_execs_cons ?_
    refine wpAny_If ?_
    refine wpAny_isTrue_Compare1 ?_ (by rfl)
    (rename Ok _ _ _ _ _ _ _ _ => zS); refine nm_local zS (by assumption) (by rfl) (by rfl) ?_ (by decide)
    refine List_ ?_
    refine args_nil ?_
    rename Ok _ _ _ _ _ _ _ _ => S
    refine n_vals S (by simp) fun l6 s6 hl6 hE6 S6 => ?_
    clear S
    refine q_eq_nil S6 R' (Sub.new hl6 _ _ (upd_same ..)) (upd_same ..) (.inl ⟨_, rfl, rfl⟩) ?_
    by_cases hr : i < r
    · obtain ⟨rest, hp⟩ := pick_first (p := fun j => decide (el H i j ≠ 0)) (f := fun j => (j : Int)) (q := piv i) (fun j hj => decide_eq_false (by rw [P.left i hr j hj]; simp)) (decide_eq_true (by have := P.pos i hr; lia)) (P.pm i hr)
      have hpk : picked (fun j => decide (el H i j ≠ 0)) (fun j => (j : Int)) m = (piv i : Int) :: rest := hp
      rw [hpk] at S6 hl6 hs4 ⊢
      have hpm := P.pm i hr
      rw [show decide (((piv i : Int) :: rest).length = 0) = false from rfl]
      have hlen : ((piv i : Int) :: rest).length ≤ 20 := by rw [← hpk]; exact Nat.le_trans (picked_length _ _ _) (by exact lek (k := 10) (by assumption) rfl)
      refine q_truth ?_
      refine Eq.mpr (if_neg (by with_reducible exact Bool.false_ne_true)) ?_
      refine wpAny_execs_nil ?_
      refine wpAny_execs_cons ?_
      refine wpAny_Assign_Name ?_ (by rfl)
      refine e_sub ?_
      (rename Ok _ _ _ _ _ _ _ _ => zS); refine nm_local zS (by assumption) (by rfl) (by rfl) ?_ (by decide)
      (rename Ok _ _ _ _ _ _ _ _ => zS); refine c_int zS ?_; intro zt zs zN; clear zS
      dsimp only
      rename Ok _ _ _ _ _ _ _ _ => S
      refine t_el S (Sub.new hl6 _ _ (upd_same ..)) (j := 0) rfl (by simp) (by lia) (fun _ _ => rfl) fun t7 => ?_
      rw [show ((piv i : Int) :: rest).getD 0 0 = (piv i : Int) from rfl]
      have hav' := hav hr
      have hpos := P.pos i hr
      have hs6 : Sub D2 _ := (hs4.trans (Sub.new (c := .vals []) hl6))
      replace hrow := hs6 _ _ hrow
      have hM6 := hM.sub (hs2.trans hs6)
      (rename Ok _ _ _ _ _ _ _ _ => zS); refine st_cell zS (by assumption) (by rfl) (by rfl) (by first | exact Nat.le_succ _ | exact Nat.le_succ_of_le (Nat.le_succ _) | exact Nat.le_succ_of_le (Nat.le_succ_of_le (Nat.le_succ _)) | exact Nat.le_succ_of_le (Nat.le_succ_of_le (Nat.le_succ_of_le (Nat.le_succ _))) | exact Nat.le_succ_of_le (Nat.le_succ_of_le (Nat.le_succ_of_le (Nat.le_succ_of_le (Nat.le_succ _))))) ?_; intro zs zN; clear zS
      refine wpAny_execs_cons ?_
      refine wpAny_If ?_
      refine wpAny_isTrue_BoolOp ?_
      refine wpAny_allTrue_Or_cons ?_
      (rename Ok _ _ _ _ _ _ _ _ => zS); refine PB.use zS (pb_le (pi_name (by assumption) (by rfl) (by rfl)) (pi_name (by assumption) (by rfl) (by rfl)) (by rfl)) ?_; intro zs zN; clear zS
      rw [show decide ((piv i : Int) ≤ av) = false from decide_eq_false (by lia)]
      refine Eq.mpr (if_neg (by with_reducible exact Bool.false_ne_true)) ?_
      refine wpAny_allTrue_Or_cons ?_
      (rename Ok _ _ _ _ _ _ _ _ => zS); refine PB.use zS (pb_lt (pi_at (pv_name (by assumption) (by rfl)) (by walk_at "dk") (pi_name (by assumption) (by rfl) (by rfl)) (by walk_at "ix") (by walk_at "bd") (by walk_at "bd") (fun _ _ => rfl)) pi_const (by rfl)) ?_; intro zs zN; clear zS
      rw [show decide ((row H i).getD (piv i) 0 < 0) = false from decide_eq_false (by show ¬ el H i (piv i) < 0; lia)]
      refine Eq.mpr (if_neg (by with_reducible exact Bool.false_ne_true)) ?_
      refine wpAny_allTrue_Or_nil ?_
      refine Eq.mpr (if_neg (by with_reducible exact Bool.false_ne_true)) ?_
      refine wpAny_execs_nil ?_
      refine wpAny_execs_cons ?_
      refine wpAny_If ?_
      refine wpAny_isTrue_Compare1 ?_ (by rfl)
      refine e_comp (by assumption) (by rfl) (by rfl) (by decide) (fun _ => rfl) ?_
      (rename Ok _ _ _ _ _ _ _ _ => zS); refine e_to zS ?_ (fun _ _ => rfl)
      (rename Ok _ _ _ _ _ _ _ _ => zS); refine nm_local zS (by assumption) (by rfl) (by rfl) ?_ (by decide)
      (rename Ok _ _ _ _ _ _ _ _ => zS); refine nm_local zS (by assumption) (by rfl) (by rfl) ?_ (by decide)
      rename Ok _ _ _ _ _ _ _ _ => S
      refine .mk a (.vals (ra.map Value.ref)) i _ _ _ S hM6.1 (show (ra.map Value.ref).length ≤ 1000000 by rw [List.length_map, hM.2.1, sh.1]; exact lek (k := 10) (by assumption) rfl) fun l8 s8 hl8 hE8 S8 => ?_
      clear S
      refine r_vals S8 R'.hh (upd_same ..) ?_
      intro it9 s9 S9 W9
      clear S8
      have hln : ((ra.map Value.ref).take i).length = i := by rw [List.length_take, List.length_map, hM.2.1, sh.1]; lia
      refine tail_pure S9 W9 I (by rfl) rfl (by decide) (by rfl) (by rfl) (Nat.le_trans (Nat.le_of_eq hln) (by lia)) (fun _ _ _ _ hs S' => S'.know _ _ (hs _ _ (upd_same ..))) (fun _ => false) (fun _ => 1) ?_ ?_
      · rintro q v O6 cenv D6 s10 hq hv Ic hs10 S10
        dsimp only at Ic
        have hqi : q < i := by rw [← hln]; exact hq
        have hv' : valV (ra.map Value.ref) q v := by
          simp only [valV, List.getElem?_take] at hv ⊢
          rw [if_pos hqi] at hv; exact hv
        obtain ⟨hq', rfl, hrq⟩ := (hM6.sub (Sub.new hl8)).val hv'
        replace hrq := hs10 _ _ hrq
        have hlq := sh.row (i := q) (by lia)
        replace hrow := hs10 _ _ (Sub.new hl8 _ _ hrow)
        obtain ⟨u1, u2, u3⟩ := P.up i hr q hqi
        clear S9 W9 hQ2 k hQ hR
        refine ⟨?_, fun h => nomatch h⟩
        refine ts_one ?_
        refine wpAny_isTrue_Not ?_
        refine isTrue_chain ?_ (by rfl)
        (rename Ok _ _ _ _ _ _ _ _ => zS); refine c_int zS ?_; intro zt zs zN; clear zS
        dsimp only
        refine test_link ?_
        (rename Ok _ _ _ _ _ _ _ _ => zS); refine PI.use zS (pi_at (pv_name (by assumption) (by rfl)) (by walk_at "dk") (pi_name (by assumption) (by rfl) (by rfl)) (by walk_at "ix") (by walk_at "bd") (by walk_at "bd") (fun _ _ => rfl)) ?_; intro zt zs zN; clear zS
        refine q_le ?_
        refine q_truth ?_
        rw [show decide ((0 : Int) ≤ (row H q).getD (piv i) 0) = true from decide_eq_true u2]
        refine Eq.mpr (if_pos (by with_reducible rfl)) ?_
        refine test_last ?_
        (rename Ok _ _ _ _ _ _ _ _ => zS); refine PI.use zS (pi_at (pv_name (by assumption) (by rfl)) (by walk_at "dk") (pi_name (by assumption) (by rfl) (by rfl)) (by walk_at "ix") (by walk_at "bd") (by walk_at "bd") (fun _ _ => rfl)) ?_; intro zt zs zN; clear zS
        refine q_lt ?_
        refine q_truth ?_
        refine ⟨?_, D6, Sub.refl, by assumption⟩
        rw [show decide ((row H q).getD (piv i) 0 < (row H i).getD (piv i) 0) = true from decide_eq_true u3]; rfl
      · intro l10 cenv O10 s10 hl10 hlE10 K10 S10
        refine post_none K10 S10 fun s11 S11 => ?_
        clear S9 W9 S10
        have hp0 : picked (fun _ => false) (fun _ => 1) ((ra.map Value.ref).take i).length = [] := pick_none (p := fun _ => false) fun _ _ => rfl
        rw [hp0] at S11
        refine List_ ?_
        refine args_nil ?_
        rename Ok _ _ _ _ _ _ _ _ => S
        refine n_vals S (by simp) fun l12 s12 hl12 hE12 S12 => ?_
        clear S
        refine q_ne_nil S12 R' (Sub.new hl12 _ _ (upd_same ..)) (upd_same ..) (.inl ⟨_, rfl, rfl⟩) ?_
        refine q_truth ?_
        refine Eq.mpr (if_neg (show (!true) = true → False from Bool.false_ne_true)) ?_
        refine wpAny_execs_nil ?_
        (rename Ok _ _ _ _ _ _ _ _ => zS); refine sx_int zS (by assumption) (by rfl) (pi_name (by assumption) (by rfl) (by rfl)) (by rfl) ?_; intro zt zs zN; clear zS
        refine wpAny_execs_nil ?_
        rename Ok _ _ _ _ _ _ _ _ => S
        refine hQ2 _ _ ⟨_, _, ⟨⟨_, _, rfl, fun h => ?_⟩, ?_, hr⟩, S.vars (by walk_at "vr")⟩
        · have := (P.up (i + 1) h i (by lia)).1
          lia
        · exact (hs2.trans hs6).trans (by walk_at "ds")
    · have hri : i = r := by lia
      have hz := fun q (h1 : i ≤ q) (h2 : q < n) => P.rest q (by lia) h2
      have hpk : picked (fun j => decide (el H i j ≠ 0)) (fun j => (j : Int)) m = [] := pick_none fun j hj => decide_eq_false (by rw [hz i (Nat.le_refl _) hi j hj]; simp)
      rw [hpk] at S6 hl6 hs4 ⊢
      have hs6 : Sub D2 _ := (hs4.trans (Sub.new (c := .vals []) hl6))
      have hM6 := hM.sub (hs2.trans hs6)
      refine q_truth ?_
      refine Eq.mpr (if_pos (by show (Value.none == Value.none) = true; rfl)) ?_
      refine wpAny_execs_cons ?_
      refine wpAny_Return_some ?_
      refine wpAny_Compare1 ?_ (by rfl)
      refine e_comp (by assumption) (by rfl) (by rfl) (by decide) (fun _ => rfl) ?_
      (rename Ok _ _ _ _ _ _ _ _ => zS); refine e_from zS ?_ (fun _ _ => rfl)
      (rename Ok _ _ _ _ _ _ _ _ => zS); refine nm_local zS (by assumption) (by rfl) (by rfl) ?_ (by decide)
      (rename Ok _ _ _ _ _ _ _ _ => zS); refine nm_local zS (by assumption) (by rfl) (by rfl) ?_ (by decide)
      dsimp only
      rename Ok _ _ _ _ _ _ _ _ => S
      refine .mk a (.vals (ra.map Value.ref)) i _ _ _ S hM6.1 (show (ra.map Value.ref).length ≤ 1000000 by rw [List.length_map, hM.2.1, sh.1]; exact lek (k := 10) (by assumption) rfl) fun l8 s8 hl8 hE8 S8 => ?_
      clear S
      refine r_vals S8 R'.hh (upd_same ..) ?_
      intro it9 s9 S9 W9
      clear S8
      have hln : ((ra.map Value.ref).drop i).length ≤ 10 := by rw [List.length_drop, List.length_map, hM.2.1, sh.1]; lia
      refine tail_pure S9 W9 I (by rfl) rfl (by decide) (by rfl) (by rfl) (Nat.le_trans hln (by decide)) (fun _ _ _ _ hs S' => S'.know _ _ (hs _ _ (upd_same ..))) (fun _ => false) (fun _ => 1) ?_ ?_
      · rintro q v O6 cenv D6 s10 hq hv Ic hs10 S10
        dsimp only at Ic
        have hv' : valV (ra.map Value.ref) (i + q) v := by
          simp only [valV, List.getElem?_drop] at hv ⊢; exact hv
        obtain ⟨hq', rfl, hrq⟩ := (hM6.sub (Sub.new hl8)).val hv'
        replace hrq := hs10 _ _ hrq
        have hlq := sh.row (i := i + q) (by rw [← sh.1]; exact hq')
        have hzq := hz (i + q) (by lia) (by rw [← sh.1]; exact hq')
        clear S9 W9 hQ2 k hQ hR
        refine ⟨?_, fun h => nomatch h⟩
        refine ts_one ?_
        refine wpAny_isTrue_Compare1 ?_ (by rfl)
        refine e_comp (by assumption) (by rfl) (by rfl) (by decide) (fun _ => rfl) ?_
        (rename Ok _ _ _ _ _ _ _ _ => zS); refine nm_local zS (by assumption) (by rfl) (by rfl) ?_ (by decide)
        dsimp only
        rename Ok _ _ _ _ _ _ _ _ => S
        refine r_zs S R'.hh hrq ?_
        intro it11 s11 S11 W11
        clear S
        refine tail_pure S11 W11 Ic (by rfl) rfl (by decide) (by rfl) (by rfl) (by lia) (fun _ _ _ _ hs S' => S'.know _ _ (hs _ _ hrq)) (fun j => decide ((row H (i + q)).getD j 0 ≠ 0)) (fun j => (row H (i + q)).getD j 0) ?_ ?_
        · rintro j v O12 cenv12 D12 s12 hj ⟨tj, rfl⟩ Ic12 hs12 S12
          dsimp only at Ic12
          clear S11 W11
          refine ⟨?_, fun _ => ?_⟩
          · refine ts_one ?_
            (rename Ok _ _ _ _ _ _ _ _ => zS); refine PB.use zS (pb_ne (pi_name (by assumption) (by rfl) (by rfl)) pi_const (by rfl)) ?_; intro zs zN; clear zS
            dsimp only
            exact ⟨rfl, D12, Sub.refl, by assumption⟩
          · (rename Ok _ _ _ _ _ _ _ _ => zS); refine nm_local zS (by assumption) (by rfl) (by rfl) ?_ (by decide)
            dsimp only
            exact ⟨_, _, rfl, Sub.refl, by assumption⟩
        · intro l12 cenv12 O12 s12 hl12 hlE12 K12 S12
          refine post_none K12 S12 fun s13 S13 => ?_
          clear S11 W11 S12
          rw [show picked (fun j => decide ((row H (i + q)).getD j 0 ≠ 0)) (fun j => (row H (i + q)).getD j 0) (row H (i + q)).length = [] from pick_none fun j hj => decide_eq_false (by have := hzq j (by lia); unfold el at this; rw [this]; simp)] at S13
          refine List_ ?_
          refine args_nil ?_
          rename Ok _ _ _ _ _ _ _ _ => S
          refine n_vals S (by simp) fun l14 s14 hl14 hE14 S14 => ?_
          clear S
          refine q_ne_nil S14 R' (Sub.new hl14 _ _ (upd_same ..)) (upd_same ..) (.inl ⟨_, rfl, rfl⟩) ?_
          refine q_truth ?_
          exact ⟨rfl, _, (Sub.new hl12).trans (Sub.new hl14), by assumption⟩
      · intro l10 cenv O10 s10 hl10 hlE10 K10 S10
        refine post_none K10 S10 fun s11 S11 => ?_
        clear S9 W9 S10
        rw [show picked (fun _ => false) (fun _ => 1) _ = [] from pick_none (p := fun _ => false) fun _ _ => rfl] at S11
        refine List_ ?_
        refine args_nil ?_
        rename Ok _ _ _ _ _ _ _ _ => S
        refine n_vals S (by simp) fun l12 s12 hl12 hE12 S12 => ?_
        clear S
        refine q_eq_nil S12 R' (Sub.new hl12 _ _ (upd_same ..)) (upd_same ..) (.inl ⟨_, rfl, rfl⟩) ?_
        rw [show decide (([] : List Int).length = 0) = true from rfl]
        rename Ok _ _ _ _ _ _ _ _ => S
        refine hQ2 _ _ ?_
        refine hR _ _ ?_
        dsimp only
        exact hQ _ _ ⟨_, _, S.lessO (O := fun _ => none) hO', fun s13 S13 => k _ _ ((hs2.trans hs6).trans (by walk_at "ds")) S13⟩
  · clear S1 W
    rintro σ' D2 s2 ⟨⟨av, t, rfl, hav⟩, hs2, hir⟩ S2
    refine hR _ _ ?_
    refine wpAny_execs_cons ?_
    refine wpAny_Return_some ?_
    refine c_bool ?_
    dsimp only
    exact hQ _ _ ⟨_, _, S2, fun s3 S3 => k _ _ hs2 S3⟩
end

section
variable {w : World} {A : Around} {E : Value → Shared → Prop}
variable {Hs : Heap} {se s : Shared} {mods : Addr → Prop} {env : Env} {O : Addr → Option Obj} {σ : Vars} {D : Know} {mg mb : Str → Option Value}
theorem law_parts_spec (T : Wd w Hs mg mb) (Rr : Rm A 8) (S : Ok Hs se mods env O σ D s) {a : Addr} {ra : List Addr} {G : Mat} {n m k : Nat} {t1 t2 : Tok} {Q : Value → Shared → Prop}
    (hM : MatD D a ra G) (sh : Sh n m G) (hn : n ≤ 3) (hm : m ≤ 3) (hk : k ≤ 3)
    (kk : ∀ l rs D' s', Sub D D' → D' l = some (.refs rs) → MatsD D' rs (parts G k n m) → Ok Hs se mods env O σ D' s' → Q (.ref l) s') :
    wpAny (model Pg w) A (call (.ref (fad mg "_law_parts")) [.ref a, .int k t1, .int m t2]) Q E s := by
  refine enterW "_law_parts" ["grid", "size", "wide"] T Rr S rfl (fun _ _ _ => rfl) (fun _ _ _ => rfl) (by decide) (fun _ => False) (fun _ h => h.elim) (fun _ h => h.elim) ?_
  clear S Rr
  intro env' s' I hN S' R' V
  dsimp only at I hN
  refine cutQ fun Q' hQ => ?_
  refine wpAny_execs_cons ?_
  refine wpAny_Return_some ?_
  refine e_comp2 I (by rfl) rfl (by decide) (fun _ => rfl) ?_
  (rename Ok _ _ _ _ _ _ _ _ => zS); refine ev_call zS (by assumption) (by assumption) (by rfl) (by rfl) (by decide) (pa_int (pi_len (by assumption) (by assumption) (by rfl) (pv_name (by assumption) (by rfl)) (by walk_at "mt") (by assumption) (by walk_at "bd") (fun _ _ => rfl)) (pa_int (pi_name (by assumption) (by rfl) (by rfl)) pa_nil (fun _ _ => rfl)) (fun _ _ => rfl)) (fun _ _ => rfl) ?_; intro zt zs zN; clear zS
  dsimp only
  rename Ok _ _ _ _ _ _ _ _ => S
  refine law_choices_spec T k (R'.le (by lia)) S hk hn fun ll rl D1 s1 hs1 hll hML S1 => ?_
  clear S
  have hfL := chI_few k (by lia) n (by lia)
  have hiL := chI_in k (by lia) n (by lia)
  have hfS := chI_few k (by lia) m (by lia)
  have hiS := chI_in k (by lia) m (by lia)
  refine r_vals S1 R'.hh hML.1 ?_
  intro it s2 S2 W2
  obtain ⟨⟨Pos', o₀, W, h0, hp⟩, hO, hE⟩ := W2
  clear S1
  refine comp_tail S2 I (by rfl) rfl (by decide) (by rfl) fun l cenv O' s3 hl hlE Ic Sc K keep hOf => ?_
  dsimp only at Ic
  have hM1 := hM.sub hs1
  clear hM S2
  obtain ⟨vs, hd⟩ := W.fld _ _ hp
  refine cs_start2 (fun Q h => W.self 0 s3 o₀ Q NoE (keep _ _ h0) hp h) ?_
  have hlen : (rl.map Value.ref).length = (chI k n).length := by rw [List.length_map]; exact hML.2.1
  refine cutR fun R2 hR => ?_
  generalize hσ : taken _ _ = σc at Sc
  refine comp_outer W Sc (hOf _ _ _ h0 hd hO) hE (keep _ _ h0) hp (fun _ => rfl) (bnd_local Ic (by rfl))
    (fun i ws σ' D' => σ' = σc ∧ i ≤ (chI k n).length ∧ But l D1 D' ∧ ∃ rs : List Addr, ws = rs.map Value.ref ∧ D' l = some (.vals ws) ∧ (∀ r ∈ rs, r ≠ l) ∧ MatsD D' rs (partsUpto G k n m i))
    ⟨rfl, Nat.zero_le _, fun b c hb e => by rw [upd_ne hb]; exact e, [], rfl, upd_same .., (fun r h => nomatch h), rfl, fun i r P h => nomatch h⟩ ?_ ?_ ?_
  · rintro i ws σ' D' s4 ⟨rfl, hi, hb, rs, rfl, _⟩ S4
    exact S4.know _ _ (hb _ _ (ne_new hML.1 hl) hML.1)
  · clear hR hQ kk
    subst hσ
    intro i v O2 ws σ' D' s4 hi hv hO2 g34 S4
    refine cutQ fun Q' hQ => ?_
    obtain ⟨rfl, _, hb, rs, rfl, hDl, hrl, hP⟩ := g34
    have hls := hML.val hv
    obtain ⟨hiL', rfl, hrow0⟩ := hls
    have hrowL : D' (rl.getD i 0) = some (.zs (row (chI k n) i)) := hb _ _ (fun e => by rw [e, hl] at hrow0; cases hrow0) hrow0
    have hll' : (row (chI k n) i).length = k := hfL.2 _ (row_mem hiL')
    have hLin := fun q (hq : q < (row (chI k n) i).length) => rowMem (P := fun y => 0 ≤ y ∧ y < n) hiL hiL' hq
    have hMG : MatD D' a ra G := ⟨hb _ _ (fun e => by rw [← e, hM1.1] at hl; cases hl) hM1.1, hM1.2.1, fun z r x e1 e2 => hb _ _ (fun e => by have := hM1.2.2 z r x e1 e2; rw [e, hl] at this; cases this) (hM1.2.2 z r x e1 e2)⟩
    have hsuc := partsUpto_succ (G := G) (m := m) hiL'
    have hrlen := hP.1
    refine ts_nil ?_
    refine hQ _ _ ?_
    rw [if_pos rfl]
    clear hQ
    refine cutQ fun Q' hQ => ?_
    (rename Ok _ _ _ _ _ _ _ _ => zS); refine ev_call zS (by assumption) (by assumption) (by rfl) (by rfl) (by decide) (pa_int (pi_name (by assumption) (by rfl) (by rfl)) (pa_int (pi_name (by assumption) (by rfl) (by rfl)) pa_nil (fun _ _ => rfl)) (fun _ _ => rfl)) (fun _ _ => rfl) ?_; intro zt zs zN; clear zS
    dsimp only
    rename Ok _ _ _ _ _ _ _ _ => S
    refine law_choices_spec T k (R'.le (by lia)) S hk hm fun lp rp D5 s5 hs5 hlp hMP S5 => ?_
    clear S
    refine hQ _ _ ?_
    refine r_vals S5 R'.hh hMP.1 ?_
    intro it6 s6 S6 W6
    obtain ⟨⟨Pos6, o6, W6, h06, hp6⟩, hO6, hE6⟩ := W6
    clear S5 hQ
    refine cs_start2' (fun Q h => W6.self 0 s6 o6 Q NoE h06 hp6 h) ?_
    have hlen6 : (rp.map Value.ref).length = (chI k m).length := by rw [List.length_map]; exact hMP.2.1
    have hDl5 := hs5 _ _ hDl
    have hlpl : lp ≠ l := fun e => by rw [e, hDl] at hlp; cases hlp
    have hrpl : ∀ r ∈ rp, r ≠ l := fun r hr e => by obtain ⟨x, hx⟩ := hMP.known hr; rw [e, hDl5] at hx; cases hx
    have hP5 := hP.sub hs5
    have hMG5 := hMG.sub hs5
    have hrow5 := hs5 _ _ hrowL
    refine cutR fun R3 hR3 => ?_
    refine comp_gen (.inr ⟨_, _, _, rfl, rfl⟩) W6 S6 hO6 hE6 h06 hp6 (bnd_cell Ic (by rfl) (by rfl) (by first | exact Nat.le_succ _ | exact Nat.le_succ_of_le (Nat.le_succ _) | exact Nat.le_succ_of_le (Nat.le_succ_of_le (Nat.le_succ _)))) (.inr hlE)
      (fun j ws σ' D' => σ' = _ ∧ j ≤ (chI k m).length ∧ But l D5 D' ∧ ∃ rs2 : List Addr, ws = rs2.map Value.ref ∧ D' l = some (.vals ws) ∧ (∀ r ∈ rs2, r ≠ l) ∧ MatsD D' rs2 (partsUpto G k n m i ++ (partsRow G k m (row (chI k n) i)).take j))
      ⟨rfl, Nat.zero_le _, fun b c _ e => e, rs, rfl, hDl5, hrl, by rw [List.take_zero, List.append_nil]; exact hP5⟩ ?_ ?_ ?_ ?_
    · rintro j ws σ' D7 ⟨_, hj, _, rs2, rfl, hDl7, _, hP7⟩
      refine ⟨hDl7, ?_⟩
      rw [List.length_map, hP7.1, List.length_append, ← hP.1, List.length_take]
      have h1 : (partsUpto G k n m i).length ≤ 100 := by
        have : ∀ q, q ≤ (chI k n).length → (partsUpto G k n m q).length ≤ 3 * q := by
          intro q
          induction q with
          | zero => intro _; simp [partsUpto]
          | succ q ihq =>
            intro hq
            rw [partsUpto_succ (by assumption), List.length_append]
            have := ihq (by exact Nat.le_of_lt (by assumption))
            have h2 : (partsRow G k m (row (chI k n) q)).length ≤ 3 := by unfold partsRow; rw [List.length_map]; exact hfS.1
            lia
        have := this i (by assumption)
        have := hfL.1
        lia
      rw [← hP.1] at h1
      have : min j (partsRow G k m (row (chI k n) i)).length ≤ 3 := Nat.le_trans (Nat.min_le_left _ _) (by have := hfS.1; lia)
      lia
    · rintro j ws σ' D7 s7 ⟨rfl, hj, hb7, rs2, rfl, hDl7, _, hP7⟩ S7
      exact S7.know _ _ (hb7 _ _ hlpl hMP.1)
    · clear hR3
      intro j v O7 ws σ' D7 s7 hj hv7 hO7 g35 S7
      refine cutQ fun Q' hQ => ?_
      obtain ⟨rfl, _, hb7, rs2, rfl, hDl7, hrl7, hP7⟩ := g35
      obtain ⟨hjL, rfl, hrow7⟩ := hMP.val hv7
      have hrowS := hb7 _ _ (hrpl _ (by
        have : j < rp.length := by rw [hMP.2.1]; exact hjL
        rw [List.getD_eq_getElem?_getD, List.getElem?_eq_getElem this]; simp)) hrow7
      have hls7 : (row (chI k m) j).length = k := hfS.2 _ (row_mem hjL)
      have hSin := fun q (hq : q < (row (chI k m) j).length) => rowMem (P := fun y => 0 ≤ y ∧ y < m) hiS hjL hq
      have hrowL7 := hb7 _ _ (fun e => by rw [e, hDl5] at hrow5; cases hrow5) hrow5
      have hMG7 : MatD D7 a ra G := ⟨hb7 _ _ (fun e => by have := hM1.1; rw [e, hl] at this; cases this) hMG5.1, hM1.2.1, fun z r x e1 e2 => hb7 _ _ (fun e => by have := hMG5.2.2 z r x e1 e2; rw [e, hDl5] at this; cases this) (hMG5.2.2 z r x e1 e2)⟩
      refine ts_nil ?_
      refine hQ _ _ ?_
      rw [if_pos rfl]
      clear hQ
      refine cutQ fun Q' hQ => ?_
      refine e_comp (by assumption) (by rfl) (by rfl) (by decide) (fun _ => rfl) ?_
      (rename Ok _ _ _ _ _ _ _ _ => zS); refine nm_local zS (by assumption) (by rfl) (by rfl) ?_ (by decide)
      rename Ok _ _ _ _ _ _ _ _ => S
      refine r_zs S R'.hh hrowL7 ?_
      intro it8 s8 S8 W8
      clear S
      generalize hLs : row (chI k n) i = ls at *
      generalize hSs : row (chI k m) j = ss at *
      refine tail_new S8 W8 Ic (by rfl) rfl (by decide) (by rfl) (.inr (by rfl)) (by lia) (fun _ _ _ _ hs S' => S'.know _ _ (hs _ _ hrowL7)) (fun q => ss.map fun y => el G (ls.getD q 0).toNat y.toNat) ?_ ?_
      · rintro q v O9 cenv9 D9 s9 hq ⟨tq, rfl⟩ Ic9 hs9 S9
        dsimp only at Ic9
        obtain ⟨q1, q2⟩ := hLin q hq
        obtain ⟨o, ho⟩ : ∃ o : Nat, ls.getD q 0 = (o : Int) := ⟨(ls.getD q 0).toNat, by lia⟩
        rw [ho] at S9 q2 ⊢
        have hon : o < n := by lia
        have hMG9 := hMG7.sub hs9
        have hrowS9 := hs9 _ _ hrowS
        clear S8 W8 hQ
        refine ⟨?_, ?_⟩
        · refine ts_nil ?_
          dsimp only
          exact ⟨rfl, D9, Sub.refl, S9⟩
        · refine cutQ fun Q' hQ => ?_
          refine e_comp (by assumption) (by rfl) (by rfl) (by decide) (fun _ => rfl) ?_
          (rename Ok _ _ _ _ _ _ _ _ => zS); refine nm_cell zS (by assumption) (.inr (by rfl)) (by rfl) (by rfl) ?_ (by decide) (by decide)
          rename Ok _ _ _ _ _ _ _ _ => S
          refine r_zs S R'.hh hrowS9 ?_
          intro it10 s10 S10 W10
          clear S
          refine tail_pure S10 W10 Ic9 (by rfl) rfl (by decide) (by rfl) (by rfl) (by lia) (fun _ _ _ _ hs S' => S'.know _ _ (hs _ _ hrowS9)) (fun _ => true) (fun z => el G o (ss.getD z 0).toNat) ?_ ?_
          · rintro z v O11 cenv11 D11 s11 hz ⟨tz, rfl⟩ Ic11 hs11 S11
            dsimp only at Ic11
            obtain ⟨z1, z2⟩ := hSin z hz
            obtain ⟨c, hc⟩ : ∃ c : Nat, ss.getD z 0 = (c : Int) := ⟨(ss.getD z 0).toNat, by lia⟩
            rw [hc] at S11 z2 ⊢
            have hcm : c < m := by lia
            have hMG11 := hMG9.sub hs11
            clear S10 W10 hQ
            refine ⟨?_, fun _ => ?_⟩
            · refine ts_nil ?_
              dsimp only
              exact ⟨rfl, D11, Sub.refl, S11⟩
            · (rename Ok _ _ _ _ _ _ _ _ => zS); refine PI.use zS (pi_el (pv_name (by assumption) (by rfl)) (by walk_at "mt") (by assumption) (pi_name (by assumption) (by rfl) (by rfl)) (by walk_at "ix") (by walk_at "bd") (by walk_at "bd") (fun _ _ => rfl) (pi_name (by assumption) (by rfl) (by rfl)) (by walk_at "ix") (by walk_at "bd") (by walk_at "bd") (fun _ _ => rfl)) ?_; intro zt zs zN; clear zS
              dsimp only
              exact ⟨_, _, by rw [Int.toNat_natCast], Sub.refl, by assumption⟩
          · intro l12 cenv12 O12 s12 hl12 hlE12 K12 S12
            refine post_none K12 S12 fun s13 S13 => hQ _ _ ⟨l12, _, rfl, hl12, hlE12, Sub.new hl12, ?_, S13⟩
            rw [upd_same, picked_tab, Int.toNat_natCast, tab_map ss fun y => el G o y.toNat]
      · intro lm rm D10 cenv10 O10 s10 hlm hlmE hlenm hrs hnd hsub hlD hG K10 S10
        refine post_none K10 S10 fun s11 S11 => hQ _ _ ?_
        have hMm : MatD D10 lm rm (subM G ls ss) := ⟨hlD, by rw [hlenm]; simp [subM], fun q r x h1 h2 => by
          rw [hG q r h1]
          unfold subM at h2
          rw [List.getElem?_map] at h2
          cases hx : ls[q]? with
          | none => rw [hx] at h2; cases h2
          | some y => rw [hx] at h2; cases h2; rw [List.getD_eq_getElem?_getD, hx]; rfl⟩
        have hlml : lm ≠ l := fun e => by rw [e, hDl7] at hlm; cases hlm
        refine ⟨_, D10, S11.vars ?_, hsub _ _ hDl7, rfl, by rw [← hlen6]; exact hj, fun b c hb e => ?_, rs2 ++ [lm], by simp, upd_same .., ?_, ?_⟩
        · walk_at "vr"
        · rw [upd_ne hb]; exact hsub _ _ (hb7 b c hb e)
        · intro r hr
          rcases List.mem_append.mp hr with h | h
          · exact hrl7 r h
          · rw [List.mem_singleton.mp h]; exact hlml
        · have hnext : (partsRow G k m ls).take (j + 1) = (partsRow G k m ls).take j ++ [subM G ls ss] := by
            unfold partsRow
            rw [List.take_add_one, List.getElem?_map, List.getElem?_eq_getElem hjL, ← hSs]
            unfold row
            rw [List.getD_eq_getElem?_getD, List.getElem?_eq_getElem hjL]; rfl
          rw [hnext, ← List.append_assoc]
          refine MatsD.snoc (rr := rm) ((hP7.sub hsub).but (D₀ := D10) (l := l) (fun b c hb e => by rw [upd_ne hb]; exact e) fun r hr => ⟨?_, fun rr P q z => ?_⟩) ?_
          · exact hrl7 r hr
          · obtain ⟨x, hx⟩ := q.known z; rw [hsub _ _ hDl7] at hx; cases hx
          · exact ⟨by rw [upd_ne hlml]; exact hMm.1, hMm.2.1, fun q r x h1 h2 => by
              rw [upd_ne (fun e => by
                have := hMm.2.2 q r x h1 h2
                rw [e, hsub _ _ hDl7] at this; cases this)]
              exact hMm.2.2 q r x h1 h2⟩
    · rintro ws σ' D7 s7 ⟨rfl, hj, hb7, rs2, rfl, hDl7, hrl7, hP7⟩ S7
      refine hR3 _ _ ?_
      refine ⟨_, _, D7, S7.vars ?_, rfl, hiL', fun b c hbl e => hb7 b c hbl (hs5 _ _ (hb b c hbl e)), rs2, rfl, hDl7, hrl7, ?_⟩
      · walk_at "vr"
      · rw [hsuc]
        rw [hlen6, List.take_of_length_le (by unfold partsRow; simp)] at hP7
        exact hP7
  · rintro ws σ' D' s4 ⟨rfl, hi, hb, rs, rfl, hDl, hrl, hP⟩ S4
    refine hR _ _ ?_
    refine post_none K S4 fun s5 S5 => ?_
    refine hQ _ _ ⟨_, _, S5, fun s6 S6 => kk l rs D' s6 (fun b c e => hb b c (fun q => by rw [q] at e; rw [hs1 _ _ e] at hl; cases hl) (hs1 b c e)) hDl ?_ S6⟩
    rw [← partsUpto_all, ← hlen]; exact hP
end

section
variable {w : World} {A : Around} {E : Value → Shared → Prop}
variable {Hs : Heap} {se s : Shared} {mods : Addr → Prop} {env : Env} {O : Addr → Option Obj} {σ : Vars} {D : Know} {mg mb : Str → Option Value}
theorem law_tail (T : Wd w Hs mg mb) (Rr : Rm A 12) (V : Div Pg w Hs A) (I : EnvIs env lawNames (cellsFrom (env.locals + 1) lawNames [])) (hN : env.scope.names = lawNames) {lg lG lk : Addr} {rg rk : List Addr} {G : Mat} {n m : Nat} {z : St} {tw : Tok} {Q : Flow → Shared → Prop}
    (S : Ok Hs se mods env O ([("things", .ref lg), ("grid", .ref lG), ("kept", .ref lk), ("wide", .int m tw)] : Vars) D s) (hg : D lg = some (.zs (tab (min n m) fun i => el z.S i i))) (hG : MatD D lG rg G) (hK : MatD D lk rk G) (hGK : ∀ r ∈ rg, r ∉ rk)
    (hn : n ≤ 3) (hm : m ≤ 3) (shG : Sh n m G) (bG : Bd 6 G) (SO : SmithOk n m G z)
    (fin : ∀ σ D s', Ok Hs se mods env O σ D s' → Q (.ret (.bool true)) s') : wpAny (model Pg w) A (execs (lawRest 10) env) Q NoE s := by
  have e := Eq.refl (lawRest 10)
  conv at e => rhs; whnf
  rw [e]
  clear e
  have e := Eq.refl lawNames
  conv at e => rhs; whnf
  rw [e] at I hN
  clear e
  have hz := Rr.hh
  (rename Ok _ _ _ _ _ _ _ _ => zS); refine sx_int zS (by assumption) (by rfl) pi_const (by rfl) ?_; intro zt zs zN; clear zS
  refine wpAny_execs_cons ?_
  refine wpAny_For ?_ (fun _ => rfl)
  refine Call_ ?_ (by rfl)
  (rename Ok _ _ _ _ _ _ _ _ => zS); refine nm_built zS (by assumption) (Wd.B (by assumption)) (by rfl) (Wd.nob (by assumption) (by rfl)) ((Wd.bb (by assumption) _ (by decide)).trans (by first | exact b_range | exact b_len | exact b_list | exact b_enum | exact b_abs | exact b_min | exact b_sum)) ?_ (by decide)
  refine PyProof.Rows.callWith_type1 ?_ (by rfl) (by rfl)
  refine args_cons ?_ (by rfl)
  (rename Ok _ _ _ _ _ _ _ _ => zS); refine nm_local zS (by assumption) (by rfl) (by rfl) ?_ (by decide)
  refine args_nil ?_
  (rename Ok _ _ _ _ _ _ _ _ => zS); refine r_enum_zs zS (by walk_at "dk") ?_; intro ze zs zN zW; clear zS
  refine ready_e_iter (by assumption) ?_
  rename Ok _ _ _ _ _ _ _ _ => S
  rename ReadyE _ _ _ _ _ => W
  have hlen : (tab (min n m) fun i => el z.S i i).length = min n m := tab_length _ _
  refine cutR fun R2 hR => ?_
  refine loop_over_enum (n := min n m) (val := valZ (tab (min n m) fun i => el z.S i i)) W hz (S.vars (σ' := ([("worth", .int 1 _), ("things", .ref lg), ("grid", .ref lG), ("kept", .ref lk), ("wide", .int m tw)] : Vars)) (by walk_at "vr")) (bnd_local I (by rfl)) (bnd_local I (by rfl))
    (fun i σ' D' => (∃ t, σ' = ([("worth", .int (prodF (fun i => el z.S i i) i) t), ("things", .ref lg), ("grid", .ref lG), ("kept", .ref lk), ("wide", .int m tw)] : Vars)) ∧ Sub D D') ⟨⟨_, rfl⟩, Sub.refl⟩ (fun i σ' D' s2 h S2 => by have := need_zs S2 (h.2 _ _ hg); rw [hlen] at this; exact this) ?_ ?_
  · clear S W hR fin
    intro i v ti O' σ' D2 s2 hi g40 hO' g41 S2
    refine cutQ fun Q' hQ => ?_
    obtain ⟨tv, rfl⟩ := g40
    obtain ⟨⟨t, rfl⟩, hs2⟩ := g41
    rw [tab_get hi] at S2
    have hmul : IntMulOk (prodF (fun i => el z.S i i) i) (el z.S i i) := by
      refine mulOk (B := 2 ^ 26) (lt_mono (prodF_lt (B := 2 ^ 24) (fun i => SO.bs.el i i) (by decide) i) ?_) (lt_mono (SO.bs.el i i) (by decide)) (Nat.le_refl _)
      have h2 : i ≤ 2 := by lia
      exact Nat.le_trans (Nat.add_le_add_right (Nat.mul_le_mul_right (2 ^ 24) h2) 1) (by decide)
    have hG2 := hG.sub hs2
    have hg2 := hs2 _ _ hg
    (rename Ok _ _ _ _ _ _ _ _ => zS); refine sx_int zS (by assumption) (by rfl) (pi_mul (pi_name (by assumption) (by rfl) (by rfl)) (pi_name (by assumption) (by rfl) (by rfl)) (by first | assumption | (walk_at "mul"))) (by rfl) ?_; intro zt zs zN; clear zS
    refine wpAny_execs_cons ?_
    refine wpAny_If ?_
    refine wpAny_isTrue_BoolOp ?_
    refine wpAny_allTrue_Or_cons ?_
    (rename Ok _ _ _ _ _ _ _ _ => zS); refine PB.use zS (pb_lt (pi_name (by assumption) (by rfl) (by rfl)) pi_const (by rfl)) ?_; intro zs zN; clear zS
    rw [show decide (el z.S i i < 0) = false from decide_eq_false (by have := SO.pos i; lia)]
    refine Eq.mpr (if_neg (by with_reducible exact Bool.false_ne_true)) ?_
    refine wpAny_allTrue_Or_cons ?_
    refine wpAny_isTrue_Compare1 ?_ (by rfl)
    (rename Ok _ _ _ _ _ _ _ _ => zS); refine nm_local zS (by assumption) (by rfl) (by rfl) ?_ (by decide)
    refine Call_ ?_ (by rfl)
    (rename Ok _ _ _ _ _ _ _ _ => zS); refine nm_glob zS (by assumption) (Wd.B (by assumption)) (by rfl) (Wd.glob (by assumption) (by rfl)) ?_ (by decide)
    refine cwW (by assumption) (by rfl) ?_ (by rfl)
    refine args_cons ?_ (by rfl)
    refine e_comp (by assumption) (by rfl) (by rfl) (by decide) (fun _ => rfl) ?_
    (rename Ok _ _ _ _ _ _ _ _ => zS); refine ev_call zS (by assumption) (by assumption) (by rfl) (by rfl) (by decide) (pa_val (pv_name (by assumption) (by rfl)) (pa_int (pi_add (pi_name (by assumption) (by rfl) (by rfl)) pi_const) (pa_int (pi_name (by assumption) (by rfl) (by rfl)) pa_nil (fun _ _ => rfl)) (fun _ _ => rfl)) (fun _ _ => rfl)) (fun _ _ => rfl) ?_; intro zt zs zN; clear zS
    dsimp only
    rename Ok _ _ _ _ _ _ _ _ => S
    rw [show (i : Int) + 1 = ((i + 1 : Nat) : Int) from rfl]
    refine law_parts_spec T (Rr.le (by decide)) S hG2 shG hn hm (by lia) fun lp rp D3 s3 hs3 hlp hP S3 => ?_
    clear S
    refine r_vals S3 hz hlp ?_
    intro it4 s4 S4 W4
    clear S3
    have hpl := parts_len (G := G) (k := i + 1) (n := n) (m := m) (by lia) hn hm
    have hrl : (rp.map Value.ref).length = (parts G (i + 1) n m).length := by rw [List.length_map]; exact hP.1
    refine tail_pure S4 W4 I (by rfl) rfl (by decide) (by rfl) (by rfl) (by lia) (fun _ _ _ _ hs S' => S'.know _ _ (hs _ _ hlp)) (fun _ => true) (fun q => detF (i + 1) ((parts G (i + 1) n m).getD q [])) ?_ ?_
    · rintro q v O5 cenv D5 s5 hq hv Ic hs5 S5
      dsimp only at Ic
      clear S4 W4 hQ
      have hq' : q < rp.length := by simpa using hq
      have hqp : q < (parts G (i + 1) n m).length := by rw [← hP.1]; exact hq'
      have hv' : v = .ref rp[q] := by
        simp only [valV, List.getElem?_map, List.getElem?_eq_getElem hq'] at hv
        exact (Option.some.inj hv).symm
      subst hv'
      obtain ⟨rr, hM⟩ := hP.2 q rp[q] _ (List.getElem?_eq_getElem hq') (List.getElem?_eq_getElem hqp)
      obtain ⟨shP, bP⟩ := parts_ok (by lia) hn hm bG (List.getElem_mem hqp)
      rw [show (parts G (i + 1) n m).getD q [] = (parts G (i + 1) n m)[q] from by rw [List.getD_eq_getElem?_getD, List.getElem?_eq_getElem hqp]; rfl]
      refine ⟨?_, fun _ => ?_⟩
      · refine ts_nil ?_
        dsimp only
        exact ⟨rfl, D5, Sub.refl, S5⟩
      · (rename Ok _ _ _ _ _ _ _ _ => zS); refine ev_call zS (by assumption) (by assumption) (by rfl) (by rfl) (by decide) (pa_val (pv_name (by assumption) (by rfl)) pa_nil (fun _ _ => rfl)) (fun _ _ => rfl) ?_; intro zt zs zN; clear zS
        dsimp only
        rename Ok _ _ _ _ _ _ _ _ => S
        refine law_det_spec T (i + 1) (Rr.le (by lia)) S (hM.sub hs5) shP (by lia) bP (by decide) fun td D6 s6 hs6 S6 => ?_
        exact ⟨td, D6, rfl, hs6, S6⟩
    · intro l8 cenv O8 s8 hl8 hlE8 K8 S8
      refine post_none K8 S8 fun s9 S9 => ?_
      rw [picked_tab, hrl, tab_mapM] at S9
      clear S4 W4 S8
      refine args_nil ?_
      (rename Ok _ _ _ _ _ _ _ _ => zS); refine ⟨Ok.stat zS, ?_⟩
      rename Ok _ _ _ _ _ _ _ _ => S
      refine law_divisor_spec T (Rr.le (by decide)) S (upd_same ..) fun td D10 s10 hs10 S10 => ?_
      clear S
      have hs10' : Sub D2 D10 := (hs3.trans (Sub.new hl8)).trans hs10
      have hg10 := hs10' _ _ hg2
      have hprod := SO.prod i hi
      refine q_ne ?_
      refine q_truth ?_
      rw [show decide (prodF (fun i => el z.S i i) i * el z.S i i ≠ (divisor ((parts G (i + 1) n m).map (detF (i + 1))) : Int)) = false from decide_eq_false (fun h => h hprod)]
      refine Eq.mpr (if_neg (by with_reducible exact Bool.false_ne_true)) ?_
      refine wpAny_allTrue_Or_nil ?_
      refine Eq.mpr (if_neg (by with_reducible exact Bool.false_ne_true)) ?_
      refine wpAny_execs_nil ?_
      refine wpAny_execs_cons ?_
      refine wpAny_If ?_
      refine wpAny_isTrue_BoolOp ?_
      refine wpAny_allTrue_And_cons ?_
      (rename Ok _ _ _ _ _ _ _ _ => zS); refine PB.use zS (pb_gt (pi_name (by assumption) (by rfl) (by rfl)) pi_const (by rfl)) ?_; intro zs zN; clear zS
      rename Ok _ _ _ _ _ _ _ _ => S
      by_cases hi0 : 0 < i
      · rw [show decide ((0 : Int) < (i : Int)) = true from decide_eq_true (by lia)]
        have hd := SO.dvd (i - 1) (by lia)
        rw [show i - 1 + 1 = i from by lia] at hd
        refine Eq.mpr (if_pos (by with_reducible rfl)) ?_
        refine wpAny_allTrue_And_cons ?_
        refine isTrue_IfExp ?_
        refine wpAny_isTrue_Compare1 ?_ (by rfl)
        refine e_sub ?_
        (rename Ok _ _ _ _ _ _ _ _ => zS); refine nm_local zS (by assumption) (by rfl) (by rfl) ?_ (by decide)
        (rename Ok _ _ _ _ _ _ _ _ => zS); refine PI.use zS (pi_sub (pi_name (by assumption) (by rfl) (by rfl)) pi_const) ?_; intro zt zs zN; clear zS
        rename Ok _ _ _ _ _ _ _ _ => S
        refine t_el S hg10 (j := i - 1) (by lia) (by rw [hlen]; lia) (by rw [hlen]; lia) (fun _ _ => rfl) fun t11 => ?_
        rw [tab_get (show i - 1 < min n m by lia)]
        (rename Ok _ _ _ _ _ _ _ _ => zS); refine c_int zS ?_; intro zt zs zN; clear zS
        refine q_eq ?_
        refine q_truth ?_
        by_cases h0 : el z.S (i - 1) (i - 1) = 0
        · rw [if_pos h0] at hd
          rw [show decide (el z.S (i - 1) (i - 1) = 0) = true from decide_eq_true h0]
          refine Eq.mpr (if_pos (by with_reducible rfl)) ?_
          (rename Ok _ _ _ _ _ _ _ _ => zS); refine PB.use zS (pb_ne (pi_name (by assumption) (by rfl) (by rfl)) pi_const (by rfl)) ?_; intro zs zN; clear zS
          rw [show decide (el z.S i i ≠ 0) = false from decide_eq_false (fun h => h hd)]
          refine Eq.mpr (if_neg (by with_reducible exact Bool.false_ne_true)) ?_
          refine Eq.mpr (if_neg (by with_reducible exact Bool.false_ne_true)) ?_
          refine wpAny_execs_nil ?_
          refine wpAny_execs_nil ?_
          rename Ok _ _ _ _ _ _ _ _ => S
          exact hQ _ _ ⟨([("worth", .int (prodF (fun i => el z.S i i) i * el z.S i i) _), ("things", .ref lg), ("grid", .ref lG), ("kept", .ref lk), ("wide", .int m tw)] : Vars), _, ⟨⟨_, rfl⟩, hs2.trans hs10'⟩, S.vars (by walk_at "vr")⟩
        · rw [if_neg h0] at hd
          rw [show decide (el z.S (i - 1) (i - 1) = 0) = false from decide_eq_false h0]
          refine Eq.mpr (if_neg (by with_reducible exact Bool.false_ne_true)) ?_
          refine wpAny_isTrue_Compare1 ?_ (by rfl)
          refine wpAny_BinOp ?_
          (rename Ok _ _ _ _ _ _ _ _ => zS); refine nm_local zS (by assumption) (by rfl) (by rfl) ?_ (by decide)
          refine e_sub ?_
          (rename Ok _ _ _ _ _ _ _ _ => zS); refine nm_local zS (by assumption) (by rfl) (by rfl) ?_ (by decide)
          (rename Ok _ _ _ _ _ _ _ _ => zS); refine PI.use zS (pi_sub (pi_name (by assumption) (by rfl) (by rfl)) pi_const) ?_; intro zt zs zN; clear zS
          rename Ok _ _ _ _ _ _ _ _ => S
          refine t_el S hg10 (j := i - 1) (by lia) (by rw [hlen]; lia) (by rw [hlen]; lia) (fun _ _ => rfl) fun t11 => ?_
          rw [tab_get (show i - 1 < min n m by lia)]
          (rename Ok _ _ _ _ _ _ _ _ => zS); refine o_mod zS (by first | assumption | decide | (walk_at "div")) ?_; intro zt zs zN; clear zS
          (rename Ok _ _ _ _ _ _ _ _ => zS); refine c_int zS ?_; intro zt zs zN; clear zS
          refine q_ne ?_
          refine q_truth ?_
          rw [show decide ((el z.S i i).fmod (el z.S (i - 1) (i - 1)) ≠ 0) = false from decide_eq_false (fun h => h hd)]
          refine Eq.mpr (if_neg (by with_reducible exact Bool.false_ne_true)) ?_
          refine Eq.mpr (if_neg (by with_reducible exact Bool.false_ne_true)) ?_
          refine wpAny_execs_nil ?_
          refine wpAny_execs_nil ?_
          rename Ok _ _ _ _ _ _ _ _ => S
          exact hQ _ _ ⟨([("worth", .int (prodF (fun i => el z.S i i) i * el z.S i i) _), ("things", .ref lg), ("grid", .ref lG), ("kept", .ref lk), ("wide", .int m tw)] : Vars), _, ⟨⟨_, rfl⟩, hs2.trans hs10'⟩, S.vars (by walk_at "vr")⟩
      · rw [show decide ((0 : Int) < (i : Int)) = false from decide_eq_false (by lia)]
        refine Eq.mpr (if_neg (by with_reducible exact Bool.false_ne_true)) ?_
        refine Eq.mpr (if_neg (by with_reducible exact Bool.false_ne_true)) ?_
        refine wpAny_execs_nil ?_
        refine wpAny_execs_nil ?_
        rename Ok _ _ _ _ _ _ _ _ => S
        exact hQ _ _ ⟨([("worth", .int (prodF (fun i => el z.S i i) i * el z.S i i) _), ("things", .ref lg), ("grid", .ref lG), ("kept", .ref lk), ("wide", .int m tw)] : Vars), _, ⟨⟨_, rfl⟩, hs2.trans hs10'⟩, S.vars (by walk_at "vr")⟩
  · clear W
    rintro σ' D2 s2 ⟨⟨t, rfl⟩, hs2⟩ S2
    refine hR _ _ ?_
    refine wpAny_execs_cons ?_
    refine wpAny_Return_some ?_
    refine wpAny_Compare1 ?_ (by rfl)
    (rename Ok _ _ _ _ _ _ _ _ => zS); refine nm_local zS (by assumption) (by rfl) (by rfl) ?_ (by decide)
    (rename Ok _ _ _ _ _ _ _ _ => zS); refine nm_local zS (by assumption) (by rfl) (by rfl) ?_ (by decide)
    dsimp only
    rename Ok _ _ _ _ _ _ _ _ => S
    refine q_eq_mats S Rr (hG.sub hs2) (hK.sub hs2) hGK ?_
    rw [show decide (G = G) = true from decide_eq_true rfl]
    exact fin _ _ _ S
end

section
variable {w : World} {A : Around} {E : Value → Shared → Prop}
variable {Hs : Heap} {se s : Shared} {mods : Addr → Prop} {env : Env} {O : Addr → Option Obj} {σ : Vars} {D : Know} {mg mb : Str → Option Value}
theorem law_spec {s : Shared} {D : Know} (T : Wd w s.heap mg mb) (Rr : Rm A 20) (L : ∀ n m G, 0 < n → n ≤ 3 → 0 < m → m ≤ 3 → Sh n m G → GridOk n m G → LawOk IntMulOk n m G) {a : Addr} {xs : List Int} {Q : Value → Shared → Prop}
    (hkn : ∀ b c, D b = some c → Mine.Holds s.heap b c) (hD : D a = some (.zs xs)) (hz : xs.length ≤ 1000)
    (k : ∀ s', (∀ b o, s.heap.get? b = some o → s'.heap.get? b = some o) → s'.gens = s.gens → s'.drawn = s.drawn → s'.os = s.os → Q (.bool true) s') :
    wpAny (model Pg w) A (call (.ref (fad mg "law")) [.ref a]) Q E s := by
  refine enter0W "law" ["script"] T Rr hkn rfl (fun _ _ _ => rfl) (fun _ _ _ => rfl) (by decide) ?_
  clear Rr
  intro env' s' I hN S' R' V
  dsimp only at I hN
  refine cutQ fun Q' hQ => ?_
  have fin : ∀ σ D s', Ok s.heap s (fun _ => False) env' (fun _ => none) σ D s' → Q' (.ret (.bool true)) s' := fun σ D s' S => hQ _ _ ⟨σ, D, S, k s' (fun b o e => S.keep b o e (fun m => m)) S.gens S.drawn S.os⟩
  clear hQ k
  refine wpAny_execs_cons ?_
  refine wpAny_Assign_Name ?_ (by rfl)
  (rename Ok _ _ _ _ _ _ _ _ => zS); refine ev_call zS (by assumption) (by assumption) (by rfl) (by rfl) (by decide) (pa_val (pv_name (by assumption) (by rfl)) pa_nil (fun _ _ => rfl)) (fun _ _ => rfl) ?_; intro zt zs zN; clear zS
  dsimp only
  rename Ok _ _ _ _ _ _ _ _ => S
  refine law_box_spec T (R'.le (by exact Nat.le_of_ble_eq_true rfl)) S hD hz fun b l0 D1 s1 nb nl cb cl hB hs1 S1 => ?_
  clear S
  (rename Ok _ _ _ _ _ _ _ _ => zS); refine st_local zS (by assumption) (by rfl) ?_; intro zs zN; clear zS
  refine wpAny_execs_cons ?_
  rename Ok _ _ _ _ _ _ _ _ => S
  refine x_tup I hN ?_ rfl rfl
  refine Tuple_ ?_
  refine args_cons ?_ (by rfl)
  refine wpAny_BinOp ?_
  (rename Ok _ _ _ _ _ _ _ _ => zS); refine c_int zS ?_; intro zt zs zN; clear zS
  (rename Ok _ _ _ _ _ _ _ _ => zS); refine ev_call zS (by assumption) (by assumption) (by rfl) (by rfl) (by decide) (pa_val (pv_name (by assumption) (by rfl)) (pa_int pi_const pa_nil (fun _ _ => rfl)) (fun _ _ => rfl)) (fun _ _ => rfl) ?_; intro zt zs zN; clear zS
  dsimp only
  rename Ok _ _ _ _ _ _ _ _ => S
  refine law_take_spec T (R'.le (by exact Nat.le_of_ble_eq_true rfl)) S (wide := 3) hB cb cl (by decide) fun n' tn D2 s2 hn' hB2 hX2 S2 => ?_
  clear S
  (rename Ok _ _ _ _ _ _ _ _ => zS); refine o_add zS ?_; intro zt zs zN; clear zS
  refine args_cons ?_ (by rfl)
  refine wpAny_BinOp ?_
  (rename Ok _ _ _ _ _ _ _ _ => zS); refine c_int zS ?_; intro zt zs zN; clear zS
  (rename Ok _ _ _ _ _ _ _ _ => zS); refine ev_call zS (by assumption) (by assumption) (by rfl) (by rfl) (by decide) (pa_val (pv_name (by assumption) (by rfl)) (pa_int pi_const pa_nil (fun _ _ => rfl)) (fun _ _ => rfl)) (fun _ _ => rfl) ?_; intro zt zs zN; clear zS
  rename Ok _ _ _ _ _ _ _ _ => S
  refine law_take_spec T (R'.le (by exact Nat.le_of_ble_eq_true rfl)) S (wide := 3) hB2 cb cl (by decide) fun m' tm D3 s3 hm' hB3 hX3 S3 => ?_
  clear S
  obtain ⟨n, hn⟩ : ∃ n : Nat, (1 + (n' : Int)) = n := ⟨1 + n', by lia⟩
  obtain ⟨m, hm⟩ : ∃ m : Nat, (1 + (m' : Int)) = m := ⟨1 + m', by lia⟩
  (rename Ok _ _ _ _ _ _ _ _ => zS); refine o_add zS ?_; intro zt zs zN; clear zS
  refine args_nil ?_
  (rename Ok _ _ _ _ _ _ _ _ => zS); refine n_tup zS (Nat.le_of_ble_eq_true rfl) ?_; intro zl zs zh zE zN; clear zS
  (rename Ok _ _ _ _ _ _ _ _ => zS); refine as_tup2 zS (Rm.hh (by assumption)) (by walk_at "dk") (by rfl) ?_; intro zs zN; clear zS
  refine as_name ?_
  (rename Ok _ _ _ _ _ _ _ _ => zS); refine st_local zS (by assumption) (by rfl) ?_; intro zs zN; clear zS
  refine as_name ?_
  (rename Ok _ _ _ _ _ _ _ _ => zS); refine st_cell zS (by assumption) (by rfl) (by rfl) (by first | exact Nat.le_succ _ | exact Nat.le_succ_of_le (Nat.le_succ _) | exact Nat.le_succ_of_le (Nat.le_succ_of_le (Nat.le_succ _)) | exact Nat.le_succ_of_le (Nat.le_succ_of_le (Nat.le_succ_of_le (Nat.le_succ _))) | exact Nat.le_succ_of_le (Nat.le_succ_of_le (Nat.le_succ_of_le (Nat.le_succ_of_le (Nat.le_succ _))))) ?_; intro zs zN; clear zS
  refine wpAny_execs_cons ?_
  refine wpAny_Assign_Name ?_ (by rfl)
  (rename Ok _ _ _ _ _ _ _ _ => zS); refine ev_call zS (by assumption) (by assumption) (by rfl) (by rfl) (by decide) (pa_val (pv_name (by assumption) (by rfl)) (pa_int (pi_name (by assumption) (by rfl) (by rfl)) (pa_int (pi_name (by assumption) (by rfl) (by rfl)) pa_nil (fun _ _ => rfl)) (fun _ _ => rfl)) (fun _ _ => rfl)) (fun _ _ => rfl) ?_; intro zt zs zN; clear zS
  dsimp only
  rename Ok _ _ _ _ _ _ _ _ => S
  rw [hn, hm] at S ⊢
  have hn0 : 0 < n := by lia
  have hn3 : n ≤ 3 := by lia
  have hm0 : 0 < m := by lia
  have hm3 : m ≤ 3 := by lia
  clear hn hm hn' hm'
  refine law_grid_spec T (R'.le (by exact Nat.le_of_ble_eq_true rfl)) S (hB3.sub (by walk_at "ds")) cb cl hn0 hn3 hm3 fun lg rg G D4 s4 hG shG gG hng S4 hX4 => ?_
  clear S hB hB2 hB3 hX2 hX3 hX4
  have LO := L n m G hn0 hn3 hm0 hm3 shG gG
  have bG := gG.bd
  clear gG
  clear L
  (rename Ok _ _ _ _ _ _ _ _ => zS); refine st_local zS (by assumption) (by rfl) ?_; intro zs zN; clear zS
  refine wpAny_execs_cons ?_
  refine x_comp I (by rfl) (by rfl) (by decide) (fun _ => rfl) ((swaps_eq I hN _ _ _ _).trans rfl) ?_
  (rename Ok _ _ _ _ _ _ _ _ => zS); refine nm_local zS (by assumption) (by rfl) (by rfl) ?_ (by decide)
  dsimp only
  rename Ok _ _ _ _ _ _ _ _ => S
  refine r_vals S R'.hh (S.mat hG (by walk_at "ds")).1 ?_
  intro it s5 S5 W5
  clear S
  refine tail_new S5 W5 I (by rfl) rfl (by decide) (by rfl) (.inl (by rfl)) (by rw [List.length_map, hG.2.1, shG.1]; exact lek (k := 3) (by assumption) rfl) (fun _ _ _ _ hs S' => S'.know _ _ (hs _ _ hG.1)) (fun i => row G i) ?_ ?_
  · rintro i v O' cenv D' s6 hi hv Ic hsub S6
    dsimp only at Ic
    clear S5 W5
    obtain ⟨hi', rfl, hr⟩ := hG.val hv
    have hlr := shG.row (i := i) (by rw [← shG.1]; exact hi')
    refine ⟨?_, ?_⟩
    · refine ts_nil ?_
      dsimp only
      exact ⟨rfl, D', Sub.refl, S6⟩
    · refine Call_ ?_ (by rfl)
      (rename Ok _ _ _ _ _ _ _ _ => zS); refine nm_built zS (by assumption) (Wd.B (by assumption)) (by rfl) (Wd.nob (by assumption) (by rfl)) ((Wd.bb (by assumption) _ (by decide)).trans (by first | exact b_range | exact b_len | exact b_list | exact b_enum | exact b_abs | exact b_min | exact b_sum)) ?_ (by decide)
      refine PyProof.Rows.callWith_type1 ?_ (by rfl) (by rfl)
      refine args_cons ?_ (by rfl)
      (rename Ok _ _ _ _ _ _ _ _ => zS); refine nm_local zS (by assumption) (by rfl) (by rfl) ?_ (by decide)
      refine args_nil ?_
      dsimp only
      rename Ok _ _ _ _ _ _ _ _ => S
      refine f_copy S (by walk_at "dk") (by lia) ?_
      intro l s3 hl hlE S3
      exact ⟨l, _, rfl, hl, hlE, Sub.new hl, upd_same .., S3⟩
  intro lk rk D6 cenv O' s6 hl hlE hlen hrs hnd hsub hlD hGk K S6
  refine post_use I (by rfl) K S6 fun s7 S7 => ?_
  have hK : MatD D6 lk rk G := MatD.ofRows hlD (by rw [hlen, List.length_map, hG.2.1]) hGk
  have hG4 := hG
  replace hG := hG.sub hsub
  have hGK : ∀ r ∈ rg, r ∉ rk := fun r h1 h2 => by
    have := (hrs r h2).1
    obtain ⟨x, hx⟩ := hG4.known h1
    rw [hx] at this; cases this
  clear S5 W5 S6 K hGk hlD hlen hnd hrs hl hlE hG4
  refine wpAny_execs_cons ?_
  refine x_tup I hN ?_ rfl rfl
  (rename Ok _ _ _ _ _ _ _ _ => zS); refine ev_call zS (by assumption) (by assumption) (by rfl) (by rfl) (by decide) (pa_val (pv_name (by assumption) (by rfl)) (pa_int (pi_name (by assumption) (by rfl) (by rfl)) pa_nil (fun _ _ => rfl)) (fun _ _ => rfl)) (fun _ _ => rfl) ?_; intro zt zs zN; clear zS
  dsimp only
  rename Ok _ _ _ _ _ _ _ _ => S
  refine hermite_spec T (R'.le (by exact Nat.le_of_ble_eq_true rfl)) S hG shG hn0 hn3 hm3 bG (by decide) (by decide) fun lt lh lu rh ru D8 s8 hlt hltD hs8 hH hU S8 => ?_
  clear S
  have hG8 := hG.sub hs8
  have hK8 := hK.sub hs8
  clear hG hK hsub
  (rename Ok _ _ _ _ _ _ _ _ => zS); refine as_tup2 zS (Rm.hh (by assumption)) (by walk_at "dk") (by rfl) ?_; intro zs zN; clear zS
  refine as_name ?_
  (rename Ok _ _ _ _ _ _ _ _ => zS); refine st_local zS (by assumption) (by rfl) ?_; intro zs zN; clear zS
  refine as_name ?_
  (rename Ok _ _ _ _ _ _ _ _ => zS); refine st_local zS (by assumption) (by rfl) ?_; intro zs zN; clear zS
  refine wpAny_execs_cons ?_
  refine wpAny_If ?_
  refine wpAny_isTrue_BoolOp ?_
  refine wpAny_allTrue_Or_cons ?_
  refine wpAny_isTrue_Compare1 ?_ (by rfl)
  (rename Ok _ _ _ _ _ _ _ _ => zS); refine nm_local zS (by assumption) (by rfl) (by rfl) ?_ (by decide)
  (rename Ok _ _ _ _ _ _ _ _ => zS); refine ev_call zS (by assumption) (by assumption) (by rfl) (by rfl) (by decide) (pa_val (pv_name (by assumption) (by rfl)) (pa_val (pv_name (by assumption) (by rfl)) pa_nil (fun _ _ => rfl)) (fun _ _ => rfl)) (fun _ _ => rfl) ?_; intro zt zs zN; clear zS
  rename Ok _ _ _ _ _ _ _ _ => S
  have hmul1 : ∀ i t j, IntMulOk (el (hermite G m).2 i t) (el G t j) := fun i t j => mulOk_small' (lt_mono (bG.el t j) (by decide))
  refine law_times_spec T (R'.le (by exact Nat.le_of_ble_eq_true rfl)) S hU hG8 LO.su shG hn0 (by exact lek (k := 3) (by assumption) rfl) (by exact lek (k := 3) (by assumption) rfl) (by exact lek (k := 3) (by assumption) rfl) hmul1 fun lp rp D9 s9 hs9 NP S9 => ?_
  have hnp := fun r hr => S.noneOf (NP.nr r hr)
  clear S hmul1
  refine q_ne_mats S9 R' (hH.sub hs9) NP.mat (fun r h1 h2 => hH.notNone h1 (hnp r h2)) ?_
  rw [show decide ((hermite G m).1 ≠ mulM n m (hermite G m).2 G) = false from decide_eq_false (fun h => h LO.eq)]
  replace hH := hH.sub hs9
  replace hU := hU.sub hs9
  replace hG8 := hG8.sub hs9
  replace hK8 := hK8.sub hs9
  clear hnp NP hs9 hs8
  refine q_truth ?_
  refine Eq.mpr (if_neg (by with_reducible exact Bool.false_ne_true)) ?_
  refine wpAny_allTrue_Or_cons ?_
  refine wpAny_isTrue_Compare1 ?_ (by rfl)
  refine Call_ ?_ (by rfl)
  (rename Ok _ _ _ _ _ _ _ _ => zS); refine nm_built zS (by assumption) (Wd.B (by assumption)) (by rfl) (Wd.nob (by assumption) (by rfl)) ((Wd.bb (by assumption) _ (by decide)).trans (by first | exact b_range | exact b_len | exact b_list | exact b_enum | exact b_abs | exact b_min | exact b_sum)) ?_ (by decide)
  refine PyProof.Rows.callWith_builtin1 ?_ (by rfl) (by rfl)
  refine args_cons ?_ (by rfl)
  (rename Ok _ _ _ _ _ _ _ _ => zS); refine ev_call zS (by assumption) (by assumption) (by rfl) (by rfl) (by decide) (pa_val (pv_name (by assumption) (by rfl)) pa_nil (fun _ _ => rfl)) (fun _ _ => rfl) ?_; intro zt zs zN; clear zS
  rename Ok _ _ _ _ _ _ _ _ => S
  refine law_det_spec T n (R'.le (by lia)) S hU LO.su hn3 LO.bu (by decide) fun td D10 s10 hs10 S10 => ?_
  clear S
  refine args_nil ?_
  (rename Ok _ _ _ _ _ _ _ _ => zS); refine f_abs zS ?_; intro zt zs zN; clear zS
  (rename Ok _ _ _ _ _ _ _ _ => zS); refine c_int zS ?_; intro zt zs zN; clear zS
  refine q_ne ?_
  refine q_truth ?_
  rw [show decide (((detF n (hermite G m).2).natAbs : Int) ≠ 1) = false from decide_eq_false (by rw [LO.du]; decide)]
  refine Eq.mpr (if_neg (by with_reducible exact Bool.false_ne_true)) ?_
  refine wpAny_allTrue_Or_cons ?_
  refine wpAny_isTrue_Not ?_
  refine wpAny_isTrue_value ?_ (by rfl)
  (rename Ok _ _ _ _ _ _ _ _ => zS); refine ev_call zS (by assumption) (by assumption) (by rfl) (by rfl) (by decide) (pa_val (pv_name (by assumption) (by rfl)) (pa_int (pi_name (by assumption) (by rfl) (by rfl)) pa_nil (fun _ _ => rfl)) (fun _ _ => rfl)) (fun _ _ => rfl) ?_; intro zt zs zN; clear zS
  rename Ok _ _ _ _ _ _ _ _ => S
  obtain ⟨r, piv, PS⟩ := LO.steps
  refine law_stepped_spec T (R'.le (by exact Nat.le_of_ble_eq_true rfl)) S (hH.sub hs10) LO.sh (by exact lek (k := 3) (by assumption) rfl) (by exact lek (k := 3) (by assumption) rfl) PS fun D11 s11 hs11 S11 => ?_
  clear S PS
  have hG11 := (hG8.sub hs10).sub hs11
  have hK11 := (hK8.sub hs10).sub hs11
  clear hG8 hK8 hH hU hs10 hs11
  refine q_truth ?_
  refine Eq.mpr (if_neg (show (!true) = true → False from Bool.false_ne_true)) ?_
  refine wpAny_allTrue_Or_nil ?_
  refine Eq.mpr (if_neg (by with_reducible exact Bool.false_ne_true)) ?_
  refine wpAny_execs_nil ?_
  refine wpAny_execs_cons ?_
  refine x_tup I hN ?_ rfl rfl
  (rename Ok _ _ _ _ _ _ _ _ => zS); refine ev_call zS (by assumption) (by assumption) (by rfl) (by rfl) (by decide) (pa_val (pv_name (by assumption) (by rfl)) (pa_int (pi_name (by assumption) (by rfl) (by rfl)) pa_nil (fun _ _ => rfl)) (fun _ _ => rfl)) (fun _ _ => rfl) ?_; intro zt zs zN; clear zS
  dsimp only
  rename Ok _ _ _ _ _ _ _ _ => S
  obtain ⟨N, z, hrun, SO⟩ := LO.smith
  clear LO
  refine smith_spec T (R'.le (by exact Nat.le_of_ble_eq_true rfl)) S hG11 shG hn3 hm3 hrun fun lt ls lu lv rs ru rv D12 s12 hlt hltD hs12 X hnew S12 => ?_
  clear S hrun hnew hlt
  have hG := hG11.sub hs12
  have hK := hK11.sub hs12
  clear hG11 hK11 hs12
  have hS := X.ms
  have hU := X.mu
  have hV := X.mv
  clear X
  (rename Ok _ _ _ _ _ _ _ _ => zS); refine as_tup3 zS (Rm.hh (by assumption)) (by walk_at "dk") (by rfl) ?_; intro zs zN; clear zS
  refine as_name ?_
  (rename Ok _ _ _ _ _ _ _ _ => zS); refine st_cell zS (by assumption) (by rfl) (by rfl) (by first | exact Nat.le_succ _ | exact Nat.le_succ_of_le (Nat.le_succ _) | exact Nat.le_succ_of_le (Nat.le_succ_of_le (Nat.le_succ _)) | exact Nat.le_succ_of_le (Nat.le_succ_of_le (Nat.le_succ_of_le (Nat.le_succ _))) | exact Nat.le_succ_of_le (Nat.le_succ_of_le (Nat.le_succ_of_le (Nat.le_succ_of_le (Nat.le_succ _))))) ?_; intro zs zN; clear zS
  refine as_name ?_
  (rename Ok _ _ _ _ _ _ _ _ => zS); refine st_local zS (by assumption) (by rfl) ?_; intro zs zN; clear zS
  refine as_name ?_
  (rename Ok _ _ _ _ _ _ _ _ => zS); refine st_local zS (by assumption) (by rfl) ?_; intro zs zN; clear zS
  refine wpAny_execs_cons ?_
  refine wpAny_If ?_
  refine wpAny_isTrue_BoolOp ?_
  refine wpAny_allTrue_Or_cons ?_
  refine wpAny_isTrue_Compare1 ?_ (by rfl)
  (rename Ok _ _ _ _ _ _ _ _ => zS); refine nm_cell zS (by assumption) (.inl (by rfl)) (by rfl) (by rfl) ?_ (by decide) (by decide)
  refine Call_ ?_ (by rfl)
  (rename Ok _ _ _ _ _ _ _ _ => zS); refine nm_glob zS (by assumption) (Wd.B (by assumption)) (by rfl) (Wd.glob (by assumption) (by rfl)) ?_ (by decide)
  refine cwW (by assumption) (by rfl) ?_ (by rfl)
  refine args_cons ?_ (by rfl)
  (rename Ok _ _ _ _ _ _ _ _ => zS); refine ev_call zS (by assumption) (by assumption) (by rfl) (by rfl) (by decide) (pa_val (pv_name (by assumption) (by rfl)) (pa_val (pv_name (by assumption) (by rfl)) pa_nil (fun _ _ => rfl)) (fun _ _ => rfl)) (fun _ _ => rfl) ?_; intro zt zs zN; clear zS
  rename Ok _ _ _ _ _ _ _ _ => S
  have hmul1 : ∀ i t j, IntMulOk (el z.U i t) (el G t j) := fun i t j => mulOk_small' (lt_mono (bG.el t j) (by decide))
  refine law_times_spec T (R'.le (by exact Nat.le_of_ble_eq_true rfl)) S hU hG SO.shs.u shG hn0 (by exact lek (k := 3) (by assumption) rfl) (by exact lek (k := 3) (by assumption) rfl) (by exact lek (k := 3) (by assumption) rfl) hmul1 fun lp rp D13 s13 hs13 NP S13 => ?_
  clear S hmul1
  refine args_cons ?_ (by rfl)
  (rename Ok _ _ _ _ _ _ _ _ => zS); refine nm_local zS (by assumption) (by rfl) (by rfl) ?_ (by decide)
  refine args_nil ?_
  (rename Ok _ _ _ _ _ _ _ _ => zS); refine ⟨Ok.stat zS, ?_⟩
  rename Ok _ _ _ _ _ _ _ _ => S
  have hmul2 : ∀ i t j, IntMulOk (el (mulM n m z.U G) i t) (el z.V t j) := fun i t j => mulOk (B := 2 ^ 26) (lt_mono ((SO.bu.mul (w := m) (p := n) bG (by exact lek (k := 3) (by assumption) rfl)).el i t) (by decide)) (lt_mono (SO.bv.el t j) (by decide)) (by decide)
  refine law_times_spec T (R'.le (by exact Nat.le_of_ble_eq_true rfl)) S NP.mat (hV.sub hs13) (SO.shs.u.mul shG) SO.shs.v hm0 (by exact lek (k := 3) (by assumption) rfl) (by exact lek (k := 3) (by assumption) rfl) (by exact lek (k := 3) (by assumption) rfl) hmul2 fun lq rq D14 s14 hs14 NQ S14 => ?_
  have hnq := fun r hr => S.noneOf (NQ.nr r hr)
  clear S hmul2
  have hs := hs13.trans hs14
  refine q_ne_mats S14 R' (hS.sub hs) NQ.mat (fun r h1 h2 => (hS.sub hs13).notNone h1 (hnq r h2)) ?_
  rw [show decide (z.S ≠ mulM m m (mulM n m z.U G) z.V) = false from decide_eq_false (fun h => h SO.eq)]
  replace hG := hG.sub hs
  replace hK := hK.sub hs
  replace hS := hS.sub hs
  replace hU := hU.sub hs
  replace hV := hV.sub hs
  clear hs hs13 hs14 NP NQ hnq
  refine q_truth ?_
  refine Eq.mpr (if_neg (by with_reducible exact Bool.false_ne_true)) ?_
  refine wpAny_allTrue_Or_cons ?_
  refine wpAny_isTrue_Compare1 ?_ (by rfl)
  refine Call_ ?_ (by rfl)
  (rename Ok _ _ _ _ _ _ _ _ => zS); refine nm_built zS (by assumption) (Wd.B (by assumption)) (by rfl) (Wd.nob (by assumption) (by rfl)) ((Wd.bb (by assumption) _ (by decide)).trans (by first | exact b_range | exact b_len | exact b_list | exact b_enum | exact b_abs | exact b_min | exact b_sum)) ?_ (by decide)
  refine PyProof.Rows.callWith_builtin1 ?_ (by rfl) (by rfl)
  refine args_cons ?_ (by rfl)
  (rename Ok _ _ _ _ _ _ _ _ => zS); refine ev_call zS (by assumption) (by assumption) (by rfl) (by rfl) (by decide) (pa_val (pv_name (by assumption) (by rfl)) pa_nil (fun _ _ => rfl)) (fun _ _ => rfl) ?_; intro zt zs zN; clear zS
  rename Ok _ _ _ _ _ _ _ _ => S
  refine law_det_spec T n (R'.le (by lia)) S hU SO.shs.u hn3 SO.bu (by decide) fun td D15 s15 hs15 S15 => ?_
  clear S
  refine args_nil ?_
  (rename Ok _ _ _ _ _ _ _ _ => zS); refine f_abs zS ?_; intro zt zs zN; clear zS
  (rename Ok _ _ _ _ _ _ _ _ => zS); refine c_int zS ?_; intro zt zs zN; clear zS
  refine q_ne ?_
  refine q_truth ?_
  rw [show decide (((detF n z.U).natAbs : Int) ≠ 1) = false from decide_eq_false (by rw [SO.du]; decide)]
  refine Eq.mpr (if_neg (by with_reducible exact Bool.false_ne_true)) ?_
  refine wpAny_allTrue_Or_cons ?_
  refine wpAny_isTrue_Compare1 ?_ (by rfl)
  refine Call_ ?_ (by rfl)
  (rename Ok _ _ _ _ _ _ _ _ => zS); refine nm_built zS (by assumption) (Wd.B (by assumption)) (by rfl) (Wd.nob (by assumption) (by rfl)) ((Wd.bb (by assumption) _ (by decide)).trans (by first | exact b_range | exact b_len | exact b_list | exact b_enum | exact b_abs | exact b_min | exact b_sum)) ?_ (by decide)
  refine PyProof.Rows.callWith_builtin1 ?_ (by rfl) (by rfl)
  refine args_cons ?_ (by rfl)
  (rename Ok _ _ _ _ _ _ _ _ => zS); refine ev_call zS (by assumption) (by assumption) (by rfl) (by rfl) (by decide) (pa_val (pv_name (by assumption) (by rfl)) pa_nil (fun _ _ => rfl)) (fun _ _ => rfl) ?_; intro zt zs zN; clear zS
  rename Ok _ _ _ _ _ _ _ _ => S
  refine law_det_spec T m (R'.le (by lia)) S (hV.sub hs15) SO.shs.v hm3 SO.bv (by decide) fun td D16 s16 hs16 S16 => ?_
  clear S
  refine args_nil ?_
  (rename Ok _ _ _ _ _ _ _ _ => zS); refine f_abs zS ?_; intro zt zs zN; clear zS
  (rename Ok _ _ _ _ _ _ _ _ => zS); refine c_int zS ?_; intro zt zs zN; clear zS
  refine q_ne ?_
  refine q_truth ?_
  rw [show decide (((detF m z.V).natAbs : Int) ≠ 1) = false from decide_eq_false (by rw [SO.dv]; decide)]
  have hs := hs15.trans hs16
  replace hG := hG.sub hs
  replace hK := hK.sub hs
  replace hS := hS.sub hs
  clear hs hs15 hs16 hU hV
  refine Eq.mpr (if_neg (by with_reducible exact Bool.false_ne_true)) ?_
  refine wpAny_allTrue_Or_nil ?_
  refine Eq.mpr (if_neg (by with_reducible exact Bool.false_ne_true)) ?_
  refine wpAny_execs_nil ?_
  refine wpAny_execs_cons ?_
  refine wpAny_Assign_Name ?_ (by rfl)
  (rename Ok _ _ _ _ _ _ _ _ => zS); refine ev_call zS (by assumption) (by assumption) (by rfl) (by rfl) (by decide) (pa_val (pv_name (by assumption) (by rfl)) (pa_int (pi_name (by assumption) (by rfl) (by rfl)) pa_nil (fun _ _ => rfl)) (fun _ _ => rfl)) (fun _ _ => rfl) ?_; intro zt zs zN; clear zS
  dsimp only
  rename Ok _ _ _ _ _ _ _ _ => S
  refine diagonal_spec T (R'.le (by exact Nat.le_of_ble_eq_true rfl)) S hS SO.shs.s (by exact lek (k := 3) (by assumption) rfl) (by exact lek (k := 3) (by assumption) rfl) fun lg D17 s17 nlg hlgD hs17 S17 => ?_
  clear S
  replace hG := hG.sub hs17
  replace hK := hK.sub hs17
  replace hS := hS.sub hs17
  clear hs17
  (rename Ok _ _ _ _ _ _ _ _ => zS); refine st_local zS (by assumption) (by rfl) ?_; intro zs zN; clear zS
  refine wpAny_execs_cons ?_
  refine wpAny_If ?_
  refine wpAny_isTrue_Compare1 ?_ (by rfl)
  refine e_comp2 I (by rfl) rfl (by decide) (fun _ => rfl) ?_
  (rename Ok _ _ _ _ _ _ _ _ => zS); refine ev_range1 zS (by assumption) (by assumption) (by rfl) (pi_name (by assumption) (by rfl) (by rfl)) (fun _ _ => rfl) ?_; intro zr zs zN zq; clear zS
  rename Ok _ _ _ _ _ _ _ _ => S
  refine r_range S R'.hh (by assumption) (by decide) (by decide) (by exact nle _) (by exact ncl (k := 3) (by assumption) rfl) (n := n) (by exact tns0 _) ?_
  intro it18 s18 S18 W18
  clear S
  obtain ⟨⟨Pos', o₀, W, h0, hp⟩, hO, hE⟩ := W18
  refine comp_tail S18 I (by rfl) rfl (by decide) (by rfl) fun l cenv O' s19 hl hlE Ic Sc K keep hOf => ?_
  clear S18
  dsimp only at Ic
  obtain ⟨vs, hd⟩ := W.fld _ _ hp
  refine cs_start2 (fun Q h => W.self 0 s19 o₀ Q NoE (keep _ _ h0) hp h) ?_
  refine cutR fun R2 hR => ?_
  generalize hσ : taken _ _ = σc at Sc
  refine comp_outer W Sc (hOf _ _ _ h0 hd hO) hE (keep _ _ h0) hp (fun _ => rfl) (bnd_local Ic (by rfl))
    (fun i ws σ' D' => σ' = σc ∧ ws = [] ∧ Sub (upd D17 l (.vals [])) D') ⟨rfl, rfl, Sub.refl⟩ (fun _ _ _ _ _ _ _ => trivial) ?_ ?_
  · clear hR fin
    subst hσ
    intro i v O2 ws σ' D18 s20 hi g36 hO2 g37 S20
    refine cutQ fun Q' hQ => ?_
    obtain ⟨ti, rfl⟩ := g36
    obtain ⟨rfl, rfl, hs18⟩ := g37
    rw [Int.zero_add] at S20
    refine ts_nil ?_
    refine hQ _ _ ?_
    rw [if_pos rfl]
    clear hQ
    refine cutQ fun Q' hQ => ?_
    (rename Ok _ _ _ _ _ _ _ _ => zS); refine ev_range1 zS (by assumption) (by assumption) (by rfl) (pi_name (by assumption) (by rfl) (by rfl)) (fun _ _ => rfl) ?_; intro zr zs zN zq; clear zS
    refine hQ _ _ ?_
    rename Ok _ _ _ _ _ _ _ _ => S
    refine r_range S R'.hh (by assumption) (by decide) (by decide) (by exact nle _) (by exact ncl (k := 3) (by assumption) rfl) (n := m) (by exact tns0 _) ?_
    intro it21 s21 S21 W21
    clear S hQ
    obtain ⟨⟨Pos6, o6, W6, h06, hp6⟩, hO6, hE6⟩ := W21
    refine cs_start2' (fun Q h => W6.self 0 s21 o6 Q NoE h06 hp6 h) ?_
    refine cutR fun R3 hR3 => ?_
    refine comp_gen (.inr ⟨_, _, _, rfl, rfl⟩) W6 S21 hO6 hE6 h06 hp6 (bnd_local Ic (by rfl)) (.inr hlE)
      (fun j ws σ' D' => σ' = _ ∧ ws = [] ∧ Sub (upd D17 l (.vals [])) D') ⟨rfl, rfl, hs18⟩ ?_ (fun _ _ _ _ _ _ _ => trivial) ?_ ?_
    · rintro j ws σ' D7 ⟨_, rfl, h7⟩
      exact ⟨h7 _ _ (upd_same ..), by simp⟩
    · clear hR3
      intro j v O7 ws σ' D7 s7 hj g38 hO7 g39 S7
      refine cutQ fun Q' hQ => ?_
      obtain ⟨tj, rfl⟩ := g38
      obtain ⟨rfl, rfl, h7⟩ := g39
      rw [Int.zero_add] at S7
      have hS7 := (hS.sub (Sub.new hl)).sub h7
      have shS := SO.shs.s
      refine ts_one ?_
      refine wpAny_isTrue_BoolOp ?_
      refine wpAny_allTrue_And_cons ?_
      (rename Ok _ _ _ _ _ _ _ _ => zS); refine PB.use zS (pb_ne (pi_name (by assumption) (by rfl) (by rfl)) (pi_name (by assumption) (by rfl) (by rfl)) (by rfl)) ?_; intro zs zN; clear zS
      by_cases hij : i = j
      · rw [show decide ((i : Int) ≠ (j : Int)) = false from decide_eq_false (by lia)]
        refine Eq.mpr (if_neg (by with_reducible exact Bool.false_ne_true)) ?_
        rename Ok _ _ _ _ _ _ _ _ => S
        refine hQ _ _ ?_
        rw [if_neg Bool.false_ne_true]
        exact ⟨_, D7, S.vars (by walk_at "vr"), rfl, rfl, h7⟩
      · rw [show decide ((i : Int) ≠ (j : Int)) = true from decide_eq_true (by lia)]
        refine Eq.mpr (if_pos (by with_reducible rfl)) ?_
        refine wpAny_allTrue_And_cons ?_
        (rename Ok _ _ _ _ _ _ _ _ => zS); refine PB.use zS (pb_ne (pi_el (pv_name (by assumption) (by rfl)) (by walk_at "mt") (by assumption) (pi_name (by assumption) (by rfl) (by rfl)) (by walk_at "ix") (by walk_at "bd") (by walk_at "bd") (fun _ _ => rfl) (pi_name (by assumption) (by rfl) (by rfl)) (by walk_at "ix") (by walk_at "bd") (by walk_at "bd") (fun _ _ => rfl)) pi_const (by rfl)) ?_; intro zs zN; clear zS
        rename Ok _ _ _ _ _ _ _ _ => S
        rw [show decide (el z.S i j ≠ 0) = false from decide_eq_false (by rw [SO.diag i j hij]; simp)]
        refine hQ _ _ ?_
        rw [if_neg Bool.false_ne_true]
        exact ⟨_, D7, S.vars (by walk_at "vr"), rfl, rfl, h7⟩
    · rintro ws σ' D7 s7 ⟨rfl, rfl, h7⟩ S7
      refine hR3 _ _ ?_
      exact ⟨[], _, D7, S7.vars (by walk_at "vr"), rfl, rfl, h7⟩
  rintro ws σ' D18 s20 ⟨rfl, rfl, hs18⟩ S20
  refine hR _ _ ?_
  clear hR
  refine post_none K S20 fun s21 S21 => ?_
  clear S20
  have hs1718 : Sub D17 D18 := (Sub.new hl).trans hs18
  have hlD := hs18 _ _ (upd_same ..)
  replace hG := hG.sub hs1718
  replace hK := hK.sub hs1718
  replace hlgD := hs1718 _ _ hlgD
  clear nlg hS Sc K keep hOf hσ h0 hp hO hE W hd hs18
  refine List_ ?_
  refine args_nil ?_
  rename Ok _ _ _ _ _ _ _ _ => S
  refine n_vals S (by simp) fun l22 s22 hl22 hE22 S22 => ?_
  clear S
  refine q_ne_nil S22 R' (Sub.new hl22 _ _ hlD) (upd_same ..) (n := 0) (.inr ⟨_, rfl, rfl⟩) ?_
  refine q_truth ?_
  refine Eq.mpr (if_neg (by decide)) ?_
  refine wpAny_execs_nil ?_
  refine law_tail T (R'.le (by exact Nat.le_of_ble_eq_true rfl)) V I hN (S22.vars (by walk_at "vr")) (by walk_at "dk") (hG.sub (Sub.new hl22)) (hK.sub (Sub.new hl22)) hGK hn3 hm3 shG bG SO fin
end

end Mine

namespace Mine
theorem the_law : ∀ n m G, 0 < n → n ≤ 3 → 0 < m → m ≤ 3 → Sh n m G → GridOk n m G → LawOk IntMulOk n m G := fun _ _ _ a b c d e f => plain_law intMulOk a b c d e f
theorem callerRm : Rm callerA 20 := ⟨rfl, by decide, by decide, [], rfl⟩
theorem fad_eq {mg : Str → Option Value} {x : Str} {a : Addr} (h : mg x = some (.ref a)) : fad mg x = a := by unfold fad; rw [h]
end Mine
open Mine
theorem PySem.Challenge.cw_nn0254_01_holds : PySem.Challenge.rw_nn0254_01.Holds := by
  w_on
  o_law
  o_head Hook.none
  (case hw => w_witness2)
  intro w s₀ s₁ mg mb G Y fa o pm cd doc dV kV ho hd1 hcd hD hmg hg args vals as hpre hlay hrd hwl hlo
  refine Ground.open G ?_
  intro T _ _ _ _
  have TT : Wd w s₁.heap mg mb := ⟨⟨T.g, T.b, T.nolimit, T.seer rfl⟩, T.fn, fun x hx => T.free x (by revert x; decide +kernel) (by intro h; cases h) (by revert x; decide +kernel) (by revert x; decide +kernel) (by revert x; decide +kernel), T.builtins⟩
  have hfa : fad mg "law" = fa := fad_eq hmg
  subst hfa
  clear ho hd1 hcd hD hmg
  wrow_args hpre hlay hrd hwl hlo
  rename List Int => xs
  rename Heap.IsList _ _ _ => hL
  rename IntsAre _ _ => hI
  rename ¬ (_ : Int) < _ => hlen
  rename List Value => vs
  refine law_spec (D := fun b => if b = _ then some (.zs xs) else none) TT callerRm the_law (fun b c e => ?_) (if_pos rfl) ?_ fun s' hk hg' hd' ho' => ?_
  · split at e
    · rename_i q; cases e; rw [q]; exact ⟨_, hL, by simpa using hI⟩
    · cases e
  · omega
  · refine GoodW.toG ⟨.inl ⟨_, .bool true, [], rfl, ?_, ?_, ?_, fun _ => ⟨.nil, fun _ ha => nomatch ha⟩⟩, hk, ho', hg'.trans hg⟩
    · exact fun _ => rfl
    · exact .bool true
    · wrow_post
