import PyProof.Rows.All
import Wide.All
import OpenK.AllK
import Wide.FinOn
import PySem.Challenge.RW_rh0156_01
open PySem PySem.W PyProof.Rows
set_option Elab.async false
set_option maxRecDepth 100000
set_option maxHeartbeats 8000000
set_option linter.unusedVariables false
set_option genInjectivity false
set_option compiler.extract_closed false
set_option genSizeOfSpec false
namespace Mine
open_top hd for PySem.Challenge.rw_rh0156_01
-- pure
def swapL (ns : List Int) (i j : Nat) : List Int := (ns.set i (ns.getD j 0)).set j (ns.getD i 0)
def ltb (less : Bool) (x y : Int) : Bool := if less then decide (x < y) else decide (y < x)

def scanUp (less : Bool) (ns : List Int) (p : Int) : Nat → Nat → Nat × List (Int × Int)
  | 0, i => (i, [(ns.getD i 0, p)])
  | k + 1, i => bif ltb less (ns.getD i 0) p then ((scanUp less ns p k (i + 1)).1, (ns.getD i 0, p) :: (scanUp less ns p k (i + 1)).2) else (i, [(ns.getD i 0, p)])
def scanDn (less : Bool) (ns : List Int) (p : Int) : Nat → Nat → Nat × List (Int × Int)
  | 0, i => (i, [(p, ns.getD i 0)])
  | k + 1, i => bif ltb less p (ns.getD i 0) then ((scanDn less ns p k (i - 1)).1, (p, ns.getD i 0) :: (scanDn less ns p k (i - 1)).2) else (i, [(p, ns.getD i 0)])
def seamLoop (less : Bool) (p : Int) (low high : Nat) : Nat → List Int → Nat → Nat → List Int × Nat × List (Int × Int)
  | 0, ns, up, _ => (ns, up, [])
  | k + 1, ns, up, dn =>
    bif decide ((scanDn less ns p (dn - 1 - low) (dn - 1)).1 < (scanUp less ns p (high - (up + 1)) (up + 1)).1)
    then (ns, (scanUp less ns p (high - (up + 1)) (up + 1)).1, (scanUp less ns p (high - (up + 1)) (up + 1)).2 ++ (scanDn less ns p (dn - 1 - low) (dn - 1)).2)
    else
      ((seamLoop less p low high k (swapL ns (scanUp less ns p (high - (up + 1)) (up + 1)).1 (scanDn less ns p (dn - 1 - low) (dn - 1)).1) (scanUp less ns p (high - (up + 1)) (up + 1)).1 (scanDn less ns p (dn - 1 - low) (dn - 1)).1).1,
       (seamLoop less p low high k (swapL ns (scanUp less ns p (high - (up + 1)) (up + 1)).1 (scanDn less ns p (dn - 1 - low) (dn - 1)).1) (scanUp less ns p (high - (up + 1)) (up + 1)).1 (scanDn less ns p (dn - 1 - low) (dn - 1)).1).2.1,
       (scanUp less ns p (high - (up + 1)) (up + 1)).2 ++ (scanDn less ns p (dn - 1 - low) (dn - 1)).2 ++ (seamLoop less p low high k (swapL ns (scanUp less ns p (high - (up + 1)) (up + 1)).1 (scanDn less ns p (dn - 1 - low) (dn - 1)).1) (scanUp less ns p (high - (up + 1)) (up + 1)).1 (scanDn less ns p (dn - 1 - low) (dn - 1)).1).2.2)
def partF (less : Bool) (ns : List Int) (low high : Nat) : List Int × Nat × List (Int × Int) :=
  (swapL (seamLoop less (ns.getD ((low + high) / 2) 0) low high (high - low) (swapL ns ((low + high) / 2) (high - 1)) low (high - 1)).1 (high - 1) (seamLoop less (ns.getD ((low + high) / 2) 0) low high (high - low) (swapL ns ((low + high) / 2) (high - 1)) low (high - 1)).2.1,
   (seamLoop less (ns.getD ((low + high) / 2) 0) low high (high - low) (swapL ns ((low + high) / 2) (high - 1)) low (high - 1)).2.1,
   (seamLoop less (ns.getD ((low + high) / 2) 0) low high (high - low) (swapL ns ((low + high) / 2) (high - 1)) low (high - 1)).2.2)

/-- what holds between the turns of a seam's loop -/
structure SI (less : Bool) (ns : List Int) (p : Int) (low high up dn : Nat) : Prop where
  lu : low ≤ up
  ud : up ≤ dn
  ld : low < dn
  dh : dn < high
  eq : up = dn → dn + 2 ≤ high
  hl : high < ns.length
  a : ∀ i, low ≤ i → i ≤ up → ltb less p (ns.getD i 0) = false
  b : ∀ i, dn ≤ i → i ≤ high → ltb less (ns.getD i 0) p = false

theorem scanUp_stop {less : Bool} {ns : List Int} {p : Int} {i : Nat} (h : ltb less (ns.getD i 0) p = false) : ∀ k, scanUp less ns p k i = (i, [(ns.getD i 0, p)])
  | 0 => rfl
  | k + 1 => by simp only [scanUp, h, cond_false]
theorem scanUp_go {less : Bool} {ns : List Int} {p : Int} {i k : Nat} (h : ltb less (ns.getD i 0) p = true) : scanUp less ns p (k + 1) i = ((scanUp less ns p k (i + 1)).1, (ns.getD i 0, p) :: (scanUp less ns p k (i + 1)).2) := by
  simp only [scanUp, h, cond_true]
theorem scanDn_stop {less : Bool} {ns : List Int} {p : Int} {i : Nat} (h : ltb less p (ns.getD i 0) = false) : ∀ k, scanDn less ns p k i = (i, [(p, ns.getD i 0)])
  | 0 => rfl
  | k + 1 => by simp only [scanDn, h, cond_false]
theorem scanDn_go {less : Bool} {ns : List Int} {p : Int} {i k : Nat} (h : ltb less p (ns.getD i 0) = true) : scanDn less ns p (k + 1) i = ((scanDn less ns p k (i - 1)).1, (p, ns.getD i 0) :: (scanDn less ns p k (i - 1)).2) := by
  simp only [scanDn, h, cond_true]

theorem swapL_length (ns : List Int) (i j : Nat) : (swapL ns i j).length = ns.length := by simp [swapL]
theorem getD_set {ns : List Int} {i j : Nat} {v : Int} (h : i < ns.length) : (ns.set i v).getD j 0 = if i = j then v else ns.getD j 0 := by
  simp only [List.getD_eq_getElem?_getD, List.getElem?_set]
  by_cases e : i = j
  · subst e; simp [h]
  · simp [e]
theorem getD_swapL {ns : List Int} {i j k : Nat} (hi : i < ns.length) (hj : j < ns.length) : (swapL ns i j).getD k 0 = if j = k then ns.getD i 0 else if i = k then ns.getD j 0 else ns.getD k 0 := by
  rw [swapL, getD_set (by simpa using hj), getD_set hi]

theorem scanUp_spec {less : Bool} {ns : List Int} {p : Int} {high : Nat} (hs : ltb less (ns.getD high 0) p = false) : ∀ k i, i + k = high →
    i ≤ (scanUp less ns p k i).1 ∧ (scanUp less ns p k i).1 ≤ high ∧ ltb less (ns.getD (scanUp less ns p k i).1 0) p = false ∧ (∀ q, i ≤ q → q < (scanUp less ns p k i).1 → ltb less (ns.getD q 0) p = true) ∧ (scanUp less ns p k i).2.length = (scanUp less ns p k i).1 - i + 1 := by
  intro k
  induction k with
  | zero =>
    intro i hi
    have : i = high := by lia
    subst this
    simp only [scanUp]
    refine ⟨Nat.le_refl _, Nat.le_refl _, hs, fun q h1 h2 => absurd h1 (by lia), by simp⟩
  | succ k ih =>
    intro i hi
    cases h : ltb less (ns.getD i 0) p with
    | false =>
      rw [scanUp_stop h]
      refine ⟨Nat.le_refl _, by dsimp only; lia, h, fun q h1 h2 => absurd h1 (by dsimp only at h2; lia), by simp⟩
    | true =>
      rw [scanUp_go h]
      obtain ⟨a, b, c, d, e⟩ := ih (i + 1) (by lia)
      refine ⟨by dsimp only; lia, b, c, fun q h1 h2 => ?_, by simp only [List.length_cons, e]; lia⟩
      by_cases hq : q = i
      · rw [hq]; exact h
      · exact d q (by lia) h2
theorem scanDn_spec {less : Bool} {ns : List Int} {p : Int} {low : Nat} (hs : ltb less p (ns.getD low 0) = false) : ∀ k i, low + k = i →
    low ≤ (scanDn less ns p k i).1 ∧ (scanDn less ns p k i).1 ≤ i ∧ ltb less p (ns.getD (scanDn less ns p k i).1 0) = false ∧ (∀ q, (scanDn less ns p k i).1 < q → q ≤ i → ltb less p (ns.getD q 0) = true) ∧ (scanDn less ns p k i).2.length = i - (scanDn less ns p k i).1 + 1 := by
  intro k
  induction k with
  | zero =>
    intro i hi
    have : i = low := by lia
    subst this
    simp only [scanDn]
    refine ⟨Nat.le_refl _, Nat.le_refl _, hs, fun q h1 h2 => absurd h1 (by lia), by simp⟩
  | succ k ih =>
    intro i hi
    cases h : ltb less p (ns.getD i 0) with
    | false =>
      rw [scanDn_stop h]
      refine ⟨by dsimp only; lia, Nat.le_refl _, h, fun q h1 h2 => absurd h1 (by dsimp only; lia), by simp⟩
    | true =>
      rw [scanDn_go h]
      obtain ⟨a, b, c, d, e⟩ := ih (i - 1) (by lia)
      refine ⟨a, by dsimp only; lia, c, fun q h1 h2 => ?_, by simp only [List.length_cons, e]; lia⟩
      by_cases hq : q = i
      · rw [hq]; exact h
      · exact d q h1 (by lia)
theorem ltb_asymm {less : Bool} {x y : Int} (h : ltb less x y = true) : ltb less y x = false := by
  cases less <;> simp [ltb] at * <;> lia
theorem seam_stop {less : Bool} {ns : List Int} {p : Int} {low high up dn k : Nat} (h : (scanDn less ns p (dn - 1 - low) (dn - 1)).1 < (scanUp less ns p (high - (up + 1)) (up + 1)).1) :
    seamLoop less p low high (k + 1) ns up dn = (ns, (scanUp less ns p (high - (up + 1)) (up + 1)).1, (scanUp less ns p (high - (up + 1)) (up + 1)).2 ++ (scanDn less ns p (dn - 1 - low) (dn - 1)).2) := by
  simp only [seamLoop, h, decide_true, cond_true]
theorem seam_go {less : Bool} {ns : List Int} {p : Int} {low high up dn k u v : Nat} (hu : u = (scanUp less ns p (high - (up + 1)) (up + 1)).1) (hv : v = (scanDn less ns p (dn - 1 - low) (dn - 1)).1) (h : ¬ v < u) :
    seamLoop less p low high (k + 1) ns up dn = ((seamLoop less p low high k (swapL ns u v) u v).1, (seamLoop less p low high k (swapL ns u v) u v).2.1, (scanUp less ns p (high - (up + 1)) (up + 1)).2 ++ (scanDn less ns p (dn - 1 - low) (dn - 1)).2 ++ (seamLoop less p low high k (swapL ns u v) u v).2.2) := by
  subst hu hv
  simp only [seamLoop, h, decide_false, cond_false]
theorem SI.up {less : Bool} {ns : List Int} {p : Int} {low high up dn : Nat} (S : SI less ns p low high up dn) :
    up + 1 ≤ (scanUp less ns p (high - (up + 1)) (up + 1)).1 ∧ (scanUp less ns p (high - (up + 1)) (up + 1)).1 ≤ high - 1 ∧ ((scanUp less ns p (high - (up + 1)) (up + 1)).1 ≤ dn ∨ (scanUp less ns p (high - (up + 1)) (up + 1)).1 = up + 1) ∧
      ltb less (ns.getD (scanUp less ns p (high - (up + 1)) (up + 1)).1 0) p = false ∧ (∀ q, up + 1 ≤ q → q < (scanUp less ns p (high - (up + 1)) (up + 1)).1 → ltb less (ns.getD q 0) p = true) := by
  have h1 := S.lu; have h2 := S.ud; have h3 := S.ld; have h4 := S.dh; have h5 := S.eq; have h6 := S.hl
  obtain ⟨a, b, c, d, _⟩ := scanUp_spec (S.b high (by lia) (Nat.le_refl _)) (high - (up + 1)) (up + 1) (by lia)
  have key : (scanUp less ns p (high - (up + 1)) (up + 1)).1 ≤ dn ∨ (scanUp less ns p (high - (up + 1)) (up + 1)).1 = up + 1 := by
    by_cases hd : dn ≤ up
    · right
      cases Nat.lt_or_ge (up + 1) (scanUp less ns p (high - (up + 1)) (up + 1)).1 with
      | inl hlt =>
        have z1 := d (up + 1) (Nat.le_refl _) hlt
        rw [S.b (up + 1) (by lia) (by lia)] at z1
        exact absurd z1 Bool.false_ne_true
      | inr hge => lia
    · left
      cases Nat.lt_or_ge dn (scanUp less ns p (high - (up + 1)) (up + 1)).1 with
      | inl hlt =>
        have z1 := d dn (by lia) hlt
        rw [S.b dn (Nat.le_refl _) (by lia)] at z1
        exact absurd z1 Bool.false_ne_true
      | inr hge => exact hge
  refine ⟨a, ?_, key, c, d⟩
  rcases key with k | k
  · lia
  · rw [k]
    by_cases e : up = dn
    · have := h5 e; lia
    · lia
theorem SI.dn {less : Bool} {ns : List Int} {p : Int} {low high up dn : Nat} (S : SI less ns p low high up dn) :
    low ≤ (scanDn less ns p (dn - 1 - low) (dn - 1)).1 ∧ (scanDn less ns p (dn - 1 - low) (dn - 1)).1 ≤ dn - 1 ∧ ltb less p (ns.getD (scanDn less ns p (dn - 1 - low) (dn - 1)).1 0) = false ∧ (∀ q, (scanDn less ns p (dn - 1 - low) (dn - 1)).1 < q → q ≤ dn - 1 → ltb less p (ns.getD q 0) = true) := by
  have h1 := S.lu; have h2 := S.ud; have h3 := S.ld; have h4 := S.dh; have h5 := S.eq; have h6 := S.hl
  obtain ⟨a, b, c, d, _⟩ := scanDn_spec (S.a low (Nat.le_refl _) h1) (dn - 1 - low) (dn - 1) (by lia)
  exact ⟨a, b, c, d⟩
theorem SI.step {less : Bool} {ns : List Int} {p : Int} {low high up dn u v : Nat} (S : SI less ns p low high up dn) (hu : u = (scanUp less ns p (high - (up + 1)) (up + 1)).1) (hv : v = (scanDn less ns p (dn - 1 - low) (dn - 1)).1) (h : ¬ v < u) :
    SI less (swapL ns u v) p low high u v := by
  have h1 := S.lu; have h2 := S.ud; have h3 := S.ld; have h4 := S.dh; have h5 := S.eq; have h6 := S.hl
  obtain ⟨a1, a2, a3, a4, a5⟩ := S.up
  obtain ⟨b1, b2, b3, b4⟩ := S.dn
  rw [← hu] at a1 a2 a3 a4 a5
  rw [← hv] at b1 b2 b3 b4
  refine ⟨by lia, by lia, by lia, by lia, fun e => by lia, by rw [swapL_length]; exact h6, fun i i1 i2 => ?_, fun i i1 i2 => ?_⟩
  · rw [getD_swapL (by lia) (by lia)]
    split
    · rename_i e
      have : u = i := by lia
      rw [e] at b3
      rw [this]; exact b3
    · split
      · exact b3
      · by_cases q : i ≤ up
        · exact S.a i i1 q
        · exact ltb_asymm (a5 i (by lia) (by lia))
  · rw [getD_swapL (by lia) (by lia)]
    split
    · exact a4
    · split
      · rename_i e1 e2; exact absurd e2 (by lia)
      · by_cases q : dn ≤ i
        · exact S.b i q i2
        · exact ltb_asymm (b4 i (by lia) (by lia))
-- pure
def twoF (less : Bool) (ns : List Int) (low high : Nat) : List Int × List (Int × Int) :=
  (bif ltb less (ns.getD high 0) (ns.getD low 0) then swapL ns low high else ns, [(ns.getD high 0, ns.getD low 0)])
def midF (less : Bool) (ns : List Int) (low mid high : Nat) : List Int × List (Int × Int) :=
  bif ltb less (ns.getD mid 0) (ns.getD low 0) then (swapL ns mid low, [(ns.getD mid 0, ns.getD low 0)])
  else (bif ltb less (ns.getD high 0) (ns.getD mid 0) then swapL ns mid high else ns, [(ns.getD mid 0, ns.getD low 0), (ns.getD high 0, ns.getD mid 0)])
def sortF (less : Bool) : Nat → List Int → Nat → Nat → List Int × List (Int × Int)
  | 0, ns, _, _ => (ns, [])
  | k + 1, ns, low, high =>
    if high ≤ low then (ns, []) else
    if high = low + 1 then twoF less ns low high else
    if high = low + 2 then ((midF less (twoF less ns low high).1 low ((low + high) / 2) high).1, (twoF less ns low high).2 ++ (midF less (twoF less ns low high).1 low ((low + high) / 2) high).2) else
    let M := midF less (twoF less ns low high).1 low ((low + high) / 2) high
    let P := partF less M.1 low high
    if P.2.1 - low < high - P.2.1 then
      let X := sortF less k P.1 low (P.2.1 - 1)
      let Y := sortF less k X.1 (P.2.1 + 1) high
      (Y.1, (twoF less ns low high).2 ++ M.2 ++ P.2.2 ++ X.2 ++ Y.2)
    else
      let X := sortF less k P.1 (P.2.1 + 1) high
      let Y := sortF less k X.1 low (P.2.1 - 1)
      (Y.1, (twoF less ns low high).2 ++ M.2 ++ P.2.2 ++ X.2 ++ Y.2)

theorem twoF_length (less : Bool) (ns : List Int) (low high : Nat) : (twoF less ns low high).1.length = ns.length := by
  unfold twoF
  cases ltb less (ns.getD high 0) (ns.getD low 0) <;> simp [swapL_length]
theorem midF_length (less : Bool) (ns : List Int) (low mid high : Nat) : (midF less ns low mid high).1.length = ns.length := by
  unfold midF
  cases ltb less (ns.getD mid 0) (ns.getD low 0) <;> cases ltb less (ns.getD high 0) (ns.getD mid 0) <;> simp [swapL_length]
theorem ltb_trans' {less : Bool} {x y z : Int} (h1 : ltb less y x = false) (h2 : ltb less z y = false) : ltb less z x = false := by
  cases less <;> simp [ltb] at * <;> lia

/-- same items outside, items of the range inside -/
structure Sub (ns ns' : List Int) (low high : Nat) : Prop where
  len : ns'.length = ns.length
  out : ∀ i, i < low ∨ high < i → ns'.getD i 0 = ns.getD i 0
  ins : ∀ i, low ≤ i → i ≤ high → ∃ j, low ≤ j ∧ j ≤ high ∧ ns'.getD i 0 = ns.getD j 0
theorem Sub.refl (ns : List Int) (low high : Nat) : Sub ns ns low high := ⟨rfl, fun _ _ => rfl, fun i a b => ⟨i, a, b, rfl⟩⟩
theorem Sub.trans {ns ns' ns'' : List Int} {low high : Nat} (a : Sub ns ns' low high) (b : Sub ns' ns'' low high) : Sub ns ns'' low high :=
  ⟨b.len.trans a.len, fun i h => (b.out i h).trans (a.out i h), fun i h1 h2 => by
    obtain ⟨q, q1, q2, q3⟩ := b.ins i h1 h2
    obtain ⟨r, r1, r2, r3⟩ := a.ins q q1 q2
    exact ⟨r, r1, r2, q3.trans r3⟩⟩
theorem Sub.wide {ns ns' : List Int} {low high lo hi : Nat} (a : Sub ns ns' lo hi) (h1 : low ≤ lo) (h2 : hi ≤ high) : Sub ns ns' low high :=
  ⟨a.len, fun i h => a.out i (by lia), fun i q1 q2 => by
    by_cases z : lo ≤ i ∧ i ≤ hi
    · obtain ⟨r, r1, r2, r3⟩ := a.ins i z.1 z.2
      exact ⟨r, by lia, by lia, r3⟩
    · exact ⟨i, q1, q2, a.out i (by lia)⟩⟩
theorem Sub.swap {ns : List Int} {low high i j : Nat} (hi : i < ns.length) (hj : j < ns.length) (i1 : low ≤ i) (i2 : i ≤ high) (j1 : low ≤ j) (j2 : j ≤ high) : Sub ns (swapL ns i j) low high :=
  ⟨swapL_length .., fun k h => by
    rw [getD_swapL hi hj, if_neg (by lia), if_neg (by lia)], fun k h1 h2 => by
    rw [getD_swapL hi hj]
    by_cases e1 : j = k
    · rw [if_pos e1]; exact ⟨i, i1, i2, rfl⟩
    · rw [if_neg e1]
      by_cases e2 : i = k
      · rw [if_pos e2]; exact ⟨j, j1, j2, rfl⟩
      · rw [if_neg e2]; exact ⟨k, h1, h2, rfl⟩⟩

theorem two_sub {less : Bool} {ns : List Int} {low high : Nat} (h1 : low ≤ high) (h2 : high < ns.length) : Sub ns (twoF less ns low high).1 low high := by
  unfold twoF
  cases ltb less (ns.getD high 0) (ns.getD low 0)
  · exact Sub.refl ..
  · exact Sub.swap (by lia) h2 (Nat.le_refl _) h1 h1 (Nat.le_refl _)
theorem two_ord {less : Bool} {ns : List Int} {low high : Nat} (h1 : low < high) (h2 : high < ns.length) : ltb less ((twoF less ns low high).1.getD high 0) ((twoF less ns low high).1.getD low 0) = false := by
  unfold twoF
  cases h : ltb less (ns.getD high 0) (ns.getD low 0)
  · exact h
  · simp only [cond_true]
    rw [getD_swapL (by lia) h2, getD_swapL (by lia) h2, if_pos rfl, if_neg (by lia), if_pos rfl]
    exact ltb_asymm h
theorem mid_sub {less : Bool} {ns : List Int} {low mid high : Nat} (h1 : low ≤ mid) (h2 : mid ≤ high) (h3 : high < ns.length) : Sub ns (midF less ns low mid high).1 low high := by
  unfold midF
  cases ltb less (ns.getD mid 0) (ns.getD low 0)
  · cases ltb less (ns.getD high 0) (ns.getD mid 0)
    · exact Sub.refl ..
    · exact Sub.swap (by lia) (by lia) (by lia) (by lia) (by lia) (by lia)
  · exact Sub.swap (by lia) (by lia) (by lia) (by lia) (by lia) (by lia)
theorem mid_ord {less : Bool} {ns : List Int} {low mid high : Nat} (h1 : low < mid) (h2 : mid < high) (h3 : high < ns.length) (h : ltb less (ns.getD high 0) (ns.getD low 0) = false) :
    ltb less ((midF less ns low mid high).1.getD mid 0) ((midF less ns low mid high).1.getD low 0) = false ∧ ltb less ((midF less ns low mid high).1.getD high 0) ((midF less ns low mid high).1.getD mid 0) = false := by
  unfold midF
  cases a : ltb less (ns.getD mid 0) (ns.getD low 0)
  · cases b : ltb less (ns.getD high 0) (ns.getD mid 0)
    · exact ⟨a, b⟩
    · simp only [cond_true, cond_false]
      rw [getD_swapL (by lia) (by lia), getD_swapL (by lia) (by lia), getD_swapL (by lia) (by lia)]
      rw [if_neg (by lia), if_pos rfl, if_neg (by lia), if_neg (by lia), if_pos rfl]
      exact ⟨h, ltb_asymm b⟩
  · simp only [cond_true]
    rw [getD_swapL (by lia) (by lia), getD_swapL (by lia) (by lia), getD_swapL (by lia) (by lia)]
    rw [if_neg (by lia), if_pos rfl, if_pos rfl, if_neg (by lia), if_neg (by lia)]
    exact ⟨ltb_asymm a, h⟩
/-- the start of a seam -/
theorem seam_start {less : Bool} {ns : List Int} {low mid high : Nat} (hm : mid = (low + high) / 2) (h1 : low + 3 ≤ high) (h3 : high < ns.length) (a : ltb less (ns.getD mid 0) (ns.getD low 0) = false) (b : ltb less (ns.getD high 0) (ns.getD mid 0) = false) :
    SI less (swapL ns mid (high - 1)) (ns.getD mid 0) low high low (high - 1) := by
  refine ⟨Nat.le_refl _, by lia, by lia, by lia, fun e => by lia, by rw [swapL_length]; exact h3, fun i i1 i2 => ?_, fun i i1 i2 => ?_⟩
  · have : i = low := by lia
    subst this
    rw [getD_swapL (by lia) (by lia), if_neg (by lia), if_neg (by lia)]
    exact a
  · rw [getD_swapL (by lia) (by lia)]
    by_cases e : high - 1 = i
    · rw [if_pos e]
      cases less <;> simp [ltb]
    · have : i = high := by lia
      subst this
      rw [if_neg e, if_neg (by lia)]
      exact b

theorem seam_spec {less : Bool} {p : Int} {low high : Nat} : ∀ k ns up dn, SI less ns p low high up dn → ns.getD (high - 1) 0 = p → dn < up + k →
    Sub ns (seamLoop less p low high k ns up dn).1 low high ∧ low + 1 ≤ (seamLoop less p low high k ns up dn).2.1 ∧ (seamLoop less p low high k ns up dn).2.1 ≤ high - 1 ∧ (seamLoop less p low high k ns up dn).1.getD (high - 1) 0 = p ∧
      (∀ i, low ≤ i → i < (seamLoop less p low high k ns up dn).2.1 → ltb less p ((seamLoop less p low high k ns up dn).1.getD i 0) = false) ∧
      (∀ i, (seamLoop less p low high k ns up dn).2.1 ≤ i → i ≤ high → ltb less ((seamLoop less p low high k ns up dn).1.getD i 0) p = false) ∧
      (seamLoop less p low high k ns up dn).2.2.length ≤ (high - up) + (dn - low) := by
  intro k
  induction k with
  | zero => intro ns up dn S _ h; exact absurd S.ud (by lia)
  | succ k ih =>
    intro ns up dn S hp hk
    have h1 := S.lu; have h2 := S.ud; have h3 := S.ld; have h4 := S.dh; have h5 := S.eq; have h6 := S.hl
    obtain ⟨a1, a2, a3, a4, a5⟩ := S.up
    obtain ⟨b1, b2, b3, b4⟩ := S.dn
    obtain ⟨_, _, _, _, l1⟩ := scanUp_spec (S.b high (by lia) (Nat.le_refl _)) (high - (up + 1)) (up + 1) (by lia)
    obtain ⟨_, _, _, _, l2⟩ := scanDn_spec (S.a low (Nat.le_refl _) h1) (dn - 1 - low) (dn - 1) (by lia)
    generalize hu : (scanUp less ns p (high - (up + 1)) (up + 1)).1 = u at *
    generalize hv : (scanDn less ns p (dn - 1 - low) (dn - 1)).1 = v at *
    by_cases hc : v < u
    · rw [seam_stop (by rw [hu, hv]; exact hc), hu]
      refine ⟨Sub.refl .., (by show low + 1 ≤ u; lia), a2, hp, fun i i1 i2 => ?_, fun i i1 i2 => ?_, by simp only [List.length_append]; lia⟩
      · by_cases q : i ≤ up
        · exact S.a i i1 q
        · exact ltb_asymm (a5 i (by lia) i2)
      · by_cases q : dn ≤ i
        · exact S.b i q i2
        · by_cases q2 : i = u
          · rw [q2]; exact a4
          · exact ltb_asymm (b4 i (by lia) (by lia))
    · rw [seam_go hu.symm hv.symm hc]
      have S' := S.step hu.symm hv.symm hc
      obtain ⟨c1, c2, c3, c4, c5, c6, c7⟩ := ih (swapL ns u v) u v S' (by rw [getD_swapL (by lia) (by lia), if_neg (by lia), if_neg (by lia)]; exact hp) (by lia)
      exact ⟨(Sub.swap (by lia) (by lia) (by lia) (by lia) (by lia) (by lia)).trans c1, c2, c3, c4, c5, c6, by simp only [List.length_append]; lia⟩

theorem part_spec {less : Bool} {ns : List Int} {low high : Nat} (h1 : low + 3 ≤ high) (h3 : high < ns.length) (S : SI less (swapL ns ((low + high) / 2) (high - 1)) (ns.getD ((low + high) / 2) 0) low high low (high - 1)) :
    Sub ns (partF less ns low high).1 low high ∧ low + 1 ≤ (partF less ns low high).2.1 ∧ (partF less ns low high).2.1 ≤ high - 1 ∧
      (∀ i, low ≤ i → i < (partF less ns low high).2.1 → ltb less ((partF less ns low high).1.getD (partF less ns low high).2.1 0) ((partF less ns low high).1.getD i 0) = false) ∧
      (∀ i, (partF less ns low high).2.1 < i → i ≤ high → ltb less ((partF less ns low high).1.getD i 0) ((partF less ns low high).1.getD (partF less ns low high).2.1 0) = false) ∧
      (partF less ns low high).2.2.length ≤ 2 * (high - low) := by
  obtain ⟨c1, c2, c3, c4, c5, c6, c7⟩ := seam_spec (high - low) _ _ _ S (by rw [getD_swapL (by lia) (by lia), if_pos rfl]) (by lia)
  have hl := c1.len
  rw [swapL_length] at hl
  unfold partF
  generalize seamLoop less (ns.getD ((low + high) / 2) 0) low high (high - low) (swapL ns ((low + high) / 2) (high - 1)) low (high - 1) = Z at *
  dsimp only
  have e0 : (swapL Z.1 (high - 1) Z.2.1).getD Z.2.1 0 = ns.getD ((low + high) / 2) 0 := by
    rw [getD_swapL (by lia) (by lia), if_pos rfl, c4]
  refine ⟨((Sub.swap (by lia) (by lia) (by lia) (by lia) (by lia) (by lia)).trans c1).trans (Sub.swap (by lia) (by lia) (by lia) (by lia) (by lia) (by lia)), c2, c3, fun i i1 i2 => ?_, fun i i1 i2 => ?_, by lia⟩
  · rw [e0, getD_swapL (by lia) (by lia), if_neg (by lia), if_neg (by lia)]
    exact c5 i i1 i2
  · rw [e0, getD_swapL (by lia) (by lia), if_neg (by lia)]
    split
    · exact c6 _ (Nat.le_refl _) (by lia)
    · exact c6 i (by lia) i2

theorem sort_spec {less : Bool} : ∀ k ns low high, low ≤ high → high < low + k → high < ns.length →
    Sub ns (sortF less k ns low high).1 low high ∧ (∀ i q, low ≤ i → i < q → q ≤ high → ltb less ((sortF less k ns low high).1.getD q 0) ((sortF less k ns low high).1.getD i 0) = false) ∧ (sortF less k ns low high).2.length ≤ 5 * (k * (high - low + 1)) := by
  intro k
  induction k with
  | zero => intro ns low high h1 h2; lia
  | succ k ih =>
    intro ns low high h1 h2 h3
    unfold sortF
    dsimp only
    have hT : (twoF less ns low high).2.length = 1 := rfl
    have hM : ∀ xs mid, (midF less xs low mid high).2.length ≤ 2 := by
      intro xs mid
      unfold midF
      cases ltb less (xs.getD mid 0) (xs.getD low 0) <;> simp
    have hkk : (k + 1) * (high - low + 1) = k * (high - low + 1) + (high - low + 1) := Nat.succ_mul ..
    split
    · exact ⟨Sub.refl .., fun i q a b c => by lia, by simp⟩
    · split
      · refine ⟨two_sub h1 h3, fun i q a b c => ?_, by rw [hkk, hT]; lia⟩
        have e1 : i = low := by lia
        have e2 : q = high := by lia
        rw [e1, e2]
        exact two_ord (by lia) h3
      · have hlA := twoF_length less ns low high
        have oA := two_ord (less := less) (ns := ns) (low := low) (high := high) (by lia) h3
        obtain ⟨o1, o2⟩ := mid_ord (less := less) (mid := (low + high) / 2) (by lia) (by lia) (by rw [hlA]; exact h3) oA
        have sM := (two_sub (less := less) (ns := ns) h1 h3).trans (mid_sub (less := less) (mid := (low + high) / 2) (by lia) (by lia) (by rw [hlA]; exact h3))
        split
        · rename_i e
          refine ⟨sM, fun i q a b c => ?_, by have := hM (twoF less ns low high).1 ((low + high) / 2); simp only [List.length_append, hT]; rw [hkk]; lia⟩
          have em : (low + high) / 2 = low + 1 := by lia
          rw [em] at o1 o2
          dsimp only
          rw [em]
          by_cases z1 : i = low
          · by_cases z2 : q = low + 1
            · rw [z1, z2]; exact o1
            · have z3 : q = high := by lia
              rw [z1, z3]; exact ltb_trans' o1 o2
          · have z3 : q = high := by lia
            have z4 : i = low + 1 := by lia
            rw [z3, z4]; exact o2
        · have hlM := midF_length less (twoF less ns low high).1 low ((low + high) / 2) high
          rw [hlA] at hlM
          have hM' := hM (twoF less ns low high).1 ((low + high) / 2)
          generalize midF less (twoF less ns low high).1 low ((low + high) / 2) high = M at *
          obtain ⟨p1, p2, p3, p4, p5, p6⟩ := part_spec (less := less) (ns := M.1) (low := low) (high := high) (by lia) (by lia) (seam_start rfl (by lia) (by lia) o1 o2)
          have hlP := p1.len
          rw [hlM] at hlP
          generalize hP : partF less M.1 low high = P at *
          have sP := sM.trans p1
          have sum : k * (P.2.1 - 1 - low + 1) + k * (high - (P.2.1 + 1) + 1) ≤ k * (high - low + 1) := by
            rw [← Nat.mul_add]
            exact Nat.mul_le_mul_left k (by lia)
          split
          · obtain ⟨x1, x2, x3⟩ := ih P.1 low (P.2.1 - 1) (by lia) (by lia) (by lia)
            have hlX := x1.len
            obtain ⟨y1, y2, y3⟩ := ih (sortF less k P.1 low (P.2.1 - 1)).1 (P.2.1 + 1) high (by lia) (by lia) (by lia)
            generalize sortF less k P.1 low (P.2.1 - 1) = X at *
            generalize sortF less k X.1 (P.2.1 + 1) high = Y at *
            refine ⟨(sP.trans (x1.wide (by lia) (by lia))).trans (y1.wide (by lia) (by lia)), fun i q a b c => ?_, by simp only [List.length_append, hT]; rw [hkk]; lia⟩
            have yu : Y.1.getD P.2.1 0 = P.1.getD P.2.1 0 := by rw [y1.out _ (by lia), x1.out _ (by lia)]
            have left : ∀ i, low ≤ i → i < P.2.1 → ltb less (Y.1.getD P.2.1 0) (Y.1.getD i 0) = false := fun i a b => by
              rw [yu, y1.out i (by lia)]
              obtain ⟨r, r1, r2, r3⟩ := x1.ins i a (by lia)
              rw [r3]; exact p4 r r1 (by lia)
            have right : ∀ i, P.2.1 < i → i ≤ high → ltb less (Y.1.getD i 0) (Y.1.getD P.2.1 0) = false := fun i a b => by
              rw [yu]
              obtain ⟨r, r1, r2, r3⟩ := y1.ins i (by lia) b
              rw [r3, x1.out r (by lia)]; exact p5 r (by lia) r2
            by_cases z1 : i < P.2.1
            · by_cases z2 : q < P.2.1
              · rw [y1.out i (by lia), y1.out q (by lia)]; exact x2 i q a b (by lia)
              · by_cases z3 : q = P.2.1
                · rw [z3]; exact left i a z1
                · exact ltb_trans' (left i a z1) (right q (by lia) c)
            · by_cases z3 : i = P.2.1
              · rw [z3]; exact right q (by lia) c
              · exact y2 i q (by lia) b c
          · obtain ⟨x1, x2, x3⟩ := ih P.1 (P.2.1 + 1) high (by lia) (by lia) (by lia)
            have hlX := x1.len
            obtain ⟨y1, y2, y3⟩ := ih (sortF less k P.1 (P.2.1 + 1) high).1 low (P.2.1 - 1) (by lia) (by lia) (by lia)
            generalize sortF less k P.1 (P.2.1 + 1) high = X at *
            generalize sortF less k X.1 low (P.2.1 - 1) = Y at *
            refine ⟨(sP.trans (x1.wide (by lia) (by lia))).trans (y1.wide (by lia) (by lia)), fun i q a b c => ?_, by simp only [List.length_append, hT]; rw [hkk]; lia⟩
            have yu : Y.1.getD P.2.1 0 = P.1.getD P.2.1 0 := by rw [y1.out _ (by lia), x1.out _ (by lia)]
            have right : ∀ i, P.2.1 < i → i ≤ high → ltb less (Y.1.getD i 0) (Y.1.getD P.2.1 0) = false := fun i a b => by
              rw [yu, y1.out i (by lia)]
              obtain ⟨r, r1, r2, r3⟩ := x1.ins i (by lia) b
              rw [r3]; exact p5 r (by lia) r2
            have left : ∀ i, low ≤ i → i < P.2.1 → ltb less (Y.1.getD P.2.1 0) (Y.1.getD i 0) = false := fun i a b => by
              rw [yu]
              obtain ⟨r, r1, r2, r3⟩ := y1.ins i a (by lia)
              rw [r3, x1.out r (by lia)]; exact p4 r r1 (by lia)
            by_cases z1 : i < P.2.1
            · by_cases z2 : q < P.2.1
              · exact y2 i q a b (by lia)
              · by_cases z3 : q = P.2.1
                · rw [z3]; exact left i a z1
                · exact ltb_trans' (left i a z1) (right q (by lia) c)
            · by_cases z3 : i = P.2.1
              · rw [z3]; exact right q (by lia) c
              · rw [y1.out i (by lia), y1.out q (by lia)]; exact x2 i q (by lia) b c
theorem sortF_le {less : Bool} {k : Nat} {ns : List Int} {low high : Nat} (h : high ≤ low) : sortF less (k + 1) ns low high = (ns, []) := by
  unfold sortF; rw [if_pos h]
theorem sortF_1 {less : Bool} {k : Nat} {ns : List Int} {low high : Nat} (h : high = low + 1) : sortF less (k + 1) ns low high = twoF less ns low high := by
  unfold sortF; rw [if_neg (by lia), if_pos h]
theorem sortF_2 {less : Bool} {k : Nat} {ns : List Int} {low high : Nat} (h : high = low + 2) : sortF less (k + 1) ns low high = ((midF less (twoF less ns low high).1 low ((low + high) / 2) high).1, (twoF less ns low high).2 ++ (midF less (twoF less ns low high).1 low ((low + high) / 2) high).2) := by
  unfold sortF; rw [if_neg (by lia), if_neg (by lia), if_pos h]
theorem sortF_lt {less : Bool} {k : Nat} {ns : List Int} {low high : Nat} {A M X Y : List Int × List (Int × Int)} {P : List Int × Nat × List (Int × Int)} (h : low + 3 ≤ high) (hA : twoF less ns low high = A) (hM : midF less A.1 low ((low + high) / 2) high = M) (hP : partF less M.1 low high = P)
    (hc : P.2.1 - low < high - P.2.1) (hX : sortF less k P.1 low (P.2.1 - 1) = X) (hY : sortF less k X.1 (P.2.1 + 1) high = Y) : sortF less (k + 1) ns low high = (Y.1, A.2 ++ M.2 ++ P.2.2 ++ X.2 ++ Y.2) := by
  unfold sortF; rw [if_neg (by lia), if_neg (by lia), if_neg (by lia)]; dsimp only; rw [hA, hM, hP, if_pos hc, hX, hY]
theorem sortF_ge {less : Bool} {k : Nat} {ns : List Int} {low high : Nat} {A M X Y : List Int × List (Int × Int)} {P : List Int × Nat × List (Int × Int)} (h : low + 3 ≤ high) (hA : twoF less ns low high = A) (hM : midF less A.1 low ((low + high) / 2) high = M) (hP : partF less M.1 low high = P)
    (hc : ¬ P.2.1 - low < high - P.2.1) (hX : sortF less k P.1 (P.2.1 + 1) high = X) (hY : sortF less k X.1 low (P.2.1 - 1) = Y) : sortF less (k + 1) ns low high = (Y.1, A.2 ++ M.2 ++ P.2.2 ++ X.2 ++ Y.2) := by
  unfold sortF; rw [if_neg (by lia), if_neg (by lia), if_neg (by lia)]; dsimp only; rw [hA, hM, hP, if_neg hc, hX, hY]
theorem twoF_tr (less : Bool) (ns : List Int) (low high : Nat) : (twoF less ns low high).2 = [(ns.getD high 0, ns.getD low 0)] := rfl
theorem twoF_yes {less : Bool} {ns : List Int} {low high : Nat} (h : ltb less (ns.getD high 0) (ns.getD low 0) = true) : (twoF less ns low high).1 = swapL ns low high := by unfold twoF; rw [h]; rfl
theorem twoF_no {less : Bool} {ns : List Int} {low high : Nat} (h : ltb less (ns.getD high 0) (ns.getD low 0) = false) : (twoF less ns low high).1 = ns := by unfold twoF; rw [h]; rfl
theorem midF_1 {less : Bool} {ns : List Int} {low mid high : Nat} (h : ltb less (ns.getD mid 0) (ns.getD low 0) = true) : midF less ns low mid high = (swapL ns mid low, [(ns.getD mid 0, ns.getD low 0)]) := by unfold midF; rw [h]; rfl
theorem midF_2 {less : Bool} {ns : List Int} {low mid high : Nat} (h : ltb less (ns.getD mid 0) (ns.getD low 0) = false) (h' : ltb less (ns.getD high 0) (ns.getD mid 0) = true) : midF less ns low mid high = (swapL ns mid high, [(ns.getD mid 0, ns.getD low 0), (ns.getD high 0, ns.getD mid 0)]) := by unfold midF; rw [h, h']; rfl
theorem midF_3 {less : Bool} {ns : List Int} {low mid high : Nat} (h : ltb less (ns.getD mid 0) (ns.getD low 0) = false) (h' : ltb less (ns.getD high 0) (ns.getD mid 0) = false) : midF less ns low mid high = (ns, [(ns.getD mid 0, ns.getD low 0), (ns.getD high 0, ns.getD mid 0)]) := by unfold midF; rw [h, h']; rfl
theorem midF_pos (less : Bool) (ns : List Int) (l m h : Nat) : 1 ≤ (midF less ns l m h).2.length := by
  unfold midF
  cases ltb less (ns.getD m 0) (ns.getD l 0) <;> simp
theorem sort_len3 {less : Bool} {l h q : Nat} {ns : List Int} (e : l + 3 ≤ h) :
    (twoF less ns l h).2.length + (midF less (twoF less ns l h).1 l ((l + h) / 2) h).2.length + (partF less (midF less (twoF less ns l h).1 l ((l + h) / 2) h).1 l h).2.2.length ≤ (sortF less (q + 1) ns l h).2.length := by
  by_cases hc : (partF less (midF less (twoF less ns l h).1 l ((l + h) / 2) h).1 l h).2.1 - l < h - (partF less (midF less (twoF less ns l h).1 l ((l + h) / 2) h).1 l h).2.1
  · rw [sortF_lt e rfl rfl rfl hc rfl rfl]; simp only [List.length_append, ← Nat.add_assoc]; exact Nat.le_trans (Nat.le_add_right _ _) (Nat.le_add_right _ _)
  · rw [sortF_ge e rfl rfl rfl hc rfl rfl]; simp only [List.length_append, ← Nat.add_assoc]; exact Nat.le_trans (Nat.le_add_right _ _) (Nat.le_add_right _ _)
theorem sort_len2 {less : Bool} {l h q : Nat} {ns : List Int} (e : l + 2 ≤ h) : 2 ≤ (sortF less (q + 1) ns l h).2.length := by
  have a : (twoF less ns l h).2.length = 1 := rfl
  have b := midF_pos less (twoF less ns l h).1 l ((l + h) / 2) h
  by_cases c : h = l + 2
  · rw [sortF_2 c]; simp only [List.length_append]; lia
  · have := sort_len3 (less := less) (q := q) (ns := ns) (l := l) (h := h) (by lia)
    lia
theorem lenB' {α : Type} {ps A S : List α} (a : A.length = 1) (h : 2 ≤ S.length) (e : ps.length + S.length < 1000000) : (ps ++ A).length + 1 < 1000000 := by rw [List.length_append]; lia
theorem lenC' {α : Type} {ps A M P S : List α} (h : A.length + M.length + P.length ≤ S.length) (e : ps.length + S.length < 1000000) : (ps ++ A ++ M).length + P.length < 1000000 := by simp only [List.length_append]; lia
theorem lenD {α : Type} {ps A M P X Y S : List α} (e : S = A ++ M ++ P ++ (X ++ Y)) (h : ps.length + S.length < 1000000) : (ps ++ A ++ M ++ P).length + X.length < 1000000 ∧ (ps ++ A ++ M ++ P ++ X).length + Y.length < 1000000 := by
  rw [e] at h
  simp only [List.length_append] at h ⊢
  constructor <;> lia
theorem arL {l pv h q N : Nat} (p2 : l + 1 ≤ pv) (p3 : pv ≤ h - 1) (h3 : h < N) (hq : h < l + (q + 1)) : l ≤ pv - 1 ∧ pv - 1 < N ∧ pv - 1 < l + q := by lia
theorem arR {l pv h q N : Nat} (h1 : 1 ≤ l) (p2 : l + 1 ≤ pv) (p3 : pv ≤ h - 1) (h3 : h < N) (hq : h < l + (q + 1)) : 1 ≤ pv + 1 ∧ pv + 1 ≤ h ∧ h < pv + 1 + q := by lia
theorem arD {dp q : Nat} (hd : dp + (q + 1) < 700) : dp + 1 + q < 700 := by lia
theorem ne_of_allLt {d : Addr} {R : List (Addr × Obj)} (h : AllLt d R) : ∀ p ∈ R, p.1 ≠ d := by
  induction R with
  | nil => intro p hp; cases hp
  | cons q r ih =>
    intro p hp
    cases hp with
    | head => exact Nat.ne_of_lt h.1
    | tail _ hp => exact ih h.2 p hp

/-- the tuples that a list of refs bears -/
inductive Tr (R : List (Addr × Obj)) : List Value → List (Int × Int) → Prop
  | nil : Tr R [] []
  | snoc {its : List Value} {ps : List (Int × Int)} {t : Addr} {x y : Int} {tx ty : Tok} : Tr R its ps → (t, ({ cls := .type "tuple", data := .seq #[.int x tx, .int y ty] } : Obj)) ∈ R → Tr R (its ++ [.ref t]) (ps ++ [(x, y)])
theorem Tr.mono {R R' : List (Addr × Obj)} {its : List Value} {ps : List (Int × Int)} (h : Tr R its ps) (k : ∀ p ∈ R, p ∈ R') : Tr R' its ps := by
  induction h with
  | nil => exact .nil
  | snoc _ hm ih => exact .snoc ih (k _ hm)
theorem Tr.length {R : List (Addr × Obj)} {its : List Value} {ps : List (Int × Int)} (h : Tr R its ps) : its.length = ps.length := by
  induction h with
  | nil => rfl
  | snoc _ _ ih => simp only [List.length_append, List.length_cons, List.length_nil, ih]

structure Ok (R : List (Addr × Obj)) (o d e : Addr) (its : List Value) (ps : List (Int × Int)) : Prop where
  ro : ∀ p ∈ R, p.1 ≠ o
  rd : ∀ p ∈ R, p.1 ≠ d
  re : ∀ p ∈ R, p.1 ≠ e
  od : o ≠ d
  oe : o ≠ e
  de : d ≠ e
  tr : Tr R its ps

def bodyOf : Stmt → List Stmt
  | .FunctionDef _ _ b _ _ _ _ _ _ _ => b
  | .ClassDef _ _ _ b _ _ _ _ _ _ _ => b
  | _ => []
def nthS : List Stmt → Nat → Stmt
  | s :: _, 0 => s
  | _ :: r, k + 1 => nthS r k
  | [], _ => .Pass default
def askStmt : Stmt := nthS (bodyOf (nthS PySem.Challenge.pw_rh0156_01.main.body 8)) 0

structure AskIn (R : List (Addr × Obj)) (f d : Addr) (less : Bool) : Prop where
  mk' ::
  out : ∃ nm ps bd ds rt tp sc ts nm' pos, askStmt = .FunctionDef nm ps bd ds rt tp sc ts nm' pos ∧ ∃ qual dc pm c' ctv cS cI oS oI oc vs t, (f, fnMade (Str.ofString "ask") qual ps bd sc [(Str.ofString "seen", cS), (Str.ofString "is_less", cI)] dc pm c' ctv) ∈ R ∧
    (cS, oS) ∈ R ∧ oS.data = .cell (some (.ref d)) ∧ (cI, oI) ∈ R ∧ oI.data = .cell (some (.bool less)) ∧ (c', oc) ∈ R ∧ oc.data = .fields vs ∧ vs[1]? = some (.str qual t)
theorem AskIn.mono {R R' : List (Addr × Obj)} {f d : Addr} {less : Bool} (x : AskIn R f d less) (h : ∀ p ∈ R, p ∈ R') : AskIn R' f d less := by
  obtain ⟨nm, ps, bd, ds, rt, tp, sc, ts, nm', pos, e, qual, dc, pm, c', ctv, cS, cI, oS, oI, oc, vs, t, h1, h2, h3, h4, h5, h6, h7, h8⟩ := x.out
  exact ⟨nm, ps, bd, ds, rt, tp, sc, ts, nm', pos, e, qual, dc, pm, c', ctv, cS, cI, oS, oI, oc, vs, t, h _ h1, h _ h2, h3, h _ h4, h5, h _ h6, h7, h8⟩

theorem ro_cons {o : Addr} {q : Addr × Obj} {R : List (Addr × Obj)} (h : q.1 ≠ o) (r : ∀ p ∈ R, p.1 ≠ o) : ∀ p ∈ q :: R, p.1 ≠ o := by
  intro p hp
  cases hp with
  | head => exact h
  | tail _ hp => exact r p hp
theorem Ok.tick {R : List (Addr × Obj)} {o d e t : Addr} {its : List Value} {ps : List (Int × Int)} {x y : Int} {tx ty : Tok} (O : Ok R o d e its ps) (l1 : o < t) (l2 : d < t) (l3 : e < t) :
    Ok ((t, ({ cls := .type "tuple", data := .seq #[.int x tx, .int y ty] } : Obj)) :: R) o d e (its ++ [.ref t]) (ps ++ [(x, y)]) :=
  ⟨ro_cons (Nat.ne_of_gt l1) O.ro, ro_cons (Nat.ne_of_gt l2) O.rd, ro_cons (Nat.ne_of_gt l3) O.re, O.od, O.oe, O.de, .snoc (O.tr.mono fun p hp => .tail _ hp) (.head _)⟩
theorem tickN {h₀ h : Heap} {L : Addr} {q a b c : Addr × Obj} {R : List (Addr × Obj)} (N : News h₀ L h (q :: a :: b :: c :: R)) : News h₀ L h (a :: b :: c :: q :: R) := fun p hp => N p (by
  simp only [List.mem_cons] at hp ⊢
  rcases hp with h | h | h | h | h
  · exact .inr (.inl h)
  · exact .inr (.inr (.inl h))
  · exact .inr (.inr (.inr (.inl h)))
  · exact .inl h
  · exact .inr (.inr (.inr (.inr h))))
theorem AskIn.fn {R : List (Addr × Obj)} {f d : Addr} {less : Bool} (x : AskIn R f d less) : ∃ oc od fd sl, (f, (⟨oc, od, .func fd, sl⟩ : Obj)) ∈ R := by
  obtain ⟨nm, ps, bd, ds, rt, tp, sc, ts, nm', pos, e, qual, dc, pm, c', ctv, cS, cI, oS, oI, oc, vs, t, h1, _⟩ := x.out
  exact ⟨_, _, _, _, h1⟩
local macro_rules | `(tactic| k_all) => `(tactic| first | with_reducible assumption | exact ne_of_allLt (by with_reducible assumption) | (refine ne_of_allLt ?_; dsimp only [AllLt]; with_reducible assumption) | fail "k_all: own")
local macro_rules | `(tactic| k_lt $h:ident) => `(tactic| (replace $h := allLt_of $h; dsimp only [AllLt] at $h:ident))
local macro_rules | `(tactic| k_mem) => `(tactic| first | with_reducible assumption | (with_reducible exact List.Mem.head _) | (with_reducible refine' List.mem_cons_of_mem _ ?_; k_mem))
local macro_rules | `(tactic| size_fits) => `(tactic| first | ((simp only [List.size_toArray, PySem.sizeLine_eq]); omega) | fail "size_fits: own")
local macro_rules | `(tactic| k_steps) => `(tactic| repeat' (first | (k_unfold; (try dsimp only)) | ((fail_if_success (with_reducible show wpAny _ _ (exec (Stmt.While _ _ _ _) _) _ _ _)); (fail_if_success (with_reducible show wpAny _ _ (eval (Expr.ListComp _ _ _ _) _) _ _ _)); (fail_if_success (with_reducible show PyProof.Rows.LCg.CompSrc _ _ _ _ _ _ _ _ _ _ _ _ _ _)); (fail_if_success (with_reducible show wpAny _ _ (exec (Stmt.If _ _ _ _) _) _ _ _)); (fail_if_success (with_reducible show wpAny _ _ (call (Value.ref _) _) _ _ _)); (fail_if_success (with_reducible show WhlRest _ _ _ _ _ _ _ _ _ _ _)); first | walk1 | (dsimp only; walk1) | (dsimp only [List.cons_append, List.nil_append]; walk1)) | fail "no step"))
local macro_rules | `(tactic| is_list) => `(tactic| exact News.isList (by k_asm) (by k_mem))
section
variable {w : World} {dp un : Nat} {gd : Option (List Code)} {cn : Str} {cs : Scope} {a : Addr} {ccd : Value} {cl : List (Str × Addr)} {outer : List Env} {A₀ : Around} {base h₀ : Heap} {L : Addr} {m : Str → Option Value} {s : Shared}
    {loose : List Str} {mean : ExcName → Option Value} {mg mb : Str → Option Value} {Q E : Value → Shared → Prop}
    {o d e f : Addr} {vs its hs : List Value} {ns : List Int} {n k j : Nat} {R : List (Addr × Obj)} {ps : List (Int × Int)} {less : Bool}

theorem swap_c {i i' : Int} {iN jN : Nat} {ti tj : Tok} (hi : i = iN) (hj : i' = jN)
    (B : Below A₀ base outer h₀) (F : Fr h₀ L s.heap m) (X : (Mine.hd.heap_39 w.params).In h₀) (N : News h₀ L s.heap ((o, listOf vs.toArray n) :: (d, listOf its.toArray k) :: (e, listOf hs.toArray j) :: R)) (T : Top topProg loose mean mg mb h₀)
    (hk : cs.kind = .function) (O : Ok R o d e its ps) (hI : IntsAre vs ns) (h1 : iN < ns.length) (h2 : jN < ns.length) (hn : ns.length < 100) (hd : dp < 900)
    (ret : ∀ vs' h' tk', Fr h₀ L h' m → News h₀ L h' ((o, listOf vs'.toArray n) :: (d, listOf its.toArray k) :: (e, listOf hs.toArray j) :: R) → IntsAre vs' (swapL ns iN jN) → Q .none { s with heap := h', toks := tk' }) :
    wpAny (model PySem.Challenge.rw_rh0156_01.row.prog w) (ktrTop dp un gd cn cs L a ccd cl outer) (call (.ref 111) [.ref o, .int i ti, .int i' tj]) Q E s := by
  w_on
  subst hi hj
  have r1 := O.ro
  have n1 : d ≠ o := Ne.symm O.od
  have n2 : e ≠ o := Ne.symm O.oe
  refine wpAny_call ?_
  k_dflt ktr_enter
  k_steps
  with_reducible rename News _ _ _ _ => kN
  with_reducible rename IntsAre _ _ => kI
  refine ret _ _ _ (by k_asm) (fun p hp => kN p (.tail _ hp)) ?_
  simpa [swapL] using kI

theorem ask_c {x y : Int} {tx ty : Tok}
    (B : Below A₀ base outer h₀) (F : Fr h₀ L s.heap m) (X : (Mine.hd.heap_39 w.params).In h₀) (N : News h₀ L s.heap ((o, listOf vs.toArray n) :: (d, listOf its.toArray k) :: (e, listOf hs.toArray j) :: R)) (T : Top topProg loose mean mg mb h₀)
    (C : CodeHd base 131 127) (hk : cs.kind = .function) (O : Ok R o d e its ps) (hA : AskIn R f d less) (hn : ps.length < 1000000) (hd : dp < 900)
    (ret : ∀ its' k' R' h' tk', Fr h₀ L h' m → News h₀ L h' ((o, listOf vs.toArray n) :: (d, listOf its'.toArray k') :: (e, listOf hs.toArray j) :: R') → (∀ p ∈ R, p ∈ R') → Ok R' o d e its' (ps ++ [(x, y)]) →
      Q (.bool (ltb less x y)) { s with heap := h', toks := tk' }) :
    wpAny (model PySem.Challenge.rw_rh0156_01.row.prog w) (ktrTop dp un gd cn cs L a ccd cl outer) (call (.ref f) [.int x tx, .int y ty]) Q E s := by
  w_on
  obtain ⟨nm, qs, bd, ds, rt, tp, sc, ts, nm', pos, e', qual, dc, pm, c', ctv, cS, cI, oS, oI, oc, fs, t, hq⟩ := hA.out
  have h1 := hq.1
  have h2 := hq.2.1
  have h3 := hq.2.2.1
  have h4 := hq.2.2.2.1
  have h5 := hq.2.2.2.2.1
  have h6 := hq.2.2.2.2.2.1
  have h7 := hq.2.2.2.2.2.2.1
  have h8 := hq.2.2.2.2.2.2.2
  clear hq
  cases e'
  have hl := O.tr.length
  have r1 := O.ro
  have r2 := O.rd
  have r3 := O.re
  have n1 := O.od
  have n2 := O.oe
  have n3 : e ≠ d := Ne.symm O.de
  refine wpAny_call ?_
  k_dflt (refine' code_nest ?k1 ?k2 ?k3 ?k4 ?k5 ?kA ?kF ?kK ?k6 ?k7 ?k8 ?k9 ?kB ?_ ?c2 ?c3 ?c4 ?c5; (case kA => exact rfl); (case kF => exact rfl); (case kK => assumption); (case k1 => k_asm); (case k2 => k_asm); (case k3 => k_asm); (case k4 => k_asm); (case k5 => k_asm); (case k6 => exact .tail _ (.tail _ (.tail _ h1))); (case k7 => exact codeRec_news (by k_asm) (.tail _ (.tail _ (.tail _ h6))) (by assumption) (by assumption)); (case k8 => ktr_room); (case k9 => exact BindsTo.of_eq rfl); (case c5 => decide); (case kB => exact locs rfl); (case c2 => exact rfl); (case c3 => exact rfl); (case c4 => exact rfl); k_whole; intro g' L' h' FG' F' N' B' X' T'; (try dsimp only); (try k_lift B'); (try k_fold))
  cases less
  all_goals (
    k_steps
    with_reducible rename News _ _ _ _ => kN
    with_reducible rename _ ∧ _ => l1
    rw [List.push_toArray] at kN
    refine ret _ _ _ _ _ (by k_asm) (tickN kN) (fun p hp => .tail _ hp) (O.tick l1.1 l1.2.1 l1.2.2.1))
end
section
variable {prog : Program} {w : World} {A : Around} {s : Shared} {env : Env} {h₀ : Heap} {L : Addr} {test : PySem.Expr} {body : List Stmt} {Q : Flow → Shared → Prop}
theorem wh_ind {σ : Type} {m₀ : Str → Option Value} {pos : Pos} (ps : σ → List (Str × Value)) (J : σ → Heap → Prop) (μ : σ → Nat)
    (F : Fr h₀ L s.heap m₀)
    (turn : ∀ c h tk, Fr h₀ L h (kstB m₀ (ps c)) → J c h →
      (∀ c' h' tk' m', μ c' < μ c → Fr h₀ L h' m' → J c' h' → (∀ p ∈ ps c', m' p.1 = some p.2) → (∀ z, (∀ p ∈ ps c', z ≠ p.1) → m' z = m₀ z) → WhlRest prog w A (fun _ _ => False) env test body [] Q 0 { s with heap := h', toks := tk' }) →
      wpAny (model prog w) A (isTrue test env (eval test env)) (fun b s₂ => WhlIf b (wpAny (model prog w) A (execs body env) (WhlPost prog w A (fun _ _ => False) env test body [] Q 0) (fun _ _ => False) s₂) (wpAny (model prog w) A (execs [] env) Q (fun _ _ => False) s₂)) (fun _ _ => False) { s with heap := h, toks := tk })
    (c₀ : σ) (hk : ∀ p ∈ ps c₀, m₀ p.1 = some p.2) (hJ : J c₀ s.heap) :
    wpAny (model prog w) A (exec (.While test body [] pos) env) Q (fun _ _ => False) s := by
  have key : ∀ n c h tk m', μ c < n → Fr h₀ L h m' → J c h → (∀ p ∈ ps c, m' p.1 = some p.2) → (∀ z, (∀ p ∈ ps c, z ≠ p.1) → m' z = m₀ z) → WhlRest prog w A (fun _ _ => False) env test body [] Q 0 { s with heap := h, toks := tk } := by
    intro n
    induction n with
    | zero => intro c h tk m' hlt; exact absurd hlt (Nat.not_lt_zero _)
    | succ n ih =>
      intro c h tk m' hlt F' hJ' h1 h2
      have em : m' = kstB m₀ (ps c) := by
        funext y
        exact (kstB_eq h1 fun hn => (h2 y hn).symm).symm
      rw [em] at F'
      exact whl_turn (k := 0) PassesOwn.never (turn c h tk F' hJ' fun c' h' tk' m'' hlt' => ih c' h' tk' m'' (by omega))
  exact whl_start 0 (key _ c₀ s.heap s.toks m₀ (Nat.lt_succ_self _) F hJ hk fun _ _ => rfl)
/-- the same, what follows a turn and what follows the loop kept as letters -/
theorem wh_k {σ : Type} {m₀ : Str → Option Value} {pos : Pos} (ps : σ → List (Str × Value)) (J : σ → Heap → Prop) (μ : σ → Nat)
    (F : Fr h₀ L s.heap m₀)
    (turn : ∀ c h tk (K : Flow → Shared → Prop) (Z : Shared → Prop), (∀ s', Q .next s' → K .brk s') → (∀ s₂, wpAny (model prog w) A (execs [] env) Q (fun _ _ => False) s₂ → Z s₂) → Fr h₀ L h (kstB m₀ (ps c)) → J c h →
      (∀ c' h' tk' m', μ c' < μ c → Fr h₀ L h' m' → J c' h' → (∀ p ∈ ps c', m' p.1 = some p.2) → (∀ z, (∀ p ∈ ps c', z ≠ p.1) → m' z = m₀ z) → K .next { s with heap := h', toks := tk' }) →
      wpAny (model prog w) A (isTrue test env (eval test env)) (fun b s₂ => WhlIf b (wpAny (model prog w) A (execs body env) K (fun _ _ => False) s₂) (Z s₂)) (fun _ _ => False) { s with heap := h, toks := tk })
    (c₀ : σ) (hk : ∀ p ∈ ps c₀, m₀ p.1 = some p.2) (hJ : J c₀ s.heap) :
    wpAny (model prog w) A (exec (.While test body [] pos) env) Q (fun _ _ => False) s :=
  wh_ind ps J μ F (fun c h tk F' hJ' ih => turn c h tk (WhlPost prog w A (fun _ _ => False) env test body [] Q 0) (fun s₂ => wpAny (model prog w) A (execs [] env) Q (fun _ _ => False) s₂) (fun _ x => x) (fun _ x => x) F' hJ' ih) c₀ hk hJ
end
theorem whlif_split {b : Bool} {T F : Prop} (t : b = true → T) (f : b = false → F) : WhlIf b T F := by
  cases b with
  | true => exact WhlIf.yes rfl (t rfl)
  | false => exact WhlIf.no rfl (f rfl)

theorem cut_at {α : Type} {M : Model} {A : Around} {t : Sem α} {P Q : α → Shared → Prop} {s : Shared} (h : wpAny M A t P (fun _ _ => False) s) (k : ∀ a s', P a s' → Q a s') : wpAny M A t Q (fun _ _ => False) s :=
  wpAny_mono h k fun _ _ x => x
theorem cut_map {α : Type} {M : Model} {A : Around} {t : Sem α} {Q : α → Shared → Prop} {s : Shared} {g h : Heap} {L : Addr} {m : Str → Option Value} (P : (Str → Option Value) → α → Shared → Prop) (_F : Fr g L h m) (h : wpAny M A t (P m) (fun _ _ => False) s) (k : ∀ a s', P m a s' → Q a s') : wpAny M A t Q (fun _ _ => False) s :=
  wpAny_mono h k fun _ _ x => x

structure Hide (p : Prop) : Prop where
  out : p
structure SS where
  up : Nat
  dn : Nat
  tu : Tok
  td : Tok
  ns : List Int
  vs : List Value
  its : List Value
  k : Nat
  R : List (Addr × Obj)
  ps : List (Int × Int)
  fu : Nat
structure US where
  i : Nat
  t : Tok
  its : List Value
  k : Nat
  R : List (Addr × Obj)
  ps : List (Int × Int)
  fu : Nat
section
variable {w : World} {dp un : Nat} {gd : Option (List Code)} {cn : Str} {cs : Scope} {a : Addr} {ccd : Value} {cl : List (Str × Addr)} {outer : List Env} {A₀ : Around} {base h₀ : Heap} {L : Addr} {m : Str → Option Value} {s : Shared}
    {loose : List Str} {mean : ExcName → Option Value} {mg mb : Str → Option Value} {Q E : Value → Shared → Prop}
    {o d e f : Addr} {vs its hs : List Value} {ns : List Int} {n k j : Nat} {R : List (Addr × Obj)} {ps : List (Int × Int)} {less : Bool}

theorem seam_c {low high : Nat} {tl th : Tok} (B : Below A₀ base outer h₀) (F : Fr h₀ L s.heap m) (X : (Mine.hd.heap_39 w.params).In h₀) (N : News h₀ L s.heap ((o, listOf vs.toArray n) :: (d, listOf its.toArray k) :: (e, listOf hs.toArray j) :: R)) (T : Top topProg loose mean mg mb h₀) (C : CodeHd base 131 127) (hk : cs.kind = .function)
    (O : Ok R o d e its ps) (hI : IntsAre vs ns) (hA : AskIn R f d less) (hn : ns.length < 100) (hp : ps.length + (partF less ns low high).2.2.length < 1000000) (hd : dp < 800)
    (S : SI less (swapL ns ((low + high) / 2) (high - 1)) (ns.getD ((low + high) / 2) 0) low high low (high - 1)) 
    (ret : ∀ vs' its' k' R' h' tk' tk'', Fr h₀ L h' m → News h₀ L h' ((o, listOf vs'.toArray n) :: (d, listOf its'.toArray k') :: (e, listOf hs.toArray j) :: R') → (∀ p ∈ R, p ∈ R') → Ok R' o d e its' (ps ++ (partF less ns low high).2.2) →
      IntsAre vs' (partF less ns low high).1 → Q (.int ((partF less ns low high).2.1 : Nat) tk'') { s with heap := h', toks := tk' }) :
    wpAny (model PySem.Challenge.rw_rh0156_01.row.prog w) (ktrTop dp un gd cn cs L a ccd cl outer) (call (.ref 118) [.ref o, .int (low : Int) tl, .int (high : Int) th, .ref f]) Q E s := by
  w_on
  obtain ⟨foc, fod, ffd, fsl, hfR⟩ := hA.fn
  have hlh := S.hl
  have hdh := S.dh
  have hld := S.ld
  have hlen : (swapL ns ((low + high) / 2) (high - 1)).length = ns.length := by simp [swapL]
  rw [hlen] at hlh
  refine wpAny_call ?_
  k_dflt (refine' code_def ?k1 ?k2 ?k3 ?k4 ?k5 ?kA ?kF ?kK ?k6 ?k7 ?k8 ?k9 ?kB ?_ ?c2 ?c3 ?c4 ?c5; (case kA => exact rfl); (case kF => exact rfl); (case kK => assumption); (case k1 => k_asm); (case k2 => k_asm); (case k3 => k_asm); (case k4 => k_asm); (case k5 => k_asm); (case k6 => k_is); (case k7 => k_is); (case k8 => ktr_room); (case k9 => exact BindsTo.of_eq rfl); (case c5 => decide); (case kB => exact locs rfl); (case c2 => exact rfl); (case c3 => exact rfl); (case c4 => exact rfl); k_whole; intro g' L' h' FG' F' N' B' X' T'; (try dsimp only); (try k_fold))
  refine wpAny_noRaise ?_
  k_steps
  have hmid : ((low : Int) + (high : Int)).fdiv 2 = (((low + high) / 2 : Nat) : Int) := by
    rw [Int.fdiv_eq_ediv_of_nonneg _ (by omega)]; omega
  have hh1 : (high : Int) - 1 = ((high - 1 : Nat) : Int) := by omega
  with_reducible rename Fr _ _ _ _ => F1
  rw [hmid, Int.toNat_natCast] at F1
  refine swap_c (iN := (low + high) / 2) (jN := high - 1) hmid hh1 (by k_asm) F1 (by k_asm) (by k_asm) (by k_asm) rfl O hI (by omega) (by omega) hn (by ktr_room) ?_
  intro vs1 h1 tk1 F2 N2 I2
  k_steps
  with_reducible rename Fr _ _ _ _ => F3
  with_reducible rename News _ _ _ _ => N3
  rw [hh1] at F3
  generalize hpv : ns.getD ((low + high) / 2) 0 = pv at F3 S
  generalize hn1 : swapL ns ((low + high) / 2) (high - 1) = ns1 at S I2 hlen
  simp only [partF, hpv, hn1] at ret hp
  refine' wh_k (σ := SS) (fun c => [(Str.ofString "up", .int (c.up : Int) c.tu), (Str.ofString "down", .int (c.dn : Int) c.td)])
    (fun c h => News g' L' h ((o, listOf c.vs.toArray n) :: (d, listOf c.its.toArray c.k) :: (e, listOf hs.toArray j) :: c.R) ∧ IntsAre c.vs c.ns ∧ (∀ p ∈ R, p ∈ c.R) ∧ Ok c.R o d e c.its c.ps ∧ SI less c.ns pv low high c.up c.dn ∧ c.ns.length = ns.length ∧ c.dn < c.up + c.fu ∧
      (seamLoop less pv low high c.fu c.ns c.up c.dn).1 = (seamLoop less pv low high (high - low) ns1 low (high - 1)).1 ∧ (seamLoop less pv low high c.fu c.ns c.up c.dn).2.1 = (seamLoop less pv low high (high - low) ns1 low (high - 1)).2.1 ∧
      c.ps ++ (seamLoop less pv low high c.fu c.ns c.up c.dn).2.2 = ps ++ (seamLoop less pv low high (high - low) ns1 low (high - 1)).2.2)
    (fun c => c.fu) F3 ?turn ⟨low, high - 1, _, _, ns1, vs1, its, k, R, ps, high - low⟩ ?hk0 ⟨fun p hp => N3 p (.tail _ hp), I2, fun _ hp => hp, O, S, hlen, ?f0, rfl, rfl, rfl⟩
  case hk0 =>
    intro p hp
    simp only [List.mem_cons, List.not_mem_nil, or_false] at hp
    rcases hp with rfl | rfl <;> rfl
  case f0 => show high - 1 < low + (high - low); omega
  case turn =>
    rintro ⟨up, dn, tu, td, ns2, vs2, its2, k2, R2, ps2, fu⟩ h2 tk2 K4 Z4 hB4 hZ4 F4 hJ ih
    have N4 := hJ.1
    have I4 := hJ.2.1
    have hR2 := hJ.2.2.1
    have O2 := hJ.2.2.2.1
    have S2 := hJ.2.2.2.2.1
    have hl2 := hJ.2.2.2.2.2.1
    have hf2 := hJ.2.2.2.2.2.2.1
    have e1 := hJ.2.2.2.2.2.2.2.1
    have e2 := hJ.2.2.2.2.2.2.2.2.1
    have e3 := hJ.2.2.2.2.2.2.2.2.2
    clear hJ
    dsimp only [kstB] at F4 N4 I4 hR2 O2 S2 hl2 hf2 e1 e2 e3 ih
    have hud := S2.ud
    have hlu := S2.lu
    have hdh2 := S2.dh
    cases fu with
    | zero => exact absurd hf2 (by omega)
    | succ fu =>
    have hb0 : (ps2 ++ (scanUp less ns2 pv (high - (up + 1)) (up + 1)).2 ++ (scanDn less ns2 pv (dn - 1 - low) (dn - 1)).2).length < 1000000 := by
      have z := congrArg List.length e3
      by_cases hc : (scanDn less ns2 pv (dn - 1 - low) (dn - 1)).1 < (scanUp less ns2 pv (high - (up + 1)) (up + 1)).1
      · rw [seam_stop hc] at z
        simp only [List.length_append] at z ⊢
        omega
      · rw [seam_go rfl rfl hc] at z
        simp only [List.length_append] at z ⊢
        omega
    have hld2 := S2.ld
    k_steps
    with_reducible rename Fr _ _ _ _ => F5
    rw [show (up : Int) + 1 = ((up + 1 : Nat) : Int) by omega] at F5
    refine' wh_k (σ := US) (fun c => [(Str.ofString "up", .int (c.i : Int) c.t)])
      (fun c h => News g' L' h ((o, listOf vs2.toArray n) :: (d, listOf c.its.toArray c.k) :: (e, listOf hs.toArray j) :: c.R) ∧ (∀ p ∈ R, p ∈ c.R) ∧ Ok c.R o d e c.its c.ps ∧ c.i + c.fu = high ∧ up < c.i ∧ (scanUp less ns2 pv c.fu c.i).1 = (scanUp less ns2 pv (high - (up + 1)) (up + 1)).1 ∧
        c.ps ++ (scanUp less ns2 pv c.fu c.i).2 = ps2 ++ (scanUp less ns2 pv (high - (up + 1)) (up + 1)).2)
      (fun c => c.fu) F5 ?turnU ⟨up + 1, _, its2, k2, R2, ps2, high - (up + 1)⟩ ?hkU ⟨by k_asm, hR2, O2, ?fU, Nat.lt_succ_self _, rfl, rfl⟩
    case hkU =>
      intro p hp
      simp only [List.mem_cons, List.not_mem_nil, or_false] at hp
      rcases hp with rfl
      rfl
    case fU => show up + 1 + (high - (up + 1)) = high; omega
    case turnU =>
      rintro ⟨i, ti, its3, k3, R3, ps3, fu3⟩ h3 tk3 K6 Z6 hB6 hZ6 F6 hJ ih3
      have N6 := hJ.1
      have hR3 := hJ.2.1
      have O3 := hJ.2.2.1
      have f3 := hJ.2.2.2.1
      have u3 := hJ.2.2.2.2.1
      have q1 := hJ.2.2.2.2.2.1
      have q2 := hJ.2.2.2.2.2.2
      clear hJ
      dsimp only [kstB] at F6 N6 hR3 O3 f3 u3 q1 q2 ih3
      have hlen3 : ps3.length < 1000000 := by
        have := congrArg List.length q2
        simp only [List.length_append] at this hb0
        omega
      have hf3 := hR3 _ hfR
      k_steps
      refine ask_c (less := less) (x := ns2.getD i 0) (y := pv) (by k_asm) (by k_asm) (by k_asm) (by k_asm) (by k_asm) (by k_asm) rfl O3 (hA.mono hR3) hlen3 (by ktr_room) ?_
      intro its4 k4 R4 h4 tk4 F7 N7 hR4 O4
      k_steps
      refine whlif_split (fun hb => ?_) (fun hb => ?_)
      · cases fu3 with
        | zero =>
          have z := S2.b i (by omega) (by omega)
          rw [z] at hb
          exact absurd hb Bool.false_ne_true
        | succ fu3 =>
        k_steps
        rw [scanUp_go hb] at q1 q2
        exact ih3 ⟨i + 1, _, its4, k4, R4, ps3 ++ [(ns2.getD i 0, pv)], fu3⟩ _ _ _ (Nat.lt_succ_self _) (by k_asm) ⟨by k_asm, fun p hp => hR4 p (hR3 p hp), O4, (by show i + 1 + fu3 = high; omega), (by show up < i + 1; omega), q1, by rw [List.append_assoc]; exact q2⟩
          (by intro p hp; simp only [List.mem_cons, List.not_mem_nil, or_false] at hp; rcases hp with rfl; rfl)
          (by intro z hz; simp only [List.forall_mem_cons, List.not_mem_nil, false_implies, implies_true, and_true, ne_eq] at hz; simp only [hz, if_false])
      · rw [scanUp_stop hb] at q1 q2
        dsimp only at q1 q2
        rw [q2] at O4
        refine hZ6 _ ?_
        k_steps
        with_reducible rename Fr _ _ _ _ => F8
        rw [show (dn : Int) - 1 = ((dn - 1 : Nat) : Int) by omega] at F8
        refine' wh_k (σ := US) (fun c => [(Str.ofString "down", .int (c.i : Int) c.t)])
          (fun c h => News g' L' h ((o, listOf vs2.toArray n) :: (d, listOf c.its.toArray c.k) :: (e, listOf hs.toArray j) :: c.R) ∧ (∀ p ∈ R, p ∈ c.R) ∧ Ok c.R o d e c.its c.ps ∧ low + c.fu = c.i ∧ c.i < dn ∧ (scanDn less ns2 pv c.fu c.i).1 = (scanDn less ns2 pv (dn - 1 - low) (dn - 1)).1 ∧
            c.ps ++ (scanDn less ns2 pv c.fu c.i).2 = (ps2 ++ (scanUp less ns2 pv (high - (up + 1)) (up + 1)).2) ++ (scanDn less ns2 pv (dn - 1 - low) (dn - 1)).2)
          (fun c => c.fu) F8 ?turnD ⟨dn - 1, _, its4, k4, R4, ps2 ++ (scanUp less ns2 pv (high - (up + 1)) (up + 1)).2, dn - 1 - low⟩ ?hkD ⟨by k_asm, fun p hp => hR4 p (hR3 p hp), O4, ?fD, ?fD2, rfl, rfl⟩
        case hkD =>
          intro p hp
          simp only [List.mem_cons, List.not_mem_nil, or_false] at hp
          rcases hp with rfl
          rfl
        case fD => show low + (dn - 1 - low) = dn - 1; have := S2.ld; omega
        case fD2 => show dn - 1 < dn; have := S2.ld; omega
        case turnD =>
          clear ih3
          rintro ⟨i5, t5, its5, k5, R5, ps5, fu5⟩ h5 tk5 K9 Z9 hB9 hZ9 F9 hJ ih5
          have N9 := hJ.1
          have hR5 := hJ.2.1
          have O5 := hJ.2.2.1
          have f5 := hJ.2.2.2.1
          have u5 := hJ.2.2.2.2.1
          have y1 := hJ.2.2.2.2.2.1
          have y2 := hJ.2.2.2.2.2.2
          clear hJ
          dsimp only [kstB] at F9 N9 hR5 O5 f5 u5 y1 y2 ih5
          have hlen5 : ps5.length < 1000000 := by
            have := congrArg List.length y2
            simp only [List.length_append] at this hb0
            omega
          have hf5 := hR5 _ hfR
          k_steps
          refine ask_c (less := less) (x := pv) (y := ns2.getD i5 0) (by k_asm) (by k_asm) (by k_asm) (by k_asm) (by k_asm) (by k_asm) rfl O5 (hA.mono hR5) hlen5 (by ktr_room) ?_
          intro its6 k6 R6 h6 tk6 F10 N10 hR6 O6
          k_steps
          refine whlif_split (fun hb => ?_) (fun hb => ?_)
          · cases fu5 with
            | zero =>
              have z := S2.a i5 (by omega) (by omega)
              rw [z] at hb
              exact absurd hb Bool.false_ne_true
            | succ fu5 =>
            k_steps
            with_reducible rename Fr _ _ _ _ => F11
            rw [show (i5 : Int) - 1 = ((i5 - 1 : Nat) : Int) by omega] at F11
            rw [scanDn_go hb] at y1 y2
            exact ih5 ⟨i5 - 1, _, its6, k6, R6, ps5 ++ [(pv, ns2.getD i5 0)], fu5⟩ _ _ _ (Nat.lt_succ_self _) F11 ⟨by k_asm, fun p hp => hR6 p (hR5 p hp), O6, (by show low + fu5 = i5 - 1; omega), (by show i5 - 1 < dn; omega), y1, by rw [List.append_assoc]; exact y2⟩
              (by intro p hp; simp only [List.mem_cons, List.not_mem_nil, or_false] at hp; rcases hp with rfl; rfl)
              (by intro z hz; simp only [List.forall_mem_cons, List.not_mem_nil, false_implies, implies_true, and_true, ne_eq] at hz; simp only [hz, if_false])
          · rw [scanDn_stop hb] at y1 y2
            dsimp only at y1 y2
            rw [y2] at O6
            refine hZ9 _ ?_
            k_steps
            walk1
            all_goals k_steps
            · have hlt : i5 < i := by omega
              rw [seam_stop (by rw [← q1, ← y1]; exact hlt)] at e1 e2 e3
              dsimp only at e1 e2 e3
              rw [← q1] at e2
              rw [List.append_assoc, e3] at O6
              rw [← e1, ← e2] at ret
              refine hB4 _ ?_
              k_steps
              refine swap_c (iN := high - 1) (jN := i) hh1 rfl (by k_asm) (by k_asm) (by k_asm) (by k_asm) (by k_asm) rfl O6 I4 (by omega) (by omega) (by omega) (by ktr_room) ?_
              intro vs7 h7 tk7 F12 N12 I12
              k_steps
              exact ret _ _ _ _ _ _ _ (by k_asm) (by k_asm) (fun p hp => hR6 p (hR5 p hp)) O6 I12
            · have hnlt : ¬ i5 < i := by omega
              rw [seam_go q1 y1 hnlt] at e1 e2 e3
              refine swap_c (iN := i) (jN := i5) rfl rfl (by k_asm) (by k_asm) (by k_asm) (by k_asm) (by k_asm) rfl O6 I4 (by omega) (by omega) (by omega) (by ktr_room) ?_
              intro vs7 h7 tk7 F12 N12 I12
              k_steps
              refine ih ⟨i, i5, ti, t5, swapL ns2 i i5, vs7, its6, k6, R6, _, fu⟩ _ _ _ (Nat.lt_succ_self _) (by k_asm) ⟨by k_asm, I12, fun p hp => hR6 p (hR5 p hp), O6, S2.step q1 y1 hnlt, by rw [swapL_length]; exact hl2, (by show i5 < i + fu; omega), e1, e2, by rw [← e3]; simp only [List.append_assoc]⟩ ?_ ?_
              · intro p hp
                simp only [List.mem_cons, List.not_mem_nil, or_false] at hp
                rcases hp with rfl | rfl <;> rfl
              · intro z hz
                simp only [List.forall_mem_cons, List.not_mem_nil, false_implies, implies_true, and_true, ne_eq] at hz
                simp only [hz.1, hz.2, if_false]
end
structure PD where
  vs : List Value
  its : List Value
  k : Nat
  R : List (Addr × Obj)
  h : Heap
  tk : Nat
section
variable {w : World} {dp un : Nat} {gd : Option (List Code)} {cn : Str} {cs : Scope} {a : Addr} {ccd : Value} {cl : List (Str × Addr)} {outer : List Env} {A₀ : Around} {base h₀ : Heap} {L : Addr} {m : Str → Option Value} {s : Shared}
    {loose : List Str} {mean : ExcName → Option Value} {mg mb : Str → Option Value} {Q E : Value → Shared → Prop}
    {o d e f : Addr} {vs its hs : List Value} {ns : List Int} {n k j : Nat} {R : List (Addr × Obj)} {ps : List (Int × Int)} {less : Bool}

theorem sort_c {q low high : Nat} {tl th : Tok} (B : Below A₀ base outer h₀) (F : Fr h₀ L s.heap m) (X : (Mine.hd.heap_39 w.params).In h₀) (N : News h₀ L s.heap ((o, listOf vs.toArray n) :: (d, listOf its.toArray k) :: (e, listOf hs.toArray j) :: R)) (T : Top topProg loose mean mg mb h₀) (C : CodeHd base 131 127) (hk : cs.kind = .function)
    (O : Ok R o d e its ps) (hI : IntsAre vs ns) (hA : AskIn R f d less) (hn : ns.length < 100) (h1 : 1 ≤ low) (h2 : low ≤ high) (h3 : high < ns.length) (hq : high < low + q) (hp : ps.length + (sortF less q ns low high).2.length < 1000000) (hd : dp + q < 700)
    (ret : ∀ vs' its' k' R' h' tk', Fr h₀ L h' m → News h₀ L h' ((o, listOf vs'.toArray n) :: (d, listOf its'.toArray k') :: (e, listOf hs.toArray j) :: R') → (∀ p ∈ R, p ∈ R') → Ok R' o d e its' (ps ++ (sortF less q ns low high).2) →
      IntsAre vs' (sortF less q ns low high).1 → Q .none { s with heap := h', toks := tk' }) :
    wpAny (model PySem.Challenge.rw_rh0156_01.row.prog w) (ktrTop dp un gd cn cs L a ccd cl outer) (call (.ref 125) [.ref o, .int (low : Int) tl, .int (high : Int) th, .ref f]) Q E s := by
  induction q generalizing dp un gd cn cs a ccd cl outer A₀ h₀ L m s Q E vs its ns k R ps low high tl th with
  | zero => omega
  | succ q IH =>
  w_on
  obtain ⟨foc, fod, ffd, fsl, hfR⟩ := hA.fn
  refine wpAny_call ?_
  k_dflt (refine' code_def ?k1 ?k2 ?k3 ?k4 ?k5 ?kA ?kF ?kK ?k6 ?k7 ?k8 ?k9 ?kB ?_ ?c2 ?c3 ?c4 ?c5; (case kA => exact rfl); (case kF => exact rfl); (case kK => assumption); (case k1 => k_asm); (case k2 => k_asm); (case k3 => k_asm); (case k4 => k_asm); (case k5 => k_asm); (case k6 => k_is); (case k7 => k_is); (case k8 => ktr_room); (case k9 => exact BindsTo.of_eq rfl); (case c5 => decide); (case kB => exact locs rfl); (case c2 => exact rfl); (case c3 => exact rfl); (case c4 => exact rfl); k_whole; intro g' L' h' FG' F' N' B' X' T'; (try dsimp only); (try k_fold))
  refine wpAny_noRaise ?_
  k_steps
  walk1
  all_goals k_steps
  · have hle : high ≤ low := by omega
    rw [sortF_le hle] at ret
    exact ret _ _ _ _ _ _ (by k_asm) (by k_asm) (fun _ hp => hp) (by rw [List.append_nil]; exact O) hI
  have hlt : low < high := by omega
  have hlA := twoF_length less ns low high
  have hlp : ps.length < 1000000 := Nat.lt_of_le_of_lt (Nat.le_add_right _ _) hp
  have L1 : low < ns.length := Nat.lt_trans hlt h3
  have Lm : (low + high) / 2 < ns.length := by clear hp ret IH hlA hlp; omega
  refine cut_map (P := fun mm fl s' => Hide (∃ D : PD, fl = .next ∧ s' = { s with heap := D.h, toks := D.tk } ∧ Fr g' L' D.h mm ∧ News g' L' D.h ((o, listOf D.vs.toArray n) :: (d, listOf D.its.toArray D.k) :: (e, listOf hs.toArray j) :: D.R) ∧ (∀ p ∈ R, p ∈ D.R) ∧ Ok D.R o d e D.its (ps ++ (twoF less ns low high).2) ∧ IntsAre D.vs (twoF less ns low high).1)) (by k_asm) ?_ ?_
  · walk1
    k_steps
    refine ask_c (less := less) (x := ns.getD high 0) (y := ns.getD low 0) (by k_asm) (by k_asm) (by k_asm) (by k_asm) (by k_asm) (by k_asm) rfl O hA hlp (by ktr_room) ?_
    intro its1 k1 R1 h5 tk5 F1 N1 hR1 O1
    k_steps
    · rename_i hb
      refine swap_c (iN := low) (jN := high) rfl rfl (by k_asm) (by k_asm) (by k_asm) (by k_asm) (by k_asm) rfl O1 hI L1 h3 hn (by ktr_room) ?_
      intro vs2 h6 tk6 F2 N2 I2
      k_steps
      exact ⟨⟨_, _, _, _, _, _⟩, rfl, rfl, by k_asm, by k_asm, hR1, O1, by rw [twoF_yes hb]; exact I2⟩
    · rename_i hb
      exact ⟨⟨_, _, _, _, _, _⟩, rfl, rfl, by k_asm, by k_asm, hR1, O1, by rw [twoF_no (by simpa using hb)]; exact hI⟩
  rintro fl s1 ⟨⟨⟨vs1, its1, k1, R1, h5, tk5⟩, rfl, rfl, hQ⟩⟩
  dsimp only at hQ
  have F1 := hQ.1
  have N1 := hQ.2.1
  have hR1 := hQ.2.2.1
  have O1 := hQ.2.2.2.1
  have I1 := hQ.2.2.2.2
  clear hQ
  have hf1 := hR1 _ hfR
  k_steps
  have hmid : ((low : Int) + (high : Int)).fdiv 2 = (((low + high) / 2 : Nat) : Int) := by
    rw [Int.fdiv_eq_ediv_of_nonneg _ (by omega)]; omega
  with_reducible rename Fr _ _ _ _ => F2
  rw [hmid] at F2
  walk1
  all_goals k_steps
  · have hone : high = low + 1 := by omega
    rw [sortF_1 hone] at ret
    exact ret _ _ _ _ _ _ (by k_asm) (by k_asm) hR1 O1 I1
  have h22 : low + 2 ≤ high := by omega
  have oA := two_ord (less := less) (ns := ns) hlt h3
  have hlT : (twoF less ns low high).2.length = 1 := rfl
  have hB := lenB' hlT (sort_len2 (less := less) (q := q) (ns := ns) h22) hp
  generalize hA2 : twoF less ns low high = A2 at *
  have hAl : A2.1.length = ns.length := hlA
  refine cut_map (P := fun mm fl s' => Hide (∃ D : PD, fl = .next ∧ s' = { s with heap := D.h, toks := D.tk } ∧ Fr g' L' D.h mm ∧ News g' L' D.h ((o, listOf D.vs.toArray n) :: (d, listOf D.its.toArray D.k) :: (e, listOf hs.toArray j) :: D.R) ∧ (∀ p ∈ R, p ∈ D.R) ∧ Ok D.R o d e D.its (ps ++ A2.2 ++ (midF less A2.1 low ((low + high) / 2) high).2) ∧ IntsAre D.vs (midF less A2.1 low ((low + high) / 2) high).1)) (by k_asm) ?_ ?_
  · walk1
    k_steps
    refine ask_c (less := less) (x := A2.1.getD ((low + high) / 2) 0) (y := A2.1.getD low 0) (by k_asm) (by k_asm) (by k_asm) (by k_asm) (by k_asm) (by k_asm) rfl O1 (hA.mono hR1) (Nat.lt_of_succ_lt hB) (by ktr_room) ?_
    intro its2 k2 R2 h6 tk6 F3 N3 hR2 O2
    have hf2 := hR2 _ hf1
    k_steps
    · rename_i hb
      refine swap_c (iN := (low + high) / 2) (jN := low) rfl rfl (by k_asm) (by k_asm) (by k_asm) (by k_asm) (by k_asm) rfl O2 I1 (hAl ▸ Lm) (hAl ▸ L1) (hAl ▸ hn) (by ktr_room) ?_
      intro vs2 h7 tk7 F4 N4 I2
      k_steps
      rw [midF_1 hb]
      exact ⟨⟨_, _, _, _, _, _⟩, rfl, rfl, by k_asm, by k_asm, fun p hp => hR2 p (hR1 p hp), O2, I2⟩
    · rename_i hb
      have hb' : ltb less (A2.1.getD ((low + high) / 2) 0) (A2.1.getD low 0) = false := by simpa using hb
      walk1
      k_steps
      refine ask_c (less := less) (x := A2.1.getD high 0) (y := A2.1.getD ((low + high) / 2) 0) (by k_asm) (by k_asm) (by k_asm) (by k_asm) (by k_asm) (by k_asm) rfl O2 (hA.mono fun p hp => hR2 p (hR1 p hp)) (by rw [List.length_append]; exact hB) (by ktr_room) ?_
      intro its3 k3 R3 h7 tk7 F4 N4 hR3 O3
      k_steps
      · rename_i hb2
        refine swap_c (iN := (low + high) / 2) (jN := high) rfl rfl (by k_asm) (by k_asm) (by k_asm) (by k_asm) (by k_asm) rfl O3 I1 (hAl ▸ Lm) (hAl ▸ h3) (hAl ▸ hn) (by ktr_room) ?_
        intro vs2 h8 tk8 F5 N5 I2
        k_steps
        rw [midF_2 hb' hb2]
        exact ⟨⟨_, _, _, _, _, _⟩, rfl, rfl, by k_asm, by k_asm, fun p hp => hR3 p (hR2 p (hR1 p hp)), by rw [show ∀ a b : Int × Int, ([a, b] : List (Int × Int)) = [a] ++ [b] from fun _ _ => rfl, ← List.append_assoc]; exact O3, I2⟩
      · rename_i hb2
        rw [midF_3 hb' (by simpa using hb2)]
        exact ⟨⟨_, _, _, _, _, _⟩, rfl, rfl, by k_asm, by k_asm, fun p hp => hR3 p (hR2 p (hR1 p hp)), by rw [show ∀ a b : Int × Int, ([a, b] : List (Int × Int)) = [a] ++ [b] from fun _ _ => rfl, ← List.append_assoc]; exact O3, I1⟩
  rintro fl s1 ⟨⟨⟨vs3, its3, k3, R3, h7, tk7⟩, rfl, rfl, hQ⟩⟩
  dsimp only at hQ
  have F3 := hQ.1
  have N3 := hQ.2.1
  have hR3 := hQ.2.2.1
  have O3 := hQ.2.2.2.1
  have I3 := hQ.2.2.2.2
  clear hQ
  have hf3 := hR3 _ hfR
  have hcj := mid_ord (less := less) (ns := A2.1) (low := low) (mid := (low + high) / 2) (high := high) (by omega) (by omega) (hAl ▸ h3) oA
  have o1 := hcj.1
  have o2 := hcj.2
  clear hcj
  have hlM := midF_length less A2.1 low ((low + high) / 2) high
  generalize hM2 : midF less A2.1 low ((low + high) / 2) high = M2 at *
  k_steps
  walk1
  all_goals k_steps
  · have htwo : high = low + 2 := by omega
    rw [sortF_2 htwo, hA2, hM2, ← List.append_assoc] at ret
    exact ret _ _ _ _ _ _ (by k_asm) (by k_asm) hR3 O3 I3
  have h33 : low + 3 ≤ high := by omega
  have hM3 : M2.1.length = ns.length := hlM.trans hAl
  have S3 := seam_start (less := less) (ns := M2.1) (low := low) (high := high) (mid := (low + high) / 2) rfl h33 (hM3 ▸ h3) o1 o2
  have hcj := part_spec (less := less) (ns := M2.1) h33 (hM3 ▸ h3) S3
  have p1 := hcj.1
  have p2 := hcj.2.1
  have p3 := hcj.2.2.1
  clear hcj
  have hlP := p1.len
  have hC : (ps ++ A2.2 ++ M2.2).length + (partF less M2.1 low high).2.2.length < 1000000 := lenC' (by rw [← hM2, ← hA2]; exact sort_len3 (less := less) (q := q) (ns := ns) h33) hp
  refine seam_c (less := less) (by k_asm) (by k_asm) (by k_asm) (by k_asm) (by k_asm) (by k_asm) rfl O3 I3 (hA.mono hR3) (hM3 ▸ hn) hC (by ktr_room) S3 ?_
  intro vs4 its4 k4 R4 h8 tk8 tk9 F4 N4 hR4 O4 I4
  have hf4 := hR4 _ hf3
  generalize hP2 : partF less M2.1 low high = P2 at *
  have hRR : ∀ p ∈ R, p ∈ R4 := fun p hp => hR4 p (hR3 p hp)
  have hP3 : P2.1.length = ns.length := hlP.trans hM3
  k_steps
  walk1
  all_goals k_steps
  · have hc : P2.2.1 - low < high - P2.2.1 := by omega
    have hS := sortF_lt (k := q) h33 hA2 hM2 hP2 hc rfl rfl
    have hcj := lenD (A := A2.2) (M := M2.2) (P := P2.2.2) (X := (sortF less q P2.1 low (P2.2.1 - 1)).2) (Y := (sortF less q (sortF less q P2.1 low (P2.2.1 - 1)).1 (P2.2.1 + 1) high).2) (by rw [hS, List.append_assoc]) hp
    have b1 := hcj.1
    have b2 := hcj.2
    clear hcj
    have hcj := arL p2 p3 h3 hq
    have a1 := hcj.1
    have a2 := hcj.2.1
    have a3 := hcj.2.2
    clear hcj
    have hcj := arR h1 p2 p3 h3 hq
    have c1 := hcj.1
    have c2 := hcj.2.1
    have c3 := hcj.2.2
    clear hcj
    rw [show ((P2.2.1 : Nat) : Int) - 1 = ((P2.2.1 - 1 : Nat) : Int) by omega]
    have q1 := (sort_spec (less := less) q P2.1 low (P2.2.1 - 1) a1 a3 (hP3 ▸ a2)).1.len
    refine IH (by k_asm) (by k_asm) (by k_asm) (by k_asm) (by k_asm) rfl O4 I4 (hA.mono hRR) (hP3 ▸ hn) h1 a1 (hP3 ▸ a2) a3 b1 (arD hd) ?_
    intro vs5 its5 k5 R5 h9 tk10 F5 N5 hR5 O5 I5
    have hf5 := hR5 _ hf4
    k_steps
    refine IH (low := P2.2.1 + 1) (by k_asm) (by k_asm) (by k_asm) (by k_asm) (by k_asm) rfl O5 I5 (hA.mono fun p hp => hR5 p (hRR p hp)) ((q1.trans hP3) ▸ hn) c1 c2 ((q1.trans hP3) ▸ h3) c3 b2 (arD hd) ?_
    intro vs6 its6 k6 R6 h10 tk11 F6 N6 hR6 O6 I6
    k_steps
    rw [hS] at ret
    exact ret _ _ _ _ _ _ (by k_asm) (by k_asm) (fun p hp => hR6 p (hR5 p (hRR p hp))) (by simpa only [List.append_assoc] using O6) I6
  · have hc : ¬ P2.2.1 - low < high - P2.2.1 := by omega
    have hS := sortF_ge (k := q) h33 hA2 hM2 hP2 hc rfl rfl
    have hcj := lenD (A := A2.2) (M := M2.2) (P := P2.2.2) (X := (sortF less q P2.1 (P2.2.1 + 1) high).2) (Y := (sortF less q (sortF less q P2.1 (P2.2.1 + 1) high).1 low (P2.2.1 - 1)).2) (by rw [hS, List.append_assoc]) hp
    have b1 := hcj.1
    have b2 := hcj.2
    clear hcj
    have hcj := arL p2 p3 h3 hq
    have a1 := hcj.1
    have a2 := hcj.2.1
    have a3 := hcj.2.2
    clear hcj
    have hcj := arR h1 p2 p3 h3 hq
    have c1 := hcj.1
    have c2 := hcj.2.1
    have c3 := hcj.2.2
    clear hcj
    have q1 := (sort_spec (less := less) q P2.1 (P2.2.1 + 1) high c2 c3 (hP3 ▸ h3)).1.len
    refine IH (low := P2.2.1 + 1) (by k_asm) (by k_asm) (by k_asm) (by k_asm) (by k_asm) rfl O4 I4 (hA.mono hRR) (hP3 ▸ hn) c1 c2 (hP3 ▸ h3) c3 b1 (arD hd) ?_
    intro vs5 its5 k5 R5 h9 tk10 F5 N5 hR5 O5 I5
    have hf5 := hR5 _ hf4
    k_steps
    rw [show ((P2.2.1 : Nat) : Int) - 1 = ((P2.2.1 - 1 : Nat) : Int) by omega]
    refine IH (by k_asm) (by k_asm) (by k_asm) (by k_asm) (by k_asm) rfl O5 I5 (hA.mono fun p hp => hR5 p (hRR p hp)) ((q1.trans hP3) ▸ hn) h1 a1 ((q1.trans hP3) ▸ a2) a3 b2 (arD hd) ?_
    intro vs6 its6 k6 R6 h10 tk11 F6 N6 hR6 O6 I6
    k_steps
    rw [hS] at ret
    exact ret _ _ _ _ _ _ (by k_asm) (by k_asm) (fun p hp => hR6 p (hR5 p (hRR p hp))) (by simpa only [List.append_assoc] using O6) I6
end
section
variable {w : World} {dp un : Nat} {gd : Option (List Code)} {cn : Str} {cs : Scope} {a : Addr} {ccd : Value} {cl : List (Str × Addr)} {outer : List Env} {A₀ : Around} {base h₀ : Heap} {L : Addr} {m : Str → Option Value} {s : Shared}
    {loose : List Str} {mean : ExcName → Option Value} {mg mb : Str → Option Value} {Q E : Value → Shared → Prop}
    {o d e f : Addr} {vs its hs : List Value} {ns : List Int} {n k j : Nat} {R : List (Addr × Obj)} {ps : List (Int × Int)} {less : Bool}

theorem sort_i {q low high : Nat} {i i' : Int} {tl th : Tok} (hlo : i = low) (hhi : i' = high) (B : Below A₀ base outer h₀) (F : Fr h₀ L s.heap m) (X : (Mine.hd.heap_39 w.params).In h₀) (N : News h₀ L s.heap ((o, listOf vs.toArray n) :: (d, listOf its.toArray k) :: (e, listOf hs.toArray j) :: R)) (T : Top topProg loose mean mg mb h₀) (C : CodeHd base 131 127) (hk : cs.kind = .function)
    (O : Ok R o d e its ps) (hI : IntsAre vs ns) (hA : AskIn R f d less) (hn : ns.length < 100) (h1 : 1 ≤ low) (h2 : low ≤ high) (h3 : high < ns.length) (hq : high < low + q) (hp : ps.length + (sortF less q ns low high).2.length < 1000000) (hd : dp + q < 700)
    (ret : ∀ vs' its' k' R' h' tk', Fr h₀ L h' m → News h₀ L h' ((o, listOf vs'.toArray n) :: (d, listOf its'.toArray k') :: (e, listOf hs.toArray j) :: R') → (∀ p ∈ R, p ∈ R') → Ok R' o d e its' (ps ++ (sortF less q ns low high).2) →
      IntsAre vs' (sortF less q ns low high).1 → Q .none { s with heap := h', toks := tk' }) :
    wpAny (model PySem.Challenge.rw_rh0156_01.row.prog w) (ktrTop dp un gd cn cs L a ccd cl outer) (call (.ref 125) [.ref o, .int i tl, .int i' th, .ref f]) Q E s := by
  subst hlo hhi
  exact sort_c B F X N T C hk O hI hA hn h1 h2 h3 hq hp hd ret
end
section
variable {w : World} {dp un : Nat} {gd : Option (List Code)} {cn : Str} {cs : Scope} {a : Addr} {ccd : Value} {cl : List (Str × Addr)} {outer : List Env} {A₀ : Around} {base h₀ : Heap} {L : Addr} {m : Str → Option Value} {s : Shared}
    {loose : List Str} {mean : ExcName → Option Value} {mg mb : Str → Option Value} {Q E : Value → Shared → Prop}
    {o d e f : Addr} {vs its hs : List Value} {ns : List Int} {n k j : Nat} {R : List (Addr × Obj)} {ps : List (Int × Int)} {less : Bool}

theorem dug_c {sp ci : Addr} {t : Nat} {tt tm : Tok} {cvs : List Value} {cns : List Int} {nc : Nat} {many : Int}
    (B : Below A₀ base outer h₀) (F : Fr h₀ L s.heap m) (X : (Mine.hd.heap_39 w.params).In h₀) (N : News h₀ L s.heap ((sp, listOf #[.ref ci, .int (t : Int) tt] 0) :: R)) (T : Top topProg loose mean mg mb h₀) (C : CodeHd base 131 127) (hk : cs.kind = .function)
    (hR : ∀ p ∈ R, p.1 ≠ sp) (hC : (ci, listOf cvs.toArray nc) ∈ R) (hI : IntsAre cvs cns) (hl : cns.length ≤ 45) (ht : t < 1000) (hm : many = 10 ∨ many = 37 ∨ many = 3) (hd : dp < 800)
    (ret : ∀ (r : Int) tk2 tt' h' tk', 0 ≤ r → r < many → Fr h₀ L h' m → News h₀ L h' ((sp, listOf #[.ref ci, .int ((t + 1 : Nat) : Int) tt'] 0) :: R) → Q (.int r tk2) { s with heap := h', toks := tk' }) :
    wpAny (model PySem.Challenge.rw_rh0156_01.row.prog w) (ktrTop dp un gd cn cs L a ccd cl outer) (call (.ref 104) [.ref sp, .int many tm]) Q E s := by
  w_on
  have hm0 : 0 < many := by omega
  refine wpAny_call ?_
  k_dflt (refine' code_def ?k1 ?k2 ?k3 ?k4 ?k5 ?kA ?kF ?kK ?k6 ?k7 ?k8 ?k9 ?kB ?_ ?c2 ?c3 ?c4 ?c5; (case kA => exact rfl); (case kF => exact rfl); (case kK => assumption); (case k1 => k_asm); (case k2 => k_asm); (case k3 => k_asm); (case k4 => k_asm); (case k5 => k_asm); (case k6 => k_is); (case k7 => k_is); (case k8 => ktr_room); (case k9 => exact BindsTo.of_eq rfl); (case c5 => decide); (case kB => exact locs rfl); (case c2 => exact rfl); (case c3 => exact rfl); (case c4 => exact rfl); k_whole; intro g' L' h' FG' F' N' B' X' T'; (try dsimp only); (try k_fold))
  refine wpAny_noRaise ?_
  k_steps
  all_goals (
    with_reducible rename News _ _ _ _ => kN
    exact ret _ _ _ _ _ (fmod_lo _ hm0) (fmod_hi _ hm0) (by k_asm) kN)
end
theorem newsSwap {h₀ h : Heap} {L : Addr} {a b : Addr × Obj} {R : List (Addr × Obj)} (N : News h₀ L h (a :: b :: R)) : News h₀ L h (b :: a :: R) := fun p hp => N p (by
  simp only [List.mem_cons] at hp ⊢
  rcases hp with h | h | h
  · exact .inr (.inl h)
  · exact .inl h
  · exact .inr (.inr h))
theorem newsUp3 {h₀ h : Heap} {L : Addr} {a b c d : Addr × Obj} {R : List (Addr × Obj)} (N : News h₀ L h (a :: b :: c :: d :: R)) : News h₀ L h (d :: a :: b :: c :: R) := fun p hp => N p (by
  simp only [List.mem_cons] at hp ⊢
  rcases hp with h | h | h | h | h
  · exact .inr (.inr (.inr (.inl h)))
  · exact .inl h
  · exact .inr (.inl h)
  · exact .inr (.inr (.inl h))
  · exact .inr (.inr (.inr (.inr h))))
theorem newsDown3 {h₀ h : Heap} {L : Addr} {a b c d : Addr × Obj} {R : List (Addr × Obj)} (N : News h₀ L h (d :: a :: b :: c :: R)) : News h₀ L h (a :: b :: c :: d :: R) := tickN N
theorem take45 (ns : List Int) : (ns.take 45).length ≤ 45 := by rw [List.length_take]; omega
section
variable {prog : Program} {w : World} {A : Around} {h₀ : Heap} {L : Addr} {m : Str → Option Value} {env : Env} {elt : PySem.Expr} {x : Str} {scope : Scope} {cl : List (Str × Addr)} {s : Shared} {P : Nat → Value → Prop} {Fin : List Value → List (Addr × Obj) → Prop} {R : List (Addr × Obj)} {sp ci : Addr}
theorem comp_ind {n : Nat} {t0 : Nat} {tt0 : Tok} (ht : t0 + n < 900)
    (turn : ∀ v I oI C oC D m₂ h tk (Qr E' : Value → Shared → Prop) ys (t : Nat) tt, PyProof.Rows.LCg.NsObj oC m₂ → m₂ x = some v → Fr h₀ L h m → News h₀ L h ((I, oI) :: (C, oC) :: (D, PyProof.Rows.LCg.lst ys) :: (sp, listOf #[.ref ci, .int (t : Int) tt] 0) :: R) →
      PyProof.Rows.LCg.Off3 I C D ((sp, listOf #[.ref ci, .int (t : Int) tt] 0) :: R) → ((@Ne Nat I C) ∧ (@Ne Nat I D) ∧ (@Ne Nat C D)) → t < 900 →
      (∀ (r : Int) tk2 tt' h' tk', 0 ≤ r → r < 10 → Fr h₀ L h' m → News h₀ L h' ((I, oI) :: (C, oC) :: (D, PyProof.Rows.LCg.lst ys) :: (sp, listOf #[.ref ci, .int ((t + 1 : Nat) : Int) tt'] 0) :: R) → Qr (.int r tk2) { s with heap := h', toks := tk' }) →
      wpAny (model prog w) A (eval elt (compEnvC scope cl C env)) Qr E' { s with heap := h, toks := tk })
    (fin : ∀ ys ns (t : Nat) tt, IntsAre ys ns → ns.length = n → t < 900 → Fin ys ((sp, listOf #[.ref ci, .int (t : Int) tt] 0) :: R)) :
    PyProof.Rows.LCg.CompRest prog w A h₀ L m env elt x scope cl s (fun _ => True) P Fin n 0 [] ((sp, listOf #[.ref ci, .int (t0 : Int) tt0] 0) :: R) := by
  have key : ∀ (j i : Nat) ys ns (t : Nat) tt, i + j = n → t + j < 900 → IntsAre ys ns → ns.length = i → PyProof.Rows.LCg.CompRest prog w A h₀ L m env elt x scope cl s (fun _ => True) P Fin j i ys ((sp, listOf #[.ref ci, .int (t : Int) tt] 0) :: R) := by
    intro j
    induction j with
    | zero => intro i ys ns t tt h1 h2 hI hl; exact PyProof.Rows.LCg.CompRest.zero (fin ys ns t tt hI (by omega) (by omega))
    | succ j ih =>
      intro i ys ns t tt h1 h2 hI hl
      refine PyProof.Rows.LCg.CompRest.succ ?_
      intro v I oI C oC D m₂ h tk E' hv hC hx F N off ne
      refine turn v I oI C oC D m₂ h tk _ E' ys t tt hC hx F N off ne (by omega) ?_
      intro r tk2 tt' h' tk' _ _ F' N'
      exact ⟨h', tk', _, rfl, F', N', ⟨off.1, off.2⟩, trivial, ih (i + 1) (ys ++ [.int r tk2]) (ns ++ [r]) (t + 1) tt' (by omega) (by omega) (IntsAre.append hI (.cons _ _ .nil)) (by simp [hl])⟩
  exact key n 0 [] [] t0 tt0 (by omega) ht .nil rfl
end

section
variable {w : World} {dp un : Nat} {gd : Option (List Code)} {cn : Str} {cs : Scope} {a : Addr} {ccd : Value} {cl : List (Str × Addr)} {outer : List Env} {A₀ : Around} {base h₀ : Heap} {L : Addr} {m : Str → Option Value} {s : Shared}
    {loose : List Str} {mean : ExcName → Option Value} {mg mb : Str → Option Value} {Q E : Value → Shared → Prop}
    {o d e f : Addr} {vs its hs : List Value} {ns : List Int} {n k j : Nat} {R : List (Addr × Obj)} {ps : List (Int × Int)} {less : Bool}

theorem dug_u {news : List (Addr × Obj)} {g : Obj → List (Addr × Obj)} {sp ci : Addr} {t : Nat} {tt tm : Tok} {cvs : List Value} {cns : List Int} {nc : Nat} {many : Int}
    (B : Below A₀ base outer h₀) (F : Fr h₀ L s.heap m) (X : (Mine.hd.heap_39 w.params).In h₀) (N : News h₀ L s.heap news) (T : Top topProg loose mean mg mb h₀) (C : CodeHd base 131 127) (hk : cs.kind = .function)
    (U : UpdF sp (listOf #[.ref ci, .int (t : Int) tt] 0) news g) (hC : (ci, listOf cvs.toArray nc) ∈ news) (hne : ci ≠ sp) (hI : IntsAre cvs cns) (hl : cns.length ≤ 45) (ht : t < 1000) (hm : many = 10 ∨ many = 37 ∨ many = 3) (hd : dp < 800)
    (ret : ∀ (r : Int) tk2 tt' h' tk', 0 ≤ r → r < many → Fr h₀ L h' m → News h₀ L h' (g (listOf #[.ref ci, .int ((t + 1 : Nat) : Int) tt'] 0)) → Q (.int r tk2) { s with heap := h', toks := tk' }) :
    wpAny (model PySem.Challenge.rw_rh0156_01.row.prog w) (ktrTop dp un gd cn cs L a ccd cl outer) (call (.ref 104) [.ref sp, .int many tm]) Q E s := by
  obtain ⟨pre, post, rfl, hg, h1, h2⟩ := U.split
  have mem : ∀ (o' : Obj) p, p ∈ (sp, o') :: (pre ++ post) ↔ p ∈ pre ++ (sp, o') :: post := by
    intro o' p
    simp only [List.mem_cons, List.mem_append]
    constructor
    · rintro (h | h | h)
      · exact .inr (.inl h)
      · exact .inl h
      · exact .inr (.inr h)
    · rintro (h | h | h)
      · exact .inr (.inl h)
      · exact .inl h
      · exact .inr (.inr h)
  refine dug_c (nc := nc) (R := pre ++ post) B F X (fun p hp => N p ((mem _ p).mp hp)) T C hk (fun p hp => ?_) ?_ hI hl ht hm hd (fun r tk2 tt' h' tk' a b F' N' => ret r tk2 tt' h' tk' a b F' (fun p hp => N' p ((mem _ p).mpr (hg _ ▸ hp))))
  · rcases List.mem_append.mp hp with h | h
    · exact h1 p h
    · exact h2 p h
  · have := (mem _ _).mpr hC
    rcases List.mem_cons.mp this with h | h
    · exact absurd (congrArg Prod.fst h) hne
    · exact h
end

theorem newsSub {h₀ h : Heap} {L : Addr} {l l' : List (Addr × Obj)} (N : News h₀ L h l) (k : ∀ p ∈ l', p ∈ l) : News h₀ L h l' := fun p hp => N p (k p hp)
/-- the tuples alone -/
theorem Tr.alone {R : List (Addr × Obj)} {its : List Value} {ps : List (Int × Int)} (h : Tr R its ps) : ∃ T, (∀ p ∈ T, p ∈ R ∧ ∃ xs n, p.2.data = .seq xs n ∧ p.2.cls = .type "tuple") ∧ Tr T its ps := by
  induction h with
  | nil => exact ⟨[], fun p hp => (by cases hp), .nil⟩
  | @snoc its ps t x y tx ty _ hm ih =>
    obtain ⟨T, h1, h2⟩ := ih
    refine ⟨(t, ({ cls := .type "tuple", data := .seq #[.int x tx, .int y ty] } : Obj)) :: T, fun p hp => ?_, .snoc (h2.mono fun p hp => .tail _ hp) (.head _)⟩
    rcases List.mem_cons.mp hp with rfl | hp
    · exact ⟨hm, _, _, rfl, rfl⟩
    · exact h1 p hp
theorem Tr.off {h₀ h : Heap} {L a : Addr} {o : Obj} {T R : List (Addr × Obj)} (N : News h₀ L h R) (hT : ∀ p ∈ T, p ∈ R ∧ ∃ xs n, p.2.data = .seq xs n ∧ p.2.cls = .type "tuple") (hm : (a, o) ∈ R) (ho : (∀ xs n, o.data ≠ .seq xs n) ∨ o.cls ≠ .type "tuple") : ∀ p ∈ T, p.1 ≠ a := by
  intro p hp e
  obtain ⟨h1, xs, n, h2, h3⟩ := hT p hp
  have a1 := (N p h1).1
  have a2 := (N _ hm).1
  rw [e, a2] at a1
  have a3 : o = p.2 := Option.some.inj a1
  rcases ho with ho | ho
  · exact ho xs n (by rw [a3]; exact h2)
  · exact ho (by rw [a3]; exact h3)
theorem Tr.offCell {h₀ h : Heap} {L a : Addr} {o : Obj} {v : Option Value} {T R : List (Addr × Obj)} (N : News h₀ L h R) (hT : ∀ p ∈ T, p ∈ R ∧ ∃ xs n, p.2.data = .seq xs n ∧ p.2.cls = .type "tuple") (hm : (a, o) ∈ R) (ho : o.data = .cell v) : ∀ p ∈ T, p.1 ≠ a :=
  Tr.off N hT hm (.inl fun xs n e => by rw [ho] at e; cases e)
theorem Tr.offList {h₀ h : Heap} {L a : Addr} {vs : Array Value} {n : Nat} {T R : List (Addr × Obj)} (N : News h₀ L h R) (hT : ∀ p ∈ T, p ∈ R ∧ ∃ xs n, p.2.data = .seq xs n ∧ p.2.cls = .type "tuple") (hm : (a, listOf vs n) ∈ R) : ∀ p ∈ T, p.1 ≠ a :=
  Tr.off N hT hm (.inr (show Value.type "list" ≠ Value.type "tuple" by decide))
theorem Tr.offTab {h₀ h : Heap} {L a : Addr} {vs : Array Value} {T R : List (Addr × Obj)} (N : News h₀ L h R) (hT : ∀ p ∈ T, p ∈ R ∧ ∃ xs n, p.2.data = .seq xs n ∧ p.2.cls = .type "tuple") (hm : (a, tabObj vs) ∈ R) : ∀ p ∈ T, p.1 ≠ a :=
  Tr.off N hT hm (.inl fun xs n e => by cases e)
theorem newsTail3 {h₀ h : Heap} {L : Addr} {a b c : Addr × Obj} {R : List (Addr × Obj)} (N : News h₀ L h (a :: b :: c :: R)) : News h₀ L h R := newsSub N fun p hp => .tail _ (.tail _ (.tail _ hp))
/-- the live part of the ledger, the lists that the law's own sort changes first -/
theorem reordA {h₀ h : Heap} {L : Addr} {e0 e1 e2 e3 e4 e5 e6 e7 e8 e9 e10 e11 e12 e13 e14 e15 e16 : Addr × Obj} (N : News h₀ L h [e0, e1, e2, e3, e4, e5, e6, e7, e8, e9, e10, e11, e12, e13, e14, e15, e16]) : News h₀ L h (e5 :: e10 :: e8 :: [e0, e1, e2, e3, e7, e9, e11, e12, e13, e14, e15, e16]) := newsSub N (List.forall_mem_cons.mpr ⟨.tail _ (.tail _ (.tail _ (.tail _ (.tail _ (.head _))))), List.forall_mem_cons.mpr ⟨.tail _ (.tail _ (.tail _ (.tail _ (.tail _ (.tail _ (.tail _ (.tail _ (.tail _ (.tail _ (.head _)))))))))), List.forall_mem_cons.mpr ⟨.tail _ (.tail _ (.tail _ (.tail _ (.tail _ (.tail _ (.tail _ (.tail _ (.head _)))))))), List.forall_mem_cons.mpr ⟨.head _, List.forall_mem_cons.mpr ⟨.tail _ (.head _), List.forall_mem_cons.mpr ⟨.tail _ (.tail _ (.head _)), List.forall_mem_cons.mpr ⟨.tail _ (.tail _ (.tail _ (.head _))), List.forall_mem_cons.mpr ⟨.tail _ (.tail _ (.tail _ (.tail _ (.tail _ (.tail _ (.tail _ (.head _))))))), List.forall_mem_cons.mpr ⟨.tail _ (.tail _ (.tail _ (.tail _ (.tail _ (.tail _ (.tail _ (.tail _ (.tail _ (.head _))))))))), List.forall_mem_cons.mpr ⟨.tail _ (.tail _ (.tail _ (.tail _ (.tail _ (.tail _ (.tail _ (.tail _ (.tail _ (.tail _ (.tail _ (.head _))))))))))), List.forall_mem_cons.mpr ⟨.tail _ (.tail _ (.tail _ (.tail _ (.tail _ (.tail _ (.tail _ (.tail _ (.tail _ (.tail _ (.tail _ (.tail _ (.head _)))))))))))), List.forall_mem_cons.mpr ⟨.tail _ (.tail _ (.tail _ (.tail _ (.tail _ (.tail _ (.tail _ (.tail _ (.tail _ (.tail _ (.tail _ (.tail _ (.tail _ (.head _))))))))))))), List.forall_mem_cons.mpr ⟨.tail _ (.tail _ (.tail _ (.tail _ (.tail _ (.tail _ (.tail _ (.tail _ (.tail _ (.tail _ (.tail _ (.tail _ (.tail _ (.tail _ (.head _)))))))))))))), List.forall_mem_cons.mpr ⟨.tail _ (.tail _ (.tail _ (.tail _ (.tail _ (.tail _ (.tail _ (.tail _ (.tail _ (.tail _ (.tail _ (.tail _ (.tail _ (.tail _ (.tail _ (.head _))))))))))))))), List.forall_mem_cons.mpr ⟨.tail _ (.tail _ (.tail _ (.tail _ (.tail _ (.tail _ (.tail _ (.tail _ (.tail _ (.tail _ (.tail _ (.tail _ (.tail _ (.tail _ (.tail _ (.tail _ (.head _)))))))))))))))), fun p hp => nomatch hp⟩⟩⟩⟩⟩⟩⟩⟩⟩⟩⟩⟩⟩⟩⟩)
theorem dropB {h₀ h : Heap} {L : Addr} {a b : Addr × Obj} {R : List (Addr × Obj)} (N : News h₀ L h (a :: b :: R)) : News h₀ L h (a :: R) := newsSub N (List.forall_mem_cons.mpr ⟨.head _, fun p hp => .tail _ (.tail _ hp)⟩)
theorem dropC {h₀ h : Heap} {L : Addr} {e0 e1 e2 e3 e4 e5 e6 e7 e8 e9 : Addr × Obj} (N : News h₀ L h [e0, e1, e2, e3, e4, e5, e6, e7, e8, e9]) : News h₀ L h [e0, e4, e5, e6, e8, e9] := newsSub N (List.forall_mem_cons.mpr ⟨.head _, List.forall_mem_cons.mpr ⟨.tail _ (.tail _ (.tail _ (.tail _ (.head _)))), List.forall_mem_cons.mpr ⟨.tail _ (.tail _ (.tail _ (.tail _ (.tail _ (.head _))))), List.forall_mem_cons.mpr ⟨.tail _ (.tail _ (.tail _ (.tail _ (.tail _ (.tail _ (.head _)))))), List.forall_mem_cons.mpr ⟨.tail _ (.tail _ (.tail _ (.tail _ (.tail _ (.tail _ (.tail _ (.tail _ (.head _)))))))), List.forall_mem_cons.mpr ⟨.tail _ (.tail _ (.tail _ (.tail _ (.tail _ (.tail _ (.tail _ (.tail _ (.tail _ (.head _))))))))), fun p hp => nomatch hp⟩⟩⟩⟩⟩⟩)
theorem packA {h₀ h : Heap} {L : Addr} {a b c e0 e1 e2 e3 e7 e9 e11 e16 e17 e18 e20 e21 : Addr × Obj} {R' T : List (Addr × Obj)} (N : News h₀ L h (a :: b :: c :: R')) (hR : ∀ p ∈ [e0, e1, e2, e3, e7, e9, e11, e16, e17, e18, e20, e21], p ∈ R') (hT : ∀ p ∈ T, p ∈ R') (n0 : ∀ p ∈ a :: b :: e1 :: e16 :: e18 :: e20 :: T, p.1 ≠ e11.1) (n1 : ∀ p ∈ a :: b :: e1 :: e16 :: e18 :: e20 :: T, p.1 ≠ e9.1) (n2 : ∀ p ∈ a :: b :: e1 :: e16 :: e18 :: e20 :: T, p.1 ≠ c.1) (n3 : ∀ p ∈ a :: b :: e1 :: e16 :: e18 :: e20 :: T, p.1 ≠ e7.1) (n4 : ∀ p ∈ a :: b :: e1 :: e16 :: e18 :: e20 :: T, p.1 ≠ e17.1) (n5 : ∀ p ∈ a :: b :: e1 :: e16 :: e18 :: e20 :: T, p.1 ≠ e21.1) :
    ∃ R7, News h₀ L h (e11 :: e9 :: c :: e7 :: e17 :: e21 :: R7) ∧ a ∈ R7 ∧ b ∈ R7 ∧ e1 ∈ R7 ∧ e16 ∈ R7 ∧ e18 ∈ R7 ∧ e20 ∈ R7 ∧ (∀ p ∈ T, p ∈ R7) ∧ (∀ p ∈ R7, p.1 ≠ e11.1) ∧ (∀ p ∈ R7, p.1 ≠ e9.1) ∧ (∀ p ∈ R7, p.1 ≠ c.1) ∧ (∀ p ∈ R7, p.1 ≠ e7.1) ∧ (∀ p ∈ R7, p.1 ≠ e17.1) ∧ (∀ p ∈ R7, p.1 ≠ e21.1) :=
  ⟨a :: b :: e1 :: e16 :: e18 :: e20 :: T, newsSub N (List.forall_mem_cons.mpr ⟨.tail _ (.tail _ (.tail _ (hR _ (.tail _ (.tail _ (.tail _ (.tail _ (.tail _ (.tail _ (.head _)))))))))), List.forall_mem_cons.mpr ⟨.tail _ (.tail _ (.tail _ (hR _ (.tail _ (.tail _ (.tail _ (.tail _ (.tail _ (.head _))))))))), List.forall_mem_cons.mpr ⟨.tail _ (.tail _ (.head _)), List.forall_mem_cons.mpr ⟨.tail _ (.tail _ (.tail _ (hR _ (.tail _ (.tail _ (.tail _ (.tail _ (.head _)))))))), List.forall_mem_cons.mpr ⟨.tail _ (.tail _ (.tail _ (hR _ (.tail _ (.tail _ (.tail _ (.tail _ (.tail _ (.tail _ (.tail _ (.tail _ (.head _)))))))))))), List.forall_mem_cons.mpr ⟨.tail _ (.tail _ (.tail _ (hR _ (.tail _ (.tail _ (.tail _ (.tail _ (.tail _ (.tail _ (.tail _ (.tail _ (.tail _ (.tail _ (.tail _ (.head _))))))))))))))), List.forall_mem_cons.mpr ⟨.head _, List.forall_mem_cons.mpr ⟨.tail _ (.head _), List.forall_mem_cons.mpr ⟨.tail _ (.tail _ (.tail _ (hR _ (.tail _ (.head _))))), List.forall_mem_cons.mpr ⟨.tail _ (.tail _ (.tail _ (hR _ (.tail _ (.tail _ (.tail _ (.tail _ (.tail _ (.tail _ (.tail _ (.head _))))))))))), List.forall_mem_cons.mpr ⟨.tail _ (.tail _ (.tail _ (hR _ (.tail _ (.tail _ (.tail _ (.tail _ (.tail _ (.tail _ (.tail _ (.tail _ (.tail _ (.head _))))))))))))), List.forall_mem_cons.mpr ⟨.tail _ (.tail _ (.tail _ (hR _ (.tail _ (.tail _ (.tail _ (.tail _ (.tail _ (.tail _ (.tail _ (.tail _ (.tail _ (.tail _ (.head _)))))))))))))), fun p hp => .tail _ (.tail _ (.tail _ (hT p hp)))⟩⟩⟩⟩⟩⟩⟩⟩⟩⟩⟩⟩), .head _, .tail _ (.head _), .tail _ (.tail _ (.head _)), .tail _ (.tail _ (.tail _ (.head _))), .tail _ (.tail _ (.tail _ (.tail _ (.head _)))), .tail _ (.tail _ (.tail _ (.tail _ (.tail _ (.head _))))), fun p hp => .tail _ (.tail _ (.tail _ (.tail _ (.tail _ (.tail _ (hp)))))), n0, n1, n2, n3, n4, n5⟩
section
open PySem.Calls
abbrev bobj (id : String) (l : Addr) : Obj := { cls := .type "builtin_function_or_method", data := .fields #[.builtin id, .ref l] }
theorem md_slot : Slot "method_descriptor" "__get__" "method_descriptor.__get__" :=
  .of (owner := "method_descriptor") (n := "__get__") (by rw [typeLookup_type, builtinLookup_eq_fast]; kernel_rfl) (by decide +kernel) (by decide +kernel) (by decide +kernel)
    (by first | exact .inl (by decide +kernel) | exact .inr (by decide +kernel)) (by rw [isSubtype_type]; kernel_rfl)
theorem md_entry : entryFor table "method_descriptor.__get__" = some Builtin.«method_descriptor.__get__» := entryFor_of_tree (by kernel_rfl)
theorem md_args (a b c : Value) : argsOk "method_descriptor.__get__" ⟨[a, b, c], []⟩ := by unfold argsOk; kernel_rfl
theorem md_type_append : typeOf (.builtin "list.append") = pure (.type "method_descriptor") := by show builtinType _ = _; rw [builtinType_eq_fast]; kernel_rfl
theorem md_type_pop : typeOf (.builtin "list.pop") = pure (.type "method_descriptor") := by show builtinType _ = _; rw [builtinType_eq_fast]; kernel_rfl
theorem md_owner_append : (kfb_private% "ownerAndName") "list.append" = ("list", "append") := by first | decide +kernel | kernel_rfl
theorem md_owner_pop : (kfb_private% "ownerAndName") "list.pop" = ("list", "pop") := by first | decide +kernel | kernel_rfl
theorem sub_list : isSubtype (.type "list") (.type "list") = pure true := by rw [isSubtype_type]; kernel_rfl
theorem md_run {id : String} (hc : Manifest.toldItsClass.contains id = false) (e1 : ".".intercalate ((id.cutAt '.').dropLast) = "list") {M : Model} {A : Around} {E : Value → Shared → Prop} {s : Shared} {P : Fin → Shared → Prop} {a : Addr} {xs : Array Value} {k : Nat} {sl : Array (Option Value)}
    (hx : s.heap.get? a = some { cls := .type "list", dict := none, data := .seq xs k, slots := sl })
    (h : P (.done (.ret (.ref s.heap.objs.size))) { s with heap := s.heap.push (bobj id a) }) :
    wpAny M A (Builtin.«method_descriptor.__get__» ⟨[.builtin id, .ref a, .type "list"], []⟩) P E s := by
  obtain ⟨hp, g, d, tk, os⟩ := s
  have hT : (⟨hp, g, d, tk, os⟩ : Shared).TypeIs (.ref a) "list" := ⟨_, hx, rfl⟩
  unfold Builtin.«method_descriptor.__get__»
  refine wpAny_bind (wpAny_of_eq (a := (.builtin id, some (.ref a), some (.type "list"))) (by first | rfl | kernel_rfl) ?_)
  dsimp only
  rw [hc]
  repeat (any_goals (first | assumption | wp_step))
  rw [e1]
  have f1 := sub_list
  refine wpAny_of_eq f1 ?_
  repeat (any_goals (first | assumption | wp_step))
theorem la_any {nm : Str} {id : String} (hc : Manifest.toldItsClass.contains id = false) (e1 : ".".intercalate ((id.cutAt '.').dropLast) = "list") (f6 : typeLookup (.type "list") nm = pure (some (.builtin id))) (f8 : typeOf (.builtin id) = pure (.type "method_descriptor")) (hname : (["__module__", "__name__", "__qualname__", "__doc__", "__annotations__"] : List Str).contains nm = false) {prog : Program} {w : World} {A : Around} {E : Value → Shared → Prop} {s : Shared} {Q : Value → Shared → Prop} {a : Addr} {xs : Array Value} {k : Nat} {sl : Array (Option Value)}
    (hx : s.heap.get? a = some { cls := .type "list", dict := none, data := .seq xs k, slots := sl }) 
    (h : Q (.ref s.heap.objs.size) { s with heap := s.heap.push (bobj id a), toks := s.toks + 1 }) :
    wpAny (model prog w) A (getAttr (.ref a) nm true) Q E s := by
  obtain ⟨hp, g, d, tk, os⟩ := s
  have hT : ∀ tk, (⟨hp, g, d, tk, os⟩ : Shared).TypeIs (.ref a) "list" := fun _ => ⟨_, hx, rfl⟩
  have f3 := F.slot_list_getattribute.lookup
  have f4 := F.slot_list_getattribute.bind (.ref a)
  have f5 := list_getattr_none
  unfold getAttr getAttrBy
  have f7 := md_slot.lookup
  have f9 : typeLookup (.type "method_descriptor") "__set__" = pure none := am_miss_of_fast (by kernel_rfl)
  have f10 : typeLookup (.type "method_descriptor") "__delete__" = pure none := am_miss_of_fast (by kernel_rfl)
  repeat (any_goals (first | ((with_reducible show wpAny _ _ (ite _ _ _) _ _ _); rw [hname, if_neg Bool.false_ne_true]) | assumption | exact hT _ | ((with_reducible show wpAny _ _ (call (Value.builtin "list.__getattribute__") _ _) _ _ _); refine wpAny_call_entry F.slot_list_getattribute (hT _) am_entry_list_getattribute ?_ (F.args_list_getattribute_2 _ _); unfold Builtin.«object.__getattribute__») | wp_step))
  all_goals (
    refine codeAny_call_builtin md_slot.plain md_entry (md_slot.check _ _ _ _ _ _ _ _ (show Shared.TypeIs _ (.builtin id) "method_descriptor" from f8) (md_args _ _ _) (md_run hc e1 hx ?_))
    show wpAny _ _ (ret _) _ _ _
    exact wpAny_pure ⟨_, rfl, handed_on rfl h⟩)
theorem la_append {prog : Program} {w : World} {A : Around} {E : Value → Shared → Prop} {s : Shared} {Q : Value → Shared → Prop} {a : Addr} {xs : Array Value} {k : Nat} {sl : Array (Option Value)}
    (hx : s.heap.get? a = some { cls := .type "list", dict := none, data := .seq xs k, slots := sl }) 
    (h : Q (.ref s.heap.objs.size) { s with heap := s.heap.push (bobj "list.append" a), toks := s.toks + 1 }) :
    wpAny (model prog w) A (getAttr (.ref a) "append" true) Q E s :=
  la_any (by decide +kernel) (by first | decide +kernel | kernel_rfl) slot_list_append.lookup md_type_append (by decide +kernel) hx h
theorem la_pop {prog : Program} {w : World} {A : Around} {E : Value → Shared → Prop} {s : Shared} {Q : Value → Shared → Prop} {a : Addr} {xs : Array Value} {k : Nat} {sl : Array (Option Value)}
    (hx : s.heap.get? a = some { cls := .type "list", dict := none, data := .seq xs k, slots := sl }) 
    (h : Q (.ref s.heap.objs.size) { s with heap := s.heap.push (bobj "list.pop" a), toks := s.toks + 1 }) :
    wpAny (model prog w) A (getAttr (.ref a) "pop" true) Q E s :=
  la_any (by decide +kernel) (by first | decide +kernel | kernel_rfl) PySem.F.slot_list_pop.lookup md_type_pop (by decide +kernel) hx h
end
section
open PySem.Calls
theorem sub_list_module : isSubtype (.type "list") (.type "module") = pure false := by rw [isSubtype_type]; kernel_rfl
theorem sub_list_type : isSubtype (.type "list") (.type "type") = pure false := by rw [isSubtype_type]; kernel_rfl
variable {prog : Program} {w : World} {A : Around} {E : Value → Shared → Prop} {s : Shared} {h₀ : Heap} {L : Addr} {m : Str → Option Value} {news : List (Addr × Obj)}
theorem bcheck_append {Q : Unit → Shared → Prop} {l : Addr} {xs : Array Value} {k : Nat} {x : Value}
    (hx : s.heap.get? l = some { cls := .type "list", dict := none, data := .seq xs k, slots := #[] }) (h : Q () s) :
    wpAny (model prog w) A (checkBoundCall "list.append" ⟨[.ref l, x], []⟩) Q E s := by
  obtain ⟨hp, g, d, tk, os⟩ := s
  have hT : (⟨hp, g, d, tk, os⟩ : Shared).TypeIs (.ref l) "list" := ⟨_, hx, rfl⟩
  have f1 := sub_list_module
  have f2 := sub_list_type
  unfold checkBoundCall
  repeat (any_goals (first | assumption | wp_step))
theorem bcheck_pop {Q : Unit → Shared → Prop} {l : Addr} {xs : Array Value} {k : Nat}
    (hx : s.heap.get? l = some { cls := .type "list", dict := none, data := .seq xs k, slots := #[] }) (h : Q () s) :
    wpAny (model prog w) A (checkBoundCall "list.pop" ⟨[.ref l], []⟩) Q E s := by
  obtain ⟨hp, g, d, tk, os⟩ := s
  have hT : (⟨hp, g, d, tk, os⟩ : Shared).TypeIs (.ref l) "list" := ⟨_, hx, rfl⟩
  have f1 := sub_list_module
  have f2 := sub_list_type
  unfold checkBoundCall
  repeat (any_goals (first | assumption | wp_step))
theorem bq_append {as : Args} : (Code.builtin "list.append" as).quiet = true := Code.quiet_builtin _ (by decide +kernel)
theorem bq_pop {as : Args} : (Code.builtin "list.pop" as).quiet = true := Code.quiet_builtin _ (by decide +kernel)
theorem bu_append {as : Args} : A.under (.builtin "list.append" as) = A.in1 := Around.under_plainId (by decide +kernel) _
theorem bu_pop {as : Args} : A.under (.builtin "list.pop" as) = A.in1 := Around.under_plainId (by decide +kernel) _
theorem bcall_append {q l : Addr} {its : Array Value} {n : Nat} {x : Value} {Q : Value → Shared → Prop} {news' : List (Addr × Obj)} (F : Fr h₀ L s.heap m) (N : News h₀ L s.heap news) (hq : (q, bobj "list.append" l) ∈ news)
    (U : Upd l (listOf its n) (listOf (its.push x) (n + 1)) news news') (hsz : its.size ≤ sizeLine) (h : ∀ h', Fr h₀ L h' m → News h₀ L h' news' → Q .none { s with heap := h' }) :
    wpAny (model prog w) A (call (.ref q) [x]) Q E s := by
  obtain ⟨pre, post, rfl, rfl, a, b⟩ := U.split
  have z := N (l, listOf its n) (List.mem_append.mpr (.inr (.head _)))
  refine wpAny_call (codeAny_of_tree ?_)
  show wpAny _ A.in1 (callAny (.ref q) ⟨[x], []⟩) _ _ s
  simp only [callAny]
  refine wpAny_bind (wpAny_load (N _ hq).1 ?_)
  simp only [show (Value.type "builtin_function_or_method" == Value.type "method" || Value.type "builtin_function_or_method" == Value.type "builtin_function_or_method" || Value.type "builtin_function_or_method" == Value.type "method-wrapper") = true by decide, if_true]
  refine KFB.if_so (by decide) ?_
  refine wpAny_bind (bcheck_append z.1 ?_)
  refine wpAny_bind (wpAny_pure (wpAny_pure ?_))
  refine ⟨bq_append, codeAny_builtin entry_list_append ?_⟩
  rw [bu_append]
  show wpAny _ _ (updateSeq l (·.push x) >>= fun _ => ret .none) _ _ s
  refine wpAny_bind (wpAny_updateSeq z.1 rfl (wpAny_pure ?_))
  exact h _ (F.change (Heap.SameBut.update ..) z.2.1 z.2.2) (news_set N a b (Heap.SameBut.update ..) (by rw [Heap.get?_update_self _ z.1 (by rw [Obj.mapSeq_push_plain]; rfl), Obj.mapSeq_push_plain]))
theorem bcall_pop {q l : Addr} {p : List Value} {y : Value} {n : Nat} {Q : Value → Shared → Prop} {news' : List (Addr × Obj)} (F : Fr h₀ L s.heap m) (N : News h₀ L s.heap news) (hq : (q, bobj "list.pop" l) ∈ news)
    (U : Upd l (listOf (p ++ [y]).toArray n) (listOf p.toArray (n + 1)) news news') (hsz : p.length + 1 ≤ sizeLine) (h : ∀ h', Fr h₀ L h' m → News h₀ L h' news' → Q y { s with heap := h' }) :
    wpAny (model prog w) A (call (.ref q) []) Q E s := by
  obtain ⟨pre, post, rfl, rfl, a, b⟩ := U.split
  have z := N (l, listOf (p ++ [y]).toArray n) (List.mem_append.mpr (.inr (.head _)))
  refine wpAny_call (codeAny_of_tree ?_)
  show wpAny _ A.in1 (callAny (.ref q) ⟨[], []⟩) _ _ s
  simp only [callAny]
  refine wpAny_bind (wpAny_load (N _ hq).1 ?_)
  simp only [show (Value.type "builtin_function_or_method" == Value.type "method" || Value.type "builtin_function_or_method" == Value.type "builtin_function_or_method" || Value.type "builtin_function_or_method" == Value.type "method-wrapper") = true by decide, if_true]
  refine KFB.if_so (by decide) ?_
  refine wpAny_bind (bcheck_pop z.1 ?_)
  refine wpAny_bind (wpAny_pure (wpAny_pure ?_))
  have hl : (p ++ [y]).toArray.size = p.length + 1 := by simp only [List.size_toArray, List.length_append, List.length_cons, List.length_nil]
  refine ⟨bq_pop, codeAny_builtin PySem.F.entry_list_pop ?_⟩
  rw [bu_pop]
  refine PySem.MeetsSeq.list_pop_last l _ n y (by simp only [hl, Nat.add_sub_cancel, List.getElem?_toArray, List.getElem?_concat_length]) (hl ▸ hsz) prog w A (wants Q E) s ⟨z.1, h _ (F.change (Heap.SameBut.update ..) z.2.1 z.2.2) (kl_turn _ N a b ?shorter (by rw [hl]; exact Nat.ne_of_lt (by simp only [List.size_toArray]; omega)))⟩
  case shorter => simpa only [hl, Nat.add_sub_cancel, List.append_nil] using kl_erase p [] y
theorem bget_append {l : Addr} {its : Array Value} {n : Nat} {Q : Value → Shared → Prop} (F : Fr h₀ L s.heap m) (N : News h₀ L s.heap news) (hm : (l, listOf its n) ∈ news)
    (h : ∀ q h', Fr h₀ L h' m → News h₀ L h' ((q, bobj "list.append" l) :: news) → (∀ p ∈ news, p.1 < q) → Q (.ref q) { s with heap := h', toks := s.toks + 1 }) :
    wpAny (model prog w) A (getAttr (.ref l) (Str.ofString "append") true) Q E s :=
  la_append (N _ hm).1 (h s.heap.objs.size _ (F.push _) (N.push F _) fun p hp => Heap.lt_size (N p hp).1)
theorem bget_pop {l : Addr} {its : Array Value} {n : Nat} {Q : Value → Shared → Prop} (F : Fr h₀ L s.heap m) (N : News h₀ L s.heap news) (hm : (l, listOf its n) ∈ news)
    (h : ∀ q h', Fr h₀ L h' m → News h₀ L h' ((q, bobj "list.pop" l) :: news) → (∀ p ∈ news, p.1 < q) → Q (.ref q) { s with heap := h', toks := s.toks + 1 }) :
    wpAny (model prog w) A (getAttr (.ref l) (Str.ofString "pop") true) Q E s :=
  la_pop (N _ hm).1 (h s.heap.objs.size _ (F.push _) (N.push F _) fun p hp => Heap.lt_size (N p hp).1)
theorem bkeep {q l : Addr} {id : String} {h : Heap} (ho : h.get? q = some (bobj id l)) {M : Model} : ∃ k, (k = Keeper.frame ∨ k = Keeper.machine ∨ k = Keeper.boundFrame) ∧ Looks M h (keeperOf (.ref q)) k := by
  refine ⟨.machine, .inr (.inl rfl), ?_⟩
  exact (Looks.ld (part := none) ho).andThen .now
theorem bcw_one {pos : Pos} {q l : Addr} {id : String} {first : List Value} {env : Env} {e : PySem.Expr} {Q : Value → Shared → Prop} {M : Model} (P : Heap → Prop) (hP : ∀ h, P h → h.get? q = some (bobj id l))
    (h : wpAny M A (spliced (backTo pos (starEach [e] env))) (fun vs s₁ => P s₁.heap ∧ wpAny M A (call (.ref q) (first ++ vs)) Q E s₁) E s)
    (he : starEach [e] env = (false, eval e env) :: starEach [] env := by rfl) :
    wpAny M A (callWith pos (.ref q) first (backTo pos (starEach [e] env)) []) Q E s := by
  rw [he] at h ⊢
  exact callWith_of (by rfl) (fun h x => bkeep (hP h x)) (evalArgs_plain h)
theorem bcw_nil {pos : Pos} {q l : Addr} {id : String} {first : List Value} {env : Env} {Q : Value → Shared → Prop} {M : Model} (ho : s.heap.get? q = some (bobj id l)) (h : wpAny M A (call (.ref q) (first ++ [])) Q E s) :
    wpAny M A (callWith pos (.ref q) first (backTo pos (starEach [] env)) []) Q E s :=
  callWith_of (P := fun h => h.get? q = some (bobj id l)) rfl (fun _ x => bkeep x) (evalArgs_nil3 ⟨ho, h⟩)
theorem bcw1 {pos : Pos} {q l : Addr} {id : String} {first : List Value} {env : Env} {e : PySem.Expr} {Q : Value → Shared → Prop} {M : Model} (N : News h₀ L s.heap news) (hq : (q, bobj id l) ∈ news)
    (h : wpAny M A (spliced (backTo pos (starEach [e] env))) (fun vs s₁ => s₁.heap.get? q = some (bobj id l) ∧ wpAny M A (call (.ref q) (first ++ vs)) Q E s₁) E s)
    (he : starEach [e] env = (false, eval e env) :: starEach [] env := by rfl) :
    wpAny M A (callWith pos (.ref q) first (backTo pos (starEach [e] env)) []) Q E s :=
  bcw_one (fun h => h.get? q = some (bobj id l)) (fun _ z => z) h he
theorem bcw0 {pos : Pos} {q l : Addr} {id : String} {first : List Value} {env : Env} {Q : Value → Shared → Prop} {M : Model} (N : News h₀ L s.heap news) (hq : (q, bobj id l) ∈ news) (h : wpAny M A (call (.ref q) (first ++ [])) Q E s) :
    wpAny M A (callWith pos (.ref q) first (backTo pos (starEach [] env)) []) Q E s := bcw_nil (N _ hq).1 h
end
section
variable {w : World} {dp un : Nat} {gd : Option (List Code)} {cn : Str} {cs : Scope} {a : Addr} {ccd : Value} {cl : List (Str × Addr)} {outer : List Env} {A₀ : Around} {base h₀ : Heap} {L : Addr} {m : Str → Option Value} {s : Shared}
    {loose : List Str} {mean : ExcName → Option Value} {mg mb : Str → Option Value} {Q E : Value → Shared → Prop}
    {o d e f : Addr} {vs its hs : List Value} {ns : List Int} {n k j : Nat} {R : List (Addr × Obj)} {ps : List (Int × Int)} {less : Bool}

/-- the sorter's own dict, as its __init__ leaves it -/
abbrev qes (P : Params) (t1 t2 t3 t4 t5 : Tok) (g p l a b : Value) : List DictEntry :=
  [⟨PyData.keyHash P (Str.ofString "get"), .str (Str.ofString "get") t1, g⟩, ⟨PyData.keyHash P (Str.ofString "put"), .str (Str.ofString "put") t2, p⟩, ⟨PyData.keyHash P (Str.ofString "less"), .str (Str.ofString "less") t3, l⟩,
    ⟨PyData.keyHash P (Str.ofString "hold"), .str (Str.ofString "hold") t4, a⟩, ⟨PyData.keyHash P (Str.ofString "drop"), .str (Str.ofString "drop") t5, b⟩]
theorem new_c {g₁ p₁ l₁ a₁ b₁ : Addr}
    (B : Below A₀ base outer h₀) (F : Fr h₀ L s.heap m) (X : (Mine.hd.heap_39 w.params).In h₀) (N : News h₀ L s.heap R) (T : Top topProg loose mean mg mb h₀) (hk : cs.kind = .function) (hd : dp < 800)
    (ret : ∀ x dx t1 t2 t3 t4 t5 h' tk', Fr h₀ L h' m → News h₀ L h' ((x, instObj 93 dx) :: (dx, dictOf (qes w.params t1 t2 t3 t4 t5 (.ref g₁) (.ref p₁) (.ref l₁) (.ref a₁) (.ref b₁)) 5) :: R) → (∀ p ∈ R, p.1 < dx) → dx < x → Q (.ref x) { s with heap := h', toks := tk' }) :
    wpAny (model PySem.Challenge.rw_rh0156_01.row.prog w) (ktrTop dp un gd cn cs L a ccd cl outer) (call (.ref 93) [.ref g₁, .ref p₁, .ref l₁, .ref a₁, .ref b₁]) Q E s := by
  w_on
  k_dflt (refine' call_cls ?k1 ?k2 ?k3 ?k4 ?k5 ?k6 ?_; (case k1 => k_asm); (case k2 => k_asm); (case k3 => k_asm); (case k4 => k_is); (case k5 => k_is); (case k6 => k_is); k_whole)
  intro x' d' h' F' N' l1 l2
  have l1' := l1
  (try k_lt l1'); (try k_lt2 l2)
  k_dflt (refine' code_def ?k1 ?k2 ?k3 ?k4 ?k5 ?kA ?kF ?kK ?k6 ?k7 ?k8 ?k9 ?kB ?_ ?c2 ?c3 ?c4 ?c5; (case kA => exact rfl); (case kF => exact rfl); (case kK => assumption); (case k1 => k_asm); (case k2 => k_asm); (case k3 => k_asm); (case k4 => k_asm); (case k5 => k_asm); (case k6 => k_is); (case k7 => k_is); (case k8 => ktr_room); (case k9 => exact BindsTo.of_eq rfl); (case c5 => decide); (case kB => exact locs rfl); (case c2 => exact rfl); (case c3 => exact rfl); (case c4 => exact rfl); k_whole; intro g' L' h' FG' F' N' B' X' T'; (try dsimp only); (try k_fold))
  refine wpAny_noRaise ?_
  k_steps
  with_reducible rename News _ _ _ _ => kN
  exact ret _ _ _ _ _ _ _ _ _ (by k_asm) kN l1 l2
end
section
variable {prog : Program} {w : World} {A : Around} {E : Value → Shared → Prop} {s : Shared} {K : Frag} {x C f L : Addr} {ox : Obj} {name : Str} {h₀ : Heap} {m : Str → Option Value} {news : List (Addr × Obj)} {es : List DictEntry} {n : Nat} {pl : Sem Bool} {Q : Value × List Value → Shared → Prop} {v g : Value}
/-- a value that an object holds itself, called as a method -/
theorem own_m (F : Fr h₀ L s.heap m) (X₀ : K.In h₀) (I : InstAt s.heap x ox C (some (dictOf es n))) (hg : plainGet K C name = true) (hh : hasDictIn K C = true) (hf : findIn K (.ref C) name = some none) (hn : noGet K none = true) (hl : getL name es = some (some v)) (hv : handedIn v = true)
    (h : Q (v, []) { s with toks := s.toks + 1 }) : wpAny (model prog w) A (getMethod (.ref x) name pl) Q E s :=
  kmu_own F X₀ I hg hf (get_own F X₀ I hg hh hf hn hl hv h)
theorem findObj_ownFn {od : Obj} (hh : hasDictIn K C = true) (ha : findIn K (.ref C) name = some (some (.ref f))) (hg : specialIn K (.ref f) "__get__" = some (some g)) (ht : takesIn K (.ref f) = some false) (hl : lookIn name od = some (some v)) :
    findObj K C (some od) name = some (.value v) := by
  obtain ⟨cd, hc', hd⟩ := any_some hh
  unfold findObj
  have ho : PySem.W.ownOf cd (some od) name = some (some v) := by unfold PySem.W.ownOf; rw [if_pos hd]; exact hl
  rw [hc', Option.bind_some, ha, Option.bind_some]
  simp only [hg, ht, Option.bind_some, ho]
/-- a value that an object holds itself and that hides a function of its class -/
theorem hid_m (F : Fr h₀ L s.heap m) (X₀ : K.In h₀) (I : InstAt s.heap x ox C (some (dictOf es n))) (hg : plainGet K C name = true) (hh : hasDictIn K C = true) (ha : findIn K (.ref C) name = some (some (.ref f))) (hf : isFn K (.ref f) = true)
    (hgf : specialIn K (.ref f) "__get__" = some (some g)) (ht : takesIn K (.ref f) = some false) (hl : getL name es = some (some v)) (hv : handedIn v = true) (h : Q (v, []) { s with toks := s.toks + 1 }) : wpAny (model prog w) A (getMethod (.ref x) name pl) Q E s := by
  have X := X₀.keeps F.keep
  have hcan := PySem.F.canon_object_ga
  have hlk : lookIn name (dictOf es n) = some (some v) := by rw [lookIn_dict, hl]
  have u : wpAny (model prog w) A (do return (← getAttr (.ref x) name, ([] : List Value))) Q E s :=
    wpAny_bind (wpAny_mono (get_value (Q := fun v s' => Q (v, []) s') X I (plainGet_of hg).1 (findObj_ownFn hh ha hgf ht hlk) hv h) (fun _ _ z => wpAny_pure z) fun _ _ z => z)
  unfold getMethod specialOf
  refine wpAny_bind (wpAny_bind (I.type.here ((looks_findIn X (plainGet_of hg).1).here ?_)))
  dsimp only
  rw [hcan, if_neg (by decide)]
  refine wpAny_bind (wpAny_bind (I.type.here ((looks_findIn X (plainGet_of hg).2).here ?_)))
  refine wpAny_bind (wpAny_bind (I.type.here ((looks_findIn X ha).here (wpAny_bind ((looks_typeIn X (beq_iff_eq.mp hf)).here ?_)))))
  rw [if_neg (by decide +kernel)]
  refine wpAny_bind (wpAny_loadPart I.at_ ?_)
  have hd := I.dict
  cases e : ox.dict with
  | none => rw [e] at hd; exact hd.elim
  | some dx =>
    rw [e] at hd
    refine wpAny_bind (wpAny_bind (wpAny_loadPart hd ?_))
    rw [nsLook_of hlk]
    refine wpAny_pure ?_
    exact u
end
/-- the order of the six objects that stay written -/
theorem chainOf {h₀ h : Heap} {L : Addr} {a b c d e f : Addr × Obj} {R : List (Addr × Obj)} (_N : News h₀ L h (a :: b :: c :: d :: e :: f :: R)) (h1 : @LT.lt Nat _ a.1 b.1) (h2 : @LT.lt Nat _ b.1 c.1) (h3 : @LT.lt Nat _ c.1 d.1) (h4 : @LT.lt Nat _ e.1 a.1) (h5 : @LT.lt Nat _ f.1 e.1) :
    Hide (@LT.lt Nat _ a.1 b.1 ∧ @LT.lt Nat _ b.1 c.1 ∧ @LT.lt Nat _ c.1 d.1 ∧ @LT.lt Nat _ e.1 a.1 ∧ @LT.lt Nat _ f.1 e.1) := ⟨⟨h1, h2, h3, h4, h5⟩⟩
local macro_rules | `(tactic| walk_at "getMethod ref") => `(tactic| (k_here; k_dflt (refine' hid_m ?k1 ?k2 ?k3 ?k4 ?k5 ?k6 ?k7 ?k8 ?k9 ?k10 ?k11 ?_; (case k3 => k_inst); (case k1 => k_asm); (case k2 => k_asm); (case k4 => k_is); (case k5 => k_is); (case k6 => k_is); (case k7 => k_is); (case k8 => k_is); (case k9 => k_is); (case k10 => k_get); (case k11 => k_handed); k_whole)))
local macro_rules | `(tactic| walk_at "getMethod ref") => `(tactic| (k_here; k_dflt (refine' own_m ?k1 ?k2 ?k3 ?k4 ?k5 ?k6 ?k7 ?k8 ?k9 ?_; (case k3 => k_inst); (case k1 => k_asm); (case k2 => k_asm); (case k4 => k_is); (case k5 => k_is); (case k6 => k_is); (case k7 => k_is); (case k8 => k_get); (case k9 => k_handed); k_whole)))
def valOf : Stmt → Expr | .Assign _ v _ => v | _ => default
def argOf : Expr → Nat → Expr | .Call _ xs _ _, k => xs.getD k default | _, _ => default
def lawStmt : Stmt := nthS PySem.Challenge.pw_rh0156_01.main.body 9
def putStmt : Stmt := nthS (bodyOf lawStmt) 5
def getExpr : Expr := argOf (valOf (nthS (bodyOf lawStmt) 6)) 0

structure GetIn (R : List (Addr × Obj)) (f o : Addr) : Prop where
  mk' ::
  out : ∃ ps bd sc pos, getExpr = .Lambda ps bd sc pos ∧ ∃ qual pm c' ctv cR oR oc vs t, (f, kla_obj (Str.ofString "<lambda>") qual ps bd sc [(Str.ofString "row", cR)] pm c' ctv) ∈ R ∧
    (cR, oR) ∈ R ∧ oR.data = .cell (some (.ref o)) ∧ (c', oc) ∈ R ∧ oc.data = .fields vs ∧ vs[1]? = some (.str qual t)
theorem GetIn.mono {R R' : List (Addr × Obj)} {f o : Addr} (x : GetIn R f o) (h : ∀ p ∈ R, p ∈ R') : GetIn R' f o := by
  obtain ⟨ps, bd, sc, pos, e, qual, pm, c', ctv, cR, oR, oc, vs, t, h1, h2, h3, h4, h5, h6⟩ := x.out
  exact ⟨ps, bd, sc, pos, e, qual, pm, c', ctv, cR, oR, oc, vs, t, h _ h1, h _ h2, h3, h _ h4, h5, h6⟩
theorem GetIn.fn {R : List (Addr × Obj)} {f o : Addr} (x : GetIn R f o) : ∃ oc od fd sl, (f, (⟨oc, od, .func fd, sl⟩ : Obj)) ∈ R := by
  obtain ⟨ps, bd, sc, pos, e, qual, pm, c', ctv, cR, oR, oc, vs, t, h1, _⟩ := x.out
  exact ⟨_, _, _, _, h1⟩
structure PutIn (R : List (Addr × Obj)) (f o : Addr) : Prop where
  mk' ::
  out : ∃ nm ps bd ds rt tp sc ts nm' pos, putStmt = .FunctionDef nm ps bd ds rt tp sc ts nm' pos ∧ ∃ qual dc pm c' ctv cR oR oc vs t, (f, fnMade (Str.ofString "put") qual ps bd sc [(Str.ofString "row", cR)] dc pm c' ctv) ∈ R ∧
    (cR, oR) ∈ R ∧ oR.data = .cell (some (.ref o)) ∧ (c', oc) ∈ R ∧ oc.data = .fields vs ∧ vs[1]? = some (.str qual t)
theorem PutIn.mono {R R' : List (Addr × Obj)} {f o : Addr} (x : PutIn R f o) (h : ∀ p ∈ R, p ∈ R') : PutIn R' f o := by
  obtain ⟨nm, ps, bd, ds, rt, tp, sc, ts, nm', pos, e, qual, dc, pm, c', ctv, cR, oR, oc, vs, t, h1, h2, h3, h4, h5, h6⟩ := x.out
  exact ⟨nm, ps, bd, ds, rt, tp, sc, ts, nm', pos, e, qual, dc, pm, c', ctv, cR, oR, oc, vs, t, h _ h1, h _ h2, h3, h _ h4, h5, h6⟩
theorem PutIn.fn {R : List (Addr × Obj)} {f o : Addr} (x : PutIn R f o) : ∃ oc od fd sl, (f, (⟨oc, od, .func fd, sl⟩ : Obj)) ∈ R := by
  obtain ⟨nm, ps, bd, ds, rt, tp, sc, ts, nm', pos, e, qual, dc, pm, c', ctv, cR, oR, oc, vs, t, h1, _⟩ := x.out
  exact ⟨_, _, _, _, h1⟩
section
variable {w : World} {dp un : Nat} {gd : Option (List Code)} {cn : Str} {cs : Scope} {a : Addr} {ccd : Value} {cl : List (Str × Addr)} {outer : List Env} {A₀ : Around} {base h₀ : Heap} {L : Addr} {m : Str → Option Value} {s : Shared}
    {loose : List Str} {mean : ExcName → Option Value} {mg mb : Str → Option Value} {Q E : Value → Shared → Prop}
    {o d e f : Addr} {vs its hs : List Value} {ns : List Int} {n k j : Nat} {R : List (Addr × Obj)} {ps : List (Int × Int)} {less : Bool}

theorem get_c {i : Int} {iN : Nat} {ti : Tok} (hi : i = iN) (B : Below A₀ base outer h₀) (F : Fr h₀ L s.heap m) (X : (Mine.hd.heap_39 w.params).In h₀) (N : News h₀ L s.heap ((o, listOf vs.toArray n) :: (d, listOf its.toArray k) :: (e, listOf hs.toArray j) :: R)) (T : Top topProg loose mean mg mb h₀) (C : CodeHd base 131 127) (hk : cs.kind = .function)
    (hA : GetIn R f o) (hI : IntsAre vs ns) (h1 : iN < ns.length) (hn : ns.length < 100) (hd : dp < 900)
    (ret : ∀ h' tk' tv, Fr h₀ L h' m → News h₀ L h' ((o, listOf vs.toArray n) :: (d, listOf its.toArray k) :: (e, listOf hs.toArray j) :: R) → Q (.int (ns.getD iN 0) tv) { s with heap := h', toks := tk' }) :
    wpAny (model PySem.Challenge.rw_rh0156_01.row.prog w) (ktrTop dp un gd cn cs L a ccd cl outer) (call (.ref f) [.int i ti]) Q E s := by
  w_on
  subst hi
  obtain ⟨qs, bd, sc, pos, e', qual, pm, c', ctv, cR, oR, oc, fs, t, h1, h2, h3, h4, h5, h6⟩ := hA.out
  cases e'
  refine wpAny_call ?_
  k_dflt (refine' kla_code ?k1 ?k2 ?k3 ?k4 ?k5 ?kA ?kF ?kK ?k6 ?k7 ?k8 ?k9 ?kB ?_ ?c2 ?c3 ?c4 ?c5; (case kA => exact rfl); (case kF => exact rfl); (case kK => assumption); (case k1 => k_asm); (case k2 => k_asm); (case k3 => k_asm); (case k4 => k_asm); (case k5 => k_asm); (case k6 => exact .tail _ (.tail _ (.tail _ h1))); (case k7 => exact codeRec_news (by k_asm) (.tail _ (.tail _ (.tail _ h4))) (by assumption) (by assumption)); (case k8 => ktr_room); (case k9 => exact rfl); (case c5 => decide); (case kB => exact locs rfl); (case c2 => exact rfl); (case c3 => exact rfl); (case c4 => exact rfl); k_whole; intro g' L' h' FG' F' N' B' X' T'; (try dsimp only); (try k_lift B'); (try k_fold))
  refine wpAny_noRaise ?_
  k_steps
  with_reducible rename News _ _ _ _ => kN
  exact ret _ _ _ (by k_asm) kN
theorem put_c {i v : Int} {iN : Nat} {ti tv : Tok} (hi : i = iN) (B : Below A₀ base outer h₀) (F : Fr h₀ L s.heap m) (X : (Mine.hd.heap_39 w.params).In h₀) (N : News h₀ L s.heap ((o, listOf vs.toArray n) :: (d, listOf its.toArray k) :: (e, listOf hs.toArray j) :: R)) (T : Top topProg loose mean mg mb h₀) (C : CodeHd base 131 127) (hk : cs.kind = .function)
    (hA : PutIn R f o) (hI : IntsAre vs ns) (r1 : ∀ p ∈ R, p.1 ≠ o) (n1 : d ≠ o) (n2 : e ≠ o) (h1 : iN < ns.length) (hn : ns.length < 100) (hd : dp < 900)
    (ret : ∀ vs' h' tk', Fr h₀ L h' m → News h₀ L h' ((o, listOf vs'.toArray n) :: (d, listOf its.toArray k) :: (e, listOf hs.toArray j) :: R) → IntsAre vs' (ns.set iN v) → Q .none { s with heap := h', toks := tk' }) :
    wpAny (model PySem.Challenge.rw_rh0156_01.row.prog w) (ktrTop dp un gd cn cs L a ccd cl outer) (call (.ref f) [.int i ti, .int v tv]) Q E s := by
  w_on
  subst hi
  obtain ⟨nm, qs, bd, ds, rt, tp, sc, ts, nm', pos, e', qual, dc, pm, c', ctv, cR, oR, oc, fs, t, h1, h2, h3, h4, h5, h6⟩ := hA.out
  cases e'
  refine wpAny_call ?_
  k_dflt (refine' code_nest ?k1 ?k2 ?k3 ?k4 ?k5 ?kA ?kF ?kK ?k6 ?k7 ?k8 ?k9 ?kB ?_ ?c2 ?c3 ?c4 ?c5; (case kA => exact rfl); (case kF => exact rfl); (case kK => assumption); (case k1 => k_asm); (case k2 => k_asm); (case k3 => k_asm); (case k4 => k_asm); (case k5 => k_asm); (case k6 => exact .tail _ (.tail _ (.tail _ h1))); (case k7 => exact codeRec_news (by k_asm) (.tail _ (.tail _ (.tail _ h4))) (by assumption) (by assumption)); (case k8 => ktr_room); (case k9 => exact BindsTo.of_eq rfl); (case c5 => decide); (case kB => exact locs rfl); (case c2 => exact rfl); (case c3 => exact rfl); (case c4 => exact rfl); k_whole; intro g' L' h' FG' F' N' B' X' T'; (try dsimp only); (try k_lift B'); (try k_fold))
  refine wpAny_noRaise ?_
  k_steps
  with_reducible rename News _ _ _ _ => kN
  with_reducible rename IntsAre _ _ => kI
  refine ret _ _ _ (by k_asm) kN ?_
  simpa using kI
end
/-- the sorter, as law built it -/
abbrev qes6 (P : Params) (t1 t2 t3 t4 t5 t6 : Tok) (g p l a b u : Value) : List DictEntry :=
  [⟨PyData.keyHash P (Str.ofString "get"), .str (Str.ofString "get") t1, g⟩, ⟨PyData.keyHash P (Str.ofString "put"), .str (Str.ofString "put") t2, p⟩, ⟨PyData.keyHash P (Str.ofString "less"), .str (Str.ofString "less") t3, l⟩,
    ⟨PyData.keyHash P (Str.ofString "hold"), .str (Str.ofString "hold") t4, a⟩, ⟨PyData.keyHash P (Str.ofString "drop"), .str (Str.ofString "drop") t5, b⟩, ⟨PyData.keyHash P (Str.ofString "sort"), .str (Str.ofString "sort") t6, u⟩]
structure QIn (P : Params) (R : List (Addr × Obj)) (x o d e : Addr) (less : Bool) : Prop where
  mk' ::
  out : ∃ dx g p f a b u t1 t2 t3 t4 t5 t6, (x, instObj 93 dx) ∈ R ∧ (dx, dictOf (qes6 P t1 t2 t3 t4 t5 t6 (.ref g) (.ref p) (.ref f) (.ref a) (.ref b) (.ref u)) 6) ∈ R ∧
    GetIn R g o ∧ PutIn R p o ∧ AskIn R f d less ∧ (a, bobj "list.append" e) ∈ R ∧ (b, bobj "list.pop" e) ∈ R
theorem QIn.mono {P : Params} {R R' : List (Addr × Obj)} {x o d e : Addr} {less : Bool} (q : QIn P R x o d e less) (h : ∀ p ∈ R, p ∈ R') : QIn P R' x o d e less := by
  obtain ⟨dx, g, p, f, a, b, u, t1, t2, t3, t4, t5, t6, h1, h2, h3, h4, h5, h6, h7⟩ := q.out
  exact ⟨dx, g, p, f, a, b, u, t1, t2, t3, t4, t5, t6, h _ h1, h _ h2, h3.mono h, h4.mono h, h5.mono h, h _ h6, h _ h7⟩
theorem News.rest {h₀ h : Heap} {L : Addr} {q : Addr × Obj} {R : List (Addr × Obj)} (N : News h₀ L h (q :: R)) : News h₀ L h R := fun p hp => N p (.tail _ hp)
section
variable {w : World} {dp un : Nat} {gd : Option (List Code)} {cn : Str} {cs : Scope} {a : Addr} {ccd : Value} {cl : List (Str × Addr)} {outer : List Env} {A₀ : Around} {base h₀ : Heap} {L : Addr} {m : Str → Option Value} {s : Shared}
    {loose : List Str} {mean : ExcName → Option Value} {mg mb : Str → Option Value} {Q E : Value → Shared → Prop}
    {o d e f : Addr} {vs its hs : List Value} {ns : List Int} {n k j : Nat} {R : List (Addr × Obj)} {ps : List (Int × Int)} {less : Bool}

theorem two_c {x : Addr} {low high : Nat} {i i' : Int} {tl th : Tok} (hlo : i = low) (hhi : i' = high) (B : Below A₀ base outer h₀) (F : Fr h₀ L s.heap m) (X : (Mine.hd.heap_39 w.params).In h₀) (N : News h₀ L s.heap ((o, listOf vs.toArray n) :: (d, listOf its.toArray k) :: (e, listOf hs.toArray j) :: R)) (T : Top topProg loose mean mg mb h₀) (C : CodeHd base 131 127) (hk : cs.kind = .function)
    (hS : QIn w.params R x o d e less) (O : Ok R o d e its ps) (hI : IntsAre vs ns) (h1 : low < ns.length) (h2 : high < ns.length) (hn : ns.length < 100) (hp : ps.length < 1000000) (hd : dp < 800)
    (ret : ∀ vs' its' k' R' h' tk', Fr h₀ L h' m → News h₀ L h' ((o, listOf vs'.toArray n) :: (d, listOf its'.toArray k') :: (e, listOf hs.toArray j) :: R') → (∀ p ∈ R, p ∈ R') → Ok R' o d e its' (ps ++ (twoF less ns low high).2) →
      IntsAre vs' (twoF less ns low high).1 → Q .none { s with heap := h', toks := tk' }) :
    wpAny (model PySem.Challenge.rw_rh0156_01.row.prog w) (ktrTop dp un gd cn cs L a ccd cl outer) (call (.ref 55) [.ref x, .int i tl, .int i' th]) Q E s := by
  w_on
  subst hlo hhi
  obtain ⟨dx, g, p, f, a, b, u, t1, t2, t3, t4, t5, t6, hq⟩ := hS.out
  have q1 := hq.1
  have q2 := hq.2.1
  have q3 := hq.2.2.1
  have q4 := hq.2.2.2.1
  have q5 := hq.2.2.2.2.1
  have q6 := hq.2.2.2.2.2.1
  have q7 := hq.2.2.2.2.2.2
  clear hq
  obtain ⟨gc, gd', gf, gs, hg⟩ := q3.fn
  obtain ⟨pc, pd, pf, psl, hpf⟩ := q4.fn
  obtain ⟨fc, fd, ff, fs, hf⟩ := q5.fn
  refine wpAny_call ?_
  k_dflt (refine' code_def ?k1 ?k2 ?k3 ?k4 ?k5 ?kA ?kF ?kK ?k6 ?k7 ?k8 ?k9 ?kB ?_ ?c2 ?c3 ?c4 ?c5; (case kA => exact rfl); (case kF => exact rfl); (case kK => assumption); (case k1 => k_asm); (case k2 => k_asm); (case k3 => k_asm); (case k4 => k_asm); (case k5 => k_asm); (case k6 => k_is); (case k7 => k_is); (case k8 => ktr_room); (case k9 => exact BindsTo.of_eq rfl); (case c5 => decide); (case kB => exact locs rfl); (case c2 => exact rfl); (case c3 => exact rfl); (case c4 => exact rfl); k_whole; intro g' L' h' FG' F' N' B' X' T'; (try dsimp only); (try k_fold))
  refine wpAny_noRaise ?_
  k_steps
  refine get_c (iN := low) rfl (by k_asm) (by k_asm) (by k_asm) (by k_asm) (by k_asm) (by k_asm) rfl q3 hI h1 hn (by ktr_room) ?_
  intro h5 tk5 tv5 F5 N5
  k_steps
  refine get_c (iN := high) rfl (by k_asm) (by k_asm) (by k_asm) (by k_asm) (by k_asm) (by k_asm) rfl q3 hI h2 hn (by ktr_room) ?_
  intro h6 tk6 tv6 F6 N6
  k_steps
  with_reducible rename News _ _ _ _ => NT
  have N7 := News.rest NT
  clear NT
  walk1
  k_steps
  refine ask_c (less := less) (x := ns.getD high 0) (y := ns.getD low 0) (by k_asm) (by k_asm) (by k_asm) (by k_asm) (by k_asm) (by k_asm) rfl O q5 hp (by ktr_room) ?_
  intro its1 k1 R1 h8 tk8 F8 N8 hR1 O1
  have q1' := hR1 _ q1
  have q2' := hR1 _ q2
  have hg' := hR1 _ hg
  have hpf' := hR1 _ hpf
  have hf' := hR1 _ hf
  k_steps
  · rename_i hb
    refine put_c (iN := low) rfl (by k_asm) (by k_asm) (by k_asm) (by k_asm) (by k_asm) (by k_asm) rfl (q4.mono hR1) hI O1.ro (Ne.symm O1.od) (Ne.symm O1.oe) h1 hn (by ktr_room) ?_
    intro vs2 h9 tk9 F9 N9 I9
    k_steps
    refine put_c (iN := high) rfl (by k_asm) (by k_asm) (by k_asm) (by k_asm) (by k_asm) (by k_asm) rfl (q4.mono hR1) I9 O1.ro (Ne.symm O1.od) (Ne.symm O1.oe) (by rw [List.length_set]; omega) (by rw [List.length_set]; omega) (by ktr_room) ?_
    intro vs3 h10 tk10 F10 N10 I10
    k_steps
    exact ret _ _ _ _ _ _ (by k_asm) (by k_asm) hR1 O1 (by rw [twoF_yes hb]; exact I10)
  · have hb : ltb less (ns.getD high 0) (ns.getD low 0) = false := by first | assumption | (apply Bool.eq_false_iff.mpr; assumption)
    exact ret _ _ _ _ _ _ (by k_asm) (by k_asm) hR1 O1 (by rw [twoF_no hb]; exact hI)
theorem mid_c {x : Addr} {low mid high : Nat} {i i' i'' : Int} {tl tmm th : Tok} (hlo : i = low) (hmi : i' = mid) (hhi : i'' = high) (B : Below A₀ base outer h₀) (F : Fr h₀ L s.heap m) (X : (Mine.hd.heap_39 w.params).In h₀) (N : News h₀ L s.heap ((o, listOf vs.toArray n) :: (d, listOf its.toArray k) :: (e, listOf hs.toArray j) :: R)) (T : Top topProg loose mean mg mb h₀) (C : CodeHd base 131 127) (hk : cs.kind = .function)
    (hS : QIn w.params R x o d e less) (O : Ok R o d e its ps) (hI : IntsAre vs ns) (h1 : low < ns.length) (h2 : high < ns.length) (h3 : mid < ns.length) (hn : ns.length < 100) (hp : ps.length + 1 < 1000000) (hd : dp < 800)
    (ret : ∀ vs' its' k' R' h' tk', Fr h₀ L h' m → News h₀ L h' ((o, listOf vs'.toArray n) :: (d, listOf its'.toArray k') :: (e, listOf hs.toArray j) :: R') → (∀ p ∈ R, p ∈ R') → Ok R' o d e its' (ps ++ (midF less ns low mid high).2) →
      IntsAre vs' (midF less ns low mid high).1 → Q .none { s with heap := h', toks := tk' }) :
    wpAny (model PySem.Challenge.rw_rh0156_01.row.prog w) (ktrTop dp un gd cn cs L a ccd cl outer) (call (.ref 62) [.ref x, .int i tl, .int i' tmm, .int i'' th]) Q E s := by
  w_on
  subst hlo hmi hhi
  obtain ⟨dx, g, p, f, a, b, u, t1, t2, t3, t4, t5, t6, hq⟩ := hS.out
  have q1 := hq.1
  have q2 := hq.2.1
  have q3 := hq.2.2.1
  have q4 := hq.2.2.2.1
  have q5 := hq.2.2.2.2.1
  have q6 := hq.2.2.2.2.2.1
  have q7 := hq.2.2.2.2.2.2
  clear hq
  obtain ⟨gc, gd', gf, gs, hg⟩ := q3.fn
  obtain ⟨pc, pd, pf, psl, hpf⟩ := q4.fn
  obtain ⟨fc, fd, ff, fs, hf⟩ := q5.fn
  refine wpAny_call ?_
  k_dflt (refine' code_def ?k1 ?k2 ?k3 ?k4 ?k5 ?kA ?kF ?kK ?k6 ?k7 ?k8 ?k9 ?kB ?_ ?c2 ?c3 ?c4 ?c5; (case kA => exact rfl); (case kF => exact rfl); (case kK => assumption); (case k1 => k_asm); (case k2 => k_asm); (case k3 => k_asm); (case k4 => k_asm); (case k5 => k_asm); (case k6 => k_is); (case k7 => k_is); (case k8 => ktr_room); (case k9 => exact BindsTo.of_eq rfl); (case c5 => decide); (case kB => exact locs rfl); (case c2 => exact rfl); (case c3 => exact rfl); (case c4 => exact rfl); k_whole; intro g' L' h' FG' F' N' B' X' T'; (try dsimp only); (try k_fold))
  refine wpAny_noRaise ?_
  k_steps
  refine get_c (iN := mid) rfl (by k_asm) (by k_asm) (by k_asm) (by k_asm) (by k_asm) (by k_asm) rfl q3 hI h3 hn (by ktr_room) ?_
  intro h5 tk5 tv5 F5 N5
  k_steps
  refine get_c (iN := low) rfl (by k_asm) (by k_asm) (by k_asm) (by k_asm) (by k_asm) (by k_asm) rfl q3 hI h1 hn (by ktr_room) ?_
  intro h6 tk6 tv6 F6 N6
  k_steps
  with_reducible rename News _ _ _ _ => NT
  have N7 := News.rest NT
  clear NT
  walk1
  k_steps
  refine ask_c (less := less) (x := ns.getD mid 0) (y := ns.getD low 0) (by k_asm) (by k_asm) (by k_asm) (by k_asm) (by k_asm) (by k_asm) rfl O q5 (by omega) (by ktr_room) ?_
  intro its1 k1 R1 h8 tk8 F8 N8 hR1 O1
  have q1' := hR1 _ q1
  have q2' := hR1 _ q2
  have hg' := hR1 _ hg
  have hpf' := hR1 _ hpf
  have hf' := hR1 _ hf
  k_steps
  · rename_i hb
    refine put_c (iN := mid) rfl (by k_asm) (by k_asm) (by k_asm) (by k_asm) (by k_asm) (by k_asm) rfl (q4.mono hR1) hI O1.ro (Ne.symm O1.od) (Ne.symm O1.oe) h3 hn (by ktr_room) ?_
    intro vs2 h9 tk9 F9 N9 I9
    k_steps
    refine put_c (iN := low) rfl (by k_asm) (by k_asm) (by k_asm) (by k_asm) (by k_asm) (by k_asm) rfl (q4.mono hR1) I9 O1.ro (Ne.symm O1.od) (Ne.symm O1.oe) (by rw [List.length_set]; omega) (by rw [List.length_set]; omega) (by ktr_room) ?_
    intro vs3 h10 tk10 F10 N10 I10
    k_steps
    exact ret _ _ _ _ _ _ (by k_asm) (by k_asm) hR1 (by rw [midF_1 hb]; exact O1) (by rw [midF_1 hb]; exact I10)
  · have hb : ltb less (ns.getD mid 0) (ns.getD low 0) = false := by first | assumption | (apply Bool.eq_false_iff.mpr; assumption)
    refine get_c (iN := high) rfl (by k_asm) (by k_asm) (by k_asm) (by k_asm) (by k_asm) (by k_asm) rfl (q3.mono hR1) hI h2 hn (by ktr_room) ?_
    intro h9 tk9 tv9 F9 N9
    k_steps
    walk1
    k_steps
    refine ask_c (less := less) (x := ns.getD high 0) (y := ns.getD mid 0) (by k_asm) (by k_asm) (by k_asm) (by k_asm) (by k_asm) (by k_asm) rfl O1 (q5.mono hR1) (by simp only [List.length_append, List.length_cons, List.length_nil]; omega) (by ktr_room) ?_
    intro its2 k2 R2 h10 tk10 F10 N10 hR2 O2
    rw [List.append_assoc] at O2
    have q1'' := hR2 _ q1'
    have q2'' := hR2 _ q2'
    have hpf'' := hR2 _ hpf'
    have hR3 := fun p hp => hR2 p (hR1 p hp)
    k_steps
    · rename_i hc
      refine put_c (iN := mid) rfl (by k_asm) (by k_asm) (by k_asm) (by k_asm) (by k_asm) (by k_asm) rfl (q4.mono hR3) hI O2.ro (Ne.symm O2.od) (Ne.symm O2.oe) h3 hn (by ktr_room) ?_
      intro vs2 h11 tk11 F11 N11 I11
      k_steps
      refine put_c (iN := high) rfl (by k_asm) (by k_asm) (by k_asm) (by k_asm) (by k_asm) (by k_asm) rfl (q4.mono hR3) I11 O2.ro (Ne.symm O2.od) (Ne.symm O2.oe) (by rw [List.length_set]; omega) (by rw [List.length_set]; omega) (by ktr_room) ?_
      intro vs3 h12 tk12 F12 N12 I12
      k_steps
      exact ret _ _ _ _ _ _ (by k_asm) (by k_asm) hR3 (by rw [midF_2 hb hc]; exact O2) (by rw [midF_2 hb hc]; exact I12)
    · have hc : ltb less (ns.getD high 0) (ns.getD mid 0) = false := by first | assumption | (apply Bool.eq_false_iff.mpr; assumption)
      exact ret _ _ _ _ _ _ (by k_asm) (by k_asm) hR3 (by rw [midF_3 hb hc]; exact O2) (by rw [midF_3 hb hc]; exact hI)
end
structure GS where
  i : Nat
  t : Tok
  tv : Tok
  its : List Value
  k : Nat
  R : List (Addr × Obj)
  ps : List (Int × Int)
  fu : Nat
section
variable {w : World} {dp un : Nat} {gd : Option (List Code)} {cn : Str} {cs : Scope} {a : Addr} {ccd : Value} {cl : List (Str × Addr)} {outer : List Env} {A₀ : Around} {base h₀ : Heap} {L : Addr} {m : Str → Option Value} {s : Shared}
    {loose : List Str} {mean : ExcName → Option Value} {mg mb : Str → Option Value} {Q E : Value → Shared → Prop}
    {o d e f : Addr} {vs its hs : List Value} {ns : List Int} {n k j : Nat} {R : List (Addr × Obj)} {ps : List (Int × Int)} {less : Bool}

theorem up_c {x : Addr} {p i i' : Int} {at0 high : Nat} {tp ta tl : Tok} (hat : i = at0) (hli : i' = high) (B : Below A₀ base outer h₀) (F : Fr h₀ L s.heap m) (X : (Mine.hd.heap_39 w.params).In h₀) (N : News h₀ L s.heap ((o, listOf vs.toArray n) :: (d, listOf its.toArray k) :: (e, listOf hs.toArray j) :: R)) (T : Top topProg loose mean mg mb h₀) (C : CodeHd base 131 127) (hk : cs.kind = .function)
    (hS : QIn w.params R x o d e less) (O : Ok R o d e its ps) (hI : IntsAre vs ns) (hu : at0 < high) (hz : ltb less (ns.getD high 0) p = false) (hh : high < ns.length) (hn : ns.length < 100) (hp : ps.length + (scanUp less ns p (high - (at0 + 1)) (at0 + 1)).2.length < 1000000) (hd : dp < 800)
    (ret : ∀ its' k' R' h' tk' t ti tv, Fr h₀ L h' m → News h₀ L h' ((t, ({ cls := .type "tuple", data := .seq #[.int ((scanUp less ns p (high - (at0 + 1)) (at0 + 1)).1 : Nat) ti, .int (ns.getD (scanUp less ns p (high - (at0 + 1)) (at0 + 1)).1 0) tv] } : Obj)) :: ((o, listOf vs.toArray n) :: (d, listOf its'.toArray k') :: (e, listOf hs.toArray j) :: R')) → (∀ p ∈ R, p ∈ R') →
      Ok R' o d e its' (ps ++ (scanUp less ns p (high - (at0 + 1)) (at0 + 1)).2) → Q (.ref t) { s with heap := h', toks := tk' }) :
    wpAny (model PySem.Challenge.rw_rh0156_01.row.prog w) (ktrTop dp un gd cn cs L a ccd cl outer) (call (.ref 69) [.ref x, .int p tp, .int i ta, .int i' tl]) Q E s := by
  w_on
  subst hat hli
  obtain ⟨dx, g, pp, f, a, b, u, t1, t2, t3, t4, t5, t6, hq⟩ := hS.out
  have q1 := hq.1
  have q2 := hq.2.1
  have q3 := hq.2.2.1
  have q4 := hq.2.2.2.1
  have q5 := hq.2.2.2.2.1
  have q6 := hq.2.2.2.2.2.1
  have q7 := hq.2.2.2.2.2.2
  clear hq
  obtain ⟨gc, gd', gf, gs, hg⟩ := q3.fn
  obtain ⟨fc, fd, ff, fs, hf⟩ := q5.fn
  refine wpAny_call ?_
  k_dflt (refine' code_def ?k1 ?k2 ?k3 ?k4 ?k5 ?kA ?kF ?kK ?k6 ?k7 ?k8 ?k9 ?kB ?_ ?c2 ?c3 ?c4 ?c5; (case kA => exact rfl); (case kF => exact rfl); (case kK => assumption); (case k1 => k_asm); (case k2 => k_asm); (case k3 => k_asm); (case k4 => k_asm); (case k5 => k_asm); (case k6 => k_is); (case k7 => k_is); (case k8 => ktr_room); (case k9 => exact BindsTo.of_eq rfl); (case c5 => decide); (case kB => exact locs rfl); (case c2 => exact rfl); (case c3 => exact rfl); (case c4 => exact rfl); k_whole; intro g' L' h' FG' F' N' B' X' T'; (try dsimp only); (try k_fold))
  refine wpAny_noRaise ?_
  k_steps
  refine get_c (iN := (at0 + 1)) (by omega) (by k_asm) (by k_asm) (by k_asm) (by k_asm) (by k_asm) (by k_asm) rfl q3 hI (by omega) hn (by ktr_room) ?_
  intro h5 tk5 tv5 F5 N5
  k_steps
  with_reducible rename Fr _ _ _ _ => F6
  rw [show (at0 : Int) + 1 = ((at0 + 1 : Nat) : Int) by omega] at F6
  refine' wh_k (σ := GS) (fun c => [(Str.ofString "at", .int (c.i : Int) c.t), (Str.ofString "value", .int (ns.getD c.i 0) c.tv)])
    (fun c h => News g' L' h ((o, listOf vs.toArray n) :: (d, listOf c.its.toArray c.k) :: (e, listOf hs.toArray j) :: c.R) ∧ (∀ p ∈ R, p ∈ c.R) ∧ Ok c.R o d e c.its c.ps ∧ c.i + c.fu = high ∧ at0 < c.i ∧ (scanUp less ns p c.fu c.i).1 = (scanUp less ns p (high - (at0 + 1)) (at0 + 1)).1 ∧
      c.ps ++ (scanUp less ns p c.fu c.i).2 = ps ++ (scanUp less ns p (high - (at0 + 1)) (at0 + 1)).2)
    (fun c => c.fu) F6 ?turn ⟨(at0 + 1), _, _, its, k, R, ps, high - (at0 + 1)⟩ ?hk0 ⟨by k_asm, fun _ hp => hp, O, ?f1, ?f2, rfl, rfl⟩
  case hk0 =>
    intro p hp
    simp only [List.mem_cons, List.not_mem_nil, or_false] at hp
    rcases hp with rfl | rfl <;> rfl
  case f1 => show at0 + 1 + (high - (at0 + 1)) = high; omega
  case f2 => show at0 < at0 + 1; omega
  case turn =>
    rintro ⟨i, ti, tvi, its3, k3, R3, ps3, fu3⟩ h3 tk3 K7 Z7 hB7 hZ7 F7 hJ ih
    have N7 := hJ.1
    have hR3 := hJ.2.1
    have O3 := hJ.2.2.1
    have f3 := hJ.2.2.2.1
    have u3 := hJ.2.2.2.2.1
    have y1 := hJ.2.2.2.2.2.1
    have y2 := hJ.2.2.2.2.2.2
    clear hJ
    dsimp only [kstB] at F7 N7 hR3 O3 f3 u3 y1 y2 ih
    have hlen3 : ps3.length < 1000000 := by
      have := congrArg List.length y2
      simp only [List.length_append] at this
      omega
    have q1' := hR3 _ q1
    have q2' := hR3 _ q2
    have hg' := hR3 _ hg
    have hf' := hR3 _ hf
    k_steps
    refine ask_c (less := less) (x := ns.getD i 0) (y := p) (by k_asm) (by k_asm) (by k_asm) (by k_asm) (by k_asm) (by k_asm) rfl O3 (q5.mono hR3) hlen3 (by ktr_room) ?_
    intro its4 k4 R4 h4 tk4 F8 N8 hR4 O4
    have q1'' := hR4 _ q1'
    have q2'' := hR4 _ q2'
    have hg'' := hR4 _ hg'
    have hR5 := fun p hp => hR4 p (hR3 p hp)
    k_steps
    refine whlif_split (fun hb => ?_) (fun hb => ?_)
    · cases fu3 with
      | zero =>
        have hzi : i = high := by omega
        rw [hzi, hz] at hb
        exact absurd hb Bool.false_ne_true
      | succ fu =>
      k_steps
      walk1
      k_steps
      refine get_c (iN := (i + 1)) (by omega) (by k_asm) (by k_asm) (by k_asm) (by k_asm) (by k_asm) (by k_asm) rfl (q3.mono hR5) hI (by omega) hn (by ktr_room) ?_
      intro h6 tk6 tv6 F9 N9
      k_steps
      with_reducible rename Fr _ _ _ _ => F10
      rw [show (i : Int) + 1 = ((i + 1 : Nat) : Int) by omega] at F10
      rw [scanUp_go hb] at y1 y2
      exact ih ⟨(i + 1), _, _, its4, k4, R4, ps3 ++ [(ns.getD i 0, p)], fu⟩ _ _ _ (Nat.lt_succ_self _) F10 ⟨by k_asm, hR5, O4, (by show i + 1 + fu = high; omega), (by show at0 < i + 1; omega), y1, by rw [List.append_assoc]; exact y2⟩
        (by intro p hp; simp only [List.mem_cons, List.not_mem_nil, or_false] at hp; rcases hp with rfl | rfl <;> rfl)
        (by intro z hz; simp only [List.forall_mem_cons, List.not_mem_nil, false_implies, implies_true, and_true, ne_eq] at hz; simp only [hz, if_false])
    · rw [scanUp_stop hb] at y1 y2
      dsimp only at y1 y2
      rw [y2] at O4
      refine hZ7 _ ?_
      k_steps
      with_reducible rename News _ _ _ _ => kN
      rw [← y1] at ret
      exact ret _ _ _ _ _ _ _ _ (by k_asm) kN hR5 O4
end
section
variable {w : World} {dp un : Nat} {gd : Option (List Code)} {cn : Str} {cs : Scope} {a : Addr} {ccd : Value} {cl : List (Str × Addr)} {outer : List Env} {A₀ : Around} {base h₀ : Heap} {L : Addr} {m : Str → Option Value} {s : Shared}
    {loose : List Str} {mean : ExcName → Option Value} {mg mb : Str → Option Value} {Q E : Value → Shared → Prop}
    {o d e f : Addr} {vs its hs : List Value} {ns : List Int} {n k j : Nat} {R : List (Addr × Obj)} {ps : List (Int × Int)} {less : Bool}

theorem dn_c {x : Addr} {p i i' : Int} {at0 low : Nat} {tp ta tl : Tok} (hat : i = at0) (hli : i' = low) (B : Below A₀ base outer h₀) (F : Fr h₀ L s.heap m) (X : (Mine.hd.heap_39 w.params).In h₀) (N : News h₀ L s.heap ((o, listOf vs.toArray n) :: (d, listOf its.toArray k) :: (e, listOf hs.toArray j) :: R)) (T : Top topProg loose mean mg mb h₀) (C : CodeHd base 131 127) (hk : cs.kind = .function)
    (hS : QIn w.params R x o d e less) (O : Ok R o d e its ps) (hI : IntsAre vs ns) (hu : low < at0) (hz : ltb less p (ns.getD low 0) = false) (hh : at0 ≤ ns.length) (hn : ns.length < 100) (hp : ps.length + (scanDn less ns p (at0 - 1 - low) (at0 - 1)).2.length < 1000000) (hd : dp < 800)
    (ret : ∀ its' k' R' h' tk' t ti tv, Fr h₀ L h' m → News h₀ L h' ((t, ({ cls := .type "tuple", data := .seq #[.int ((scanDn less ns p (at0 - 1 - low) (at0 - 1)).1 : Nat) ti, .int (ns.getD (scanDn less ns p (at0 - 1 - low) (at0 - 1)).1 0) tv] } : Obj)) :: ((o, listOf vs.toArray n) :: (d, listOf its'.toArray k') :: (e, listOf hs.toArray j) :: R')) → (∀ p ∈ R, p ∈ R') →
      Ok R' o d e its' (ps ++ (scanDn less ns p (at0 - 1 - low) (at0 - 1)).2) → Q (.ref t) { s with heap := h', toks := tk' }) :
    wpAny (model PySem.Challenge.rw_rh0156_01.row.prog w) (ktrTop dp un gd cn cs L a ccd cl outer) (call (.ref 76) [.ref x, .int p tp, .int i ta, .int i' tl]) Q E s := by
  w_on
  subst hat hli
  obtain ⟨dx, g, pp, f, a, b, u, t1, t2, t3, t4, t5, t6, hq⟩ := hS.out
  have q1 := hq.1
  have q2 := hq.2.1
  have q3 := hq.2.2.1
  have q4 := hq.2.2.2.1
  have q5 := hq.2.2.2.2.1
  have q6 := hq.2.2.2.2.2.1
  have q7 := hq.2.2.2.2.2.2
  clear hq
  obtain ⟨gc, gd', gf, gs, hg⟩ := q3.fn
  obtain ⟨fc, fd, ff, fs, hf⟩ := q5.fn
  refine wpAny_call ?_
  k_dflt (refine' code_def ?k1 ?k2 ?k3 ?k4 ?k5 ?kA ?kF ?kK ?k6 ?k7 ?k8 ?k9 ?kB ?_ ?c2 ?c3 ?c4 ?c5; (case kA => exact rfl); (case kF => exact rfl); (case kK => assumption); (case k1 => k_asm); (case k2 => k_asm); (case k3 => k_asm); (case k4 => k_asm); (case k5 => k_asm); (case k6 => k_is); (case k7 => k_is); (case k8 => ktr_room); (case k9 => exact BindsTo.of_eq rfl); (case c5 => decide); (case kB => exact locs rfl); (case c2 => exact rfl); (case c3 => exact rfl); (case c4 => exact rfl); k_whole; intro g' L' h' FG' F' N' B' X' T'; (try dsimp only); (try k_fold))
  refine wpAny_noRaise ?_
  k_steps
  refine get_c (iN := (at0 - 1)) (by omega) (by k_asm) (by k_asm) (by k_asm) (by k_asm) (by k_asm) (by k_asm) rfl q3 hI (by omega) hn (by ktr_room) ?_
  intro h5 tk5 tv5 F5 N5
  k_steps
  with_reducible rename Fr _ _ _ _ => F6
  rw [show (at0 : Int) - 1 = ((at0 - 1 : Nat) : Int) by omega] at F6
  refine' wh_k (σ := GS) (fun c => [(Str.ofString "at", .int (c.i : Int) c.t), (Str.ofString "value", .int (ns.getD c.i 0) c.tv)])
    (fun c h => News g' L' h ((o, listOf vs.toArray n) :: (d, listOf c.its.toArray c.k) :: (e, listOf hs.toArray j) :: c.R) ∧ (∀ p ∈ R, p ∈ c.R) ∧ Ok c.R o d e c.its c.ps ∧ low + c.fu = c.i ∧ c.i < at0 ∧ (scanDn less ns p c.fu c.i).1 = (scanDn less ns p (at0 - 1 - low) (at0 - 1)).1 ∧
      c.ps ++ (scanDn less ns p c.fu c.i).2 = ps ++ (scanDn less ns p (at0 - 1 - low) (at0 - 1)).2)
    (fun c => c.fu) F6 ?turn ⟨(at0 - 1), _, _, its, k, R, ps, at0 - 1 - low⟩ ?hk0 ⟨by k_asm, fun _ hp => hp, O, ?f1, ?f2, rfl, rfl⟩
  case hk0 =>
    intro p hp
    simp only [List.mem_cons, List.not_mem_nil, or_false] at hp
    rcases hp with rfl | rfl <;> rfl
  case f1 => show low + (at0 - 1 - low) = at0 - 1; omega
  case f2 => show at0 - 1 < at0; omega
  case turn =>
    rintro ⟨i, ti, tvi, its3, k3, R3, ps3, fu3⟩ h3 tk3 K7 Z7 hB7 hZ7 F7 hJ ih
    have N7 := hJ.1
    have hR3 := hJ.2.1
    have O3 := hJ.2.2.1
    have f3 := hJ.2.2.2.1
    have u3 := hJ.2.2.2.2.1
    have y1 := hJ.2.2.2.2.2.1
    have y2 := hJ.2.2.2.2.2.2
    clear hJ
    dsimp only [kstB] at F7 N7 hR3 O3 f3 u3 y1 y2 ih
    have hlen3 : ps3.length < 1000000 := by
      have := congrArg List.length y2
      simp only [List.length_append] at this
      omega
    have q1' := hR3 _ q1
    have q2' := hR3 _ q2
    have hg' := hR3 _ hg
    have hf' := hR3 _ hf
    k_steps
    refine ask_c (less := less) (x := p) (y := ns.getD i 0) (by k_asm) (by k_asm) (by k_asm) (by k_asm) (by k_asm) (by k_asm) rfl O3 (q5.mono hR3) hlen3 (by ktr_room) ?_
    intro its4 k4 R4 h4 tk4 F8 N8 hR4 O4
    have q1'' := hR4 _ q1'
    have q2'' := hR4 _ q2'
    have hg'' := hR4 _ hg'
    have hR5 := fun p hp => hR4 p (hR3 p hp)
    k_steps
    refine whlif_split (fun hb => ?_) (fun hb => ?_)
    · cases fu3 with
      | zero =>
        have hzi : i = low := by omega
        rw [hzi, hz] at hb
        exact absurd hb Bool.false_ne_true
      | succ fu =>
      k_steps
      walk1
      k_steps
      refine get_c (iN := (i - 1)) (by omega) (by k_asm) (by k_asm) (by k_asm) (by k_asm) (by k_asm) (by k_asm) rfl (q3.mono hR5) hI (by omega) hn (by ktr_room) ?_
      intro h6 tk6 tv6 F9 N9
      k_steps
      with_reducible rename Fr _ _ _ _ => F10
      rw [show (i : Int) - 1 = ((i - 1 : Nat) : Int) by omega] at F10
      rw [scanDn_go hb] at y1 y2
      exact ih ⟨(i - 1), _, _, its4, k4, R4, ps3 ++ [(p, ns.getD i 0)], fu⟩ _ _ _ (Nat.lt_succ_self _) F10 ⟨by k_asm, hR5, O4, (by show low + fu = i - 1; omega), (by show i - 1 < at0; omega), y1, by rw [List.append_assoc]; exact y2⟩
        (by intro p hp; simp only [List.mem_cons, List.not_mem_nil, or_false] at hp; rcases hp with rfl | rfl <;> rfl)
        (by intro z hz; simp only [List.forall_mem_cons, List.not_mem_nil, false_implies, implies_true, and_true, ne_eq] at hz; simp only [hz, if_false])
    · rw [scanDn_stop hb] at y1 y2
      dsimp only at y1 y2
      rw [y2] at O4
      refine hZ7 _ ?_
      k_steps
      with_reducible rename News _ _ _ _ => kN
      rw [← y1] at ret
      exact ret _ _ _ _ _ _ _ _ (by k_asm) kN hR5 O4
end
local macro_rules | `(tactic| walk_at "callWith ref") => `(tactic| (k_here; k_dflt (refine' bcw1 ?N ?q ?_; (case N => k_asm); (case q => k_mem))))
local macro_rules | `(tactic| walk_at "callWith ref") => `(tactic| (k_here; k_dflt (refine' bcw0 ?N ?q ?_; (case N => k_asm); (case q => k_mem))))
section
variable {prog : Program} {w : World} {A : Around} {s : Shared} {env : Env} {h₀ : Heap} {L : Addr} {test : PySem.Expr} {body : List Stmt} {Q : Flow → Shared → Prop}
theorem wh_four {σ : Type} {m₀ : Str → Option Value} {pos : Pos} (a b : Str) (fa fb : σ → Option Value) (ps : σ → List (Str × Value)) (J : σ → Heap → Prop) (μ : σ → Nat)
    (F : Fr h₀ L s.heap m₀)
    (turn : ∀ c h tk, Fr h₀ L h (fun y => if y = a then fa c else if y = b then fb c else kstB m₀ (ps c) y) → J c h →
      (∀ c' h' tk' m', μ c' < μ c → Fr h₀ L h' m' → J c' h' → m' a = fa c' → m' b = fb c' → (∀ p ∈ ps c', m' p.1 = some p.2) → (∀ z, z ≠ a → z ≠ b → (∀ p ∈ ps c', z ≠ p.1) → m' z = m₀ z) → WhlRest prog w A (fun _ _ => False) env test body [] Q 0 { s with heap := h', toks := tk' }) →
      wpAny (model prog w) A (isTrue test env (eval test env)) (fun b s₂ => WhlIf b (wpAny (model prog w) A (execs body env) (WhlPost prog w A (fun _ _ => False) env test body [] Q 0) (fun _ _ => False) s₂) (wpAny (model prog w) A (execs [] env) Q (fun _ _ => False) s₂)) (fun _ _ => False) { s with heap := h, toks := tk })
    (c₀ : σ) (ha : m₀ a = fa c₀) (hb : m₀ b = fb c₀) (hk : ∀ p ∈ ps c₀, m₀ p.1 = some p.2) (hJ : J c₀ s.heap) :
    wpAny (model prog w) A (exec (.While test body [] pos) env) Q (fun _ _ => False) s := by
  have key : ∀ n c h tk m', μ c < n → Fr h₀ L h m' → J c h → m' a = fa c → m' b = fb c → (∀ p ∈ ps c, m' p.1 = some p.2) → (∀ z, z ≠ a → z ≠ b → (∀ p ∈ ps c, z ≠ p.1) → m' z = m₀ z) → WhlRest prog w A (fun _ _ => False) env test body [] Q 0 { s with heap := h, toks := tk } := by
    intro n
    induction n with
    | zero => intro c h tk m' hlt; exact absurd hlt (Nat.not_lt_zero _)
    | succ n ih =>
      intro c h tk m' hlt F' hJ' e1 e2 h1 h2
      have em : m' = fun y => if y = a then fa c else if y = b then fb c else kstB m₀ (ps c) y := by
        funext y
        by_cases ya : y = a
        · rw [if_pos ya, ya, e1]
        by_cases yb : y = b
        · rw [if_neg ya, if_pos yb, yb, e2]
        rw [if_neg ya, if_neg yb]
        exact (kstB_eq h1 fun hn => (h2 y ya yb hn).symm).symm
      rw [em] at F'
      exact whl_turn (k := 0) PassesOwn.never (turn c h tk F' hJ' fun c' h' tk' m'' hlt' => ih c' h' tk' m'' (by omega))
  exact whl_start 0 (key _ c₀ s.heap s.toks m₀ (Nat.lt_succ_self _) F hJ ha hb hk fun _ _ _ _ => rfl)
theorem wh_fk {σ : Type} {m₀ : Str → Option Value} {pos : Pos} (a b : Str) (fa fb : σ → Option Value) (ps : σ → List (Str × Value)) (J : σ → Heap → Prop) (μ : σ → Nat)
    (F : Fr h₀ L s.heap m₀)
    (turn : ∀ c h tk (K : Flow → Shared → Prop) (Z : Shared → Prop), (∀ s', Q .next s' → K .brk s') → (∀ s₂, wpAny (model prog w) A (execs [] env) Q (fun _ _ => False) s₂ → Z s₂) → Fr h₀ L h (fun y => if y = a then fa c else if y = b then fb c else kstB m₀ (ps c) y) → J c h →
      (∀ c' h' tk' m', μ c' < μ c → Fr h₀ L h' m' → J c' h' → m' a = fa c' → m' b = fb c' → (∀ p ∈ ps c', m' p.1 = some p.2) → (∀ z, z ≠ a → z ≠ b → (∀ p ∈ ps c', z ≠ p.1) → m' z = m₀ z) → K .next { s with heap := h', toks := tk' }) →
      wpAny (model prog w) A (isTrue test env (eval test env)) (fun b s₂ => WhlIf b (wpAny (model prog w) A (execs body env) K (fun _ _ => False) s₂) (Z s₂)) (fun _ _ => False) { s with heap := h, toks := tk })
    (c₀ : σ) (ha : m₀ a = fa c₀) (hb : m₀ b = fb c₀) (hk : ∀ p ∈ ps c₀, m₀ p.1 = some p.2) (hJ : J c₀ s.heap) :
    wpAny (model prog w) A (exec (.While test body [] pos) env) Q (fun _ _ => False) s :=
  wh_four a b fa fb ps J μ F (fun c h tk F' hJ' ih => turn c h tk (WhlPost prog w A (fun _ _ => False) env test body [] Q 0) (fun s₂ => wpAny (model prog w) A (execs [] env) Q (fun _ _ => False) s₂) (fun _ x => x) (fun _ x => x) F' hJ' ih) c₀ ha hb hk hJ
end
structure PS where
  up : Nat
  dn : Nat
  tu : Tok
  td : Tok
  ns : List Int
  vs : List Value
  its : List Value
  k : Nat
  R : List (Addr × Obj)
  ps : List (Int × Int)
  j : Nat
  one : Option Value
  other : Option Value
  fu : Nat
section
variable {w : World} {dp un : Nat} {gd : Option (List Code)} {cn : Str} {cs : Scope} {a : Addr} {ccd : Value} {cl : List (Str × Addr)} {outer : List Env} {A₀ : Around} {base h₀ : Heap} {L : Addr} {m : Str → Option Value} {s : Shared}
    {loose : List Str} {mean : ExcName → Option Value} {mg mb : Str → Option Value} {Q E : Value → Shared → Prop}
    {o d e f : Addr} {vs its hs : List Value} {ns : List Int} {n k j : Nat} {R : List (Addr × Obj)} {ps : List (Int × Int)} {less : Bool}

theorem part_c {x : Addr} {low high : Nat} {i i' : Int} {tl th : Tok} (hlo : i = low) (hhi : i' = high) (hnil : hs = []) (B : Below A₀ base outer h₀) (F : Fr h₀ L s.heap m) (X : (Mine.hd.heap_39 w.params).In h₀) (N : News h₀ L s.heap ((o, listOf vs.toArray n) :: (d, listOf its.toArray k) :: (e, listOf hs.toArray j) :: R)) (T : Top topProg loose mean mg mb h₀) (C : CodeHd base 131 127) (hk : cs.kind = .function)
    (hS : QIn w.params R x o d e less) (O : Ok R o d e its ps) (hI : IntsAre vs ns) (hn : ns.length < 100) (hp : ps.length + (partF less ns low high).2.2.length < 1000000) (hd : dp < 780)
    (S : SI less (swapL ns ((low + high) / 2) (high - 1)) (ns.getD ((low + high) / 2) 0) low high low (high - 1)) (h2 : low + 2 ≤ high)
    (ret : ∀ vs' its' k' R' h' tk' j' tk'', Fr h₀ L h' m → News h₀ L h' ((o, listOf vs'.toArray n) :: (d, listOf its'.toArray k') :: (e, listOf hs.toArray j') :: R') → (∀ p ∈ R, p ∈ R') → Ok R' o d e its' (ps ++ (partF less ns low high).2.2) →
      IntsAre vs' (partF less ns low high).1 → Q (.int ((partF less ns low high).2.1 : Nat) tk'') { s with heap := h', toks := tk' }) :
    wpAny (model PySem.Challenge.rw_rh0156_01.row.prog w) (ktrTop dp un gd cn cs L a ccd cl outer) (call (.ref 83) [.ref x, .int i tl, .int i' th]) Q E s := by
  w_on
  subst hlo hhi hnil
  have hlh := S.hl
  have hdh := S.dh
  have hld := S.ld
  have hlen : (swapL ns ((low + high) / 2) (high - 1)).length = ns.length := by simp [swapL]
  rw [hlen] at hlh
  obtain ⟨dx, g, pp, f, a, b, u, t1, t2, t3, t4, t5, t6, hq⟩ := hS.out
  have q1 := hq.1
  have q2 := hq.2.1
  have q3 := hq.2.2.1
  have q4 := hq.2.2.2.1
  have q5 := hq.2.2.2.2.1
  have q6 := hq.2.2.2.2.2.1
  have q7 := hq.2.2.2.2.2.2
  clear hq
  obtain ⟨gc, gd', gf, gs, hg⟩ := q3.fn
  obtain ⟨pc, pd, pf, psl, hpf⟩ := q4.fn
  have hmid : ((low : Int) + (high : Int)).fdiv 2 = (((low + high) / 2 : Nat) : Int) := by
    rw [Int.fdiv_eq_ediv_of_nonneg _ (by omega)]; omega
  have hh1 : (high : Int) - 1 = ((high - 1 : Nat) : Int) := by omega
  refine wpAny_call ?_
  k_dflt (refine' code_def ?k1 ?k2 ?k3 ?k4 ?k5 ?kA ?kF ?kK ?k6 ?k7 ?k8 ?k9 ?kB ?_ ?c2 ?c3 ?c4 ?c5; (case kA => exact rfl); (case kF => exact rfl); (case kK => assumption); (case k1 => k_asm); (case k2 => k_asm); (case k3 => k_asm); (case k4 => k_asm); (case k5 => k_asm); (case k6 => k_is); (case k7 => k_is); (case k8 => ktr_room); (case k9 => exact BindsTo.of_eq rfl); (case c5 => decide); (case kB => exact locs rfl); (case c2 => exact rfl); (case c3 => exact rfl); (case c4 => exact rfl); k_whole; intro g' L' h' FG' F' N' B' X' T'; (try dsimp only); (try k_fold))
  refine wpAny_noRaise ?_
  k_steps
  refine get_c (iN := (low + high) / 2) hmid (by k_asm) (by k_asm) (by k_asm) (by k_asm) (by k_asm) (by k_asm) rfl q3 hI (by omega) hn (by ktr_room) ?_
  intro h5 tk5 tv5 F5 N5
  k_steps
  refine get_c (iN := high - 1) hh1 (by k_asm) (by k_asm) (by k_asm) (by k_asm) (by k_asm) (by k_asm) rfl q3 hI (by omega) hn (by ktr_room) ?_
  intro h6 tk6 tv6 F6 N6
  k_steps
  refine put_c (iN := (low + high) / 2) hmid (by k_asm) (by k_asm) (by k_asm) (by k_asm) (by k_asm) (by k_asm) rfl q4 hI O.ro (Ne.symm O.od) (Ne.symm O.oe) (by omega) hn (by ktr_room) ?_
  intro vs7 h7 tk7 F7 N7 I7
  k_steps
  refine put_c (iN := high - 1) hh1 (by k_asm) (by k_asm) (by k_asm) (by k_asm) (by k_asm) (by k_asm) rfl q4 I7 O.ro (Ne.symm O.od) (Ne.symm O.oe) (by rw [List.length_set]; omega) (by rw [List.length_set]; omega) (by ktr_room) ?_
  intro vs8 h8 tk8 F8 N8 I8
  k_steps
  with_reducible rename News _ _ _ _ => NT
  have N9 := News.rest NT
  clear NT
  with_reducible rename Fr _ _ _ _ => F9
  rw [hh1] at F9
  generalize hpv : ns.getD ((low + high) / 2) 0 = pv at F9 S I8
  have I9 : IntsAre vs8 (swapL ns ((low + high) / 2) (high - 1)) := by unfold swapL; rw [hpv]; exact I8
  generalize hn1 : swapL ns ((low + high) / 2) (high - 1) = ns1 at S I9 hlen
  simp only [partF, hpv, hn1] at ret hp
  refine' wh_fk (σ := PS) (Str.ofString "one") (Str.ofString "other") (fun c => c.one) (fun c => c.other) (fun c => [(Str.ofString "up", .int (c.up : Int) c.tu), (Str.ofString "down", .int (c.dn : Int) c.td)])
    (fun c h => News g' L' h ((o, listOf c.vs.toArray n) :: (d, listOf c.its.toArray c.k) :: (e, listOf [].toArray c.j) :: c.R) ∧ IntsAre c.vs c.ns ∧ (∀ p ∈ R, p ∈ c.R) ∧ Ok c.R o d e c.its c.ps ∧ SI less c.ns pv low high c.up c.dn ∧ c.ns.length = ns.length ∧ c.dn < c.up + c.fu ∧
      (seamLoop less pv low high c.fu c.ns c.up c.dn).1 = (seamLoop less pv low high (high - low) ns1 low (high - 1)).1 ∧ (seamLoop less pv low high c.fu c.ns c.up c.dn).2.1 = (seamLoop less pv low high (high - low) ns1 low (high - 1)).2.1 ∧
      c.ps ++ (seamLoop less pv low high c.fu c.ns c.up c.dn).2.2 = ps ++ (seamLoop less pv low high (high - low) ns1 low (high - 1)).2.2)
    (fun c => c.fu) F9 ?turn ⟨low, high - 1, _, _, ns1, vs8, its, k, R, ps, j, none, none, high - low⟩ rfl rfl ?hk0 ⟨N9, I9, fun _ hp => hp, O, S, hlen, ?f0, rfl, rfl, rfl⟩
  case hk0 =>
    intro p hp
    simp only [List.mem_cons, List.not_mem_nil, or_false] at hp
    rcases hp with rfl | rfl <;> rfl
  case f0 => show high - 1 < low + (high - low); omega
  case turn =>
    rintro ⟨up, dn, tu, td, ns2, vs2, its2, k2, R2, ps2, j2, vone, vother, fu⟩ h2 tk2 K4 Z4 hB4 hZ4 F4 hJ ih
    have N4 := hJ.1
    have I4 := hJ.2.1
    have hR2 := hJ.2.2.1
    have O2 := hJ.2.2.2.1
    have S2 := hJ.2.2.2.2.1
    have hl2 := hJ.2.2.2.2.2.1
    have hf2 := hJ.2.2.2.2.2.2.1
    have e1 := hJ.2.2.2.2.2.2.2.1
    have e2 := hJ.2.2.2.2.2.2.2.2.1
    have e3 := hJ.2.2.2.2.2.2.2.2.2
    clear hJ
    dsimp only [kstB] at F4 N4 I4 hR2 O2 S2 hl2 hf2 e1 e2 e3 ih
    have hud := S2.ud
    have hlu := S2.lu
    have hdh2 := S2.dh
    have hld2 := S2.ld
    cases fu with
    | zero => exact absurd hf2 (by omega)
    | succ fu =>
    have hb0 : (ps2 ++ (scanUp less ns2 pv (high - (up + 1)) (up + 1)).2 ++ (scanDn less ns2 pv (dn - 1 - low) (dn - 1)).2).length < 1000000 := by
      have z := congrArg List.length e3
      by_cases hc : (scanDn less ns2 pv (dn - 1 - low) (dn - 1)).1 < (scanUp less ns2 pv (high - (up + 1)) (up + 1)).1
      · rw [seam_stop hc] at z
        simp only [List.length_append] at z ⊢
        omega
      · rw [seam_go rfl rfl hc] at z
        simp only [List.length_append] at z ⊢
        omega
    simp only [List.length_append] at hb0
    have r1 := hR2 _ q1
    have r2 := hR2 _ q2
    k_steps
    refine up_c (at0 := up) (high := high) rfl rfl (by k_asm) (by k_asm) (by k_asm) (by k_asm) (by k_asm) (by k_asm) rfl (hS.mono hR2) O2 I4 (by omega) (S2.b high (by omega) (by omega)) (by omega) (by omega) (by omega) (by ktr_room) ?_
    intro its3 k3 R3 h3 tk3 t3' ti3 tv3 F5 N5 hR3 O3
    have u1 := S2.up
    generalize hi : (scanUp less ns2 pv (high - (up + 1)) (up + 1)).1 = i3 at F5 N5 u1
    have hcj := u1
    have ua := hcj.1
    have ub := hcj.2.1
    clear hcj u1
    have s1 := hR3 _ r1
    have s2 := hR3 _ r2
    have hR33 := fun p hp => hR3 p (hR2 p hp)
    have b6 := hR33 _ q6
    have re3 := O3.re
    have n1 := O3.oe
    have n2 := O3.de
    k_steps
    · with_reducible rename News _ _ _ _ => NT
      exact (NT _ (.tail _ (.tail _ (.tail _ (.tail _ b6))))).1
    with_reducible rename News _ _ _ _ => NT
    have N6 := News.rest NT
    clear NT
    refine bcall_append (its := #[]) (n := j2) (by k_asm) N6 (.tail _ (.tail _ (.tail _ b6))) (by k_upd) (by rw [PySem.sizeLine_eq]; show 0 ≤ _; omega) ?_
    intro h4 F6 N7
    (try dsimp only)
    have N8 : News g' L' h4 ((o, listOf vs2.toArray n) :: (d, listOf its3.toArray k3) :: (e, listOf [.int (ns2.getD i3 0) tv3].toArray (j2 + 1)) :: R3) := N7
    clear N7 N6
    k_steps
    refine dn_c (at0 := dn) (low := low) rfl rfl (by k_asm) (by k_asm) (by k_asm) (by k_asm) (by k_asm) (by k_asm) rfl (hS.mono hR33) O3 I4 (by omega) (S2.a low (by omega) (by omega)) (by omega) (by omega) (by simp only [List.length_append]; omega) (by ktr_room) ?_
    intro its5 k5 R5 h5 tk5 t5' ti5 tv5 F7 N9 hR5 O5
    have d1 := S2.dn
    generalize hv : (scanDn less ns2 pv (dn - 1 - low) (dn - 1)).1 = i5 at F7 N9 d1
    have hcj := d1
    have da := hcj.1
    have db := hcj.2.1
    clear hcj d1
    have w1 := hR5 _ s1
    have w2 := hR5 _ s2
    have hR55 := fun p hp => hR5 p (hR33 p hp)
    have hg5 := hR55 _ hg
    have hpf5 := hR55 _ hpf
    have b7 := hR55 _ q7
    k_steps
    have re5 := O5.re
    with_reducible rename News _ _ _ _ => NT
    have N10 := News.rest NT
    clear NT
    refine bcall_pop (p := []) (y := .int (ns2.getD i3 0) tv3) (n := j2 + 1) (by k_asm) N10 (.tail _ (.tail _ (.tail _ (hR55 _ q7)))) (by k_upd) (by rw [PySem.sizeLine_eq]; show 1 ≤ _; omega) ?_
    intro h6 F8 N11
    (try dsimp only)
    clear N10
    k_steps
    walk1
    all_goals k_steps
    · have hlt : i5 < i3 := by omega
      rw [seam_stop (by rw [hi, hv]; exact hlt)] at e1 e2 e3
      dsimp only at e1 e2 e3
      rw [hi] at e2
      rw [List.append_assoc, e3] at O5
      rw [← e1, ← e2] at ret
      refine hB4 _ ?_
      k_steps
      refine get_c (iN := high - 1) hh1 (by k_asm) (by k_asm) (by k_asm) (by k_asm) (by k_asm) (by k_asm) rfl (q3.mono hR55) I4 (by omega) (by omega) (by ktr_room) ?_
      intro h7 tk7 tv7 F9 N12
      k_steps
      refine get_c (iN := i3) rfl (by k_asm) (by k_asm) (by k_asm) (by k_asm) (by k_asm) (by k_asm) rfl (q3.mono hR55) I4 (by omega) (by omega) (by ktr_room) ?_
      intro h8 tk8 tv8 F10 N13
      k_steps
      with_reducible rename News _ _ _ _ => NT
      have N14 := News.rest NT
      clear NT
      refine put_c (iN := high - 1) hh1 (by k_asm) (by k_asm) (by k_asm) (by k_asm) (by k_asm) (by k_asm) rfl (q4.mono hR55) I4 O5.ro (Ne.symm O5.od) (Ne.symm O5.oe) (by omega) (by omega) (by ktr_room) ?_
      intro vs9 h9 tk9 F11 N15 I9'
      k_steps
      refine put_c (iN := i3) rfl (by k_asm) (by k_asm) (by k_asm) (by k_asm) (by k_asm) (by k_asm) rfl (q4.mono hR55) I9' O5.ro (Ne.symm O5.od) (Ne.symm O5.oe) (by rw [List.length_set]; omega) (by rw [List.length_set]; omega) (by ktr_room) ?_
      intro vs10 h10 tk10 F12 N16 I10'
      k_steps
      exact ret _ _ _ _ _ _ _ _ (by k_asm) (by k_asm) hR55 O5 I10'
    · have hnlt : ¬ i5 < i3 := by omega
      rw [seam_go hi.symm hv.symm hnlt] at e1 e2 e3
      refine put_c (iN := i3) rfl (by k_asm) (by k_asm) (by k_asm) (by k_asm) (by k_asm) (by k_asm) rfl (q4.mono hR55) I4 O5.ro (Ne.symm O5.od) (Ne.symm O5.oe) (by omega) (by omega) (by ktr_room) ?_
      intro vs9 h9 tk9 F11 N15 I9'
      k_steps
      refine put_c (iN := i5) rfl (by k_asm) (by k_asm) (by k_asm) (by k_asm) (by k_asm) (by k_asm) rfl (q4.mono hR55) I9' O5.ro (Ne.symm O5.od) (Ne.symm O5.oe) (by rw [List.length_set]; omega) (by rw [List.length_set]; omega) (by ktr_room) ?_
      intro vs10 h10 tk10 F12 N16 I10'
      k_steps
      refine ih ⟨i3, i5, ti3, ti5, swapL ns2 i3 i5, vs10, its5, k5, R5, _, _, _, _, fu⟩ _ _ _ (Nat.lt_succ_self _) (by k_asm) ⟨by k_asm, I10', hR55, O5, S2.step hi.symm hv.symm hnlt, by rw [swapL_length]; exact hl2, (by show i5 < i3 + fu; omega), e1, e2, by rw [← e3]; simp only [List.append_assoc]⟩ rfl rfl ?_ ?_
      · intro p hp
        simp only [List.mem_cons, List.not_mem_nil, or_false] at hp
        rcases hp with rfl | rfl <;> rfl
      · intro z za zb hz
        simp only [List.forall_mem_cons, List.not_mem_nil, false_implies, implies_true, and_true, ne_eq] at hz za zb
        simp only [hz, za, zb, if_false]
end
-- pure
def stackF (less : Bool) : List (Nat × Nat × Nat) → List Int → List Int × List (Int × Int)
  | [], ns => (ns, [])
  | (l, h, q) :: r, ns => ((stackF less r (sortF less q ns l h).1).1, (sortF less q ns l h).2 ++ (stackF less r (sortF less q ns l h).1).2)
theorem stackF_cons {less : Bool} {l h q : Nat} {r : List (Nat × Nat × Nat)} {ns : List Int} : stackF less ((l, h, q) :: r) ns = ((stackF less r (sortF less q ns l h).1).1, (sortF less q ns l h).2 ++ (stackF less r (sortF less q ns l h).1).2) := rfl
theorem stack_le {less : Bool} {l h q : Nat} {r : List (Nat × Nat × Nat)} {ns : List Int} (e : h ≤ l) : stackF less ((l, h, q + 1) :: r) ns = stackF less r ns := by
  rw [stackF_cons, sortF_le e]; rfl
theorem stack_1 {less : Bool} {l h q : Nat} {r : List (Nat × Nat × Nat)} {ns : List Int} {A : List Int × List (Int × Int)} (e : h = l + 1) (hA : twoF less ns l h = A) : stackF less ((l, h, q + 1) :: r) ns = ((stackF less r A.1).1, A.2 ++ (stackF less r A.1).2) := by
  rw [stackF_cons, sortF_1 e, hA]
theorem stack_2 {less : Bool} {l h q : Nat} {r : List (Nat × Nat × Nat)} {ns : List Int} {A M : List Int × List (Int × Int)} (e : h = l + 2) (hA : twoF less ns l h = A) (hM : midF less A.1 l ((l + h) / 2) h = M) :
    stackF less ((l, h, q + 1) :: r) ns = ((stackF less r M.1).1, A.2 ++ M.2 ++ (stackF less r M.1).2) := by
  rw [stackF_cons, sortF_2 e, hA, hM]
theorem stack_lt {less : Bool} {l h q : Nat} {r : List (Nat × Nat × Nat)} {ns : List Int} {A M : List Int × List (Int × Int)} {P : List Int × Nat × List (Int × Int)} (e : l + 3 ≤ h) (hA : twoF less ns l h = A) (hM : midF less A.1 l ((l + h) / 2) h = M)
    (hP : partF less M.1 l h = P) (hc : P.2.1 - l < h - P.2.1) :
    stackF less ((l, h, q + 1) :: r) ns = ((stackF less ((l, P.2.1 - 1, q) :: (P.2.1 + 1, h, q) :: r) P.1).1, A.2 ++ M.2 ++ P.2.2 ++ (stackF less ((l, P.2.1 - 1, q) :: (P.2.1 + 1, h, q) :: r) P.1).2) := by
  rw [stackF_cons, sortF_lt e hA hM hP hc rfl rfl, stackF_cons, stackF_cons]
  simp only [List.append_assoc]
theorem stack_ge {less : Bool} {l h q : Nat} {r : List (Nat × Nat × Nat)} {ns : List Int} {A M : List Int × List (Int × Int)} {P : List Int × Nat × List (Int × Int)} (e : l + 3 ≤ h) (hA : twoF less ns l h = A) (hM : midF less A.1 l ((l + h) / 2) h = M)
    (hP : partF less M.1 l h = P) (hc : ¬ P.2.1 - l < h - P.2.1) :
    stackF less ((l, h, q + 1) :: r) ns = ((stackF less ((P.2.1 + 1, h, q) :: (l, P.2.1 - 1, q) :: r) P.1).1, A.2 ++ M.2 ++ P.2.2 ++ (stackF less ((P.2.1 + 1, h, q) :: (l, P.2.1 - 1, q) :: r) P.1).2) := by
  rw [stackF_cons, sortF_ge e hA hM hP hc rfl rfl, stackF_cons, stackF_cons]
  simp only [List.append_assoc]
/-- how much work a stack holds -/
def stackM : List (Nat × Nat × Nat) → Nat
  | [] => 0
  | (l, h, _) :: r => 2 * (h + 1 - l) + 1 + stackM r
def stackP (stk : List (Nat × Nat × Nat)) : List (Int × Int) := stk.reverse.map fun e => ((e.1 : Int), (e.2.1 : Int))
theorem stackP_cons (l h q : Nat) (r : List (Nat × Nat × Nat)) : stackP ((l, h, q) :: r) = stackP r ++ [((l : Int), (h : Int))] := by
  simp [stackP]
def StkOk (len : Nat) (stk : List (Nat × Nat × Nat)) : Prop := ∀ e ∈ stk, 1 ≤ e.1 ∧ e.1 ≤ e.2.1 + 1 ∧ e.2.1 < len ∧ e.2.1 < e.1 + e.2.2 ∧ 0 < e.2.2
/-- the trace without the entries that lie at W -/
theorem Tr.offW {h₀ h : Heap} {L W : Addr} {ws : Array Value} {n : Nat} {X R : List (Addr × Obj)} {its : List Value} {ps : List (Int × Int)} (N : News h₀ L h X) (hX : ∀ p ∈ R, p ∈ X) (hW : (W, listOf ws n) ∈ X) (t : Tr R its ps) :
    Tr (R.filter fun p => decide (p.1 ≠ W)) its ps := by
  induction t with
  | nil => exact .nil
  | snoc _ hm ih =>
    refine .snoc ih (List.mem_filter.mpr ⟨hm, ?_⟩)
    simp only [decide_eq_true_eq]
    intro e
    subst e
    have a := (N _ (hX _ hm)).1
    have b := (N _ hW).1
    rw [a] at b
    exact absurd (congrArg (fun o => o.map Obj.cls) b) (by simp)
theorem soL {l h pv q n : Nat} (c1 : 1 ≤ l) (c3 : h < n) (c4 : h < l + (q + 1)) (p2 : l + 1 ≤ pv) (p3 : pv ≤ h - 1) : 1 ≤ l ∧ l ≤ pv - 1 + 1 ∧ pv - 1 < n ∧ pv - 1 < l + q ∧ 0 < q := by lia
theorem soR {l h pv q n : Nat} (c1 : 1 ≤ l) (c3 : h < n) (c4 : h < l + (q + 1)) (p2 : l + 1 ≤ pv) (p3 : pv ≤ h - 1) : 1 ≤ pv + 1 ∧ pv + 1 ≤ h + 1 ∧ h < n ∧ h < pv + 1 + q ∧ 0 < q := by lia
theorem meas_l {l h pv q : Nat} {stk : List (Nat × Nat × Nat)} (p2 : l + 1 ≤ pv) (p3 : pv ≤ h - 1) : stackM ((l, pv - 1, q) :: (pv + 1, h, q) :: stk) < stackM ((l, h, q + 1) :: stk) := by simp only [stackM]; lia
theorem meas_r {l h pv q : Nat} {stk : List (Nat × Nat × Nat)} (p2 : l + 1 ≤ pv) (p3 : pv ≤ h - 1) : stackM ((pv + 1, h, q) :: (l, pv - 1, q) :: stk) < stackM ((l, h, q + 1) :: stk) := by simp only [stackM]; lia
theorem stack_len3 {less : Bool} {l h q : Nat} {r : List (Nat × Nat × Nat)} {ns : List Int} (e : l + 3 ≤ h) :
    (twoF less ns l h).2.length + (midF less (twoF less ns l h).1 l ((l + h) / 2) h).2.length + (partF less (midF less (twoF less ns l h).1 l ((l + h) / 2) h).1 l h).2.2.length ≤ (stackF less ((l, h, q + 1) :: r) ns).2.length := by
  by_cases hc : (partF less (midF less (twoF less ns l h).1 l ((l + h) / 2) h).1 l h).2.1 - l < h - (partF less (midF less (twoF less ns l h).1 l ((l + h) / 2) h).1 l h).2.1
  · rw [stack_lt e rfl rfl rfl hc]; simp only [List.length_append]; exact Nat.le_add_right _ _
  · rw [stack_ge e rfl rfl rfl hc]; simp only [List.length_append]; exact Nat.le_add_right _ _
theorem stack_len2 {less : Bool} {l h q : Nat} {r : List (Nat × Nat × Nat)} {ns : List Int} (e : l + 2 ≤ h) : 2 ≤ (stackF less ((l, h, q + 1) :: r) ns).2.length := by
  have a : (twoF less ns l h).2.length = 1 := rfl
  have b := midF_pos less (twoF less ns l h).1 l ((l + h) / 2) h
  by_cases c : h = l + 2
  · rw [stack_2 c rfl rfl]; simp only [List.length_append]; lia
  · have := stack_len3 (less := less) (q := q) (r := r) (ns := ns) (l := l) (h := h) (by lia)
    lia
theorem lenA {α : Type} {ps S : List α} (e : (ps ++ S).length < 1000000) : ps.length < 1000000 := by rw [List.length_append] at e; lia
theorem lenB {α : Type} {ps A S : List α} (a : A.length = 1) (h : 2 ≤ S.length) (e : (ps ++ S).length < 1000000) : (ps ++ A).length + 1 < 1000000 := by rw [List.length_append] at *; lia
theorem lenC {α : Type} {ps A M P S : List α} (h : A.length + M.length + P.length ≤ S.length) (e : (ps ++ S).length < 1000000) : (ps ++ A ++ M).length + P.length < 1000000 := by simp only [List.length_append] at *; lia
theorem offNews {h₀ h : Heap} {L W : Addr} {ob : Obj} {a b c : Addr × Obj} {R : List (Addr × Obj)} (N : News h₀ L h (a :: b :: c :: R)) (hW : (W, ob) ∈ R) : News h₀ L h (a :: b :: c :: (W, ob) :: R.filter fun p => decide (p.1 ≠ W)) := fun p hp => N p (by
  simp only [List.mem_cons] at hp ⊢
  rcases hp with h | h | h | h | h
  · exact .inl h
  · exact .inr (.inl h)
  · exact .inr (.inr (.inl h))
  · exact .inr (.inr (.inr (h ▸ hW)))
  · exact .inr (.inr (.inr (List.mem_filter.mp h).1)))
theorem offOk {h₀ h : Heap} {L W o d e : Addr} {ws : Array Value} {n : Nat} {a b c : Addr × Obj} {R : List (Addr × Obj)} {its : List Value} {ps : List (Int × Int)} (N : News h₀ L h (a :: b :: c :: R)) (hW : (W, listOf ws n) ∈ R) (O : Ok R o d e its ps) :
    Ok (R.filter fun p => decide (p.1 ≠ W)) o d e its ps :=
  ⟨fun p hp => O.ro p (List.mem_filter.mp hp).1, fun p hp => O.rd p (List.mem_filter.mp hp).1, fun p hp => O.re p (List.mem_filter.mp hp).1, O.od, O.oe, O.de, O.tr.offW N (fun p hp => .tail _ (.tail _ (.tail _ hp))) (.tail _ (.tail _ (.tail _ hW)))⟩
theorem offSub {W : Addr} {R2 R : List (Addr × Obj)} (h : ∀ p ∈ R2, p ∈ R) (hW : ∀ p ∈ R2, p.1 ≠ W) : ∀ p ∈ R2, p ∈ R.filter fun p => decide (p.1 ≠ W) := fun p hp => List.mem_filter.mpr ⟨h p hp, by simpa using hW p hp⟩
theorem offNe {W : Addr} {R : List (Addr × Obj)} : ∀ p ∈ R.filter fun p => decide (p.1 ≠ W), p.1 ≠ W := fun p hp => by
  have := (List.mem_filter.mp hp).2
  simpa using this
section
open PySem.Calls
theorem len_at {prog : Program} {w : World} {A : Around} {E : Value → Shared → Prop} {s : Shared} {h₀ : Heap} {L W : Addr} {ws : List Value} {nw k : Nat} {news : List (Addr × Obj)} {Q : Value → Shared → Prop} (N : News h₀ L s.heap news) (hm : (W, listOf ws.toArray nw) ∈ news) (hk : ws.length = k) (hl : k < 1000)
    (h : Q (.int (k : Nat) (s.toks + 1)) { s with toks := s.toks + 1 + 1 }) : wpAny (model prog w) A (call (.builtin "len") [.ref W]) Q E s := by
  subst hk
  refine call_len_list (News.isList N hm) ?_ ?_
  · rw [List.size_toArray]; omega
  · rw [List.size_toArray]; exact h
end
theorem newsP {h₀ h : Heap} {L : Addr} {q t1 t2 a b c v : Addr × Obj} {R : List (Addr × Obj)} (N : News h₀ L h (q :: t2 :: t1 :: a :: b :: c :: v :: R)) : News h₀ L h (a :: b :: c :: v :: t1 :: t2 :: R) := fun p hp => N p (by
  simp only [List.mem_cons] at hp ⊢
  rcases hp with h | h | h | h | h | h | h
  · exact .inr (.inr (.inr (.inl h)))
  · exact .inr (.inr (.inr (.inr (.inl h))))
  · exact .inr (.inr (.inr (.inr (.inr (.inl h)))))
  · exact .inr (.inr (.inr (.inr (.inr (.inr (.inl h))))))
  · exact .inr (.inr (.inl h))
  · exact .inr (.inl h)
  · exact .inr (.inr (.inr (.inr (.inr (.inr (.inr h)))))))
theorem not_long {b : Bool} {n : Nat} (h : n < 1000) : ¬(b && Builtin.List.listTooLong n) = true := by
  unfold Builtin.List.listTooLong
  rw [show decide (n > sizeLine) = false from decide_eq_false (by rw [PySem.sizeLine_eq]; omega), Bool.and_false]
  exact Bool.false_ne_true
theorem stackM_length : ∀ stk : List (Nat × Nat × Nat), stk.length ≤ stackM stk
  | [] => Nat.le_refl _
  | (l, h, q) :: r => by
    have := stackM_length r
    simp only [List.length_cons, stackM]
    omega
theorem stackP_length (stk : List (Nat × Nat × Nat)) : (stackP stk).length = stk.length := by simp [stackP]
structure WS where
  vl : Value
  vh : Value
  se : Option Value
  pc : Option Value
  ns : List Int
  vs : List Value
  its : List Value
  k : Nat
  R : List (Addr × Obj)
  ps : List (Int × Int)
  j : Nat
  ws : List Value
  nw : Nat
  stk : List (Nat × Nat × Nat)
theorem Ok.more {R : List (Addr × Obj)} {o d e t : Addr} {ob : Obj} {its : List Value} {ps : List (Int × Int)} (O : Ok R o d e its ps) (l1 : t ≠ o) (l2 : t ≠ d) (l3 : t ≠ e) : Ok ((t, ob) :: R) o d e its ps :=
  ⟨ro_cons l1 O.ro, ro_cons l2 O.rd, ro_cons l3 O.re, O.od, O.oe, O.de, O.tr.mono fun p hp => .tail _ hp⟩
theorem newsW {h₀ h : Heap} {L : Addr} {q t a b c : Addr × Obj} {R : List (Addr × Obj)} (N : News h₀ L h (q :: t :: a :: b :: c :: R)) : News h₀ L h (a :: b :: c :: q :: t :: R) := fun p hp => N p (by
  simp only [List.mem_cons] at hp ⊢
  rcases hp with h | h | h | h | h | h
  · exact .inr (.inr (.inl h))
  · exact .inr (.inr (.inr (.inl h)))
  · exact .inr (.inr (.inr (.inr (.inl h))))
  · exact .inl h
  · exact .inr (.inl h)
  · exact .inr (.inr (.inr (.inr (.inr h)))))
theorem Tr.nil_inv {R : List (Addr × Obj)} {its : List Value} (t : Tr R its []) : its = [] := List.length_eq_zero_iff.mp (by rw [t.length]; rfl)
theorem Tr.snoc_inv {R : List (Addr × Obj)} {its : List Value} {ps : List (Int × Int)} {x y : Int} (t : Tr R its (ps ++ [(x, y)])) :
    ∃ its' u tx ty, its = its' ++ [.ref u] ∧ Tr R its' ps ∧ (u, ({ cls := .type "tuple", data := .seq #[.int x tx, .int y ty] } : Obj)) ∈ R := by
  generalize hq : ps ++ [(x, y)] = qs at t
  cases t with
  | nil => exact absurd (congrArg List.length hq) (by simp)
  | snoc t hm =>
    obtain ⟨rfl, e⟩ := List.append_inj' hq rfl
    cases e
    exact ⟨_, _, _, _, rfl, t, hm⟩
section
variable {w : World} {dp un : Nat} {gd : Option (List Code)} {cn : Str} {cs : Scope} {a : Addr} {ccd : Value} {cl : List (Str × Addr)} {outer : List Env} {A₀ : Around} {base h₀ : Heap} {L : Addr} {m : Str → Option Value} {s : Shared}
    {loose : List Str} {mean : ExcName → Option Value} {mg mb : Str → Option Value} {Q E : Value → Shared → Prop}
    {o d e f : Addr} {vs its hs : List Value} {ns : List Int} {n k j : Nat} {R : List (Addr × Obj)} {ps : List (Int × Int)} {less : Bool}

theorem sort_m {x : Addr} {low high q : Nat} {i i' : Int} {tl th : Tok} (hlo : i = low) (hhi : i' = high) (hnil : hs = []) (B : Below A₀ base outer h₀) (F : Fr h₀ L s.heap m) (X : (Mine.hd.heap_39 w.params).In h₀) (N : News h₀ L s.heap ((o, listOf vs.toArray n) :: (d, listOf its.toArray k) :: (e, listOf hs.toArray j) :: R)) (T : Top topProg loose mean mg mb h₀) (C : CodeHd base 131 127) (hk : cs.kind = .function)
    (hS : QIn w.params R x o d e less) (O : Ok R o d e its ps) (hI : IntsAre vs ns) (hn : ns.length < 100) (h1 : 1 ≤ low) (h2 : low ≤ high) (h3 : high < ns.length) (hq : high < low + q) (hp : ps.length + (sortF less q ns low high).2.length < 1000000) (hd : dp < 700)
    (ret : ∀ vs' its' k' R' h' tk' j', Fr h₀ L h' m → News h₀ L h' ((o, listOf vs'.toArray n) :: (d, listOf its'.toArray k') :: (e, listOf hs.toArray j') :: R') → (∀ p ∈ R, p ∈ R') → Ok R' o d e its' (ps ++ (sortF less q ns low high).2) →
      IntsAre vs' (sortF less q ns low high).1 → Q .none { s with heap := h', toks := tk' }) :
    codeAny (model PySem.Challenge.rw_rh0156_01.row.prog w) (ktrTop dp un gd cn cs L a ccd cl outer) (.call (.ref 90) ⟨[.ref x, .int i tl, .int i' th], []⟩) (fun r s' => match r with | .ok (.ret v) => Q v s' | .ok _ => False | .error e => E e s') s := by
  w_on
  subst hlo hhi hnil
  obtain ⟨dx, g, pp, f, a, b, u, t1, t2, t3, t4, t5, t6, hq⟩ := hS.out
  have q1 := hq.1
  have q2 := hq.2.1
  have q3 := hq.2.2.1
  have q4 := hq.2.2.2.1
  have q5 := hq.2.2.2.2.1
  have q6 := hq.2.2.2.2.2.1
  have q7 := hq.2.2.2.2.2.2
  clear hq
  k_dflt (refine' code_def ?k1 ?k2 ?k3 ?k4 ?k5 ?kA ?kF ?kK ?k6 ?k7 ?k8 ?k9 ?kB ?_ ?c2 ?c3 ?c4 ?c5; (case kA => exact rfl); (case kF => exact rfl); (case kK => assumption); (case k1 => k_asm); (case k2 => k_asm); (case k3 => k_asm); (case k4 => k_asm); (case k5 => k_asm); (case k6 => k_is); (case k7 => k_is); (case k8 => ktr_room); (case k9 => exact BindsTo.of_eq rfl); (case c5 => decide); (case kB => exact locs rfl); (case c2 => exact rfl); (case c3 => exact rfl); (case c4 => exact rfl); k_whole; intro g' L' h' FG' F' N' B' X' T'; (try dsimp only); (try k_fold))
  refine wpAny_noRaise ?_
  k_steps
  have ro := O.ro
  have rd := O.rd
  have re := O.re
  have n1 := O.od
  have n2 := O.oe
  have n3 := O.de
  with_reducible rename News _ _ _ _ => NT
  have N1 := newsW NT
  clear NT
  with_reducible rename Fr _ _ _ _ => F1
  rename_i D1 hD1 lA W hW lC hF
  have ne1 : W ≠ o := Nat.ne_of_gt lC.2.1
  have ne2 : W ≠ d := Nat.ne_of_gt lC.2.2.1
  have ne3 : W ≠ e := Nat.ne_of_gt lC.2.2.2.1
  have ne4 : D1 ≠ W := Nat.ne_of_lt lC.1
  have nf1 : o ≠ W := Ne.symm ne1
  have nf2 : d ≠ W := Ne.symm ne2
  have nf3 : e ≠ W := Ne.symm ne3
  have rW : ∀ p ∈ R, p.1 ≠ W := ne_of_allLt lC.2.2.2.2
  have O1 : Ok ((D1, ({ cls := .type "tuple", data := .seq #[.int (low : Int) tl, .int (high : Int) th] } : Obj)) :: R) o d e its ps := O.more (Nat.ne_of_gt lA.1) (Nat.ne_of_gt lA.2.1) (Nat.ne_of_gt lA.2.2.1)
  clear lA lC
  refine' wh_fk (σ := WS) (Str.ofString "seam") (Str.ofString "pieces") (fun c => c.se) (fun c => c.pc) (fun c => [(Str.ofString "low", c.vl), (Str.ofString "high", c.vh)])
    (fun c h => News g' L' h ((o, listOf c.vs.toArray n) :: (d, listOf c.its.toArray c.k) :: (e, listOf [].toArray c.j) :: ((W, listOf c.ws.toArray c.nw) :: c.R)) ∧ IntsAre c.vs c.ns ∧ (∀ p ∈ R, p ∈ c.R) ∧ (∀ p ∈ c.R, p.1 ≠ W) ∧ Ok c.R o d e c.its c.ps ∧ Tr c.R c.ws (stackP c.stk) ∧ StkOk ns.length c.stk ∧ c.ns.length = ns.length ∧ stackM c.stk ≤ 300 ∧
      (stackF less c.stk c.ns).1 = (sortF less q ns low high).1 ∧ c.ps ++ (stackF less c.stk c.ns).2 = ps ++ (sortF less q ns low high).2)
    (fun c => stackM c.stk) F1 ?turn ⟨_, _, none, none, ns, vs, its, k, _, ps, j, [.ref D1], 0, [(low, high, q)]⟩ rfl rfl ?hk0 ⟨N1, hI, fun _ hp => .tail _ hp, ro_cons ne4 rW, O1, .snoc .nil (.head _), ?so, rfl, ?s0, ?s1, ?s2⟩
  case hk0 =>
    intro p hp
    simp only [List.mem_cons, List.not_mem_nil, or_false] at hp
    rcases hp with rfl | rfl <;> rfl
  case so =>
    intro z hz
    simp only [List.mem_cons, List.not_mem_nil, or_false] at hz
    subst hz
    dsimp only
    omega
  case s0 => show 2 * (high + 1 - low) + 1 + 0 ≤ 300; omega
  case s1 => rfl
  case s2 => show ps ++ _ = _; simp [stackF]
  case turn =>
    rintro ⟨vl, vh, se, pc, ns2, vs2, its2, k2, R2, ps2, j2, ws, nw, stk⟩ h2 tk2 K2 Z2 hB2 hZ2 F2 hJ ih
    have N2 := hJ.1
    have I2 := hJ.2.1
    have hR2 := hJ.2.2.1
    have hW2 := hJ.2.2.2.1
    have O2 := hJ.2.2.2.2.1
    have tr2 := hJ.2.2.2.2.2.1
    have so2 := hJ.2.2.2.2.2.2.1
    have hl2 := hJ.2.2.2.2.2.2.2.1
    have hm2 := hJ.2.2.2.2.2.2.2.2.1
    have e1 := hJ.2.2.2.2.2.2.2.2.2.1
    have e2 := hJ.2.2.2.2.2.2.2.2.2.2
    clear hJ
    dsimp only [kstB] at F2 N2 I2 hR2 hW2 O2 tr2 so2 hl2 hm2 e1 e2 ih
    have r1 := hR2 _ q1
    have r2 := hR2 _ q2
    cases stk with
    | nil =>
      obtain rfl := Tr.nil_inv tr2
      have e1' : ns2 = (sortF less q ns low high).1 := e1
      have e2' : ps2 = ps ++ (sortF less q ns low high).2 := by rw [← e2]; simp [stackF]
      rw [e2'] at O2
      rw [e1'] at I2
      k_steps
      refine hZ2 _ ?_
      k_steps
      with_reducible rename News _ _ _ _ => kN
      refine ret vs2 its2 k2 R2 _ _ j2 (by k_asm) (fun p hp => kN p ?_) hR2 O2 I2
      simp only [List.mem_cons] at hp ⊢
      rcases hp with h | h | h | h
      · exact .inl h
      · exact .inr (.inl h)
      · exact .inr (.inr (.inl h))
      · exact .inr (.inr (.inr (.inr h)))
    | cons en stk =>
      obtain ⟨l, h, q'⟩ := en
      rw [stackP_cons] at tr2
      obtain ⟨ws', t, tx, ty, rfl, tr3, ht⟩ := tr2.snoc_inv
      have hws := tr3.length
      rw [stackP_length] at hws
      have hstk := stackM_length stk
      have hm3 : 2 * (h + 1 - l) + 1 + stackM stk ≤ 300 := hm2
      have hws2 : ws'.length ≤ 300 := by omega
      have so3 : (1 ≤ l ∧ l ≤ h + 1 ∧ h < ns.length ∧ h < l + q' ∧ 0 < q') := so2 _ (.head _)
      have so4 : StkOk ns.length stk := fun z hz => so2 z (.tail _ hz)
      have hcj := so3
      have c1 := hcj.1
      have c2 := hcj.2.1
      have c3 := hcj.2.2.1
      have c4 := hcj.2.2.2.1
      have c5 := hcj.2.2.2.2
      clear hcj so3
      obtain ⟨q'', rfl⟩ : ∃ q'', q' = q'' + 1 := ⟨q' - 1, by omega⟩
      k_steps
      refine len_at (k := ws'.length + 1) N2 (.tail _ (.tail _ (.tail _ (.head _)))) (by simp) (by omega) ?_
      k_steps
      refine WhlIf.yes (by rw [decide_eq_true_eq]; omega) ?_
      k_steps
      refine' kl_pop (p := ws') (y := .ref t) F2 N2 ?ke ?kU ?kz ?_
      case ke => rw [List.toList_toArray]; exact kpa_last _ _
      case kU => k_upd
      case kz => rw [PySem.sizeLine_eq, List.toList_toArray, List.length_append]; show _ + 1 ≤ _; omega
      intro h5 F5 N5
      (try dsimp only)
      clear N2
      k_steps
      have hS2 : QIn w.params ((W, listOf ws'.toArray (nw + 1)) :: R2) x o d e less := hS.mono fun p hp => .tail _ (hR2 p hp)
      have O2' : Ok ((W, listOf ws'.toArray (nw + 1)) :: R2) o d e its2 ps2 := O2.more ne1 ne2 ne3
      have hm4 : stackM stk ≤ 300 := by omega
      have hmea : stackM stk < stackM ((l, h, q'' + 1) :: stk) := by show stackM stk < 2 * (h + 1 - l) + 1 + stackM stk; omega
      by_cases cA : h ≤ l
      · rw [stack_le cA] at e1 e2
        walk1
        k_steps
        walk1
        k_steps
        walk1
        k_steps
        refine ih ⟨.int (l : Int) tx, .int (h : Int) ty, se, pc, ns2, vs2, its2, k2, R2, ps2, j2, ws', nw + 1, stk⟩ _ _ _ hmea (by k_asm) ⟨by k_asm, I2, hR2, hW2, O2, tr3, so4, hl2, hm4, e1, e2⟩ rfl rfl ?_ ?_
        · intro p hp
          simp only [List.mem_cons, List.not_mem_nil, or_false] at hp
          rcases hp with rfl | rfl <;> rfl
        · intro z za zb hz
          simp only [List.forall_mem_cons, List.not_mem_nil, false_implies, implies_true, and_true, ne_eq] at hz za zb
          simp only [hz, za, zb, if_false]
      have hlA := twoF_length less ns2 l h
      have hlt : (ps2 ++ (stackF less ((l, h, q'' + 1) :: stk) ns2).2).length < 1000000 := by rw [e2, List.length_append]; exact hp
      have L1 : l < ns2.length := by omega
      have L2 : h < ns2.length := hl2 ▸ c3
      have L3 : ns2.length < 100 := hl2 ▸ hn
      have L4 : (l + h) / 2 < ns2.length := by omega
      have hmid : ((l : Int) + (h : Int)).fdiv 2 = (((l + h) / 2 : Nat) : Int) := by
        rw [Int.fdiv_eq_ediv_of_nonneg _ (by omega)]; omega
      walk1
      k_steps
      refine two_c (less := less) (low := l) (high := h) rfl rfl (by k_asm) (by k_asm) (by k_asm) (by k_asm) (by k_asm) (by k_asm) rfl hS2 O2' I2 L1 L2 L3 (lenA hlt) (by ktr_room) ?_
      intro vs3 its3 k3 R3 h6 tk6 F6 N6 hR3 O3 I3
      have hWm3 : (W, listOf ws'.toArray (nw + 1)) ∈ R3 := hR3 _ (.head _)
      have hR3' : ∀ p ∈ R2, p ∈ R3 := fun p hp => hR3 p (.tail _ hp)
      have s1 := hR3' _ r1
      have s2 := hR3' _ r2
      k_steps
      by_cases cB : h = l + 1
      · rw [stack_1 cB rfl] at e1 e2
        walk1
        k_steps
        walk1
        k_steps
        refine ih ⟨.int (l : Int) tx, .int (h : Int) ty, se, pc, (twoF less ns2 l h).1, vs3, its3, k3, R3.filter fun p => decide (p.1 ≠ W), ps2 ++ (twoF less ns2 l h).2, j2, ws', nw + 1, stk⟩ _ _ _ hmea (by k_asm)
          ⟨offNews N6 hWm3, I3, fun p hp => offSub hR3' hW2 p (hR2 p hp), offNe, offOk N6 hWm3 O3, tr3.mono (offSub hR3' hW2), so4, hlA.trans hl2, hm4, e1, by rw [List.append_assoc]; exact e2⟩ rfl rfl ?_ ?_
        · intro p hp
          simp only [List.mem_cons, List.not_mem_nil, or_false] at hp
          rcases hp with rfl | rfl <;> rfl
        · intro z za zb hz
          simp only [List.forall_mem_cons, List.not_mem_nil, false_implies, implies_true, and_true, ne_eq] at hz za zb
          simp only [hz, za, zb, if_false]
      have oA := two_ord (less := less) (ns := ns2) (low := l) (high := h) (by omega) L2
      have hcj := mid_ord (less := less) (ns := (twoF less ns2 l h).1) (low := l) (mid := (l + h) / 2) (high := h) (by omega) (by omega) (hlA ▸ L2) oA
      have o1 := hcj.1
      have o2 := hcj.2
      clear hcj
      have hlM := midF_length less (twoF less ns2 l h).1 l ((l + h) / 2) h
      walk1
      k_steps
      refine mid_c (less := less) (low := l) (mid := (l + h) / 2) (high := h) rfl hmid rfl (by k_asm) (by k_asm) (by k_asm) (by k_asm) (by k_asm) (by k_asm) rfl (hS.mono fun p hp => hR3' p (hR2 p hp)) O3 I3 (hlA ▸ L1) (hlA ▸ L2) (hlA ▸ L4) (hlA ▸ L3) (lenB rfl (stack_len2 (by omega)) hlt) (by ktr_room) ?_
      intro vs4 its4 k4 R4 h7 tk7 F7 N7 hR4 O4 I4
      have hWm4 := hR4 _ hWm3
      have hR4' : ∀ p ∈ R2, p ∈ R4 := fun p hp => hR4 p (hR3' p hp)
      have u1 := hR4 _ s1
      have u2 := hR4 _ s2
      clear N6 F6
      k_steps
      by_cases cC : h = l + 2
      · rw [stack_2 cC rfl rfl] at e1 e2
        walk1
        k_steps
        refine ih ⟨.int (l : Int) tx, .int (h : Int) ty, se, pc, (midF less (twoF less ns2 l h).1 l ((l + h) / 2) h).1, vs4, its4, k4, R4.filter fun p => decide (p.1 ≠ W), ps2 ++ (twoF less ns2 l h).2 ++ (midF less (twoF less ns2 l h).1 l ((l + h) / 2) h).2, j2, ws', nw + 1, stk⟩ _ _ _ hmea (by k_asm)
          ⟨offNews N7 hWm4, I4, fun p hp => offSub hR4' hW2 p (hR2 p hp), offNe, offOk N7 hWm4 O4, tr3.mono (offSub hR4' hW2), so4, hlM.trans (hlA.trans hl2), hm4, e1, by rw [← e2]; simp only [List.append_assoc]⟩ rfl rfl ?_ ?_
        · intro p hp
          simp only [List.mem_cons, List.not_mem_nil, or_false] at hp
          rcases hp with rfl | rfl <;> rfl
        · intro z za zb hz
          simp only [List.forall_mem_cons, List.not_mem_nil, false_implies, implies_true, and_true, ne_eq] at hz za zb
          simp only [hz, za, zb, if_false]
      have hD : l + 3 ≤ h := by omega
      have S3 := seam_start (less := less) (ns := (midF less (twoF less ns2 l h).1 l ((l + h) / 2) h).1) (low := l) (high := h) (mid := (l + h) / 2) rfl hD (hlM ▸ hlA ▸ L2) o1 o2
      have hcj := part_spec (less := less) (ns := (midF less (twoF less ns2 l h).1 l ((l + h) / 2) h).1) hD (hlM ▸ hlA ▸ L2) S3
      have p1 := hcj.1
      have p2 := hcj.2.1
      have p3 := hcj.2.2.1
      clear hcj
      have hpM := lenC (stack_len3 (less := less) (q := q'') (r := stk) (ns := ns2) hD) hlt
      walk1
      k_steps
      refine part_c (less := less) (low := l) (high := h) rfl rfl rfl (by k_asm) (by k_asm) (by k_asm) (by k_asm) (by k_asm) (by k_asm) rfl (hS.mono fun p hp => hR4' p (hR2 p hp)) O4 I4 (hlM ▸ hlA ▸ L3) hpM (by ktr_room) S3 (by omega) ?_
      intro vs5 its5 k5 R5 h8 tk8 j5 tk9 F8 N8 hR5 O5 I5
      have N9 := offNews N8 (hR5 _ hWm4)
      have hR5' : ∀ p ∈ R2, p ∈ R5 := fun p hp => hR5 p (hR4' p hp)
      have O6 := offOk N8 (hR5 _ hWm4) O5
      have tr6 := tr3.mono (offSub hR5' hW2)
      have rW6 : ∀ p ∈ R5.filter fun p => decide (p.1 ≠ W), p.1 ≠ W := offNe
      have hR6 : ∀ p ∈ R, p ∈ R5.filter fun p => decide (p.1 ≠ W) := fun p hp => offSub hR5' hW2 p (hR2 p hp)
      clear N8 N7 F7
      generalize (R5.filter fun p => decide (p.1 ≠ W)) = R6 at *
      generalize hPP : partF less (midF less (twoF less ns2 l h).1 l ((l + h) / 2) h).1 l h = P at *
      obtain ⟨ns5, pv, tr5⟩ := P
      dsimp only at *
      k_steps
      with_reducible rename Fr _ _ _ _ => F9
      with_reducible rename News _ _ _ _ => N10
      rename_i hx tkx T1 hT1 lT1 T2 hT2 lT2 PL hPL lPL hF9
      have hpv : (pv : Int) - 1 = ((pv - 1 : Nat) : Int) := by omega
      rw [hpv] at N10
      have a1 : T1 ≠ o := Nat.ne_of_gt lT1.1
      have a2 : T1 ≠ d := Nat.ne_of_gt lT1.2.1
      have a3 : T1 ≠ e := Nat.ne_of_gt lT1.2.2.1
      have a4 : T1 ≠ W := Nat.ne_of_gt lT1.2.2.2.1
      have b1 : T2 ≠ o := Nat.ne_of_gt lT2.2.1
      have b2 : T2 ≠ d := Nat.ne_of_gt lT2.2.2.1
      have b3 : T2 ≠ e := Nat.ne_of_gt lT2.2.2.2.1
      have b4 : T2 ≠ W := Nat.ne_of_gt lT2.2.2.2.2.1
      have hlP := p1.len
      by_cases hc : pv - l < h - pv
      · rw [stack_lt hD rfl rfl hPP hc] at e1 e2
        dsimp only at e1 e2
        walk1
        k_steps
        with_reducible rename Fr _ _ _ _ => F11
        with_reducible rename News _ _ _ _ => N11
        refine' kl_extend (l := ws' ++ [.ref T1, .ref T2]) F11 N11 ?kb ?ke ?kn ?kU ?kd ?kz ?ky ?_
        case kb => exact .head _
        case ke => rfl
        case kn => exact Nat.succ_ne_zero _
        case kU => k_upd
        case kd => exact not_long (by rw [List.size_toArray]; show _ + 2 < _; omega)
        case kz => rw [PySem.sizeLine_eq, List.toList_toArray]; omega
        case ky => rw [PySem.sizeLine_eq, List.size_toArray]; show _ + 2 ≤ _; omega
        intro h9 F12 N12
        (try dsimp only)
        k_steps
        refine ih ⟨.int (l : Int) tx, .int (h : Int) ty, some (.int (pv : Int) tk9), some (.ref PL), ns5, vs5, its5, k5, _ :: _ :: R6, ps2 ++ (twoF less ns2 l h).2 ++ (midF less (twoF less ns2 l h).1 l ((l + h) / 2) h).2 ++ tr5, j5, ws' ++ [.ref T1, .ref T2], nw + 1 + 1, (l, pv - 1, q'') :: (pv + 1, h, q'') :: stk⟩ _ _ _ (meas_l p2 p3) (by k_asm)
          ⟨newsP N12, I5, fun p hp => .tail _ (.tail _ (hR6 p hp)), ro_cons a4 (ro_cons b4 rW6), (O6.more b1 b2 b3).more a1 a2 a3, ?tr, ?so, (hlP.trans (hlM.trans (hlA.trans hl2))), Nat.le_of_lt (Nat.lt_of_lt_of_le (meas_l p2 p3) hm2), e1, by rw [← e2]; simp only [List.append_assoc]⟩ rfl rfl ?_ ?_
        case tr =>
          show Tr _ (ws' ++ [.ref T1, .ref T2]) (stackP ((l, pv - 1, q'') :: (pv + 1, h, q'') :: stk))
          rw [stackP_cons, stackP_cons, show ws' ++ [Value.ref T1, Value.ref T2] = ws' ++ [Value.ref T1] ++ [Value.ref T2] by simp]
          exact .snoc (.snoc (tr6.mono fun p hp => .tail _ (.tail _ hp)) (.head _)) (.tail _ (.head _))
        case so =>
          intro z hz
          simp only [List.mem_cons] at hz
          rcases hz with rfl | rfl | hz
          · exact soL c1 c3 c4 p2 p3
          · exact soR c1 c3 c4 p2 p3
          · exact so4 z hz
        · intro p hp
          simp only [List.mem_cons, List.not_mem_nil, or_false] at hp
          rcases hp with rfl | rfl <;> rfl
        · intro z za zb hz
          simp only [List.forall_mem_cons, List.not_mem_nil, false_implies, implies_true, and_true, ne_eq] at hz za zb
          simp only [hz, za, zb, if_false]
      · rw [stack_ge hD rfl rfl hPP hc] at e1 e2
        dsimp only at e1 e2
        walk1
        k_steps
        with_reducible rename Fr _ _ _ _ => F11
        with_reducible rename News _ _ _ _ => N11
        refine' kl_extend (l := ws' ++ [.ref T2, .ref T1]) F11 N11 ?kb ?ke ?kn ?kU ?kd ?kz ?ky ?_
        case kb => exact .head _
        case ke => rfl
        case kn => exact Nat.succ_ne_zero _
        case kU => k_upd
        case kd => exact not_long (by rw [List.size_toArray]; show _ + 2 < _; omega)
        case kz => rw [PySem.sizeLine_eq, List.toList_toArray]; omega
        case ky => rw [PySem.sizeLine_eq, List.size_toArray]; show _ + 2 ≤ _; omega
        intro h9 F12 N12
        (try dsimp only)
        k_steps
        refine ih ⟨.int (l : Int) tx, .int (h : Int) ty, some (.int (pv : Int) tk9), some (.ref PL), ns5, vs5, its5, k5, _ :: _ :: R6, ps2 ++ (twoF less ns2 l h).2 ++ (midF less (twoF less ns2 l h).1 l ((l + h) / 2) h).2 ++ tr5, j5, ws' ++ [.ref T2, .ref T1], nw + 1 + 1, (pv + 1, h, q'') :: (l, pv - 1, q'') :: stk⟩ _ _ _ (meas_r p2 p3) (by k_asm)
          ⟨newsP N12, I5, fun p hp => .tail _ (.tail _ (hR6 p hp)), ro_cons a4 (ro_cons b4 rW6), (O6.more b1 b2 b3).more a1 a2 a3, ?tr, ?so, (hlP.trans (hlM.trans (hlA.trans hl2))), Nat.le_of_lt (Nat.lt_of_lt_of_le (meas_r p2 p3) hm2), e1, by rw [← e2]; simp only [List.append_assoc]⟩ rfl rfl ?_ ?_
        case tr =>
          show Tr _ (ws' ++ [.ref T2, .ref T1]) (stackP ((pv + 1, h, q'') :: (l, pv - 1, q'') :: stk))
          rw [stackP_cons, stackP_cons, show ws' ++ [Value.ref T2, Value.ref T1] = ws' ++ [Value.ref T2] ++ [Value.ref T1] by simp]
          exact .snoc (.snoc (tr6.mono fun p hp => .tail _ (.tail _ hp)) (.tail _ (.head _))) (.head _)
        case so =>
          intro z hz
          simp only [List.mem_cons] at hz
          rcases hz with rfl | rfl | hz
          · exact soR c1 c3 c4 p2 p3
          · exact soL c1 c3 c4 p2 p3
          · exact so4 z hz
        · intro p hp
          simp only [List.mem_cons, List.not_mem_nil, or_false] at hp
          rcases hp with rfl | rfl <;> rfl
        · intro z za zb hz
          simp only [List.forall_mem_cons, List.not_mem_nil, false_implies, implies_true, and_true, ne_eq] at hz za zb
          simp only [hz, za, zb, if_false]
end
-- pure
theorem datAll_snoc {R : List (Addr × Obj)} {v : Value} {d : Dat} (hv : DatIn R v d) : ∀ {vs : List Value} {ds : List Dat}, DatAll R vs ds → DatAll R (vs ++ [v]) (ds ++ [d]) := by
  intro vs
  induction vs with
  | nil => intro ds h; cases h; exact .cons hv .nil
  | cons a r ih =>
    intro ds h
    cases h with
    | cons h1 h2 => exact .cons h1 (ih h2)
abbrev datP (p : Int × Int) : Dat := .tuple [.int p.1, .int p.2]
theorem Tr.dat {R : List (Addr × Obj)} {its : List Value} {ps : List (Int × Int)} (t : Tr R its ps) : DatAll R its (ps.map datP) := by
  induction t with
  | nil => exact .nil
  | snoc _ hm ih =>
    rw [List.map_append]
    exact datAll_snoc (.tuple (vs := [_, _]) hm (.cons (.int _ _) (.cons (.int _ _) .nil))) ih
theorem dat_ok (ps : List (Int × Int)) : ∀ d ∈ ps.map datP, kqdOk 8 d = true := by
  intro d hd
  obtain ⟨x, _, hx⟩ := List.mem_map.mp hd
  subst hx
  rfl
theorem ord_uniq {b : Bool} {xs ys : List Int} (p : xs.Perm ys) (h1 : xs.Pairwise (fun x y => if b then y ≤ x else x ≤ y)) (h2 : ys.Pairwise (fun x y => if b then y ≤ x else x ≤ y)) : xs = ys := by
  refine p.eq_of_pairwise (fun x y _ _ a1 a2 => ?_) h1 h2
  cases b <;> simp at a1 a2 <;> omega
theorem sorted_tail {less : Bool} {l : List Int} {n : Nat} (hl : l.length = n + 1) (hs : ∀ i q, 1 ≤ i → i < q → q ≤ n → ltb less (l.getD q 0) (l.getD i 0) = false) : (l.drop 1).Pairwise (fun x y => if !less then y ≤ x else x ≤ y) := by
  rw [List.pairwise_iff_getElem]
  intro i j hi hj hij
  rw [List.length_drop] at hi hj
  have z := hs (1 + i) (1 + j) (by omega) (by omega) (by omega)
  have g : ∀ (k : Nat) (hk : k < l.length), l.getD k 0 = l[k] := fun k hk => by simp [List.getD_eq_getElem?_getD, hk]
  rw [g _ (by omega), g _ (by omega)] at z
  rw [List.getElem_drop, List.getElem_drop]
  cases less <;> simp [ltb] at z ⊢ <;> omega
theorem reordB {h₀ h : Heap} {L : Addr} {e0 e1 e2 e3 e4 e5 e6 e7 e8 e9 e10 e11 e12 e13 e14 e15 e16 e17 e18 e19 e20 : Addr × Obj} {T : List (Addr × Obj)} (N : News h₀ L h (e0 :: e1 :: e2 :: e3 :: e4 :: e5 :: e6 :: e7 :: e8 :: e9 :: e10 :: e11 :: e12 :: e13 :: e14 :: e15 :: e16 :: e17 :: e18 :: e19 :: e20 :: T)) : News h₀ L h (e15 :: e16 :: e17 :: e0 :: e1 :: e2 :: e3 :: e4 :: e5 :: e6 :: e7 :: e8 :: e9 :: e10 :: e11 :: e12 :: e13 :: e14 :: e18 :: e19 :: e20 :: T) := newsSub N (List.forall_mem_cons.mpr ⟨.tail _ (.tail _ (.tail _ (.tail _ (.tail _ (.tail _ (.tail _ (.tail _ (.tail _ (.tail _ (.tail _ (.tail _ (.tail _ (.tail _ (.tail _ (.head _))))))))))))))), List.forall_mem_cons.mpr ⟨.tail _ (.tail _ (.tail _ (.tail _ (.tail _ (.tail _ (.tail _ (.tail _ (.tail _ (.tail _ (.tail _ (.tail _ (.tail _ (.tail _ (.tail _ (.tail _ (.head _)))))))))))))))), List.forall_mem_cons.mpr ⟨.tail _ (.tail _ (.tail _ (.tail _ (.tail _ (.tail _ (.tail _ (.tail _ (.tail _ (.tail _ (.tail _ (.tail _ (.tail _ (.tail _ (.tail _ (.tail _ (.tail _ (.head _))))))))))))))))), List.forall_mem_cons.mpr ⟨.head _, List.forall_mem_cons.mpr ⟨.tail _ (.head _), List.forall_mem_cons.mpr ⟨.tail _ (.tail _ (.head _)), List.forall_mem_cons.mpr ⟨.tail _ (.tail _ (.tail _ (.head _))), List.forall_mem_cons.mpr ⟨.tail _ (.tail _ (.tail _ (.tail _ (.head _)))), List.forall_mem_cons.mpr ⟨.tail _ (.tail _ (.tail _ (.tail _ (.tail _ (.head _))))), List.forall_mem_cons.mpr ⟨.tail _ (.tail _ (.tail _ (.tail _ (.tail _ (.tail _ (.head _)))))), List.forall_mem_cons.mpr ⟨.tail _ (.tail _ (.tail _ (.tail _ (.tail _ (.tail _ (.tail _ (.head _))))))), List.forall_mem_cons.mpr ⟨.tail _ (.tail _ (.tail _ (.tail _ (.tail _ (.tail _ (.tail _ (.tail _ (.head _)))))))), List.forall_mem_cons.mpr ⟨.tail _ (.tail _ (.tail _ (.tail _ (.tail _ (.tail _ (.tail _ (.tail _ (.tail _ (.head _))))))))), List.forall_mem_cons.mpr ⟨.tail _ (.tail _ (.tail _ (.tail _ (.tail _ (.tail _ (.tail _ (.tail _ (.tail _ (.tail _ (.head _)))))))))), List.forall_mem_cons.mpr ⟨.tail _ (.tail _ (.tail _ (.tail _ (.tail _ (.tail _ (.tail _ (.tail _ (.tail _ (.tail _ (.tail _ (.head _))))))))))), List.forall_mem_cons.mpr ⟨.tail _ (.tail _ (.tail _ (.tail _ (.tail _ (.tail _ (.tail _ (.tail _ (.tail _ (.tail _ (.tail _ (.tail _ (.head _)))))))))))), List.forall_mem_cons.mpr ⟨.tail _ (.tail _ (.tail _ (.tail _ (.tail _ (.tail _ (.tail _ (.tail _ (.tail _ (.tail _ (.tail _ (.tail _ (.tail _ (.head _))))))))))))), List.forall_mem_cons.mpr ⟨.tail _ (.tail _ (.tail _ (.tail _ (.tail _ (.tail _ (.tail _ (.tail _ (.tail _ (.tail _ (.tail _ (.tail _ (.tail _ (.tail _ (.head _)))))))))))))), List.forall_mem_cons.mpr ⟨.tail _ (.tail _ (.tail _ (.tail _ (.tail _ (.tail _ (.tail _ (.tail _ (.tail _ (.tail _ (.tail _ (.tail _ (.tail _ (.tail _ (.tail _ (.tail _ (.tail _ (.tail _ (.head _)))))))))))))))))), List.forall_mem_cons.mpr ⟨.tail _ (.tail _ (.tail _ (.tail _ (.tail _ (.tail _ (.tail _ (.tail _ (.tail _ (.tail _ (.tail _ (.tail _ (.tail _ (.tail _ (.tail _ (.tail _ (.tail _ (.tail _ (.tail _ (.head _))))))))))))))))))), List.forall_mem_cons.mpr ⟨.tail _ (.tail _ (.tail _ (.tail _ (.tail _ (.tail _ (.tail _ (.tail _ (.tail _ (.tail _ (.tail _ (.tail _ (.tail _ (.tail _ (.tail _ (.tail _ (.tail _ (.tail _ (.tail _ (.tail _ (.head _)))))))))))))))))))), fun p hp => .tail _ (.tail _ (.tail _ (.tail _ (.tail _ (.tail _ (.tail _ (.tail _ (.tail _ (.tail _ (.tail _ (.tail _ (.tail _ (.tail _ (.tail _ (.tail _ (.tail _ (.tail _ (.tail _ (.tail _ (.tail _ (hp)))))))))))))))))))))⟩⟩⟩⟩⟩⟩⟩⟩⟩⟩⟩⟩⟩⟩⟩⟩⟩⟩⟩⟩⟩)
section
variable {w : World} {dp un : Nat} {gd : Option (List Code)} {cn : Str} {cs : Scope} {a : Addr} {ccd : Value} {cl : List (Str × Addr)} {outer : List Env} {A₀ : Around} {base h₀ : Heap} {L : Addr} {m : Str → Option Value} {s : Shared}
    {loose : List Str} {mean : ExcName → Option Value} {mg mb : Str → Option Value} {Q E : Value → Shared → Prop}
    {o d e f : Addr} {vs its hs : List Value} {ns : List Int} {n k j : Nat} {R : List (Addr × Obj)} {ps : List (Int × Int)} {less : Bool}

/-- the sorter's sort, called as a bound method -/
theorem sort_b {x y : Addr} {low high q : Nat} {i i' : Int} {tl th : Tok} (hlo : i = low) (hhi : i' = high) (hnil : hs = []) (hq' : (y, methodObj (.ref 90) (.ref x)) ∈ R) (B : Below A₀ base outer h₀) (F : Fr h₀ L s.heap m) (X : (Mine.hd.heap_39 w.params).In h₀) (N : News h₀ L s.heap ((o, listOf vs.toArray n) :: (d, listOf its.toArray k) :: (e, listOf hs.toArray j) :: R)) (T : Top topProg loose mean mg mb h₀) (C : CodeHd base 131 127) (hk : cs.kind = .function)
    (hS : QIn w.params R x o d e less) (O : Ok R o d e its ps) (hI : IntsAre vs ns) (hn : ns.length < 100) (h1 : 1 ≤ low) (h2 : low ≤ high) (h3 : high < ns.length) (hq : high < low + q) (hp : ps.length + (sortF less q ns low high).2.length < 1000000) (hd : dp < 700)
    (ret : ∀ vs' its' k' R' h' tk' j', Fr h₀ L h' m → News h₀ L h' ((o, listOf vs'.toArray n) :: (d, listOf its'.toArray k') :: (e, listOf hs.toArray j') :: R') → (∀ p ∈ R, p ∈ R') → Ok R' o d e its' (ps ++ (sortF less q ns low high).2) →
      IntsAre vs' (sortF less q ns low high).1 → Q .none { s with heap := h', toks := tk' }) :
    wpAny (model PySem.Challenge.rw_rh0156_01.row.prog w) (ktrTop dp un gd cn cs L a ccd cl outer) (call (.ref y) [.int i tl, .int i' th]) Q E s :=
  call_meth N (.tail _ (.tail _ (.tail _ hq'))) (sort_m hlo hhi hnil B F X N T C hk hS O hI hn h1 h2 h3 hq hp hd ret)
end
local macro_rules | `(tactic| walk_at "getAttr ref") => `(tactic| (k_here; (with_reducible show wpAny _ _ (getAttr (Value.ref _) (PySem.Str.ofString "append") _) _ _ _); k_dflt (refine' bget_append ?F ?N ?m ?_; (case F => k_asm); (case N => k_asm); (case m => k_mem); k_whole); intro q' h' F' N' l1; (try k_lt l1); (try k_sweep)))
local macro_rules | `(tactic| walk_at "getAttr ref") => `(tactic| (k_here; (with_reducible show wpAny _ _ (getAttr (Value.ref _) (PySem.Str.ofString "pop") _) _ _ _); k_dflt (refine' bget_pop ?F ?N ?m ?_; (case F => k_asm); (case N => k_asm); (case m => k_mem); k_whole); intro q' h' F' N' l1; (try k_lt l1); (try k_sweep)))
set_option maxHeartbeats 16000000 in
theorem main : PySem.Challenge.rw_rh0156_01.Holds := Mine.hd (by
  w_strict (
    w_on
    k_go0
    refine wpAny_noRaise ?_
    k_fold
    k_steps
    k_dflt (refine PyProof.Rows.LCg.ListComp_U (F₀ := by k_asm) (by with_unfolding_all rfl) (by decide) (by rfl) (by decide) (by rfl) ?_)
    k_steps
    with_reducible rename News _ _ _ _ => N1
    refine dug_c (t := 0) (by k_asm) (by k_asm) (by k_asm) (newsSwap N1) (by k_asm) (by k_asm) rfl (by k_all) (by k_mem) (by k_asm) (take45 _) (by decide) (.inr (.inl rfl)) (by k_room) ?_
    intro r tk2 tt2 h2 tk3 hr0 hr1 F2 N2
    k_steps
    with_reducible rename News _ _ _ _ => N3
    refine PyProof.Rows.LCg.CompSrc.range (by rfl) (by k_asm) N3 (by assumption) (small_one (by omega) (by omega) (by omega) (by omega)) (rangeSize_nat _ _) (by rw [PySem.sizeLine_eq]; omega) ?_
    intro g'
    refine comp_ind (by omega) ?turn ?fin
    case turn =>
      intro v I oI C oC D m₂ h tk Qr E' ys t tt hC hx F N off ne ht ret
      refine wpAny_noRaise ?_
      simp only [PyProof.Rows.LCg.Off3, and_true] at off
      k_steps
      refine dug_c (t := t) (by k_asm) (by k_asm) (by k_asm) (newsUp3 N) (by k_asm) (by k_asm) rfl (ro_cons (Ne.symm off.1.1) (ro_cons (Ne.symm off.1.2.1) (ro_cons (Ne.symm off.1.2.2) (by clear off ne; k_all)))) (by k_mem) (by k_asm) (take45 _) (by clear off ne; omega) (.inl rfl) (by k_room) ?_
      intro r tk2 tt2 h2 tk3 hr0 hr1 F2 N2
      k_steps
      exact ret _ _ _ _ _ hr0 hr1 F2 (newsDown3 N2)
    case fin =>
      intro ys ns t tt hI hlen ht
      unfold PyProof.Rows.LCg.FinE
      intro D h tk F N off
      simp only [PyProof.Rows.LCg.Off1, and_true] at off
      obtain ⟨hns1, hns2⟩ : 4 ≤ ns.length ∧ ns.length ≤ 40 := by clear off; omega
      clear hlen
      k_steps
      with_reducible rename News _ _ _ _ => N1
      have N2 := dropB N1
      clear N1 off
      refine dug_u (t := t) (by k_asm) (by k_asm) (by k_asm) (by k_asm) (by k_asm) (by k_asm) rfl (by k_updF) (by k_mem) (by k_ne) (by k_asm) (take45 _) (by omega) (.inr (.inr rfl)) (by k_room) ?_
      intro r2 tk4 tt3 h3 tk5 hs0 hs1 F4 N4
      have N5 := dropC N4
      clear N4 N2
      k_steps
      generalize hless : decide (0 < r2) = less
      walk1
      k_steps
      with_reducible rename IntsAre _ (_ ++ _) => hI5
      have hlen5 : ([0] ++ ns).length = ns.length + 1 := by simp
      have hsp := (sort_spec (less := less) (ns.length + 1) ([0] ++ ns) 1 ns.length (by omega) (by omega) (by omega)).2.2
      have hmul : (ns.length + 1) * (ns.length - 1 + 1) ≤ 42 * 42 := Nat.mul_le_mul (by omega) (by omega)
      with_reducible rename News _ _ _ _ => N5
      refine sort_i (q := ns.length + 1) (low := 1) (high := ns.length) (its := []) (hs := []) (less := less) (ps := []) rfl (by simp <;> omega) (by k_asm) (by k_asm) (by k_asm) (reordA N5) (by k_asm) (by k_asm) rfl ⟨by k_all, by k_all, by k_all, by k_ne, by k_ne, by k_ne, .nil⟩ hI5 ?ask (by omega) (Nat.le_refl _) (by omega) (by omega) (by omega) (by simp only [List.length_nil]; omega) ?dep ?_
      case ask =>
        exact ⟨⟨_, _, _, _, _, _, _, _, _, _, rfl, _, _, _, _, _, _, _, _, _, _, _, _, by k_mem, by k_mem, by k_asm, by k_mem, by k_asm, by k_mem, by k_asm, by k_asm⟩⟩
      case dep => simp only [depth_deeper, depth_caller]; omega
      intro vs6 its6 k6 R6 h6 tk6 F6 N6 hR6 O6 I6
      exact (by
       w_strict (
      obtain ⟨T6, hT6, tr6⟩ := O6.tr.alone
      have NR := newsTail3 N6
      have f7 := Tr.offList NR hT6 (hR6 _ (.tail _ (.tail _ (.tail _ (.tail _ (.head _))))))
      have f9 := Tr.offList NR hT6 (hR6 _ (.tail _ (.tail _ (.tail _ (.tail _ (.tail _ (.head _)))))))
      have f11 := Tr.offList NR hT6 (hR6 _ (.tail _ (.tail _ (.tail _ (.tail _ (.tail _ (.tail _ (.head _))))))))
      have f17 := Tr.offCell NR hT6 (hR6 _ (.tail _ (.tail _ (.tail _ (.tail _ (.tail _ (.tail _ (.tail _ (.tail _ (.head _)))))))))) (by k_asm)
      have f21 := Tr.offTab NR hT6 (hR6 _ (.tail _ (.tail _ (.tail _ (.tail _ (.tail _ (.tail _ (.tail _ (.tail _ (.tail _ (.tail _ (.tail _ (.head _)))))))))))))
      have f8 : ∀ p ∈ T6, p.1 ≠ _ := fun p hp => O6.re p (hT6 p hp).1
      obtain ⟨R7, hP7⟩ := packA N6 hR6 (fun p hp => (hT6 p hp).1) (by k_all) (by k_all) (by k_all) (by k_all) (by k_all) (by k_all)
      have N7 := hP7.1
      have r_own := hP7.2.1
      have r_due := hP7.2.2.1
      have r_code := hP7.2.2.2.1
      have r_rowc := hP7.2.2.2.2.1
      have r_callc := hP7.2.2.2.2.2.1
      have r_tab := hP7.2.2.2.2.2.2.1
      have r_T := hP7.2.2.2.2.2.2.2.1
      have g1 := hP7.2.2.2.2.2.2.2.2.1
      have g2 := hP7.2.2.2.2.2.2.2.2.2.1
      have g3 := hP7.2.2.2.2.2.2.2.2.2.2.1
      have g4 := hP7.2.2.2.2.2.2.2.2.2.2.2.1
      have g5 := hP7.2.2.2.2.2.2.2.2.2.2.2.2.1
      have g6 := hP7.2.2.2.2.2.2.2.2.2.2.2.2.2
      clear hP7
      have hch := chainOf N7 (by dsimp only; omega) (by dsimp only; omega) (by dsimp only; omega) (by dsimp only; omega) (by dsimp only; omega)
      repeat (with_reducible rename _ < _ ∧ _ => hxx; clear hxx)
      replace hch := hch.out
      dsimp only at hch
      clear NR N6 f7 f9 f11 f17 f21 f8
      k_steps
      rw [hless]
      walk1
      k_steps
      exact (by
       w_strict (
      refine new_c (by k_asm) (by k_asm) (by k_asm) (by k_asm) (by k_asm) rfl (by k_room) ?_
      intro x dx t1 t2 t3 t4 t5 h8 tk8 F8 N8 lx1 lx2
      k_lt lx1
      k_lt2 lx2
      k_steps
      walk1
      k_steps
      exact (by
       w_strict (
      with_reducible rename News _ _ _ _ => N9
      refine sort_b (q := ns.length + 1) (low := 1) (high := ns.length) (its := []) (hs := []) (less := less) (ps := []) rfl (by simp <;> omega) rfl (by k_mem) (by k_asm) (by k_asm) (by k_asm) (reordB N9) (by k_asm) (by k_asm) rfl ?own ⟨by k_all, by k_all, by k_all, by k_ne, by k_ne, by k_ne, .nil⟩ hI5 (by omega) (Nat.le_refl _) (by omega) (by omega) (by omega) (by simp only [List.length_nil]; omega) ?dep2 ?_
      case own =>
        refine ⟨⟨_, _, _, _, _, _, _, _, _, _, _, _, _, by k_mem, by k_mem, ?gg, ?pp, ?aa, by k_mem, by k_mem⟩⟩
        case gg => exact ⟨⟨_, _, _, _, rfl, _, _, _, _, _, _, _, _, _, by k_mem, by k_mem, by k_asm, by k_mem, by k_asm, by k_asm⟩⟩
        case pp => exact ⟨⟨_, _, _, _, _, _, _, _, _, _, rfl, _, _, _, _, _, _, _, _, _, _, by k_mem, by k_mem, by k_asm, by k_mem, by k_asm, by k_asm⟩⟩
        case aa => exact ⟨⟨_, _, _, _, _, _, _, _, _, _, rfl, _, _, _, _, _, _, _, _, _, _, _, _, by k_mem, by k_mem, by k_asm, by k_mem, by k_asm, by k_mem, by k_asm, by k_asm⟩⟩
      case dep2 => simp only [depth_deeper, depth_caller]; omega
      intro vs8 its8 k8 R8 h9 tk9 j8 F9 N10 hR8 O8 I8
      have s_tup := hR8 _ (.head _)
      have s_calls := hR8 _ (.tail _ (.tail _ (.tail _ (.tail _ (.tail _ (.tail _ (.tail _ (.tail _ (.tail _ (.tail _ (.tail _ (.tail _ (.tail _ (.tail _ (.tail _ (.head _))))))))))))))))
      have up : ∀ p ∈ R7, p ∈ R8 := fun p hp => hR8 p (.tail _ (.tail _ (.tail _ (.tail _ (.tail _ (.tail _ (.tail _ (.tail _ (.tail _ (.tail _ (.tail _ (.tail _ (.tail _ (.tail _ (.tail _ (.tail _ (.tail _ (.tail _ (hp)))))))))))))))))))
      have s_own := up _ r_own
      have s_due := up _ r_due
      have s_rowc := up _ r_rowc
      have s_callc := up _ r_callc
      have s_tab1 := up _ r_tab
      have s_tab2 := hR8 _ (.tail _ (.tail _ (.tail _ (.tail _ (.tail _ (.tail _ (.tail _ (.tail _ (.tail _ (.tail _ (.tail _ (.tail _ (.tail _ (.tail _ (.tail _ (.tail _ (.tail _ (.head _))))))))))))))))))
      have Dn := O8.tr.dat
      have Dd := (tr6.mono fun p hp => up _ (r_T _ hp)).dat
      clear N9
      k_steps
      exact (by
       w_strict (
      have hss := sort_spec (less := less) (ns.length + 1) ([0] ++ ns) 1 ns.length (by omega) (by omega) (by omega)
      have hms : (sortF less (ns.length + 1) ([0] ++ ns) 1 ns.length).1.length = ns.length + 1 := hss.1.len.trans hlen5
      have hv8 : vs8.length = ns.length + 1 := I8.length.trans hms
      walk1
      k_steps
      with_reducible rename List.Pairwise _ _ => hoo
      with_reducible rename List.Perm _ _ => hpp
      simp only [hless] at hoo
      have hfin := ord_uniq hpp.symm (sorted_tail hms hss.2.1) hoo
      rw [decide_eq_true hfin]
      k_end
      kc_close))))))))))
end Mine
theorem PySem.Challenge.cw_rh0156_01_holds : PySem.Challenge.rw_rh0156_01.Holds :=
  Mine.main
