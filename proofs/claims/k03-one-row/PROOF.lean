import PyProof.Rows.All
import Wide.All
import OpenK.AllK
import Wide.FinOn
import HandS.ForMost
import HandS.ForExc
import PyProof.ReprRoads
import HandS.DictComp
import HandS.SetBool
import HandS.Strs
import KE.GoesMore
import PyProof.Draws
import PyProof.EnumMake
import KE.KExcSuper
import KE.KSuper
import HandS.Defaults
import HandS.MakeKwOnly
import HandS.OwnEq
import HandS.ExcOwn
import HandS.ExcField
import HandS.ExcIs
import KE.KExcIs
import PyProof.InstNe
import HandS.IsInst
import HandS.Conv
import HandS.TupSets
import HandS.Wide
import HandS.WideMore
import HandS.StrMore
import HandS.Deep
import HandS.Flow
import PySem.Challenge.RW_backinstep_k03_whole_one_row_for_ever
import HandS.Walk
import PyProof.ReprBulk
import PyProof.Rows.ReprShort
import PyProof.P3Eq
import HandS.Replace
import KE.SortData
import HandS.DictTup
import KE.DataMinMax
import HandS.Codes
import HandS.ReHeld
import HandS.SortInts
section
set_option Elab.async false
/-! A map f on the numbers below n: what stays on rings, how long the tails are. No program here. -/
namespace Rg

def it (f : Nat → Nat) : Nat → Nat → Nat
  | 0, x => x
  | t + 1, x => f (it f t x)

theorem it_add (f : Nat → Nat) (a : Nat) : ∀ b x, it f (a + b) x = it f a (it f b x) := by
  induction a with
  | zero => intro b x; rw [Nat.zero_add]; rfl
  | succ a ih => intro b x; rw [Nat.succ_add]; show f _ = f _; rw [ih]
theorem it_one (f : Nat → Nat) (x : Nat) : it f 1 x = f x := rfl
theorem it_succ' (f : Nat → Nat) (t x : Nat) : it f (t + 1) x = it f t (f x) := it_add f t 1 x
theorem it_mul_fix (f : Nat → Nat) {p x : Nat} (h : it f p x = x) : ∀ m, it f (p * m) x = x
  | 0 => rfl
  | m + 1 => by rw [Nat.mul_succ, it_add, h, it_mul_fix f h m]
theorem it_mod (f : Nat → Nat) {p x : Nat} (h : it f p x = x) (k : Nat) : it f k x = it f (k % p) x := by
  have e : k = k % p + p * (k / p) := (Nat.mod_add_div k p).symm
  have q : it f (k % p + p * (k / p)) x = it f (k % p) x := by rw [it_add, it_mul_fix f h]
  rw [← e] at q
  exact q

section
variable {f : Nat → Nat} {n : Nat}
theorem it_lt (hf : ∀ x, x < n → f x < n) {x : Nat} (hx : x < n) : ∀ t, it f t x < n
  | 0 => hx
  | t + 1 => hf _ (it_lt hf hx t)

/-- two of the first n + 1 places are one -/
theorem pigeon (hf : ∀ x, x < n → f x < n) {x : Nat} (hx : x < n) : ∃ i j, i < j ∧ j ≤ n ∧ it f i x = it f j x := by
  refine Classical.byContradiction fun h => ?_
  have hne : ∀ i j, i < j → j ≤ n → it f i x ≠ it f j x := fun i j h1 h2 e => h ⟨i, j, h1, h2, e⟩
  have nd : ((List.range (n + 1)).map fun t => it f t x).Nodup := by
    unfold List.Nodup
    rw [List.pairwise_map]
    have lt := List.pairwise_lt_range (n := n + 1)
    refine List.Pairwise.imp_of_mem ?_ lt
    intro a b ha hb hab
    have hb' := List.mem_range.mp hb
    exact hne a b hab (by omega)
  have hs : ((List.range (n + 1)).map fun t => it f t x) ⊆ List.range n := by
    intro y hy
    obtain ⟨t, _, rfl⟩ := List.mem_map.mp hy
    exact List.mem_range.mpr (it_lt hf hx t)
  have := List.Nodup.length_le_of_subset nd hs
  rw [List.length_map, List.length_range, List.length_range] at this
  omega
end

def per (f : Nat → Nat) (n x : Nat) : Nat := match (List.range n).find? (fun k => it f (k + 1) x == x) with
  | some k => k + 1
  | none => 0
def on (f : Nat → Nat) (n x : Nat) : Bool := per f n x != 0

section
variable {f : Nat → Nat} {n : Nat}
theorem on_iff {x : Nat} : on f n x = true ↔ per f n x ≠ 0 := by unfold on; simp
theorem per_spec {x : Nat} (h : per f n x ≠ 0) : it f (per f n x) x = x ∧ per f n x ≤ n ∧ ∀ j, 0 < j → j < per f n x → it f j x ≠ x := by
  unfold per at h ⊢
  cases e : (List.range n).find? (fun k => it f (k + 1) x == x) with
  | none => rw [e] at h; exact absurd rfl h
  | some k =>
    dsimp only
    obtain ⟨h1, h2, h3⟩ := List.find?_range_eq_some.mp e
    have h2 := List.mem_range.mp h2
    refine ⟨by simpa using h1, h2, fun j hj hl q => ?_⟩
    have := h3 (j - 1) (by omega)
    rw [Nat.sub_add_cancel hj] at this
    rw [q] at this
    simp at this
theorem per_pos_of {x k : Nat} (hk : 0 < k) (hkn : k ≤ n) (h : it f k x = x) : per f n x ≠ 0 := by
  unfold per
  cases e : (List.range n).find? (fun k => it f (k + 1) x == x) with
  | some k => dsimp only; omega
  | none =>
    have := List.find?_eq_none.mp e (k - 1) (List.mem_range.mpr (by omega))
    rw [Nat.sub_add_cancel hk, h] at this
    simp at this
/-- whatever comes back to itself at some time does so within n -/
theorem on_of {x k : Nat} (hf : ∀ x, x < n → f x < n) (hx : x < n) (hk : 0 < k) (h : it f k x = x) : on f n x = true := by
  obtain ⟨i, j, hij, hjn, e⟩ := pigeon hf hx
  refine on_iff.mpr (per_pos_of (k := j - i) (by omega) (by omega) ?_)
  have hm := it_mul_fix f h i
  have hle : i ≤ k * i := Nat.le_mul_of_pos_left i hk
  have e1 : it f (k * i - i + i) x = it f (k * i - i + j) x := by rw [it_add, it_add, e]
  rw [Nat.sub_add_cancel hle, hm] at e1
  have e2 : k * i - i + j = (j - i) + k * i := by omega
  rw [e2, it_add, hm] at e1
  exact e1.symm
theorem on_f {x : Nat} (h : on f n x = true) : on f n (f x) = true := by
  obtain ⟨h1, h2, _⟩ := per_spec (on_iff.mp h)
  have h0 : 0 < per f n x := Nat.pos_of_ne_zero (on_iff.mp h)
  refine on_iff.mpr (per_pos_of h0 h2 ?_)
  rw [← it_succ', show per f n x + 1 = 1 + per f n x from Nat.add_comm _ _, it_add, h1]
  rfl
theorem on_it {x : Nat} (h : on f n x = true) : ∀ t, on f n (it f t x) = true
  | 0 => h
  | t + 1 => on_f (on_it h t)
/-- on a ring: when it is back -/
theorem back_iff {x : Nat} (h : on f n x = true) (k : Nat) : it f k x = x ↔ k % per f n x = 0 := by
  obtain ⟨h1, h2, h3⟩ := per_spec (on_iff.mp h)
  have h0 : 0 < per f n x := Nat.pos_of_ne_zero (on_iff.mp h)
  constructor
  · intro e
    rw [it_mod f h1] at e
    refine Classical.byContradiction fun z => ?_
    exact h3 _ (Nat.pos_of_ne_zero z) (Nat.mod_lt _ h0) e
  · intro e
    rw [it_mod f h1, e]
    rfl
theorem per_it {x : Nat} (h : on f n x = true) (t : Nat) : per f n (it f t x) = per f n x := by
  have h' := on_it h t
  obtain ⟨h1, _, _⟩ := per_spec (on_iff.mp h)
  obtain ⟨g1, _, _⟩ := per_spec (on_iff.mp h')
  have h0 : 0 < per f n x := Nat.pos_of_ne_zero (on_iff.mp h)
  have g0 : 0 < per f n (it f t x) := Nat.pos_of_ne_zero (on_iff.mp h')
  -- each divides the other
  have d1 : per f n x % per f n (it f t x) = 0 := (back_iff h' _).mp (by rw [← it_add, Nat.add_comm, it_add, h1])
  have d2 : per f n (it f t x) % per f n x = 0 := by
    refine (back_iff h _).mp ?_
    -- go on from it t x to x
    have hle : t ≤ per f n x * t := Nat.le_mul_of_pos_left t h0
    have e0 : it f (per f n x * t - t) (it f t x) = x := by rw [← it_add, Nat.sub_add_cancel hle, it_mul_fix f h1]
    have e1 : it f (per f n (it f t x)) (it f (per f n x * t - t) (it f t x)) = it f (per f n x * t - t) (it f t x) := by
      rw [← it_add, Nat.add_comm, it_add, g1]
    rw [e0] at e1
    exact e1
  exact Nat.dvd_antisymm (Nat.dvd_of_mod_eq_zero d1) (Nat.dvd_of_mod_eq_zero d2)

/-! ### tails -/
def tl (f : Nat → Nat) (n x : Nat) : Nat := ((List.range n).find? (fun t => on f n (it f t x))).getD 0
theorem tl_spec (hf : ∀ x, x < n → f x < n) {x : Nat} (hx : x < n) : tl f n x < n ∧ on f n (it f (tl f n x) x) = true ∧ ∀ j, j < tl f n x → on f n (it f j x) = false := by
  obtain ⟨i, j, hij, hjn, e⟩ := pigeon hf hx
  have hi : on f n (it f i x) = true := by
    refine on_iff.mpr (per_pos_of (k := j - i) (by omega) (by omega) ?_)
    rw [← it_add, Nat.sub_add_cancel (by omega), e]
  unfold tl
  cases q : (List.range n).find? (fun t => on f n (it f t x)) with
  | none =>
    have := List.find?_eq_none.mp q i (List.mem_range.mpr (by omega))
    rw [hi] at this
    exact absurd rfl this
  | some t =>
    obtain ⟨h1, h2, h3⟩ := List.find?_range_eq_some.mp q
    refine ⟨List.mem_range.mp h2, h1, fun j hj => ?_⟩
    have := h3 j hj
    simpa using this
theorem on_from (hf : ∀ x, x < n → f x < n) {x : Nat} (hx : x < n) (t : Nat) : on f n (it f t x) = true ↔ tl f n x ≤ t := by
  obtain ⟨_, h2, h3⟩ := tl_spec hf hx
  constructor
  · intro h
    refine Classical.byContradiction fun z => ?_
    rw [h3 t (by omega)] at h
    cases h
  · intro h
    have e : t = (t - tl f n x) + tl f n x := by omega
    rw [e, it_add]
    exact on_it h2 _

/-! ### rings -/
def orbit (f : Nat → Nat) (n x : Nat) : List Nat := (List.range (per f n x)).map fun k => it f k x
def isLeast (f : Nat → Nat) (n x : Nat) : Bool := on f n x && (orbit f n x).all fun y => decide (x ≤ y)
def rings (f : Nat → Nat) (n : Nat) : List (List Nat) := ((List.range n).filter (isLeast f n)).map (orbit f n)
theorem orbit_len (x : Nat) : (orbit f n x).length = per f n x := by unfold orbit; simp
theorem mem_orbit {x y : Nat} : y ∈ orbit f n x ↔ ∃ k, k < per f n x ∧ it f k x = y := by
  unfold orbit
  simp [List.mem_map, List.mem_range]
theorem mem_orbit_it {x : Nat} (h : on f n x = true) (t : Nat) : it f t x ∈ orbit f n x := by
  have h0 : 0 < per f n x := Nat.pos_of_ne_zero (on_iff.mp h)
  exact mem_orbit.mpr ⟨t % per f n x, Nat.mod_lt _ h0, (it_mod f (per_spec (on_iff.mp h)).1 t).symm⟩
theorem mem_orbit_iff {x y : Nat} (h : on f n x = true) : y ∈ orbit f n x ↔ ∃ t, it f t x = y := by
  constructor
  · intro q
    obtain ⟨k, _, e⟩ := mem_orbit.mp q
    exact ⟨k, e⟩
  · rintro ⟨t, rfl⟩
    exact mem_orbit_it h t
theorem orbit_on {x y : Nat} (h : on f n x = true) (q : y ∈ orbit f n x) : on f n y = true ∧ per f n y = per f n x := by
  obtain ⟨k, _, rfl⟩ := mem_orbit.mp q
  exact ⟨on_it h k, per_it h k⟩
theorem orbit_back {x y : Nat} (h : on f n x = true) (q : y ∈ orbit f n x) : x ∈ orbit f n y := by
  obtain ⟨k, hk, rfl⟩ := mem_orbit.mp q
  have h0 : 0 < per f n x := Nat.pos_of_ne_zero (on_iff.mp h)
  refine (mem_orbit_iff (on_it h k)).mpr ⟨per f n x - k, ?_⟩
  rw [← it_add, Nat.sub_add_cancel (Nat.le_of_lt hk)]
  exact (per_spec (on_iff.mp h)).1
theorem orbit_trans {x y z : Nat} (h : on f n x = true) (q : y ∈ orbit f n x) (r : z ∈ orbit f n y) : z ∈ orbit f n x := by
  obtain ⟨a, rfl⟩ := (mem_orbit_iff h).mp q
  obtain ⟨b, rfl⟩ := (mem_orbit_iff (on_it h a)).mp r
  rw [← it_add]
  exact mem_orbit_it h _
theorem orbit_lt (hf : ∀ x, x < n → f x < n) {x y : Nat} (hx : x < n) (q : y ∈ orbit f n x) : y < n := by
  obtain ⟨k, _, rfl⟩ := mem_orbit.mp q
  exact it_lt hf hx k
theorem it_inj_lt {x : Nat} (h : on f n x = true) {a b : Nat} (ha : a < per f n x) (hb : b < per f n x) (e : it f a x = it f b x) : a = b := by
  have h1 := (per_spec (on_iff.mp h)).1
  have key : ∀ a b, a ≤ b → b < per f n x → it f a x = it f b x → a = b := by
    intro a b hab hb e
    have q : it f (b - a) (it f a x) = it f a x := by rw [← it_add, Nat.sub_add_cancel hab, e]
    have z := (back_iff (on_it h a) _).mp q
    rw [per_it h, Nat.mod_eq_of_lt (by omega)] at z
    omega
  rcases Nat.le_total a b with q | q
  · exact key a b q hb e
  · exact (key b a q ha e.symm).symm
theorem orbit_nodup {x : Nat} (h : on f n x = true) : (orbit f n x).Nodup := by
  unfold orbit List.Nodup
  rw [List.pairwise_map]
  refine List.Pairwise.imp_of_mem ?_ (List.pairwise_lt_range (n := per f n x))
  intro a b ha hb hab e
  have := it_inj_lt h (List.mem_range.mp ha) (List.mem_range.mp hb) e
  omega
theorem isLeast_iff {x : Nat} : isLeast f n x = true ↔ on f n x = true ∧ ∀ y ∈ orbit f n x, x ≤ y := by
  unfold isLeast
  simp [List.all_eq_true]
theorem mem_rings {r : List Nat} : r ∈ rings f n ↔ ∃ x, x < n ∧ isLeast f n x = true ∧ orbit f n x = r := by
  unfold rings
  simp [List.mem_map, List.mem_filter, List.mem_range, and_assoc]
/-- a least one of a list that is not empty -/
theorem least_of : ∀ (l : List Nat), l ≠ [] → ∃ m ∈ l, ∀ y ∈ l, m ≤ y
  | [], h => absurd rfl h
  | [a], _ => ⟨a, by simp, by simp⟩
  | a :: b :: l, _ => by
    obtain ⟨m, hm, h⟩ := least_of (b :: l) (by simp)
    by_cases q : a ≤ m
    · refine ⟨a, by simp, fun y hy => ?_⟩
      rcases List.mem_cons.mp hy with e | hy
      · exact Nat.le_of_eq e.symm
      · exact Nat.le_trans q (h y hy)
    · refine ⟨m, List.mem_cons_of_mem _ hm, fun y hy => ?_⟩
      rcases List.mem_cons.mp hy with e | hy
      · rw [e]; omega
      · exact h y hy
theorem orbit_ne {x : Nat} (h : on f n x = true) : orbit f n x ≠ [] := fun e => by
  have := mem_orbit_it h 0
  rw [e] at this
  cases this
/-- the least state of its ring -/
theorem least_on (hf : ∀ x, x < n → f x < n) {y : Nat} (hy : y < n) (h : on f n y = true) : ∃ x, x < n ∧ isLeast f n x = true ∧ x ∈ orbit f n y ∧ y ∈ orbit f n x := by
  obtain ⟨x, hx, hl⟩ := least_of _ (orbit_ne h)
  obtain ⟨o, _⟩ := orbit_on h hx
  refine ⟨x, orbit_lt hf hy hx, isLeast_iff.mpr ⟨o, fun z hz => hl z (orbit_trans h hx hz)⟩, hx, orbit_back h hx⟩
theorem mem_flat (hf : ∀ x, x < n → f x < n) {y : Nat} : y ∈ (rings f n).flatten ↔ y < n ∧ on f n y = true := by
  rw [List.mem_flatten]
  constructor
  · rintro ⟨r, hr, hy⟩
    obtain ⟨x, hx, hl, rfl⟩ := mem_rings.mp hr
    have o := (isLeast_iff.mp hl).1
    exact ⟨orbit_lt hf hx hy, (orbit_on o hy).1⟩
  · rintro ⟨hy, h⟩
    obtain ⟨x, hx, hl, _, q⟩ := least_on hf hy h
    exact ⟨_, mem_rings.mpr ⟨x, hx, hl, rfl⟩, q⟩
/-- two least ones of one ring are one -/
theorem least_one {x x' y : Nat} (h : isLeast f n x = true) (h' : isLeast f n x' = true) (q : y ∈ orbit f n x) (q' : y ∈ orbit f n x') : x = x' := by
  obtain ⟨o, l⟩ := isLeast_iff.mp h
  obtain ⟨o', l'⟩ := isLeast_iff.mp h'
  exact Nat.le_antisymm (l _ (orbit_trans o q (orbit_back o' q'))) (l' _ (orbit_trans o' q' (orbit_back o q)))
theorem flat_nodup : (rings f n).flatten.Nodup := by
  unfold List.Nodup
  rw [List.pairwise_flatten]
  refine ⟨fun r hr => ?_, ?_⟩
  · obtain ⟨x, hx, hl, rfl⟩ := mem_rings.mp hr
    exact orbit_nodup (isLeast_iff.mp hl).1
  · unfold rings
    rw [List.pairwise_map]
    refine List.Pairwise.imp_of_mem ?_ ((List.pairwise_lt_range (n := n)).filter _)
    intro a b ha hb hab x hx y hy e
    subst e
    have := least_one (List.mem_filter.mp ha).2 (List.mem_filter.mp hb).2 hx hy
    omega
theorem ring_len_of {r : List Nat} {y : Nat} (hr : r ∈ rings f n) (hy : y ∈ r) : per f n y = r.length := by
  obtain ⟨x, hx, hl, rfl⟩ := mem_rings.mp hr
  rw [orbit_len]
  exact (orbit_on (isLeast_iff.mp hl).1 hy).2
theorem ring_pos {r : List Nat} (hr : r ∈ rings f n) : 0 < r.length ∧ r.length ≤ n := by
  obtain ⟨x, hx, hl, rfl⟩ := mem_rings.mp hr
  have h := on_iff.mp (isLeast_iff.mp hl).1
  rw [orbit_len]
  exact ⟨Nat.pos_of_ne_zero h, (per_spec h).2.1⟩
end
end Rg
end

section
set_option Elab.async false
namespace Rg
section
variable {f : Nat → Nat} {n : Nat}

/-! ### powers -/
def pw (f : Nat → Nat) (n t : Nat) : List Nat := (List.range n).map (it f t)
theorem pw_len (t : Nat) : (pw f n t).length = n := by unfold pw; simp
theorem pw_zero : pw f n 0 = List.range n := by
  unfold pw
  have : it f 0 = id := by funext x; rfl
  rw [this]; simp
theorem pw_get {t x : Nat} (hx : x < n) : (pw f n t)[x]? = some (it f t x) := by
  unfold pw
  rw [List.getElem?_map, List.getElem?_range hx]; rfl
theorem pw_getD {t x : Nat} (hx : x < n) : (pw f n t).getD x 0 = it f t x := by
  rw [List.getD_eq_getElem?_getD, pw_get hx]; rfl
theorem pw_lt (hf : ∀ x, x < n → f x < n) (t : Nat) : ∀ y ∈ pw f n t, y < n := by
  intro y hy
  unfold pw at hy
  obtain ⟨x, hx, rfl⟩ := List.mem_map.mp hy
  exact it_lt hf (List.mem_range.mp hx) t
theorem pw_join (hf : ∀ x, x < n → f x < n) (a b : Nat) : (pw f n a).map (fun s => (pw f n b).getD s 0) = pw f n (a + b) := by
  unfold pw
  rw [List.map_map]
  refine List.map_congr_left fun x hx => ?_
  have hx := List.mem_range.mp hx
  show (pw f n b).getD (it f a x) 0 = it f (a + b) x
  rw [pw_getD (it_lt hf hx a), Nat.add_comm, it_add]

/-! ### far on: only the rest by 60 counts -/
theorem tl_le_of (hf : ∀ x, x < n → f x < n) {x : Nat} (hx : x < n) {t : Nat} (h : n ≤ t + 1) : on f n (it f t x) = true :=
  (on_from hf hx t).mpr (by have := (tl_spec hf hx).1; omega)
theorem far_mod (hf : ∀ x, x < n → f x < n) {m : Nat} (hm : ∀ r ∈ rings f n, m % r.length = 0) {x : Nat} (hx : x < n) {a b : Nat} (ha : n ≤ a) (hab : a ≤ b) (h : (b - a) % m = 0) : it f b x = it f a x := by
  have o := tl_le_of hf hx (t := a) (by omega)
  have e : b = (b - a) + a := by omega
  rw [e, it_add]
  refine (back_iff o _).mpr ?_
  obtain ⟨r, hr, hy⟩ := List.mem_flatten.mp ((mem_flat hf).mpr ⟨it_lt hf hx a, o⟩)
  have d1 : per f n (it f a x) ∣ m := by
    rw [ring_len_of hr hy]
    exact Nat.dvd_of_mod_eq_zero (hm r hr)
  exact Nat.mod_eq_zero_of_dvd (Nat.dvd_trans d1 (Nat.dvd_of_mod_eq_zero h))

/-! ### the states that a power leaves alone -/
theorem fix_iff (hf : ∀ x, x < n → f x < n) {x : Nat} (hx : x < n) {t : Nat} (ht : 0 < t) : it f t x = x ↔ on f n x = true ∧ t % per f n x = 0 := by
  constructor
  · intro e
    have o := on_of hf hx ht e
    exact ⟨o, (back_iff o t).mp e⟩
  · rintro ⟨o, e⟩
    exact (back_iff o t).mpr e
def divs (t : Nat) (r : List Nat) : Bool := t % r.length == 0
theorem filter_nodup {α : Type} {p : α → Bool} {l : List α} (h : l.Nodup) : (l.filter p).Nodup := List.Pairwise.filter p h
theorem flat_filter_nodup {p : List Nat → Bool} : ((rings f n).filter p).flatten.Nodup := by
  have h := flat_nodup (f := f) (n := n)
  unfold List.Nodup at h ⊢
  rw [List.pairwise_flatten] at h ⊢
  exact ⟨fun r hr => h.1 r (List.mem_filter.mp hr).1, h.2.filter p⟩
theorem fix_perm (hf : ∀ x, x < n → f x < n) {t : Nat} (ht : 0 < t) : ((List.range n).filter fun x => it f t x == x).Perm ((rings f n).filter (divs t)).flatten := by
  refine (List.perm_ext_iff_of_nodup (filter_nodup List.nodup_range) ?_).mpr fun y => ?_
  · exact flat_filter_nodup
  · rw [List.mem_filter, List.mem_range, List.mem_flatten]
    constructor
    · rintro ⟨hy, e⟩
      obtain ⟨o, d⟩ := (fix_iff hf hy ht).mp (by simpa using e)
      obtain ⟨r, hr, hm⟩ := List.mem_flatten.mp ((mem_flat hf).mpr ⟨hy, o⟩)
      refine ⟨r, List.mem_filter.mpr ⟨hr, ?_⟩, hm⟩
      unfold divs
      rw [← ring_len_of hr hm, d]
      rfl
    · rintro ⟨r, hr, hm⟩
      obtain ⟨hr, d⟩ := List.mem_filter.mp hr
      obtain ⟨hy, o⟩ := (mem_flat hf).mp (List.mem_flatten.mpr ⟨r, hr, hm⟩)
      refine ⟨hy, ?_⟩
      have d' : t % per f n y = 0 := by
        rw [ring_len_of hr hm]
        simpa [divs] using d
      simpa using (fix_iff hf hy ht).mpr ⟨o, d'⟩
def left (f : Nat → Nat) (n t : Nat) : Nat := (((rings f n).filter (divs t)).map List.length).sum
theorem left_fix (hf : ∀ x, x < n → f x < n) {t : Nat} (ht : 0 < t) : ((List.range n).filter fun x => it f t x == x).length = left f n t := by
  rw [(fix_perm hf ht).length_eq, List.length_flatten]
  rfl

/-! ### the period -/
def lens (f : Nat → Nat) (n : Nat) : List Nat := (rings f n).map List.length
def period (f : Nat → Nat) (n : Nat) : Nat := (lens f n).foldl Nat.lcm 1
theorem foldl_lcm : ∀ (l : List Nat) (a : Nat), a ∣ l.foldl Nat.lcm a ∧ (∀ x ∈ l, x ∣ l.foldl Nat.lcm a) ∧ ∀ m, a ∣ m → (∀ x ∈ l, x ∣ m) → l.foldl Nat.lcm a ∣ m
  | [], a => ⟨Nat.dvd_refl _, by simp, fun m h _ => h⟩
  | b :: l, a => by
    obtain ⟨h1, h2, h3⟩ := foldl_lcm l (Nat.lcm a b)
    show a ∣ l.foldl Nat.lcm (Nat.lcm a b) ∧ (∀ x ∈ b :: l, x ∣ l.foldl Nat.lcm (Nat.lcm a b)) ∧ _
    refine ⟨Nat.dvd_trans (Nat.dvd_lcm_left a b) h1, fun x hx => ?_, fun m hm hl => ?_⟩
    · rcases List.mem_cons.mp hx with e | hx
      · rw [e]; exact Nat.dvd_trans (Nat.dvd_lcm_right a b) h1
      · exact h2 x hx
    · exact h3 m (Nat.lcm_dvd hm (hl b (by simp))) fun x hx => hl x (List.mem_cons_of_mem _ hx)
theorem lens_mem {d : Nat} (h : d ∈ lens f n) : 0 < d ∧ d ≤ n := by
  unfold lens at h
  obtain ⟨r, hr, rfl⟩ := List.mem_map.mp h
  exact ring_pos hr
theorem period_all : ∀ r ∈ rings f n, period f n % r.length = 0 := fun r hr =>
  Nat.mod_eq_zero_of_dvd ((foldl_lcm (lens f n) 1).2.1 _ (List.mem_map.mpr ⟨r, hr, rfl⟩))
theorem period_least {m : Nat} (h : ∀ r ∈ rings f n, m % r.length = 0) : period f n ∣ m :=
  (foldl_lcm (lens f n) 1).2.2 m (Nat.one_dvd m) fun x hx => by
    unfold lens at hx
    obtain ⟨r, hr, rfl⟩ := List.mem_map.mp hx
    exact Nat.dvd_of_mod_eq_zero (h r hr)
theorem six_div {d : Nat} (h0 : 0 < d) (h6 : d ≤ 6) : 60 % d = 0 := by
  have : d = 1 ∨ d = 2 ∨ d = 3 ∨ d = 4 ∨ d = 5 ∨ d = 6 := by omega
  rcases this with h | h | h | h | h | h <;> subst h <;> rfl
theorem sixty_all (h6 : n ≤ 6) : ∀ r ∈ rings f n, 60 % r.length = 0 := fun r hr =>
  six_div (ring_pos hr).1 (Nat.le_trans (ring_pos hr).2 h6)
theorem period_60 (h6 : n ≤ 6) : period f n ∣ 60 := period_least (sixty_all h6)
theorem period_pos (h6 : n ≤ 6) : 0 < period f n ∧ period f n ≤ 60 := by
  have h := period_60 (f := f) h6
  exact ⟨Nat.pos_of_dvd_of_pos h (by decide), Nat.le_of_dvd (by decide) h⟩
/-- the first common multiple -/
theorem period_first (h6 : n ≤ 6) {t : Nat} (h0 : 0 < t) (ht : t < period f n) : ∃ r ∈ rings f n, t % r.length ≠ 0 := by
  refine Classical.byContradiction fun z => ?_
  have : ∀ r ∈ rings f n, t % r.length = 0 := fun r hr => Classical.byContradiction fun q => z ⟨r, hr, q⟩
  have := Nat.le_of_dvd h0 (period_least this)
  omega

/-! ### the square -/
def longest (f : Nat → Nat) (n : Nat) : Nat := ((List.range n).map (tl f n)).foldl max 0
theorem foldl_max : ∀ (l : List Nat) (a : Nat), a ≤ l.foldl max a ∧ (∀ x ∈ l, x ≤ l.foldl max a) ∧ (l.foldl max a = a ∨ l.foldl max a ∈ l)
  | [], a => ⟨Nat.le_refl _, by simp, .inl rfl⟩
  | b :: l, a => by
    obtain ⟨h1, h2, h3⟩ := foldl_max l (max a b)
    show a ≤ l.foldl max (max a b) ∧ (∀ x ∈ b :: l, x ≤ l.foldl max (max a b)) ∧ (l.foldl max (max a b) = a ∨ l.foldl max (max a b) ∈ b :: l)
    refine ⟨by omega, fun x hx => ?_, ?_⟩
    · rcases List.mem_cons.mp hx with e | hx
      · rw [e]; omega
      · exact h2 x hx
    · rcases h3 with h | h
      · rcases Nat.le_total a b with q | q
        · right; rw [h, Nat.max_eq_right q]; simp
        · left; rw [h, Nat.max_eq_left q]
      · exact .inr (List.mem_cons_of_mem _ h)
theorem longest_ge {x : Nat} (hx : x < n) : tl f n x ≤ longest f n :=
  (foldl_max _ 0).2.1 _ (List.mem_map.mpr ⟨x, List.mem_range.mpr hx, rfl⟩)
theorem longest_lt (hf : ∀ x, x < n → f x < n) (h0 : 0 < n) : longest f n < n := by
  rcases (foldl_max ((List.range n).map (tl f n)) 0).2.2 with h | h
  · unfold longest; rw [h]; exact h0
  · obtain ⟨x, hx, e⟩ := List.mem_map.mp h
    unfold longest
    rw [← e]
    exact (tl_spec hf (List.mem_range.mp hx)).1
theorem longest_at (h0 : 0 < n) : ∃ x, x < n ∧ tl f n x = longest f n := by
  rcases (foldl_max ((List.range n).map (tl f n)) 0).2.2 with h | h
  · refine ⟨0, h0, ?_⟩
    have := longest_ge (f := f) h0
    unfold longest at this ⊢
    rw [h] at this ⊢
    omega
  · obtain ⟨x, hx, e⟩ := List.mem_map.mp h
    exact ⟨x, List.mem_range.mp hx, e⟩
def isSq (f : Nat → Nat) (n t : Nat) : Prop := ∀ x, x < n → it f t (it f t x) = it f t x
theorem isSq_iff (hf : ∀ x, x < n → f x < n) {t : Nat} (ht : 0 < t) : isSq f n t ↔ (∀ x, x < n → tl f n x ≤ t) ∧ t % period f n = 0 := by
  constructor
  · intro h
    refine ⟨fun x hx => ?_, ?_⟩
    · have o := on_of hf (it_lt hf hx t) ht (h x hx)
      exact (on_from hf hx t).mp o
    · refine Nat.mod_eq_zero_of_dvd (period_least fun r hr => ?_)
      obtain ⟨x, hx, hl, e⟩ := mem_rings.mp hr
      have o := (isLeast_iff.mp hl).1
      have q := (back_iff (on_it o t) t).mp (h x hx)
      rw [per_it o, ← orbit_len, e] at q
      exact q
  · rintro ⟨h1, h2⟩ x hx
    have o := (on_from hf hx t).mpr (h1 x hx)
    refine (back_iff o t).mpr ?_
    obtain ⟨r, hr, hy⟩ := List.mem_flatten.mp ((mem_flat hf).mpr ⟨it_lt hf hx t, o⟩)
    rw [ring_len_of hr hy]
    exact Nat.mod_eq_zero_of_dvd (Nat.dvd_trans (Nat.dvd_of_mod_eq_zero (period_all r hr)) (Nat.dvd_of_mod_eq_zero h2))
def square (f : Nat → Nat) (n : Nat) : Nat := period f n * max 1 ((longest f n + period f n - 1) / period f n)
theorem square_ok (hf : ∀ x, x < n → f x < n) (h0 : 0 < n) (h6 : n ≤ 6) :
    1 ≤ square f n ∧ square f n ≤ 60 + n ∧ isSq f n (square f n) ∧ ∀ t, 0 < t → t < square f n → ¬ isSq f n t := by
  obtain ⟨p0, p60⟩ := period_pos (f := f) h6
  have hl := longest_lt hf h0
  generalize hm : max 1 ((longest f n + period f n - 1) / period f n) = m
  have es : square f n = period f n * m := by unfold square; rw [hm]
  have m1 : 1 ≤ m := by omega
  have q1 : (longest f n + period f n - 1) / period f n ≤ m := by omega
  -- enough
  have enough : longest f n ≤ period f n * m := by
    have a : longest f n + period f n - 1 < period f n * ((longest f n + period f n - 1) / period f n + 1) := by
      have := Nat.lt_mul_div_succ (longest f n + period f n - 1) p0
      exact this
    have b : period f n * ((longest f n + period f n - 1) / period f n) ≤ period f n * m := Nat.mul_le_mul_left _ q1
    rw [Nat.mul_succ] at a
    omega
  have spos : 0 < period f n * m := Nat.mul_pos p0 (by omega)
  refine ⟨by rw [es]; exact spos, ?_, ?_, ?_⟩
  · rw [es]
    by_cases c : (longest f n + period f n - 1) / period f n ≤ 1
    · have : m = 1 := by omega
      rw [this]; omega
    · have e : m = (longest f n + period f n - 1) / period f n := by omega
      rw [e]
      have := Nat.mul_div_le (longest f n + period f n - 1) (period f n)
      omega
  · rw [es]
    exact (isSq_iff hf spos).mpr ⟨fun x hx => Nat.le_trans (longest_ge hx) enough, Nat.mul_mod_right _ _⟩
  · intro t ht hlt hs
    obtain ⟨a, b⟩ := (isSq_iff hf ht).mp hs
    obtain ⟨x, hx, ex⟩ := longest_at (f := f) h0
    have hlt' : longest f n ≤ t := by rw [← ex]; exact a x hx
    obtain ⟨k, rfl⟩ := Nat.dvd_of_mod_eq_zero b
    have k1 : 1 ≤ k := Nat.pos_of_ne_zero fun z => by rw [z] at ht; simp at ht
    rw [es] at hlt
    have hkm : k < m := Nat.lt_of_mul_lt_mul_left hlt
    have : (longest f n + period f n - 1) / period f n ≤ k := by
      have : longest f n + period f n - 1 < period f n * (k + 1) := by rw [Nat.mul_succ]; omega
      have := Nat.div_lt_of_lt_mul this
      omega
    omega
end
end Rg
end

section
set_option Elab.async false
set_option linter.unusedVariables false
namespace Rg
/-! ### rings counted by their length; two counts told apart by what is left alone -/
def L (l : List Nat) (t : Nat) : Nat := (l.filter fun d => t % d == 0).sum
theorem left_L {f : Nat → Nat} {n t : Nat} : left f n t = L (lens f n) t := by
  unfold left L lens
  rw [List.filter_map]
  rfl
theorem L_split (t : Nat) (h0 : 0 < t) : ∀ l : List Nat, L l t = L (l.filter fun d => decide (d < t)) t + t * l.count t
  | [] => by simp [L]
  | a :: l => by
    have ih := L_split t h0 l
    unfold L at ih ⊢
    rw [List.filter_cons]
    by_cases c : a < t
    · rw [List.count_cons_of_ne (show a ≠ t by omega)]
      rw [List.filter_cons_of_pos (p := fun d => decide (d < t)) (by simpa using c)]
      rw [List.filter_cons (p := fun d => t % d == 0) (xs := l.filter fun d => decide (d < t))]
      split
      · rw [List.sum_cons, List.sum_cons, ih]; omega
      · exact ih
    · rw [List.filter_cons_of_neg (p := fun d => decide (d < t)) (by simpa using c)]
      by_cases e : a = t
      · subst e
        rw [List.count_cons_self, if_pos (by simp), List.sum_cons, ih, Nat.mul_succ]; omega
      · rw [List.count_cons_of_ne e, if_neg (by
          rw [Nat.mod_eq_of_lt (by omega)]
          simp
          omega)]
        exact ih
theorem L_below {l l' : List Nat} {t : Nat} (h : ∀ d, d < t → l.count d = l'.count d) : L (l.filter fun d => decide (d < t)) t = L (l'.filter fun d => decide (d < t)) t := by
  have p : (l.filter fun d => decide (d < t)).Perm (l'.filter fun d => decide (d < t)) := by
    rw [List.perm_iff_count]
    intro d
    by_cases c : d < t
    · rw [List.count_filter (by simpa using c), List.count_filter (by simpa using c), h d c]
    · rw [List.count_eq_zero_of_not_mem, List.count_eq_zero_of_not_mem] <;>
      · intro q
        have := (List.mem_filter.mp q).2
        simp at this
        omega
  unfold L
  exact (p.filter _).sum_nat
theorem counts_of_L {l l' : List Nat} (z : l.count 0 = l'.count 0) : ∀ t, (∀ s, 0 < s → s < t → L l s = L l' s) → ∀ d, d < t → l.count d = l'.count d
  | 0, _, d, hd => absurd hd (by omega)
  | t + 1, h, d, hd => by
    have ih := counts_of_L z t fun s h0 hs => h s h0 (by omega)
    by_cases c : d < t
    · exact ih d c
    · have e : d = t := by omega
      subst e
      by_cases h0 : d = 0
      · subst h0; exact z
      · have q := h d (by omega) (by omega)
        rw [L_split d (by omega), L_split d (by omega) l', L_below ih] at q
        have q' : d * l.count d = d * l'.count d := by omega
        exact Nat.eq_of_mul_eq_mul_left (by omega) q'
/-- the first time at which they part is a length of one of them -/
theorem first_in {l l' : List Nat} (z : l.count 0 = l'.count 0) {t : Nat} (h0 : 0 < t) (h : L l t ≠ L l' t) (hb : ∀ s, 0 < s → s < t → L l s = L l' s) : t ∈ l ∨ t ∈ l' := by
  refine Classical.byContradiction fun q => ?_
  have q1 : t ∉ l := fun m => q (.inl m)
  have q2 : t ∉ l' := fun m => q (.inr m)
  refine h ?_
  rw [L_split t h0, L_split t h0 l', L_below (counts_of_L z t hb), List.count_eq_zero_of_not_mem q1, List.count_eq_zero_of_not_mem q2]
theorem L_of_counts {l l' : List Nat} (h : ∀ d, l.count d = l'.count d) (t : Nat) : L l t = L l' t := by
  have p : l.Perm l' := List.perm_iff_count.mpr h
  unfold L
  exact (p.filter _).sum_nat

/-- a least time -/
theorem least_time {p : Nat → Prop} : ∀ t, p t → ∃ s, s ≤ t ∧ p s ∧ ∀ r, r < s → ¬ p r := by
  intro t
  induction t using Nat.strongRecOn with
  | ind t ih =>
    intro h
    by_cases c : ∃ r, r < t ∧ p r
    · obtain ⟨r, hr, q⟩ := c
      obtain ⟨s, hs, a, b⟩ := ih r hr q
      exact ⟨s, by omega, a, b⟩
    · exact ⟨t, Nat.le_refl t, h, fun r hr q => c ⟨r, hr, q⟩⟩

/-- S: the lengths, each once, ascending -/
structure Asc (S l l' : List Nat) : Prop where
  asc : S.Pairwise (· < ·)
  mem : ∀ d, d ∈ S ↔ d ∈ l ∨ d ∈ l'
theorem find_asc {S : List Nat} (h : S.Pairwise (· < ·)) {p : Nat → Bool} {t : Nat} (ht : t ∈ S) (hp : p t = true) (hb : ∀ s ∈ S, s < t → p s = false) : S.find? p = some t := by
  induction S with
  | nil => cases ht
  | cons a S ih =>
    have ⟨h1, h2⟩ := List.pairwise_cons.mp h
    rcases List.mem_cons.mp ht with e | ht
    · subst e; rw [List.find?_cons_of_pos hp]
    · have : a < t := h1 t ht
      rw [List.find?_cons_of_neg (by rw [hb a (by simp) this]; simp)]
      exact ih h2 ht fun s hs => hb s (List.mem_cons_of_mem _ hs)
def apart (l l' : List Nat) : List Nat := ((List.range 60).map (· + 1)).filter fun t => L l t != L l' t
theorem mem_apart {l l' : List Nat} {t : Nat} : t ∈ apart l l' ↔ (0 < t ∧ t ≤ 60) ∧ L l t ≠ L l' t := by
  unfold apart
  rw [List.mem_filter, List.mem_map]
  constructor
  · rintro ⟨⟨a, ha, rfl⟩, h⟩
    have := List.mem_range.mp ha
    exact ⟨⟨by omega, by omega⟩, by simpa using h⟩
  · rintro ⟨⟨h1, h2⟩, h⟩
    exact ⟨⟨t - 1, List.mem_range.mpr (by omega), by omega⟩, by simpa using h⟩
theorem apart_asc {l l' : List Nat} : (apart l l').Pairwise (· < ·) := by
  unfold apart
  refine List.Pairwise.filter _ ?_
  rw [List.pairwise_map]
  exact (List.pairwise_lt_range (n := 60)).imp fun h => by omega
theorem pos_count {l : List Nat} (h : ∀ d ∈ l, 0 < d ∧ d ≤ 6) : l.count 0 = 0 := List.count_eq_zero_of_not_mem fun q => by have := (h 0 q).1; omega
/-- the program's search and the law's -/
theorem told_eq {S l l' : List Nat} (hS : Asc S l l') (h : ∀ d ∈ l, 0 < d ∧ d ≤ 6) (h' : ∀ d ∈ l', 0 < d ∧ d ≤ 6) : S.find? (fun d => L l d != L l' d) = (apart l l').head? := by
  have z : l.count 0 = l'.count 0 := by rw [pos_count h, pos_count h']
  have inS : ∀ d ∈ S, 0 < d ∧ d ≤ 6 := fun d hd => ((hS.mem d).mp hd).elim (h d) (h' d)
  cases e : apart l l' with
  | nil =>
    show _ = none
    rw [List.find?_eq_none]
    intro d hd
    obtain ⟨a, b⟩ := inS d hd
    have q : d ∉ apart l l' := by rw [e]; simp
    rw [mem_apart] at q
    intro w
    exact q ⟨⟨a, by omega⟩, by simpa using w⟩
  | cons t r =>
    show _ = some t
    have ht : t ∈ apart l l' := by rw [e]; simp
    obtain ⟨⟨t0, t60⟩, hd⟩ := mem_apart.mp ht
    have below : ∀ s, 0 < s → s < t → L l s = L l' s := fun s s0 hs => Classical.byContradiction fun q => by
      have hm : s ∈ apart l l' := mem_apart.mpr ⟨⟨s0, by omega⟩, q⟩
      have asc := apart_asc (l := l) (l' := l')
      rw [e] at hm asc
      rcases List.mem_cons.mp hm with w | w
      · omega
      · have := (List.pairwise_cons.mp asc).1 s w
        omega
    refine find_asc hS.asc ((hS.mem t).mpr (first_in z t0 hd below)) (by simpa using hd) fun s hs hlt => ?_
    have := below s (inS s hs).1 hlt
    simpa using this
theorem told_none {l l' : List Nat} (h : ∀ d ∈ l, 0 < d ∧ d ≤ 6) (h' : ∀ d ∈ l', 0 < d ∧ d ≤ 6) : apart l l' = [] ↔ ∀ d, l.count d = l'.count d := by
  have z : l.count 0 = l'.count 0 := by rw [pos_count h, pos_count h']
  constructor
  · intro e
    have all : ∀ s, 0 < s → L l s = L l' s := fun s s0 => Classical.byContradiction fun q => by
      obtain ⟨t, ht, ⟨t0, a⟩, b⟩ := least_time (p := fun s => 0 < s ∧ L l s ≠ L l' s) s ⟨s0, q⟩
      have below : ∀ r, 0 < r → r < t → L l r = L l' r := fun r r0 hr => Classical.byContradiction fun w => b r hr ⟨r0, w⟩
      have t6 : t ≤ 6 := (first_in z t0 a below).elim (fun m => (h t m).2) fun m => (h' t m).2
      have : t ∈ apart l l' := mem_apart.mpr ⟨⟨t0, by omega⟩, a⟩
      rw [e] at this
      cases this
    intro d
    exact counts_of_L z (d + 1) (fun s s0 _ => all s s0) d (by omega)
  · intro e
    rw [List.eq_nil_iff_forall_not_mem]
    intro t ht
    exact (mem_apart.mp ht).2 (L_of_counts e t)

/-! ### how many rings have which length -/
def rn (l : List Nat) : List (Nat × Nat) := (((List.range 6).map (· + 1)).filter fun d => decide (d ∈ l)).map fun d => (d, l.count d)
theorem mem_rn {l : List Nat} (h : ∀ d ∈ l, 0 < d ∧ d ≤ 6) {p : Nat × Nat} : p ∈ rn l ↔ p.1 ∈ l ∧ p.2 = l.count p.1 := by
  unfold rn
  rw [List.mem_map]
  constructor
  · rintro ⟨d, hd, rfl⟩
    exact ⟨by simpa using (List.mem_filter.mp hd).2, rfl⟩
  · rintro ⟨h1, h2⟩
    obtain ⟨a, b⟩ := h _ h1
    refine ⟨p.1, List.mem_filter.mpr ⟨List.mem_map.mpr ⟨p.1 - 1, List.mem_range.mpr (by omega), by omega⟩, by simpa using h1⟩, ?_⟩
    rw [← h2]
theorem rn_asc (l : List Nat) : (rn l).Pairwise fun p q => p.1 < q.1 := by
  unfold rn
  rw [List.pairwise_map]
  refine List.Pairwise.filter _ ?_
  rw [List.pairwise_map]
  exact (List.pairwise_lt_range (n := 6)).imp fun h => by omega
theorem rn_eq_iff {l l' : List Nat} (h : ∀ d ∈ l, 0 < d ∧ d ≤ 6) (h' : ∀ d ∈ l', 0 < d ∧ d ≤ 6) : rn l = rn l' ↔ ∀ d, l.count d = l'.count d := by
  constructor
  · intro e d
    by_cases c : d ∈ l
    · have m : (d, l.count d) ∈ rn l := (mem_rn h).mpr ⟨c, rfl⟩
      rw [e] at m
      exact ((mem_rn h').mp m).2
    · by_cases c' : d ∈ l'
      · have m : (d, l'.count d) ∈ rn l' := (mem_rn h').mpr ⟨c', rfl⟩
        rw [← e] at m
        exact ((mem_rn h).mp m).2.symm
      · rw [List.count_eq_zero_of_not_mem c, List.count_eq_zero_of_not_mem c']
  · intro e
    unfold rn
    have : (fun d => decide (d ∈ l)) = fun d => decide (d ∈ l') := by
      funext d
      have : d ∈ l ↔ d ∈ l' := by rw [← List.count_pos_iff, ← List.count_pos_iff, e]
      exact decide_eq_decide.mpr this
    rw [this]
    exact List.map_congr_left fun d _ => by rw [e]
end Rg
end

section
set_option Elab.async false
set_option linter.unusedVariables false
namespace Rg
section
variable {f : Nat → Nat} {n : Nat}
/-! ### the program's search for the rings: ms what is met, fs what is found behind i starts -/
def pre (f : Nat → Nat) (h k : Nat) : List Nat := (List.range k).map fun j => it f j h
theorem pre_succ (h k : Nat) : pre f h (k + 1) = pre f h k ++ [it f k h] := by
  unfold pre
  rw [List.range_succ, List.map_append]
  rfl
theorem pre_per (h : Nat) : pre f h (per f n h) = orbit f n h := rfl
structure Met (f : Nat → Nat) (n i : Nat) (ms : List Nat) (fs : List (List Nat)) : Prop where
  from_ : ∀ y, y ∈ ms ↔ ∃ j, j < i ∧ y ∈ orbit f n (it f n j)
  nd : ms.Nodup
  fnd : fs.Nodup
  ring : ∀ r ∈ fs, r ∈ rings f n
  in_ : ∀ y, y ∈ ms ↔ ∃ r ∈ fs, y ∈ r
theorem Met.start : Met f n 0 [] [] := ⟨by simp, List.nodup_nil, List.nodup_nil, by simp, by simp⟩
theorem start_on (hf : ∀ x, x < n → f x < n) {i : Nat} (hi : i < n) : on f n (it f n i) = true := tl_le_of hf hi (by omega)
theorem Met.lt (hf : ∀ x, x < n → f x < n) {i : Nat} {ms : List Nat} {fs : List (List Nat)} (M : Met f n i ms fs) (hi : i ≤ n) {y : Nat} (hy : y ∈ ms) : y < n := by
  obtain ⟨j, hj, q⟩ := (M.from_ y).mp hy
  exact orbit_lt hf (it_lt hf (by omega) n) q
theorem Met.small (hf : ∀ x, x < n → f x < n) {i : Nat} {ms : List Nat} {fs : List (List Nat)} (M : Met f n i ms fs) (hi : i ≤ n) : ms.length ≤ n := by
  have := List.Nodup.length_le_of_subset M.nd (l₂ := List.range n) fun y hy => List.mem_range.mpr (M.lt hf hi hy)
  rwa [List.length_range] at this
/-- closed: with one state its whole ring -/
theorem Met.closed {i : Nat} {ms : List Nat} {fs : List (List Nat)} (hf : ∀ x, x < n → f x < n) (hi : i ≤ n) (M : Met f n i ms fs) {x y : Nat} (hx : on f n x = true) (hy : y ∈ orbit f n x) (h : y ∈ ms) : x ∈ ms := by
  obtain ⟨j, hj, q⟩ := (M.from_ y).mp h
  have o := start_on hf (show j < n by omega)
  exact (M.from_ x).mpr ⟨j, hj, orbit_trans o q (orbit_back hx hy)⟩
/-- while here not in met: the test at the k-th turn -/
theorem Met.test (hf : ∀ x, x < n → f x < n) {i : Nat} {ms : List Nat} {fs : List (List Nat)} (M : Met f n i ms fs) (hi : i < n) (hn : it f n i ∉ ms) {k : Nat} (hk : k ≤ per f n (it f n i)) :
    it f k (it f n i) ∈ ms ++ pre f (it f n i) k ↔ k = per f n (it f n i) := by
  have o := start_on hf hi
  generalize it f n i = h at hn hk o ⊢
  rw [List.mem_append]
  constructor
  · rintro (q | q)
    · exact absurd (M.closed hf (Nat.le_of_lt hi) o (mem_orbit_it o k) q) hn
    · unfold pre at q
      obtain ⟨j, hj, e⟩ := List.mem_map.mp q
      have hj := List.mem_range.mp hj
      refine Classical.byContradiction fun z => ?_
      have := it_inj_lt o (show j < per f n h by omega) (show k < per f n h by omega) e
      omega
  · intro e
    right
    have h0 : 0 < per f n h := Nat.pos_of_ne_zero (on_iff.mp o)
    unfold pre
    refine List.mem_map.mpr ⟨0, List.mem_range.mpr (by omega), ?_⟩
    rw [e]
    exact (per_spec (on_iff.mp o)).1.symm
/-- a ring said from its j-th state on -/
theorem rot {h j : Nat} (o : on f n h = true) (hj : j < per f n h) : (orbit f n h).drop j ++ (orbit f n h).take j = orbit f n (it f j h) := by
  apply List.ext_getElem?
  intro i
  have hl := orbit_len (f := f) (n := n) h
  have hp := per_it o j
  have h1 := (per_spec (on_iff.mp o)).1
  have get : ∀ x m, m < per f n x → (orbit f n x)[m]? = some (it f m x) := fun x m hm => by
    unfold orbit
    rw [List.getElem?_map, List.getElem?_range hm]; rfl
  by_cases c : i < per f n h
  · rw [get _ i (by rw [hp]; exact c)]
    by_cases d : i < per f n h - j
    · rw [List.getElem?_append_left (by rw [List.length_drop, hl]; exact d), List.getElem?_drop, get h (j + i) (by omega), Nat.add_comm j i, it_add]
    · rw [List.getElem?_append_right (by rw [List.length_drop, hl]; omega), List.length_drop, hl, List.getElem?_take_of_lt (by omega), get h _ (by omega)]
      have e : i + j = (i - (per f n h - j)) + per f n h := by omega
      rw [← it_add, e, it_add, h1]
  · rw [List.getElem?_eq_none, List.getElem?_eq_none]
    · rw [orbit_len, hp]
      omega
    · rw [List.length_append, List.length_drop, List.length_take, hl]
      omega
theorem orbit_at {h m : Nat} (q : m ∈ orbit f n h) : ∃ j, j < per f n h ∧ it f j h = m ∧ (orbit f n h)[j]? = some m := by
  obtain ⟨j, hj, e⟩ := mem_orbit.mp q
  refine ⟨j, hj, e, ?_⟩
  unfold orbit
  rw [List.getElem?_map, List.getElem?_range hj, ← e]; rfl
theorem orbit_mem_eq {h m : Nat} (o : on f n h = true) (q : m ∈ orbit f n h) (y : Nat) : y ∈ orbit f n m ↔ y ∈ orbit f n h :=
  ⟨fun z => orbit_trans o q z, fun z => orbit_trans (orbit_on o q).1 (orbit_back o q) z⟩
theorem Met.old (hf : ∀ x, x < n → f x < n) {i : Nat} {ms : List Nat} {fs : List (List Nat)} (M : Met f n i ms fs) (hi : i < n) (h : it f n i ∈ ms) : Met f n (i + 1) ms fs := by
  refine ⟨fun y => ?_, M.nd, M.fnd, M.ring, M.in_⟩
  constructor
  · intro hy
    obtain ⟨j, hj, q⟩ := (M.from_ y).mp hy
    exact ⟨j, by omega, q⟩
  · rintro ⟨j, hj, q⟩
    by_cases c : j < i
    · exact (M.from_ y).mpr ⟨j, c, q⟩
    · have e : j = i := by omega
      subst e
      have o := start_on hf hi
      exact M.closed hf (Nat.le_of_lt hi) (orbit_on o q).1 (orbit_back o q) h
theorem Met.new (hf : ∀ x, x < n → f x < n) {i : Nat} {ms : List Nat} {fs : List (List Nat)} (M : Met f n i ms fs) (hi : i < n) (h : it f n i ∉ ms) {m : Nat} (hm : m ∈ orbit f n (it f n i)) (hl : ∀ y ∈ orbit f n (it f n i), m ≤ y) :
    Met f n (i + 1) (ms ++ orbit f n (it f n i)) (fs ++ [orbit f n m]) := by
  have o := start_on hf hi
  have hlt := it_lt hf hi n
  refine ⟨fun y => ?_, ?_, ?_, fun r hr => ?_, fun y => ?_⟩
  · rw [List.mem_append]
    constructor
    · rintro (q | q)
      · obtain ⟨j, hj, q⟩ := (M.from_ y).mp q
        exact ⟨j, by omega, q⟩
      · exact ⟨i, by omega, q⟩
    · rintro ⟨j, hj, q⟩
      by_cases c : j < i
      · exact .inl ((M.from_ y).mpr ⟨j, c, q⟩)
      · have e : j = i := by omega
        subst e
        exact .inr q
  · unfold List.Nodup
    rw [List.pairwise_append]
    refine ⟨M.nd, orbit_nodup o, fun a ha b hb e => ?_⟩
    subst e
    exact h (M.closed hf (Nat.le_of_lt hi) o hb ha)
  · unfold List.Nodup
    rw [List.pairwise_append]
    refine ⟨M.fnd, by simp, fun a ha b hb e => ?_⟩
    have e' : b = orbit f n m := by simpa using hb
    rw [e', ] at e
    have q : it f n i ∈ orbit f n m := orbit_back o hm
    exact h ((M.in_ _).mpr ⟨a, ha, by rw [e]; exact q⟩)
  · rcases List.mem_append.mp hr with q | q
    · exact M.ring r q
    · have e : r = orbit f n m := by simpa using q
      refine mem_rings.mpr ⟨m, orbit_lt hf hlt hm, isLeast_iff.mpr ⟨(orbit_on o hm).1, fun y hy => hl y ((orbit_mem_eq o hm y).mp hy)⟩, e.symm⟩
  · rw [List.mem_append, M.in_]
    constructor
    · rintro (⟨r, hr, q⟩ | q)
      · exact ⟨r, List.mem_append_left _ hr, q⟩
      · exact ⟨orbit f n m, List.mem_append_right _ (by simp), (orbit_mem_eq o hm y).mpr q⟩
    · rintro ⟨r, hr, q⟩
      rcases List.mem_append.mp hr with z | z
      · exact .inl ⟨r, z, q⟩
      · have e : r = orbit f n m := by simpa using z
        rw [e] at q
        exact .inr ((orbit_mem_eq o hm y).mp q)
theorem rings_nodup : (rings f n).Nodup := by
  unfold rings List.Nodup
  rw [List.pairwise_map]
  refine List.Pairwise.imp_of_mem ?_ ((List.pairwise_lt_range (n := n)).filter _)
  intro a b ha hb hab e
  have la := (List.mem_filter.mp ha).2
  have lb := (List.mem_filter.mp hb).2
  have q : a ∈ orbit f n b := by rw [← e]; exact mem_orbit_it (isLeast_iff.mp la).1 0
  have := least_one la lb (mem_orbit_it (isLeast_iff.mp la).1 0) q
  omega
/-- behind all starts all rings are found -/
theorem Met.all (hf : ∀ x, x < n → f x < n) {ms : List Nat} {fs : List (List Nat)} (M : Met f n n ms fs) : fs.Perm (rings f n) := by
  refine (List.perm_ext_iff_of_nodup M.fnd rings_nodup).mpr fun r => ⟨M.ring r, fun hr => ?_⟩
  obtain ⟨x, hx, hl, rfl⟩ := mem_rings.mp hr
  have o := (isLeast_iff.mp hl).1
  have h1 := (per_spec (on_iff.mp o)).1
  have h0 : 0 < per f n x := Nat.pos_of_ne_zero (on_iff.mp o)
  -- a start that comes to x
  have hle : n ≤ per f n x * n := Nat.le_mul_of_pos_left n h0
  have e : it f n (it f (per f n x * n - n) x) = x := by
    rw [← it_add, Nat.add_comm, Nat.sub_add_cancel hle, it_mul_fix f h1]
  have hm : x ∈ ms := (M.from_ x).mpr ⟨it f (per f n x * n - n) x, it_lt hf hx _, by rw [e]; exact mem_orbit_it o 0⟩
  obtain ⟨r, hr', hxr⟩ := (M.in_ x).mp hm
  obtain ⟨z, hz, hlz, rfl⟩ := mem_rings.mp (M.ring r hr')
  have := least_one hl hlz (mem_orbit_it o 0) hxr
  rw [this]
  exact hr'

/-! ### the law's search: a walk from each state -/
/-- the rings of the states below x -/
def ringsTo (f : Nat → Nat) (n x : Nat) : List (List Nat) := ((List.range x).filter (isLeast f n)).map (orbit f n)
theorem ringsTo_all : ringsTo f n n = rings f n := rfl
theorem ringsTo_succ (x : Nat) : ringsTo f n (x + 1) = ringsTo f n x ++ (if isLeast f n x then [orbit f n x] else []) := by
  unfold ringsTo
  rw [List.range_succ, List.filter_append, List.map_append]
  congr 1
  by_cases c : isLeast f n x = true
  · rw [if_pos c, List.filter_cons_of_pos c]; rfl
  · rw [if_neg c, List.filter_cons_of_neg c]; rfl
/-- it comes back at the k-th step for the first time: k is its ring's length -/
theorem per_first {x k : Nat} (hk : 0 < k) (hkn : k ≤ n) (h : it f k x = x) (hb : ∀ j, 0 < j → j < k → it f j x ≠ x) : per f n x = k := by
  have hp := per_pos_of hk hkn h
  obtain ⟨h1, h2, h3⟩ := per_spec hp
  have h0 : 0 < per f n x := Nat.pos_of_ne_zero hp
  rcases Nat.lt_trichotomy (per f n x) k with c | c | c
  · exact absurd h1 (hb _ h0 c)
  · exact c
  · exact absurd h (h3 k hk c)
theorem not_on_of {x : Nat} (h : ∀ j, 0 < j → j ≤ n → it f j x ≠ x) : on f n x = false := by
  cases e : on f n x with
  | false => rfl
  | true =>
    obtain ⟨h1, h2, _⟩ := per_spec (on_iff.mp e)
    exact absurd h1 (h _ (Nat.pos_of_ne_zero (on_iff.mp e)) h2)
theorem isLeast_of_not_on {x : Nat} (h : on f n x = false) : isLeast f n x = false := by
  unfold isLeast; rw [h]; rfl
/-- the states on rings, ascending -/
def core (f : Nat → Nat) (n : Nat) : List Nat := (List.range n).filter (on f n)
theorem core_perm (hf : ∀ x, x < n → f x < n) : (core f n).Perm (rings f n).flatten := by
  refine (List.perm_ext_iff_of_nodup (filter_nodup List.nodup_range) flat_nodup).mpr fun y => ?_
  rw [mem_flat hf]
  show y ∈ (List.range n).filter (on f n) ↔ _
  rw [List.mem_filter, List.mem_range]
theorem core_asc : (core f n).Pairwise (· < ·) := (List.pairwise_lt_range (n := n)).filter _
theorem core_fix (hf : ∀ x, x < n → f x < n) (h6 : n ≤ 6) : ((List.range n).filter fun x => x == it f (period f n) x) = core f n := by
  unfold core
  refine List.filter_congr fun x hx => ?_
  have hx := List.mem_range.mp hx
  obtain ⟨p0, _⟩ := period_pos (f := f) h6
  rw [Bool.eq_iff_iff]
  constructor
  · intro e
    have e : x = it f (period f n) x := by simpa using e
    exact on_of hf hx p0 e.symm
  · intro o
    obtain ⟨r, hr, hy⟩ := List.mem_flatten.mp ((mem_flat hf).mpr ⟨hx, o⟩)
    have q : it f (period f n) x = x := (back_iff o _).mpr (by rw [ring_len_of hr hy]; exact period_all r hr)
    simp [q]
end

/-! ### the greatest common divisor by hand -/
theorem gcd_turn (a b : Nat) (h : 0 < b) : Nat.gcd b (a % b) = Nat.gcd a b := by
  rw [Nat.gcd_comm a b, Nat.gcd_rec b a, Nat.gcd_comm]
theorem lcm_by {a b : Nat} : a / Nat.gcd a b * b = Nat.lcm a b := by
  unfold Nat.lcm
  rw [Nat.mul_comm, ← Nat.mul_div_assoc _ (Nat.gcd_dvd_left a b), Nat.mul_comm]
end Rg
end

section
set_option Elab.async false
set_option linter.all false
set_option maxRecDepth 100000
set_option maxHeartbeats 4000000
/-! Defs that lean on it that no repr is under way (repr of lists and tuples asks that); repr as a rule; the law's end for such a def. -/
namespace R3
open PySem PySem.Spec PyProof.Rows L2

/-- a def's promise, kept where nothing guards the stack -/
structure FnG (P : Program) (w : World) (K : PySem.W.Frag) (mg : Str → Option Value) (base : Heap) (CX : CXT) (k : Nat) (f : Addr) (fd : FuncData) (ps : List Str) (sp : Sp) : Prop where
  size : ∀ vs H Q E, sp vs H Q E → vs.length = ps.length
  go : ∀ (A : Around) (around : List Env) (s : Shared) (H : Hp) (args : Args) (us : List Value) (vs : List V) (Q : VK) (E : XK), A.guards = some [] → Room k A → Env0 P w K mg base A around s H →
    BindsTo s fd args (ps.zip us) → Vals vs us → sp vs H Q E → codeAny (model P w) A (.call (.ref f) args) (CR CX around P w H s Q E) s

section
variable {X : Cx} {CX : CXT} {k : Nat} {f : Addr} {fd : FuncData} {ps : List Str} {sp : Sp} {E : XK} {x : Str} {p pos : Pos} {e : Expr} {es : List Expr} {t : TA}
theorem callG (F : FnG X.prog X.w X.K X.mg X.base CX k f fd ps sp) (gd : X.A.guards = some []) (room : Room k X.A) (bi : Binds X.K fd ps []) (out : Passes CX X E)
    {pins : List (Addr × Obj)} {σ : L2.St} {H : Hp} {s : Shared} {Q : VK} {us : List Value} {vs : List V} (I : Inv X pins σ H s) (r : Vals vs us) (h : sp vs H Q E) :
    wpAny (model X.prog X.w) X.A (call (.ref f) us) (EP X pins σ Q) X.xe s := by
  have n : us.length = ps.length := r.length.symm.trans (F.size _ _ _ _ h)
  have b := bi s us I.kIn (by rw [List.append_nil]; exact n)
  rw [List.append_nil] at b
  have run := F.go X.A X.stack s H ⟨us, []⟩ us vs Q E gd room I.env0 b r h
  refine wpAny_call (codeAny_mono run fun z s' got => ?_)
  cases z with
  | error err => exact out pins σ H s err s' I got
  | ok fl =>
    cases fl <;> first
      | exact I.after got
      | exact (show False from got).elim
/-- f(..) -/
def tCallG (sp : Sp) (E : XK) (t : TA) : TE := fun σ H Q => t σ H fun vs H1 => sp vs H1 Q E
theorem pe_callG (F : FnG X.prog X.w X.K X.mg X.base CX k f fd ps sp) (gd : X.A.guards = some []) (room : Room k X.A) (hg : Gl X x) (hm : X.mg x = some (.ref f)) (hk : PySem.W.keepIn X.K (.ref f) = true) (bi : Binds X.K fd ps []) (out : Passes CX X E)
    (ha : PA X (e :: es) t) (hdb : (x == ("__debug__" : Str)) = false := by decide) (he : starEach (e :: es) X.env = (false, eval e X.env) :: starEach es X.env := by rfl) (hpl : (backTo pos (starEach es X.env)).any (·.1) = false := by rfl) :
    PE X (.Call (.Name x p) (e :: es) [] pos) (tCallG sp E t) :=
  ⟨fun pins s σ H Q I h => wpAny_Call_Name_kw (ld_glob I hg hm
    (PySem.W.callWith_K (h₀ := X.base) I.ok.mod.kin hk (thn (ha.run pos pins s σ H _ I h) fun us s1 ⟨vs, H1, I1, r, q⟩ =>
      ⟨I1.kIn, callG F gd room bi out I1 r q⟩) he hpl) hdb)⟩
end

section
variable {P : Program} {w : World} {K : PySem.W.Frag} {mg : Str → Option Value} {base : Heap}
/-- such a def by its body -/
theorem okG {x qual : Str} {st : Stmt} {f : Addr} {fd : FuncData} {N ps : List Str} {k : Nat} {sp : Sp} (F : Fun K x qual st f fd) (S : FnScope N ps (defScope st)) (len : ∀ vs H Q E, sp vs H Q E → vs.length = ps.length)
    (body : ∀ (cdv : Value) (A : Around) (outer : List Env) (s : Shared) (H : Hp) (vs : List V) (Q : VK) (E : XK), A.guards = some [] → Room k (A.deeper (envOfC qual (defScope st) s.heap.objs.size f cdv)) → sp vs H Q E →
      ∃ t, PSs (cxOf CX0 P w K mg base N qual (defScope st) f cdv A outer s H E).nox (defBody st) t ∧ t { nx := fun _ H' => Q .non H', rt := Q } (start N vs) H) : FnG P w K mg base CX0 (k + 1) f fd ps sp := by
  obtain ⟨oc, od, kV, doc, pm, an, cdv, ct, osl, rfl, lk, hcd⟩ := F.ex
  refine ⟨len, fun A outer s H args us vs Q E gd hr e0 hb r hsp => ?_⟩
  have keepK : ∀ b o, base.get? b = some o → s.heap.get? b = some o := fun b o e => (e0.bs b o e).1
  have KX : K.In s.heap := e0.mod.kin.keeps keepK
  have places : ∀ y ∈ ps.zip us, (defScope st).names.lookup y.1 = some .local ∨ ((defScope st).names.lookup y.1 = some .cell ∧ ((cellsFrom (s.heap.objs.size + 1) (defScope st).names []).lookup y.1).isSome = true) := fun ⟨n, v⟩ hy =>
    (S.par n (List.of_mem_zip hy).1).imp id fun q => ⟨q, PySem.W.cellsFrom_some _ _ _ (.inl q)⟩
  refine codeAny_call_function hr.depth (KX _ _ lk) rfl S.co S.gen rfl (PySem.W.codeRec_of KX hcd) (hb _ _ _ _ (wpAny_newFunctionEnv_cells S.kind places fun env he s1 x => ?_))
  subst he
  obtain ⟨t, ht, hq⟩ := body cdv A outer s H vs Q E gd (hr.deeper _) hsp
  have I := inv_start (CX := CX0) (E := E) S hr.hd e0 (len _ _ _ _ hsp) r x
  refine ⟨(e0.mod.nolimit.keeps keepK).keeps x.toInCall.keep, codeAny_func (wpAny_mono (ht.nox.run [] s1 _ H _ I hq) (fun fl s' hs => ?_) fun e s' hs => hs)⟩
  rcases fl with _ | _ | _ | u
  · obtain ⟨σ', H', J, q⟩ := hs
    exact ⟨V.non, H', J.os, J.bare, J.base, J.hok, rfl, q⟩
  all_goals first
    | (obtain ⟨_, _, _, q⟩ := hs; exact q.elim)
    | (obtain ⟨v, _, H', J, rv, q⟩ := hs; exact ⟨v, H', J.os, J.bare, J.base, J.hok, rv, q⟩)

/-- the law's call from the outside -/
theorem law_callG {mb : Str → Option Value} {k : Nat} {fa a : Addr} {fd : FuncData} {x : Str} {sp : Sp} {s₁ : Shared} {vs : List Value} {ns : List Int}
    (KX : K.In s₁.heap) (hns : s₁.heap.Ns mainGlobals mg) (hb : s₁.heap.Ns builtinsNs mb) (hbb : ∀ x : Str, x ≠ "__name__" → mb x = bootBuiltins x) (hlim : s₁.heap.NoLimit) (hg : s₁.gens = #[])
    (ha : s₁.heap.get? a = some { cls := .type "list", data := .seq vs.toArray }) (hi : IntsAre vs ns) (hl : ns.length ≤ sizeLine) (hr : Room k callerA)
    (F : ∀ base : Heap, K.In base → base.Ns mainGlobals mg → FnG P w K mg base CX0 k fa fd [x] sp) (hbind : ∀ (s : Shared) (u : Value), BindsTo s fd ⟨[u], []⟩ [(x, u)])
    (hsp : ∀ H : Hp, SqL K H a (ns.map V.int) → sp [.ref a] H (fun v _ => v = .bl true) fun _ _ _ => False) :
    codeAny (model P w) callerA (.call (.ref fa) ⟨[.ref a], []⟩) (fun r s' => r = .ok (.ret (.bool true)) ∧ OldK s₁.heap s'.heap ∧ s'.os = s₁.os ∧ AllBare s'.gens) s₁ := by
  have rv : Vals (ns.map V.int) vs := vals_ints hi
  -- what is tracked at the entry: at most the script, locked
  have main : ∀ H : Hp, SqL K H a (ns.map V.int) → HOk P w H s₁.heap → (∀ b u, H b = some u → b = a ∧ K.lookup a = none ∧ ∃ o xs, u = .frz o (.lst xs)) →
      codeAny (model P w) callerA (.call (.ref fa) ⟨[.ref a], []⟩) (fun r s' => r = .ok (.ret (.bool true)) ∧ OldK s₁.heap s'.heap ∧ s'.os = s₁.os ∧ AllBare s'.gens) s₁ := by
    intro H hS hok hT
    have seen : ∀ {b : Addr} {o : Obj}, s₁.heap.get? b = some o → (∀ u, H b ≠ some u) → (hidT s₁.heap H).get? b = some o := fun {b o} e z => hidT_get e (by
      cases q : H b with
      | none => rfl
      | some u => exact absurd q (z u))
    have names : ∀ {b : Addr} {m : Str → Option Value}, s₁.heap.Ns b m → (hidT s₁.heap H).Ns b m := by
      rintro b m ⟨o, es, ep, e, d, r⟩
      refine ⟨o, es, ep, seen e fun u q => ?_, d, r⟩
      obtain ⟨rfl, _⟩ := hT b u q
      rw [ha] at e
      cases e
      cases (show Data.seq vs.toArray _ = Data.dict es ep from d)
    have inK : K.In (hidT s₁.heap H) := fun b o e => seen (KX b o e) fun u q => by
      obtain ⟨rfl, z, _⟩ := hT b u q
      rw [z] at e
      cases e
    have md : Mod K mg (hidT s₁.heap H) := ⟨inK, names hns, ⟨mb, names hb, hbb⟩, hlim.elim fun mc z => ⟨mc, names z.1, z.2⟩⟩
    have e0 : Env0 P w K mg (hidT s₁.heap H) callerA [] s₁ H := ⟨rfl, md, fun b o e => of_hidT e, Nat.le_of_eq (hidT_size _ _), trivial, fun b z => (List.not_mem_nil z).elim, hok, .of_eq hg⟩
    have run := (F _ inK (names hns)).go callerA [] s₁ H ⟨[.ref a], []⟩ [.ref a] [.ref a] _ _ rfl hr e0 (hbind s₁ (.ref a)) (.cons rfl .nil) (hsp H hS)
    refine codeAny_mono run fun r s' got => ?_
    cases r with
    | error err => exact (show False from got).elim
    | ok fl =>
      rcases fl with _ | _ | _ | u <;> first
        | exact (show False from got).elim
        | skip
      obtain ⟨v, H', os, bare, un, hok', r', q⟩ := got
      have ev : v = .bl true := q
      subst ev
      cases (show u = Value.bool true from r')
      refine ⟨rfl, OldK.of_keep fun b o e => ?_, os, bare⟩
      cases q : H b with
      | none => exact un.keep b o e q (fun z => (List.not_mem_nil z).elim) (fun z => (List.not_mem_nil z).elim)
      | some u =>
        obtain ⟨_, _, ob, xs, rfl⟩ := hT b u q
        have e1 := (hok b _ q).1
        have e2 := (hok' b _ (un.frzs b ob _ q)).1
        rw [e] at e1
        rw [e2, ← e1]
  cases hk : K.lookup a with
  | some o =>
    have e := KX a o hk
    rw [ha] at e
    cases e
    have hz : vs.toArray.size ≤ sizeLine := by rw [List.size_toArray, hi.length]; exact hl
    exact main (fun _ => none) (.inr ⟨_, vs.toArray, _, hk, rfl, rfl, rfl, hz, by simpa using rv⟩) (fun b u z => nomatch z) fun b u z => nomatch z
  | none =>
    have hz : (ns.map V.int).length ≤ sizeLine := by rw [List.length_map]; exact hl
    have here : upd (fun _ => none) a (.frz { cls := .type "list", data := .seq vs.toArray } (.lst (ns.map V.int))) a = some _ := upd_same
    have only : ∀ b u, upd (fun _ => none) a (.frz { cls := .type "list", data := .seq vs.toArray } (.lst (ns.map V.int))) b = some u → b = a ∧ u = .frz { cls := .type "list", data := .seq vs.toArray } (.lst (ns.map V.int)) := fun b u z => by
      by_cases c : b = a
      · subst c
        rw [upd_same] at z
        exact ⟨rfl, (Option.some.inj z).symm⟩
      · rw [upd_ne c] at z
        cases z
    refine main _ (.inl (.inr ⟨_, here⟩)) (fun b u z => ?_) fun b u z => ?_
    · obtain ⟨rfl, rfl⟩ := only b u z
      exact ⟨ha, hz, vs, _, rv, ha⟩
    · obtain ⟨rfl, rfl⟩ := only b u z
      exact ⟨rfl, hk, _, _, rfl⟩
end
/-- the end of a law row whose def is such a one -/
theorem walk_ofG {l : PySem.W.OpenLaw} {n k : Nat} {q : Program} {loose : List Str} {XP : (Str → Option Value) → Heap → Prop} {YP : World → Heap → Prop} {d : DefRec} {K : Params → PySem.W.Frag} {sp : PySem.W.Frag → Sp} {x : Str}
    (hn : l.most = some n) (hn2 : n ≤ sizeLine) (hdf : d.params.defaults = []) (hr : Room k callerA)
    (hY : ∀ (w : World) (h : Heap), YP w h → (K w.params).In h)
    (F : ∀ (w : World) (mg : Str → Option Value) (fa : Addr) (h : Heap), (K w.params).In h → h.Ns mainGlobals mg → mg d.name = some (.ref fa) →
      ∃ fd : FuncData, (∀ (s : Shared) (u : Value), BindsTo s fd ⟨[u], []⟩ [(x, u)]) ∧
        ∀ base : Heap, (K w.params).In base → base.Ns mainGlobals mg → FnG l.prog w (K w.params) mg base CX0 k fa fd [x] (sp (K w.params)))
    (hsp : ∀ (K : PySem.W.Frag) (H : Hp) (a : Addr) (ns : List Int), ns.length ≤ n → SqL K H a (ns.map V.int) → sp K [.ref a] H (fun v _ => v = .bl true) fun _ _ _ => False) :
    PySem.W.WalkO q loose XP YP l.row.toRowW d [] (fun f vs => PySem.call f vs) :=
  Att.attach_call hn hdf fun w s₀ s₁ mg mb fa o pm cd doc a vs ns G Y ho hd hcd hmg hobj hints hlen hg => by
    have KX := hY w _ Y
    obtain ⟨fd, hb, hF⟩ := F w mg fa _ KX G.T.g hmg
    exact law_callG KX G.T.g G.T.b G.T.builtins G.T.nolimit hg hobj hints (Nat.le_trans hlen hn2) hr hF hb fun H hS => hsp _ H a ns hlen hS

/-! ### repr(x), x data of any depth -/
def rRep (K : PySem.W.Frag) : List V → Hp → VK → Prop := fun xs H Q => ∃ (v : V) (d : PyData), xs = [v] ∧ Dp K H v d ∧ d.showable = true ∧ d.hasDict = false ∧ d.depth ≤ 40 ∧ d.shown.length ≤ sizeLine ∧ Q (.str d.shown) H
theorem call_rep {X : Cx} (gd : X.A.guards = some []) (hu : X.A.units + 64 < cLine) : CallR X (.builtin "repr") (rRep X.K) := by
  intro pins s σ H xs us Q I r h
  obtain ⟨v, d, rfl, hd, hs, hx, dep, hz, q⟩ := h
  obtain ⟨u, rfl, ru⟩ := vals1 r
  have flat : ∀ {t : Nat}, EP X pins σ Q (.str d.shown t) { s with toks := s.toks + 1 } := fun {t} => ⟨.str d.shown, H, I.tok _, ⟨t, rfl⟩, q⟩
  have deep : ∀ {b : Addr}, Dp X.K H (.ref b) d → wpAny (model X.prog X.w) X.A (call (.builtin "repr") [.ref b]) (EP X pins σ Q) X.xe s := fun {b} hd => by
    obtain ⟨as, rd⟩ := Dp.reads I d (.ref b) (.ref b) hd rfl
    exact repr_of_reads' rd hs (fun z => by rw [hx] at z; cases z) gd (by omega) (fun _ _ e => e) (fun h' u tk k => ⟨.str d.shown, H, I.kept k, ⟨u, rfl⟩, q⟩) hz
  cases hd with
  | non =>
    cases (show u = Value.none from ru)
    exact P.repr_of_none (by rw [PyData.shown_none] at flat; exact flat)
  | bl b =>
    cases (show u = Value.bool b from ru)
    exact P.repr_of_bool (by rw [PyData.shown_bool] at flat; exact flat)
  | int i =>
    obtain ⟨t, rfl⟩ := ru
    exact P.repr_of_int (by simpa [PyData.showable] using hs) (by rw [PyData.shown_int] at flat; exact flat)
  | str x =>
    obtain ⟨t, rfl⟩ := ru
    exact P.repr_of_str (by rw [PyData.shown_str] at flat; exact flat) (by rw [PyData.shown_str] at hz; exact hz)
  | lst a1 a2 =>
    cases (show u = Value.ref _ from ru)
    exact deep (.lst a1 a2)
  | tup a1 a2 =>
    cases (show u = Value.ref _ from ru)
    exact deep (.tup a1 a2)
end R3
end

section
set_option Elab.async false
set_option linter.all false
set_option maxRecDepth 100000
set_option maxHeartbeats 4000000
/-! Dict and set comprehensions with two clauses, no ifs. -/
namespace R3
open PySem PySem.Spec PyProof.Rows L2

/-- which of the two: a dict's key and value, a set's item -/
inductive Two where
  | dict (kx vx : Expr)
  | set (ex : Expr)
def Two.expr (k : Two) (gens : List Comprehension) (scope : Scope) (pos : Pos) : Expr := match k with
  | .dict kx vx => .DictComp kx vx gens scope pos
  | .set ex => .SetComp ex gens scope pos
def Two.put (k : Two) (D : Addr) (env : Env) : Sem Unit := match k with
  | .dict kx vx => do
    let kv ← eval kx env
    let vv ← holding [kv] (eval vx env)
    standAt { kx.pos with endLine := vx.pos.endLine, endCol := vx.pos.endCol }
    holding [kv, vv] (dictSet D kv vv)
  | .set ex => do
    let v ← eval ex env
    standAt ex.pos
    let _ ← call (.builtin "set.add") [.ref D, v]
section
variable {t0 i0 t1 i1 : Expr} {scope : Scope} {pos : Pos} {it : Value} {D : Addr} {env : Env}
abbrev cl2 (t0 i0 t1 i1 : Expr) : List Comprehension := [⟨t0, i0, [], 0⟩, ⟨t1, i1, [], 0⟩]
theorem Two.turn0 (k : Two) : compTurn (k.expr (cl2 t0 i0 t1 i1) scope pos) 0 it (.ref D) env = (do
      standAt i0.pos
      match ← pyNext it with
      | none => pure (.done .next)
      | some v =>
        letOwnedTupleGo t0 it v
        assign t0 env v
        let x ← eval i1 env
        standAt i1.pos
        let x ← foldedSetIterable i1 env x
        let _ ← runOwn (.compStart (k.expr (cl2 t0 i0 t1 i1) scope pos) 1 (← holding [x] (pyIter x)) (.ref D) env) env
        again (.compLoop (k.expr (cl2 t0 i0 t1 i1) scope pos) 0 it (.ref D) env)) := by cases k <;> rfl
theorem Two.turn1 (k : Two) : compTurn (k.expr (cl2 t0 i0 t1 i1) scope pos) 1 it (.ref D) env = (do
      standAt i1.pos
      match ← pyNext it with
      | none => pure (.done .next)
      | some v =>
        letOwnedTupleGo t1 it v
        assign t1 env v
        k.put D env
        again (.compLoop (k.expr (cl2 t0 i0 t1 i1) scope pos) 1 it (.ref D) env)) := by cases k <;> rfl

variable {prog : Program} {w : World} {A : Around} {R : Result → Shared → Prop} {s : Shared}
/-- a clause's loop by its turns -/
theorem Two.loop (k : Two) (d : Nat) (I : Nat → Shared → Prop)
    (turn : ∀ n s, I n s → wpAny (model prog w) A (compTurn (k.expr (cl2 t0 i0 t1 i1) scope pos) d it (.ref D) env)
      (fun fin s' => match fin with | .done f => R (.ok f) s' | .again c' => c' = .compLoop (k.expr (cl2 t0 i0 t1 i1) scope pos) d it (.ref D) env ∧ ∃ m, m < n ∧ I m s') (fun _ _ => False) s)
    (n : Nat) (h : I n s) : codeAny (model prog w) A (.compLoop (k.expr (cl2 t0 i0 t1 i1) scope pos) d it (.ref D) env) R s := by
  cases k <;>
  · refine codeAny_loop rfl I (fun n s hI => ?_) n h
    exact wpAny_noted (env := env) (thnF (turn n s hI) fun fin s' q => by cases fin <;> exact q)
/-- a clause's start -/
theorem Two.start (k : Two) (d : Nat) (hd : d < 2) (hit : wpAny (model prog w) A (pyIter it) (fun v s1 => v = it ∧ s1 = s) (fun _ _ => False) s)
    (h0 : codeAny (model prog w) A (.compLoop (k.expr (cl2 t0 i0 t1 i1) scope pos) d it (.ref D) env) R s) : codeAny (model prog w) A (.compStart (k.expr (cl2 t0 i0 t1 i1) scope pos) d it (.ref D) env) R s := by
  refine codeAny_of_tree ?_
  have two : d = 0 ∨ d = 1 := by omega
  rcases two with rfl | rfl <;> cases k <;>
  · refine wpAny_notedAt (env := env) ?_
    unfold compStart
    refine wpAny_bind (m := ask) (wpAny_askSetting (wpAny_ite ?_))
    split
    · exact wpAny_bind (wpAny_pure (wpAny_pure ⟨rfl, h0⟩))
    · refine wpAny_bind (wpAny_rule ?_)
      refine wpAny_bind (wpAny_standAt (wpAny_bind (thnF hit fun v s1 hv => ?_)))
      obtain ⟨rfl, rfl⟩ := hv
      exact wpAny_pure ⟨rfl, h0⟩
end

/-! ### in the block -/
/-- what a turn does with the thing at D -/
abbrev TM := L2.St → Hp → (Hp → Prop) → Prop
def PM (B : Cx) (k : Two) (D : Addr) (tm : TM) : Prop := ∀ (pins : List (Addr × Obj)) (s : Shared) (σ : L2.St) (H : Hp) (N : Hp → Prop), L2.Inv B pins σ H s → tm σ H N →
  wpAny (model B.prog B.w) B.A (k.put D B.env) (fun _ s' => ∃ H', L2.Inv B pins σ H' s' ∧ N H') (fun _ _ => False) s
section
variable {B : Cx} {k : Two} {D : Addr} {t0 i0 t1 i1 : Expr} {scope : Scope} {pos : Pos}
theorem pm_dict {kx vx : Expr} {tk tv : TE} (hx : B.xe = fun _ _ => False) (hk : PE B kx tk) (hv : PE B vx tv) :
    PM B (.dict kx vx) D fun σ H N => tk σ H fun y H1 => tv σ H1 fun z H2 => ∃ kvs key, y = kV key ∧ H2 D = some (.dK kvs) ∧ kvs.length < sizeLine ∧ N (upd H2 D (.dK (putK kvs key z))) := by
  intro pins s σ H N I h
  have r1 := hk.run pins s σ H _ I h
  rw [hx] at r1
  refine wpAny_bind (thnF r1 fun u s1 ⟨y, H1, I1, ry, h1⟩ => ?_)
  have r2 := hv.run pins s1 σ H1 _ I1 h1
  rw [hx] at r2
  refine wpAny_bind (wpAny_holding (thnF r2 fun v s2 ⟨z, H2, I2, rz, kvs, key, ey, hD, hl, hN⟩ => ?_))
  subst ey
  exact wpAny_bind (wpAny_standAt (wpAny_holding (d_dictSet I2 hD hl ry rz fun s3 I3 => ⟨_, I3, hN⟩)))
theorem pm_set {ex : Expr} {te : TE} (hx : B.xe = fun _ _ => False) (he : PE B ex te) :
    PM B (.set ex) D fun σ H N => te σ H fun y H1 => ∃ (i : Int) (S : Int → Bool) (n : Nat), y = .int i ∧ H1 D = some (SetO B.w D S n) ∧ n + 1 < scanBound ∧ N (upd H1 D (SetO B.w D (fun j => S j || decide (j = i)) (if S i = true then n else n + 1))) := by
  intro pins s σ H N I h
  have r1 := he.run pins s σ H _ I h
  rw [hx] at r1
  refine wpAny_bind (thnF r1 fun u s1 ⟨y, H1, I1, ry, i, S, n, ey, hD, hl, hN⟩ => ?_)
  subst ey
  obtain ⟨t, rfl⟩ := ry
  refine wpAny_bind (wpAny_standAt (wpAny_bind (setR_add (setO_get I1 hD) hl fun h' sb new => wpAny_pure ?_)))
  have there : ∃ o, h'.get? D = some o := new.elim fun o z => z.elim fun _ z => z.elim fun _ z => z.elim fun _ z => ⟨o, z.1⟩
  exact ⟨_, I1.write (e := D) (t' := s1.toks + 1) (by rw [hD]; trivial) (.inl rfl) (fun b u hb hu => (sb.2 b hb).trans hu) there (setO_new new), hN⟩

/-- the second clause: from its iterator on -/
theorem Two.inner (hc : B.calm = true) (hx : B.xe = fun _ _ => False) {g1 : TG} {tm : TM} (pg : PG B t1 g1) (pm : PM B k D tm) {vs1 : List Nat} {pins : List (Addr × Obj)} {σ : L2.St} {H : Hp} {s : Shared} (I : L2.Inv B pins σ H s)
    {J : It} {fp : List Addr} {it : Addr} {tn : Nat → Heap → Prop} (T : Turn B.prog B.w B.K t1 J fp it tn) (st : tn 0 s.heap) (ff : ∀ b ∈ fp, FpOk B pins H b) {Nx : Hp → Prop} {W : Nat → Nat → Hp → Prop} {m0 : Nat} (w0 : W 0 m0 H)
    (turn : ∀ j m H, W j m H → (J.stop j H ∧ Nx H) ∨ (J.go j H ∧ ∃ N1 : Hp → Prop, (∀ H', N1 H' → ∃ m', m' < m ∧ W (j + 1) m' H') ∧ ∀ x H', J.yld j H x H' → g1 x (wipe σ vs1) H' fun σ3 H5 => wipe σ3 vs1 = wipe σ vs1 ∧ tm σ3 H5 N1))
    {R : Result → Shared → Prop} (fin : ∀ s' H', L2.Inv B pins (wipe σ vs1) H' s' → Nx H' → R (.ok .next) s') :
    codeAny (model B.prog B.w) B.A (.compStart (k.expr (cl2 t0 i0 t1 i1) scope pos) 1 (.ref it) (.ref D) B.env) R s := by
  have free : ∀ {H' : Hp}, (∀ b ∈ fp, H' b = none) → ∀ b ∈ fp, FpOk B pins H' b := fun z b hb => ⟨z b hb, (ff b hb).2⟩
  refine Two.start k 1 (by decide) (T.self B.A 0 s _ _ st ⟨rfl, rfl⟩) (Two.loop k 1 (fun n s' => ∃ j H', L2.Inv B pins (wipe σ vs1) H' s' ∧ tn j s'.heap ∧ (∀ b ∈ fp, H' b = none) ∧ W j n H') ?_ m0
    ⟨0, H, I.weak (wipe_length _ _) (fun _ _ e => (wipe_some e).1), st, fun b hb => (ff b hb).1, w0⟩)
  rintro n s1 ⟨j, H1, I1, st1, n1, w1⟩
  rw [Two.turn1]
  refine wpAny_bind (wpAny_standAt (wpAny_bind ?_))
  rcases turn j n H1 w1 with ⟨stop, nx⟩ | ⟨go, N1, hN1, step⟩
  · refine thnF (T.done B rfl rfl rfl hc j pins s1 _ H1 (fun _ _ => False) I1 (free n1) st1 stop) fun r s2 ⟨hr, I2⟩ => ?_
    subst hr
    exact wpAny_pure (fin s2 H1 I2 nx)
  · refine thnF (T.item B rfl rfl rfl hc j pins s1 _ H1 (fun _ _ => False) I1 (free n1) st1 go) fun r s2 ⟨u, hr, h2⟩ => ?_
    subst hr
    refine wpAny_bind (thnF h2 fun _ s3 ⟨x, H3, I3, r3, y3, st3, n3⟩ => ?_)
    have pgr := pg.run _ s3 _ H3 x u _ (I3.pinned (free n3) (T.obj _ _ st3)) r3 (step x H3 y3)
    rw [hx] at pgr
    refine wpAny_bind (thnF pgr fun _ s4 ⟨σ4, H4, I4, e4, q4⟩ => wpAny_bind (thnF (pm _ s4 σ4 H4 N1 I4 q4) fun _ s5 ⟨H5, I5, q5⟩ => ?_))
    obtain ⟨m', hm, w5⟩ := hN1 H5 q5
    have pins5 : ∀ b ∈ fp, ∀ o, s3.heap.get? b = some o → s5.heap.get? b = some o ∧ H5 b = none := fun b hb o e =>
      (I5.pin (b, o) (List.mem_append_right _ (List.mem_append_right _ (mem_pinsAt hb e)))).imp id And.left
    refine wpAny_pure ⟨rfl, m', hm, j + 1, H5, I5.unpinned.weak (by rw [← e4, wipe_length]) (fun i v e => by rw [← e4] at e; exact (wipe_some e).1), T.keep _ _ _ st3 fun b hb o e => (pins5 b hb o e).1, fun b hb => ?_, w5⟩
    obtain ⟨o, e, _⟩ := T.obj _ _ st3 b hb
    exact (pins5 b hb o e).2
/-- the first clause, the second within each of its turns -/
theorem Two.outer (hc : B.calm = true) (hx : B.xe = fun _ _ => False) {g g1 : TG} {wi1 : TI} {tm : TM} (pg : PG B t0 g) (pi : PI B t1 i1 wi1) (hs : ∀ x, foldedSetIterable i1 B.env x = pure x) (pg1 : PG B t1 g1) (pm : PM B k D tm)
    {vs vs1 : List Nat} (hv : ∀ i ∈ vs1, i ∈ vs) {σ : L2.St} {H : Hp} {s : Shared} (I : L2.Inv B [] (wipe σ vs) H s)
    {J : It} {fp : List Addr} {it : Addr} {tn : Nat → Heap → Prop} (T : Turn B.prog B.w B.K t0 J fp it tn) (st : tn 0 s.heap) (ff : ∀ b ∈ fp, FpOk B [] H b) {Qe : Hp → Prop} {W : Nat → Nat → Hp → Prop} {m0 : Nat} (w0 : W 0 m0 H)
    (turn : ∀ i m H, W i m H → (J.stop i H ∧ Qe H) ∨ (J.go i H ∧ ∃ Nx : Hp → Prop, (∀ H', Nx H' → ∃ m', m' < m ∧ W (i + 1) m' H') ∧ ∀ x H', J.yld i H x H' → g x (wipe σ vs) H' fun σ2 H2 => wipe σ2 vs = wipe σ vs ∧
      wi1 σ2 H2 fun J1 H4 => ∃ W1 : Nat → Nat → Hp → Prop, (∃ m, W1 0 m H4) ∧ ∀ j m H, W1 j m H → (J1.stop j H ∧ Nx H) ∨ (J1.go j H ∧ ∃ N1 : Hp → Prop, (∀ H', N1 H' → ∃ m', m' < m ∧ W1 (j + 1) m' H') ∧
        ∀ x H', J1.yld j H x H' → g1 x (wipe σ2 vs1) H' fun σ3 H5 => wipe σ3 vs1 = wipe σ2 vs1 ∧ tm σ3 H5 N1)))
    {R : Result → Shared → Prop} (fin : ∀ s' H', L2.Inv B [] (wipe σ vs) H' s' → Qe H' → R (.ok .next) s') :
    codeAny (model B.prog B.w) B.A (.compStart (k.expr (cl2 t0 i0 t1 i1) scope pos) 0 (.ref it) (.ref D) B.env) R s := by
  have free : ∀ {H' : Hp}, (∀ b ∈ fp, H' b = none) → ∀ b ∈ fp, FpOk B [] H' b := fun z b hb => ⟨z b hb, (ff b hb).2⟩
  refine Two.start k 0 (by decide) (T.self B.A 0 s _ _ st ⟨rfl, rfl⟩) (Two.loop k 0 (fun n s' => ∃ i H', L2.Inv B [] (wipe σ vs) H' s' ∧ tn i s'.heap ∧ (∀ b ∈ fp, H' b = none) ∧ W i n H') ?_ m0 ⟨0, H, I, st, fun b hb => (ff b hb).1, w0⟩)
  rintro n s1 ⟨i, H1, I1, st1, n1, w1⟩
  rw [Two.turn0]
  refine wpAny_bind (wpAny_standAt (wpAny_bind ?_))
  rcases turn i n H1 w1 with ⟨stop, qe⟩ | ⟨go, Nx, hNx, step⟩
  · refine thnF (T.done B rfl rfl rfl hc i [] s1 _ H1 (fun _ _ => False) I1 (free n1) st1 stop) fun r s2 ⟨hr, I2⟩ => ?_
    subst hr
    exact wpAny_pure (fin s2 H1 I2 qe)
  · refine thnF (T.item B rfl rfl rfl hc i [] s1 _ H1 (fun _ _ => False) I1 (free n1) st1 go) fun r s2 ⟨u, hr, h2⟩ => ?_
    subst hr
    refine wpAny_bind (thnF h2 fun _ s3 ⟨x, H3, I3, r3, y3, st3, n3⟩ => ?_)
    have pgr := pg.run _ s3 _ H3 x u _ (I3.pinned (free n3) (T.obj _ _ st3)) r3 (step x H3 y3)
    rw [hx] at pgr
    refine wpAny_bind (thnF pgr fun _ s4 ⟨σ4, H4, I4, e4, q4⟩ => ?_)
    have pir := pi.run _ s4 σ4 H4 _ I4 q4
    rw [hx] at pir
    refine wpAny_bind (thnF pir fun xv s5 h5 => wpAny_bind (m := standAt _) (wpAny_standAt (wpAny_bind (wpAny_of_eq (hs xv) (wpAny_bind (wpAny_holding (thnF h5 fun itv s6 h6 => ?_)))))))
    obtain ⟨it1, fp1, tn1, J1, H6, rfl, I6, T1, st6, f6, W1, ⟨m1, w6⟩, turn1⟩ := h6
    refine wpAny_bind (wpAny_runOwn (h := none) ?_)
    rw [Around.mark_none]
    refine Two.inner (R := fun r s' => match r with
      | .ok f => wpAny (model B.prog B.w) B.A (again (.compLoop (k.expr (cl2 t0 i0 t1 i1) scope pos) 0 (.ref it) (.ref D) B.env)) _ (fun _ _ => False) s'
      | .error e => _) hc hx pg1 pm I6 T1 st6 f6 w6 turn1 fun s7 H7 I7 nx => ?_
    obtain ⟨m', hm, w7⟩ := hNx H7 nx
    have pins7 : ∀ b ∈ fp, ∀ o, s3.heap.get? b = some o → s7.heap.get? b = some o ∧ H7 b = none := fun b hb o e =>
      (I7.pin (b, o) (List.mem_append_right _ (List.mem_append_right _ (mem_pinsAt hb e)))).imp id And.left
    have known : ∀ (j : Nat) v, (wipe σ vs)[j]? = some (some v) → (wipe σ4 vs1)[j]? = some (some v) := fun j v e => by
      rw [← e4] at e
      obtain ⟨e1, e2⟩ := wipe_some e
      rw [wipe_out fun z => e2 (hv j z)]
      exact e1
    refine wpAny_pure ⟨rfl, m', hm, i + 1, H7, (I7.unpinned (pins := [])).weak (by rw [wipe_length σ4 vs1, ← wipe_length σ4 vs, e4]) known, T.keep _ _ _ st3 fun b hb o e => (pins7 b hb o e).1, fun b hb => ?_, w7⟩
    obtain ⟨o, e, _⟩ := T.obj _ _ st3 b hb
    exact (pins7 b hb o e).2
end

/-! ### from the outside -/
/-- {.. for t0 in i0 for t1 in i1}: o0 what stands first at the new thing's place D; vs: the block's names; vs1: those of the second target -/
def tC2 (o0 : Addr → HO) (wi : TI) (g : TG) (wi1 : TI) (g1 : TG) (tm : Addr → TM) (vs vs1 : List Nat) : TE := fun σ H Q => wi σ H fun J H1 => ∀ D, H1 D = none → ∃ W : Nat → Nat → Hp → Prop, (∃ m, W 0 m (upd H1 D (o0 D))) ∧ ∀ i m H, W i m H →
  (J.stop i H ∧ Q (.ref D) H) ∨ (J.go i H ∧ ∃ Nx : Hp → Prop, (∀ H', Nx H' → ∃ m', m' < m ∧ W (i + 1) m' H') ∧ ∀ x H', J.yld i H x H' → g x (wipe σ vs) H' fun σ2 H2 => wipe σ2 vs = wipe σ vs ∧
      wi1 σ2 H2 fun J1 H4 => ∃ W1 : Nat → Nat → Hp → Prop, (∃ m, W1 0 m H4) ∧ ∀ j m H, W1 j m H → (J1.stop j H ∧ Nx H) ∨ (J1.go j H ∧ ∃ N1 : Hp → Prop, (∀ H', N1 H' → ∃ m', m' < m ∧ W1 (j + 1) m' H') ∧
        ∀ x H', J1.yld j H x H' → g1 x (wipe σ2 vs1) H' fun σ3 H5 => wipe σ3 vs1 = wipe σ2 vs1 ∧ tm D σ3 H5 N1))
section
variable {X : Cx} {k : Two} {t0 i0 t1 i1 : Expr} {scope : Scope} {pos pos' : Pos} {own : List (PySem.Str × Nat)} {wi wi1 : TI} {g g1 : TG} {tm : Addr → TM} {vs1 : List Nat} {o0 : Addr → HO} {mk : Sem Value} {ob : Obj}
theorem two_core (hc : X.calm = true) (hN : X.N.Nodup) (hi : PI X t0 i0 wi) (ok : BlkOk X.N X.env.scope scope own) (hv : ∀ i ∈ vs1, i ∈ own.map (·.2))
    (make : ∀ {A : Around} {E : Value → Shared → Prop} {s : Shared} {Q : Value → Shared → Prop}, Q (.ref s.heap.objs.size) { s with heap := s.heap.push ob } → wpAny (model X.prog X.w) A mk Q E s)
    (fresh : ∀ {pins : List (Addr × Obj)} {σ : L2.St} {H : Hp} {s : Shared}, L2.Inv X pins σ H s → ObjOk X.prog X.w (upd H s.heap.objs.size (o0 s.heap.objs.size)) (s.heap.push ob) s.heap.objs.size (o0 s.heap.objs.size))
    (hg : ∀ (s : Shared) (H : Hp) (C : Addr) (cl : List (PySem.Str × Addr)) (fp : List Addr), PG (X.blk s H scope (compEnvC scope cl C X.env) fp) t0 g)
    (hi1 : ∀ (s : Shared) (H : Hp) (C : Addr) (cl : List (PySem.Str × Addr)) (fp : List Addr), PI (X.blk s H scope (compEnvC scope cl C X.env) fp) t1 i1 wi1)
    (hg1 : ∀ (s : Shared) (H : Hp) (C : Addr) (cl : List (PySem.Str × Addr)) (fp : List Addr), PG (X.blk s H scope (compEnvC scope cl C X.env) fp) t1 g1)
    (hm : ∀ (s : Shared) (H : Hp) (C : Addr) (cl : List (PySem.Str × Addr)) (fp : List Addr) (D : Addr), PM (X.blk s H scope (compEnvC scope cl C X.env) fp) k D (tm D))
    (hs : ∀ x, foldedSetIterable i0 X.env x = pure x) (hs1 : ∀ env x, foldedSetIterable i1 env x = pure x)
    {pins : List (Addr × Obj)} {s : Shared} {σ : L2.St} {H : Hp} {Q : VK} {use : Option (Value → Sem Unit)} {Qf : Value → Shared → Prop} (I : L2.Inv X pins σ H s) (h : tC2 o0 wi g wi1 g1 tm (own.map (·.2)) vs1 σ H Q)
    (after : ∀ (D C : Addr) (s' : Shared) (m : PySem.Str → Option Value) (H' : Hp), L2.Inv X pins σ H' s' → Q (.ref D) H' → s'.heap.Ns C m → FpOk X pins H' C → compPost (model X.prog X.w) X.A X.xe use Qf (.ref D) C (.ok .next) s') :
    wpAny (model X.prog X.w) X.A (comprehension (k.expr (cl2 t0 i0 t1 i1) scope pos) scope X.env pos' mk false (eval i0 X.env) use) Qf X.xe s := by
  have cells : ∀ y ∈ scope.names, y.2 = .free → ∃ c, X.env.cells.lookup y.1 = some c := fun y hy e => I.ok.has _ (ok.free y hy e)
  have clauses : clausesOf (k.expr (cl2 t0 i0 t1 i1) scope pos) = ⟨t0, i0, [], 0⟩ :: [⟨t1, i1, [], 0⟩] := by cases k <;> rfl
  refine wpAny_comprehension_free (use := use) clauses hs (closure_ok cells) ok.kind (fun y hy e => by rw [ok.uniq y hy, e]) (thn (hi.run pins s σ H _ I h) fun xv s1 hx => thn hx fun itv s2 h2 => ?_)
  obtain ⟨it, fp, tn, J, H2, rfl, I2, T, st2, f2, q⟩ := h2
  have big : ∀ b ∈ fp, b < s2.heap.objs.size := fun b hb => (T.obj _ _ st2 b hb).elim fun o z => Heap.lt_size z.1
  obtain ⟨W, ⟨m0, w0⟩, turn⟩ := q s2.heap.objs.size (I2.hok.fresh (Nat.le_refl _))
  refine make (newEnv_comp ?_)
  -- the new thing stands
  have keep : ∀ b o, s2.heap.get? b = some o → (s2.heap.push ob).get? b = some o := fun b o e => Heap.get?_push_of_some _ e
  have I3 : L2.Inv X pins σ (upd H2 s2.heap.objs.size (o0 s2.heap.objs.size)) { s2 with heap := s2.heap.push ob } := I2.laid (t' := s2.toks) keep (Nat.le_refl _) (fresh I2)
  generalize hs3 : ({ s2 with heap := s2.heap.push ob } : Shared) = s3 at I3 ⊢
  have h3 : s3.heap = s2.heap.push ob := by rw [← hs3]
  generalize s2.heap.objs.size = D at w0 turn I3 big ⊢
  have f3 : ∀ b ∈ fp, FpOk X pins (upd H2 D (o0 D)) b ∧ b < s3.heap.objs.size := fun b hb => by
    refine ⟨⟨?_, (f2 b hb).2⟩, ?_⟩
    · rw [upd_ne (Nat.ne_of_lt (big b hb))]
      exact (f2 b hb).1
    · obtain ⟨o, e, _⟩ := T.obj _ _ st2 b hb
      rw [h3]
      exact Heap.lt_size (keep b o e)
  have st3 : tn 0 s3.heap := T.keep _ _ _ st2 fun b _ o e => by rw [h3]; exact keep b o e
  generalize hH3 : upd H2 D (o0 D) = H3 at w0 I3 f3
  have I4 := block_start I3 ok hN f3
  generalize hcl : cellsFrom (s3.heap.objs.size + 1) scope.names (cloFrom X.env.cells scope.names []) = cl at I4 ⊢
  have pg := hg s3 H3 s3.heap.objs.size cl fp
  have pi1 := hi1 s3 H3 s3.heap.objs.size cl fp
  have pg1 := hg1 s3 H3 s3.heap.objs.size cl fp
  have pm := hm s3 H3 s3.heap.objs.size cl fp D
  show codeAny _ _ (.compStart (k.expr (cl2 t0 i0 t1 i1) scope pos) 0 (.ref it) (.ref D) (compEnvC scope cl s3.heap.objs.size X.env)) _ { s3 with heap := pushCells (s3.heap.push { cls := .type "dict", data := .dict #[] }) scope.names }
  generalize hs4 : ({ s3 with heap := pushCells (s3.heap.push { cls := .type "dict", data := .dict #[] }) scope.names } : Shared) = s4 at I4 ⊢
  have st4 : tn 0 s4.heap := T.keep _ _ _ st3 fun b _ o e => by rw [← hs4]; exact pushCells_keeps _ _ _ _ (Heap.get?_push_of_some _ e)
  have f4 : ∀ b ∈ fp, FpOk (X.blk s3 H3 scope (compEnvC scope cl s3.heap.objs.size X.env) fp) [] H3 b := fun b hb =>
    ⟨(f3 b hb).1.1, (I4.ok.exf b hb).1, I4.ok.exfs b hb, .inl hb, fun x c e => (I4.ok.exf b hb).2 x c e, fun p hp => (List.not_mem_nil (show p ∈ ([] : List (Addr × Obj)) from hp)).elim⟩
  refine Two.outer (B := X.blk s3 H3 scope (compEnvC scope cl s3.heap.objs.size X.env) fp) (vs := own.map (·.2)) hc rfl pg pi1 (hs1 _) pg1 pm hv I4 T st4 f4 w0 turn fun s5 H5 I5 q5 => ?_
  -- back in the def
  have I6 : L2.Inv X pins σ H5 s5 := I3.call' (ch := fp) I5.os I5.base I5.hok I5.bare fun b hb => (f3 b hb).1.2.2.2.imp_right fun z => z |> fun z => ⟨(f3 b hb).1.2.1, z.1, z.2⟩
  obtain ⟨m, hn, _⟩ := I5.loc
  have free5 : H5 s3.heap.objs.size = none := I5.free
  exact after D s3.heap.objs.size s5 m H5 I6 q5 hn (I3.fpOk (H' := H5) (Nat.le_refl _) free5)
/-- the value is what one asks for -/
theorem two_value {pins : List (Addr × Obj)} {σ : L2.St} {Q : VK} (D C : Addr) (s' : Shared) (m : PySem.Str → Option Value) (H' : Hp) (I6 : L2.Inv X pins σ H' s') (q : Q (.ref D) H') (hn : s'.heap.Ns C m) (f : FpOk X pins H' C) :
    compPost (model X.prog X.w) X.A X.xe none (EP X pins σ Q) (.ref D) C (.ok .next) s' := by
  refine ⟨m, hn, fun h6 sb => ?_⟩
  obtain ⟨f0, f1, _, f3, f4, f5⟩ := f
  exact ⟨.ref D, H', I6.turned (t' := s'.toks) (fun b o hb e => (sb.2 b hb).trans e) f0 f1 f3 f4 f5, rfl, q⟩
/-- it is stored at a local at once -/
theorem two_store {pins : List (Addr × Obj)} {σ : L2.St} {De : Ends} {i : Nat} {y : PySem.Str} {py : Pos} (hN : X.N.Nodup) (hy : X.N[i]? = some y) (hyl : X.env.scope.names.lookup y = some .local) (D C : Addr) (s' : Shared) (m : PySem.Str → Option Value) (H' : Hp) (I6 : L2.Inv X pins σ H' s') (q : gName i (.ref D) σ H' De.nx) (hn : s'.heap.Ns C m)
    (f : FpOk X pins H' C) : compPost (model X.prog X.w) X.A X.xe (some (assign (.Name y py) X.env)) (fun _ s' => SP X pins De .next s') (.ref D) C (.ok .next) s' := by
  show wpAny _ _ (assign (.Name y py) X.env (.ref D)) _ _ _
  obtain ⟨f0, f1, _, f3, f4, f5⟩ := f
  refine wpAny_assign_Name (store_ok2 (v := V.ref D) I6 hN hy (.inl hyl) rfl (fun s2 I2 ⟨b, sb, hb⟩ => ⟨m, hn.sameBut sb (hb.elim (fun z => by rw [z]; exact f1) fun z e => f4 y b z e.symm), fun h3 sb3 => ?_⟩) (.inr hyl))
  exact ⟨_, H', I2.turned (t' := s2.toks) (fun b o hb e => (sb3.2 b hb).trans e) f0 f1 f3 f4 f5, q⟩

/-- {key: value for t0 in i0 for t1 in i1} -/
theorem pe_dc2 {kx vx : Expr} {tk tv : TE} (hc : X.calm = true) (hN : X.N.Nodup) (hi : PI X t0 i0 wi) (ok : BlkOk X.N X.env.scope scope own) (hv : ∀ i ∈ vs1, i ∈ own.map (·.2))
    (hg : ∀ (s : Shared) (H : Hp) (C : Addr) (cl : List (PySem.Str × Addr)) (fp : List Addr), PG (X.blk s H scope (compEnvC scope cl C X.env) fp) t0 g)
    (hi1 : ∀ (s : Shared) (H : Hp) (C : Addr) (cl : List (PySem.Str × Addr)) (fp : List Addr), PI (X.blk s H scope (compEnvC scope cl C X.env) fp) t1 i1 wi1)
    (hg1 : ∀ (s : Shared) (H : Hp) (C : Addr) (cl : List (PySem.Str × Addr)) (fp : List Addr), PG (X.blk s H scope (compEnvC scope cl C X.env) fp) t1 g1)
    (hk : ∀ (s : Shared) (H : Hp) (C : Addr) (cl : List (PySem.Str × Addr)) (fp : List Addr), PE (X.blk s H scope (compEnvC scope cl C X.env) fp) kx tk)
    (hx : ∀ (s : Shared) (H : Hp) (C : Addr) (cl : List (PySem.Str × Addr)) (fp : List Addr), PE (X.blk s H scope (compEnvC scope cl C X.env) fp) vx tv)
    (hs : ∀ x, foldedSetIterable i0 X.env x = pure x := by intro _; rfl) (hs1 : ∀ env x, foldedSetIterable i1 env x = pure x := by intro _ _; rfl) :
    PE X (.DictComp kx vx (cl2 t0 i0 t1 i1) scope pos) (tC2 (fun _ => .dK []) wi g wi1 g1 (fun D σ H N => tk σ H fun y H1 => tv σ H1 fun z H2 => ∃ kvs key, y = kV key ∧ H2 D = some (.dK kvs) ∧ kvs.length < sizeLine ∧ N (upd H2 D (.dK (putK kvs key z)))) (own.map (·.2)) vs1) := by
  refine ⟨fun pins s σ H Q I h => ?_⟩
  rw [arm_eval_DictComp]
  exact two_core (k := .dict kx vx) (ob := { cls := .type "dict", data := .dict #[] }) hc hN hi ok hv (fun q => wpAny_newObj_type q) (fun I => dk_empty _ I.big) hg hi1 hg1 (fun s H C cl fp D => pm_dict rfl (hk s H C cl fp) (hx s H C cl fp)) hs hs1 I h two_value
/-- name = {key: value for t0 in i0 for t1 in i1}, the name a local -/
theorem ps_setDc2 {i : Nat} {y : PySem.Str} {py spos : Pos} {kx vx : Expr} {tk tv : TE} (hc : X.calm = true) (hN : X.N.Nodup) (hy : X.N[i]? = some y) (hyl : X.env.scope.names.lookup y = some .local)
    (hsw : swapsWith (.DictComp kx vx (cl2 t0 i0 t1 i1) scope pos) (some (.Name y py)) spos.line X.env = pure true) (hi : PI X t0 i0 wi) (ok : BlkOk X.N X.env.scope scope own) (hv : ∀ i ∈ vs1, i ∈ own.map (·.2))
    (hg : ∀ (s : Shared) (H : Hp) (C : Addr) (cl : List (PySem.Str × Addr)) (fp : List Addr), PG (X.blk s H scope (compEnvC scope cl C X.env) fp) t0 g)
    (hi1 : ∀ (s : Shared) (H : Hp) (C : Addr) (cl : List (PySem.Str × Addr)) (fp : List Addr), PI (X.blk s H scope (compEnvC scope cl C X.env) fp) t1 i1 wi1)
    (hg1 : ∀ (s : Shared) (H : Hp) (C : Addr) (cl : List (PySem.Str × Addr)) (fp : List Addr), PG (X.blk s H scope (compEnvC scope cl C X.env) fp) t1 g1)
    (hk : ∀ (s : Shared) (H : Hp) (C : Addr) (cl : List (PySem.Str × Addr)) (fp : List Addr), PE (X.blk s H scope (compEnvC scope cl C X.env) fp) kx tk)
    (hx : ∀ (s : Shared) (H : Hp) (C : Addr) (cl : List (PySem.Str × Addr)) (fp : List Addr), PE (X.blk s H scope (compEnvC scope cl C X.env) fp) vx tv)
    (hs : ∀ x, foldedSetIterable i0 X.env x = pure x := by intro _; rfl) (hs1 : ∀ env x, foldedSetIterable i1 env x = pure x := by intro _ _; rfl) :
    PS X (.Assign [.Name y py] (.DictComp kx vx (cl2 t0 i0 t1 i1) scope pos) spos) (tAsg (tC2 (fun _ => .dK []) wi g wi1 g1 (fun D σ H N => tk σ H fun y H1 => tv σ H1 fun z H2 => ∃ kvs key, y = kV key ∧ H2 D = some (.dK kvs) ∧ kvs.length < sizeLine ∧ N (upd H2 D (.dK (putK kvs key z)))) (own.map (·.2)) vs1) (gName i)) := by
  refine ⟨fun pins s σ H D I h => ?_⟩
  rw [exec_Assign_Name_used _ _ _ _ hsw]
  refine wpAny_bind (wpAny_standAt (wpAny_bind ?_))
  show wpAny _ X.A (do let _ ← comprehension ((Two.dict kx vx).expr (cl2 t0 i0 t1 i1) scope pos) scope X.env (firstIterPos (cl2 t0 i0 t1 i1) pos) (newObj (.type "dict") (.dict #[])) false (eval i0 X.env) (some (assign (.Name y py) X.env))) _ _ s
  exact wpAny_bind (thn (two_core (k := .dict kx vx) (ob := { cls := .type "dict", data := .dict #[] }) (Qf := fun _ s' => SP X pins D .next s') hc hN hi ok hv (fun q => wpAny_newObj_type q) (fun I => dk_empty _ I.big) hg hi1 hg1 (fun s H C cl fp D => pm_dict rfl (hk s H C cl fp) (hx s H C cl fp)) hs hs1 I h (two_store hN hy hyl)) fun _ s' hq => wpAny_pure (wpAny_pure hq))
/-- {item for t0 in i0 for t1 in i1}, ints -/
theorem pe_sc2 {ex : Expr} {te : TE} (hc : X.calm = true) (hN : X.N.Nodup) (hi : PI X t0 i0 wi) (ok : BlkOk X.N X.env.scope scope own) (hv : ∀ i ∈ vs1, i ∈ own.map (·.2))
    (hg : ∀ (s : Shared) (H : Hp) (C : Addr) (cl : List (PySem.Str × Addr)) (fp : List Addr), PG (X.blk s H scope (compEnvC scope cl C X.env) fp) t0 g)
    (hi1 : ∀ (s : Shared) (H : Hp) (C : Addr) (cl : List (PySem.Str × Addr)) (fp : List Addr), PI (X.blk s H scope (compEnvC scope cl C X.env) fp) t1 i1 wi1)
    (hg1 : ∀ (s : Shared) (H : Hp) (C : Addr) (cl : List (PySem.Str × Addr)) (fp : List Addr), PG (X.blk s H scope (compEnvC scope cl C X.env) fp) t1 g1)
    (he : ∀ (s : Shared) (H : Hp) (C : Addr) (cl : List (PySem.Str × Addr)) (fp : List Addr), PE (X.blk s H scope (compEnvC scope cl C X.env) fp) ex te)
    (hs : ∀ x, foldedSetIterable i0 X.env x = pure x := by intro _; rfl) (hs1 : ∀ env x, foldedSetIterable i1 env x = pure x := by intro _ _; rfl) :
    PE X (.SetComp ex (cl2 t0 i0 t1 i1) scope pos) (tC2 (fun D => SetO X.w D (fun _ => false) 0) wi g wi1 g1 (fun D σ H N => te σ H fun y H1 => ∃ (i : Int) (S : Int → Bool) (n : Nat), y = .int i ∧ H1 D = some (SetO X.w D S n) ∧ n + 1 < scanBound ∧ N (upd H1 D (SetO X.w D (fun j => S j || decide (j = i)) (if S i = true then n else n + 1)))) (own.map (·.2)) vs1) := by
  refine ⟨fun pins s σ H Q I h => ?_⟩
  rw [PpSet.eval_SetComp]
  exact two_core (k := .set ex) (ob := { cls := .type "set", dict := none, data := .set #[] 0 (.fresh 0 0 (!X.w.params.followText "set-order")) }) hc hN hi ok hv (fun q => PpSet.newSet_ok q) (fun I => setO_new (setR_fresh _)) hg hi1 hg1 (fun s H C cl fp D => pm_set rfl (he s H C cl fp)) hs hs1 I h two_value
end
end R3
end

section
set_option Elab.async false
set_option linter.all false
set_option maxRecDepth 100000
set_option maxHeartbeats 4000000
/-! enumerate of a tuple, of a text. -/
namespace R3
open PySem PySem.Spec PyProof.Rows L2
section
variable {X : Cx} {pins : List (Addr × Obj)} {σ : L2.St} {H : Hp} {s : Shared} {E : Value → Shared → Prop}
/-- one turn of an enumerate over whatever draws -/
theorem enum_turn {elts : List Expr} {kk : Nat} {tpos : Pos} {e it : Addr} {fd : List Addr} {n i : Nat} {Pd : Nat → Value → Prop} {Sd : Nat → Heap → Prop} {old : Value} {x : V} (I : L2.Inv X pins σ H s) (D : Draws X.prog X.w X.A.in1 it fd n Pd Sd)
    (he : IsEnum s.heap e it ((i : Nat) : Int) old) (st : Sd i s.heap) (hin : i < n) (hne : e ≠ it) (hed : e ∉ fd) (hf : ∀ b ∈ [e, it], FpOk X pins H b) (lt : ∀ b ∈ [e, it], b < s.heap.objs.size) (rel : ∀ u, Pd i u → RelV x u) :
    wpAny (model X.prog X.w) X.A (pyNext (.ref e)) (fun r s1 => ∃ u, r = some u ∧
      wpAny (model X.prog X.w) X.A (letOwnedTupleGo (.Tuple elts kk tpos) (.ref e) u) (fun _ s2 => ∃ T : Addr, u = .ref T ∧ H T = none ∧ L2.Inv X pins σ (upd H T (.tup [.int (i : Nat), x])) s2 ∧
        (∃ old, IsEnum s2.heap e it ((i + 1 : Nat) : Int) old) ∧ Sd (i + 1) s2.heap ∧ ∀ b ∈ [e, it], upd H T (.tup [.int (i : Nat), x]) b = none) E s1) E s := by
  refine wpAny_pyNext_enum_itemD D he st hin hne hed fun u h1 tk pu out st1 pair big kept => ?_
  refine ⟨_, rfl, wpAny_letOwnedTupleGo_enum (s := { s with heap := h1, toks := tk + 1 }) out fun h2 he2 sb => ?_⟩
  have eT : e < s.heap.objs.size := lt e (by simp)
  have pair2 : h2.get? s.heap.objs.size = some { cls := .type "tuple", data := .seq #[.int i tk, u] } := (sb.2 _ (Nat.ne_of_gt eT)).trans pair
  have fresh : H s.heap.objs.size = none := I.hok.fresh (Nat.le_refl _)
  refine ⟨s.heap.objs.size, rfl, fresh, I.turnedNew (ch := [e, it]) (fun b ob hb q => ?_) hf (Nat.le_refl _) ⟨by show 2 ≤ sizeLine; decide, [.int i tk, u], .cons ⟨_, rfl⟩ (.cons (rel u pu) .nil), ⟨_, pair2, rfl, _, rfl⟩⟩, ⟨u, ?_⟩, D.frame _ _ _ st1 fun b hb o q => (sb.2 b fun z => hed (z ▸ hb)).trans q, fun b hb => ?_⟩
  · rw [List.mem_cons, List.mem_singleton, not_or] at hb
    exact (sb.2 b hb.1).trans (kept b ob hb.1 hb.2 q)
  · rw [show ((i + 1 : Nat) : Int) = (i : Int) + 1 by omega]
    exact he2
  · rw [upd_ne (Nat.ne_of_lt (lt b hb))]
    exact (hf b hb).1
end
/-- the tuple at a, each item in a new pair -/
def Iet (K : PySem.W.Frag) (a : Addr) : It :=
  ⟨fun i H => ∃ (xs : List V) (x : V), SqT K H a xs ∧ xs[i]? = some x, fun i H v H' => ∃ T x, v = .ref T ∧ H T = none ∧ H' = upd H T (.tup [.int (i : Nat), x]) ∧ ∀ xs, SqT K H a xs → xs[i]? = some x, fun i H => ∃ xs : List V, SqT K H a xs ∧ xs.length = i⟩
/-- a text, each sign in a new pair -/
def Ies (z : PySem.Str) : It :=
  ⟨fun i _ => i < z.cps.size, fun i H v H' => ∃ T c, v = .ref T ∧ H T = none ∧ H' = upd H T (.tup [.int (i : Nat), .str ⟨#[c]⟩]) ∧ z.cps[i]? = some c, fun i _ => z.cps.size = i⟩
theorem turn_et {P : Program} {w : World} {K : PySem.W.Frag} {elts : List Expr} {kk : Nat} {tpos : Pos} (a e it : Addr) :
    Turn P w K (.Tuple elts kk tpos) (Iet K a) [e, it] e (fun i h => (∃ old, IsEnum h e it ((i : Nat) : Int) old) ∧ h.IsTupleIter it a i ∧ e ≠ it) where
  mem := by simp
  obj := fun i h st b hb => by
    obtain ⟨⟨old, he⟩, ⟨o, ho, hc, hd⟩, _⟩ := st
    rw [List.mem_cons, List.mem_singleton] at hb
    rcases hb with rfl | rfl
    · exact ⟨_, he, fun v q => nomatch q⟩
    · exact ⟨o, ho, fun v q => by rw [hd] at q; cases q⟩
  keep := fun i h h' st k => ⟨st.1.imp fun old he => k e (by simp) _ he, st.2.1.at fun o q => k it (by simp) o q, st.2.2⟩
  item := by
    rintro X rfl rfl rfl hc i pins s σ H E I hf ⟨⟨old, he⟩, hit, hne⟩ ⟨xs, x, hq, hx⟩
    obtain ⟨its, rv, p, hz⟩ := I.tuple hq
    obtain ⟨u, hu, ru⟩ := rv.get hx
    obtain ⟨oi, hi1, hi2, hi3⟩ := id hit
    obtain ⟨oa, ha1, ha2, _⟩ := id p
    have ait : a ≠ it := fun z => by
      rw [z, hi1] at ha1
      cases ha1
      rw [hi2] at ha2
      exact absurd ha2 (by decide)
    have ae : e ≠ a := fun z => by
      have he' : s.heap.get? e = some _ := he
      rw [z, ha1] at he'
      cases he'
      exact absurd (show Value.type "enumerate" = Value.type "tuple" from ha2) (by decide)
    have lt : ∀ b ∈ [e, it], b < s.heap.objs.size := fun b hb => by
      rw [List.mem_cons, List.mem_singleton] at hb
      rcases hb with rfl | rfl
      · exact Heap.lt_size he
      · exact Heap.lt_size hi1
    have hin : i < its.toArray.size := by
      have := (List.getElem?_eq_some_iff.mp hu).1
      simpa using this
    refine thn (enum_turn (elts := elts) (kk := kk) (tpos := tpos) (x := x) I (Draws.tuple (prog := X.prog) (w := X.w) (A := X.A.in1) (I.ok.hd hc) it a ait its.toArray) he ⟨hit, p⟩ hin hne (by simp [hne, ae]) hf lt (fun v hv => ?_)) fun r s1 hr => ?_
    · have : its[i]? = some v := by simpa using hv
      rw [hu] at this
      cases this
      exact ru
    · obtain ⟨v, rfl, h1⟩ := hr
      refine ⟨v, rfl, thn h1 fun _ s2 ⟨T, ev, hT, I2, he2, st2, n2⟩ => ?_⟩
      subst ev
      exact ⟨.ref T, _, I2, rfl, ⟨T, x, rfl, hT, rfl, fun ys hy => by rw [I.tuple_inj hy hq]; exact hx⟩, ⟨he2, st2.1, hne⟩, n2⟩
  done := by
    rintro X rfl rfl rfl hc i pins s σ H E I hf ⟨⟨old, he⟩, hit, hne⟩ ⟨xs, hq, hx⟩
    obtain ⟨its, rv, p, hz⟩ := I.tuple hq
    obtain ⟨f0, f1, f2, f3, f4, f5⟩ := hf it (by simp)
    obtain ⟨oi, hi1, hi2, _⟩ := id hit
    obtain ⟨oa, ha1, ha2, _⟩ := id p
    have ait : a ≠ it := fun z => by
      rw [z, hi1] at ha1
      cases ha1
      rw [hi2] at ha2
      exact absurd ha2 (by decide)
    have n : its.toArray.size = i := by
      have := rv.length
      simp
      omega
    subst n
    exact wpAny_pyNext_enum_endD (Draws.tuple (prog := X.prog) (w := X.w) (A := X.A.in1) (I.ok.hd hc) it a ait its.toArray) he ⟨hit, p⟩ fun h' eb => ⟨rfl, I.turned (t' := s.toks) (fun b o hb q => eb b o hb q) f0 f1 f3 f4 f5⟩
  self := fun A i s Q E st h => st.1.elim fun _ he => wpAny_pyIter_enum he h
theorem turn_es {P : Program} {w : World} {K : PySem.W.Frag} {elts : List Expr} {kk : Nat} {tpos : Pos} (z : PySem.Str) (t : Tok) (e it : Addr) :
    Turn P w K (.Tuple elts kk tpos) (Ies z) [e, it] e (fun i h => (∃ old, IsEnum h e it ((i : Nat) : Int) old) ∧ h.IsStrIter it (strIterType z) z t i ∧ e ≠ it) where
  mem := by simp
  obj := fun i h st b hb => by
    obtain ⟨⟨old, he⟩, ⟨o, ho, hc, hd⟩, _⟩ := st
    rw [List.mem_cons, List.mem_singleton] at hb
    rcases hb with rfl | rfl
    · exact ⟨_, he, fun v q => nomatch q⟩
    · exact ⟨o, ho, fun v q => by rw [hd] at q; cases q⟩
  keep := fun i h h' st k => ⟨st.1.imp fun old he => k e (by simp) _ he, st.2.1.elim fun o q => ⟨o, k it (by simp) o q.1, q.2⟩, st.2.2⟩
  item := by
    rintro X rfl rfl rfl hc i pins s σ H E I hf ⟨⟨old, he⟩, hit, hne⟩ hx
    obtain ⟨oi, hi1, hi2, hi3⟩ := id hit
    have lt : ∀ b ∈ [e, it], b < s.heap.objs.size := fun b hb => by
      rw [List.mem_cons, List.mem_singleton] at hb
      rcases hb with rfl | rfl
      · exact Heap.lt_size he
      · exact Heap.lt_size hi1
    have hx : i < z.cps.size := hx
    refine thn (enum_turn (elts := elts) (kk := kk) (tpos := tpos) (x := .str ⟨#[z.cps[i]]⟩) I (Draws.text (prog := X.prog) (w := X.w) (A := X.A.in1) (I.ok.hd hc) it z t) he hit hx hne (by simp [hne]) hf lt (fun v hv => ?_)) fun r s1 hr => ?_
    · obtain ⟨c, u, h1, rfl⟩ := hv
      rw [Array.getElem?_eq_getElem hx] at h1
      cases h1
      exact ⟨u, rfl⟩
    · obtain ⟨v, rfl, h1⟩ := hr
      refine ⟨v, rfl, thn h1 fun _ s2 ⟨T, ev, hT, I2, he2, st2, n2⟩ => ?_⟩
      subst ev
      exact ⟨.ref T, _, I2, rfl, ⟨T, _, rfl, hT, rfl, by rw [Array.getElem?_eq_getElem hx]⟩, ⟨he2, st2, hne⟩, n2⟩
  done := by
    rintro X rfl rfl rfl hc i pins s σ H E I hf ⟨⟨old, he⟩, hit, hne⟩ hx
    obtain ⟨f0, f1, f2, f3, f4, f5⟩ := hf it (by simp)
    have n : z.cps.size = i := hx
    subst n
    exact wpAny_pyNext_enum_endD (Draws.text (prog := X.prog) (w := X.w) (A := X.A.in1) (I.ok.hd hc) it z t) he hit fun h' eb => ⟨rfl, I.turned (t' := s.toks) (fun b o hb q => eb b o hb q) f0 f1 f3 f4 f5⟩
  self := fun A i s Q E st h => st.1.elim fun _ he => wpAny_pyIter_enum he h
/-! ### how they begin -/
theorem enum_newT (l : Addr) (items : Array Value) (n : Nat) (dct : Option Addr) (sl : Array (Option Value)) :
    Meets (Builtin.«enumerate.__new__» ⟨[.type "enumerate", .ref l], []⟩) (fun _ R s => s.heap.get? l = some { cls := .type "tuple", dict := dct, data := .seq items n, slots := sl } ∧
      R (.ok (.ret (.ref (s.heap.push { cls := .type "tuple_iterator", data := .fields #[.ref l, .int 0 0] }).objs.size)))
        { s with heap := (s.heap.push { cls := .type "tuple_iterator", data := .fields #[.ref l, .int 0 0] }).push { cls := .type "enumerate", data := .fields #[.none, .bool false, .ref s.heap.objs.size, rawInt 0, .none, .none] } }) :=
  .of_wp fun prog w A R s h => by
    obtain ⟨hp, g, d, tk, os⟩ := s
    obtain ⟨hl, h⟩ := h
    have sub := sub_enumerate
    have isT : Heap.IsTuple (Shared.heap ⟨hp, g, d, tk, os⟩) l items := ⟨_, hl, rfl, n, rfl⟩
    wp_walk using AutoSeq1.wpAny_loadPart' hl
    refine wpAny_stack_any fun st => wpAny_pure ?_
    split
    · rename_i c _ _ _ _ _
      cases (c == Value.type "enumerate") <;>
      · wp_walk using AutoSeq1.wpAny_loadPart' hl, wpAny_pyIter_tuple isT
        exact ⟨_, rfl, h⟩
    · wp_walk using AutoSeq1.wpAny_loadPart' hl, wpAny_pyIter_tuple isT
      exact ⟨_, rfl, h⟩
theorem call_enumT {prog : Program} {w : World} {A : Around} {E : Value → Shared → Prop} {s : Shared} {l : Addr} {items : Array Value} {Q : Value → Shared → Prop} (hL : s.heap.IsTuple l items)
    (h : ∀ h', IsEnum h' (s.heap.objs.size + 1) s.heap.objs.size 0 .none → h'.IsTupleIter s.heap.objs.size l 0 → (∀ b o, s.heap.get? b = some o → h'.get? b = some o) → Q (.ref (s.heap.objs.size + 1)) { s with heap := h' }) :
    wpAny (model prog w) A (call (.type "enumerate") [.ref l]) Q E s := by
  obtain ⟨⟨c, dct, dt, sl⟩, hl, hc, n, hd⟩ := hL
  obtain rfl : c = .type "tuple" := hc
  obtain rfl : dt = .seq items n := hd
  refine callType_new F.called_enumerate (by decide) (F.typeCall_enumerate_1 _) (F.newCall_enumerate_1 _) (fun obj => F.args_object_init_2 obj _) F.entry_enumerate_new (enum_newT l items n dct sl) ⟨hl, ?_⟩
  have one : (s.heap.push { cls := .type "tuple_iterator", data := .fields #[.ref l, .int 0 0] }).objs.size = s.heap.objs.size + 1 := Heap.size_push ..
  have en : IsEnum ((s.heap.push { cls := .type "tuple_iterator", data := .fields #[.ref l, .int 0 0] }).push { cls := .type "enumerate", data := .fields #[.none, .bool false, .ref s.heap.objs.size, rawInt 0, .none, .none] }) (s.heap.objs.size + 1) s.heap.objs.size 0 .none := by
    have q := Heap.get?_push_size (s.heap.push { cls := .type "tuple_iterator", data := .fields #[.ref l, .int 0 0] }) (o := { cls := .type "enumerate", data := .fields #[.none, .bool false, .ref s.heap.objs.size, rawInt 0, .none, .none] }) rfl
    rw [one] at q
    exact q
  show _ ∧ _
  rw [one]
  exact ⟨⟨_, en, rfl⟩, h _ en ⟨_, Heap.get?_push_of_some _ (Heap.get?_push_size _ rfl), rfl, rfl⟩ fun b o x => Heap.get?_push_of_some _ (Heap.get?_push_of_some _ x)⟩
section
variable {X : Cx}
def iEnT (K : PySem.W.Frag) (ta : TA) : TI := fun σ H R => ta σ H fun vs H1 => ∃ a xs, vs = [.ref a] ∧ SqT K H1 a xs ∧ R (Iet K a) H1
def iEnS (ta : TA) : TI := fun σ H R => ta σ H fun vs H1 => ∃ z, vs = [.str z] ∧ R (Ies z) H1
theorem new_fp {pins : List (Addr × Obj)} {σ : L2.St} {H : Hp} {s : Shared} (I : L2.Inv X pins σ H s) : ∀ b ∈ [s.heap.objs.size + 1, s.heap.objs.size], FpOk X pins H b := fun b hb => by
  have le : s.heap.objs.size ≤ b := by
    rw [List.mem_cons, List.mem_singleton] at hb
    rcases hb with rfl | rfl
    · exact Nat.le_succ _
    · exact Nat.le_refl _
  exact I.fpOk le (I.hok.fresh le)
theorem pi_enT {e : Expr} {ta : TA} {p pos tpos : Pos} {elts : List Expr} {kk : Nat} (hg : Gl X "enumerate") (hm : X.mg "enumerate" = none) (ha : PA X [e] ta) (hs : starEach [e] X.env = [(false, eval e X.env)] := by rfl) :
    PI X (.Tuple elts kk tpos) (.Call (.Name "enumerate" p) [e] [] pos) (iEnT X.K ta) := by
  refine ⟨fun pins s σ H R I h => Call_ (ld_blt I hg hm boot_enumerate (PyProof.Rows.callWith_type1 (thn (ha.run pos pins s σ H _ I h) fun us s1 got => ?_) hs rfl))⟩
  obtain ⟨vs, H1, I1, r1, a, xs, rfl, hq, q⟩ := got
  obtain ⟨u, rfl, ru⟩ := vals1 r1
  cases (show u = Value.ref a from ru)
  obtain ⟨its, rv, p', hz⟩ := I1.tuple hq
  refine call_enumT (show s1.heap.IsTuple a its.toArray from p') fun h' he hit hk => wpAny_pyIter_enum he ?_
  exact ⟨s1.heap.objs.size + 1, _, _, _, H1, rfl, I1.kept (t' := s1.toks) hk, turn_et a _ _, ⟨⟨.none, he⟩, hit, Nat.succ_ne_self _⟩, new_fp I1, q⟩
theorem pi_enS {e : Expr} {ta : TA} {p pos tpos : Pos} {elts : List Expr} {kk : Nat} (hg : Gl X "enumerate") (hm : X.mg "enumerate" = none) (ha : PA X [e] ta) (hs : starEach [e] X.env = [(false, eval e X.env)] := by rfl) :
    PI X (.Tuple elts kk tpos) (.Call (.Name "enumerate" p) [e] [] pos) (iEnS ta) := by
  refine ⟨fun pins s σ H R I h => Call_ (ld_blt I hg hm boot_enumerate (PyProof.Rows.callWith_type1 (thn (ha.run pos pins s σ H _ I h) fun us s1 got => ?_) hs rfl))⟩
  obtain ⟨vs, H1, I1, r1, z, rfl, q⟩ := got
  obtain ⟨u, rfl, t, rfl⟩ := vals1 r1
  refine call_enumerate_str fun h' he hit _ hk => wpAny_pyIter_enum he ?_
  exact ⟨s1.heap.objs.size + 1, _, _, _, H1, rfl, I1.kept (t' := s1.toks) hk, turn_es z t _ _, ⟨⟨.none, he⟩, hit, Nat.succ_ne_self _⟩, new_fp I1, q⟩
end
/-- a for over an enumerated text, by an invariant -/
theorem for_es {z : PySem.Str} {g : TG} {tb : TS} {D : Ends} {σ : L2.St} {H : Hp} (Pv : Nat → L2.St → Hp → Prop) (h0 : Pv 0 σ H)
    (hs : ∀ i c σ H T, z.cps[i]? = some c → Pv i σ H → H T = none → g (.ref T) σ (upd H T (.tup [.int (i : Nat), .str ⟨#[c]⟩])) fun σ2 H2 => tb { D with nx := Pv (i + 1), ct := Pv (i + 1), bk := D.nx } σ2 H2) (hd : ∀ σ H, Pv z.cps.size σ H → D.nx σ H) :
    ∃ W : Nat → Nat → L2.St → Hp → Prop, (∃ m, W 0 m σ H) ∧ ∀ i m σ H, W i m σ H →
      ((Ies z).stop i H ∧ D.nx σ H) ∨ ((Ies z).go i H ∧ ∃ N : L2.St → Hp → Prop, (∀ σ' H', N σ' H' → ∃ m', m' < m ∧ W (i + 1) m' σ' H') ∧ ∀ x H', (Ies z).yld i H x H' → g x σ H' fun σ2 H2 => tb { D with nx := N, ct := N, bk := D.nx } σ2 H2) := by
  refine ⟨fun i m σ H => m = z.cps.size - i ∧ i ≤ z.cps.size ∧ Pv i σ H, ⟨z.cps.size, by simp, Nat.zero_le _, h0⟩, ?_⟩
  rintro i m σ H ⟨rfl, hi, p⟩
  by_cases lt : i < z.cps.size
  · refine .inr ⟨lt, Pv (i + 1), fun σ' H' p' => ⟨z.cps.size - (i + 1), by omega, rfl, lt, p'⟩, ?_⟩
    rintro x H' ⟨T, c, rfl, hT, rfl, hc⟩
    exact hs i c σ H T hc p hT
  · obtain rfl : i = z.cps.size := by omega
    exact .inl ⟨rfl, hd σ H p⟩
/-- a comprehension over an enumerated tuple -/
theorem lc_et {K : PySem.W.Frag} {a : Addr} {xs : List V} {g : TG} {tt : TT} {te : TE} {vs : List Nat} {σ : L2.St} {H1 : Hp} {D : Addr} {Qd : Hp → Prop} (Pv : Nat → Hp → Prop) (h0 : Pv 0 (upd H1 D (.lst []))) (hl : ∀ i H, i ≤ xs.length → Pv i H → SqT K H a xs)
    (hs : ∀ i x H T, xs[i]? = some x → Pv i H → H T = none → g (.ref T) (wipe σ vs) (upd H T (.tup [.int (i : Nat), x])) fun σ2 H2 => wipe σ2 vs = wipe σ vs ∧ tt σ2 H2 fun b H3 =>
      if b = true then te σ2 H3 fun y H4 => ∃ acc, H4 D = some (.lst acc) ∧ acc.length < sizeLine ∧ Pv (i + 1) (upd H4 D (.lst (acc ++ [y]))) else Pv (i + 1) H3) (hd : ∀ H, Pv xs.length H → Qd H) :
    ∃ W : Nat → Nat → Hp → Prop, (∃ m, W 0 m (upd H1 D (.lst []))) ∧ ∀ i m H, W i m H →
      ((Iet K a).stop i H ∧ Qd H) ∨ ((Iet K a).go i H ∧ ∃ Nx : Hp → Prop, (∀ H', Nx H' → ∃ m', m' < m ∧ W (i + 1) m' H') ∧ ∀ x H', (Iet K a).yld i H x H' → g x (wipe σ vs) H' fun σ2 H2 => wipe σ2 vs = wipe σ vs ∧ tt σ2 H2 fun b H3 =>
        if b = true then te σ2 H3 fun y H4 => ∃ acc, H4 D = some (.lst acc) ∧ acc.length < sizeLine ∧ Nx (upd H4 D (.lst (acc ++ [y]))) else Nx H3) := by
  refine ⟨fun i m H => m = xs.length - i ∧ i ≤ xs.length ∧ Pv i H, ⟨xs.length, by simp, Nat.zero_le _, h0⟩, ?_⟩
  rintro i m H ⟨rfl, hi, p⟩
  have q := hl i H hi p
  by_cases lt : i < xs.length
  · refine .inr ⟨⟨xs, xs[i], q, by simp [lt]⟩, Pv (i + 1), fun H' p' => ⟨xs.length - (i + 1), by omega, rfl, lt, p'⟩, ?_⟩
    rintro x H' ⟨T, y, rfl, hT, rfl, hy⟩
    exact hs i y H T (hy xs q) p hT
  · obtain rfl : i = xs.length := by omega
    exact .inl ⟨⟨xs, q, rfl⟩, hd H p⟩
end R3
end

section
set_option Elab.async false
set_option linter.all false
set_option maxRecDepth 100000
set_option maxHeartbeats 4000000
/-! An own exception class over ValueError (by own classes between them or at once) whose __init__ says super().__init__("..") and keeps its one argument in a field: made, raised. -/
namespace R4
open PySem PySem.W PySem.Calls PyProof.Rows PySem.HandSPX PySem.Spec
/-! ### the text of such an __init__ -/
def iA (p1 p2 : Pos) : Arguments := { posonlyargs := [], args := [{ arg := "self", annotation := none, pos := p1 }, { arg := "at", annotation := none, pos := p2 }], vararg := none, kwonlyargs := [], kw_defaults := [], kwarg := none, defaults := [] }
def iB (text : PySem.Str) (k : Nat) (q1 q2 q3 q4 q5 q6 q7 q8 q9 q10 : Pos) : List Stmt :=
  [.Expr (.Call (.Attribute (.Call (.Name "super" q1) [] [] q2) "__init__" q3) [.Constant (.str text) k q4] [] q5) q6, .Assign [.Attribute (.Name "self" q7) "at" q8] (.Name "at" q9) q10]
def iS : Scope := { kind := .function, names := [(PySem.Str.ofString "self", .local), (PySem.Str.ofString "at", .local), (PySem.Str.ofString "__class__", .free), (PySem.Str.ofString "super", .globalImplicit)], isGenerator := false, isCoroutine := false, more := [] }
/-- what the written part says of such a class, at C, and of its __init__, at fI -/
structure SupTxt (prog : Program) (K : Frag) (mg : PySem.Str → Option Value) (x : PySem.Str) (C fI : Addr) : Prop where
  gC : mg x = some (.ref C)
  cls : ∃ nm q N bs bm sn sub ab col dd k0 k1 k2 k3 k5, K.lookup C = some (excClassObj nm q C N bs bm true sn sub ab col dd k0 k1 k2 k3 k5 "ValueError.__new__") ∧ refsVE bm = true
  sa : findIn K (.ref C) "__setattr__" = some (some (.builtin "object.__setattr__"))
  ga : findIn K (.ref C) "__getattribute__" = some (some (.builtin "BaseException.__getattribute__"))
  gg : findIn K (.ref C) "__getattr__" = some none
  noN : findIn K (.ref C) "at" = some none
  iC : findIn K (.ref C) "__init__" = some (some (.ref fI))
  tC : typeIn K (.ref fI) = some (.type "function")
  kC : keepIn K (.ref C) = true
  exC : subIn K (.ref C) (.type "BaseException") = some true
  tyC : typeIn K (.ref C) = some (.type "type")
  hdC : hasDictIn K C = true
  te : exmOne K (.ref C) (.ref C) = some true
  sup : ks_superIn K C C "__init__" = some (some (.builtin "ValueError.__init__"))
  me : mroIn K C (.ref C) = some true
  vE : subIn K (.ref C) (.type "ValueError") = some true
  op : nsIn K cStatics "thirdparty.any" = some none
  noS : mg "super" = none
  fn : ∃ (oc doc pm ct ccl cl : Value) (od an cdd cld : Option Addr) (osl ccs csl : Array (Option Value)) (cda cc : Addr) (vs : Array Value) (file : PySem.Str) (tf : Tok) (qual text : PySem.Str) (k : Nat) (p1 p2 q1 q2 q3 q4 q5 q6 q7 q8 q9 q10 : Pos),
    K.lookup fI = some ⟨oc, od, .func (ksFn "__init__" qual (iA p1 p2) (iB text k q1 q2 q3 q4 q5 q6 q7 q8 q9 q10) iS .none .none doc pm an (.ref cda) ct cc), osl⟩ ∧ codeIn K (.ref cda) qual = true ∧
    K.lookup cda = some ⟨ccl, cdd, .fields vs, ccs⟩ ∧ vs[2]? = some (.str file tf) ∧ ((prog.main.file : PySem.Str) == file) = true ∧ K.lookup cc = some ⟨cl, cld, .cell (some (.ref C)), csl⟩ ∧ (q3.endLine == q5.line) = true
  top : (prog.main.scope.names.lookup ("super" : PySem.Str)).isSome = false
theorem mc_eval {o : Expr} {name text : PySem.Str} {k : Nat} {q3 q4 q5 : Pos} {env : Env} (hq : (q3.endLine == q5.line) = true) : eval (.Call (.Attribute o name q3) [.Constant (.str text) k q4] [] q5) env = (do
    let ov ← attributeBase o name env (eval o env)
    standAt q3.atName
    let (f, first) ← holding [ov] (getMethod ov name (do return (← importBound o env).getD true))
    callWith q5 f first (backTo q5 (starEach [.Constant (.str text) k q4] env)) []) := by
  have few : methodCallForm (1 + 0) (backTo q5 (starEach [.Constant (.str text) k q4] env)) (backToKw q5 (keywordEach [] env)) = true := rfl
  have at_ : methodCallPos true o env q3 q5 = pure q5 := by
    unfold methodCallPos
    rw [hq]
    rfl
  rw [arm_eval_Call]
  unfold methodCall
  show (attributeBase o name env (eval o env) >>= fun ov => standAt q3.atName >>= fun _ => holding [ov] (calleeOf (methodCallForm (1 + 0) (backTo q5 (starEach [.Constant (.str text) k q4] env)) (backToKw q5 (keywordEach [] env))) o env ov name) >>= fun x => methodCallPos (methodCallForm (1 + 0) (backTo q5 (starEach [.Constant (.str text) k q4] env)) (backToKw q5 (keywordEach [] env))) o env q3 q5 >>= fun c => callWith c x.1 x.2 (backTo q5 (starEach [.Constant (.str text) k q4] env)) (backToKw q5 (keywordEach [] env))) = _
  rw [few, at_]
  rfl
theorem no_cell : ∀ x ∈ iS.names, x.2 ≠ .cell := by decide +kernel
theorem kS : iS.names.lookup ("super" : PySem.Str) = some .globalImplicit := by decide +kernel
theorem kC : iS.names.lookup ("__class__" : PySem.Str) = some .free := by decide +kernel
theorem kL : iS.names.lookup ("self" : PySem.Str) = some .local := by decide +kernel
theorem kA : iS.names.lookup ("at" : PySem.Str) = some .local := by decide +kernel
theorem are_locals {x v : Value} : ∀ y ∈ [(("self" : PySem.Str), x), (("at" : PySem.Str), v)], iS.names.lookup y.1 = some .local := by
  intro y hy
  rcases List.mem_cons.mp hy with rfl | hy
  · exact kL
  · rcases List.mem_cons.mp hy with rfl | hy
    · exact kA
    · cases hy
theorem one_fits (v : Value) : [v].length ≤ sizeLine := by
  rw [sizeLine_eq]
  exact (by decide : 1 ≤ 16777216)
section
variable {prog : Program} {w : World} {A : Around} {E : Value → Shared → Prop} {R : Result → Shared → Prop} {K : Frag} {mg : PySem.Str → Option Value} {C fI : Addr} {nx : PySem.Str}
/-- the bound built-in __init__ called: the exception's arguments are laid anew -/
theorem call_mw {h : Heap} {g : Array GenState} {d : Drawn} {t : Nat} {os : OsState} {u e t0 : Addr} {rest : List Value} {nm q : PySem.Str} {N : Addr} {bs bm : List Value} {sn : List PySem.Str} {sub : List Value} {ab : Bool} {col : Option Bool} {dd : Option Addr} {k0 k1 k2 k3 k5 : Option Value} {Q : Value → Shared → Prop}
    (hC : h.get? C = some (excClassObj nm q C N bs bm true sn sub ab col dd k0 k1 k2 k3 k5 "ValueError.__new__")) (he : h.get? e = some (excO C t0)) (hu : h.get? u = some (kxs_mw "ValueError.__init__" e)) (hz : rest.length ≤ sizeLine)
    (hq : ∀ h', (∀ b o, b ≠ e → h.get? b = some o → h'.get? b = some o) → h'.get? e = some (excO C h.objs.size) → Q .none ⟨h', g, d, t, os⟩) :
    wpAny (model prog w) A (call (.ref u) rest) Q E ⟨h, g, d, t, os⟩ := by
  refine wpAny_call (codeAny_of_tree ?_)
  show wpAny _ A.in1 (callAny (.ref u) ⟨rest, []⟩) _ _ _
  simp only [callAny]
  refine wpAny_bind (wpAny_load hu ?_)
  simp only [kxs_mw, show (Value.type "method-wrapper" == Value.type "method" || Value.type "method-wrapper" == Value.type "builtin_function_or_method" || Value.type "method-wrapper" == Value.type "method-wrapper") = true by decide, if_true]
  refine KFB.if_so (by decide) (wpAny_bind (check_bound_init F.excBase_ValueError.toExcCallFacts hC he rfl (wpAny_bind (wpAny_pure (wpAny_pure ⟨plainId_quiet F.excBase_ValueError.init.plain _, codeAny_builtin F.excBase_ValueError.initEntry ?_⟩)))))
  exact exc_init_tree (cls := .ref C) (t0 := t0) (dv := none) (c2 := .none) (c3 := .none) (b4 := .bool false) he hz fun h' k a _ => hq h' k a
/-- what __init__ leaves of a fresh exception at x -/
structure Inited (h h' : Heap) (x C dx : Addr) (v : Value) : Prop where
  keep : ∀ b o, b ≠ x → h.get? b = some o → h'.get? b = some o
  obj : ∃ t1, h'.get? x = some { cls := .ref C, dict := some dx, data := .fields #[.ref t1, .none, .none, .none, .bool false, .none] }
  big : h.objs.size ≤ dx
  ne : dx ≠ x
  ns : h'.Ns1 dx (fun y => if y = "at" then some v else none)
theorem sup_init (T : SupTxt prog K mg nx C fI) {s : Shared} {x t0 : Addr} {v : Value} {mb : PySem.Str → Option Value} (X : K.In s.heap) (glob : s.heap.Ns mainGlobals mg) (blt : s.heap.Ns builtinsNs mb) (boot : ∀ x : PySem.Str, x ≠ "__name__" → mb x = bootBuiltins x)
    (lim : s.heap.NoLimit) (hx : s.heap.get? x = some (excO C t0)) (xnone : K.lookup x = none) (room : A.depth < recursionLimit) (hq : ∀ h' tk dx, Inited s.heap h' x C dx v → R (.ok (.ret .none)) { s with heap := h', toks := tk }) :
    codeAny (model prog w) A (.call (.ref fI) ⟨[.ref x, v], []⟩) R s := by
  obtain ⟨oc, doc, pm, ct, ccl, cl, od, an, cdd, cld, osl, ccs, csl, cda, cc, vs, file, tf, qual, text, k, p1, p2, q1, q2, q3, q4, q5, q6, q7, q8, q9, q10, ho, hcd, hcode, hvs, hfile, hcell, hline⟩ := T.fn
  obtain ⟨nm, q, N, bs, bm, sn, sub, ab, col, dd, k0, k1, k2, k3, k5, hC, hbm⟩ := T.cls
  have hcl : clsIn K C = some { name := nm, bases := bs, mro := .ref C :: bm, ns := N, qualname := q, hasDict := true, slotNames := sn, subclasses := sub, abstract := ab, collection := col, hasDel := false } := by unfold clsIn; rw [hC] <;> rfl
  have hsup := T.sup
  unfold ks_superIn at hsup
  rw [hcl] at hsup
  refine ks_codeAny_call_defAt (fd := ksFn "__init__" qual (iA p1 p2) (iB text k q1 q2 q3 q4 q5 q6 q7 q8 q9 q10) iS .none .none doc pm an (.ref cda) ct cc) (body := iB text k q1 q2 q3 q4 q5 q6 q7 q8 q9 q10) (binds := [("self", .ref x), ("at", v)])
    room (X _ _ ho) rfl lim (codeRec_of X hcd) rfl (BindsTo.of_eq (by first | rfl | with_unfolding_all rfl)) no_cell are_locals (fun h₁ hns k₁ => ?_) rfl rfl rfl
  obtain ⟨hp, g, d, t, os⟩ := s
  have X₁ : K.In h₁ := X.keeps k₁
  have hx₁ := k₁ _ _ hx
  have inst : InstAt h₁ x (excO C t0) C none := ⟨hx₁, rfl, rfl, trivial⟩
  have hLx : hp.objs.size ≠ x := Nat.ne_of_gt (Heap.lt_size hx)
  -- super().__init__("..")
  refine ks_wpAt_execs_cons (ks_wpAt_Expr_any (ks_wpAt_MethodCall ?_ (mc_eval hline)))
  refine ks_wpAt_super_base (env := ksEnv qual iS hp.objs.size fI (.ref cda) cc) kS kC (by decide +kernel) rfl (X₁ _ _ ho) rfl rfl rfl (X₁ _ _ hcode) rfl hvs hfile T.top ?_
  refine ks_loadName_global (env := ksEnv qual iS hp.objs.size fI (.ref cda) cc) rfl kS (loadGlobal_builtin (env := ksEnv qual iS hp.objs.size fI (.ref cda) cc) (glob.keeps k₁) T.noS (blt.keeps k₁) ((boot _ (by decide +kernel)).trans (by decide +kernel)) ⟨rfl, ?_⟩)
  refine wpAny_loadName_free (c := cc) rfl kC rfl ⟨_, X₁ _ _ hcell, rfl⟩ ?_
  refine wpAny_loadName_local rfl kL hns (by first | rfl | with_unfolding_all rfl | kernel_rfl) ?_
  refine ks_wpAny_isType_cls (X₁ _ _ hC) rfl ⟨rfl, ?_⟩
  refine ks_wpAny_call_super (X₁ _ _ hC) rfl hx₁ rfl (fun c e => nomatch e) (looks_mroIn X₁ T.me) (fun h₂ e₂ k₂ => ?_)
  have X₂ : K.In h₂ := X₁.keeps k₂
  have hI : Looks (model prog w) h₂ (isInstance (.ref x) (.type "ValueError")) true := (InstAt.type (⟨k₂ _ _ hx₁, rfl, rfl, trivial⟩ : InstAt h₂ x (excO C t0) C none)).andThen (looks_subIn X₂ T.vE)
  refine kxs_getMethod kxs_ValueError e₂ (looks_opaque X₂ T.op) (l₀ := .ref C :: bm) (fun A Q E s k q => wpAny_bind ((looks_clsIn X₂ hcl) A _ E s k (wpAny_pure q))) rfl X₂ hsup hI (ks_ne X₁ inst hcl) (by decide +kernel) ?_
  have hu : (h₂.push (kxs_mw "ValueError.__init__" x)).get? h₂.objs.size = some (kxs_mw "ValueError.__init__" x) := Heap.get?_push_size _ rfl
  have k₃ : ∀ b o, h₂.get? b = some o → (h₂.push (kxs_mw "ValueError.__init__" x)).get? b = some o := fun b o e => Heap.get?_push_of_some _ e
  have he : ∀ env : Env, starEach [Expr.Constant (.str text) k q4] env = (false, eval (Expr.Constant (.str text) k q4) env) :: starEach [] env := fun _ => rfl
  rw [he]
  refine kxs_callWith (i := "ValueError.__init__") (x := x) (by rfl) (evalArgs_plain ?_)
  show wpAny _ _ (spliced ((false, eval (Expr.Constant (.str text) k q4) _) :: backTo q5 (starEach [] _))) _ _ _
  refine Calls.spliced_cons (Calls.Constant_str (Calls.spliced_nil ⟨hu, ?_⟩))
  refine call_mw (X₂.keeps k₃ _ _ hC) (k₃ _ _ (k₂ _ _ hx₁)) hu (one_fits _) fun h₄ k₄ hx₄ => ?_
  -- self.at = at
  have k14 : ∀ b o, b ≠ x → h₁.get? b = some o → h₄.get? b = some o := fun b o nb e => k₄ b o nb (k₃ b o (k₂ b o e))
  have hns₄ : h₄.Ns hp.objs.size (fun y => ([("at", v), ("self", Value.ref x)] : List (PySem.Str × Value)).lookup y) := by
    obtain ⟨o, es, ep, hL, r⟩ := hns
    exact ⟨o, es, ep, k14 _ _ hLx hL, r⟩
  have X₄ : K.In h₄ := fun b o e => k14 b o (fun z => by rw [z, xnone] at e; cases e) (X₁ b o e)
  refine wpAt_of_wpAny (wpAny_execs_cons (plainObj_wpAny_Assign_Attribute ?_))
  refine wpAny_Name (wpAny_loadName_local (v := v) rfl kA hns₄ (by first | rfl | with_unfolding_all rfl | kernel_rfl) ?_) (by decide +kernel)
  refine wpAny_Name (wpAny_loadName_local (v := .ref x) rfl kL hns₄ (by first | rfl | with_unfolding_all rfl | kernel_rfl) ?_) (by decide +kernel)
  refine set_plain X₄ (ox := excO C (h₂.push (kxs_mw "ValueError.__init__" x)).objs.size) (od := none) ⟨hx₄, rfl, rfl, trivial⟩ T.sa ?_
  refine exc_osa X₄ hx₄ hcl (show refsVE (.ref C :: bm) = true from hbm) rfl T.noN (fun h₅ tk₅ dx k₅ dn dne hx₅ hn₅ => ?_)
  refine wpAny_execs_nil (hq h₅ tk₅ dx ⟨fun b o nb e => k₅ b o nb (k14 b o nb (k₁ b o e)), ⟨_, hx₅⟩, ?_, dne, hn₅⟩)
  exact Nat.le_of_lt (Nat.lt_of_lt_of_le (show hp.objs.size < h₄.objs.size from hns₄.lt) dn)
/-- a made one -/
structure Made (h h' : Heap) (e C d : Addr) (v : Value) : Prop where
  keep : ∀ b o, h.get? b = some o → h'.get? b = some o
  new : h.objs.size ≤ e
  obj : ∃ oe vs, h'.get? e = some oe ∧ oe.cls = .ref C ∧ oe.dict = some d ∧ oe.data = .fields vs ∧ vs[1]? = some .none
  big : h.objs.size ≤ d
  ne : d ≠ e
  ns : h'.Ns1 d (fun y => if y = "at" then some v else none)
theorem sup_made (T : SupTxt prog K mg nx C fI) {s : Shared} {v : Value} {mb : PySem.Str → Option Value} (X : K.In s.heap) (glob : s.heap.Ns mainGlobals mg) (blt : s.heap.Ns builtinsNs mb) (boot : ∀ x : PySem.Str, x ≠ "__name__" → mb x = bootBuiltins x)
    (lim : s.heap.NoLimit) (room : A.depth + 1 < recursionLimit) (hq : ∀ h' tk e d, Made s.heap h' e C d v → R (.ok (.ret (.ref e))) { s with heap := h', toks := tk }) :
    codeAny (model prog w) A (.call (.ref C) ⟨[v], []⟩) R s := by
  obtain ⟨nm, q, N, bs, bm, sn, sub, ab, col, dd, k0, k1, k2, k3, k5, hC, hbm⟩ := T.cls
  obtain ⟨hp, g, dr, tk, os⟩ := s
  have k : ∀ b o, hp.get? b = some o → ((hp.push (kdv_tup [v])).push (excO C hp.objs.size)).get? b = some o := fun b o e => Heap.get?_push_of_some _ (Heap.get?_push_of_some _ e)
  have here : ((hp.push (kdv_tup [v])).push (excO C hp.objs.size)).get? (hp.objs.size + 1) = some (excO C hp.objs.size) := by heap_get
  have notK : K.lookup (hp.objs.size + 1) = none := by
    cases e : K.lookup (hp.objs.size + 1) with
    | none => rfl
    | some o => exact absurd (Nat.lt_of_succ_lt (Heap.lt_size (show hp.get? _ = some o from X _ _ e))) (Nat.lt_irrefl _)
  refine call_own F.excBase_ValueError (fun Y => refsVE_contains Y bm hbm) (X _ _ hC) (looks_findIn X T.iC) (fun self => bind_fn X self T.tC) (one_fits v)
    (sup_init (s := ⟨(hp.push (kdv_tup [v])).push (excO C hp.objs.size), g, dr, tk, os⟩) T (X.keeps k) (glob.keeps k) (blt.keeps k) boot (lim.keeps k) here notK room fun h' tk' dx J => ?_)
  have size2 : ((hp.push (kdv_tup [v])).push (excO C hp.objs.size)).objs.size = hp.objs.size + 1 + 1 := by rw [Heap.size_push, Heap.size_push]
  have big : hp.objs.size + 2 ≤ dx := by
    have q := J.big
    rw [show (Shared.heap ⟨(hp.push (kdv_tup [v])).push (excO C hp.objs.size), g, dr, tk, os⟩).objs.size = hp.objs.size + 1 + 1 from size2] at q
    exact q
  obtain ⟨t1, ob⟩ := J.obj
  exact ⟨rfl, hq h' tk' (hp.objs.size + 1) dx ⟨fun b o e => J.keep b o (Nat.ne_of_lt (Nat.lt_succ_of_lt (Heap.lt_size e))) (k b o e), Nat.le_succ _, ⟨_, _, ob, rfl, rfl, rfl, rfl⟩, Nat.le_trans (Nat.le_add_right _ 2) big, J.ne, J.ns⟩⟩
end
end R4
namespace R3
open PySem PySem.Spec PyProof.Rows L2
theorem relO_at {v : V} {v' : Value} (r : L2.RelV v v') (f : PySem.Str) : RelO (List.lookup f [(("at" : PySem.Str), v)]) (if f = "at" then some v' else none) := by
  by_cases h : f = "at"
  · subst h
    rw [if_pos rfl, show List.lookup ("at" : PySem.Str) [(("at" : PySem.Str), v)] = some v by simp [List.lookup]]
    exact r
  · rw [if_neg h, show List.lookup f [(("at" : PySem.Str), v)] = none by simp [List.lookup, show (f == ("at" : PySem.Str)) = false by simpa using h]]
    trivial
section
variable {X : Cx} {C fI : Addr} {nx : PySem.Str}
/-- X(e), X such a class: a new exception whose own dict at d holds what e gives -/
def tMkAt (C : Addr) (ta : TA) : L2.St → Hp → XK → Prop := fun σ H Q => ta σ H fun vs H1 => ∃ v, vs = [v] ∧ ∀ d, H1 d = none → Q (.ref C) (some d) (upd H1 d (.xd [(("at" : PySem.Str), v)]))
theorem pmk_at {a : Expr} {ta : TA} {p pos : Pos} {k : Nat} (T : R4.SupTxt X.prog X.K X.mg nx C fI) (hr : Room k X.A) (ha : PA X [a] ta) (hg : Gl X nx := by rfl) (hdb : (nx == ("__debug__" : PySem.Str)) = false := by decide)
    (he : starEach (a :: []) X.env = (false, eval a X.env) :: starEach [] X.env := by rfl) (hpl : (backTo pos (starEach [] X.env)).any (·.1) = false := by rfl) :
    PMk X (.Call (.Name nx p) [a] [] pos) (tMkAt C ta) := by
  intro pins s σ H Q I h
  refine wpAny_Call_Name_kw (ld_glob I hg T.gC ?_ hdb)
  refine PySem.W.callWith_K (h₀ := X.base) I.ok.mod.kin T.kC (thn (ha.run pos pins s σ H _ I h) fun us s1 hh => ?_) he hpl
  obtain ⟨vs, H1, I1, r1, v, rfl, q1⟩ := hh
  obtain ⟨v', rfl, rv⟩ := vals1 r1
  refine ⟨I1.kIn, ?_⟩
  show wpAny _ _ (call (.ref C) [v']) _ _ _
  have lim := I1.nolimit
  obtain ⟨mb, b1, b2⟩ := I1.mod.blt
  have bk := I1.bk
  obtain ⟨hp, g, d, t, os⟩ := s1
  refine wpAny_call (R4.sup_made T I1.kIn (I1.mod.glob.keeps bk) (b1.keeps bk) b2 lim (by have := hr.dp; omega) fun h' tk' e d M => ?_)
  show MkP X pins σ Q (.ref e) ⟨h', g, _, tk', os⟩
  obtain ⟨oe, fv, hoe, hc, hd, hdat, h1⟩ := M.obj
  obtain ⟨G', g1, g2⟩ := restrict h' fun b => decide (b ≠ e)
  have gk : ∀ b, b ≠ e → G'.get? b = h'.get? b := fun b hb => g1 b (decide_eq_true hb)
  have ge : G'.get? e = none := g2 e (by simp)
  have old : ∀ b o, hp.get? b = some o → G'.get? b = some o := fun b o q => (gk b (Nat.ne_of_lt (Nat.lt_of_lt_of_le (Heap.lt_size q) M.new))).trans (M.keep b o q)
  have ob : ObjOk X.prog X.w (upd H1 d (.xd [(("at" : PySem.Str), v)])) G' d (.xd [(("at" : PySem.Str), v)]) := ⟨_, M.ns.at (fun o q => (gk d M.ne).trans q), fun f => relO_at rv f⟩
  refine ⟨e, oe, fv, ⟨G', g, _, tk', os⟩, _, .ref C, some d, rfl, I1.laid (t' := tk') old M.big ob, fun b o q => ?_, ge, hoe, ⟨hc, hd⟩, hdat, h1, ?_, rfl, I1.bare, raises_own T.exC T.tyC, q1 d (I1.hok.fresh M.big)⟩
  · by_cases hb : b = e
    · have q' : G'.get? b = some o := q
      rw [hb, ge] at q'
      cases q'
    · exact (gk b hb).symm.trans q
  · rw [upd_ne (Ne.symm M.ne)]
    exact I1.hok.fresh M.new
end
end R3
end

section
set_option Elab.async false
set_option linter.all false
set_option maxRecDepth 100000
set_option maxHeartbeats 4000000
/-! Calls by keywords alone; calls whose raise is wished for at the slots; isinstance of a caught error that has fields; != by the class's own __eq__. -/
namespace R3
open PySem PySem.Spec PyProof.Rows L2
section
variable {X : Cx} {CX : CXT} {k n : Nat} {f C : Addr} {fd : FuncData} {ps ks : List PySem.Str} {sp : Sp} {x m : PySem.Str} {p pos apos : Pos} {e o : Expr} {es : List Expr} {kws : List Keyword} {ta : TE} {t tk : TA} {g : List Value → List Value → List Value} {gV : List V → List V → List V}
/-- the keywords behind the positional values, in the parameters' order -/
theorem kbn_all {K : PySem.W.Frag} (h : ∀ (s : Shared) (us ws : List Value), us.length = n → ws.length = ks.length → BindsTo s fd ⟨us, ks.zip ws⟩ (ps.zip (us ++ ws))) : KBn K fd ps n ks (fun us ws => us ++ ws) (fun vs zs => vs ++ zs) :=
  ⟨fun s us ws _ l1 l2 => h s us ws l1 l2, fun r1 r2 => r1.append r2⟩
/-- f(k = v, ..) -/
theorem pe_callN0 {E : XK} (F : FnOk X.prog X.w X.K X.mg X.base CX k f fd ps sp) (hr : Room k X.A) (hg : Gl X x) (hm : X.mg x = some (.ref f)) (hk : PySem.W.keepIn X.K (.ref f) = true) (hb : KBn X.K fd ps 0 ks g gV) (hx : Passes CX X E) (hkw : PK X kws tk)
    (hall : (backToKw pos (keywordEach kws X.env)).all (·.1.isSome) = true := by rfl) (hks : (backToKw pos (keywordEach kws X.env)).filterMap (·.1) = ks := by rfl) (hdb : (x == ("__debug__" : PySem.Str)) = false := by decide)
    (hpl : ((backTo pos (starEach [] X.env)).any (·.1) || (backToKw pos (keywordEach kws X.env)).any (·.1.isNone)) = false := by rfl) :
    PE X (.Call (.Name x p) [] kws pos) (tCallN 0 ks.length sp gV E tNil tk) := by
  refine ⟨fun pins s σ H Q I h => ?_⟩
  refine wpAny_Call_Name_kw (ld_glob I hg hm ?_ hdb)
  refine PySem.W.callWith_KW0 (h₀ := X.base) I.ok.mod.kin hk hall ?_ hpl
  refine thn (hkw.run pos pins s σ H _ I h) fun ws s2 ⟨zs, H2, I2, rz, l1, l2, q2⟩ => ⟨I2.kIn, ?_⟩
  rw [hks]
  exact run_fnN (us := []) (vs := []) F hr hb hx I2 .nil rz rfl l2 q2
/-- the callee runs, what it raises wished for at the slots -/
theorem run_fnNS {E : L2.St → XK} {pins : List (Addr × Obj)} {σ : L2.St} {H : Hp} {s : Shared} {Q : VK} {us ws : List Value} {vs zs : List V} (F : FnOk X.prog X.w X.K X.mg X.base CX k f fd ps sp) (hr : Room k X.A) (hb : KBn X.K fd ps n ks g gV) (hx : PassesAt CX X σ (E σ))
    (I : L2.Inv X pins σ H s) (r : Vals vs us) (rz : Vals zs ws) (l1 : vs.length = n) (l2 : zs.length = ks.length) (h : sp (gV vs zs) H Q (E σ)) : wpAny (model X.prog X.w) X.A (call (.ref f) us (ks.zip ws)) (EP X pins σ Q) X.xe s := by
  have r2 := hb.rel r rz
  refine wpAny_call (codeAny_mono (F.run X.A X.stack s H ⟨us, ks.zip ws⟩ (g us ws) (gV vs zs) Q (E σ) hr I.env0 (hb.to s us ws I.kIn (r.length.symm.trans l1) (rz.length.symm.trans l2)) r2 h) fun r s' hq => ?_)
  cases r with
  | error e => exact hx pins H s e s' I hq
  | ok fl =>
    cases fl with
    | ret u => exact I.after hq
    | next => exact False.elim hq
    | brk => exact False.elim hq
    | cont => exact False.elim hq
/-- o.m(k = v, ..) -/
def tMethKS (C : Addr) (m : PySem.Str) (l : Nat) (sp : Sp) (gV : List V → List V → List V) (E : L2.St → XK) (ta : TE) (tk : TA) : TE := fun σ H Q => ta σ H fun x H1 => ∃ a dx fs, x = .ref a ∧ H1 a = some (.ins C dx fs) ∧ fs.lookup m = none ∧ tk σ H1 fun zs H2 => zs.length = l ∧ sp (gV [x] zs) H2 Q (E σ)
theorem pe_methKS {E : L2.St → XK} {pl : Sem Bool} (he : PE X o ta) (c : Cls X.K C) (hm : Meth X.K C m f) (F : FnOk X.prog X.w X.K X.mg X.base CX k f fd ps sp) (hr : Room k X.A) (hb : KBn X.K fd ps 1 ks g gV) (hx : ∀ σ, PassesAt CX X σ (E σ)) (hkw : PK X kws tk)
    (hall : (backToKw pos (keywordEach kws X.env)).all (·.1.isSome) = true := by rfl) (hks : (backToKw pos (keywordEach kws X.env)).filterMap (·.1) = ks := by rfl)
    (hpl : ((backTo pos (starEach [] X.env)).any (·.1) || (backToKw pos (keywordEach kws X.env)).any (·.1.isNone)) = false := by rfl)
    (ht : eval (.Call (.Attribute o m apos) [] kws pos) X.env = (do
      let ov ← eval o X.env
      standAt apos.atName
      let (f, first) ← holding [ov] (getMethod ov m pl)
      callWith pos f first (backTo pos (starEach [] X.env)) (backToKw pos (keywordEach kws X.env))) := by rfl) :
    PE X (.Call (.Attribute o m apos) [] kws pos) (tMethKS C m ks.length sp gV E ta tk) := by
  refine ⟨fun pins s σ H Q I h => ?_⟩
  refine PySem.W.methodCall_KW (pl := pl) (thn (he.run pins s σ H _ I h) fun u s1 ⟨x, H1, I1, rx, a, dx, fs, ex, ea, l, q⟩ => ?_) ht
  subst ex
  obtain rfl : u = Value.ref a := rx
  refine getmeth_ok I1 ea c hm l ?_
  refine PySem.W.callWith_KW0 (first := [.ref a]) (h₀ := X.base) I.ok.mod.kin hm.kp hall (thn (hkw.run pos pins s1 σ H1 _ I1 q) fun ws s2 ⟨zs, H2, I2, rz, l2, q2⟩ => ⟨I2.kIn, ?_⟩) hpl
  rw [hks]
  exact run_fnNS (us := [.ref a]) (vs := [.ref a]) F hr hb (hx σ) I2 (.cons rfl .nil) rz rfl l2 q2
/-- o.m(e, ..), what is raised wished for at the slots -/
def tMethS (C : Addr) (m : PySem.Str) (sp : Sp) (E : L2.St → XK) (ta : TE) (t : TA) : TE := fun σ H Q => ta σ H fun x H1 => ∃ a dx fs, x = .ref a ∧ H1 a = some (.ins C dx fs) ∧ fs.lookup m = none ∧ t σ H1 fun vs H2 => sp (x :: vs) H2 Q (E σ)
/-- C(e, ..), what is raised wished for at the slots -/
def tMakeS (C : Addr) (sp : Sp) (E : L2.St → XK) (t : TA) : TE := fun σ H Q => t σ H fun vs H1 => ∀ x dx, H1 x = none → H1 dx = none → dx ≠ x →
  sp (.ref x :: vs) (upd (upd H1 dx (.own x)) x (.ins C dx [])) (fun v H2 => v = .non ∧ Q (.ref x) H2) (E σ)
theorem pe_makeS {E : L2.St → XK} (M : Mk X.K C f) (F : FnOk X.prog X.w X.K X.mg X.base CX k f fd ps sp) (hr : Room (k + 1) X.A) (hg : Gl X x) (hm : X.mg x = some (.ref C)) (hb : Binds X.K fd ps [])
    (hx : ∀ (σ : L2.St) (pins : List (Addr × Obj)) (H H' : Hp) (s s0 : Shared) (e : Value) (s' : Shared), L2.Inv X pins σ H s0 → L2.Inv X pins σ H' s → CX X.stack H' s (E σ) e s' → X.xe e s')
    (ha : PA X (e :: es) t) (hdb : (x == ("__debug__" : PySem.Str)) = false := by decide) (he : starEach (e :: es) X.env = (false, eval e X.env) :: starEach es X.env := by rfl) (hpl : (backTo pos (starEach es X.env)).any (·.1) = false := by rfl) :
    PE X (.Call (.Name x p) (e :: es) [] pos) (tMakeS C sp E t) := by
  refine ⟨fun pins s σ H Q I h => ?_⟩
  refine wpAny_Call_Name_kw (ld_glob I hg hm ?_ hdb)
  refine PySem.W.callWith_K (h₀ := X.base) I.ok.mod.kin M.kp (thn (ha.run pos pins s σ H _ I h) fun us s1 ⟨vs, H1, I1, r, q⟩ => ⟨I1.kIn, ?_⟩) he hpl
  have hq := q (s1.heap.objs.size + 1) s1.heap.objs.size (I1.hok.fresh (Nat.le_succ _)) (I1.hok.fresh (Nat.le_refl _)) (Nat.ne_of_lt (Nat.lt_succ_self _))
  have I2 := L2.Inv.made (C := C) I1
  have r2 : Vals (V.ref (s1.heap.objs.size + 1) :: vs) (Value.ref (s1.heap.objs.size + 1) :: us) := .cons rfl r
  have hl : (Value.ref (s1.heap.objs.size + 1) :: us).length = ps.length := by
    have e := r2.length
    rw [F.len _ _ _ _ hq] at e
    exact e.symm
  have b := hb { s1 with heap := _ } (Value.ref (s1.heap.objs.size + 1) :: us) I2.kIn (by rw [List.append_nil]; exact hl)
  rw [List.append_nil] at b
  refine wpAny_call (make_map (f := f) I1.kIn M.makes M.init (beq_iff_eq.mp M.fn) (codeAny_mono (F.run _ X.stack _ _ ⟨Value.ref (s1.heap.objs.size + 1) :: us, []⟩ (Value.ref (s1.heap.objs.size + 1) :: us) _ _ (E σ) (hr.make C us [])
    (I2.env0.make C us []) b r2 hq) fun r s' hq' => ?_))
  cases r with
  | error e => exact hx σ pins _ _ _ _ e s' I1 I2 hq'
  | ok fl =>
    cases fl with
    | ret u =>
      obtain ⟨v, H', I3, rv, ev, q3⟩ := I2.after hq'
      subst ev
      exact ⟨rv, ⟨V.ref (s1.heap.objs.size + 1), H', I3, rfl, q3⟩⟩
    | next => exact False.elim hq'
    | brk => exact False.elim hq'
    | cont => exact False.elim hq'
end
/-! ### isinstance(e, c), e the caught error, its fields at d -/
def rIsX (K : PySem.W.Frag) (a : Addr) (cls : Value) (dd : Option Addr) : List V → Hp → VK → Prop := fun xs H Q => ∃ (D d : Addr) (fs : List (PySem.Str × V)) (c : V) (cv : Value) (b : Bool), cls = .ref D ∧ dd = some d ∧ ExcC K D ∧ H d = some (.xd fs) ∧ xs = [.ref a, c] ∧ (∀ u, L2.RelV c u → u = cv) ∧ PySem.W.kitOne K (.ref D) cv = some b ∧ Q (.bl b) H
theorem call_isX {X : Cx} {a : Addr} {cls : Value} {dd : Option Addr} {oe : Obj} {pn : List (Addr × Obj)} (hz : Zc cls dd oe) (hf : ∃ vs, oe.data = .fields vs) : CallR (X.suite a ((a, oe) :: pn)) (.builtin "isinstance") (rIsX X.K a cls dd) := by
  intro pins s σ H xs us Q I r h
  obtain ⟨D, d, fs, c, cv, b, rfl, rfl, C, hd, rfl, hcv, e, q⟩ := h
  cases r with
  | cons rx rr =>
    cases rr with
    | cons rt rr =>
      cases rr
      cases rx
      have ec := hcv _ rt
      subst ec
      obtain ⟨hget, _⟩ := I.pin (a, oe) (List.mem_append.mpr (.inl List.mem_cons_self))
      obtain ⟨vs, hv⟩ := hf
      have hx : ObjOk X.prog X.w H s.heap d (.xd fs) := I.hok d _ hd
      obtain ⟨mA, hns, _⟩ := hx
      obtain ⟨od, ho, _⟩ := lookIn_ns hns
      have J : PySem.W.InstAt s.heap a oe D (some od) := ⟨hget, hz.1, by unfold PySem.W.notCls; rw [hv] <;> rfl, by rw [hz.2]; exact ho⟩
      have hcl : (PySem.W.clsIn X.K D).isSome = true := by
        obtain ⟨cd, hc, _⟩ := PySem.W.any_some C.hd
        rw [hc]; rfl
      exact PySem.W.kia_one (PySem.W.kitx_exc hcl C.hg C.hk C.hs C.ha C.hn C.ht C.hm) I.kIn J e (fun z => nomatch z) fun tk => ⟨.bl b, H, I.kept (t' := tk) fun _ _ z => z, rfl, q⟩
/-! ### a != b by the class's own __eq__ (no __ne__ of its own) -/
structure NeTxt (K : PySem.W.Frag) (C f : Addr) : Prop where
  cls : ∃ nm q N bs hdct sn sub ab col dd k0 k1 k2 k3 k5 newId, K.lookup C = some (excClassObj nm q C N bs [.type "object"] hdct sn sub ab col dd k0 k1 k2 k3 k5 newId) ∧ PySem.W.nsOkIn K N = true ∧ PySem.W.nsIn K N "__eq__" = some (some (.ref f)) ∧ PySem.W.nsIn K N "__ne__" = some none
  fn : ∃ of, K.lookup f = some of ∧ of.cls = .type "function"
theorem ns_some_of {K : PySem.W.Frag} {h : Heap} {N : Addr} {mg : PySem.Str → Option Value} {n : PySem.Str} {v : Value} (X : K.In h) (G : h.Ns N mg) (e : PySem.W.nsIn K N n = some (some v)) : mg n = some v := by
  obtain ⟨o, es, ep, ho, hd, _, hf⟩ := G
  unfold PySem.W.nsIn at e
  split at e
  · rename_i c d es' n' sl q
    rw [X _ _ q] at ho
    cases ho
    cases hd
    rw [← hf]
    unfold nsFind findBy
    rw [← Array.find?_toList]
    split at e
    · rename_i z hz
      rw [hz]
      exact Option.some.inj e
    · split at e <;> cases e
  · cases e
def rNeI (C : Addr) (sp : Sp) : R2 := fun x y H Q => ∃ a b dx dy fs gs, x = .ref a ∧ y = .ref b ∧ H a = some (.ins C dx fs) ∧ H b = some (.ins C dy gs) ∧ sp [x, y] H (fun v H' => ∃ r, v = .bl r ∧ Q (.bl (!r)) H') E0
theorem op_neI {X : Cx} {CX : CXT} {n : Nat} {C f : Addr} {fd : FuncData} {ps : List PySem.Str} {sp : Sp} (T : NeTxt X.K C f) (F : FnOk X.prog X.w X.K X.mg X.base CX n f fd ps sp) (hr : Room (n + 1) X.A) (hb : Binds X.K fd ps []) (hx : Passes CX X E0) :
    OpR X (compareOp .NotEq) (rNeI C sp) := by
  intro pins s σ H x y v u Q I rx ry h
  obtain ⟨a, b, dx, dy, fs, gs, rfl, rfl, ha, hb', hsp⟩ := h
  cases rx
  cases ry
  obtain ⟨mA, J, _⟩ := ins_get I.hok ha
  obtain ⟨mB, J', _⟩ := ins_get I.hok hb'
  obtain ⟨od, J, _⟩ := J.look
  obtain ⟨od', J', _⟩ := J'.look
  obtain ⟨nm, q, N, bs, hdct, sn, sub, ab, col, dd, k0, k1, k2, k3, k5, newId, hC, hok, he, hne⟩ := T.cls
  obtain ⟨of, hfo, hfc⟩ := T.fn
  have K1 := I.kIn
  have G : s.heap.Ns N (s.heap.nsMap N) := .of_isNs (PySem.W.isNs_of_in K1 hok)
  have e0 : Env0 X.prog X.w X.K X.mg X.base X.A.in1 X.stack s H := by
    have e := I.env0
    exact ⟨e.frames, e.mod, e.bs, e.bsz, e.funs, e.frf, e.hok, e.bare⟩
  have hl := F.len _ _ _ _ hsp
  have r2 : Vals [V.ref a, V.ref b] [Value.ref a, Value.ref b] := .cons rfl (.cons rfl .nil)
  have run := F.run X.A.in1 X.stack s H ⟨[.ref a, .ref b], []⟩ [.ref a, .ref b] [.ref a, .ref b] _ E0 hr.in1 e0 (by
    have := hb s [.ref a, .ref b] I.kIn (by simpa using hl)
    simpa using this) r2 hsp
  have own : s.heap.OwnEqNoNe a C f "object" [.type "object"] := ⟨_, of, nm, q, N, bs, hdct, sn, sub, ab, col, dd, k0, k1, k2, k3, k5, newId, s.heap.nsMap N, _, J.at_, J.cls, K1 _ _ hC, G, ns_some_of K1 G he, K1 _ _ hfo, hfc, PySem.F.mro_object, PySem.F.cmp_object.eq.lookup, PySem.W.ns_none_of K1 G hne⟩
  obtain ⟨hp, gg, d, t, os⟩ := s
  refine compareOp_ne_ownEq PySem.F.cmp_object own J'.at_ J'.cls (by have := hr.un; omega) (wpAny_call (codeAny_mono run fun r s' hq => ?_))
  cases r with
  | error e => exact hx pins σ H _ e s' I hq
  | ok fl =>
    cases fl with
    | ret w =>
      obtain ⟨z, H', I', rz, r, ez, q⟩ := I.after hq
      subst ez
      cases rz
      exact ⟨r, rfl, .bl (!r), H', I', rfl, q⟩
    | next => exact False.elim hq
    | brk => exact False.elim hq
    | cont => exact False.elim hq
end R3
end

section
set_option Elab.async false
set_option linter.all false
set_option maxRecDepth 100000
set_option maxHeartbeats 4000000
namespace K3
open PySem L2 R3
def top (i : Nat) : Stmt := PySem.Challenge.pw_backinstep_k03_whole_one_row_for_ever.main.body.getD i (.Pass ⟨0, 0, 0, 0⟩)
/-- where the defs and classes stand behind the top -/
structure Ads where
  f_is_integer : Addr
  d_is_integer : FuncData
  f_is_number : Addr
  d_is_number : FuncData
  f_is_text : Addr
  d_is_text : FuncData
  f_is_sequence : Addr
  d_is_sequence : FuncData
  f_common_divisor : Addr
  d_common_divisor : FuncData
  f_common_multiple : Addr
  d_common_multiple : FuncData
  f_is_table : Addr
  d_is_table : FuncData
  f_check_row : Addr
  d_check_row : FuncData
  f_joined_effects : Addr
  d_joined_effects : FuncData
  f_said_effect : Addr
  d_said_effect : FuncData
  f_effect_left : Addr
  d_effect_left : FuncData
  f_effect_rings : Addr
  d_effect_rings : FuncData
  f_ring_numbers : Addr
  d_ring_numbers : FuncData
  f_first_unlike : Addr
  d_first_unlike : FuncData
  f_law_box : Addr
  d_law_box : FuncData
  f_law_take : Addr
  d_law_take : FuncData
  f_law_pick : Addr
  d_law_pick : FuncData
  f_law_tables : Addr
  d_law_tables : FuncData
  f_law_row : Addr
  d_law_row : FuncData
  f_law_after : Addr
  d_law_after : FuncData
  f_law_far : Addr
  d_law_far : FuncData
  f_law_rings : Addr
  d_law_rings : FuncData
  f_law_refused : Addr
  d_law_refused : FuncData
  f_law_is_square : Addr
  d_law_is_square : FuncData
  f_law_turn_right : Addr
  d_law_turn_right : FuncData
  f_law_case_right : Addr
  d_law_case_right : FuncData
  f_law : Addr
  d_law : FuncData
  f_Device_init : Addr
  d_Device_init : FuncData
  f_Device_eq : Addr
  d_Device_eq : FuncData
  f_Device_effect : Addr
  d_Device_effect : FuncData
  f_Turn_init : Addr
  d_Turn_init : FuncData
  f_Turn_said_at : Addr
  d_Turn_said_at : FuncData
  f_Turn_left_at : Addr
  d_Turn_left_at : FuncData
  f_Turn_square_at : Addr
  d_Turn_square_at : FuncData
  f_Turn_core : Addr
  d_Turn_core : FuncData
  c_Device : Addr
  c_Turn : Addr
  cBack : Addr
  x_Refused : Addr
  xi_Refused : Addr
  x_BadRow : Addr
  xi_BadRow : Addr
/-- what the top has written -/
structure Txt (a : Ads) (K : PySem.W.Frag) (mg : Str → Option Value) : Prop where
  F_is_integer : Fun K "is_integer" "is_integer" (top 12) a.f_is_integer a.d_is_integer
  g_is_integer : mg "is_integer" = some (.ref a.f_is_integer)
  F_is_number : Fun K "is_number" "is_number" (top 13) a.f_is_number a.d_is_number
  g_is_number : mg "is_number" = some (.ref a.f_is_number)
  F_is_text : Fun K "is_text" "is_text" (top 14) a.f_is_text a.d_is_text
  g_is_text : mg "is_text" = some (.ref a.f_is_text)
  F_is_sequence : Fun K "is_sequence" "is_sequence" (top 15) a.f_is_sequence a.d_is_sequence
  g_is_sequence : mg "is_sequence" = some (.ref a.f_is_sequence)
  F_common_divisor : Fun K "common_divisor" "common_divisor" (top 16) a.f_common_divisor a.d_common_divisor
  g_common_divisor : mg "common_divisor" = some (.ref a.f_common_divisor)
  F_common_multiple : Fun K "common_multiple" "common_multiple" (top 17) a.f_common_multiple a.d_common_multiple
  g_common_multiple : mg "common_multiple" = some (.ref a.f_common_multiple)
  F_is_table : Fun K "is_table" "is_table" (top 20) a.f_is_table a.d_is_table
  g_is_table : mg "is_table" = some (.ref a.f_is_table)
  F_check_row : Fun K "check_row" "check_row" (top 22) a.f_check_row a.d_check_row
  g_check_row : mg "check_row" = some (.ref a.f_check_row)
  F_joined_effects : Fun K "joined_effects" "joined_effects" (top 23) a.f_joined_effects a.d_joined_effects
  g_joined_effects : mg "joined_effects" = some (.ref a.f_joined_effects)
  F_said_effect : Fun K "said_effect" "said_effect" (top 24) a.f_said_effect a.d_said_effect
  g_said_effect : mg "said_effect" = some (.ref a.f_said_effect)
  F_effect_left : Fun K "effect_left" "effect_left" (top 25) a.f_effect_left a.d_effect_left
  g_effect_left : mg "effect_left" = some (.ref a.f_effect_left)
  F_effect_rings : Fun K "effect_rings" "effect_rings" (top 28) a.f_effect_rings a.d_effect_rings
  g_effect_rings : mg "effect_rings" = some (.ref a.f_effect_rings)
  F_ring_numbers : Fun K "ring_numbers" "ring_numbers" (top 29) a.f_ring_numbers a.d_ring_numbers
  g_ring_numbers : mg "ring_numbers" = some (.ref a.f_ring_numbers)
  F_first_unlike : Fun K "first_unlike" "first_unlike" (top 30) a.f_first_unlike a.d_first_unlike
  g_first_unlike : mg "first_unlike" = some (.ref a.f_first_unlike)
  F_law_box : Fun K "_law_box" "_law_box" (top 32) a.f_law_box a.d_law_box
  g_law_box : mg "_law_box" = some (.ref a.f_law_box)
  F_law_take : Fun K "_law_take" "_law_take" (top 33) a.f_law_take a.d_law_take
  g_law_take : mg "_law_take" = some (.ref a.f_law_take)
  F_law_pick : Fun K "_law_pick" "_law_pick" (top 34) a.f_law_pick a.d_law_pick
  g_law_pick : mg "_law_pick" = some (.ref a.f_law_pick)
  F_law_tables : Fun K "_law_tables" "_law_tables" (top 35) a.f_law_tables a.d_law_tables
  g_law_tables : mg "_law_tables" = some (.ref a.f_law_tables)
  F_law_row : Fun K "_law_row" "_law_row" (top 36) a.f_law_row a.d_law_row
  g_law_row : mg "_law_row" = some (.ref a.f_law_row)
  F_law_after : Fun K "_law_after" "_law_after" (top 37) a.f_law_after a.d_law_after
  g_law_after : mg "_law_after" = some (.ref a.f_law_after)
  F_law_far : Fun K "_law_far" "_law_far" (top 38) a.f_law_far a.d_law_far
  g_law_far : mg "_law_far" = some (.ref a.f_law_far)
  F_law_rings : Fun K "_law_rings" "_law_rings" (top 39) a.f_law_rings a.d_law_rings
  g_law_rings : mg "_law_rings" = some (.ref a.f_law_rings)
  F_law_refused : Fun K "_law_refused" "_law_refused" (top 40) a.f_law_refused a.d_law_refused
  g_law_refused : mg "_law_refused" = some (.ref a.f_law_refused)
  F_law_is_square : Fun K "_law_is_square" "_law_is_square" (top 41) a.f_law_is_square a.d_law_is_square
  g_law_is_square : mg "_law_is_square" = some (.ref a.f_law_is_square)
  F_law_turn_right : Fun K "_law_turn_right" "_law_turn_right" (top 42) a.f_law_turn_right a.d_law_turn_right
  g_law_turn_right : mg "_law_turn_right" = some (.ref a.f_law_turn_right)
  F_law_case_right : Fun K "_law_case_right" "_law_case_right" (top 43) a.f_law_case_right a.d_law_case_right
  g_law_case_right : mg "_law_case_right" = some (.ref a.f_law_case_right)
  F_law : Fun K "law" "law" (top 44) a.f_law a.d_law
  g_law : mg "law" = some (.ref a.f_law)
  F_Device_init : Fun K "__init__" "Device.__init__" (inClass (top 19) 0) a.f_Device_init a.d_Device_init
  F_Device_eq : Fun K "__eq__" "Device.__eq__" (inClass (top 19) 1) a.f_Device_eq a.d_Device_eq
  m_Device_eq : Meth K a.c_Device "__eq__" a.f_Device_eq
  F_Device_effect : Fun K "effect" "Device.effect" (inClass (top 19) 4) a.f_Device_effect a.d_Device_effect
  m_Device_effect : Meth K a.c_Device "effect" a.f_Device_effect
  F_Turn_init : Fun K "__init__" "Turn.__init__" (inClass (top 27) 0) a.f_Turn_init a.d_Turn_init
  F_Turn_said_at : Fun K "said_at" "Turn.said_at" (inClass (top 27) 1) a.f_Turn_said_at a.d_Turn_said_at
  m_Turn_said_at : Meth K a.c_Turn "said_at" a.f_Turn_said_at
  F_Turn_left_at : Fun K "left_at" "Turn.left_at" (inClass (top 27) 2) a.f_Turn_left_at a.d_Turn_left_at
  m_Turn_left_at : Meth K a.c_Turn "left_at" a.f_Turn_left_at
  F_Turn_square_at : Fun K "square_at" "Turn.square_at" (inClass (top 27) 3) a.f_Turn_square_at a.d_Turn_square_at
  m_Turn_square_at : Meth K a.c_Turn "square_at" a.f_Turn_square_at
  F_Turn_core : Fun K "core" "Turn.core" (inClass (top 27) 4) a.f_Turn_core a.d_Turn_core
  m_Turn_core : Meth K a.c_Turn "core" a.f_Turn_core
  cl_Device : Cls K a.c_Device
  g_Device : mg "Device" = some (.ref a.c_Device)
  mk_Device : Mk K a.c_Device a.f_Device_init
  n_Device_states : NoAttr K a.c_Device "states"
  n_Device_signals : NoAttr K a.c_Device "signals"
  n_Device_tables : NoAttr K a.c_Device "tables"
  cl_Turn : Cls K a.c_Turn
  g_Turn : mg "Turn" = some (.ref a.c_Turn)
  mk_Turn : Mk K a.c_Turn a.f_Turn_init
  n_Turn_once : NoAttr K a.c_Turn "once"
  n_Turn_device : NoAttr K a.c_Turn "device"
  n_Turn_word : NoAttr K a.c_Turn "word"
  n_Turn_rings : NoAttr K a.c_Turn "rings"
  n_Turn_tails : NoAttr K a.c_Turn "tails"
  n_Turn_period : NoAttr K a.c_Turn "period"
  dv1 : PySem.W.findIn K (.ref a.c_Device) "__class__" = some (some (.builtin "object.__class__"))
  dv2 : PySem.W.specialIn K (.builtin "object.__class__") "__get__" = some (some (.builtin "getset_descriptor.__get__"))
  dv3 : PySem.W.takesIn K (.builtin "object.__class__") = some true
  dv4 : PySem.W.mroIn K a.c_Device (.type "object") = some true
  S_Refused : R4.SupTxt PySem.Challenge.pw_backinstep_k03_whole_one_row_for_ever K mg "Refused" a.x_Refused a.xi_Refused
  ec_Refused : ExcC K a.x_Refused
  xf_Refused : XfC K a.x_Refused
  kb_Refused : PySem.W.kitOne K (.ref a.x_Refused) (.ref a.cBack) = some true
  S_BadRow : R4.SupTxt PySem.Challenge.pw_backinstep_k03_whole_one_row_for_ever K mg "BadRow" a.x_BadRow a.xi_BadRow
  ec_BadRow : ExcC K a.x_BadRow
  xf_BadRow : XfC K a.x_BadRow
  kb_BadRow : PySem.W.kitOne K (.ref a.x_BadRow) (.ref a.cBack) = some true
  g_BackError : mg "BackError" = some (.ref a.cBack)
  ne_Device : NeTxt K a.c_Device a.f_Device_eq
  b_isinstance : mg "isinstance" = none
  b_int : mg "int" = none
  b_bool : mg "bool" = none
  b_str : mg "str" = none
  b_list : mg "list" = none
  b_tuple : mg "tuple" = none
  b_len : mg "len" = none
  b_enumerate : mg "enumerate" = none
  b_all : mg "all" = none
  b_range : mg "range" = none
  b_sorted : mg "sorted" = none
  b_min : mg "min" = none
  b_max : mg "max" = none
  b_sum : mg "sum" = none
  b_abs : mg "abs" = none
  b_repr : mg "repr" = none
  b_super : mg "super" = none
  k_SIGNALS : ∃ t, mg "SIGNALS" = some (.str "abcde" t)
  k_MOST_STATES : ∃ t, mg "MOST_STATES" = some (.int 60 t)
  k_MOST_LENGTH : ∃ t, mg "MOST_LENGTH" = some (.int 1000000000000000000 t)
  k_MOST_SIGNS : ∃ t, mg "MOST_SIGNS" = some (.int 10000 t)
section
variable {a : Ads} {K : PySem.W.Frag} {mg : Str → Option Value}
theorem Txt.B_is_integer (T : Txt a K mg) : Binds K a.d_is_integer ["value"] [] := T.F_is_integer.binds fun _ _ _ _ _ _ us hl => match us, hl with | [_], _ => rfl
theorem Txt.B_is_number (T : Txt a K mg) : Binds K a.d_is_number ["value"] [] := T.F_is_number.binds fun _ _ _ _ _ _ us hl => match us, hl with | [_], _ => rfl
theorem Txt.B_is_text (T : Txt a K mg) : Binds K a.d_is_text ["value"] [] := T.F_is_text.binds fun _ _ _ _ _ _ us hl => match us, hl with | [_], _ => rfl
theorem Txt.B_is_sequence (T : Txt a K mg) : Binds K a.d_is_sequence ["value"] [] := T.F_is_sequence.binds fun _ _ _ _ _ _ us hl => match us, hl with | [_], _ => rfl
theorem Txt.B_common_divisor (T : Txt a K mg) : Binds K a.d_common_divisor ["one", "other"] [] := T.F_common_divisor.binds fun _ _ _ _ _ _ us hl => match us, hl with | [_, _], _ => rfl
theorem Txt.B_common_multiple (T : Txt a K mg) : Binds K a.d_common_multiple ["one", "other"] [] := T.F_common_multiple.binds fun _ _ _ _ _ _ us hl => match us, hl with | [_, _], _ => rfl
theorem Txt.B_is_table (T : Txt a K mg) : Binds K a.d_is_table ["value", "many"] [] := T.F_is_table.binds fun _ _ _ _ _ _ us hl => match us, hl with | [_, _], _ => rfl
theorem Txt.B_check_row (T : Txt a K mg) : Binds K a.d_check_row ["device", "row"] [] := T.F_check_row.binds fun _ _ _ _ _ _ us hl => match us, hl with | [_, _], _ => rfl
theorem Txt.B_joined_effects (T : Txt a K mg) : Binds K a.d_joined_effects ["one", "other"] [] := T.F_joined_effects.binds fun _ _ _ _ _ _ us hl => match us, hl with | [_, _], _ => rfl
theorem Txt.B_said_effect (T : Txt a K mg) : Binds K a.d_said_effect ["effect", "times"] [] := T.F_said_effect.binds fun _ _ _ _ _ _ us hl => match us, hl with | [_, _], _ => rfl
theorem Txt.B_effect_left (T : Txt a K mg) : Binds K a.d_effect_left ["effect"] [] := T.F_effect_left.binds fun _ _ _ _ _ _ us hl => match us, hl with | [_], _ => rfl
theorem Txt.B_effect_rings (T : Txt a K mg) : Binds K a.d_effect_rings ["effect"] [] := T.F_effect_rings.binds fun _ _ _ _ _ _ us hl => match us, hl with | [_], _ => rfl
theorem Txt.B_ring_numbers (T : Txt a K mg) : Binds K a.d_ring_numbers ["turn"] [] := T.F_ring_numbers.binds fun _ _ _ _ _ _ us hl => match us, hl with | [_], _ => rfl
theorem Txt.B_first_unlike (T : Txt a K mg) : Binds K a.d_first_unlike ["one", "other"] [] := T.F_first_unlike.binds fun _ _ _ _ _ _ us hl => match us, hl with | [_, _], _ => rfl
theorem Txt.B_law_box (T : Txt a K mg) : Binds K a.d_law_box ["_law_script", "_law_k"] [] := T.F_law_box.binds fun _ _ _ _ _ _ us hl => match us, hl with | [_, _], _ => rfl
theorem Txt.B_law_take (T : Txt a K mg) : Binds K a.d_law_take ["_law_box_here", "_law_many"] [] := T.F_law_take.binds fun _ _ _ _ _ _ us hl => match us, hl with | [_, _], _ => rfl
theorem Txt.B_law_pick (T : Txt a K mg) : Binds K a.d_law_pick ["_law_box_here", "_law_some"] [] := T.F_law_pick.binds fun _ _ _ _ _ _ us hl => match us, hl with | [_, _], _ => rfl
theorem Txt.B_law_tables (T : Txt a K mg) : Binds K a.d_law_tables ["_law_box_here", "_law_most", "_law_signals"] [] := T.F_law_tables.binds fun _ _ _ _ _ _ us hl => match us, hl with | [_, _, _], _ => rfl
theorem Txt.B_law_row (T : Txt a K mg) : Binds K a.d_law_row ["_law_box_here", "_law_signals", "_law_most"] [] := T.F_law_row.binds fun _ _ _ _ _ _ us hl => match us, hl with | [_, _, _], _ => rfl
theorem Txt.B_law_after (T : Txt a K mg) : Binds K a.d_law_after ["_law_tables_here", "_law_state", "_law_row_here"] [] := T.F_law_after.binds fun _ _ _ _ _ _ us hl => match us, hl with | [_, _, _], _ => rfl
theorem Txt.B_law_far (T : Txt a K mg) : Binds K a.d_law_far ["_law_effect", "_law_state", "_law_times"] [] := T.F_law_far.binds fun _ _ _ _ _ _ us hl => match us, hl with | [_, _, _], _ => rfl
theorem Txt.B_law_rings (T : Txt a K mg) : Binds K a.d_law_rings ["_law_effect"] [] := T.F_law_rings.binds fun _ _ _ _ _ _ us hl => match us, hl with | [_], _ => rfl
theorem Txt.B_law_refused (T : Txt a K mg) : Binds K a.d_law_refused ["_law_turn", "_law_word", "_law_times"] [] := T.F_law_refused.binds fun _ _ _ _ _ _ us hl => match us, hl with | [_, _, _], _ => rfl
theorem Txt.B_law_is_square (T : Txt a K mg) : Binds K a.d_law_is_square ["_law_effect", "_law_times"] [] := T.F_law_is_square.binds fun _ _ _ _ _ _ us hl => match us, hl with | [_, _], _ => rfl
theorem Txt.B_law_turn_right (T : Txt a K mg) : Binds K a.d_law_turn_right ["_law_box_here", "_law_device", "_law_tables_here", "_law_row_here"] [] := T.F_law_turn_right.binds fun _ _ _ _ _ _ us hl => match us, hl with | [_, _, _, _], _ => rfl
theorem Txt.B_law_case_right (T : Txt a K mg) : Binds K a.d_law_case_right ["_law_box_here"] [] := T.F_law_case_right.binds fun _ _ _ _ _ _ us hl => match us, hl with | [_], _ => rfl
theorem Txt.B_law (T : Txt a K mg) : Binds K a.d_law ["_law_script"] [] := T.F_law.binds fun _ _ _ _ _ _ us hl => match us, hl with | [_], _ => rfl
theorem Txt.B_Device_init (T : Txt a K mg) : Binds K a.d_Device_init ["self", "tables"] [] := T.F_Device_init.binds fun _ _ _ _ _ _ us hl => match us, hl with | [_, _], _ => rfl
theorem Txt.B_Device_eq (T : Txt a K mg) : Binds K a.d_Device_eq ["self", "other"] [] := T.F_Device_eq.binds fun _ _ _ _ _ _ us hl => match us, hl with | [_, _], _ => rfl
theorem Txt.B_Device_effect (T : Txt a K mg) : Binds K a.d_Device_effect ["self", "row"] [] := T.F_Device_effect.binds fun _ _ _ _ _ _ us hl => match us, hl with | [_, _], _ => rfl
theorem Txt.B_Turn_init (T : Txt a K mg) : Binds K a.d_Turn_init ["self", "device", "row"] [] := T.F_Turn_init.binds fun _ _ _ _ _ _ us hl => match us, hl with | [_, _, _], _ => rfl
theorem Txt.B_Turn_said_at (T : Txt a K mg) : Binds K a.d_Turn_said_at ["self", "times"] [] := T.F_Turn_said_at.binds fun _ _ _ _ _ _ us hl => match us, hl with | [_, _], _ => rfl
theorem Txt.B_Turn_left_at (T : Txt a K mg) : Binds K a.d_Turn_left_at ["self", "times"] [] := T.F_Turn_left_at.binds fun _ _ _ _ _ _ us hl => match us, hl with | [_, _], _ => rfl
theorem Txt.B_Turn_square_at (T : Txt a K mg) : Binds K a.d_Turn_square_at ["self"] [] := T.F_Turn_square_at.binds fun _ _ _ _ _ _ us hl => match us, hl with | [_], _ => rfl
theorem Txt.B_Turn_core (T : Txt a K mg) : Binds K a.d_Turn_core ["self"] [] := T.F_Turn_core.binds fun _ _ _ _ _ _ us hl => match us, hl with | [_], _ => rfl
theorem Txt.KB_first_unlike (T : Txt a K mg) : KBn K a.d_first_unlike ["one", "other"] 0 ["one", "other"] (fun us ws => us ++ ws) (fun vs zs => vs ++ zs) := kbn_all (by
  obtain ⟨_, _, _, _, _, _, _, _, _, e, _, _⟩ := T.F_first_unlike.ex
  rw [e]
  exact fun s us ws l1 l2 => match us, ws, l1, l2 with | [], [_, _], _, _ => BindsTo.of_eq rfl)
theorem Txt.KB_ring_numbers (T : Txt a K mg) : KBn K a.d_ring_numbers ["turn"] 0 ["turn"] (fun us ws => us ++ ws) (fun vs zs => vs ++ zs) := kbn_all (by
  obtain ⟨_, _, _, _, _, _, _, _, _, e, _, _⟩ := T.F_ring_numbers.ex
  rw [e]
  exact fun s us ws l1 l2 => match us, ws, l1, l2 with | [], [_], _, _ => BindsTo.of_eq rfl)
theorem Txt.KB_Turn_init (T : Txt a K mg) : KBn K a.d_Turn_init ["self", "device", "row"] 1 ["device", "row"] (fun us ws => us ++ ws) (fun vs zs => vs ++ zs) := kbn_all (by
  obtain ⟨_, _, _, _, _, _, _, _, _, e, _, _⟩ := T.F_Turn_init.ex
  rw [e]
  exact fun s us ws l1 l2 => match us, ws, l1, l2 with | [_], [_, _], _, _ => BindsTo.of_eq rfl)
theorem Txt.KB_Turn_said_at (T : Txt a K mg) : KBn K a.d_Turn_said_at ["self", "times"] 1 ["times"] (fun us ws => us ++ ws) (fun vs zs => vs ++ zs) := kbn_all (by
  obtain ⟨_, _, _, _, _, _, _, _, _, e, _, _⟩ := T.F_Turn_said_at.ex
  rw [e]
  exact fun s us ws l1 l2 => match us, ws, l1, l2 with | [_], [_], _, _ => BindsTo.of_eq rfl)
theorem Txt.KB_Turn_left_at (T : Txt a K mg) : KBn K a.d_Turn_left_at ["self", "times"] 1 ["times"] (fun us ws => us ++ ws) (fun vs zs => vs ++ zs) := kbn_all (by
  obtain ⟨_, _, _, _, _, _, _, _, _, e, _, _⟩ := T.F_Turn_left_at.ex
  rw [e]
  exact fun s us ws l1 l2 => match us, ws, l1, l2 with | [_], [_], _, _ => BindsTo.of_eq rfl)
end
end K3
end

section
set_option Elab.async false
set_option linter.all false
set_option maxRecDepth 100000
set_option maxHeartbeats 4000000
/-! The words: kinds of values, the greatest common divisor, the least common multiple. -/
namespace K3
open PySem L2 R3
def vn (x : Nat) : V := .int x
def tN (l : List Nat) : List V := l.map vn
theorem tN_len (l : List Nat) : (tN l).length = l.length := by unfold tN; simp
theorem tN_get {l : List Nat} {i : Nat} {x : Nat} (h : l[i]? = some x) : (tN l)[i]? = some (.int x) := by
  unfold tN
  rw [List.getElem?_map, h]; rfl
theorem tN_of {l : List Nat} {i : Nat} {y : V} (h : (tN l)[i]? = some y) : ∃ x : Nat, l[i]? = some x ∧ y = .int x := by
  unfold tN at h
  rw [List.getElem?_map] at h
  cases e : l[i]? with
  | none => rw [e] at h; cases h
  | some x => rw [e] at h; exact ⟨x, rfl, (Option.some.inj h).symm⟩
/-- ints, bools, texts, None -/
def scalarV : V → Bool
  | .int _ => true | .bl _ => true | .str _ => true | .non => true | _ => false
def isI : V → Bool
  | .int _ => true | _ => false
def isB : V → Bool
  | .bl _ => true | _ => false
def isNum : V → Bool
  | .int i => decide (0 ≤ i) | _ => false
def isS : V → Bool
  | .str _ => true | _ => false
section
variable {P : Program} {w : World} {K : PySem.W.Frag} {mg : Str → Option Value} {base : Heap} {a : Ads}
def spIsInteger : Sp := fun vs H Q _ => ∃ v, vs = [v] ∧ scalarV v = true ∧ Q (.bl (isI v)) H
theorem sc_is_integer : FnScope ["value"] ["value"] (defScope (top 12)) := ⟨rfl, rfl, rfl, by decide +kernel, rfl, by decide +kernel, by decide +kernel⟩
/-- isinstance of a scalar and int, bool -/
theorem ty_scalar {H : Hp} {v : V} (h : scalarV v = true) : ∃ n : String, TyX K H v (.type n) ∧ kitB n "int" = some (isI v || isB v) ∧ kitB n "bool" = some (isB v) ∧ kitB n "str" = some (isS v) := by
  cases v with
  | int i => exact ⟨"int", .base (.int i), (by decide +kernel : kitB "int" "int" = some true), (by decide +kernel : kitB "int" "bool" = some false), (by decide +kernel : kitB "int" "str" = some false)⟩
  | bl b => exact ⟨"bool", .base (.bl b), (by decide +kernel : kitB "bool" "int" = some true), (by decide +kernel : kitB "bool" "bool" = some true), (by decide +kernel : kitB "bool" "str" = some false)⟩
  | str x => exact ⟨"str", .base (.str x), (by decide +kernel : kitB "str" "int" = some false), (by decide +kernel : kitB "str" "bool" = some false), (by decide +kernel : kitB "str" "str" = some true)⟩
  | non => exact ⟨"NoneType", .base .non, (by decide +kernel : kitB "NoneType" "int" = some false), (by decide +kernel : kitB "NoneType" "bool" = some false), (by decide +kernel : kitB "NoneType" "str" = some false)⟩
  | _ => cases h
theorem ok_is_integer (T : Txt a K mg) : FnOk P w K mg base CX0 1 a.f_is_integer a.d_is_integer ["value"] spIsInteger := by
  refine T.F_is_integer.ok sc_is_integer (fun vs H Q E h => ?_) (fun cdv A outer s H vs Q E hr h => ?_)
  · obtain ⟨v, rfl, _⟩ := h
    rfl
  · obtain ⟨v, rfl, hv, q⟩ := h
    refine ⟨_, pss_one (ps_ret (pe_and (pe_callB call_isi (by rfl) T.b_isinstance (by decide +kernel) (pa_cons (pv 0) (pa_cons (pe_bltn (v := .ty "int") (by rfl) T.b_int (by decide +kernel) rfl) pa_nil)))
      (pe_one (pe_not (pe_callB call_isi (by rfl) T.b_isinstance (by decide +kernel) (pa_cons (pv 0) (pa_cons (pe_bltn (v := .ty "bool") (by rfl) T.b_bool (by decide +kernel) rfl) pa_nil))))))), ?_⟩
    obtain ⟨n, t1, k1, k2, _⟩ := ty_scalar (K := K) (H := H) hv
    refine ⟨v, rfl, v, .ty "int", .type n, .type "int", _, rfl, .ty _, t1, kit_ty k1, _, rfl, ?_⟩
    cases v with
    | int i => exact ⟨_, rfl, _, .ty "bool", .type n, .type "bool", _, rfl, .ty _, t1, kit_ty k2, _, rfl, q⟩
    | bl b => exact ⟨_, rfl, _, .ty "bool", .type n, .type "bool", _, rfl, .ty _, t1, kit_ty k2, _, rfl, q⟩
    | str x => exact q
    | non => exact q
    | _ => cases hv
def spIsNumber : Sp := fun vs H Q _ => ∃ v, vs = [v] ∧ scalarV v = true ∧ Q (.bl (isNum v)) H
theorem sc_is_number : FnScope ["value"] ["value"] (defScope (top 13)) := ⟨rfl, rfl, rfl, by decide +kernel, rfl, by decide +kernel, by decide +kernel⟩
theorem ok_is_number (T : Txt a K mg) : FnOk P w K mg base CX0 2 a.f_is_number a.d_is_number ["value"] spIsNumber := by
  refine T.F_is_number.ok sc_is_number (fun vs H Q E h => ?_) (fun cdv A outer s H vs Q E hr h => ?_)
  · obtain ⟨v, rfl, _⟩ := h
    rfl
  · obtain ⟨v, rfl, hv, q⟩ := h
    refine ⟨_, pss_one (ps_ret (pe_and (pe_call (ok_is_integer T) hr (by rfl) T.g_is_integer T.F_is_integer.kp T.B_is_integer .nil pass0 (pa_cons (pv 0) pa_nil)) (pe_one (pe_cmpR op_ge (pv 0) pe_int (nomark _))))), ?_⟩
    refine ⟨v, rfl, v, rfl, hv, _, rfl, ?_⟩
    cases v with
    | int i => exact ⟨_, rfl, i, 0, rfl, rfl, q⟩
    | bl b => exact q
    | str x => exact q
    | non => exact q
    | _ => cases hv
def spIsText : Sp := fun vs H Q _ => ∃ v, vs = [v] ∧ scalarV v = true ∧ Q (.bl (isS v)) H
theorem sc_is_text : FnScope ["value"] ["value"] (defScope (top 14)) := ⟨rfl, rfl, rfl, by decide +kernel, rfl, by decide +kernel, by decide +kernel⟩
theorem ok_is_text (T : Txt a K mg) : FnOk P w K mg base CX0 1 a.f_is_text a.d_is_text ["value"] spIsText := by
  refine T.F_is_text.ok sc_is_text (fun vs H Q E h => ?_) (fun cdv A outer s H vs Q E hr h => ?_)
  · obtain ⟨v, rfl, _⟩ := h
    rfl
  · obtain ⟨v, rfl, hv, q⟩ := h
    obtain ⟨n, t1, _, _, k3⟩ := ty_scalar (K := K) (H := H) hv
    exact ⟨_, pss_one (ps_ret (pe_callB call_isi (by rfl) T.b_isinstance (by decide +kernel) (pa_cons (pv 0) (pa_cons (pe_bltn (v := .ty "str") (by rfl) T.b_str (by decide +kernel) rfl) pa_nil)))),
      v, rfl, v, .ty "str", .type n, .type "str", _, rfl, .ty _, t1, kit_ty k3, q⟩
/-- asked of lists alone -/
def spIsSequence : Sp := fun vs H Q _ => ∃ p xs, vs = [.ref p] ∧ H p = some (.lst xs) ∧ ∀ H', Same H H' → Q (.bl true) H'
theorem same_new {H : Hp} {p : Addr} {o : HO} (h : H p = none) : Same H (upd H p o) := fun b x e => by
  rw [upd_ne (ne_of_none e h)]
  exact e
theorem sc_is_sequence : FnScope ["value"] ["value"] (defScope (top 15)) := ⟨rfl, rfl, rfl, by decide +kernel, rfl, by decide +kernel, by decide +kernel⟩
theorem ok_is_sequence (T : Txt a K mg) : FnOk P w K mg base CX0 1 a.f_is_sequence a.d_is_sequence ["value"] spIsSequence := by
  refine T.F_is_sequence.ok sc_is_sequence (fun vs H Q E h => ?_) (fun cdv A outer s H vs Q E hr h => ?_)
  · obtain ⟨v, _, rfl, _⟩ := h
    rfl
  · obtain ⟨p, xs, rfl, hp, q⟩ := h
    refine ⟨_, pss_one (ps_ret (pe_callB call_isiT (by rfl) T.b_isinstance (by decide +kernel) (pa_cons (pv 0) (pa_cons (pe_tup (pa_cons (pe_bltn (v := .ty "list") (by rfl) T.b_list (by decide +kernel) rfl) (pa_cons (pe_bltn (v := .ty "tuple") (by rfl) T.b_tuple (by decide +kernel) rfl) pa_nil))) pa_nil)))), ?_⟩
    refine ⟨_, rfl, by show 2 ≤ sizeLine; decide, fun t ht => ?_⟩
    refine ⟨.ref p, t, [.ty "list", .ty "tuple"], .type "list", [.type "list", .type "tuple"], true, rfl, upd_same, .cons (.ty _) (.cons (.ty _) .nil), .base (.lst (xs := xs) ?_), kitAny_cons (b := true) (kit_ty (by decide +kernel)) (fun z => by cases z) (fun _ => rfl), q _ (same_new ht)⟩
    rw [upd_ne (ne_of_none hp ht)]
    exact hp
/-! ### common divisor and multiple -/
def spGcd : Sp := fun vs H Q _ => ∃ m n : Nat, vs = [.int m, .int n] ∧ Q (.int (Nat.gcd m n : Nat)) H
theorem sc_gcd : FnScope ["one", "other"] ["one", "other"] (defScope (top 16)) := ⟨rfl, rfl, rfl, by decide +kernel, rfl, by decide +kernel, by decide +kernel⟩
theorem ok_gcd (T : Txt a K mg) : FnOk P w K mg base CX0 1 a.f_common_divisor a.d_common_divisor ["one", "other"] spGcd := by
  refine T.F_common_divisor.ok sc_gcd (fun vs H Q E h => ?_) (fun cdv A outer s H vs Q E hr h => ?_)
  · obtain ⟨m, n, rfl, _⟩ := h
    rfl
  · obtain ⟨m, n, rfl, q⟩ := h
    refine ⟨_, pss_cons (ps_while PassesOwn.never (pt_cmpR op_gt (pv 1) pe_int (nomark _))
      (pss_one (ps_par (i := 0) (j := 1) rfl sc_gcd.nd rfl rfl (by decide) rfl rfl (pa_cons (pv 1) (pa_cons (pe_op op_mod (pv 0) (pv 1)) pa_nil)) (by rfl)))) (pss_one (ps_ret (pv 0))), ?_⟩
    refine while_by (fun σ H' => H' = H ∧ ∃ x y : Nat, σ = [some (.int x), some (.int y)] ∧ Nat.gcd x y = Nat.gcd m n) (fun σ _ => match σ with | [_, some (.int y)] => y.toNat | _ => 0) ⟨rfl, m, n, rfl, rfl⟩ ?_ ?_
    · rintro σ H' ⟨rfl, x, y, rfl, e⟩
      refine ⟨_, rfl, y, 0, rfl, rfl, _, rfl, ?_⟩
      by_cases c : 0 < y
      · refine ite2 (fun _ => ?_) (fun z => absurd (decide_eq_true (show (0 : Int) < y by omega)) z)
        refine ⟨_, rfl, _, rfl, _, rfl, x, y, rfl, rfl, (show (0 : Int) < y by omega), _, _, rfl, ⟨rfl, y, x % y, ?_, ?_⟩, ?_⟩
        · rfl
        · rw [Rg.gcd_turn x y c, e]
        · show ((x : Int) % (y : Int)).toNat < ((y : Nat) : Int).toNat
          have : ((x : Int) % (y : Int)).toNat = x % y := by
            rw [← Int.natCast_emod]; rfl
          rw [this]
          exact Nat.mod_lt _ c
      · refine ite2 (fun z => absurd (of_decide_eq_true z) (by omega)) (fun _ => ?_)
        have y0 : y = 0 := by omega
        subst y0
        rw [Nat.gcd_zero_right] at e
        subst e
        exact ⟨_, rfl, q⟩
    · rintro σ H Q Q' im ⟨v, e, i, j, e1, e2, b, e3, q⟩
      exact ⟨v, e, i, j, e1, e2, b, e3, im _ _ q⟩
end
end K3
end

section
set_option Elab.async false
set_option linter.all false
set_option maxRecDepth 100000
set_option maxHeartbeats 4000000
/-! Effects: joined, said so many times, left alone. -/
namespace K3
open PySem L2 R3
section
variable {P : Program} {w : World} {K : PySem.W.Frag} {mg : Str → Option Value} {base : Heap} {a : Ads}
def spLcm : Sp := fun vs H Q _ => ∃ m n : Nat, vs = [.int m, .int n] ∧ 0 < m ∧ m ≤ 1000000 ∧ 0 < n ∧ n ≤ 1000000 ∧ Q (.int (Nat.lcm m n : Nat)) H
theorem sc_lcm : FnScope ["one", "other"] ["one", "other"] (defScope (top 17)) := ⟨rfl, rfl, rfl, by decide +kernel, rfl, by decide +kernel, by decide +kernel⟩
theorem ok_lcm (T : Txt a K mg) : FnOk P w K mg base CX0 2 a.f_common_multiple a.d_common_multiple ["one", "other"] spLcm := by
  refine T.F_common_multiple.ok sc_lcm (fun vs H Q E h => ?_) (fun cdv A outer s H vs Q E hr h => ?_)
  · obtain ⟨m, n, rfl, _⟩ := h
    rfl
  · obtain ⟨m, n, rfl, m0, m1, n0, n1, q⟩ := h
    refine ⟨_, pss_one (ps_ret (pe_op op_mul (pe_op op_fdiv (pv 0) (pe_call (ok_gcd T) hr (by rfl) T.g_common_divisor T.F_common_divisor.kp T.B_common_divisor .nil pass0 (pa_cons (pv 0) (pa_cons (pv 1) pa_nil)))) (pv 1))), ?_⟩
    have g0 : 0 < Nat.gcd m n := Nat.gcd_pos_of_pos_left n m0
    have g1 : Nat.gcd m n ≤ m := Nat.gcd_le_left n m0
    refine ⟨_, rfl, _, rfl, _, rfl, m, n, rfl, _, _, rfl, rfl, ⟨by omega, by omega⟩, _, rfl, _, _, rfl, rfl, .inr ⟨by omega, by omega⟩, ?_⟩
    have e : ((m : Int) / ((Nat.gcd m n : Nat) : Int)) * (n : Int) = ((Nat.lcm m n : Nat) : Int) := by
      rw [← Int.natCast_ediv, ← Int.natCast_mul, Rg.lcm_by]
    show Q (V.int ((m : Int) / ((Nat.gcd m n : Nat) : Int) * (n : Int))) H
    rw [e]
    exact q
/-! ### joined -/
def spJoined (K : PySem.W.Frag) : Sp := fun vs H Q _ => ∃ (p q : Addr) (A B : List Nat), vs = [.ref p, .ref q] ∧ SqT K H p (tN A) ∧ SqT K H q (tN B) ∧ A.length ≤ 1000 ∧ (∀ x ∈ A, x < B.length) ∧
  ∀ H' r, Same H H' → H r = none → H' r = some (.tup (tN (A.map fun s => B.getD s 0))) → Q (.ref r) H'
theorem sc_joined : FnScope ["one", "other", "state"] ["one", "other"] (defScope (top 23)) := ⟨rfl, rfl, rfl, by decide +kernel, rfl, by decide +kernel, by decide +kernel⟩
theorem _root_.L2.Same.tup {K : PySem.W.Frag} {H H' : Hp} {a : Addr} {xs : List V} (e : Same H H') (h : SqT K H a xs) : SqT K H' a xs := by
  rcases h with (h | ⟨o, h⟩) | h
  · exact .inl (.inl (e _ _ h))
  · exact .inl (.inr ⟨o, e _ _ h⟩)
  · exact .inr h
theorem tN_snoc (l : List Nat) (x : Nat) : tN (l ++ [x]) = tN l ++ [.int x] := by unfold tN; rw [List.map_append]; rfl
theorem take_snoc {α : Type} {l : List α} {i : Nat} {x : α} (h : l[i]? = some x) : l.take (i + 1) = l.take i ++ [x] := by rw [List.take_add_one, h]; rfl
/-- stored at an address that was free: what stood stands -/
theorem _root_.L2.Same.upd_new {H H' : Hp} {D : Addr} {o : HO} (e : Same H H') (h : H D = none) : Same H (upd H' D o) := fun b x z => by
  rw [upd_ne (ne_of_none z h)]
  exact e b x z
/-- a clause without ifs -/
theorem yes_ok {σ : L2.St} {H : Hp} {A B : Hp → Prop} (h : A H) : tYes σ H (fun b H3 => if b = true then A H3 else B H3) := by
  show if true = true then A H else B H
  rw [if_pos rfl]
  exact h
theorem ok_joined (T : Txt a K mg) : FnOk P w K mg base CX0 1 a.f_joined_effects a.d_joined_effects ["one", "other"] (spJoined K) := by
  refine T.F_joined_effects.ok sc_joined (fun vs H Q E h => ?_) (fun cdv A outer s H vs Q E hr h => ?_)
  · obtain ⟨_, _, _, _, rfl, _⟩ := h
    rfl
  · obtain ⟨p, q, A, B, rfl, hA, hB, hl, hlt, k⟩ := h
    refine ⟨_, pss_one (ps_ret (pe_callTy call_tuple_of (by rfl) T.b_tuple PyProof.Rows.boot_tuple (pa_cons
      (pe_lc (own := [("state", 2)]) (g := gName 2) (tt := tYes) (by rfl) sc_joined.nd (pi_tup (pv 0)) (blkOk_by (N := ["one", "other", "state"]) (sc := defScope (top 23)) (by decide +kernel))
        (fun _ _ _ _ _ => pg_name (i := 2) sc_joined.nd rfl (Or.inl rfl)) (fun _ _ _ _ _ => pts_nil) (fun _ _ _ _ _ => pe_ix (r := rIxT K) (by exact ix_tup) (pv 1) (pv 2) (fun _ _ => rfl))) pa_nil))), ?_⟩
    refine ⟨_, rfl, p, rfl, ⟨_, hA⟩, fun D hD => lc_tup (K := K) (a := p) (xs := tN A) (fun i H' => Same H H' ∧ H' D = some (.lst (tN ((A.take i).map fun s => B.getD s 0)))) ⟨same_new hD, upd_same⟩ (fun i H' _ z => z.1.tup hA) ?_ ?_⟩
    · rintro i x H' hx ⟨sm, hd⟩
      obtain ⟨z, hz, rfl⟩ := tN_of hx
      refine ⟨rfl, yes_ok ?_⟩
      have zB : z < B.length := hlt z (List.mem_of_getElem? hz)
      have eB : (tN B)[z]? = some (.int (B.getD z 0 : Nat)) := tN_get (by rw [List.getD_eq_getElem?_getD, List.getElem?_eq_getElem zB]; rfl)
      refine ⟨_, rfl, _, rfl, q, _, _, _, rfl, rfl, sm.tup hB, atI_nat eB, _, hd, ?_, sm.upd_new hD, ?_⟩
      · rw [tN_len, List.length_map]
        exact small1000 (by rw [List.length_take]; omega)
      · rw [upd_same, take_snoc hz, List.map_append]
        show some (HO.lst _) = some (HO.lst (tN (_ ++ [B.getD z 0])))
        rw [tN_snoc]
    · rintro H' ⟨sm, hd⟩
      rw [tN_len, List.take_length] at hd
      refine ⟨D, _, rfl, .inl ⟨.inl (.inl hd), fun r hr' => ?_⟩⟩
      exact k _ r (sm.trans (same_new hr')) (sm.free hr') upd_same
/-! ### said so many times -/
open Rg in
def spSaid (K : PySem.W.Frag) : Sp := fun vs H Q _ => ∃ (p : Addr) (t : Nat) (f : Nat → Nat) (n : Nat), vs = [.ref p, .int t] ∧ SqT K H p (tN (pw f n 1)) ∧ n ≤ 1000 ∧ (∀ x, x < n → f x < n) ∧
  ∀ H' r, Same H H' → H r = none → H' r = some (.tup (tN (pw f n t))) → Q (.ref r) H'
theorem sc_said : FnScope ["effect", "times", "found", "power"] ["effect", "times"] (defScope (top 24)) := ⟨rfl, rfl, rfl, by decide +kernel, rfl, by decide +kernel, by decide +kernel⟩
theorem rgV_tN (n : Nat) : rgV 0 (n : Int) = tN (List.range n) := by
  unfold rgV tN
  rw [Int.sub_zero, Int.toNat_natCast]
  refine List.map_congr_left fun x _ => ?_
  rw [Int.zero_add]
  rfl
theorem rg_ok {n : Nat} (h : n ≤ 1000) : RgOk 0 (n : Int) := RgOk.of_le (by omega) (by omega) (by omega) (by omega)
/-- found a tuple new against H (the invariant's heap may have grown) -/
theorem ok_said (T : Txt a K mg) : FnOk P w K mg base CX0 2 a.f_said_effect a.d_said_effect ["effect", "times"] (spSaid K) := by
  refine T.F_said_effect.ok sc_said (fun vs H Q E h => ?_) (fun cdv A outer s H vs Q E hr h => ?_)
  · obtain ⟨_, _, _, _, rfl, _⟩ := h
    rfl
  · obtain ⟨p, t, f, n, rfl, hp, hn, hf, k⟩ := h
    refine ⟨_, pss_cons (ps_set (i := 2) sc_said.nd rfl (.inl rfl) (pe_tupRg rfl (by rfl) T.b_tuple (prg_1 (by rfl) T.b_range (pe_callB call_len_seq (by rfl) T.b_len PySem.boot_len (pa_cons (pv 0) pa_nil)))))
      (pss_cons (ps_set (i := 3) sc_said.nd rfl (.inl rfl) (pv 0))
      (pss_cons (ps_while PassesOwn.never (pt_cmpR op_gt (pv 1) pe_int (nomark _))
        (pss_cons (ps_if (pt_cmpR op_eq (pe_op op_mod (pv 1) pe_int) pe_int (nomark _))
          (pss_one (ps_set (i := 2) sc_said.nd rfl (.inl rfl) (pe_call (ok_joined T) hr (by rfl) T.g_joined_effects T.F_joined_effects.kp T.B_joined_effects .nil pass0 (pa_cons (pv 2) (pa_cons (pv 3) pa_nil))))) pss_nil)
        (pss_cons (ps_set (i := 3) sc_said.nd rfl (.inl rfl) (pe_call (ok_joined T) hr (by rfl) T.g_joined_effects T.F_joined_effects.kp T.B_joined_effects .nil pass0 (pa_cons (pv 3) (pa_cons (pv 3) pa_nil))))
        (pss_one (ps_aug (i := 1) sc_said.nd rfl (.inl rfl) pe_int iop_fdiv)))))
      (pss_one (ps_ret (pv 2))))), ?_⟩
    refine ⟨_, rfl, p, _, rfl, .inr hp, (n : Int), ?_, rg_ok hn, fun q hq => ⟨_, rfl, ?_⟩⟩
    · rw [tN_len, Rg.pw_len]
    rw [rgV_tN, ← Rg.pw_zero (f := f)]
    refine while_by (fun σ H' => ∃ (m A B : Nat) (fd pd : Addr), σ = [some (.ref p), some (.int m), some (.ref fd), some (.ref pd)] ∧ Same H H' ∧ H fd = none ∧ H' fd = some (.tup (tN (Rg.pw f n A))) ∧ SqT K H' pd (tN (Rg.pw f n B)) ∧ A + B * m = t)
      (fun σ _ => match σ with | [_, some (.int y), _, _] => y.toNat | _ => 0) ⟨t, 0, 1, q, p, rfl, same_new hq, hq, upd_same, (same_new hq).tup hp, by omega⟩ ?_ ?_
    · rintro σ H' ⟨m, A, B, fd, pd, rfl, sm, n0, hF, hP, e⟩
      refine ⟨_, rfl, m, 0, rfl, rfl, _, rfl, ?_⟩
      by_cases c : 0 < m
      · refine ite2 (fun _ => ?_) (fun z => absurd (decide_eq_true (show (0 : Int) < m by omega)) z)
        refine ⟨_, rfl, _, _, rfl, rfl, (by show (0 : Int) < 2; decide), rfl, _, rfl, ?_⟩
        -- behind the if: found is the A'-th power, A' + B * (m // 2 * 2) = t
        have tail : ∀ (A' : Nat) (fd' : Addr) (H2 : Hp), Same H H2 → H fd' = none → H2 fd' = some (.tup (tN (Rg.pw f n A'))) → SqT K H2 pd (tN (Rg.pw f n B)) → A' + (B + B) * (m / 2) = t →
            tSeq (tAsg (tCall (spJoined K) [] E0 (tCons (tVar 3) (tCons (tVar 3) tNil))) (gName 3)) (tAug 1 (tC (.int 2)) (rI CDiv fun i j => .int (i / j))) { nx := fun σ' H' => (∃ (m A B : Nat) (fd pd : Addr), σ' = [some (.ref p), some (.int m), some (.ref fd), some (.ref pd)] ∧ Same H H' ∧ H fd = none ∧ H' fd = some (.tup (tN (Rg.pw f n A))) ∧ SqT K H' pd (tN (Rg.pw f n B)) ∧ A + B * m = t) ∧ (match σ' with | [_, some (.int y), _, _] => y.toNat | _ => 0) < m, rt := Q } [some (.ref p), some (.int m), some (.ref fd'), some (.ref pd)] H2 := by
          intro A' fd' H2 s2 n2 hF2 hP2 e2
          refine ⟨_, rfl, _, rfl, pd, pd, _, _, rfl, hP2, hP2, by rw [Rg.pw_len]; exact hn, fun x hx => by rw [Rg.pw_len]; exact Rg.pw_lt hf _ x hx, fun H3 r s3 r0 hr3 => ?_⟩
          rw [Rg.pw_join hf] at hr3
          refine ⟨_, rfl, (m : Int), 2, rfl, rfl, ⟨by decide, by decide⟩, ⟨m / 2, A', B + B, fd', r, ?_, s2.trans s3, n2, s3 _ _ hF2, .inl (.inl hr3), e2⟩, ?_⟩
          · show [some (V.ref p), some (V.int ((m : Int) / 2)), _, _] = _
            rw [show ((m : Int) / 2) = ((m / 2 : Nat) : Int) by rw [Int.natCast_ediv]; rfl]
          · show ((m : Int) / 2).toNat < m
            omega
        have half : B * m = (B + B) * (m / 2) + B * (m % 2) := by
          rw [← Nat.two_mul, Nat.mul_comm 2 B, Nat.mul_assoc, ← Nat.mul_add, Nat.div_add_mod]
        refine ite2 (fun o => ?_) (fun o => ?_)
        · have o1 : m % 2 = 1 := by
            have := V.int.inj (of_decide_eq_true o)
            omega
          refine ⟨_, rfl, _, rfl, fd, pd, _, _, rfl, .inl (.inl hF), hP, by rw [Rg.pw_len]; exact hn, fun x hx => by rw [Rg.pw_len]; exact Rg.pw_lt hf _ x hx, fun H3 r s3 r0 hr3 => ?_⟩
          rw [Rg.pw_join hf] at hr3
          refine tail (A + B) r H3 (sm.trans s3) (sm.free r0) hr3 (s3.tup hP) ?_
          rw [o1] at half
          omega
        · have o1 : m % 2 = 0 := by
            refine Classical.byContradiction fun z => o (decide_eq_true ?_)
            show V.int ((m : Int) % 2) = V.int 1
            rw [show (m : Int) % 2 = 1 by omega]
          refine tail A fd H' sm n0 hF hP ?_
          rw [o1] at half
          omega
      · refine ite2 (fun z => absurd (of_decide_eq_true z) (by omega)) (fun _ => ?_)
        have m0 : m = 0 := by omega
        subst m0
        have eA : A = t := by omega
        subst eA
        exact ⟨_, rfl, k H' fd sm n0 hF⟩
    · rintro σ H Q Q' im ⟨v, e, i, j, e1, e2, b, e3, q⟩
      exact ⟨v, e, i, j, e1, e2, b, e3, im _ _ q⟩
/-! ### left alone -/
/-- of a tuple of ints: the places that hold their own number -/
def leftOf (l : List Nat) : List Nat := (List.range l.length).filter fun x => x == l.getD x 0
def spLeft (K : PySem.W.Frag) : Sp := fun vs H Q _ => ∃ (p : Addr) (l : List Nat), vs = [.ref p] ∧ SqT K H p (tN l) ∧ l.length ≤ 1000 ∧ ∀ H' r, Same H H' → H r = none → H' r = some (.tup (tN (leftOf l))) → Q (.ref r) H'
theorem sc_left : FnScope ["effect", "state", "after"] ["effect"] (defScope (top 25)) := ⟨rfl, rfl, rfl, by decide +kernel, rfl, by decide +kernel, by decide +kernel⟩
theorem ok_left (T : Txt a K mg) : FnOk P w K mg base CX0 1 a.f_effect_left a.d_effect_left ["effect"] (spLeft K) := by
  refine T.F_effect_left.ok sc_left (fun vs H Q E h => ?_) (fun cdv A outer s H vs Q E hr h => ?_)
  · obtain ⟨_, _, rfl, _⟩ := h
    rfl
  · obtain ⟨p, l, rfl, hl, hn, k⟩ := h
    refine ⟨_, pss_one (ps_ret (pe_callTy call_tuple_of (by rfl) T.b_tuple PyProof.Rows.boot_tuple (pa_cons
      (pe_lc (own := [("state", 1), ("after", 2)]) (g := gTup K 2 (gCons (gName 1) (gCons (gName 2) gNil))) (tt := tTest (tOp rEq (tVar 1) (tVar 2))) (by rfl) sc_left.nd (pi_enT (by rfl) T.b_enumerate (pa_cons (pv 0) pa_nil)) (blkOk_by (N := ["effect", "state", "after"]) (sc := defScope (top 25)) (by decide +kernel))
        (fun _ _ _ _ _ => pg_tup rfl (pgs_cons (pg_name (i := 1) sc_left.nd rfl (Or.inl rfl)) (pgs_cons (pg_name (i := 2) sc_left.nd rfl (Or.inl rfl)) pgs_nil))) (fun _ _ _ _ _ => pts_one (pt_cmpR op_eq (pv 1) (pv 2) (nomark _))) (fun _ _ _ _ _ => pv 1)) pa_nil))), ?_⟩
    refine ⟨_, rfl, p, _, rfl, hl, fun D hD => lc_et (K := K) (a := p) (xs := tN l) (fun i H' => Same H H' ∧ H' D = some (.lst (tN ((List.range i).filter fun x => x == l.getD x 0)))) ⟨same_new hD, upd_same⟩ (fun i H' _ z => z.1.tup hl) ?_ ?_⟩
    · rintro i x H' U hx ⟨sm, hd⟩ hU
      obtain ⟨z, hz, rfl⟩ := tN_of hx
      have il : i < l.length := (List.getElem?_eq_some_iff.mp hz).1
      have ez : l.getD i 0 = z := by rw [List.getD_eq_getElem?_getD, hz]; rfl
      have nDU : D ≠ U := ne_of_none hd hU
      refine ⟨U, _, rfl, .inl (.inl upd_same), rfl, _, _, rfl, _, _, rfl, rfl, rfl, ?_⟩
      refine ⟨_, rfl, _, rfl, rfl, _, rfl, ?_⟩
      have sU : Same H (upd H' U (.tup [.int (i : Nat), .int z])) := sm.trans (same_new hU)
      have hdU : (upd H' U (.tup [.int (i : Nat), .int z])) D = some (.lst (tN ((List.range i).filter fun x => x == l.getD x 0))) := by rw [upd_ne nDU]; exact hd
      refine ite2 (fun o => ?_) (fun o => ?_)
      · have e : i = z := by have := V.int.inj (of_decide_eq_true o); omega
        refine ⟨_, rfl, _, hdU, ?_, sU.upd_new hD, ?_⟩
        · rw [tN_len]
          refine small1000 (Nat.le_trans (List.length_filter_le _ _) ?_)
          rw [List.length_range]; omega
        · rw [upd_same, List.range_succ, List.filter_append, List.filter_cons_of_pos (by rw [ez]; simpa using e)]
          show some (HO.lst _) = some (HO.lst (tN (_ ++ [i])))
          rw [tN_snoc]
      · have e : ¬ i = z := fun q => o (decide_eq_true (by rw [q]))
        refine ⟨sU, ?_⟩
        rw [hdU, List.range_succ, List.filter_append, List.filter_cons_of_neg (by rw [ez]; simpa using e)]
        simp
    · rintro H' ⟨sm, hd⟩
      rw [tN_len] at hd
      exact ⟨D, _, rfl, .inl ⟨.inl (.inl hd), fun r hr' => k _ r (sm.trans (same_new hr')) (sm.free hr') upd_same⟩⟩
end
end K3
end

section
set_option Elab.async false
set_option linter.all false
set_option maxRecDepth 100000
set_option maxHeartbeats 4000000
/-! Devices: tables, making, rows, effects. -/
namespace K3
open PySem L2 R3
abbrev P0 : Program := PySem.Challenge.pw_backinstep_k03_whole_one_row_for_ever
theorem no_if {b : Bool} {A B : Prop} (h : b = false) (hB : B) : if b = true then A else B := by subst h; exact hB
theorem so_if {b : Bool} {A B : Prop} (h : b = true) (hA : A) : if b = true then A else B := by subst h; exact hA
theorem sqL {K : PySem.W.Frag} {H : Hp} {p : Addr} {xs : List V} (h : H p = some (.lst xs)) : SqL K H p xs := .inl (.inl h)
theorem sqT {K : PySem.W.Frag} {H : Hp} {p : Addr} {xs : List V} (h : H p = some (.tup xs)) : SqT K H p xs := .inl (.inl h)
theorem many_test {m : V} {n : Nat} (hm : m = .non ∨ m = .int n) {A B : Prop} (h : m = .int n → B → A) (hB : B) : if (!decide (m = V.non)) = true then A else B := by
  rcases hm with e | e
  · rw [e]; exact hB
  · rw [if_pos (by rw [e]; rfl)]; exact h e hB
/-- len's reading, for use inside a comprehension -/
def rLen (K : PySem.W.Frag) : List V → Hp → VK → Prop := fun xs H Q => ∃ p ys, xs = [.ref p] ∧ (SqL K H p ys ∨ SqT K H p ys) ∧ Q (.int ys.length) H
theorem len_q {X : Cx} : CallR X (.builtin "len") (rLen X.K) := call_len_seq
section
variable {P : Program} {w : World} {K : PySem.W.Frag} {mg : Str → Option Value} {base : Heap} {a : Ads}
def spIsTable : Sp := fun vs H Q _ => ∃ (p : Addr) (l : List Nat) (m : V), vs = [.ref p, m] ∧ H p = some (.lst (tN l)) ∧ 0 < l.length ∧ l.length ≤ 60 ∧ (∀ x ∈ l, x < l.length) ∧ (m = .non ∨ m = .int l.length) ∧ ∀ H', Same H H' → Q (.bl true) H'
theorem sc_is_table : FnScope ["value", "many", "state"] ["value", "many"] (defScope (top 20)) := ⟨rfl, rfl, rfl, by decide +kernel, rfl, by decide +kernel, by decide +kernel⟩
theorem ok_is_table (T : Txt a K mg) : FnOk P w K mg base CX0 3 a.f_is_table a.d_is_table ["value", "many"] spIsTable := by
  refine T.F_is_table.ok sc_is_table (fun vs H Q E h => ?_) (fun cdv A outer s H vs Q E hr h => ?_)
  · obtain ⟨_, _, _, rfl, _⟩ := h
    rfl
  · obtain ⟨p, l, m, rfl, hp, l0, l60, hl, hm, k⟩ := h
    obtain ⟨t, ht⟩ := T.k_MOST_STATES
    refine ⟨_, pss_cons (ps_if (PW.pt (pw_or (pt_not (pt_val (pe_call (ok_is_sequence T) (hr.mono (by decide)) (by rfl) T.g_is_sequence T.F_is_sequence.kp T.B_is_sequence .nil pass0 (pa_cons (pv 0) pa_nil))))
      (pw_or (pt_not (pt_chain op_le op_le pe_int (pe_callB call_len_seq (by rfl) T.b_len PySem.boot_len (pa_cons (pv 0) pa_nil)) (pe_glob (v := .int 60) (by rfl) ht ⟨t, rfl⟩)))
      (pw_or1 (PW.pt (pw_and (pt_cmpR op_notN (pv 1) pe_non (nomark _)) (pw_and1 (pt_cmpR op_ne (pe_callB call_len_seq (by rfl) T.b_len PySem.boot_len (pa_cons (pv 0) pa_nil)) (pv 1) (nomark _)))))))))
      (pss_one (ps_ret pe_bl)) pss_nil)
      (pss_one (ps_ret (pe_callB (cr_all rfl) (by rfl) T.b_all (by decide +kernel) (pa_cons
        (pe_lc (own := [("state", 2)]) (g := gName 2) (tt := tYes) (by rfl) sc_is_table.nd (pi_list (pv 0)) (blkOk_by (N := ["value", "many", "state"]) (sc := defScope (top 20)) (by decide +kernel))
          (fun _ _ _ _ _ => pg_name (i := 2) sc_is_table.nd rfl (Or.inl rfl)) (fun _ _ _ _ _ => pts_nil)
          (fun _ _ _ _ _ => pe_and (pe_call (ok_is_number T) (hr.mono (by decide)) (by rfl) T.g_is_number T.F_is_number.kp T.B_is_number .nil pass0 (pa_cons (pv 2) pa_nil)) (pe_one (pe_cmpR op_lt (pv 2) (pe_callB (r := rLen K) (by exact len_q) (by rfl) T.b_len PySem.boot_len (pa_cons (pv 0) pa_nil)) (nomark _))))) pa_nil)))), ?_⟩
    refine ⟨_, rfl, p, _, rfl, hp, fun H1 s1 => ⟨true, rfl, no_if rfl ?_⟩⟩
    have hp1 := s1 _ _ hp
    refine ⟨_, rfl, p, _, rfl, .inl (sqL hp1), ?_⟩
    rw [tN_len]
    refine ⟨1, _, rfl, rfl, _, rfl, so_if (decide_eq_true (show (1 : Int) ≤ _ by omega)) ⟨_, _, rfl, rfl, _, rfl, no_if (by simp; omega) ?_⟩⟩
    refine ⟨_, rfl, rfl, _, rfl, ?_⟩
    have small : l.length < sizeLine := by rw [sizeLine_eq]; omega
    refine many_test hm (fun e b => ?_) (no_if rfl ?_)
    · subst e
      refine ⟨_, rfl, p, _, rfl, .inl (sqL hp1), _, rfl, rfl, ?_⟩
      rw [tN_len]
      exact ⟨false, by simp, b⟩
    refine ⟨_, rfl, p, rfl, ⟨_, sqL hp1⟩, fun D hD => lc_list (K := K) (a := p) (xs := tN l) (fun i H' => Same H1 H' ∧ H' D = some (.lst ((List.replicate i true).map V.bl))) ⟨same_new hD, upd_same⟩ (fun i H' _ z => sqL (z.1 _ _ hp1)) ?_ ?_⟩
    · rintro i x H' hx ⟨sm, hd⟩
      obtain ⟨z, hz, rfl⟩ := tN_of hx
      have il : i < l.length := (List.getElem?_eq_some_iff.mp hz).1
      have zl : z < l.length := hl z (List.mem_of_getElem? hz)
      refine ⟨rfl, yes_ok ⟨_, rfl, _, rfl, rfl, true, by simp [isNum], so_if rfl ⟨_, rfl, _, rfl, p, _, rfl, .inl (sqL (sm _ _ hp1)), _, _, rfl, rfl, _, hd, ?_, sm.upd_new hD, ?_⟩⟩⟩
      · rw [List.length_map, List.length_replicate]; exact small1000 (by omega)
      · rw [upd_same, tN_len, List.replicate_succ', List.map_append]
        show some (HO.lst (_ ++ [V.bl (decide ((z : Int) < (l.length : Nat)))])) = _
        rw [decide_eq_true (show (z : Int) < (l.length : Nat) by omega)]
        rfl
    · rintro H' ⟨sm, hd⟩
      rw [tN_len] at hd
      refine ⟨D, _, rfl, sqL hd, ?_⟩
      rw [show (List.replicate l.length true).all id = true by simp]
      exact k _ (s1.trans sm)
end
end K3
end

section
set_option Elab.async false
set_option linter.all false
set_option maxRecDepth 100000
set_option maxHeartbeats 4000000
/-! Devices: making. -/
namespace K3
open PySem L2 R3
/-- signs told by their numbers: 0 is a -/
def rowS (ls : List Nat) : PySem.Str := ⟨(ls.map (· + 97)).toArray⟩
def refs (ps : List Addr) : List V := ps.map V.ref
theorem refs_len (ps : List Addr) : (refs ps).length = ps.length := by unfold refs; simp
theorem refs_of {ps : List Addr} {i : Nat} {y : V} (h : (refs ps)[i]? = some y) : ∃ p, ps[i]? = some p ∧ y = .ref p := by
  unfold refs at h
  rw [List.getElem?_map] at h
  cases e : ps[i]? with
  | none => rw [e] at h; cases h
  | some x => rw [e] at h; exact ⟨x, rfl, (Option.some.inj h).symm⟩
theorem refs_get {ps : List Addr} {i : Nat} {p : Addr} (h : ps[i]? = some p) : (refs ps)[i]? = some (.ref p) := by unfold refs; rw [List.getElem?_map, h]; rfl
theorem refs_snoc (ps : List Addr) (p : Addr) : refs (ps ++ [p]) = refs ps ++ [.ref p] := by unfold refs; rw [List.map_append]; rfl
/-- ls stand at ps, each as R says -/
def EachG (R : Addr → List Nat → Prop) (ps : List Addr) (ls : List (List Nat)) : Prop := ps.length = ls.length ∧ ∀ (i : Nat) (p : Addr) (l : List Nat), ps[i]? = some p → ls[i]? = some l → R p l
section
variable {R R' : Addr → List Nat → Prop} {ps : List Addr} {ls : List (List Nat)} {p : Addr} {l : List Nat}
theorem EachG.mono (s : ∀ p l, R p l → R' p l) (h : EachG R ps ls) : EachG R' ps ls := ⟨h.1, fun i p l h1 h2 => s p l (h.2 i p l h1 h2)⟩
theorem EachG.snoc (h : EachG R ps ls) (hp : R p l) : EachG R (ps ++ [p]) (ls ++ [l]) := by
  refine ⟨by rw [List.length_append, List.length_append, h.1]; rfl, fun i q m h1 h2 => ?_⟩
  by_cases c : i < ps.length
  · rw [List.getElem?_append_left c] at h1
    rw [List.getElem?_append_left (by rw [← h.1]; exact c)] at h2
    exact h.2 i q m h1 h2
  · rw [List.getElem?_append_right (by omega)] at h1
    rw [List.getElem?_append_right (by rw [← h.1]; omega), ← h.1] at h2
    obtain ⟨z, e1⟩ : ∃ z, i - ps.length = z := ⟨_, rfl⟩
    rw [e1] at h1 h2
    cases z with
    | zero => cases h1; cases h2; exact hp
    | succ z => cases h1
theorem EachG.nil : EachG R [] [] := ⟨rfl, fun i p l h _ => by cases h⟩
theorem EachG.get (h : EachG R ps ls) {i : Nat} (e : ps[i]? = some p) : ∃ l, ls[i]? = some l ∧ R p l := by
  have il := (List.getElem?_eq_some_iff.mp e).1
  have il' : i < ls.length := by rw [← h.1]; exact il
  exact ⟨ls[i], List.getElem?_eq_getElem il', h.2 i p _ e (List.getElem?_eq_getElem il')⟩
theorem EachG.at_ (h : EachG R ps ls) {i : Nat} (e : ls[i]? = some l) : ∃ p, ps[i]? = some p ∧ R p l := by
  have il := (List.getElem?_eq_some_iff.mp e).1
  have il' : i < ps.length := by rw [h.1]; exact il
  exact ⟨ps[i], List.getElem?_eq_getElem il', h.2 i _ l (List.getElem?_eq_getElem il') e⟩
end
abbrev Each (K : PySem.W.Frag) (H : Hp) := EachG fun p l => SqT K H p (tN l)
/-- a tuple of tuples of numbers -/
def TT (K : PySem.W.Frag) (H : Hp) (q : Addr) (ls : List (List Nat)) : Prop := ∃ ps, SqT K H q (refs ps) ∧ Each K H ps ls
/-- a list of lists of numbers -/
def TL (H : Hp) (q : Addr) (ls : List (List Nat)) : Prop := ∃ ps : List Addr, H q = some (.lst (refs ps)) ∧ EachG (fun p l => H p = some (.lst (tN l))) ps ls
theorem TT.mono {K : PySem.W.Frag} {H H' : Hp} {q : Addr} {ls : List (List Nat)} (s : Same H H') (h : TT K H q ls) : TT K H' q ls := let ⟨ps, h1, h2⟩ := h; ⟨ps, s.tup h1, h2.mono fun _ _ z => s.tup z⟩
theorem TL.mono {H H' : Hp} {q : Addr} {ls : List (List Nat)} (s : Same H H') (h : TL H q ls) : TL H' q ls := let ⟨ps, h1, h2⟩ := h; ⟨ps, s _ _ h1, h2.mono fun _ _ z => s _ _ z⟩
/-- k tables of n states -/
structure TabsOk (ls : List (List Nat)) (n : Nat) : Prop where
  k0 : 0 < ls.length
  k5 : ls.length ≤ 5
  n0 : 0 < n
  n60 : n ≤ 60
  len : ∀ l ∈ ls, l.length = n
  lt : ∀ l ∈ ls, ∀ x ∈ l, x < n
/-- a made device -/
def DevAt (a : Ads) (K : PySem.W.Frag) (H : Hp) (x : Addr) (ls : List (List Nat)) (n : Nat) : Prop :=
  ∃ dx q, H x = some (.ins a.c_Device dx [("states", .int n), ("signals", .str (rowS (List.range ls.length))), ("tables", .ref q)]) ∧ TT K H q ls
theorem DevAt.mono {a : Ads} {K : PySem.W.Frag} {H H' : Hp} {x : Addr} {ls : List (List Nat)} {n : Nat} (s : Same H H') (h : DevAt a K H x ls n) : DevAt a K H' x ls n := let ⟨dx, q, h1, h2⟩ := h; ⟨dx, q, s _ _ h1, h2.mono s⟩
/-- all but x stands -/
def SameBut (x : Addr) (H H' : Hp) : Prop := ∀ b o, H b = some o → b ≠ x → H' b = some o
theorem _root_.L2.Same.but {x : Addr} {H H' : Hp} (s : Same H H') : SameBut x H H' := fun b o e _ => s b o e
theorem SameBut.put {x : Addr} {H H' : Hp} {o : HO} (s : SameBut x H H') : SameBut x H (upd H' x o) := fun b u e nb => by rw [upd_ne nb]; exact s b u e nb
theorem SameBut.then {x : Addr} {H H' H2 : Hp} (s : SameBut x H H') (t : Same H' H2) : SameBut x H H2 := fun b u e nb => t _ _ (s b u e nb)
theorem SameBut.tup {K : PySem.W.Frag} {x q : Addr} {H H' : Hp} {xs : List V} (s : SameBut x H H') (n : q ≠ x) (h : SqT K H q xs) : SqT K H' q xs := by
  rcases h with (h | ⟨o, h⟩) | h
  · exact .inl (.inl (s _ _ h n))
  · exact .inl (.inr ⟨o, s _ _ h n⟩)
  · exact .inr h
theorem ne_at {H : Hp} {p x : Addr} {o o' : HO} (h : H p = some o) (h' : H x = some o') (n : o ≠ o') : p ≠ x := fun e => by
  subst e
  rw [h] at h'
  exact n (Option.some.inj h')
section
variable {P : Program} {w : World} {K : PySem.W.Frag} {mg : Str → Option Value} {base : Heap} {a : Ads}
/-- tuple of a list or a tuple -/
def rTupOf (K : PySem.W.Frag) : List V → Hp → VK → Prop := fun xs H Q => ∃ p ys, xs = [.ref p] ∧ ((SqL K H p ys ∧ ∀ r, H r = none → Q (.ref r) (upd H r (.tup ys))) ∨ (SqT K H p ys ∧ Q (.ref p) H))
theorem tup_q {X : Cx} : CallR X (.type "tuple") (rTupOf X.K) := call_tuple_of
theorem putF_len (f : PySem.Str) (v : V) : ∀ fs : List (PySem.Str × V), (putF f v fs).length ≤ fs.length + 1
  | [] => Nat.le_refl _
  | (g, x) :: r => by
    unfold putF
    by_cases h : g = f
    · rw [if_pos h]; exact Nat.le_succ _
    · rw [if_neg h]; exact Nat.succ_le_succ (putF_len f v r)
theorem putF_few {f : PySem.Str} {v : V} {fs : List (PySem.Str × V)} (h : fs.length + 1 < 1000) : (putF f v fs).length < 1000 := Nat.lt_of_le_of_lt (putF_len f v fs) h
theorem putF_few2 {f g : PySem.Str} {v u : V} {fs : List (PySem.Str × V)} (h : fs.length + 2 < 1000) : (putF f v (putF g u fs)).length < 1000 := putF_few (Nat.lt_of_le_of_lt (Nat.succ_le_succ (putF_len g u fs)) h)
def spDevInit (a : Ads) (K : PySem.W.Frag) : Sp := fun vs H Q _ => ∃ (x dx L : Addr) (ls : List (List Nat)) (n : Nat), vs = [.ref x, .ref L] ∧ H x = some (.ins a.c_Device dx []) ∧ TL H L ls ∧ TabsOk ls n ∧ ∀ H', SameBut x H H' → DevAt a K H' x ls n → Q .non H'
theorem sc_dev_init : FnScope ["self", "tables", "at", "table"] ["self", "tables"] (defScope (inClass (top 19) 0)) := ⟨rfl, rfl, rfl, by decide +kernel, rfl, by decide +kernel, by decide +kernel⟩
theorem cut_signals {k : Nat} (h0 : 0 < k) (h5 : k ≤ 5) : cutS "abcde" none (some (k : Int)) = rowS (List.range k) := by
  have : ∀ k : Nat, k < 6 → 0 < k → cutS "abcde" none (some (k : Int)) = rowS (List.range k) := by decide +kernel
  exact this k (by omega) h0
theorem ok_dev_init (T : Txt a K mg) : FnOk P w K mg base CX0 4 a.f_Device_init a.d_Device_init ["self", "tables"] (spDevInit a K) := by
  refine T.F_Device_init.ok sc_dev_init (fun vs H Q E h => ?_) (fun cdv A outer s H vs Q E hr h => ?_)
  · obtain ⟨_, _, _, _, _, rfl, _⟩ := h
    rfl
  · obtain ⟨x, dx, L, ls, n, rfl, hx, ⟨ps, hL, hps⟩, ok, k⟩ := h
    obtain ⟨t, ht⟩ := T.k_SIGNALS
    refine ⟨_, pss_cons (ps_if (PW.pt (pw_or (pt_not (pt_val (pe_call (ok_is_sequence T) (hr.mono (by decide)) (by rfl) T.g_is_sequence T.F_is_sequence.kp T.B_is_sequence .nil pass0 (pa_cons (pv 1) pa_nil))))
      (pw_or1 (pt_not (pt_chain op_le op_le pe_int (pe_callB call_len_seq (by rfl) T.b_len PySem.boot_len (pa_cons (pv 1) pa_nil)) (pe_callB call_len_str (by rfl) T.b_len PySem.boot_len (pa_cons (pe_glob (v := .str "abcde") (by rfl) ht ⟨t, rfl⟩) pa_nil)))))))
      pss_never pss_nil)
      (pss_cons (ps_for PassesOwn.never rfl (pi_enum (by rfl) T.b_enumerate (pa_cons (pv 1) pa_nil)) (pg_tup rfl (pgs_cons (pg_name (i := 2) sc_dev_init.nd rfl (Or.inl rfl)) (pgs_cons (pg_name (i := 3) sc_dev_init.nd rfl (Or.inl rfl)) pgs_nil)))
        (pss_one (ps_if (pt_not (pt_val (pe_call (ok_is_table T) hr (by rfl) T.g_is_table T.F_is_table.kp T.B_is_table .nil pass0 (pa_cons (pv 3) (pa_cons (pe_ifExp (pt_cmpR op_gt (pv 2) pe_int (nomark _)) (pe_callB call_len_seq (by rfl) T.b_len PySem.boot_len (pa_cons (pe_ix (r := rIxL K) (by exact ix_list) (pv 1) pe_int (fun _ _ => rfl)) pa_nil)) pe_non) pa_nil)))))
          pss_never pss_nil)))
      (pss_cons (ps_fld (pv 0) (pe_callB call_len_seq (by rfl) T.b_len PySem.boot_len (pa_cons (pe_ix (r := rIxL K) (by exact ix_list) (pv 1) pe_int (fun _ _ => rfl)) pa_nil)) (by rfl))
      (pss_cons (ps_fld (pv 0) (pe_slice sl_str (pe_glob (v := .str "abcde") (by rfl) ht ⟨t, rfl⟩) po_none (po_some (pe_callB call_len_seq (by rfl) T.b_len PySem.boot_len (pa_cons (pv 1) pa_nil)))) (by rfl))
      (pss_one (ps_fld (pv 0) (pe_callTy call_tuple_of (by rfl) T.b_tuple PyProof.Rows.boot_tuple (pa_cons
        (pe_lc (own := [("table", 3)]) (g := gName 3) (tt := tYes) (by rfl) sc_dev_init.nd (pi_list (pv 1)) (blkOk_by (N := ["self", "tables", "at", "table"]) (sc := defScope (inClass (top 19) 0)) (by decide +kernel))
          (fun _ _ _ _ _ => pg_name (i := 3) sc_dev_init.nd rfl (Or.inl rfl)) (fun _ _ _ _ _ => pts_nil)
          (fun _ _ _ _ _ => pe_callTy (r := rTupOf K) (by exact tup_q) (by rfl) T.b_tuple PyProof.Rows.boot_tuple (pa_cons (pv 3) pa_nil))) pa_nil)) (by rfl)))))), ?_⟩
    refine ⟨_, rfl, L, _, rfl, hL, fun H1 s1 => ⟨true, rfl, no_if rfl ?_⟩⟩
    refine ⟨_, rfl, L, _, rfl, .inl (sqL (s1 _ _ hL)), ?_⟩
    have k0 := ok.k0
    have k5 := ok.k5
    have pl : ps.length = ls.length := hps.1
    rw [refs_len, pl]
    refine ⟨1, _, rfl, rfl, _, rfl, so_if (decide_eq_true (show (1 : Int) ≤ (ls.length : Nat) by omega)) ⟨_, rfl, by decide +kernel, _, _, rfl, rfl, _, rfl, no_if ?_ ?_⟩⟩
    · show (!decide (((ls.length : Nat) : Int) ≤ ((5 : Nat) : Int))) = false
      rw [decide_eq_true (by omega)]; rfl
    -- the first table
    obtain ⟨p0, l0, e0, f0, g0⟩ : ∃ p0 l0, ps[0]? = some p0 ∧ ls[0]? = some l0 ∧ H p0 = some (.lst (tN l0)) := by
      obtain ⟨p, h1, h2⟩ := hps.at_ (List.getElem?_eq_getElem k0)
      exact ⟨p, _, h1, List.getElem?_eq_getElem k0, h2⟩
    have l0n : l0.length = n := ok.len _ (List.mem_of_getElem? f0)
    refine ⟨_, rfl, L, refs ps, rfl, sqL (s1 _ _ hL), for_it walk_enum (fun i σ H' => Same H H' ∧ ∃ v2 v3, σ = [some (.ref x), some (.ref L), v2, v3]) ⟨s1, _, _, rfl⟩ (fun i σ H' _ z => sqL (z.1 _ _ hL)) ?_ ?_⟩
    · rintro i v σ H' H2 hi ⟨sm, v2, v3, rfl⟩ ⟨U, y1, y2, rfl, hU, rfl, e1, e2⟩
      cases e1
      obtain ⟨pi, hpi, rfl⟩ := refs_of e2
      obtain ⟨li, hli, gi⟩ := hps.get hpi
      have s2 := sm.trans (same_new (o := .tup [.int (i : Nat), .ref pi]) hU)
      have lin : li.length = n := ok.len _ (List.mem_of_getElem? hli)
      have n0 := ok.n0
      have n60 := ok.n60
      refine ⟨U, _, rfl, sqT upd_same, rfl, _, _, rfl, _, _, rfl, rfl, ?_⟩
      have lt : ∀ z ∈ li, z < li.length := fun z hz => by rw [lin]; exact ok.lt _ (List.mem_of_getElem? hli) z hz
      refine ⟨_, rfl, _, rfl, i, 0, rfl, rfl, _, rfl, ite2 (fun z => ?_) (fun z => ?_)⟩
      · refine ⟨_, rfl, L, _, 0, _, rfl, rfl, sqL (s2 _ _ hL), atI_nat (refs_get e0), p0, _, rfl, .inl (sqL (s2 _ _ g0)), ?_⟩
        refine ⟨pi, li, _, rfl, s2 _ _ gi, by omega, by omega, lt, .inr (by rw [tN_len, l0n, lin]), fun H3 s3 => ⟨true, rfl, no_if rfl ⟨s2.trans s3, _, _, rfl⟩⟩⟩
      · refine ⟨pi, li, _, rfl, s2 _ _ gi, by omega, by omega, lt, .inl rfl, fun H3 s3 => ⟨true, rfl, no_if rfl ⟨s2.trans s3, _, _, rfl⟩⟩⟩
    · rintro σ H2 ⟨s2, v2, v3, rfl⟩
      -- states
      refine ⟨_, rfl, L, _, 0, _, rfl, rfl, sqL (s2 _ _ hL), atI_nat (refs_get e0), p0, _, rfl, .inl (sqL (s2 _ _ g0)), _, rfl, x, _, dx, _, rfl, s2 _ _ hx, T.cl_Device, T.n_Device_states, by decide, ?_⟩
      rw [tN_len, l0n]
      have Lx : L ≠ x := ne_at hL hx (fun z => by cases z)
      have s3 : SameBut x H (upd H2 x (.ins a.c_Device dx (putF "states" (.int n) []))) := s2.but.put
      -- signals
      refine ⟨_, rfl, L, _, rfl, .inl (sqL (s3 _ _ hL Lx)), _, rfl, _, rfl, by decide +kernel, ?_⟩
      rw [refs_len, pl, cut_signals k0 k5]
      refine ⟨_, rfl, x, _, dx, _, rfl, upd_same, T.cl_Device, T.n_Device_signals, putF_few (by show 0 + 1 < 1000; decide), ?_⟩
      have s4 := s3.put (o := .ins a.c_Device dx (putF "signals" (.str (rowS (List.range ls.length))) (putF "states" (.int n) [])))
      have hx4 : (upd (upd H2 x (.ins a.c_Device dx (putF "states" (.int n) []))) x (.ins a.c_Device dx (putF "signals" (.str (rowS (List.range ls.length))) (putF "states" (.int n) [])))) x = some _ := upd_same
      generalize (upd (upd H2 x (.ins a.c_Device dx (putF "states" (.int n) []))) x (.ins a.c_Device dx (putF "signals" (.str (rowS (List.range ls.length))) (putF "states" (.int n) [])))) = H4 at s4 hx4
      -- tables
      refine ⟨_, rfl, L, rfl, ⟨_, sqL (s4 _ _ hL Lx)⟩, fun D hD => lc_list (K := K) (a := L) (xs := refs ps) (fun i H' => Same H4 H' ∧ ∃ qs, H' D = some (.lst (refs qs)) ∧ EachG (fun p l => H' p = some (.tup (tN l))) qs (ls.take i)) ⟨same_new hD, [], upd_same, EachG.nil⟩ (fun i H' _ z => sqL (z.1 _ _ (s4 _ _ hL Lx))) ?_ ?_⟩
      · rintro i v H' hv ⟨sm, qs, hd, he⟩
        obtain ⟨pi, hpi, rfl⟩ := refs_of hv
        obtain ⟨li, hli, gi⟩ := hps.get hpi
        have gi' := sm _ _ (s4 _ _ gi (ne_at gi hx (fun z => by cases z)))
        have il : i < ls.length := (List.getElem?_eq_some_iff.mp hli).1
        refine ⟨rfl, yes_ok ⟨_, rfl, pi, _, rfl, .inl ⟨sqL gi', fun r hr' => ?_⟩⟩⟩
        have nDr : D ≠ r := ne_of_none hd hr'
        refine ⟨_, (upd_ne nDr).trans hd, ?_, (sm.trans (same_new hr')).upd_new hD, qs ++ [r], ?_, ?_⟩
        · rw [refs_len, he.1]; exact small1000 (by rw [List.length_take]; omega)
        · rw [upd_same, refs_snoc]
        · rw [take_snoc hli]
          refine EachG.snoc (he.mono fun p l h => ?_) ?_
          · rw [upd_ne (ne_at h hd (fun z => by cases z)), upd_ne (ne_of_none h hr')]
            exact h
          · rw [upd_ne (Ne.symm nDr), upd_same]
      · rintro H' ⟨sm, qs, hd, he⟩
        rw [refs_len, pl, List.take_length] at he
        refine ⟨D, _, rfl, .inl ⟨sqL hd, fun r hr' => ?_⟩⟩
        have hx5 : (upd H' r (.tup (refs qs))) x = some _ := (same_new hr') _ _ (sm _ _ hx4)
        have hr5 : (upd H' r (.tup (refs qs))) r = some _ := upd_same
        have s5 := s4.then (sm.trans (same_new (o := .tup (refs qs)) hr'))
        have he5 := he.mono (R' := fun p l => (upd H' r (.tup (refs qs))) p = some (.tup (tN l))) fun p l h => same_new hr' _ _ h
        generalize upd H' r (.tup (refs qs)) = H5 at hx5 hr5 s5 he5
        refine ⟨_, rfl, x, _, dx, _, rfl, hx5, T.cl_Device, T.n_Device_tables, putF_few2 (by show 0 + 2 < 1000; decide), ?_⟩
        refine k _ s5.put ⟨dx, r, upd_same, qs, sqT ?_, he5.mono fun p l h => sqT ?_⟩
        · rw [upd_ne (ne_at hr5 hx5 (fun z => by cases z))]; exact hr5
        · rw [upd_ne (ne_at h hx5 (fun z => by cases z))]; exact h
end
end K3
end

section
set_option Elab.async false
set_option linter.all false
set_option maxRecDepth 100000
set_option maxHeartbeats 4000000
/-! Data: small whole numbers in lists and tuples; what repr and == ask of them. -/
namespace K3
open PySem L2 R3
mutual
/-- whole numbers from 0 to 10 ^ 12 - 1, bools, None, nested -/
def tiny : PyData → Bool
  | .none | .bool _ => true
  | .int i => decide (0 ≤ i ∧ i ≤ 999999999999)
  | .list xs | .tuple xs => tinyAll xs
  | .str _ | .dict _ => false
def tinyAll : List PyData → Bool
  | [] => true
  | x :: xs => tiny x && tinyAll xs
end
theorem int_showable {i : Int} (h : 0 ≤ i ∧ i ≤ 999999999999) : PyData.showable (.int i) = true := by
  unfold PyData.showable
  have : i.natAbs < 2 ^ 40 := by omega
  have l : i.natAbs.log2 < 40 ∨ i.natAbs = 0 := by
    by_cases z : i.natAbs = 0
    · exact .inr z
    · exact .inl ((Nat.log2_lt z).mpr this)
  rcases l with l | l
  · exact decide_eq_true (by omega)
  · rw [l]; decide
mutual
theorem tiny_ok : ∀ d : PyData, tiny d = true → d.showable = true ∧ d.leavesShort 13 = true ∧ d.canLay0 = true
  | .none, _ => ⟨rfl, rfl, rfl⟩
  | .bool _, _ => ⟨rfl, rfl, rfl⟩
  | .int i, h => by
    have h' := of_decide_eq_true (show decide (0 ≤ i ∧ i ≤ 999999999999) = true from h)
    exact ⟨int_showable h', by unfold PyData.leavesShort; exact decide_eq_true (PyData.shown_int_le2 (by omega) (by omega)), rfl⟩
  | .list xs, h => by
    obtain ⟨h1, h2, h3⟩ := tinyAll_ok xs h
    exact ⟨by unfold PyData.showable; exact h1, by unfold PyData.leavesShort; exact h2, by unfold PyData.canLay0; exact h3⟩
  | .tuple xs, h => by
    obtain ⟨h1, h2, h3⟩ := tinyAll_ok xs h
    exact ⟨by unfold PyData.showable; exact h1, by unfold PyData.leavesShort; exact h2, by unfold PyData.canLay0; exact h3⟩
  | .str _, h => by cases h
  | .dict _, h => by cases h
theorem tinyAll_ok : ∀ xs : List PyData, tinyAll xs = true → PyData.showableAll xs = true ∧ PyData.leavesShortAll 13 xs = true ∧ PyData.canLayAll0 xs = true
  | [], _ => ⟨rfl, rfl, rfl⟩
  | x :: xs, h => by
    have h' : tiny x = true ∧ tinyAll xs = true := Bool.and_eq_true_iff.mp h
    obtain ⟨a1, a2, a3⟩ := tiny_ok x h'.1
    obtain ⟨b1, b2, b3⟩ := tinyAll_ok xs h'.2
    exact ⟨by unfold PyData.showableAll; rw [a1, b1]; rfl, by unfold PyData.leavesShortAll; rw [a2, b2]; rfl, by unfold PyData.canLayAll0; rw [a3, b3]; rfl⟩
end
/-- the datum of a tuple of numbers -/
def dI (l : List Nat) : PyData := .tuple (l.map fun (x : Nat) => .int x)
def dT (ls : List (List Nat)) : PyData := .tuple (ls.map dI)
theorem tinyAll_map {α : Type} {f : α → PyData} : ∀ {l : List α}, (∀ x ∈ l, tiny (f x) = true) → tinyAll (l.map f) = true
  | [], _ => rfl
  | x :: l, h => by
    show (tiny (f x) && tinyAll (l.map f)) = true
    rw [h x List.mem_cons_self, tinyAll_map fun y hy => h y (List.mem_cons_of_mem _ hy)]; rfl
theorem depthAll_map {α : Type} {f : α → PyData} {m : Nat} : ∀ {l : List α}, (∀ x ∈ l, (f x).depth ≤ m) → PyData.depthAll (l.map f) ≤ m
  | [], _ => Nat.zero_le _
  | x :: l, h => by
    show max ((f x).depth) (PyData.depthAll (l.map f)) ≤ m
    exact Nat.max_le.mpr ⟨h x List.mem_cons_self, depthAll_map fun y hy => h y (List.mem_cons_of_mem _ hy)⟩
theorem bulkAll_map {α : Type} {f : α → PyData} {m : Nat} : ∀ {l : List α}, (∀ x ∈ l, (f x).bulk ≤ m) → PyData.bulkAll (l.map f) ≤ l.length * (m + 1)
  | [], _ => Nat.zero_le _
  | x :: l, h => by
    show (f x).bulk + 1 + PyData.bulkAll (l.map f) ≤ (l.length + 1) * (m + 1)
    have h1 := h x List.mem_cons_self
    have h2 := bulkAll_map (f := f) (m := m) (l := l) fun y hy => h y (List.mem_cons_of_mem _ hy)
    rw [Nat.succ_mul]
    omega
theorem tiny_dI {l : List Nat} (h : ∀ x ∈ l, x ≤ 1000) : tiny (dI l) = true := tinyAll_map fun x hx => decide_eq_true (by have := h x hx; omega)
theorem depth_dI (l : List Nat) : (dI l).depth ≤ 1 := Nat.succ_le_succ (depthAll_map (m := 0) fun _ _ => Nat.le_refl 0)
theorem bulk_dI (l : List Nat) : (dI l).bulk ≤ l.length := by
  have := bulkAll_map (f := fun (x : Nat) => PyData.int x) (m := 0) (l := l) fun _ _ => Nat.le_refl 0
  rw [Nat.zero_add, Nat.mul_one] at this
  exact this
theorem tiny_dT {ls : List (List Nat)} (h : ∀ l ∈ ls, ∀ x ∈ l, x ≤ 1000) : tiny (dT ls) = true := tinyAll_map fun l hl => tiny_dI (h l hl)
theorem depth_dT (ls : List (List Nat)) : (dT ls).depth ≤ 2 := Nat.succ_le_succ (depthAll_map (m := 1) fun l _ => depth_dI l)
theorem bulk_dT {ls : List (List Nat)} {m : Nat} (h : ∀ l ∈ ls, l.length ≤ m) : (dT ls).bulk ≤ ls.length * (m + 1) := bulkAll_map fun l hl => Nat.le_trans (bulk_dI l) (h l hl)
section
variable {K : PySem.W.Frag} {H : Hp}
theorem dpAll_tN : ∀ l : List Nat, DpAll K H (tN l) (l.map fun (x : Nat) => PyData.int x)
  | [] => .nil
  | x :: l => .cons (.int x) (dpAll_tN l)
theorem dp_tN {p : Addr} {l : List Nat} (h : SqT K H p (tN l)) : Dp K H (.ref p) (dI l) := .tup h (dpAll_tN l)
theorem dpAll_each : ∀ {ps : List Addr} {ls : List (List Nat)}, Each K H ps ls → DpAll K H (refs ps) (ls.map dI)
  | [], [], _ => .nil
  | [], _ :: _, h => by cases h.1
  | _ :: _, [], h => by cases h.1
  | p :: ps, l :: ls, h => .cons (dp_tN (h.2 0 p l rfl rfl)) (dpAll_each ⟨Nat.succ.inj h.1, fun i q m h1 h2 => h.2 (i + 1) q m h1 h2⟩)
theorem dp_TT {q : Addr} {ls : List (List Nat)} (h : TT K H q ls) : Dp K H (.ref q) (dT ls) := let ⟨_, h1, h2⟩ := h; .tup h1 (dpAll_each h2)
/-- repr of such a datum -/
theorem rep_tiny {v : V} {d : PyData} {Q : VK} (h : Dp K H v d) (t : tiny d = true) (dp : d.depth ≤ 40) (b : d.bulk ≤ 2 ^ 20) (q : Q (.str d.shown) H) : rRep K [v] H Q := by
  obtain ⟨h1, h2, h3⟩ := tiny_ok d t
  exact ⟨v, d, rfl, h, h1, PyData.hasDict_of_canLay d h3, dp, PyData.shown_fits_bulk (B := 13) (by decide) (by decide) h2 b, q⟩
/-- such data are equal to themselves -/
theorem shaped_tiny {d : PyData} (t : tiny d = true) (dp : d.depth ≤ 64) : SeqAt.shaped d = true := by
  unfold SeqAt.shaped
  rw [(tiny_ok d t).2.2, decide_eq_true dp]; rfl
theorem eqv_tiny {d : PyData} (t : tiny d = true) : PyData.eqv d d = true := SeqAt.eqv_refl d (tiny_ok d t).2.2
end
end K3
end

section
set_option Elab.async false
set_option linter.all false
set_option maxRecDepth 100000
set_option maxHeartbeats 4000000
/-! Devices: ==, rows, effects. -/
namespace K3
open PySem L2 R3
section
variable {P : Program} {w : World} {K : PySem.W.Frag} {mg : Str → Option Value} {base : Heap} {a : Ads}
theorem TabsOk.tiny {ls : List (List Nat)} {n : Nat} (h : TabsOk ls n) : ∀ l ∈ ls, ∀ x ∈ l, x ≤ 1000 := fun l hl x hx => by
  have := h.lt l hl x hx
  have := h.n60
  omega
def spDevEq (a : Ads) (K : PySem.W.Frag) : Sp := fun vs H Q _ => ∃ (x : Addr) (ls : List (List Nat)) (n : Nat), vs = [.ref x, .ref x] ∧ DevAt a K H x ls n ∧ TabsOk ls n ∧ ∀ H', Same H H' → Q (.bl true) H'
theorem sc_dev_eq : FnScope ["self", "other"] ["self", "other"] (defScope (inClass (top 19) 1)) := ⟨rfl, rfl, rfl, by decide +kernel, rfl, by decide +kernel, by decide +kernel⟩
theorem ok_dev_eq (T : Txt a K mg) : FnOk P w K mg base CX0 1 a.f_Device_eq a.d_Device_eq ["self", "other"] (spDevEq a K) := by
  refine T.F_Device_eq.ok sc_dev_eq (fun vs H Q E h => ?_) (fun cdv A outer s H vs Q E hr h => ?_)
  · obtain ⟨_, _, _, rfl, _⟩ := h
    rfl
  · obtain ⟨x, ls, n, rfl, ⟨dx, q, hx, hq⟩, ok, k⟩ := h
    refine ⟨_, pss_one (ps_ret (pe_and (pe_callB call_isi (by rfl) T.b_isinstance (by decide +kernel) (pa_cons (pv 1) (pa_cons (pe_glob (v := .ref a.c_Device) (by rfl) T.g_Device rfl) pa_nil)))
      (pe_one (pe_cmpR (op_eqD (by have := hr.un; exact Nat.lt_of_le_of_lt (Nat.add_le_add_left (by decide) _) this)) (pe_fld (pv 0) (by rfl)) (pe_fld (pv 1) (by rfl)) (nomark _))))), ?_⟩
    refine ⟨_, rfl, .ref x, .ref a.c_Device, .ref a.c_Device, .ref a.c_Device, true, rfl, .own _, .base (.ins hx T.cl_Device T.dv1 T.dv2 T.dv3 T.dv4), by unfold PySem.W.kitOne; simp, true, rfl, so_if rfl ?_⟩
    have hd := dp_TT hq
    have ht := tiny_dT ok.tiny
    have hs := shaped_tiny ht (Nat.le_trans (depth_dT ls) (by decide))
    refine ⟨_, rfl, x, _, dx, _, _, rfl, hx, T.cl_Device, T.n_Device_tables, rfl, _, rfl, x, _, dx, _, _, rfl, hx, T.cl_Device, T.n_Device_tables, rfl, _, _, hd, hd, hs, hs, ?_⟩
    rw [eqv_tiny ht]
    exact k _ (Same.refl _)
/-! ### rows -/
theorem rowS_len (ls : List Nat) : (rowS ls).length = ls.length := by
  show ((ls.map (· + 97)).toArray).size = _
  simp
theorem rowS_at {ls : List Nat} {i c : Nat} (h : (rowS ls).cps[i]? = some c) : ∃ l, ls[i]? = some l ∧ c = l + 97 := by
  unfold rowS at h
  simp only [List.getElem?_toArray, List.getElem?_map] at h
  cases e : ls[i]? with
  | none => rw [e] at h; cases h
  | some l => rw [e] at h; exact ⟨l, rfl, (Option.some.inj h).symm⟩
theorem sig_mem {l k : Nat} : decide (l + 97 ∈ (rowS (List.range k)).cps.toList) = decide (l < k) := by
  unfold rowS
  rw [Bool.eq_iff_iff]
  simp
def spCheckRow (a : Ads) (K : PySem.W.Frag) : Sp := fun vs H Q E => ∃ (x : Addr) (tabs : List (List Nat)) (n : Nat) (ls : List Nat), vs = [.ref x, .str (rowS ls)] ∧ DevAt a K H x tabs n ∧ TabsOk tabs n ∧ ls.length ≤ 1000 ∧
  (((∀ l ∈ ls, l < tabs.length) ∧ ∀ H', Same H H' → Q (.str (rowS ls)) H') ∨ (ls = [5] ∧ ∀ H' d, Same H H' → H' d = some (.xd [("at", .int 0)]) → E (.ref a.x_BadRow) (some d) H'))
theorem sc_check_row : FnScope ["device", "row", "at", "signal"] ["device", "row"] (defScope (top 22)) := ⟨rfl, rfl, rfl, by decide +kernel, rfl, by decide +kernel, by decide +kernel⟩
theorem ok_check_row (T : Txt a K mg) : FnOk P0 w K mg base (L2.CX P0 w) 2 a.f_check_row a.d_check_row ["device", "row"] (spCheckRow a K) := by
  refine T.F_check_row.okX sc_check_row (fun vs H Q E h => ?_) (fun cdv A outer s H vs Q E hr h => ?_)
  · obtain ⟨_, _, _, _, rfl, _⟩ := h
    rfl
  · obtain ⟨x, tabs, n, ls, rfl, hx, ok, hl, k⟩ := h
    obtain ⟨t, ht⟩ := T.k_MOST_SIGNS
    refine ⟨_, pss_cons (ps_if (pt_not (pt_val (pe_call (ok_is_text T) (hr.mono (by decide)) (by rfl) T.g_is_text T.F_is_text.kp T.B_is_text .nil pass0 (pa_cons (pv 1) pa_nil)))) pss_never pss_nil)
      (pss_cons (ps_for (passes_of rfl) rfl (pi_enS (by rfl) T.b_enumerate (pa_cons (pv 1) pa_nil)) (pg_tup rfl (pgs_cons (pg_name (i := 2) sc_check_row.nd rfl (Or.inl rfl)) (pgs_cons (pg_name (i := 3) sc_check_row.nd rfl (Or.inl rfl)) pgs_nil)))
        (pss_one (ps_if (pt_cmpR op_notIn_sign (pv 3) (pe_fld (pv 0) (by rfl)) (by rfl))
          (pss_one (ps_raise rfl (takes_of rfl rfl rfl rfl) (pmk_at T.S_BadRow hr (pa_cons (pv 2) pa_nil)))) pss_nil)))
      (pss_cons (ps_if (pt_cmpR op_gt (pe_callB call_len_str (by rfl) T.b_len PySem.boot_len (pa_cons (pv 1) pa_nil)) (pe_glob (v := .int 10000) (by rfl) ht ⟨t, rfl⟩) (nomark _)) pss_never pss_nil)
      (pss_one (ps_ret (pv 1))))), ?_⟩
    refine ⟨_, rfl, .str (rowS ls), rfl, rfl, true, rfl, no_if rfl ?_⟩
    refine ⟨_, rfl, rowS ls, rfl, for_es (z := rowS ls) (fun i σ H' => Same H H' ∧ ((ls = [5] → i = 0) ∧ ∃ v2 v3, σ = [some (.ref x), some (.str (rowS ls)), v2, v3])) ⟨Same.refl _, fun _ => rfl, _, _, rfl⟩ ?_ ?_⟩
    · rintro i c σ H' U hc ⟨sm, h5, v2, v3, rfl⟩ hU
      obtain ⟨l, hli, rfl⟩ := rowS_at hc
      have sU := sm.trans (same_new (o := .tup [.int (i : Nat), .str ⟨#[l + 97]⟩]) hU)
      obtain ⟨dx, q, hx2, _⟩ := hx.mono sU
      refine ⟨U, _, rfl, sqT upd_same, rfl, _, _, rfl, _, _, rfl, rfl, ?_⟩
      refine ⟨_, rfl, _, rfl, x, _, dx, _, _, rfl, hx2, T.cl_Device, T.n_Device_signals, rfl, l + 97, _, rfl, rfl, _, rfl, ?_⟩
      rw [sig_mem]
      rcases k with ⟨hk, k⟩ | ⟨rfl, k⟩
      · refine no_if (by rw [decide_eq_true (hk l (List.mem_of_getElem? hli))]; rfl) ⟨sU, fun e => ?_, _, _, rfl⟩
        subst e
        exact absurd (hk 5 (by simp)) (by have := ok.k5; omega)
      · obtain rfl : i = 0 := h5 rfl
        cases hli
        refine so_if (by rw [decide_eq_false (by have := ok.k5; omega)]; rfl) ⟨_, rfl, _, rfl, fun d hd => k _ d (sU.trans (same_new hd)) upd_same⟩
    · rintro σ H' ⟨sm, h5, v2, v3, rfl⟩
      have e5 : ls ≠ [5] := fun e => by
        have := h5 e
        subst e
        exact absurd this (by decide)
      have hlen := rowS_len ls
      refine ⟨_, rfl, rowS ls, rfl, by rw [hlen, sizeLine_eq]; omega, _, _, rfl, rfl, _, rfl, no_if (decide_eq_false (by rw [hlen]; omega)) ?_⟩
      rcases k with ⟨hk, k⟩ | ⟨e, _⟩
      · exact ⟨_, rfl, k _ sm⟩
      · exact absurd e e5
/-! ### effects -/
/-- where a row leads -/
def stepOf (tabs : List (List Nat)) (ls : List Nat) (x : Nat) : Nat := ls.foldl (fun s l => (tabs.getD l []).getD s 0) x
theorem stepOf_snoc (tabs : List (List Nat)) (ls : List Nat) (l x : Nat) : stepOf tabs (ls ++ [l]) x = (tabs.getD l []).getD (stepOf tabs ls x) 0 := by unfold stepOf; rw [List.foldl_append]; rfl
theorem stepOf_lt {tabs : List (List Nat)} {n : Nat} (ok : TabsOk tabs n) : ∀ (ls : List Nat), (∀ l ∈ ls, l < tabs.length) → ∀ x, x < n → stepOf tabs ls x < n
  | [], _, x, hx => hx
  | l :: ls, h, x, hx => by
    have hl : l < tabs.length := h l List.mem_cons_self
    show stepOf tabs ls ((tabs.getD l []).getD x 0) < n
    refine stepOf_lt ok ls (fun m hm => h m (List.mem_cons_of_mem _ hm)) _ ?_
    have e : tabs.getD l [] = tabs[l] := by rw [List.getD_eq_getElem?_getD, List.getElem?_eq_getElem hl]; rfl
    have m : tabs[l] ∈ tabs := List.getElem_mem hl
    have xl : x < (tabs[l]).length := by rw [ok.len _ m]; exact hx
    rw [e, List.getD_eq_getElem?_getD, List.getElem?_eq_getElem xl]
    exact ok.lt _ m _ (List.getElem_mem xl)
def spEffect (a : Ads) (K : PySem.W.Frag) : Sp := fun vs H Q E => ∃ (x : Addr) (tabs : List (List Nat)) (n : Nat) (ls : List Nat), vs = [.ref x, .str (rowS ls)] ∧ DevAt a K H x tabs n ∧ TabsOk tabs n ∧ ls.length ≤ 1000 ∧
  (((∀ l ∈ ls, l < tabs.length) ∧ ∀ H' r, Same H H' → H r = none → H' r = some (.tup (tN (Rg.pw (stepOf tabs ls) n 1))) → Q (.ref r) H') ∨ (ls = [5] ∧ ∀ H' d, Same H H' → H' d = some (.xd [("at", .int 0)]) → E (.ref a.x_BadRow) (some d) H'))
theorem sc_effect : FnScope ["self", "row", "found", "signal", "table", "state"] ["self", "row"] (defScope (inClass (top 19) 4)) := ⟨rfl, rfl, rfl, by decide +kernel, rfl, by decide +kernel, by decide +kernel⟩
theorem index_sign {l : Nat} (h : l < 5) : Builtin.Str.occurrences "abcde" ⟨#[l + 97]⟩ 0 (PySem.Str.length "abcde") 1 = [l] := by
  have : ∀ l : Nat, l < 5 → Builtin.Str.occurrences "abcde" ⟨#[l + 97]⟩ 0 (PySem.Str.length "abcde") 1 = [l] := by decide +kernel
  exact this l h
theorem ok_effect (T : Txt a K mg) : FnOk P0 w K mg base (L2.CX P0 w) 3 a.f_Device_effect a.d_Device_effect ["self", "row"] (spEffect a K) := by
  refine T.F_Device_effect.okX sc_effect (fun vs H Q E h => ?_) (fun cdv A outer s H vs Q E hr h => ?_)
  · obtain ⟨_, _, _, _, rfl, _⟩ := h
    rfl
  · obtain ⟨x, tabs, n, ls, rfl, hx, ok, hl, k⟩ := h
    obtain ⟨t, ht⟩ := T.k_SIGNALS
    refine ⟨_, pss_cons (ps_set (i := 2) sc_effect.nd rfl (.inl rfl) (pe_tupRg rfl (by rfl) T.b_tuple (prg_1 (by rfl) T.b_range (pe_fld (pv 0) (by rfl)))))
      (pss_cons (ps_for (passes_of rfl) rfl (pi_str (pe_call (E := E) (ok_check_row T) hr (by rfl) T.g_check_row T.F_check_row.kp T.B_check_row .nil (passes_call (takes_of rfl rfl rfl rfl) fun _ _ _ _ h => h) (pa_cons (pv 0) (pa_cons (pv 1) pa_nil)))) (pg_name (i := 3) sc_effect.nd rfl (Or.inl rfl))
        (pss_cons (ps_set (i := 4) sc_effect.nd rfl (.inr rfl) (pe_ix (r := rIxT K) (by exact ix_tup) (pe_fld (pv 0) (by rfl)) (pe_m1 F.slot_str_index F.type_str_index mt_sindex (pe_glob (v := .str "abcde") (by rfl) ht ⟨t, rfl⟩) (pv 3)) (fun _ _ => rfl)))
        (pss_one (ps_set (i := 2) sc_effect.nd rfl (.inl rfl) (pe_callTy call_tuple_of (by rfl) T.b_tuple PyProof.Rows.boot_tuple (pa_cons
          (pe_lc (own := [("state", 5)]) (g := gName 5) (tt := tYes) (by rfl) sc_effect.nd (pi_tup (pv 2)) (blkOk_by (N := ["self", "row", "found", "signal", "table", "state"]) (sc := defScope (inClass (top 19) 4)) (by decide +kernel))
            (fun _ _ _ _ _ => pg_name (i := 5) sc_effect.nd rfl (Or.inl rfl)) (fun _ _ _ _ _ => pts_nil) (fun _ _ _ _ _ => pe_ix (r := rIxT K) (by exact ix_tup) (pv 4) (pv 5) (fun _ _ => rfl))) pa_nil))))))
      (pss_one (ps_ret (pv 2)))), ?_⟩
    obtain ⟨dx, q, hxx, ps, hq, hps⟩ := id hx
    have n0 := ok.n0
    have n60 := ok.n60
    refine ⟨_, rfl, x, _, dx, _, _, rfl, hxx, T.cl_Device, T.n_Device_states, rfl, (n : Int), rfl, rg_ok (by omega), fun q0 hq0 => ?_⟩
    rw [rgV_tN]
    have sm0 := same_new (o := .tup (tN (List.range n))) hq0
    refine ⟨_, rfl, _, rfl, x, tabs, n, ls, rfl, hx.mono sm0, ok, hl, ?_⟩
    rcases k with ⟨hk, k⟩ | ⟨e, k⟩
    rotate_left
    · exact .inr ⟨e, fun H' d s' h => k H' d (sm0.trans s') h⟩
    refine .inl ⟨hk, fun H1 s1 => ⟨rowS ls, rfl, for_it walk_str (fun i σ H' => Same H H' ∧ ∃ fd v3 v4 v5, σ = [some (.ref x), some (.str (rowS ls)), some (.ref fd), v3, v4, v5] ∧ H fd = none ∧ H' fd = some (.tup (tN ((List.range n).map (stepOf tabs (ls.take i))))))
      ⟨sm0.trans s1, q0, _, _, _, rfl, hq0, ?_⟩ (fun _ _ _ _ _ => trivial) ?_ ?_⟩⟩
    · rw [s1 _ _ upd_same]
      show some (HO.tup (tN (List.range n))) = some (HO.tup (tN ((List.range n).map id)))
      rw [List.map_id]
    · rintro i y σ H' H2 hi ⟨sm, fd, v3, v4, v5, rfl, nf, hf⟩ ⟨rfl, c, hc, rfl⟩
      obtain ⟨l, hli, rfl⟩ := rowS_at hc
      have lk : l < tabs.length := hk l (List.mem_of_getElem? hli)
      obtain ⟨p, hp, hpt⟩ := hps.at_ (List.getElem?_eq_getElem lk)
      have gl : tabs[l] ∈ tabs := List.getElem_mem lk
      have gD : tabs.getD l [] = tabs[l] := by rw [List.getD_eq_getElem?_getD, List.getElem?_eq_getElem lk]; rfl
      refine ⟨_, rfl, x, _, dx, _, _, rfl, sm _ _ hxx, T.cl_Device, T.n_Device_tables, rfl, ⟨_, rfl⟩, _, rfl, _, _, l, [], rfl, rfl, index_sign (by have := ok.k5; omega), q, _, _, _, rfl, rfl, sm.tup hq, atI_nat (refs_get hp), ?_⟩
      refine ⟨_, rfl, fd, rfl, ⟨_, sqT hf⟩, fun D hD => lc_tup (K := K) (a := fd) (xs := tN ((List.range n).map (stepOf tabs (ls.take i)))) (fun j H3 => Same H2 H3 ∧ H3 D = some (.lst (tN ((List.range j).map (stepOf tabs (ls.take (i + 1))))))) ⟨same_new hD, upd_same⟩ (fun j H3 _ z => z.1.tup (sqT hf)) ?_ ?_⟩
      · rintro j y H3 hy ⟨s3, hd⟩
        obtain ⟨z, hz, rfl⟩ := tN_of hy
        have jn : j < n := by
          have := (List.getElem?_eq_some_iff.mp hz).1
          simpa using this
        have ez : z = stepOf tabs (ls.take i) j := by
          rw [List.getElem?_map, List.getElem?_range jn] at hz
          exact (Option.some.inj hz).symm
        have zn : z < n := by
          rw [ez]
          exact stepOf_lt ok _ (fun m hm => hk m (List.mem_of_mem_take hm)) _ jn
        have zl : z < (tabs[l]).length := by rw [ok.len _ gl]; exact zn
        refine ⟨rfl, yes_ok ⟨_, rfl, _, rfl, p, _, _, _, rfl, rfl, s3.tup (sm.tup hpt), atI_nat (tN_get (List.getElem?_eq_getElem zl)), _, hd, ?_, s3.upd_new hD, ?_⟩⟩
        · rw [tN_len, List.length_map, List.length_range]; exact small1000 (by omega)
        · rw [upd_same, List.range_succ, List.map_append, ← tN_snoc]
          show some (HO.lst (tN (_ ++ [_]))) = some (HO.lst (tN (_ ++ [stepOf tabs (ls.take (i + 1)) j])))
          rw [take_snoc hli, stepOf_snoc, gD, ← ez, List.getD_eq_getElem?_getD, List.getElem?_eq_getElem zl]
          rfl
      · rintro H3 ⟨s3, hd⟩
        rw [tN_len, List.length_map, List.length_range] at hd
        refine ⟨D, _, rfl, .inl ⟨sqL hd, fun r hr' => ⟨(sm.trans s3).trans (same_new hr'), r, _, _, _, rfl, (sm.trans s3).free hr', upd_same⟩⟩⟩
    · rintro σ H' ⟨sm, fd, v3, v4, v5, rfl, nf, hf⟩
      have e : (rowS ls).cps.size = ls.length := rowS_len ls
      rw [e, List.take_length] at hf
      exact ⟨_, rfl, k _ fd sm nf hf⟩
end
end K3
end

section
set_option Elab.async false
set_option linter.all false
set_option maxRecDepth 100000
set_option maxHeartbeats 4000000
/-! sorted: of a list of tuples of numbers of any lengths; of d.items(), numbers to numbers. -/
namespace R3
open PySem PySem.Spec PyProof.Rows L2 K3
section
variable {X : Cx} {pins : List (Addr × Obj)} {σ : L2.St} {H : Hp} {s : Shared}
/-- the values stand for the rows: each a tracked tuple -/
def IsRow (K : PySem.W.Frag) (H : Hp) (v : Value) (l : List Nat) : Prop := ∃ p : Addr, v = .ref p ∧ SqT K H p (tN l)
theorem rows_in {K : PySem.W.Frag} {H : Hp} : ∀ {ps : List Addr} {ls : List (List Nat)}, Each K H ps ls → PySem.W.EachIs (IsRow K H) (ps.map Value.ref) ls
  | [], [], _ => .nil
  | [], _ :: _, h => by cases h.1
  | _ :: _, [], h => by cases h.1
  | p :: ps, l :: ls, h => .cons ⟨p, rfl, h.2 0 p l rfl rfl⟩ (rows_in ⟨Nat.succ.inj h.1, fun i q m h1 h2 => h.2 (i + 1) q m h1 h2⟩)
theorem rows_out {K : PySem.W.Frag} {H : Hp} : ∀ {vs : List Value} {ls : List (List Nat)}, PySem.W.EachIs (IsRow K H) vs ls → ∃ ps : List Addr, vs = ps.map Value.ref ∧ Each K H ps ls
  | _, _, .nil => ⟨[], rfl, EachG.nil⟩
  | _, _, .cons ⟨p, e, h⟩ t => by
    obtain ⟨ps, e2, h2⟩ := rows_out t
    refine ⟨p :: ps, by rw [e, e2]; rfl, by rw [List.length_cons, List.length_cons, h2.1], fun i q m h3 h4 => ?_⟩
    cases i with
    | zero => cases h3; cases h4; exact h
    | succ i => exact h2.2 i q m h3 h4
theorem vals_ref : ∀ ps : List Addr, Vals (refs ps) (ps.map Value.ref)
  | [] => .nil
  | _ :: ps => .cons rfl (vals_ref ps)
theorem vals_ref_eq : ∀ {ps : List Addr} {us : List Value}, Vals (refs ps) us → us = ps.map Value.ref
  | [], _, .nil => rfl
  | _ :: _, _, .cons r t => by rw [show _ = Value.ref _ from r, vals_ref_eq t]; rfl
/-- sorted(xs), xs a list of tuples of numbers, none empty -/
def rSortRows (K : PySem.W.Frag) : List V → Hp → VK → Prop := fun vs H Q => ∃ (a : Addr) (ps : List Addr) (ls : List (List Nat)), vs = [V.ref a] ∧ SqL K H a (refs ps) ∧ Each K H ps ls ∧ (∀ l ∈ ls, l ≠ []) ∧
  ∀ (p : Addr) (qs : List Addr), Each K H qs (ls.mergeSort (PySem.W.dataLe false dI)) → H p = none → Q (.ref p) (upd H p (.lst (refs qs)))
theorem alike_dI (l m : List Nat) : PySem.W.alike (dI l) (dI m) = true := by
  have e : ∀ l : List Nat, (l.map fun (x : Nat) => PyData.int x) = (l.map fun (x : Nat) => (x : Int)).map PyData.int := fun l => by rw [List.map_map]; rfl
  unfold dI PySem.W.alike
  rw [e l, e m]
  exact PySem.W.alike_ints _ _
theorem cr_sortRows (hu : X.A.units + 64 < cLine) : CallR X (.builtin "sorted") (rSortRows X.K) := by
  intro pins s σ H vs us Q I r h
  obtain ⟨a, ps, ls, rfl, hs, hps, hne, q⟩ := h
  obtain ⟨its, rv, hl, hz⟩ := I.list hs
  rw [Vals.ref1 r]
  have ei := vals_ref_eq rv
  subst ei
  have er := rows_in hps
  have er' : PySem.W.EachIs (fun v l => ∃ as, Reads s.heap v (dI l) as) (ps.map Value.ref) ls := er.mono fun v l ⟨p, e, hp⟩ => by
    rw [e]
    exact Dp.reads I _ _ _ (dp_tN hp) rfl
  have hk : PySem.W.Sortable (ls.map dI) := .inl fun d hd => by
    obtain ⟨l, hl, rfl⟩ := List.mem_map.mp hd
    obtain ⟨x, m, e⟩ := List.exists_cons_of_ne_nil (hne l hl)
    rw [e]
    exact ⟨_, _, rfl⟩
  have hz' : ls.length ≤ sizeLine := by rw [← hps.1, ← refs_len]; exact hz
  refine PySem.W.sorted_data (R := IsRow X.K H) (enc := dI) (bs := ls) hl.isList er er' (PySem.W.AllAlike.of alike_dI) hk hz' (fun l _ => by have := depth_dI l; omega) fun out ho eo => ?_
  obtain ⟨qs, e, hq⟩ := rows_out eo
  obtain ⟨c, hc⟩ := sortedAll_at s.heap (ps.map Value.ref) (List.toArray out)
  refine ⟨.ref _, upd H (s.heap.objs.size + 1) (.lst (refs qs)), I.laid (t' := s.toks) (fun _ _ => sortedAll_old) (Nat.le_succ _) ⟨?_, out, c, by rw [e]; exact vals_ref qs, hc⟩, rfl, q _ qs hq (I.hok.fresh (Nat.le_succ _))⟩
  rw [refs_len, hq.1, List.length_mergeSort]
  exact hz'
/-! ### sorted(d.items()) -/
/-- d.items() -/
def rItemsK : V → List V → Hp → VK → Prop := fun x xs H Q => ∃ (a : Addr) (kvs : List (L2.Key × V)), x = .ref a ∧ xs = [] ∧ H a = some (.dK kvs) ∧ ∀ p, H p = none → Q (.ref p) (upd H p (L2.DX.itemsO p a))
theorem mt_itemsK : MtR X "dict.items" rItemsK := by
  intro pins s σ H x xs v us Q I rx rxs h
  obtain ⟨a, kvs, rfl, rfl, ha, q⟩ := h
  cases rx
  cases rxs
  obtain ⟨z, hd, vs, rel, dd⟩ := dk_of I.hok ha
  obtain ⟨ep, o, es, ho, hx, hdat, _⟩ := dd.dictAt
  refine DT.callItems (es := es) (ep := ep) hd ⟨o, ho, hx, hdat⟩ ?_
  exact ⟨.ref s.heap.objs.size, upd H s.heap.objs.size (L2.DX.itemsO s.heap.objs.size a), I.laid (t' := s.toks) (fun b u e => Heap.get?_push_of_some _ e) (Nat.le_refl _) (L2.DX.itemsO_ok (Heap.get?_push_size _ rfl)), rfl, q _ (I.hok.fresh (Nat.le_refl _))⟩
/-- what a dict of numbers to numbers holds -/
def entN (e : Nat × Nat) : L2.Key × V := (.inl (e.1 : Int), .int (e.2 : Nat))
def row2 (e : Nat × Nat) : List Nat := [e.1, e.2]
/-- the tuple object of two numbers -/
def IsPair (h : Heap) (q : Addr) (l : List Nat) : Prop := ∃ (x y : Nat) (t u : Tok), l = [x, y] ∧ h.get? q = some { cls := .type "tuple", data := .seq #[.int x t, .int y u] }
theorem IsPair.reads {h : Heap} {q : Addr} {l : List Nat} (x : IsPair h q l) : ∃ as, Reads h (.ref q) (dI l) as ∧ ∀ a, a ∉ as := by
  obtain ⟨x, y, t, u, rfl, e⟩ := x
  exact ⟨_, .tuple e rfl rfl (.cons (.int _ _) (.cons (.int _ _) .nil)), fun a z => by simp at z⟩
def rSortPairs (K : PySem.W.Frag) : List V → Hp → VK → Prop := fun vs H Q => ∃ (p a : Addr) (ks : List (Nat × Nat)), vs = [V.ref p] ∧ H p = some (L2.DX.itemsO p a) ∧ H a = some (.dK (ks.map entN)) ∧ ks.length ≤ 1000 ∧
  ∀ (H' : Hp) (l : Addr) (qs : List Addr), Same H H' → H l = none → H' l = some (.lst (refs qs)) → Each K H' qs ((ks.map row2).mergeSort (PySem.W.dataLe false dI)) → Q (.ref l) H'
theorem pairs_at {P : Program} {w : World} : ∀ {es : List DictEntry} {vs : List (L2.Key × Value)} {ks : List (Nat × Nat)}, PySem.Pairs (mixKind P w) es vs → KV (ks.map entN) vs → es.length = ks.length ∧
    ∀ (j : Nat) (e : DictEntry), es[j]? = some e → ∃ (k : Nat × Nat) (t u : Tok), ks[j]? = some k ∧ e.key = .int k.1 t ∧ e.val = .int k.2 u
  | [], [], [], _, _ => ⟨rfl, fun j e h => by cases h⟩
  | _ :: _, _ :: _, k :: ks, .cons h1 h2 hp, .cons h3 hk => by
    obtain ⟨l, ih⟩ := pairs_at hp hk
    refine ⟨congrArg Nat.succ l, fun j e he => ?_⟩
    cases j with
    | succ j => exact ih j e he
    | zero =>
      cases he
      obtain ⟨e1, e2⟩ := h3
      rw [← e1] at h1
      obtain ⟨t, ht⟩ := relV_key (show keyIs (.inl (k.1 : Int)) _ = true from h1)
      obtain ⟨u, hu⟩ := e2
      exact ⟨k, t, u, rfl, ht, h2.trans hu⟩
theorem stand_for {h : Heap} {bs : List Addr} : ∀ {as : List Addr} {ks : List (Nat × Nat)}, as.length = ks.length → (∀ (j : Nat) (b : Addr), as[j]? = some b → ∃ k, ks[j]? = some k ∧ IsPair h b (row2 k)) → (hs : ∀ a ∈ as, a ∈ bs := by intro a z; exact z) →
    PySem.W.EachIs (fun (v : Value) (l : List Nat) => ∃ b, v = .ref b ∧ b ∈ bs ∧ IsPair h b l) (as.map Value.ref) (ks.map row2)
  | [], [], _, _, _ => .nil
  | [], _ :: _, h, _, _ => by cases h
  | _ :: _, [], h, _, _ => by cases h
  | a :: as, k :: ks, hl, h, hs => by
    obtain ⟨k', e, hk⟩ := h 0 a rfl
    cases e
    exact .cons ⟨a, rfl, hs a List.mem_cons_self, hk⟩ (stand_for (Nat.succ.inj hl) (fun j b hj => h (j + 1) b hj) fun b hb => hs b (List.mem_cons_of_mem _ hb))
theorem stood {h : Heap} {bs : List Addr} : ∀ {vs : List Value} {ls : List (List Nat)}, PySem.W.EachIs (fun (v : Value) (l : List Nat) => ∃ b, v = .ref b ∧ b ∈ bs ∧ IsPair h b l) vs ls →
    ∃ qs : List Addr, vs = qs.map Value.ref ∧ EachG (fun b l => b ∈ bs ∧ IsPair h b l) qs ls
  | _, _, .nil => ⟨[], rfl, EachG.nil⟩
  | _, _, .cons ⟨b, e, hb⟩ t => by
    obtain ⟨qs, e2, h2⟩ := stood t
    refine ⟨b :: qs, by rw [e, e2]; rfl, by rw [List.length_cons, List.length_cons, h2.1], fun i q m h3 h4 => ?_⟩
    cases i with
    | zero => cases h3; cases h4; exact hb
    | succ i => exact h2.2 i q m h3 h4
theorem cr_sortPairs (hc : X.calm = true) (hu : X.A.units + 64 < cLine) : CallR X (.builtin "sorted") (rSortPairs X.K) := by
  intro pins s σ H xs us Q I r h
  obtain ⟨p, a, ks, rfl, hp, ha, hl, q⟩ := h
  rw [Vals.ref1 r]
  have view : s.heap.IsItemsView p a := (show ObjOk X.prog X.w H s.heap p (L2.DX.itemsO p a) from I.hok p _ hp).1
  obtain ⟨_, hd, vs, kv, dd⟩ := dk_of I.hok ha
  obtain ⟨ep, o, es, ho, hx, hdat, _, hpr, _⟩ := dd.dictAt
  obtain ⟨le, hat⟩ := pairs_at hpr kv
  have ls : es.size = ks.length := by rw [← le]; simp
  refine DT.sortedI (es := es) (ep := ep) (I.ok.hd hc) view ⟨o, ho, hx, hdat⟩ (by rw [ls, sizeLine_eq]; omega) fun h' tk as hk hlt hal hG => ?_
  have ip : ∀ (j : Nat) (b : Addr), as[j]? = some b → ∃ k, ks[j]? = some k ∧ IsPair h' b (row2 k) := fun j b hj => by
    obtain ⟨e, he, hg⟩ := hG.pairs j b hj
    obtain ⟨k, t, u, hk, e1, e2⟩ := hat j e (by simpa using he)
    exact ⟨k, hk, k.1, k.2, t, u, rfl, by rw [hg, e1, e2]⟩
  -- the list of the pairs stands; it is sorted
  have hob : (h'.push { cls := .type "list", data := .seq (as.map Value.ref).toArray }).get? h'.objs.size = some (seqObj "list" (as.map Value.ref).toArray 0) := Heap.get?_push_size _ rfl
  have up : ∀ b u, h'.get? b = some u → (h'.push { cls := .type "list", data := .seq (as.map Value.ref).toArray }).get? b = some u := fun b u e => Heap.get?_push_of_some _ e
  generalize h'.push { cls := .type "list", data := .seq (as.map Value.ref).toArray } = h2 at hob up ⊢
  have lak : as.length = ks.length := hal.trans ls
  have std : PySem.W.EachIs (fun (v : Value) (l : List Nat) => ∃ b, v = .ref b ∧ b ∈ as ∧ IsPair h' b l) (as.map Value.ref) (ks.map row2) := stand_for lak ip
  have lk : (ks.map row2).length ≤ sizeLine := by rw [List.length_map, sizeLine_eq]; omega
  have std' : PySem.W.EachIs (fun (v : Value) (l : List Nat) => ∃ as', Reads h2 v (dI l) as' ∧ h'.objs.size ∉ as') (as.map Value.ref) (ks.map row2) := std.mono fun v l ⟨b, e, _, hb⟩ => by
    rw [e]
    obtain ⟨x, y, t, u, rfl, g⟩ := hb
    obtain ⟨as', r, no⟩ := IsPair.reads (h := h2) ⟨x, y, t, u, rfl, up _ _ g⟩
    exact ⟨as', r, no _⟩
  have able : PySem.W.Sortable ((ks.map row2).map dI) := .inl fun d hd => by
    obtain ⟨l, hl, rfl⟩ := List.mem_map.mp hd
    obtain ⟨k, _, rfl⟩ := List.mem_map.mp hl
    exact ⟨_, _, rfl⟩
  have deep : ∀ l, l ∈ ks.map row2 → X.A.in1.units + 1 + (dI l).depth < cLine := fun l _ => by
    have := depth_dI l
    show X.A.units + 1 + 1 + _ < cLine
    omega
  refine PySem.W.list_sort_data (s := { s with heap := h2, toks := tk }) (A := X.A.in1) (enc := dI) hob std std' (PySem.W.AllAlike.of alike_dI) able lk deep fun out ho eo => ?_
  · show EP X pins σ Q (.ref h'.objs.size) { s with heap := sortedHeap h2 h'.objs.size (as.map Value.ref) (List.toArray out), toks := tk }
    obtain ⟨qs, e, hq⟩ := stood eo
    obtain ⟨c, hF⟩ := sortedHeap_at (vs := as.map Value.ref) (out := List.toArray out) hob
    have old : ∀ b u, h'.get? b = some u → (sortedHeap h2 h'.objs.size (as.map Value.ref) (List.toArray out)).get? b = some u := fun b u z =>
      (sortedHeap_old (Nat.ne_of_lt (Heap.lt_size z)) (Heap.lt_size (up b u z))).trans (up b u z)
    generalize sortedHeap h2 h'.objs.size (as.map Value.ref) (List.toArray out) = h3 at hF old ⊢
    have I1 : L2.Inv X pins σ H { s with heap := h3, toks := tk } := I.kept (t' := tk) fun b u z => old b u (hk b u z)
    have n0 : H h'.objs.size = none := I.hok.fresh (Nat.le_of_lt hlt)
    have lq : qs.length = ks.length := by rw [hq.1, List.length_mergeSort, List.length_map]
    have I2 : L2.Inv X pins σ (upd H h'.objs.size (.lst (refs qs))) { s with heap := h3, toks := tk } :=
      I1.take (h' := h3) (t' := tk) (fun b ob _ z => z) (I.fpOk (Nat.le_of_lt hlt) n0) ⟨by rw [refs_len, lq, sizeLine_eq]; omega, out, c, by rw [e]; exact vals_ref qs, hF⟩
    have nd : as.Nodup := List.Pairwise.imp (fun z => Nat.ne_of_lt z) hG.rise
    obtain ⟨H2, I3, g, made⟩ := L2.DX.takeT (P := fun b xs => ∃ x y : Nat, xs = tN [x, y] ∧ IsPair h' b [x, y]) I as _ I2 nd fun b hb => by
      obtain ⟨j, hj⟩ := List.mem_iff_getElem?.mp hb
      obtain ⟨k, _, pk⟩ := ip j b hj
      have pk' := pk
      obtain ⟨x, y, t, u, ex, gb⟩ := pk
      have hbl : s.heap.objs.size ≤ b := Nat.le_of_lt (hG.above b hb)
      refine ⟨hbl, ?_, tN [x, y], ⟨x, y, rfl, ex ▸ pk'⟩, fun H3 => ⟨by show 2 ≤ sizeLine; decide, [.int x t, .int y u], .cons ⟨t, rfl⟩ (.cons ⟨u, rfl⟩ .nil), ⟨_, old _ _ gb, rfl, 0, rfl⟩⟩⟩
      rw [upd_ne (Nat.ne_of_lt (Heap.lt_size gb))]
      exact I.hok.fresh hbl
    refine ⟨.ref h'.objs.size, H2, I3, rfl, q H2 _ qs (fun b u z => g b u (by rw [upd_ne (ne_of_none z n0)]; exact z)) n0 (g _ _ upd_same) (hq.mono fun b l z => ?_)⟩
    obtain ⟨hb, x, y, t, u, rfl, gb⟩ := z
    obtain ⟨xs, ⟨x', y', rfl, x2, y2, t2, u2, e2, gb2⟩, hH⟩ := made b hb
    cases e2
    rw [gb] at gb2
    have e3 := Option.some.inj gb2
    injection e3 with _ _ e4 _
    injection e4 with e5 _
    have e6 : [Value.int x t, .int y u] = [.int x' t2, .int y' u2] := congrArg Array.toList e5
    injection e6 with e7 e8
    injection e8 with e9 _
    injection e7 with e7 _
    injection e9 with e9 _
    rw [Int.natCast_inj.mp e7, Int.natCast_inj.mp e9]
    exact sqT hH
end
end R3
end

section
set_option Elab.async false
set_option linter.all false
set_option maxRecDepth 100000
set_option maxHeartbeats 4000000
/-! The order of rows of numbers; the rings and the ring numbers as sorted lists. -/
namespace K3
open PySem R3
def iz (l : List Nat) : List Int := l.map fun (x : Nat) => (x : Int)
theorem dI_iz (l : List Nat) : dI l = .tuple ((iz l).map PyData.int) := by unfold dI iz; rw [List.map_map]; rfl
theorem le_rows : PySem.W.dataLe false dI = fun p q => decide (iz p ≤ iz q) := by
  funext p q
  show (!PySem.W.dataLt (dI q) (dI p)) = _
  rw [dI_iz, dI_iz, PySem.W.dataLt_tuple]
  show (!PySem.W.rowLt ((iz q).map .int) ((iz p).map .int)) = _
  rw [PySem.W.dataLt_ints]
  by_cases h : iz q < iz p
  · rw [decide_eq_true h, decide_eq_false fun r => List.not_lt.mpr r h]; rfl
  · rw [decide_eq_false h, decide_eq_true (List.not_lt.mp h)]; rfl
theorem iz_inj {p q : List Nat} (h : iz p = iz q) : p = q := by
  unfold iz at h
  exact (List.map_inj_right fun x y e => Int.natCast_inj.mp e).mp h
theorem sorted_as {ls ms : List (List Nat)} (hp : ls.Perm ms) (ha : ms.Pairwise fun p q => iz p ≤ iz q) : ls.mergeSort (PySem.W.dataLe false dI) = ms := by
  rw [le_rows]
  refine List.Perm.eq_of_pairwise (le := fun p q => iz p ≤ iz q) (fun p q _ _ h1 h2 => iz_inj (List.le_antisymm h1 h2)) ?_ ha ((List.mergeSort_perm _ _).trans hp)
  refine (List.pairwise_mergeSort (le := fun p q => decide (iz p ≤ iz q)) (fun a b c h1 h2 => decide_eq_true (List.le_trans (of_decide_eq_true h1) (of_decide_eq_true h2))) (fun a b => ?_) ls).imp fun h => of_decide_eq_true h
  rcases List.le_total (iz a) (iz b) with h | h
  · rw [decide_eq_true h]; rfl
  · rw [decide_eq_true h]; simp
theorem iz_head {x y : Nat} {p q : List Nat} (h : x < y) : iz (x :: p) ≤ iz (y :: q) := by
  refine List.not_lt.mp fun z => ?_
  have := List.cons_lt_cons_iff.mp (show (y : Int) :: iz q < (x : Int) :: iz p from z)
  omega
theorem orbit_cons {f : Nat → Nat} {n x : Nat} (h : Rg.on f n x = true) : ∃ r, Rg.orbit f n x = x :: r := by
  have h0 : 0 < Rg.per f n x := Nat.pos_of_ne_zero (Rg.on_iff.mp h)
  obtain ⟨k, e⟩ : ∃ k, Rg.per f n x = k + 1 := ⟨Rg.per f n x - 1, by omega⟩
  unfold Rg.orbit
  rw [e, List.range_succ_eq_map]
  exact ⟨_, rfl⟩
theorem rings_asc {f : Nat → Nat} {n : Nat} : (Rg.rings f n).Pairwise fun p q => iz p ≤ iz q := by
  unfold Rg.rings
  rw [List.pairwise_map]
  refine List.Pairwise.imp_of_mem ?_ ((List.pairwise_lt_range (n := n)).filter _)
  intro a b ha hb hab
  obtain ⟨r, e1⟩ := orbit_cons (Rg.isLeast_iff.mp (List.mem_filter.mp ha).2).1
  obtain ⟨s, e2⟩ := orbit_cons (Rg.isLeast_iff.mp (List.mem_filter.mp hb).2).1
  rw [e1, e2]
  exact iz_head hab
theorem sort_rings {f : Nat → Nat} {n : Nat} {ls : List (List Nat)} (hp : ls.Perm (Rg.rings f n)) : ls.mergeSort (PySem.W.dataLe false dI) = Rg.rings f n := sorted_as hp rings_asc
theorem sort_pairs {l : List Nat} {ks : List (Nat × Nat)} (hp : ks.Perm (Rg.rn l)) : (ks.map row2).mergeSort (PySem.W.dataLe false dI) = (Rg.rn l).map row2 := by
  refine sorted_as (hp.map row2) ?_
  rw [List.pairwise_map]
  exact (Rg.rn_asc l).imp fun h => iz_head h
end K3
end

section
set_option Elab.async false
set_option linter.all false
set_option maxRecDepth 100000
set_option maxHeartbeats 4000000
/-! The rings of an effect. -/
namespace K3
open PySem L2 R3
/-- met states as the program keeps them -/
def metK (ms : List Nat) : List (Key × V) := ms.map fun (y : Nat) => (Sum.inl (y : Int), V.bl true)
theorem metK_len (ms : List Nat) : (metK ms).length = ms.length := by unfold metK; simp
theorem metK_val (y : Nat) : ∀ ms : List Nat, (valV (metK ms) (Sum.inl (y : Int))).isSome = decide (y ∈ ms)
  | [] => rfl
  | m :: ms => by
    by_cases e : m = y
    · subst e
      rw [show metK (m :: ms) = (Sum.inl (m : Int), V.bl true) :: metK ms from rfl, valV_pos rfl, decide_eq_true List.mem_cons_self]; rfl
    · rw [show metK (m :: ms) = (Sum.inl (m : Int), V.bl true) :: metK ms from rfl, valV_neg (fun z => e (Int.natCast_inj.mp (Sum.inl.inj z))), metK_val y ms]
      refine decide_eq_decide.mpr ⟨fun h => List.mem_cons_of_mem _ h, fun h => ?_⟩
      rcases List.mem_cons.mp h with z | z
      · exact absurd z.symm e
      · exact z
theorem metK_put {y : Nat} {ms : List Nat} (h : y ∉ ms) : putK (metK ms) (Sum.inl (y : Int)) (V.bl true) = metK (ms ++ [y]) := by
  have n : valV (metK ms) (Sum.inl (y : Int)) = none := by
    have := metK_val y ms
    rw [decide_eq_false h] at this
    cases e : valV (metK ms) (Sum.inl (y : Int)) with
    | none => rfl
    | some v => rw [e] at this; cases this
  rw [putK_new _ n]
  unfold metK
  rw [List.map_append]; rfl
theorem cut_from (l : List Nat) (j : Nat) (h : j ≤ l.length) : cutV (tN l) (some (j : Int)) none = tN (l.drop j) := by
  unfold cutV
  rw [HT.sIx_nat, HT.sIx_none, tN_len, Nat.min_eq_left h]
  unfold tN
  rw [List.map_drop, List.take_of_length_le (by rw [List.length_drop, List.length_map]; exact Nat.le_refl _)]
theorem cut_to (l : List Nat) (j : Nat) (h : j ≤ l.length) : cutV (tN l) none (some (j : Int)) = tN (l.take j) := by
  unfold cutV
  rw [HT.sIx_nat, HT.sIx_none, tN_len, Nat.min_eq_left h]
  unfold tN
  rw [List.drop_zero, Nat.sub_zero, List.map_take]
theorem tN_app (l m : List Nat) : tN (l ++ m) = tN l ++ tN m := by unfold tN; rw [List.map_append]
theorem tN_int (l : List Nat) : tN l = (iz l).map V.int := by unfold tN iz; rw [List.map_map]; rfl
theorem tN_flat (l : List Nat) : (tN l).all flatV = true := List.all_eq_true.mpr fun x hx => by
  obtain ⟨y, _, rfl⟩ := List.mem_map.mp hx
  rfl
section
variable {P : Program} {w : World} {K : PySem.W.Frag} {mg : Str → Option Value} {base : Heap} {a : Ads}
def spRings (K : PySem.W.Frag) : Sp := fun vs H Q _ => ∃ (p : Addr) (f : Nat → Nat) (n : Nat), vs = [.ref p] ∧ SqT K H p (tN (Rg.pw f n 1)) ∧ n ≤ 60 ∧ (∀ x, x < n → f x < n) ∧
  ∀ H' r, Same H H' → H r = none → TT K H' r (Rg.rings f n) → Q (.ref r) H'
theorem sc_rings : FnScope ["effect", "found", "met", "here", "ring", "least"] ["effect"] (defScope (top 28)) := ⟨rfl, rfl, rfl, by decide +kernel, rfl, by decide +kernel, by decide +kernel⟩
theorem ok_rings (T : Txt a K mg) : FnOk P w K mg base CX0 3 a.f_effect_rings a.d_effect_rings ["effect"] (spRings K) := by
  refine T.F_effect_rings.ok sc_rings (fun vs H Q E h => ?_) (fun cdv A outer s H vs Q E hr h => ?_)
  · obtain ⟨_, _, _, rfl, _⟩ := h
    rfl
  · obtain ⟨p, f, n, rfl, hp, hn, hf, k⟩ := h
    have u64 : (A.deeper (PyProof.Rows.envOfC "effect_rings" (defScope (top 28)) s.heap.objs.size a.f_effect_rings cdv)).units + 64 < cLine := hr.units
    have u1 : (A.deeper (PyProof.Rows.envOfC "effect_rings" (defScope (top 28)) s.heap.objs.size a.f_effect_rings cdv)).units + 1 < cLine := by omega
    refine ⟨_, pss_cons (ps_set (i := 1) sc_rings.nd rfl (.inl rfl) (pe_lst pa_nil))
      (pss_cons (ps_set (i := 2) sc_rings.nd rfl (.inl rfl) pe_dnewK)
      (pss_cons (ps_for PassesOwn.never rfl (pi_tup (pe_call (ok_said T) hr (by rfl) T.g_said_effect T.F_said_effect.kp T.B_said_effect .nil pass0 (pa_cons (pv 0) (pa_cons (pe_callB call_len_seq (by rfl) T.b_len PySem.boot_len (pa_cons (pv 0) pa_nil)) pa_nil)))) (pg_name (i := 3) sc_rings.nd rfl (Or.inl rfl))
        (pss_cons (ps_set (i := 4) sc_rings.nd rfl (.inl rfl) (pe_lst pa_nil))
        (pss_cons (ps_while PassesOwn.never (pt_cmp (pc_dnotin u1 (pv 3) (pv 2)) (by rfl))
          (pss_cons (ps_dput u1 (pv 2) (pv 3) pe_bl (by rfl))
          (pss_cons (ps_expr (pe_bm PySem.F.plainAttrs_list PySem.F.slot_list_append PySem.F.type_list_append mt_append (pv 4) (pa_cons (pv 3) pa_nil)))
          (pss_one (ps_set (i := 3) sc_rings.nd rfl (.inl rfl) (pe_ix (r := rIxT K) (by exact ix_tup) (pv 0) (pv 3) (fun _ _ => rfl)))))))
        (pss_one (ps_if (pt_cmpR op_gt (pe_callB call_len_seq (by rfl) T.b_len PySem.boot_len (pa_cons (pv 4) pa_nil)) pe_int (nomark _))
          (pss_cons (ps_set (i := 5) sc_rings.nd rfl (.inl rfl) (pe_bm PySem.F.plainAttrs_list PySem.F.slot_list_index PySem.F.type_list_index mt_index (pv 4) (pa_cons (pe_callB (cr_min rfl) (by rfl) T.b_min (by decide +kernel) (pa_cons (pv 4) pa_nil)) pa_nil)))
          (pss_one (ps_expr (pe_bm PySem.F.plainAttrs_list PySem.F.slot_list_append PySem.F.type_list_append mt_append (pv 1) (pa_cons (pe_callTy call_tuple_of (by rfl) T.b_tuple PyProof.Rows.boot_tuple (pa_cons
            (pe_op op_cat (pe_slice sl_list (pv 4) (po_some (pv 5)) po_none) (pe_slice sl_list (pv 4) po_none (po_some (pv 5)))) pa_nil)) pa_nil)))))
          pss_nil)))))
      (pss_one (ps_ret (pe_callTy call_tuple_of (by rfl) T.b_tuple PyProof.Rows.boot_tuple (pa_cons (pe_callB (cr_sortRows u64) (by rfl) T.b_sorted (by decide +kernel) (pa_cons (pv 1) pa_nil)) pa_nil)))))), ?_⟩
    refine ⟨Nat.zero_le _, fun F hF => fun M hM => ?_⟩
    have nM : H M = none := (same_new (o := .lst []) hF).free hM
    have s0 : Same H (upd (upd H F (.lst [])) M (.dK [])) := (same_new hF).trans (same_new hM)
    have hF0 : (upd (upd H F (.lst [])) M (.dK [])) F = some (.lst []) := same_new hM _ _ upd_same
    have hM0 : (upd (upd H F (.lst [])) M (.dK [])) M = some (.dK []) := upd_same
    generalize (upd (upd H F (.lst [])) M (.dK [])) = H0 at s0 hF0 hM0
    refine ⟨_, rfl, _, rfl, p, _, rfl, .inr (s0.tup hp), ?_⟩
    rw [tN_len, Rg.pw_len]
    refine ⟨p, n, f, n, rfl, s0.tup hp, by omega, hf, fun H1 tt s1 _ htt => ⟨tt, rfl, ⟨_, sqT htt⟩, for_tup (xs := tN (Rg.pw f n n)) (fun i σ H' => ∃ ms fs qs v3 v4 v5, σ = [some (.ref p), some (.ref F), some (.ref M), v3, v4, v5] ∧ Same H H' ∧ H' tt = some (.tup (tN (Rg.pw f n n))) ∧
        H' F = some (.lst (refs qs)) ∧ EachG (fun q l => H' q = some (.tup (tN l))) qs fs ∧ H' M = some (.dK (metK ms)) ∧ Rg.Met f n i ms fs)
      ⟨[], [], [], _, _, _, rfl, s0.trans s1, htt, s1 _ _ hF0, EachG.nil, s1 _ _ hM0, Rg.Met.start⟩ (fun i σ H' _ z => by obtain ⟨_, _, _, _, _, _, _, _, z, _⟩ := z; exact sqT z) ?_ ?_⟩⟩
    · rintro i x σ H' hx ⟨ms, fs, qs, v3, v4, v5, rfl, sm, ht, hF1, hq1, hM1, met⟩
      obtain ⟨h, hh, rfl⟩ := tN_of hx
      have hi : i < n := by
        have := (List.getElem?_eq_some_iff.mp hh).1
        rwa [Rg.pw_len] at this
      obtain rfl : h = Rg.it f n i := by
        rw [Rg.pw_get hi] at hh
        exact (Option.some.inj hh).symm
      have hl : Rg.it f n i < n := Rg.it_lt hf hi n
      have hon := Rg.start_on hf hi
      have hsm := met.small hf (Nat.le_of_lt hi)
      -- how far the walk goes
      obtain ⟨b, b0, b1⟩ : ∃ b : Nat, (Rg.it f n i ∈ ms → b = 0) ∧ (Rg.it f n i ∉ ms → b = Rg.per f n (Rg.it f n i)) := by
        by_cases c : Rg.it f n i ∈ ms
        · exact ⟨0, fun _ => rfl, fun z => absurd c z⟩
        · exact ⟨_, fun z => absurd z c, fun _ => rfl⟩
      have bn : b ≤ n := by
        by_cases c : Rg.it f n i ∈ ms
        · rw [b0 c]; exact Nat.zero_le _
        · rw [b1 c]; exact (Rg.per_spec (Rg.on_iff.mp hon)).2.1
      have tst : ∀ j, j ≤ b → (Rg.it f j (Rg.it f n i) ∈ ms ++ Rg.pre f (Rg.it f n i) j ↔ j = b) := fun j hj => by
        by_cases c : Rg.it f n i ∈ ms
        · have e := b0 c
          have ej : j = 0 := by omega
          subst ej
          exact ⟨fun _ => e.symm, fun _ => List.mem_append_left _ c⟩
        · rw [b1 c]
          exact met.test hf hi c (by rw [← b1 c]; exact hj)
      have prl : ∀ j, (Rg.pre f (Rg.it f n i) j).length = j := fun j => by unfold Rg.pre; simp
      refine ⟨Nat.zero_le _, fun R hR => ?_⟩
      have nR : H R = none := sm.free hR
      refine while_by (fun σ H2 => ∃ j v5, j ≤ b ∧ σ = [some (.ref p), some (.ref F), some (.ref M), some (.int (Rg.it f j (Rg.it f n i) : Nat)), some (.ref R), v5] ∧ Same H H2 ∧ H2 tt = some (.tup (tN (Rg.pw f n n))) ∧
          H2 F = some (.lst (refs qs)) ∧ EachG (fun q l => H2 q = some (.tup (tN l))) qs fs ∧ H2 M = some (.dK (metK (ms ++ Rg.pre f (Rg.it f n i) j))) ∧ H2 R = some (.lst (tN (Rg.pre f (Rg.it f n i) j))))
        (fun _ H2 => match H2 R with | some (.lst xs) => b - xs.length | _ => 0)
        ⟨0, _, Nat.zero_le _, rfl, sm.upd_new nR, (same_new hR) _ _ ht, (same_new hR) _ _ hF1, hq1.mono fun _ _ z => same_new hR _ _ z, by rw [same_new hR _ _ hM1]; show _ = some (HO.dK (metK (ms ++ []))); rw [List.append_nil], upd_same⟩ ?_ ?_
      · rintro σ H2 ⟨j, v5, jb, rfl, s2, ht2, hF2, hq2, hM2, hR2⟩
        refine ⟨_, rfl, _, rfl, M, _, rfl, DGet.k (k := Sum.inl ((Rg.it f j (Rg.it f n i) : Nat) : Int)) hM2, _, rfl, ?_⟩
        rw [metK_val]
        by_cases c : j = b
        · refine no_if (by rw [decide_eq_true ((tst j jb).mpr c)]; rfl) ?_
          subst c
          refine ⟨_, rfl, R, _, rfl, .inl (sqL hR2), _, _, rfl, rfl, _, rfl, ite2 (fun z => ?_) (fun z => ?_)⟩
          · have lp : 0 < j := by
              have := of_decide_eq_true z
              rw [tN_len, prl] at this
              omega
            have c : Rg.it f n i ∉ ms := fun z => by have := b0 z; omega
            have eo : Rg.pre f (Rg.it f n i) j = Rg.orbit f n (Rg.it f n i) := by rw [b1 c]; exact Rg.pre_per _
            rw [eo] at hR2 hM2
            have ol := Rg.orbit_len (f := f) (n := n) (Rg.it f n i)
            refine ⟨_, rfl, .inl ⟨rfl, _, sqL hR2⟩, _, rfl, R, iz (Rg.orbit f n (Rg.it f n i)), rfl, sqL (by rw [← tN_int]; exact hR2), by unfold iz; rw [List.length_map, ol, ← b1 c]; exact lp, fun m0 hm0 hle => ?_⟩
            obtain ⟨m, hm, rfl⟩ := List.mem_map.mp hm0
            have hle' : ∀ y ∈ Rg.orbit f n (Rg.it f n i), m ≤ y := fun y hy => by
              have := hle _ (List.mem_map.mpr ⟨y, hy, rfl⟩)
              omega
            obtain ⟨d, hd, ed, gd⟩ := Rg.orbit_at hm
            have ahead : ∀ (z : Nat) (y : V), z < d → (tN (Rg.orbit f n (Rg.it f n i)))[z]? = some y → eqV y (.int (m : Nat)) = false := fun z y hz hy => by
              obtain ⟨w', hw, rfl⟩ := tN_of hy
              show ((w' : Int) == (m : Int)) = false
              refine beq_eq_false_iff_ne.mpr fun e => ?_
              have e' := Int.natCast_inj.mp e
              subst e'
              have := (List.getElem?_inj (List.getElem?_eq_some_iff.mp hw).1 (Rg.orbit_nodup hon)).mp (hw.trans gd.symm)
              omega
            refine ⟨R, _, _, d, _, rfl, rfl, sqL hR2, rfl, tN_flat _, tN_get gd, by show ((m : Int) == (m : Int)) = true; simp, ahead, ?_⟩
            have dl : d ≤ (Rg.orbit f n (Rg.it f n i)).length := by rw [ol]; omega
            -- found.append(tuple(ring[least:] + ring[:least]))
            refine ⟨_, rfl, .inl ⟨rfl, _, sqL hF2⟩, ?_⟩
            refine ⟨_, rfl, _, rfl, _, rfl, R, _, rfl, sqL hR2, fun p1 h1 => ⟨_, rfl, _, rfl, _, rfl, R, _, rfl, sqL (same_new h1 _ _ hR2), fun p2 h2 => ?_⟩⟩
            rw [cut_from _ _ dl, cut_to _ _ dl]
            rw [cut_from _ _ dl] at h2
            refine ⟨p1, p2, _, _, rfl, rfl, same_new h2 _ _ upd_same, upd_same, ?_, fun p3 h3 => ⟨p3, _, rfl, .inl ⟨sqL upd_same, fun r hr' => ?_⟩⟩⟩
            · rw [tN_len, tN_len, List.length_drop, List.length_take]
              exact Nat.le_of_lt (small1000 (by rw [ol, ← b1 c]; omega))
            rw [← tN_app, Rg.rot hon hd, ed] at hr' ⊢
            have s4 := ((same_new (o := .lst (tN ((Rg.orbit f n (Rg.it f n i)).drop d))) h1).trans (same_new (o := .lst (tN ((Rg.orbit f n (Rg.it f n i)).take d))) h2)).trans (same_new (o := .lst (tN (Rg.orbit f n m))) h3)
            have s5 := s4.trans (same_new (o := .tup (tN (Rg.orbit f n m))) hr')
            have rn : H2 r = none := s4.free hr'
            have hr5 : (upd (upd (upd (upd H2 p1 (.lst (tN ((Rg.orbit f n (Rg.it f n i)).drop d)))) p2 (.lst (tN ((Rg.orbit f n (Rg.it f n i)).take d)))) p3 (.lst (tN (Rg.orbit f n m)))) r (.tup (tN (Rg.orbit f n m)))) r = some _ := upd_same
            generalize (upd (upd (upd (upd H2 p1 (.lst (tN ((Rg.orbit f n (Rg.it f n i)).drop d)))) p2 (.lst (tN ((Rg.orbit f n (Rg.it f n i)).take d)))) p3 (.lst (tN (Rg.orbit f n m)))) r (.tup (tN (Rg.orbit f n m)))) = H5 at s5 hr5 ⊢
            have hF5 := s5 _ _ hF2
            have ql : qs.length ≤ n := by
              rw [hq2.1]
              have := List.Nodup.length_le_of_subset met.fnd (l₂ := Rg.rings f n) fun r hr => met.ring r hr
              have l2 : (Rg.rings f n).length ≤ n := by
                unfold Rg.rings
                rw [List.length_map]
                exact Nat.le_trans (List.length_filter_le _ _) (by rw [List.length_range]; exact Nat.le_refl _)
              omega
            refine ⟨F, _, _, rfl, rfl, hF5, ?_, ?_⟩
            · rw [refs_len]; exact small1000 (by omega)
            refine ⟨ms ++ Rg.orbit f n (Rg.it f n i), fs ++ [Rg.orbit f n m], qs ++ [r], _, _, _, rfl, (s2.trans s5).upd_new hF, ?_, ?_, ?_, ?_, met.new hf hi c hm hle'⟩
            · rw [upd_ne (ne_at (s5 _ _ ht2) hF5 (fun z => by cases z))]; exact s5 _ _ ht2
            · rw [upd_same, refs_snoc]
            · refine EachG.snoc (hq2.mono fun q l z => ?_) ?_
              · rw [upd_ne (ne_at (s5 _ _ z) hF5 (fun z => by cases z))]; exact s5 _ _ z
              · rw [upd_ne (ne_at hr5 hF5 (fun z => by cases z))]; exact hr5
            · rw [upd_ne (ne_at (s5 _ _ hM2) hF5 (fun z => by cases z))]; exact s5 _ _ hM2
          · have lp : j = 0 := by
              refine Classical.byContradiction fun y => z (decide_eq_true ?_)
              rw [tN_len, prl]
              omega
            have c : Rg.it f n i ∈ ms := Classical.byContradiction fun y => by
              have := b1 y
              exact Rg.on_iff.mp hon (by omega)
            subst lp
            refine ⟨ms, fs, qs, _, _, _, rfl, s2, ht2, hF2, hq2, ?_, met.old hf hi c⟩
            rw [hM2]
            show some (HO.dK (metK (ms ++ []))) = _
            rw [List.append_nil]
        · have yn : Rg.it f j (Rg.it f n i) ∉ ms ++ Rg.pre f (Rg.it f n i) j := fun z => c ((tst j jb).mp z)
          refine so_if (by rw [decide_eq_false yn]; rfl) ?_
          have small : (metK (ms ++ Rg.pre f (Rg.it f n i) j)).length < sizeLine := by
            rw [metK_len, List.length_append, prl]
            exact small1000 (by omega)
          refine ⟨_, rfl, _, rfl, M, _, rfl, DPut.k (k := Sum.inl ((Rg.it f j (Rg.it f n i) : Nat) : Int)) hM2 small, ?_⟩
          rw [metK_put yn]
          have MR : R ≠ M := ne_at hR2 hM2 (fun z => by cases z)
          have MF : F ≠ M := ne_at hF2 hM2 (fun z => by cases z)
          have FR : F ≠ R := fun e => by subst e; rw [hR] at hF1; cases hF1
          refine ⟨_, rfl, .inl ⟨rfl, _, sqL ((upd_ne MR).trans hR2)⟩, _, rfl, R, _, _, rfl, rfl, (upd_ne MR).trans hR2, ?_, ?_⟩
          · rw [tN_len, prl]; exact small1000 (by omega)
          have s3 : Same H (upd (upd H2 M (.dK (metK (ms ++ Rg.pre f (Rg.it f n i) j ++ [Rg.it f j (Rg.it f n i)])))) R (.lst (tN (Rg.pre f (Rg.it f n i) j) ++ [.int (Rg.it f j (Rg.it f n i) : Nat)]))) := (s2.upd_new nM).upd_new nR
          have yl : Rg.it f j (Rg.it f n i) < n := Rg.it_lt hf hl j
          refine ⟨_, rfl, _, rfl, p, _, _, _, rfl, rfl, s3.tup hp, atI_nat (tN_get (Rg.pw_get yl)), ⟨⟨j + 1, _, by omega, rfl, s3, ?_, ?_, ?_, ?_, ?_⟩, ?_⟩⟩
          · rw [upd_ne (ne_at ht2 hR2 (fun z => by cases z)), upd_ne (ne_at ht2 hM2 (fun z => by cases z))]; exact ht2
          · rw [upd_ne FR, upd_ne MF]; exact hF2
          · exact hq2.mono fun q l z => by
              rw [upd_ne (ne_at z hR2 (fun z => by cases z)), upd_ne (ne_at z hM2 (fun z => by cases z))]; exact z
          · rw [upd_ne (Ne.symm MR), upd_same, Rg.pre_succ, List.append_assoc]
          · rw [upd_same, Rg.pre_succ, tN_snoc]
          · rw [upd_same, hR2]
            show b - (tN (Rg.pre f (Rg.it f n i) j) ++ [_]).length < b - (tN (Rg.pre f (Rg.it f n i) j)).length
            rw [List.length_append, tN_len, prl]
            show b - (j + 1) < b - j
            omega
      · rintro σ H Q Q' im ⟨v, e, v', e', a', o, e2, g, b, e3, q⟩
        exact ⟨v, e, v', e', a', o, e2, g, b, e3, im _ _ q⟩
    · rintro σ H' ⟨ms, fs, qs, v3, v4, v5, rfl, sm, ht, hF1, hq1, hM1, met⟩
      rw [tN_len, Rg.pw_len] at met
      refine ⟨_, rfl, F, qs, fs, rfl, sqL hF1, hq1.mono fun _ _ z => sqT z, fun l hl => ?_, fun p2 qs2 hE hp2 => ⟨p2, _, rfl, .inl ⟨sqL upd_same, fun r hr' => ?_⟩⟩⟩
      · intro e
        have := (Rg.ring_pos (met.ring l hl)).1
        rw [e] at this
        exact absurd this (by decide)
      · rw [sort_rings (met.all hf)] at hE
        have s3 := (same_new (o := .lst (refs qs2)) hp2).trans (same_new (o := .tup (refs qs2)) hr')
        exact k _ r (sm.trans s3) ((sm.trans (same_new (o := .lst (refs qs2)) hp2)).free hr') ⟨qs2, sqT upd_same, hE.mono fun _ _ z => s3.tup z⟩
end
end K3
end

section
set_option Elab.async false
set_option linter.all false
set_option maxRecDepth 100000
set_option maxHeartbeats 4000000
/-! Turns: making. -/
namespace K3
open PySem L2 R3
/-- a clause's turns, by a walk -/
theorem by_walk {J : It} {n : Nat} {G : Hp → Prop} {Y : Nat → Hp → V → Hp → Prop} (w : Walk J n G Y) {body : V → Hp → (Hp → Prop) → Prop} {Done : Hp → Prop} {H0 : Hp} (Pv : Nat → Hp → Prop) (h0 : Pv 0 H0) (hG : ∀ i H, i ≤ n → Pv i H → G H)
    (hs : ∀ i x H H', i < n → Pv i H → Y i H x H' → body x H' (Pv (i + 1))) (hd : ∀ H, Pv n H → Done H) :
    ∃ W : Nat → Nat → Hp → Prop, (∃ m, W 0 m H0) ∧ ∀ i m H, W i m H → (J.stop i H ∧ Done H) ∨ (J.go i H ∧ ∃ N : Hp → Prop, (∀ H', N H' → ∃ m', m' < m ∧ W (i + 1) m' H') ∧ ∀ x H', J.yld i H x H' → body x H' N) := by
  refine ⟨fun i m H => m = n - i ∧ i ≤ n ∧ Pv i H, ⟨n, by simp, Nat.zero_le _, h0⟩, ?_⟩
  rintro i m H ⟨rfl, hi, p⟩
  have g := hG i H hi p
  by_cases c : i < n
  · exact .inr ⟨w.goes i H c g, Pv (i + 1), fun H' q => ⟨n - (i + 1), by omega, rfl, c, q⟩, fun x H' y => hs i x H H' c p (w.yields i H x H' c g y)⟩
  · obtain rfl : i = n := by omega
    exact .inl ⟨w.stops H g, hd H p⟩
theorem _root_.L2.SqT.but {K : PySem.W.Frag} {H H' : Hp} {x q C dx : Addr} {fs : List (PySem.Str × V)} {xs : List V} (hx : H x = some (.ins C dx fs)) (s : SameBut x H H') (h : SqT K H q xs) : SqT K H' q xs := by
  rcases h with (h | ⟨ob, h⟩) | h
  · exact .inl (.inl (s _ _ h (ne_at h hx (fun z => by cases z))))
  · exact .inl (.inr ⟨ob, s _ _ h (ne_at h hx (fun z => by cases z))⟩)
  · exact .inr h
theorem TT.but {K : PySem.W.Frag} {H H' : Hp} {x q C dx : Addr} {fs : List (PySem.Str × V)} {ls : List (List Nat)} (hx : H x = some (.ins C dx fs)) (s : SameBut x H H') (h : TT K H q ls) : TT K H' q ls :=
  let ⟨ps, h1, h2⟩ := h; ⟨ps, h1.but hx s, h2.mono fun _ _ z => z.but hx s⟩
theorem SameBut.upd' {x : Addr} {H : Hp} {o : HO} : SameBut x H (upd H x o) := fun b u e nb => (upd_ne nb).trans e
theorem SameBut.trans {x : Addr} {H H1 H2 : Hp} (s : SameBut x H H1) (t : SameBut x H1 H2) : SameBut x H H2 := fun b u e nb => t _ _ (s _ _ e nb) nb
theorem notin_pref {ls : List (List Nat)} (nd : ls.flatten.Nodup) {i j y : Nat} {l : List Nat} (hl : ls[i]? = some l) (hy : l[j]? = some y) : y ∉ (ls.take i).flatten ++ l.take j := by
  have il := (List.getElem?_eq_some_iff.mp hl)
  have jl := (List.getElem?_eq_some_iff.mp hy)
  have e1 : ls = ls.take i ++ l :: ls.drop (i + 1) := by
    have := List.take_append_drop i ls
    rw [List.drop_eq_getElem_cons il.1, il.2] at this
    exact this.symm
  have e2 : l = l.take j ++ y :: l.drop (j + 1) := by
    have := List.take_append_drop j l
    rw [List.drop_eq_getElem_cons jl.1, jl.2] at this
    exact this.symm
  have e3 : ls.flatten = ((ls.take i).flatten ++ l.take j) ++ y :: (l.drop (j + 1) ++ (ls.drop (i + 1)).flatten) := by
    conv => lhs; rw [e1, List.flatten_append, List.flatten_cons, e2]
    simp
  rw [e3] at nd
  exact fun z => (List.nodup_append.mp nd).2.2 y z y List.mem_cons_self rfl
theorem flat_snoc {ls : List (List Nat)} {i : Nat} {l : List Nat} (hl : ls[i]? = some l) : (ls.take (i + 1)).flatten = (ls.take i).flatten ++ l := by
  rw [take_snoc hl, List.flatten_append]
  simp
/-- the tails of the states below n -/
def tailsOf (f : Nat → Nat) (n : Nat) : List Nat := (List.range n).map (Rg.tl f n)
/-- a made turn -/
def TurnAt (a : Ads) (K : PySem.W.Frag) (H : Hp) (x D : Addr) (ls : List Nat) (f : Nat → Nat) (n : Nat) : Prop :=
  ∃ dx o r t, H x = some (.ins a.c_Turn dx [("once", .ref o), ("device", .ref D), ("word", .str (rowS ls)), ("rings", .ref r), ("tails", .ref t), ("period", .int (Rg.period f n : Nat))]) ∧
    SqT K H o (tN (Rg.pw f n 1)) ∧ TT K H r (Rg.rings f n) ∧ SqT K H t (tN (tailsOf f n))
theorem TurnAt.mono {a : Ads} {K : PySem.W.Frag} {H H' : Hp} {x D : Addr} {ls : List Nat} {f : Nat → Nat} {n : Nat} (s : Same H H') (h : TurnAt a K H x D ls f n) : TurnAt a K H' x D ls f n :=
  let ⟨dx, o, r, t, h1, h2, h3, h4⟩ := h; ⟨dx, o, r, t, s _ _ h1, s.tup h2, h3.mono s, s.tup h4⟩
section
variable {w : World} {K : PySem.W.Frag} {mg : Str → Option Value} {base : Heap} {a : Ads}
def spTurnInit (a : Ads) (K : PySem.W.Frag) : Sp := fun vs H Q E => ∃ (x dx D : Addr) (tabs : List (List Nat)) (n : Nat) (ls : List Nat), vs = [.ref x, .ref D, .str (rowS ls)] ∧ H x = some (.ins a.c_Turn dx []) ∧ DevAt a K H D tabs n ∧ TabsOk tabs n ∧ n ≤ 6 ∧ ls.length ≤ 1000 ∧
  (((∀ l ∈ ls, l < tabs.length) ∧ ∀ H', SameBut x H H' → TurnAt a K H' x D ls (stepOf tabs ls) n → Q .non H') ∨ (ls = [5] ∧ ∀ H' d, Same H H' → H' d = some (.xd [("at", .int 0)]) → E (.ref a.x_BadRow) (some d) H'))
theorem sc_turn_init : FnScope ["self", "device", "row", "on_rings", "tails", "state", "here", "times", "ring"] ["self", "device", "row"] (defScope (inClass (top 27) 0)) := ⟨rfl, rfl, rfl, by decide +kernel, rfl, by decide +kernel, by decide +kernel⟩
theorem ok_turn_init (T : Txt a K mg) : FnOk P0 w K mg base (L2.CX P0 w) 4 a.f_Turn_init a.d_Turn_init ["self", "device", "row"] (spTurnInit a K) := by
  refine T.F_Turn_init.okX sc_turn_init (fun vs H Q E h => ?_) (fun cdv A outer s H vs Q E hr h => ?_)
  · obtain ⟨_, _, _, _, _, _, rfl, _⟩ := h
    rfl
  · obtain ⟨x, dx, D, tabs, n, ls, rfl, hx, hD, ok, n6, hl, k⟩ := h
    have u1 : (A.deeper (PyProof.Rows.envOfC "Turn.__init__" (defScope (inClass (top 27) 0)) s.heap.objs.size a.f_Turn_init cdv)).units + 1 < cLine := by have := hr.units; omega
    refine ⟨_, pss_cons (ps_fld (pv 0) (pe_meth (E := E) (pv 1) T.cl_Device T.m_Device_effect (ok_effect T) hr T.B_Device_effect .nil (passes_call (takes_of rfl rfl rfl rfl) fun _ _ _ _ h => h) (pa_cons (pv 2) pa_nil)) (by rfl))
      (pss_cons (ps_fld (pv 0) (pv 1) (by rfl))
      (pss_cons (ps_fld (pv 0) (pv 2) (by rfl))
      (pss_cons (ps_fld (pv 0) (pe_call (ok_rings T) hr (by rfl) T.g_effect_rings T.F_effect_rings.kp T.B_effect_rings .nil pass0 (pa_cons (pe_fld (pv 0) (by rfl)) pa_nil)) (by rfl))
      (pss_cons (ps_setDc2 (i := 3) (own := [("ring", 8), ("state", 5)]) (vs1 := [5]) (g := gName 8) (g1 := gName 5) (wi1 := iTup K (tVar 8)) (tk := tVar 5) (tv := tC (.bl true)) rfl sc_turn_init.nd rfl rfl (by rfl) (pi_tup (pe_fld (pv 0) (by rfl))) (blkOk_by (N := ["self", "device", "row", "on_rings", "tails", "state", "here", "times", "ring"]) (sc := defScope (inClass (top 27) 0)) (by decide +kernel)) (by decide)
        (fun _ _ _ _ _ => pg_name (i := 8) sc_turn_init.nd rfl (Or.inl rfl)) (fun _ _ _ _ _ => by exact pi_tup (pv 8)) (fun _ _ _ _ _ => pg_name (i := 5) sc_turn_init.nd rfl (Or.inl rfl)) (fun _ _ _ _ _ => pv 5) (fun _ _ _ _ _ => pe_bl))
      (pss_cons (ps_set (i := 4) sc_turn_init.nd rfl (.inl rfl) (pe_lst pa_nil))
      (pss_cons (ps_for (passes_of rfl) rfl (pi_range1 (by rfl) T.b_range (pa_cons (pe_fld (pv 1) (by rfl)) pa_nil)) (pg_name (i := 5) sc_turn_init.nd rfl (Or.inl rfl))
        (pss_cons (ps_par (i := 6) (j := 7) rfl sc_turn_init.nd rfl rfl (by decide) rfl rfl (pa_cons (pv 5) (pa_cons pe_int pa_nil)) (by rfl))
        (pss_cons (ps_while (passes_of rfl) (pt_cmp (pc_dnotin u1 (pv 6) (pv 3)) (by rfl))
          (pss_one (ps_par (i := 6) (j := 7) rfl sc_turn_init.nd rfl rfl (by decide) rfl rfl (pa_cons (pe_ix (r := rIxT K) (by exact ix_tup) (pe_fld (pv 0) (by rfl)) (pv 6) (fun _ _ => rfl)) (pa_cons (pe_op op_add (pv 7) pe_int) pa_nil)) (by rfl))))
        (pss_one (ps_expr (pe_bm PySem.F.plainAttrs_list PySem.F.slot_list_append PySem.F.type_list_append mt_append (pv 4) (pa_cons (pv 7) pa_nil)))))))
      (pss_cons (ps_fld (pv 0) (pe_callTy call_tuple_of (by rfl) T.b_tuple PyProof.Rows.boot_tuple (pa_cons (pv 4) pa_nil)) (by rfl))
      (pss_cons (ps_fld (pv 0) pe_int (by rfl))
      (pss_one (ps_for (passes_of rfl) rfl (pi_tup (pe_fld (pv 0) (by rfl))) (pg_name (i := 8) sc_turn_init.nd rfl (Or.inl rfl))
        (pss_one (ps_fld (pv 0) (pe_call (ok_lcm T) (hr.mono (by decide)) (by rfl) T.g_common_multiple T.F_common_multiple.kp T.B_common_multiple .nil pass0 (pa_cons (pe_fld (pv 0) (by rfl)) (pa_cons (pe_callB call_len_seq (by rfl) T.b_len PySem.boot_len (pa_cons (pv 8) pa_nil)) pa_nil))) (by rfl))))))))))))), ?_⟩
    obtain ⟨dxD, qD, hDx, hDt⟩ := id hD
    have DX : D ≠ x := ne_at hDx hx (fun z => by injection z with _ _ z; cases z)
    refine ⟨_, rfl, D, _, _, rfl, hDx, rfl, _, rfl, D, tabs, n, ls, rfl, hD, ok, hl, ?_⟩
    rcases k with ⟨hk, k⟩ | ⟨e, k⟩
    rotate_left
    · exact .inr ⟨e, k⟩
    have hf := stepOf_lt ok ls hk
    generalize hfe : stepOf tabs ls = f at hf k
    have n0 := ok.n0
    refine .inl ⟨hk, fun H1 o s1 _ ho => ?_⟩
    -- once, device, word
    refine ⟨_, rfl, x, _, dx, _, rfl, s1 _ _ hx, T.cl_Turn, T.n_Turn_once, by simp, ?_⟩
    have sa := (s1.but (x := x)).trans (SameBut.upd' (o := .ins a.c_Turn dx (putF "once" (.ref o) [])))
    have oa : SqT K (upd H1 x (.ins a.c_Turn dx (putF "once" (.ref o) []))) o (tN (Rg.pw f n 1)) := (sqT ho).but (s1 _ _ hx) SameBut.upd'
    have xa : (upd H1 x (.ins a.c_Turn dx (putF "once" (.ref o) []))) x = some (.ins a.c_Turn dx [("once", .ref o)]) := upd_same
    generalize (upd H1 x (.ins a.c_Turn dx (putF "once" (.ref o) []))) = Ha at sa oa xa ⊢
    refine ⟨_, rfl, _, rfl, x, _, dx, _, rfl, xa, T.cl_Turn, T.n_Turn_device, by simp, ?_⟩
    have sb := sa.trans (SameBut.upd' (o := .ins a.c_Turn dx (putF "device" (.ref D) [("once", .ref o)])))
    have ob := oa.but xa (SameBut.upd' (o := .ins a.c_Turn dx (putF "device" (.ref D) [("once", .ref o)])))
    have xb : (upd Ha x (.ins a.c_Turn dx (putF "device" (.ref D) [("once", .ref o)]))) x = some (.ins a.c_Turn dx [("once", .ref o), ("device", .ref D)]) := upd_same
    generalize (upd Ha x (.ins a.c_Turn dx (putF "device" (.ref D) [("once", .ref o)]))) = Hb at sb ob xb ⊢
    refine ⟨_, rfl, _, rfl, x, _, dx, _, rfl, xb, T.cl_Turn, T.n_Turn_word, by simp, ?_⟩
    have sc := sb.trans (SameBut.upd' (o := .ins a.c_Turn dx (putF "word" (.str (rowS ls)) [("once", .ref o), ("device", .ref D)])))
    have oc := ob.but xb (SameBut.upd' (o := .ins a.c_Turn dx (putF "word" (.str (rowS ls)) [("once", .ref o), ("device", .ref D)])))
    have xc : (upd Hb x (.ins a.c_Turn dx (putF "word" (.str (rowS ls)) [("once", .ref o), ("device", .ref D)]))) x = some (.ins a.c_Turn dx [("once", .ref o), ("device", .ref D), ("word", .str (rowS ls))]) := upd_same
    generalize (upd Hb x (.ins a.c_Turn dx (putF "word" (.str (rowS ls)) [("once", .ref o), ("device", .ref D)]))) = Hc at sc oc xc ⊢
    -- rings
    refine ⟨_, rfl, x, _, dx, _, _, rfl, xc, T.cl_Turn, T.n_Turn_once, rfl, o, f, n, rfl, oc, by omega, hf, fun H4 r s4 _ hr4 => ⟨_, rfl, x, _, dx, _, rfl, s4 _ _ xc, T.cl_Turn, T.n_Turn_rings, by simp, ?_⟩⟩
    have sd := (sc.then s4).trans (SameBut.upd' (o := .ins a.c_Turn dx (putF "rings" (.ref r) [("once", .ref o), ("device", .ref D), ("word", .str (rowS ls))])))
    have od := (s4.tup oc).but (s4 _ _ xc) (SameBut.upd' (o := .ins a.c_Turn dx (putF "rings" (.ref r) [("once", .ref o), ("device", .ref D), ("word", .str (rowS ls))])))
    have rd := hr4.but (s4 _ _ xc) (SameBut.upd' (o := .ins a.c_Turn dx (putF "rings" (.ref r) [("once", .ref o), ("device", .ref D), ("word", .str (rowS ls))])))
    have xd : (upd H4 x (.ins a.c_Turn dx (putF "rings" (.ref r) [("once", .ref o), ("device", .ref D), ("word", .str (rowS ls))]))) x = some (.ins a.c_Turn dx [("once", .ref o), ("device", .ref D), ("word", .str (rowS ls)), ("rings", .ref r)]) := upd_same
    generalize (upd H4 x (.ins a.c_Turn dx (putF "rings" (.ref r) [("once", .ref o), ("device", .ref D), ("word", .str (rowS ls))]))) = Hd at sd od rd xd ⊢
    obtain ⟨rs, hrs, hrE⟩ := rd
    have Dd : Hd D = some _ := sd _ _ hDx DX
    have fl : (Rg.rings f n).flatten.length ≤ n := by
      have := List.Nodup.length_le_of_subset (Rg.flat_nodup (f := f) (n := n)) (l₂ := List.range n) fun y hy => List.mem_range.mpr ((Rg.mem_flat hf).mp hy).1
      rwa [List.length_range] at this
    -- the states on rings
    refine ⟨_, rfl, x, _, dx, _, _, rfl, xd, T.cl_Turn, T.n_Turn_rings, rfl, r, rfl, ⟨_, hrs⟩, fun M hM => by_walk (walk_tup (xs := refs rs)) (fun i H' => Same Hd H' ∧ H' M = some (.dK (metK ((Rg.rings f n).take i).flatten))) ⟨same_new hM, upd_same⟩ (fun i H' _ z => z.1.tup hrs) ?_ ?_⟩
    · rintro i y H5 H6 hi ⟨sm, hm⟩ ⟨rfl, hy⟩
      obtain ⟨q, hq, rfl⟩ := refs_of hy
      obtain ⟨l, hl', hql⟩ := hrE.get hq
      refine ⟨rfl, _, rfl, q, rfl, ⟨_, sm.tup hql⟩, by_walk (walk_tup (xs := tN l)) (fun j H' => Same Hd H' ∧ H' M = some (.dK (metK (((Rg.rings f n).take i).flatten ++ l.take j)))) ⟨sm, by rw [List.take_zero, List.append_nil]; exact hm⟩ (fun j H' _ z => z.1.tup hql) ?_ ?_⟩
      · rintro j y H7 H8 hj ⟨s7, h7⟩ ⟨rfl, hy⟩
        obtain ⟨z, hz, rfl⟩ := tN_of hy
        have nn := notin_pref Rg.flat_nodup hl' hz
        refine ⟨rfl, _, rfl, _, Sum.inl (z : Int), rfl, h7, ?_, s7.upd_new hM, ?_⟩
        · rw [metK_len]
          have nd2 : (((Rg.rings f n).take i).flatten ++ l.take j).Nodup := by
            have e := flat_snoc hl'
            have h1 : (((Rg.rings f n).take i).flatten ++ l).Nodup := by
              rw [← e]
              have h0 := Rg.flat_nodup (f := f) (n := n)
              rw [← List.take_append_drop (i + 1) (Rg.rings f n), List.flatten_append] at h0
              exact (List.nodup_append.mp h0).1
            exact h1.sublist (List.Sublist.append (List.Sublist.refl _) (List.take_sublist _ _))
          have := List.Nodup.length_le_of_subset nd2 (l₂ := List.range n) fun y hy => by
            refine List.mem_range.mpr ((Rg.mem_flat (f := f) hf).mp ?_).1
            rcases List.mem_append.mp hy with y1 | y1
            · obtain ⟨l1, m1, m2⟩ := List.mem_flatten.mp y1
              exact List.mem_flatten.mpr ⟨l1, List.mem_of_mem_take m1, m2⟩
            · exact List.mem_flatten.mpr ⟨l, List.mem_of_getElem? hl', List.mem_of_mem_take y1⟩
          rw [List.length_range] at this
          exact small1000 (by omega)
        · rw [upd_same, metK_put nn, take_snoc hz, List.append_assoc]
      · rintro H7 ⟨s7, h7⟩
        rw [tN_len, List.take_length] at h7
        exact ⟨s7, by rw [flat_snoc hl']; exact h7⟩
    · rintro H5 ⟨s5, h5⟩
      rw [refs_len, hrE.1, List.take_length] at h5
      -- tails
      refine ⟨Nat.zero_le _, fun L hL => ?_⟩
      refine ⟨_, rfl, D, _, dxD, _, _, rfl, (same_new hL) _ _ (s5 _ _ Dd), T.cl_Device, T.n_Device_states, rfl, (n : Int), rfl, by omega, by omega, for_range (n := n) (fun i σ H' => ∃ v5 v6 v7 v8, σ = [some (.ref x), some (.ref D), some (.str (rowS ls)), some (.ref M), some (.ref L), v5, v6, v7, v8] ∧ Same H5 H' ∧ H' L = some (.lst (tN ((List.range i).map (Rg.tl f n)))))
        ⟨_, _, _, _, rfl, same_new hL, upd_same⟩ ?_ ?_⟩
      · rintro i σ H6 hi ⟨v5, v6, v7, v8, rfl, s6, h6⟩
        rw [Int.zero_add]
        have s6' := s5.trans s6
        obtain ⟨tn, ton, _⟩ := Rg.tl_spec hf hi
        refine ⟨_, rfl, _, _, rfl, ?_⟩
        refine while_by (fun σ H' => H' = H6 ∧ ∃ t : Nat, t ≤ Rg.tl f n i ∧ σ = [some (.ref x), some (.ref D), some (.str (rowS ls)), some (.ref M), some (.ref L), some (.int (i : Nat)), some (.int (Rg.it f t i : Nat)), some (.int t), v8])
          (fun σ _ => match σ with | [_, _, _, _, _, _, _, some (.int y), _] => Rg.tl f n i - y.toNat | _ => 0) ⟨rfl, 0, Nat.zero_le _, rfl⟩ ?_ ?_
        · rintro σ H' ⟨rfl, t, tt, rfl⟩
          refine ⟨_, rfl, _, rfl, M, _, rfl, DGet.k (k := Sum.inl ((Rg.it f t i : Nat) : Int)) (s6 _ _ h5), _, rfl, ?_⟩
          rw [metK_val]
          have il := Rg.it_lt hf hi t
          by_cases c : t = Rg.tl f n i
          · have y : Rg.it f t i ∈ (Rg.rings f n).flatten := (Rg.mem_flat hf).mpr ⟨il, (Rg.on_from hf hi t).mpr (by omega)⟩
            refine no_if (by rw [decide_eq_true y]; rfl) ?_
            refine ⟨_, rfl, .inl ⟨rfl, _, sqL h6⟩, _, rfl, L, _, _, rfl, rfl, h6, ?_, ?_⟩
            · rw [tN_len, List.length_map, List.length_range]; exact small1000 (by omega)
            · refine ⟨_, _, _, _, rfl, s6.upd_new hL, ?_⟩
              rw [upd_same, List.range_succ, List.map_append, c]
              show some (HO.lst _) = some (HO.lst (tN (_ ++ [Rg.tl f n i])))
              rw [tN_snoc]
          · have y : Rg.it f t i ∉ (Rg.rings f n).flatten := fun z => by
              have := (Rg.on_from hf hi t).mp ((Rg.mem_flat hf).mp z).2
              omega
            refine so_if (by rw [decide_eq_false y]; rfl) ?_
            refine ⟨_, rfl, x, _, dx, _, _, rfl, s6' _ _ xd, T.cl_Turn, T.n_Turn_once, rfl, _, rfl, o, _, _, _, rfl, rfl, s6'.tup od, atI_nat (tN_get (Rg.pw_get il)), _, rfl, t, 1, rfl, rfl, _, _, rfl, ⟨rfl, t + 1, by omega, ?_⟩, ?_⟩
            · rfl
            · show Rg.tl f n i - ((t : Int) + 1).toNat < Rg.tl f n i - t
              omega
        · rintro σ H Q Q' im ⟨v, e, v', e', a', o, e2, g, b, e3, q⟩
          exact ⟨v, e, v', e', a', o, e2, g, b, e3, im _ _ q⟩
      · rintro σ H6 ⟨v5, v6, v7, v8, rfl, s6, h6⟩
        have s6' := s5.trans s6
        change H6 L = some (.lst (tN (tailsOf f n))) at h6
        refine ⟨_, rfl, L, _, rfl, .inl ⟨sqL h6, fun t ht => ?_⟩⟩
        have s7 := s6'.trans (same_new (o := .tup (tN (tailsOf f n))) ht)
        have t7 : (upd H6 t (.tup (tN (tailsOf f n)))) t = some _ := upd_same
        refine ⟨_, rfl, x, _, dx, _, rfl, s7 _ _ xd, T.cl_Turn, T.n_Turn_tails, by simp, ?_⟩
        have o7 := s7.tup od
        have r7 : TT K _ r (Rg.rings f n) := TT.mono s7 ⟨rs, hrs, hrE⟩
        have sbx := sd.then s7
        have x7 := s7 _ _ xd
        have u7 : SameBut x _ _ := SameBut.upd' (x := x) (H := upd H6 t (.tup (tN (tailsOf f n)))) (o := .ins a.c_Turn dx (putF "tails" (.ref t) [("once", .ref o), ("device", .ref D), ("word", .str (rowS ls)), ("rings", .ref r)]))
        have x8 : (upd (upd H6 t (.tup (tN (tailsOf f n)))) x (.ins a.c_Turn dx (putF "tails" (.ref t) [("once", .ref o), ("device", .ref D), ("word", .str (rowS ls)), ("rings", .ref r)]))) x = some (.ins a.c_Turn dx [("once", .ref o), ("device", .ref D), ("word", .str (rowS ls)), ("rings", .ref r), ("tails", .ref t)]) := upd_same
        have o8 := o7.but x7 u7
        have r8 := r7.but x7 u7
        have t8 := (sqT (K := K) t7).but x7 u7
        have sb8 := sbx.trans u7
        clear u7 x7 o7 r7 t7 sbx
        generalize (upd (upd H6 t (.tup (tN (tailsOf f n)))) x (.ins a.c_Turn dx (putF "tails" (.ref t) [("once", .ref o), ("device", .ref D), ("word", .str (rowS ls)), ("rings", .ref r)]))) = H8 at x8 o8 r8 t8 sb8 ⊢
        -- period
        refine ⟨_, rfl, x, _, dx, _, rfl, x8, T.cl_Turn, T.n_Turn_period, by simp, ?_⟩
        have u9 : SameBut x H8 _ := SameBut.upd' (x := x) (H := H8) (o := .ins a.c_Turn dx (putF "period" (.int 1) [("once", .ref o), ("device", .ref D), ("word", .str (rowS ls)), ("rings", .ref r), ("tails", .ref t)]))
        have x9 : (upd H8 x (.ins a.c_Turn dx (putF "period" (.int 1) [("once", .ref o), ("device", .ref D), ("word", .str (rowS ls)), ("rings", .ref r), ("tails", .ref t)]))) x = some (.ins a.c_Turn dx [("once", .ref o), ("device", .ref D), ("word", .str (rowS ls)), ("rings", .ref r), ("tails", .ref t), ("period", .int (((Rg.lens f n).take 0).foldl Nat.lcm 1 : Nat))]) := upd_same
        have o9 := o8.but x8 u9
        have r9 := r8.but x8 u9
        have t9 := t8.but x8 u9
        have sb9 := sb8.trans u9
        generalize (upd H8 x (.ins a.c_Turn dx (putF "period" (.int 1) [("once", .ref o), ("device", .ref D), ("word", .str (rowS ls)), ("rings", .ref r), ("tails", .ref t)]))) = H9 at x9 o9 r9 t9 sb9 ⊢
        obtain ⟨ps, hps, hpE⟩ := r9
        refine ⟨_, rfl, x, _, dx, _, _, rfl, x9, T.cl_Turn, T.n_Turn_rings, rfl, r, rfl, ⟨_, hps⟩, for_tup (xs := refs ps) (fun i σ H' => ∃ v8, σ = [some (.ref x), some (.ref D), some (.str (rowS ls)), some (.ref M), some (.ref L), v5, v6, v7, v8] ∧ SameBut x H9 H' ∧
            H' x = some (.ins a.c_Turn dx [("once", .ref o), ("device", .ref D), ("word", .str (rowS ls)), ("rings", .ref r), ("tails", .ref t), ("period", .int (((Rg.lens f n).take i).foldl Nat.lcm 1 : Nat))]))
          ⟨_, rfl, fun _ _ z _ => z, x9⟩ (fun i σ H' _ z => hps.but x9 z.choose_spec.2.1) ?_ ?_⟩
        · rintro i y σ H' hy ⟨v8, rfl, sm, hx'⟩
          obtain ⟨q, hq, rfl⟩ := refs_of hy
          obtain ⟨l, hl', hql⟩ := hpE.get hq
          have lm : l ∈ Rg.rings f n := List.mem_of_getElem? hl'
          obtain ⟨lp, ln⟩ := Rg.ring_pos lm
          have d60 : ((Rg.lens f n).take i).foldl Nat.lcm 1 ∣ 60 := (Rg.foldl_lcm _ 1).2.2 60 ⟨60, rfl⟩ fun d hd => by
            have := Rg.lens_mem (List.mem_of_mem_take hd)
            exact Nat.dvd_of_mod_eq_zero (Rg.six_div this.1 (by omega))
          have le60 := Nat.le_of_dvd (by decide) d60
          have pos : 0 < ((Rg.lens f n).take i).foldl Nat.lcm 1 := Nat.pos_of_dvd_of_pos d60 (by decide)
          refine ⟨_, rfl, x, _, dx, _, _, rfl, hx', T.cl_Turn, T.n_Turn_period, rfl, _, rfl, q, _, rfl, .inr (hql.but x9 sm), _, _, rfl, pos, by omega, by rw [tN_len]; omega, by rw [tN_len]; omega, ?_⟩
          refine ⟨_, rfl, x, _, dx, _, rfl, hx', T.cl_Turn, T.n_Turn_period, by simp, ?_⟩
          refine ⟨_, rfl, sm.put, ?_⟩
          rw [upd_same, tN_len]
          have e : (Rg.lens f n).take (i + 1) = (Rg.lens f n).take i ++ [l.length] := take_snoc (by unfold Rg.lens; rw [List.getElem?_map, hl']; rfl)
          rw [e, List.foldl_append]
          rfl
        · rintro σ H' ⟨v8, rfl, sm, hx'⟩
          have e : (Rg.lens f n).take (refs ps).length = Rg.lens f n := by
            rw [refs_len, hpE.1, List.take_of_length_le]
            unfold Rg.lens
            rw [List.length_map]
            exact Nat.le_refl _
          rw [e] at hx'
          exact k _ (sb9.trans sm) ⟨dx, o, r, t, hx', o9.but x9 sm, TT.but x9 sm ⟨ps, hps, hpE⟩, t9.but x9 sm⟩
end
end K3
end

section
set_option Elab.async false
set_option linter.all false
set_option maxRecDepth 100000
set_option maxHeartbeats 4000000
/-! max of a tuple of numbers. -/
namespace R3
open PySem PySem.Spec PyProof.Rows L2 K3
theorem fold_cast : ∀ (l : List Nat) (x : Nat), (iz l).foldl max (x : Int) = ((l.foldl max x : Nat) : Int)
  | [], x => rfl
  | y :: l, x => by
    show (iz l).foldl max (max (x : Int) (y : Int)) = ((l.foldl max (max x y) : Nat) : Int)
    rw [← fold_cast l, show max (x : Int) (y : Int) = ((max x y : Nat) : Int) by omega]
section
variable {X : Cx}
/-- max(t), t a tuple of numbers, not empty -/
def rMaxT (K : PySem.W.Frag) : List V → Hp → VK → Prop := fun vs H Q => ∃ (a : Addr) (x : Nat) (l : List Nat), vs = [V.ref a] ∧ SqT K H a (tN (x :: l)) ∧ Q (.int (l.foldl max x : Nat)) H
theorem cr_maxT (hc : X.calm = true) (hu : X.A.units + 64 < cLine) : CallR X (.builtin "max") (rMaxT X.K) := by
  intro pins s σ H vs us Q I r h
  obtain ⟨a, x, l, rfl, hs, q⟩ := h
  obtain ⟨its, rv, hl, hz⟩ := I.tuple hs
  rw [Vals.ref1 r]
  obtain ⟨as, rs⟩ := Dp.readsAll I _ _ _ (dpAll_tN (x :: l)) rv
  have e : (l.map fun (x : Nat) => PyData.int x) = (iz l).map PyData.int := by unfold iz; rw [List.map_map]; rfl
  rw [List.map_cons, e] at rs
  have all : ∀ d ∈ (PyData.int (x : Nat) :: (iz l).map PyData.int), ∃ i, d = PyData.int i := fun d hd => by
    rcases List.mem_cons.mp hd with z | z
    · exact ⟨_, z⟩
    · obtain ⟨i, _, z⟩ := List.mem_map.mp z
      exact ⟨i, z.symm⟩
  refine PySem.W.max_tuple_data (vs := its.toArray) (I.ok.hd hc) hl (by simpa using rs) ⟨fun d hd d' hd' => ?_, fun d hd z => ?_⟩ ?_ fun i v h' tk bs hi rd hk => ?_
  · obtain ⟨i, rfl⟩ := all d hd
    obtain ⟨j, rfl⟩ := all d' hd'
    simp [PySem.W.alike]
  · obtain ⟨i, rfl⟩ := all d hd
    cases z
  · have d0 : PyData.depthAll (PyData.int (x : Nat) :: (iz l).map PyData.int) ≤ 0 := by
      show max 0 (PyData.depthAll ((iz l).map PyData.int)) ≤ 0
      rw [PySem.W.depth_ints]; exact Nat.le_refl 0
    omega
  · rw [PySem.W.maxD_ints, fold_cast] at rd
    cases rd
    exact ⟨.int (l.foldl max x : Nat), H, I.kept (t' := tk) hk, ⟨_, rfl⟩, q⟩
end
end R3
end

section
set_option Elab.async false
set_option linter.all false
set_option maxRecDepth 100000
set_option maxHeartbeats 4000000
/-! Turns: what they answer. -/
namespace K3
open PySem L2 R3
/-- what a map of states must be -/
structure MapOk (f : Nat → Nat) (n : Nat) : Prop where
  lt : ∀ x, x < n → f x < n
  n0 : 0 < n
  n6 : n ≤ 6
/-- said_at, left_at refuse these -/
def refused (left : Bool) : V → Bool
  | .int i => decide (i < (if left then 1 else 0)) || decide (1000000000000000000 < i)
  | _ => true
theorem sum_iz : ∀ l : List Nat, (iz l).sum = ((l.sum : Nat) : Int)
  | [] => rfl
  | x :: l => by
    show (x : Int) + (iz l).sum = ((x + l.sum : Nat) : Int)
    rw [sum_iz l, Int.natCast_add]
section
variable {w : World} {K : PySem.W.Frag} {mg : Str → Option Value} {base : Heap} {a : Ads}
def spSaidAt (a : Ads) (K : PySem.W.Frag) : Sp := fun vs H Q E => ∃ (x D : Addr) (ls : List Nat) (f : Nat → Nat) (n : Nat) (v : V), vs = [.ref x, v] ∧ TurnAt a K H x D ls f n ∧ MapOk f n ∧ scalarV v = true ∧
  ((∃ t : Nat, v = .int t ∧ t ≤ 1000000000000000000 ∧ ∀ H' r, Same H H' → H r = none → H' r = some (.tup (tN (Rg.pw f n t))) → Q (.ref r) H') ∨ (refused false v = true ∧ ∀ H' d, Same H H' → H' d = some (.xd [("at", v)]) → E (.ref a.x_Refused) (some d) H'))
theorem sc_said_at : FnScope ["self", "times"] ["self", "times"] (defScope (inClass (top 27) 1)) := ⟨rfl, rfl, rfl, by decide +kernel, rfl, by decide +kernel, by decide +kernel⟩
theorem ok_said_at (T : Txt a K mg) : FnOk P0 w K mg base (L2.CX P0 w) 3 a.f_Turn_said_at a.d_Turn_said_at ["self", "times"] (spSaidAt a K) := by
  refine T.F_Turn_said_at.okX sc_said_at (fun vs H Q E h => ?_) (fun cdv A outer s H vs Q E hr h => ?_)
  · obtain ⟨_, _, _, _, _, _, rfl, _⟩ := h
    rfl
  · obtain ⟨x, D, ls, f, n, v, rfl, ⟨dx, o, r, t, hx, ho, _, _⟩, ok, hv, k⟩ := h
    obtain ⟨tk, ht⟩ := T.k_MOST_LENGTH
    refine ⟨_, pss_cons (ps_if (PW.pt (pw_or (pt_not (pt_val (pe_call (ok_is_number T) hr (by rfl) T.g_is_number T.F_is_number.kp T.B_is_number .nil pass0 (pa_cons (pv 1) pa_nil))))
      (pw_or1 (pt_cmpR op_gt (pv 1) (pe_glob (v := .int 1000000000000000000) (by rfl) ht ⟨tk, rfl⟩) (nomark _)))))
      (pss_one (ps_raise rfl (takes_of rfl rfl rfl rfl) (pmk_at T.S_Refused hr (pa_cons (pv 1) pa_nil)))) pss_nil)
      (pss_one (ps_ret (pe_call (ok_said T) hr (by rfl) T.g_said_effect T.F_said_effect.kp T.B_said_effect .nil pass0 (pa_cons (pe_fld (pv 0) (by rfl)) (pa_cons (pv 1) pa_nil))))), ?_⟩
    refine ⟨_, rfl, v, rfl, hv, _, rfl, ?_⟩
    rcases k with ⟨i, rfl, hi, k⟩ | ⟨bad, k⟩
    · refine no_if (by simp [isNum]) ⟨_, rfl, _, _, rfl, rfl, _, rfl, no_if (decide_eq_false (by omega)) ?_⟩
      exact ⟨_, rfl, x, _, dx, _, _, rfl, hx, T.cl_Turn, T.n_Turn_once, rfl, _, rfl, o, i, f, n, rfl, ho, by have := ok.n6; omega, ok.lt, fun H1 r s1 r0 hr' => k _ _ s1 r0 hr'⟩
    · have go : ∃ b : Bool, (b = true) := ⟨true, rfl⟩
      cases hn : isNum v with
      | false => exact so_if rfl (so_if rfl ⟨_, rfl, _, rfl, fun d hd => k _ d (same_new hd) upd_same⟩)
      | true =>
        cases v with
        | int i =>
          have h0 : 0 ≤ i := of_decide_eq_true hn
          have h1 : 1000000000000000000 < i := by
            unfold refused at bad
            rcases Bool.or_eq_true_iff.mp bad with z | z
            · have := of_decide_eq_true z
              simp at this
              omega
            · exact of_decide_eq_true z
          exact no_if rfl ⟨_, rfl, _, _, rfl, rfl, _, rfl, so_if (decide_eq_true h1) ⟨_, rfl, _, rfl, fun d hd => k _ d (same_new hd) upd_same⟩⟩
        | _ => cases hn
def spLeftAt (a : Ads) (K : PySem.W.Frag) : Sp := fun vs H Q E => ∃ (x D : Addr) (ls : List Nat) (f : Nat → Nat) (n : Nat) (v : V), vs = [.ref x, v] ∧ TurnAt a K H x D ls f n ∧ MapOk f n ∧ scalarV v = true ∧
  ((∃ t : Nat, v = .int t ∧ 1 ≤ t ∧ t ≤ 1000000000000000000 ∧ ∀ H', Same H H' → Q (.int (Rg.left f n t : Nat)) H') ∨ (refused true v = true ∧ ∀ H' d, Same H H' → H' d = some (.xd [("at", v)]) → E (.ref a.x_Refused) (some d) H'))
theorem sc_left_at : FnScope ["self", "times", "ring"] ["self", "times"] (defScope (inClass (top 27) 2)) := ⟨rfl, rfl, rfl, by decide +kernel, rfl, by decide +kernel, by decide +kernel⟩
theorem ok_left_at (T : Txt a K mg) : FnOk P0 w K mg base (L2.CX P0 w) 3 a.f_Turn_left_at a.d_Turn_left_at ["self", "times"] (spLeftAt a K) := by
  refine T.F_Turn_left_at.okX sc_left_at (fun vs H Q E h => ?_) (fun cdv A outer s H vs Q E hr h => ?_)
  · obtain ⟨_, _, _, _, _, _, rfl, _⟩ := h
    rfl
  · obtain ⟨x, D, ls, f, n, v, rfl, ⟨dx, o, r, t, hx, ho, ⟨rs, hrs, hrE⟩, _⟩, ok, hv, k⟩ := h
    obtain ⟨tk, ht⟩ := T.k_MOST_LENGTH
    refine ⟨_, pss_cons (ps_if (PW.pt (pw_or (pt_not (pt_val (pe_call (ok_is_number T) hr (by rfl) T.g_is_number T.F_is_number.kp T.B_is_number .nil pass0 (pa_cons (pv 1) pa_nil))))
      (pw_or1 (pt_not (pt_chain op_le op_le pe_int (pv 1) (pe_glob (v := .int 1000000000000000000) (by rfl) ht ⟨tk, rfl⟩))))))
      (pss_one (ps_raise rfl (takes_of rfl rfl rfl rfl) (pmk_at T.S_Refused hr (pa_cons (pv 1) pa_nil)))) pss_nil)
      (pss_one (ps_ret (pe_callB (cr_sum rfl) (by rfl) T.b_sum (by decide +kernel) (pa_cons
        (pe_lc (own := [("ring", 2)]) (g := gName 2) (tt := tTest (tOp rEq (tOp (rI (fun _ j => 0 < j) fun i j => .int (i % j)) (tVar 1) (tCB (rLen K) (tCons (tVar 2) tNil))) (tC (.int 0)))) (by rfl) sc_left_at.nd (pi_tup (pe_fld (pv 0) (by rfl))) (blkOk_by (N := ["self", "times", "ring"]) (sc := defScope (inClass (top 27) 2)) (by decide +kernel))
          (fun _ _ _ _ _ => pg_name (i := 2) sc_left_at.nd rfl (Or.inl rfl)) (fun _ _ _ _ _ => pts_one (pt_cmpR op_eq (pe_op op_mod (pv 1) (pe_callB (r := rLen K) (by exact len_q) (by rfl) T.b_len PySem.boot_len (pa_cons (pv 2) pa_nil))) pe_int (nomark _)))
          (fun _ _ _ _ _ => pe_callB (r := rLen K) (by exact len_q) (by rfl) T.b_len PySem.boot_len (pa_cons (pv 2) pa_nil))) pa_nil)))), ?_⟩
    refine ⟨_, rfl, v, rfl, hv, _, rfl, ?_⟩
    rcases k with ⟨i, rfl, hi, hi2, k⟩ | ⟨bad, k⟩
    · refine no_if (by simp [isNum]) ⟨_, rfl, _, _, rfl, rfl, _, rfl, so_if (decide_eq_true (by omega)) ⟨_, _, rfl, rfl, _, rfl, no_if (by rw [decide_eq_true (by omega)]; rfl) ?_⟩⟩
      refine ⟨_, rfl, x, _, dx, _, _, rfl, hx, T.cl_Turn, T.n_Turn_rings, rfl, r, rfl, ⟨_, hrs⟩, fun M hM => lc_tup (K := K) (a := r) (xs := refs rs) (fun j H' => Same H H' ∧ H' M = some (.lst (tN ((((Rg.rings f n).take j).filter (Rg.divs i)).map List.length)))) ⟨same_new hM, upd_same⟩ (fun j H' _ z => z.1.tup hrs) ?_ ?_⟩
      · rintro j y H' hy ⟨sm, hm⟩
        obtain ⟨q, hq, rfl⟩ := refs_of hy
        obtain ⟨l, hl', hql⟩ := hrE.get hq
        obtain ⟨lp, ln⟩ := Rg.ring_pos (List.mem_of_getElem? hl')
        refine ⟨rfl, _, rfl, _, rfl, q, _, rfl, .inr (sm.tup hql), _, _, rfl, rfl, by rw [tN_len]; omega, rfl, _, rfl, ?_⟩
        rw [tN_len]
        have el : ((((Rg.rings f n).take j).filter (Rg.divs i)).map List.length).length < 1000 := by
          rw [List.length_map]
          refine Nat.lt_of_le_of_lt (List.length_filter_le _ _) ?_
          rw [List.length_take]
          have : (Rg.rings f n).length ≤ n := by
            unfold Rg.rings
            rw [List.length_map]
            exact Nat.le_trans (List.length_filter_le _ _) (by rw [List.length_range]; exact Nat.le_refl _)
          have := ok.n6
          omega
        refine ite2 (fun c => ?_) (fun c => ?_)
        · have e : Rg.divs i l = true := by
            unfold Rg.divs
            have := V.int.inj (of_decide_eq_true c)
            rw [← Int.natCast_emod] at this
            have : i % l.length = 0 := by omega
            rw [this]; rfl
          refine ⟨_, rfl, q, _, rfl, .inr (sm.tup hql), _, hm, ?_, sm.upd_new hM, ?_⟩
          · rw [tN_len]; exact small1000 (Nat.le_of_lt el)
          · rw [upd_same, take_snoc hl', List.filter_append, List.map_append, List.filter_cons_of_pos e, tN_len]
            show some (HO.lst _) = some (HO.lst (tN (_ ++ [l.length])))
            rw [tN_snoc]
        · have e : ¬ Rg.divs i l = true := fun z => c (decide_eq_true (by
            unfold Rg.divs at z
            have := beq_iff_eq.mp z
            show V.int ((i : Int) % (l.length : Nat)) = V.int 0
            rw [← Int.natCast_emod, this]; rfl))
          refine ⟨sm, ?_⟩
          rw [hm, take_snoc hl', List.filter_append, List.filter_cons_of_neg e]
          simp
      · rintro H' ⟨sm, hm⟩
        rw [refs_len, hrE.1, List.take_length] at hm
        refine ⟨M, iz _, rfl, sqL (by rw [← tN_int]; exact hm), ?_⟩
        have e : (iz (((Rg.rings f n).filter (Rg.divs i)).map List.length)).sum = ((Rg.left f n i : Nat) : Int) := sum_iz _
        rw [e]
        exact k _ sm
    · cases hn : isNum v with
      | false => exact so_if rfl (so_if rfl ⟨_, rfl, _, rfl, fun d hd => k _ d (same_new hd) upd_same⟩)
      | true =>
        cases v with
        | int i =>
          have h0 : 0 ≤ i := of_decide_eq_true hn
          refine no_if rfl ⟨_, rfl, _, _, rfl, rfl, _, rfl, ite2 (fun z => ?_) (fun z => ?_)⟩
          · have z1 := of_decide_eq_true z
            have h1 : 1000000000000000000 < i := by
              unfold refused at bad
              rcases Bool.or_eq_true_iff.mp bad with z | z
              · have := of_decide_eq_true z
                simp at this
                omega
              · exact of_decide_eq_true z
            exact ⟨_, _, rfl, rfl, _, rfl, so_if (by rw [decide_eq_false (by omega)]; rfl) ⟨_, rfl, _, rfl, fun d hd => k _ d (same_new hd) upd_same⟩⟩
          · exact ⟨_, rfl, so_if rfl ⟨_, rfl, _, rfl, fun d hd => k _ d (same_new hd) upd_same⟩⟩
        | _ => cases hn
end
end K3
end

section
set_option Elab.async false
set_option linter.all false
set_option maxRecDepth 100000
set_option maxHeartbeats 4000000
/-! Turns: square_at, core. -/
namespace K3
open PySem L2 R3
section
variable {P : Program} {w : World} {K : PySem.W.Frag} {mg : Str → Option Value} {base : Heap} {a : Ads}
def spSquare (a : Ads) (K : PySem.W.Frag) : Sp := fun vs H Q _ => ∃ (x D : Addr) (ls : List Nat) (f : Nat → Nat) (n : Nat), vs = [.ref x] ∧ TurnAt a K H x D ls f n ∧ MapOk f n ∧ Q (.int (Rg.square f n : Nat)) H
theorem sc_square : FnScope ["self", "longest"] ["self"] (defScope (inClass (top 27) 3)) := ⟨rfl, rfl, rfl, by decide +kernel, rfl, by decide +kernel, by decide +kernel⟩
theorem tails_cons {f : Nat → Nat} {n : Nat} (h : 0 < n) : ∃ x l, tailsOf f n = x :: l ∧ l.foldl max x = Rg.longest f n := by
  cases e : tailsOf f n with
  | nil =>
    have := congrArg List.length e
    unfold tailsOf at this
    rw [List.length_map, List.length_range] at this
    exact absurd this (by simp; omega)
  | cons x l =>
    refine ⟨x, l, rfl, ?_⟩
    unfold Rg.longest
    rw [show (List.range n).map (Rg.tl f n) = x :: l from e]
    show l.foldl max x = l.foldl max (max 0 x)
    rw [Nat.max_eq_right (Nat.zero_le x)]
theorem ok_square (T : Txt a K mg) : FnOk P w K mg base CX0 1 a.f_Turn_square_at a.d_Turn_square_at ["self"] (spSquare a K) := by
  refine T.F_Turn_square_at.ok sc_square (fun vs H Q E h => ?_) (fun cdv A outer s H vs Q E hr h => ?_)
  · obtain ⟨_, _, _, _, _, rfl, _⟩ := h
    rfl
  · obtain ⟨x, D, ls, f, n, rfl, ⟨dx, o, r, t, hx, _, _, ht⟩, ok, k⟩ := h
    refine ⟨_, pss_cons (ps_set (i := 1) sc_square.nd rfl (.inl rfl) (pe_callB (cr_maxT rfl hr.units) (by rfl) T.b_max (by decide +kernel) (pa_cons (pe_fld (pv 0) (by rfl)) pa_nil)))
      (pss_one (ps_ret (pe_op op_mul (pe_fld (pv 0) (by rfl)) (pe_callB (call_max2 rfl) (by rfl) T.b_max (by decide +kernel) (pa_cons pe_int (pa_cons (pe_op op_fdiv (pe_op op_sub (pe_op op_add (pv 1) (pe_fld (pv 0) (by rfl))) pe_int) (pe_fld (pv 0) (by rfl))) pa_nil)))))), ?_⟩
    obtain ⟨y, l, el, em⟩ := tails_cons (f := f) ok.n0
    rw [el] at ht
    have hl := Rg.longest_lt ok.lt ok.n0
    obtain ⟨p0, p60⟩ := Rg.period_pos (f := f) ok.n6
    have n6 := ok.n6
    refine ⟨_, rfl, x, _, dx, _, _, rfl, hx, T.cl_Turn, T.n_Turn_tails, rfl, t, y, l, rfl, ht, ?_⟩
    rw [em]
    refine ⟨_, rfl, x, _, dx, _, _, rfl, hx, T.cl_Turn, T.n_Turn_period, rfl, _, rfl, _, rfl, x, _, dx, _, _, rfl, hx, T.cl_Turn, T.n_Turn_period, rfl, _, _, rfl, rfl, _, _, rfl, rfl, ?_⟩
    refine ⟨_, rfl, x, _, dx, _, _, rfl, hx, T.cl_Turn, T.n_Turn_period, rfl, _, _, rfl, rfl, ⟨by omega, by omega⟩, _, _, rfl, ?_⟩
    have e1 : (Rg.longest f n : Int) + (Rg.period f n : Nat) - 1 = ((Rg.longest f n + Rg.period f n - 1 : Nat) : Int) := by omega
    have e2 : (if (((Rg.longest f n : Nat) : Int) + ((Rg.period f n : Nat) : Int) - 1) / ((Rg.period f n : Nat) : Int) > 1 then (((Rg.longest f n : Nat) : Int) + ((Rg.period f n : Nat) : Int) - 1) / ((Rg.period f n : Nat) : Int) else 1) = ((max 1 ((Rg.longest f n + Rg.period f n - 1) / Rg.period f n) : Nat) : Int) := by
      rw [e1, ← Int.natCast_ediv]
      generalize (Rg.longest f n + Rg.period f n - 1) / Rg.period f n = q
      split <;> omega
    refine ⟨_, _, rfl, rfl, .inl ⟨by omega, by omega⟩, ?_⟩
    show Q (V.int (((Rg.period f n : Nat) : Int) * (if (((Rg.longest f n : Nat) : Int) + ((Rg.period f n : Nat) : Int) - 1) / ((Rg.period f n : Nat) : Int) > 1 then (((Rg.longest f n : Nat) : Int) + ((Rg.period f n : Nat) : Int) - 1) / ((Rg.period f n : Nat) : Int) else 1))) H
    rw [e2, ← Int.natCast_mul]
    exact k
/-! ### core -/
def spCore (a : Ads) (K : PySem.W.Frag) : Sp := fun vs H Q _ => ∃ (x D : Addr) (ls : List Nat) (f : Nat → Nat) (n : Nat), vs = [.ref x] ∧ TurnAt a K H x D ls f n ∧ MapOk f n ∧ ∀ H' r, Same H H' → H r = none → H' r = some (.tup (tN (Rg.core f n))) → Q (.ref r) H'
theorem left_core {f : Nat → Nat} {n : Nat} (ok : MapOk f n) : leftOf (Rg.pw f n (Rg.period f n)) = Rg.core f n := by
  unfold leftOf
  rw [Rg.pw_len, ← Rg.core_fix ok.lt ok.n6]
  refine List.filter_congr fun x hx => ?_
  rw [Rg.pw_getD (List.mem_range.mp hx)]
theorem sc_core : FnScope ["self"] ["self"] (defScope (inClass (top 27) 4)) := ⟨rfl, rfl, rfl, by decide +kernel, rfl, by decide +kernel, by decide +kernel⟩
theorem ok_core (T : Txt a K mg) : FnOk P w K mg base CX0 3 a.f_Turn_core a.d_Turn_core ["self"] (spCore a K) := by
  refine T.F_Turn_core.ok sc_core (fun vs H Q E h => ?_) (fun cdv A outer s H vs Q E hr h => ?_)
  · obtain ⟨_, _, _, _, _, rfl, _⟩ := h
    rfl
  · obtain ⟨x, D, ls, f, n, rfl, ⟨dx, o, r, t, hx, ho, _, _⟩, ok, k⟩ := h
    refine ⟨_, pss_one (ps_ret (pe_call (ok_left T) (hr.mono (by decide)) (by rfl) T.g_effect_left T.F_effect_left.kp T.B_effect_left .nil pass0 (pa_cons (pe_call (ok_said T) hr (by rfl) T.g_said_effect T.F_said_effect.kp T.B_said_effect .nil pass0 (pa_cons (pe_fld (pv 0) (by rfl)) (pa_cons (pe_fld (pv 0) (by rfl)) pa_nil))) pa_nil))), ?_⟩
    have n6 := ok.n6
    refine ⟨_, rfl, x, _, dx, _, _, rfl, hx, T.cl_Turn, T.n_Turn_once, rfl, _, rfl, x, _, dx, _, _, rfl, hx, T.cl_Turn, T.n_Turn_period, rfl, o, _, f, n, rfl, ho, by omega, ok.lt, fun H1 r1 s1 n1 h1 => ⟨r1, _, rfl, sqT h1, by rw [Rg.pw_len]; omega, fun H2 r2 s2 n2 h2 => k H2 r2 (s1.trans s2) (s1.free n2) ?_⟩⟩
    rw [left_core ok] at h2
    exact h2
end
end K3
end

section
set_option Elab.async false
set_option linter.all false
set_option maxRecDepth 100000
set_option maxHeartbeats 4000000
/-! How many rings of each length; where two turns are first unlike. -/
namespace K3
open PySem L2 R3
/-- d's number becomes v -/
def setTo (ks : List (Nat × Nat)) (d v : Nat) : List (Nat × Nat) := if d ∈ ks.map Prod.fst then ks.map (fun e => if e.1 = d then (e.1, v) else e) else ks ++ [(d, v)]
theorem ent_any (ks : List (Nat × Nat)) (d : Nat) : ((ks.map entN).any fun kv => decide (kv.1 = (Sum.inl (d : Int) : Key))) = decide (d ∈ ks.map Prod.fst) := by
  rw [Bool.eq_iff_iff, List.any_eq_true, decide_eq_true_iff]
  constructor
  · rintro ⟨kv, hk, e⟩
    obtain ⟨p, hp, rfl⟩ := List.mem_map.mp hk
    have e' : (Sum.inl (p.1 : Int) : Key) = Sum.inl (d : Int) := of_decide_eq_true e
    exact List.mem_map.mpr ⟨p, hp, Int.natCast_inj.mp (Sum.inl.inj e')⟩
  · intro h
    obtain ⟨p, hp, e⟩ := List.mem_map.mp h
    exact ⟨entN p, List.mem_map.mpr ⟨p, hp, rfl⟩, decide_eq_true (by rw [← e]; rfl)⟩
theorem ent_put (ks : List (Nat × Nat)) (d v : Nat) : putK (ks.map entN) (Sum.inl (d : Int)) (V.int (v : Nat)) = (setTo ks d v).map entN := by
  unfold putK setTo
  rw [ent_any]
  by_cases c : d ∈ ks.map Prod.fst
  · rw [decide_eq_true c, if_pos rfl, if_pos c, List.map_map, List.map_map]
    refine List.map_congr_left fun e _ => ?_
    show (if (Sum.inl (e.1 : Int) : Key) = Sum.inl (d : Int) then _ else _) = entN (if e.1 = d then _ else _)
    by_cases h : e.1 = d
    · rw [if_pos (by rw [h]), if_pos h]; rfl
    · rw [if_neg (fun z => h (Int.natCast_inj.mp (Sum.inl.inj z))), if_neg h]
      try rfl
  · rw [decide_eq_false c, if_neg (by decide), if_neg c, List.map_append]
    try rfl
/-- the numbers of what was met so far -/
structure Cnt (p : List Nat) (ks : List (Nat × Nat)) : Prop where
  nd : (ks.map Prod.fst).Nodup
  mem : ∀ d c, (d, c) ∈ ks ↔ d ∈ p ∧ c = p.count d
theorem Cnt.key {p : List Nat} {ks : List (Nat × Nat)} (h : Cnt p ks) {d : Nat} : d ∈ ks.map Prod.fst ↔ d ∈ p := by
  constructor
  · intro z
    obtain ⟨⟨e, c⟩, hp, rfl⟩ := List.mem_map.mp z
    exact ((h.mem e c).mp hp).1
  · intro z
    exact List.mem_map.mpr ⟨(d, p.count d), (h.mem _ _).mpr ⟨z, rfl⟩, rfl⟩
theorem Cnt.val {p : List Nat} : ∀ {ks : List (Nat × Nat)}, Cnt p ks → ∀ d : Nat, (valV (ks.map entN) (Sum.inl (d : Int))).getD (V.int 0) = V.int (p.count d : Nat) := by
  intro ks h d
  by_cases c : d ∈ p
  · have m := (h.mem d (p.count d)).mpr ⟨c, rfl⟩
    have fd : (ks.map entN).find? (fun kv => decide (kv.1 = (Sum.inl (d : Int) : Key))) = some (entN (d, p.count d)) := by
      cases e : (ks.map entN).find? (fun kv => decide (kv.1 = (Sum.inl (d : Int) : Key))) with
      | none =>
        have := List.find?_eq_none.mp e (entN (d, p.count d)) (List.mem_map.mpr ⟨_, m, rfl⟩)
        exact absurd (decide_eq_true rfl) this
      | some kv =>
        have e1 := List.find?_some e
        obtain ⟨q, hq, rfl⟩ := List.mem_map.mp (List.mem_of_find?_eq_some e)
        have e2 : q.1 = d := Int.natCast_inj.mp (Sum.inl.inj (show (Sum.inl (q.1 : Int) : Key) = Sum.inl (d : Int) from of_decide_eq_true e1))
        have e3 := (h.mem q.1 q.2).mp hq
        rw [e2] at e3
        have : q = (d, p.count d) := by rw [← e2, ← e2] at *; exact Prod.ext rfl (by rw [e3.2])
        rw [this]
    unfold valV
    rw [fd]; rfl
  · have n : valV (ks.map entN) (Sum.inl (d : Int)) = none := by
      have := valV_any (Sum.inl (d : Int)) (ks.map entN)
      rw [ent_any, decide_eq_false (fun z => c (h.key.mp z))] at this
      cases e : valV (ks.map entN) (Sum.inl (d : Int)) with
      | none => rfl
      | some v => rw [e] at this; cases this
    rw [n, List.count_eq_zero_of_not_mem c]; rfl
theorem Cnt.step {p : List Nat} {ks : List (Nat × Nat)} (h : Cnt p ks) (d : Nat) : Cnt (p ++ [d]) (setTo ks d (p.count d + 1)) := by
  have cd : ∀ e, (p ++ [d]).count e = p.count e + if d = e then 1 else 0 := fun e => by
    rw [List.count_append, List.count_singleton]
    by_cases z : d = e <;> simp [z]
  unfold setTo
  by_cases c : d ∈ ks.map Prod.fst
  · rw [if_pos c]
    refine ⟨?_, fun e v => ?_⟩
    · have e : (ks.map fun e => if e.1 = d then (e.1, p.count d + 1) else e).map Prod.fst = ks.map Prod.fst := by
        rw [List.map_map]
        refine List.map_congr_left fun e _ => ?_
        show (if e.1 = d then (e.1, p.count d + 1) else e).1 = e.1
        split <;> rfl
      rw [e]
      exact h.nd
    · rw [cd, List.mem_append, List.mem_singleton]
      constructor
      · intro z
        obtain ⟨⟨e', v'⟩, hp, ez⟩ := List.mem_map.mp z
        have q := (h.mem e' v').mp hp
        by_cases y : e' = d
        · rw [if_pos y] at ez
          cases ez
          refine ⟨.inl q.1, ?_⟩
          rw [y, if_pos rfl]
        · rw [if_neg y] at ez
          cases ez
          refine ⟨.inl q.1, ?_⟩
          rw [if_neg (fun w => y w.symm), q.2]; rfl
      · rintro ⟨z, rfl⟩
        refine List.mem_map.mpr ⟨(e, p.count e), (h.mem _ _).mpr ⟨?_, rfl⟩, ?_⟩
        · rcases z with z | z
          · exact z
          · rw [z]; exact h.key.mp c
        · show (if e = d then (e, p.count d + 1) else (e, p.count e)) = _
          by_cases y : e = d
          · rw [if_pos y, y, if_pos rfl]
          · rw [if_neg y, if_neg (fun w => y w.symm)]; rfl
  · rw [if_neg c]
    have cp : d ∉ p := fun z => c (h.key.mpr z)
    refine ⟨?_, fun e v => ?_⟩
    · rw [List.map_append]
      exact List.nodup_append.mpr ⟨h.nd, by simp, fun a ha b hb e => c (by
        have : b = d := by simpa using hb
        rw [← this, ← e]; exact ha)⟩
    · rw [cd, List.mem_append, List.mem_append, List.mem_singleton, List.mem_singleton]
      constructor
      · rintro (z | z)
        · have q := (h.mem e v).mp z
          refine ⟨.inl q.1, ?_⟩
          rw [if_neg (fun w => cp (by rw [w]; exact q.1)), q.2]; rfl
        · cases z
          exact ⟨.inr rfl, by rw [if_pos rfl]⟩
      · rintro ⟨z, rfl⟩
        rcases z with z | z
        · refine .inl ((h.mem e _).mpr ⟨z, ?_⟩)
          rw [if_neg (fun w => cp (by rw [w]; exact z))]; rfl
        · rw [z, if_pos rfl]
          exact .inr rfl
theorem Cnt.perm {l : List Nat} {ks : List (Nat × Nat)} (h : Cnt l ks) (hl : ∀ d ∈ l, 0 < d ∧ d ≤ 6) : ks.Perm (Rg.rn l) := by
  have n1 : ks.Nodup := (List.pairwise_map.mp h.nd).imp fun z e => z (by rw [e])
  have n2 : (Rg.rn l).Nodup := (Rg.rn_asc l).imp fun {p q} (z : p.1 < q.1) e => by rw [e] at z; omega
  exact (List.perm_ext_iff_of_nodup n1 n2).mpr fun p => by rw [Rg.mem_rn hl, ← h.mem]
section
variable {P : Program} {w : World} {K : PySem.W.Frag} {mg : Str → Option Value} {base : Heap} {a : Ads}
theorem MapOk.lens {f : Nat → Nat} {n : Nat} (ok : MapOk f n) : ∀ d ∈ Rg.lens f n, 0 < d ∧ d ≤ 6 := fun d hd => by
  have := Rg.lens_mem hd
  have := ok.n6
  omega
theorem MapOk.few {f : Nat → Nat} {n : Nat} (ok : MapOk f n) : (Rg.lens f n).length ≤ 6 := by
  unfold Rg.lens Rg.rings
  rw [List.length_map, List.length_map]
  refine Nat.le_trans (List.length_filter_le _ _) ?_
  rw [List.length_range]
  exact ok.n6
def spNumbers (a : Ads) (K : PySem.W.Frag) : Sp := fun vs H Q _ => ∃ (x D : Addr) (ls : List Nat) (f : Nat → Nat) (n : Nat), vs = [.ref x] ∧ TurnAt a K H x D ls f n ∧ MapOk f n ∧ ∀ H' r, Same H H' → TT K H' r ((Rg.rn (Rg.lens f n)).map row2) → Q (.ref r) H'
theorem sc_numbers : FnScope ["turn", "numbers", "ring"] ["turn"] (defScope (top 29)) := ⟨rfl, rfl, rfl, by decide +kernel, rfl, by decide +kernel, by decide +kernel⟩
theorem ok_numbers (T : Txt a K mg) : FnOk P w K mg base CX0 1 a.f_ring_numbers a.d_ring_numbers ["turn"] (spNumbers a K) := by
  refine T.F_ring_numbers.ok sc_numbers (fun vs H Q E h => ?_) (fun cdv A outer s H vs Q E hr h => ?_)
  · obtain ⟨_, _, _, _, _, rfl, _⟩ := h
    rfl
  · obtain ⟨x, D, ls, f, n, rfl, ⟨dx, o, r, t, hx, _, ⟨rs, hrs, hrE⟩, _⟩, ok, k⟩ := h
    have u1 : (A.deeper (PyProof.Rows.envOfC "ring_numbers" (defScope (top 29)) s.heap.objs.size a.f_ring_numbers cdv)).units + 1 < cLine := by have := hr.units; omega
    refine ⟨_, pss_cons (ps_set (i := 1) sc_numbers.nd rfl (.inl rfl) pe_dnewK)
      (pss_cons (ps_for PassesOwn.never rfl (pi_tup (pe_fld (pv 0) (by rfl))) (pg_name (i := 2) sc_numbers.nd rfl (Or.inl rfl))
        (pss_one (ps_dput u1 (pv 1) (pe_callB call_len_seq (by rfl) T.b_len PySem.boot_len (pa_cons (pv 2) pa_nil)) (pe_op op_add (pe_dget2 u1 (pv 1) (pe_callB call_len_seq (by rfl) T.b_len PySem.boot_len (pa_cons (pv 2) pa_nil)) pe_int ⟨by rfl, by rfl, by rfl, by rfl⟩) pe_int) (by rfl))))
      (pss_one (ps_ret (pe_callTy call_tuple_of (by rfl) T.b_tuple PyProof.Rows.boot_tuple (pa_cons (pe_callB (cr_sortPairs rfl hr.units) (by rfl) T.b_sorted (by decide +kernel) (pa_cons (pe_bm0 PySem.F.plainAttrs_dict PySem.F.slot_dict_items PySem.F.type_dict_items mt_itemsK (pv 1)) pa_nil)) pa_nil))))), ?_⟩
    refine fun M hM => ?_
    have s0 := same_new (o := .dK []) hM
    refine ⟨_, rfl, x, _, dx, _, _, rfl, s0 _ _ hx, T.cl_Turn, T.n_Turn_rings, rfl, r, rfl, ⟨_, s0.tup hrs⟩, for_tup (xs := refs rs) (fun i σ H' => ∃ ks v2, σ = [some (.ref x), some (.ref M), v2] ∧ Same H H' ∧ H' M = some (.dK (ks.map entN)) ∧ Cnt ((Rg.lens f n).take i) ks)
      ⟨[], _, rfl, s0, upd_same, ⟨by simp, fun d c => by simp⟩⟩ (fun i σ H' _ z => by obtain ⟨_, _, _, z, _⟩ := z; exact z.tup hrs) ?_ ?_⟩
    · rintro i y σ H' hy ⟨ks, v2, rfl, sm, hm, ct⟩
      obtain ⟨q, hq, rfl⟩ := refs_of hy
      obtain ⟨l, hl', hql⟩ := hrE.get hq
      have tk : (Rg.lens f n).take (i + 1) = (Rg.lens f n).take i ++ [l.length] := take_snoc (by unfold Rg.lens; rw [List.getElem?_map, hl']; rfl)
      have kl : ks.length ≤ 6 := by
        have := List.Nodup.length_le_of_subset ct.nd (l₂ := (Rg.lens f n).take i) fun d hd => ct.key.mp hd
        rw [List.length_map, List.length_take] at this
        have := ok.few
        omega
      refine ⟨_, rfl, M, rfl, .inl ⟨_, .inl hm⟩, _, rfl, q, _, rfl, .inr (sm.tup hql), _, DGet.k (k := Sum.inl ((tN l).length : Int)) hm, ?_⟩
      rw [tN_len]
      refine ⟨_, 1, ct.val l.length, rfl, _, rfl, _, rfl, q, _, rfl, .inr (sm.tup hql), M, _, rfl, DPut.k (k := Sum.inl ((tN l).length : Int)) hm ?_, ?_⟩
      · rw [List.length_map]; exact small1000 (by omega)
      refine ⟨setTo ks l.length (((Rg.lens f n).take i).count l.length + 1), _, rfl, sm.upd_new hM, ?_, ?_⟩
      · rw [upd_same, tN_len, ← ent_put]
        rfl
      · rw [tk]
        exact ct.step l.length
    · rintro σ H' ⟨ks, v2, rfl, sm, hm, ct⟩
      have e : (Rg.lens f n).take (refs rs).length = Rg.lens f n := by
        rw [refs_len, hrE.1, List.take_of_length_le]
        unfold Rg.lens
        rw [List.length_map]
        exact Nat.le_refl _
      rw [e] at ct
      have kl : ks.length ≤ 1000 := by
        have := List.Nodup.length_le_of_subset ct.nd (l₂ := Rg.lens f n) fun d hd => ct.key.mp hd
        rw [List.length_map] at this
        have := ok.few
        omega
      refine ⟨_, rfl, .inr (.inr (.inl ⟨rfl, .inl ⟨_, hm⟩⟩)), M, _, rfl, rfl, hm, fun p hp => ⟨p, M, ks, rfl, upd_same, same_new hp _ _ hm, kl, fun H2 l qs s2 n2 h2 hE => ⟨l, _, rfl, .inl ⟨sqL h2, fun r2 hr2 => ?_⟩⟩⟩⟩
      rw [sort_pairs (ct.perm ok.lens)] at hE
      have s3 := same_new (o := .tup (refs qs)) hr2
      exact k _ r2 (((sm.trans (same_new hp)).trans s2).trans s3) ⟨qs, sqT upd_same, hE.mono fun _ _ z => s3.tup z⟩
end
end K3
end

section
set_option Elab.async false
set_option linter.all false
set_option maxRecDepth 100000
set_option maxHeartbeats 4000000
/-! Where two turns are first unlike. -/
namespace K3
open PySem L2 R3
/-- an answer or None -/
def optV : Option Nat → V
  | none => .non
  | some t => .int t
theorem find_at {p : Nat → Bool} : ∀ {S : List Nat} {i d : Nat}, S[i]? = some d → p d = true → (∀ e ∈ S.take i, p e = false) → S.find? p = some d
  | [], _, _, h, _, _ => by cases h
  | s :: S, 0, d, h, hp, _ => by
    cases h
    rw [List.find?_cons_of_pos hp]
  | s :: S, i + 1, d, h, hp, hb => by
    rw [List.find?_cons_of_neg (by rw [hb s (by simp)]; decide)]
    exact find_at (i := i) h hp fun e he => hb e (by rw [List.take_succ_cons]; exact List.mem_cons_of_mem _ he)
/-- a set of the numbers p -/
def SetIs (w : World) (H : Hp) (D : Addr) (p : List Nat) : Prop := ∃ (S : Int → Bool) (k : Nat), H D = some (SetO w D S k) ∧ (∀ j : Int, S j = true ↔ ∃ d ∈ p, j = (d : Int)) ∧ k ≤ p.length
section
variable {w : World} {K : PySem.W.Frag} {mg : Str → Option Value} {base : Heap} {a : Ads}
def spUnlike (a : Ads) (K : PySem.W.Frag) : Sp := fun vs H Q _ => ∃ (x D x' D' : Addr) (ls ls' : List Nat) (f f' : Nat → Nat) (n n' : Nat), vs = [.ref x, .ref x'] ∧ TurnAt a K H x D ls f n ∧ MapOk f n ∧ TurnAt a K H x' D' ls' f' n' ∧ MapOk f' n' ∧
  ∀ H', Same H H' → Q (optV (Rg.apart (Rg.lens f n) (Rg.lens f' n')).head?) H'
theorem sc_unlike : FnScope ["one", "other", "lengths", "length", "turn", "ring"] ["one", "other"] (defScope (top 30)) := ⟨rfl, rfl, rfl, by decide +kernel, rfl, by decide +kernel, by decide +kernel⟩
theorem ok_unlike (T : Txt a K mg) : FnOk P0 w K mg base CX0 4 a.f_first_unlike a.d_first_unlike ["one", "other"] (spUnlike a K) := by
  refine T.F_first_unlike.ok sc_unlike (fun vs H Q E h => ?_) (fun cdv A outer s H vs Q E hr h => ?_)
  · obtain ⟨_, _, _, _, _, _, _, _, _, _, rfl, _⟩ := h
    rfl
  · obtain ⟨x, D, x', D', ls, ls', f, f', n, n', rfl, hx, ok, hx', ok', k⟩ := h
    refine ⟨_, pss_cons (ps_set (i := 2) sc_unlike.nd rfl (.inl rfl) (pe_callB (cr_sortedSet rfl) (by rfl) T.b_sorted (by decide +kernel) (pa_cons
        (pe_sc2 (own := [("turn", 4), ("ring", 5)]) (vs1 := [5]) (g := gName 4) (g1 := gName 5) (wi1 := iTup K (tFld K (tVar 4) "rings")) (te := tCB (rLen K) (tCons (tVar 5) tNil)) rfl sc_unlike.nd (pi_tup (pe_tup (pa_cons (pv 0) (pa_cons (pv 1) pa_nil)))) (blkOk_by (N := ["one", "other", "lengths", "length", "turn", "ring"]) (sc := defScope (top 30)) (by decide +kernel)) (by decide)
          (fun _ _ _ _ _ => pg_name (i := 4) sc_unlike.nd rfl (Or.inl rfl)) (fun _ _ _ _ _ => by exact pi_tup (pe_fld (pv 4) (by rfl))) (fun _ _ _ _ _ => pg_name (i := 5) sc_unlike.nd rfl (Or.inl rfl)) (fun _ _ _ _ _ => pe_callB (r := rLen K) (by exact len_q) (by rfl) T.b_len PySem.boot_len (pa_cons (pv 5) pa_nil))) pa_nil)))
      (pss_cons (ps_for PassesOwn.never rfl (pi_list (pv 2)) (pg_name (i := 3) sc_unlike.nd rfl (Or.inl rfl))
        (pss_one (ps_if (pt_cmpR op_ne (pe_meth (E := E0) (pv 0) T.cl_Turn T.m_Turn_left_at (ok_left_at T) hr T.B_Turn_left_at .nil passL (pa_cons (pv 3) pa_nil)) (pe_meth (E := E0) (pv 1) T.cl_Turn T.m_Turn_left_at (ok_left_at T) hr T.B_Turn_left_at .nil passL (pa_cons (pv 3) pa_nil)) (nomark _))
          (pss_one (ps_ret (pv 3))) pss_nil)))
      (pss_one (ps_ret pe_non))), ?_⟩
    refine ⟨_, rfl, _, rfl, by show 2 ≤ sizeLine; decide, fun q0 hq0 => ⟨q0, rfl, ⟨_, sqT upd_same⟩, fun M hM => ?_⟩⟩
    have s0 := same_new (o := .tup [.ref x, .ref x']) hq0
    have h0 : (upd H q0 (.tup [.ref x, .ref x'])) q0 = some _ := upd_same
    generalize upd H q0 (.tup [.ref x, .ref x']) = H0 at s0 h0 hM ⊢
    have few := ok.few
    have few' := ok'.few
    refine by_walk (walk_tup (xs := [.ref x, .ref x'])) (fun i H' => Same H0 H' ∧ SetIs w H' M (if i = 0 then [] else if i = 1 then Rg.lens f n else Rg.lens f n ++ Rg.lens f' n'))
      ⟨same_new hM, _, _, upd_same, fun j => by simp, Nat.le_refl _⟩ (fun i H' _ z => sqT (z.1 _ _ h0)) ?_ ?_
    · rintro i y H1 H2 hi ⟨sm, st⟩ ⟨rfl, hy⟩
      obtain ⟨z, Dz, lz, fz, nz, p, rfl, tz, okz, ep, es, pl⟩ : ∃ (z Dz : Addr) (lz : List Nat) (fz : Nat → Nat) (nz : Nat) (p : List Nat), y = .ref z ∧ TurnAt a K H z Dz lz fz nz ∧ MapOk fz nz ∧ (if i = 0 then [] else if i = 1 then Rg.lens f n else Rg.lens f n ++ Rg.lens f' n') = p ∧
          (if i + 1 = 0 then [] else if i + 1 = 1 then Rg.lens f n else Rg.lens f n ++ Rg.lens f' n') = p ++ Rg.lens fz nz ∧ p.length ≤ 6 := by
        match i, hy with
        | 0, hy => cases hy; exact ⟨x, D, ls, f, n, [], rfl, hx, ok, rfl, rfl, Nat.zero_le _⟩
        | 1, hy => cases hy; exact ⟨x', D', ls', f', n', Rg.lens f n, rfl, hx', ok', rfl, rfl, few⟩
        | i + 2, hy => cases hy
      rw [ep] at st
      rw [es]
      obtain ⟨dz, oz, rz, tlz, hz, _, ⟨rs, hrs, hrE⟩, _⟩ := tz
      have s1 := s0.trans sm
      have fewz := okz.few
      refine ⟨rfl, _, rfl, z, _, dz, _, _, rfl, s1 _ _ hz, T.cl_Turn, T.n_Turn_rings, rfl, rz, rfl, ⟨_, s1.tup hrs⟩, by_walk (walk_tup (xs := refs rs)) (fun j H' => Same H0 H' ∧ SetIs w H' M (p ++ (Rg.lens fz nz).take j)) ⟨sm, by rw [List.take_zero, List.append_nil]; exact st⟩ (fun j H' _ z => (s0.trans z.1).tup hrs) ?_ ?_⟩
      · rintro j y H3 H4 hj ⟨s3, S, c, hS, hm, hc⟩ ⟨rfl, hy⟩
        obtain ⟨q, hq, rfl⟩ := refs_of hy
        obtain ⟨l, hl', hql⟩ := hrE.get hq
        have tk : (Rg.lens fz nz).take (j + 1) = (Rg.lens fz nz).take j ++ [l.length] := take_snoc (by unfold Rg.lens; rw [List.getElem?_map, hl']; rfl)
        have tl : ((Rg.lens fz nz).take j).length ≤ 6 := Nat.le_trans (by rw [List.length_take]; exact Nat.min_le_right _ _) fewz
        rw [List.length_append] at hc
        refine ⟨rfl, _, rfl, q, _, rfl, .inr ((s0.trans s3).tup hql), _, S, c, rfl, hS, by show c + 1 < 4096; omega, s3.upd_new hM, _, _, upd_same, fun j' => ?_, ?_⟩
        · rw [tN_len, tk, Bool.or_eq_true, hm, decide_eq_true_iff]
          constructor
          · rintro (⟨d, hd, e⟩ | e)
            · refine ⟨d, ?_, e⟩
              rw [← List.append_assoc]
              exact List.mem_append_left _ hd
            · exact ⟨l.length, by simp, e⟩
          · rintro ⟨d, hd, e⟩
            rw [← List.append_assoc] at hd
            rcases List.mem_append.mp hd with h | h
            · exact .inl ⟨d, h, e⟩
            · have : d = l.length := by simpa using h
              rw [this] at e
              exact .inr e
        · rw [tk, ← List.append_assoc, List.length_append, List.length_append]
          show _ ≤ _ + 1
          split <;> omega
      · rintro H3 ⟨s3, st3⟩
        have e : (Rg.lens fz nz).take (refs rs).length = Rg.lens fz nz := by
          rw [refs_len, hrE.1, List.take_of_length_le]
          unfold Rg.lens
          rw [List.length_map]
          exact Nat.le_refl _
        rw [e] at st3
        exact ⟨s3, st3⟩
    · rintro H1 ⟨s1, S, c, hS, hm, hc⟩
      change ∀ j : Int, S j = true ↔ ∃ d ∈ Rg.lens f n ++ Rg.lens f' n', j = (d : Int) at hm
      change c ≤ (Rg.lens f n ++ Rg.lens f' n').length at hc
      rw [List.length_append] at hc
      refine ⟨M, S, c, rfl, hS, by omega, fun ns p2 asc mem _ hp2 => ?_⟩
      obtain ⟨A, rfl⟩ : ∃ A : List Nat, ns = iz A := by
        refine ⟨ns.map Int.toNat, ?_⟩
        unfold iz
        rw [List.map_map]
        refine (List.map_id _).symm.trans (List.map_congr_left fun i hi => ?_)
        obtain ⟨d, _, e⟩ := (hm i).mp ((mem i).mp hi)
        show i = ((i.toNat : Nat) : Int)
        omega
      have Aasc : Rg.Asc A (Rg.lens f n) (Rg.lens f' n') := by
        refine ⟨?_, fun d => ?_⟩
        · unfold iz at asc
          rw [List.pairwise_map] at asc
          exact asc.imp fun h => by omega
        · have : d ∈ A ↔ (d : Int) ∈ iz A := by
            unfold iz
            rw [List.mem_map]
            exact ⟨fun h => ⟨d, h, rfl⟩, fun ⟨e, h, q⟩ => by rw [← Int.natCast_inj.mp q]; exact h⟩
          rw [this, mem, hm]
          constructor
          · rintro ⟨e, he, q⟩
            rw [Int.natCast_inj.mp q]
            exact List.mem_append.mp he
          · intro h
            exact ⟨d, List.mem_append.mpr h, rfl⟩
      have told := Rg.told_eq Aasc ok.lens ok'.lens
      have s2 := (s0.trans s1).trans (same_new (o := .lst ((iz A).map V.int)) hp2)
      have h2 : (upd H1 p2 (.lst ((iz A).map V.int))) p2 = some _ := upd_same
      rw [← tN_int] at s2 h2 ⊢
      generalize upd H1 p2 (.lst (tN A)) = H2 at s2 h2 ⊢
      refine ⟨_, rfl, p2, rfl, ⟨_, sqL h2⟩, for_list (xs := tN A) (fun i σ H' => Same H2 H' ∧ (∃ v3 v4 v5, σ = [some (.ref x), some (.ref x'), some (.ref p2), v3, v4, v5]) ∧ ∀ d ∈ A.take i, (Rg.L (Rg.lens f n) d != Rg.L (Rg.lens f' n') d) = false)
        ⟨Same.refl _, ⟨_, _, _, rfl⟩, by simp⟩ (fun i σ H' _ z => sqL (z.1 _ _ h2)) ?_ ?_⟩
      · rintro i y σ H' hy ⟨sm, ⟨v3, v4, v5, rfl⟩, hb⟩
        obtain ⟨d, hd, rfl⟩ := tN_of hy
        have dm := (Aasc.mem d).mp (List.mem_of_getElem? hd)
        have dr : 0 < d ∧ d ≤ 6 := dm.elim (fun h => ok.lens d h) fun h => ok'.lens d h
        have sa := s2.trans sm
        have hx3 := hx.mono sa
        obtain ⟨dx, _, _, _, ex, _⟩ := id hx3
        refine ⟨_, rfl, x, dx, _, rfl, ex, rfl, _, rfl, x, D, ls, f, n, .int d, rfl, hx3, ok, rfl, .inl ⟨d, rfl, by omega, by omega, fun H4 s4 => ?_⟩⟩
        have sb := sa.trans s4
        have hx4 := hx'.mono sb
        obtain ⟨dx', _, _, _, ex', _⟩ := id hx4
        refine ⟨_, rfl, x', dx', _, rfl, ex', rfl, _, rfl, x', D', ls', f', n', .int d, rfl, hx4, ok', rfl, .inl ⟨d, rfl, by omega, by omega, fun H5 s5 => ⟨rfl, _, rfl, ?_⟩⟩⟩
        rw [Rg.left_L, Rg.left_L]
        refine ite2 (fun z => ?_) (fun z => ?_)
        · have ne : (Rg.L (Rg.lens f n) d != Rg.L (Rg.lens f' n') d) = true := by
            refine bne_iff_ne.mpr fun e => ?_
            rw [e] at z
            simp at z
          rw [find_at hd ne hb] at told
          refine ⟨_, rfl, ?_⟩
          have := k H5 (sb.trans s5)
          rw [← told] at this
          exact this
        · have eq : (Rg.L (Rg.lens f n) d != Rg.L (Rg.lens f' n') d) = false := by
            refine bne_eq_false_iff_eq.mpr (Classical.byContradiction fun e => z ?_)
            rw [decide_eq_false (fun y => e (Int.natCast_inj.mp (V.int.inj y)))]; rfl
          refine ⟨(sm.trans s4).trans s5, ⟨_, _, _, rfl⟩, fun e he => ?_⟩
          rw [take_snoc hd] at he
          rcases List.mem_append.mp he with h | h
          · exact hb e h
          · rw [show e = d by simpa using h]; exact eq
      · rintro σ H' ⟨sm, ⟨v3, v4, v5, rfl⟩, hb⟩
        rw [tN_len, List.take_length] at hb
        have fn : A.find? (fun d => Rg.L (Rg.lens f n) d != Rg.L (Rg.lens f' n') d) = none := List.find?_eq_none.mpr fun e he => by rw [hb e he]; decide
        rw [fn] at told
        have := k H' (s2.trans sm)
        rw [← told] at this
        exact this
end
end K3
end

section
set_option Elab.async false
set_option linter.all false
set_option maxRecDepth 100000
set_option maxHeartbeats 4000000
/-! The law's draws. -/
namespace K3
open PySem L2 R3
/-- the box of the draws: any three ints -/
def BoxAt (H : Hp) (b : Addr) : Prop := ∃ u v z : Int, H b = some (.lst [.int u, .int v, .int z])
theorem BoxAt.mono {H H' : Hp} {b : Addr} (s : Same H H') (h : BoxAt H b) : BoxAt H' b := let ⟨u, v, z, e⟩ := h; ⟨u, v, z, s _ _ e⟩
/-- int(x) -/
def rInt : List V → Hp → VK → Prop := fun xs H Q => (∃ i, xs = [.int i] ∧ Q (.int i) H) ∨ ∃ k, xs = [.bl k] ∧ Q (.int (if k then 1 else 0)) H
theorem ix_pick (b : Bool) (c : Int) : atI [V.int 0, V.int c] (if b = true then 1 else 0) = some (.int (if b = true then c else 0)) := by cases b <;> rfl
/-- what comes behind, shown once for all ways there -/
theorem seq_then {B C : TS} {D : Ends} {σ : L2.St} {H : Hp} (S : L2.St → Hp → Prop) (h1 : ∀ σ' H', S σ' H' → C D σ' H') (h2 : (∀ σ' H', S σ' H' → C D σ' H') → B { D with nx := C D } σ H) : tSeq B C D σ H := h2 h1
section
variable {P : Program} {w : World} {K : PySem.W.Frag} {mg : Str → Option Value} {base : Heap} {a : Ads}
def spBox (K : PySem.W.Frag) : Sp := fun vs H Q _ => ∃ (p : Addr) (k : Nat) (ns : List Int), vs = [.ref p, .int k] ∧ k ≤ 2 ∧ SqL K H p (ns.map V.int) ∧ ns.length ≤ 63 ∧ ∀ H' b, Same H H' → H b = none → BoxAt H' b → Q (.ref b) H'
theorem sc_box : FnScope ["_law_script", "_law_k", "_law_cell"] ["_law_script", "_law_k"] (defScope (top 32)) := ⟨rfl, rfl, rfl, by decide +kernel, rfl, by decide +kernel, by decide +kernel⟩
theorem ok_box (T : Txt a K mg) : FnOk P w K mg base CX0 1 a.f_law_box a.d_law_box ["_law_script", "_law_k"] (spBox K) := by
  refine T.F_law_box.ok sc_box (fun vs H Q E h => ?_) (fun cdv A outer s H vs Q E hr h => ?_)
  · obtain ⟨_, _, _, rfl, _⟩ := h
    rfl
  · obtain ⟨p, k, ns, rfl, hk, hs, hn, q⟩ := h
    refine ⟨_, pss_cons (ps_set (i := 2) sc_box.nd rfl (.inl rfl) (pe_op op_add (pe_op op_mul pe_int (pv 1)) pe_int))
      (pss_cons (ps_if (pt_cmpR op_lt (pv 1) (pe_callB call_len_seq (by rfl) T.b_len PySem.boot_len (pa_cons (pv 0) pa_nil)) (nomark _))
        (pss_one (ps_set (i := 2) sc_box.nd rfl (.inl rfl) (pe_callB call_abs (by rfl) T.b_abs PyProof.Rows.boot_abs (pa_cons (pe_ix (r := rIxL K) (by exact ix_list) (pv 0) (pv 1) (fun _ _ => rfl)) pa_nil))))
        (pss_one (ps_if (pt_cmpR op_gt (pe_callB call_len_seq (by rfl) T.b_len PySem.boot_len (pa_cons (pv 0) pa_nil)) pe_int (nomark _))
          (pss_one (ps_set (i := 2) sc_box.nd rfl (.inl rfl) (pe_op op_add (pv 2) (pe_op op_mul (pe_op op_mod (pe_callTy call_int1 (by rfl) T.b_int PyProof.Rows.boot_int (pa_cons (pe_callB call_abs (by rfl) T.b_abs PyProof.Rows.boot_abs (pa_cons (pe_ix (r := rIxL K) (by exact ix_list) (pv 0) (pe_op op_mod (pe_callTy call_int1 (by rfl) T.b_int PyProof.Rows.boot_int (pa_cons (pv 1) pa_nil)) (pe_callB call_len_seq (by rfl) T.b_len PySem.boot_len (pa_cons (pv 0) pa_nil))) (fun _ _ => rfl)) pa_nil)) pa_nil)) pe_int) pe_int))))
          pss_nil)))
      (pss_one (ps_ret (pe_lst (pa_cons (pe_ix (r := rIxL K) (by exact ix_list) (pe_lst (pa_cons pe_int (pa_cons (pv 2) pa_nil))) (pe_callTy call_int1 (by rfl) T.b_int PyProof.Rows.boot_int (pa_cons (pe_cmpR op_ge (pv 2) (pe_op op_pow pe_int pe_int) (nomark _)) pa_nil)) (fun _ _ => rfl))
        (pa_cons (pe_op op_add (pe_op op_mod (pe_callTy call_int1 (by rfl) T.b_int PyProof.Rows.boot_int (pa_cons (pe_op op_add (pe_op op_mul (pe_op op_mod (pe_callTy call_int1 (by rfl) T.b_int PyProof.Rows.boot_int (pa_cons (pv 2) pa_nil)) pe_int) pe_int) (pe_op op_mul pe_int (pv 1))) pa_nil)) pe_int) pe_int)
        (pa_cons pe_int pa_nil))))))), ?_⟩
    refine ⟨_, rfl, _, _, rfl, rfl, .inl ⟨by decide, by decide⟩, _, _, rfl, rfl, ?_⟩
    unfold gName
    dsimp only
    refine seq_then (B := tIfS _ _ _) (C := tRet _) (fun σ' H' => H' = H ∧ ∃ c : Int, σ' = [some (.ref p), some (.int (k : Nat)), some (.int c)]) ?_ fun fin => ?_
    · rintro σ' H' ⟨rfl, c, rfl⟩
      refine ⟨_, rfl, by show 2 ≤ sizeLine; decide, fun l hl => ?_⟩
      have hl1 := same_new (o := .lst [.int 0, .int c]) hl
      refine ⟨_, rfl, _, _, rfl, rfl, ⟨by decide, by decide, by decide⟩, _, _, rfl, rfl, .inr ⟨_, rfl, ?_⟩⟩
      refine ⟨l, _, _, _, rfl, rfl, sqL upd_same, ix_pick _ c, ?_⟩
      refine ⟨_, rfl, .inl ⟨_, rfl, _, _, rfl, rfl, (show (0 : Int) < 2147483543 by decide), _, _, rfl, rfl, .inr ⟨by decide, by decide⟩, _, rfl, _, _, rfl, rfl, .inl ⟨by decide, by decide⟩, _, _, rfl, rfl, ?_⟩⟩
      refine .inl ⟨_, rfl, _, _, rfl, rfl, (show (0 : Int) < 2147483543 by decide), _, _, rfl, rfl, by show 3 ≤ sizeLine; decide, fun b hb => q _ b (hl1.trans (same_new hb)) (hl1.free hb) ⟨_, _, _, upd_same⟩⟩
    refine ⟨_, rfl, _, rfl, p, _, rfl, .inl hs, _, _, rfl, rfl, _, rfl, ite2 (fun c => ?_) (fun c => ?_)⟩
    · have kl : k < ns.length := by
        have := of_decide_eq_true c
        rw [List.length_map] at this
        omega
      have at_ : (ns.map V.int)[k]? = some (.int ns[k]) := by rw [List.getElem?_map, List.getElem?_eq_getElem kl]; rfl
      refine ⟨_, rfl, _, rfl, p, _, _, _, rfl, rfl, hs, atI_nat at_, _, rfl, fin _ _ ⟨rfl, _, rfl⟩⟩
    · refine ⟨_, rfl, p, _, rfl, .inl hs, _, _, rfl, rfl, _, rfl, ite2 (fun c2 => ?_) (fun c2 => ?_)⟩
      · have l0 : 0 < ns.length := by
          have := of_decide_eq_true c2
          rw [List.length_map] at this
          omega
        have kl : k % ns.length < ns.length := Nat.mod_lt _ l0
        have at_ : (ns.map V.int)[k % ns.length]? = some (.int ns[k % ns.length]) := by rw [List.getElem?_map, List.getElem?_eq_getElem kl]; rfl
        have ai : atI (ns.map V.int) ((k : Int) % ((ns.map V.int).length : Nat)) = some (.int ns[k % ns.length]) := by
          rw [List.length_map, show ((k : Int) % (ns.length : Nat)) = ((k % ns.length : Nat) : Int) by rw [Int.natCast_emod]]
          exact atI_nat at_
        exact ⟨_, rfl, _, rfl, _, rfl, .inl ⟨_, rfl, _, rfl, p, _, rfl, .inl hs, _, _, rfl, rfl, by rw [List.length_map]; omega, p, _, _, _, rfl, rfl, hs, ai, _, rfl, .inl ⟨_, rfl, _, _, rfl, rfl, (show (0 : Int) < 2147483543 by decide), _, _, rfl, rfl, .inr ⟨by decide, by decide⟩, _, _, rfl, rfl, fin _ _ ⟨rfl, _, rfl⟩⟩⟩⟩
      · exact fin _ _ ⟨rfl, _, rfl⟩
/-! ### a digit -/
def spTake : Sp := fun vs H Q _ => ∃ (b : Addr) (m : Nat), vs = [.ref b, .int m] ∧ BoxAt H b ∧ 0 < m ∧ m ≤ 16777216 ∧ ∀ H' (d : Nat), d < m → SameBut b H H' → BoxAt H' b → Q (.int d) H'
theorem sc_take : FnScope ["_law_box_here", "_law_many", "_law_digit", "_law_raw"] ["_law_box_here", "_law_many"] (defScope (top 33)) := ⟨rfl, rfl, rfl, by decide +kernel, rfl, by decide +kernel, by decide +kernel⟩
theorem digit {i : Int} {m : Nat} (h : 0 < m) : ∃ d : Nat, d < m ∧ i % (m : Int) = (d : Nat) := by
  have h0 := Int.emod_nonneg i (show (m : Int) ≠ 0 by omega)
  have h1 := Int.emod_lt_of_pos i (show (0 : Int) < m by omega)
  exact ⟨(i % (m : Int)).toNat, by omega, by omega⟩
theorem ok_take (T : Txt a K mg) : FnOk P w K mg base CX0 1 a.f_law_take a.d_law_take ["_law_box_here", "_law_many"] spTake := by
  refine T.F_law_take.ok sc_take (fun vs H Q E h => ?_) (fun cdv A outer s H vs Q E hr h => ?_)
  · obtain ⟨_, _, rfl, _⟩ := h
    rfl
  · obtain ⟨b, m, rfl, ⟨u, v, z, hb⟩, m0, m1, q⟩ := h
    refine ⟨_, pss_cons (ps_if (pt_cmpR op_gt (pe_ix (r := rIxL K) (by exact ix_list) (pv 0) pe_int (fun _ _ => rfl)) pe_int (nomark _))
        (pss_cons (ps_set (i := 2) sc_take.nd rfl (.inl rfl) (pe_op op_mod (pe_callTy call_int1 (by rfl) T.b_int PyProof.Rows.boot_int (pa_cons (pe_ix (r := rIxL K) (by exact ix_list) (pv 0) pe_int (fun _ _ => rfl)) pa_nil)) (pv 1)))
        (pss_cons (ps_asg (pe_op op_fdiv (pe_ix (r := rIxL K) (by exact ix_list) (pv 0) pe_int (fun _ _ => rfl)) (pv 1)) (pg_sub (pv 0) pe_int set_list))
        (pss_one (ps_ret (pv 2))))) pss_nil)
      (pss_cons (ps_asg (pe_op op_add (pe_ix (r := rIxL K) (by exact ix_list) (pv 0) pe_int (fun _ _ => rfl)) pe_int) (pg_sub (pv 0) pe_int set_list))
      (pss_cons (ps_set (i := 3) sc_take.nd rfl (.inl rfl) (pe_op op_mod (pe_callTy call_int1 (by rfl) T.b_int PyProof.Rows.boot_int (pa_cons (pe_op op_add (pe_op op_mul (pe_op op_add (pe_ix (r := rIxL K) (by exact ix_list) (pv 0) pe_int (fun _ _ => rfl)) (pe_op op_mul pe_int (pe_ix (r := rIxL K) (by exact ix_list) (pv 0) pe_int (fun _ _ => rfl)))) pe_int) pe_int) pa_nil)) pe_int))
      (pss_cons (ps_asg (pe_op op_add (pe_op op_mod (pe_callTy call_int1 (by rfl) T.b_int PyProof.Rows.boot_int (pa_cons (pe_op op_add (pe_op op_mul (pv 3) pe_int) pe_int) pa_nil)) pe_int) pe_int) (pg_sub (pv 0) pe_int set_list))
      (pss_one (ps_ret (pe_op op_mod (pe_callTy call_int1 (by rfl) T.b_int PyProof.Rows.boot_int (pa_cons (pe_op op_fdiv (pe_op op_add (pe_op op_mul (pv 3) pe_int) (pe_ix (r := rIxL K) (by exact ix_list) (pv 0) pe_int (fun _ _ => rfl))) pe_int) pa_nil)) (pv 1))))))), ?_⟩
    have at0 : ∀ u v z : Int, atI [V.int u, V.int v, V.int z] 0 = some (.int u) := fun _ _ _ => rfl
    have at1 : ∀ u v z : Int, atI [V.int u, V.int v, V.int z] 1 = some (.int v) := fun _ _ _ => rfl
    have at2 : ∀ u v z : Int, atI [V.int u, V.int v, V.int z] 2 = some (.int z) := fun _ _ _ => rfl
    refine ⟨_, rfl, b, _, 0, _, rfl, rfl, sqL hb, at0 _ _ _, _, _, rfl, rfl, _, rfl, ite2 (fun c => ?_) (fun c => ?_)⟩
    · refine ⟨_, rfl, b, _, 0, _, rfl, rfl, sqL hb, at0 _ _ _, .inl ⟨_, rfl, _, rfl, _, _, rfl, rfl, (show (0 : Int) < m by omega), ?_⟩⟩
      refine ⟨_, rfl, b, _, 0, _, rfl, rfl, sqL hb, at0 _ _ _, _, rfl, _, _, rfl, rfl, ⟨by omega, by omega⟩, ?_⟩
      obtain ⟨d, dm, ed⟩ := digit (i := u) m0
      refine ⟨_, rfl, b, _, 0, 0, rfl, rfl, hb, rfl, _, rfl, ?_⟩
      show Q (V.int (u % (m : Int))) _
      rw [ed]
      exact q _ d dm SameBut.upd' ⟨_, _, _, upd_same⟩
    · refine ⟨_, rfl, b, _, 2, _, rfl, rfl, sqL hb, at2 _ _ _, _, _, rfl, rfl, _, rfl, b, _, 2, 2, rfl, rfl, hb, rfl, ?_⟩
      have s1 := SameBut.upd' (x := b) (H := H) (o := .lst ([V.int u, .int v, .int z].set 2 (.int (z + 1))))
      have b1 : (upd H b (.lst ([V.int u, .int v, .int z].set 2 (.int (z + 1))))) b = some (.lst [.int u, .int v, .int (z + 1)]) := upd_same
      generalize (upd H b (.lst ([V.int u, .int v, .int z].set 2 (.int (z + 1))))) = H1 at s1 b1 ⊢
      refine ⟨_, rfl, b, _, 1, _, rfl, rfl, sqL b1, at1 _ _ _, _, rfl, b, _, 2, _, rfl, rfl, sqL b1, at2 _ _ _, _, _, rfl, rfl, .inl ⟨by decide, by decide⟩, _, _, rfl, rfl, _, _, rfl, rfl, .inr ⟨by decide, by decide⟩, _, _, rfl, rfl, .inl ⟨_, rfl, _, _, rfl, rfl, (show (0 : Int) < 2147483497 by decide), ?_⟩⟩
      refine ⟨_, rfl, _, _, rfl, rfl, .inr ⟨by decide, by decide⟩, _, _, rfl, rfl, .inl ⟨_, rfl, _, _, rfl, rfl, (show (0 : Int) < 2147483543 by decide), _, _, rfl, rfl, _, rfl, b, _, 1, 1, rfl, rfl, b1, rfl, ?_⟩⟩
      dsimp only
      generalize ((v + 70001 * (z + 1)) * 60089 + 43) % 2147483497 = raw
      have s2 := s1.trans (SameBut.upd' (x := b) (H := H1) (o := .lst ([V.int u, .int v, .int (z + 1)].set 1 (.int ((raw * 47059 + 20011) % 2147483543 + 1)))))
      have b2 : (upd H1 b (.lst ([V.int u, .int v, .int (z + 1)].set 1 (.int ((raw * 47059 + 20011) % 2147483543 + 1))))) b = some (.lst [.int u, .int ((raw * 47059 + 20011) % 2147483543 + 1), .int (z + 1)]) := upd_same
      generalize (upd H1 b (.lst ([V.int u, .int v, .int (z + 1)].set 1 (.int ((raw * 47059 + 20011) % 2147483543 + 1))))) = H2 at s2 b2 ⊢
      refine ⟨_, rfl, _, _, rfl, rfl, .inr ⟨by decide, by decide⟩, _, rfl, b, _, 1, _, rfl, rfl, sqL b2, at1 _ _ _, _, _, rfl, rfl, _, _, rfl, rfl, ⟨by decide, by decide⟩, .inl ⟨_, rfl, _, rfl, _, _, rfl, rfl, (show (0 : Int) < m by omega), ?_⟩⟩
      obtain ⟨d, dm, ed⟩ := digit (i := (raw * 2147483629 + ((raw * 47059 + 20011) % 2147483543 + 1)) / 8209) m0
      show Q (V.int ((raw * 2147483629 + ((raw * 47059 + 20011) % 2147483543 + 1)) / 8209 % (m : Int))) H2
      rw [ed]
      exact q _ d dm s2 ⟨_, _, _, b2⟩
/-! ### one of some -/
def rLenV (K : PySem.W.Frag) : List V → Hp → VK → Prop := fun xs H Q => ∃ x n, xs = [x] ∧ LenV K x H n ∧ Q (.int n) H
theorem lenV_q {X : Cx} : CallR X (.builtin "len") (rLenV X.K) := call_len
def spPick (K : PySem.W.Frag) : Sp := fun vs H Q _ => ∃ (b : Addr) (x : V), vs = [.ref b, x] ∧ BoxAt H b ∧
  ((∃ (p : Addr) (xs : List V), x = .ref p ∧ p ≠ b ∧ H p = some (.lst xs) ∧ 0 < xs.length ∧ xs.length ≤ 1000 ∧ ∀ y ∈ xs, ∀ H', SameBut b H H' → BoxAt H' b → Q y H') ∨
   ∃ z : PySem.Str, x = .str z ∧ 0 < z.length ∧ z.length ≤ 1000 ∧ ∀ c ∈ z.cps.toList, ∀ H', SameBut b H H' → BoxAt H' b → Q (.str ⟨#[c]⟩) H')
theorem sc_pick : FnScope ["_law_box_here", "_law_some"] ["_law_box_here", "_law_some"] (defScope (top 34)) := ⟨rfl, rfl, rfl, by decide +kernel, rfl, by decide +kernel, by decide +kernel⟩
theorem ok_pick (T : Txt a K mg) : FnOk P w K mg base CX0 2 a.f_law_pick a.d_law_pick ["_law_box_here", "_law_some"] (spPick K) := by
  refine T.F_law_pick.ok sc_pick (fun vs H Q E h => ?_) (fun cdv A outer s H vs Q E hr h => ?_)
  · obtain ⟨_, _, rfl, _⟩ := h
    rfl
  · obtain ⟨b, x, rfl, hb, k⟩ := h
    refine ⟨_, pss_one (ps_ret (pe_ix ix_seq (pv 1) (pe_call (ok_take T) hr (by rfl) T.g_law_take T.F_law_take.kp T.B_law_take .nil pass0 (pa_cons (pv 0) (pa_cons (pe_callB lenV_q (by rfl) T.b_len PySem.boot_len (pa_cons (pv 1) pa_nil)) pa_nil))) (fun _ _ => rfl))), ?_⟩
    rcases k with ⟨p, xs, rfl, pb, hp, l0, l1, k⟩ | ⟨z, rfl, l0, l1, k⟩
    · refine ⟨_, rfl, _, rfl, _, rfl, _, xs.length, rfl, .inl ⟨xs, sqL hp, rfl⟩, b, xs.length, rfl, hb, l0, by omega, fun H1 d dm s1 b1 => .inl ⟨p, xs, _, _, rfl, rfl, sqL (s1 _ _ hp pb), atI_nat (List.getElem?_eq_getElem dm), k _ (List.getElem_mem dm) _ s1 b1⟩⟩
    · have dz : ∀ d, d < z.length → d < z.cps.toList.length := fun d h => by rw [Array.length_toList]; exact h
      refine ⟨_, rfl, _, rfl, _, rfl, _, z.length, rfl, ⟨by rw [sizeLine_eq]; omega, rfl⟩, b, z.length, rfl, hb, l0, by omega, fun H1 d dm s1 b1 => .inr (.inr ⟨z, _, _, rfl, rfl, by rw [sizeLine_eq]; omega, atI_nat (List.getElem?_eq_getElem (dz d dm)), k _ (List.getElem_mem (dz d dm)) _ s1 b1⟩)⟩
end
end K3
end

section
set_option Elab.async false
set_option linter.all false
set_option maxRecDepth 100000
set_option maxHeartbeats 4000000
/-! The law's tables and rows. -/
namespace K3
open PySem L2 R3
theorem SameBut.free {b q : Addr} {H H' : Hp} (s : SameBut b H H') (hb : ∃ o, H' b = some o) (h : H' q = none) : H q = none := by
  cases e : H q with
  | none => rfl
  | some o =>
    by_cases c : q = b
    · subst c
      obtain ⟨o', hb⟩ := hb
      rw [hb] at h; cases h
    · rw [s _ _ e c] at h; cases h
theorem BoxAt.some {H : Hp} {b : Addr} (h : BoxAt H b) : ∃ o, H b = some o := let ⟨_, _, _, e⟩ := h; ⟨_, e⟩
theorem BoxAt.keep {H : Hp} {b q : Addr} {o : HO} (h : BoxAt H b) (n : b ≠ q) : BoxAt (upd H q o) b := let ⟨u, v, z, e⟩ := h; ⟨u, v, z, (upd_ne n).trans e⟩
theorem at_val {F : V → Hp → Prop} {v v' : V} {H : Hp} (e : v = v') (h : F v' H) : F v H := e ▸ h
/-- a row of n numbers below n is being made at D -/
def RowTo (b : Addr) (Hc : Hp) (D : Addr) (n j : Nat) (H' : Hp) : Prop := SameBut b Hc H' ∧ BoxAt H' b ∧ ∃ l : List Nat, H' D = some (.lst (tN l)) ∧ l.length = j ∧ ∀ x ∈ l, x < n
theorem RowTo.start {b D : Addr} {Hc : Hp} {n : Nat} (hb : BoxAt Hc b) (hD : Hc D = none) : RowTo b Hc D n 0 (upd Hc D (.lst [])) :=
  ⟨(same_new hD).but, hb.mono (same_new hD), [], upd_same, rfl, by simp⟩
theorem RowTo.step {b D : Addr} {Hc H' : Hp} {n j d : Nat} {l : List Nat} (hD : Hc D = none) (s : SameBut b Hc H') (hb : BoxAt H' b) (h : H' D = some (.lst (tN l))) (hl : l.length = j) (hx : ∀ x ∈ l, x < n) (dn : d < n) (ne : D ≠ b) :
    RowTo b Hc D n (j + 1) (upd H' D (.lst (tN l ++ [.int d]))) := by
  refine ⟨fun q o e nb => ?_, hb.keep (Ne.symm ne), l ++ [d], ?_, by rw [List.length_append, hl]; rfl, fun x h => ?_⟩
  · rw [upd_ne (ne_of_none e hD)]; exact s _ _ e nb
  · rw [upd_same, tN_snoc]
  · rcases List.mem_append.mp h with h | h
    · exact hx x h
    · rw [show x = d by simpa using h]; exact dn
section
variable {P : Program} {w : World} {K : PySem.W.Frag} {mg : Str → Option Value} {base : Heap} {a : Ads}
/-- a list of rows, none of them the box -/
def TLb (b : Addr) (H : Hp) (q : Addr) (ls : List (List Nat)) : Prop := ∃ ps : List Addr, H q = some (.lst (refs ps)) ∧ EachG (fun p l => p ≠ b ∧ H p = some (.lst (tN l))) ps ls
theorem TLb.tl {b q : Addr} {H : Hp} {ls : List (List Nat)} (h : TLb b H q ls) : TL H q ls := let ⟨ps, h1, h2⟩ := h; ⟨ps, h1, h2.mono fun _ _ z => z.2⟩
theorem TLb.mono {b q : Addr} {H H' : Hp} {ls : List (List Nat)} (s : Same H H') (h : TLb b H q ls) : TLb b H' q ls := let ⟨ps, h1, h2⟩ := h; ⟨ps, s _ _ h1, h2.mono fun _ _ z => ⟨z.1, s _ _ z.2⟩⟩
theorem TLb.but {b q : Addr} {H H' : Hp} {ls : List (List Nat)} (s : SameBut b H H') (n : q ≠ b) (h : TLb b H q ls) : TLb b H' q ls := let ⟨ps, h1, h2⟩ := h; ⟨ps, s _ _ h1 n, h2.mono fun _ _ z => ⟨z.1, s _ _ z.2 z.1⟩⟩
def spTables : Sp := fun vs H Q _ => ∃ (b : Addr) (most k : Nat), vs = [.ref b, .int most, .int k] ∧ BoxAt H b ∧ 0 < most ∧ most ≤ 6 ∧ 0 < k ∧ k ≤ 5 ∧
  ∀ H' L ls n, SameBut b H H' → BoxAt H' b → H L = none → TLb b H' L ls → ls.length = k → n ≤ most → TabsOk ls n → Q (.ref L) H'
theorem sc_tables : FnScope ["_law_box_here", "_law_most", "_law_signals", "_law_many", "_law_found", "_law_signal", "_law_style", "_law_state", "_law_shift"] ["_law_box_here", "_law_most", "_law_signals"] (defScope (top 35)) := ⟨rfl, rfl, rfl, by decide +kernel, rfl, by decide +kernel, by decide +kernel⟩
theorem ok_tables (T : Txt a K mg) : FnOk P w K mg base CX0 3 a.f_law_tables a.d_law_tables ["_law_box_here", "_law_most", "_law_signals"] spTables := by
  refine T.F_law_tables.ok sc_tables (fun vs H Q E h => ?_) (fun cdv A outer s H vs Q E hr h => ?_)
  · obtain ⟨_, _, _, rfl, _⟩ := h
    rfl
  · obtain ⟨b, most, k, rfl, hb, m0, m6, k0, k5, q⟩ := h
    refine ⟨_, pss_cons (ps_set (i := 3) sc_tables.nd rfl (.inr rfl) (pe_op op_add pe_int (pe_call (ok_take T) (hr.mono (by decide)) (by rfl) T.g_law_take T.F_law_take.kp T.B_law_take .nil pass0 (pa_cons (pv 0) (pa_cons (pv 1) pa_nil)))))
      (pss_cons (ps_set (i := 4) sc_tables.nd rfl (.inl rfl) (pe_lst pa_nil))
      (pss_cons (ps_for PassesOwn.never rfl (pi_range1 (by rfl) T.b_range (pa_cons (pv 2) pa_nil)) (pg_name (i := 5) sc_tables.nd rfl (Or.inl rfl))
        (pss_cons (ps_set (i := 6) sc_tables.nd rfl (.inl rfl) (pe_call (ok_pick T) hr (by rfl) T.g_law_pick T.F_law_pick.kp T.B_law_pick .nil pass0 (pa_cons (pv 0) (pa_cons (pe_lst (pa_cons pe_int (pa_cons pe_int (pa_cons pe_int (pa_cons pe_int (pa_cons pe_int pa_nil)))))) pa_nil))))
        (pss_one (ps_if (pt_cmpR op_eq (pv 6) pe_int (nomark _))
          (pss_one (ps_expr (pe_bm PySem.F.plainAttrs_list PySem.F.slot_list_append PySem.F.type_list_append mt_append (pv 4) (pa_cons
            (pe_lc (own := [("_law_state", 7)]) (g := gName 7) (tt := tYes) (by rfl) sc_tables.nd (pi_range1 (by rfl) T.b_range (pa_cons (pv 3) pa_nil)) (blkOk_by (N := ["_law_box_here", "_law_most", "_law_signals", "_law_many", "_law_found", "_law_signal", "_law_style", "_law_state", "_law_shift"]) (sc := defScope (top 35)) (by decide +kernel))
              (fun _ _ _ _ _ => pg_name (i := 7) sc_tables.nd rfl (Or.inl rfl)) (fun _ _ _ _ _ => pts_nil) (fun _ _ _ _ _ => pe_call (ok_take T) (hr.mono (by decide)) (by rfl) T.g_law_take T.F_law_take.kp T.B_law_take .nil pass0 (pa_cons (pv 0) (pa_cons (pv 3) pa_nil)))) pa_nil))))
          (pss_one (ps_if (pt_cmpR op_eq (pv 6) pe_int (nomark _))
            (pss_one (ps_expr (pe_bm PySem.F.plainAttrs_list PySem.F.slot_list_append PySem.F.type_list_append mt_append (pv 4) (pa_cons
              (pe_lc (own := [("_law_state", 7)]) (g := gName 7) (tt := tYes) (by rfl) sc_tables.nd (pi_range1 (by rfl) T.b_range (pa_cons (pv 3) pa_nil)) (blkOk_by (N := ["_law_box_here", "_law_most", "_law_signals", "_law_many", "_law_found", "_law_signal", "_law_style", "_law_state", "_law_shift"]) (sc := defScope (top 35)) (by decide +kernel))
                (fun _ _ _ _ _ => pg_name (i := 7) sc_tables.nd rfl (Or.inl rfl)) (fun _ _ _ _ _ => pts_nil) (fun _ _ _ _ _ => pe_ifExp (pt_cmpR op_eq (pe_call (ok_take T) (hr.mono (by decide)) (by rfl) T.g_law_take T.F_law_take.kp T.B_law_take .nil pass0 (pa_cons (pv 0) (pa_cons pe_int pa_nil))) pe_int (nomark _)) (pv 7)
                  (pe_call (ok_take T) (hr.mono (by decide)) (by rfl) T.g_law_take T.F_law_take.kp T.B_law_take .nil pass0 (pa_cons (pv 0) (pa_cons (pv 3) pa_nil))))) pa_nil))))
            (pss_cons (ps_set (i := 8) sc_tables.nd rfl (.inr rfl) (pe_call (ok_take T) (hr.mono (by decide)) (by rfl) T.g_law_take T.F_law_take.kp T.B_law_take .nil pass0 (pa_cons (pv 0) (pa_cons (pv 3) pa_nil))))
            (pss_one (ps_expr (pe_bm PySem.F.plainAttrs_list PySem.F.slot_list_append PySem.F.type_list_append mt_append (pv 4) (pa_cons
              (pe_lc (own := [("_law_state", 7)]) (g := gName 7) (tt := tYes) (by rfl) sc_tables.nd (pi_range1 (by rfl) T.b_range (pa_cons (pv 3) pa_nil)) (blkOk_by (N := ["_law_box_here", "_law_most", "_law_signals", "_law_many", "_law_found", "_law_signal", "_law_style", "_law_state", "_law_shift"]) (sc := defScope (top 35)) (by decide +kernel))
                (fun _ _ _ _ _ => pg_name (i := 7) sc_tables.nd rfl (Or.inl rfl)) (fun _ _ _ _ _ => pts_nil) (fun _ _ _ _ _ => pe_op op_mod (pe_callTy call_int1 (by rfl) T.b_int PyProof.Rows.boot_int (pa_cons (pe_op op_add (pv 7) (pv 8)) pa_nil)) (pv 3))) pa_nil)))))))))))
      (pss_one (ps_ret (pv 4))))), ?_⟩
    refine ⟨_, rfl, _, rfl, b, most, rfl, hb, m0, by omega, fun H1 d dm s1 b1 => ⟨_, _, rfl, rfl, ?_⟩⟩
    obtain ⟨n, en⟩ : ∃ n, n = 1 + d := ⟨_, rfl⟩
    have nm : n ≤ most := by omega
    have n0 : 0 < n := by omega
    have ev : V.int ((n : Nat) : Int) = V.int (1 + (d : Int)) := by rw [en]; rfl
    refine ⟨Nat.zero_le _, fun L hL => ?_⟩
    have Lb : L ≠ b := fun e => by
      subst e
      obtain ⟨o, e⟩ := b1.some
      rw [e] at hL; cases hL
    have nL : H L = none := s1.free b1.some hL
    refine ⟨_, rfl, (k : Int), rfl, by omega, by omega, for_range (n := k) (fun i σ H' => ∃ v5 v6 v7 v8, σ = [some (.ref b), some (.int most), some (.int k), some (.int n), some (.ref L), v5, v6, v7, v8] ∧ SameBut b H H' ∧ BoxAt H' b ∧ ∃ ps ls, H' L = some (.lst (refs ps)) ∧ EachG (fun p l => p ≠ b ∧ p ≠ L ∧ H' p = some (.lst (tN l))) ps ls ∧ ls.length = i ∧ ∀ l ∈ ls, l.length = n ∧ ∀ x ∈ l, x < n)
      ?_ ?_ ?_⟩
    · rw [ev]
      exact ⟨_, _, _, _, rfl, s1.then (same_new hL), b1.mono (same_new hL), [], [], upd_same, EachG.nil, rfl, by simp⟩
    · rintro i σ H' hi ⟨v5, v6, v7, v8, rfl, sm, bm, ps, ls, hL', hps, hls, hok⟩
      refine ⟨_, rfl, by show 5 ≤ sizeLine; decide, fun p hp => ?_⟩
      have bp : b ≠ p := fun e => by
        subst e
        obtain ⟨o, e⟩ := bm.some
        rw [e] at hp; cases hp
      refine ⟨b, .ref p, rfl, bm.keep bp, .inl ⟨p, _, rfl, Ne.symm bp, upd_same, by decide, by decide, fun y hy H2 s2 b2 => ?_⟩⟩
      obtain ⟨c, rfl⟩ : ∃ c : Int, y = .int c := by
        simp only [List.mem_cons, List.not_mem_nil, or_false] at hy
        rcases hy with h | h | h | h | h <;> exact ⟨_, h⟩
      have s2' : SameBut b H' H2 := fun q o e nb => s2 _ _ (by rw [upd_ne (ne_of_none e hp)]; exact e) nb
      have h2L := s2' _ _ hL' Lb
      have fin : ∀ (D : Addr) (H3 : Hp), H2 D = none → RowTo b H2 D n n H3 → H3 L = some (.lst (refs ps)) ∧ SameBut b H (upd H3 L (.lst (refs ps ++ [.ref D]))) ∧ BoxAt (upd H3 L (.lst (refs ps ++ [.ref D]))) b ∧
          ∃ ps' ls', (upd H3 L (.lst (refs ps ++ [.ref D]))) L = some (.lst (refs ps')) ∧ EachG (fun p l => p ≠ b ∧ p ≠ L ∧ (upd H3 L (.lst (refs ps ++ [.ref D]))) p = some (.lst (tN l))) ps' ls' ∧ ls'.length = i + 1 ∧ ∀ l ∈ ls', l.length = n ∧ ∀ x ∈ l, x < n := by
        rintro D H3 hD ⟨s3, b3, l, hl, ll, lx⟩
        have LD : L ≠ D := ne_of_none h2L hD
        have Db : D ≠ b := fun e => by
          subst e
          obtain ⟨o, e⟩ := b2.some
          rw [e] at hD
          cases hD
        refine ⟨s3 _ _ h2L Lb, ?_, b3.keep (Ne.symm Lb), ps ++ [D], ls ++ [l], by rw [upd_same, refs_snoc], EachG.snoc ⟨hps.1, fun j q m h1 h2 => ?_⟩ ⟨Db, Ne.symm LD, (upd_ne (Ne.symm LD)).trans hl⟩, by rw [List.length_append, hls]; rfl, fun m hm => ?_⟩
        · intro q o e nb
          rw [upd_ne (ne_of_none e nL)]
          exact s3 _ _ (s2' _ _ (sm _ _ e nb) nb) nb
        · obtain ⟨qb, qL, e0⟩ := hps.2 j q m h1 h2
          exact ⟨qb, qL, (upd_ne qL).trans (s3 _ _ (s2' _ _ e0 qb) qb)⟩
        · rcases List.mem_append.mp hm with h | h
          · exact hok m h
          · rw [show m = l by simpa using h]; exact ⟨ll, lx⟩
      have few : (refs ps).length < 1000 := by rw [refs_len, hps.1, hls]; omega
      have fs : (refs ps).length < sizeLine := small1000 (Nat.le_of_lt few)
      have nb : ∀ {D : Addr}, H2 D = none → D ≠ b := fun {D} hD e => by
        subst e
        obtain ⟨o, e⟩ := b2.some
        rw [e] at hD
        cases hD
      refine ⟨_, rfl, rfl, _, rfl, ite2 (fun _ => ?_) (fun _ => ⟨_, rfl, rfl, _, rfl, ite2 (fun _ => ?_) (fun _ => ?_)⟩)⟩
      · refine ⟨_, rfl, .inl ⟨rfl, _, sqL h2L⟩, _, rfl, (n : Int), rfl, by omega, by omega, fun D hD => lc_range (n := n) (fun j H3 => RowTo b H2 D n j H3) (RowTo.start b2 hD) ?_ ?_⟩
        · rintro j H3 hj ⟨s3, b3, l, hl, ll, lx⟩
          refine ⟨rfl, yes_ok ⟨_, rfl, _, rfl, b, n, rfl, b3, n0, by omega, fun H4 d dn s4 b4 => ⟨_, s4 _ _ hl (nb hD), ?_, RowTo.step hD (s3.trans s4) b4 (s4 _ _ hl (nb hD)) ll lx dn (nb hD)⟩⟩⟩
          rw [tN_len]; exact small1000 (by omega)
        · rintro H3 hr
          obtain ⟨f1, f2, f3, f4⟩ := fin D H3 hD hr
          exact ⟨L, _, _, rfl, rfl, f1, fs, _, _, _, _, rfl, f2, f3, f4⟩
      · refine ⟨_, rfl, .inl ⟨rfl, _, sqL h2L⟩, _, rfl, (n : Int), rfl, by omega, by omega, fun D hD => lc_range (n := n) (fun j H3 => RowTo b H2 D n j H3) (RowTo.start b2 hD) ?_ ?_⟩
        · rintro j H3 hj ⟨s3, b3, l, hl, ll, lx⟩
          have lz : (tN l).length < sizeLine := by rw [tN_len]; exact small1000 (by omega)
          refine ⟨rfl, yes_ok ⟨_, rfl, b, 2, rfl, b3, by decide, by decide, fun H4 d dn s4 b4 => ⟨rfl, _, rfl, ite2 (fun _ => ?_) (fun _ => ?_)⟩⟩⟩
          · refine ⟨_, rfl, _, s4 _ _ hl (nb hD), lz, ?_⟩
            rw [Int.zero_add]
            exact RowTo.step hD (s3.trans s4) b4 (s4 _ _ hl (nb hD)) ll lx hj (nb hD)
          · refine ⟨_, rfl, _, rfl, b, n, rfl, b4, n0, by omega, fun H5 d dn s5 b5 => ⟨_, s5 _ _ (s4 _ _ hl (nb hD)) (nb hD), lz, RowTo.step hD ((s3.trans s4).trans s5) b5 (s5 _ _ (s4 _ _ hl (nb hD)) (nb hD)) ll lx dn (nb hD)⟩⟩
        · rintro H3 hr
          obtain ⟨f1, f2, f3, f4⟩ := fin D H3 hD hr
          exact ⟨L, _, _, rfl, rfl, f1, fs, _, _, _, _, rfl, f2, f3, f4⟩
      · refine ⟨_, rfl, _, rfl, b, n, rfl, b2, n0, by omega, fun H5 sh sn s5 b5 => ?_⟩
        refine ⟨_, rfl, .inl ⟨rfl, _, sqL (s5 _ _ h2L Lb)⟩, _, rfl, (n : Int), rfl, by omega, by omega, fun D hD => lc_range (n := n) (fun j H3 => RowTo b H5 D n j H3) (RowTo.start b5 hD) ?_ ?_⟩
        · rintro j H3 hj ⟨s3, b3, l, hl, ll, lx⟩
          have lz : (tN l).length < sizeLine := by rw [tN_len]; exact small1000 (by omega)
          have Db : D ≠ b := nb (s5.free b5.some hD)
          obtain ⟨d, dn, ed⟩ := digit (i := 0 + (j : Int) + (sh : Nat)) n0
          have st := RowTo.step hD s3 b3 hl ll lx dn Db
          rw [← ed] at st
          exact ⟨rfl, yes_ok ⟨_, rfl, _, rfl, _, _, rfl, rfl, .inl ⟨_, rfl, _, rfl, _, _, rfl, rfl, (show (0 : Int) < n by omega), _, hl, lz, st⟩⟩⟩
        · rintro H3 ⟨s3, b3, r⟩
          obtain ⟨f1, f2, f3, f4⟩ := fin D H3 (s5.free b5.some hD) ⟨s5.trans s3, b3, r⟩
          exact ⟨L, _, _, rfl, rfl, f1, fs, _, _, _, _, rfl, f2, f3, f4⟩
    · rintro σ H' ⟨v5, v6, v7, v8, rfl, sm, bm, ps, ls, hL', hps, hls, hok⟩
      exact ⟨_, rfl, q H' L ls n sm bm nL ⟨ps, hL', hps.mono fun _ _ z => ⟨z.1, z.2.2⟩⟩ hls nm ⟨by omega, by omega, n0, by omega, fun l hl => (hok l hl).1, fun l hl => (hok l hl).2⟩⟩
/-! ### rows -/
def spRow : Sp := fun vs H Q _ => ∃ (b : Addr) (k m : Nat), vs = [.ref b, .str (rowS (List.range k)), .int m] ∧ BoxAt H b ∧ 0 < k ∧ k ≤ 5 ∧ m ≤ 5 ∧ ∀ H' ls, SameBut b H H' → BoxAt H' b → ls.length ≤ 5 → (∀ l ∈ ls, l < k) → Q (.str (rowS ls)) H'
theorem sc_row : FnScope ["_law_box_here", "_law_signals", "_law_most", "_law_turn"] ["_law_box_here", "_law_signals", "_law_most"] (defScope (top 36)) := ⟨rfl, rfl, rfl, by decide +kernel, rfl, by decide +kernel, by decide +kernel⟩
/-- the text of one sign -/
def sgn (l : Nat) : PySem.Str := ⟨#[l + 97]⟩
theorem joinL_nil : ∀ ls : List Nat, TL.joinL [] (ls.map fun l => [l + 97]) = ls.map (· + 97)
  | [] => rfl
  | [_] => rfl
  | x :: y :: r => by
    show [x + 97] ++ ([] ++ TL.joinL [] ((y :: r).map fun l => [l + 97])) = _
    rw [joinL_nil (y :: r)]; rfl
theorem join_row (ls : List Nat) : Txt.join "" (ls.map sgn) = rowS ls := by
  have h := SX.join_S [] (ls.map fun l => [l + 97])
  rw [joinL_nil, List.map_map] at h
  exact h
theorem ok_row (T : Txt a K mg) : FnOk P w K mg base CX0 3 a.f_law_row a.d_law_row ["_law_box_here", "_law_signals", "_law_most"] spRow := by
  refine T.F_law_row.ok sc_row (fun vs H Q E h => ?_) (fun cdv A outer s H vs Q E hr h => ?_)
  · obtain ⟨_, _, _, rfl, _⟩ := h
    rfl
  · obtain ⟨b, k, m, rfl, hb, k0, k5, m5, q⟩ := h
    refine ⟨_, pss_one (ps_ret (pe_join pe_str (pe_lc (own := [("_law_turn", 3)]) (g := gName 3) (tt := tYes) (by rfl) sc_row.nd (pi_range1 (by rfl) T.b_range (pa_cons (pe_call (ok_take T) (hr.mono (by decide)) (by rfl) T.g_law_take T.F_law_take.kp T.B_law_take .nil pass0 (pa_cons (pv 0) (pa_cons (pe_op op_add (pv 2) pe_int) pa_nil))) pa_nil)) (blkOk_by (N := ["_law_box_here", "_law_signals", "_law_most", "_law_turn"]) (sc := defScope (top 36)) (by decide +kernel))
        (fun _ _ _ _ _ => pg_name (i := 3) sc_row.nd rfl (Or.inl rfl)) (fun _ _ _ _ _ => pts_nil) (fun _ _ _ _ _ => pe_call (ok_pick T) hr (by rfl) T.g_law_pick T.F_law_pick.kp T.B_law_pick .nil pass0 (pa_cons (pv 0) (pa_cons (pv 1) pa_nil)))))), ?_⟩
    refine ⟨⟨_, rfl⟩, _, rfl, _, rfl, _, _, rfl, rfl, b, m + 1, rfl, hb, Nat.succ_pos _, by omega, fun H1 d dm s1 b1 => ⟨(d : Int), rfl, by omega, by omega, fun D hD => ?_⟩⟩
    have Db : D ≠ b := fun e => by
      subst e
      obtain ⟨o, e⟩ := b1.some
      rw [e] at hD
      cases hD
    refine lc_range (n := d) (fun j H' => SameBut b H1 H' ∧ BoxAt H' b ∧ ∃ ls : List Nat, H' D = some (.lst ((ls.map sgn).map V.str)) ∧ ls.length = j ∧ ∀ l ∈ ls, l < k) ⟨(same_new hD).but, b1.mono (same_new hD), [], upd_same, rfl, by simp⟩ ?_ ?_
    · rintro j H' hj ⟨s2, b2, ls, hl, ll, lk⟩
      have rl := rowS_len (List.range k)
      rw [List.length_range] at rl
      refine ⟨rfl, yes_ok ⟨_, rfl, _, rfl, b, _, rfl, b2, .inr ⟨rowS (List.range k), rfl, by omega, by omega, fun c hc H3 s3 b3 => ?_⟩⟩⟩
      obtain ⟨l, lk', rfl⟩ : ∃ l, l < k ∧ c = l + 97 := by
        unfold rowS at hc
        simp only [List.mem_map, List.mem_range] at hc
        obtain ⟨l, h1, h2⟩ := hc
        exact ⟨l, h1, h2.symm⟩
      refine ⟨_, s3 _ _ hl Db, ?_, fun q o e nb => ?_, b3.keep (Ne.symm Db), ls ++ [l], ?_, by rw [List.length_append, ll]; rfl, fun x hx => ?_⟩
      · rw [List.length_map, List.length_map]; exact small1000 (by omega)
      · rw [upd_ne (ne_of_none e hD)]; exact s3 _ _ (s2 _ _ e nb) nb
      · rw [upd_same, List.map_append, List.map_append]; rfl
      · rcases List.mem_append.mp hx with h | h
        · exact lk x h
        · rw [show x = l by simpa using h]; exact lk'
    · rintro H' ⟨s2, b2, ls, hl, ll, lk⟩
      refine ⟨_, D, ls.map sgn, rfl, rfl, .inl (sqL hl), ?_, ?_⟩
      · have : ((ls.map sgn).map (·.length)).sum = ls.length := by
          clear hl ll lk
          induction ls with
          | nil => rfl
          | cons x r ih => show 1 + ((r.map sgn).map (·.length)).sum = r.length + 1; omega
        rw [this]
        show ls.length + (ls.map sgn).length * 0 ≤ _
        omega
      · rw [join_row]
        exact q _ ls (s1.trans s2) b2 (by omega) lk
end
end K3
end

section
set_option Elab.async false
set_option linter.all false
set_option maxRecDepth 100000
set_option maxHeartbeats 4000000
/-! The law's walks: after a row, so many steps, is it its own square, what is refused. -/
namespace K3
open PySem L2 R3
section
variable {w : World} {K : PySem.W.Frag} {mg : Str → Option Value} {base : Heap} {a : Ads}
def spAfter : Sp := fun vs H Q _ => ∃ (L : Addr) (tabs : List (List Nat)) (n x : Nat) (ls : List Nat), vs = [.ref L, .int x, .str (rowS ls)] ∧ TL H L tabs ∧ TabsOk tabs n ∧ x < n ∧ (∀ l ∈ ls, l < tabs.length) ∧ Q (.int (stepOf tabs ls x : Nat)) H
theorem sc_after : FnScope ["_law_tables_here", "_law_state", "_law_row_here", "_law_signal"] ["_law_tables_here", "_law_state", "_law_row_here"] (defScope (top 37)) := ⟨rfl, rfl, rfl, by decide +kernel, rfl, by decide +kernel, by decide +kernel⟩
theorem ok_after {P : Program} (T : Txt a K mg) : FnOk P w K mg base CX0 1 a.f_law_after a.d_law_after ["_law_tables_here", "_law_state", "_law_row_here"] spAfter := by
  refine T.F_law_after.ok sc_after (fun vs H Q E h => ?_) (fun cdv A outer s H vs Q E hr h => ?_)
  · obtain ⟨_, _, _, _, _, rfl, _⟩ := h
    rfl
  · obtain ⟨L, tabs, n, x, ls, rfl, ⟨ps, hL, hps⟩, ok, hx, hk, q⟩ := h
    refine ⟨_, pss_cons (ps_for PassesOwn.never rfl (pi_str (pv 2)) (pg_name (i := 3) sc_after.nd rfl (Or.inl rfl))
        (pss_one (ps_set (i := 1) sc_after.nd rfl (.inl rfl) (pe_ix (r := rIxL K) (by exact ix_list) (pe_ix (r := rIxL K) (by exact ix_list) (pv 0) (pe_m1 F.slot_str_index F.type_str_index mt_sindex pe_str (pv 3)) (fun _ _ => rfl)) (pv 1) (fun _ _ => rfl)))))
      (pss_one (ps_ret (pv 1))), ?_⟩
    refine ⟨_, rfl, rowS ls, rfl, for_it walk_str (fun i σ H' => H' = H ∧ ∃ v3, σ = [some (.ref L), some (.int (stepOf tabs (ls.take i) x : Nat)), some (.str (rowS ls)), v3]) ⟨rfl, _, rfl⟩ (fun _ _ _ _ _ => trivial) ?_ ?_⟩
    · rintro i y σ H' H2 hi ⟨rfl, v3, rfl⟩ ⟨rfl, c, hc, rfl⟩
      obtain ⟨l, hli, rfl⟩ := rowS_at hc
      have lk : l < tabs.length := hk l (List.mem_of_getElem? hli)
      obtain ⟨p, hp, hpt⟩ := hps.at_ (List.getElem?_eq_getElem lk)
      have gl : tabs[l] ∈ tabs := List.getElem_mem lk
      have gD : tabs.getD l [] = tabs[l] := by rw [List.getD_eq_getElem?_getD, List.getElem?_eq_getElem lk]; rfl
      have zn := stepOf_lt ok (ls.take i) (fun m hm => hk m (List.mem_of_mem_take hm)) x hx
      have zl : stepOf tabs (ls.take i) x < (tabs[l]).length := by rw [ok.len _ gl]; exact zn
      refine ⟨_, rfl, ⟨_, rfl⟩, _, rfl, _, _, l, [], rfl, rfl, index_sign (by have := ok.k5; omega), L, _, _, _, rfl, rfl, sqL hL, atI_nat (refs_get hp), _, rfl, p, _, _, _, rfl, rfl, sqL hpt, atI_nat (tN_get (List.getElem?_eq_getElem zl)), rfl, some (.str ⟨#[l + 97]⟩), ?_⟩
      rw [take_snoc hli, stepOf_snoc, gD, List.getD_eq_getElem?_getD, List.getElem?_eq_getElem zl]
      rfl
    · rintro σ H' ⟨rfl, v3, rfl⟩
      have e : (rowS ls).cps.size = ls.length := rowS_len ls
      rw [e, List.take_length]
      exact ⟨_, rfl, q⟩
def spFar (K : PySem.W.Frag) : Sp := fun vs H Q _ => ∃ (p : Addr) (f : Nat → Nat) (n x t : Nat), vs = [.ref p, .int x, .int t] ∧ SqL K H p (tN (Rg.pw f n 1)) ∧ (∀ x, x < n → f x < n) ∧ x < n ∧ t ≤ 1000000 ∧ Q (.int (Rg.it f t x : Nat)) H
theorem sc_far : FnScope ["_law_effect", "_law_state", "_law_times", "_law_turn"] ["_law_effect", "_law_state", "_law_times"] (defScope (top 38)) := ⟨rfl, rfl, rfl, by decide +kernel, rfl, by decide +kernel, by decide +kernel⟩
theorem ok_far {P : Program} (T : Txt a K mg) : FnOk P w K mg base CX0 1 a.f_law_far a.d_law_far ["_law_effect", "_law_state", "_law_times"] (spFar K) := by
  refine T.F_law_far.ok sc_far (fun vs H Q E h => ?_) (fun cdv A outer s H vs Q E hr h => ?_)
  · obtain ⟨_, _, _, _, _, rfl, _⟩ := h
    rfl
  · obtain ⟨p, f, n, x, t, rfl, hp, hf, hx, ht, q⟩ := h
    refine ⟨_, pss_cons (ps_for PassesOwn.never rfl (pi_range1 (by rfl) T.b_range (pa_cons (pv 2) pa_nil)) (pg_name (i := 3) sc_far.nd rfl (Or.inl rfl))
        (pss_one (ps_set (i := 1) sc_far.nd rfl (.inl rfl) (pe_ix (r := rIxL K) (by exact ix_list) (pv 0) (pv 1) (fun _ _ => rfl)))))
      (pss_one (ps_ret (pv 1))), ?_⟩
    refine ⟨_, rfl, (t : Int), rfl, by omega, by omega, for_range (n := t) (fun i σ H' => H' = H ∧ ∃ v3, σ = [some (.ref p), some (.int (Rg.it f i x : Nat)), some (.int t), v3]) ⟨rfl, _, rfl⟩ ?_ ?_⟩
    · rintro i σ H' hi ⟨rfl, v3, rfl⟩
      exact ⟨_, rfl, _, rfl, p, _, _, _, rfl, rfl, hp, atI_nat (tN_get (Rg.pw_get (Rg.it_lt hf hx i))), rfl, _, rfl⟩
    · rintro σ H' ⟨rfl, v3, rfl⟩
      exact ⟨_, rfl, q⟩
/-! ### is it its own square -/
/-- the states that said twice are not as said once -/
def badOf (f : Nat → Nat) (n t : Nat) : List Nat := (List.range n).filter fun x => decide (Rg.it f t (Rg.it f t x) ≠ Rg.it f t x)
theorem bad_nil {f : Nat → Nat} {n t : Nat} : badOf f n t = [] ↔ Rg.isSq f n t := by
  unfold badOf Rg.isSq
  rw [List.filter_eq_nil_iff]
  constructor
  · intro h x hx
    have := h x (List.mem_range.mpr hx)
    simpa using this
  · intro h x hx
    have := h x (List.mem_range.mp hx)
    simpa using this
def badOf' (f : Nat → Nat) (t j : Nat) : List Nat := (List.range j).filter fun x => decide (Rg.it f t (Rg.it f t x) ≠ Rg.it f t x)
theorem bad_step {f : Nat → Nat} {t j : Nat} : badOf' f t (j + 1) = badOf' f t j ++ if Rg.it f t (Rg.it f t j) ≠ Rg.it f t j then [j] else [] := by
  unfold badOf'
  rw [List.range_succ, List.filter_append]
  congr 1
  by_cases c : Rg.it f t (Rg.it f t j) ≠ Rg.it f t j
  · rw [if_pos c]; simp at c; simp [c]
  · rw [if_neg c]; simp at c; simp [c]
open Classical in
def spIsSq (K : PySem.W.Frag) : Sp := fun vs H Q _ => ∃ (p : Addr) (f : Nat → Nat) (n t : Nat), vs = [.ref p, .int t] ∧ SqL K H p (tN (Rg.pw f n 1)) ∧ MapOk f n ∧ t ≤ 1000000 ∧ ∀ H', Same H H' → Q (.bl (decide (Rg.isSq f n t))) H'
theorem sc_issq : FnScope ["_law_effect", "_law_times", "_law_said", "_law_state"] ["_law_effect", "_law_times"] (defScope (top 41)) := ⟨rfl, rfl, rfl, by decide +kernel, rfl, by decide +kernel, by decide +kernel⟩
theorem ok_issq {P : Program} (T : Txt a K mg) : FnOk P w K mg base CX0 2 a.f_law_is_square a.d_law_is_square ["_law_effect", "_law_times"] (spIsSq K) := by
  refine T.F_law_is_square.ok sc_issq (fun vs H Q E h => ?_) (fun cdv A outer s H vs Q E hr h => ?_)
  · obtain ⟨_, _, _, _, rfl, _⟩ := h
    rfl
  · obtain ⟨p, f, n, t, rfl, hp, ok, ht, q⟩ := h
    refine ⟨_, pss_cons (ps_set (i := 2) sc_issq.nd rfl (.inr rfl) (pe_lc (own := [("_law_state", 3)]) (g := gName 3) (tt := tYes) (by rfl) sc_issq.nd (pi_range1 (by rfl) T.b_range (pa_cons (pe_callB call_len_seq (by rfl) T.b_len PySem.boot_len (pa_cons (pv 0) pa_nil)) pa_nil)) (blkOk_by (N := ["_law_effect", "_law_times", "_law_said", "_law_state"]) (sc := defScope (top 41)) (by decide +kernel))
          (fun _ _ _ _ _ => pg_name (i := 3) sc_issq.nd rfl (Or.inl rfl)) (fun _ _ _ _ _ => pts_nil) (fun _ _ _ _ _ => pe_call (ok_far T) hr (by rfl) T.g_law_far T.F_law_far.kp T.B_law_far .nil pass0 (pa_cons (pv 0) (pa_cons (pv 3) (pa_cons (pv 1) pa_nil))))))
      (pss_one (ps_ret (pe_cmpR (op_eqD hr.units) (pe_lc (own := [("_law_state", 3)]) (g := gName 3) (tt := tTest (tOp rNe (tOp (rIxL K) (tVar 2) (tOp (rIxL K) (tVar 2) (tVar 3))) (tOp (rIxL K) (tVar 2) (tVar 3)))) (by rfl) sc_issq.nd (pi_range1 (by rfl) T.b_range (pa_cons (pe_callB call_len_seq (by rfl) T.b_len PySem.boot_len (pa_cons (pv 0) pa_nil)) pa_nil)) (blkOk_by (N := ["_law_effect", "_law_times", "_law_said", "_law_state"]) (sc := defScope (top 41)) (by decide +kernel))
          (fun _ _ _ _ _ => pg_name (i := 3) sc_issq.nd rfl (Or.inl rfl)) (fun _ _ _ _ _ => pts_one (pt_cmpR op_ne (pe_ix (r := rIxL K) (by exact ix_list) (pv 2) (pe_ix (r := rIxL K) (by exact ix_list) (pv 2) (pv 3) (fun _ _ => rfl)) (fun _ _ => rfl)) (pe_ix (r := rIxL K) (by exact ix_list) (pv 2) (pv 3) (fun _ _ => rfl)) (nomark _))) (fun _ _ _ _ _ => pv 3)) (pe_lst pa_nil) (nomark _)))), ?_⟩
    have n6 := ok.n6
    have fl : ∀ j : Nat, (((List.range j).map (Rg.it f t)).length) = j := fun j => by simp
    refine ⟨_, rfl, p, _, rfl, .inl hp, (n : Int), by rw [tN_len, Rg.pw_len], by omega, by omega, fun D hD => lc_range (n := n) (fun j H' => Same H H' ∧ H' D = some (.lst (tN ((List.range j).map (Rg.it f t))))) ⟨same_new hD, upd_same⟩ ?_ ?_⟩
    · rintro j H' hj ⟨sm, hd⟩
      rw [Int.zero_add]
      refine ⟨rfl, yes_ok ⟨_, rfl, _, rfl, _, rfl, p, f, n, j, t, rfl, sm.seq hp, ok.lt, hj, ht, _, hd, by rw [tN_len, fl]; exact small1000 (by omega), sm.upd_new hD, ?_⟩⟩
      rw [upd_same, List.range_succ, List.map_append]
      show some (HO.lst _) = some (HO.lst (tN (_ ++ [Rg.it f t j])))
      rw [tN_snoc]
    · rintro H1 ⟨s1, h1⟩
      change H1 D = some (.lst (tN (Rg.pw f n t))) at h1
      refine ⟨_, rfl, p, _, rfl, .inl (s1.seq hp), (n : Int), by rw [tN_len, Rg.pw_len], by omega, by omega, fun B hB => lc_range (n := n) (fun j H' => Same H1 H' ∧ H' B = some (.lst (tN (badOf' f t j)))) ⟨same_new hB, upd_same⟩ ?_ ?_⟩
      · rintro j H' hj ⟨sm, hd⟩
        rw [Int.zero_add]
        have h2 := sqL (K := K) (sm _ _ h1)
        have jl := Rg.it_lt ok.lt hj t
        have ml : (tN (badOf' f t j)).length < sizeLine := by
          rw [tN_len]
          unfold badOf'
          refine small1000 (Nat.le_trans (List.length_filter_le _ _) ?_)
          rw [List.length_range]; omega
        refine ⟨rfl, _, rfl, _, rfl, _, rfl, D, _, _, _, rfl, rfl, h2, atI_nat (tN_get (Rg.pw_get hj)), D, _, _, _, rfl, rfl, h2, atI_nat (tN_get (Rg.pw_get jl)), _, rfl, _, rfl, D, _, _, _, rfl, rfl, h2, atI_nat (tN_get (Rg.pw_get hj)), rfl, _, rfl, ?_⟩
        rw [bad_step]
        refine ite2 (fun c => ?_) (fun c => ?_)
        · have c' : Rg.it f t (Rg.it f t j) ≠ Rg.it f t j := fun e => by rw [e] at c; simp at c
          rw [if_pos c']
          refine ⟨_, rfl, _, hd, ml, sm.upd_new hB, ?_⟩
          rw [upd_same, tN_snoc]
        · have c' : ¬ Rg.it f t (Rg.it f t j) ≠ Rg.it f t j := fun e => c (by
            rw [decide_eq_false (fun y => e (Int.natCast_inj.mp (V.int.inj y)))]; rfl)
          rw [if_neg c', List.append_nil]
          exact ⟨sm, hd⟩
      · rintro H2 ⟨s2, h2⟩
        change H2 B = some (.lst (tN (badOf f n t))) at h2
        refine ⟨Nat.zero_le _, fun Z hZ => ?_⟩
        have s3 := same_new (o := .lst []) hZ
        have bl : ∀ x ∈ badOf f n t, x ≤ 1000 := fun x hx => by
          have := List.mem_range.mp (List.mem_filter.mp hx).1
          omega
        have t1 : tiny (.list ((badOf f n t).map fun (x : Nat) => .int x)) = true := tinyAll_map fun x hx => decide_eq_true (by have := bl x hx; omega)
        have d1 : (PyData.list ((badOf f n t).map fun (x : Nat) => .int x)).depth ≤ 64 := Nat.le_trans (Nat.succ_le_succ (depthAll_map (m := 0) fun _ _ => Nat.le_refl 0)) (by decide)
        refine ⟨_, _, .lst (sqL (s3 _ _ h2)) (dpAll_tN _), .lst (sqL upd_same) .nil, shaped_tiny t1 d1, shaped_tiny (d := .list []) rfl (by decide), ?_⟩
        have e : PyData.eqv (.list ((badOf f n t).map fun (x : Nat) => .int x)) (.list []) = @decide (Rg.isSq f n t) (Classical.propDecidable _) := by
          by_cases c : badOf f n t = []
          · rw [c, @decide_eq_true _ (Classical.propDecidable _) (bad_nil.mp c)]; rfl
          · rw [@decide_eq_false _ (Classical.propDecidable _) fun z => c (bad_nil.mpr z)]
            obtain ⟨y, l, el⟩ := List.exists_cons_of_ne_nil c
            rw [el]; rfl
        rw [e]
        exact q _ ((s1.trans s2).trans s3)
/-! ### what is refused -/
def saidW (left : Bool) : PySem.Str := if left then "left" else "said"
def spRefused (a : Ads) (K : PySem.W.Frag) : Sp := fun vs H Q _ => ∃ (x D : Addr) (ls : List Nat) (f : Nat → Nat) (n : Nat) (left : Bool) (v : V), vs = [.ref x, .str (saidW left), v] ∧ TurnAt a K H x D ls f n ∧ MapOk f n ∧ scalarV v = true ∧ refused left v = true ∧
  ∀ H' r, Same H H' → H' r = some (.tup [.str "refused", v]) → Q (.ref r) H'
theorem sc_refused : FnScope ["_law_turn", "_law_word", "_law_times", "e"] ["_law_turn", "_law_word", "_law_times"] (defScope (top 40)) := ⟨rfl, rfl, rfl, by decide +kernel, rfl, by decide +kernel, by decide +kernel⟩
/-- the suite's reading -/
def tRefSuite (a : Ads) (K : PySem.W.Frag) (b : Addr) (cls : Value) (d : Option Addr) : TS := tRet (tIf (tB (tCB (rIsX K b cls d) (tCons (tVar 3) (tCons (tC (.ref a.cBack)) tNil)))) (tTup (tCons (tC (.str "refused")) (tCons (tXf b cls d a.x_Refused "at" (tVar 3)) tNil))) (tC (.str "wrong")))
theorem ok_refused (T : Txt a K mg) : FnOk P0 w K mg base CX0 4 a.f_law_refused a.d_law_refused ["_law_turn", "_law_word", "_law_times"] (spRefused a K) := by
  refine T.F_law_refused.ok sc_refused (fun vs H Q E h => ?_) (fun cdv A outer s H vs Q E hr h => ?_)
  · obtain ⟨_, _, _, _, _, _, _, rfl, _⟩ := h
    rfl
  · obtain ⟨x, D, ls, f, n, left, v, rfl, hx, ok, hv, hf, q⟩ := h
    refine ⟨_, pss_cons (ps_try_as (i := 3) (ts := tRefSuite a K) (Wout := fun _ _ _ _ => False) rfl rfl sc_refused.nd rfl rfl ⟨rfl, by decide, Or.inl T.S_Refused.gC⟩ takes0
        (fun W pn xe tk _ => pss_one (ps_if (pt_cmpR op_eq (pv 1) pe_str (nomark _))
          (pss_one (ps_expr (pe_methKS (E := WE W) (pv 0) T.cl_Turn T.m_Turn_said_at (ok_said_at T) (hr.mono (by decide)) T.KB_Turn_said_at (fun σ => passAt tk σ) (pk_cons (pv 2) pk_nil))))
          (pss_one (ps_expr (pe_methKS (E := WE W) (pv 0) T.cl_Turn T.m_Turn_left_at (ok_left_at T) (hr.mono (by decide)) T.KB_Turn_left_at (fun σ => passAt tk σ) (pk_cons (pv 2) pk_nil))))))
        (fun b oe cls d pn hz hfd => pss_one (ps_ret (pe_ifExp (pt_val (pe_callB (call_isX hz hfd) (by rfl) T.b_isinstance (by decide +kernel) (pa_cons (pv 3) (pa_cons (pe_glob (v := .ref a.cBack) (by rfl) T.g_BackError rfl) pa_nil)))) (pe_tup (pa_cons pe_str (pa_cons (pe_xf T.xf_Refused T.S_Refused.noN hz hfd (pv 3)) pa_nil))) pe_str))))
      (pss_one (ps_ret pe_non)), ?_⟩
    obtain ⟨dx, _, _, _, ex, _⟩ := id hx
    -- the suite
    have suite : ∀ {Dn : L2.Ends} (H' : Hp) (d : Addr) (b : Addr), Same H H' → H' d = some (.xd [("at", v)]) → Dn.rt = Q → tRefSuite a K b (.ref a.x_Refused) (some d) Dn [some (.ref x), some (.str (saidW left)), some v, some (.ref b)] H' := fun {Dn} H' d b s' hd' er => by
      refine ⟨_, rfl, ⟨a.x_Refused, d, _, .ref a.cBack, .ref a.cBack, true, rfl, rfl, T.ec_Refused, hd', rfl, fun u r => r, T.kb_Refused, true, rfl, so_if rfl ?_⟩⟩
      refine ⟨_, rfl, rfl, rfl, d, _, v, rfl, hd', rfl, by show 2 ≤ sizeLine; decide, fun r hr' => ?_⟩
      show Dn.rt (.ref r) _
      rw [er]
      exact q _ r (s'.trans (same_new hr')) upd_same
    refine ⟨_, rfl, rfl, _, rfl, ?_⟩
    cases left with
    | false =>
      refine so_if (by decide +kernel) ⟨_, rfl, x, dx, _, rfl, ex, rfl, _, rfl, rfl, x, D, ls, f, n, v, rfl, hx, ok, hv, .inr ⟨hf, fun H' d s' hd' => ⟨true, T.S_Refused.te, fun _ b _ => ?_, fun z => Bool.noConfusion z⟩⟩⟩
      exact suite H' d b s' hd' rfl
    | true =>
      refine no_if (by decide +kernel) ⟨_, rfl, x, dx, _, rfl, ex, rfl, _, rfl, rfl, x, D, ls, f, n, v, rfl, hx, ok, hv, .inr ⟨hf, fun H' d s' hd' => ⟨true, T.S_Refused.te, fun _ b _ => ?_, fun z => Bool.noConfusion z⟩⟩⟩
      exact suite H' d b s' hd' rfl
end
end K3
end

section
set_option Elab.async false
set_option linter.all false
set_option maxRecDepth 100000
set_option maxHeartbeats 4000000
/-! The law's search for the rings. -/
namespace K3
open PySem L2 R3
section
variable {P : Program} {w : World} {K : PySem.W.Frag} {mg : Str → Option Value} {base : Heap} {a : Ads}
def spLawRings (K : PySem.W.Frag) : Sp := fun vs H Q _ => ∃ (p : Addr) (f : Nat → Nat) (n : Nat), vs = [.ref p] ∧ SqL K H p (tN (Rg.pw f n 1)) ∧ MapOk f n ∧
  ∀ H' L ps, Same H H' → H L = none → H' L = some (.lst (refs ps)) → EachG (fun p l => H' p = some (.tup (tN l))) ps (Rg.rings f n) → Q (.ref L) H'
theorem sc_law_rings : FnScope ["_law_effect", "_law_found", "_law_state", "_law_walk", "_law_turn"] ["_law_effect"] (defScope (top 39)) := ⟨rfl, rfl, rfl, by decide +kernel, rfl, by decide +kernel, by decide +kernel⟩
theorem ok_law_rings (T : Txt a K mg) : FnOk P w K mg base CX0 1 a.f_law_rings a.d_law_rings ["_law_effect"] (spLawRings K) := by
  refine T.F_law_rings.ok sc_law_rings (fun vs H Q E h => ?_) (fun cdv A outer s H vs Q E hr h => ?_)
  · obtain ⟨_, _, _, rfl, _⟩ := h
    rfl
  · obtain ⟨p, f, n, rfl, hp, ok, q⟩ := h
    refine ⟨_, pss_cons (ps_set (i := 1) sc_law_rings.nd rfl (.inl rfl) (pe_lst pa_nil))
      (pss_cons (ps_for PassesOwn.never rfl (pi_range1 (by rfl) T.b_range (pa_cons (pe_callB call_len_seq (by rfl) T.b_len PySem.boot_len (pa_cons (pv 0) pa_nil)) pa_nil)) (pg_name (i := 2) sc_law_rings.nd rfl (Or.inl rfl))
        (pss_cons (ps_set (i := 3) sc_law_rings.nd rfl (.inl rfl) (pe_lst (pa_cons (pv 2) pa_nil)))
        (pss_one (ps_for PassesOwn.never rfl (pi_range1 (by rfl) T.b_range (pa_cons (pe_callB call_len_seq (by rfl) T.b_len PySem.boot_len (pa_cons (pv 0) pa_nil)) pa_nil)) (pg_name (i := 4) sc_law_rings.nd rfl (Or.inl rfl))
          (pss_cons (ps_if (pt_cmpR op_eq (pe_ix (r := rIxL K) (by exact ix_list) (pv 0) (pe_ix (r := rIxL K) (by exact ix_list) (pv 3) (pv 4) (fun _ _ => rfl)) (fun _ _ => rfl)) (pv 2) (nomark _))
            (pss_cons (ps_if (pt_cmpR op_eq (pv 2) (pe_callB (cr_min rfl) (by rfl) T.b_min (by decide +kernel) (pa_cons (pv 3) pa_nil)) (nomark _))
              (pss_one (ps_expr (pe_bm PySem.F.plainAttrs_list PySem.F.slot_list_append PySem.F.type_list_append mt_append (pv 1) (pa_cons (pe_callTy call_tuple_of (by rfl) T.b_tuple PyProof.Rows.boot_tuple (pa_cons (pv 3) pa_nil)) pa_nil)))) pss_nil)
            (pss_one ps_break)) pss_nil)
          (pss_one (ps_expr (pe_bm PySem.F.plainAttrs_list PySem.F.slot_list_append PySem.F.type_list_append mt_append (pv 3) (pa_cons (pe_ix (r := rIxL K) (by exact ix_list) (pv 0) (pe_ix (r := rIxL K) (by exact ix_list) (pv 3) (pv 4) (fun _ _ => rfl)) (fun _ _ => rfl)) pa_nil)))))))))
      (pss_one (ps_ret (pv 1)))), ?_⟩
    have n6 := ok.n6
    refine ⟨Nat.zero_le _, fun L hL => ?_⟩
    have s0 := same_new (o := .lst []) hL
    have prl : ∀ i j, (Rg.pre f i j).length = j := fun i j => by unfold Rg.pre; simp
    refine ⟨_, rfl, p, _, rfl, .inl (s0.seq hp), (n : Int), by rw [tN_len, Rg.pw_len], by omega, by omega, for_range (n := n) (fun i σ H' => ∃ v2 v3 v4, σ = [some (.ref p), some (.ref L), v2, v3, v4] ∧ Same H H' ∧ ∃ ps, H' L = some (.lst (refs ps)) ∧ EachG (fun p l => H' p = some (.tup (tN l))) ps (Rg.ringsTo f n i))
      ⟨_, _, _, rfl, s0, [], upd_same, EachG.nil⟩ ?_ ?_⟩
    · rintro i σ H' hi ⟨v2, v3, v4, rfl, sm, ps, hl, he⟩
      rw [Int.zero_add]
      have few : (Rg.ringsTo f n i).length ≤ n := by
        unfold Rg.ringsTo
        rw [List.length_map]
        refine Nat.le_trans (List.length_filter_le _ _) ?_
        rw [List.length_range]; omega
      refine ⟨_, rfl, by show 1 ≤ sizeLine; decide, fun W hW => ?_⟩
      have nW : H W = none := sm.free hW
      have LW : L ≠ W := ne_of_none hl hW
      have s1 := same_new (o := .lst [.int (i : Nat)]) hW
      refine ⟨_, rfl, p, _, rfl, .inl ((sm.trans s1).seq hp), (n : Int), by rw [tN_len, Rg.pw_len], by omega, by omega, for_range (n := n) (fun t σ H2 => ∃ v4, σ = [some (.ref p), some (.ref L), some (.int (i : Nat)), some (.ref W), v4] ∧ Same H H2 ∧ H2 L = some (.lst (refs ps)) ∧ EachG (fun p l => H2 p = some (.tup (tN l))) ps (Rg.ringsTo f n i) ∧
          H2 W = some (.lst (tN (Rg.pre f i (t + 1)))) ∧ ∀ j, 0 < j → j ≤ t → Rg.it f j i ≠ i)
        ⟨_, rfl, sm.trans s1, s1 _ _ hl, he.mono fun _ _ z => s1 _ _ z, upd_same, fun j h1 h2 => by omega⟩ ?_ ?_⟩
      · rintro t σ H2 ht ⟨v4, rfl, s2, hl2, he2, hw, hb⟩
        rw [Int.zero_add]
        have gt : (Rg.pre f i (t + 1))[t]? = some (Rg.it f t i) := by
          unfold Rg.pre
          rw [List.getElem?_map, List.getElem?_range (by omega)]; rfl
        have il := Rg.it_lt ok.lt hi t
        have hp2 := s2.seq hp
        refine ⟨_, rfl, _, rfl, _, rfl, W, _, _, _, rfl, rfl, sqL hw, atI_nat (tN_get gt), p, _, _, _, rfl, rfl, hp2, atI_nat (tN_get (Rg.pw_get il)), _, rfl, rfl, _, rfl, ite2 (fun c => ?_) (fun c => ?_)⟩
        · have back : Rg.it f (t + 1) i = i := by
            have := V.int.inj (of_decide_eq_true c)
            exact Int.natCast_inj.mp this
          have per : Rg.per f n i = t + 1 := Rg.per_first (Nat.succ_pos t) ht back fun j h1 h2 => hb j h1 (by omega)
          have on : Rg.on f n i = true := Rg.on_iff.mpr (by rw [per]; exact Nat.succ_ne_zero t)
          have eo : Rg.pre f i (t + 1) = Rg.orbit f n i := by rw [← per]; exact Rg.pre_per i
          rw [eo] at hw
          have im : i ∈ Rg.orbit f n i := Rg.mem_orbit_it on 0
          refine ⟨_, rfl, _, rfl, W, iz (Rg.orbit f n i), rfl, sqL (by rw [← tN_int]; exact hw), by unfold iz; rw [List.length_map]; exact List.length_pos_of_mem im, fun m0 hm0 hle => ⟨rfl, _, rfl, ?_⟩⟩
          obtain ⟨m, hm, rfl⟩ := List.mem_map.mp hm0
          have hle' : ∀ y ∈ Rg.orbit f n i, m ≤ y := fun y hy => by
            have := hle _ (List.mem_map.mpr ⟨y, hy, rfl⟩)
            omega
          refine ite2 (fun c2 => ?_) (fun c2 => ?_)
          · have e : i = m := Int.natCast_inj.mp (V.int.inj (of_decide_eq_true c2))
            have least : Rg.isLeast f n i = true := Rg.isLeast_iff.mpr ⟨on, fun y hy => by rw [e]; exact hle' y hy⟩
            refine ⟨_, rfl, .inl ⟨rfl, _, sqL hl2⟩, _, rfl, W, _, rfl, .inl ⟨sqL hw, fun r hr' => ?_⟩⟩
            have s3 := same_new (o := .tup (tN (Rg.orbit f n i))) hr'
            have hr3 : (upd H2 r (.tup (tN (Rg.orbit f n i)))) r = some _ := upd_same
            refine ⟨L, _, _, rfl, rfl, s3 _ _ hl2, by rw [refs_len, he.1]; exact small1000 (by omega), _, _, _, rfl, (s2.trans s3).upd_new hL, ps ++ [r], by rw [upd_same, refs_snoc], ?_⟩
            rw [Rg.ringsTo_succ, if_pos least]
            refine EachG.snoc (he2.mono fun q l z => ?_) ?_
            · rw [upd_ne (ne_at (s3 _ _ z) (s3 _ _ hl2) (fun z => by cases z))]; exact s3 _ _ z
            · rw [upd_ne (ne_at hr3 (s3 _ _ hl2) (fun z => by cases z))]; exact hr3
          · have least : ¬ Rg.isLeast f n i = true := fun z => c2 (decide_eq_true (by
              have h1 := (Rg.isLeast_iff.mp z).2 m hm
              have h2 := hle' i im
              rw [show i = m by omega]))
            refine ⟨_, _, _, rfl, s2, ps, hl2, ?_⟩
            rw [Rg.ringsTo_succ, if_neg least, List.append_nil]
            exact he2
        · have away : Rg.it f (t + 1) i ≠ i := fun e => c (decide_eq_true (by
            show V.int ((Rg.it f 1 (Rg.it f t i) : Nat) : Int) = V.int (i : Nat)
            rw [← Rg.it_add, Nat.add_comm 1 t, e]))
          refine ⟨_, rfl, .inl ⟨rfl, _, sqL hw⟩, _, rfl, _, rfl, _, rfl, W, _, _, _, rfl, rfl, sqL hw, atI_nat (tN_get gt), p, _, _, _, rfl, rfl, hp2, atI_nat (tN_get (Rg.pw_get il)), W, _, _, rfl, rfl, hw, by rw [tN_len, prl]; exact small1000 (by omega), _, rfl, s2.upd_new nW, ?_, ?_, ?_, ?_⟩
          · rw [upd_ne LW]; exact hl2
          · exact he2.mono fun q l z => (upd_ne (ne_at z hw (fun z => by cases z))).trans z
          · rw [upd_same, show Rg.pre f i (t + 1 + 1) = Rg.pre f i (t + 1) ++ [Rg.it f (t + 1) i] from Rg.pre_succ i (t + 1), tN_snoc]; rfl
          · intro j h1 h2
            by_cases e : j = t + 1
            · rw [e]; exact away
            · exact hb j h1 (by omega)
      · rintro σ H2 ⟨v4, rfl, s2, hl2, he2, hw, hb⟩
        have least := Rg.isLeast_of_not_on (Rg.not_on_of (f := f) (n := n) (x := i) hb)
        refine ⟨_, _, _, rfl, s2, ps, hl2, ?_⟩
        rw [Rg.ringsTo_succ, if_neg (by rw [least]; decide), List.append_nil]
        exact he2
    · rintro σ H' ⟨v2, v3, v4, rfl, sm, ps, hl, he⟩
      exact ⟨_, rfl, q H' L ps sm hL hl (by rw [Rg.ringsTo_all] at he; exact he)⟩
end
end K3
end

section
set_option Elab.async false
set_option linter.all false
set_option maxRecDepth 100000
set_option maxHeartbeats 4000000
/-! What the law's own lists hold. -/
namespace K3
open PySem
section
variable {f : Nat → Nat} {n : Nat}
theorem first_period (ok : MapOk f n) : (((List.range 60).map (· + 1)).filter fun t => (Rg.rings f n).all (Rg.divs t)).head? = some (Rg.period f n) := by
  obtain ⟨p0, p60⟩ := Rg.period_pos (f := f) ok.n6
  rw [List.head?_filter]
  refine Rg.find_asc ?_ (List.mem_map.mpr ⟨Rg.period f n - 1, List.mem_range.mpr (by omega), by omega⟩) ?_ ?_
  · rw [List.pairwise_map]
    exact (List.pairwise_lt_range (n := 60)).imp fun h => by omega
  · exact List.all_eq_true.mpr fun r hr => beq_iff_eq.mpr (Rg.period_all r hr)
  · intro t ht hlt
    obtain ⟨y, _, rfl⟩ := List.mem_map.mp ht
    obtain ⟨r, hr, hn⟩ := Rg.period_first ok.n6 (Nat.succ_pos y) hlt
    refine Bool.eq_false_iff.mpr fun z => hn (beq_iff_eq.mp (List.all_eq_true.mp z r hr))
theorem first_tail (ok : MapOk f n) {x : Nat} (hx : x < n) : ((List.range n).filter fun t => Rg.on f n (Rg.it f t x)).head? = some (Rg.tl f n x) := by
  obtain ⟨h1, h2, h3⟩ := Rg.tl_spec ok.lt hx
  rw [List.head?_filter]
  exact Rg.find_asc List.pairwise_lt_range (List.mem_range.mpr h1) h2 fun t _ hlt => h3 t hlt
def restOf (t : Nat) : Nat := if t < 70 then t else 60 + t % 60
theorem far_rest (ok : MapOk f n) {t x : Nat} (hx : x < n) : Rg.it f t x = Rg.it f (restOf t) x := by
  unfold restOf
  by_cases c : t < 70
  · rw [if_pos c]
  · rw [if_neg c]
    have n6 := ok.n6
    exact Rg.far_mod ok.lt (Rg.sixty_all ok.n6) hx (by omega) (by omega) (by omega)
theorem due_eq (ok : MapOk f n) (t : Nat) : (List.range n).map (Rg.it f (restOf t)) = Rg.pw f n t := by
  unfold Rg.pw
  exact List.map_congr_left fun x hx => (far_rest ok (List.mem_range.mp hx)).symm
theorem asc_eq {a b : List Int} (h : a.Perm b) (ha : a.Pairwise (· ≤ ·)) (hb : b.Pairwise (· ≤ ·)) : a = b :=
  List.Perm.eq_of_pairwise (le := fun x y => x ≤ y) (fun x y _ _ h1 h2 => Int.le_antisymm h1 h2) ha hb h
theorem sorted_core (ok : MapOk f n) {a : List Int} (h : a.Perm (iz (Rg.rings f n).flatten)) (ha : a.Pairwise (· ≤ ·)) : a = iz (Rg.core f n) := by
  refine asc_eq (h.trans (((Rg.core_perm ok.lt).map fun (x : Nat) => (x : Int)).symm)) ha ?_
  unfold iz
  rw [List.pairwise_map]
  exact Rg.core_asc.imp fun h => by omega
theorem count_iz (l : List Nat) (d : Nat) : (iz l).count (d : Int) = l.count d := by
  induction l with
  | nil => rfl
  | cons x l ih =>
    show ((x : Int) :: iz l).count (d : Int) = (x :: l).count d
    rw [List.count_cons, List.count_cons, ih]
    by_cases c : x = d
    · rw [c]; simp
    · have c' : ¬ (x : Int) = d := fun e => c (Int.natCast_inj.mp e)
      simp [c, c']
theorem inV_iz {a : List Int} {l : List Nat} (h : a.Perm (iz l)) (d : Nat) : L2.inV (.int (d : Int)) (a.map L2.V.int) = decide (d ∈ l) := by
  unfold L2.inV
  rw [Bool.eq_iff_iff, List.any_eq_true, decide_eq_true_iff]
  constructor
  · rintro ⟨y, hy, e⟩
    obtain ⟨i, hi, rfl⟩ := List.mem_map.mp hy
    have e' : i = (d : Int) := beq_iff_eq.mp (show (i == (d : Int)) = true from e)
    obtain ⟨m, hm, e2⟩ := List.mem_map.mp (h.mem_iff.mp hi)
    have : m = d := Int.natCast_inj.mp (e2.trans e')
    rw [← this]; exact hm
  · intro hd
    exact ⟨.int (d : Int), List.mem_map.mpr ⟨_, h.mem_iff.mpr (List.mem_map.mpr ⟨d, hd, rfl⟩), rfl⟩, by show ((d : Int) == (d : Int)) = true; simp⟩
end
end K3
end

section
set_option Elab.async false
set_option linter.all false
set_option maxRecDepth 100000
set_option maxHeartbeats 4000000
/-! Small data in lists. -/
namespace K3
open PySem L2 R3
structure Small (e : PyData) : Prop where
  t : tiny e = true
  d : e.depth ≤ 3
  b : e.bulk ≤ 1000
theorem small_list : ∀ ds : List PyData, (∀ d ∈ ds, Small d) → tinyAll ds = true ∧ PyData.depthAll ds ≤ 3 ∧ PyData.bulkAll ds ≤ ds.length * 1001
  | [], _ => ⟨rfl, Nat.zero_le _, Nat.zero_le _⟩
  | x :: xs, h => by
    obtain ⟨h1, h2, h3⟩ := small_list xs fun d hd => h d (List.mem_cons_of_mem _ hd)
    have hx := h x List.mem_cons_self
    refine ⟨by show (tiny x && tinyAll xs) = true; rw [hx.t, h1]; rfl, Nat.max_le.mpr ⟨hx.d, h2⟩, ?_⟩
    show x.bulk + 1 + PyData.bulkAll xs ≤ (xs.length + 1) * 1001
    have := hx.b
    rw [Nat.succ_mul]
    omega
theorem small_dI {l : List Nat} (h : ∀ x ∈ l, x ≤ 1000) (n : l.length ≤ 1000) : Small (dI l) := ⟨tiny_dI h, Nat.le_trans (depth_dI l) (by decide), Nat.le_trans (bulk_dI l) n⟩
theorem small_dT {ls : List (List Nat)} (h : ∀ l ∈ ls, ∀ x ∈ l, x ≤ 1000) (hl : ∀ l ∈ ls, l.length ≤ 10) (n : ls.length ≤ 10) : Small (dT ls) :=
  ⟨tiny_dT h, Nat.le_trans (depth_dT ls) (by decide), Nat.le_trans (bulk_dT hl) (Nat.le_trans (Nat.mul_le_mul_right 11 n) (by decide))⟩
theorem small_int {x : Nat} (h : x ≤ 1000000) : Small (.int x) := ⟨decide_eq_true (by omega), by show 0 ≤ 3; decide, by show 0 ≤ 1000; decide⟩
/-- repr of a short list of small data -/
theorem rep_list {K : PySem.W.Frag} {H : Hp} {l : Addr} {vs : List V} {ds : List PyData} {Q : VK} (h : H l = some (.lst vs)) (hd : DpAll K H vs ds) (s : ∀ d ∈ ds, Small d) (n : ds.length ≤ 10) (q : Q (.str (PyData.list ds).shown) H) : rRep K [.ref l] H Q := by
  obtain ⟨h1, h2, h3⟩ := small_list ds s
  refine rep_tiny (d := .list ds) (.lst (sqL h) hd) h1 ?_ ?_ q
  · show PyData.depthAll ds + 1 ≤ 40
    omega
  · show PyData.bulkAll ds ≤ 2 ^ 20
    have : ds.length * 1001 ≤ 10 * 1001 := Nat.mul_le_mul_right _ n
    omega
theorem rep_small {K : PySem.W.Frag} {H : Hp} {v : V} {d : PyData} {Q : VK} (h : Dp K H v d) (s : Small d) (q : Q (.str d.shown) H) : rRep K [v] H Q :=
  rep_tiny h s.t (Nat.le_trans s.d (by decide)) (Nat.le_trans s.b (by decide)) q
/-- two texts that are one -/
theorem ne_str {x : PySem.Str} : (!decide (V.str x = V.str x)) = false := by simp
theorem eq_nil_data {a : List PyData} : PyData.eqv (.list a) (.list []) = a.isEmpty := by cases a <;> rfl
section
variable {f : Nat → Nat} {n : Nat}
theorem rings_lt (ok : MapOk f n) : ∀ l ∈ Rg.rings f n, ∀ x ∈ l, x ≤ 1000 := fun l hl x hx => by
  have := ((Rg.mem_flat ok.lt).mp (List.mem_flatten.mpr ⟨l, hl, hx⟩)).1
  have := ok.n6
  omega
theorem rings_len (ok : MapOk f n) : ∀ l ∈ Rg.rings f n, l.length ≤ 10 := fun l hl => by
  have := (Rg.ring_pos hl).2
  have := ok.n6
  omega
theorem rings_few (ok : MapOk f n) : (Rg.rings f n).length ≤ 6 := by
  have := ok.few
  unfold Rg.lens at this
  rwa [List.length_map] at this
theorem small_rings (ok : MapOk f n) : Small (dT (Rg.rings f n)) := small_dT (rings_lt ok) (rings_len ok) (Nat.le_trans (rings_few ok) (by decide))
theorem small_pw (ok : MapOk f n) (t : Nat) : Small (dI (Rg.pw f n t)) := by
  have n6 := ok.n6
  refine small_dI (fun x hx => ?_) (by rw [Rg.pw_len]; omega)
  have := Rg.pw_lt ok.lt t x hx
  omega
theorem small_tails (ok : MapOk f n) : Small (dI (tailsOf f n)) := by
  have n6 := ok.n6
  refine small_dI (fun x hx => ?_) (by unfold tailsOf; rw [List.length_map, List.length_range]; omega)
  unfold tailsOf at hx
  obtain ⟨y, hy, rfl⟩ := List.mem_map.mp hx
  have := (Rg.tl_spec ok.lt (List.mem_range.mp hy)).1
  omega
theorem small_core (ok : MapOk f n) : Small (dI (Rg.core f n)) := by
  have n6 := ok.n6
  refine small_dI (fun x hx => ?_) ?_
  · unfold Rg.core at hx
    have := List.mem_range.mp (List.mem_filter.mp hx).1
    omega
  · unfold Rg.core
    refine Nat.le_trans (List.length_filter_le _ _) ?_
    rw [List.length_range]; omega
end
/-- tuples stand while a list changes -/
theorem _root_.L2.SqT.keepL {K : PySem.W.Frag} {H : Hp} {I q : Addr} {o : HO} {xs ys : List V} (hI : H I = some (.lst xs)) (h : SqT K H q ys) : SqT K (upd H I o) q ys := by
  rcases h with (h | ⟨ob, h⟩) | h
  · exact .inl (.inl ((upd_ne (ne_at h hI (fun z => by cases z))).trans h))
  · exact .inl (.inr ⟨ob, (upd_ne (ne_at h hI (fun z => by cases z))).trans h⟩)
  · exact .inr h
theorem _root_.L2.SqT.butL {K : PySem.W.Frag} {H H' : Hp} {b q : Addr} {xs ys : List V} (hb : H b = some (.lst xs)) (s : SameBut b H H') (h : SqT K H q ys) : SqT K H' q ys := by
  rcases h with (h | ⟨ob, h⟩) | h
  · exact .inl (.inl (s _ _ h (ne_at h hb (fun z => by cases z))))
  · exact .inl (.inr ⟨ob, s _ _ h (ne_at h hb (fun z => by cases z))⟩)
  · exact .inr h
theorem TT.butL {K : PySem.W.Frag} {H H' : Hp} {b q : Addr} {xs : List V} {ls : List (List Nat)} (hb : H b = some (.lst xs)) (s : SameBut b H H') (h : TT K H q ls) : TT K H' q ls :=
  let ⟨ps, h1, h2⟩ := h; ⟨ps, h1.butL hb s, h2.mono fun _ _ z => z.butL hb s⟩
theorem TurnAt.butL {a : Ads} {K : PySem.W.Frag} {H H' : Hp} {b x D : Addr} {xs : List V} {ls : List Nat} {f : Nat → Nat} {n : Nat} (hb : H b = some (.lst xs)) (s : SameBut b H H') (h : TurnAt a K H x D ls f n) : TurnAt a K H' x D ls f n :=
  let ⟨dx, o, r, t, h1, h2, h3, h4⟩ := h; ⟨dx, o, r, t, s _ _ h1 (ne_at h1 hb (fun z => by cases z)), h2.butL hb s, h3.butL hb s, h4.butL hb s⟩
theorem DevAt.butL {a : Ads} {K : PySem.W.Frag} {H H' : Hp} {b x : Addr} {xs : List V} {ls : List (List Nat)} {n : Nat} (hb : H b = some (.lst xs)) (s : SameBut b H H') (h : DevAt a K H x ls n) : DevAt a K H' x ls n :=
  let ⟨dx, q, h1, h2⟩ := h; ⟨dx, q, s _ _ h1 (ne_at h1 hb (fun z => by cases z)), h2.butL hb s⟩
/-- a list of rows as data -/
theorem shaped_rows {ls : List (List Nat)} (h : ∀ l ∈ ls, ∀ x ∈ l, x ≤ 1000) : SeqAt.shaped (.list (ls.map dI)) = true :=
  shaped_tiny (tinyAll_map fun l hl => tiny_dI (h l hl)) (Nat.le_trans (Nat.succ_le_succ (depthAll_map (m := 1) fun l _ => depth_dI l)) (by decide))
end K3
end

section
set_option Elab.async false
set_option linter.all false
set_option maxRecDepth 100000
set_option maxHeartbeats 4000000
/-! The values that are refused; the ring numbers as rows. -/
namespace K3
open PySem L2 R3
/-- the law's odd values -/
def oddVs : List V := [.int (0 - 1), .bl true, .non, .str "1", .int (10 ^ (18 : Int).toNat + 1)]
def refD (d : PyData) : PyData := .tuple [.str "refused", d]
theorem odd_vals {v : V} (h : v ∈ oddVs) : scalarV v = true ∧ refused false v = true ∧ refused true v = true ∧ ∃ d : PyData, (∀ (K : PySem.W.Frag) (H : Hp), Dp K H v d) ∧ (refD d).showable = true ∧ (refD d).hasDict = false ∧ (refD d).depth ≤ 40 ∧ (refD d).shown.length ≤ sizeLine := by
  unfold oddVs at h
  simp only [List.mem_cons, List.not_mem_nil, or_false] at h
  rcases h with h | h | h | h | h
  · subst h
    exact ⟨rfl, by decide +kernel, by decide +kernel, .int (-1), fun _ _ => .int _, by decide +kernel, by decide +kernel, by decide +kernel, by decide +kernel⟩
  · subst h
    exact ⟨rfl, rfl, rfl, .bool true, fun _ _ => .bl _, by decide +kernel, by decide +kernel, by decide +kernel, by decide +kernel⟩
  · subst h
    exact ⟨rfl, rfl, rfl, .none, fun _ _ => .non, by decide +kernel, by decide +kernel, by decide +kernel, by decide +kernel⟩
  · subst h
    exact ⟨rfl, rfl, rfl, .str "1", fun _ _ => .str _, by decide +kernel, by decide +kernel, by decide +kernel, by decide +kernel⟩
  · subst h
    exact ⟨rfl, by decide +kernel, by decide +kernel, .int (10 ^ (18 : Int).toNat + 1), fun _ _ => .int _, by decide +kernel, by decide +kernel, by decide +kernel, by decide +kernel⟩
theorem dp_ref {K : PySem.W.Frag} {H : Hp} {r : Addr} {v : V} {d : PyData} (h : H r = some (.tup [.str "refused", v])) (hd : Dp K H v d) : Dp K H (.ref r) (refD d) := .tup (sqT h) (.cons (.str _) (.cons hd .nil))
theorem left_le {f : Nat → Nat} {n t : Nat} (ok : MapOk f n) (h : 0 < t) : Rg.left f n t ≤ n := by
  rw [← Rg.left_fix ok.lt h]
  refine Nat.le_trans (List.length_filter_le _ _) ?_
  rw [List.length_range]; exact Nat.le_refl n
theorem small_rn {f : Nat → Nat} {n : Nat} (ok : MapOk f n) : Small (dT ((Rg.rn (Rg.lens f n)).map row2)) := by
  refine small_dT (fun l hl x hx => ?_) (fun l hl => ?_) ?_
  · obtain ⟨p, hp, rfl⟩ := List.mem_map.mp hl
    have h := (Rg.mem_rn ok.lens).mp hp
    have h1 := ok.lens p.1 h.1
    have h2 : (Rg.lens f n).count p.1 ≤ (Rg.lens f n).length := List.count_le_length
    have h3 := ok.few
    unfold row2 at hx
    simp only [List.mem_cons, List.not_mem_nil, or_false] at hx
    rcases hx with e | e
    · omega
    · rw [e, h.2]; omega
  · obtain ⟨p, hp, rfl⟩ := List.mem_map.mp hl
    show 2 ≤ 10
    decide
  · rw [List.length_map]
    unfold Rg.rn
    rw [List.length_map]
    refine Nat.le_trans (List.length_filter_le _ _) ?_
    rw [List.length_map, List.length_range]
    decide
/-- the law's times -/
def timesVs (d1 d2 : Nat) : List V := [.int 1, .int 2, .int 3, .int (1 + (d1 : Int)), .int (10 ^ (18 : Int).toNat - (d2 : Int)), .int (10 ^ (18 : Int).toNat)]
theorem times_ok {d1 d2 : Nat} (h1 : d1 < 100) (h2 : d2 < 1000000) {v : V} (h : v ∈ timesVs d1 d2) : ∃ t : Nat, v = .int t ∧ 1 ≤ t ∧ t ≤ 1000000000000000000 := by
  have e : (10 : Int) ^ (18 : Int).toNat = 1000000000000000000 := by decide +kernel
  unfold timesVs at h
  rw [e] at h
  simp only [List.mem_cons, List.not_mem_nil, or_false] at h
  rcases h with h | h | h | h | h | h
  · exact ⟨1, h, by decide, by decide⟩
  · exact ⟨2, h, by decide, by decide⟩
  · exact ⟨3, h, by decide, by decide⟩
  · exact ⟨1 + d1, by rw [h]; rfl, by omega, by omega⟩
  · exact ⟨1000000000000000000 - d2, by rw [h]; congr 1; omega, by omega, by omega⟩
  · exact ⟨1000000000000000000, h, by decide, by decide⟩
end K3
end

section
set_option Elab.async false
set_option linter.all false
set_option maxRecDepth 100000
set_option maxHeartbeats 4000000
/-! The law's look at one turn. -/
namespace K3
open PySem L2 R3
abbrev NT : List PySem.Str := ["_law_box_here", "_law_device", "_law_tables_here", "_law_row_here", "_law_turn", "_law_effect", "_law_rings_here", "_law_on_rings", "_law_ring", "_law_tails", "_law_period", "_law_square", "_law_times", "_law_rest", "_law_due", "_law_left", "_law_value", "_law_lengths", "_law_state", "_law_length"]
theorem scT : FnScope NT ["_law_box_here", "_law_device", "_law_tables_here", "_law_row_here"] (defScope (top 42)) := ⟨rfl, rfl, rfl, by decide +kernel, rfl, by decide +kernel, by decide +kernel⟩
section
variable {w : World} {K : PySem.W.Frag} {mg : Str → Option Value} {base : Heap} {a : Ads}
def spRight (a : Ads) (K : PySem.W.Frag) : Sp := fun vs H Q _ => ∃ (b D L : Addr) (tabs : List (List Nat)) (n : Nat) (ls : List Nat), vs = [.ref b, .ref D, .ref L, .str (rowS ls)] ∧ BoxAt H b ∧ DevAt a K H D tabs n ∧ TL H L tabs ∧ TabsOk tabs n ∧ n ≤ 6 ∧ ls.length ≤ 1000 ∧ (∀ l ∈ ls, l < tabs.length) ∧
  ∀ H', SameBut b H H' → BoxAt H' b → Q (.bl true) H'
theorem ok_right (T : Txt a K mg) : FnG P0 w K mg base CX0 6 a.f_law_turn_right a.d_law_turn_right ["_law_box_here", "_law_device", "_law_tables_here", "_law_row_here"] (spRight a K) := by
  refine okG T.F_law_turn_right scT (fun vs H Q E h => ?_) (fun cdv A outer s H vs Q E gd hr h => ?_)
  · obtain ⟨_, _, _, _, _, _, rfl, _⟩ := h
    rfl
  · obtain ⟨b, D, L, tabs, n, ls, rfl, hb, hD, hL, ok, n6, hl, hk, q⟩ := h
    refine ⟨_, (pss_cons (ps_set (i := 4) scT.nd rfl (.inl rfl) (pe_makeK0 (E := E0) T.mk_Turn (ok_turn_init T) hr (by rfl) T.g_Turn T.KB_Turn_init passL (pk_cons (pv 1) (pk_cons (pv 3) pk_nil))))
      (pss_cons (ps_set (i := 5) scT.nd rfl (.inr rfl) (pe_lc (own := [("_law_state", 18)]) (g := gName 18) (tt := tYes) (by rfl) scT.nd (pi_range1 (by rfl) T.b_range (pa_cons (pe_fld (pv 1) (by rfl)) pa_nil)) (blkOk_by (N := NT) (sc := (defScope (top 42))) (by decide +kernel)) (fun _ _ _ _ _ => pg_name (i := 18) scT.nd rfl (Or.inl rfl)) (fun _ _ _ _ _ => pts_nil) (fun _ _ _ _ _ => (pe_call (ok_after T) (hr.mono (by decide)) (by rfl) T.g_law_after T.F_law_after.kp T.B_law_after .nil pass0 (pa_cons (pv 2) (pa_cons (pv 18) (pa_cons (pv 3) pa_nil)))))))
      (pss_cons (ps_set (i := 6) scT.nd rfl (.inr rfl) (pe_call (ok_law_rings T) (hr.mono (by decide)) (by rfl) T.g_law_rings T.F_law_rings.kp T.B_law_rings .nil pass0 (pa_cons (pv 5) pa_nil)))
      (pss_cons (ps_set (i := 7) scT.nd rfl (.inr rfl) (pe_lst pa_nil))
      (pss_cons (ps_for PassesOwn.never rfl (pi_list (pv 6)) (pg_name (i := 8) scT.nd rfl (Or.inl rfl)) (pss_one (ps_set (i := 7) scT.nd rfl (.inr rfl) (pe_op op_cat (pv 7) (pe_callTy call_list_of (by rfl) T.b_list (by decide +kernel) (pa_cons (pv 8) pa_nil))))))
      (pss_cons (ps_setLc (i := 9) (te := (tOp (rIxL K) (tLc (iRng1 (tCons (tFld K (tVar 1) "states") tNil)) (gName 12) (tTest (tOp (rIn K false) (tCall (spFar K) [] E0 (tCons (tVar 5) (tCons (tVar 18) (tCons (tVar 12) tNil)))) (tVar 7))) (tVar 12) [12]) (tC (.int 0)))) (own := [("_law_state", 18)]) (g := gName 18) (tt := tYes) (by rfl) scT.nd rfl rfl (by rfl) (pi_range1 (by rfl) T.b_range (pa_cons (pe_fld (pv 1) (by rfl)) pa_nil)) (blkOk_by (N := NT) (sc := (defScope (top 42))) (by decide +kernel)) (fun _ _ _ _ _ => pg_name (i := 18) scT.nd rfl (Or.inr rfl)) (fun _ _ _ _ _ => pts_nil) (fun _ _ _ _ _ => by exact (pe_ix (r := rIxL K) (by exact ix_list) (pe_lc (own := [("_law_times", 12)]) (g := gName 12) (tt := tTest (tOp (rIn K false) (tCall (spFar K) [] E0 (tCons (tVar 5) (tCons (tVar 18) (tCons (tVar 12) tNil)))) (tVar 7))) (by rfl) scT.nd (pi_range1 (by rfl) T.b_range (pa_cons (pe_fld (pv 1) (by rfl)) pa_nil)) (blkOk_by (N := NT) (sc := (relS _ (defScope (top 42)))) (by decide +kernel)) (fun _ _ _ _ _ => pg_name (i := 12) scT.nd rfl (Or.inl rfl)) (fun _ _ _ _ _ => pts_one (pt_cmpR (r := rIn K false) (by exact op_in_seq) (pe_call (ok_far T) (hr.mono (by decide)) (by rfl) T.g_law_far T.F_law_far.kp T.B_law_far .nil pass0 (pa_cons (pv 5) (pa_cons (pv 18) (pa_cons (pv 12) pa_nil)))) (pv 7) (by rfl))) (fun _ _ _ _ _ => (pv 12))) pe_int (fun _ _ => rfl))))
      (pss_cons (ps_if (pt_cmpR op_ne (pe_callB (r := rRep K) (call_rep gd hr.units) (by rfl) T.b_repr (by decide +kernel) (pa_cons (pe_lst (pa_cons (pe_fld (pv 4) (by rfl)) (pa_cons (pe_fld (pv 4) (by rfl)) (pa_cons (pe_fld (pv 4) (by rfl)) (pa_cons (pe_meth0 (pv 4) T.cl_Turn T.m_Turn_core (ok_core T) (hr.mono (by decide)) T.B_Turn_core .nil pass0) pa_nil))))) pa_nil)) (pe_callB (r := rRep K) (call_rep gd hr.units) (by rfl) T.b_repr (by decide +kernel) (pa_cons (pe_lst (pa_cons (pe_callTy (r := rTupOf K) (by exact tup_q) (by rfl) T.b_tuple PyProof.Rows.boot_tuple (pa_cons (pv 5) pa_nil)) (pa_cons (pe_callTy (r := rTupOf K) (by exact tup_q) (by rfl) T.b_tuple PyProof.Rows.boot_tuple (pa_cons (pv 6) pa_nil)) (pa_cons (pe_callTy (r := rTupOf K) (by exact tup_q) (by rfl) T.b_tuple PyProof.Rows.boot_tuple (pa_cons (pv 9) pa_nil)) (pa_cons (pe_callTy (r := rTupOf K) (by exact tup_q) (by rfl) T.b_tuple PyProof.Rows.boot_tuple (pa_cons (pe_callB cr_sortedI (by rfl) T.b_sorted (by decide +kernel) (pa_cons (pv 7) pa_nil)) pa_nil)) pa_nil))))) pa_nil)) (nomark _)) (pss_one (ps_ret pe_bl)) pss_nil)
      (pss_cons (ps_set (i := 10) scT.nd rfl (.inl rfl) (pe_ix (r := rIxL K) (by exact ix_list) (pe_lc (own := [("_law_times", 12)]) (g := gName 12) (tt := (tTest (tOp (rEqD K) (tLc (iList K (tVar 6)) (gName 8) (tTest (tOp rNe (tOp (rI (fun _ j => 0 < j) fun i j => .int (i % j)) (tCB rInt (tCons (tVar 12) tNil)) (tCB (rLen K) (tCons (tVar 8) tNil))) (tC (.int 0)))) (tVar 8) [8]) (tLst tNil)))) (by rfl) scT.nd (pi_range2 (by rfl) T.b_range (pa_cons pe_int (pa_cons pe_int pa_nil))) (blkOk_by (N := NT) (sc := (defScope (top 42))) (by decide +kernel)) (fun _ _ _ _ _ => pg_name (i := 12) scT.nd rfl (Or.inr rfl)) (fun _ _ _ _ _ => pts_one (pt_cmpR (r := rEqD K) (by exact op_eqD hr.units) (by exact (pe_lc (own := [("_law_ring", 8)]) (g := gName 8) (tt := (tTest (tOp rNe (tOp (rI (fun _ j => 0 < j) fun i j => .int (i % j)) (tCB rInt (tCons (tVar 12) tNil)) (tCB (rLen K) (tCons (tVar 8) tNil))) (tC (.int 0))))) (by rfl) scT.nd (pi_list (pv 6)) (blkOk_by (N := NT) (sc := (relS _ (defScope (top 42)))) (by decide +kernel)) (fun _ _ _ _ _ => pg_name (i := 8) scT.nd rfl (Or.inl rfl)) (fun _ _ _ _ _ => pts_one (pt_cmpR op_ne (pe_op op_mod (pe_callTy (r := rInt) (by exact call_int1) (by rfl) T.b_int PyProof.Rows.boot_int (pa_cons (pv 12) pa_nil)) (pe_callB (r := rLen K) (by exact len_q) (by rfl) T.b_len PySem.boot_len (pa_cons (pv 8) pa_nil))) pe_int (nomark _))) (fun _ _ _ _ _ => (pv 8)))) (pe_lst pa_nil) (nomark _))) (fun _ _ _ _ _ => (pv 12))) pe_int (fun _ _ => rfl)))
      (pss_cons (ps_if (PW.pt (pw_or (pt_cmpR (op_neI T.ne_Device (ok_dev_eq T) (hr.mono (by decide)) T.B_Device_eq pass0) (pe_fld (pv 4) (by rfl)) (pv 1) (nomark _)) (pw_or (pt_cmpR op_ne (pe_fld (pv 4) (by rfl)) (pv 3) (nomark _)) (pw_or1 (pt_cmpR op_ne (pe_callB (r := rRep K) (call_rep gd hr.units) (by rfl) T.b_repr (by decide +kernel) (pa_cons (pe_fld (pv 4) (by rfl)) pa_nil)) (pe_callB (r := rRep K) (call_rep gd hr.units) (by rfl) T.b_repr (by decide +kernel) (pa_cons (pv 10) pa_nil)) (nomark _)))))) (pss_one (ps_ret pe_bl)) pss_nil)
      (pss_cons (ps_set (i := 11) scT.nd rfl (.inl rfl) (pe_meth0 (pv 4) T.cl_Turn T.m_Turn_square_at (ok_square T) (hr.mono (by decide)) T.B_Turn_square_at .nil pass0))
      (pss_cons (ps_if (PW.pt (pw_or (pt_not (pt_chain op_le op_le pe_int (pv 11) (pe_op op_add pe_int (pe_callB (r := rLen K) (by exact len_q) (by rfl) T.b_len PySem.boot_len (pa_cons (pv 5) pa_nil))))) (pw_or (pt_not (pt_val (pe_call (ok_issq T) (hr.mono (by decide)) (by rfl) T.g_law_is_square T.F_law_is_square.kp T.B_law_is_square .nil pass0 (pa_cons (pv 5) (pa_cons (pv 11) pa_nil))))) (pw_or1 (pt_cmpR (op_neD hr.units) (pe_lc (own := [("_law_times", 12)]) (g := gName 12) (tt := (tB (tCall (spIsSq K) [] E0 (tCons (tVar 5) (tCons (tVar 12) tNil))))) (by rfl) scT.nd (pi_range2 (by rfl) T.b_range (pa_cons pe_int (pa_cons (pv 11) pa_nil))) (blkOk_by (N := NT) (sc := (defScope (top 42))) (by decide +kernel)) (fun _ _ _ _ _ => pg_name (i := 12) scT.nd rfl (Or.inl rfl)) (fun _ _ _ _ _ => pts_one (pt_val (pe_call (ok_issq T) (hr.mono (by decide)) (by rfl) T.g_law_is_square T.F_law_is_square.kp T.B_law_is_square .nil pass0 (pa_cons (pv 5) (pa_cons (pv 12) pa_nil))))) (fun _ _ _ _ _ => (pv 12))) (pe_lst pa_nil) (nomark _)))))) (pss_one (ps_ret pe_bl)) pss_nil)
      (pss_cons (ps_for PassesOwn.never rfl (pi_list (pe_lst (pa_cons pe_int (pa_cons pe_int (pa_cons pe_int (pa_cons (pe_op op_add pe_int (pe_call (ok_take T) (hr.mono (by decide)) (by rfl) T.g_law_take T.F_law_take.kp T.B_law_take .nil pass0 (pa_cons (pv 0) (pa_cons pe_int pa_nil)))) (pa_cons (pe_op op_sub (pe_op op_pow pe_int pe_int) (pe_call (ok_take T) (hr.mono (by decide)) (by rfl) T.g_law_take T.F_law_take.kp T.B_law_take .nil pass0 (pa_cons (pv 0) (pa_cons (pe_op op_pow pe_int pe_int) pa_nil)))) (pa_cons (pe_op op_pow pe_int pe_int) pa_nil)))))))) (pg_name (i := 12) scT.nd rfl (Or.inr rfl)) (pss_cons (ps_set (i := 13) scT.nd rfl (.inr rfl) (pe_mono (pe_ifExp (pt_cmpR op_lt (pv 12) pe_int (nomark _)) (pv 12) (pe_op op_add pe_int (pe_op op_mod (pe_callTy (r := rInt) (by exact call_int1) (by rfl) T.b_int PyProof.Rows.boot_int (pa_cons (pv 12) pa_nil)) pe_int))))) (pss_cons (ps_set (i := 14) scT.nd rfl (.inr rfl) (pe_callTy (r := rTupOf K) (by exact tup_q) (by rfl) T.b_tuple PyProof.Rows.boot_tuple (pa_cons (pe_lc (own := [("_law_state", 18)]) (g := gName 18) (tt := tYes) (by rfl) scT.nd (pi_range1 (by rfl) T.b_range (pa_cons (pe_fld (pv 1) (by rfl)) pa_nil)) (blkOk_by (N := NT) (sc := (defScope (top 42))) (by decide +kernel)) (fun _ _ _ _ _ => pg_name (i := 18) scT.nd rfl (Or.inl rfl)) (fun _ _ _ _ _ => pts_nil) (fun _ _ _ _ _ => (pe_call (ok_far T) (hr.mono (by decide)) (by rfl) T.g_law_far T.F_law_far.kp T.B_law_far .nil pass0 (pa_cons (pv 5) (pa_cons (pv 18) (pa_cons (pv 13) pa_nil)))))) pa_nil))) (pss_cons (ps_set (i := 15) scT.nd rfl (.inl rfl) (pe_callB (cr_sum rfl) (by rfl) T.b_sum (by decide +kernel) (pa_cons (pe_lc (own := [("_law_ring", 8)]) (g := gName 8) (tt := (tTest (tOp rEq (tOp (rI (fun _ j => 0 < j) fun i j => .int (i % j)) (tCB rInt (tCons (tVar 12) tNil)) (tCB (rLen K) (tCons (tVar 8) tNil))) (tC (.int 0))))) (by rfl) scT.nd (pi_list (pv 6)) (blkOk_by (N := NT) (sc := (defScope (top 42))) (by decide +kernel)) (fun _ _ _ _ _ => pg_name (i := 8) scT.nd rfl (Or.inl rfl)) (fun _ _ _ _ _ => pts_one (pt_cmpR op_eq (pe_op op_mod (pe_callTy (r := rInt) (by exact call_int1) (by rfl) T.b_int PyProof.Rows.boot_int (pa_cons (pv 12) pa_nil)) (pe_callB (r := rLen K) (by exact len_q) (by rfl) T.b_len PySem.boot_len (pa_cons (pv 8) pa_nil))) pe_int (nomark _))) (fun _ _ _ _ _ => (pe_callB (r := rLen K) (by exact len_q) (by rfl) T.b_len PySem.boot_len (pa_cons (pv 8) pa_nil)))) pa_nil))) (pss_one (ps_if (PW.pt (pw_or (pt_cmpR op_ne (pe_callB (r := rRep K) (call_rep gd hr.units) (by rfl) T.b_repr (by decide +kernel) (pa_cons (pe_lst (pa_cons (pe_meth (E := E0) (pv 4) T.cl_Turn T.m_Turn_said_at (ok_said_at T) (hr.mono (by decide)) T.B_Turn_said_at .nil passL (pa_cons (pv 12) pa_nil)) (pa_cons (pe_meth (E := E0) (pv 4) T.cl_Turn T.m_Turn_left_at (ok_left_at T) (hr.mono (by decide)) T.B_Turn_left_at .nil passL (pa_cons (pv 12) pa_nil)) pa_nil))) pa_nil)) (pe_callB (r := rRep K) (call_rep gd hr.units) (by rfl) T.b_repr (by decide +kernel) (pa_cons (pe_lst (pa_cons (pv 14) (pa_cons (pv 15) pa_nil))) pa_nil)) (nomark _)) (pw_or1 (pt_cmpR op_ne (pv 15) (pe_callB (r := rLen K) (by exact len_q) (by rfl) T.b_len PySem.boot_len (pa_cons (pe_lc (own := [("_law_state", 18)]) (g := gName 18) (tt := (tTest (tOp rEq (tOp (rIxT K) (tVar 14) (tVar 18)) (tVar 18)))) (by rfl) scT.nd (pi_range1 (by rfl) T.b_range (pa_cons (pe_fld (pv 1) (by rfl)) pa_nil)) (blkOk_by (N := NT) (sc := (defScope (top 42))) (by decide +kernel)) (fun _ _ _ _ _ => pg_name (i := 18) scT.nd rfl (Or.inl rfl)) (fun _ _ _ _ _ => pts_one (pt_cmpR op_eq (pe_ix (r := rIxT K) (by exact ix_tup) (pv 14) (pv 18) (fun _ _ => rfl)) (pv 18) (nomark _))) (fun _ _ _ _ _ => (pv 18))) pa_nil)) (nomark _))))) (pss_one (ps_ret pe_bl)) pss_nil))))))
      (pss_cons (ps_for PassesOwn.never rfl (pi_tup (pe_tup (pa_cons (pe_op op_sub pe_int pe_int) (pa_cons pe_bl (pa_cons pe_non (pa_cons pe_str (pa_cons (pe_op op_add (pe_op op_pow pe_int pe_int) pe_int) pa_nil))))))) (pg_name (i := 16) scT.nd rfl (Or.inl rfl)) (pss_one (ps_if (PW.pt (pw_or (pt_cmpR op_ne (pe_callB (r := rRep K) (call_rep gd hr.units) (by rfl) T.b_repr (by decide +kernel) (pa_cons (pe_call (ok_refused T) (hr.mono (by decide)) (by rfl) T.g_law_refused T.F_law_refused.kp T.B_law_refused .nil pass0 (pa_cons (pv 4) (pa_cons pe_str (pa_cons (pv 16) pa_nil)))) pa_nil)) (pe_callB (r := rRep K) (call_rep gd hr.units) (by rfl) T.b_repr (by decide +kernel) (pa_cons (pe_tup (pa_cons pe_str (pa_cons (pv 16) pa_nil))) pa_nil)) (nomark _)) (pw_or1 (pt_cmpR op_ne (pe_callB (r := rRep K) (call_rep gd hr.units) (by rfl) T.b_repr (by decide +kernel) (pa_cons (pe_call (ok_refused T) (hr.mono (by decide)) (by rfl) T.g_law_refused T.F_law_refused.kp T.B_law_refused .nil pass0 (pa_cons (pv 4) (pa_cons pe_str (pa_cons (pv 16) pa_nil)))) pa_nil)) (pe_callB (r := rRep K) (call_rep gd hr.units) (by rfl) T.b_repr (by decide +kernel) (pa_cons (pe_tup (pa_cons pe_str (pa_cons (pv 16) pa_nil))) pa_nil)) (nomark _))))) (pss_one (ps_ret pe_bl)) pss_nil)))
      (pss_cons (ps_if (PW.pt (pw_or (pt_cmpR (op_neD hr.units) (pe_call (ok_refused T) (hr.mono (by decide)) (by rfl) T.g_law_refused T.F_law_refused.kp T.B_law_refused .nil pass0 (pa_cons (pv 4) (pa_cons pe_str (pa_cons pe_int pa_nil)))) (pe_tup (pa_cons pe_str (pa_cons pe_int pa_nil))) (nomark _)) (pw_or1 (pt_cmpR (op_neD hr.units) (pe_meth (E := E0) (pv 4) T.cl_Turn T.m_Turn_said_at (ok_said_at T) (hr.mono (by decide)) T.B_Turn_said_at .nil passL (pa_cons pe_int pa_nil)) (pe_tupRg rfl (by rfl) T.b_tuple (prg_1 (by rfl) T.b_range (pe_fld (pv 1) (by rfl)))) (nomark _))))) (pss_one (ps_ret pe_bl)) pss_nil)
      (pss_cons (ps_set (i := 17) scT.nd rfl (.inr rfl) (pe_callB cr_sortedI (by rfl) T.b_sorted (by decide +kernel) (pa_cons (pe_lc (own := [("_law_ring", 8)]) (g := gName 8) (tt := tYes) (by rfl) scT.nd (pi_list (pv 6)) (blkOk_by (N := NT) (sc := (defScope (top 42))) (by decide +kernel)) (fun _ _ _ _ _ => pg_name (i := 8) scT.nd rfl (Or.inl rfl)) (fun _ _ _ _ _ => pts_nil) (fun _ _ _ _ _ => (pe_callB (r := rLen K) (by exact len_q) (by rfl) T.b_len PySem.boot_len (pa_cons (pv 8) pa_nil)))) pa_nil)))
      (pss_cons (ps_set (i := 14) scT.nd rfl (.inr rfl) (pe_lc (te := tTup (tCons (tVar 19) (tCons (tBM K "list" (rCntI K) (tVar 17) (tCons (tVar 19) tNil)) tNil))) (own := [("_law_length", 19)]) (g := gName 19) (tt := (tTest (tOp (rIn K false) (tVar 19) (tVar 17)))) (by rfl) scT.nd (pi_range2 (by rfl) T.b_range (pa_cons pe_int (pa_cons pe_int pa_nil))) (blkOk_by (N := NT) (sc := (defScope (top 42))) (by decide +kernel)) (fun _ _ _ _ _ => pg_name (i := 19) scT.nd rfl (Or.inl rfl)) (fun _ _ _ _ _ => pts_one (pt_cmpR (r := rIn K false) (by exact op_in_seq) (pv 19) (pv 17) (by rfl))) (fun _ _ _ _ _ => by exact (pe_tup (pa_cons (pv 19) (pa_cons (pe_bm PySem.F.plainAttrs_list PySem.F.slot_list_count PySem.F.type_list_count (r := rCntI K) (by exact mt_lcount) (pv 17) (pa_cons (pv 19) pa_nil)) pa_nil))))))
      (pss_one (ps_ret (pe_cmpR op_eq (pe_callB (r := rRep K) (call_rep gd hr.units) (by rfl) T.b_repr (by decide +kernel) (pa_cons (pe_callN0 (E := E0) (ok_numbers T) (hr.mono (by decide)) (by rfl) T.g_ring_numbers T.F_ring_numbers.kp T.KB_ring_numbers pass0 (pk_cons (pv 4) pk_nil)) pa_nil)) (pe_callB (r := rRep K) (call_rep gd hr.units) (by rfl) T.b_repr (by decide +kernel) (pa_cons (pe_callTy (r := rTupOf K) (by exact tup_q) (by rfl) T.b_tuple PyProof.Rows.boot_tuple (pa_cons (pv 14) pa_nil)) pa_nil)) (nomark _)))))))))))))))))))), ?_⟩
    obtain ⟨dxD, qD, hDx, hDt⟩ := id hD
    have mok : MapOk (stepOf tabs ls) n := ⟨stepOf_lt ok ls hk, ok.n0, n6⟩
    have n0 := ok.n0
    -- the turn
    refine ⟨_, rfl, _, rfl, rfl, rfl, fun x dx nx nd ne => ?_⟩
    have s00 : Same H (upd (upd H dx (.own x)) x (.ins a.c_Turn dx [])) := (same_new nd).trans (same_new ((upd_ne (Ne.symm ne)).trans nx))
    refine ⟨x, dx, D, tabs, n, ls, rfl, upd_same, hD.mono s00, ok, n6, hl, .inl ⟨hk, fun H1 sb tx => ⟨rfl, ?_⟩⟩⟩
    have s1 : Same H H1 := Same.made nx nd sb
    obtain ⟨f, ef⟩ : ∃ f, stepOf tabs ls = f := ⟨_, rfl⟩
    rw [ef] at mok tx
    have hL1 := hL.mono s1
    have hb1 := hb.mono s1
    have D1 := s1 _ _ hDx
    -- the effect
    refine ⟨_, rfl, D, _, dxD, _, _, rfl, D1, T.cl_Device, T.n_Device_states, rfl, (n : Int), rfl, by omega, by omega, fun E hE => lc_range (n := n) (fun j H' => Same H1 H' ∧ H' E = some (.lst (tN ((List.range j).map f)))) ⟨same_new hE, upd_same⟩ ?_ ?_⟩
    · rintro j H' hj ⟨sm, hd⟩
      rw [Int.zero_add]
      refine ⟨rfl, yes_ok ⟨_, rfl, _, rfl, _, rfl, L, tabs, n, j, ls, rfl, hL1.mono sm, ok, hj, hk, _, hd, by rw [tN_len, List.length_map, List.length_range]; exact small1000 (by omega), sm.upd_new hE, ?_⟩⟩
      rw [upd_same, List.range_succ, List.map_append, ef]
      show some (HO.lst _) = some (HO.lst (tN (_ ++ [f j])))
      rw [tN_snoc]
    rintro H2 ⟨s2, hE2⟩
    change H2 E = some (.lst (tN (Rg.pw f n 1))) at hE2
    -- its rings
    refine ⟨_, rfl, E, f, n, rfl, sqL hE2, mok, fun H3 R rs s3 nR hR hrE => ?_⟩
    have rl : rs.length ≤ 6 := by
      rw [hrE.1]
      have := mok.few
      unfold Rg.lens at this
      rwa [List.length_map] at this
    have fl : (Rg.rings f n).flatten.length ≤ n := by
      have := List.Nodup.length_le_of_subset (Rg.flat_nodup (f := f) (n := n)) (l₂ := List.range n) fun y hy => List.mem_range.mpr ((Rg.mem_flat mok.lt).mp hy).1
      rwa [List.length_range] at this
    have fli : ∀ i, ((Rg.rings f n).take i).flatten.length ≤ n := fun i => by
      have : ((Rg.rings f n).take i).flatten.length ≤ (Rg.rings f n).flatten.length := by
        conv => rhs; rw [← List.take_append_drop i (Rg.rings f n), List.flatten_append, List.length_append]
        exact Nat.le_add_right _ _
      omega
    refine ⟨Nat.zero_le _, fun O0 hO0 => ?_⟩
    have s4 := same_new (o := .lst []) hO0
    refine ⟨_, rfl, R, rfl, ⟨_, sqL (s4 _ _ hR)⟩, for_list (xs := refs rs) (fun i σ H' => ∃ O v8 v9 v10 v11 v12 v13 v14 v15 v16 v17 v18 v19, σ = [some (.ref b), some (.ref D), some (.ref L), some (.str (rowS ls)), some (.ref x), some (.ref E), some (.ref R), some (.ref O), v8, v9, v10, v11, v12, v13, v14, v15, v16, v17, v18, v19] ∧ Same H3 H' ∧ H' O = some (.lst (tN ((Rg.rings f n).take i).flatten)))
      ⟨O0, _, _, _, _, _, _, _, _, _, _, _, _, rfl, s4, upd_same⟩ (fun i σ H' _ z => by obtain ⟨_, _, _, _, _, _, _, _, _, _, _, _, _, _, z, _⟩ := z; exact sqL (z _ _ hR)) ?_ ?_⟩
    · rintro i y σ H' hy ⟨O, v8, v9, v10, v11, v12, v13, v14, v15, v16, v17, v18, v19, rfl, sm, hO⟩
      obtain ⟨q1, hq1, rfl⟩ := refs_of hy
      obtain ⟨l, hl', hql⟩ := hrE.get hq1
      refine ⟨_, rfl, _, rfl, q1, _, rfl, .inr (sqT (sm _ _ hql)), fun l1 hl1 => ⟨O, l1, _, _, rfl, rfl, same_new hl1 _ _ hO, upd_same, ?_, fun p hp => ⟨p, _, _, _, _, _, _, _, _, _, _, _, _, rfl, (sm.trans (same_new hl1)).trans (same_new hp), ?_⟩⟩⟩
      · rw [tN_len, tN_len]
        have := fli i
        have := (Rg.ring_pos (List.mem_of_getElem? hl')).2
        exact Nat.le_of_lt (small1000 (by omega))
      · rw [upd_same, flat_snoc hl', tN_app]
    rintro σ H5 ⟨O, v8, v9, v10, v11, v12, v13, v14, v15, v16, v17, v18, v19, rfl, s5, hO⟩
    rw [refs_len, hrE.1, List.take_length] at hO
    -- tails
    have s15 : Same H1 H5 := (s2.trans s3).trans s5
    have D5 := s15 _ _ D1
    have hE5 := s5 _ _ (s3 _ _ hE2)
    refine ⟨_, rfl, D, _, dxD, _, _, rfl, D5, T.cl_Device, T.n_Device_states, rfl, (n : Int), rfl, by omega, by omega, fun W hW => lc_range (n := n) (fun j H' => Same H5 H' ∧ H' W = some (.lst (tN ((List.range j).map (Rg.tl f n))))) ⟨same_new hW, upd_same⟩ ?_ ?_⟩
    · rintro j H' hj ⟨sm, hw⟩
      rw [Int.zero_add]
      refine ⟨rfl, yes_ok ?_⟩
      refine ⟨_, rfl, D, _, dxD, _, _, rfl, sm _ _ D5, T.cl_Device, T.n_Device_states, rfl, (n : Int), rfl, by omega, by omega, fun I hI => lc_range (n := n) (fun t H6 => Same H' H6 ∧ H6 I = some (.lst (tN ((List.range t).filter fun t => Rg.on f n (Rg.it f t j))))) ⟨same_new hI, upd_same⟩ ?_ ?_⟩
      · rintro t H6 ht ⟨s6, h6⟩
        rw [Int.zero_add]
        have s6' := sm.trans s6
        refine ⟨rfl, _, rfl, _, rfl, _, rfl, E, f, n, j, t, rfl, sqL (s6' _ _ hE5), mok.lt, hj, by omega, _, rfl, O, _, rfl, .inl (sqL (s6' _ _ hO)), rfl, tN_flat _, _, rfl, ?_⟩
        have iv : L2.inV (.int ((Rg.it f t j : Nat) : Int)) (tN (Rg.rings f n).flatten) = Rg.on f n (Rg.it f t j) := by
          rw [tN_int, inV_iz (List.Perm.refl _)]
          rw [Bool.eq_iff_iff, decide_eq_true_iff, Rg.mem_flat mok.lt]
          exact ⟨fun h => h.2, fun h => ⟨Rg.it_lt mok.lt hj t, h⟩⟩
        have fs : ((List.range t).filter fun t => Rg.on f n (Rg.it f t j)).length ≤ 1000 := by
          refine Nat.le_trans (List.length_filter_le _ _) ?_
          rw [List.length_range]; omega
        show if inV (.int ((Rg.it f t j : Nat) : Int)) (tN (Rg.rings f n).flatten) = true then _ else _
        rw [iv]
        by_cases c : Rg.on f n (Rg.it f t j) = true
        · rw [if_pos c]
          refine ⟨_, rfl, _, h6, by rw [tN_len]; exact small1000 fs, s6.upd_new hI, ?_⟩
          rw [upd_same, List.range_succ, List.filter_append, show [t].filter (fun t => Rg.on f n (Rg.it f t j)) = [t] by simp [c]]
          show some (HO.lst _) = some (HO.lst (tN (_ ++ [t])))
          rw [tN_snoc]
        · rw [if_neg c]
          refine ⟨s6, ?_⟩
          rw [h6, List.range_succ, List.filter_append, show [t].filter (fun t => Rg.on f n (Rg.it f t j)) = [] by simp [c], List.append_nil]
      · rintro H6 ⟨s6, h6⟩
        have at0 : atI (tN ((List.range n).filter fun t => Rg.on f n (Rg.it f t j))) 0 = some (.int (Rg.tl f n j : Nat)) := atI_nat (j := 0) (tN_get (by rw [← List.head?_eq_getElem?]; exact first_tail mok hj))
        refine ⟨I, _, 0, _, rfl, rfl, sqL h6, at0, _, s6 _ _ hw, by rw [tN_len, List.length_map, List.length_range]; exact small1000 (by omega), (sm.trans s6).upd_new hW, ?_⟩
        rw [upd_same, List.range_succ, List.map_append]
        show some (HO.lst _) = some (HO.lst (tN (_ ++ [Rg.tl f n j])))
        rw [tN_snoc]
    rintro H6 ⟨s6, hW6⟩
    change H6 W = some (.lst (tN (tailsOf f n))) at hW6
    have tx6 := tx.mono (s15.trans s6)
    obtain ⟨dxT, oT, rT, tT, hxT, hoT, hrT, htT⟩ := id tx6
    have R5 := s5 _ _ hR
    have R6 := s6 _ _ R5
    have hrE5 := hrE.mono (R' := fun p l => H5 p = some (.tup (tN l))) fun _ _ z => s5 _ _ z
    have hrE6 := hrE5.mono (R' := fun p l => H6 p = some (.tup (tN l))) fun _ _ z => s6 _ _ z
    have E6 := s6 _ _ hE5
    have O6 := s6 _ _ hO
    -- repr of what the turn holds, of what the law found
    refine ⟨_, rfl, x, _, dxT, _, _, rfl, hxT, T.cl_Turn, T.n_Turn_once, rfl, _, rfl, x, _, dxT, _, _, rfl, hxT, T.cl_Turn, T.n_Turn_rings, rfl, _, rfl, x, _, dxT, _, _, rfl, hxT, T.cl_Turn, T.n_Turn_tails, rfl, _, rfl, x, dxT, _, rfl, hxT, rfl, x, D, ls, f, n, rfl, tx6, mok, fun H7 c7 s7 nc7 hc7 => ⟨by show 4 ≤ sizeLine; decide, fun l7 hl7 => ?_⟩⟩
    have s8 := same_new (o := .lst [.ref oT, .ref rT, .ref tT, .ref c7]) hl7
    have s78 := s7.trans s8
    have four : ∀ d ∈ [dI (Rg.pw f n 1), dT (Rg.rings f n), dI (tailsOf f n), dI (Rg.core f n)], Small d := by
      intro d hd
      simp only [List.mem_cons, List.not_mem_nil, or_false] at hd
      rcases hd with h | h | h | h
      · rw [h]; exact small_pw mok 1
      · rw [h]; exact small_rings mok
      · rw [h]; exact small_tails mok
      · rw [h]; exact small_core mok
    have key : ∀ Q' : VK, Q' (.str (PyData.list [dI (Rg.pw f n 1), dT (Rg.rings f n), dI (tailsOf f n), dI (Rg.core f n)]).shown) (upd H7 l7 (.lst [.ref oT, .ref rT, .ref tT, .ref c7])) → R3.rRep K [.ref l7] (upd H7 l7 (.lst [.ref oT, .ref rT, .ref tT, .ref c7])) Q' := fun Q' q' => rep_list (ds := [dI (Rg.pw f n 1), dT (Rg.rings f n), dI (tailsOf f n), dI (Rg.core f n)]) upd_same (.cons (dp_tN (s78.tup hoT)) (.cons (dp_TT (hrT.mono s78)) (.cons (dp_tN (s78.tup htT)) (.cons (dp_tN (sqT (s8 _ _ hc7))) .nil)))) four (by show 4 ≤ 10; decide) q'
    unfold tNil
    with_reducible refine key _ ?_
    clear key
    generalize (upd H7 l7 (.lst [.ref oT, .ref rT, .ref tT, .ref c7])) = H8 at s78 s8 ⊢
    refine ⟨_, rfl, E, _, rfl, .inl ⟨sqL (s78 _ _ E6), fun a1 n1 => ?_⟩⟩
    have t1 := s78.trans (same_new (o := .tup (tN (Rg.pw f n 1))) n1)
    have g1 : (upd H8 a1 (.tup (tN (Rg.pw f n 1)))) a1 = some _ := upd_same
    generalize (upd H8 a1 (.tup (tN (Rg.pw f n 1)))) = H9 at t1 g1 ⊢
    refine ⟨_, rfl, R, _, rfl, .inl ⟨sqL (t1 _ _ R6), fun a2 n2 => ?_⟩⟩
    have t2 := t1.trans (same_new (o := .tup (refs rs)) n2)
    have g2 : (upd H9 a2 (.tup (refs rs))) a2 = some _ := upd_same
    have g1 := same_new (o := .tup (refs rs)) n2 _ _ g1
    generalize (upd H9 a2 (.tup (refs rs))) = H10 at t2 g1 g2 ⊢
    refine ⟨_, rfl, W, _, rfl, .inl ⟨sqL (t2 _ _ hW6), fun a3 n3 => ?_⟩⟩
    have t3 := t2.trans (same_new (o := .tup (tN (tailsOf f n))) n3)
    have g3 : (upd H10 a3 (.tup (tN (tailsOf f n)))) a3 = some _ := upd_same
    have g1 := same_new (o := .tup (tN (tailsOf f n))) n3 _ _ g1
    have g2 := same_new (o := .tup (tN (tailsOf f n))) n3 _ _ g2
    generalize (upd H10 a3 (.tup (tN (tailsOf f n)))) = H11 at t3 g1 g2 g3 ⊢
    refine ⟨_, rfl, O, iz (Rg.rings f n).flatten, rfl, sqL (by rw [← tN_int]; exact t3 _ _ O6), fun ns' l2 perm asc nl2 => ?_⟩
    have en := sorted_core mok perm asc
    subst en
    rw [← tN_int]
    have t4 := t3.trans (same_new (o := .lst (tN (Rg.core f n))) nl2)
    have g4 : (upd H11 l2 (.lst (tN (Rg.core f n)))) l2 = some _ := upd_same
    have g1 := same_new (o := .lst (tN (Rg.core f n))) nl2 _ _ g1
    have g2 := same_new (o := .lst (tN (Rg.core f n))) nl2 _ _ g2
    have g3 := same_new (o := .lst (tN (Rg.core f n))) nl2 _ _ g3
    generalize (upd H11 l2 (.lst (tN (Rg.core f n)))) = H12 at t4 g1 g2 g3 g4 ⊢
    refine ⟨l2, _, rfl, .inl ⟨sqL g4, fun a5 n5 => ⟨by show 4 ≤ sizeLine; decide, fun l6 nl6 => ?_⟩⟩⟩
    have u5 := same_new (o := .tup (tN (Rg.core f n))) n5
    have t5 := t4.trans u5
    have g5 : (upd H12 a5 (.tup (tN (Rg.core f n)))) a5 = some _ := upd_same
    have g1 := u5 _ _ g1
    have g2 := u5 _ _ g2
    have g3 := u5 _ _ g3
    generalize (upd H12 a5 (.tup (tN (Rg.core f n)))) = H13 at t5 g1 g2 g3 g5 nl6 ⊢
    have u6 := same_new (o := .lst [.ref a1, .ref a2, .ref a3, .ref a5]) nl6
    have t6 := t5.trans u6
    have key : ∀ Q' : VK, Q' (.str (PyData.list [dI (Rg.pw f n 1), dT (Rg.rings f n), dI (tailsOf f n), dI (Rg.core f n)]).shown) (upd H13 l6 (.lst [.ref a1, .ref a2, .ref a3, .ref a5])) → R3.rRep K [.ref l6] (upd H13 l6 (.lst [.ref a1, .ref a2, .ref a3, .ref a5])) Q' := fun Q' q' => rep_list (ds := [dI (Rg.pw f n 1), dT (Rg.rings f n), dI (tailsOf f n), dI (Rg.core f n)]) upd_same (.cons (dp_tN (sqT (u6 _ _ g1))) (.cons (dp_TT ⟨rs, sqT (u6 _ _ g2), hrE6.mono fun _ _ z => sqT (t6 _ _ z)⟩) (.cons (dp_tN (sqT (u6 _ _ g3))) (.cons (dp_tN (sqT (u6 _ _ g5))) .nil)))) four (by show 4 ≤ 10; decide) q'
    with_reducible refine key _ ?_
    clear key
    generalize (upd H13 l6 (.lst [.ref a1, .ref a2, .ref a3, .ref a5])) = H14 at t6 u6 ⊢
    refine ⟨rfl, _, rfl, no_if ne_str ?_⟩
    clear u5 u6 g1 g2 g3 g4 g5 t1 t2 t3 t4 t5 s78 s8
    -- the period
    have w1 : Same H1 H14 := (s15.trans s6).trans t6
    have R14 := t6 _ _ R6
    have E14 := t6 _ _ E6
    have D14 := w1 _ _ D1
    have tx14 := tx.mono w1
    have rE14 := hrE6.mono (R' := fun p l => H14 p = some (.tup (tN l))) fun _ _ z => t6 _ _ z
    have n14 : ∀ i, ((Rg.rings f n).take i).length ≤ 6 := fun i => Nat.le_trans (by rw [List.length_take]; exact Nat.min_le_right _ _) (rings_few mok)
    refine ⟨(1 : Int), (61 : Int), rfl, ⟨by decide, by decide, by decide, by decide⟩, fun P8 hP8 => lc_range (lo := 1) (n := 60) (fun j H' => Same H14 H' ∧ H' P8 = some (.lst (tN (((List.range j).map (· + 1)).filter fun t => (Rg.rings f n).all (Rg.divs t))))) ⟨same_new hP8, upd_same⟩ ?_ ?_⟩
    · rintro j H' hj ⟨sm, hp8⟩
      rw [show (1 : Int) + (j : Int) = ((j + 1 : Nat) : Int) by omega]
      have Rj := sm _ _ R14
      have rj := rE14.mono (R' := fun p l => H' p = some (.tup (tN l))) fun _ _ z => sm _ _ z
      refine ⟨rfl, _, rfl, R, rfl, ⟨_, sqL Rj⟩, fun I hI => lc_list (xs := refs rs) (fun i H'' => Same H' H'' ∧ ∃ qs, H'' I = some (.lst (refs qs)) ∧ Each K H'' qs (((Rg.rings f n).take i).filter fun l => !Rg.divs (j + 1) l)) ⟨same_new hI, [], upd_same, EachG.nil⟩ (fun i H'' _ z => sqL (z.1 _ _ Rj)) ?_ ?_⟩
      · rintro i y H'' hy ⟨si, qs, hqs, hqE⟩
        obtain ⟨q1, hq1, rfl⟩ := refs_of hy
        obtain ⟨l, hl', hql⟩ := rj.get hq1
        have lp := (Rg.ring_pos (List.mem_of_getElem? hl')).1
        have fsm : (refs qs).length < sizeLine := by
          rw [refs_len, hqE.1]
          have := n14 i
          exact small1000 (Nat.le_trans (List.length_filter_le _ _) (by omega))
        refine ⟨rfl, _, rfl, .inl ⟨_, rfl, _, rfl, q1, _, rfl, .inr (sqT (si _ _ hql)), _, _, rfl, rfl, by rw [tN_len]; omega, rfl, _, rfl, ?_⟩⟩
        rw [tN_len]
        have fe : ((Rg.rings f n).take (i + 1)).filter (fun l => !Rg.divs (j + 1) l) = ((Rg.rings f n).take i).filter (fun l => !Rg.divs (j + 1) l) ++ [l].filter (fun l => !Rg.divs (j + 1) l) := by rw [take_snoc hl', List.filter_append]
        have em : (((j + 1 : Nat) : Int) % (l.length : Nat)) = (((j + 1) % l.length : Nat) : Int) := (Int.natCast_emod _ _).symm
        refine ite2 (fun c => ?_) (fun c => ?_)
        · have nd : Rg.divs (j + 1) l = false := by
            unfold Rg.divs
            refine beq_eq_false_iff_ne.mpr fun e => ?_
            have c' : (!decide (V.int (((j + 1 : Nat) : Int) % (l.length : Nat)) = V.int 0)) = true := c
            rw [em, e] at c'
            exact absurd c' (by decide)
          refine ⟨_, rfl, _, hqs, fsm, si.upd_new hI, qs ++ [q1], by rw [upd_same, refs_snoc], ?_⟩
          rw [fe, show [l].filter (fun l => !Rg.divs (j + 1) l) = [l] by simp [nd]]
          refine EachG.snoc (hqE.mono fun q l z => ?_) ?_
          · exact z.keepL hqs
          · exact sqT ((upd_ne (ne_at (si _ _ hql) hqs (fun z => by cases z))).trans (si _ _ hql))
        · have nd : Rg.divs (j + 1) l = true := by
            unfold Rg.divs
            refine beq_iff_eq.mpr (Classical.byContradiction fun e => c ?_)
            show (!decide (V.int (((j + 1 : Nat) : Int) % (l.length : Nat)) = V.int 0)) = true
            rw [em, decide_eq_false (fun z => e (by have := V.int.inj z; omega))]; rfl
          exact ⟨si, qs, hqs, by rw [fe, show [l].filter (fun l => !Rg.divs (j + 1) l) = [] by simp [nd], List.append_nil]; exact hqE⟩
      · rintro H'' ⟨si, qs, hqs, hqE⟩
        rw [refs_len, hrE.1, List.take_length] at hqE
        refine ⟨Nat.zero_le _, fun Z hZ => ?_⟩
        have sz := same_new (o := .lst []) hZ
        have goodb : ∀ l ∈ (Rg.rings f n).filter (fun l => !Rg.divs (j + 1) l), ∀ x ∈ l, x ≤ 1000 := fun l hl => rings_lt mok l (List.mem_filter.mp hl).1
        refine ⟨_, _, .lst (sqL (sz _ _ hqs)) (dpAll_each (hqE.mono fun _ _ z => sz.tup z)), .lst (sqL upd_same) .nil, shaped_rows goodb, shaped_tiny (d := .list []) rfl (by decide), _, rfl, ?_⟩
        rw [eq_nil_data]
        have ge : (((Rg.rings f n).filter fun l => !Rg.divs (j + 1) l).map dI).isEmpty = (Rg.rings f n).all (Rg.divs (j + 1)) := by
          rw [Bool.eq_iff_iff, List.isEmpty_iff, List.map_eq_nil_iff, List.filter_eq_nil_iff, List.all_eq_true]
          exact ⟨fun h r hr => by have := h r hr; simpa using this, fun h r hr => by rw [h r hr]; decide⟩
        rw [ge]
        have sA := sm.trans (si.trans sz)
        have fe : ((List.range (j + 1)).map (· + 1)).filter (fun t => (Rg.rings f n).all (Rg.divs t)) = ((List.range j).map (· + 1)).filter (fun t => (Rg.rings f n).all (Rg.divs t)) ++ [j + 1].filter (fun t => (Rg.rings f n).all (Rg.divs t)) := by
          rw [List.range_succ, List.map_append, List.filter_append]; rfl
        have h8 := sz _ _ (si _ _ hp8)
        have few8 : (((List.range j).map (· + 1)).filter fun t => (Rg.rings f n).all (Rg.divs t)).length ≤ 1000 := by
          refine Nat.le_trans (List.length_filter_le _ _) ?_
          rw [List.length_map, List.length_range]; omega
        by_cases c : (Rg.rings f n).all (Rg.divs (j + 1)) = true
        · refine so_if c ⟨_, rfl, _, h8, by rw [tN_len]; exact small1000 few8, sA.upd_new hP8, ?_⟩
          rw [upd_same, fe, show [j + 1].filter (fun t => (Rg.rings f n).all (Rg.divs t)) = [j + 1] by simp [c], tN_snoc]
        · refine no_if (Bool.eq_false_iff.mpr c) ⟨sA, ?_⟩
          rw [h8, fe, show [j + 1].filter (fun t => (Rg.rings f n).all (Rg.divs t)) = [] by simp [c], List.append_nil]
    rintro H15 ⟨s15', hp8⟩
    have at0 : atI (tN (((List.range 60).map (· + 1)).filter fun t => (Rg.rings f n).all (Rg.divs t))) 0 = some (.int (Rg.period f n : Nat)) := atI_nat (j := 0) (tN_get (by rw [← List.head?_eq_getElem?]; exact first_period mok))
    refine ⟨P8, _, 0, _, rfl, rfl, sqL hp8, at0, ?_⟩
    have tx15 := tx14.mono s15'
    have D15 := s15' _ _ D14
    obtain ⟨dx5, o5, r5, t5, hx15, _⟩ := id tx15
    have dev15 : DevAt a K H15 D tabs n := (hD.mono s1).mono (w1.trans s15')
    refine ⟨_, rfl, x, _, dx5, _, _, rfl, hx15, T.cl_Turn, T.n_Turn_device, rfl, _, rfl, D, D, dxD, dxD, _, _, rfl, rfl, D15, D15, D, tabs, n, rfl, dev15, ok, fun H16 s16 => ⟨true, rfl, _, rfl, no_if rfl ?_⟩⟩
    have tx16 := tx15.mono s16
    have hx16 := s16 _ _ hx15
    refine ⟨_, rfl, x, _, dx5, _, _, rfl, hx16, T.cl_Turn, T.n_Turn_word, rfl, _, rfl, rfl, _, rfl, no_if ne_str ?_⟩
    obtain ⟨p0, p60⟩ := Rg.period_pos (f := f) n6
    have kp : ∀ Q' : VK, Q' (.str (PyData.int (Rg.period f n : Nat)).shown) H16 → R3.rRep K [.int (Rg.period f n : Nat)] H16 Q' := fun Q' q' => rep_small (.int _) (small_int (by omega)) q'
    refine ⟨_, rfl, x, _, dx5, _, _, rfl, hx16, T.cl_Turn, T.n_Turn_period, rfl, ?_⟩
    with_reducible refine kp _ ?_
    refine ⟨_, rfl, ?_⟩
    with_reducible refine kp _ ?_
    refine ⟨rfl, _, rfl, no_if ne_str ?_⟩
    clear kp
    -- the least square
    refine ⟨_, rfl, x, dx5, _, rfl, hx16, rfl, x, D, ls, f, n, rfl, tx16, mok, ?_⟩
    obtain ⟨q1, q2, q3, q4⟩ := Rg.square_ok mok.lt mok.n0 mok.n6
    have w16 : Same H14 H16 := s15'.trans s16
    have E16 := w16 _ _ E14
    generalize Rg.square f n = sq at q1 q2 q3 q4 ⊢
    refine ⟨_, rfl, _, _, rfl, rfl, _, rfl, so_if (decide_eq_true (by omega)) ⟨_, rfl, E, _, rfl, .inl (sqL E16), _, _, rfl, rfl, _, _, rfl, rfl, _, rfl, no_if (by rw [tN_len, Rg.pw_len, decide_eq_true (by omega)]; rfl) ?_⟩⟩
    refine ⟨_, rfl, _, rfl, E, f, n, sq, rfl, sqL E16, mok, by omega, fun H17 s17 => ⟨_, rfl, no_if (by rw [@decide_eq_true _ (Classical.propDecidable _) q3]; rfl) ?_⟩⟩
    have E17 := s17 _ _ E16
    refine ⟨_, rfl, (1 : Int), (sq : Int), rfl, ⟨by omega, by omega, by omega, by omega⟩, fun P9 hP9 => lc_range (lo := 1) (n := ((sq : Int) - 1).toNat) (fun j H' => Same H17 H' ∧ H' P9 = some (.lst [])) ⟨same_new hP9, upd_same⟩ ?_ ?_⟩
    · rintro j H' hj ⟨sm, h9⟩
      rw [show (1 : Int) + (j : Int) = ((j + 1 : Nat) : Int) by omega]
      refine ⟨rfl, _, rfl, _, rfl, E, f, n, j + 1, rfl, sqL (sm _ _ E17), mok, by omega, fun H18 s18 => ⟨_, rfl, no_if (@decide_eq_false _ (Classical.propDecidable _) (q4 (j + 1) (Nat.succ_pos j) (by omega))) ⟨sm.trans s18, s18 _ _ h9⟩⟩⟩
    rintro H18 ⟨s18, h18⟩
    refine ⟨Nat.zero_le _, fun Z9 hZ9 => ?_⟩
    have s19 := same_new (o := .lst []) hZ9
    refine ⟨_, _, .lst (sqL (s19 _ _ h18)) .nil, .lst (sqL upd_same) .nil, shaped_tiny (d := .list []) rfl (by decide), shaped_tiny (d := .list []) rfl (by decide), _, rfl, no_if rfl ?_⟩
    have w19 : Same H14 (upd H18 Z9 (.lst [])) := ((w16.trans s17).trans s18).trans s19
    generalize upd H18 Z9 (.lst []) = H19 at w19 ⊢
    clear s17 s18 s19 h18 E17 E16 hx16 hx15 tx16 tx15 D15 dev15 s16 s15' hp8 at0
    have w2 : Same H1 H19 := w1.trans w19
    have tx19 := tx.mono w2
    have D19 := w2 _ _ D1
    have dev19 : DevAt a K H19 D tabs n := (hD.mono s1).mono w2
    have hb19 := hb1.mono w2
    have R19 := w19 _ _ R14
    have E19 := w19 _ _ E14
    have rE19 := rE14.mono (R' := fun p l => H19 p = some (.tup (tN l))) fun _ _ z => w19 _ _ z
    -- the times
    have hb2 := hb1.mono s2
    have Rb : R ≠ b := fun e => by
      subst e
      obtain ⟨o, e⟩ := hb2.some
      rw [e] at nR; cases nR
    have Eb : E ≠ b := fun e => by
      subst e
      obtain ⟨o, e⟩ := hb1.some
      rw [e] at hE; cases hE
    obtain ⟨bu, bv, bz, hbe⟩ := id hb19
    have p18 : (10 : Int) ^ (18 : Int).toNat = 1000000000000000000 := by decide +kernel
    refine ⟨_, rfl, b, 100, rfl, hb19, by decide, by decide, fun H20 d1 d1m s20 b20 => ⟨_, _, rfl, rfl, ?_⟩⟩
    refine ⟨_, _, rfl, rfl, ⟨by decide, by decide, by decide⟩, _, rfl, _, _, rfl, rfl, ⟨by decide, by decide, by decide⟩, b, 1000000, rfl, b20, by decide, by decide, fun H21 d2 d2m s21 b21 => ⟨_, _, rfl, rfl, ?_⟩⟩
    refine ⟨_, _, rfl, rfl, ⟨by decide, by decide, by decide⟩, by show 6 ≤ sizeLine; decide, fun l20 hl20 => ?_⟩
    have s22 := same_new (o := .lst (timesVs d1 d2)) hl20
    have sB := s20.trans s21
    have w22 : SameBut b H19 _ := sB.then s22
    have b22 := b21.mono s22
    have l22 : (upd H21 l20 (.lst (timesVs d1 d2))) l20 = some (.lst (timesVs d1 d2)) := upd_same
    refine ⟨l20, rfl, ⟨_, sqL upd_same⟩, ?_⟩
    have tx22 := (tx19.butL hbe sB).mono s22
    have D22 := s22 _ _ (sB _ _ D19 (ne_at D19 hbe (fun z => by cases z)))
    have R22 := s22 _ _ (sB _ _ R19 Rb)
    have E22 := s22 _ _ (sB _ _ E19 Eb)
    have rE22 := rE19.mono (R' := fun p l => (upd H21 l20 (.lst (timesVs d1 d2))) p = some (.tup (tN l))) fun _ _ z => s22 _ _ (sB _ _ z (ne_at z hbe (fun z => by cases z)))
    change ∃ W : Nat → Nat → L2.St → Hp → Prop, (∃ m, W 0 m _ (upd H21 l20 (.lst (timesVs d1 d2)))) ∧ _
    generalize (upd H21 l20 (.lst (timesVs d1 d2))) = H22 at s22 w22 b22 l22 tx22 D22 R22 E22 rE22 ⊢
    refine for_list (xs := timesVs d1 d2) (fun i σ H' => Same H22 H' ∧ ∃ v7 v8 v9 v10 v11 v12 v13 v14 v15 v16 v17 v18 v19, σ = [some (.ref b), some (.ref D), some (.ref L), some (.str (rowS ls)), some (.ref x), some (.ref E), some (.ref R), v7, v8, v9, v10, v11, v12, v13, v14, v15, v16, v17, v18, v19]) ⟨Same.refl _, _, _, _, _, _, _, _, _, _, _, _, _, _, rfl⟩ (fun i σ H' _ z => sqL (z.1 _ _ l22)) ?_ ?_
    · rintro i y σ H' hy ⟨sm, v7, v8, v9, v10, v11, v12, v13, v14, v15, v16, v17, v18, v19, rfl⟩
      obtain ⟨t, rfl, t1, t18⟩ := times_ok d1m d2m (List.mem_of_getElem? hy)
      have txa := tx22.mono sm
      have Da := sm _ _ D22
      have Ra := sm _ _ R22
      have Ea := sm _ _ E22
      have rEa := rE22.mono (R' := fun p l => H' p = some (.tup (tN l))) fun _ _ z => sm _ _ z
      -- the rest
      refine ⟨fun v3 H3 => v3 = .int (restOf t : Nat) ∧ H3 = H', ?_, ?_⟩
      · refine ⟨_, rfl, _, _, rfl, rfl, _, rfl, ite2 (fun c => ?_) (fun c => ?_)⟩
        · have c' : t < 70 := by
            have := of_decide_eq_true c
            omega
          exact ⟨_, rfl, by unfold restOf; rw [if_pos c'], rfl⟩
        · have c' : ¬ t < 70 := fun z => c (decide_eq_true (by omega))
          refine ⟨_, rfl, .inl ⟨_, rfl, _, _, rfl, rfl, (show (0 : Int) < 60 by decide), _, _, rfl, rfl, ?_, rfl⟩⟩
          unfold restOf
          rw [if_neg c']
          show V.int (60 + (t : Int) % 60) = V.int ((60 + t % 60 : Nat) : Int)
          congr 1
      rintro v3' H3' ⟨e1, e2⟩
      rw [e1, e2]
      clear e1 e2 v3' H3'
      have rt : restOf t ≤ 1000 := by
        unfold restOf
        split <;> omega
      -- due
      refine ⟨_, rfl, D, _, dxD, _, _, rfl, Da, T.cl_Device, T.n_Device_states, rfl, (n : Int), rfl, by omega, by omega, fun A hA => lc_range (n := n) (fun j H'' => Same H' H'' ∧ H'' A = some (.lst (tN ((List.range j).map (Rg.it f (restOf t)))))) ⟨same_new hA, upd_same⟩ ?_ ?_⟩
      · rintro j H'' hj ⟨sj, ha⟩
        rw [Int.zero_add]
        refine ⟨rfl, yes_ok ⟨_, rfl, _, rfl, _, rfl, E, f, n, j, restOf t, rfl, sqL (sj _ _ Ea), mok.lt, hj, by omega, _, ha, by rw [tN_len, List.length_map, List.length_range]; exact small1000 (by omega), sj.upd_new hA, ?_⟩⟩
        rw [upd_same, List.range_succ, List.map_append]
        show some (HO.lst _) = some (HO.lst (tN (_ ++ [Rg.it f (restOf t) j])))
        rw [tN_snoc]
      rintro Hb' ⟨sb', ha⟩
      rw [due_eq mok t] at ha
      refine ⟨A, _, rfl, .inl ⟨sqL ha, fun du hdu => ?_⟩⟩
      have sc' := sb'.trans (same_new (o := .tup (tN (Rg.pw f n t))) hdu)
      have du1 : (upd Hb' du (.tup (tN (Rg.pw f n t)))) du = some _ := upd_same
      generalize (upd Hb' du (.tup (tN (Rg.pw f n t)))) = Hc' at sc' du1 ⊢
      -- left
      refine ⟨_, rfl, R, rfl, ⟨_, sqL (sc' _ _ Ra)⟩, fun B hB => lc_list (xs := refs rs) (fun j H'' => Same Hc' H'' ∧ H'' B = some (.lst (tN ((((Rg.rings f n).take j).filter (Rg.divs t)).map List.length)))) ⟨same_new hB, upd_same⟩ (fun j H'' _ z => sqL (z.1 _ _ (sc' _ _ Ra))) ?_ ?_⟩
      · rintro j y H'' hy2 ⟨sj, hm⟩
        obtain ⟨q1, hq1, rfl⟩ := refs_of hy2
        obtain ⟨l, hl', hql⟩ := rEa.get hq1
        have lp := (Rg.ring_pos (List.mem_of_getElem? hl')).1
        have hq3 := sqT (K := K) (sj _ _ (sc' _ _ hql))
        have fe : ((((Rg.rings f n).take (j + 1)).filter (Rg.divs t)).map List.length) = ((((Rg.rings f n).take j).filter (Rg.divs t)).map List.length) ++ (([l].filter (Rg.divs t)).map List.length) := by rw [take_snoc hl', List.filter_append, List.map_append]
        have el : ((((Rg.rings f n).take j).filter (Rg.divs t)).map List.length).length ≤ 1000 := by
          rw [List.length_map]
          have := n14 j
          exact Nat.le_trans (List.length_filter_le _ _) (by omega)
        refine ⟨rfl, _, rfl, .inl ⟨_, rfl, _, rfl, q1, _, rfl, .inr hq3, _, _, rfl, rfl, by rw [tN_len]; omega, rfl, _, rfl, ?_⟩⟩
        rw [tN_len]
        have em : ((t : Int) % (l.length : Nat)) = ((t % l.length : Nat) : Int) := (Int.natCast_emod _ _).symm
        refine ite2 (fun c => ?_) (fun c => ?_)
        · have nd : Rg.divs t l = true := by
            have c' := V.int.inj (of_decide_eq_true c)
            rw [em] at c'
            unfold Rg.divs
            exact beq_iff_eq.mpr (by omega)
          refine ⟨_, rfl, q1, _, rfl, .inr hq3, _, hm, by rw [tN_len]; exact small1000 el, sj.upd_new hB, ?_⟩
          rw [upd_same, fe, show [l].filter (Rg.divs t) = [l] by simp [nd], tN_len]
          show some (HO.lst _) = some (HO.lst (tN (_ ++ [l.length])))
          rw [tN_snoc]
        · have nd : Rg.divs t l = false := Bool.eq_false_iff.mpr fun z => c (decide_eq_true (by
            unfold Rg.divs at z
            show V.int ((t : Int) % (l.length : Nat)) = V.int 0
            rw [em, beq_iff_eq.mp z]; rfl))
          exact ⟨sj, by rw [hm, fe, show [l].filter (Rg.divs t) = [] by simp [nd]]; simp⟩
      rintro Hd' ⟨sd', hm⟩
      rw [refs_len, hrE.1, List.take_length] at hm
      refine ⟨B, iz _, rfl, sqL (by rw [← tN_int]; exact hm), ?_⟩
      rw [show (iz (((Rg.rings f n).filter (Rg.divs t)).map List.length)).sum = ((Rg.left f n t : Nat) : Int) from sum_iz _]
      have se' := sc'.trans sd'
      have txd := txa.mono se'
      obtain ⟨dxd, _, _, _, hxd, _⟩ := id txd
      -- repr of both
      refine ⟨_, rfl, x, dxd, _, rfl, hxd, rfl, _, rfl, x, D, ls, f, n, .int t, rfl, txd, mok, rfl, .inl ⟨t, rfl, t18, fun He' r1 se1 _ hr1 => ?_⟩⟩
      have txe := txd.mono se1
      refine ⟨_, rfl, x, dxd, _, rfl, se1 _ _ hxd, rfl, _, rfl, x, D, ls, f, n, .int t, rfl, txe, mok, rfl, .inl ⟨t, rfl, t1, t18, fun Hf' se2 => ⟨by show 2 ≤ sizeLine; decide, fun l1 hl1 => ?_⟩⟩⟩
      have two : ∀ d ∈ [dI (Rg.pw f n t), PyData.int (Rg.left f n t : Nat)], Small d := by
        intro d hd
        simp only [List.mem_cons, List.not_mem_nil, or_false] at hd
        have := left_le mok t1
        rcases hd with h | h
        · rw [h]; exact small_pw mok t
        · rw [h]; exact small_int (by omega)
      have sf1 := same_new (o := .lst [.ref r1, .int (Rg.left f n t : Nat)]) hl1
      have k1 : ∀ Q' : VK, Q' (.str (PyData.list [dI (Rg.pw f n t), .int (Rg.left f n t : Nat)]).shown) (upd Hf' l1 (.lst [.ref r1, .int (Rg.left f n t : Nat)])) → R3.rRep K [.ref l1] (upd Hf' l1 (.lst [.ref r1, .int (Rg.left f n t : Nat)])) Q' := fun Q' q' =>
        rep_list upd_same (.cons (dp_tN (sqT (sf1 _ _ (se2 _ _ hr1)))) (.cons (.int _) .nil)) two (by show 2 ≤ 10; decide) q'
      with_reducible refine k1 _ ?_
      have sg := ((se'.trans se1).trans se2).trans sf1
      have du2 := sf1 _ _ (se2 _ _ (se1 _ _ (sd' _ _ du1)))
      generalize (upd Hf' l1 (.lst [.ref r1, .int (Rg.left f n t : Nat)])) = Hg' at sg du2 ⊢
      refine ⟨_, rfl, _, rfl, by show 2 ≤ sizeLine; decide, fun l2 hl2 => ?_⟩
      have sh2 := same_new (o := .lst [.ref du, .int (Rg.left f n t : Nat)]) hl2
      have k2 : ∀ Q' : VK, Q' (.str (PyData.list [dI (Rg.pw f n t), .int (Rg.left f n t : Nat)]).shown) (upd Hg' l2 (.lst [.ref du, .int (Rg.left f n t : Nat)])) → R3.rRep K [.ref l2] (upd Hg' l2 (.lst [.ref du, .int (Rg.left f n t : Nat)])) Q' := fun Q' q' =>
        rep_list upd_same (.cons (dp_tN (sqT (sh2 _ _ du2))) (.cons (.int _) .nil)) two (by show 2 ≤ 10; decide) q'
      with_reducible refine k2 _ ?_
      refine ⟨rfl, _, rfl, no_if ne_str ?_⟩
      have si' := sg.trans sh2
      have du3 := sh2 _ _ du2
      generalize (upd Hg' l2 (.lst [.ref du, .int (Rg.left f n t : Nat)])) = Hi' at si' du3 ⊢
      -- as many as are left alone
      refine ⟨_, rfl, _, rfl, D, _, dxD, _, _, rfl, si' _ _ Da, T.cl_Device, T.n_Device_states, rfl, (n : Int), rfl, by omega, by omega, fun C hC => lc_range (n := n) (fun j H'' => Same Hi' H'' ∧ H'' C = some (.lst (tN ((List.range j).filter fun s => Rg.it f t s == s)))) ⟨same_new hC, upd_same⟩ ?_ ?_⟩
      · rintro j H'' hj ⟨sj, hc⟩
        rw [Int.zero_add]
        have fsz : ((List.range j).filter fun s => Rg.it f t s == s).length ≤ 1000 := Nat.le_trans (List.length_filter_le _ _) (by rw [List.length_range]; omega)
        refine ⟨rfl, _, rfl, _, rfl, du, _, _, _, rfl, rfl, sqT (sj _ _ du3), atI_nat (tN_get (Rg.pw_get hj)), _, rfl, rfl, _, rfl, ite2 (fun c => ?_) (fun c => ?_)⟩
        · have e : Rg.it f t j = j := Int.natCast_inj.mp (V.int.inj (of_decide_eq_true c))
          refine ⟨_, rfl, _, hc, by rw [tN_len]; exact small1000 fsz, sj.upd_new hC, ?_⟩
          rw [upd_same, List.range_succ, List.filter_append, show [j].filter (fun s => Rg.it f t s == s) = [j] by simp [e]]
          show some (HO.lst _) = some (HO.lst (tN (_ ++ [j])))
          rw [tN_snoc]
        · have e : ¬ Rg.it f t j = j := fun z => c (decide_eq_true (by rw [z]))
          exact ⟨sj, by rw [hc, List.range_succ, List.filter_append, show [j].filter (fun s => Rg.it f t s == s) = [] by simp [e], List.append_nil]⟩
      rintro Hj' ⟨sj, hc⟩
      refine ⟨C, _, rfl, .inl (sqL hc), rfl, _, rfl, no_if (by rw [tN_len, Rg.left_fix mok.lt t1]; simp) ⟨sm.trans (si'.trans sj), _, _, _, _, _, _, _, _, _, _, _, _, _, rfl⟩⟩
    rintro σ H23 ⟨s23, v7, v8, v9, v10, v11, v12, v13, v14, v15, v16, v17, v18, v19, rfl⟩
    have tx23 := tx22.mono s23
    have D23 := s23 _ _ D22
    have R23 := s23 _ _ R22
    have rE23 := rE22.mono (R' := fun p l => H23 p = some (.tup (tN l))) fun _ _ z => s23 _ _ z
    have w23 : SameBut b H H23 := ((s1.trans w2).but.trans w22).then s23
    have b23 := b22.mono s23
    -- the odd values
    refine ⟨_, _, rfl, rfl, _, _, rfl, rfl, ⟨by decide, by decide, by decide⟩, _, _, rfl, rfl, by show 5 ≤ sizeLine; decide, fun tp htp => ⟨tp, rfl, ⟨_, sqT upd_same⟩, ?_⟩⟩
    have s24 := same_new (o := .tup oddVs) htp
    have tp24 : (upd H23 tp (.tup oddVs)) tp = some (.tup oddVs) := upd_same
    change ∃ W : Nat → Nat → L2.St → Hp → Prop, (∃ m, W 0 m _ (upd H23 tp (.tup oddVs))) ∧ _
    generalize (upd H23 tp (.tup oddVs)) = H24 at s24 tp24 ⊢
    refine for_tup (xs := oddVs) (fun i σ H' => Same H24 H' ∧ ∃ v7 v8 v9 v10 v11 v12 v13 v14 v15 v16 v17 v18 v19, σ = [some (.ref b), some (.ref D), some (.ref L), some (.str (rowS ls)), some (.ref x), some (.ref E), some (.ref R), v7, v8, v9, v10, v11, v12, v13, v14, v15, v16, v17, v18, v19]) ⟨Same.refl _, _, _, _, _, _, _, _, _, _, _, _, _, _, rfl⟩ (fun i σ H' _ z => sqT (z.1 _ _ tp24)) ?_ ?_
    · rintro i y σ H' hy ⟨sm, v7, v8, v9, v10, v11, v12, v13, v14, v15, v16, v17, v18, v19, rfl⟩
      obtain ⟨sc', rf1, rf2, d, dpd, g1, g2, g3, g4⟩ := odd_vals (List.mem_of_getElem? hy)
      have txa := (tx23.mono s24).mono sm
      have kr : ∀ (H2 : Hp) (r : Addr), H2 r = some (.tup [.str "refused", y]) → ∀ Q' : VK, Q' (.str (refD d).shown) H2 → R3.rRep K [.ref r] H2 Q' := fun H2 r h Q' q' => ⟨_, refD d, rfl, dp_ref h (dpd K H2), g1, g2, g3, g4, q'⟩
      refine ⟨_, rfl, _, rfl, x, D, ls, f, n, false, y, rfl, txa, mok, sc', rf1, fun Ha r1 sa1 h1 => ?_⟩
      with_reducible refine kr Ha r1 h1 _ ?_
      refine ⟨_, rfl, by show 2 ≤ sizeLine; decide, fun r2 hr2 => ?_⟩
      have sa2 := same_new (o := .tup [.str "refused", y]) hr2
      with_reducible refine kr _ r2 upd_same _ ?_
      refine ⟨rfl, _, rfl, no_if ne_str ?_⟩
      have txb := (txa.mono sa1).mono sa2
      have sab := (sm.trans sa1).trans sa2
      generalize (upd Ha r2 (.tup [.str "refused", y])) = Hb2 at txb sab ⊢
      refine ⟨_, rfl, _, rfl, x, D, ls, f, n, true, y, rfl, txb, mok, sc', rf2, fun Hc2 r3 sa3 h3 => ?_⟩
      with_reducible refine kr Hc2 r3 h3 _ ?_
      refine ⟨_, rfl, by show 2 ≤ sizeLine; decide, fun r4 hr4 => ?_⟩
      have sa4 := same_new (o := .tup [.str "refused", y]) hr4
      with_reducible refine kr _ r4 upd_same _ ?_
      refine ⟨rfl, _, rfl, no_if ne_str ⟨(sab.trans sa3).trans sa4, _, _, _, _, _, _, _, _, _, _, _, _, _, rfl⟩⟩
    rintro σ H25 ⟨s25, v7, v8, v9, v10, v11, v12, v13, v14, v15, v16, v17, v18, v19, rfl⟩
    have s35 := s24.trans s25
    have tx25 := tx23.mono s35
    -- nothing is left at 0, said at 0 is as it stands
    refine ⟨_, rfl, x, D, ls, f, n, true, .int 0, rfl, tx25, mok, rfl, rfl, fun H26 r5 s26 h5 => ⟨by show 2 ≤ sizeLine; decide, fun r6 hr6 => ?_⟩⟩
    have s27 := same_new (o := .tup [.str "refused", .int 0]) hr6
    have sh0 : SeqAt.shaped (refD (.int 0)) = true := by decide +kernel
    refine ⟨refD (.int 0), refD (.int 0), dp_ref (s27 _ _ h5) (.int _), dp_ref upd_same (.int _), sh0, sh0, _, rfl, no_if (by decide +kernel) ?_⟩
    have s37 := (s35.trans s26).trans s27
    generalize (upd H26 r6 (.tup [.str "refused", .int 0])) = H27 at s37 ⊢
    have tx27 := tx23.mono s37
    obtain ⟨dx27, _, _, _, hx27, _⟩ := id tx27
    refine ⟨_, rfl, x, dx27, _, rfl, hx27, rfl, x, D, ls, f, n, .int 0, rfl, tx27, mok, rfl, .inl ⟨0, rfl, by decide, fun H28 r7 s28 _ h7 => ?_⟩⟩
    have s38 := s37.trans s28
    refine ⟨_, rfl, D, _, dxD, _, _, rfl, s38 _ _ D23, T.cl_Device, T.n_Device_states, rfl, (n : Int), rfl, rg_ok (by omega), fun r8 hr8 => ?_⟩
    rw [rgV_tN]
    have s29 := same_new (o := .tup (tN (List.range n))) hr8
    have sp0 := small_pw mok 0
    rw [Rg.pw_zero] at h7 sp0
    have sh1 := shaped_tiny sp0.t (Nat.le_trans sp0.d (by decide))
    refine ⟨_, _, dp_tN (sqT (s29 _ _ h7)), dp_tN (sqT upd_same), sh1, sh1, _, rfl, no_if (by rw [eqv_tiny sp0.t]; rfl) ?_⟩
    have s39 := s38.trans s29
    generalize (upd H28 r8 (.tup (tN (List.range n)))) = H29 at s39 ⊢
    have tx29 := tx23.mono s39
    have R29 := s39 _ _ R23
    have rE29 := rE23.mono (R' := fun p l => H29 p = some (.tup (tN l))) fun _ _ z => s39 _ _ z
    -- the lengths
    refine ⟨_, rfl, R, rfl, ⟨_, sqL R29⟩, fun A hA => lc_list (xs := refs rs) (fun j H'' => Same H29 H'' ∧ H'' A = some (.lst (tN ((Rg.lens f n).take j)))) ⟨same_new hA, upd_same⟩ (fun j H'' _ z => sqL (z.1 _ _ R29)) ?_ ?_⟩
    · rintro j y H'' hy2 ⟨sj, hm⟩
      obtain ⟨q1, hq1, rfl⟩ := refs_of hy2
      obtain ⟨l, hl', hql⟩ := rE29.get hq1
      have tk : (Rg.lens f n).take (j + 1) = (Rg.lens f n).take j ++ [l.length] := take_snoc (by unfold Rg.lens; rw [List.getElem?_map, hl']; rfl)
      have fw := mok.few
      refine ⟨rfl, yes_ok ⟨_, rfl, q1, _, rfl, .inr (sqT (sj _ _ hql)), _, hm, by rw [tN_len, List.length_take]; exact small1000 (by omega), sj.upd_new hA, ?_⟩⟩
      rw [upd_same, tk, tN_snoc, tN_len]
    rintro H30 ⟨s30, h30⟩
    have el : (Rg.lens f n).take (refs rs).length = Rg.lens f n := by
      rw [refs_len, hrE.1, List.take_of_length_le]
      unfold Rg.lens
      rw [List.length_map]
      exact Nat.le_refl _
    rw [el] at h30
    refine ⟨A, iz (Rg.lens f n), rfl, sqL (by rw [← tN_int]; exact h30), fun ns' LL perm asc hLL => ?_⟩
    have s31 := same_new (o := .lst (ns'.map V.int)) hLL
    have L31 : (upd H30 LL (.lst (ns'.map V.int))) LL = some _ := upd_same
    have s3a := (s39.trans s30).trans s31
    generalize (upd H30 LL (.lst (ns'.map V.int))) = H31 at s3a L31 ⊢
    have nfl : (ns'.map V.int).all flatV = true := List.all_eq_true.mpr fun z hz => by
      obtain ⟨i, _, rfl⟩ := List.mem_map.mp hz
      rfl
    -- how many of each
    refine ⟨(1 : Int), (7 : Int), rfl, ⟨by decide, by decide, by decide, by decide⟩, fun B hB => lc_range (lo := 1) (n := 6) (fun j H'' => Same H31 H'' ∧ ∃ ps, H'' B = some (.lst (refs ps)) ∧ Each K H'' ps ((((List.range j).map (· + 1)).filter fun d => decide (d ∈ Rg.lens f n)).map fun d => row2 (d, (Rg.lens f n).count d))) ⟨same_new hB, [], upd_same, EachG.nil⟩ ?_ ?_⟩
    · rintro j H'' hj ⟨sj, ps, hps, hE'⟩
      rw [show (1 : Int) + (j : Int) = ((j + 1 : Nat) : Int) by omega]
      have LLj := sqL (K := K) (sj _ _ L31)
      have fe : ((((List.range (j + 1)).map (· + 1)).filter fun d => decide (d ∈ Rg.lens f n)).map fun d => row2 (d, (Rg.lens f n).count d)) = ((((List.range j).map (· + 1)).filter fun d => decide (d ∈ Rg.lens f n)).map fun d => row2 (d, (Rg.lens f n).count d)) ++ (([j + 1].filter fun d => decide (d ∈ Rg.lens f n)).map fun d => row2 (d, (Rg.lens f n).count d)) := by
        rw [List.range_succ, List.map_append, List.filter_append, List.map_append]; rfl
      have psz : (refs ps).length < sizeLine := by
        rw [refs_len, hE'.1, List.length_map]
        refine small1000 (Nat.le_trans (List.length_filter_le _ _) ?_)
        rw [List.length_map, List.length_range]; omega
      refine ⟨rfl, _, rfl, _, rfl, LL, _, rfl, .inl LLj, rfl, nfl, _, rfl, ?_⟩
      show if inV (.int ((j + 1 : Nat) : Int)) (ns'.map V.int) = true then _ else _
      rw [inV_iz perm (j + 1)]
      by_cases c : j + 1 ∈ Rg.lens f n
      · refine so_if (decide_eq_true c) ⟨_, rfl, _, rfl, .inl ⟨rfl, _, LLj⟩, _, rfl, LL, ns', ((j + 1 : Nat) : Int), rfl, rfl, LLj, by show 2 ≤ sizeLine; decide, fun tp2 htp2 => ?_⟩
        have ec : ns'.count ((j + 1 : Nat) : Int) = (Rg.lens f n).count (j + 1) := by rw [perm.count_eq, count_iz]
        rw [ec]
        have st2 := same_new (o := .tup [.int ((j + 1 : Nat) : Int), .int ((Rg.lens f n).count (j + 1) : Nat)]) htp2
        have hB2 := st2 _ _ hps
        refine ⟨_, hB2, psz, (sj.trans st2).upd_new hB, ps ++ [tp2], by rw [upd_same, refs_snoc], ?_⟩
        rw [fe, show [j + 1].filter (fun d => decide (d ∈ Rg.lens f n)) = [j + 1] by simp [c]]
        refine EachG.snoc (hE'.mono fun q l z => (st2.tup z).keepL hB2) ?_
        exact (sqT (K := K) (xs := tN (row2 (j + 1, (Rg.lens f n).count (j + 1)))) upd_same).keepL hB2
      · refine no_if (decide_eq_false c) ⟨sj, ps, hps, ?_⟩
        rw [fe, show [j + 1].filter (fun d => decide (d ∈ Rg.lens f n)) = [] by simp [c]]
        simpa using hE'
    rintro H32 ⟨s32, ps, hps, hE'⟩
    have hE2 : Each K H32 ps ((Rg.rn (Rg.lens f n)).map row2) := by
      unfold Rg.rn
      rw [List.map_map]
      exact hE'
    have s3b := s3a.trans s32
    have tx32 := tx23.mono s3b
    have srn := small_rn mok
    refine ⟨_, rfl, rfl, rfl, x, D, ls, f, n, rfl, tx32, mok, fun H33 r9 s33 tt => ?_⟩
    have k8 : ∀ Q' : VK, Q' (.str (dT ((Rg.rn (Rg.lens f n)).map row2)).shown) H33 → R3.rRep K [.ref r9] H33 Q' := fun Q' q' => rep_small (dp_TT tt) srn q'
    with_reducible refine k8 _ ?_
    refine ⟨_, rfl, B, _, rfl, .inl ⟨sqL (s33 _ _ hps), fun r10 hr10 => ?_⟩⟩
    have s34 := same_new (o := .tup (refs ps)) hr10
    have k9 : ∀ Q' : VK, Q' (.str (dT ((Rg.rn (Rg.lens f n)).map row2)).shown) (upd H33 r10 (.tup (refs ps))) → R3.rRep K [.ref r10] (upd H33 r10 (.tup (refs ps))) Q' := fun Q' q' => rep_small (dp_TT ⟨ps, sqT upd_same, hE2.mono fun _ _ z => s34.tup (s33.tup z)⟩) srn q'
    with_reducible refine k9 _ ?_
    refine ⟨rfl, ?_⟩
    rw [decide_eq_true rfl]
    have sEnd := (s3b.trans s33).trans s34
    exact q _ (w23.then sEnd) (b23.mono sEnd)

end
end K3
end

section
set_option Elab.async false
set_option linter.all false
set_option maxRecDepth 100000
set_option maxHeartbeats 4000000
/-! The law's case: two turns, and what they tell of each other. -/
namespace K3
open PySem L2 R3
abbrev NC : List PySem.Str := ["_law_box_here", "_law_turns", "_law_side", "_law_tables_here", "_law_device", "_law_row_here", "_law_told", "_law_apart", "e", "_law_times"]
theorem scC : FnScope NC ["_law_box_here"] (defScope (top 43)) := ⟨rfl, rfl, rfl, by decide +kernel, rfl, by decide +kernel, by decide +kernel⟩
section
variable {w : World} {K : PySem.W.Frag} {mg : Str → Option Value} {base : Heap} {a : Ads}
def Good (a : Ads) (K : PySem.W.Frag) (H : Hp) (x : Addr) : Prop := ∃ (D : Addr) (tabs : List (List Nat)) (n : Nat) (ls : List Nat) (f : Nat → Nat), TurnAt a K H x D ls f n ∧ MapOk f n ∧ n ≤ 6 ∧ DevAt a K H D tabs n ∧ TabsOk tabs n
theorem Good.mono {H H' : Hp} {x : Addr} (s : Same H H') (h : Good a K H x) : Good a K H' x := let ⟨D, tabs, n, ls, f, h1, h2, h3, h4, h5⟩ := h; ⟨D, tabs, n, ls, f, h1.mono s, h2, h3, h4.mono s, h5⟩
theorem Good.butL {H H' : Hp} {b x : Addr} {xs : List V} (hb : H b = some (.lst xs)) (s : SameBut b H H') (h : Good a K H x) : Good a K H' x := let ⟨D, tabs, n, ls, f, h1, h2, h3, h4, h5⟩ := h; ⟨D, tabs, n, ls, f, h1.butL hb s, h2, h3, h4.butL hb s, h5⟩
theorem boxL {H : Hp} {b : Addr} (h : BoxAt H b) : ∃ xs, H b = some (.lst xs) := let ⟨_, _, _, e⟩ := h; ⟨_, e⟩
theorem eqvAll_dI : ∀ {a b : List Nat}, PyData.eqvAll (a.map fun (x : Nat) => PyData.int x) (b.map fun (x : Nat) => PyData.int x) = decide (a = b)
  | [], [] => rfl
  | [], _ :: _ => rfl
  | _ :: _, [] => rfl
  | x :: a, y :: b => by
    rw [List.map_cons, List.map_cons, PyData.eqvAll, eqvAll_dI, PyData.eqv, Bool.eq_iff_iff]
    simp
    intro _
    omega
theorem eqv_dI {a b : List Nat} : PyData.eqv (dI a) (dI b) = decide (a = b) := by
  unfold dI
  rw [PyData.eqv, eqvAll_dI]
theorem eqvAll_dT : ∀ {a b : List (List Nat)}, PyData.eqvAll (a.map dI) (b.map dI) = decide (a = b)
  | [], [] => rfl
  | [], _ :: _ => rfl
  | _ :: _, [] => rfl
  | x :: a, y :: b => by
    rw [List.map_cons, List.map_cons, PyData.eqvAll, eqvAll_dT, eqv_dI, Bool.eq_iff_iff]
    simp
theorem eqv_dT {a b : List (List Nat)} : PyData.eqv (dT a) (dT b) = decide (a = b) := by
  unfold dT
  rw [PyData.eqv, eqvAll_dT]
theorem row2_inj : ∀ {a b : List (Nat × Nat)}, a.map row2 = b.map row2 → a = b
  | [], [], _ => rfl
  | [], _ :: _, h => by simp at h
  | _ :: _, [], h => by simp at h
  | (x, y) :: a, (u, v) :: b, h => by
    rw [List.map_cons, List.map_cons, List.cons.injEq] at h
    obtain ⟨h1, h2⟩ := h
    unfold row2 at h1
    simp at h1
    rw [row2_inj h2, h1.1, h1.2]
def tRowSuite (a : Ads) (K : PySem.W.Frag) (b : Addr) (cls : Value) (d : Option Addr) : TS := tRet (tOp rEq (tXf b cls d a.x_BadRow "at" (tVar 8)) (tC (.int 0)))
def dO : Option Nat → PyData
  | none => .none
  | some t => .int t
theorem dp_opt {H : Hp} : ∀ o : Option Nat, Dp K H (optV o) (dO o)
  | none => .non
  | some t => .int _
theorem rep_opt {H : Hp} {o : Option Nat} {Q : VK} (h : ∀ t, o = some t → t ≤ 1000) (q : Q (.str (dO o).shown) H) : R3.rRep K [optV o] H Q := by
  refine rep_small (dp_opt o) ?_ q
  cases o with
  | none => exact ⟨rfl, by decide, by decide⟩
  | some t => exact small_int (Nat.le_trans (h t rfl) (by decide))
theorem so_opt (o : Option Nat) : scal (optV o) (optV o) = true := by cases o <;> rfl
def tRowTry (a : Ads) (K : PySem.W.Frag) (W : WX) : TS := tDrop (tMakeS a.c_Turn (spTurnInit a K) (WE W) (tCons (tFld K (tOp (rIxL K) (tVar 1) (tC (.int 0))) "device") (tCons (tC (.str "f")) tNil)))
def spCase : Sp := fun vs H Q _ => ∃ b : Addr, vs = [.ref b] ∧ BoxAt H b ∧ ∀ H', SameBut b H H' → Q (.bl true) H'
theorem ok_case (T : Txt a K mg) : FnG P0 w K mg base CX0 7 a.f_law_case_right a.d_law_case_right ["_law_box_here"] spCase := by
  refine okG T.F_law_case_right scC (fun vs H Q E h => ?_) (fun cdv A outer s H vs Q E gd hr h => ?_)
  · obtain ⟨_, rfl, _⟩ := h
    rfl
  · obtain ⟨b, rfl, hb, q⟩ := h
    refine ⟨_, (pss_cons (ps_set (i := 1) scC.nd rfl (.inr rfl) (pe_lst pa_nil))
      (pss_cons (ps_for PassesOwn.never rfl (pi_range1 (by rfl) T.b_range (pa_cons pe_int pa_nil)) (pg_name (i := 2) scC.nd rfl (Or.inl rfl)) (pss_cons (ps_set (i := 3) scC.nd rfl (.inl rfl) (pe_call (ok_tables T) (hr.mono (by decide)) (by rfl) T.g_law_tables T.F_law_tables.kp T.B_law_tables .nil pass0 (pa_cons (pv 0) (pa_cons pe_int (pa_cons (pe_op op_add pe_int (pe_call (ok_take T) (hr.mono (by decide)) (by rfl) T.g_law_take T.F_law_take.kp T.B_law_take .nil pass0 (pa_cons (pv 0) (pa_cons pe_int pa_nil)))) pa_nil)))))
        (pss_cons (ps_set (i := 4) scC.nd rfl (.inl rfl) (pe_make (E := E0) T.mk_Device (ok_dev_init T) (hr.mono (by decide)) (by rfl) T.g_Device T.B_Device_init .nil pass0 (pa_cons (pv 3) pa_nil)))
        (pss_cons (ps_set (i := 5) scC.nd rfl (.inl rfl) (pe_call (ok_row T) (hr.mono (by decide)) (by rfl) T.g_law_row T.F_law_row.kp T.B_law_row .nil pass0 (pa_cons (pv 0) (pa_cons (pe_fld (pv 4) (by rfl)) (pa_cons pe_int pa_nil)))))
        (pss_cons (ps_if (pt_not (pt_val (R3.pe_callG (E := E0) (ok_right T) gd (hr.mono (by decide)) (by rfl) T.g_law_turn_right T.F_law_turn_right.kp T.B_law_turn_right pass0 (pa_cons (pv 0) (pa_cons (pv 4) (pa_cons (pv 3) (pa_cons (pv 5) pa_nil))))))) (pss_one (ps_ret pe_bl)) pss_nil)
        (pss_one (ps_expr (pe_bm PySem.F.plainAttrs_list PySem.F.slot_list_append PySem.F.type_list_append mt_append (pv 1) (pa_cons (pe_make (E := E0) T.mk_Turn (ok_turn_init T) (hr.mono (by decide)) (by rfl) T.g_Turn T.B_Turn_init .nil passL (pa_cons (pv 4) (pa_cons (pv 5) pa_nil))) pa_nil)))))))))
      (pss_cons (ps_set (i := 6) scC.nd rfl (.inl rfl) (pe_callN0 (E := E0) (ok_unlike T) (hr.mono (by decide)) (by rfl) T.g_first_unlike T.F_first_unlike.kp T.KB_first_unlike pass0 (pk_cons (pe_ix (r := rIxL K) (by exact ix_list) (pv 1) pe_int (fun _ _ => rfl)) (pk_cons (pe_ix (r := rIxL K) (by exact ix_list) (pv 1) pe_int (fun _ _ => rfl)) pk_nil))))
      (pss_cons (ps_if (pt_cmpR op_ne (pe_call (ok_unlike T) (hr.mono (by decide)) (by rfl) T.g_first_unlike T.F_first_unlike.kp T.B_first_unlike .nil pass0 (pa_cons (pe_ix (r := rIxL K) (by exact ix_list) (pv 1) pe_int (fun _ _ => rfl)) (pa_cons (pe_ix (r := rIxL K) (by exact ix_list) (pv 1) pe_int (fun _ _ => rfl)) pa_nil))) (pv 6) (nomark _)) (pss_one (ps_ret pe_bl)) pss_nil)
      (pss_cons (ps_setLc (i := 7) (te := tVar 9) (own := [("_law_times", 9)]) (g := gName 9) (tt := tTest (tOp rNe (tMeth a.c_Turn "left_at" (spLeftAt a K) [] E0 (tOp (rIxL K) (tVar 1) (tC (.int 0))) (tCons (tVar 9) tNil)) (tMeth a.c_Turn "left_at" (spLeftAt a K) [] E0 (tOp (rIxL K) (tVar 1) (tC (.int 1))) (tCons (tVar 9) tNil)))) (by rfl) scC.nd rfl rfl (by rfl) (pi_range2 (by rfl) T.b_range (pa_cons pe_int (pa_cons pe_int pa_nil))) (blkOk_by (N := NC) (sc := (defScope (top 43))) (by decide +kernel)) (fun _ _ _ _ _ => pg_name (i := 9) scC.nd rfl (Or.inl rfl)) (fun _ _ _ _ _ => pts_one (pt_cmpR op_ne (pe_meth (E := E0) (pe_ix (r := rIxL K) (by exact ix_list) (pv 1) pe_int (fun _ _ => rfl)) T.cl_Turn T.m_Turn_left_at (ok_left_at T) (hr.mono (by decide)) T.B_Turn_left_at .nil passL (pa_cons (pv 9) pa_nil)) (pe_meth (E := E0) (pe_ix (r := rIxL K) (by exact ix_list) (pv 1) pe_int (fun _ _ => rfl)) T.cl_Turn T.m_Turn_left_at (ok_left_at T) (hr.mono (by decide)) T.B_Turn_left_at .nil passL (pa_cons (pv 9) pa_nil)) (nomark _))) (fun _ _ _ _ _ => pv 9))
      (pss_cons (ps_if (PW.pt (pw_or (pt_cmpR op_ne (pe_callB (r := rRep K) (call_rep gd hr.units) (by rfl) T.b_repr (by decide +kernel) (pa_cons (pv 6) pa_nil)) (pe_callB (r := rRep K) (call_rep gd hr.units) (by rfl) T.b_repr (by decide +kernel) (pa_cons (pe_ifExp (pt_cmpR (op_neD hr.units) (pv 7) (pe_lst pa_nil) (nomark _)) (pe_ix (r := rIxL K) (by exact ix_list) (pv 7) pe_int (fun _ _ => rfl)) pe_non) pa_nil)) (nomark _)) (pw_or1 (pt_cmpR op_ne (pe_cmpR op_isN (pv 6) pe_non (nomark _)) (pe_cmpR (op_eqD hr.units) (pe_call (ok_numbers T) (hr.mono (by decide)) (by rfl) T.g_ring_numbers T.F_ring_numbers.kp T.B_ring_numbers .nil pass0 (pa_cons (pe_ix (r := rIxL K) (by exact ix_list) (pv 1) pe_int (fun _ _ => rfl)) pa_nil)) (pe_call (ok_numbers T) (hr.mono (by decide)) (by rfl) T.g_ring_numbers T.F_ring_numbers.kp T.B_ring_numbers .nil pass0 (pa_cons (pe_ix (r := rIxL K) (by exact ix_list) (pv 1) pe_int (fun _ _ => rfl)) pa_nil)) (nomark _)) (nomark _))))) (pss_one (ps_ret pe_bl)) pss_nil)
      (pss_cons (ps_try_as (i := 8) (tb := fun W => tRowTry a K W) (ts := tRowSuite a K) (Wout := fun _ _ _ _ => False) rfl rfl scC.nd rfl rfl ⟨rfl, by decide, Or.inl T.S_BadRow.gC⟩ takes0 (fun W pn xe tk _ => by exact pss_one (ps_expr (pe_makeS (E := WE W) T.mk_Turn (ok_turn_init T) (hr.mono (by decide)) (by rfl) T.g_Turn T.B_Turn_init (fun σ pins _ H2 s2 _ e2 s3 _ I2 c2 => passAt tk σ pins H2 s2 e2 s3 I2 c2) (pa_cons (pe_fld (pe_ix (r := rIxL K) (by exact ix_list) (pv 1) pe_int (fun _ _ => rfl)) (by rfl)) (pa_cons pe_str pa_nil))))) (fun b oe cls d pn hz hfd => pss_one (ps_ret (pe_cmpR op_eq (pe_xf T.xf_BadRow T.S_BadRow.noN hz hfd (pv 8)) pe_int (nomark _)))))
      (pss_one (ps_ret pe_bl))))))))), ?_⟩
    obtain ⟨xs0, hx0⟩ := boxL hb
    refine ⟨Nat.zero_le _, fun A hA => ?_⟩
    have nAb : A ≠ b := fun e => by rw [e, hx0] at hA; cases hA
    have s1 := same_new (o := .lst []) hA
    have A1 : (upd H A (.lst [])) A = some (.lst (refs [])) := upd_same
    have b1 := hb.mono s1
    refine ⟨2, rfl, by decide, by decide, for_range (n := 2) (fun i σ H' => ∃ (xs : List Addr) (v2 v3 v4 v5 v6 v7 v8 v9 : Option V), σ = [some (.ref b), some (.ref A), v2, v3, v4, v5, v6, v7, v8, v9] ∧ SameBut b H H' ∧ BoxAt H' b ∧ H' A = some (.lst (refs xs)) ∧ xs.length = i ∧ ∀ x ∈ xs, Good a K H' x) ⟨[], none, none, none, none, none, none, none, none, rfl, s1.but, b1, A1, rfl, fun x hx => nomatch hx⟩ ?_ ?_⟩
    · rintro i σ H2 hi ⟨xs, v2, v3, v4, v5, v6, v7, v8, v9, rfl, sm, b2, A2, hl, hg⟩
      rw [Int.zero_add]
      obtain ⟨y2, hy2⟩ := boxL b2
      -- the tables
      refine ⟨_, rfl, _, rfl, b, 2, rfl, b2, by decide, by decide, fun H3 d hd s3 b3 => ⟨_, _, rfl, rfl, ?_⟩⟩
      obtain ⟨y3, hy3⟩ := boxL b3
      refine ⟨b, 6, 1 + d, by rw [Int.natCast_add]; rfl, b3, by decide, by decide, by omega, by omega, fun H4 L tabs n s4 b4 nL hL hk n6 ok => ?_⟩
      obtain ⟨y4, hy4⟩ := boxL b4
      -- the device
      refine ⟨_, rfl, fun D dx nD nd ne => ?_⟩
      have s5 : Same H4 (upd (upd H4 dx (.own D)) D (.ins a.c_Device dx [])) := (same_new nd).trans (same_new ((upd_ne (Ne.symm ne)).trans nD))
      refine ⟨D, dx, L, tabs, n, rfl, upd_same, hL.tl.mono s5, ok, fun H5 sb5 dv5 => ⟨rfl, ?_⟩⟩
      have s5' : Same H4 H5 := Same.made nD nd sb5
      have b5 := b4.mono s5'
      have hL5 := hL.mono s5'
      obtain ⟨y5, hy5⟩ := boxL b5
      have Lb : L ≠ b := fun e => by rw [e, hy3] at nL; cases nL
      obtain ⟨dxD, qD, hDx, hDt⟩ := id dv5
      -- the row
      refine ⟨_, rfl, _, rfl, D, _, dxD, _, _, rfl, hDx, T.cl_Device, T.n_Device_signals, rfl, b, tabs.length, 5, rfl, b5, ok.k0, ok.k5, by decide, fun H6 ls s6 b6 hl5 hlk => ?_⟩
      obtain ⟨y6, hy6⟩ := boxL b6
      have dv6 := dv5.butL hy5 s6
      have hL6 := hL5.but s6 Lb
      -- all is right with it
      refine ⟨_, rfl, _, rfl, _, rfl, _, rfl, b, D, L, tabs, n, ls, rfl, b6, dv6, hL6.tl, ok, n6, by omega, hlk, fun H7 s7 b7 => ⟨true, rfl, no_if rfl ?_⟩⟩
      have dv7 := dv6.butL hy6 s7
      obtain ⟨y7, hy7⟩ := boxL b7
      have A7 := s7 _ _ (s6 _ _ (s5' _ _ (s4 _ _ (s3 _ _ A2 nAb) nAb)) nAb) nAb
      have g7 : ∀ x ∈ xs, Good a K H7 x := fun x hx => ((((hg x hx).butL hy2 s3).butL hy3 s4).mono s5').butL hy5 s6 |>.butL hy6 s7
      -- its turn is kept
      refine ⟨_, rfl, .inl ⟨rfl, _, sqL A7⟩, _, rfl, _, rfl, fun x dx' nx nd' ne' => ?_⟩
      have s8 : Same H7 (upd (upd H7 dx' (.own x)) x (.ins a.c_Turn dx' [])) := (same_new nd').trans (same_new ((upd_ne (Ne.symm ne')).trans nx))
      refine ⟨x, dx', D, tabs, n, ls, rfl, upd_same, dv7.mono s8, ok, n6, by omega, .inl ⟨hlk, fun H8 sb8 tx => ⟨rfl, ?_⟩⟩⟩
      have s8' : Same H7 H8 := Same.made nx nd' sb8
      have A8 := s8' _ _ A7
      have gx : Good a K H8 x := ⟨D, tabs, n, ls, _, tx, ⟨stepOf_lt ok ls hlk, ok.n0, n6⟩, n6, dv7.mono s8', ok⟩
      have sA : SameBut A H8 (upd H8 A (.lst (refs (xs ++ [x])))) := (Same.refl H8).but.put
      refine ⟨A, refs xs, .ref x, rfl, rfl, A8, by rw [refs_len, hl]; exact small1000 (by omega), ?_⟩
      rw [← refs_snoc]
      refine ⟨xs ++ [x], _, _, _, _, _, _, _, _, rfl, fun q o e nb => by rw [upd_ne (ne_of_none e hA)]; exact s8' _ _ (s7 _ _ (s6 _ _ (s5' _ _ (s4 _ _ (s3 _ _ (sm _ _ e nb) nb) nb)) nb) nb), (b7.mono s8').keep (Ne.symm nAb), upd_same, by rw [List.length_append, hl]; rfl, fun z hz => ?_⟩
      rcases List.mem_append.mp hz with h | h
      · exact ((g7 z h).mono s8').butL A8 sA
      · rw [show z = x by simpa using h]; exact gx.butL A8 sA
    · rintro σ H2 ⟨xs, v2, v3, v4, v5, v6, v7, v8, v9, rfl, sm, b2, A2, hl, hg⟩
      obtain ⟨x, y, rfl⟩ : ∃ x y, xs = [x, y] := match xs, hl with | [x, y], _ => ⟨x, y, rfl⟩
      obtain ⟨D, tabs, n, ls, f, tx2, mx, n6, dv2, ok⟩ := hg x (by simp)
      obtain ⟨D', tabs', n', ls', f', ty2, my, n6', dv2', ok'⟩ := hg y (by simp)
      obtain ⟨o, eo⟩ : ∃ o, (Rg.apart (Rg.lens f n) (Rg.lens f' n')).head? = o := ⟨_, rfl⟩
      -- what is told
      refine ⟨_, rfl, A, _, _, _, rfl, rfl, sqL A2, rfl, _, rfl, A, _, _, _, rfl, rfl, sqL A2, rfl, rfl, rfl, x, D, y, D', ls, ls', f, f', n, n', rfl, tx2, mx, ty2, my, fun H3 s3 => ?_⟩
      rw [eo]
      have A3 := s3 _ _ A2
      have tx3 := tx2.mono s3
      have ty3 := ty2.mono s3
      refine ⟨_, rfl, A, _, _, _, rfl, rfl, sqL A3, rfl, _, rfl, A, _, _, _, rfl, rfl, sqL A3, rfl, x, D, y, D', ls, ls', f, f', n, n', rfl, tx3, mx, ty3, my, fun H4 s4 => ?_⟩
      rw [eo]
      refine ⟨_, rfl, so_opt o, _, rfl, no_if (by simp) ?_⟩
      have s24 := s3.trans s4
      have A4 := s4 _ _ A3
      have tx4 := tx3.mono s4
      have ty4 := ty3.mono s4
      have dv4 := dv2.mono s24
      -- where they are unlike
      refine ⟨(1 : Int), (61 : Int), rfl, ⟨by decide, by decide, by decide, by decide⟩, fun U hU => lc_range (lo := 1) (n := 60) (fun j H' => Same H4 H' ∧ H' U = some (.lst (tN (((List.range j).map (· + 1)).filter fun t => Rg.L (Rg.lens f n) t != Rg.L (Rg.lens f' n') t)))) ⟨same_new hU, upd_same⟩ ?_ ?_⟩
      · rintro j H' hj ⟨sj, hP⟩
        rw [show (1 : Int) + (j : Int) = ((j + 1 : Nat) : Int) by omega]
        have Aj := sj _ _ A4
        have txj := tx4.mono sj
        obtain ⟨dxx, _, _, _, hxx, _⟩ := id txj
        refine ⟨rfl, _, rfl, A, _, _, _, rfl, rfl, sqL Aj, rfl, x, dxx, _, rfl, hxx, rfl, _, rfl, x, D, ls, f, n, _, rfl, txj, mx, rfl, .inl ⟨j + 1, rfl, by omega, by omega, fun H5 s5 => ?_⟩⟩
        have Ak := s5 _ _ Aj
        have tyk := (ty4.mono sj).mono s5
        obtain ⟨dxy, _, _, _, hxy, _⟩ := id tyk
        refine ⟨_, rfl, A, _, _, _, rfl, rfl, sqL Ak, rfl, y, dxy, _, rfl, hxy, rfl, _, rfl, y, D', ls', f', n', _, rfl, tyk, my, rfl, .inl ⟨j + 1, rfl, by omega, by omega, fun H6 s6 => ?_⟩⟩
        have sk := (sj.trans s5).trans s6
        have hPk := s6 _ _ (s5 _ _ hP)
        have few : (((List.range j).map (· + 1)).filter fun t => Rg.L (Rg.lens f n) t != Rg.L (Rg.lens f' n') t).length ≤ 1000 := Nat.le_trans (List.length_filter_le _ _) (by rw [List.length_map, List.length_range]; omega)
        have fe : ((List.range (j + 1)).map (· + 1)).filter (fun t => Rg.L (Rg.lens f n) t != Rg.L (Rg.lens f' n') t) = (((List.range j).map (· + 1)).filter fun t => Rg.L (Rg.lens f n) t != Rg.L (Rg.lens f' n') t) ++ [j + 1].filter (fun t => Rg.L (Rg.lens f n) t != Rg.L (Rg.lens f' n') t) := by rw [List.range_succ, List.map_append, List.filter_append]; rfl
        rw [Rg.left_L, Rg.left_L]
        refine ⟨rfl, _, rfl, ite2 (fun c => ?_) (fun c => ?_)⟩
        · have ne : (Rg.L (Rg.lens f n) (j + 1) != Rg.L (Rg.lens f' n') (j + 1)) = true := by
            rw [bne_iff_ne]
            intro z
            rw [z] at c
            simp at c
          refine ⟨_, rfl, _, hPk, by rw [tN_len]; exact small1000 few, sk.upd_new hU, ?_⟩
          rw [upd_same, fe, show [j + 1].filter (fun t => Rg.L (Rg.lens f n) t != Rg.L (Rg.lens f' n') t) = [j + 1] by rw [List.filter_cons, if_pos ne]; rfl, tN_snoc]
        · have eq : ¬ (Rg.L (Rg.lens f n) (j + 1) != Rg.L (Rg.lens f' n') (j + 1)) = true := by
            rw [bne_iff_ne]
            intro z
            refine c ?_
            rw [decide_eq_false (fun y => z (Int.natCast_inj.mp (V.int.inj y)))]
            rfl
          refine ⟨sk, ?_⟩
          rw [hPk, fe, show [j + 1].filter (fun t => Rg.L (Rg.lens f n) t != Rg.L (Rg.lens f' n') t) = [] by rw [List.filter_cons, if_neg eq]; rfl, List.append_nil]
      rintro H5 ⟨s5, hP⟩
      change H5 U = some (.lst (tN (Rg.apart (Rg.lens f n) (Rg.lens f' n')))) at hP
      have tn := Rg.told_none mx.lens my.lens
      have rq := Rg.rn_eq_iff mx.lens my.lens
      have la : ∀ t ∈ Rg.apart (Rg.lens f n) (Rg.lens f' n'), t ≤ 1000 := fun t ht => by have := (Rg.mem_apart.mp ht).1.2; omega
      have ll : (Rg.apart (Rg.lens f n) (Rg.lens f' n')).length ≤ 1000 := by
        unfold Rg.apart
        exact Nat.le_trans (List.length_filter_le _ _) (by rw [List.length_map, List.length_range]; decide)
      obtain ⟨ap, ea⟩ : ∃ ap, Rg.apart (Rg.lens f n) (Rg.lens f' n') = ap := ⟨_, rfl⟩
      rw [ea] at hP tn la ll eo
      have lo : ∀ t, o = some t → t ≤ 1000 := fun t h => la t (List.mem_of_mem_head? (by rw [eo, h]; rfl))
      have k1 : ∀ Q' : VK, Q' (.str (dO o).shown) H5 → R3.rRep K [optV o] H5 Q' := fun Q' q' => rep_opt lo q'
      refine ⟨_, rfl, ?_⟩
      unfold tNil
      with_reducible refine k1 _ ?_
      refine ⟨_, rfl, Nat.zero_le _, fun Z hZ => ?_⟩
      have s6 := same_new (o := .lst []) hZ
      have P6 := s6 _ _ hP
      have Z6 : (upd H5 Z (.lst [])) Z = some (.lst []) := upd_same
      generalize (upd H5 Z (.lst [])) = H6 at s6 P6 Z6 ⊢
      have t1 : tiny (.list (ap.map fun (x : Nat) => .int x)) = true := tinyAll_map fun x hx => decide_eq_true (by have := la x hx; omega)
      have d1 : (PyData.list (ap.map fun (x : Nat) => .int x)).depth ≤ 64 := Nat.le_trans (Nat.succ_le_succ (depthAll_map (m := 0) fun _ _ => Nat.le_refl 0)) (by decide)
      refine ⟨_, _, .lst (sqL P6) (dpAll_tN _), .lst (sqL Z6) .nil, shaped_tiny t1 d1, shaped_tiny (d := .list []) rfl (by decide), _, rfl, ?_⟩
      rw [eq_nil_data]
      have k2 : ∀ Q' : VK, Q' (.str (dO o).shown) H6 → R3.rRep K [optV o] H6 Q' := fun Q' q' => rep_opt lo q'
      rw [show (ap.map fun (x : Nat) => PyData.int x).isEmpty = ap.isEmpty by cases ap <;> rfl]
      have key : ∀ (σ : L2.St) (Q1 : VK), σ[7]? = some (some (.ref U)) → Q1 (optV o) H6 → (if (!ap.isEmpty) = true then tOp (rIxL K) (tVar 7) (tC (.int 0)) σ H6 Q1 else tC .non σ H6 Q1) := fun σ Q1 e q1 => by
        cases ap with
        | nil =>
          obtain rfl : none = o := eo
          exact no_if rfl q1
        | cons t ts =>
          obtain rfl : some t = o := eo
          exact so_if rfl ⟨_, e, U, _, _, _, rfl, rfl, sqL P6, atI_nat (j := 0) (tN_get (by rfl)), q1⟩
      refine key _ _ ?_ ?_
      · rfl
      clear key
      with_reducible refine k2 _ ?_
      refine ⟨rfl, _, rfl, no_if ne_str ?_⟩
      have s46 := s5.trans s6
      have A6 := s46 _ _ A4
      have tx6 := tx4.mono s46
      have ty6 := ty4.mono s46
      have dv6 := dv4.mono s46
      refine ⟨_, rfl, rfl, _, rfl, A, _, _, _, rfl, rfl, sqL A6, rfl, x, D, ls, f, n, rfl, tx6, mx, fun H7 r1 s7 tt1 => ?_⟩
      refine ⟨_, rfl, A, _, _, _, rfl, rfl, sqL (s7 _ _ A6), rfl, y, D', ls', f', n', rfl, ty6.mono s7, my, fun H8 r2 s8 tt2 => ?_⟩
      have sr1 := small_rn mx
      have sr2 := small_rn my
      refine ⟨_, _, dp_TT (tt1.mono s8), dp_TT tt2, shaped_tiny sr1.t (Nat.le_trans sr1.d (by decide)), shaped_tiny sr2.t (Nat.le_trans sr2.d (by decide)), rfl, _, rfl, no_if ?_ ?_⟩
      · have e1 : decide (optV o = V.non) = decide (ap = []) := by
          cases ap with
          | nil =>
            obtain rfl : none = o := eo
            rfl
          | cons t ts =>
            obtain rfl : some t = o := eo
            rw [decide_eq_false (by intro z; cases z), decide_eq_false (by intro z; cases z)]
        have e2 : decide (ap = []) = decide ((Rg.rn (Rg.lens f n)).map row2 = (Rg.rn (Rg.lens f' n')).map row2) := by
          rw [Bool.eq_iff_iff, decide_eq_true_iff, decide_eq_true_iff, tn, ← rq]
          exact ⟨fun h => by rw [h], row2_inj⟩
        rw [eqv_dT, e1, e2]
        simp
      have s48 := (s46.trans s7).trans s8
      have A8 := s48 _ _ A4
      have tx8 := tx4.mono s48
      have dv8 := dv4.mono s48
      obtain ⟨dxx, _, _, _, hxx, _⟩ := id tx8
      -- a row that is none
      refine ⟨_, rfl, A, _, _, _, rfl, rfl, sqL A8, rfl, x, _, dxx, _, _, rfl, hxx, T.cl_Turn, T.n_Turn_device, rfl, fun z dz nz nd ne => ?_⟩
      have s9 : Same H8 (upd (upd H8 dz (.own z)) z (.ins a.c_Turn dz [])) := (same_new nd).trans (same_new ((upd_ne (Ne.symm ne)).trans nz))
      refine ⟨z, dz, D, tabs, n, [5], rfl, upd_same, dv8.mono s9, ok, n6, by decide, .inr ⟨rfl, fun H9 d s9' hd => ⟨true, T.S_BadRow.te, fun _ e _ => ?_, fun z => Bool.noConfusion z⟩⟩⟩
      refine ⟨_, rfl, rfl, rfl, d, _, _, rfl, hd, rfl, rfl, ?_⟩
      rw [decide_eq_true rfl]
      exact q _ (sm.then ((s24.trans s48).trans (s9.trans s9')))

end
end K3
end

section
set_option Elab.async false
set_option linter.all false
set_option maxRecDepth 100000
set_option maxHeartbeats 4000000
/-! The law itself. -/
namespace K3
open PySem L2 R3
section
variable {w : World} {K : PySem.W.Frag} {mg : Str → Option Value} {base : Heap} {a : Ads}
def spLaw (K : PySem.W.Frag) : Sp := fun vs H Q _ => ∃ (p : Addr) (ns : List Int), vs = [.ref p] ∧ SqL K H p (ns.map V.int) ∧ ns.length ≤ 63 ∧ ∀ H', Q (.bl true) H'
theorem scL : FnScope ["_law_script", "_law_k"] ["_law_script"] (defScope (top 44)) := ⟨rfl, rfl, rfl, by decide +kernel, rfl, by decide +kernel, by decide +kernel⟩
theorem ok_law (T : Txt a K mg) : FnG P0 w K mg base CX0 8 a.f_law a.d_law ["_law_script"] (spLaw K) := by
  refine okG T.F_law scL (fun vs H Q E h => ?_) (fun cdv A outer s H vs Q E gd hr h => ?_)
  · obtain ⟨_, _, rfl, _⟩ := h
    rfl
  · obtain ⟨p, ns, rfl, hp, hn, q⟩ := h
    refine ⟨_, pss_cons (ps_for PassesOwn.never rfl (pi_range1 (by rfl) T.b_range (pa_cons pe_int pa_nil)) (pg_name (i := 1) scL.nd rfl (Or.inl rfl))
        (pss_one (ps_if (pt_not (pt_val (R3.pe_callG (E := E0) (ok_case T) gd hr (by rfl) T.g_law_case_right T.F_law_case_right.kp T.B_law_case_right pass0
          (pa_cons (pe_call (ok_box T) (hr.mono (by decide)) (by rfl) T.g_law_box T.F_law_box.kp T.B_law_box .nil pass0 (pa_cons (pv 0) (pa_cons (pv 1) pa_nil))) pa_nil)))) (pss_one (ps_ret pe_bl)) pss_nil)))
      (pss_one (ps_ret pe_bl)), ?_⟩
    refine ⟨3, rfl, by decide, by decide, for_range (n := 3) (fun i σ H' => ∃ v1, σ = [some (.ref p), v1] ∧ SqL K H' p (ns.map V.int)) ⟨none, rfl, hp⟩ ?_ ?_⟩
    · rintro i σ H1 hi ⟨v1, rfl, h1⟩
      rw [Int.zero_add]
      refine ⟨_, rfl, _, rfl, p, i, ns, rfl, by omega, h1, hn, fun H2 b s2 nb hb => ?_⟩
      refine ⟨b, rfl, hb, fun H3 s3 => ⟨true, rfl, no_if rfl ⟨_, rfl, ?_⟩⟩⟩
      have s13 : Same H1 H3 := fun q o e => s3 q o (s2 q o e) (fun z => by rw [z, nb] at e; cases e)
      exact s13.seq h1
    · rintro σ H1 ⟨v1, rfl, h1⟩
      exact q _
end
end K3
end

section
set_option Elab.async false
set_option linter.all false
set_option maxRecDepth 100000
set_option maxHeartbeats 8000000
/-! The end. -/
namespace K3
open PySem PySem.Spec PyProof.Rows L2 R3
theorem kit_c {K : PySem.W.Frag} {S B : Addr} (h2 : PySem.W.isClsIn K B = true) (h3 : PySem.W.typeIn K (.ref B) = some (.type "type")) (h4 : PySem.W.subIn K (.ref S) (.ref B) = some true) : PySem.W.kitCls K (.ref S) (.ref B) = some true := by
  have e2 : ((PySem.W.clsIn K B).isSome && PySem.W.typeIn K (.ref B) == some (.type "type")) = true := by
    have h2' : (PySem.W.clsIn K B).isSome = true := h2
    rw [h2', h3]
    rfl
  show (if ((PySem.W.clsIn K B).isSome && PySem.W.typeIn K (.ref B) == some (.type "type")) = true then PySem.W.subIn K (.ref S) (.ref B) else none) = some true
  rw [if_pos e2]
  exact h4
theorem exm_self {K : PySem.W.Frag} {S : Addr} (h1 : PySem.W.subIn K (.ref S) (.type "BaseException") = some true) (h2 : PySem.W.isClsIn K S = true) (h3 : PySem.W.typeIn K (.ref S) = some (.type "type")) (h4 : PySem.W.subIn K (.ref S) (.ref S) = some true) :
    PySem.W.exmOne K (.ref S) (.ref S) = some true := by
  unfold PySem.W.exmOne
  rw [h1]
  exact kit_c h2 h3 h4
theorem kit_of {K : PySem.W.Frag} {S B : Addr} (h2 : PySem.W.isClsIn K B = true) (h3 : PySem.W.typeIn K (.ref B) = some (.type "type")) (h4 : PySem.W.subIn K (.ref S) (.ref B) = some true) : PySem.W.kitOne K (.ref S) (.ref B) = some true := by
  unfold PySem.W.kitOne
  split
  · rfl
  · exact kit_c h2 h3 h4
theorem nsok_of {K : PySem.W.Frag} {N : Addr} {oc : Value} {od : Option Addr} {es : Array DictEntry} {ep : Nat} {sl : Array (Option Value)} (h : K.lookup N = some ⟨oc, od, .dict es ep, sl⟩) (g : (es.toList.all fun e => match e.key with | .str _ _ => true | _ => false) = true) : PySem.W.nsOkIn K N = true := by
  unfold PySem.W.nsOkIn
  rw [h]
  show es.all _ = true
  rw [← Array.all_toList]
  exact g
theorem top_super : (P0.main.scope.names.lookup ("super" : Str)).isSome = false := by decide +kernel
theorem all_mk {w : World} {K : PySem.W.Frag} {h : Heap} {mg : Str → Option Value} {fa : Addr} (X : K.In h) (G : h.Ns mainGlobals mg) (hfa : mg "law" = some (.ref fa))
    {c_Device : Addr} {c_Turn : Addr} {f_is_integer : Addr} {od_is_integer : Option Addr} {an_is_integer : Option Addr} {sl_is_integer : Array (Option Value)} {oc_is_integer : Value} {kV_is_integer : Value} {dc_is_integer : Value} {pm_is_integer : Value} {cd_is_integer : Value} {ct_is_integer : Value} {f_is_number : Addr} {od_is_number : Option Addr} {an_is_number : Option Addr} {sl_is_number : Array (Option Value)} {oc_is_number : Value} {kV_is_number : Value} {dc_is_number : Value} {pm_is_number : Value} {cd_is_number : Value} {ct_is_number : Value} {f_is_text : Addr} {od_is_text : Option Addr} {an_is_text : Option Addr} {sl_is_text : Array (Option Value)} {oc_is_text : Value} {kV_is_text : Value} {dc_is_text : Value} {pm_is_text : Value} {cd_is_text : Value} {ct_is_text : Value} {f_is_sequence : Addr} {od_is_sequence : Option Addr} {an_is_sequence : Option Addr} {sl_is_sequence : Array (Option Value)} {oc_is_sequence : Value} {kV_is_sequence : Value} {dc_is_sequence : Value} {pm_is_sequence : Value} {cd_is_sequence : Value} {ct_is_sequence : Value} {f_common_divisor : Addr} {od_common_divisor : Option Addr} {an_common_divisor : Option Addr} {sl_common_divisor : Array (Option Value)} {oc_common_divisor : Value} {kV_common_divisor : Value} {dc_common_divisor : Value} {pm_common_divisor : Value} {cd_common_divisor : Value} {ct_common_divisor : Value} {f_common_multiple : Addr} {od_common_multiple : Option Addr} {an_common_multiple : Option Addr} {sl_common_multiple : Array (Option Value)} {oc_common_multiple : Value} {kV_common_multiple : Value} {dc_common_multiple : Value} {pm_common_multiple : Value} {cd_common_multiple : Value} {ct_common_multiple : Value} {f_is_table : Addr} {od_is_table : Option Addr} {an_is_table : Option Addr} {sl_is_table : Array (Option Value)} {oc_is_table : Value} {kV_is_table : Value} {dc_is_table : Value} {pm_is_table : Value} {cd_is_table : Value} {ct_is_table : Value} {f_check_row : Addr} {od_check_row : Option Addr} {an_check_row : Option Addr} {sl_check_row : Array (Option Value)} {oc_check_row : Value} {kV_check_row : Value} {dc_check_row : Value} {pm_check_row : Value} {cd_check_row : Value} {ct_check_row : Value} {f_joined_effects : Addr} {od_joined_effects : Option Addr} {an_joined_effects : Option Addr} {sl_joined_effects : Array (Option Value)} {oc_joined_effects : Value} {kV_joined_effects : Value} {dc_joined_effects : Value} {pm_joined_effects : Value} {cd_joined_effects : Value} {ct_joined_effects : Value} {f_said_effect : Addr} {od_said_effect : Option Addr} {an_said_effect : Option Addr} {sl_said_effect : Array (Option Value)} {oc_said_effect : Value} {kV_said_effect : Value} {dc_said_effect : Value} {pm_said_effect : Value} {cd_said_effect : Value} {ct_said_effect : Value} {f_effect_left : Addr} {od_effect_left : Option Addr} {an_effect_left : Option Addr} {sl_effect_left : Array (Option Value)} {oc_effect_left : Value} {kV_effect_left : Value} {dc_effect_left : Value} {pm_effect_left : Value} {cd_effect_left : Value} {ct_effect_left : Value} {f_effect_rings : Addr} {od_effect_rings : Option Addr} {an_effect_rings : Option Addr} {sl_effect_rings : Array (Option Value)} {oc_effect_rings : Value} {kV_effect_rings : Value} {dc_effect_rings : Value} {pm_effect_rings : Value} {cd_effect_rings : Value} {ct_effect_rings : Value} {f_ring_numbers : Addr} {od_ring_numbers : Option Addr} {an_ring_numbers : Option Addr} {sl_ring_numbers : Array (Option Value)} {oc_ring_numbers : Value} {kV_ring_numbers : Value} {dc_ring_numbers : Value} {pm_ring_numbers : Value} {cd_ring_numbers : Value} {ct_ring_numbers : Value} {f_first_unlike : Addr} {od_first_unlike : Option Addr} {an_first_unlike : Option Addr} {sl_first_unlike : Array (Option Value)} {oc_first_unlike : Value} {kV_first_unlike : Value} {dc_first_unlike : Value} {pm_first_unlike : Value} {cd_first_unlike : Value} {ct_first_unlike : Value} {f_law_box : Addr} {od_law_box : Option Addr} {an_law_box : Option Addr} {sl_law_box : Array (Option Value)} {oc_law_box : Value} {kV_law_box : Value} {dc_law_box : Value} {pm_law_box : Value} {cd_law_box : Value} {ct_law_box : Value} {f_law_take : Addr} {od_law_take : Option Addr} {an_law_take : Option Addr} {sl_law_take : Array (Option Value)} {oc_law_take : Value} {kV_law_take : Value} {dc_law_take : Value} {pm_law_take : Value} {cd_law_take : Value} {ct_law_take : Value} {f_law_pick : Addr} {od_law_pick : Option Addr} {an_law_pick : Option Addr} {sl_law_pick : Array (Option Value)} {oc_law_pick : Value} {kV_law_pick : Value} {dc_law_pick : Value} {pm_law_pick : Value} {cd_law_pick : Value} {ct_law_pick : Value} {f_law_tables : Addr} {od_law_tables : Option Addr} {an_law_tables : Option Addr} {sl_law_tables : Array (Option Value)} {oc_law_tables : Value} {kV_law_tables : Value} {dc_law_tables : Value} {pm_law_tables : Value} {cd_law_tables : Value} {ct_law_tables : Value} {f_law_row : Addr} {od_law_row : Option Addr} {an_law_row : Option Addr} {sl_law_row : Array (Option Value)} {oc_law_row : Value} {kV_law_row : Value} {dc_law_row : Value} {pm_law_row : Value} {cd_law_row : Value} {ct_law_row : Value} {f_law_after : Addr} {od_law_after : Option Addr} {an_law_after : Option Addr} {sl_law_after : Array (Option Value)} {oc_law_after : Value} {kV_law_after : Value} {dc_law_after : Value} {pm_law_after : Value} {cd_law_after : Value} {ct_law_after : Value} {f_law_far : Addr} {od_law_far : Option Addr} {an_law_far : Option Addr} {sl_law_far : Array (Option Value)} {oc_law_far : Value} {kV_law_far : Value} {dc_law_far : Value} {pm_law_far : Value} {cd_law_far : Value} {ct_law_far : Value} {f_law_rings : Addr} {od_law_rings : Option Addr} {an_law_rings : Option Addr} {sl_law_rings : Array (Option Value)} {oc_law_rings : Value} {kV_law_rings : Value} {dc_law_rings : Value} {pm_law_rings : Value} {cd_law_rings : Value} {ct_law_rings : Value} {f_law_refused : Addr} {od_law_refused : Option Addr} {an_law_refused : Option Addr} {sl_law_refused : Array (Option Value)} {oc_law_refused : Value} {kV_law_refused : Value} {dc_law_refused : Value} {pm_law_refused : Value} {cd_law_refused : Value} {ct_law_refused : Value} {f_law_is_square : Addr} {od_law_is_square : Option Addr} {an_law_is_square : Option Addr} {sl_law_is_square : Array (Option Value)} {oc_law_is_square : Value} {kV_law_is_square : Value} {dc_law_is_square : Value} {pm_law_is_square : Value} {cd_law_is_square : Value} {ct_law_is_square : Value} {f_law_turn_right : Addr} {od_law_turn_right : Option Addr} {an_law_turn_right : Option Addr} {sl_law_turn_right : Array (Option Value)} {oc_law_turn_right : Value} {kV_law_turn_right : Value} {dc_law_turn_right : Value} {pm_law_turn_right : Value} {cd_law_turn_right : Value} {ct_law_turn_right : Value} {f_law_case_right : Addr} {od_law_case_right : Option Addr} {an_law_case_right : Option Addr} {sl_law_case_right : Array (Option Value)} {oc_law_case_right : Value} {kV_law_case_right : Value} {dc_law_case_right : Value} {pm_law_case_right : Value} {cd_law_case_right : Value} {ct_law_case_right : Value} {f_law : Addr} {od_law : Option Addr} {an_law : Option Addr} {sl_law : Array (Option Value)} {oc_law : Value} {kV_law : Value} {dc_law : Value} {pm_law : Value} {cd_law : Value} {ct_law : Value} {f_Device_init : Addr} {od_Device_init : Option Addr} {an_Device_init : Option Addr} {sl_Device_init : Array (Option Value)} {oc_Device_init : Value} {kV_Device_init : Value} {dc_Device_init : Value} {pm_Device_init : Value} {cd_Device_init : Value} {ct_Device_init : Value} {f_Device_eq : Addr} {od_Device_eq : Option Addr} {an_Device_eq : Option Addr} {sl_Device_eq : Array (Option Value)} {oc_Device_eq : Value} {kV_Device_eq : Value} {dc_Device_eq : Value} {pm_Device_eq : Value} {cd_Device_eq : Value} {ct_Device_eq : Value} {f_Device_effect : Addr} {od_Device_effect : Option Addr} {an_Device_effect : Option Addr} {sl_Device_effect : Array (Option Value)} {oc_Device_effect : Value} {kV_Device_effect : Value} {dc_Device_effect : Value} {pm_Device_effect : Value} {cd_Device_effect : Value} {ct_Device_effect : Value} {f_Turn_init : Addr} {od_Turn_init : Option Addr} {an_Turn_init : Option Addr} {sl_Turn_init : Array (Option Value)} {oc_Turn_init : Value} {kV_Turn_init : Value} {dc_Turn_init : Value} {pm_Turn_init : Value} {cd_Turn_init : Value} {ct_Turn_init : Value} {f_Turn_said_at : Addr} {od_Turn_said_at : Option Addr} {an_Turn_said_at : Option Addr} {sl_Turn_said_at : Array (Option Value)} {oc_Turn_said_at : Value} {kV_Turn_said_at : Value} {dc_Turn_said_at : Value} {pm_Turn_said_at : Value} {cd_Turn_said_at : Value} {ct_Turn_said_at : Value} {f_Turn_left_at : Addr} {od_Turn_left_at : Option Addr} {an_Turn_left_at : Option Addr} {sl_Turn_left_at : Array (Option Value)} {oc_Turn_left_at : Value} {kV_Turn_left_at : Value} {dc_Turn_left_at : Value} {pm_Turn_left_at : Value} {cd_Turn_left_at : Value} {ct_Turn_left_at : Value} {f_Turn_square_at : Addr} {od_Turn_square_at : Option Addr} {an_Turn_square_at : Option Addr} {sl_Turn_square_at : Array (Option Value)} {oc_Turn_square_at : Value} {kV_Turn_square_at : Value} {dc_Turn_square_at : Value} {pm_Turn_square_at : Value} {cd_Turn_square_at : Value} {ct_Turn_square_at : Value} {f_Turn_core : Addr} {od_Turn_core : Option Addr} {an_Turn_core : Option Addr} {sl_Turn_core : Array (Option Value)} {oc_Turn_core : Value} {kV_Turn_core : Value} {dc_Turn_core : Value} {pm_Turn_core : Value} {cd_Turn_core : Value} {ct_Turn_core : Value} {cBack : Addr} {x_Refused : Addr} {nm_Refused : Str} {qq_Refused : Str} {N_Refused : Addr} {bs_Refused : List Value} {bm_Refused : List Value} {sn_Refused : List Str} {sub_Refused : List Value} {ab_Refused : Bool} {col_Refused : Option Bool} {dd_Refused : Option Addr} {m0_Refused : Option Value} {m1_Refused : Option Value} {m2_Refused : Option Value} {m3_Refused : Option Value} {m5_Refused : Option Value} {xi_Refused : Addr} {xoc_Refused : Value} {xdoc_Refused : Value} {xpm_Refused : Value} {xct_Refused : Value} {xccl_Refused : Value} {xcl_Refused : Value} {xod_Refused : Option Addr} {xan_Refused : Option Addr} {xcdd_Refused : Option Addr} {xcld_Refused : Option Addr} {xosl_Refused : Array (Option Value)} {xccs_Refused : Array (Option Value)} {xcsl_Refused : Array (Option Value)} {xcda_Refused : Addr} {xcc_Refused : Addr} {xvs_Refused : Array Value} {xfile_Refused : Str} {xtf_Refused : Tok} {xtext_Refused : Str} {xk_Refused : Nat} {xp1_Refused : Pos} {xp2_Refused : Pos} {xq1_Refused : Pos} {xq2_Refused : Pos} {xq3_Refused : Pos} {xq4_Refused : Pos} {xq5_Refused : Pos} {xq6_Refused : Pos} {xq7_Refused : Pos} {xq8_Refused : Pos} {xq9_Refused : Pos} {xq10_Refused : Pos} {x_BadRow : Addr} {nm_BadRow : Str} {qq_BadRow : Str} {N_BadRow : Addr} {bs_BadRow : List Value} {bm_BadRow : List Value} {sn_BadRow : List Str} {sub_BadRow : List Value} {ab_BadRow : Bool} {col_BadRow : Option Bool} {dd_BadRow : Option Addr} {m0_BadRow : Option Value} {m1_BadRow : Option Value} {m2_BadRow : Option Value} {m3_BadRow : Option Value} {m5_BadRow : Option Value} {xi_BadRow : Addr} {xoc_BadRow : Value} {xdoc_BadRow : Value} {xpm_BadRow : Value} {xct_BadRow : Value} {xccl_BadRow : Value} {xcl_BadRow : Value} {xod_BadRow : Option Addr} {xan_BadRow : Option Addr} {xcdd_BadRow : Option Addr} {xcld_BadRow : Option Addr} {xosl_BadRow : Array (Option Value)} {xccs_BadRow : Array (Option Value)} {xcsl_BadRow : Array (Option Value)} {xcda_BadRow : Addr} {xcc_BadRow : Addr} {xvs_BadRow : Array Value} {xfile_BadRow : Str} {xtf_BadRow : Tok} {xtext_BadRow : Str} {xk_BadRow : Nat} {xp1_BadRow : Pos} {xp2_BadRow : Pos} {xq1_BadRow : Pos} {xq2_BadRow : Pos} {xq3_BadRow : Pos} {xq4_BadRow : Pos} {xq5_BadRow : Pos} {xq6_BadRow : Pos} {xq7_BadRow : Pos} {xq8_BadRow : Pos} {xq9_BadRow : Pos} {xq10_BadRow : Pos} {nm_D : Str} {qq_D : Str} {N_D : Addr} {bs_D : List Value} {hdct_D : Bool} {sn_D : List Str} {sub_D : List Value} {ab_D : Bool} {col_D : Option Bool} {dd_D : Option Addr} {m0_D : Option Value} {m1_D : Option Value} {m2_D : Option Value} {m3_D : Option Value} {m5_D : Option Value} {nw_D : String} {noc : Value} {nod : Option Addr} {nes : Array DictEntry} {nep : Nat} {nsl : Array (Option Value)} {t_SIGNALS : Tok} {t_MOST_STATES : Tok} {t_MOST_LENGTH : Tok} {t_MOST_SIGNS : Tok}
    (a_Device : PySem.W.nsIn K mainGlobals "Device" = some (some (.ref c_Device)))
    (a_Turn : PySem.W.nsIn K mainGlobals "Turn" = some (some (.ref c_Turn)))
    (a_is_integer : PySem.W.nsIn K mainGlobals "is_integer" = some (some (.ref f_is_integer)))
    (l_is_integer : K.lookup f_is_integer = some ⟨oc_is_integer, od_is_integer, .func (PySem.W.fnOf "is_integer" "is_integer" (defArgs (top 12)) (defBody (top 12)) (defScope (top 12)) .none kV_is_integer dc_is_integer pm_is_integer an_is_integer cd_is_integer ct_is_integer), sl_is_integer⟩)
    (e_is_integer : PySem.W.codeIn K cd_is_integer "is_integer" = true)
    (k_is_integer : PySem.W.keepIn K (.ref f_is_integer) = true)
    (a_is_number : PySem.W.nsIn K mainGlobals "is_number" = some (some (.ref f_is_number)))
    (l_is_number : K.lookup f_is_number = some ⟨oc_is_number, od_is_number, .func (PySem.W.fnOf "is_number" "is_number" (defArgs (top 13)) (defBody (top 13)) (defScope (top 13)) .none kV_is_number dc_is_number pm_is_number an_is_number cd_is_number ct_is_number), sl_is_number⟩)
    (e_is_number : PySem.W.codeIn K cd_is_number "is_number" = true)
    (k_is_number : PySem.W.keepIn K (.ref f_is_number) = true)
    (a_is_text : PySem.W.nsIn K mainGlobals "is_text" = some (some (.ref f_is_text)))
    (l_is_text : K.lookup f_is_text = some ⟨oc_is_text, od_is_text, .func (PySem.W.fnOf "is_text" "is_text" (defArgs (top 14)) (defBody (top 14)) (defScope (top 14)) .none kV_is_text dc_is_text pm_is_text an_is_text cd_is_text ct_is_text), sl_is_text⟩)
    (e_is_text : PySem.W.codeIn K cd_is_text "is_text" = true)
    (k_is_text : PySem.W.keepIn K (.ref f_is_text) = true)
    (a_is_sequence : PySem.W.nsIn K mainGlobals "is_sequence" = some (some (.ref f_is_sequence)))
    (l_is_sequence : K.lookup f_is_sequence = some ⟨oc_is_sequence, od_is_sequence, .func (PySem.W.fnOf "is_sequence" "is_sequence" (defArgs (top 15)) (defBody (top 15)) (defScope (top 15)) .none kV_is_sequence dc_is_sequence pm_is_sequence an_is_sequence cd_is_sequence ct_is_sequence), sl_is_sequence⟩)
    (e_is_sequence : PySem.W.codeIn K cd_is_sequence "is_sequence" = true)
    (k_is_sequence : PySem.W.keepIn K (.ref f_is_sequence) = true)
    (a_common_divisor : PySem.W.nsIn K mainGlobals "common_divisor" = some (some (.ref f_common_divisor)))
    (l_common_divisor : K.lookup f_common_divisor = some ⟨oc_common_divisor, od_common_divisor, .func (PySem.W.fnOf "common_divisor" "common_divisor" (defArgs (top 16)) (defBody (top 16)) (defScope (top 16)) .none kV_common_divisor dc_common_divisor pm_common_divisor an_common_divisor cd_common_divisor ct_common_divisor), sl_common_divisor⟩)
    (e_common_divisor : PySem.W.codeIn K cd_common_divisor "common_divisor" = true)
    (k_common_divisor : PySem.W.keepIn K (.ref f_common_divisor) = true)
    (a_common_multiple : PySem.W.nsIn K mainGlobals "common_multiple" = some (some (.ref f_common_multiple)))
    (l_common_multiple : K.lookup f_common_multiple = some ⟨oc_common_multiple, od_common_multiple, .func (PySem.W.fnOf "common_multiple" "common_multiple" (defArgs (top 17)) (defBody (top 17)) (defScope (top 17)) .none kV_common_multiple dc_common_multiple pm_common_multiple an_common_multiple cd_common_multiple ct_common_multiple), sl_common_multiple⟩)
    (e_common_multiple : PySem.W.codeIn K cd_common_multiple "common_multiple" = true)
    (k_common_multiple : PySem.W.keepIn K (.ref f_common_multiple) = true)
    (a_is_table : PySem.W.nsIn K mainGlobals "is_table" = some (some (.ref f_is_table)))
    (l_is_table : K.lookup f_is_table = some ⟨oc_is_table, od_is_table, .func (PySem.W.fnOf "is_table" "is_table" (defArgs (top 20)) (defBody (top 20)) (defScope (top 20)) .none kV_is_table dc_is_table pm_is_table an_is_table cd_is_table ct_is_table), sl_is_table⟩)
    (e_is_table : PySem.W.codeIn K cd_is_table "is_table" = true)
    (k_is_table : PySem.W.keepIn K (.ref f_is_table) = true)
    (a_check_row : PySem.W.nsIn K mainGlobals "check_row" = some (some (.ref f_check_row)))
    (l_check_row : K.lookup f_check_row = some ⟨oc_check_row, od_check_row, .func (PySem.W.fnOf "check_row" "check_row" (defArgs (top 22)) (defBody (top 22)) (defScope (top 22)) .none kV_check_row dc_check_row pm_check_row an_check_row cd_check_row ct_check_row), sl_check_row⟩)
    (e_check_row : PySem.W.codeIn K cd_check_row "check_row" = true)
    (k_check_row : PySem.W.keepIn K (.ref f_check_row) = true)
    (a_joined_effects : PySem.W.nsIn K mainGlobals "joined_effects" = some (some (.ref f_joined_effects)))
    (l_joined_effects : K.lookup f_joined_effects = some ⟨oc_joined_effects, od_joined_effects, .func (PySem.W.fnOf "joined_effects" "joined_effects" (defArgs (top 23)) (defBody (top 23)) (defScope (top 23)) .none kV_joined_effects dc_joined_effects pm_joined_effects an_joined_effects cd_joined_effects ct_joined_effects), sl_joined_effects⟩)
    (e_joined_effects : PySem.W.codeIn K cd_joined_effects "joined_effects" = true)
    (k_joined_effects : PySem.W.keepIn K (.ref f_joined_effects) = true)
    (a_said_effect : PySem.W.nsIn K mainGlobals "said_effect" = some (some (.ref f_said_effect)))
    (l_said_effect : K.lookup f_said_effect = some ⟨oc_said_effect, od_said_effect, .func (PySem.W.fnOf "said_effect" "said_effect" (defArgs (top 24)) (defBody (top 24)) (defScope (top 24)) .none kV_said_effect dc_said_effect pm_said_effect an_said_effect cd_said_effect ct_said_effect), sl_said_effect⟩)
    (e_said_effect : PySem.W.codeIn K cd_said_effect "said_effect" = true)
    (k_said_effect : PySem.W.keepIn K (.ref f_said_effect) = true)
    (a_effect_left : PySem.W.nsIn K mainGlobals "effect_left" = some (some (.ref f_effect_left)))
    (l_effect_left : K.lookup f_effect_left = some ⟨oc_effect_left, od_effect_left, .func (PySem.W.fnOf "effect_left" "effect_left" (defArgs (top 25)) (defBody (top 25)) (defScope (top 25)) .none kV_effect_left dc_effect_left pm_effect_left an_effect_left cd_effect_left ct_effect_left), sl_effect_left⟩)
    (e_effect_left : PySem.W.codeIn K cd_effect_left "effect_left" = true)
    (k_effect_left : PySem.W.keepIn K (.ref f_effect_left) = true)
    (a_effect_rings : PySem.W.nsIn K mainGlobals "effect_rings" = some (some (.ref f_effect_rings)))
    (l_effect_rings : K.lookup f_effect_rings = some ⟨oc_effect_rings, od_effect_rings, .func (PySem.W.fnOf "effect_rings" "effect_rings" (defArgs (top 28)) (defBody (top 28)) (defScope (top 28)) .none kV_effect_rings dc_effect_rings pm_effect_rings an_effect_rings cd_effect_rings ct_effect_rings), sl_effect_rings⟩)
    (e_effect_rings : PySem.W.codeIn K cd_effect_rings "effect_rings" = true)
    (k_effect_rings : PySem.W.keepIn K (.ref f_effect_rings) = true)
    (a_ring_numbers : PySem.W.nsIn K mainGlobals "ring_numbers" = some (some (.ref f_ring_numbers)))
    (l_ring_numbers : K.lookup f_ring_numbers = some ⟨oc_ring_numbers, od_ring_numbers, .func (PySem.W.fnOf "ring_numbers" "ring_numbers" (defArgs (top 29)) (defBody (top 29)) (defScope (top 29)) .none kV_ring_numbers dc_ring_numbers pm_ring_numbers an_ring_numbers cd_ring_numbers ct_ring_numbers), sl_ring_numbers⟩)
    (e_ring_numbers : PySem.W.codeIn K cd_ring_numbers "ring_numbers" = true)
    (k_ring_numbers : PySem.W.keepIn K (.ref f_ring_numbers) = true)
    (a_first_unlike : PySem.W.nsIn K mainGlobals "first_unlike" = some (some (.ref f_first_unlike)))
    (l_first_unlike : K.lookup f_first_unlike = some ⟨oc_first_unlike, od_first_unlike, .func (PySem.W.fnOf "first_unlike" "first_unlike" (defArgs (top 30)) (defBody (top 30)) (defScope (top 30)) .none kV_first_unlike dc_first_unlike pm_first_unlike an_first_unlike cd_first_unlike ct_first_unlike), sl_first_unlike⟩)
    (e_first_unlike : PySem.W.codeIn K cd_first_unlike "first_unlike" = true)
    (k_first_unlike : PySem.W.keepIn K (.ref f_first_unlike) = true)
    (a_law_box : PySem.W.nsIn K mainGlobals "_law_box" = some (some (.ref f_law_box)))
    (l_law_box : K.lookup f_law_box = some ⟨oc_law_box, od_law_box, .func (PySem.W.fnOf "_law_box" "_law_box" (defArgs (top 32)) (defBody (top 32)) (defScope (top 32)) .none kV_law_box dc_law_box pm_law_box an_law_box cd_law_box ct_law_box), sl_law_box⟩)
    (e_law_box : PySem.W.codeIn K cd_law_box "_law_box" = true)
    (k_law_box : PySem.W.keepIn K (.ref f_law_box) = true)
    (a_law_take : PySem.W.nsIn K mainGlobals "_law_take" = some (some (.ref f_law_take)))
    (l_law_take : K.lookup f_law_take = some ⟨oc_law_take, od_law_take, .func (PySem.W.fnOf "_law_take" "_law_take" (defArgs (top 33)) (defBody (top 33)) (defScope (top 33)) .none kV_law_take dc_law_take pm_law_take an_law_take cd_law_take ct_law_take), sl_law_take⟩)
    (e_law_take : PySem.W.codeIn K cd_law_take "_law_take" = true)
    (k_law_take : PySem.W.keepIn K (.ref f_law_take) = true)
    (a_law_pick : PySem.W.nsIn K mainGlobals "_law_pick" = some (some (.ref f_law_pick)))
    (l_law_pick : K.lookup f_law_pick = some ⟨oc_law_pick, od_law_pick, .func (PySem.W.fnOf "_law_pick" "_law_pick" (defArgs (top 34)) (defBody (top 34)) (defScope (top 34)) .none kV_law_pick dc_law_pick pm_law_pick an_law_pick cd_law_pick ct_law_pick), sl_law_pick⟩)
    (e_law_pick : PySem.W.codeIn K cd_law_pick "_law_pick" = true)
    (k_law_pick : PySem.W.keepIn K (.ref f_law_pick) = true)
    (a_law_tables : PySem.W.nsIn K mainGlobals "_law_tables" = some (some (.ref f_law_tables)))
    (l_law_tables : K.lookup f_law_tables = some ⟨oc_law_tables, od_law_tables, .func (PySem.W.fnOf "_law_tables" "_law_tables" (defArgs (top 35)) (defBody (top 35)) (defScope (top 35)) .none kV_law_tables dc_law_tables pm_law_tables an_law_tables cd_law_tables ct_law_tables), sl_law_tables⟩)
    (e_law_tables : PySem.W.codeIn K cd_law_tables "_law_tables" = true)
    (k_law_tables : PySem.W.keepIn K (.ref f_law_tables) = true)
    (a_law_row : PySem.W.nsIn K mainGlobals "_law_row" = some (some (.ref f_law_row)))
    (l_law_row : K.lookup f_law_row = some ⟨oc_law_row, od_law_row, .func (PySem.W.fnOf "_law_row" "_law_row" (defArgs (top 36)) (defBody (top 36)) (defScope (top 36)) .none kV_law_row dc_law_row pm_law_row an_law_row cd_law_row ct_law_row), sl_law_row⟩)
    (e_law_row : PySem.W.codeIn K cd_law_row "_law_row" = true)
    (k_law_row : PySem.W.keepIn K (.ref f_law_row) = true)
    (a_law_after : PySem.W.nsIn K mainGlobals "_law_after" = some (some (.ref f_law_after)))
    (l_law_after : K.lookup f_law_after = some ⟨oc_law_after, od_law_after, .func (PySem.W.fnOf "_law_after" "_law_after" (defArgs (top 37)) (defBody (top 37)) (defScope (top 37)) .none kV_law_after dc_law_after pm_law_after an_law_after cd_law_after ct_law_after), sl_law_after⟩)
    (e_law_after : PySem.W.codeIn K cd_law_after "_law_after" = true)
    (k_law_after : PySem.W.keepIn K (.ref f_law_after) = true)
    (a_law_far : PySem.W.nsIn K mainGlobals "_law_far" = some (some (.ref f_law_far)))
    (l_law_far : K.lookup f_law_far = some ⟨oc_law_far, od_law_far, .func (PySem.W.fnOf "_law_far" "_law_far" (defArgs (top 38)) (defBody (top 38)) (defScope (top 38)) .none kV_law_far dc_law_far pm_law_far an_law_far cd_law_far ct_law_far), sl_law_far⟩)
    (e_law_far : PySem.W.codeIn K cd_law_far "_law_far" = true)
    (k_law_far : PySem.W.keepIn K (.ref f_law_far) = true)
    (a_law_rings : PySem.W.nsIn K mainGlobals "_law_rings" = some (some (.ref f_law_rings)))
    (l_law_rings : K.lookup f_law_rings = some ⟨oc_law_rings, od_law_rings, .func (PySem.W.fnOf "_law_rings" "_law_rings" (defArgs (top 39)) (defBody (top 39)) (defScope (top 39)) .none kV_law_rings dc_law_rings pm_law_rings an_law_rings cd_law_rings ct_law_rings), sl_law_rings⟩)
    (e_law_rings : PySem.W.codeIn K cd_law_rings "_law_rings" = true)
    (k_law_rings : PySem.W.keepIn K (.ref f_law_rings) = true)
    (a_law_refused : PySem.W.nsIn K mainGlobals "_law_refused" = some (some (.ref f_law_refused)))
    (l_law_refused : K.lookup f_law_refused = some ⟨oc_law_refused, od_law_refused, .func (PySem.W.fnOf "_law_refused" "_law_refused" (defArgs (top 40)) (defBody (top 40)) (defScope (top 40)) .none kV_law_refused dc_law_refused pm_law_refused an_law_refused cd_law_refused ct_law_refused), sl_law_refused⟩)
    (e_law_refused : PySem.W.codeIn K cd_law_refused "_law_refused" = true)
    (k_law_refused : PySem.W.keepIn K (.ref f_law_refused) = true)
    (a_law_is_square : PySem.W.nsIn K mainGlobals "_law_is_square" = some (some (.ref f_law_is_square)))
    (l_law_is_square : K.lookup f_law_is_square = some ⟨oc_law_is_square, od_law_is_square, .func (PySem.W.fnOf "_law_is_square" "_law_is_square" (defArgs (top 41)) (defBody (top 41)) (defScope (top 41)) .none kV_law_is_square dc_law_is_square pm_law_is_square an_law_is_square cd_law_is_square ct_law_is_square), sl_law_is_square⟩)
    (e_law_is_square : PySem.W.codeIn K cd_law_is_square "_law_is_square" = true)
    (k_law_is_square : PySem.W.keepIn K (.ref f_law_is_square) = true)
    (a_law_turn_right : PySem.W.nsIn K mainGlobals "_law_turn_right" = some (some (.ref f_law_turn_right)))
    (l_law_turn_right : K.lookup f_law_turn_right = some ⟨oc_law_turn_right, od_law_turn_right, .func (PySem.W.fnOf "_law_turn_right" "_law_turn_right" (defArgs (top 42)) (defBody (top 42)) (defScope (top 42)) .none kV_law_turn_right dc_law_turn_right pm_law_turn_right an_law_turn_right cd_law_turn_right ct_law_turn_right), sl_law_turn_right⟩)
    (e_law_turn_right : PySem.W.codeIn K cd_law_turn_right "_law_turn_right" = true)
    (k_law_turn_right : PySem.W.keepIn K (.ref f_law_turn_right) = true)
    (a_law_case_right : PySem.W.nsIn K mainGlobals "_law_case_right" = some (some (.ref f_law_case_right)))
    (l_law_case_right : K.lookup f_law_case_right = some ⟨oc_law_case_right, od_law_case_right, .func (PySem.W.fnOf "_law_case_right" "_law_case_right" (defArgs (top 43)) (defBody (top 43)) (defScope (top 43)) .none kV_law_case_right dc_law_case_right pm_law_case_right an_law_case_right cd_law_case_right ct_law_case_right), sl_law_case_right⟩)
    (e_law_case_right : PySem.W.codeIn K cd_law_case_right "_law_case_right" = true)
    (k_law_case_right : PySem.W.keepIn K (.ref f_law_case_right) = true)
    (a_law : PySem.W.nsIn K mainGlobals "law" = some (some (.ref f_law)))
    (l_law : K.lookup f_law = some ⟨oc_law, od_law, .func (PySem.W.fnOf "law" "law" (defArgs (top 44)) (defBody (top 44)) (defScope (top 44)) .none kV_law dc_law pm_law an_law cd_law ct_law), sl_law⟩)
    (e_law : PySem.W.codeIn K cd_law "law" = true)
    (k_law : PySem.W.keepIn K (.ref f_law) = true)
    (a_Device_init : PySem.W.findIn K (.ref c_Device) "__init__" = some (some (.ref f_Device_init)))
    (i_Device_init : PySem.W.isFn K (.ref f_Device_init) = true)
    (l_Device_init : K.lookup f_Device_init = some ⟨oc_Device_init, od_Device_init, .func (PySem.W.fnOf "__init__" "Device.__init__" (defArgs (inClass (top 19) 0)) (defBody (inClass (top 19) 0)) (defScope (inClass (top 19) 0)) .none kV_Device_init dc_Device_init pm_Device_init an_Device_init cd_Device_init ct_Device_init), sl_Device_init⟩)
    (e_Device_init : PySem.W.codeIn K cd_Device_init "Device.__init__" = true)
    (k_Device_init : PySem.W.keepIn K (.ref f_Device_init) = true)
    (a_Device_eq : PySem.W.findIn K (.ref c_Device) "__eq__" = some (some (.ref f_Device_eq)))
    (i_Device_eq : PySem.W.isFn K (.ref f_Device_eq) = true)
    (l_Device_eq : K.lookup f_Device_eq = some ⟨oc_Device_eq, od_Device_eq, .func (PySem.W.fnOf "__eq__" "Device.__eq__" (defArgs (inClass (top 19) 1)) (defBody (inClass (top 19) 1)) (defScope (inClass (top 19) 1)) .none kV_Device_eq dc_Device_eq pm_Device_eq an_Device_eq cd_Device_eq ct_Device_eq), sl_Device_eq⟩)
    (e_Device_eq : PySem.W.codeIn K cd_Device_eq "Device.__eq__" = true)
    (k_Device_eq : PySem.W.keepIn K (.ref f_Device_eq) = true)
    (a_Device_effect : PySem.W.findIn K (.ref c_Device) "effect" = some (some (.ref f_Device_effect)))
    (i_Device_effect : PySem.W.isFn K (.ref f_Device_effect) = true)
    (l_Device_effect : K.lookup f_Device_effect = some ⟨oc_Device_effect, od_Device_effect, .func (PySem.W.fnOf "effect" "Device.effect" (defArgs (inClass (top 19) 4)) (defBody (inClass (top 19) 4)) (defScope (inClass (top 19) 4)) .none kV_Device_effect dc_Device_effect pm_Device_effect an_Device_effect cd_Device_effect ct_Device_effect), sl_Device_effect⟩)
    (e_Device_effect : PySem.W.codeIn K cd_Device_effect "Device.effect" = true)
    (k_Device_effect : PySem.W.keepIn K (.ref f_Device_effect) = true)
    (a_Turn_init : PySem.W.findIn K (.ref c_Turn) "__init__" = some (some (.ref f_Turn_init)))
    (i_Turn_init : PySem.W.isFn K (.ref f_Turn_init) = true)
    (l_Turn_init : K.lookup f_Turn_init = some ⟨oc_Turn_init, od_Turn_init, .func (PySem.W.fnOf "__init__" "Turn.__init__" (defArgs (inClass (top 27) 0)) (defBody (inClass (top 27) 0)) (defScope (inClass (top 27) 0)) .none kV_Turn_init dc_Turn_init pm_Turn_init an_Turn_init cd_Turn_init ct_Turn_init), sl_Turn_init⟩)
    (e_Turn_init : PySem.W.codeIn K cd_Turn_init "Turn.__init__" = true)
    (k_Turn_init : PySem.W.keepIn K (.ref f_Turn_init) = true)
    (a_Turn_said_at : PySem.W.findIn K (.ref c_Turn) "said_at" = some (some (.ref f_Turn_said_at)))
    (i_Turn_said_at : PySem.W.isFn K (.ref f_Turn_said_at) = true)
    (l_Turn_said_at : K.lookup f_Turn_said_at = some ⟨oc_Turn_said_at, od_Turn_said_at, .func (PySem.W.fnOf "said_at" "Turn.said_at" (defArgs (inClass (top 27) 1)) (defBody (inClass (top 27) 1)) (defScope (inClass (top 27) 1)) .none kV_Turn_said_at dc_Turn_said_at pm_Turn_said_at an_Turn_said_at cd_Turn_said_at ct_Turn_said_at), sl_Turn_said_at⟩)
    (e_Turn_said_at : PySem.W.codeIn K cd_Turn_said_at "Turn.said_at" = true)
    (k_Turn_said_at : PySem.W.keepIn K (.ref f_Turn_said_at) = true)
    (a_Turn_left_at : PySem.W.findIn K (.ref c_Turn) "left_at" = some (some (.ref f_Turn_left_at)))
    (i_Turn_left_at : PySem.W.isFn K (.ref f_Turn_left_at) = true)
    (l_Turn_left_at : K.lookup f_Turn_left_at = some ⟨oc_Turn_left_at, od_Turn_left_at, .func (PySem.W.fnOf "left_at" "Turn.left_at" (defArgs (inClass (top 27) 2)) (defBody (inClass (top 27) 2)) (defScope (inClass (top 27) 2)) .none kV_Turn_left_at dc_Turn_left_at pm_Turn_left_at an_Turn_left_at cd_Turn_left_at ct_Turn_left_at), sl_Turn_left_at⟩)
    (e_Turn_left_at : PySem.W.codeIn K cd_Turn_left_at "Turn.left_at" = true)
    (k_Turn_left_at : PySem.W.keepIn K (.ref f_Turn_left_at) = true)
    (a_Turn_square_at : PySem.W.findIn K (.ref c_Turn) "square_at" = some (some (.ref f_Turn_square_at)))
    (i_Turn_square_at : PySem.W.isFn K (.ref f_Turn_square_at) = true)
    (l_Turn_square_at : K.lookup f_Turn_square_at = some ⟨oc_Turn_square_at, od_Turn_square_at, .func (PySem.W.fnOf "square_at" "Turn.square_at" (defArgs (inClass (top 27) 3)) (defBody (inClass (top 27) 3)) (defScope (inClass (top 27) 3)) .none kV_Turn_square_at dc_Turn_square_at pm_Turn_square_at an_Turn_square_at cd_Turn_square_at ct_Turn_square_at), sl_Turn_square_at⟩)
    (e_Turn_square_at : PySem.W.codeIn K cd_Turn_square_at "Turn.square_at" = true)
    (k_Turn_square_at : PySem.W.keepIn K (.ref f_Turn_square_at) = true)
    (a_Turn_core : PySem.W.findIn K (.ref c_Turn) "core" = some (some (.ref f_Turn_core)))
    (i_Turn_core : PySem.W.isFn K (.ref f_Turn_core) = true)
    (l_Turn_core : K.lookup f_Turn_core = some ⟨oc_Turn_core, od_Turn_core, .func (PySem.W.fnOf "core" "Turn.core" (defArgs (inClass (top 27) 4)) (defBody (inClass (top 27) 4)) (defScope (inClass (top 27) 4)) .none kV_Turn_core dc_Turn_core pm_Turn_core an_Turn_core cd_Turn_core ct_Turn_core), sl_Turn_core⟩)
    (e_Turn_core : PySem.W.codeIn K cd_Turn_core "Turn.core" = true)
    (k_Turn_core : PySem.W.keepIn K (.ref f_Turn_core) = true)
    (pg_Device : PySem.W.plainGet K c_Device Str.empty = true)
    (hd_Device : PySem.W.hasDictIn K c_Device = true)
    (po_Device : PySem.W.plainOver K c_Device = true)
    (sa_Device : PySem.W.findIn K (.ref c_Device) "__setattr__" = some (some (.builtin "object.__setattr__")))
    (mk_Device : PySem.W.makesIn K c_Device = true)
    (kc_Device : PySem.W.keepIn K (.ref c_Device) = true)
    (n_Device_states : PySem.W.findIn K (.ref c_Device) "states" = some none)
    (n_Device_signals : PySem.W.findIn K (.ref c_Device) "signals" = some none)
    (n_Device_tables : PySem.W.findIn K (.ref c_Device) "tables" = some none)
    (pg_Turn : PySem.W.plainGet K c_Turn Str.empty = true)
    (hd_Turn : PySem.W.hasDictIn K c_Turn = true)
    (po_Turn : PySem.W.plainOver K c_Turn = true)
    (sa_Turn : PySem.W.findIn K (.ref c_Turn) "__setattr__" = some (some (.builtin "object.__setattr__")))
    (mk_Turn : PySem.W.makesIn K c_Turn = true)
    (kc_Turn : PySem.W.keepIn K (.ref c_Turn) = true)
    (n_Turn_once : PySem.W.findIn K (.ref c_Turn) "once" = some none)
    (n_Turn_device : PySem.W.findIn K (.ref c_Turn) "device" = some none)
    (n_Turn_word : PySem.W.findIn K (.ref c_Turn) "word" = some none)
    (n_Turn_rings : PySem.W.findIn K (.ref c_Turn) "rings" = some none)
    (n_Turn_tails : PySem.W.findIn K (.ref c_Turn) "tails" = some none)
    (n_Turn_period : PySem.W.findIn K (.ref c_Turn) "period" = some none)
    (dv1 : PySem.W.findIn K (.ref c_Device) "__class__" = some (some (.builtin "object.__class__")))
    (dv2 : PySem.W.specialIn K (.builtin "object.__class__") "__get__" = some (some (.builtin "getset_descriptor.__get__")))
    (dv3 : PySem.W.takesIn K (.builtin "object.__class__") = some true)
    (dv4 : PySem.W.mroIn K c_Device (.type "object") = some true)
    (a_Back : PySem.W.nsIn K mainGlobals "BackError" = some (some (.ref cBack)))
    (ib : PySem.W.isClsIn K cBack = true)
    (tb : PySem.W.typeIn K (.ref cBack) = some (.type "type"))
    (op : PySem.W.nsIn K cStatics "thirdparty.any" = some none)
    (a_Refused : PySem.W.nsIn K mainGlobals "Refused" = some (some (.ref x_Refused)))
    (xl_Refused : K.lookup x_Refused = some (excClassObj nm_Refused qq_Refused x_Refused N_Refused bs_Refused bm_Refused true sn_Refused sub_Refused ab_Refused col_Refused dd_Refused m0_Refused m1_Refused m2_Refused m3_Refused m5_Refused "ValueError.__new__"))
    (bm1_Refused : PySem.HandSPX.refsVE bm_Refused = true)
    (xsa_Refused : PySem.W.findIn K (.ref x_Refused) "__setattr__" = some (some (.builtin "object.__setattr__")))
    (xga_Refused : PySem.W.findIn K (.ref x_Refused) "__getattribute__" = some (some (.builtin "BaseException.__getattribute__")))
    (xgg_Refused : PySem.W.findIn K (.ref x_Refused) "__getattr__" = some none)
    (xn_Refused : PySem.W.findIn K (.ref x_Refused) "at" = some none)
    (xia_Refused : PySem.W.findIn K (.ref x_Refused) "__init__" = some (some (.ref xi_Refused)))
    (xit_Refused : PySem.W.typeIn K (.ref xi_Refused) = some (.type "function"))
    (xk1_Refused : PySem.W.keepIn K (.ref x_Refused) = true)
    (xe_Refused : PySem.W.subIn K (.ref x_Refused) (.type "BaseException") = some true)
    (xt_Refused : PySem.W.typeIn K (.ref x_Refused) = some (.type "type"))
    (xh_Refused : PySem.W.hasDictIn K x_Refused = true)
    (xc_Refused : PySem.W.isClsIn K x_Refused = true)
    (xs_Refused : PySem.W.subIn K (.ref x_Refused) (.ref x_Refused) = some true)
    (xsu_Refused : PySem.W.ks_superIn K x_Refused x_Refused "__init__" = some (some (.builtin "ValueError.__init__")))
    (xm_Refused : PySem.W.mroIn K x_Refused (.ref x_Refused) = some true)
    (xv_Refused : PySem.W.subIn K (.ref x_Refused) (.type "ValueError") = some true)
    (xl1_Refused : K.lookup xi_Refused = some ⟨xoc_Refused, xod_Refused, .func (PySem.W.ksFn "__init__" "Refused.__init__" (R4.iA xp1_Refused xp2_Refused) (R4.iB xtext_Refused xk_Refused xq1_Refused xq2_Refused xq3_Refused xq4_Refused xq5_Refused xq6_Refused xq7_Refused xq8_Refused xq9_Refused xq10_Refused) R4.iS .none .none xdoc_Refused xpm_Refused xan_Refused (.ref xcda_Refused) xct_Refused xcc_Refused), xosl_Refused⟩)
    (xl2_Refused : PySem.W.codeIn K (.ref xcda_Refused) "Refused.__init__" = true)
    (xl3_Refused : K.lookup xcda_Refused = some ⟨xccl_Refused, xcdd_Refused, .fields xvs_Refused, xccs_Refused⟩)
    (xl4_Refused : xvs_Refused[2]? = some (.str xfile_Refused xtf_Refused))
    (xl5_Refused : ((P0.main.file : Str) == xfile_Refused) = true)
    (xl6_Refused : K.lookup xcc_Refused = some ⟨xcl_Refused, xcld_Refused, .cell (some (.ref x_Refused)), xcsl_Refused⟩)
    (xl7_Refused : (xq3_Refused.endLine == xq5_Refused.line) = true)
    (xcl1_Refused : PySem.W.findIn K (.ref x_Refused) "__class__" = some (some (.builtin "object.__class__")))
    (xmo_Refused : PySem.W.mroIn K x_Refused (.type "object") = some true)
    (xsb_Refused : PySem.W.subIn K (.ref x_Refused) (.ref cBack) = some true)
    (a_BadRow : PySem.W.nsIn K mainGlobals "BadRow" = some (some (.ref x_BadRow)))
    (xl_BadRow : K.lookup x_BadRow = some (excClassObj nm_BadRow qq_BadRow x_BadRow N_BadRow bs_BadRow bm_BadRow true sn_BadRow sub_BadRow ab_BadRow col_BadRow dd_BadRow m0_BadRow m1_BadRow m2_BadRow m3_BadRow m5_BadRow "ValueError.__new__"))
    (bm1_BadRow : PySem.HandSPX.refsVE bm_BadRow = true)
    (xsa_BadRow : PySem.W.findIn K (.ref x_BadRow) "__setattr__" = some (some (.builtin "object.__setattr__")))
    (xga_BadRow : PySem.W.findIn K (.ref x_BadRow) "__getattribute__" = some (some (.builtin "BaseException.__getattribute__")))
    (xgg_BadRow : PySem.W.findIn K (.ref x_BadRow) "__getattr__" = some none)
    (xn_BadRow : PySem.W.findIn K (.ref x_BadRow) "at" = some none)
    (xia_BadRow : PySem.W.findIn K (.ref x_BadRow) "__init__" = some (some (.ref xi_BadRow)))
    (xit_BadRow : PySem.W.typeIn K (.ref xi_BadRow) = some (.type "function"))
    (xk1_BadRow : PySem.W.keepIn K (.ref x_BadRow) = true)
    (xe_BadRow : PySem.W.subIn K (.ref x_BadRow) (.type "BaseException") = some true)
    (xt_BadRow : PySem.W.typeIn K (.ref x_BadRow) = some (.type "type"))
    (xh_BadRow : PySem.W.hasDictIn K x_BadRow = true)
    (xc_BadRow : PySem.W.isClsIn K x_BadRow = true)
    (xs_BadRow : PySem.W.subIn K (.ref x_BadRow) (.ref x_BadRow) = some true)
    (xsu_BadRow : PySem.W.ks_superIn K x_BadRow x_BadRow "__init__" = some (some (.builtin "ValueError.__init__")))
    (xm_BadRow : PySem.W.mroIn K x_BadRow (.ref x_BadRow) = some true)
    (xv_BadRow : PySem.W.subIn K (.ref x_BadRow) (.type "ValueError") = some true)
    (xl1_BadRow : K.lookup xi_BadRow = some ⟨xoc_BadRow, xod_BadRow, .func (PySem.W.ksFn "__init__" "BadRow.__init__" (R4.iA xp1_BadRow xp2_BadRow) (R4.iB xtext_BadRow xk_BadRow xq1_BadRow xq2_BadRow xq3_BadRow xq4_BadRow xq5_BadRow xq6_BadRow xq7_BadRow xq8_BadRow xq9_BadRow xq10_BadRow) R4.iS .none .none xdoc_BadRow xpm_BadRow xan_BadRow (.ref xcda_BadRow) xct_BadRow xcc_BadRow), xosl_BadRow⟩)
    (xl2_BadRow : PySem.W.codeIn K (.ref xcda_BadRow) "BadRow.__init__" = true)
    (xl3_BadRow : K.lookup xcda_BadRow = some ⟨xccl_BadRow, xcdd_BadRow, .fields xvs_BadRow, xccs_BadRow⟩)
    (xl4_BadRow : xvs_BadRow[2]? = some (.str xfile_BadRow xtf_BadRow))
    (xl5_BadRow : ((P0.main.file : Str) == xfile_BadRow) = true)
    (xl6_BadRow : K.lookup xcc_BadRow = some ⟨xcl_BadRow, xcld_BadRow, .cell (some (.ref x_BadRow)), xcsl_BadRow⟩)
    (xl7_BadRow : (xq3_BadRow.endLine == xq5_BadRow.line) = true)
    (xcl1_BadRow : PySem.W.findIn K (.ref x_BadRow) "__class__" = some (some (.builtin "object.__class__")))
    (xmo_BadRow : PySem.W.mroIn K x_BadRow (.type "object") = some true)
    (xsb_BadRow : PySem.W.subIn K (.ref x_BadRow) (.ref cBack) = some true)
    (xl_D : K.lookup c_Device = some (excClassObj nm_D qq_D c_Device N_D bs_D [.type "object"] hdct_D sn_D sub_D ab_D col_D dd_D m0_D m1_D m2_D m3_D m5_D nw_D))
    (nd_D : K.lookup N_D = some ⟨noc, nod, .dict nes nep, nsl⟩)
    (no_D : (nes.toList.all fun e => match e.key with | .str _ _ => true | _ => false) = true)
    (ne1_D : PySem.W.nsIn K N_D "__eq__" = some (some (.ref f_Device_eq)))
    (ne2_D : PySem.W.nsIn K N_D "__ne__" = some none)
    (tf_D : oc_Device_eq = .type "function")
    (z_isinstance : PySem.W.nsIn K mainGlobals "isinstance" = some none)
    (z_int : PySem.W.nsIn K mainGlobals "int" = some none)
    (z_bool : PySem.W.nsIn K mainGlobals "bool" = some none)
    (z_str : PySem.W.nsIn K mainGlobals "str" = some none)
    (z_list : PySem.W.nsIn K mainGlobals "list" = some none)
    (z_tuple : PySem.W.nsIn K mainGlobals "tuple" = some none)
    (z_len : PySem.W.nsIn K mainGlobals "len" = some none)
    (z_enumerate : PySem.W.nsIn K mainGlobals "enumerate" = some none)
    (z_all : PySem.W.nsIn K mainGlobals "all" = some none)
    (z_range : PySem.W.nsIn K mainGlobals "range" = some none)
    (z_sorted : PySem.W.nsIn K mainGlobals "sorted" = some none)
    (z_min : PySem.W.nsIn K mainGlobals "min" = some none)
    (z_max : PySem.W.nsIn K mainGlobals "max" = some none)
    (z_sum : PySem.W.nsIn K mainGlobals "sum" = some none)
    (z_abs : PySem.W.nsIn K mainGlobals "abs" = some none)
    (z_repr : PySem.W.nsIn K mainGlobals "repr" = some none)
    (z_super : PySem.W.nsIn K mainGlobals "super" = some none)
    (k_SIGNALS : PySem.W.nsIn K mainGlobals "SIGNALS" = some (some (.str "abcde" t_SIGNALS)))
    (k_MOST_STATES : PySem.W.nsIn K mainGlobals "MOST_STATES" = some (some (.int 60 t_MOST_STATES)))
    (k_MOST_LENGTH : PySem.W.nsIn K mainGlobals "MOST_LENGTH" = some (some (.int 1000000000000000000 t_MOST_LENGTH)))
    (k_MOST_SIGNS : PySem.W.nsIn K mainGlobals "MOST_SIGNS" = some (some (.int 10000 t_MOST_SIGNS)))
    : ∃ fd : FuncData, (∀ (s : Shared) (u : Value), BindsTo s fd ⟨[u], []⟩ [("_law_script", u)]) ∧ ∀ base : Heap, K.In base → base.Ns mainGlobals mg → FnG P0 w K mg base CX0 8 fa fd ["_law_script"] (spLaw K) := by
  have e := hfa.symm.trans (PySem.W.mg_of X G a_law)
  have e2 : f_law = fa := by cases e; rfl
  subst e2
  have T : Txt { f_is_integer := f_is_integer, d_is_integer := PySem.W.fnOf "is_integer" "is_integer" (defArgs (top 12)) (defBody (top 12)) (defScope (top 12)) .none kV_is_integer dc_is_integer pm_is_integer an_is_integer cd_is_integer ct_is_integer, f_is_number := f_is_number, d_is_number := PySem.W.fnOf "is_number" "is_number" (defArgs (top 13)) (defBody (top 13)) (defScope (top 13)) .none kV_is_number dc_is_number pm_is_number an_is_number cd_is_number ct_is_number, f_is_text := f_is_text, d_is_text := PySem.W.fnOf "is_text" "is_text" (defArgs (top 14)) (defBody (top 14)) (defScope (top 14)) .none kV_is_text dc_is_text pm_is_text an_is_text cd_is_text ct_is_text, f_is_sequence := f_is_sequence, d_is_sequence := PySem.W.fnOf "is_sequence" "is_sequence" (defArgs (top 15)) (defBody (top 15)) (defScope (top 15)) .none kV_is_sequence dc_is_sequence pm_is_sequence an_is_sequence cd_is_sequence ct_is_sequence, f_common_divisor := f_common_divisor, d_common_divisor := PySem.W.fnOf "common_divisor" "common_divisor" (defArgs (top 16)) (defBody (top 16)) (defScope (top 16)) .none kV_common_divisor dc_common_divisor pm_common_divisor an_common_divisor cd_common_divisor ct_common_divisor, f_common_multiple := f_common_multiple, d_common_multiple := PySem.W.fnOf "common_multiple" "common_multiple" (defArgs (top 17)) (defBody (top 17)) (defScope (top 17)) .none kV_common_multiple dc_common_multiple pm_common_multiple an_common_multiple cd_common_multiple ct_common_multiple, f_is_table := f_is_table, d_is_table := PySem.W.fnOf "is_table" "is_table" (defArgs (top 20)) (defBody (top 20)) (defScope (top 20)) .none kV_is_table dc_is_table pm_is_table an_is_table cd_is_table ct_is_table, f_check_row := f_check_row, d_check_row := PySem.W.fnOf "check_row" "check_row" (defArgs (top 22)) (defBody (top 22)) (defScope (top 22)) .none kV_check_row dc_check_row pm_check_row an_check_row cd_check_row ct_check_row, f_joined_effects := f_joined_effects, d_joined_effects := PySem.W.fnOf "joined_effects" "joined_effects" (defArgs (top 23)) (defBody (top 23)) (defScope (top 23)) .none kV_joined_effects dc_joined_effects pm_joined_effects an_joined_effects cd_joined_effects ct_joined_effects, f_said_effect := f_said_effect, d_said_effect := PySem.W.fnOf "said_effect" "said_effect" (defArgs (top 24)) (defBody (top 24)) (defScope (top 24)) .none kV_said_effect dc_said_effect pm_said_effect an_said_effect cd_said_effect ct_said_effect, f_effect_left := f_effect_left, d_effect_left := PySem.W.fnOf "effect_left" "effect_left" (defArgs (top 25)) (defBody (top 25)) (defScope (top 25)) .none kV_effect_left dc_effect_left pm_effect_left an_effect_left cd_effect_left ct_effect_left, f_effect_rings := f_effect_rings, d_effect_rings := PySem.W.fnOf "effect_rings" "effect_rings" (defArgs (top 28)) (defBody (top 28)) (defScope (top 28)) .none kV_effect_rings dc_effect_rings pm_effect_rings an_effect_rings cd_effect_rings ct_effect_rings, f_ring_numbers := f_ring_numbers, d_ring_numbers := PySem.W.fnOf "ring_numbers" "ring_numbers" (defArgs (top 29)) (defBody (top 29)) (defScope (top 29)) .none kV_ring_numbers dc_ring_numbers pm_ring_numbers an_ring_numbers cd_ring_numbers ct_ring_numbers, f_first_unlike := f_first_unlike, d_first_unlike := PySem.W.fnOf "first_unlike" "first_unlike" (defArgs (top 30)) (defBody (top 30)) (defScope (top 30)) .none kV_first_unlike dc_first_unlike pm_first_unlike an_first_unlike cd_first_unlike ct_first_unlike, f_law_box := f_law_box, d_law_box := PySem.W.fnOf "_law_box" "_law_box" (defArgs (top 32)) (defBody (top 32)) (defScope (top 32)) .none kV_law_box dc_law_box pm_law_box an_law_box cd_law_box ct_law_box, f_law_take := f_law_take, d_law_take := PySem.W.fnOf "_law_take" "_law_take" (defArgs (top 33)) (defBody (top 33)) (defScope (top 33)) .none kV_law_take dc_law_take pm_law_take an_law_take cd_law_take ct_law_take, f_law_pick := f_law_pick, d_law_pick := PySem.W.fnOf "_law_pick" "_law_pick" (defArgs (top 34)) (defBody (top 34)) (defScope (top 34)) .none kV_law_pick dc_law_pick pm_law_pick an_law_pick cd_law_pick ct_law_pick, f_law_tables := f_law_tables, d_law_tables := PySem.W.fnOf "_law_tables" "_law_tables" (defArgs (top 35)) (defBody (top 35)) (defScope (top 35)) .none kV_law_tables dc_law_tables pm_law_tables an_law_tables cd_law_tables ct_law_tables, f_law_row := f_law_row, d_law_row := PySem.W.fnOf "_law_row" "_law_row" (defArgs (top 36)) (defBody (top 36)) (defScope (top 36)) .none kV_law_row dc_law_row pm_law_row an_law_row cd_law_row ct_law_row, f_law_after := f_law_after, d_law_after := PySem.W.fnOf "_law_after" "_law_after" (defArgs (top 37)) (defBody (top 37)) (defScope (top 37)) .none kV_law_after dc_law_after pm_law_after an_law_after cd_law_after ct_law_after, f_law_far := f_law_far, d_law_far := PySem.W.fnOf "_law_far" "_law_far" (defArgs (top 38)) (defBody (top 38)) (defScope (top 38)) .none kV_law_far dc_law_far pm_law_far an_law_far cd_law_far ct_law_far, f_law_rings := f_law_rings, d_law_rings := PySem.W.fnOf "_law_rings" "_law_rings" (defArgs (top 39)) (defBody (top 39)) (defScope (top 39)) .none kV_law_rings dc_law_rings pm_law_rings an_law_rings cd_law_rings ct_law_rings, f_law_refused := f_law_refused, d_law_refused := PySem.W.fnOf "_law_refused" "_law_refused" (defArgs (top 40)) (defBody (top 40)) (defScope (top 40)) .none kV_law_refused dc_law_refused pm_law_refused an_law_refused cd_law_refused ct_law_refused, f_law_is_square := f_law_is_square, d_law_is_square := PySem.W.fnOf "_law_is_square" "_law_is_square" (defArgs (top 41)) (defBody (top 41)) (defScope (top 41)) .none kV_law_is_square dc_law_is_square pm_law_is_square an_law_is_square cd_law_is_square ct_law_is_square, f_law_turn_right := f_law_turn_right, d_law_turn_right := PySem.W.fnOf "_law_turn_right" "_law_turn_right" (defArgs (top 42)) (defBody (top 42)) (defScope (top 42)) .none kV_law_turn_right dc_law_turn_right pm_law_turn_right an_law_turn_right cd_law_turn_right ct_law_turn_right, f_law_case_right := f_law_case_right, d_law_case_right := PySem.W.fnOf "_law_case_right" "_law_case_right" (defArgs (top 43)) (defBody (top 43)) (defScope (top 43)) .none kV_law_case_right dc_law_case_right pm_law_case_right an_law_case_right cd_law_case_right ct_law_case_right, f_law := f_law, d_law := PySem.W.fnOf "law" "law" (defArgs (top 44)) (defBody (top 44)) (defScope (top 44)) .none kV_law dc_law pm_law an_law cd_law ct_law, f_Device_init := f_Device_init, d_Device_init := PySem.W.fnOf "__init__" "Device.__init__" (defArgs (inClass (top 19) 0)) (defBody (inClass (top 19) 0)) (defScope (inClass (top 19) 0)) .none kV_Device_init dc_Device_init pm_Device_init an_Device_init cd_Device_init ct_Device_init, f_Device_eq := f_Device_eq, d_Device_eq := PySem.W.fnOf "__eq__" "Device.__eq__" (defArgs (inClass (top 19) 1)) (defBody (inClass (top 19) 1)) (defScope (inClass (top 19) 1)) .none kV_Device_eq dc_Device_eq pm_Device_eq an_Device_eq cd_Device_eq ct_Device_eq, f_Device_effect := f_Device_effect, d_Device_effect := PySem.W.fnOf "effect" "Device.effect" (defArgs (inClass (top 19) 4)) (defBody (inClass (top 19) 4)) (defScope (inClass (top 19) 4)) .none kV_Device_effect dc_Device_effect pm_Device_effect an_Device_effect cd_Device_effect ct_Device_effect, f_Turn_init := f_Turn_init, d_Turn_init := PySem.W.fnOf "__init__" "Turn.__init__" (defArgs (inClass (top 27) 0)) (defBody (inClass (top 27) 0)) (defScope (inClass (top 27) 0)) .none kV_Turn_init dc_Turn_init pm_Turn_init an_Turn_init cd_Turn_init ct_Turn_init, f_Turn_said_at := f_Turn_said_at, d_Turn_said_at := PySem.W.fnOf "said_at" "Turn.said_at" (defArgs (inClass (top 27) 1)) (defBody (inClass (top 27) 1)) (defScope (inClass (top 27) 1)) .none kV_Turn_said_at dc_Turn_said_at pm_Turn_said_at an_Turn_said_at cd_Turn_said_at ct_Turn_said_at, f_Turn_left_at := f_Turn_left_at, d_Turn_left_at := PySem.W.fnOf "left_at" "Turn.left_at" (defArgs (inClass (top 27) 2)) (defBody (inClass (top 27) 2)) (defScope (inClass (top 27) 2)) .none kV_Turn_left_at dc_Turn_left_at pm_Turn_left_at an_Turn_left_at cd_Turn_left_at ct_Turn_left_at, f_Turn_square_at := f_Turn_square_at, d_Turn_square_at := PySem.W.fnOf "square_at" "Turn.square_at" (defArgs (inClass (top 27) 3)) (defBody (inClass (top 27) 3)) (defScope (inClass (top 27) 3)) .none kV_Turn_square_at dc_Turn_square_at pm_Turn_square_at an_Turn_square_at cd_Turn_square_at ct_Turn_square_at, f_Turn_core := f_Turn_core, d_Turn_core := PySem.W.fnOf "core" "Turn.core" (defArgs (inClass (top 27) 4)) (defBody (inClass (top 27) 4)) (defScope (inClass (top 27) 4)) .none kV_Turn_core dc_Turn_core pm_Turn_core an_Turn_core cd_Turn_core ct_Turn_core, c_Device := c_Device, c_Turn := c_Turn, cBack := cBack, x_Refused := x_Refused, xi_Refused := xi_Refused, x_BadRow := x_BadRow, xi_BadRow := xi_BadRow } K mg := {
    F_is_integer := fun_mk l_is_integer e_is_integer k_is_integer,
    g_is_integer := PySem.W.mg_of X G a_is_integer,
    F_is_number := fun_mk l_is_number e_is_number k_is_number,
    g_is_number := PySem.W.mg_of X G a_is_number,
    F_is_text := fun_mk l_is_text e_is_text k_is_text,
    g_is_text := PySem.W.mg_of X G a_is_text,
    F_is_sequence := fun_mk l_is_sequence e_is_sequence k_is_sequence,
    g_is_sequence := PySem.W.mg_of X G a_is_sequence,
    F_common_divisor := fun_mk l_common_divisor e_common_divisor k_common_divisor,
    g_common_divisor := PySem.W.mg_of X G a_common_divisor,
    F_common_multiple := fun_mk l_common_multiple e_common_multiple k_common_multiple,
    g_common_multiple := PySem.W.mg_of X G a_common_multiple,
    F_is_table := fun_mk l_is_table e_is_table k_is_table,
    g_is_table := PySem.W.mg_of X G a_is_table,
    F_check_row := fun_mk l_check_row e_check_row k_check_row,
    g_check_row := PySem.W.mg_of X G a_check_row,
    F_joined_effects := fun_mk l_joined_effects e_joined_effects k_joined_effects,
    g_joined_effects := PySem.W.mg_of X G a_joined_effects,
    F_said_effect := fun_mk l_said_effect e_said_effect k_said_effect,
    g_said_effect := PySem.W.mg_of X G a_said_effect,
    F_effect_left := fun_mk l_effect_left e_effect_left k_effect_left,
    g_effect_left := PySem.W.mg_of X G a_effect_left,
    F_effect_rings := fun_mk l_effect_rings e_effect_rings k_effect_rings,
    g_effect_rings := PySem.W.mg_of X G a_effect_rings,
    F_ring_numbers := fun_mk l_ring_numbers e_ring_numbers k_ring_numbers,
    g_ring_numbers := PySem.W.mg_of X G a_ring_numbers,
    F_first_unlike := fun_mk l_first_unlike e_first_unlike k_first_unlike,
    g_first_unlike := PySem.W.mg_of X G a_first_unlike,
    F_law_box := fun_mk l_law_box e_law_box k_law_box,
    g_law_box := PySem.W.mg_of X G a_law_box,
    F_law_take := fun_mk l_law_take e_law_take k_law_take,
    g_law_take := PySem.W.mg_of X G a_law_take,
    F_law_pick := fun_mk l_law_pick e_law_pick k_law_pick,
    g_law_pick := PySem.W.mg_of X G a_law_pick,
    F_law_tables := fun_mk l_law_tables e_law_tables k_law_tables,
    g_law_tables := PySem.W.mg_of X G a_law_tables,
    F_law_row := fun_mk l_law_row e_law_row k_law_row,
    g_law_row := PySem.W.mg_of X G a_law_row,
    F_law_after := fun_mk l_law_after e_law_after k_law_after,
    g_law_after := PySem.W.mg_of X G a_law_after,
    F_law_far := fun_mk l_law_far e_law_far k_law_far,
    g_law_far := PySem.W.mg_of X G a_law_far,
    F_law_rings := fun_mk l_law_rings e_law_rings k_law_rings,
    g_law_rings := PySem.W.mg_of X G a_law_rings,
    F_law_refused := fun_mk l_law_refused e_law_refused k_law_refused,
    g_law_refused := PySem.W.mg_of X G a_law_refused,
    F_law_is_square := fun_mk l_law_is_square e_law_is_square k_law_is_square,
    g_law_is_square := PySem.W.mg_of X G a_law_is_square,
    F_law_turn_right := fun_mk l_law_turn_right e_law_turn_right k_law_turn_right,
    g_law_turn_right := PySem.W.mg_of X G a_law_turn_right,
    F_law_case_right := fun_mk l_law_case_right e_law_case_right k_law_case_right,
    g_law_case_right := PySem.W.mg_of X G a_law_case_right,
    F_law := fun_mk l_law e_law k_law,
    g_law := PySem.W.mg_of X G a_law,
    F_Device_init := fun_mk l_Device_init e_Device_init k_Device_init,
    F_Device_eq := fun_mk l_Device_eq e_Device_eq k_Device_eq,
    m_Device_eq := ⟨a_Device_eq, i_Device_eq, k_Device_eq⟩,
    F_Device_effect := fun_mk l_Device_effect e_Device_effect k_Device_effect,
    m_Device_effect := ⟨a_Device_effect, i_Device_effect, k_Device_effect⟩,
    F_Turn_init := fun_mk l_Turn_init e_Turn_init k_Turn_init,
    F_Turn_said_at := fun_mk l_Turn_said_at e_Turn_said_at k_Turn_said_at,
    m_Turn_said_at := ⟨a_Turn_said_at, i_Turn_said_at, k_Turn_said_at⟩,
    F_Turn_left_at := fun_mk l_Turn_left_at e_Turn_left_at k_Turn_left_at,
    m_Turn_left_at := ⟨a_Turn_left_at, i_Turn_left_at, k_Turn_left_at⟩,
    F_Turn_square_at := fun_mk l_Turn_square_at e_Turn_square_at k_Turn_square_at,
    m_Turn_square_at := ⟨a_Turn_square_at, i_Turn_square_at, k_Turn_square_at⟩,
    F_Turn_core := fun_mk l_Turn_core e_Turn_core k_Turn_core,
    m_Turn_core := ⟨a_Turn_core, i_Turn_core, k_Turn_core⟩,
    cl_Device := ⟨pg_Device, hd_Device, po_Device, sa_Device⟩,
    g_Device := PySem.W.mg_of X G a_Device,
    mk_Device := ⟨mk_Device, a_Device_init, i_Device_init, kc_Device⟩,
    n_Device_states := n_Device_states,
    n_Device_signals := n_Device_signals,
    n_Device_tables := n_Device_tables,
    cl_Turn := ⟨pg_Turn, hd_Turn, po_Turn, sa_Turn⟩,
    g_Turn := PySem.W.mg_of X G a_Turn,
    mk_Turn := ⟨mk_Turn, a_Turn_init, i_Turn_init, kc_Turn⟩,
    n_Turn_once := n_Turn_once,
    n_Turn_device := n_Turn_device,
    n_Turn_word := n_Turn_word,
    n_Turn_rings := n_Turn_rings,
    n_Turn_tails := n_Turn_tails,
    n_Turn_period := n_Turn_period,
    dv1 := dv1,
    dv2 := dv2,
    dv3 := dv3,
    dv4 := dv4,
    g_BackError := PySem.W.mg_of X G a_Back,
    S_Refused := { gC := PySem.W.mg_of X G a_Refused, cls := ⟨_, _, _, _, _, _, _, _, _, _, _, _, _, _, _, xl_Refused, bm1_Refused⟩, sa := xsa_Refused, ga := xga_Refused, gg := xgg_Refused, noN := xn_Refused, iC := xia_Refused, tC := xit_Refused, kC := xk1_Refused, exC := xe_Refused, tyC := xt_Refused, hdC := xh_Refused, te := exm_self xe_Refused xc_Refused xt_Refused xs_Refused, sup := xsu_Refused, me := xm_Refused, vE := xv_Refused, op := op, noS := PySem.W.mg_none_of X G z_super, fn := ⟨_, _, _, _, _, _, _, _, _, _, _, _, _, _, _, _, _, _, _, _, _, _, _, _, _, _, _, _, _, _, _, _, _, xl1_Refused, xl2_Refused, xl3_Refused, xl4_Refused, xl5_Refused, xl6_Refused, xl7_Refused⟩, top := top_super },
    ec_Refused := ⟨xga_Refused, xgg_Refused, xe_Refused, xh_Refused, xcl1_Refused, dv2, dv3, xmo_Refused⟩,
    xf_Refused := ⟨xga_Refused, xgg_Refused, xe_Refused, xh_Refused⟩,
    kb_Refused := kit_of ib tb xsb_Refused,
    S_BadRow := { gC := PySem.W.mg_of X G a_BadRow, cls := ⟨_, _, _, _, _, _, _, _, _, _, _, _, _, _, _, xl_BadRow, bm1_BadRow⟩, sa := xsa_BadRow, ga := xga_BadRow, gg := xgg_BadRow, noN := xn_BadRow, iC := xia_BadRow, tC := xit_BadRow, kC := xk1_BadRow, exC := xe_BadRow, tyC := xt_BadRow, hdC := xh_BadRow, te := exm_self xe_BadRow xc_BadRow xt_BadRow xs_BadRow, sup := xsu_BadRow, me := xm_BadRow, vE := xv_BadRow, op := op, noS := PySem.W.mg_none_of X G z_super, fn := ⟨_, _, _, _, _, _, _, _, _, _, _, _, _, _, _, _, _, _, _, _, _, _, _, _, _, _, _, _, _, _, _, _, _, xl1_BadRow, xl2_BadRow, xl3_BadRow, xl4_BadRow, xl5_BadRow, xl6_BadRow, xl7_BadRow⟩, top := top_super },
    ec_BadRow := ⟨xga_BadRow, xgg_BadRow, xe_BadRow, xh_BadRow, xcl1_BadRow, dv2, dv3, xmo_BadRow⟩,
    xf_BadRow := ⟨xga_BadRow, xgg_BadRow, xe_BadRow, xh_BadRow⟩,
    kb_BadRow := kit_of ib tb xsb_BadRow,
    ne_Device := ⟨⟨_, _, _, _, _, _, _, _, _, _, _, _, _, _, _, _, xl_D, nsok_of nd_D no_D, ne1_D, ne2_D⟩, ⟨_, l_Device_eq, tf_D⟩⟩,
    b_isinstance := PySem.W.mg_none_of X G z_isinstance,
    b_int := PySem.W.mg_none_of X G z_int,
    b_bool := PySem.W.mg_none_of X G z_bool,
    b_str := PySem.W.mg_none_of X G z_str,
    b_list := PySem.W.mg_none_of X G z_list,
    b_tuple := PySem.W.mg_none_of X G z_tuple,
    b_len := PySem.W.mg_none_of X G z_len,
    b_enumerate := PySem.W.mg_none_of X G z_enumerate,
    b_all := PySem.W.mg_none_of X G z_all,
    b_range := PySem.W.mg_none_of X G z_range,
    b_sorted := PySem.W.mg_none_of X G z_sorted,
    b_min := PySem.W.mg_none_of X G z_min,
    b_max := PySem.W.mg_none_of X G z_max,
    b_sum := PySem.W.mg_none_of X G z_sum,
    b_abs := PySem.W.mg_none_of X G z_abs,
    b_repr := PySem.W.mg_none_of X G z_repr,
    b_super := PySem.W.mg_none_of X G z_super,
    k_SIGNALS := ⟨_, PySem.W.mg_of X G k_SIGNALS⟩,
    k_MOST_STATES := ⟨_, PySem.W.mg_of X G k_MOST_STATES⟩,
    k_MOST_LENGTH := ⟨_, PySem.W.mg_of X G k_MOST_LENGTH⟩,
    k_MOST_SIGNS := ⟨_, PySem.W.mg_of X G k_MOST_SIGNS⟩ }
  exact ⟨_, fun s v => .of_eq rfl, fun base _ _ => ok_law T⟩
end K3
end

section
set_option linter.all false
open PySem PySem.W PyProof.Rows
set_option maxRecDepth 100000 in
set_option maxHeartbeats 0 in
theorem PySem.Challenge.cw_backinstep_k03_whole_one_row_for_ever_holds : PySem.Challenge.rw_backinstep_k03_whole_one_row_for_ever.Holds := by
  w_on; o_law; k_head; (case hw => w_witness2)
  k_fill
  refine R3.walk_ofG (l := PySem.Challenge.rw_backinstep_k03_whole_one_row_for_ever) (n := 63) (k := 8) (x := "_law_script") (sp := K3.spLaw) rfl (by decide) rfl ⟨rfl, by decide, by decide⟩ (fun w h Y => PySem.W.kIn_of Y) ?F (fun _ _ a ns hl hS => ⟨a, ns, rfl, hS, hl, fun _ => rfl⟩)
  case F =>
    intro w mg fa h KX G hmg
    refine' K3.all_mk KX G hmg ?a_Device ?a_Turn ?a_is_integer ?l_is_integer ?e_is_integer ?k_is_integer ?a_is_number ?l_is_number ?e_is_number ?k_is_number ?a_is_text ?l_is_text ?e_is_text ?k_is_text ?a_is_sequence ?l_is_sequence ?e_is_sequence ?k_is_sequence ?a_common_divisor ?l_common_divisor ?e_common_divisor ?k_common_divisor ?a_common_multiple ?l_common_multiple ?e_common_multiple ?k_common_multiple ?a_is_table ?l_is_table ?e_is_table ?k_is_table ?a_check_row ?l_check_row ?e_check_row ?k_check_row ?a_joined_effects ?l_joined_effects ?e_joined_effects ?k_joined_effects ?a_said_effect ?l_said_effect ?e_said_effect ?k_said_effect ?a_effect_left ?l_effect_left ?e_effect_left ?k_effect_left ?a_effect_rings ?l_effect_rings ?e_effect_rings ?k_effect_rings ?a_ring_numbers ?l_ring_numbers ?e_ring_numbers ?k_ring_numbers ?a_first_unlike ?l_first_unlike ?e_first_unlike ?k_first_unlike ?a_law_box ?l_law_box ?e_law_box ?k_law_box ?a_law_take ?l_law_take ?e_law_take ?k_law_take ?a_law_pick ?l_law_pick ?e_law_pick ?k_law_pick ?a_law_tables ?l_law_tables ?e_law_tables ?k_law_tables ?a_law_row ?l_law_row ?e_law_row ?k_law_row ?a_law_after ?l_law_after ?e_law_after ?k_law_after ?a_law_far ?l_law_far ?e_law_far ?k_law_far ?a_law_rings ?l_law_rings ?e_law_rings ?k_law_rings ?a_law_refused ?l_law_refused ?e_law_refused ?k_law_refused ?a_law_is_square ?l_law_is_square ?e_law_is_square ?k_law_is_square ?a_law_turn_right ?l_law_turn_right ?e_law_turn_right ?k_law_turn_right ?a_law_case_right ?l_law_case_right ?e_law_case_right ?k_law_case_right ?a_law ?l_law ?e_law ?k_law ?a_Device_init ?i_Device_init ?l_Device_init ?e_Device_init ?k_Device_init ?a_Device_eq ?i_Device_eq ?l_Device_eq ?e_Device_eq ?k_Device_eq ?a_Device_effect ?i_Device_effect ?l_Device_effect ?e_Device_effect ?k_Device_effect ?a_Turn_init ?i_Turn_init ?l_Turn_init ?e_Turn_init ?k_Turn_init ?a_Turn_said_at ?i_Turn_said_at ?l_Turn_said_at ?e_Turn_said_at ?k_Turn_said_at ?a_Turn_left_at ?i_Turn_left_at ?l_Turn_left_at ?e_Turn_left_at ?k_Turn_left_at ?a_Turn_square_at ?i_Turn_square_at ?l_Turn_square_at ?e_Turn_square_at ?k_Turn_square_at ?a_Turn_core ?i_Turn_core ?l_Turn_core ?e_Turn_core ?k_Turn_core ?pg_Device ?hd_Device ?po_Device ?sa_Device ?mk_Device ?kc_Device ?n_Device_states ?n_Device_signals ?n_Device_tables ?pg_Turn ?hd_Turn ?po_Turn ?sa_Turn ?mk_Turn ?kc_Turn ?n_Turn_once ?n_Turn_device ?n_Turn_word ?n_Turn_rings ?n_Turn_tails ?n_Turn_period ?dv1 ?dv2 ?dv3 ?dv4 ?a_Back ?ib ?tb ?op ?a_Refused ?xl_Refused ?bm1_Refused ?xsa_Refused ?xga_Refused ?xgg_Refused ?xn_Refused ?xia_Refused ?xit_Refused ?xk1_Refused ?xe_Refused ?xt_Refused ?xh_Refused ?xc_Refused ?xs_Refused ?xsu_Refused ?xm_Refused ?xv_Refused ?xl1_Refused ?xl2_Refused ?xl3_Refused ?xl4_Refused ?xl5_Refused ?xl6_Refused ?xl7_Refused ?xcl1_Refused ?xmo_Refused ?xsb_Refused ?a_BadRow ?xl_BadRow ?bm1_BadRow ?xsa_BadRow ?xga_BadRow ?xgg_BadRow ?xn_BadRow ?xia_BadRow ?xit_BadRow ?xk1_BadRow ?xe_BadRow ?xt_BadRow ?xh_BadRow ?xc_BadRow ?xs_BadRow ?xsu_BadRow ?xm_BadRow ?xv_BadRow ?xl1_BadRow ?xl2_BadRow ?xl3_BadRow ?xl4_BadRow ?xl5_BadRow ?xl6_BadRow ?xl7_BadRow ?xcl1_BadRow ?xmo_BadRow ?xsb_BadRow ?xl_D ?nd_D ?no_D ?ne1_D ?ne2_D ?tf_D ?z_isinstance ?z_int ?z_bool ?z_str ?z_list ?z_tuple ?z_len ?z_enumerate ?z_all ?z_range ?z_sorted ?z_min ?z_max ?z_sum ?z_abs ?z_repr ?z_super ?k_SIGNALS ?k_MOST_STATES ?k_MOST_LENGTH ?k_MOST_SIGNS
    (case a_Device => k_is)
    (case a_Turn => k_is)
    (case a_is_integer => k_is)
    (case l_is_integer => k_is)
    (case e_is_integer => k_is)
    (case k_is_integer => k_is)
    (case a_is_number => k_is)
    (case l_is_number => k_is)
    (case e_is_number => k_is)
    (case k_is_number => k_is)
    (case a_is_text => k_is)
    (case l_is_text => k_is)
    (case e_is_text => k_is)
    (case k_is_text => k_is)
    (case a_is_sequence => k_is)
    (case l_is_sequence => k_is)
    (case e_is_sequence => k_is)
    (case k_is_sequence => k_is)
    (case a_common_divisor => k_is)
    (case l_common_divisor => k_is)
    (case e_common_divisor => k_is)
    (case k_common_divisor => k_is)
    (case a_common_multiple => k_is)
    (case l_common_multiple => k_is)
    (case e_common_multiple => k_is)
    (case k_common_multiple => k_is)
    (case a_is_table => k_is)
    (case l_is_table => k_is)
    (case e_is_table => k_is)
    (case k_is_table => k_is)
    (case a_check_row => k_is)
    (case l_check_row => k_is)
    (case e_check_row => k_is)
    (case k_check_row => k_is)
    (case a_joined_effects => k_is)
    (case l_joined_effects => k_is)
    (case e_joined_effects => k_is)
    (case k_joined_effects => k_is)
    (case a_said_effect => k_is)
    (case l_said_effect => k_is)
    (case e_said_effect => k_is)
    (case k_said_effect => k_is)
    (case a_effect_left => k_is)
    (case l_effect_left => k_is)
    (case e_effect_left => k_is)
    (case k_effect_left => k_is)
    (case a_effect_rings => k_is)
    (case l_effect_rings => k_is)
    (case e_effect_rings => k_is)
    (case k_effect_rings => k_is)
    (case a_ring_numbers => k_is)
    (case l_ring_numbers => k_is)
    (case e_ring_numbers => k_is)
    (case k_ring_numbers => k_is)
    (case a_first_unlike => k_is)
    (case l_first_unlike => k_is)
    (case e_first_unlike => k_is)
    (case k_first_unlike => k_is)
    (case a_law_box => k_is)
    (case l_law_box => k_is)
    (case e_law_box => k_is)
    (case k_law_box => k_is)
    (case a_law_take => k_is)
    (case l_law_take => k_is)
    (case e_law_take => k_is)
    (case k_law_take => k_is)
    (case a_law_pick => k_is)
    (case l_law_pick => k_is)
    (case e_law_pick => k_is)
    (case k_law_pick => k_is)
    (case a_law_tables => k_is)
    (case l_law_tables => k_is)
    (case e_law_tables => k_is)
    (case k_law_tables => k_is)
    (case a_law_row => k_is)
    (case l_law_row => k_is)
    (case e_law_row => k_is)
    (case k_law_row => k_is)
    (case a_law_after => k_is)
    (case l_law_after => k_is)
    (case e_law_after => k_is)
    (case k_law_after => k_is)
    (case a_law_far => k_is)
    (case l_law_far => k_is)
    (case e_law_far => k_is)
    (case k_law_far => k_is)
    (case a_law_rings => k_is)
    (case l_law_rings => k_is)
    (case e_law_rings => k_is)
    (case k_law_rings => k_is)
    (case a_law_refused => k_is)
    (case l_law_refused => k_is)
    (case e_law_refused => k_is)
    (case k_law_refused => k_is)
    (case a_law_is_square => k_is)
    (case l_law_is_square => k_is)
    (case e_law_is_square => k_is)
    (case k_law_is_square => k_is)
    (case a_law_turn_right => k_is)
    (case l_law_turn_right => k_is)
    (case e_law_turn_right => k_is)
    (case k_law_turn_right => k_is)
    (case a_law_case_right => k_is)
    (case l_law_case_right => k_is)
    (case e_law_case_right => k_is)
    (case k_law_case_right => k_is)
    (case a_law => k_is)
    (case l_law => k_is)
    (case e_law => k_is)
    (case k_law => k_is)
    (case a_Device_init => k_is)
    (case i_Device_init => k_is)
    (case l_Device_init => k_is)
    (case e_Device_init => k_is)
    (case k_Device_init => k_is)
    (case a_Device_eq => k_is)
    (case i_Device_eq => k_is)
    (case l_Device_eq => k_is)
    (case e_Device_eq => k_is)
    (case k_Device_eq => k_is)
    (case a_Device_effect => k_is)
    (case i_Device_effect => k_is)
    (case l_Device_effect => k_is)
    (case e_Device_effect => k_is)
    (case k_Device_effect => k_is)
    (case a_Turn_init => k_is)
    (case i_Turn_init => k_is)
    (case l_Turn_init => k_is)
    (case e_Turn_init => k_is)
    (case k_Turn_init => k_is)
    (case a_Turn_said_at => k_is)
    (case i_Turn_said_at => k_is)
    (case l_Turn_said_at => k_is)
    (case e_Turn_said_at => k_is)
    (case k_Turn_said_at => k_is)
    (case a_Turn_left_at => k_is)
    (case i_Turn_left_at => k_is)
    (case l_Turn_left_at => k_is)
    (case e_Turn_left_at => k_is)
    (case k_Turn_left_at => k_is)
    (case a_Turn_square_at => k_is)
    (case i_Turn_square_at => k_is)
    (case l_Turn_square_at => k_is)
    (case e_Turn_square_at => k_is)
    (case k_Turn_square_at => k_is)
    (case a_Turn_core => k_is)
    (case i_Turn_core => k_is)
    (case l_Turn_core => k_is)
    (case e_Turn_core => k_is)
    (case k_Turn_core => k_is)
    (case pg_Device => k_is)
    (case hd_Device => k_is)
    (case po_Device => k_is)
    (case sa_Device => k_is)
    (case mk_Device => k_is)
    (case kc_Device => k_is)
    (case n_Device_states => k_is)
    (case n_Device_signals => k_is)
    (case n_Device_tables => k_is)
    (case pg_Turn => k_is)
    (case hd_Turn => k_is)
    (case po_Turn => k_is)
    (case sa_Turn => k_is)
    (case mk_Turn => k_is)
    (case kc_Turn => k_is)
    (case n_Turn_once => k_is)
    (case n_Turn_device => k_is)
    (case n_Turn_word => k_is)
    (case n_Turn_rings => k_is)
    (case n_Turn_tails => k_is)
    (case n_Turn_period => k_is)
    (case dv1 => k_is)
    (case dv2 => k_is)
    (case dv3 => k_is)
    (case dv4 => k_is)
    (case a_Back => k_is)
    (case ib => k_is)
    (case tb => k_is)
    (case op => k_is)
    (case a_Refused => k_is)
    (case xl_Refused => k_is)
    (case bm1_Refused => decide +kernel)
    (case xsa_Refused => k_is)
    (case xga_Refused => k_is)
    (case xgg_Refused => k_is)
    (case xn_Refused => k_is)
    (case xia_Refused => k_is)
    (case xit_Refused => k_is)
    (case xk1_Refused => k_is)
    (case xe_Refused => k_is)
    (case xt_Refused => k_is)
    (case xh_Refused => k_is)
    (case xc_Refused => k_is)
    (case xs_Refused => first | rfl | k_is)
    (case xsu_Refused => ks_is)
    (case xm_Refused => k_is)
    (case xv_Refused => k_is)
    (case xl1_Refused => k_is)
    (case xl2_Refused => k_is)
    (case xl3_Refused => k_is)
    (case xl4_Refused => rfl)
    (case xl5_Refused => decide +kernel)
    (case xl6_Refused => k_is)
    (case xl7_Refused => rfl)
    (case xcl1_Refused => k_is)
    (case xmo_Refused => k_is)
    (case xsb_Refused => k_is)
    (case a_BadRow => k_is)
    (case xl_BadRow => k_is)
    (case bm1_BadRow => decide +kernel)
    (case xsa_BadRow => k_is)
    (case xga_BadRow => k_is)
    (case xgg_BadRow => k_is)
    (case xn_BadRow => k_is)
    (case xia_BadRow => k_is)
    (case xit_BadRow => k_is)
    (case xk1_BadRow => k_is)
    (case xe_BadRow => k_is)
    (case xt_BadRow => k_is)
    (case xh_BadRow => k_is)
    (case xc_BadRow => k_is)
    (case xs_BadRow => first | rfl | k_is)
    (case xsu_BadRow => ks_is)
    (case xm_BadRow => k_is)
    (case xv_BadRow => k_is)
    (case xl1_BadRow => k_is)
    (case xl2_BadRow => k_is)
    (case xl3_BadRow => k_is)
    (case xl4_BadRow => rfl)
    (case xl5_BadRow => decide +kernel)
    (case xl6_BadRow => k_is)
    (case xl7_BadRow => rfl)
    (case xcl1_BadRow => k_is)
    (case xmo_BadRow => k_is)
    (case xsb_BadRow => k_is)
    (case xl_D => k_is)
    (case nd_D => k_is)
    (case no_D => rfl)
    (case ne1_D => k_is)
    (case ne2_D => k_is)
    (case tf_D => rfl)
    (case z_isinstance => k_is)
    (case z_int => k_is)
    (case z_bool => k_is)
    (case z_str => k_is)
    (case z_list => k_is)
    (case z_tuple => k_is)
    (case z_len => k_is)
    (case z_enumerate => k_is)
    (case z_all => k_is)
    (case z_range => k_is)
    (case z_sorted => k_is)
    (case z_min => k_is)
    (case z_max => k_is)
    (case z_sum => k_is)
    (case z_abs => k_is)
    (case z_repr => k_is)
    (case z_super => k_is)
    (case k_SIGNALS => k_is)
    (case k_MOST_STATES => k_is)
    (case k_MOST_LENGTH => k_is)
    (case k_MOST_SIGNS => k_is)
#print axioms PySem.Challenge.cw_backinstep_k03_whole_one_row_for_ever_holds
end
