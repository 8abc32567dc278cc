import PyProof.Rows.All
import Wide.All
import OpenK.AllK
import Wide.FinOn
import HandS.ForMost
import HandS.Property
import HandS.FStr
import HandS.Wide
import HandS.WideBits
import HandS.Star
import HandS.Style
import HandS.TupLen
import HandS.IsInst
import HandS.TupAny
import HandS.Walk
import KE.GoesMore
import KE.KCallOwn
import KE.KFmtOwn
import PyProof.ReprRoads
import PyProof.Draws
import PyProof.EnumMake
import PySem.Challenge.RW_pressworlds_k67_whole_cosets_and_lots_wi
set_option Elab.async false
set_option linter.all false
set_option maxRecDepth 100000
set_option maxHeartbeats 4000000
namespace K67
abbrev T3 := Int × Int × Int
def tri (c : Int) : Int := c * (c - 1) / 2
theorem tri2 (c : Int) : 2 * tri c = c * (c - 1) := by
  unfold tri
  have h : c * (c - 1) % 2 = 0 := by
    have h0 : c % 2 = 0 ∨ c % 2 = 1 := by omega
    rcases h0 with h | h
    · rw [Int.mul_emod, h]; simp
    · rw [Int.mul_emod, Int.sub_emod, h]; simp
  omega
theorem tri_add (a b : Int) : tri (a + b) = tri a + tri b + a * b := by
  have h1 := tri2 (a + b); have h2 := tri2 a; have h3 := tri2 b
  grind
theorem tri_neg (a : Int) : tri (-a) = tri a + a := by
  have h1 := tri2 (-a); have h2 := tri2 a
  grind
theorem tri_zero : tri 0 = 0 := rfl
theorem tri_one : tri 1 = 0 := rfl
def put (a b : T3) : T3 := (a.1 + b.1, a.2.1 + b.2.1, a.2.2 + b.2.2 + a.1 * b.2.1)
def pw (a : T3) (c : Int) : T3 := (c * a.1, c * a.2.1, c * a.2.2 + tri c * a.1 * a.2.1)
def off (a : T3) : T3 := (-a.1, -a.2.1, a.1 * a.2.1 - a.2.2)
def gap (a b : T3) : Int := a.1 * b.2.1 - b.1 * a.2.1
theorem t3_ext {a b : T3} (h1 : a.1 = b.1) (h2 : a.2.1 = b.2.1) (h3 : a.2.2 = b.2.2) : a = b := by
  obtain ⟨x, y, s⟩ := a; obtain ⟨x', y', s'⟩ := b
  simp at h1 h2 h3; simp [h1, h2, h3]
theorem put_assoc (a b c : T3) : put (put a b) c = put a (put b c) := by
  apply t3_ext <;> simp only [put] <;> grind
theorem put_one (a : T3) : put a (0, 0, 0) = a := by apply t3_ext <;> simp [put]
theorem one_put (a : T3) : put (0, 0, 0) a = a := by apply t3_ext <;> simp [put]
theorem put_off (a : T3) : put a (off a) = (0, 0, 0) := by apply t3_ext <;> simp only [put, off] <;> grind
theorem off_put (a : T3) : put (off a) a = (0, 0, 0) := by apply t3_ext <;> simp only [put, off] <;> grind
theorem pw_add (a : T3) (c d : Int) : pw a (c + d) = put (pw a c) (pw a d) := by
  have h := tri_add c d
  apply t3_ext <;> simp only [put, pw] <;> grind
theorem pw_zero (a : T3) : pw a 0 = (0, 0, 0) := by apply t3_ext <;> simp [pw, tri_zero]
theorem pw_one (a : T3) : pw a 1 = a := by apply t3_ext <;> simp [pw, tri_one]
theorem pw_neg (a : T3) (c : Int) : pw a (-c) = off (pw a c) := by
  have h := tri_neg c; have h2 := tri2 c
  apply t3_ext <;> simp only [put, pw, off] <;> grind
theorem pw_zero_base (c : Int) : pw (0, 0, 0) c = (0, 0, 0) := by apply t3_ext <;> simp [pw]
theorem pw_center (k c : Int) : pw (0, 0, k) c = (0, 0, c * k) := by apply t3_ext <;> simp [pw]

structure Sub (S : T3 → Prop) : Prop where
  one : S (0, 0, 0)
  mul : ∀ {a b}, S a → S b → S (put a b)
  inv : ∀ {a}, S a → S (off a)
theorem Sub.npow {S : T3 → Prop} (h : Sub S) {a : T3} (ha : S a) : ∀ n : Nat, S (pw a (n : Int))
  | 0 => by rw [show ((0 : Nat) : Int) = 0 from rfl, pw_zero]; exact h.one
  | n + 1 => by
    rw [show ((n + 1 : Nat) : Int) = (n : Int) + 1 by omega, pw_add, pw_one]
    exact h.mul (h.npow ha n) ha
theorem Sub.pow {S : T3 → Prop} (h : Sub S) {a : T3} (ha : S a) (c : Int) : S (pw a c) := by
  rcases Int.eq_nat_or_neg c with ⟨n, e | e⟩
  · rw [e]; exact h.npow ha n
  · rw [e, pw_neg]; exact h.inv (h.npow ha n)
theorem Sub.gap {S : T3 → Prop} (h : Sub S) {a b : T3} (ha : S a) (hb : S b) : S (0, 0, gap a b) := by
  have e : (0, 0, K67.gap a b) = put (put a b) (put (off a) (off b)) := by
    apply t3_ext <;> simp only [put, off, K67.gap] <;> grind
  rw [e]
  exact h.mul (h.mul ha hb) (h.mul (h.inv ha) (h.inv hb))
theorem Sub.cmul {S : T3 → Prop} (h : Sub S) {k : Int} (hk : S (0, 0, k)) (c : Int) : S (0, 0, c * k) := by
  rw [← pw_center]; exact h.pow hk c
theorem Sub.cadd {S : T3 → Prop} (h : Sub S) {k j : Int} (hk : S (0, 0, k)) (hj : S (0, 0, j)) : S (0, 0, k + j) := by
  have := h.mul hk hj
  have e : put (0, 0, k) (0, 0, j) = (0, 0, k + j) := by apply t3_ext <;> simp [put]
  rw [e] at this; exact this
/-- moving the area by what is made -/
theorem Sub.shift {S : T3 → Prop} (h : Sub S) {x y s t : Int} (h1 : S (x, y, s)) (h2 : S (0, 0, t - s)) : S (x, y, t) := by
  have := h.mul h1 h2
  have e : put (x, y, s) (0, 0, t - s) = (x, y, t) := by apply t3_ext <;> simp only [put] <;> grind
  rw [e] at this; exact this

def Gen (M : List T3) (g : T3) : Prop := ∀ S, Sub S → (∀ m ∈ M, S m) → S g
theorem Gen.sub (M : List T3) : Sub (Gen M) where
  one := fun S h _ => h.one
  mul := fun ha hb S h k => h.mul (ha S h k) (hb S h k)
  inv := fun ha S h k => h.inv (ha S h k)
theorem Gen.of {M : List T3} {m : T3} (h : m ∈ M) : Gen M m := fun _ _ k => k m h

/-! ### forms -/
structure Fm where
  e : T3
  n : T3
  z : Int
  deriving DecidableEq
structure Canon (F : Fm) : Prop where
  e0 : 0 ≤ F.e.1
  eN : F.e.1 = 0 → F.e = (0, 0, 0)
  nx : F.n.1 = 0
  n0 : 0 ≤ F.n.2.1
  nN : F.n.2.1 = 0 → F.n = (0, 0, 0)
  z0 : 0 ≤ F.z
  dv : ∃ k, F.e.1 * F.n.2.1 = k * F.z
  eb : 0 < F.n.2.1 → 0 ≤ F.e.2.1 ∧ F.e.2.1 < F.n.2.1
  es : 0 < F.z → 0 ≤ F.e.2.2 ∧ F.e.2.2 < F.z
  ns : 0 < F.z → 0 ≤ F.n.2.2 ∧ F.n.2.2 < F.z
def mem (F : Fm) (g : T3) : Prop := ∃ m n k : Int, g = put (put (pw F.e m) (pw F.n n)) (0, 0, k * F.z)
theorem mem_iff {F : Fm} (C : Canon F) {g : T3} : mem F g ↔ ∃ m n k : Int, g.1 = m * F.e.1 ∧ g.2.1 = m * F.e.2.1 + n * F.n.2.1 ∧
    g.2.2 = m * F.e.2.2 + tri m * F.e.1 * F.e.2.1 + n * F.n.2.2 + m * F.e.1 * (n * F.n.2.1) + k * F.z := by
  have hx := C.nx
  constructor
  · rintro ⟨m, n, k, rfl⟩
    refine ⟨m, n, k, ?_, ?_, ?_⟩ <;> simp [put, pw, hx]
  · rintro ⟨m, n, k, h1, h2, h3⟩
    refine ⟨m, n, k, ?_⟩
    apply t3_ext <;> simp [put, pw, hx, h1, h2, h3]
theorem mem_e {F : Fm} (C : Canon F) : mem F F.e := (mem_iff C).2 ⟨1, 0, 0, by simp, by simp, by simp [tri_one]⟩
theorem mem_n {F : Fm} (C : Canon F) : mem F F.n := (mem_iff C).2 ⟨0, 1, 0, by simp [C.nx], by simp, by simp [tri_zero]⟩
theorem mem_z {F : Fm} (C : Canon F) (k : Int) : mem F (0, 0, k * F.z) := (mem_iff C).2 ⟨0, 0, k, by simp, by simp, by simp [tri_zero]⟩
theorem area_mul (a b d es t z m n k m' n' k' k0 : Int) (h : a * d = k0 * z) :
    (m * es + tri m * a * b + n * t + m * a * (n * d) + k * z) + (m' * es + tri m' * a * b + n' * t + m' * a * (n' * d) + k' * z) + m * a * (m' * b + n' * d) =
    (m + m') * es + tri (m + m') * a * b + (n + n') * t + (m + m') * a * ((n + n') * d) + (k + k' - n * m' * k0) * z := by
  have e : n * m' * (a * d) = n * m' * (k0 * z) := by rw [h]
  rw [tri_add]
  generalize tri m = p at *
  generalize tri m' = p' at *
  clear h
  grind
theorem area_inv (a b d es t z m n k k0 : Int) (h : a * d = k0 * z) :
    m * a * (m * b + n * d) - (m * es + tri m * a * b + n * t + m * a * (n * d) + k * z) =
    -m * es + tri (-m) * a * b + -n * t + -m * a * (-n * d) + (-k - n * m * k0) * z := by
  have e : n * m * (a * d) = n * m * (k0 * z) := by rw [h]
  have h2 := tri2 m
  have h3 : 2 * tri m * (a * b) = m * (m - 1) * (a * b) := by rw [h2]
  rw [tri_neg]
  generalize tri m = p at *
  clear h h2
  grind
theorem mem_sub {F : Fm} (C : Canon F) : Sub (mem F) := by
  obtain ⟨k0, hk0⟩ := C.dv
  refine ⟨(mem_iff C).2 ⟨0, 0, 0, by simp, by simp, by simp [tri_zero]⟩, ?_, ?_⟩
  · intro a b ha hb
    obtain ⟨m, n, k, h1, h2, h3⟩ := (mem_iff C).1 ha
    obtain ⟨m', n', k', h1', h2', h3'⟩ := (mem_iff C).1 hb
    refine (mem_iff C).2 ⟨m + m', n + n', k + k' - n * m' * k0, ?_, ?_, ?_⟩ <;> simp only [put]
    · rw [h1, h1']; grind
    · rw [h2, h2']; grind
    · rw [h3, h3', h1, h2']
      exact area_mul _ _ _ _ _ _ _ _ _ _ _ _ _ hk0
  · intro a ha
    obtain ⟨m, n, k, h1, h2, h3⟩ := (mem_iff C).1 ha
    refine (mem_iff C).2 ⟨-m, -n, -k - n * m * k0, ?_, ?_, ?_⟩ <;> simp only [off]
    · rw [h1]; grind
    · rw [h2]; grind
    · rw [h3, h1, h2]
      exact area_inv _ _ _ _ _ _ _ _ _ _ hk0
/-- what a form tells lies in every group that holds its parts -/
theorem mem_in {F : Fm} {S : T3 → Prop} (h : Sub S) (he : S F.e) (hn : S F.n) (hz : S (0, 0, F.z)) {g : T3} (hg : mem F g) : S g := by
  obtain ⟨m, n, k, rfl⟩ := hg
  exact h.mul (h.mul (h.pow he m) (h.pow hn n)) (h.cmul hz k)
theorem mem_x0 {F : Fm} (C : Canon F) {y s : Int} (h : mem F (0, y, s)) : ∃ n k : Int, y = n * F.n.2.1 ∧ s = n * F.n.2.2 + k * F.z := by
  obtain ⟨m, n, k, h1, h2, h3⟩ := (mem_iff C).1 h
  simp only at h1 h2 h3
  rcases Int.mul_eq_zero.1 h1.symm with hm | ha
  · subst hm; exact ⟨n, k, by simpa using h2, by simpa [tri_zero] using h3⟩
  · have e := C.eN ha
    rw [e] at h2 h3
    exact ⟨n, k, by simpa using h2, by simpa using h3⟩
theorem mem_00 {F : Fm} (C : Canon F) {s : Int} (h : mem F (0, 0, s)) : ∃ k : Int, s = k * F.z := by
  obtain ⟨n, k, h1, h2⟩ := mem_x0 C h
  rcases Int.mul_eq_zero.1 h1.symm with hn | hd
  · subst hn; exact ⟨k, by simpa using h2⟩
  · have e := C.nN hd
    rw [e] at h2
    exact ⟨k, by simpa using h2⟩
theorem eq_of_mod {s t z k : Int} (h : s = t + k * z) (h0 : 0 ≤ z) (h1 : 0 < z → 0 ≤ s ∧ s < z) (h2 : 0 < z → 0 ≤ t ∧ t < z) : s = t := by
  by_cases hz : 0 < z
  · obtain ⟨a, b⟩ := h1 hz; obtain ⟨c, d⟩ := h2 hz
    have hk : k = 0 := by
      rcases Int.lt_trichotomy k 0 with q | q | q
      · have : k * z ≤ -1 * z := Int.mul_le_mul_of_nonneg_right (by omega) h0
        omega
      · exact q
      · have : 1 * z ≤ k * z := Int.mul_le_mul_of_nonneg_right (by omega) h0
        omega
    subst hk; omega
  · have : z = 0 := by omega
    subst this; omega
/-- the same numbers and one within the other: the same form -/
theorem Canon.same {F G : Fm} (C : Canon F) (D : Canon G) (h : ∀ g, mem F g → mem G g) (ha : F.e.1 = G.e.1) (hd : F.n.2.1 = G.n.2.1) (hz : F.z = G.z) : F = G := by
  have hN : F.n = G.n := by
    by_cases h0 : F.n.2.1 = 0
    · rw [C.nN h0, D.nN (by rw [← hd]; exact h0)]
    · have m := h _ (mem_n C)
      have e : F.n = (0, F.n.2.1, F.n.2.2) := t3_ext C.nx rfl rfl
      rw [e] at m
      obtain ⟨n, k, h1, h2⟩ := mem_x0 D m
      rw [← hd] at h1
      have n1 : n = 1 := by
        have : (n - 1) * F.n.2.1 = 0 := by grind
        rcases Int.mul_eq_zero.1 this with q | q
        · omega
        · exact absurd q h0
      subst n1
      refine t3_ext (by rw [C.nx, D.nx]) hd ?_
      exact eq_of_mod (z := G.z) (k := k) (by simpa using h2) D.z0 (by rw [← hz]; exact C.ns) D.ns
  have hE : F.e = G.e := by
    by_cases h0 : F.e.1 = 0
    · rw [C.eN h0, D.eN (by rw [← ha]; exact h0)]
    · obtain ⟨m, n, k, h1, h2, h3⟩ := (mem_iff D).1 (h _ (mem_e C))
      have m1 : m = 1 := by
        have : (m - 1) * F.e.1 = 0 := by grind
        rcases Int.mul_eq_zero.1 this with q | q
        · omega
        · exact absurd q h0
      subst m1
      have key : n * G.n.2.1 = 0 ∧ n * G.n.2.2 = 0 := by
        by_cases hd0 : G.n.2.1 = 0
        · have e := D.nN hd0
          rw [e]; simp
        · have hd1 : 0 < G.n.2.1 := by have := D.n0; omega
          have b1 := C.eb (by rw [hd]; exact hd1)
          have b2 := D.eb hd1
          have : F.e.2.1 = G.e.2.1 := eq_of_mod (z := G.n.2.1) (k := n) (by rw [h2]; simp) D.n0 (by intro _; rw [← hd]; exact b1) (fun _ => b2)
          have n0 : n * G.n.2.1 = 0 := by rw [this] at h2; omega
          rcases Int.mul_eq_zero.1 n0 with q | q
          · subst q; simp
          · exact absurd q hd0
      obtain ⟨k1, k2⟩ := key
      refine t3_ext ha (by rw [h2, k1]; simp) ?_
      refine eq_of_mod (z := G.z) (k := k) ?_ D.z0 (by rw [← hz]; exact C.es) D.es
      rw [h3, tri_one, k1, k2]; simp
  cases F; cases G
  simp at hN hE hz
  simp [hN, hE, hz]
theorem dvd_both {a b : Int} (ha : 0 ≤ a) (hb : 0 ≤ b) (h1 : ∃ k, a = k * b) (h2 : ∃ k, b = k * a) : a = b := by
  obtain ⟨k, h1⟩ := h1; obtain ⟨j, h2⟩ := h2
  exact Int.dvd_antisymm ha hb ⟨j, by rw [h2]; exact Int.mul_comm _ _⟩ ⟨k, by rw [h1]; exact Int.mul_comm _ _⟩
/-- one within the other: the numbers divide -/
theorem Canon.div {F G : Fm} (C : Canon F) (D : Canon G) (h : ∀ g, mem F g → mem G g) :
    (∃ k, F.e.1 = k * G.e.1) ∧ (∃ k, F.n.2.1 = k * G.n.2.1) ∧ ∃ k, F.z = k * G.z := by
  refine ⟨?_, ?_, ?_⟩
  · obtain ⟨m, n, k, h1, _⟩ := (mem_iff D).1 (h _ (mem_e C))
    exact ⟨m, h1⟩
  · have m := h _ (mem_n C)
    have e : F.n = (0, F.n.2.1, F.n.2.2) := t3_ext C.nx rfl rfl
    rw [e] at m
    obtain ⟨n, k, h1, _⟩ := mem_x0 D m
    exact ⟨n, h1⟩
  · have m := h _ (mem_z C 1)
    rw [Int.one_mul] at m
    exact mem_00 D m
theorem Canon.unique {F G : Fm} (C : Canon F) (D : Canon G) (h : ∀ g, mem F g ↔ mem G g) : F = G := by
  obtain ⟨a1, d1, z1⟩ := C.div D fun g => (h g).1
  obtain ⟨a2, d2, z2⟩ := D.div C fun g => (h g).2
  exact C.same D (fun g => (h g).1) (dvd_both C.e0 D.e0 a1 a2) (dvd_both C.n0 D.n0 d1 d2) (dvd_both C.z0 D.z0 z1 z2)
/-- the form is right for these moves -/
structure Right (M : List T3) (F : Fm) : Prop where
  c : Canon F
  g : ∀ g, mem F g ↔ Gen M g
theorem Right.unique {M : List T3} {F G : Fm} (a : Right M F) (b : Right M G) : F = G := a.c.unique b.c fun g => (a.g g).trans (b.g g).symm
theorem Right.within {M N : List T3} {F G : Fm} (a : Right M F) (b : Right N G) : (∀ m ∈ M, mem G m) ↔ ∀ g, mem F g → mem G g := by
  constructor
  · intro h g hg
    exact (a.g g).1 hg _ (mem_sub b.c) h
  · intro h m hm
    exact h m ((a.g m).2 (Gen.of hm))
theorem Right.of_parts {M : List T3} {F : Fm} (C : Canon F) (h : ∀ S, Sub S → ((S F.e ∧ S F.n ∧ S (0, 0, F.z)) ↔ ∀ m ∈ M, S m)) : Right M F := by
  refine ⟨C, fun g => ⟨fun hg S hS hM => ?_, fun hg => ?_⟩⟩
  · obtain ⟨h1, h2, h3⟩ := (h S hS).2 hM
    exact mem_in hS h1 h2 h3 hg
  · refine hg _ (mem_sub C) ((h _ (mem_sub C)).1 ⟨mem_e C, mem_n C, ?_⟩)
    have := mem_z C 1
    rwa [Int.one_mul] at this
/-- the number of cosets -/
def cosets (F : Fm) : Option Int := if F.e.1 = 0 ∨ F.n.2.1 = 0 then none else some (F.e.1 * F.n.2.1 * F.z)
theorem Canon.full {F : Fm} (C : Canon F) (h1 : F.e.1 ≠ 0) (h2 : F.n.2.1 ≠ 0) : 0 < F.e.1 ∧ 0 < F.n.2.1 ∧ 0 < F.z := by
  have a := C.e0; have b := C.n0; have c := C.z0
  refine ⟨by omega, by omega, ?_⟩
  obtain ⟨k, hk⟩ := C.dv
  rcases Int.lt_or_eq_of_le c with q | q
  · exact q
  · rw [← q, Int.mul_zero] at hk
    rcases Int.mul_eq_zero.1 hk with r | r
    · exact absurd r h1
    · exact absurd r h2
theorem Canon.zle {F : Fm} (C : Canon F) (h1 : F.e.1 ≠ 0) (h2 : F.n.2.1 ≠ 0) : F.z ≤ F.e.1 * F.n.2.1 := by
  obtain ⟨a, b, c⟩ := C.full h1 h2
  obtain ⟨k, hk⟩ := C.dv
  have h : 0 < k * F.z := by rw [← hk]; exact Int.mul_pos a b
  have hk0 : 0 < k := by
    rcases Int.lt_or_le 0 k with q | q
    · exact q
    · have := Int.mul_nonpos_of_nonpos_of_nonneg q (Int.le_of_lt c)
      omega
  rw [hk]
  have : 1 * F.z ≤ k * F.z := Int.mul_le_mul_of_nonneg_right (by omega) (by omega)
  omega
theorem mul_one_of {k a : Int} (ha : 0 < a) (h : k * a = a) : k = 1 := by
  have : (k - 1) * a = 0 := by grind
  rcases Int.mul_eq_zero.1 this with q | q
  · omega
  · omega
/-- cosets of a lot within another one -/
theorem lagrange {M N : List T3} {F G : Fm} (a : Right M F) (b : Right N G) (h : ∀ m ∈ M, mem G m) {c : Int} (hc : cosets F = some c) :
    ∃ d, cosets G = some d ∧ 0 < d ∧ c % d = 0 ∧ (c = d ↔ ∀ m ∈ N, mem F m) := by
  have hsub := (a.within b).1 h
  obtain ⟨⟨i, hi⟩, ⟨j, hj⟩, ⟨k, hk⟩⟩ := a.c.div b.c hsub
  unfold cosets at hc
  split at hc
  · cases hc
  · rename_i hne
    have h1 : F.e.1 ≠ 0 := fun q => hne (.inl q)
    have h2 : F.n.2.1 ≠ 0 := fun q => hne (.inr q)
    have ec : F.e.1 * F.n.2.1 * F.z = c := Option.some.inj hc
    obtain ⟨p1, p2, p3⟩ := a.c.full h1 h2
    have g1 : G.e.1 ≠ 0 := fun q => by rw [q, Int.mul_zero] at hi; exact h1 hi
    have g2 : G.n.2.1 ≠ 0 := fun q => by rw [q, Int.mul_zero] at hj; exact h2 hj
    obtain ⟨q1, q2, q3⟩ := b.c.full g1 g2
    have i0 : 0 < i := by
      rcases Int.lt_or_le 0 i with q | q
      · exact q
      · have := Int.mul_nonpos_of_nonpos_of_nonneg q (Int.le_of_lt q1); omega
    have j0 : 0 < j := by
      rcases Int.lt_or_le 0 j with q | q
      · exact q
      · have := Int.mul_nonpos_of_nonpos_of_nonneg q (Int.le_of_lt q2); omega
    have k0 : 0 < k := by
      rcases Int.lt_or_le 0 k with q | q
      · exact q
      · have := Int.mul_nonpos_of_nonpos_of_nonneg q (Int.le_of_lt q3); omega
    have dpos : 0 < G.e.1 * G.n.2.1 * G.z := Int.mul_pos (Int.mul_pos q1 q2) q3
    have eprod : c = (i * j * k) * (G.e.1 * G.n.2.1 * G.z) := by rw [← ec, hi, hj, hk]; grind
    refine ⟨G.e.1 * G.n.2.1 * G.z, by unfold cosets; rw [if_neg (by rintro (q | q); exact g1 q; exact g2 q)], dpos, ?_, ?_⟩
    · rw [eprod]; exact Int.mul_emod_left _ _
    · constructor
      · intro e
        have e1 : i * j * k = 1 := mul_one_of dpos (by rw [← eprod]; exact e)
        have hij : 0 < i * j := Int.mul_pos i0 j0
        have k1 : k = 1 := by
          have := Int.le_of_dvd (by decide) (show k ∣ 1 from ⟨i * j, by rw [← e1]; grind⟩)
          omega
        have ij1 : i * j = 1 := by rw [k1] at e1; omega
        have i1 : i = 1 := by
          have := Int.le_of_dvd (by decide) (show i ∣ 1 from ⟨j, by rw [← ij1]⟩)
          omega
        have j1 : j = 1 := by rw [i1] at ij1; omega
        have : F = G := a.c.same b.c hsub (by rw [hi, i1]; omega) (by rw [hj, j1]; omega) (by rw [hk, k1]; omega)
        intro m hm
        rw [this]
        exact (b.g m).2 (Gen.of hm)
      · intro hN
        have : F = G := a.c.unique b.c fun g => ⟨hsub g, (b.within a).1 hN g⟩
        rw [← ec, this]
end K67

namespace K67
/-! ### what is left of a move when a form is taken off -/
def restF (F : Fm) (g : T3) : T3 :=
  let g1 := if F.e.1 = 0 then g else put (pw F.e (0 - g.1 / F.e.1)) g
  let g2 := if F.n.2.1 = 0 then g1 else put (pw F.n (0 - g1.2.1 / F.n.2.1)) g1
  if F.z = 0 then g2 else (g2.1, g2.2.1, g2.2.2 % F.z)
structure Red (F : Fm) (r : T3) : Prop where
  x : 0 < F.e.1 → 0 ≤ r.1 ∧ r.1 < F.e.1
  y : 0 < F.n.2.1 → 0 ≤ r.2.1 ∧ r.2.1 < F.n.2.1
  s : 0 < F.z → 0 ≤ r.2.2 ∧ r.2.2 < F.z
theorem emod_rng {x a : Int} (h : 0 < a) : 0 ≤ x + (0 - x / a) * a ∧ x + (0 - x / a) * a < a := by
  have e : x + (0 - x / a) * a = x % a := by
    rw [Int.emod_def]; grind
  rw [e]
  exact ⟨Int.emod_nonneg _ (by omega), Int.emod_lt_of_pos _ h⟩
theorem rest_spec {F : Fm} (C : Canon F) (g : T3) : (∃ h, mem F h ∧ restF F g = put h g) ∧ Red F (restF F g) := by
  have S := mem_sub C
  -- east
  have s1 : ∃ h, mem F h ∧ (if F.e.1 = 0 then g else put (pw F.e (0 - g.1 / F.e.1)) g) = put h g := by
    split
    · exact ⟨_, S.one, (one_put g).symm⟩
    · exact ⟨_, S.pow (mem_e C) _, rfl⟩
  have r1 : 0 < F.e.1 → 0 ≤ (if F.e.1 = 0 then g else put (pw F.e (0 - g.1 / F.e.1)) g).1 ∧ (if F.e.1 = 0 then g else put (pw F.e (0 - g.1 / F.e.1)) g).1 < F.e.1 := by
    intro h
    rw [if_neg (by omega)]
    simp only [put, pw]
    have := emod_rng (x := g.1) h
    omega
  unfold restF
  generalize (if F.e.1 = 0 then g else put (pw F.e (0 - g.1 / F.e.1)) g) = g1 at s1 r1 ⊢
  obtain ⟨h1, m1, e1⟩ := s1
  -- north
  have s2 : ∃ h, mem F h ∧ (if F.n.2.1 = 0 then g1 else put (pw F.n (0 - g1.2.1 / F.n.2.1)) g1) = put h g1 := by
    split
    · exact ⟨_, S.one, (one_put g1).symm⟩
    · exact ⟨_, S.pow (mem_n C) _, rfl⟩
  have r2 : (0 < F.n.2.1 → 0 ≤ (if F.n.2.1 = 0 then g1 else put (pw F.n (0 - g1.2.1 / F.n.2.1)) g1).2.1 ∧ (if F.n.2.1 = 0 then g1 else put (pw F.n (0 - g1.2.1 / F.n.2.1)) g1).2.1 < F.n.2.1) ∧
      (if F.n.2.1 = 0 then g1 else put (pw F.n (0 - g1.2.1 / F.n.2.1)) g1).1 = g1.1 := by
    constructor
    · intro h
      rw [if_neg (by omega)]
      simp only [put, pw]
      have := emod_rng (x := g1.2.1) h
      omega
    · split
      · rfl
      · simp [put, pw, C.nx]
  show (∃ h, mem F h ∧ (if F.z = 0 then _ else _) = put h g) ∧ Red F (if F.z = 0 then _ else _)
  generalize (if F.n.2.1 = 0 then g1 else put (pw F.n (0 - g1.2.1 / F.n.2.1)) g1) = g2 at s2 r2 ⊢
  obtain ⟨h2, m2, e2⟩ := s2
  obtain ⟨r2, r2x⟩ := r2
  subst e1; subst e2
  by_cases hz : F.z = 0
  · rw [if_pos hz]
    refine ⟨⟨put h2 h1, S.mul m2 m1, (put_assoc _ _ _).symm⟩, fun h => by rw [r2x]; exact r1 h, r2, fun h => by omega⟩
  · rw [if_neg hz]
    refine ⟨⟨put (0, 0, (0 - (put h2 (put h1 g)).2.2 / F.z) * F.z) (put h2 h1), S.mul (mem_z C _) (S.mul m2 m1), ?_⟩, fun h => by
      show 0 ≤ (put h2 (put h1 g)).1 ∧ (put h2 (put h1 g)).1 < F.e.1
      rw [r2x]; exact r1 h, r2, fun h => ⟨Int.emod_nonneg _ (by omega), Int.emod_lt_of_pos _ h⟩⟩
    rw [put_assoc, put_assoc]
    generalize put h2 (put h1 g) = w
    apply t3_ext <;> simp only [put]
    · omega
    · omega
    · rw [Int.emod_def]; grind
theorem rest_zero {F : Fm} (C : Canon F) (g : T3) : restF F g = (0, 0, 0) ↔ mem F g := by
  have S := mem_sub C
  obtain ⟨⟨h, mh, e⟩, R⟩ := rest_spec C g
  constructor
  · intro h0
    rw [h0] at e
    have : put (off h) (0, 0, 0) = g := by rw [e, ← put_assoc, off_put, one_put]
    rw [← this, put_one]; exact S.inv mh
  · intro hg
    have hr : mem F (restF F g) := by rw [e]; exact S.mul mh hg
    generalize restF F g = r at hr R
    obtain ⟨x, y, s⟩ := r
    have ax := C.e0; have ay := C.n0; have az := C.z0
    have hx : x = 0 := by
      obtain ⟨m, n, k, h1, _⟩ := (mem_iff C).1 hr
      exact eq_of_mod (t := 0) (z := F.e.1) (k := m) (by simpa using h1) ax R.x (fun q => ⟨by omega, q⟩)
    subst hx
    have hy : y = 0 := by
      obtain ⟨n, k, h1, _⟩ := mem_x0 C hr
      exact eq_of_mod (t := 0) (z := F.n.2.1) (k := n) (by simpa using h1) ay R.y (fun q => ⟨by omega, q⟩)
    subst hy
    have hs : s = 0 := by
      obtain ⟨k, h1⟩ := mem_00 C hr
      exact eq_of_mod (t := 0) (z := F.z) (k := k) (by simpa using h1) az R.s (fun q => ⟨by omega, q⟩)
    rw [hs]
theorem red_unique {F : Fm} (C : Canon F) (fx : 0 < F.e.1) (fy : 0 < F.n.2.1) (fz : 0 < F.z) {r r' h : T3} (R : Red F r) (R' : Red F r') (hh : mem F h) (e : r' = put h r) : r = r' := by
  obtain ⟨m, n, k, h1, h2, h3⟩ := (mem_iff C).1 hh
  obtain ⟨x, y, s⟩ := r
  obtain ⟨x', y', s'⟩ := r'
  simp only [put, Prod.mk.injEq] at e
  obtain ⟨e1, e2, e3⟩ := e
  have hx : x' = x := eq_of_mod (z := F.e.1) (k := m) (by rw [e1, h1]; omega) C.e0 R'.x R.x
  have m0 : m = 0 := by
    have : m * F.e.1 = 0 := by omega
    rcases Int.mul_eq_zero.1 this with q | q
    · exact q
    · omega
  subst m0
  have hy : y' = y := eq_of_mod (z := F.n.2.1) (k := n) (by rw [e2, h2]; omega) C.n0 R'.y R.y
  have n0 : n = 0 := by
    have : n * F.n.2.1 = 0 := by omega
    rcases Int.mul_eq_zero.1 this with q | q
    · exact q
    · omega
  subst n0
  have hs : s' = s := eq_of_mod (z := F.z) (k := k) (by rw [e3, h3, h1]; simp [tri_zero]; omega) C.z0 R'.s R.s
  rw [hx, hy, hs]
theorem rest_put {F : Fm} (C : Canon F) (fx : 0 < F.e.1) (fy : 0 < F.n.2.1) (fz : 0 < F.z) (g s : T3) : restF F (put (restF F g) s) = restF F (put g s) := by
  have S := mem_sub C
  obtain ⟨⟨h1, m1, e1⟩, R1⟩ := rest_spec C g
  obtain ⟨⟨h2, m2, e2⟩, R2⟩ := rest_spec C (put (restF F g) s)
  obtain ⟨⟨h3, m3, e3⟩, R3⟩ := rest_spec C (put g s)
  refine (red_unique C fx fy fz R3 R2 (h := put (put h2 h1) (off h3)) (S.mul (S.mul m2 m1) (S.inv m3)) ?_).symm
  rw [e2, e3, e1, put_assoc (put h2 h1), ← put_assoc (off h3), off_put, one_put, put_assoc, put_assoc]
theorem rest_red {F : Fm} (C : Canon F) (fx : 0 < F.e.1) (fy : 0 < F.n.2.1) (fz : 0 < F.z) {r : T3} (R : Red F r) : restF F r = r := by
  obtain ⟨⟨h, m, e⟩, R1⟩ := rest_spec C r
  exact (red_unique C fx fy fz R R1 m e).symm

/-! ### going on in four ways -/
def steps4 : List T3 := [(1, 0, 0), (0, 1, 0), (-1, 0, 0), (0, -1, 0)]
def visit (st : List T3 × List T3) (t : T3) : List T3 × List T3 := if t ∉ st.2 ∧ st.2.length < 41 then (st.1 ++ [t], st.2 ++ [t]) else st
def around (F : Fm) (st : List T3 × List T3) (h : T3) : List T3 × List T3 := steps4.foldl (fun st s => visit st (restF F (put h s))) st
def layer (F : Fm) (edge found : List T3) : List T3 × List T3 := edge.foldl (around F) ([], found)
def bfs (F : Fm) : Nat → List T3 → List T3 → List T3
  | 0, _, found => found
  | n + 1, edge, found => if (layer F edge found).1 = [] then (layer F edge found).2 else bfs F n (layer F edge found).1 (layer F edge found).2
def met (F : Fm) : Nat := (bfs F 200 [(0, 0, 0)] [(0, 0, 0)]).length

theorem reach {P : T3 → Prop} (h0 : P (0, 0, 0)) (hs : ∀ g, ∀ s ∈ steps4, P g → P (put g s)) : ∀ g, P g := by
  have e : ∀ x y s, P (x, y, s) → P (x + 1, y, s) := fun x y s h => by
    have := hs _ (1, 0, 0) (by simp [steps4]) h
    simpa [put] using this
  have w : ∀ x y s, P (x, y, s) → P (x - 1, y, s) := fun x y s h => by
    have := hs _ (-1, 0, 0) (by simp [steps4]) h
    simpa [put, Int.sub_eq_add_neg] using this
  have n : ∀ x y s, P (x, y, s) → P (x, y + 1, s + x) := fun x y s h => by
    have := hs _ (0, 1, 0) (by simp [steps4]) h
    simpa [put] using this
  have so : ∀ x y s, P (x, y, s) → P (x, y - 1, s - x) := fun x y s h => by
    have := hs _ (0, -1, 0) (by simp [steps4]) h
    simpa [put, Int.sub_eq_add_neg] using this
  have up : ∀ x y s, P (x, y, s) → P (x, y, s + 1) := fun x y s h => by
    have := so _ _ _ (w _ _ _ (n _ _ _ (e _ _ _ h)))
    have e1 : x + 1 - 1 = x := by omega
    have e2 : y + 1 - 1 = y := by omega
    have e3 : s + (x + 1) - x = s + 1 := by omega
    rw [e1, e2, e3] at this; exact this
  have dn : ∀ x y s, P (x, y, s) → P (x, y, s - 1) := fun x y s h => by
    have := w _ _ _ (so _ _ _ (e _ _ _ (n _ _ _ h)))
    have e1 : x + 1 - 1 = x := by omega
    have e2 : y + 1 - 1 = y := by omega
    have e3 : s + x - (x + 1) = s - 1 := by omega
    rw [e1, e2, e3] at this; exact this
  have ind : ∀ (Q : Int → Prop), Q 0 → (∀ i, Q i → Q (i + 1)) → (∀ i, Q i → Q (i - 1)) → ∀ i, Q i := by
    intro Q q0 qs qp i
    rcases Int.eq_nat_or_neg i with ⟨k, h | h⟩ <;> subst h
    · induction k with
      | zero => exact q0
      | succ k ih => exact qs _ ih
    · induction k with
      | zero => exact q0
      | succ k ih =>
        have := qp _ ih
        have e : -(k : Int) - 1 = -((k + 1 : Nat) : Int) := by omega
        rw [e] at this; exact this
  rintro ⟨x, y, s⟩
  have hy : P (0, y, 0) := ind (fun y => P (0, y, 0)) h0 (fun i h => by simpa using n _ _ _ h) (fun i h => by simpa using so _ _ _ h) y
  have hx : P (x, y, 0) := ind (fun x => P (x, y, 0)) hy (fun i h => e _ _ _ h) (fun i h => w _ _ _ h) x
  exact ind (fun s => P (x, y, s)) hx (fun i h => up _ _ _ h) (fun i h => dn _ _ _ h) s

theorem nodup_le {α : Type} [DecidableEq α] : ∀ (l m : List α), l.Nodup → (∀ r ∈ l, r ∈ m) → l.length ≤ m.length := by
  intro l
  induction l with
  | nil => intro m _ _; exact Nat.zero_le _
  | cons x l ih =>
    intro m hn hm
    have hx : x ∈ m := hm x (by simp)
    have := ih (m.erase x) (List.nodup_cons.1 hn).2 (fun r hr => by
      have : r ≠ x := by rintro rfl; exact (List.nodup_cons.1 hn).1 hr
      exact (List.mem_erase_of_ne this).2 (hm r (by simp [hr])))
    rw [List.length_erase_of_mem hx] at this
    have : 0 < m.length := List.length_pos_of_mem hx
    simp; omega

structure Seen (F : Fm) (st : List T3 × List T3) (found : List T3) : Prop where
  nd : st.2.Nodup
  red : ∀ r ∈ st.2, Red F r
  len : st.2.length ≤ 41
  sub : ∀ r ∈ found, r ∈ st.2
  new : ∀ r ∈ st.2, r ∈ found ∨ r ∈ st.1
  cnt : st.2.length = found.length + st.1.length
theorem Seen.visit {F : Fm} {st : List T3 × List T3} {found : List T3} (h : Seen F st found) {t : T3} (ht : Red F t) : Seen F (visit st t) found ∧ (∀ r ∈ st.2, r ∈ (K67.visit st t).2) ∧ (t ∈ (K67.visit st t).2 ∨ (K67.visit st t).2.length = 41) := by
  unfold K67.visit
  split
  · rename_i hc
    obtain ⟨hn, hl⟩ := hc
    refine ⟨⟨?_, ?_, ?_, ?_, ?_, ?_⟩, ?_, .inl (by simp)⟩
    · show (st.2 ++ [t]).Nodup
      rw [List.nodup_append]
      exact ⟨h.nd, by simp, by intro a ha b hb; simp at hb; subst hb; rintro rfl; exact hn ha⟩
    · intro r hr
      simp at hr
      rcases hr with hr | rfl
      · exact h.red r hr
      · exact ht
    · simp; omega
    · intro r hr; simp; exact .inl (h.sub r hr)
    · intro r hr
      simp at hr ⊢
      rcases hr with hr | rfl
      · rcases h.new r hr with q | q
        · exact .inl q
        · exact .inr (.inl q)
      · exact .inr (.inr rfl)
    · have := h.cnt; simp; omega
    · intro r hr; simp; exact .inl hr
  · rename_i hc
    refine ⟨h, fun _ hr => hr, ?_⟩
    by_cases q : t ∈ st.2
    · exact .inl q
    · right
      have hl : ¬ st.2.length < 41 := fun z => hc ⟨q, z⟩
      have := h.len
      omega
theorem Seen.visits {F : Fm} {found : List T3} (f : T3 → T3) (hf : ∀ s, Red F (f s)) : ∀ (L : List T3) (st : List T3 × List T3), Seen F st found →
    Seen F (L.foldl (fun st s => K67.visit st (f s)) st) found ∧ (∀ r ∈ st.2, r ∈ (L.foldl (fun st s => K67.visit st (f s)) st).2) ∧ ((L.foldl (fun st s => K67.visit st (f s)) st).2.length = 41 ∨ ∀ s ∈ L, f s ∈ (L.foldl (fun st s => K67.visit st (f s)) st).2)
  | [], st, h => ⟨h, fun _ hr => hr, .inr (by simp)⟩
  | s :: L, st, h => by
    obtain ⟨h1, k1, v1⟩ := h.visit (hf s)
    obtain ⟨h2, k2, v2⟩ := Seen.visits f hf L _ h1
    refine ⟨h2, fun r hr => k2 r (k1 r hr), ?_⟩
    rcases v2 with v2 | v2
    · exact .inl v2
    · rcases v1 with v1 | v1
      · right
        intro s' hs'
        rcases List.mem_cons.1 hs' with rfl | q
        · exact k2 _ v1
        · exact v2 _ q
      · left
        have hm := nodup_le _ _ h1.nd k2
        have := h2.len
        show (L.foldl (fun st s => K67.visit st (f s)) (K67.visit st (f s))).2.length = 41
        omega
theorem Seen.layer {F : Fm} (C : Canon F) {found : List T3} : ∀ (edge : List T3) (st : List T3 × List T3), Seen F st found →
    Seen F (edge.foldl (around F) st) found ∧ (∀ r ∈ st.2, r ∈ (edge.foldl (around F) st).2) ∧ ((edge.foldl (around F) st).2.length = 41 ∨ ∀ h ∈ edge, ∀ s ∈ steps4, restF F (put h s) ∈ (edge.foldl (around F) st).2)
  | [], st, h => ⟨h, fun _ hr => hr, .inr (by simp)⟩
  | g :: edge, st, h => by
    obtain ⟨h1, k1, v1⟩ := Seen.visits (fun s => restF F (put g s)) (fun s => (rest_spec C _).2) steps4 st h
    obtain ⟨h2, k2, v2⟩ := Seen.layer C edge (around F st g) h1
    refine ⟨h2, fun r hr => k2 r (k1 r hr), ?_⟩
    rcases v2 with v2 | v2
    · exact .inl v2
    · rcases v1 with v1 | v1
      · left
        have e1 : (around F st g).2.length = 41 := v1
        have hl := h2.len
        have a := h1.cnt; have b := h2.cnt
        have key := nodup_le _ _ h1.nd k2
        show (edge.foldl (around F) (around F st g)).2.length = 41
        omega
      · right
        intro h' hh' s hs
        rcases List.mem_cons.1 hh' with rfl | q
        · exact k2 _ (v1 s hs)
        · exact v2 _ q s hs
/-- what stands between two turns -/
structure Bfs (F : Fm) (edge found : List T3) : Prop where
  nd : found.Nodup
  red : ∀ r ∈ found, Red F r
  len : found.length ≤ 41
  zero : (0, 0, 0) ∈ found
  pos : 0 < found.length
  cl : found.length = 41 ∨ ∀ r ∈ found, r ∈ edge ∨ ∀ s ∈ steps4, restF F (put r s) ∈ found
  elen : edge.length ≤ 41
theorem Bfs.turn {F : Fm} (C : Canon F) {edge found : List T3} (h : Bfs F edge found) : Bfs F (layer F edge found).1 (layer F edge found).2 ∧ (layer F edge found).2.length = found.length + (layer F edge found).1.length := by
  have s0 : Seen F ([], found) found := ⟨h.nd, h.red, h.len, fun _ hr => hr, fun _ hr => .inl hr, by simp⟩
  obtain ⟨h1, k1, v1⟩ := Seen.layer C edge _ s0
  have e : edge.foldl (around F) ([], found) = layer F edge found := rfl
  rw [e] at h1 k1 v1
  have c1 := h1.cnt
  refine ⟨⟨h1.nd, h1.red, h1.len, h1.sub _ h.zero, by have := h.pos; omega, ?_, by have := h1.len; have := h1.cnt; omega⟩, h1.cnt⟩
  by_cases q : (layer F edge found).2.length = 41
  · exact .inl q
  · right
    rcases v1 with v1 | v1
    · exact absurd v1 q
    · intro r hr
      rcases h1.new r hr with z | z
      · right
        rcases h.cl with c | c
        · exfalso
          have := h1.len
          omega
        · intro s hs
          rcases c r z with d | d
          · exact v1 r d s hs
          · exact h1.sub _ (d s hs)
      · exact .inl z
theorem Bfs.run {F : Fm} (C : Canon F) : ∀ (n : Nat) {edge found : List T3}, Bfs F edge found → 42 ≤ found.length + n → Bfs F [] (bfs F n edge found)
  | 0, edge, found, h, hn => by have := h.len; omega
  | n + 1, edge, found, h, hn => by
    obtain ⟨t, c⟩ := h.turn C
    unfold bfs
    split
    · rename_i e; rw [e] at t; exact t
    · rename_i e
      refine Bfs.run C n t ?_
      have : 0 < (layer F edge found).1.length := List.length_pos_iff.2 e
      omega
theorem Bfs.first {F : Fm} (C : Canon F) (fx : 0 < F.e.1) (fy : 0 < F.n.2.1) (fz : 0 < F.z) : Bfs F [(0, 0, 0)] [(0, 0, 0)] :=
  ⟨by simp, by intro r hr; simp at hr; subst hr; exact ⟨fun h => ⟨by simp, h⟩, fun h => ⟨by simp, h⟩, fun h => ⟨by simp, h⟩⟩, by simp, by simp, by simp, .inr (by intro r hr; exact .inl hr), by simp⟩
def code (F : Fm) (r : T3) : Nat := ((r.1 * F.n.2.1 + r.2.1) * F.z + r.2.2).toNat
theorem code_lt {a x d y : Int} (hx : 0 ≤ x ∧ x < a) (hy : 0 ≤ y ∧ y < d) : 0 ≤ x * d + y ∧ x * d + y < a * d := by
  have h1 : (x + 1) * d ≤ a * d := Int.mul_le_mul_of_nonneg_right (by omega) (by omega)
  have h2 : 0 ≤ x * d := Int.mul_nonneg hx.1 (by omega)
  have h3 : (x + 1) * d = x * d + d := by grind
  omega
theorem code_inj {x x' d y y' : Int} (hy : 0 ≤ y ∧ y < d) (hy' : 0 ≤ y' ∧ y' < d) (e : x * d + y = x' * d + y') : x = x' ∧ y = y' := by
  have : y = y' := eq_of_mod (z := d) (k := x' - x) (by grind) (by omega) (fun _ => hy) (fun _ => hy')
  refine ⟨?_, this⟩
  have h : (x - x') * d = 0 := by grind
  rcases Int.mul_eq_zero.1 h with q | q
  · omega
  · omega
theorem met_count {F : Fm} (C : Canon F) (fx : 0 < F.e.1) (fy : 0 < F.n.2.1) (fz : 0 < F.z) :
    (40 < F.e.1 * F.n.2.1 * F.z → met F = 41) ∧ (F.e.1 * F.n.2.1 * F.z ≤ 40 → (met F : Int) = F.e.1 * F.n.2.1 * F.z) := by
  have B := Bfs.run C 200 (Bfs.first C fx fy fz) (by simp)
  have em : met F = (bfs F 200 [(0, 0, 0)] [(0, 0, 0)]).length := rfl
  generalize bfs F 200 [(0, 0, 0)] [(0, 0, 0)] = R at B em
  have cpos : 0 < F.e.1 * F.n.2.1 * F.z := Int.mul_pos (Int.mul_pos fx fy) fz
  generalize hc : F.e.1 * F.n.2.1 * F.z = c at *
  -- no more than c
  have le : (R.length : Int) ≤ c := by
    have h1 : (R.map (code F)).length ≤ (List.range c.toNat).length := by
      refine nodup_le _ _ ?_ ?_
      · refine List.Pairwise.map _ (S := fun a b => a ≠ b) (R := fun a b => a ≠ b ∧ Red F a ∧ Red F b) ?_ ?_
        · rintro ⟨x, y, s⟩ ⟨x', y', s'⟩ ⟨hne, r, r'⟩ e
          apply hne
          have a1 := code_lt (r.x fx) (r.y fy); have a2 := code_lt a1 (r.s fz)
          have b1 := code_lt (r'.x fx) (r'.y fy); have b2 := code_lt b1 (r'.s fz)
          simp only [code] at e a1 a2 b1 b2
          have e' : (x * F.n.2.1 + y) * F.z + s = (x' * F.n.2.1 + y') * F.z + s' := by omega
          obtain ⟨p, q⟩ := code_inj (r.s fz) (r'.s fz) e'
          obtain ⟨p1, p2⟩ := code_inj (r.y fy) (r'.y fy) p
          simp only at q p1 p2
          rw [p1, p2, q]
        · have hnd := B.nd
          have hred := B.red
          clear em B
          induction R with
          | nil => exact .nil
          | cons a l ih =>
            refine List.pairwise_cons.2 ⟨fun b hb => ⟨?_, hred a (by simp), hred b (by simp [hb])⟩, ih (List.nodup_cons.1 hnd).2 fun r hr => hred r (by simp [hr])⟩
            rintro rfl
            exact (List.nodup_cons.1 hnd).1 hb
      · intro k hk
        obtain ⟨r, hr, rfl⟩ := List.mem_map.1 hk
        have q := B.red r hr
        have a1 := code_lt (q.x fx) (q.y fy); have a2 := code_lt a1 (q.s fz)
        rw [List.mem_range]
        simp only [code]
        omega
    rw [List.length_map, List.length_range] at h1
    omega
  by_cases h41 : R.length = 41
  · constructor
    · intro _; rw [em, h41]
    · intro h; omega
  · have cl : ∀ r ∈ R, ∀ s ∈ steps4, restF F (put r s) ∈ R := by
      rcases B.cl with q | q
      · exact absurd q h41
      · intro r hr s hs
        rcases q r hr with z | z
        · cases z
        · exact z s hs
    have all : ∀ g, restF F g ∈ R := reach (P := fun g => restF F g ∈ R) (by
        show restF F (0, 0, 0) ∈ R
        rw [(rest_zero C _).2 (mem_sub C).one]; exact B.zero) (fun g s hs h => by
        show restF F (put g s) ∈ R
        rw [← rest_put C fx fy fz]
        exact cl _ h s hs)
    have ge : c ≤ R.length := by
      have h1 : (List.range c.toNat).length ≤ (R.map (code F)).length := by
        refine nodup_le _ _ List.nodup_range ?_
        intro k hk
        rw [List.mem_range] at hk
        have hkc : (k : Int) < c := by omega
        refine List.mem_map.2 ⟨((k : Int) / F.z / F.n.2.1, (k : Int) / F.z % F.n.2.1, (k : Int) % F.z), ?_, ?_⟩
        · have hr : Red F ((k : Int) / F.z / F.n.2.1, (k : Int) / F.z % F.n.2.1, (k : Int) % F.z) := by
            refine ⟨fun _ => ⟨?_, ?_⟩, fun _ => ⟨Int.emod_nonneg _ (by omega), Int.emod_lt_of_pos _ fy⟩, fun _ => ⟨Int.emod_nonneg _ (by omega), Int.emod_lt_of_pos _ fz⟩⟩
            · exact Int.ediv_nonneg (Int.ediv_nonneg (by omega) (by omega)) (by omega)
            · show (k : Int) / F.z / F.n.2.1 < F.e.1
              rw [Int.ediv_lt_iff_lt_mul fy, Int.ediv_lt_iff_lt_mul fz, hc]
              exact hkc
          rw [← rest_red C fx fy fz hr]
          exact all _
        · simp only [code]
          have e1 : (k : Int) / F.z / F.n.2.1 * F.n.2.1 + (k : Int) / F.z % F.n.2.1 = (k : Int) / F.z := by
            have := Int.emod_add_mul_ediv ((k : Int) / F.z) F.n.2.1
            rw [Int.mul_comm] at this; omega
          rw [e1]
          have e2 : (k : Int) / F.z * F.z + (k : Int) % F.z = k := by
            have := Int.emod_add_mul_ediv (k : Int) F.z
            rw [Int.mul_comm] at this; omega
          rw [e2]; rfl
      rw [List.length_map, List.length_range] at h1
      omega
    constructor
    · intro h; have := B.len; omega
    · intro h; omega
end K67

namespace K67
/-! ### gcd by so many turns -/
def fibp : Nat → Nat × Nat
  | 0 => (0, 1)
  | n + 1 => ((fibp n).2, (fibp n).1 + (fibp n).2)
def fib (n : Nat) : Nat := (fibp n).1
theorem fib_s (n : Nat) : fib (n + 2) = fib n + fib (n + 1) := rfl
theorem fib_901 : 2 ^ 500 < fib 901 := by decide +kernel
def shLoop : Nat → Int → Int → Int
  | 0, a, _ => a
  | n + 1, a, b => if b = 0 then a else shLoop n b (a % b)
theorem gcd_step {a b : Int} (ha : 0 ≤ a) (hb : 0 < b) : Int.gcd b (a % b) = Int.gcd a b := by
  obtain ⟨n, rfl⟩ := Int.eq_ofNat_of_zero_le ha
  obtain ⟨m, rfl⟩ := Int.eq_ofNat_of_zero_le (Int.le_of_lt hb)
  rw [← Int.natCast_emod]
  show Nat.gcd m (n % m) = Nat.gcd n m
  rw [Nat.gcd_comm m (n % m), ← Nat.gcd_rec, Nat.gcd_comm]
theorem fib_pos : ∀ n : Nat, 0 < fib (n + 1)
  | 0 => by decide
  | n + 1 => by
    have h1 := fib_pos n
    have h2 := fib_s n
    show 0 < fib (n + 2)
    rw [h2]; omega
theorem gcd_zero {a : Int} (ha : 0 ≤ a) : ((Int.gcd a 0 : Nat) : Int) = a := by
  rw [Int.gcd_zero_right]; omega
theorem sh_gcd : ∀ (n : Nat) {a b : Int}, 0 ≤ a → 0 ≤ b → b < fib (n + 1) → shLoop n a b = Int.gcd a b := by
  intro n
  induction n using Nat.strongRecOn with
  | _ n ih =>
    intro a b ha hb hlt
    by_cases h0 : b = 0
    · subst h0
      rw [gcd_zero ha]
      cases n <;> simp [shLoop]
    · have hb1 : 0 < b := by omega
      match n, ih, hlt with
      | 0, _, hlt => exact absurd hlt (by simp [fib, fibp]; omega)
      | n + 1, ih, hlt =>
        have e : shLoop (n + 1) a b = shLoop n b (a % b) := by simp [shLoop, h0]
        rw [e, ← gcd_step ha hb1]
        have r0 := Int.emod_nonneg a h0
        have r1 := Int.emod_lt_of_pos a hb1
        generalize a % b = r at *
        by_cases hr : r < fib (n + 1)
        · exact ih n (by omega) (by omega) r0 hr
        · match n, ih, hlt, hr with
          | 0, _, hlt, hr => exfalso; simp [fib, fibp] at hlt hr; omega
          | n + 1, ih, hlt, hr =>
            by_cases hr0 : r = 0
            · exfalso; apply hr; rw [hr0]; have := fib_pos (n + 1); exact Int.natCast_pos.2 this
            have hr1 : 0 < r := by omega
            have e2 : shLoop (n + 1) b r = shLoop n r (b % r) := by simp [shLoop, hr0]
            rw [e2, ← gcd_step (by omega) hr1]
            have s0 := Int.emod_nonneg b hr0
            have s1 := Int.emod_lt_of_pos b hr1
            have hq : 1 ≤ b / r := by
              rw [Int.le_ediv_iff_mul_le hr1]; omega
            have hd := Int.emod_add_mul_ediv b r
            have hm : r * 1 ≤ r * (b / r) := Int.mul_le_mul_of_nonneg_left hq (by omega)
            refine ih n (by omega) (by omega) s0 ?_
            have hf := fib_s (n + 1)
            have hf2 : fib (n + 1 + 1 + 1) = fib (n + 1) + fib (n + 1 + 1) := hf
            have : b % r + r ≤ b := by omega
            have hr' : (fib (n + 1 + 1) : Int) ≤ r := by omega
            omega
theorem sh_900 {a b : Int} (ha : 0 ≤ a) (hb : 0 ≤ b) (h : b.natAbs < 2 ^ 500) : shLoop 900 a b = Int.gcd a b := by
  refine sh_gcd 900 ha hb ?_
  have h2 := Nat.lt_trans h fib_901
  have h3 : ((b.natAbs : Nat) : Int) = b := Int.natAbs_of_nonneg hb
  rw [← h3]
  exact Int.ofNat_lt.2 h2

/-! ### one is taken off another one -/
def tk (sel : T3 → Int) (lead : Option T3) (h : T3) : Option T3 × Option T3 :=
  match lead with
  | none => (some h, none)
  | some l => if sel (put (pw l (0 - (sel h).fdiv (sel l))) h) = 0 then (some l, some (put (pw l (0 - (sel h).fdiv (sel l))) h)) else (some (put (pw l (0 - (sel h).fdiv (sel l))) h), some l)
def sx (t : T3) : Int := t.1
def sy (t : T3) : Int := t.2.1
structure SS where
  e : Option T3
  n : Option T3
  z : Int
  q : List T3
def turn (st : SS) : SS :=
  match st.q with
  | [] => st
  | h :: t =>
    if h.1 ≠ 0 then ⟨(tk sx st.e h).1, st.n, st.z, t ++ (tk sx st.e h).2.toList⟩
    else if h.2.1 ≠ 0 then ⟨st.e, (tk sy st.n h).1, st.z, t ++ (tk sy st.n h).2.toList⟩
    else ⟨st.e, st.n, Int.gcd st.z h.2.2, t⟩
def sift : Nat → SS → SS
  | 0, st => st
  | n + 1, st => if st.q = [] then st else sift n (turn st)
/-! what is made stays -/
structure Shp (st : SS) : Prop where
  e : ∀ x ∈ st.e, x.1 ≠ 0
  n : ∀ x ∈ st.n, x.1 = 0 ∧ x.2.1 ≠ 0
  z : 0 ≤ st.z
def Hold (S : T3 → Prop) (st : SS) : Prop := (∀ x ∈ st.e, S x) ∧ (∀ x ∈ st.n, S x) ∧ S (0, 0, st.z) ∧ ∀ h ∈ st.q, S h
theorem sub_gcd {S : T3 → Prop} (hS : Sub S) (a b : Int) : S (0, 0, (Int.gcd a b : Int)) ↔ S (0, 0, a) ∧ S (0, 0, b) := by
  constructor
  · intro h
    obtain ⟨k, hk⟩ := Int.gcd_dvd_left a b
    obtain ⟨j, hj⟩ := Int.gcd_dvd_right a b
    refine ⟨?_, ?_⟩
    · have := hS.cmul h k
      rw [Int.mul_comm, ← hk] at this; exact this
    · have := hS.cmul h j
      rw [Int.mul_comm, ← hj] at this; exact this
  · rintro ⟨h1, h2⟩
    -- by the euclidean steps on natural numbers
    have key : ∀ (n : Nat) (m : Nat), S (0, 0, (n : Int)) → S (0, 0, (m : Int)) → S (0, 0, (Nat.gcd n m : Int)) := by
      intro n
      induction n using Nat.strongRecOn with
      | _ n ih =>
        intro m hn hm
        by_cases h0 : n = 0
        · subst h0; rw [Nat.gcd_zero_left]; exact hm
        · rw [Nat.gcd_rec]
          refine ih (m % n) (Nat.mod_lt _ (by omega)) n ?_ hn
          have := hS.cadd hm (hS.cmul hn (-(m / n : Nat)))
          have e : (m : Int) + -((m / n : Nat) : Int) * (n : Int) = ((m % n : Nat) : Int) := by
            have h3 := Nat.mod_add_div m n
            have : ((m % n : Nat) : Int) + (n : Int) * ((m / n : Nat) : Int) = m := by exact_mod_cast h3
            grind
          rw [e] at this; exact this
    have ab : ∀ a : Int, S (0, 0, a) → S (0, 0, (a.natAbs : Int)) := fun a h => by
      rcases Int.natAbs_eq a with q | q
      · rw [← q]; exact h
      · have e : (a.natAbs : Int) = -1 * a := by omega
        rw [e]; exact hS.cmul h (-1)
    exact key _ _ (ab a h1) (ab b h2)
theorem tk_hold {S : T3 → Prop} (hS : Sub S) (sel : T3 → Int) (lead : Option T3) (h : T3) :
    ((∀ x ∈ (tk sel lead h).1, S x) ∧ (∀ x ∈ (tk sel lead h).2, S x)) ↔ (∀ x ∈ lead, S x) ∧ S h := by
  cases lead with
  | none => simp [tk]
  | some l =>
    have back : ∀ c, S l → S (put (pw l c) h) → S h := fun c h1 h2 => by
      have := hS.mul (hS.inv (hS.pow h1 c)) h2
      rw [← put_assoc, off_put, one_put] at this; exact this
    unfold tk
    simp only
    split
    · simp only [Option.mem_def, Option.some.injEq, forall_eq']
      exact ⟨fun ⟨a, b⟩ => ⟨a, back _ a b⟩, fun ⟨a, b⟩ => ⟨a, hS.mul (hS.pow a _) b⟩⟩
    · simp only [Option.mem_def, Option.some.injEq, forall_eq']
      exact ⟨fun ⟨a, b⟩ => ⟨b, back _ b a⟩, fun ⟨a, b⟩ => ⟨hS.mul (hS.pow a _) b, a⟩⟩
theorem turn_hold {S : T3 → Prop} (hS : Sub S) (st : SS) : Hold S (turn st) ↔ Hold S st := by
  obtain ⟨e, n, z, q⟩ := st
  cases q with
  | nil => exact Iff.rfl
  | cons h t =>
    unfold turn Hold
    simp only
    split
    · have := tk_hold hS sx e h
      simp only [List.mem_append, Option.mem_toList, List.mem_cons]
      constructor
      · rintro ⟨a, b, c, d⟩
        obtain ⟨p, q⟩ := this.1 ⟨a, fun x hx => d x (.inr hx)⟩
        exact ⟨p, b, c, by rintro x (rfl | hx); exact q; exact d x (.inl hx)⟩
      · rintro ⟨a, b, c, d⟩
        obtain ⟨p, q⟩ := this.2 ⟨a, d h (.inl rfl)⟩
        exact ⟨p, b, c, by rintro x (hx | hx); exact d x (.inr hx); exact q x hx⟩
    · split
      · have := tk_hold hS sy n h
        simp only [List.mem_append, Option.mem_toList, List.mem_cons]
        constructor
        · rintro ⟨a, b, c, d⟩
          obtain ⟨p, q⟩ := this.1 ⟨b, fun x hx => d x (.inr hx)⟩
          exact ⟨a, p, c, by rintro x (rfl | hx); exact q; exact d x (.inl hx)⟩
        · rintro ⟨a, b, c, d⟩
          obtain ⟨p, q⟩ := this.2 ⟨b, d h (.inl rfl)⟩
          exact ⟨a, p, c, by rintro x (hx | hx); exact d x (.inr hx); exact q x hx⟩
      · rename_i h1 h2
        have eh : h = (0, 0, h.2.2) := t3_ext (by simpa using h1) (by simpa using h2) rfl
        have := sub_gcd hS z h.2.2
        simp only [List.mem_cons]
        constructor
        · rintro ⟨a, b, c, d⟩
          obtain ⟨p, q⟩ := this.1 c
          exact ⟨a, b, p, by rintro x (rfl | hx); rw [eh]; exact q; exact d x hx⟩
        · rintro ⟨a, b, c, d⟩
          exact ⟨a, b, this.2 ⟨c, by rw [← eh]; exact d h (.inl rfl)⟩, fun x hx => d x (.inr hx)⟩
theorem turn_shp {st : SS} (h : Shp st) : Shp (turn st) := by
  obtain ⟨e, n, z, q⟩ := st
  cases q with
  | nil => exact h
  | cons g t =>
    unfold turn
    simp only
    split
    · rename_i h1
      refine ⟨?_, h.n, h.z⟩
      cases e with
      | none => simpa [tk] using h1
      | some l =>
        have := h.e l rfl
        simp only [tk]
        split
        · simpa using this
        · rename_i h3; simpa [sx] using h3
    · rename_i h1
      have h1' : g.1 = 0 := by simpa using h1
      split
      · rename_i h2
        refine ⟨h.e, ?_, h.z⟩
        cases n with
        | none => simpa [tk] using And.intro h1' h2
        | some l =>
          have := h.n l rfl
          simp only [tk]
          split
          · simpa using this
          · rename_i h3
            simp only [Option.mem_def, Option.some.injEq, forall_eq']
            exact ⟨by simp [put, pw, this.1, h1'], h3⟩
      · exact ⟨h.e, h.n, by simp⟩
theorem sift_hold {S : T3 → Prop} (hS : Sub S) : ∀ (n : Nat) (st : SS), Hold S (sift n st) ↔ Hold S st
  | 0, st => Iff.rfl
  | n + 1, st => by
    unfold sift
    split
    · exact Iff.rfl
    · exact (sift_hold hS n _).trans (turn_hold hS st)
theorem sift_shp : ∀ (n : Nat) {st : SS}, Shp st → Shp (sift n st)
  | 0, st, h => h
  | n + 1, st, h => by
    unfold sift
    split
    · exact h
    · exact sift_shp n (turn_shp h)

/-! ### the form from what was sifted -/
def fixS (sel : T3 → Int) (o : Option T3) : T3 := match o with
  | none => (0, 0, 0)
  | some t => if sel t < 0 then off t else t
def stepZ (e n : Option T3) (z : Int) : Int := match e, n with
  | some a, some b => (Int.gcd z (a.1 * b.2.1) : Int)
  | _, _ => z
def lastF (e n : Option T3) (z : Int) : Fm :=
  let n1 := fixS sy n
  let e0 := fixS sx e
  let e1 := if e.isSome ∧ n.isSome then put e0 (pw n1 (0 - e0.2.1 / n1.2.1)) else e0
  let md (o : Option T3) (t : T3) : T3 := if o.isSome ∧ 0 < z then (t.1, t.2.1, t.2.2 % z) else t
  ⟨md e e1, md n n1, z⟩
theorem fix_hold {S : T3 → Prop} (hS : Sub S) (sel : T3 → Int) (o : Option T3) : S (fixS sel o) ↔ ∀ x ∈ o, S x := by
  cases o with
  | none => simp [fixS, hS.one]
  | some t =>
    simp only [fixS, Option.mem_def, Option.some.injEq, forall_eq']
    split
    · constructor
      · intro h
        have := hS.inv h
        have e : off (off t) = t := by apply t3_ext <;> simp only [off] <;> grind
        rwa [e] at this
      · exact hS.inv
    · exact Iff.rfl
theorem md_hold {S : T3 → Prop} (hS : Sub S) {z : Int} (hz : S (0, 0, z)) (c : Prop) [Decidable c] (t : T3) : S (if c then (t.1, t.2.1, t.2.2 % z) else t) ↔ S t := by
  split
  · have e : ∀ k : Int, S (0, 0, k * z) := fun k => hS.cmul hz k
    constructor
    · intro h
      have := hS.shift h (t := t.2.2) (by
        have : t.2.2 - t.2.2 % z = (t.2.2 / z) * z := by rw [Int.emod_def]; grind
        rw [this]; exact e _)
      exact this
    · intro h
      exact hS.shift (x := t.1) (y := t.2.1) (s := t.2.2) h (t := t.2.2 % z) (by
        have : t.2.2 % z - t.2.2 = (-(t.2.2 / z)) * z := by rw [Int.emod_def]; grind
        rw [this]; exact e _)
  · exact Iff.rfl
theorem last_right {M : List T3} {e n : Option T3} {z : Int} (h : Shp ⟨e, n, z, []⟩) (hM : ∀ S, Sub S → (Hold S ⟨e, n, z, []⟩ ↔ ∀ m ∈ M, S m)) : Right M (lastF e n (stepZ e n z)) := by
  have hz : 0 ≤ z := h.z
  have hz1 : 0 ≤ stepZ e n z := by
    unfold stepZ
    split
    · exact Int.natCast_nonneg _
    · exact hz
  have en1 : (fixS sy n).1 = 0 := by
    cases n with
    | none => rfl
    | some t =>
      have := (h.n t rfl).1
      simp only [fixS]
      split
      · simp [off, this]
      · exact this
  have en2 : n.isSome → 0 < (fixS sy n).2.1 := by
    cases n with
    | none => simp
    | some t =>
      intro _
      have := (h.n t rfl).2
      simp only [fixS]
      by_cases q : sy t < 0
      · rw [if_pos q]; simp only [off, sy] at q ⊢; omega
      · rw [if_neg q]; simp only [sy] at q; omega
  have en3 : n.isSome = false → fixS sy n = (0, 0, 0) := by
    cases n with
    | none => simp [fixS]
    | some t => simp
  have ee2 : e.isSome → 0 < (fixS sx e).1 := by
    cases e with
    | none => simp
    | some t =>
      intro _
      have := h.e t rfl
      simp only [fixS]
      by_cases q : sx t < 0
      · rw [if_pos q]; simp only [off, sx] at q ⊢; omega
      · rw [if_neg q]; simp only [sx] at q; omega
  have ee3 : e.isSome = false → fixS sx e = (0, 0, 0) := by
    cases e with
    | none => simp [fixS]
    | some t => simp
  have hgap : e.isSome → n.isSome → ∃ k, (fixS sx e).1 * (fixS sy n).2.1 = k * stepZ e n z := by
    intro h1 h2
    cases e with
    | none => simp at h1
    | some a =>
      cases n with
      | none => simp at h2
      | some b =>
        have d : (Int.gcd z (a.1 * b.2.1) : Int) ∣ a.1 * b.2.1 := Int.gcd_dvd_right _ _
        have f1 : (fixS sx (some a)).1 = a.1 ∨ (fixS sx (some a)).1 = -a.1 := by
          simp only [fixS]; split
          · exact .inr rfl
          · exact .inl rfl
        have f2 : (fixS sy (some b)).2.1 = b.2.1 ∨ (fixS sy (some b)).2.1 = -b.2.1 := by
          simp only [fixS]; split
          · exact .inr rfl
          · exact .inl rfl
        obtain ⟨k, hk⟩ := d
        have hs : stepZ (some a) (some b) z = (Int.gcd z (a.1 * b.2.1) : Int) := rfl
        rw [hs]
        generalize (Int.gcd z (a.1 * b.2.1) : Int) = g at *
        rcases f1 with f1 | f1 <;> rcases f2 with f2 | f2 <;> rw [f1, f2]
        · exact ⟨k, by rw [hk]; grind⟩
        · exact ⟨-k, by rw [Int.mul_neg, hk]; grind⟩
        · exact ⟨-k, by rw [Int.neg_mul, hk]; grind⟩
        · exact ⟨k, by rw [Int.neg_mul_neg, hk]; grind⟩
  generalize hZ : stepZ e n z = Z at *
  generalize hE0 : fixS sx e = e0 at *
  generalize hN1 : fixS sy n = n1 at *
  have hF : lastF e n Z = ⟨(if e.isSome ∧ 0 < Z then ((if e.isSome ∧ n.isSome then put e0 (pw n1 (0 - e0.2.1 / n1.2.1)) else e0).1, (if e.isSome ∧ n.isSome then put e0 (pw n1 (0 - e0.2.1 / n1.2.1)) else e0).2.1, (if e.isSome ∧ n.isSome then put e0 (pw n1 (0 - e0.2.1 / n1.2.1)) else e0).2.2 % Z) else (if e.isSome ∧ n.isSome then put e0 (pw n1 (0 - e0.2.1 / n1.2.1)) else e0)),
      (if n.isSome ∧ 0 < Z then (n1.1, n1.2.1, n1.2.2 % Z) else n1), Z⟩ := by
    unfold lastF; simp only [hE0, hN1]
  have e1x : (if e.isSome ∧ n.isSome then put e0 (pw n1 (0 - e0.2.1 / n1.2.1)) else e0).1 = e0.1 := by
    split
    · simp [put, pw, en1]
    · rfl
  have e1y : n.isSome → 0 ≤ (if e.isSome ∧ n.isSome then put e0 (pw n1 (0 - e0.2.1 / n1.2.1)) else e0).2.1 ∧ (if e.isSome ∧ n.isSome then put e0 (pw n1 (0 - e0.2.1 / n1.2.1)) else e0).2.1 < n1.2.1 := by
    intro hn
    have p := en2 hn
    by_cases he : e.isSome
    · rw [if_pos ⟨he, hn⟩]
      simp only [put, pw]
      exact emod_rng p
    · rw [if_neg (fun q => he q.1), ee3 (by simpa using he)]
      exact ⟨Int.le_refl _, p⟩
  have e1z : ∀ S, Sub S → S n1 → (S (if e.isSome ∧ n.isSome then put e0 (pw n1 (0 - e0.2.1 / n1.2.1)) else e0) ↔ S e0) := by
    intro S hS hn
    split
    · generalize (0 - e0.2.1 / n1.2.1) = c
      constructor
      · intro h
        have := hS.mul h (hS.inv (hS.pow hn c))
        rw [put_assoc, put_off, put_one] at this; exact this
      · intro h; exact hS.mul h (hS.pow hn c)
    · exact Iff.rfl
  have e1n : e.isSome = false → (if e.isSome ∧ n.isSome then put e0 (pw n1 (0 - e0.2.1 / n1.2.1)) else e0) = (0, 0, 0) := by
    intro he
    rw [if_neg (by simp [he])]
    exact ee3 he
  rw [hF]
  generalize (if e.isSome ∧ n.isSome then put e0 (pw n1 (0 - e0.2.1 / n1.2.1)) else e0) = e1 at *
  refine Right.of_parts ?_ ?_
  · constructor
    · show 0 ≤ (if e.isSome ∧ 0 < Z then (e1.1, e1.2.1, e1.2.2 % Z) else e1).1
      have : (if e.isSome ∧ 0 < Z then (e1.1, e1.2.1, e1.2.2 % Z) else e1).1 = e1.1 := by split <;> rfl
      rw [this, e1x]
      by_cases he : e.isSome
      · exact Int.le_of_lt (ee2 he)
      · rw [ee3 (by simpa using he)]; exact Int.le_refl _
    · show (if e.isSome ∧ 0 < Z then (e1.1, e1.2.1, e1.2.2 % Z) else e1).1 = 0 → (if e.isSome ∧ 0 < Z then (e1.1, e1.2.1, e1.2.2 % Z) else e1) = (0, 0, 0)
      have : (if e.isSome ∧ 0 < Z then (e1.1, e1.2.1, e1.2.2 % Z) else e1).1 = e1.1 := by split <;> rfl
      rw [this, e1x]
      intro h0
      by_cases he : e.isSome
      · have := ee2 he; omega
      · rw [if_neg (fun q => he q.1), e1n (by simpa using he)]
    · show (if n.isSome ∧ 0 < Z then (n1.1, n1.2.1, n1.2.2 % Z) else n1).1 = 0
      split <;> exact en1
    · show 0 ≤ (if n.isSome ∧ 0 < Z then (n1.1, n1.2.1, n1.2.2 % Z) else n1).2.1
      have : (if n.isSome ∧ 0 < Z then (n1.1, n1.2.1, n1.2.2 % Z) else n1).2.1 = n1.2.1 := by split <;> rfl
      rw [this]
      by_cases hn : n.isSome
      · exact Int.le_of_lt (en2 hn)
      · rw [en3 (by simpa using hn)]; exact Int.le_refl _
    · show (if n.isSome ∧ 0 < Z then (n1.1, n1.2.1, n1.2.2 % Z) else n1).2.1 = 0 → (if n.isSome ∧ 0 < Z then (n1.1, n1.2.1, n1.2.2 % Z) else n1) = (0, 0, 0)
      have : (if n.isSome ∧ 0 < Z then (n1.1, n1.2.1, n1.2.2 % Z) else n1).2.1 = n1.2.1 := by split <;> rfl
      rw [this]
      intro h0
      by_cases hn : n.isSome
      · have := en2 hn; omega
      · rw [if_neg (fun q => hn q.1), en3 (by simpa using hn)]
    · exact hz1
    · show ∃ k, (if e.isSome ∧ 0 < Z then (e1.1, e1.2.1, e1.2.2 % Z) else e1).1 * (if n.isSome ∧ 0 < Z then (n1.1, n1.2.1, n1.2.2 % Z) else n1).2.1 = k * Z
      have t1 : (if e.isSome ∧ 0 < Z then (e1.1, e1.2.1, e1.2.2 % Z) else e1).1 = e0.1 := by split <;> exact e1x
      have t2 : (if n.isSome ∧ 0 < Z then (n1.1, n1.2.1, n1.2.2 % Z) else n1).2.1 = n1.2.1 := by split <;> rfl
      rw [t1, t2]
      by_cases he : e.isSome
      · by_cases hn : n.isSome
        · exact hgap he hn
        · rw [en3 (by simpa using hn)]; exact ⟨0, by simp⟩
      · rw [ee3 (by simpa using he)]; exact ⟨0, by simp⟩
    · show 0 < (if n.isSome ∧ 0 < Z then (n1.1, n1.2.1, n1.2.2 % Z) else n1).2.1 → 0 ≤ (if e.isSome ∧ 0 < Z then (e1.1, e1.2.1, e1.2.2 % Z) else e1).2.1 ∧ (if e.isSome ∧ 0 < Z then (e1.1, e1.2.1, e1.2.2 % Z) else e1).2.1 < (if n.isSome ∧ 0 < Z then (n1.1, n1.2.1, n1.2.2 % Z) else n1).2.1
      have t1 : (if e.isSome ∧ 0 < Z then (e1.1, e1.2.1, e1.2.2 % Z) else e1).2.1 = e1.2.1 := by split <;> rfl
      have t2 : (if n.isSome ∧ 0 < Z then (n1.1, n1.2.1, n1.2.2 % Z) else n1).2.1 = n1.2.1 := by split <;> rfl
      rw [t1, t2]
      intro h0
      by_cases hn : n.isSome
      · exact e1y hn
      · rw [en3 (by simpa using hn)] at h0; exact absurd h0 (by simp)
    · intro hp
      have hp : 0 < Z := hp
      show 0 ≤ (if e.isSome ∧ 0 < Z then (e1.1, e1.2.1, e1.2.2 % Z) else e1).2.2 ∧ (if e.isSome ∧ 0 < Z then (e1.1, e1.2.1, e1.2.2 % Z) else e1).2.2 < Z
      by_cases he : e.isSome
      · rw [if_pos ⟨he, hp⟩]; exact ⟨Int.emod_nonneg _ (by omega), Int.emod_lt_of_pos _ hp⟩
      · rw [if_neg (fun q => he q.1), e1n (by simpa using he)]; exact ⟨Int.le_refl _, hp⟩
    · intro hp
      have hp : 0 < Z := hp
      show 0 ≤ (if n.isSome ∧ 0 < Z then (n1.1, n1.2.1, n1.2.2 % Z) else n1).2.2 ∧ (if n.isSome ∧ 0 < Z then (n1.1, n1.2.1, n1.2.2 % Z) else n1).2.2 < Z
      by_cases hn : n.isSome
      · rw [if_pos ⟨hn, hp⟩]; exact ⟨Int.emod_nonneg _ (by omega), Int.emod_lt_of_pos _ hp⟩
      · rw [if_neg (fun q => hn q.1), en3 (by simpa using hn)]; exact ⟨Int.le_refl _, hp⟩
  · intro S hS
    have hZ2 : (∀ x ∈ e, S x) → (∀ x ∈ n, S x) → (S (0, 0, Z) ↔ S (0, 0, z)) := by
      intro he hn
      rw [← hZ]
      unfold stepZ
      split
      · rename_i a b
        rw [sub_gcd hS]
        refine ⟨fun q => q.1, fun q => ⟨q, ?_⟩⟩
        have := hS.gap (he a rfl) (hn b rfl)
        have hb := (h.n b rfl).1
        rw [gap, hb] at this
        simpa using this
      · exact Iff.rfl
    have fe := fix_hold hS sx e
    have fn := fix_hold hS sy n
    rw [hE0] at fe; rw [hN1] at fn
    rw [← hM S hS]
    show (S (if e.isSome ∧ 0 < Z then (e1.1, e1.2.1, e1.2.2 % Z) else e1) ∧ S (if n.isSome ∧ 0 < Z then (n1.1, n1.2.1, n1.2.2 % Z) else n1) ∧ S (0, 0, Z)) ↔ _
    unfold Hold
    constructor
    · rintro ⟨a, b, c⟩
      have b1 := (md_hold hS c _ n1).1 b
      have a1 := (e1z S hS b1).1 ((md_hold hS c _ e1).1 a)
      exact ⟨fe.1 a1, fn.1 b1, (hZ2 (fe.1 a1) (fn.1 b1)).1 c, by simp⟩
    · rintro ⟨a, b, c, _⟩
      have cz := (hZ2 a b).2 c
      have b1 := fn.2 b
      exact ⟨(md_hold hS cz _ e1).2 ((e1z S hS b1).2 (fe.2 a)), (md_hold hS cz _ n1).2 b1, cz⟩
end K67

namespace K67
/-! ### sizes: weights -/
def KX : Nat := 2 ^ 7
def FE0 : Nat := 2 ^ 45
def KY : Nat := 2 ^ 52
def KS : Nat := 2 ^ 106
def YN : Nat := 2 ^ 60
def SN : Nat := 2 ^ 115
def KN : Nat := 2 ^ 62
def FN0 : Nat := 2 ^ 310
def KSN : Nat := 2 ^ 425
def KP : Nat := 2 ^ 486
theorem c_ks : KS + 3 * KX * KY * FE0 ≤ 2 * KS := by decide +kernel
theorem c_yn : (1 + KX) * KY ≤ YN := by decide +kernel
theorem c_sn : (1 + KX) * (KS + 3 * KX * KY) ≤ SN := by decide +kernel
theorem c_kn : 4 * YN ≤ KN := by decide +kernel
theorem c_kn1 : 1 ≤ KN := by decide +kernel
theorem c_ksn : SN * FN0 ≤ KSN := by decide +kernel
theorem c_kp : (1 + YN) * KSN ≤ KP := by decide +kernel
theorem c_kp2 : SN ≤ KP := by decide +kernel
theorem c_kxyn : KX ≤ YN := by decide +kernel

def w (X : Nat) (l h : Int) : Nat :=
  (if l = 0 ∨ h.natAbs < l.natAbs then 2 * h.natAbs else h.natAbs) + (if l = 0 ∨ (h < 0 ∧ 0 < l) ∨ (0 < h ∧ l < 0) then 2 * X else 0)
theorem w_ge (X : Nat) (l h : Int) : h.natAbs ≤ w X l h := by unfold w; split <;> split <;> omega
theorem w_pos {X : Nat} {l h : Int} (hh : h ≠ 0) : 1 ≤ w X l h := by have := w_ge X l h; omega
theorem w_le {X : Nat} {l h : Int} (hh : h.natAbs ≤ X) : w X l h ≤ 4 * X := by unfold w; split <;> split <;> omega
theorem w_neg (X : Nat) (l h : Int) : w X (-l) (-h) = w X l h := by unfold w; split <;> split <;> split <;> split <;> omega
theorem w_mono {X : Nat} {l r h : Int} (hr : r ≠ 0) (hs : l = 0 ∨ (r.natAbs < l.natAbs ∧ (0 < r ↔ 0 < l))) : w X r h ≤ w X l h := by
  unfold w; split <;> split <;> split <;> split <;> omega
theorem w_self {X : Nat} {l r : Int} (hr : r ≠ 0) (h1 : r.natAbs < l.natAbs) (hs : 0 < r ↔ 0 < l) : w X r l = l.natAbs := by
  unfold w; split <;> split <;> omega
/-- one division -/
structure Eu (X : Nat) (l h q r : Int) : Prop where
  lt : r.natAbs < l.natAbs
  sg : r ≠ 0 → (0 < r ↔ 0 < l)
  m1 : (1 + q.natAbs) * r.natAbs ≤ w X l h
  m2 : 2 * r.natAbs ≤ w X l h
  qh : q.natAbs ≤ h.natAbs
  ql : q.natAbs * l.natAbs ≤ h.natAbs + l.natAbs
theorem eu_pos {X : Nat} {l h : Int} (hl : 0 < l) (hX : l.natAbs ≤ X) (hh : h ≠ 0) : Eu X l h (h / l) (h - h / l * l) := by
  have hd := Int.emod_add_mul_ediv h l
  have r0 := Int.emod_nonneg h (show l ≠ 0 by omega)
  have r1 := Int.emod_lt_of_pos h hl
  have er : h - h / l * l = h % l := by rw [Int.mul_comm (h / l)]; omega
  rw [er]
  generalize h % l = r at *
  generalize h / l = q at *
  obtain ⟨a, rfl⟩ := Int.eq_ofNat_of_zero_le (Int.le_of_lt hl)
  obtain ⟨p, rfl⟩ := Int.eq_ofNat_of_zero_le r0
  have hpa : p < a := by omega
  rcases Int.lt_or_le q 0 with hq0 | hq0
  rotate_left
  · -- the same sign
    obtain ⟨k, rfl⟩ := Int.eq_ofNat_of_zero_le hq0
    have e : h = ((p + a * k : Nat) : Int) := by rw [← hd]; simp
    subst e
    have hk : k * p ≤ k * a := Nat.mul_le_mul_left _ (Nat.le_of_lt hpa)
    have e1 : (1 + k) * p = p + k * p := by rw [Nat.add_mul, Nat.one_mul]
    have e2 : a * k = k * a := Nat.mul_comm _ _
    have hak : k ≤ a * k := Nat.le_mul_of_pos_left _ (by omega)
    have key : (1 + k) * p ≤ w X (a : Int) ((p + a * k : Nat) : Int) ∧ 2 * p ≤ w X (a : Int) ((p + a * k : Nat) : Int) := by
      have hw := w_ge X (a : Int) ((p + a * k : Nat) : Int)
      rw [Int.natAbs_natCast] at hw
      refine ⟨by omega, ?_⟩
      by_cases k0 : k = 0
      · subst k0
        unfold w
        rw [if_pos]
        · simp
        · right; simp; exact hpa
      · have : a * 1 ≤ a * k := Nat.mul_le_mul_left _ (by omega)
        omega
    refine ⟨by simpa using hpa, fun _ => ⟨fun _ => hl, fun _ => by omega⟩, by simpa using key.1, by simpa using key.2, ?_, ?_⟩
    · simp only [Int.natAbs_natCast]; omega
    · simp only [Int.natAbs_natCast]; omega
  · obtain ⟨k, hk0⟩ := Int.eq_ofNat_of_zero_le (show 0 ≤ -q by omega)
    obtain rfl : q = -(k : Int) := by omega
    have k0 : k ≠ 0 := by omega
    · have e : (p : Int) - a * k = h := by rw [← hd]; rw [Int.mul_neg]; omega
      have e' : (p : Int) - ((a * k : Nat) : Int) = h := by rw [← e]; simp
      have hak : a * 1 ≤ a * k := Nat.mul_le_mul_left _ (by omega)
      have hn : h.natAbs = a * k - p := by omega
      have hk : k * p ≤ k * a := Nat.mul_le_mul_left _ (Nat.le_of_lt hpa)
      have e1 : (1 + k) * p = p + k * p := by rw [Nat.add_mul, Nat.one_mul]
      have e2 : a * k = k * a := Nat.mul_comm _ _
      have hw : (a * k - p) + 2 * X ≤ w X (a : Int) h := by
        unfold w
        rw [if_pos (show (a : Int) = 0 ∨ (h < 0 ∧ (0 : Int) < a) ∨ (0 < h ∧ (a : Int) < 0) by omega)]
        split <;> omega
      have hX' : a ≤ X := by simpa using hX
      have hkk : k ≤ a * k - p := by
        have h1 : a * k = a * (k - 1) + a := by
          have : k = (k - 1) + 1 := by omega
          rw [this, Nat.mul_add, Nat.mul_one]; simp
        have h2 : k - 1 ≤ a * (k - 1) := Nat.le_mul_of_pos_left _ (by omega)
        omega
      refine ⟨by simpa using hpa, fun _ => ⟨fun _ => hl, fun _ => by omega⟩, ?_, ?_, ?_, ?_⟩
      · simp only [Int.natAbs_neg, Int.natAbs_natCast]; omega
      · simp only [Int.natAbs_natCast]; omega
      · simp only [Int.natAbs_neg, Int.natAbs_natCast]; omega
      · simp only [Int.natAbs_neg, Int.natAbs_natCast]; omega
theorem eu_any {X : Nat} {l h : Int} (hl : l ≠ 0) (hX : l.natAbs ≤ X) (hh : h ≠ 0) : Eu X l h (h.fdiv l) (h - h.fdiv l * l) := by
  by_cases p : 0 < l
  · have e : h.fdiv l = h / l := Int.fdiv_eq_ediv_of_nonneg _ (by omega)
    rw [e]; exact eu_pos p hX hh
  · have e : h.fdiv l = (-h) / (-l) := by
      rw [← Int.neg_fdiv_neg]
      exact Int.fdiv_eq_ediv_of_nonneg _ (by omega)
    have := eu_pos (X := X) (l := -l) (h := -h) (by omega) (by omega) (by omega)
    rw [e]
    generalize -h / -l = q at *
    have e2 : -h - q * -l = -(h - q * l) := by grind
    rw [e2] at this
    refine ⟨by have := this.lt; omega, fun hr => by have := this.sg (by omega); omega, ?_, ?_, by have := this.qh; omega, by have := this.ql; simpa using this⟩
    · have := this.m1; rw [w_neg] at this; simpa using this
    · have := this.m2; rw [w_neg] at this; simpa using this

/-! products -/
def pl (f : T3 → Nat) : List T3 → Nat
  | [] => 1
  | h :: t => f h * pl f t
theorem pl_append (f : T3 → Nat) : ∀ a b : List T3, pl f (a ++ b) = pl f a * pl f b
  | [], b => by simp [pl]
  | h :: t, b => by simp [pl, pl_append f t b, Nat.mul_assoc]
theorem pl_mono {f g : T3 → Nat} : ∀ {q : List T3}, (∀ h ∈ q, f h ≤ g h) → pl f q ≤ pl g q
  | [], _ => Nat.le_refl _
  | h :: t, k => Nat.mul_le_mul (k h (by simp)) (pl_mono fun x hx => k x (by simp [hx]))
theorem pl_pos {f : T3 → Nat} : ∀ {q : List T3}, (∀ h ∈ q, 1 ≤ f h) → 1 ≤ pl f q
  | [], _ => Nat.le_refl _
  | h :: t, k => by
    have := Nat.mul_le_mul (k h (by simp)) (pl_pos (q := t) fun x hx => k x (by simp [hx]))
    simpa [pl] using this
theorem pl_le {f : T3 → Nat} {B : Nat} : ∀ {q : List T3}, (∀ h ∈ q, f h ≤ B) → pl f q ≤ B ^ q.length
  | [], _ => by simp [pl]
  | h :: t, k => by
    have := Nat.mul_le_mul (k h (by simp)) (pl_le (q := t) fun x hx => k x (by simp [hx]))
    rw [List.length_cons, Nat.pow_succ, Nat.mul_comm (B ^ t.length)]
    exact this
def lf (l : Int) : Nat := if l = 0 then 1 else l.natAbs
theorem lf_pos (l : Int) : 1 ≤ lf l := by unfold lf; split <;> omega
theorem lf_ne {l : Int} (h : l ≠ 0) : lf l = l.natAbs := if_neg h
def lv (sel : T3 → Int) : Option T3 → Int
  | none => 0
  | some t => sel t
def fE (l : Int) (h : T3) : Nat := if h.1 ≠ 0 then w KX l h.1 else 1
def fN (l : Int) (h : T3) : Nat := if h.1 ≠ 0 then KN else if h.2.1 ≠ 0 then w YN l h.2.1 else 1
def fC (h : T3) : Nat := if h.1 ≠ 0 then 8 else if h.2.1 ≠ 0 then 4 else 2
def vE (st : SS) : Nat := lf (lv sx st.e) * pl (fE (lv sx st.e)) st.q
def vN (st : SS) : Nat := lf (lv sy st.n) * pl (fN (lv sy st.n)) st.q
def vC (st : SS) : Nat := pl fC st.q
theorem fE_pos (l : Int) (h : T3) : 1 ≤ fE l h := by
  unfold fE; split
  · rename_i q; exact w_pos q
  · exact Nat.le_refl _
theorem fN_pos (l : Int) (h : T3) : 1 ≤ fN l h := by
  unfold fN; split
  · exact c_kn1
  · split
    · rename_i q; exact w_pos q
    · exact Nat.le_refl _
theorem fC_pos (h : T3) : 1 ≤ fC h := by unfold fC; split; omega; split <;> omega
theorem mul_pos1 {a b : Nat} (ha : 1 ≤ a) (hb : 1 ≤ b) : 1 ≤ a * b := Nat.mul_pos ha hb
theorem vE_pos (st : SS) : 1 ≤ vE st := mul_pos1 (lf_pos _) (pl_pos fun h _ => fE_pos _ h)
theorem vN_pos (st : SS) : 1 ≤ vN st := mul_pos1 (lf_pos _) (pl_pos fun h _ => fN_pos _ h)
theorem vC_pos (st : SS) : 1 ≤ vC st := pl_pos fun h _ => fC_pos h
structure Bd (st : SS) : Prop where
  shp : Shp st
  len : st.q.length ≤ 5
  x : ∀ h ∈ st.q, h.1.natAbs ≤ KX
  xe : ∀ h ∈ st.e, h.1.natAbs ≤ KX
  E : ∃ Y S : Nat, Y * vE st ≤ KY ∧ S * vE st * vE st ≤ KS ∧ (∀ h ∈ st.q, h.1 ≠ 0 → h.2.1.natAbs ≤ Y ∧ h.2.2.natAbs ≤ S) ∧ (∀ h ∈ st.e, h.2.1.natAbs ≤ Y ∧ h.2.2.natAbs ≤ S)
  N : ∃ S : Nat, S * vN st ≤ KSN ∧ (∀ h ∈ st.q, h.1 = 0 → h.2.1 ≠ 0 → h.2.1.natAbs ≤ YN ∧ h.2.2.natAbs ≤ S) ∧ (∀ h ∈ st.n, h.2.1.natAbs ≤ YN ∧ h.2.2.natAbs ≤ S)
  P : ∀ h ∈ st.q, h.1 = 0 → h.2.1 = 0 → h.2.2.natAbs ≤ KP
  z : st.z.natAbs ≤ KP
  fe : vE st ≤ FE0
  fn : vN st ≤ FN0
/-- the sizes of a move when another one is taken off -/
theorem off_y {l h : T3} {q : Int} {Y : Nat} (hl : l.2.1.natAbs ≤ Y) (hh : h.2.1.natAbs ≤ Y) : (put (pw l (0 - q)) h).2.1.natAbs ≤ (1 + q.natAbs) * Y := by
  simp only [put, pw]
  have h1 := Int.natAbs_add_le ((0 - q) * l.2.1) h.2.1
  rw [Int.natAbs_mul] at h1
  have h2 : (0 - q).natAbs = q.natAbs := by omega
  rw [h2] at h1
  have h3 : q.natAbs * l.2.1.natAbs ≤ q.natAbs * Y := Nat.mul_le_mul_left _ hl
  rw [Nat.add_mul, Nat.one_mul]; omega
theorem off_s {l h : T3} {q : Int} {X Y S : Nat} (hx : q.natAbs * l.1.natAbs ≤ 2 * X) (hl : l.2.1.natAbs ≤ Y) (hh : h.2.1.natAbs ≤ Y) (sl : l.2.2.natAbs ≤ S) (sh : h.2.2.natAbs ≤ S) :
    (put (pw l (0 - q)) h).2.2.natAbs ≤ (1 + q.natAbs) * (S + 3 * X * Y) := by
  simp only [put, pw]
  have h2 : (0 - q).natAbs = q.natAbs := by omega
  have ht := tri2 (0 - q)
  have ht2 : 2 * (tri (0 - q)).natAbs = q.natAbs * (q + 1).natAbs := by
    have : (2 * tri (0 - q)).natAbs = ((0 - q) * (0 - q - 1)).natAbs := by rw [ht]
    rw [Int.natAbs_mul, Int.natAbs_mul, h2] at this
    have e : (0 - q - 1).natAbs = (q + 1).natAbs := by omega
    rw [e] at this; exact this
  have hq1 : (q + 1).natAbs ≤ q.natAbs + 1 := by omega
  have ht3 : (tri (0 - q)).natAbs * l.1.natAbs ≤ (q.natAbs + 1) * X := by
    have a1 : 2 * ((tri (0 - q)).natAbs * l.1.natAbs) = (q + 1).natAbs * (q.natAbs * l.1.natAbs) := by
      rw [← Nat.mul_assoc, ht2]; rw [Nat.mul_comm q.natAbs, Nat.mul_assoc]
    have a2 : (q + 1).natAbs * (q.natAbs * l.1.natAbs) ≤ (q.natAbs + 1) * (2 * X) := Nat.mul_le_mul hq1 hx
    have a3 : (q.natAbs + 1) * (2 * X) = 2 * ((q.natAbs + 1) * X) := by rw [Nat.mul_left_comm]
    omega
  have b1 := Int.natAbs_add_le ((0 - q) * l.2.2 + tri (0 - q) * l.1 * l.2.1 + h.2.2) ((0 - q) * l.1 * h.2.1)
  have b2 := Int.natAbs_add_le ((0 - q) * l.2.2 + tri (0 - q) * l.1 * l.2.1) h.2.2
  have b3 := Int.natAbs_add_le ((0 - q) * l.2.2) (tri (0 - q) * l.1 * l.2.1)
  have c1 : ((0 - q) * l.2.2).natAbs ≤ q.natAbs * S := by rw [Int.natAbs_mul, h2]; exact Nat.mul_le_mul_left _ sl
  have c2 : (tri (0 - q) * l.1 * l.2.1).natAbs ≤ (q.natAbs + 1) * X * Y := by
    rw [Int.natAbs_mul, Int.natAbs_mul]; exact Nat.mul_le_mul ht3 hl
  have c3 : ((0 - q) * l.1 * h.2.1).natAbs ≤ 2 * X * Y := by
    rw [Int.natAbs_mul, Int.natAbs_mul, h2]; exact Nat.mul_le_mul hx hh
  have d1 : (1 + q.natAbs) * (S + 3 * X * Y) = S + q.natAbs * S + (3 * X * Y + q.natAbs * (3 * X * Y)) := by
    rw [Nat.add_mul, Nat.one_mul, Nat.mul_add]; omega
  have d2 : (q.natAbs + 1) * X * Y = q.natAbs * (X * Y) + X * Y := by rw [Nat.mul_assoc, Nat.add_mul, Nat.one_mul]
  have d3 : 3 * X * Y = 3 * (X * Y) := by rw [Nat.mul_assoc]
  have d4 : 2 * X * Y = 2 * (X * Y) := by rw [Nat.mul_assoc]
  have d5 : q.natAbs * (3 * (X * Y)) = 3 * (q.natAbs * (X * Y)) := by rw [Nat.mul_left_comm]
  rw [d1, d3, d5]
  omega
theorem off_s0 {l h : T3} {q : Int} {S : Nat} (hl : l.1 = 0) (sl : l.2.2.natAbs ≤ S) (sh : h.2.2.natAbs ≤ S) : (put (pw l (0 - q)) h).2.2.natAbs ≤ (1 + q.natAbs) * S := by
  simp only [put, pw, hl]
  have h1 := Int.natAbs_add_le ((0 - q) * l.2.2) h.2.2
  rw [Int.natAbs_mul] at h1
  have h2 : (0 - q).natAbs = q.natAbs := by omega
  rw [h2] at h1
  have h3 : q.natAbs * l.2.2.natAbs ≤ q.natAbs * S := Nat.mul_le_mul_left _ sl
  rw [Nat.add_mul, Nat.one_mul]
  simp only [Int.mul_zero, Int.zero_mul, Int.add_zero]
  omega
theorem t_half {a b c a' b' c' : Nat} (ha : a' ≤ a) (hb : b' ≤ b) (hc : 2 * c' ≤ c) : 2 * (a' * b' * c') ≤ a * b * c := by
  have := Nat.mul_le_mul (Nat.mul_le_mul ha hb) hc
  have e : a' * b' * (2 * c') = 2 * (a' * b' * c') := by rw [Nat.mul_left_comm]
  omega
theorem t_half1 {a b c a' b' c' : Nat} (ha : 2 * a' ≤ a) (hb : b' ≤ b) (hc : c' ≤ c) : 2 * (a' * b' * c') ≤ a * b * c := by
  have := Nat.mul_le_mul (Nat.mul_le_mul ha hb) hc
  have e : 2 * a' * b' * c' = 2 * (a' * b' * c') := by rw [Nat.mul_assoc, Nat.mul_assoc, Nat.mul_assoc]
  omega
theorem t_half2 {a b c a' b' c' : Nat} (ha : a' ≤ a) (hb : 2 * b' ≤ b) (hc : c' ≤ c) : 2 * (a' * b' * c') ≤ a * b * c := by
  have := t_half1 (a := b) (b := a) (c := c) (a' := b') (b' := a') (c' := c') hb ha hc
  rw [Nat.mul_comm b' a', Nat.mul_comm b a] at this; exact this
/-- the weights behind one taking off: the lead is new, or it is left -/
theorem pl_div {F : Int → T3 → Nat} {X : Nat} {t : List T3} {l h q r : Int} (hl : l ≠ 0) (eu : Eu X l h q r) (hr : r ≠ 0) (Fm : ∀ g, F r g ≤ F l g) :
    (1 + q.natAbs) * (lf r * (pl (F r) t * l.natAbs)) ≤ lf l * (w X l h * pl (F l) t) ∧ 2 * (lf r * (pl (F r) t * l.natAbs)) ≤ lf l * (w X l h * pl (F l) t) := by
  have hp : pl (F r) t ≤ pl (F l) t := pl_mono fun g _ => Fm g
  rw [lf_ne hr, lf_ne hl]
  have key : ∀ k, k * r.natAbs ≤ w X l h → k * (r.natAbs * (pl (F r) t * l.natAbs)) ≤ l.natAbs * (w X l h * pl (F l) t) := by
    intro k hk
    have := Nat.mul_le_mul_left l.natAbs (Nat.mul_le_mul hk hp)
    refine Nat.le_trans (Nat.le_of_eq ?_) this
    rw [Nat.mul_comm (pl (F r) t) l.natAbs, Nat.mul_left_comm r.natAbs, ← Nat.mul_assoc k, Nat.mul_comm k, Nat.mul_assoc, ← Nat.mul_assoc k]
  exact ⟨key _ eu.m1, key _ eu.m2⟩
theorem fE_r {l r : Int} (hr : r ≠ 0) (h : l = 0 ∨ (r.natAbs < l.natAbs ∧ (0 < r ↔ 0 < l))) (g : T3) : fE r g ≤ fE l g := by
  unfold fE; split
  · exact w_mono hr h
  · exact Nat.le_refl _
theorem fN_r {l r : Int} (hr : r ≠ 0) (h : l = 0 ∨ (r.natAbs < l.natAbs ∧ (0 < r ↔ 0 < l))) (g : T3) : fN r g ≤ fN l g := by
  unfold fN; split
  · exact Nat.le_refl _
  · split
    · exact w_mono hr h
    · exact Nat.le_refl _
theorem le_of_mul {a b c : Nat} (h : a * b ≤ c) (hb : 1 ≤ b) : a ≤ c := Nat.le_trans (Nat.le_mul_of_pos_right _ hb) h
/-- a taking off by steps east -/
theorem bd_e {e n : Option T3} {z : Int} {h : T3} {t : List T3} (hh : h.1 ≠ 0) (B : Bd ⟨e, n, z, h :: t⟩) :
    Bd ⟨(tk sx e h).1, n, z, t ++ (tk sx e h).2.toList⟩ ∧
    2 * (vE ⟨(tk sx e h).1, n, z, t ++ (tk sx e h).2.toList⟩ * vN ⟨(tk sx e h).1, n, z, t ++ (tk sx e h).2.toList⟩ * vC ⟨(tk sx e h).1, n, z, t ++ (tk sx e h).2.toList⟩) ≤ vE ⟨e, n, z, h :: t⟩ * vN ⟨e, n, z, h :: t⟩ * vC ⟨e, n, z, h :: t⟩ := by
  have sh : Shp ⟨(tk sx e h).1, n, z, t ++ (tk sx e h).2.toList⟩ := by
    have := turn_shp B.shp
    unfold turn at this
    simp only [if_pos hh] at this
    exact this
  have eq0 : turn ⟨e, n, z, h :: t⟩ = ⟨(tk sx e h).1, n, z, t ++ (tk sx e h).2.toList⟩ := by unfold turn; simp only [if_pos hh]
  obtain ⟨Y, S, hY, hS, hq, he⟩ := B.E
  obtain ⟨Sn, hSn, hqn, hn⟩ := B.N
  have hx := B.x; have hP := B.P; have hz := B.z; have hfe := B.fe; have hfn := B.fn; have hlen := B.len; have hxe := B.xe
  simp only at hq he hqn hn hx hP hz hlen hxe
  have hvEp := vE_pos ⟨e, n, z, h :: t⟩
  -- the old products
  have oPE : vE ⟨e, n, z, h :: t⟩ = lf (lv sx e) * (w KX (lv sx e) h.1 * pl (fE (lv sx e)) t) := by
    unfold vE; simp only [pl]; rw [show fE (lv sx e) h = w KX (lv sx e) h.1 from by unfold fE; rw [if_pos hh]]
  have oPN : vN ⟨e, n, z, h :: t⟩ = lf (lv sy n) * (KN * pl (fN (lv sy n)) t) := by
    unfold vN; simp only [pl]; rw [show fN (lv sy n) h = KN from by unfold fN; rw [if_pos hh]]
  have oPC : vC ⟨e, n, z, h :: t⟩ = 8 * pl fC t := by
    unfold vC; simp only [pl]; rw [show fC h = 8 from by unfold fC; rw [if_pos hh]]
  obtain ⟨hYh, hSh⟩ := hq h (by simp) hh
  have hxh := hx h (by simp)
  cases e with
  | none =>
    have e1 : tk sx none h = (some h, none) := rfl
    rw [e1] at sh ⊢
    simp only [Option.toList_none, List.append_nil] at sh ⊢
    have nPE : vE ⟨some h, n, z, t⟩ ≤ vE ⟨none, n, z, h :: t⟩ := by
      rw [oPE]
      show lf (lv sx (some h)) * pl (fE (lv sx (some h))) t ≤ 1 * _
      have a1 : lf (lv sx (some h)) = h.1.natAbs := lf_ne hh
      have a2 : pl (fE (lv sx (some h))) t ≤ pl (fE (lv sx none)) t := pl_mono fun g _ => fE_r hh (.inl rfl) g
      rw [a1, Nat.one_mul]
      exact Nat.mul_le_mul (w_ge _ _ _) a2
    have nPN : vN ⟨some h, n, z, t⟩ ≤ vN ⟨none, n, z, h :: t⟩ := by
      rw [oPN]
      exact Nat.mul_le_mul_left _ (Nat.le_mul_of_pos_left _ c_kn1)
    have nPC : 2 * vC ⟨some h, n, z, t⟩ ≤ vC ⟨none, n, z, h :: t⟩ := by
      rw [oPC]; show 2 * pl fC t ≤ _; omega
    refine ⟨⟨sh, by simp at hlen ⊢; omega, fun g hg => hx g (by simp [hg]), ?_, ?_, ?_, fun g hg => hP g (by simp [hg]), hz, Nat.le_trans nPE hfe, Nat.le_trans nPN hfn⟩, t_half nPE nPN nPC⟩
    · intro g hg
      cases hg; exact hxh
    · exact ⟨Y, S, Nat.le_trans (Nat.mul_le_mul_left _ nPE) hY, Nat.le_trans (Nat.mul_le_mul (Nat.mul_le_mul_left _ nPE) nPE) hS, fun g hg => hq g (by simp [hg]), fun g hg => by cases hg; exact ⟨hYh, hSh⟩⟩
    · exact ⟨Sn, Nat.le_trans (Nat.mul_le_mul_left _ nPN) hSn, fun g hg => hqn g (by simp [hg]), hn⟩
  | some l =>
    have hl : l.1 ≠ 0 := B.shp.e l rfl
    have hlX : l.1.natAbs ≤ KX := hxe l rfl
    obtain ⟨hYl, hSl⟩ := he l rfl
    have eu := eu_any (X := KX) hl hlX hh
    have er : (put (pw l (0 - h.1.fdiv l.1)) h).1 = h.1 - h.1.fdiv l.1 * l.1 := by simp only [put, pw]; grind
    have ery := off_y (q := h.1.fdiv l.1) hYl hYh
    have hql : (h.1.fdiv l.1).natAbs * l.1.natAbs ≤ 2 * KX := by have := eu.ql; omega
    have ers := off_s (X := KX) (q := h.1.fdiv l.1) hql hYl hYh hSl hSh
    have hqX : (h.1.fdiv l.1).natAbs ≤ KX := Nat.le_trans eu.qh hxh
    have e1 : tk sx (some l) h = if sx (put (pw l (0 - h.1.fdiv l.1)) h) = 0 then (some l, some (put (pw l (0 - h.1.fdiv l.1)) h)) else (some (put (pw l (0 - h.1.fdiv l.1)) h), some l) := rfl
    rw [e1] at sh ⊢
    generalize hr : put (pw l (0 - h.1.fdiv l.1)) h = r at *
    rw [← er] at eu
    generalize hqq : h.1.fdiv l.1 = q at *
    have lvl : lv sx (some l) = l.1 := rfl
    rw [lvl] at oPE
    by_cases h0 : sx r = 0
    · rw [if_pos h0] at sh ⊢
      have r0 : r.1 = 0 := h0
      simp only [Option.toList_some] at sh ⊢
      have nPE : vE ⟨some l, n, z, t ++ [r]⟩ ≤ vE ⟨some l, n, z, h :: t⟩ := by
        rw [oPE]
        unfold vE
        rw [pl_append]
        refine Nat.mul_le_mul_left _ ?_
        show pl (fE l.1) t * (fE l.1 r * 1) ≤ _
        have : fE l.1 r = 1 := by unfold fE; rw [if_neg (by simp [r0])]
        rw [this, Nat.mul_one]
        exact Nat.le_mul_of_pos_left _ (w_pos hh)
      have hY1 : Y ≤ KY := le_of_mul hY hvEp
      have hS1 : S ≤ KS := le_of_mul (le_of_mul hS hvEp) hvEp
      have ry : r.2.1.natAbs ≤ YN := by
        refine Nat.le_trans ery (Nat.le_trans (Nat.mul_le_mul (by omega) hY1) c_yn)
      have rs : r.2.2.natAbs ≤ SN := by
        refine Nat.le_trans ers (Nat.le_trans (Nat.mul_le_mul (by omega) (Nat.add_le_add hS1 (Nat.mul_le_mul_left _ hY1))) c_sn)
      have nPN : vN ⟨some l, n, z, t ++ [r]⟩ ≤ vN ⟨some l, n, z, h :: t⟩ := by
        rw [oPN]
        unfold vN
        rw [pl_append]
        refine Nat.mul_le_mul_left _ ?_
        show pl (fN (lv sy n)) t * (fN (lv sy n) r * 1) ≤ _
        rw [Nat.mul_one, Nat.mul_comm]
        refine Nat.mul_le_mul_right _ ?_
        unfold fN
        rw [if_neg (by simp [r0])]
        split
        · exact Nat.le_trans (w_le ry) c_kn
        · exact c_kn1
      have nPC : 2 * vC ⟨some l, n, z, t ++ [r]⟩ ≤ vC ⟨some l, n, z, h :: t⟩ := by
        rw [oPC]
        unfold vC
        rw [pl_append]
        show 2 * (pl fC t * (fC r * 1)) ≤ _
        have : fC r ≤ 4 := by unfold fC; rw [if_neg (by simp [r0])]; split <;> omega
        have : pl fC t * (fC r * 1) ≤ pl fC t * 4 := Nat.mul_le_mul_left _ (by omega)
        omega
      refine ⟨⟨sh, by simp at hlen ⊢; omega, ?_, hxe, ?_, ?_, ?_, hz, Nat.le_trans nPE hfe, Nat.le_trans nPN hfn⟩, t_half nPE nPN nPC⟩
      · intro g hg
        simp only [List.mem_append, List.mem_singleton] at hg
        rcases hg with hg | rfl
        · exact hx g (by simp [hg])
        · rw [r0]; simp
      · refine ⟨Y, S, Nat.le_trans (Nat.mul_le_mul_left _ nPE) hY, Nat.le_trans (Nat.mul_le_mul (Nat.mul_le_mul_left _ nPE) nPE) hS, ?_, he⟩
        intro g hg hg1
        simp only [List.mem_append, List.mem_singleton] at hg
        rcases hg with hg | rfl
        · exact hq g (by simp [hg]) hg1
        · exact absurd r0 hg1
      · refine ⟨max Sn SN, ?_, ?_, fun g hg => ⟨(hn g hg).1, Nat.le_trans (hn g hg).2 (Nat.le_max_left _ _)⟩⟩
        · rcases Nat.le_total Sn SN with q | q
          · rw [Nat.max_eq_right q]
            exact Nat.le_trans (Nat.mul_le_mul_left _ (Nat.le_trans nPN hfn)) c_ksn
          · rw [Nat.max_eq_left q]
            exact Nat.le_trans (Nat.mul_le_mul_left _ nPN) hSn
        · intro g hg hg1 hg2
          simp only [List.mem_append, List.mem_singleton] at hg
          rcases hg with hg | rfl
          · have := hqn g (by simp [hg]) hg1 hg2
            exact ⟨this.1, Nat.le_trans this.2 (Nat.le_max_left _ _)⟩
          · exact ⟨ry, Nat.le_trans rs (Nat.le_max_right _ _)⟩
      · intro g hg hg1 hg2
        simp only [List.mem_append, List.mem_singleton] at hg
        rcases hg with hg | rfl
        · exact hP g (by simp [hg]) hg1 hg2
        · exact Nat.le_trans rs c_kp2
    · rw [if_neg h0] at sh ⊢
      have r0 : r.1 ≠ 0 := h0
      simp only [Option.toList_some] at sh ⊢
      have lvr : lv sx (some r) = r.1 := rfl
      have sg := eu.sg r0
      have pd := pl_div (F := fE) (t := t) hl eu r0 (fE_r r0 (.inr ⟨eu.lt, sg⟩))
      have nE : vE ⟨some r, n, z, t ++ [l]⟩ = lf r.1 * (pl (fE r.1) t * l.1.natAbs) := by
        unfold vE
        rw [pl_append]
        show lf r.1 * (pl (fE r.1) t * (fE r.1 l * 1)) = _
        have : fE r.1 l = l.1.natAbs := by unfold fE; rw [if_pos hl, w_self r0 eu.lt sg]
        rw [this, Nat.mul_one]
      rw [← nE, ← oPE] at pd
      obtain ⟨pd1, pd2⟩ := pd
      have nPN : vN ⟨some r, n, z, t ++ [l]⟩ ≤ vN ⟨some l, n, z, h :: t⟩ := by
        rw [oPN]
        unfold vN
        rw [pl_append]
        refine Nat.mul_le_mul_left _ ?_
        show pl (fN (lv sy n)) t * (fN (lv sy n) l * 1) ≤ _
        have : fN (lv sy n) l = KN := by unfold fN; rw [if_pos hl]
        rw [this, Nat.mul_one, Nat.mul_comm]; exact Nat.le_refl _
      have nPC : vC ⟨some r, n, z, t ++ [l]⟩ ≤ vC ⟨some l, n, z, h :: t⟩ := by
        rw [oPC]
        unfold vC
        rw [pl_append]
        show pl fC t * (fC l * 1) ≤ _
        have : fC l = 8 := by unfold fC; rw [if_pos hl]
        rw [this]; omega
      have nPE : vE ⟨some r, n, z, t ++ [l]⟩ ≤ vE ⟨some l, n, z, h :: t⟩ := by omega
      refine ⟨⟨sh, by simp at hlen ⊢; omega, ?_, ?_, ?_, ?_, ?_, hz, Nat.le_trans nPE hfe, Nat.le_trans nPN hfn⟩, t_half1 pd2 nPN nPC⟩
      · intro g hg
        simp only [List.mem_append, List.mem_singleton] at hg
        rcases hg with hg | rfl
        · exact hx g (by simp [hg])
        · exact hlX
      · intro g hg
        cases hg
        have := eu.lt; omega
      · refine ⟨(1 + q.natAbs) * Y, (1 + q.natAbs) * (S + 3 * KX * Y), ?_, ?_, ?_, ?_⟩
        · have := Nat.mul_le_mul_left Y pd1
          rw [← Nat.mul_assoc, Nat.mul_comm Y] at this
          exact Nat.le_trans this hY
        · generalize hp' : vE ⟨some r, n, z, t ++ [l]⟩ = p' at *
          generalize hp : vE ⟨some l, n, z, h :: t⟩ = p at *
          generalize hk : 1 + q.natAbs = k at *
          have a1 : k * (S + 3 * KX * Y) * p' = (S + 3 * KX * Y) * (k * p') := by rw [Nat.mul_comm k, Nat.mul_assoc]
          rw [a1]
          have a2 : (S + 3 * KX * Y) * (k * p') * p' ≤ (S + 3 * KX * Y) * p * p' := Nat.mul_le_mul_right _ (Nat.mul_le_mul_left _ pd1)
          have a3 : 2 * ((S + 3 * KX * Y) * p * p') ≤ (S + 3 * KX * Y) * p * p := by
            rw [Nat.mul_left_comm]; exact Nat.mul_le_mul_left _ pd2
          have a4 : (S + 3 * KX * Y) * p * p = S * p * p + 3 * KX * (Y * p) * p := by
            rw [Nat.add_mul, Nat.add_mul]; rw [Nat.mul_assoc (3 * KX) Y p]
          have a5 : 3 * KX * (Y * p) * p ≤ 3 * KX * KY * FE0 := Nat.mul_le_mul (Nat.mul_le_mul_left _ hY) hfe
          have a6 := c_ks
          omega
        · intro g hg hg1
          have yy : Y ≤ (1 + q.natAbs) * Y := Nat.le_mul_of_pos_left _ (by omega)
          have ss : S ≤ (1 + q.natAbs) * (S + 3 * KX * Y) := Nat.le_trans (Nat.le_add_right _ _) (Nat.le_mul_of_pos_left _ (by omega))
          simp only [List.mem_append, List.mem_singleton] at hg
          rcases hg with hg | rfl
          · have := hq g (by simp [hg]) hg1
            exact ⟨Nat.le_trans this.1 yy, Nat.le_trans this.2 ss⟩
          · exact ⟨Nat.le_trans hYl yy, Nat.le_trans hSl ss⟩
        · intro g hg
          cases hg
          exact ⟨ery, ers⟩
      · refine ⟨Sn, Nat.le_trans (Nat.mul_le_mul_left _ nPN) hSn, ?_, hn⟩
        intro g hg hg1 hg2
        simp only [List.mem_append, List.mem_singleton] at hg
        rcases hg with hg | rfl
        · exact hqn g (by simp [hg]) hg1 hg2
        · exact absurd hg1 hl
      · intro g hg hg1 hg2
        simp only [List.mem_append, List.mem_singleton] at hg
        rcases hg with hg | rfl
        · exact hP g (by simp [hg]) hg1 hg2
        · exact absurd hg1 hl
/-- a taking off by steps north -/
theorem bd_n {e n : Option T3} {z : Int} {h : T3} {t : List T3} (hh1 : h.1 = 0) (hh : h.2.1 ≠ 0) (B : Bd ⟨e, n, z, h :: t⟩) :
    Bd ⟨e, (tk sy n h).1, z, t ++ (tk sy n h).2.toList⟩ ∧
    2 * (vE ⟨e, (tk sy n h).1, z, t ++ (tk sy n h).2.toList⟩ * vN ⟨e, (tk sy n h).1, z, t ++ (tk sy n h).2.toList⟩ * vC ⟨e, (tk sy n h).1, z, t ++ (tk sy n h).2.toList⟩) ≤ vE ⟨e, n, z, h :: t⟩ * vN ⟨e, n, z, h :: t⟩ * vC ⟨e, n, z, h :: t⟩ := by
  have sh : Shp ⟨e, (tk sy n h).1, z, t ++ (tk sy n h).2.toList⟩ := by
    have := turn_shp B.shp
    unfold turn at this
    simp only [hh1, ne_eq, not_true_eq_false, if_false, if_pos hh] at this
    exact this
  obtain ⟨Y, S, hY, hS, hq, he⟩ := B.E
  obtain ⟨Sn, hSn, hqn, hn⟩ := B.N
  have hx := B.x; have hP := B.P; have hz := B.z; have hfe := B.fe; have hfn := B.fn; have hlen := B.len; have hxe := B.xe
  simp only at hq he hqn hn hx hP hz hlen hxe
  have hvNp := vN_pos ⟨e, n, z, h :: t⟩
  have oPE : vE ⟨e, n, z, h :: t⟩ = lf (lv sx e) * pl (fE (lv sx e)) t := by
    unfold vE; simp only [pl]; rw [show fE (lv sx e) h = 1 from by unfold fE; rw [if_neg (by simp [hh1])], Nat.one_mul]
  have oPN : vN ⟨e, n, z, h :: t⟩ = lf (lv sy n) * (w YN (lv sy n) h.2.1 * pl (fN (lv sy n)) t) := by
    unfold vN; simp only [pl]; rw [show fN (lv sy n) h = w YN (lv sy n) h.2.1 from by unfold fN; rw [if_neg (by simp [hh1]), if_pos hh]]
  have oPC : vC ⟨e, n, z, h :: t⟩ = 4 * pl fC t := by
    unfold vC; simp only [pl]; rw [show fC h = 4 from by unfold fC; rw [if_neg (by simp [hh1]), if_pos hh]]
  obtain ⟨hYh, hSh⟩ := hqn h (by simp) hh1 hh
  -- the east side stays
  have nE0 : ∀ (n' : Option T3) (o : List T3), (∀ g ∈ o, g.1 = 0) → vE ⟨e, n', z, t ++ o⟩ = vE ⟨e, n, z, h :: t⟩ := by
    intro n' o ho
    rw [oPE]
    unfold vE
    rw [pl_append]
    have : pl (fE (lv sx e)) o = 1 := by
      clear sh
      induction o with
      | nil => rfl
      | cons g o ih =>
        have hg := ho g (by simp)
        show fE (lv sx e) g * pl (fE (lv sx e)) o = 1
        rw [ih fun g hg => ho g (by simp [hg])]
        unfold fE; rw [if_neg (by simp [hg])]
    show lf (lv sx e) * (pl (fE (lv sx e)) t * pl (fE (lv sx e)) o) = _
    rw [this, Nat.mul_one]
  have keepE : ∀ (n' : Option T3) (o : List T3), (∀ g ∈ o, g.1 = 0) → ∃ Y S : Nat, Y * vE ⟨e, n', z, t ++ o⟩ ≤ KY ∧ S * vE ⟨e, n', z, t ++ o⟩ * vE ⟨e, n', z, t ++ o⟩ ≤ KS ∧ (∀ h ∈ t ++ o, h.1 ≠ 0 → h.2.1.natAbs ≤ Y ∧ h.2.2.natAbs ≤ S) ∧ (∀ h ∈ e, h.2.1.natAbs ≤ Y ∧ h.2.2.natAbs ≤ S) := by
    intro n' o ho
    rw [nE0 n' o ho]
    refine ⟨Y, S, hY, hS, ?_, he⟩
    intro g hg hg1
    simp only [List.mem_append] at hg
    rcases hg with hg | hg
    · exact hq g (by simp [hg]) hg1
    · exact absurd (ho g hg) hg1
  cases n with
  | none =>
    have e1 : tk sy none h = (some h, none) := rfl
    rw [e1] at sh ⊢
    have E0 := nE0 (some h) [] (by simp)
    have KE := keepE (some h) [] (by simp)
    simp only [Option.toList_none, List.append_nil] at sh E0 KE ⊢
    have nPN : vN ⟨e, some h, z, t⟩ ≤ vN ⟨e, none, z, h :: t⟩ := by
      rw [oPN]
      show lf (lv sy (some h)) * pl (fN (lv sy (some h))) t ≤ 1 * _
      have a1 : lf (lv sy (some h)) = h.2.1.natAbs := lf_ne hh
      have a2 : pl (fN (lv sy (some h))) t ≤ pl (fN (lv sy none)) t := pl_mono fun g _ => fN_r hh (.inl rfl) g
      rw [a1, Nat.one_mul]
      exact Nat.mul_le_mul (w_ge _ _ _) a2
    have nPC : 2 * vC ⟨e, some h, z, t⟩ ≤ vC ⟨e, none, z, h :: t⟩ := by
      rw [oPC]; show 2 * pl fC t ≤ _; omega
    refine ⟨⟨sh, by simp at hlen ⊢; omega, fun g hg => hx g (by simp [hg]), hxe, KE, ?_, fun g hg => hP g (by simp [hg]), hz, by rw [E0]; exact hfe, Nat.le_trans nPN hfn⟩, t_half (Nat.le_of_eq E0) nPN nPC⟩
    exact ⟨Sn, Nat.le_trans (Nat.mul_le_mul_left _ nPN) hSn, fun g hg => hqn g (by simp [hg]), fun g hg => by cases hg; exact ⟨hYh, hSh⟩⟩
  | some l =>
    obtain ⟨hl1, hl⟩ := B.shp.n l rfl
    obtain ⟨hYl, hSl⟩ := hn l rfl
    have eu := eu_any (X := YN) hl hYl hh
    have er : (put (pw l (0 - h.2.1.fdiv l.2.1)) h).2.1 = h.2.1 - h.2.1.fdiv l.2.1 * l.2.1 := by simp only [put, pw]; grind
    have er1 : (put (pw l (0 - h.2.1.fdiv l.2.1)) h).1 = 0 := by simp only [put, pw, hl1, hh1]; simp
    have ers := off_s0 (q := h.2.1.fdiv l.2.1) hl1 hSl hSh
    have hqX : (h.2.1.fdiv l.2.1).natAbs ≤ YN := Nat.le_trans eu.qh hYh
    have e1 : tk sy (some l) h = if sy (put (pw l (0 - h.2.1.fdiv l.2.1)) h) = 0 then (some l, some (put (pw l (0 - h.2.1.fdiv l.2.1)) h)) else (some (put (pw l (0 - h.2.1.fdiv l.2.1)) h), some l) := rfl
    rw [e1] at sh ⊢
    generalize hr : put (pw l (0 - h.2.1.fdiv l.2.1)) h = r at *
    rw [← er] at eu
    generalize hqq : h.2.1.fdiv l.2.1 = q at *
    have lvl : lv sy (some l) = l.2.1 := rfl
    rw [lvl] at oPN
    by_cases h0 : sy r = 0
    · rw [if_pos h0] at sh ⊢
      have r0 : r.2.1 = 0 := h0
      have E0 := nE0 (some l) [r] (by simp [er1])
      have KE := keepE (some l) [r] (by simp [er1])
      simp only [Option.toList_some] at sh E0 KE ⊢
      have nPN : vN ⟨e, some l, z, t ++ [r]⟩ ≤ vN ⟨e, some l, z, h :: t⟩ := by
        rw [oPN]
        unfold vN
        rw [pl_append]
        refine Nat.mul_le_mul_left _ ?_
        show pl (fN l.2.1) t * (fN l.2.1 r * 1) ≤ _
        have : fN l.2.1 r = 1 := by unfold fN; rw [if_neg (by simp [er1]), if_neg (by simp [r0])]
        rw [this, Nat.mul_one]
        exact Nat.le_mul_of_pos_left _ (w_pos hh)
      have hS1 : Sn ≤ KSN := le_of_mul hSn hvNp
      have rs : r.2.2.natAbs ≤ KP := by
        refine Nat.le_trans ers (Nat.le_trans (Nat.mul_le_mul (by omega) hS1) c_kp)
      have nPC : 2 * vC ⟨e, some l, z, t ++ [r]⟩ ≤ vC ⟨e, some l, z, h :: t⟩ := by
        rw [oPC]
        unfold vC
        rw [pl_append]
        show 2 * (pl fC t * (fC r * 1)) ≤ _
        have : fC r = 2 := by unfold fC; rw [if_neg (by simp [er1]), if_neg (by simp [r0])]
        rw [this]; omega
      refine ⟨⟨sh, by simp at hlen ⊢; omega, ?_, hxe, KE, ?_, ?_, hz, by rw [E0]; exact hfe, Nat.le_trans nPN hfn⟩, t_half (Nat.le_of_eq E0) nPN nPC⟩
      · intro g hg
        simp only [List.mem_append, List.mem_singleton] at hg
        rcases hg with hg | rfl
        · exact hx g (by simp [hg])
        · rw [er1]; simp
      · refine ⟨Sn, Nat.le_trans (Nat.mul_le_mul_left _ nPN) hSn, ?_, hn⟩
        intro g hg hg1 hg2
        simp only [List.mem_append, List.mem_singleton] at hg
        rcases hg with hg | rfl
        · exact hqn g (by simp [hg]) hg1 hg2
        · exact absurd r0 hg2
      · intro g hg hg1 hg2
        simp only [List.mem_append, List.mem_singleton] at hg
        rcases hg with hg | rfl
        · exact hP g (by simp [hg]) hg1 hg2
        · exact rs
    · rw [if_neg h0] at sh ⊢
      have r0 : r.2.1 ≠ 0 := h0
      have E0 := nE0 (some r) [l] (by simp [hl1])
      have KE := keepE (some r) [l] (by simp [hl1])
      simp only [Option.toList_some] at sh E0 KE ⊢
      have sg := eu.sg r0
      have pd := pl_div (F := fN) (t := t) hl eu r0 (fN_r r0 (.inr ⟨eu.lt, sg⟩))
      have nE : vN ⟨e, some r, z, t ++ [l]⟩ = lf r.2.1 * (pl (fN r.2.1) t * l.2.1.natAbs) := by
        unfold vN
        rw [pl_append]
        show lf r.2.1 * (pl (fN r.2.1) t * (fN r.2.1 l * 1)) = _
        have : fN r.2.1 l = l.2.1.natAbs := by unfold fN; rw [if_neg (by simp [hl1]), if_pos hl, w_self r0 eu.lt sg]
        rw [this, Nat.mul_one]
      rw [← nE, ← oPN] at pd
      obtain ⟨pd1, pd2⟩ := pd
      have nPC : vC ⟨e, some r, z, t ++ [l]⟩ ≤ vC ⟨e, some l, z, h :: t⟩ := by
        rw [oPC]
        unfold vC
        rw [pl_append]
        show pl fC t * (fC l * 1) ≤ _
        have : fC l = 4 := by unfold fC; rw [if_neg (by simp [hl1]), if_pos hl]
        rw [this]; omega
      have nPN : vN ⟨e, some r, z, t ++ [l]⟩ ≤ vN ⟨e, some l, z, h :: t⟩ := by omega
      refine ⟨⟨sh, by simp at hlen ⊢; omega, ?_, hxe, KE, ?_, ?_, hz, by rw [E0]; exact hfe, Nat.le_trans nPN hfn⟩, t_half2 (Nat.le_of_eq E0) pd2 nPC⟩
      · intro g hg
        simp only [List.mem_append, List.mem_singleton] at hg
        rcases hg with hg | rfl
        · exact hx g (by simp [hg])
        · rw [hl1]; simp
      · refine ⟨(1 + q.natAbs) * Sn, ?_, ?_, ?_⟩
        · have := Nat.mul_le_mul_left Sn pd1
          rw [← Nat.mul_assoc, Nat.mul_comm Sn] at this
          exact Nat.le_trans this hSn
        · intro g hg hg1 hg2
          have ss : Sn ≤ (1 + q.natAbs) * Sn := Nat.le_mul_of_pos_left _ (by omega)
          simp only [List.mem_append, List.mem_singleton] at hg
          rcases hg with hg | rfl
          · have := hqn g (by simp [hg]) hg1 hg2
            exact ⟨this.1, Nat.le_trans this.2 ss⟩
          · exact ⟨hYl, Nat.le_trans hSl ss⟩
        · intro g hg
          cases hg
          exact ⟨by have := eu.lt; omega, ers⟩
      · intro g hg hg1 hg2
        simp only [List.mem_append, List.mem_singleton] at hg
        rcases hg with hg | rfl
        · exact hP g (by simp [hg]) hg1 hg2
        · exact absurd hg2 hl
theorem bd_p {e n : Option T3} {z : Int} {h : T3} {t : List T3} (hh1 : h.1 = 0) (hh : h.2.1 = 0) (B : Bd ⟨e, n, z, h :: t⟩) :
    Bd ⟨e, n, Int.gcd z h.2.2, t⟩ ∧ 2 * (vE ⟨e, n, Int.gcd z h.2.2, t⟩ * vN ⟨e, n, Int.gcd z h.2.2, t⟩ * vC ⟨e, n, Int.gcd z h.2.2, t⟩) ≤ vE ⟨e, n, z, h :: t⟩ * vN ⟨e, n, z, h :: t⟩ * vC ⟨e, n, z, h :: t⟩ := by
  obtain ⟨Y, S, hY, hS, hq, he⟩ := B.E
  obtain ⟨Sn, hSn, hqn, hn⟩ := B.N
  have hx := B.x; have hP := B.P; have hz := B.z; have hfe := B.fe; have hfn := B.fn; have hlen := B.len; have hxe := B.xe
  simp only at hq he hqn hn hx hP hz hlen hxe
  have oPE : vE ⟨e, n, z, h :: t⟩ = vE ⟨e, n, Int.gcd z h.2.2, t⟩ := by
    unfold vE; simp only [pl]; rw [show fE (lv sx e) h = 1 from by unfold fE; rw [if_neg (by simp [hh1])], Nat.one_mul]
  have oPN : vN ⟨e, n, z, h :: t⟩ = vN ⟨e, n, Int.gcd z h.2.2, t⟩ := by
    unfold vN; simp only [pl]; rw [show fN (lv sy n) h = 1 from by unfold fN; rw [if_neg (by simp [hh1]), if_neg (by simp [hh])], Nat.one_mul]
  have oPC : vC ⟨e, n, z, h :: t⟩ = 2 * vC ⟨e, n, Int.gcd z h.2.2, t⟩ := by
    unfold vC; simp only [pl]; rw [show fC h = 2 from by unfold fC; rw [if_neg (by simp [hh1]), if_neg (by simp [hh])]]
  have hg : (Int.gcd z h.2.2) ≤ KP := by
    by_cases h0 : z = 0
    · subst h0
      rw [Int.gcd_zero_left]
      exact hP h (by simp) hh1 hh
    · have : Int.gcd z h.2.2 ≤ z.natAbs := Nat.le_of_dvd (by omega) (Int.gcd_dvd_natAbs_left _ _)
      omega
  refine ⟨⟨⟨B.shp.e, B.shp.n, Int.natCast_nonneg _⟩, by simp at hlen ⊢; omega, fun g hg => hx g (by simp [hg]), hxe, ?_, ?_, fun g hg => hP g (by simp [hg]), by simpa using hg, by rw [← oPE]; exact hfe, by rw [← oPN]; exact hfn⟩, t_half (Nat.le_of_eq oPE.symm) (Nat.le_of_eq oPN.symm) (Nat.le_of_eq oPC.symm)⟩
  · rw [oPE] at hY hS
    exact ⟨Y, S, hY, hS, fun g hg => hq g (by simp [hg]), he⟩
  · rw [oPN] at hSn
    exact ⟨Sn, hSn, fun g hg => hqn g (by simp [hg]), hn⟩
def vT (st : SS) : Nat := vE st * vN st * vC st
theorem vT_pos (st : SS) : 1 ≤ vT st := mul_pos1 (mul_pos1 (vE_pos st) (vN_pos st)) (vC_pos st)
theorem bd_turn {st : SS} (B : Bd st) (hq : st.q ≠ []) : Bd (turn st) ∧ 2 * vT (turn st) ≤ vT st := by
  obtain ⟨e, n, z, q⟩ := st
  cases q with
  | nil => exact absurd rfl hq
  | cons h t =>
    by_cases h1 : h.1 = 0
    · by_cases h2 : h.2.1 = 0
      · have e0 : turn ⟨e, n, z, h :: t⟩ = ⟨e, n, Int.gcd z h.2.2, t⟩ := by unfold turn; simp [h1, h2]
        rw [e0]; exact bd_p h1 h2 B
      · have e0 : turn ⟨e, n, z, h :: t⟩ = ⟨e, (tk sy n h).1, z, t ++ (tk sy n h).2.toList⟩ := by unfold turn; simp [h1, h2]
        rw [e0]; exact bd_n h1 h2 B
    · have e0 : turn ⟨e, n, z, h :: t⟩ = ⟨(tk sx e h).1, n, z, t ++ (tk sx e h).2.toList⟩ := by unfold turn; simp [h1]
      rw [e0]; exact bd_e h1 B
theorem sift_end : ∀ (n : Nat) {st : SS}, Bd st → vT st < 2 ^ n → Bd (sift n st) ∧ (sift n st).q = []
  | 0, st, B, h => absurd h (by have := vT_pos st; omega)
  | n + 1, st, B, h => by
    unfold sift
    split
    · rename_i q; exact ⟨B, q⟩
    · rename_i q
      obtain ⟨B', k⟩ := bd_turn B q
      refine sift_end n B' ?_
      rw [Nat.pow_succ] at h; omega
/-- a told move that the law draws -/
def Small (t : T3) : Prop := t.1.natAbs ≤ 128 ∧ t.2.1.natAbs ≤ 128 ∧ t.2.2.natAbs ≤ 8192
theorem bd_start {M : List T3} (hl : M.length ≤ 5) (hM : ∀ m ∈ M, Small m) : Bd ⟨none, none, 0, M⟩ ∧ vT ⟨none, none, 0, M⟩ < 2 ^ 5000 := by
  have kx : KX = 128 := by decide +kernel
  have p1 : vE ⟨none, none, 0, M⟩ ≤ FE0 := by
    show 1 * pl (fE 0) M ≤ FE0
    rw [Nat.one_mul]
    refine Nat.le_trans (pl_le (B := 2 ^ 9) ?_) (Nat.le_trans (Nat.pow_le_pow_right (by decide) hl) (by decide +kernel))
    intro h hh
    unfold fE; split
    · have := w_le (X := KX) (l := 0) (h := h.1) (by rw [kx]; exact (hM h hh).1)
      rw [kx] at this ⊢; omega
    · decide
  have p2 : vN ⟨none, none, 0, M⟩ ≤ FN0 := by
    show 1 * pl (fN 0) M ≤ FN0
    rw [Nat.one_mul]
    refine Nat.le_trans (pl_le (B := KN) ?_) (Nat.le_trans (Nat.pow_le_pow_right c_kn1 hl) (by decide +kernel))
    intro h hh
    unfold fN; split
    · exact Nat.le_refl _
    · split
      · refine Nat.le_trans (w_le ?_) c_kn
        exact Nat.le_trans (hM h hh).2.1 (by rw [← kx]; exact c_kxyn)
      · exact c_kn1
  have p3 : vC ⟨none, none, 0, M⟩ ≤ 8 ^ 5 := by
    refine Nat.le_trans (pl_le (B := 8) ?_) (Nat.pow_le_pow_right (by decide) hl)
    intro h hh
    unfold fC; split; omega; split <;> omega
  refine ⟨⟨⟨by simp, by simp, by simp⟩, hl, fun h hh => by rw [kx]; exact (hM h hh).1, by simp, ?_, ?_, ?_, by simp, p1, p2⟩, ?_⟩
  · refine ⟨128, 8192, Nat.le_trans (Nat.mul_le_mul_left _ p1) (by decide +kernel), Nat.le_trans (Nat.mul_le_mul (Nat.mul_le_mul_left _ p1) p1) (by decide +kernel), fun h hh _ => (hM h hh).2, by simp⟩
  · refine ⟨8192, Nat.le_trans (Nat.mul_le_mul_left _ p2) (by decide +kernel), fun h hh _ _ => ⟨Nat.le_trans (hM h hh).2.1 (by rw [← kx]; exact c_kxyn), (hM h hh).2.2⟩, by simp⟩
  · intro h hh _ _
    exact Nat.le_trans (hM h hh).2.2 (by decide +kernel)
  · unfold vT
    refine Nat.lt_of_le_of_lt (Nat.mul_le_mul (Nat.mul_le_mul p1 p2) p3) ?_
    have h1 : FE0 * FN0 * 8 ^ 5 < 2 ^ 400 := by decide +kernel
    exact Nat.lt_of_lt_of_le h1 (Nat.pow_le_pow_right (by decide) (by decide))
/-- what the walk asks of the sizes -/
structure Sz (t : T3) : Prop where
  x : t.1.natAbs < 2 ^ 8
  y : t.2.1.natAbs < 2 ^ 62
  s : t.2.2.natAbs < 2 ^ 488
theorem Bd.szq {st : SS} (B : Bd st) : ∀ h ∈ st.q, Sz h := by
  intro h hh
  obtain ⟨Y, S, hY, hS, hq, he⟩ := B.E
  obtain ⟨Sn, hSn, hqn, hn⟩ := B.N
  have hx : h.1.natAbs < 2 ^ 8 := Nat.lt_of_le_of_lt (B.x h hh) (by decide +kernel)
  by_cases h1 : h.1 = 0
  · by_cases h2 : h.2.1 = 0
    · exact ⟨hx, by rw [h2]; decide, Nat.lt_of_le_of_lt (B.P h hh h1 h2) (by decide +kernel)⟩
    · obtain ⟨a, b⟩ := hqn h hh h1 h2
      exact ⟨hx, Nat.lt_of_le_of_lt a (by decide +kernel), Nat.lt_of_le_of_lt (Nat.le_trans b (le_of_mul hSn (vN_pos st))) (by decide +kernel)⟩
  · obtain ⟨a, b⟩ := hq h hh h1
    exact ⟨hx, Nat.lt_of_le_of_lt (Nat.le_trans a (le_of_mul hY (vE_pos st))) (by decide +kernel), Nat.lt_of_le_of_lt (Nat.le_trans b (le_of_mul (le_of_mul hS (vE_pos st)) (vE_pos st))) (by decide +kernel)⟩
theorem Bd.sze {st : SS} (B : Bd st) : ∀ h ∈ st.e, Sz h := by
  intro h hh
  obtain ⟨Y, S, hY, hS, hq, he⟩ := B.E
  obtain ⟨a, b⟩ := he h hh
  exact ⟨Nat.lt_of_le_of_lt (B.xe h hh) (by decide +kernel), Nat.lt_of_le_of_lt (Nat.le_trans a (le_of_mul hY (vE_pos st))) (by decide +kernel), Nat.lt_of_le_of_lt (Nat.le_trans b (le_of_mul (le_of_mul hS (vE_pos st)) (vE_pos st))) (by decide +kernel)⟩
theorem Bd.szn {st : SS} (B : Bd st) : ∀ h ∈ st.n, Sz h := by
  intro h hh
  obtain ⟨Sn, hSn, hqn, hn⟩ := B.N
  obtain ⟨a, b⟩ := hn h hh
  exact ⟨by rw [(B.shp.n h hh).1]; decide, Nat.lt_of_le_of_lt a (by decide +kernel), Nat.lt_of_le_of_lt (Nat.le_trans b (le_of_mul hSn (vN_pos st))) (by decide +kernel)⟩
theorem Bd.szz {st : SS} (B : Bd st) : st.z.natAbs < 2 ^ 488 := Nat.lt_of_le_of_lt B.z (by decide +kernel)
/-- the law's form -/
def sifted (M : List T3) : SS := sift 5000 ⟨none, none, 0, M⟩
def formL (M : List T3) : Fm := lastF (sifted M).e (sifted M).n (stepZ (sifted M).e (sifted M).n (sifted M).z)
theorem formL_right {M : List T3} (hl : M.length ≤ 5) (hM : ∀ m ∈ M, Small m) : Right M (formL M) := by
  obtain ⟨B, hT⟩ := bd_start hl hM
  obtain ⟨B', hq⟩ := sift_end 5000 B hT
  have e : sifted M = ⟨(sifted M).e, (sifted M).n, (sifted M).z, []⟩ := by
    show sift 5000 _ = _
    rw [← hq]; rfl
  refine last_right (e ▸ B'.shp) fun S hS => ?_
  rw [← e]
  show Hold S (sift 5000 _) ↔ _
  rw [sift_hold hS]
  unfold Hold
  simp [hS.one]
end K67

namespace K67
/-! ### presses -/
def PR : List T3 → List Int → T3
  | m :: M, c :: u => put (pw m c) (PR M u)
  | _, _ => (0, 0, 0)
def pressL : T3 → List T3 → List Int → T3
  | acc, m :: M, c :: u => pressL (put acc (pw m c)) M u
  | acc, _, _ => acc
theorem pressL_eq : ∀ (M : List T3) (u : List Int) (acc : T3), pressL acc M u = put acc (PR M u)
  | m :: M, c :: u, acc => by
    show pressL (put acc (pw m c)) M u = put acc (put (pw m c) (PR M u))
    rw [pressL_eq M u, put_assoc]
  | [], _, acc => (put_one acc).symm
  | _ :: _, [], acc => (put_one acc).symm
def addL (u v : List Int) (c : Int) : List Int := List.zipWith (fun a b => a + c * b) u v
theorem addL_len {u v : List Int} {c : Int} (h : u.length = v.length) : (addL u v c).length = u.length := by simp [addL, h]
theorem PR_x : ∀ (M : List T3) (u v : List Int) (c : Int), u.length = M.length → v.length = M.length → (PR M (addL u v c)).1 = (PR M u).1 + c * (PR M v).1
  | [], u, v, c, hu, hv => by simp [PR]
  | m :: M, a :: u, b :: v, c, hu, hv => by
    have ih := PR_x M u v c (by simpa using hu) (by simpa using hv)
    have e : addL (a :: u) (b :: v) c = (a + c * b) :: addL u v c := rfl
    rw [e]
    simp only [PR, put, pw]
    rw [ih]; grind
theorem PR_y : ∀ (M : List T3) (u v : List Int) (c : Int), u.length = M.length → v.length = M.length → (PR M (addL u v c)).2.1 = (PR M u).2.1 + c * (PR M v).2.1
  | [], u, v, c, hu, hv => by simp [PR]
  | m :: M, a :: u, b :: v, c, hu, hv => by
    have ih := PR_y M u v c (by simpa using hu) (by simpa using hv)
    have e : addL (a :: u) (b :: v) c = (a + c * b) :: addL u v c := rfl
    rw [e]
    simp only [PR, put, pw]
    rw [ih]; grind
theorem gap_put (m a b : T3) : gap m (put a b) = gap m a + gap m b := by simp only [gap, put]; grind
theorem gap_pw (m a : T3) (c : Int) : gap m (pw a c) = c * gap m a := by simp only [gap, pw]; grind
theorem gap_zero (m : T3) : gap m (0, 0, 0) = 0 := by simp [gap]
theorem gap_PR {m : T3} {z : Int} : ∀ (M : List T3) (u : List Int), (∀ a ∈ M, ∃ k, gap m a = k * z) → ∃ k, gap m (PR M u) = k * z
  | [], u, _ => ⟨0, by simp [PR, gap_zero]⟩
  | a :: M, [], _ => ⟨0, by simp [PR, gap_zero]⟩
  | a :: M, c :: u, h => by
    obtain ⟨k, hk⟩ := h a (by simp)
    obtain ⟨j, hj⟩ := gap_PR M u fun x hx => h x (by simp [hx])
    exact ⟨c * k + j, by simp only [PR]; rw [gap_put, gap_pw, hk, hj]; grind⟩
theorem tri_mul (c b : Int) : tri (c * b) = c * tri b + tri c * (b * b) := by
  have h1 := tri2 (c * b); have h2 := tri2 c; have h3 := tri2 b
  generalize tri (c * b) = t1 at *
  generalize tri c = t2 at *
  generalize tri b = t3 at *
  have a : 2 * t1 = 2 * (c * t3 + t2 * (b * b)) := by
    have : 2 * (c * t3 + t2 * (b * b)) = c * (2 * t3) + (2 * t2) * (b * b) := by grind
    rw [this, h1, h2, h3]; grind
  omega
theorem hom_area (a b c mx my ms Px Py Ps Qx Qy Qs k z g1 g2 L : Int) (h1 : mx * Qy - Qx * my = g1 * z) (h2 : mx * Py - Px * my = g2 * z)
    (hL : L - (Ps + (c * Qs + tri c * Qx * Qy) + Px * (c * Qy)) = k * z) :
    ((a + c * b) * ms + tri (a + c * b) * mx * my + L + (a + c * b) * mx * (Py + c * Qy)) -
    ((a * ms + tri a * mx * my + Ps + a * mx * Py) + (c * (b * ms + tri b * mx * my + Qs + b * mx * Qy) + tri c * (b * mx + Qx) * (b * my + Qy)) + (a * mx + Px) * (c * (b * my + Qy))) = (k + tri c * b * g1 + c * b * g2) * z := by
  have t1 := tri_add a (c * b)
  have t2 := tri_mul c b
  have t3 := tri2 c
  rw [t1, t2]
  have e1 : tri c * b * (mx * Qy - Qx * my) = tri c * b * (g1 * z) := by rw [h1]
  have e2 : c * b * (mx * Py - Px * my) = c * b * (g2 * z) := by rw [h2]
  have e3 : c * c * (b * mx * Qy) = 2 * tri c * (b * mx * Qy) + c * (b * mx * Qy) := by
    rw [t3]; grind
  clear t1 t2 h1 h2 t3
  generalize tri c = tc at *
  generalize tri a = ta at *
  generalize tri b = tb at *
  grind
/-- the same steps, areas alike modulo z -/
def Eqz (z : Int) (g h : T3) : Prop := g.1 = h.1 ∧ g.2.1 = h.2.1 ∧ ∃ k, g.2.2 - h.2.2 = k * z
theorem PR_hom {z : Int} : ∀ (M : List T3) (u v : List Int) (c : Int), u.length = M.length → v.length = M.length → (∀ a ∈ M, ∀ b ∈ M, ∃ k, gap a b = k * z) →
    Eqz z (PR M (addL u v c)) (put (PR M u) (pw (PR M v) c))
  | [], u, v, c, hu, hv, _ => by simp [PR, Eqz, put, pw]; exact ⟨0, by simp⟩
  | m :: M, a :: u, b :: v, c, hu, hv, hg => by
    have ih := PR_hom (z := z) M u v c (by simpa using hu) (by simpa using hv) fun x hx y hy => hg x (by simp [hx]) y (by simp [hy])
    have e : addL (a :: u) (b :: v) c = (a + c * b) :: addL u v c := rfl
    obtain ⟨g1, h1⟩ := gap_PR (m := m) (z := z) M v fun x hx => hg m (by simp) x (by simp [hx])
    obtain ⟨g2, h2⟩ := gap_PR (m := m) (z := z) M u fun x hx => hg m (by simp) x (by simp [hx])
    rw [e]
    obtain ⟨i1, i2, k, i3⟩ := ih
    simp only [PR]
    generalize PR M (addL u v c) = L at *
    generalize PR M u = P at *
    generalize PR M v = Q at *
    simp only [gap] at h1 h2
    simp only [put, pw] at i1 i2 i3
    refine ⟨?_, ?_, ?_⟩
    · simp only [put, pw]; rw [i1]; grind
    · simp only [put, pw]; rw [i2]; grind
    · refine ⟨k + tri c * b * g1 + c * b * g2, ?_⟩
      have := hom_area a b c m.1 m.2.1 m.2.2 P.1 P.2.1 P.2.2 Q.1 Q.2.1 Q.2.2 k z g1 g2 L.2.2 (by rw [← h1]) (by rw [← h2]) (by rw [← i3])
      rw [← this]
      simp only [put, pw]
      rw [i2]
def zeros (n : Nat) : List Int := List.replicate n 0
def uvec : Nat → Nat → List Int
  | 0, _ => []
  | n + 1, 0 => 1 :: zeros n
  | n + 1, i + 1 => 0 :: uvec n i
theorem PR_zeros : ∀ (M : List T3) (n : Nat), PR M (zeros n) = (0, 0, 0)
  | [], _ => by simp [PR]
  | m :: M, 0 => rfl
  | m :: M, n + 1 => by
    show put (pw m 0) (PR M (zeros n)) = _
    rw [PR_zeros M n, pw_zero, put_one]
theorem PR_uvec : ∀ (M : List T3) (i : Nat) {m : T3}, M[i]? = some m → PR M (uvec M.length i) = m
  | [], i, m, h => by simp at h
  | a :: M, 0, m, h => by
    simp at h; subst h
    show put (pw a 1) (PR M (zeros M.length)) = a
    rw [PR_zeros, pw_one, put_one]
  | a :: M, i + 1, m, h => by
    show put (pw a 0) (PR M (uvec M.length i)) = m
    rw [pw_zero, one_put]
    exact PR_uvec M i (by simpa using h)
theorem uvec_len : ∀ n i, (uvec n i).length = n
  | 0, _ => rfl
  | n + 1, 0 => by simp [uvec, zeros]
  | n + 1, i + 1 => by simp [uvec, uvec_len n i]
theorem uvec_get : ∀ n i k, k < n → (uvec n i)[k]? = some (if k = i then 1 else 0)
  | 0, _, k, h => by omega
  | n + 1, 0, 0, h => by simp [uvec]
  | n + 1, 0, k + 1, h => by
    have : k < n := by omega
    simp [uvec, zeros, List.getElem?_replicate, this]
  | n + 1, i + 1, 0, h => by simp [uvec]
  | n + 1, i + 1, k + 1, h => by
    have := uvec_get n i k (by omega)
    simp [uvec, this]
theorem uvec_eq (n i : Nat) : uvec n i = (List.range n).map fun k => if k = i then 1 else 0 := by
  apply List.ext_getElem?
  intro k
  by_cases h : k < n
  · rw [uvec_get n i k h]; simp [h]
  · rw [List.getElem?_eq_none (by rw [uvec_len]; omega), List.getElem?_eq_none (by simp; omega)]
def ClosedP (n : Nat) (P : List Int → Prop) : Prop := ∀ u v c, u.length = n → v.length = n → P u → P v → P (addL u v c)
def gcdL (l : List Int) : Int := l.foldl (fun g a => (Int.gcd g a : Int)) 0
theorem gcdL_fold_nonneg : ∀ (l : List Int) (g : Int), 0 ≤ g → 0 ≤ l.foldl (fun g a => (Int.gcd g a : Int)) g
  | [], g, h => h
  | a :: l, g, _ => gcdL_fold_nonneg l _ (Int.natCast_nonneg _)
theorem gcdL_fold_dvd : ∀ (l : List Int) (g : Int), (l.foldl (fun g a => (Int.gcd g a : Int)) g ∣ g) ∧ ∀ a ∈ l, l.foldl (fun g a => (Int.gcd g a : Int)) g ∣ a
  | [], g => ⟨Int.dvd_refl _, by simp⟩
  | a :: l, g => by
    obtain ⟨h1, h2⟩ := gcdL_fold_dvd l (Int.gcd g a)
    refine ⟨Int.dvd_trans h1 (Int.gcd_dvd_left _ _), ?_⟩
    intro b hb
    rcases List.mem_cons.1 hb with rfl | hb
    · exact Int.dvd_trans h1 (Int.gcd_dvd_right _ _)
    · exact h2 b hb
theorem gcdL_fold_in {S : T3 → Prop} (hS : Sub S) : ∀ (l : List Int) (g : Int), S (0, 0, g) → (∀ a ∈ l, S (0, 0, a)) → S (0, 0, l.foldl (fun g a => (Int.gcd g a : Int)) g)
  | [], g, h, _ => h
  | a :: l, g, h, k => gcdL_fold_in hS l _ ((sub_gcd hS g a).2 ⟨h, k a (by simp)⟩) fun b hb => k b (by simp [hb])
theorem Eqz.mem {F : Fm} {S : T3 → Prop} {z : Int} (hS : Sub S) (hz : S (0, 0, z)) {g h : T3} (e : Eqz z g h) (hh : S h) : S g := by
  obtain ⟨x, y, s⟩ := g
  obtain ⟨x', y', s'⟩ := h
  obtain ⟨e1, e2, k, e3⟩ := e
  simp only at e1 e2 e3
  subst e1; subst e2
  exact hS.shift hh (by rw [e3]; exact hS.cmul hz k)
/-- the form that is read off shares -/
def partF (M : List T3) (z : Int) (o : Option (List Int)) : T3 := match o with
  | none => (0, 0, 0)
  | some u => ((PR M u).1, (PR M u).2.1, if z = 0 then (PR M u).2.2 else (PR M u).2.2 % z)
structure Parts (M : List T3) (eo no : Option (List Int)) (rests : List (List Int)) : Prop where
  le : ∀ u ∈ eo, u.length = M.length
  ln : ∀ u ∈ no, u.length = M.length
  lr : ∀ u ∈ rests, u.length = M.length
  ex : ∀ u ∈ eo, 0 < (PR M u).1
  nx : ∀ u ∈ no, (PR M u).1 = 0
  ny : ∀ u ∈ no, 0 < (PR M u).2.1
  rx : ∀ u ∈ rests, (PR M u).1 = 0
  ry : ∀ u ∈ rests, (PR M u).2.1 = 0
  ey : ∀ u ∈ eo, ∀ v ∈ no, 0 ≤ (PR M u).2.1 ∧ (PR M u).2.1 < (PR M v).2.1
  span : ∀ P, ClosedP M.length P → (∀ u ∈ eo, P u) → (∀ u ∈ no, P u) → (∀ u ∈ rests, P u) → ∀ i, i < M.length → P (uvec M.length i)
structure Areas (M : List T3) (rests : List (List Int)) (areas : List Int) : Prop where
  i : ∀ a ∈ areas, (∃ r ∈ rests, a = (PR M r).2.2) ∨ ∃ m ∈ M, ∃ m' ∈ M, a = gap m m'
  r : ∀ r ∈ rests, (PR M r).2.2 ∈ areas
  g : ∀ (i j : Nat) (m m' : T3), i < j → M[i]? = some m → M[j]? = some m' → gap m m' ∈ areas
theorem gap_neg (a b : T3) : gap a b = -gap b a := by simp only [gap]; grind
theorem parts_right {M : List T3} {eo no : Option (List Int)} {rests : List (List Int)} {areas : List Int} (p : Parts M eo no rests) (ar : Areas M rests areas) :
    Right M ⟨partF M (gcdL areas) eo, partF M (gcdL areas) no, gcdL areas⟩ := by
  have z0 : 0 ≤ gcdL areas := gcdL_fold_nonneg _ _ (Int.le_refl _)
  have zd := (gcdL_fold_dvd areas 0).2
  have zin : ∀ S, Sub S → (∀ a ∈ areas, S (0, 0, a)) → S (0, 0, gcdL areas) := fun S hS h => gcdL_fold_in hS areas 0 hS.one h
  have zd' : ∀ a ∈ areas, ∃ k, a = k * gcdL areas := fun a ha => by
    obtain ⟨k, hk⟩ := zd a ha
    exact ⟨k, by rw [hk]; exact Int.mul_comm _ _⟩
  generalize gcdL areas = z at *
  clear zd
  -- all gaps
  have hg : ∀ a ∈ M, ∀ b ∈ M, ∃ k, gap a b = k * z := by
    intro a ha b hb
    obtain ⟨i, hi, rfl⟩ := List.getElem_of_mem ha
    obtain ⟨j, hj, rfl⟩ := List.getElem_of_mem hb
    rcases Nat.lt_trichotomy i j with h | h | h
    · exact zd' _ (ar.g i j _ _ h (List.getElem?_eq_getElem hi) (List.getElem?_eq_getElem hj))
    · subst h; exact ⟨0, by simp [gap]⟩
    · obtain ⟨k, hk⟩ := zd' _ (ar.g j i _ _ h (List.getElem?_eq_getElem hj) (List.getElem?_eq_getElem hi))
      exact ⟨-k, by rw [gap_neg, hk]; grind⟩
  have pe : ∀ u : List Int, Eqz z (PR M u) ((PR M u).1, (PR M u).2.1, if z = 0 then (PR M u).2.2 else (PR M u).2.2 % z) := by
    intro u
    refine ⟨rfl, rfl, ?_⟩
    simp only
    split
    · exact ⟨0, by omega⟩
    · exact ⟨(PR M u).2.2 / z, by rw [Int.emod_def]; grind⟩
  have pe' : ∀ u : List Int, Eqz z ((PR M u).1, (PR M u).2.1, if z = 0 then (PR M u).2.2 else (PR M u).2.2 % z) (PR M u) := by
    intro u
    obtain ⟨_, _, k, hk⟩ := pe u
    exact ⟨rfl, rfl, -k, by rw [Int.neg_mul, ← hk]; omega⟩
  have C : Canon ⟨partF M z eo, partF M z no, z⟩ := by
    refine ⟨?_, ?_, ?_, ?_, ?_, z0, ?_, ?_, ?_, ?_⟩
    · cases eo with
      | none => exact Int.le_refl _
      | some u => exact Int.le_of_lt (p.ex u rfl)
    · cases eo with
      | none => intro _; rfl
      | some u => intro h; have := p.ex u rfl; have h : (PR M u).1 = 0 := h; omega
    · cases no with
      | none => rfl
      | some u => exact p.nx u rfl
    · cases no with
      | none => exact Int.le_refl _
      | some u => exact Int.le_of_lt (p.ny u rfl)
    · cases no with
      | none => intro _; rfl
      | some u => intro h; have := p.ny u rfl; have h : (PR M u).2.1 = 0 := h; omega
    · cases eo with
      | none => exact ⟨0, by simp [partF]⟩
      | some u =>
        cases no with
        | none => exact ⟨0, by simp [partF]⟩
        | some v =>
          have h1 : ∀ a ∈ M, ∃ k, gap (PR M v) a = k * z := fun a ha => by
            obtain ⟨k, hk⟩ := gap_PR (m := a) (z := z) M v fun b hb => hg a ha b hb
            exact ⟨-k, by rw [gap_neg, hk]; grind⟩
          obtain ⟨k, hk⟩ := gap_PR (m := PR M v) (z := z) M u h1
          have hx := p.nx v rfl
          refine ⟨-k, ?_⟩
          simp only [partF]
          simp only [gap, hx] at hk
          rw [Int.neg_mul, ← hk]; grind
    · cases no with
      | none => intro h; exact absurd h (by simp [partF])
      | some v =>
        intro _
        cases eo with
        | none => exact ⟨Int.le_refl _, p.ny v rfl⟩
        | some u => exact p.ey u rfl v rfl
    · intro h
      have h : 0 < z := h
      cases eo with
      | none => exact ⟨Int.le_refl _, h⟩
      | some u =>
        simp only [partF]
        rw [if_neg (by omega)]
        exact ⟨Int.emod_nonneg _ (by omega), Int.emod_lt_of_pos _ h⟩
    · intro h
      have h : 0 < z := h
      cases no with
      | none => exact ⟨Int.le_refl _, h⟩
      | some u =>
        simp only [partF]
        rw [if_neg (by omega)]
        exact ⟨Int.emod_nonneg _ (by omega), Int.emod_lt_of_pos _ h⟩
  have S := mem_sub C
  have zm : mem ⟨partF M z eo, partF M z no, z⟩ (0, 0, z) := by
    have := mem_z C 1
    rwa [Int.one_mul] at this
  refine Right.of_parts C fun T hT => ?_
  constructor
  · rintro ⟨hE, hN, hZ⟩ m hm
    obtain ⟨i, hi, rfl⟩ := List.getElem_of_mem hm
    have key := p.span (fun u => T (PR M u)) (fun u v c hu hv pu pv => (PR_hom M u v c hu hv hg).mem (F := ⟨partF M z eo, partF M z no, z⟩) hT hZ (hT.mul pu (hT.pow pv c)))
      (fun u hu => by subst hu; exact (pe u).mem (F := ⟨partF M z none, partF M z no, z⟩) hT hZ hE)
      (fun u hu => by subst hu; exact (pe u).mem (F := ⟨partF M z eo, partF M z none, z⟩) hT hZ hN)
      (fun u hu => by
        have e : PR M u = (0, 0, (PR M u).2.2) := t3_ext (p.rx u hu) (p.ry u hu) rfl
        show T (PR M u)
        rw [e]
        obtain ⟨k, hk⟩ := zd' _ (ar.r u hu)
        rw [hk]; exact hT.cmul hZ k) i hi
    have e : PR M (uvec M.length i) = M[i] := PR_uvec M i (List.getElem?_eq_getElem hi)
    have key : T (PR M (uvec M.length i)) := key
    rw [e] at key
    exact key
  · intro h
    have hPR : ∀ (N : List T3) (u : List Int), (∀ m ∈ N, T m) → T (PR N u) := by
      intro N
      induction N with
      | nil => intro u _; simpa [PR] using hT.one
      | cons m N ih =>
        intro u hN
        cases u with
        | nil => simpa [PR] using hT.one
        | cons c u => exact hT.mul (hT.pow (hN m (by simp)) c) (ih u fun x hx => hN x (by simp [hx]))
    have hz : T (0, 0, z) := zin T hT fun a ha => by
      rcases ar.i a ha with ⟨r, hr, rfl⟩ | ⟨m, hm, m', hm', rfl⟩
      · have e : PR M r = (0, 0, (PR M r).2.2) := t3_ext (p.rx r hr) (p.ry r hr) rfl
        rw [← e]; exact hPR M r h
      · exact hT.gap (h m hm) (h m' hm')
    refine ⟨?_, ?_, hz⟩
    · cases eo with
      | none => exact hT.one
      | some u => exact (pe' u).mem (F := ⟨partF M z none, partF M z no, z⟩) hT hz (hPR M u h)
    · cases no with
      | none => exact hT.one
      | some u => exact (pe' u).mem (F := ⟨partF M z eo, partF M z none, z⟩) hT hz (hPR M u h)

/-! ### rows -/
structure Rw where
  p : Int
  q : Int
  sh : List Int
def Rw.at (r : Rw) (i : Nat) : Int := if i = 0 then r.p else r.q
def addR (f s : Rw) (c : Int) : Rw := ⟨f.p + c * s.p, f.q + c * s.q, addL f.sh s.sh c⟩
theorem addR_at (f s : Rw) (c : Int) (i : Nat) : (addR f s c).at i = f.at i + c * s.at i := by unfold Rw.at addR; split <;> rfl
structure Con (M : List T3) (r : Rw) : Prop where
  l : r.sh.length = M.length
  x : r.p = (PR M r.sh).1
  y : r.q = (PR M r.sh).2.1
theorem Con.add {M : List T3} {f s : Rw} (a : Con M f) (b : Con M s) (c : Int) : Con M (addR f s c) where
  l := by show (addL f.sh s.sh c).length = _; rw [addL_len (a.l.trans b.l.symm), a.l]
  x := by show f.p + c * s.p = _; rw [a.x, b.x]; exact (PR_x M _ _ c a.l b.l).symm
  y := by show f.q + c * s.q = _; rw [a.y, b.y]; exact (PR_y M _ _ c a.l b.l).symm
structure Sm (B : Nat) (r : Rw) : Prop where
  p : r.p.natAbs ≤ B
  q : r.q.natAbs ≤ B
  sh : ∀ c ∈ r.sh, c.natAbs ≤ B
theorem Sm.mono {B C : Nat} {r : Rw} (h : Sm B r) (k : B ≤ C) : Sm C r := ⟨Nat.le_trans h.p k, Nat.le_trans h.q k, fun c hc => Nat.le_trans (h.sh c hc) k⟩
theorem na_add {a b c : Int} {A B : Nat} (ha : a.natAbs ≤ A) (hb : b.natAbs ≤ B) : (a + c * b).natAbs ≤ A + c.natAbs * B := by
  have h1 := Int.natAbs_add_le a (c * b)
  rw [Int.natAbs_mul] at h1
  have := Nat.mul_le_mul_left c.natAbs hb
  omega
theorem addL_mem {A B : Nat} {c : Int} : ∀ {u v : List Int}, (∀ x ∈ u, x.natAbs ≤ A) → (∀ x ∈ v, x.natAbs ≤ B) → ∀ x ∈ addL u v c, x.natAbs ≤ A + c.natAbs * B
  | [], v, _, _, x, hx => by simp [addL] at hx
  | a :: u, [], _, _, x, hx => by simp [addL] at hx
  | a :: u, b :: v, h1, h2, x, hx => by
    have e : addL (a :: u) (b :: v) c = (a + c * b) :: addL u v c := rfl
    rw [e] at hx
    rcases List.mem_cons.1 hx with rfl | hx
    · exact na_add (h1 a (by simp)) (h2 b (by simp))
    · exact addL_mem (fun y hy => h1 y (by simp [hy])) (fun y hy => h2 y (by simp [hy])) x hx
theorem Sm.add {A B : Nat} {f s : Rw} (a : Sm A f) (b : Sm B s) (c : Int) : Sm (A + c.natAbs * B) (addR f s c) := ⟨na_add a.p b.p, na_add a.q b.q, addL_mem a.sh b.sh⟩
/-- the exact sizes of one division -/
theorem eu_sum {l h : Int} (hl : l ≠ 0) : (h - h.fdiv l * l).natAbs < l.natAbs ∧ ((h - h.fdiv l * l) ≠ 0 → (0 < (h - h.fdiv l * l) ↔ 0 < l)) ∧
    ((h.fdiv l).natAbs * l.natAbs + (h - h.fdiv l * l).natAbs = h.natAbs ∨ (((h < 0 ∧ 0 < l) ∨ (0 < h ∧ l < 0)) ∧ (h.fdiv l).natAbs * l.natAbs = h.natAbs + (h - h.fdiv l * l).natAbs)) := by
  have pos : ∀ {l h : Int}, 0 < l → (h - h / l * l).natAbs < l.natAbs ∧ 0 ≤ h - h / l * l ∧
      ((h / l).natAbs * l.natAbs + (h - h / l * l).natAbs = h.natAbs ∨ (h < 0 ∧ (h / l).natAbs * l.natAbs = h.natAbs + (h - h / l * l).natAbs)) := by
    intro l h hl
    have hd := Int.emod_add_mul_ediv h l
    have r0 := Int.emod_nonneg h (show l ≠ 0 by omega)
    have r1 := Int.emod_lt_of_pos h hl
    have er : h - h / l * l = h % l := by rw [Int.mul_comm (h / l)]; omega
    rw [er]
    generalize h % l = r at *
    generalize h / l = q at *
    have e : q.natAbs * l.natAbs = (l * q).natAbs := by rw [← Int.natAbs_mul, Int.mul_comm]
    rw [e]
    rcases Int.lt_or_le q 0 with hq | hq
    · have : l * q ≤ l * (-1) := Int.mul_le_mul_of_nonneg_left (by omega) (by omega)
      refine ⟨by omega, r0, .inr ⟨by omega, by omega⟩⟩
    · have : 0 ≤ l * q := Int.mul_nonneg (by omega) hq
      refine ⟨by omega, r0, .inl (by omega)⟩
  by_cases p : 0 < l
  · have e : h.fdiv l = h / l := Int.fdiv_eq_ediv_of_nonneg _ (by omega)
    rw [e]
    obtain ⟨a, b, c⟩ := pos (h := h) p
    refine ⟨a, fun _ => by omega, ?_⟩
    rcases c with c | ⟨c1, c2⟩
    · exact .inl c
    · exact .inr ⟨.inl ⟨c1, p⟩, c2⟩
  · have e : h.fdiv l = (-h) / (-l) := by
      rw [← Int.neg_fdiv_neg]
      exact Int.fdiv_eq_ediv_of_nonneg _ (by omega)
    rw [e]
    obtain ⟨a, b, c⟩ := pos (l := -l) (h := -h) (by omega)
    generalize -h / -l = q at *
    have e2 : -h - q * -l = -(h - q * l) := by grind
    rw [e2] at a b c
    rw [Int.natAbs_neg, Int.natAbs_neg] at a c
    rw [Int.natAbs_neg] at c
    refine ⟨a, fun _ => by omega, ?_⟩
    rcases c with c | ⟨c1, c2⟩
    · exact .inl c
    · exact .inr ⟨.inr ⟨by omega, by omega⟩, c2⟩
/-- the two rows of the inner loop -/
structure Wh (M : List T3) (i : Nat) (U C : Nat) (f0 s0 f s : Rw) : Prop where
  cf : Con M f
  cs : Con M s
  ne : f.at i ≠ 0
  uf : (f.at i).natAbs ≤ U
  us : (s.at i).natAbs ≤ U
  sz : ∃ A B : Nat, Sm A f ∧ Sm B s ∧ A ≤ C ∧ A * (s.at i).natAbs + B * (f.at i).natAbs + (if (f.at i < 0 ∧ 0 < s.at i) ∨ (0 < f.at i ∧ s.at i < 0) then 2 * B * (s.at i).natAbs else 0) ≤ C
  sp : ∀ P, ClosedP M.length P → P f.sh → P s.sh → P f0.sh ∧ P s0.sh
  px : f0.p = 0 → s0.p = 0 → f.p = 0 ∧ s.p = 0
theorem Wh.start {M : List T3} {i U B : Nat} {f s : Rw} (cf : Con M f) (cs : Con M s) (ne : f.at i ≠ 0) (uf : (f.at i).natAbs ≤ U) (us : (s.at i).natAbs ≤ U) (hf : Sm B f) (hs : Sm B s) : Wh M i U (4 * U * B) f s f s := by
  refine ⟨cf, cs, ne, uf, us, ⟨B, B, hf, hs, ?_, ?_⟩, fun P _ a b => ⟨a, b⟩, fun a b => ⟨a, b⟩⟩
  · have : 1 * B ≤ 4 * U * B := Nat.mul_le_mul_right _ (by omega)
    omega
  · have h1 : B * (s.at i).natAbs ≤ B * U := Nat.mul_le_mul_left _ us
    have h2 : B * (f.at i).natAbs ≤ B * U := Nat.mul_le_mul_left _ uf
    have h3 : 4 * U * B = 4 * (B * U) := by rw [Nat.mul_assoc, Nat.mul_comm U B]
    have h4 : 2 * B * (s.at i).natAbs = 2 * (B * (s.at i).natAbs) := Nat.mul_assoc _ _ _
    rw [h3, h4]
    split <;> omega
theorem back_add {u v : List Int} {c : Int} : ∀ (_ : u.length = v.length), addL (addL u v c) v (-c) = u := by
  induction u generalizing v with
  | nil => intro h; simp [addL]
  | cons a u ih =>
    intro h
    cases v with
    | nil => simp at h
    | cons b v =>
      show (a + c * b + -c * b) :: addL (addL u v c) v (-c) = a :: u
      rw [ih (by simpa using h)]
      congr 1
      grind
theorem Wh.step {M : List T3} {i U C : Nat} {f0 s0 f s : Rw} (h : Wh M i U C f0 s0 f s) (hs : s.at i ≠ 0) :
    Wh M i U C f0 s0 s (addR f s (-((f.at i).fdiv (s.at i)))) ∧ ((addR f s (-((f.at i).fdiv (s.at i)))).at i).natAbs < (s.at i).natAbs := by
  have e := eu_sum (h := f.at i) hs
  have ea : (addR f s (-((f.at i).fdiv (s.at i)))).at i = f.at i - (f.at i).fdiv (s.at i) * s.at i := by rw [addR_at]; grind
  rw [← ea] at e
  obtain ⟨e1, e2, e3⟩ := e
  refine ⟨⟨h.cs, h.cf.add h.cs _, hs, h.us, by have := h.us; omega, ?_, ?_, ?_⟩, e1⟩
  · obtain ⟨A, B, hA, hB, hAC, hsz⟩ := h.sz
    have hne := h.ne
    generalize hq : (f.at i).fdiv (s.at i) = q at *
    have hBC : B ≤ C := by
      have : B * 1 ≤ B * (f.at i).natAbs := Nat.mul_le_mul_left _ (by omega)
      omega
    refine ⟨B, A + q.natAbs * B, hB, by have := hA.add hB (-q); rwa [Int.natAbs_neg] at this, hBC, ?_⟩
    rw [if_neg (by intro z; rcases z with z | z <;> (have := e2 (by omega); omega))]
    generalize ((addR f s (-q)).at i).natAbs = ρ at *
    generalize hv : (s.at i).natAbs = v at *
    have x1 : (A + q.natAbs * B) * v = A * v + B * (q.natAbs * v) := by rw [Nat.add_mul, Nat.mul_comm q.natAbs B, Nat.mul_assoc]
    rw [x1]
    have x2 : 2 * B * v = 2 * (B * v) := Nat.mul_assoc _ _ _
    rw [x2] at hsz
    have hρ : B * ρ ≤ B * v := Nat.mul_le_mul_left _ (by omega)
    rcases e3 with e3 | ⟨e3, e4⟩
    · have : B * (q.natAbs * v) + B * ρ = B * (f.at i).natAbs := by rw [← Nat.mul_add, e3]
      omega
    · rw [if_pos e3] at hsz
      rw [e4, Nat.mul_add]
      omega
  · intro P hP a b
    refine h.sp P hP ?_ a
    have := hP _ _ ((f.at i).fdiv (s.at i)) (h.cf.add h.cs _).l h.cs.l b a
    have e : addL (addR f s (-(f.at i).fdiv (s.at i))).sh s.sh ((f.at i).fdiv (s.at i)) = f.sh := by
      have := back_add (u := f.sh) (v := s.sh) (c := -(f.at i).fdiv (s.at i)) (h.cf.l.trans h.cs.l.symm)
      rw [Int.neg_neg] at this
      exact this
    rw [e] at this; exact this
  · intro a b
    obtain ⟨x, y⟩ := h.px a b
    exact ⟨y, by show f.p + _ * s.p = 0; rw [x, y]; simp⟩
theorem Wh.sizes {M : List T3} {i U C : Nat} {f0 s0 f s : Rw} (h : Wh M i U C f0 s0 f s) : Sm C f ∧ Sm C s := by
  obtain ⟨A, B, hA, hB, hAC, hsz⟩ := h.sz
  have hne := h.ne
  have : B * 1 ≤ B * (f.at i).natAbs := Nat.mul_le_mul_left _ (by omega)
  exact ⟨hA.mono hAC, hB.mono (by omega)⟩
/-- the lead and the others behind some rows -/
structure Ld (M : List T3) (i U B : Nat) (rows : List Rw) (lead : Option Rw) (others : List Rw) : Prop where
  cl : ∀ r ∈ lead, Con M r
  co : ∀ r ∈ others, Con M r
  ne : ∀ r ∈ lead, r.at i ≠ 0
  ul : ∀ r ∈ lead, (r.at i).natAbs ≤ U
  zo : ∀ r ∈ others, r.at i = 0
  sl : ∀ r ∈ lead, Sm B r
  so : ∀ r ∈ others, Sm B r
  sp : ∀ P, ClosedP M.length P → (∀ r ∈ lead, P r.sh) → (∀ r ∈ others, P r.sh) → ∀ r ∈ rows, P r.sh
  px : (∀ r ∈ rows, r.p = 0) → (∀ r ∈ lead, r.p = 0) ∧ ∀ r ∈ others, r.p = 0
  len : others.length ≤ rows.length
theorem Ld.start (M : List T3) (i U B : Nat) : Ld M i U B [] none [] := ⟨by simp, by simp, by simp, by simp, by simp, by simp, by simp, by simp, by simp, by simp⟩
theorem Ld.snoc0 {M : List T3} {i U B C : Nat} {rows : List Rw} {lead : Option Rw} {others : List Rw} (h : Ld M i U B rows lead others) {r : Rw} (cr : Con M r) (hr : Sm C r) (hBC : B ≤ C) (h0 : r.at i = 0) :
    Ld M i U C (rows ++ [r]) lead (others ++ [r]) := by
  refine ⟨h.cl, ?_, h.ne, h.ul, ?_, fun r hr => (h.sl r hr).mono hBC, ?_, ?_, ?_, by have := h.len; simp; omega⟩
  · intro x hx; simp at hx; rcases hx with hx | rfl; exact h.co x hx; exact cr
  · intro x hx; simp at hx; rcases hx with hx | rfl; exact h.zo x hx; exact h0
  · intro x hx; simp at hx; rcases hx with hx | rfl; exact (h.so x hx).mono hBC; exact hr
  · intro P hP a b x hx
    simp at hx
    rcases hx with hx | rfl
    · exact h.sp P hP a (fun y hy => b y (by simp [hy])) x hx
    · exact b x (by simp)
  · intro hx
    obtain ⟨a, b⟩ := h.px fun y hy => hx y (by simp [hy])
    exact ⟨a, by intro y hy; simp at hy; rcases hy with hy | rfl; exact b y hy; exact hx y (by simp)⟩
theorem Ld.first {M : List T3} {i U B C : Nat} {rows : List Rw} {others : List Rw} (h : Ld M i U B rows none others) {r : Rw} (cr : Con M r) (hr : Sm C r) (hBC : B ≤ C) (h0 : r.at i ≠ 0) (hu : (r.at i).natAbs ≤ U) :
    Ld M i U C (rows ++ [r]) (some r) others := by
  refine ⟨by simpa using cr, h.co, by simpa using h0, by simpa using hu, h.zo, by simpa using hr, fun r hr => (h.so r hr).mono hBC, ?_, ?_, by have := h.len; simp; omega⟩
  · intro P hP a b x hx
    simp at hx
    rcases hx with hx | rfl
    · exact h.sp P hP (by simp) b x hx
    · exact a x rfl
  · intro hx
    obtain ⟨_, b⟩ := h.px fun y hy => hx y (by simp [hy])
    exact ⟨by simpa using hx r (by simp), b⟩
theorem Ld.more {M : List T3} {i U B : Nat} {rows : List Rw} {l r f s : Rw} {others : List Rw} (h : Ld M i U B rows (some l) others) (hU : 1 ≤ U) (w : Wh M i U (4 * U * B) l r f s) (h0 : s.at i = 0) :
    Ld M i U (4 * U * B) (rows ++ [r]) (some f) (others ++ [s]) := by
  obtain ⟨s1, s2⟩ := w.sizes
  have hB : B ≤ 4 * U * B := Nat.le_mul_of_pos_left _ (by omega)
  refine ⟨by simpa using w.cf, ?_, by simpa using w.ne, by simpa using w.uf, ?_, by simpa using s1, ?_, ?_, ?_, by have := h.len; simp; omega⟩
  · intro x hx; simp at hx; rcases hx with hx | rfl; exact h.co x hx; exact w.cs
  · intro x hx; simp at hx; rcases hx with hx | rfl; exact h.zo x hx; exact h0
  · intro x hx; simp at hx; rcases hx with hx | rfl; exact (h.so x hx).mono hB; exact s2
  · intro P hP a b x hx
    obtain ⟨p1, p2⟩ := w.sp P hP (a f rfl) (b s (by simp))
    simp at hx
    rcases hx with hx | rfl
    · exact h.sp P hP (by simpa using p1) (fun y hy => b y (by simp [hy])) x hx
    · exact p2
  · intro hx
    obtain ⟨a, b⟩ := h.px fun y hy => hx y (by simp [hy])
    obtain ⟨p1, p2⟩ := w.px (a l rfl) (hx r (by simp))
    exact ⟨by simpa using p1, by intro y hy; simp at hy; rcases hy with hy | rfl; exact b y hy; exact p2⟩
def zeroR (n : Nat) : Rw := ⟨0, 0, zeros n⟩
theorem neg_L : ∀ (u : List Int), addL (zeros u.length) u (-1) = u.map (fun x => -x)
  | [] => rfl
  | a :: u => by
    show (0 + -1 * a) :: addL (zeros u.length) u (-1) = -a :: _
    rw [neg_L u]
    congr 1
    omega
theorem Ld.flip {M : List T3} {i U B : Nat} {rows : List Rw} {l : Rw} {others : List Rw} (h : Ld M i U B rows (some l) others) : Ld M i U B rows (some (addR (zeroR l.sh.length) l (-1))) others := by
  have hc := h.cl l rfl
  have e : (addR (zeroR l.sh.length) l (-1)) = ⟨-l.p, -l.q, l.sh.map (fun x => -x)⟩ := by
    unfold addR zeroR; simp only [neg_L]
    congr 1 <;> omega
  have cz : Con M (zeroR l.sh.length) := ⟨by show (zeros l.sh.length).length = _; simp [zeros, hc.l], by show (0 : Int) = _; rw [show (zeroR l.sh.length).sh = zeros l.sh.length from rfl, PR_zeros], by show (0 : Int) = _; rw [show (zeroR l.sh.length).sh = zeros l.sh.length from rfl, PR_zeros]⟩
  have hat : (addR (zeroR l.sh.length) l (-1)).at i = -l.at i := by rw [e]; unfold Rw.at; split <;> rfl
  refine ⟨by simpa using cz.add hc (-1), h.co, ?_, ?_, h.zo, ?_, h.so, ?_, ?_, h.len⟩
  · intro r hr
    cases hr
    rw [hat]
    have := h.ne l rfl; omega
  · intro r hr
    cases hr
    rw [hat, Int.natAbs_neg]
    exact h.ul l rfl
  · intro r hr
    cases hr
    rw [e]
    have := h.sl l rfl
    exact ⟨by simpa using this.p, by simpa using this.q, by intro c hc; simp at hc; obtain ⟨a, ha, rfl⟩ := hc; rw [Int.natAbs_neg]; exact this.sh a ha⟩
  · intro P hP a b
    refine h.sp P hP ?_ b
    intro r hr
    cases hr
    have p1 := a _ rfl
    have p2 := hP _ _ (-2) (cz.add hc (-1)).l (cz.add hc (-1)).l p1 p1
    have e2 : addL (addR (zeroR l.sh.length) l (-1)).sh (addR (zeroR l.sh.length) l (-1)).sh (-2) = l.sh := by
      rw [e]
      show addL (l.sh.map (fun x => -x)) (l.sh.map (fun x => -x)) (-2) = l.sh
      generalize l.sh = u
      induction u with
      | nil => rfl
      | cons a u ih =>
        show (-a + -2 * -a) :: addL (u.map (fun x => -x)) (u.map (fun x => -x)) (-2) = a :: u
        rw [ih]; congr 1; omega
    rw [e2] at p2; exact p2
  · intro hx
    obtain ⟨a, b⟩ := h.px hx
    refine ⟨?_, b⟩
    intro r hr
    cases hr
    rw [e]
    have := a l rfl
    show -l.p = 0
    omega
/-- east and north of both goings, and the rests -/
theorem shape_parts {M : List T3} {U1 B1 U2 B2 : Nat} {eo no : Option Rw} {others rests : List Rw} {rows : List Rw} (hrows : rows.map (·.sh) = (List.range M.length).map (uvec M.length))
    (h1 : Ld M 0 U1 B1 rows eo others) (p1 : ∀ r ∈ eo, 0 < r.p) (h2 : Ld M 1 U2 B2 others no rests) (p2 : ∀ r ∈ no, 0 < r.q) {e1 : Option Rw}
    (he : (e1 = eo ∧ (eo = none ∨ no = none)) ∨ ∃ e n, eo = some e ∧ no = some n ∧ e1 = some (addR e n (-(e.q / n.q)))) :
    Parts M (e1.map (·.sh)) (no.map (·.sh)) (rests.map (·.sh)) := by
  have oth0 : ∀ r ∈ others, r.p = 0 := fun r hr => h1.zo r hr
  obtain ⟨n0, r0⟩ := h2.px oth0
  have ce : ∀ r ∈ e1, Con M r := by
    rcases he with ⟨rfl, _⟩ | ⟨e, n, rfl, rfl, rfl⟩
    · exact h1.cl
    · intro r hr; cases hr; exact (h1.cl e rfl).add (h2.cl n rfl) _
  have pe : ∀ r ∈ e1, 0 < r.p := by
    rcases he with ⟨rfl, _⟩ | ⟨e, n, rfl, rfl, rfl⟩
    · exact p1
    · intro r hr; cases hr
      have := n0 n rfl; have := p1 e rfl
      show 0 < e.p + _ * n.p
      rw [n0 n rfl]; simpa using p1 e rfl
  refine ⟨?_, ?_, ?_, ?_, ?_, ?_, ?_, ?_, ?_, ?_⟩
  · intro u hu; simp at hu; obtain ⟨r, hr, rfl⟩ := hu; exact (ce r hr).l
  · intro u hu; simp at hu; obtain ⟨r, hr, rfl⟩ := hu; exact (h2.cl r hr).l
  · intro u hu; simp at hu; obtain ⟨r, hr, rfl⟩ := hu; exact (h2.co r hr).l
  · intro u hu; simp at hu; obtain ⟨r, hr, rfl⟩ := hu; rw [← (ce r hr).x]; exact pe r hr
  · intro u hu; simp at hu; obtain ⟨r, hr, rfl⟩ := hu; rw [← (h2.cl r hr).x]; exact n0 r hr
  · intro u hu; simp at hu; obtain ⟨r, hr, rfl⟩ := hu; rw [← (h2.cl r hr).y]; exact p2 r hr
  · intro u hu; simp at hu; obtain ⟨r, hr, rfl⟩ := hu; rw [← (h2.co r hr).x]; exact r0 r hr
  · intro u hu; simp at hu; obtain ⟨r, hr, rfl⟩ := hu; rw [← (h2.co r hr).y]; exact h2.zo r hr
  · intro u hu v hv
    simp at hu hv
    obtain ⟨r, hr, rfl⟩ := hu
    obtain ⟨s, hs, rfl⟩ := hv
    rw [← (ce r hr).y, ← (h2.cl s hs).y]
    rcases he with ⟨rfl, rfl | rfl⟩ | ⟨e, n, rfl, rfl, rfl⟩
    · simp at hr
    · simp at hs
    · cases hr; cases hs
      have := p2 s rfl
      show 0 ≤ e.q + -(e.q / s.q) * s.q ∧ e.q + -(e.q / s.q) * s.q < s.q
      have := emod_rng (x := e.q) this
      have e2 : (0 - e.q / s.q) = -(e.q / s.q) := by omega
      rw [e2] at this; exact this
  · intro P hP a b c i hi
    have Pn : ∀ r ∈ no, P r.sh := fun r hr => b r.sh (by simp; exact ⟨r, hr, rfl⟩)
    have Po := h2.sp P hP Pn fun r hr => c r.sh (by simp; exact ⟨r, hr, rfl⟩)
    have Pe : ∀ r ∈ eo, P r.sh := by
      rcases he with ⟨rfl, _⟩ | ⟨e, n, rfl, rfl, rfl⟩
      · exact fun r hr => a r.sh (by simp; exact ⟨r, hr, rfl⟩)
      · intro r hr
        cases hr
        have q1 := a (addR e n (-(e.q / n.q))).sh (by simp)
        have q2 := Pn n rfl
        have l1 := (h1.cl e rfl).l
        have l2 := (h2.cl n rfl).l
        have := hP _ _ (e.q / n.q) ((h1.cl e rfl).add (h2.cl n rfl) _).l l2 q1 q2
        have ee := back_add (u := e.sh) (v := n.sh) (c := -(e.q / n.q)) (l1.trans l2.symm)
        rw [Int.neg_neg] at ee
        have ee : addL (addR e n (-(e.q / n.q))).sh n.sh (e.q / n.q) = e.sh := ee
        rw [ee] at this; exact this
    have Pr := h1.sp P hP Pe Po
    have : uvec M.length i ∈ rows.map (·.sh) := by rw [hrows]; simp; exact ⟨i, hi, rfl⟩
    simp at this
    obtain ⟨r, hr, e⟩ := this
    rw [← e]; exact Pr r hr
end K67

namespace K67
/-! ### what the program tells -/
def shrs (F : Fm) (x y : Int) : Option (Int × Int) :=
  if x % F.e.1 = 0 then if (y - x / F.e.1 * F.e.2.1) % F.n.2.1 = 0 then some (x / F.e.1, (y - x / F.e.1 * F.e.2.1) / F.n.2.1) else none else none
def tlP (F : Fm) (g : T3) : Bool := match shrs F g.1 g.2.1 with
  | none => false
  | some (m, r) => decide ((g.2.2 - (put (pw F.e m) (pw F.n r)).2.2) % F.z = 0)
theorem pw_z (c : Int) : pw (0, 0, 0) c = (0, 0, 0) := by apply t3_ext <;> simp [pw]
theorem dvd_mul {x a : Int} (h : x % a = 0) : x = x / a * a := by
  have := Int.emod_add_mul_ediv x a
  rw [h, Int.zero_add, Int.mul_comm] at this; exact this.symm
theorem tlP_iff {F : Fm} (C : Canon F) (g : T3) : tlP F g = true ↔ mem F g := by
  have hnx := C.nx
  constructor
  · intro h
    unfold tlP shrs at h
    split at h
    · cases h
    · rename_i m r e
      split at e
      · rename_i h1
        split at e
        · rename_i h2
          obtain ⟨rfl, rfl⟩ := Prod.mk.inj (Option.some.inj e)
          have h3 := of_decide_eq_true h
          have a1 := dvd_mul h1
          have a2 := dvd_mul h2
          have a3 := dvd_mul h3
          clear h1 h2 h3 h e
          generalize g.1 / F.e.1 = m at *
          generalize (g.2.1 - m * F.e.2.1) / F.n.2.1 = r at *
          generalize (g.2.2 - (put (pw F.e m) (pw F.n r)).2.2) / F.z = k at *
          refine (mem_iff C).2 ⟨m, r, k, a1, by omega, ?_⟩
          rw [← a3]
          simp only [put, pw]
          grind
        · cases e
      · cases e
  · intro h
    obtain ⟨m, n, k, h1, h2, h3⟩ := (mem_iff C).1 h
    have x1 : g.1 % F.e.1 = 0 := by rw [h1]; exact Int.mul_emod_left _ _
    have x2 : g.1 / F.e.1 * F.e.2.1 = m * F.e.2.1 ∧ pw F.e (g.1 / F.e.1) = pw F.e m := by
      by_cases h0 : F.e.1 = 0
      · have := C.eN h0
        rw [this]; simp [pw_z]
      · have : g.1 / F.e.1 = m := by rw [h1]; exact Int.mul_ediv_cancel _ h0
        rw [this]; exact ⟨rfl, rfl⟩
    have x3 : (g.2.1 - g.1 / F.e.1 * F.e.2.1) = n * F.n.2.1 := by rw [x2.1, h2]; omega
    have x4 : (g.2.1 - g.1 / F.e.1 * F.e.2.1) % F.n.2.1 = 0 := by rw [x3]; exact Int.mul_emod_left _ _
    have x5 : pw F.n ((g.2.1 - g.1 / F.e.1 * F.e.2.1) / F.n.2.1) = pw F.n n := by
      by_cases h0 : F.n.2.1 = 0
      · rw [C.nN h0]; simp [pw_z]
      · have : (g.2.1 - g.1 / F.e.1 * F.e.2.1) / F.n.2.1 = n := by rw [x3]; exact Int.mul_ediv_cancel _ h0
        rw [this]
    have e : shrs F g.1 g.2.1 = some (g.1 / F.e.1, (g.2.1 - g.1 / F.e.1 * F.e.2.1) / F.n.2.1) := by
      unfold shrs; rw [if_pos x1, if_pos x4]
    unfold tlP
    rw [e]
    simp only
    rw [x2.2, x5]
    refine decide_eq_true ?_
    have : g.2.2 - (put (pw F.e m) (pw F.n n)).2.2 = k * F.z := by
      rw [h3]; simp only [put, pw]; grind
    rw [this]; exact Int.mul_emod_left _ _
theorem tlP_rest {F : Fm} (C : Canon F) (g : T3) : tlP F g = decide (restF F g = (0, 0, 0)) := by
  rw [Bool.eq_iff_iff, tlP_iff C, decide_eq_true_eq, rest_zero C]
/-- sizes of a form -/
structure Sf (F : Fm) : Prop where
  e1 : F.e.1.natAbs < 2 ^ 8
  e2 : F.e.2.1.natAbs < 2 ^ 64
  e3 : F.e.2.2.natAbs < 2 ^ 500
  n1 : F.n.1 = 0
  n2 : F.n.2.1.natAbs < 2 ^ 64
  n3 : F.n.2.2.natAbs < 2 ^ 500
  z : F.z.natAbs < 2 ^ 488
theorem fixS_sz {sel : T3 → Int} {o : Option T3} (h : ∀ t ∈ o, Sz t) : (fixS sel o).1.natAbs < 2 ^ 8 ∧ (fixS sel o).2.1.natAbs < 2 ^ 62 ∧ (fixS sel o).2.2.natAbs < 2 ^ 490 := by
  cases o with
  | none => exact ⟨by show 0 < _; exact Nat.two_pow_pos _, by show 0 < _; exact Nat.two_pow_pos _, by show 0 < _; exact Nat.two_pow_pos _⟩
  | some t =>
    obtain ⟨a, b, c⟩ := h t rfl
    have e : (2 : Nat) ^ 488 + 2 ^ 488 ≤ 2 ^ 490 := by decide +kernel
    have e2 : (2 : Nat) ^ 8 * 2 ^ 62 ≤ 2 ^ 488 := by decide +kernel
    unfold fixS
    simp only
    split
    · refine ⟨by simpa [off] using a, by simpa [off] using b, ?_⟩
      show (t.1 * t.2.1 - t.2.2).natAbs < _
      have h1 := Int.natAbs_sub_le (t.1 * t.2.1) t.2.2
      rw [Int.natAbs_mul] at h1
      have h2 := Nat.mul_le_mul (Nat.le_of_lt a) (Nat.le_of_lt b)
      omega
    · exact ⟨a, b, by omega⟩
theorem fixS_x {sel : T3 → Int} {o : Option T3} (h : ∀ t ∈ o, t.1 = 0) : (fixS sel o).1 = 0 := by
  cases o with
  | none => rfl
  | some t =>
    have := h t rfl
    unfold fixS
    simp only
    split
    · show -t.1 = 0; omega
    · exact this
theorem md_sz {c : Prop} [Decidable c] {t : T3} {z : Int} (hz : z.natAbs < 2 ^ 488) (h0 : c → 0 < z) {b : Nat} (ht : ¬ c → t.2.2.natAbs < 2 ^ b) (hb : 488 ≤ b) : (if c then (t.1, t.2.1, t.2.2 % z) else t).2.2.natAbs < 2 ^ b := by
  split
  · rename_i h
    have := h0 h
    have h1 := Int.emod_nonneg t.2.2 (show z ≠ 0 by omega)
    have h2 := Int.emod_lt_of_pos t.2.2 this
    have h3 : (2 : Nat) ^ 488 ≤ 2 ^ b := Nat.pow_le_pow_right (by decide) hb
    show (t.2.2 % z).natAbs < _
    omega
  · rename_i h; exact ht h
theorem md_1 {c : Prop} [Decidable c] {t : T3} {z : Int} : (if c then (t.1, t.2.1, t.2.2 % z) else t).1 = t.1 := by split <;> rfl
theorem md_2 {c : Prop} [Decidable c] {t : T3} {z : Int} : (if c then (t.1, t.2.1, t.2.2 % z) else t).2.1 = t.2.1 := by split <;> rfl
theorem formL_sz {M : List T3} (hl : M.length ≤ 5) (hM : ∀ m ∈ M, Small m) : Sf (formL M) := by
  have R := (formL_right hl hM).c
  obtain ⟨B, hT⟩ := bd_start hl hM
  obtain ⟨B', hq⟩ := sift_end 5000 B hT
  change Bd (sifted M) at B'
  have he := fixS_sz (sel := sx) B'.sze
  have hn := fixS_sz (sel := sy) B'.szn
  have hx := fixS_x (sel := sy) fun t ht => (B'.shp.n t ht).1
  have hz0 := B'.szz
  have sh := B'.shp
  have a1 : (2 : Nat) ^ 62 ≤ 2 ^ 64 := by decide +kernel
  have a2 : (2 : Nat) ^ 490 ≤ 2 ^ 500 := by decide +kernel
  have hz : (stepZ (sifted M).e (sifted M).n (sifted M).z).natAbs < 2 ^ 488 := by
    unfold stepZ
    split
    · rename_i a b ea eb
      have z1 := sh.e a ea
      have z2 := (sh.n b eb).2
      have b1 := B'.sze a ea
      have b2 := B'.szn b eb
      have h1 : Int.gcd (sifted M).z (a.1 * b.2.1) ≤ (a.1 * b.2.1).natAbs := Nat.le_of_dvd (by
        have := Int.mul_ne_zero z1 z2; omega) (Int.gcd_dvd_natAbs_right _ _)
      rw [Int.natAbs_mul] at h1
      have h2 := Nat.mul_le_mul (Nat.le_of_lt b1.x) (Nat.le_of_lt b2.y)
      have e2 : (2 : Nat) ^ 8 * 2 ^ 62 < 2 ^ 488 := by decide +kernel
      rw [Int.natAbs_natCast]; omega
    · exact hz0
  have hzp : (sifted M).e.isSome ∧ (sifted M).n.isSome → 0 < stepZ (sifted M).e (sifted M).n (sifted M).z := by
    rintro ⟨i1, i2⟩
    unfold stepZ
    split
    · rename_i a b ea eb
      have z1 := sh.e a ea
      have z2 := (sh.n b eb).2
      have := Int.mul_ne_zero z1 z2
      have h3 : Int.gcd (sifted M).z (a.1 * b.2.1) ≠ 0 := fun h => this (Int.gcd_eq_zero_iff.1 h).2
      omega
    · rename_i hh
      cases e1 : (sifted M).e with
      | none => rw [e1] at i1; cases i1
      | some a =>
        cases e2 : (sifted M).n with
        | none => rw [e2] at i2; cases i2
        | some b => exact absurd e2 (hh a b e1)
  have hzn : 0 ≤ stepZ (sifted M).e (sifted M).n (sifted M).z := R.z0
  have Reb := R.eb
  have Rn0 := R.n0
  unfold formL at Reb Rn0 ⊢
  unfold lastF at Reb Rn0 ⊢
  generalize fixS sx (sifted M).e = E at *
  generalize fixS sy (sifted M).n = N at *
  generalize stepZ (sifted M).e (sifted M).n (sifted M).z = z at *
  simp only at Reb Rn0 ⊢
  by_cases hb : (sifted M).e.isSome ∧ (sifted M).n.isSome
  · have zp := hzp hb
    rw [if_pos hb] at Reb ⊢
    simp only [md_1, md_2] at Reb
    have hny : 0 < N.2.1 ∨ N.2.1 ≤ 0 := by omega
    refine ⟨?_, ?_, ?_, ?_, ?_, ?_, hz⟩
    · simp only [md_1]
      show (E.1 + _ * N.1).natAbs < _
      rw [hx]; simpa using he.1
    · simp only [md_2]
      rcases Int.lt_trichotomy N.2.1 0 with q | q | q
      · simp only [md_2] at Rn0; omega
      · show (E.2.1 + _ * N.2.1).natAbs < _
        rw [q, Int.mul_zero, Int.add_zero]; omega
      · have := Reb q; omega
    · exact md_sz hz (fun h => h.2) (fun h => absurd ⟨hb.1, zp⟩ h) (by decide)
    · simp only [md_1]; exact hx
    · simp only [md_2]; omega
    · exact md_sz hz (fun h => h.2) (fun h => absurd ⟨hb.2, zp⟩ h) (by decide)
  · rw [if_neg hb]
    refine ⟨?_, ?_, ?_, ?_, ?_, ?_, hz⟩
    · simp only [md_1]; exact he.1
    · simp only [md_2]; omega
    · exact md_sz hz (fun h => h.2) (fun _ => by omega) (by decide)
    · simp only [md_1]; exact hx
    · simp only [md_2]; omega
    · exact md_sz hz (fun h => h.2) (fun _ => by omega) (by decide)
end K67

/-! further rules over the hand layer, for this text alone -/
namespace KX
open PySem PySem.Spec PyProof.Rows L2

section
variable {X : Cx}
/-- // by any number but 0 -/
theorem op_fdivX : OpR X (binaryOp .FloorDiv) (rI (fun _ j => j ≠ 0 ∧ j.natAbs.log2 < 9000) fun i j => .int (i.fdiv j)) :=
  opI fun _ _ _ _ _ _ _ c q => floordiv_int c.1 q (.inl (PyProof.noPylong_of_log2 c.2))

/-! repr of data, where no other repr runs around -/
def rRepr (K : PySem.W.Frag) : List V → Hp → VK → Prop := fun xs H Q => ∃ v d, xs = [v] ∧ Dp K H v d ∧ d.showable = true ∧ d.hasDict = false ∧ d.depth ≤ 9 ∧ d.shown.length ≤ sizeLine ∧ (∀ z, d ≠ .str z) ∧ Q (.str d.shown) H
theorem call_reprD (hg : X.A.guards = some []) (hu : X.A.units + 64 < cLine) : CallR X (.builtin "repr") (rRepr X.K) := by
  intro pins s σ H xs us Q I r h
  obtain ⟨v, d, rfl, hd, hs, hn, hp, hz, hz2, q⟩ := h
  obtain ⟨u, rfl, ru⟩ := vals1 r
  obtain ⟨as, rd⟩ := Dp.reads I d v u hd ru
  cases hd with
  | non =>
    cases ru
    exact PySem.P.repr_of_none ⟨.str _, H, I.tok _, ⟨_, rfl⟩, q⟩
  | bl b =>
    cases ru
    refine PySem.P.repr_of_bool ⟨.str _, H, I.tok _, ⟨_, rfl⟩, ?_⟩
    cases b <;> exact q
  | int i =>
    obtain ⟨t, rfl⟩ := ru
    exact PySem.P.repr_of_int (by simpa [PyData.showable] using hs) ⟨.str _, H, I.tok _, ⟨_, rfl⟩, q⟩
  | str x => exact absurd rfl (hz2 x)
  | lst _ _ =>
    cases ru
    exact repr_of_reads' rd hs (by rw [hn]; intro z; cases z) hg (by omega) (fun _ _ e => e) (fun h' u tk hk => ⟨.str _, H, I.kept (t' := tk) hk, ⟨_, rfl⟩, q⟩) hz
  | tup _ _ =>
    cases ru
    exact repr_of_reads' rd hs (by rw [hn]; intro z; cases z) hg (by omega) (fun _ _ e => e) (fun h' u tk hk => ⟨.str _, H, I.kept (t' := tk) hk, ⟨_, rfl⟩, q⟩) hz

/-! list.count of a truth value among truth values -/
def eqb (k : Bool) (v : Value) : Bool := match v with
  | .bool n => n == k
  | _ => false
def rCntB (K : PySem.W.Frag) : V → List V → Hp → VK → Prop := fun x xs H Q => ∃ (p : Addr) (bs : List Bool) (k : Bool), x = .ref p ∧ xs = [.bl k] ∧ SqL K H p (bs.map V.bl) ∧ Q (.int (bs.count k : Nat)) H
theorem vals_bl : ∀ {bs : List Bool} {us : List Value}, Vals (bs.map V.bl) us → us = bs.map Value.bool
  | [], _, .nil => rfl
  | b :: bs, _, .cons r t => by
    cases r
    rw [vals_bl t]; rfl
theorem mt_lcountB : MtR X "list.count" (rCntB X.K) := by
  intro pins s σ H x xs v us Q I rx rxs h
  obtain ⟨p, bs, k, rfl, rfl, hs, q⟩ := h
  cases rx
  obtain ⟨u, rfl, ru⟩ := rxs.one
  cases ru
  obtain ⟨its, rv, ⟨⟨cls, dd, data, sl⟩, n, ho, hc, hdn, hd⟩, hlen⟩ := I.list hs
  simp only at hc hd
  subst hc hd
  have ei := vals_bl rv
  refine call_meets PySem.F.slot_list_count ⟨_, ho, rfl⟩ PySem.F.entry_list_count (PySem.F.args_list_count_2 _ _)
    (SeqAt.list_countAt p its.toArray n dd sl (.bool k) (eqb k)) ⟨ho, fun y hy => ?_, ?_⟩
  · have : y ∈ its := by simpa using hy
    rw [ei] at this
    obtain ⟨b, _, rfl⟩ := List.mem_map.1 this
    exact SeqAt.EqAt.bool_bool b k
  · have ec : its.toArray.toList.countP (eqb k) = bs.count k := by
      rw [ei]
      clear rv ho ei hlen hs q hdn
      induction bs with
      | nil => rfl
      | cons b bs ih =>
        rw [List.map_cons, List.count_cons]
        show List.countP (eqb k) (Value.bool b :: bs.map Value.bool) = _
        rw [List.countP_cons]
        have ih' : List.countP (eqb k) (bs.map Value.bool) = bs.count k := ih
        rw [ih']
        rfl
    refine ⟨.int (bs.count k : Nat), H, I.tok _, ⟨s.toks, ?_⟩, q⟩
    show Value.int ((its.toArray.toList.countP (eqb k) : Nat) : Int) s.toks = Value.int ((bs.count k : Nat) : Int) s.toks
    rw [ec]

/-! str(o), o of an own class with __str__ -/
theorem call_strO {C f : Addr} {k : Nat} {fd : FuncData} {CX : CXT} {sp : Sp} {E : XK} {ds : List Value} (hs : PySem.W.findIn X.K (.ref C) "__str__" = some (some (.ref f))) (hf : PySem.W.isFn X.K (.ref f) = true)
    (F : FnOk X.prog X.w X.K X.mg X.base CX k f fd ["self"] sp) (hr : Room (k + 2) X.A) (hb : Binds X.K fd ["self"] []) (hx : ∀ (H : Hp) (s : Shared) (e : Value) (s' : Shared), CX X.stack H s E e s' → False) :
    CallR X (.type "str") (fun xs H Q => ∃ a dx fs, xs = [.ref a] ∧ H a = some (.ins C dx fs) ∧ sp [.ref a] H (fun v H' => ∃ z, v = .str z ∧ Q v H') E) := by
  intro pins s σ H xs us Q I r h
  obtain ⟨a, dx, fs, rfl, ha, q⟩ := h
  obtain ⟨u, rfl, ru⟩ := vals1 r
  cases ru
  obtain ⟨mA, O, _, _, _, _⟩ := ins_get I.hok ha
  obtain ⟨od, J, _⟩ := O.look
  have hu := hr.un
  refine PySem.W.kso_call (x := a) (f := f) (by show X.A.units + 1 + 1 < cLine; omega) I.kIn J hs hf ?_
  refine wpAny_call (codeAny_mono (F.run X.A.in1.in1 X.stack s H ⟨[.ref a], []⟩ [.ref a] [.ref a] _ E (hr.in1.in1) I.env0.in1.in1 (hb s [.ref a] I.kIn rfl) (.cons rfl .nil) q) fun r s' hq => ?_)
  cases r with
  | error er => exact (hx _ _ _ _ hq).elim
  | ok fl =>
    cases fl with
    | ret u =>
      obtain ⟨v, H', I3, rv, z, e3, q3⟩ := I.after hq
      subst e3
      obtain ⟨t, rfl⟩ := rv
      exact ⟨.str z, H', I3, ⟨t, rfl⟩, q3⟩
    | next => exact False.elim hq
    | brk => exact False.elim hq
    | cont => exact False.elim hq

/-! f(k = v, ..): keywords alone -/
theorem pe_callK0 {CX : CXT} {k : Nat} {f : Addr} {fd : FuncData} {ps ks : List Str} {sp : Sp} {E : XK} {x : Str} {p pos : Pos} {kws : List Keyword} {tk : TA} {g : List Value → List Value → List Value} {gV : List V → List V → List V}
    (F : FnOk X.prog X.w X.K X.mg X.base CX k f fd ps sp) (hr : Room k X.A) (hg : Gl X x) (hm : X.mg x = some (.ref f)) (hk : PySem.W.keepIn X.K (.ref f) = true) (hb : KBinds X.K fd ps ks g gV) (hx : Passes CX X E) (hkw : PK X kws tk)
    (hall : (backToKw pos (keywordEach kws X.env)).all (·.1.isSome) = true := by rfl) (hks : (backToKw pos (keywordEach kws X.env)).filterMap (·.1) = ks := by rfl) (hdb : (x == ("__debug__" : Str)) = false := by decide)
    (hpl : ((backTo pos (starEach [] X.env)).any (·.1) || (backToKw pos (keywordEach kws X.env)).any (·.1.isNone)) = false := by rfl) :
    PE X (.Call (.Name x p) [] kws pos) (tCallK sp gV E tNil tk) := by
  refine ⟨fun pins s σ H Q I h => wpAny_Call_Name_kw (ld_glob I hg hm (PySem.W.callWith_KW0 (h₀ := X.base) I.ok.mod.kin hk hall ?_ hpl) hdb)⟩
  refine thn (hkw.run pos pins s σ H _ I h) fun ws s2 ⟨zs, H2, I2, rz, q2⟩ => ⟨I2.kIn, ?_⟩
  rw [hks]
  exact run_fnk (us := []) (vs := []) F hr hb hx I2 .nil rz q2

/-! {t: v}, the key a tuple -/
def tDispT (tk tv : TE) : TE := fun σ H Q => ∀ p, H p = none → tk σ (upd H p (.dT [])) fun x H1 => tv σ H1 fun y H2 => H2 p = some (.dT []) ∧ ∃ (k : List Key) (b : Addr), x = .ref b ∧ H2 b = some (.tup (k.map kV)) ∧ Q (.ref p) (upd H2 p (.dT [(k, y)]))
theorem pe_dispT {k v : Expr} {tk tv : TE} {pos : Pos} (hu : X.A.units + 1 < cLine) (hk : PE X k tk) (hv : PE X v tv) : PE X (.Dict [some k] [v] pos) (tDispT tk tv) := by
  refine ⟨fun pins s σ H Q I q => ?_⟩
  have hn := I.hok.fresh (Nat.le_refl s.heap.objs.size)
  have I1 := I.laid (a := s.heap.objs.size) (o := .dT []) (h' := s.heap.push { cls := .type "dict", data := .dict #[] }) (t' := s.toks) (fun _ _ q => Heap.get?_push_of_some _ q) (Nat.le_refl _) (dt_empty s.heap I.big)
  rw [arm_eval_Dict, zip_pairTrees [some k] [v] X.env pos rfl rfl, dictDisplay_pairs _ (by simp [pairTrees]) (by simp [pairTrees])]
  refine wpAny_bind (wpAny_standAt (wpAny_bind ?_))
  unfold subDict
  refine wpAny_bind (wpAny_alloc ?_)
  refine wpAny_bind (wpAny_holding ?_)
  rw [if_pos (by simp [pairTrees])]
  refine wpAny_bind (pairTrees_cons_walk (thn (hk.run pins _ σ _ _ I1 (q _ hn)) fun u s1 ⟨x, H1, I1, rx, q1⟩ => thn (hv.run pins s1 σ H1 _ I1 q1) fun w2 s2 ⟨y, H2, I2, ry, e, kk, b, ex, eb, q2⟩ => pairTrees_nil_walk ?_))
  subst ex
  cases rx
  obtain ⟨z, hd, xs, rel, dd⟩ := dt_of I2.hok e
  cases rel
  refine wpAny_holding ?_
  refine wpAny_bind ?_
  rw [List.forIn_cons]
  refine wpAny_bind (wpAny_bind (wpAny_dictSet_heap (knd := tupleKind (mixKind X.prog X.w)) (show X.A.units < cLine by omega) (key_of I2.hok eb) dd (fun h' dd' hs => wpAny_pure ?_) (Nat.zero_le _)))
  show wpAny (model X.prog X.w) X.A (forIn [] PUnit.unit _) _ _ _
  rw [List.forIn_nil]
  obtain ⟨q', es, ep, hq, h2, h3, h4, _, h5⟩ := dd'
  refine wpAny_pure (wpAny_pure (wpAny_pure (wpAny_pure ⟨.ref s.heap.objs.size, _, d_write I2 (by rw [e]; exact True.intro) hs ⟨q', hq⟩ (ob := .dT [(kk, y)]) ⟨by show 1 ≤ sizeLine; decide, hd, [(kk, b, w2)], .cons ⟨rfl, ?_, ry⟩ .nil, q', es, ep, hq, h2, h3, h4, h5⟩, rfl, q2⟩)))
  rw [upd_ne (ne_of eb e (fun z => nomatch z))]
  exact eb
end

/-! calls that know that no repr runs around -/
structure FnOkG (P : Program) (w : World) (K : PySem.W.Frag) (mg : Str → Option Value) (base : Heap) (CX : CXT) (k : Nat) (f : Addr) (fd : FuncData) (ps : List Str) (sp : Sp) : Prop where
  ln : ∀ vs H Q E, sp vs H Q E → vs.length = ps.length
  go : ∀ (A : Around) (outer : List Env) (s : Shared) (H : Hp) (args : Args) (us : List Value) (vs : List V) (Q : VK) (E : XK), A.guards = some [] →
    Room k A → Env0 P w K mg base A outer s H → BindsTo s fd args (ps.zip us) → Vals vs us → sp vs H Q E → codeAny (model P w) A (.call (.ref f) args) (CR CX outer P w H s Q E) s
section
variable {X : Cx} {CX : CXT} {k : Nat} {f : Addr} {fd : FuncData} {ps : List Str} {sp : Sp} {dvs : List V} {ds : List Value} {E : XK} {x : Str} {p pos : Pos} {e : Expr} {es : List Expr} {t : TA}
theorem pe_callG (gd : X.A.guards = some []) (F : FnOkG X.prog X.w X.K X.mg X.base CX k f fd ps sp) (hr : Room k X.A) (hg : Gl X x) (hm : X.mg x = some (.ref f)) (hk : PySem.W.keepIn X.K (.ref f) = true) (hb : Binds X.K fd ps ds) (hd : Vals dvs ds) (hx : Passes CX X E)
    (ha : PA X (e :: es) t) (hdb : (x == ("__debug__" : Str)) = false := by decide) (he : starEach (e :: es) X.env = (false, eval e X.env) :: starEach es X.env := by rfl) (hpl : (backTo pos (starEach es X.env)).any (·.1) = false := by rfl) :
    PE X (.Call (.Name x p) (e :: es) [] pos) (tCall sp dvs E t) := by
  refine ⟨fun pins s σ H Q I h => wpAny_Call_Name_kw (ld_glob I hg hm (PySem.W.callWith_K (h₀ := X.base) I.ok.mod.kin hk (thn (ha.run pos pins s σ H _ I h) fun us s1 ⟨vs, H1, I1, r, q⟩ => ⟨I1.kIn, ?_⟩) he hpl) hdb)⟩
  have r2 : Vals (vs ++ dvs) (us ++ ds) := r.append hd
  have hl : (us ++ ds).length = ps.length := r2.length.symm.trans (F.ln _ _ _ _ q)
  refine wpAny_call (codeAny_mono (F.go X.A X.stack s1 H1 ⟨us, []⟩ (us ++ ds) (vs ++ dvs) Q E gd hr I1.env0 (hb s1 us I1.kIn hl) r2 q) fun r' s' hq => ?_)
  cases r' with
  | error e' => exact hx pins σ H1 s1 e' s' I1 hq
  | ok fl =>
    cases fl with
    | ret u => exact I1.after hq
    | next => exact False.elim hq
    | brk => exact False.elim hq
    | cont => exact False.elim hq
end
section
variable {P : Program} {w : World} {K : PySem.W.Frag} {mg : Str → Option Value} {base : Heap} {k : Nat} {f : Addr} {fd : FuncData} {N ps : List Str} {x qual : Str} {st : Stmt} {sp : Sp}
theorem fnG (F : Fun K x qual st f fd) (S : FnScope N ps (defScope st)) (len : ∀ vs H Q E, sp vs H Q E → vs.length = ps.length)
    (hbody : ∀ (cdv : Value) (A : Around) (outer : List Env) (s : Shared) (H : Hp) (vs : List V) (Q : VK) (E : XK), (A.deeper (envOfC qual (defScope st) s.heap.objs.size f cdv)).guards = some [] → Room k (A.deeper (envOfC qual (defScope st) s.heap.objs.size f cdv)) → sp vs H Q E →
      ∃ t, PSs (cxOf CX0 P w K mg base N qual (defScope st) f cdv A outer s H E).nox (defBody st) t ∧ t { nx := fun _ H' => Q .non H', rt := Q } (start N vs) H) : FnOkG P w K mg base CX0 (k + 1) f fd ps sp := by
  obtain ⟨oc, od, kV, doc, pm, an, cdv, ct, osl, rfl, lk, hcd⟩ := F.ex
  refine ⟨len, fun A outer s H args us vs Q E gd hr e0 hb r hsp => ?_⟩
  have hl := len _ _ _ _ hsp
  have up : ∀ b o, base.get? b = some o → s.heap.get? b = some o := fun b o e => (e0.bs b o e).1
  refine codeAny_call_function hr.depth (e0.mod.kin.keeps up _ _ lk) rfl S.co S.gen rfl (PySem.W.codeRec_of (e0.mod.kin.keeps up) hcd) (hb _ _ _ _ (wpAny_newFunctionEnv_cells S.kind (fun y hy => ?_) fun env he s1 z => ?_))
  · obtain ⟨n, v⟩ := y
    exact (S.par n (List.of_mem_zip hy).1).elim .inl fun q => .inr ⟨q, PySem.W.cellsFrom_some _ _ _ (.inl q)⟩
  · subst he
    refine ⟨(e0.mod.nolimit.keeps up).keeps z.toInCall.keep, codeAny_func ?_⟩
    obtain ⟨t, ht, hq⟩ := hbody cdv A outer s H vs Q E gd (hr.deeper _) hsp
    refine wpAny_mono (ht.nox.run [] s1 (start N vs) H _ (inv_start S hr.hd e0 hl r z) hq) (fun fl s' hs => ?_) fun e' s' hs => hs
    cases fl with
    | ret u => obtain ⟨v, σ', H', J, rv, q⟩ := hs; exact ⟨v, H', J.os, J.bare, J.base, J.hok, rv, q⟩
    | next => obtain ⟨σ', H', J, q⟩ := hs; exact ⟨V.non, H', J.os, J.bare, J.base, J.hok, rfl, q⟩
    | brk => obtain ⟨_, _, _, q⟩ := hs; exact False.elim q
    | cont => obtain ⟨_, _, _, q⟩ := hs; exact False.elim q
end

/-! enumerate of a tuple -/
def IteT (K : PySem.W.Frag) (a : Addr) : It :=
  ⟨fun i H => ∃ (xs : List V) (x : V), SqT K H a xs ∧ xs[i]? = some x, fun i H v H' => ∃ T x, v = .ref T ∧ H T = none ∧ H' = upd H T (.tup [.int (i : Nat), x]) ∧ ∀ xs, SqT K H a xs → xs[i]? = some x, fun i H => ∃ xs : List V, SqT K H a xs ∧ xs.length ≤ i⟩
theorem meets_enumT (l : Addr) (items : Array Value) (n : Nat) (dct : Option Addr) (sl : Array (Option Value)) :
    Meets (Builtin.«enumerate.__new__» ⟨[.type "enumerate", .ref l], []⟩) (fun _ R s => s.heap.get? l = some { cls := .type "tuple", dict := dct, data := .seq items n, slots := sl } ∧
      R (.ok (.ret (.ref (s.heap.push { cls := .type "tuple_iterator", data := .fields #[.ref l, .int 0 0] }).objs.size)))
        { s with heap := (s.heap.push { cls := .type "tuple_iterator", data := .fields #[.ref l, .int 0 0] }).push { cls := .type "enumerate", data := .fields #[.none, .bool false, .ref s.heap.objs.size, rawInt 0, .none, .none] } }) :=
  .of_wp fun prog w A R s h => by
    obtain ⟨hp, g, d, tk, os⟩ := s; obtain ⟨hl, h⟩ := h
    have hsub := sub_enumerate
    have hT : Heap.IsTuple (Shared.heap ⟨hp, g, d, tk, os⟩) l items := ⟨_, hl, rfl, n, rfl⟩
    wp_walk using AutoSeq1.wpAny_loadPart' hl
    refine wpAny_stack_any fun st => wpAny_pure ?_
    split
    · rename_i c _ _ _ _ _
      cases (c == Value.type "enumerate") <;> (wp_walk using AutoSeq1.wpAny_loadPart' hl, wpAny_pyIter_tuple hT) <;> exact ⟨_, rfl, h⟩
    · wp_walk using AutoSeq1.wpAny_loadPart' hl, wpAny_pyIter_tuple hT
      exact ⟨_, rfl, h⟩
theorem turn_enumT {P : Program} {w : World} {K : PySem.W.Frag} {elts : List Expr} {kk : Nat} {tpos : Pos} (a e it : Addr) :
    Turn P w K (.Tuple elts kk tpos) (IteT K a) [e, it] e (fun i h => (∃ old, IsEnum h e it ((i : Nat) : Int) old) ∧ h.IsTupleIter it a i ∧ e ≠ it) where
  mem := by simp
  obj := fun i h st b hb => by
    obtain ⟨⟨old, he⟩, ⟨o, ho, hc, hd⟩, _⟩ := st
    rcases (show b = e ∨ b = it by simpa using hb) with z | z <;> rw [z]
    · exact ⟨_, he, fun v q => nomatch q⟩
    · exact ⟨o, ho, fun v q => by rw [hd] at q; cases q⟩
  keep := fun i h h' st k => let ⟨⟨old, he⟩, hi, hne⟩ := st; ⟨⟨old, k e (by simp) _ he⟩, hi.at fun o q => k it (by simp) o q, hne⟩
  item := by
    intro X hP hw hK hc i pins s σ H E I hf st hg
    subst hP hw hK
    obtain ⟨⟨old, he⟩, hit, hne⟩ := st
    obtain ⟨xs, x, hq, hx⟩ := hg
    obtain ⟨its, rv, p, hz⟩ := I.tuple hq
    obtain ⟨u, hu, ru⟩ := rv.get hx
    have p2 : s.heap.IsTuple a its.toArray := p
    have hel : e < s.heap.objs.size := Heap.lt_size he
    have hil : it < s.heap.objs.size := let ⟨_, q, _⟩ := hit; Heap.lt_size q
    have nai : a ≠ it := fun z => by
      obtain ⟨o1, q1, c1, _⟩ := hit
      obtain ⟨o2, q2, c2, _⟩ := p2
      rw [z, q1] at q2
      cases q2
      rw [c1] at c2
      exact absurd (Value.type.inj c2) (by decide)
    have nae : a ≠ e := fun z => by
      obtain ⟨o2, q2, c2, _⟩ := p2
      have he' : s.heap.get? e = some _ := he
      rw [z, he'] at q2
      cases q2
      exact absurd (Value.type.inj c2) (by decide)
    have D := Draws.tuple (prog := X.prog) (w := X.w) (A := X.A.in1) (I.ok.hd hc) it a nai its.toArray
    refine wpAny_pyNext_enum_itemD D he ⟨hit, p2⟩ (i := i) (by have := (List.getElem?_eq_some_iff.mp hu).1; simpa using this) hne (by simp [hne, nae.symm]) fun x' h' tk hx' ho hst hT hsz hk => ?_
    obtain rfl : x' = u := by
      have h1 : its[i]? = some x' := by simpa using hx'
      rw [hu] at h1; exact (Option.some.inj h1).symm
    refine ⟨_, rfl, wpAny_letOwnedTupleGo_enum (s := { s with heap := h', toks := tk + 1 }) ho fun h'' he' sb => ?_⟩
    have hT2 : h''.get? s.heap.objs.size = some { cls := .type "tuple", data := .seq #[.int i tk, x'] } := (sb.2 _ (Nat.ne_of_gt hel)).trans hT
    have new : ObjOk X.prog X.w (upd H s.heap.objs.size (.tup [.int (i : Nat), x])) h'' s.heap.objs.size (.tup [.int (i : Nat), x]) :=
      ⟨by show 2 ≤ sizeLine; decide, [.int i tk, x'], .cons ⟨_, rfl⟩ (.cons ru .nil), ⟨_, hT2, rfl, _, rfl⟩⟩
    have I1 : Inv X pins σ (upd H s.heap.objs.size (.tup [.int (i : Nat), x])) { s with heap := h'', toks := tk + 1 } :=
      I.turnedNew (ch := [e, it]) (fun b ob hb q => (sb.2 b (fun z => hb (by simp [z]))).trans (hk b ob (fun z => hb (by simp [z])) (fun z => hb (by simp [z])) q)) hf (Nat.le_refl _) new
    have e1 : (i : Int) + 1 = ((i + 1 : Nat) : Int) := by omega
    refine ⟨.ref s.heap.objs.size, _, I1, rfl, ⟨_, x, rfl, I.hok.fresh (Nat.le_refl _), rfl, fun ys hy => by rw [I.tuple_inj hy hq]; exact hx⟩, ⟨⟨x', e1 ▸ he'⟩, hst.1.at fun o q => (sb.2 it (Ne.symm hne)).trans q, hne⟩, fun b hb => ?_⟩
    have hb' : b < s.heap.objs.size := by
      rcases (show b = e ∨ b = it by simpa using hb) with z | z <;> rw [z]
      · exact hel
      · exact hil
    rw [upd_ne (Nat.ne_of_lt hb')]
    exact (hf b hb).1
  done := by
    intro X hP hw hK hc i pins s σ H E I hf st hg
    subst hP hw hK
    obtain ⟨⟨old, he⟩, hit, hne⟩ := st
    obtain ⟨xs, hq, hx⟩ := hg
    obtain ⟨its, rv, p, hz⟩ := I.tuple hq
    have p2 : s.heap.IsTuple a its.toArray := p
    obtain ⟨f0, f1, f2, f3, f4, f5⟩ := hf it (by simp)
    have hl := rv.length
    have nai : a ≠ it := fun z => by
      obtain ⟨o1, q1, c1, _⟩ := hit
      obtain ⟨o2, q2, c2, _⟩ := p2
      rw [z, q1] at q2
      cases q2
      rw [c1] at c2
      exact absurd (Value.type.inj c2) (by decide)
    unfold pyNext
    refine wpAny_bind (wpAny_attempt (wpAny_callSpecial?_slot (name := Str.ofString "__next__") ⟨_, he, rfl⟩ F.slot_enumerate_next
      (wpAny_call_entry F.slot_enumerate_next ⟨_, he, rfl⟩ F.entry_enumerate_next ?_ (F.args_enumerate_next_1 _))))
    show wpAny _ _ (field (.ref e) 2 >>= _) _ _ _
    refine wpAny_bind (wpAny_field he rfl (x := .ref it) rfl (wpAny_bind (wpAny_nextOf_tuple_end (I.ok.hd hc) hit p2 (by simp; omega) fun h' x he' hx' => ?_)))
    obtain ⟨o, ho, hcl⟩ := hx'
    exact wpAny_bind (wpAny_isInstance (T := "StopIteration") (b := true) ⟨o, ho, hcl⟩ isSubtype_stop (wpAny_pure ⟨rfl, I.turned (t' := s.toks) (fun b o hb q => he' b o hb q) f0 f1 f3 f4 f5⟩))
  self := fun A i s Q E st h => let ⟨⟨_, he⟩, _⟩ := st; wpAny_pyIter_enum he h
def iEnumT (K : PySem.W.Frag) (ta : TA) : TI := fun σ H R => ta σ H fun vs H1 => ∃ a xs, vs = [.ref a] ∧ SqT K H1 a xs ∧ R (IteT K a) H1
theorem pi_enumT {X : Cx} {e : Expr} {ta : TA} {p pos tpos : Pos} {elts : List Expr} {kk : Nat} (hg : Gl X "enumerate") (hm : X.mg "enumerate" = none) (ha : PA X [e] ta) (hs : starEach [e] X.env = [(false, eval e X.env)] := by rfl) :
    PI X (.Tuple elts kk tpos) (.Call (.Name "enumerate" p) [e] [] pos) (iEnumT X.K ta) := by
  refine ⟨fun pins s σ H R I h => Call_ (ld_blt I hg hm boot_enumerate (PyProof.Rows.callWith_type1 (thn (ha.run pos pins s σ H _ I h) fun us s1 ⟨vs, H1, I1, r1, q1⟩ => ?_) hs rfl))⟩
  obtain ⟨a, xs, ex, hq, q⟩ := q1
  subst ex
  obtain ⟨u, rfl, ru⟩ := vals1 r1
  cases ru
  obtain ⟨its, rv, ⟨⟨c, dct, dt, sl⟩, hl, hc, n, hd⟩, hz⟩ := I1.tuple hq
  replace hc : c = .type "tuple" := hc
  replace hd : dt = .seq its.toArray n := hd
  subst hc hd
  refine callType_new F.called_enumerate (by decide) (F.typeCall_enumerate_1 _) (F.newCall_enumerate_1 _) (fun obj => F.args_object_init_2 obj _) F.entry_enumerate_new
    (meets_enumT a its.toArray n dct sl) ⟨hl, ?_⟩
  have hz1 : (s1.heap.push { cls := .type "tuple_iterator", data := .fields #[.ref a, .int 0 0] }).objs.size = s1.heap.objs.size + 1 := Heap.size_push ..
  show _ ∧ _
  rw [hz1]
  have he : IsEnum ((s1.heap.push { cls := .type "tuple_iterator", data := .fields #[.ref a, .int 0 0] }).push
      { cls := .type "enumerate", data := .fields #[.none, .bool false, .ref s1.heap.objs.size, rawInt 0, .none, .none] }) (s1.heap.objs.size + 1) s1.heap.objs.size 0 .none := by
    have := Heap.get?_push_size (s1.heap.push { cls := .type "tuple_iterator", data := .fields #[.ref a, .int 0 0] })
      (o := { cls := .type "enumerate", data := .fields #[.none, .bool false, .ref s1.heap.objs.size, rawInt 0, .none, .none] }) rfl
    rw [hz1] at this; exact this
  have hk : ∀ b o, s1.heap.get? b = some o → ((s1.heap.push { cls := .type "tuple_iterator", data := .fields #[.ref a, .int 0 0] }).push { cls := .type "enumerate", data := .fields #[.none, .bool false, .ref s1.heap.objs.size, rawInt 0, .none, .none] }).get? b = some o :=
    fun b o x => Heap.get?_push_of_some _ (Heap.get?_push_of_some _ x)
  refine ⟨⟨_, he, rfl⟩, wpAny_pyIter_enum he ?_⟩
  refine ⟨s1.heap.objs.size + 1, [s1.heap.objs.size + 1, s1.heap.objs.size], _, _, H1, rfl, I1.kept (t' := s1.toks) hk, turn_enumT a (s1.heap.objs.size + 1) s1.heap.objs.size,
    ⟨⟨.none, he⟩, ⟨_, Heap.get?_push_of_some _ (Heap.get?_push_size _ rfl), rfl, rfl⟩, Nat.succ_ne_self _⟩, fun b hb => ?_, q⟩
  have hle : s1.heap.objs.size ≤ b := by
    rcases (show b = s1.heap.objs.size + 1 ∨ b = s1.heap.objs.size by simpa using hb) with z | z <;> rw [z]
    · exact Nat.le_add_right _ _
    · exact Nat.le_refl _
  exact I1.fpOk hle (I1.hok.fresh hle)
theorem for_enumT {K : PySem.W.Frag} {a : Addr} {xs : List V} {g : TG} {tb : TS} {D : Ends} {σ : L2.St} {H : Hp} (Pv : Nat → L2.St → Hp → Prop) (h0 : Pv 0 σ H) (hl : ∀ i σ H, i ≤ xs.length → Pv i σ H → SqT K H a xs)
    (hs : ∀ i x σ H T, xs[i]? = some x → Pv i σ H → H T = none → g (.ref T) σ (upd H T (.tup [.int (i : Nat), x])) fun σ2 H2 => tb { D with nx := Pv (i + 1), ct := Pv (i + 1), bk := D.nx } σ2 H2) (hd : ∀ σ H, Pv xs.length σ H → D.nx σ H) :
    ∃ W : Nat → Nat → L2.St → Hp → Prop, (∃ m, W 0 m σ H) ∧ ∀ i m σ H, W i m σ H →
      ((IteT K a).stop i H ∧ D.nx σ H) ∨ ((IteT K a).go i H ∧ ∃ N : L2.St → Hp → Prop, (∀ σ' H', N σ' H' → ∃ m', m' < m ∧ W (i + 1) m' σ' H') ∧ ∀ v H', (IteT K a).yld i H v H' → g v σ H' fun σ2 H2 => tb { D with nx := N, ct := N, bk := D.nx } σ2 H2) := by
  refine ⟨fun i m σ H => m = xs.length - i ∧ i ≤ xs.length ∧ Pv i σ H, ⟨xs.length, by simp, Nat.zero_le _, h0⟩, ?_⟩
  rintro i m σ H ⟨rfl, hi, p⟩
  have q := hl i σ H hi p
  by_cases hlt : i < xs.length
  · refine .inr ⟨⟨xs, xs[i], q, by simp [hlt]⟩, Pv (i + 1), fun σ' H' p' => ⟨xs.length - (i + 1), by omega, rfl, hlt, p'⟩, ?_⟩
    rintro v H' ⟨T, x, rfl, hT, rfl, hx⟩
    exact hs i x σ H T (hx xs q) p hT
  · have e : i = xs.length := by omega
    subst e
    exact .inl ⟨⟨xs, q, Nat.le_refl _⟩, hd σ H p⟩
end KX

namespace KX
open PySem PySem.W PySem.Calls PySem.Spec PyProof.Rows L2
/-- what the law's call asks, from a view of the heap in which at most the script is known -/
theorem enterG {P : Program} {w : World} {K : Frag} {mg mb : Str → Option Value} {k : Nat} {fa a : Addr} {fd : FuncData} {x : Str} {sp : Sp} {s : Shared} {vs : List Value} {H : Hp}
    (KX : K.In s.heap) (hns : s.heap.Ns mainGlobals mg) (hb : s.heap.Ns builtinsNs mb) (hbb : ∀ x : Str, x ≠ "__name__" → mb x = bootBuiltins x) (hlim : s.heap.NoLimit) (hg : s.gens = #[])
    (ha : s.heap.get? a = some { cls := .type "list", data := .seq vs.toArray }) (hr : Room k callerA)
    (F : ∀ base : Heap, K.In base → base.Ns mainGlobals mg → FnOkG P w K mg base CX0 k fa fd [x] sp) (hbind : BindsTo s fd ⟨[.ref a], []⟩ [(x, .ref a)])
    (hsp : sp [.ref a] H (fun v _ => v = .bl true) fun _ _ _ => False)
    (hO : ∀ b, H b = none ∨ (b = a ∧ K.lookup a = none ∧ ∃ o xs, H b = some (.frz o (.lst xs)))) (hok : HOk P w H s.heap) :
    codeAny (model P w) callerA (.call (.ref fa) ⟨[.ref a], []⟩) (fun r s' => r = .ok (.ret (.bool true)) ∧ OldK s.heap s'.heap ∧ s'.os = s.os ∧ AllBare s'.gens) s := by
  have free : ∀ {b : Addr}, b ≠ a → H b = none := fun {b} h => (hO b).elim id fun z => absurd z.1 h
  have stay : ∀ {b : Addr} {o : Obj}, b ≠ a → s.heap.get? b = some o → (hidT s.heap H).get? b = some o := fun h e => hidT_get e (free h)
  have nsA : ∀ {b : Addr} {m : Str → Option Value}, s.heap.Ns b m → (hidT s.heap H).Ns b m := fun {b m} ⟨o, es, ep, e, d, r⟩ =>
    ⟨o, es, ep, stay (fun z => by rw [z, ha] at e; cases e; cases (show Data.seq vs.toArray _ = Data.dict es ep from d)) e, d, r⟩
  have inB : K.In (hidT s.heap H) := fun b o e => by
    rcases hO b with z | ⟨rfl, z, _⟩
    · exact hidT_get (KX b o e) z
    · rw [z] at e; cases e
  have e0 : Env0 P w K mg (hidT s.heap H) callerA [] s H :=
    ⟨rfl, ⟨inB, nsA hns, ⟨mb, nsA hb, hbb⟩, hlim.elim fun mc h => ⟨mc, nsA h.1, h.2⟩⟩, fun b o e => of_hidT e, Nat.le_of_eq (hidT_size _ _), trivial, fun b hb => absurd (show b ∈ ([] : List Addr) from hb) (by simp), hok, .of_eq hg⟩
  refine codeAny_mono ((F _ inB (nsA hns)).go callerA [] s H ⟨[.ref a], []⟩ [.ref a] [.ref a] _ _ rfl hr e0 hbind (.cons rfl .nil) hsp) fun r s' h => ?_
  rcases r with er | fl
  · exact False.elim h
  · cases fl with
    | next => exact False.elim h
    | brk => exact False.elim h
    | cont => exact False.elim h
    | ret u =>
      obtain ⟨v, H', os, bare, un, hok', rv, q⟩ := h
      have q : v = .bl true := q
      subst q
      cases rv
      refine ⟨rfl, OldK.of_keep fun b o e => ?_, os, bare⟩
      rcases hO b with z | ⟨_, _, ob, xs, z⟩
      · exact un.keep b o e z (fun z => absurd (show b ∈ ([] : List Addr) from z) (by simp)) (by simp)
      · have e1 : s.heap.get? b = some ob := (hok b _ z).1
        rw [e1] at e
        cases e
        exact (hok' b _ (un.frzs b _ _ z)).1
theorem lawG {P : Program} {w : World} {K : Frag} {mg mb : Str → Option Value} {k : Nat} {fa a : Addr} {fd : FuncData} {x : Str} {sp : Sp} {s : Shared} {vs : List Value} {ns : List Int}
    (KX : K.In s.heap) (hns : s.heap.Ns mainGlobals mg) (hb : s.heap.Ns builtinsNs mb) (hbb : ∀ x : Str, x ≠ "__name__" → mb x = bootBuiltins x) (hlim : s.heap.NoLimit) (hg : s.gens = #[])
    (ha : s.heap.get? a = some { cls := .type "list", data := .seq vs.toArray }) (hi : IntsAre vs ns) (hl : ns.length ≤ sizeLine) (hr : Room k callerA)
    (F : ∀ base : Heap, K.In base → base.Ns mainGlobals mg → FnOkG P w K mg base CX0 k fa fd [x] sp) (hbind : ∀ (s : Shared) (u : Value), BindsTo s fd ⟨[u], []⟩ [(x, u)])
    (hsp : ∀ H : Hp, SqL K H a (ns.map V.int) → sp [.ref a] H (fun v _ => v = .bl true) fun _ _ _ => False) :
    codeAny (model P w) callerA (.call (.ref fa) ⟨[.ref a], []⟩) (fun r s' => r = .ok (.ret (.bool true)) ∧ OldK s.heap s'.heap ∧ s'.os = s.os ∧ AllBare s'.gens) s := by
  have rv := vals_ints hi
  cases hk : K.lookup a with
  | some o =>
    have e := KX a o hk
    rw [ha] at e
    cases e
    exact enterG (H := fun _ => none) KX hns hb hbb hlim hg ha hr F (hbind s _) (hsp _ (.inr ⟨_, vs.toArray, _, hk, rfl, rfl, rfl, by rw [List.size_toArray, hi.length]; exact hl, by simpa using rv⟩))
      (fun b => .inl rfl) fun b u z => nomatch (show (none : Option HO) = some u from z)
  | none =>
    have at_ : (fun b => if b = a then some (HO.frz { cls := .type "list", data := .seq vs.toArray } (.lst (ns.map V.int))) else none : Hp) a = some (.frz { cls := .type "list", data := .seq vs.toArray } (.lst (ns.map V.int))) := if_pos rfl
    refine enterG (H := fun b => if b = a then some (.frz { cls := .type "list", data := .seq vs.toArray } (.lst (ns.map V.int))) else none) KX hns hb hbb hlim hg ha hr F (hbind s _) (hsp _ (.inl (.inr ⟨_, at_⟩))) (fun b => ?_) fun b u z => ?_
    · by_cases h : b = a
      · exact .inr ⟨h, hk, _, _, if_pos h⟩
      · exact .inl (if_neg h)
    · by_cases h : b = a
      · subst h
        rw [at_] at z
        cases z
        exact ⟨ha, by rw [List.length_map]; exact hl, vs, _, rv, ha⟩
      · exact nomatch (if_neg h).symm.trans z
theorem walkG {l : OpenLaw} {n k : Nat} {q : Program} {loose : List Str} {XP : (Str → Option Value) → Heap → Prop} {YP : World → Heap → Prop} {d : DefRec} {K : Params → Frag} {sp : World → Sp} {x : Str}
    (hn : l.most = some n) (hn2 : n ≤ sizeLine) (hdf : d.params.defaults = []) (hr : Room k callerA) (hY : ∀ (w : World) (h : Heap), YP w h → (K w.params).In h)
    (F : ∀ (w : World) (mg : Str → Option Value) (fa : Addr) (h : Heap), (K w.params).In h → h.Ns mainGlobals mg → XP mg h → mg d.name = some (.ref fa) →
      ∃ fd : FuncData, (∀ (s : Shared) (u : Value), BindsTo s fd ⟨[u], []⟩ [(x, u)]) ∧ ∀ base : Heap, (K w.params).In base → base.Ns mainGlobals mg → FnOkG l.prog w (K w.params) mg base CX0 k fa fd [x] (sp w))
    (hsp : ∀ (w : World) (H : Hp) (a : Addr) (ns : List Int), ns.length ≤ n → SqL (K w.params) H a (ns.map V.int) → sp w [.ref a] H (fun v _ => v = .bl true) fun _ _ _ => False) :
    WalkO q loose XP YP l.row.toRowW d [] (fun f vs => PySem.call f vs) := by
  refine Att.attach_call hn hdf fun w s₀ s₁ mg mb fa o pm cd doc a vs ns G Y ho hd hcd hmg hobj hints hlen hg => ?_
  have X := hY w _ Y
  obtain ⟨fd, hb, hF⟩ := F w mg fa _ X G.T.g G.X hmg
  exact lawG X G.T.g G.T.b G.T.builtins G.T.nolimit hg hobj hints (Nat.le_trans hlen hn2) hr hF hb fun H hS => hsp w H a ns hlen hS
/-- a if t else b, as a test -/
def tIfT (t ta tb : TT) : TT := fun σ H Q => t σ H fun c H1 => if c = true then ta σ H1 Q else tb σ H1 Q
theorem pt_ifExp {X : Cx} {pos : Pos} {c a b : Expr} {tA ta tb : TT} (hc : PT X c tA) (ha : PT X a ta) (hb : PT X b tb) : PT X (.IfExp c a b pos) (tIfT tA ta tb) := by
  refine ⟨fun pins s σ H Q I h => ?_⟩
  refine isTrue_IfExp (thn (hc.run pins s σ H _ I h) fun d s1 ⟨H1, I1, q1⟩ => ?_)
  cases d with
  | true => exact ha.run pins s1 σ H1 Q I1 q1
  | false => exact hb.run pins s1 σ H1 Q I1 q1
/-- t == (), whatever stands in t -/
def rEqT0 (K : Frag) : R2 := fun x y H Q => ∃ (a b : Addr) (xs : List V), x = .ref a ∧ y = .ref b ∧ SqT K H a xs ∧ SqT K H b [] ∧ Q (.bl xs.isEmpty) H
theorem op_eqT0 {X : Cx} (hu : X.A.units + 1 < cLine) : OpR X (compareOp .Eq) (rEqT0 X.K) := by
  intro pins s σ H x y v u Q I rx ry h
  obtain ⟨a, b, xs, rfl, rfl, hx, hy, q⟩ := h
  cases rx
  cases ry
  obtain ⟨its, rv, p, _⟩ := I.tuple hx
  obtain ⟨its2, rv2, p2, _⟩ := I.tuple hy
  cases rv2
  refine SeqAt.eq_tupleAt (e := fun _ => true) p p2 (by omega) (fun j _ h2 => absurd h2 (by simp)) ⟨.bl xs.isEmpty, H, I, ?_, q⟩
  show Value.bool _ = Value.bool _
  cases rv with
  | nil => rfl
  | cons _ _ => simp
end KX

/-! what the walk of all defs shares -/
namespace K67
open PySem L2 KX
def topS (i : Nat) : Stmt := PySem.Challenge.pw_pressworlds_k67_whole_cosets_and_lots_wi.main.body.getD i (.Pass ⟨0, 0, 0, 0⟩)

/-! views of the heap: what is told lies in G, a part of H -/
structure Up (G0 H0 G H : Hp) : Prop where
  g : Same G0 G
  h : Same H0 H
  v : Same G H
  n : ∀ b o, H0 b = some o → G0 b = none → G b = none
section
variable {G0 H0 G H G' H' : Hp} {a : Addr} {o u : HO}
theorem Up.refl (v : Same G H) : Up G H G H := ⟨Same.refl _, Same.refl _, v, fun _ _ _ h => h⟩
theorem Up.trans (x : Up G0 H0 G H) (y : Up G H G' H') : Up G0 H0 G' H' :=
  ⟨x.g.trans y.g, x.h.trans y.h, y.v, fun b o e n => y.n b o (x.h b o e) (x.n b o e n)⟩
theorem Up.free (x : Up G0 H0 G H) (h : H a = none) : G a = none := x.v.free h
theorem Up.free0 (x : Up G0 H0 G H) (h : H a = none) : H0 a = none := x.h.free h
theorem same_new (h : H a = none) : Same H (upd H a o) := fun b u e => by rw [upd_ne (ne_of_none e h)]; exact e
/-- a new object that will not change -/
theorem Up.new (x : Up G0 H0 G H) (h : H a = none) : Up G0 H0 (upd G a o) (upd H a o) := by
  have hg := x.free h
  refine ⟨x.g.trans (same_new hg), x.h.trans (same_new h), fun b u e => ?_, fun b u e n => ?_⟩
  · by_cases hb : b = a
    · subst hb; rw [upd_same] at e ⊢; exact e
    · rw [upd_ne hb] at e ⊢; exact x.v b u e
  · by_cases hb : b = a
    · subst hb; rw [x.free0 h] at e; cases e
    · rw [upd_ne hb]; exact x.n b u e n
/-- a new object that may change: it stands in H alone -/
theorem Up.own (x : Up G0 H0 G H) (h : H a = none) : Up G0 H0 G (upd H a o) :=
  ⟨x.g, x.h.trans (same_new h), x.v.trans (same_new h), x.n⟩
theorem Up.mut (x : Up G0 H0 G H) (h0 : H0 a = none) (hg : G a = none) : Up G0 H0 G (upd H a o) := by
  refine ⟨x.g, fun b u e => ?_, fun b u e => ?_, x.n⟩
  · rw [upd_ne (ne_of_none e h0)]; exact x.h b u e
  · rw [upd_ne (ne_of_none e hg)]; exact x.v b u e
/-- from now on it will not change -/
theorem Up.pub (x : Up G0 H0 G H) (h0 : H0 a = none) (hg : G a = none) (ha : H a = some o) : Up G0 H0 (upd G a o) H := by
  refine ⟨x.g.trans (same_new hg), x.h, fun b u e => ?_, fun b u e n => ?_⟩
  · by_cases hb : b = a
    · subst hb; rw [upd_same] at e; rw [ha]; exact e
    · rw [upd_ne hb] at e; exact x.v b u e
  · by_cases hb : b = a
    · subst hb; rw [h0] at e; cases e
    · rw [upd_ne hb]; exact x.n b u e n
end
theorem rd_same {G H : Hp} {a : Addr} {u : HO} (s : Same G H) (h : Rd G a u) : Rd H a u := h.elim (fun h => .inl (s _ _ h)) fun ⟨o, h⟩ => .inr ⟨o, s _ _ h⟩
theorem sqT_same {K : PySem.W.Frag} {G H : Hp} {a : Addr} {xs : List V} (s : Same G H) (h : SqT K G a xs) : SqT K H a xs := h.elim (fun h => .inl (rd_same s h)) .inr
mutual
theorem dp_same {K : PySem.W.Frag} {G H : Hp} (s : Same G H) : ∀ (d : PyData) (v : V), Dp K G v d → Dp K H v d
  | .none, _, h => by cases h; exact .non
  | .bool b, _, h => by cases h; exact .bl b
  | .int i, _, h => by cases h; exact .int i
  | .str x, _, h => by cases h; exact .str x
  | .list ds, _, h => by
    cases h with
    | lst a b => exact .lst (s.seq a) (dps_same s ds _ b)
  | .tuple ds, _, h => by
    cases h with
    | tup a b => exact .tup (sqT_same s a) (dps_same s ds _ b)
  | .dict _, _, h => by cases h
theorem dps_same {K : PySem.W.Frag} {G H : Hp} (s : Same G H) : ∀ (ds : List PyData) (vs : List V), DpAll K G vs ds → DpAll K H vs ds
  | [], _, h => by cases h; exact .nil
  | d :: ds, _, h => by
    cases h with
    | cons a b => exact .cons (dp_same s d _ a) (dps_same s ds _ b)
end
section
variable {K : PySem.W.Frag} {G H : Hp} {v : V}
theorem Dp.up {d : PyData} (h : Dp K G v d) (s : Same G H) : Dp K H v d := dp_same s d v h
theorem DpAll.up {ds : List PyData} {vs : List V} (h : DpAll K G vs ds) (s : Same G H) : DpAll K H vs ds := dps_same s ds vs h
theorem DpAll.len : ∀ {vs : List V} {ds : List PyData}, DpAll K G vs ds → vs.length = ds.length
  | _, _, .nil => rfl
  | _, _, .cons _ t => by simp [DpAll.len t]
theorem DpAll.get : ∀ {vs : List V} {ds : List PyData} {i : Nat} {d : PyData}, DpAll K G vs ds → ds[i]? = some d → ∃ v, vs[i]? = some v ∧ Dp K G v d
  | _, _, _, _, .nil, h => by simp at h
  | _, _, 0, _, .cons a _, h => by simp at h; subst h; exact ⟨_, rfl, a⟩
  | _, _, i + 1, d, .cons _ t, h => by
    obtain ⟨v, h1, h2⟩ := DpAll.get (i := i) (d := d) t (by simpa using h)
    exact ⟨v, by simpa using h1, h2⟩
theorem DpAll.getV : ∀ {vs : List V} {ds : List PyData} {i : Nat} {v : V}, DpAll K G vs ds → vs[i]? = some v → ∃ d, ds[i]? = some d ∧ Dp K G v d
  | _, _, _, _, .nil, h => by simp at h
  | _, _, 0, _, .cons a _, h => by simp at h; subst h; exact ⟨_, rfl, a⟩
  | _, _, i + 1, v, .cons _ t, h => by
    obtain ⟨d, h1, h2⟩ := DpAll.getV (i := i) (v := v) t (by simpa using h)
    exact ⟨d, by simpa using h1, h2⟩
theorem DpAll.app : ∀ {vs ws : List V} {ds es : List PyData}, DpAll K G vs ds → DpAll K G ws es → DpAll K G (vs ++ ws) (ds ++ es)
  | _, _, _, _, .nil, h => h
  | _, _, _, _, .cons a t, h => .cons a (DpAll.app t h)
theorem DpAll.drop : ∀ {vs : List V} {ds : List PyData} (n : Nat), DpAll K G vs ds → DpAll K G (vs.drop n) (ds.drop n)
  | _, _, 0, h => h
  | _, _, n + 1, .nil => .nil
  | _, _, n + 1, .cons _ t => DpAll.drop n t
theorem DpAll.take : ∀ {vs : List V} {ds : List PyData} (n : Nat), DpAll K G vs ds → DpAll K G (vs.take n) (ds.take n)
  | _, _, 0, h => .nil
  | _, _, n + 1, .nil => .nil
  | _, _, n + 1, .cons a t => .cons a (DpAll.take n t)
theorem dpi : ∀ (l : List Int), DpAll K G (l.map V.int) (l.map PyData.int)
  | [] => .nil
  | a :: l => .cons (.int a) (dpi l)
theorem dpi_inv : ∀ {l : List Int} {vs : List V}, DpAll K G vs (l.map PyData.int) → vs = l.map V.int
  | [], _, .nil => rfl
  | a :: l, _, .cons h t => by cases h; rw [dpi_inv t]; rfl
end
/-! data -/
def tD (t : T3) : PyData := .tuple [.int t.1, .int t.2.1, .int t.2.2]
def iD (l : List Int) : PyData := .list (l.map PyData.int)
def lD (M : List T3) : PyData := .list (M.map tD)
def oD : Option T3 → PyData
  | none => .tuple []
  | some t => tD t
def eO (F : Fm) : Option T3 := if F.e.1 = 0 then none else some F.e
def nO (F : Fm) : Option T3 := if F.n.2.1 = 0 then none else some F.n
def fD (F : Fm) : PyData := .tuple [oD (eO F), oD (nO F), .int F.z]
section
variable {K : PySem.W.Frag} {G : Hp} {v : V}
/-- a tuple of three whole numbers -/
theorem t3_inv {t : T3} (h : Dp K G v (tD t)) : ∃ a, v = .ref a ∧ SqT K G a [.int t.1, .int t.2.1, .int t.2.2] := by
  unfold tD at h
  cases h with
  | tup s d =>
    cases d with
    | cons a d =>
      cases a
      cases d with
      | cons a d =>
        cases a
        cases d with
        | cons a d =>
          cases a
          cases d
          exact ⟨_, rfl, s⟩
theorem t3_mk {t : T3} {a : Addr} (h : SqT K G a [.int t.1, .int t.2.1, .int t.2.2]) : Dp K G (.ref a) (tD t) := .tup h (.cons (.int _) (.cons (.int _) (.cons (.int _) .nil)))
theorem i_inv {l : List Int} (h : Dp K G v (iD l)) : ∃ a, v = .ref a ∧ SqL K G a (l.map V.int) := by
  unfold iD at h
  cases h with
  | lst s d => rw [dpi_inv d] at s; exact ⟨_, rfl, s⟩
theorem i_mk {l : List Int} {a : Addr} (h : SqL K G a (l.map V.int)) : Dp K G (.ref a) (iD l) := .lst h (dpi l)
theorem l_inv {ds : List PyData} (h : Dp K G v (.list ds)) : ∃ a xs, v = .ref a ∧ SqL K G a xs ∧ DpAll K G xs ds := by
  cases h with
  | lst s d => exact ⟨_, _, rfl, s, d⟩
theorem u_inv {ds : List PyData} (h : Dp K G v (.tuple ds)) : ∃ a xs, v = .ref a ∧ SqT K G a xs ∧ DpAll K G xs ds := by
  cases h with
  | tup s d => exact ⟨_, _, rfl, s, d⟩
theorem f_inv {F : Fm} (h : Dp K G v (fD F)) : ∃ a x y, v = .ref a ∧ SqT K G a [x, y, .int F.z] ∧ Dp K G x (oD (eO F)) ∧ Dp K G y (oD (nO F)) := by
  obtain ⟨a, xs, rfl, s, d⟩ := u_inv h
  cases d with
  | cons hx d =>
    cases d with
    | cons hy d =>
      cases d with
      | cons hz d =>
        cases hz
        cases d
        exact ⟨_, _, _, rfl, s, hx, hy⟩
theorem f_mk {F : Fm} {a : Addr} {x y : V} (h : SqT K G a [x, y, .int F.z]) (hx : Dp K G x (oD (eO F))) (hy : Dp K G y (oD (nO F))) : Dp K G (.ref a) (fD F) := .tup h (.cons hx (.cons hy (.cons (.int _) .nil)))
end
/-! == of data -/
theorem eqv_t3 (a b : T3) : PyData.eqv (tD a) (tD b) = decide (a = b) := by
  obtain ⟨x, y, s⟩ := a; obtain ⟨x', y', s'⟩ := b
  unfold tD
  by_cases h : (x, y, s) = (x', y', s')
  · rw [decide_eq_true h]
    cases h
    simp [PyData.eqv, PyData.eqvAll]
  · rw [decide_eq_false h]
    simp only [Prod.mk.injEq] at h
    simp [PyData.eqv, PyData.eqvAll]
    exact fun a b c => h ⟨a, b, c⟩
theorem shaped_t3 (t : T3) : SeqAt.shaped (tD t) = true := rfl
theorem shaped_nil : SeqAt.shaped (.tuple []) = true := rfl
theorem shaped_nilL : SeqAt.shaped (.list []) = true := rfl
theorem shaped_oD (o : Option T3) : SeqAt.shaped (oD o) = true := by cases o <;> rfl
theorem eqv_oD_nil (o : Option T3) : PyData.eqv (oD o) (.tuple []) = o.isNone := by cases o <;> rfl
theorem canLay_tDs : ∀ M : List T3, PyData.canLayAll0 (M.map tD) = true
  | [] => rfl
  | t :: M => by
    have := canLay_tDs M
    simp [PyData.canLayAll0, this, tD, PyData.canLay0]
theorem depth_tDs : ∀ M : List T3, PyData.depthAll (M.map tD) ≤ 2
  | [] => by simp [PyData.depthAll]
  | t :: M => by
    have := depth_tDs M
    simp [PyData.depthAll, tD, PyData.depth]
    omega
theorem shaped_lD (M : List T3) : SeqAt.shaped (lD M) = true := by
  unfold SeqAt.shaped lD
  rw [Bool.and_eq_true]
  refine ⟨by simp [PyData.canLay0, canLay_tDs], decide_eq_true ?_⟩
  have := depth_tDs M
  simp [PyData.depth]
  omega
theorem eqv_lD_nil (M : List T3) : PyData.eqv (lD M) (.list []) = M.isEmpty := by cases M <;> rfl
theorem shaped_fD (F : Fm) : SeqAt.shaped (fD F) = true := by
  unfold fD
  generalize eO F = a
  generalize nO F = b
  cases a <;> cases b <;> rfl
theorem eqv_oD (a b : Option T3) : PyData.eqv (oD a) (oD b) = decide (a = b) := by
  cases a with
  | none => cases b <;> rfl
  | some a =>
    cases b with
    | none => rfl
    | some b =>
      show PyData.eqv (tD a) (tD b) = _
      rw [eqv_t3]
      by_cases h : a = b
      · simp [h]
      · simp [h]
theorem eqv_fD {F G : Fm} (C : Canon F) (D : Canon G) : PyData.eqv (fD F) (fD G) = decide (F = G) := by
  have e1 : PyData.eqv (fD F) (fD G) = (PyData.eqv (oD (eO F)) (oD (eO G)) && (PyData.eqv (oD (nO F)) (oD (nO G)) && (F.z == G.z))) := by
    simp [fD, PyData.eqv, PyData.eqvAll]
  rw [e1, eqv_oD, eqv_oD]
  by_cases h : F = G
  · subst h; simp
  · rw [decide_eq_false h]
    rw [Bool.eq_false_iff]
    intro q
    simp only [Bool.and_eq_true, decide_eq_true_eq, beq_iff_eq] at q
    obtain ⟨q1, q2, q3⟩ := q
    apply h
    have a : F.e = G.e := by
      unfold eO at q1
      by_cases h1 : F.e.1 = 0 <;> by_cases h2 : G.e.1 = 0
      · rw [C.eN h1, D.eN h2]
      · rw [if_pos h1, if_neg h2] at q1; cases q1
      · rw [if_neg h1, if_pos h2] at q1; cases q1
      · rw [if_neg h1, if_neg h2] at q1; exact Option.some.inj q1
    have b : F.n = G.n := by
      unfold nO at q2
      by_cases h1 : F.n.2.1 = 0 <;> by_cases h2 : G.n.2.1 = 0
      · rw [C.nN h1, D.nN h2]
      · rw [if_pos h1, if_neg h2] at q2; cases q2
      · rw [if_neg h1, if_pos h2] at q2; cases q2
      · rw [if_neg h1, if_neg h2] at q2; exact Option.some.inj q2
    cases F; cases G
    simp at a b q3
    simp [a, b, q3]

/-! defs by their names -/
structure Def (P : Program) (w : World) (K : PySem.W.Frag) (mg : Str → Option Value) (base : Heap) (x : Str) (k : Nat) (ps : List Str) (sp : Sp) where
  f : Addr
  fd : FuncData
  ok : FnOk P w K mg base CX0 k f fd ps sp
  g : mg x = some (.ref f)
  kp : PySem.W.keepIn K (.ref f) = true
  b : Binds K fd ps []
structure DefG (P : Program) (w : World) (K : PySem.W.Frag) (mg : Str → Option Value) (base : Heap) (x : Str) (k : Nat) (ps : List Str) (sp : Sp) where
  f : Addr
  fd : FuncData
  ok : FnOkG P w K mg base CX0 k f fd ps sp
  g : mg x = some (.ref f)
  kp : PySem.W.keepIn K (.ref f) = true
  b : Binds K fd ps []
/-- a class with its __init__ -/
structure Cla (P : Program) (w : World) (K : PySem.W.Frag) (mg : Str → Option Value) (base : Heap) (x : Str) (C : Addr) (k : Nat) (ps : List Str) (sp : Sp) where
  f : Addr
  fd : FuncData
  m : Mk K C f
  ok : FnOk P w K mg base CX0 k f fd ps sp
  g : mg x = some (.ref C)
  b : Binds K fd ps []
section
variable {X : Cx} {x : Str} {j k : Nat} {ps ks : List Str} {sp : Sp} {p pos : Pos} {e : Expr} {es : List Expr} {t : TA} {C : Addr}
theorem pe_def (c : Def X.prog X.w X.K X.mg X.base x k ps sp) (hr : Room j X.A) (hk : k ≤ j) (ha : PA X (e :: es) t) (hg : Gl X x := by rfl) (hdb : (x == ("__debug__" : Str)) = false := by decide)
    (he : starEach (e :: es) X.env = (false, eval e X.env) :: starEach es X.env := by rfl) (hpl : (backTo pos (starEach es X.env)).any (·.1) = false := by rfl) : PE X (.Call (.Name x p) (e :: es) [] pos) (tCall sp [] E0 t) :=
  pe_call c.ok (hr.mono hk) hg c.g c.kp c.b .nil pass0 ha hdb he hpl
theorem pe_defG (c : DefG X.prog X.w X.K X.mg X.base x k ps sp) (gd : X.A.guards = some []) (hr : Room j X.A) (hk : k ≤ j) (ha : PA X (e :: es) t) (hg : Gl X x := by rfl) (hdb : (x == ("__debug__" : Str)) = false := by decide)
    (he : starEach (e :: es) X.env = (false, eval e X.env) :: starEach es X.env := by rfl) (hpl : (backTo pos (starEach es X.env)).any (·.1) = false := by rfl) : PE X (.Call (.Name x p) (e :: es) [] pos) (tCall sp [] E0 t) :=
  pe_callG gd c.ok (hr.mono hk) hg c.g c.kp c.b .nil pass0 ha hdb he hpl
theorem pe_mk (c : Cla X.prog X.w X.K X.mg X.base x C k ps sp) (hr : Room j X.A) (hk : k + 1 ≤ j) (ha : PA X (e :: es) t) (hg : Gl X x := by rfl) (hdb : (x == ("__debug__" : Str)) = false := by decide)
    (he : starEach (e :: es) X.env = (false, eval e X.env) :: starEach es X.env := by rfl) (hpl : (backTo pos (starEach es X.env)).any (·.1) = false := by rfl) : PE X (.Call (.Name x p) (e :: es) [] pos) (tMake C sp [] E0 t) :=
  pe_make c.m c.ok (hr.mono hk) hg c.g c.b .nil pass0 ha hdb he hpl
theorem pe_defK {kws : List Keyword} {tk : TA} {g : List Value → List Value → List Value} {gV : List V → List V → List V} (c : Def X.prog X.w X.K X.mg X.base x k ps sp) (hr : Room j X.A) (hk : k ≤ j) (kb : KBinds X.K c.fd ps ks g gV) (hkw : PK X kws tk) (hg : Gl X x := by rfl)
    (hall : (backToKw pos (keywordEach kws X.env)).all (·.1.isSome) = true := by rfl) (hks : (backToKw pos (keywordEach kws X.env)).filterMap (·.1) = ks := by rfl) (hdb : (x == ("__debug__" : Str)) = false := by decide)
    (hpl : ((backTo pos (starEach [] X.env)).any (·.1) || (backToKw pos (keywordEach kws X.env)).any (·.1.isNone)) = false := by rfl) : PE X (.Call (.Name x p) [] kws pos) (tCallK sp gV E0 tNil tk) :=
  pe_callK0 c.ok (hr.mono hk) hg c.g c.kp kb pass0 hkw hall hks hdb hpl
end
/-! the same rules within a comprehension's block -/
section
variable {X : Cx} {K : PySem.W.Frag}
theorem ixB_tup (h : X.K = K) : IxR X (rIxT K) := h ▸ ix_tup
theorem ixB_list (h : X.K = K) : IxR X (rIxL K) := h ▸ ix_list
theorem slB_tup (h : X.K = K) : SlR X (rSlT K) := h ▸ sl_tup
theorem call_lenB (h : X.K = K) : CallR X (.builtin "len") (fun xs H Q => ∃ p ys, xs = [V.ref p] ∧ (SqL K H p ys ∨ SqT K H p ys) ∧ Q (V.int ys.length) H) := h ▸ call_len_seq
theorem pe_fldB {e : Expr} {f : Str} {pos : Pos} {ta : TE} (h : X.K = K) (ha : PE X e ta) (hb : attributeBase e f X.env (eval e X.env) = eval e X.env) : PE X (.Attribute e f pos) (tFld K ta f) := h ▸ pe_fld ha hb
theorem pg_tupB {es : List Expr} {k : Nat} {t : TGs} {n : Nat} {pos : Pos} (h : X.K = K) (hc : X.calm = true) (hs : PGs X es t)
    (hn : (assignEach es X.env).length = n := by rfl) (hst : (assignEach es X.env).findIdx? (·.1) = none := by rfl) : PG X (.Tuple es k pos) (gTup K n t) := h ▸ pg_tup hc hs hn hst
end
/-- what the top says of names -/
structure Txt (K : PySem.W.Frag) (mg : Str → Option Value) where
  n_isinstance : mg "isinstance" = none
  n_abs : mg "abs" = none
  n_len : mg "len" = none
  n_all : mg "all" = none
  n_range : mg "range" = none
  n_zip : mg "zip" = none
  n_enumerate : mg "enumerate" = none
  n_tuple : mg "tuple" = none
  n_list : mg "list" = none
  n_int : mg "int" = none
  n_bool : mg "bool" = none
  n_str : mg "str" = none
  n_divmod : mg "divmod" = none
  n_repr : mg "repr" = none
  aP : Addr
  g_PLAIN : mg "PLAIN" = some (.ref aP)
  tP : ∀ H : Hp, SqT K H aP [.int 0, .int 0, .int 0]
  tN : Tok
  g_MOST_NUMBER : mg "MOST_NUMBER" = some (.int (10 ^ 30) tN)
  tT : Tok
  g_MOST_TOLD : mg "MOST_TOLD" = some (.int 5 tT)

/-! sizes -/
theorem natAbs_lt_of {i : Int} {n : Nat} (h : i.natAbs < 2 ^ n) {m : Nat} (k : n ≤ m) : i.natAbs < 2 ^ m := Nat.lt_of_lt_of_le h (Nat.pow_le_pow_right (by decide) k)
theorem log2_of {i : Int} {n : Nat} (h : i.natAbs < 2 ^ n) (hn : 0 < n) : i.natAbs.log2 < n := PySem.Flt.log2_lt_of hn h
theorem mulW_of {i j : Int} {a b : Nat} (ha : i.natAbs < 2 ^ a) (hb : j.natAbs < 2 ^ b) (h0 : 0 < a) (h1 : 0 < b) (h : a + b ≤ 1000000) : CMulW i j := wide_mul ha hb h0 h1 h
theorem sz_add {i j : Int} {n : Nat} (ha : i.natAbs < 2 ^ n) (hb : j.natAbs < 2 ^ n) : (i + j).natAbs < 2 ^ (n + 1) := by
  have := Int.natAbs_add_le i j
  rw [Nat.pow_succ]; omega
theorem sz_sub {i j : Int} {n : Nat} (ha : i.natAbs < 2 ^ n) (hb : j.natAbs < 2 ^ n) : (i - j).natAbs < 2 ^ (n + 1) := by
  have := Int.natAbs_sub_le i j
  rw [Nat.pow_succ]; omega
theorem sz_mul {i j : Int} {a b : Nat} (ha : i.natAbs < 2 ^ a) (hb : j.natAbs < 2 ^ b) : (i * j).natAbs < 2 ^ (a + b) := wide_lt ha hb
theorem sz_div2 {i : Int} {a : Nat} (ha : i.natAbs < 2 ^ a) : (i / 2).natAbs < 2 ^ a := by omega
end K67

namespace K67
open PySem L2 KX
theorem Up.same {G0 H0 G H H' : Hp} (x : Up G0 H0 G H) (s : Same H H') : Up G0 H0 G H' := ⟨x.g, x.h.trans s, x.v.trans s, x.n⟩
theorem dV {a b : Int} : decide (V.int a = V.int b) = decide (a = b) := by
  by_cases h : a = b
  · subst h; simp
  · rw [decide_eq_false h, decide_eq_false fun q => h (V.int.inj q)]
theorem iteV {a b : Int} {A B : Prop} (h1 : a = b → A) (h2 : a ≠ b → B) : if decide (V.int a = V.int b) = true then A else B := by
  rw [dV]
  by_cases h : a = b
  · rw [decide_eq_true h]; exact iteT (h1 h)
  · rw [decide_eq_false h]; exact iteF (h2 h)
theorem iteVn {a b : Int} {A B : Prop} (h1 : a ≠ b → A) (h2 : a = b → B) : if (!decide (V.int a = V.int b)) = true then A else B := by
  rw [dV]
  by_cases h : a = b
  · rw [decide_eq_true h]; exact iteF (h2 h)
  · rw [decide_eq_false h]; exact iteT (h1 h)
theorem iteD {p : Prop} [Decidable p] {A B : Prop} (h1 : p → A) (h2 : ¬ p → B) : if decide p = true then A else B := by
  by_cases h : p
  · rw [decide_eq_true h]; exact iteT (h1 h)
  · rw [decide_eq_false h]; exact iteF (h2 h)
theorem tyes {σ : L2.St} {H : Hp} {F Gf : Hp → Prop} (h : F H) : tYes σ H (fun b H3 => if b = true then F H3 else Gf H3) := by
  show (if true = true then F H else Gf H)
  rw [if_pos rfl]
  exact h
section
variable {P : Program} {w : World} {K : PySem.W.Frag} {mg : Str → Option Value} {base : Heap} {f : Addr} {fd : FuncData}
/-! is_integer -/
abbrev s_is_integer : Stmt := topS 10
abbrev N_is_integer : List Str := ["value"]
theorem sc_is_integer : FnScope N_is_integer ["value"] (defScope s_is_integer) := ⟨rfl, rfl, rfl, by decide +kernel, rfl, by decide +kernel, by decide +kernel⟩
def sp_is_integer : Sp := fun vs H Q _ => ∃ i : Int, vs = [.int i] ∧ Q (.bl true) H
theorem ok_is_integer (F : Fun K "is_integer" "is_integer" s_is_integer f fd) (T : Txt K mg) : FnOk P w K mg base CX0 1 f fd ["value"] sp_is_integer := by
  refine F.ok sc_is_integer (fun vs H Q E ⟨i, h, _⟩ => by rw [h]; rfl) (fun cdv A outer s H vs Q E hr ⟨i, h, q⟩ => ?_)
  subst h
  refine ⟨_, (pss_one (ps_ret (pe_and (pe_callB call_isi (by rfl) T.n_isinstance (by decide +kernel) (pa_cons (pv 0) (pa_cons (pe_bltn (v := V.ty "int") (u := Value.type "int") (by rfl) T.n_int (by decide +kernel) rfl) pa_nil))) (pe_one (pe_not (pe_callB call_isi (by rfl) T.n_isinstance (by decide +kernel) (pa_cons (pv 0) (pa_cons (pe_bltn (v := V.ty "bool") (u := Value.type "bool") (by rfl) T.n_bool (by decide +kernel) rfl) pa_nil)))))))), ?_⟩
  refine ⟨_, rfl, _, _, _, _, true, rfl, .ty _, .base (.int _), kit_ty (by decide +kernel), true, rfl, iteT ?_⟩
  exact ⟨_, rfl, _, _, _, _, false, rfl, .ty _, .base (.int _), kit_ty (by decide +kernel), false, rfl, q⟩
/-! rest_of -/
abbrev s_rest_of : Stmt := topS 12
abbrev N_rest_of : List Str := ["number", "step"]
theorem sc_rest_of : FnScope N_rest_of ["number", "step"] (defScope s_rest_of) := ⟨rfl, rfl, rfl, by decide +kernel, rfl, by decide +kernel, by decide +kernel⟩
def sp_rest_of : Sp := fun vs H Q _ => ∃ n s : Int, vs = [.int n, .int s] ∧ 0 ≤ s ∧ Q (.int (if s = 0 then n else n % s)) H
theorem ok_rest_of (F : Fun K "rest_of" "rest_of" s_rest_of f fd) : FnOk P w K mg base CX0 1 f fd ["number", "step"] sp_rest_of := by
  refine F.ok sc_rest_of (fun vs H Q E ⟨i, j, h, _⟩ => by rw [h]; rfl) (fun cdv A outer s H vs Q E hr ⟨n, z, h, h0, q⟩ => ?_)
  subst h
  refine ⟨_, (pss_one (ps_ret (pe_ifExp (pt_cmpR op_eq (pv 1) pe_int (nomark _)) (pv 0) (pe_op op_mod (pv 0) (pv 1))))), ?_⟩
  refine ⟨_, rfl, rfl, _, rfl, iteV (fun e => ⟨_, rfl, ?_⟩) (fun e => ⟨_, rfl, _, rfl, _, _, rfl, rfl, by omega, ?_⟩)⟩
  · rw [if_pos e] at q; exact q
  · rw [if_neg e] at q; exact q
/-! combined -/
theorem comb_size {x y q A B C : Nat} (h : A * y + B * x ≤ C) (e : q * y ≤ x) : B * (x - q * y) + (A + q * B) * y ≤ C := by
  have h1 : B * (x - q * y) + B * (q * y) = B * x := by rw [← Nat.mul_add]; congr 1; omega
  have h2 : (A + q * B) * y = A * y + B * (q * y) := by rw [Nat.add_mul, Nat.mul_comm q B, Nat.mul_assoc]
  omega
abbrev s_combined : Stmt := topS 13
abbrev N_combined : List Str := ["one", "other", "left", "right", "by"]
theorem sc_combined : FnScope N_combined ["one", "other"] (defScope s_combined) := ⟨rfl, rfl, rfl, by decide +kernel, rfl, by decide +kernel, by decide +kernel⟩
def sp_combined : Sp := fun vs H Q _ => ∃ (a b : Int) (n : Nat), vs = [.int a, .int b] ∧ 0 ≤ a ∧ 0 ≤ b ∧ a.natAbs < 2 ^ n ∧ b.natAbs < 2 ^ n ∧ 0 < n ∧ n ≤ 8000 ∧
  ∀ (p : Addr) (l r : Int) (H' : Hp), Same H H' → H' p = some (.tup [.int (Int.gcd a b), .int l, .int r]) → l.natAbs ≤ 2 ^ n → r.natAbs ≤ 2 ^ n → Q (.ref p) H'
structure Cmb (a b : Int) (n : Nat) (x y l1 l2 r1 r2 : Int) : Prop where
  x0 : 0 ≤ x
  y0 : 0 ≤ y
  xn : x.natAbs < 2 ^ n
  yn : y.natAbs < 2 ^ n
  g : Int.gcd x y = Int.gcd a b
  s1 : l1.natAbs * y.natAbs + r1.natAbs * x.natAbs < 2 ^ n
  s2 : l2.natAbs * y.natAbs + r2.natAbs * x.natAbs < 2 ^ n
  m1 : l1.natAbs ≤ 2 ^ n
  m2 : l2.natAbs ≤ 2 ^ n
  m3 : r1.natAbs ≤ 2 ^ n
  m4 : r2.natAbs ≤ 2 ^ n
theorem Cmb.step {a b : Int} {n : Nat} {x y l1 l2 r1 r2 : Int} (c : Cmb a b n x y l1 l2 r1 r2) (hy : 0 < y) : Cmb a b n y (x - x / y * y) r1 r2 (l1 - x / y * r1) (l2 - x / y * r2) ∧ (x - x / y * y).natAbs < y.natAbs ∧ (x / y).natAbs < 2 ^ n := by
  have hd := Int.emod_add_mul_ediv x y
  have r0 := Int.emod_nonneg x (show y ≠ 0 by omega)
  have r1' := Int.emod_lt_of_pos x hy
  have er : x - x / y * y = x % y := by rw [Int.mul_comm (x / y)]; omega
  have q0 : 0 ≤ x / y := Int.ediv_nonneg c.x0 (by omega)
  have g' : Int.gcd y (x % y) = Int.gcd a b := by rw [← c.g]; exact gcd_step c.x0 hy
  obtain ⟨k, hk⟩ := Int.eq_ofNat_of_zero_le q0
  have hkx : k * y.natAbs ≤ x.natAbs := by
    have : (k : Int) * y ≤ x := by rw [← hk, Int.mul_comm]; omega
    have h2 : ((k * y.natAbs : Nat) : Int) ≤ (x.natAbs : Int) := by
      rw [Int.natCast_mul, Int.natAbs_of_nonneg (by omega), Int.natAbs_of_nonneg c.x0]; exact this
    exact Int.ofNat_le.1 h2
  have hkl : k ≤ x.natAbs := Nat.le_trans (Nat.le_mul_of_pos_right _ (by omega)) hkx
  have exy : (x % y).natAbs = x.natAbs - k * y.natAbs := by
    have e2 : x % y = x - (k : Int) * y := by rw [← hk]; exact er.symm
    have e3 : ((k * y.natAbs : Nat) : Int) = (k : Int) * y := by rw [Int.natCast_mul, Int.natAbs_of_nonneg (by omega)]
    have := c.x0
    omega
  have sz : ∀ {l r : Int}, l.natAbs * y.natAbs + r.natAbs * x.natAbs < 2 ^ n → r.natAbs * (x % y).natAbs + (l - x / y * r).natAbs * y.natAbs < 2 ^ n := by
    intro l r h
    have h1 := Int.natAbs_sub_le l (x / y * r)
    rw [Int.natAbs_mul, hk, Int.natAbs_natCast] at h1
    have h2 := comb_size (A := l.natAbs) (B := r.natAbs) (C := 2 ^ n - 1) (by omega) hkx
    rw [exy, hk]
    have h3 : (l - (k : Int) * r).natAbs * y.natAbs ≤ (l.natAbs + k * r.natAbs) * y.natAbs := Nat.mul_le_mul_right _ h1
    omega
  have t1 := sz c.s1
  have t2 := sz c.s2
  have bd : ∀ {u v : Nat}, u + v * y.natAbs < 2 ^ n → v ≤ 2 ^ n := by
    intro u v h
    have : v * 1 ≤ v * y.natAbs := Nat.mul_le_mul_left _ (by omega)
    omega
  rw [er]
  refine ⟨⟨by omega, r0, c.yn, by have := c.yn; omega, g', t1, t2, c.m3, c.m4, bd t1, bd t2⟩, by omega, ?_⟩
  rw [hk, Int.natAbs_natCast]
  have := c.xn
  omega
theorem ok_combined (F : Fun K "combined" "combined" s_combined f fd) : FnOk P w K mg base CX0 1 f fd ["one", "other"] sp_combined := by
  refine F.ok sc_combined (fun vs H Q E ⟨i, j, n, h, _⟩ => by rw [h]; rfl) (fun cdv A outer s H vs Q E hr ⟨a, b, n, h, a0, b0, an, bn, n0, n8, k⟩ => ?_)
  subst h
  refine ⟨_, (pss_cons (ps_par (i := 2) (j := 3) (by rfl) sc_combined.nd rfl rfl (by decide) rfl rfl (pa_cons (pe_tup (pa_cons (pv 0) (pa_cons pe_int (pa_cons pe_int pa_nil)))) (pa_cons (pe_tup (pa_cons (pv 1) (pa_cons pe_int (pa_cons pe_int pa_nil)))) pa_nil)) (by rfl))
    (pss_cons (ps_while PassesOwn.never (pt_cmpR op_gt (pe_ix ix_tup (pv 3) pe_int (fun _ _ => rfl)) pe_int (nomark _)) (pss_cons (ps_set (i := 4) sc_combined.nd rfl (Or.inl rfl) (pe_op op_fdivW (pe_ix ix_tup (pv 2) pe_int (fun _ _ => rfl)) (pe_ix ix_tup (pv 3) pe_int (fun _ _ => rfl))))
    (pss_one (ps_par (i := 2) (j := 3) (by rfl) sc_combined.nd rfl rfl (by decide) rfl rfl (pa_cons (pv 3) (pa_cons (pe_tup (pa_cons (pe_op op_sub (pe_ix ix_tup (pv 2) pe_int (fun _ _ => rfl)) (pe_op op_mulW (pv 4) (pe_ix ix_tup (pv 3) pe_int (fun _ _ => rfl)))) (pa_cons (pe_op op_sub (pe_ix ix_tup (pv 2) pe_int (fun _ _ => rfl)) (pe_op op_mulW (pv 4) (pe_ix ix_tup (pv 3) pe_int (fun _ _ => rfl)))) (pa_cons (pe_op op_sub (pe_ix ix_tup (pv 2) pe_int (fun _ _ => rfl)) (pe_op op_mulW (pv 4) (pe_ix ix_tup (pv 3) pe_int (fun _ _ => rfl)))) pa_nil)))) pa_nil)) (by rfl)))))
    (pss_one (ps_ret (pv 2))))), ?_⟩
  refine ⟨_, rfl, by show 3 ≤ sizeLine; decide, fun p hp => ⟨_, rfl, by show 3 ≤ sizeLine; decide, fun p2 hp2 => ⟨_, _, rfl, ?_⟩⟩⟩
  have ne : p ≠ p2 := ne_of_none upd_same hp2
  refine while_by (fun σ H' => ∃ (pl pr : Addr) (x y l1 l2 r1 r2 : Int) (bv : Option V), σ = [some (.int a), some (.int b), some (.ref pl), some (.ref pr), bv] ∧ Same H H' ∧ H' pl = some (.tup [.int x, .int l1, .int l2]) ∧ H' pr = some (.tup [.int y, .int r1, .int r2]) ∧ Cmb a b n x y l1 l2 r1 r2)
    (fun σ H' => match σ with
      | [_, _, _, some (.ref pr), _] => (match H' pr with | some (.tup (.int y :: _)) => y.natAbs | _ => 0)
      | _ => 0) ?_ ?_ ?_
  · refine ⟨p, p2, a, b, 1, 0, 0, 1, _, rfl, (same_new hp).trans (same_new hp2), by rw [upd_ne ne]; exact upd_same, upd_same, ?_⟩
    refine ⟨a0, b0, an, bn, rfl, ?_, ?_, Nat.one_le_two_pow, ?_, ?_, Nat.one_le_two_pow⟩
    · simpa using bn
    · simpa using an
    · simp
    · simp
  · rintro σ H' ⟨pl, pr, x, y, l1, l2, r1, r2, bv, rfl, sm, hl, hrr, c⟩
    refine ⟨_, rfl, _, _, _, _, rfl, rfl, SqT.of hrr, rfl, _, _, rfl, rfl, _, rfl, ?_⟩
    refine iteD (fun hy => ?_) (fun hy => ?_)
    · obtain ⟨c', lt, qn⟩ := c.step hy
      have xl := log2_of c.yn n0
      -- by = left[0] // right[0]
      refine ⟨_, rfl, _, _, _, _, rfl, rfl, SqT.of hl, rfl, _, rfl, _, _, _, _, rfl, rfl, SqT.of hrr, rfl, _, _, rfl, rfl, ⟨by omega, by omega⟩, ?_⟩
      -- left, right = right, (..)
      refine ⟨_, rfl, ?_⟩
      refine ⟨_, rfl, _, _, _, _, rfl, rfl, SqT.of hl, rfl, _, rfl, _, rfl, _, _, _, _, rfl, rfl, SqT.of hrr, rfl, _, _, rfl, rfl, mulW_of qn c.yn n0 n0 (by omega), _, _, rfl, rfl, ?_⟩
      refine ⟨_, rfl, _, _, _, _, rfl, rfl, SqT.of hl, rfl, _, rfl, _, rfl, _, _, _, _, rfl, rfl, SqT.of hrr, rfl, _, _, rfl, rfl, mulW_of qn (Nat.lt_of_le_of_lt c.m3 (Nat.pow_lt_pow_right (by decide) (Nat.lt_succ_self n))) n0 (by omega) (by omega), _, _, rfl, rfl, ?_⟩
      refine ⟨_, rfl, _, _, _, _, rfl, rfl, SqT.of hl, rfl, _, rfl, _, rfl, _, _, _, _, rfl, rfl, SqT.of hrr, rfl, _, _, rfl, rfl, mulW_of qn (Nat.lt_of_le_of_lt c.m4 (Nat.pow_lt_pow_right (by decide) (Nat.lt_succ_self n))) n0 (by omega) (by omega), _, _, rfl, rfl, ?_⟩
      refine ⟨by show 3 ≤ sizeLine; decide, fun q hq => ⟨_, _, rfl, ?_⟩⟩
      have nq : pr ≠ q := ne_of_none hrr hq
      refine ⟨⟨pr, q, _, _, _, _, _, _, _, rfl, sm.trans (same_new hq), by rw [upd_ne nq]; exact hrr, upd_same, c'⟩, ?_⟩
      show (match upd H' q _ q with | some (.tup (.int y :: _)) => y.natAbs | _ => 0) < (match H' pr with | some (.tup (.int y :: _)) => y.natAbs | _ => 0)
      rw [upd_same, hrr]
      exact lt
    · have y0 : y = 0 := by have := c.y0; omega
      refine ⟨_, rfl, k pl l1 l2 H' sm ?_ c.m1 c.m2⟩
      have : x = (Int.gcd a b : Int) := by rw [← c.g, y0, gcd_zero c.x0]
      rw [← this]; exact hl
  · rintro σ H' Q1 Q2 hQ ⟨v, e, p, xs, i, z, e1, e2, sq, ea, i2, j2, e3, e4, kk, e5, q⟩
    exact ⟨v, e, p, xs, i, z, e1, e2, sq, ea, i2, j2, e3, e4, kk, e5, hQ _ _ q⟩
end
end K67

namespace K67
open PySem L2 KX
abbrev tV (t : T3) : List V := [.int t.1, .int t.2.1, .int t.2.2]
def NewT (H : Hp) (Q : VK) (t : T3) : Prop := ∀ (p : Addr) (H' : Hp), H p = none → Same H H' → H' p = some (.tup (tV t)) → Q (.ref p) H'
theorem NewT.at {H : Hp} {Q : VK} {t : T3} (h : NewT H Q t) {p : Addr} (hp : H p = none) {xs : List V} (e : xs = tV t) : Q (.ref p) (upd H p (.tup xs)) := h p _ hp (same_new hp) (by rw [e]; exact upd_same)
structure Szn (n : Nat) (t : T3) : Prop where
  x : t.1.natAbs < 2 ^ n
  y : t.2.1.natAbs < 2 ^ n
  s : t.2.2.natAbs < 2 ^ n
theorem Szn.mono {n m : Nat} {t : T3} (h : Szn n t) (k : n ≤ m) : Szn m t := ⟨natAbs_lt_of h.x k, natAbs_lt_of h.y k, natAbs_lt_of h.s k⟩
theorem Up.newT {G0 H0 G H H' : Hp} {p : Addr} {o : HO} (x : Up G0 H0 G H) (hp : H p = none) (s : Same H H') (e : H' p = some o) : Up G0 H0 (upd G p o) H' :=
  (x.same s).pub (x.free0 hp) (x.free hp) e
section
variable {P : Program} {w : World} {K : PySem.W.Frag} {mg : Str → Option Value} {base : Heap} {f : Addr} {fd : FuncData}
/-! step_of -/
def gI (l : List Int) (i : Nat) : Int := (l.take i).foldl (fun g a => (Int.gcd g a : Int)) 0
theorem gI_s {l : List Int} {i : Nat} {n : Int} (h : l[i]? = some n) : gI l (i + 1) = (Int.gcd (gI l i) n : Int) := by
  unfold gI
  rw [List.take_succ, h]
  simp
theorem gI_nn (l : List Int) (i : Nat) : 0 ≤ gI l i := gcdL_fold_nonneg _ _ (Int.le_refl _)
theorem gI_sz {l : List Int} {m : Nat} (h : ∀ n ∈ l, n.natAbs < 2 ^ m) : ∀ i, (gI l i).natAbs < 2 ^ m
  | 0 => by simp [gI]; exact Nat.two_pow_pos m
  | i + 1 => by
    cases e : l[i]? with
    | none =>
      have : gI l (i + 1) = gI l i := by unfold gI; rw [List.take_succ, e]; simp
      rw [this]; exact gI_sz h i
    | some n =>
      rw [gI_s e]
      have hn := h n (List.mem_of_getElem? e)
      have hi := gI_sz h i
      rw [Int.natAbs_natCast]
      by_cases h0 : n = 0
      · subst h0; rw [Int.gcd_zero_right]; exact hi
      · have : Int.gcd (gI l i) n ≤ n.natAbs := Nat.le_of_dvd (by omega) (Int.gcd_dvd_natAbs_right _ _)
        omega
abbrev s_step_of : Stmt := topS 14
abbrev N_step_of : List Str := ["numbers", "found", "shares", "number", "by", "left", "right", "share"]
theorem sc_step_of : FnScope N_step_of ["numbers"] (defScope s_step_of) := ⟨rfl, rfl, rfl, by decide +kernel, rfl, by decide +kernel, by decide +kernel⟩
def sp_step_of (K : PySem.W.Frag) : Sp := fun vs H Q _ => ∃ (v : V) (l : List Int) (m : Nat), vs = [v] ∧ Dp K H v (iD l) ∧ (∀ n ∈ l, n.natAbs < 2 ^ m) ∧ 0 < m ∧ m ≤ 8000 ∧ l.length ≤ 20 ∧
  ∀ (p : Addr) (sh : V) (H' : Hp), Same H H' → H' p = some (.tup [.int (gcdL l), sh]) → Q (.ref p) H'
theorem ok_step_of (F : Fun K "step_of" "step_of" s_step_of f fd) (T : Txt K mg) (c_combined : Def P w K mg base "combined" 1 ["one", "other"] sp_combined) : FnOk P w K mg base CX0 2 f fd ["numbers"] (sp_step_of K) := by
  refine F.ok sc_step_of (fun vs H Q E ⟨v, l, m, h, _⟩ => by rw [h]; rfl) (fun cdv A outer s H vs Q E hr ⟨v, l, m, h, hd, hm, m0, m8, h20, k⟩ => ?_)
  subst h
  obtain ⟨a, rfl, sq⟩ := i_inv hd
  refine ⟨_, (pss_cons (ps_par (i := 1) (j := 2) (by rfl) sc_step_of.nd rfl rfl (by decide) rfl rfl (pa_cons pe_int (pa_cons (pe_lst pa_nil) pa_nil)) (by rfl))
    (pss_cons (ps_for PassesOwn.never rfl (pi_list (pv 0)) (pg_name (i := 3) sc_step_of.nd rfl (Or.inl rfl)) (pss_cons (ps_asg (pe_def c_combined hr (by decide) (pa_cons (pv 1) (pa_cons (pe_callB call_abs (by rfl) T.n_abs (by decide +kernel) (pa_cons (pv 3) pa_nil)) pa_nil))) (pg_tup (by rfl) (pgs_cons (pg_name (i := 4) sc_step_of.nd rfl (Or.inl rfl)) (pgs_cons (pg_name (i := 5) sc_step_of.nd rfl (Or.inr rfl)) (pgs_cons (pg_name (i := 6) sc_step_of.nd rfl (Or.inl rfl)) pgs_nil)))))
    (pss_cons (ps_setLc (i := 2) (own := [("share", 7)]) rfl sc_step_of.nd rfl rfl (sw_true rfl rfl rfl (by decide +kernel)) (pi_list (pv 2)) (blkOk_by (N := N_step_of) (sc := defScope s_step_of) (by decide +kernel)) (fun _ _ _ _ _ => (pg_name (i := 7) sc_step_of.nd rfl (Or.inl rfl))) (fun _ _ _ _ _ => pts_nil) (fun _ _ _ _ _ => (pe_op op_mulW (pv 5) (pv 7))))
    (pss_cons (ps_expr (pe_bm PySem.F.plainAttrs_list PySem.F.slot_list_append PySem.F.type_list_append mt_append (pv 2) (pa_cons (pe_ifExp (pt_cmpR op_gt (pv 3) pe_int (nomark _)) (pv 6) (pe_op op_sub pe_int (pv 6))) pa_nil)))
    (pss_one (ps_set (i := 1) sc_step_of.nd rfl (Or.inl rfl) (pv 4)))))))
    (pss_one (ps_ret (pe_tup (pa_cons (pv 1) (pa_cons (pv 2) pa_nil))))))), ?_⟩
  -- found, shares = 0, []
  refine ⟨Nat.zero_le _, fun D hD => ⟨_, _, rfl, ?_⟩⟩
  have s1 := same_new (o := .lst []) hD
  refine ⟨_, rfl, a, rfl, ⟨_, s1.seq sq⟩, for_list (K := K) (a := a) (xs := l.map V.int) (fun i σ H' => ∃ (sl : Addr) (shs : List Int) (nb b1 b2 b3 b4 : Option V), σ = [some (.ref a), some (.int (gI l i)), some (.ref sl), nb, b1, b2, b3, b4] ∧ Same H H' ∧ H' sl = some (.lst (shs.map V.int)) ∧ H sl = none ∧
    (∀ c ∈ shs, c.natAbs < 2 ^ ((m + 1) * i + m + 1)) ∧ shs.length = i) ?_ (fun i σ H' _ ⟨_, _, _, _, _, _, _, _, sm, _⟩ => sm.seq sq) ?_ ?_⟩
  · exact ⟨D, [], _, _, _, _, _, rfl, s1, upd_same, hD, by simp, rfl⟩
  · rintro i x σ H' hi ⟨sl, shs, nb, b1, b2, b3, b4, rfl, sm, hsl, hsl0, hb, hlen⟩
    obtain ⟨n, hn, rfl⟩ : ∃ n, l[i]? = some n ∧ x = V.int n := by
      rw [List.getElem?_map] at hi
      cases e : l[i]? with
      | none => rw [e] at hi; cases hi
      | some n => rw [e] at hi; exact ⟨n, rfl, (Option.some.inj hi).symm⟩
    have hnm := hm n (List.mem_of_getElem? hn)
    have hil : i < l.length := (List.getElem?_eq_some_iff.mp hn).1
    -- by, left, right = combined(found, abs(number))
    refine ⟨_, rfl, _, rfl, _, rfl, gI l i, (if n < 0 then -n else n), m, rfl, gI_nn l i, by split <;> omega, gI_sz hm i, by split <;> omega, m0, m8, fun p lf rt H1 sm1 hp hl1 hr1 => ?_⟩
    have eg : (Int.gcd (gI l i) (if n < 0 then -n else n) : Int) = gI l (i + 1) := by
      rw [gI_s hn]
      split
      · rw [Int.gcd_neg]
      · rfl
    rw [eg] at hp
    refine ⟨p, _, rfl, SqT.of hp, rfl, _, _, rfl, _, _, rfl, _, _, rfl, rfl, ?_⟩
    -- shares = [left * share for share in shares]
    have hsl1 := sm1 _ _ hsl
    refine ⟨_, rfl, sl, rfl, ⟨_, SqL.of hsl1⟩, fun D2 hD2 => lc_list (K := K) (a := sl) (xs := shs.map V.int) (fun j H2 => Same H1 H2 ∧ H2 D2 = some (.lst ((shs.take j).map (fun c => V.int (lf * c))))) ?_ (fun j H2 _ q => q.1.seq (SqL.of hsl1)) ?_ ?_⟩
    · exact ⟨same_new hD2, upd_same⟩
    · rintro j y H2 hj ⟨sm2, hacc⟩
      obtain ⟨c, hc, rfl⟩ : ∃ c, shs[j]? = some c ∧ y = V.int c := by
        rw [List.getElem?_map] at hj
        cases e : shs[j]? with
        | none => rw [e] at hj; cases hj
        | some n => rw [e] at hj; exact ⟨n, rfl, (Option.some.inj hj).symm⟩
      have hcb := hb c (List.mem_of_getElem? hc)
      have hjl : j < shs.length := (List.getElem?_eq_some_iff.mp hc).1
      have hb2 : (m + 1) + ((m + 1) * i + m + 1) ≤ 1000000 := by
        have : (m + 1) * i ≤ 8001 * 20 := Nat.mul_le_mul (by omega) (by omega)
        omega
      refine ⟨rfl, tyes ?_⟩
      refine ⟨_, rfl, _, rfl, _, _, rfl, rfl, mulW_of (Nat.lt_of_le_of_lt hl1 (Nat.pow_lt_pow_right (by decide) (Nat.lt_succ_self m))) hcb (by omega) (by omega) hb2, _, hacc, ?_, ?_⟩
      · rw [List.length_map, List.length_take]
        exact Nat.lt_of_le_of_lt (show _ ≤ 20 by omega) (by decide)
      · refine ⟨fun b o e => ?_, ?_⟩
        · rw [upd_ne (ne_of_none e hD2)]; exact sm2 b o e
        · rw [upd_same, List.take_succ, hc]
          simp
    · rintro H2 ⟨sm2, hacc⟩
      rw [List.length_map, List.take_length] at hacc
      have nD2 : sl ≠ D2 := ne_of_none hsl1 hD2
      have fD2 : H D2 = none := (sm.trans sm1).free hD2
      have fin : ∀ r' : Int, r'.natAbs ≤ 2 ^ m → ∃ (sl' : Addr) (shs' : List Int) (c0 c1 c2 c3 c4 : Option V), [some (V.ref a), some (.int (gI l (i + 1))), some (.ref D2), some (V.int n), some (.int (gI l (i + 1))), some (.int lf), some (.int rt), b4] = [some (V.ref a), some (.int (gI l (i + 1))), some (.ref sl'), c0, c1, c2, c3, c4] ∧
          Same H (upd H2 D2 (.lst (shs.map (fun c => V.int (lf * c)) ++ [.int r']))) ∧ (upd H2 D2 (.lst (shs.map (fun c => V.int (lf * c)) ++ [.int r']))) sl' = some (.lst (shs'.map V.int)) ∧ H sl' = none ∧ (∀ c ∈ shs', c.natAbs < 2 ^ ((m + 1) * (i + 1) + m + 1)) ∧ shs'.length = i + 1 := by
        intro r' hr'
        refine ⟨D2, shs.map (fun c => lf * c) ++ [r'], _, _, _, _, _, rfl, fun b o e => ?_, by rw [upd_same]; simp, fD2, ?_, by simp [hlen]⟩
        · rw [upd_ne (ne_of_none e fD2)]; exact sm2 _ _ (sm1 _ _ (sm b o e))
        · intro c hc
          simp at hc
          rcases hc with ⟨c', hc', rfl⟩ | rfl
          · have h1 := sz_mul (Nat.lt_of_le_of_lt hl1 (Nat.pow_lt_pow_right (by decide) (Nat.lt_succ_self m))) (hb c' hc')
            refine Nat.lt_of_lt_of_le h1 (Nat.pow_le_pow_right (by decide) ?_)
            rw [Nat.mul_add]; omega
          · refine Nat.lt_of_le_of_lt hr' (Nat.pow_lt_pow_right (by decide) ?_)
            omega
      have hz : (shs.map (fun c => V.int (lf * c))).length < sizeLine := by
        rw [List.length_map, hlen]
        exact Nat.lt_of_lt_of_le (show i < 20 by omega) (by decide)
      refine ⟨_, rfl, .inl ⟨rfl, _, SqL.of hacc⟩, ?_⟩
      refine ⟨_, rfl, _, _, rfl, rfl, _, rfl, iteD (fun hpos => ?_) (fun hneg => ?_)⟩
      · refine ⟨_, rfl, D2, _, _, rfl, rfl, hacc, hz, ?_⟩
        refine ⟨_, rfl, ?_⟩
        exact fin rt hr1
      · exact ⟨_, rfl, _, _, rfl, rfl, D2, _, _, rfl, rfl, hacc, hz, _, rfl, fin (0 - rt) (by omega)⟩
  · rintro σ H' ⟨sl, shs, nb, b1, b2, b3, b4, rfl, sm, hsl, hsl0, hb, hlen⟩
    refine ⟨_, rfl, _, rfl, by show 2 ≤ sizeLine; decide, fun p hp => ?_⟩
    have e : gI l (l.map V.int).length = gcdL l := by rw [List.length_map]; unfold gI gcdL; rw [List.take_length]
    rw [e]
    exact k p _ _ (sm.trans (same_new hp)) upd_same
/-! moves -/
abbrev s_check_whole : Stmt := topS 17
abbrev N_check_whole : List Str := ["value"]
theorem sc_check_whole : FnScope N_check_whole ["value"] (defScope s_check_whole) := ⟨rfl, rfl, rfl, by decide +kernel, rfl, by decide +kernel, by decide +kernel⟩
def sp_check_whole : Sp := fun vs H Q _ => ∃ i : Int, vs = [.int i] ∧ Q .non H
theorem ok_check_whole (F : Fun K "check_whole" "check_whole" s_check_whole f fd) (c_is_integer : Def P w K mg base "is_integer" 1 ["value"] sp_is_integer) : FnOk P w K mg base CX0 2 f fd ["value"] sp_check_whole := by
  refine F.ok sc_check_whole (fun vs H Q E ⟨i, h, _⟩ => by rw [h]; rfl) (fun cdv A outer s H vs Q E hr ⟨i, h, q⟩ => ?_)
  subst h
  refine ⟨_, (pss_one (ps_if (pt_not (pt_val (pe_def c_is_integer hr (by decide) (pa_cons (pv 0) pa_nil)))) pss_never pss_nil)), ?_⟩
  exact ⟨_, rfl, i, rfl, _, rfl, iteF q⟩
def mvF (t : T3) : List (Str × V) := [("own_east", .int t.1), ("own_north", .int t.2.1), ("own_area", .int t.2.2)]
theorem putF_ne {f g : Str} {v u : V} {fs : List (Str × V)} (h : ¬ g = f) : putF f v ((g, u) :: fs) = (g, u) :: putF f v fs := if_neg h
theorem en_ : ¬ (("own_east" : Str) = "own_north") := by decide +kernel
theorem ea_ : ¬ (("own_east" : Str) = "own_area") := by decide +kernel
theorem na_ : ¬ (("own_north" : Str) = "own_area") := by decide +kernel
theorem mv_put (x y s : Int) : putF "own_area" (.int s) (putF "own_north" (.int y) (putF "own_east" (.int x) [])) = mvF (x, y, s) := by
  show putF "own_area" (V.int s) (putF "own_north" (V.int y) [(("own_east" : Str), V.int x)]) = _
  rw [putF_ne en_, putF_ne ea_]
  show (("own_east" : Str), V.int x) :: putF "own_area" (V.int s) [(("own_north" : Str), V.int y)] = _
  rw [putF_ne na_]
  rfl
theorem mv_e (t : T3) : (mvF t).lookup ("own_east" : Str) = some (.int t.1) := rfl
theorem mv_n (t : T3) : (mvF t).lookup ("own_north" : Str) = some (.int t.2.1) := rfl
theorem mv_a (t : T3) : (mvF t).lookup ("own_area" : Str) = some (.int t.2.2) := rfl
structure MvC (K : PySem.W.Frag) (C : Addr) : Prop where
  cl : Cls K C
  nE : NoAttr K C "own_east"
  nN : NoAttr K C "own_north"
  nA : NoAttr K C "own_area"
def sp_Move_init (C : Addr) : Sp := fun vs H Q _ => ∃ (p dx : Addr) (H0 : Hp) (t : T3), vs = [.ref p, .int t.1, .int t.2.1, .int t.2.2] ∧ H0 p = none ∧ H0 dx = none ∧ dx ≠ p ∧ H = upd (upd H0 dx (.own p)) p (.ins C dx []) ∧
  ∀ H' : Hp, Same H0 H' → H' p = some (.ins C dx (mvF t)) → Q .non H'
abbrev s_Move_init : Stmt := inClass (topS 18) 0
abbrev N_Move_init : List Str := ["self", "east", "north", "area"]
theorem sc_Move_init : FnScope N_Move_init ["self", "east", "north", "area"] (defScope s_Move_init) := ⟨rfl, rfl, rfl, by decide +kernel, rfl, by decide +kernel, by decide +kernel⟩
theorem ok_Move_init {C : Addr} (F : Fun K "__init__" "Move.__init__" s_Move_init f fd) (MC : MvC K C) (c_check_whole : Def P w K mg base "check_whole" 2 ["value"] sp_check_whole) : FnOk P w K mg base CX0 3 f fd ["self", "east", "north", "area"] (sp_Move_init C) := by
  refine F.ok sc_Move_init (fun vs H Q E ⟨p, dx, H0, t, h, _⟩ => by rw [h]; rfl) (fun cdv A outer s H vs Q E hr ⟨p, dx, H0, t, h, p0, d0, ne, hH, k⟩ => ?_)
  subst h; subst hH
  refine ⟨_, (pss_cons (ps_expr (pe_def c_check_whole hr (by decide) (pa_cons (pv 1) pa_nil)))
    (pss_cons (ps_expr (pe_def c_check_whole hr (by decide) (pa_cons (pv 2) pa_nil)))
    (pss_cons (ps_expr (pe_def c_check_whole hr (by decide) (pa_cons (pv 3) pa_nil)))
    (pss_cons (ps_fld (pv 0) (pv 1) rfl)
    (pss_cons (ps_fld (pv 0) (pv 2) rfl)
    (pss_one (ps_fld (pv 0) (pv 3) rfl))))))), ?_⟩
  refine ⟨_, rfl, _, rfl, _, rfl, _, rfl, _, rfl, _, rfl, ?_⟩
  refine ⟨_, rfl, _, rfl, p, C, dx, [], rfl, upd_same, MC.cl, MC.nE, by show 0 < 1000; decide, ?_⟩
  refine ⟨_, rfl, _, rfl, p, C, dx, _, rfl, upd_same, MC.cl, MC.nN, by show 1 < 1000; decide, ?_⟩
  refine ⟨_, rfl, _, rfl, p, C, dx, _, rfl, upd_same, MC.cl, MC.nA, by rw [show putF "own_north" (V.int t.2.1) (putF "own_east" (V.int t.1) []) = [(("own_east" : Str), V.int t.1), (("own_north" : Str), V.int t.2.1)] from by show putF "own_north" (V.int t.2.1) [(("own_east" : Str), V.int t.1)] = _; rw [putF_ne en_]; rfl]; show 2 < 1000; decide, ?_⟩
  refine k _ (fun b o e => ?_) (by rw [upd_same, mv_put])
  have h1 : b ≠ p := ne_of_none e p0
  have h2 : b ≠ dx := ne_of_none e d0
  rw [upd_ne h1, upd_ne h1, upd_ne h1, upd_ne h1, upd_ne h2]
  exact e
/-- what is known of the class of moves -/
structure MoveC (P : Program) (w : World) (K : PySem.W.Frag) (mg : Str → Option Value) (base : Heap) where
  C : Addr
  c : MvC K C
  g : mg "Move" = some (.ref C)
  pE : Addr
  gE : Addr
  fE : FuncData
  hE : PropOf K C "east" pE gE
  kE : FnOk P w K mg base CX0 1 gE fE ["self"] (getSp C "own_east")
  bE : Binds K fE ["self"] []
  pN : Addr
  gN : Addr
  fN : FuncData
  hN : PropOf K C "north" pN gN
  kN : FnOk P w K mg base CX0 1 gN fN ["self"] (getSp C "own_north")
  bN : Binds K fN ["self"] []
  pA : Addr
  gA : Addr
  fA : FuncData
  hA : PropOf K C "area" pA gA
  kA : FnOk P w K mg base CX0 1 gA fA ["self"] (getSp C "own_area")
  bA : Binds K fA ["self"] []
section
variable {X : Cx} {j : Nat} {e : Expr} {pos : Pos} {ta : TE}
theorem pe_east (M : MoveC X.prog X.w X.K X.mg X.base) (hr : Room j X.A) (hj : 2 ≤ j) (he : PE X e ta) (hab : attributeBase e "east" X.env (eval e X.env) = eval e X.env := by rfl) : PE X (.Attribute e "east" pos) (tProp M.C (getSp M.C "own_east") [] E0 ta) :=
  pe_prop he M.c.cl M.hE M.kE (hr.mono hj) M.bE .nil pass0 hab
theorem pe_north (M : MoveC X.prog X.w X.K X.mg X.base) (hr : Room j X.A) (hj : 2 ≤ j) (he : PE X e ta) (hab : attributeBase e "north" X.env (eval e X.env) = eval e X.env := by rfl) : PE X (.Attribute e "north" pos) (tProp M.C (getSp M.C "own_north") [] E0 ta) :=
  pe_prop he M.c.cl M.hN M.kN (hr.mono hj) M.bN .nil pass0 hab
theorem pe_area (M : MoveC X.prog X.w X.K X.mg X.base) (hr : Room j X.A) (hj : 2 ≤ j) (he : PE X e ta) (hab : attributeBase e "area" X.env (eval e X.env) = eval e X.env := by rfl) : PE X (.Attribute e "area" pos) (tProp M.C (getSp M.C "own_area") [] E0 ta) :=
  pe_prop he M.c.cl M.hA M.kA (hr.mono hj) M.bA .nil pass0 hab
end
def MvAt (C : Addr) (H : Hp) (v : V) (t : T3) : Prop := ∃ a dx, v = .ref a ∧ H a = some (.ins C dx (mvF t))
theorem MvAt.up {C : Addr} {G H : Hp} {v : V} {t : T3} (h : MvAt C G v t) (s : Same G H) : MvAt C H v t := let ⟨a, dx, e, q⟩ := h; ⟨a, dx, e, s _ _ q⟩
abbrev s_triple : Stmt := topS 20
abbrev N_triple : List Str := ["one"]
theorem sc_triple : FnScope N_triple ["one"] (defScope s_triple) := ⟨rfl, rfl, rfl, by decide +kernel, rfl, by decide +kernel, by decide +kernel⟩
def sp_triple (C : Addr) : Sp := fun vs H Q _ => ∃ (v : V) (t : T3), vs = [v] ∧ MvAt C H v t ∧ NewT H Q t
theorem ok_triple (F : Fun K "triple" "triple" s_triple f fd) (M : MoveC P w K mg base) : FnOk P w K mg base CX0 3 f fd ["one"] (sp_triple M.C) := by
  refine F.ok sc_triple (fun vs H Q E ⟨v, t, h, _⟩ => by rw [h]; rfl) (fun cdv A outer s H vs Q E hr ⟨v, t, h, ⟨a, dx, hv, ha⟩, k⟩ => ?_)
  subst h; subst hv
  refine ⟨_, (pss_one (ps_ret (pe_tup (pa_cons (pe_east M hr (by decide) (pv 0)) (pa_cons (pe_north M hr (by decide) (pv 0)) (pa_cons (pe_area M hr (by decide) (pv 0)) pa_nil)))))), ?_⟩
  refine ⟨_, rfl, a, dx, _, rfl, ha, a, dx, _, _, rfl, ha, mv_e t, _, rfl, a, dx, _, rfl, ha, a, dx, _, _, rfl, ha, mv_n t, _, rfl, a, dx, _, rfl, ha, a, dx, _, _, rfl, ha, mv_a t, by show 3 ≤ sizeLine; decide, fun p hp => k.at hp rfl⟩
abbrev s_put_triples : Stmt := topS 21
abbrev N_put_triples : List Str := ["one", "other"]
theorem sc_put_triples : FnScope N_put_triples ["one", "other"] (defScope s_put_triples) := ⟨rfl, rfl, rfl, by decide +kernel, rfl, by decide +kernel, by decide +kernel⟩
def sp_put (K : PySem.W.Frag) : Sp := fun vs H Q _ => ∃ (a b : Addr) (t u : T3) (n : Nat), vs = [.ref a, .ref b] ∧ SqT K H a (tV t) ∧ SqT K H b (tV u) ∧ Szn n t ∧ Szn n u ∧ 0 < n ∧ n ≤ 100000 ∧ NewT H Q (put t u)
theorem ok_put_triples (F : Fun K "put_triples" "put_triples" s_put_triples f fd) : FnOk P w K mg base CX0 1 f fd ["one", "other"] (sp_put K) := by
  refine F.ok sc_put_triples (fun vs H Q E ⟨a, b, t, u, n, h, _⟩ => by rw [h]; rfl) (fun cdv A outer s H vs Q E hr ⟨a, b, t, u, n, h, ha, hb, zt, zu, n0, n1, k⟩ => ?_)
  subst h
  refine ⟨_, (pss_one (ps_ret (pe_tup (pa_cons (pe_op op_add (pe_ix ix_tup (pv 0) pe_int (fun _ _ => rfl)) (pe_ix ix_tup (pv 1) pe_int (fun _ _ => rfl))) (pa_cons (pe_op op_add (pe_ix ix_tup (pv 0) pe_int (fun _ _ => rfl)) (pe_ix ix_tup (pv 1) pe_int (fun _ _ => rfl))) (pa_cons (pe_op op_add (pe_op op_add (pe_ix ix_tup (pv 0) pe_int (fun _ _ => rfl)) (pe_ix ix_tup (pv 1) pe_int (fun _ _ => rfl))) (pe_op op_mulW (pe_ix ix_tup (pv 0) pe_int (fun _ _ => rfl)) (pe_ix ix_tup (pv 1) pe_int (fun _ _ => rfl)))) pa_nil)))))), ?_⟩
  refine ⟨_, rfl, _, _, _, _, rfl, rfl, ha, rfl, _, rfl, _, _, _, _, rfl, rfl, hb, rfl, _, _, rfl, rfl, ?_⟩
  refine ⟨_, rfl, _, _, _, _, rfl, rfl, ha, rfl, _, rfl, _, _, _, _, rfl, rfl, hb, rfl, _, _, rfl, rfl, ?_⟩
  refine ⟨_, rfl, _, _, _, _, rfl, rfl, ha, rfl, _, rfl, _, _, _, _, rfl, rfl, hb, rfl, _, _, rfl, rfl, ?_⟩
  refine ⟨_, rfl, _, _, _, _, rfl, rfl, ha, rfl, _, rfl, _, _, _, _, rfl, rfl, hb, rfl, _, _, rfl, rfl, mulW_of zt.x zu.y n0 n0 (by omega), _, _, rfl, rfl, ?_⟩
  exact ⟨by show 3 ≤ sizeLine; decide, fun p hp => k.at hp rfl⟩
abbrev s_many_triples : Stmt := topS 22
abbrev N_many_triples : List Str := ["one", "times"]
theorem sc_many_triples : FnScope N_many_triples ["one", "times"] (defScope s_many_triples) := ⟨rfl, rfl, rfl, by decide +kernel, rfl, by decide +kernel, by decide +kernel⟩
def sp_many (K : PySem.W.Frag) : Sp := fun vs H Q _ => ∃ (a : Addr) (t : T3) (c : Int) (n : Nat), vs = [.ref a, .int c] ∧ SqT K H a (tV t) ∧ Szn n t ∧ c.natAbs < 2 ^ n ∧ 0 < n ∧ n ≤ 100000 ∧ NewT H Q (pw t c)
theorem sz_pred {c : Int} {n : Nat} (h : c.natAbs < 2 ^ n) : (c - 1).natAbs < 2 ^ (n + 1) := by rw [Nat.pow_succ]; omega
theorem sz_tri {c : Int} {n : Nat} (h : c.natAbs < 2 ^ n) : (tri c).natAbs < 2 ^ (n + (n + 1)) := sz_div2 (sz_mul h (sz_pred h))
theorem ok_many_triples (F : Fun K "many_triples" "many_triples" s_many_triples f fd) : FnOk P w K mg base CX0 1 f fd ["one", "times"] (sp_many K) := by
  refine F.ok sc_many_triples (fun vs H Q E ⟨a, t, c, n, h, _⟩ => by rw [h]; rfl) (fun cdv A outer s H vs Q E hr ⟨a, t, c, n, h, ha, zt, zc, n0, n1, k⟩ => ?_)
  subst h
  refine ⟨_, (pss_one (ps_ret (pe_tup (pa_cons (pe_op op_mulW (pe_ix ix_tup (pv 0) pe_int (fun _ _ => rfl)) (pv 1)) (pa_cons (pe_op op_mulW (pe_ix ix_tup (pv 0) pe_int (fun _ _ => rfl)) (pv 1)) (pa_cons (pe_op op_add (pe_op op_mulW (pe_ix ix_tup (pv 0) pe_int (fun _ _ => rfl)) (pv 1)) (pe_op op_mulW (pe_op op_mulW (pe_op op_fdivW (pe_op op_mulW (pv 1) (pe_op op_sub (pv 1) pe_int)) pe_int) (pe_ix ix_tup (pv 0) pe_int (fun _ _ => rfl))) (pe_ix ix_tup (pv 0) pe_int (fun _ _ => rfl)))) pa_nil)))))), ?_⟩
  refine ⟨_, rfl, _, _, _, _, rfl, rfl, ha, rfl, _, rfl, _, _, rfl, rfl, mulW_of zt.x zc n0 n0 (by omega), ?_⟩
  refine ⟨_, rfl, _, _, _, _, rfl, rfl, ha, rfl, _, rfl, _, _, rfl, rfl, mulW_of zt.y zc n0 n0 (by omega), ?_⟩
  refine ⟨_, rfl, _, _, _, _, rfl, rfl, ha, rfl, _, rfl, _, _, rfl, rfl, mulW_of zt.s zc n0 n0 (by omega), ?_⟩
  refine ⟨_, rfl, _, rfl, _, _, rfl, rfl, _, _, rfl, rfl, mulW_of zc (sz_pred zc) n0 (by omega) (by omega), _, _, rfl, rfl, ⟨by decide, by decide⟩, ?_⟩
  refine ⟨_, rfl, _, _, _, _, rfl, rfl, ha, rfl, _, _, rfl, rfl, mulW_of (sz_tri zc) zt.x (by omega) n0 (by omega), ?_⟩
  refine ⟨_, rfl, _, _, _, _, rfl, rfl, ha, rfl, _, _, rfl, rfl, mulW_of (sz_mul (sz_tri zc) zt.x) zt.y (by omega) n0 (by omega), _, _, rfl, rfl, ?_⟩
  refine ⟨by show 3 ≤ sizeLine; decide, fun p hp => k.at hp ?_⟩
  show [V.int (t.1 * c), .int (t.2.1 * c), .int (t.2.2 * c + tri c * t.1 * t.2.1)] = _
  rw [Int.mul_comm t.1 c, Int.mul_comm t.2.1 c, Int.mul_comm t.2.2 c]
  rfl
abbrev s_gap_of : Stmt := topS 23
abbrev N_gap_of : List Str := ["one", "other"]
theorem sc_gap_of : FnScope N_gap_of ["one", "other"] (defScope s_gap_of) := ⟨rfl, rfl, rfl, by decide +kernel, rfl, by decide +kernel, by decide +kernel⟩
def sp_gap (K : PySem.W.Frag) : Sp := fun vs H Q _ => ∃ (a b : Addr) (t u : T3) (n : Nat), vs = [.ref a, .ref b] ∧ SqT K H a (tV t) ∧ SqT K H b (tV u) ∧ Szn n t ∧ Szn n u ∧ 0 < n ∧ n ≤ 100000 ∧ Q (.int (gap t u)) H
theorem ok_gap_of (F : Fun K "gap_of" "gap_of" s_gap_of f fd) : FnOk P w K mg base CX0 1 f fd ["one", "other"] (sp_gap K) := by
  refine F.ok sc_gap_of (fun vs H Q E ⟨a, b, t, u, n, h, _⟩ => by rw [h]; rfl) (fun cdv A outer s H vs Q E hr ⟨a, b, t, u, n, h, ha, hb, zt, zu, n0, n1, k⟩ => ?_)
  subst h
  refine ⟨_, (pss_one (ps_ret (pe_op op_sub (pe_op op_mulW (pe_ix ix_tup (pv 0) pe_int (fun _ _ => rfl)) (pe_ix ix_tup (pv 1) pe_int (fun _ _ => rfl))) (pe_op op_mulW (pe_ix ix_tup (pv 1) pe_int (fun _ _ => rfl)) (pe_ix ix_tup (pv 0) pe_int (fun _ _ => rfl)))))), ?_⟩
  refine ⟨_, rfl, _, _, _, _, rfl, rfl, ha, rfl, _, rfl, _, _, _, _, rfl, rfl, hb, rfl, _, _, rfl, rfl, mulW_of zt.x zu.y n0 n0 (by omega), ?_⟩
  exact ⟨_, rfl, _, _, _, _, rfl, rfl, hb, rfl, _, rfl, _, _, _, _, rfl, rfl, ha, rfl, _, _, rfl, rfl, mulW_of zu.x zt.y n0 n0 (by omega), _, _, rfl, rfl, k⟩
end
end K67

namespace K67
open PySem L2 KX
theorem for_map {α : Type} {F : α → V} {l : List α} {i : Nat} {x : V} (h : (l.map F)[i]? = some x) : ∃ a, l[i]? = some a ∧ x = F a := by
  rw [List.getElem?_map] at h
  cases e : l[i]? with
  | none => rw [e] at h; cases h
  | some a => rw [e] at h; exact ⟨a, rfl, (Option.some.inj h).symm⟩
section
variable {J : It} {n : Nat} {Gw : Hp → Prop} {Y : Nat → Hp → V → Hp → Prop} {g : TG} {te : TE} {vs : List Nat} {σ : L2.St} {H1 : Hp} {D : Addr} {Qd : Hp → Prop}
/-- a comprehension whose items are plain values -/
theorem comp_V (w : Walk J n Gw Y) (hD : H1 D = none) (hn : n ≤ 1000) (F : Nat → V) (hG : ∀ H, Same H1 H → Gw H)
    (hs : ∀ i x H H' (Q' : VK), i < n → Same H1 H → Y i H x H' → (∀ H4, Same H H4 → Q' (F i) H4) → g x (wipe σ vs) H' fun σ2 H2 => wipe σ2 vs = wipe σ vs ∧ te σ2 H2 Q')
    (hd : ∀ H, Same H1 H → H D = some (.lst ((List.range n).map F)) → Qd H) :
    ∃ W : Nat → Nat → Hp → Prop, (∃ m, W 0 m (upd H1 D (.lst []))) ∧ ∀ i m H, W i m H →
      (J.stop i H ∧ Qd H) ∨ (J.go i H ∧ ∃ Nx : Hp → Prop, (∀ H', Nx H' → ∃ m', m' < m ∧ W (i + 1) m' H') ∧ ∀ x H', J.yld i H x H' → g x (wipe σ vs) H' fun σ2 H2 => wipe σ2 vs = wipe σ vs ∧ tYes σ2 H2 fun b H3 =>
        if b = true then te σ2 H3 fun y H4 => ∃ acc, H4 D = some (.lst acc) ∧ acc.length < sizeLine ∧ Nx (upd H4 D (.lst (acc ++ [y]))) else Nx H3) := by
  refine lc_it w (fun i H => Same H1 H ∧ H D = some (.lst ((List.range i).map F))) ⟨same_new hD, upd_same⟩ (fun i H _ p => hG H p.1) ?_ (fun H p => hd H p.1 p.2)
  rintro i x H H' hi ⟨sm, hacc⟩ y
  have key := hs i x H H' (fun y H4 => ∃ acc, H4 D = some (.lst acc) ∧ acc.length < sizeLine ∧ (Same H1 (upd H4 D (.lst (acc ++ [y]))) ∧ (upd H4 D (.lst (acc ++ [y]))) D = some (.lst ((List.range (i + 1)).map F)))) hi sm y ?_
  · exact key
  · intro H4 s4
    refine ⟨_, s4 _ _ hacc, ?_, fun b o e => ?_, ?_⟩
    · rw [List.length_map, List.length_range]
      exact Nat.lt_of_lt_of_le (show i < 1000 by omega) (by decide)
    · rw [upd_ne (ne_of_none e hD)]; exact s4 _ _ (sm b o e)
    · rw [upd_same, List.range_succ, List.map_append]; rfl
/-- a comprehension whose items stand in the heap -/
theorem comp_R {G1 : Hp} (w : Walk J n Gw Y) (v1 : Same G1 H1) (hD : H1 D = none) (hn : n ≤ 1000) (R : Hp → V → Nat → Prop) (mono : ∀ G G' y j, Same G G' → R G y j → R G' y j) (hG : ∀ H, Same H1 H → Gw H)
    (hs : ∀ i x G H H' (Q' : VK), i < n → Up G1 H1 G H → Y i H x H' → (∀ y G' H4, Up G H G' H4 → R G' y i → Q' y H4) → g x (wipe σ vs) H' fun σ2 H2 => wipe σ2 vs = wipe σ vs ∧ te σ2 H2 Q')
    (hd : ∀ G acc H, Up G1 H1 (upd G D (.lst acc)) H → H D = some (.lst acc) → acc.length = n → (∀ j y, acc[j]? = some y → R (upd G D (.lst acc)) y j) → Qd H) :
    ∃ W : Nat → Nat → Hp → Prop, (∃ m, W 0 m (upd H1 D (.lst []))) ∧ ∀ i m H, W i m H →
      (J.stop i H ∧ Qd H) ∨ (J.go i H ∧ ∃ Nx : Hp → Prop, (∀ H', Nx H' → ∃ m', m' < m ∧ W (i + 1) m' H') ∧ ∀ x H', J.yld i H x H' → g x (wipe σ vs) H' fun σ2 H2 => wipe σ2 vs = wipe σ vs ∧ tYes σ2 H2 fun b H3 =>
        if b = true then te σ2 H3 fun y H4 => ∃ acc, H4 D = some (.lst acc) ∧ acc.length < sizeLine ∧ Nx (upd H4 D (.lst (acc ++ [y]))) else Nx H3) := by
  have gD1 : G1 D = none := v1.free hD
  refine lc_it w (fun i H => ∃ G acc, Up G1 H1 G H ∧ G D = none ∧ H D = some (.lst acc) ∧ acc.length = i ∧ ∀ j y, acc[j]? = some y → R G y j)
    ⟨G1, [], (Up.refl v1).own hD, gD1, upd_same, rfl, fun j y e => by simp at e⟩ (fun i H _ ⟨G, acc, u, _⟩ => hG H u.h) ?_ ?_
  · rintro i x H H' hi ⟨G, acc, u, gD, hacc, hlen, hR⟩ y
    have key := hs i x G H H' (fun y H4 => ∃ acc, H4 D = some (.lst acc) ∧ acc.length < sizeLine ∧ ∃ G' acc', Up G1 H1 G' (upd H4 D (.lst (acc ++ [y]))) ∧ G' D = none ∧ (upd H4 D (.lst (acc ++ [y]))) D = some (.lst acc') ∧ acc'.length = i + 1 ∧ ∀ j y, acc'[j]? = some y → R G' y j) hi u y ?_
    · exact key
    · intro z G' H4 u4 hz
      refine ⟨acc, u4.h _ _ hacc, Nat.lt_of_lt_of_le (show acc.length < 1000 by omega) (by decide), G', acc ++ [z], (u.trans u4).mut hD (u4.n _ _ hacc gD), u4.n _ _ hacc gD, upd_same, by simp [hlen], fun j y' e => ?_⟩
      by_cases hj : j < acc.length
      · rw [List.getElem?_append_left hj] at e
        exact mono _ _ _ _ u4.g (hR j y' e)
      · rw [List.getElem?_append_right (by omega)] at e
        have hj0 : j - acc.length = 0 := by
          have := (List.getElem?_eq_some_iff.mp e).1
          simp at this; omega
        rw [hj0] at e
        simp at e
        subst e
        have : j = i := by omega
        rw [this]; exact hz
  · rintro H ⟨G, acc, u, gD, hacc, hlen, hR⟩
    exact hd G acc H (u.pub hD gD hacc) hacc hlen fun j y e => mono _ _ _ _ (same_new gD) (hR j y e)
end
def NewL (H : Hp) (Q : VK) (l : List Int) : Prop := ∀ (p : Addr) (H' : Hp), H p = none → Same H H' → H' p = some (.lst (l.map V.int)) → Q (.ref p) H'
section
variable {P : Program} {w : World} {K : PySem.W.Frag} {mg : Str → Option Value} {base : Heap} {f : Addr} {fd : FuncData}
/-! rows -/
def rwF (p s : V) : List (Str × V) := [("parts", p), ("shares", s)]
theorem ps_ : ¬ (("parts" : Str) = "shares") := by decide +kernel
theorem rw_put (p s : V) : putF "shares" s (putF "parts" p []) = rwF p s := by
  show putF "shares" s [(("parts" : Str), p)] = _
  rw [putF_ne ps_]
  rfl
theorem rw_p (p s : V) : (rwF p s).lookup ("parts" : Str) = some p := rfl
theorem rw_s (p s : V) : (rwF p s).lookup ("shares" : Str) = some s := rfl
structure RwC (K : PySem.W.Frag) (C : Addr) : Prop where
  cl : Cls K C
  nP : NoAttr K C "parts"
  nS : NoAttr K C "shares"
def sp_Row_init (C : Addr) : Sp := fun vs H Q _ => ∃ (p dx : Addr) (H0 : Hp) (pv sv : V), vs = [.ref p, pv, sv] ∧ H0 p = none ∧ H0 dx = none ∧ dx ≠ p ∧ H = upd (upd H0 dx (.own p)) p (.ins C dx []) ∧
  ∀ H' : Hp, Same H0 H' → H' p = some (.ins C dx (rwF pv sv)) → Q .non H'
abbrev s_Row_init : Stmt := inClass (topS 25) 0
abbrev N_Row_init : List Str := ["self", "parts", "shares"]
theorem sc_Row_init : FnScope N_Row_init ["self", "parts", "shares"] (defScope s_Row_init) := ⟨rfl, rfl, rfl, by decide +kernel, rfl, by decide +kernel, by decide +kernel⟩
theorem ok_Row_init {C : Addr} (F : Fun K "__init__" "Row.__init__" s_Row_init f fd) (RC : RwC K C) : FnOk P w K mg base CX0 1 f fd ["self", "parts", "shares"] (sp_Row_init C) := by
  refine F.ok sc_Row_init (fun vs H Q E ⟨p, dx, H0, a, b, h, _⟩ => by rw [h]; rfl) (fun cdv A outer s H vs Q E hr ⟨p, dx, H0, pv_, sv_, h, p0, d0, ne, hH, k⟩ => ?_)
  subst h; subst hH
  refine ⟨_, (pss_cons (ps_fld (pv 0) (pv 1) rfl)
    (pss_one (ps_fld (pv 0) (pv 2) rfl))), ?_⟩
  refine ⟨_, rfl, _, rfl, p, C, dx, [], rfl, upd_same, RC.cl, RC.nP, by show 0 < 1000; decide, ?_⟩
  refine ⟨_, rfl, _, rfl, p, C, dx, _, rfl, upd_same, RC.cl, RC.nS, by show 1 < 1000; decide, ?_⟩
  refine k _ (fun b o e => ?_) (by rw [upd_same, rw_put])
  have h1 : b ≠ p := ne_of_none e p0
  have h2 : b ≠ dx := ne_of_none e d0
  rw [upd_ne h1, upd_ne h1, upd_ne h1, upd_ne h2]
  exact e
def RwAt (C : Addr) (G : Hp) (v : V) (r : Rw) : Prop := ∃ a dx pa sa, v = .ref a ∧ G a = some (.ins C dx (rwF (.ref pa) (.ref sa))) ∧ G pa = some (.lst [.int r.p, .int r.q]) ∧ G sa = some (.lst (r.sh.map V.int))
theorem RwAt.up {C : Addr} {G H : Hp} {v : V} {r : Rw} (h : RwAt C G v r) (s : Same G H) : RwAt C H v r := let ⟨a, dx, pa, sa, e, h1, h2, h3⟩ := h; ⟨a, dx, pa, sa, e, s _ _ h1, s _ _ h2, s _ _ h3⟩
/-- a row just made -/
theorem Up.row {C : Addr} {G0 H0 G H H' : Hp} {x dx pa sa : Addr} {r : Rw} (u : Up G0 H0 G H) (hx : H x = none) (s : Same H H') (e : H' x = some (.ins C dx (rwF (.ref pa) (.ref sa)))) (h1 : G pa = some (.lst [.int r.p, .int r.q])) (h2 : G sa = some (.lst (r.sh.map V.int))) :
    Up G0 H0 (upd G x (.ins C dx (rwF (.ref pa) (.ref sa)))) H' ∧ RwAt C (upd G x (.ins C dx (rwF (.ref pa) (.ref sa)))) (.ref x) r := by
  have hg := u.free hx
  refine ⟨u.newT hx s e, x, dx, pa, sa, rfl, upd_same, ?_, ?_⟩
  · rw [upd_ne (ne_of_none h1 hg)]; exact h1
  · rw [upd_ne (ne_of_none h2 hg)]; exact h2
abbrev s_unit : Stmt := topS 27
abbrev N_unit : List Str := ["many", "at", "k"]
theorem sc_unit : FnScope N_unit ["many", "at"] (defScope s_unit) := ⟨rfl, rfl, rfl, by decide +kernel, rfl, by decide +kernel, by decide +kernel⟩
def sp_unit : Sp := fun vs H Q _ => ∃ (n i : Nat), vs = [.int n, .int i] ∧ n ≤ 1000 ∧ NewL H Q (uvec n i)
theorem ok_unit (F : Fun K "unit" "unit" s_unit f fd) (T : Txt K mg) : FnOk P w K mg base CX0 1 f fd ["many", "at"] sp_unit := by
  refine F.ok sc_unit (fun vs H Q E ⟨n, i, h, _⟩ => by rw [h]; rfl) (fun cdv A outer s H vs Q E hr ⟨n, i, h, hn, k⟩ => ?_)
  subst h
  refine ⟨_, (pss_one (ps_ret (pe_lc (own := [("k", 2)]) rfl sc_unit.nd (pi_range1 (by rfl) T.n_range (pa_cons (pv 0) pa_nil)) (blkOk_by (N := N_unit) (sc := defScope s_unit) (by decide +kernel)) (fun _ _ _ _ _ => (pg_name (i := 2) sc_unit.nd rfl (Or.inl rfl))) (fun _ _ _ _ _ => pts_nil) (fun _ _ _ _ _ => (pe_ifExp (pt_cmpR op_eq (pv 2) (pv 1) (nomark _)) pe_int pe_int))))), ?_⟩
  refine ⟨_, rfl, (n : Int), rfl, by omega, by omega, fun D hD => ?_⟩
  refine comp_V (n := n) (by have := walk_range (lo := 0) (n := n); simpa using this) hD hn (fun k => V.int (if k = i then 1 else 0)) (fun _ _ => trivial) ?_ ?_
  · rintro j x H2 H3 Q' hj sm ⟨rfl, rfl⟩ hq
    refine ⟨rfl, _, rfl, _, rfl, rfl, _, rfl, iteV (fun e => ?_) (fun e => ?_)⟩
    · have := hq _ (Same.refl _)
      rw [if_pos (by omega)] at this; exact this
    · have := hq _ (Same.refl _)
      rw [if_neg (by omega)] at this; exact this
  · intro H2 sm h2
    refine k D H2 hD sm ?_
    rw [h2, uvec_eq]
    simp
abbrev s_added : Stmt := topS 28
abbrev N_added : List Str := ["row", "other", "many", "parts", "own", "more"]
theorem sc_added : FnScope N_added ["row", "other", "many"] (defScope s_added) := ⟨rfl, rfl, rfl, by decide +kernel, rfl, by decide +kernel, by decide +kernel⟩
def sp_added (C : Addr) : Sp := fun vs H Q _ => ∃ (G : Hp) (v1 v2 : V) (r s : Rw) (c : Int) (b : Nat), vs = [v1, v2, .int c] ∧ Same G H ∧ RwAt C G v1 r ∧ RwAt C G v2 s ∧ r.sh.length = s.sh.length ∧ r.sh.length ≤ 1000 ∧ c.natAbs < 2 ^ b ∧ Sm (2 ^ b) s ∧ 0 < b ∧ b ≤ 400000 ∧
  ∀ (v : V) (G' H' : Hp), Up G H G' H' → RwAt C G' v (addR r s c) → Q v H'
theorem lt_pow_of_le {n b : Nat} (h : n ≤ 2 ^ b) : n < 2 ^ (b + 1) := by rw [Nat.pow_succ]; have := Nat.two_pow_pos b; omega
theorem addL_range {u v : List Int} {c : Int} (h : u.length = v.length) : (List.range u.length).map (fun i => V.int (u.getD i 0 + c * v.getD i 0)) = (addL u v c).map V.int := by
  apply List.ext_getElem?
  intro i
  unfold addL
  rw [List.getElem?_map, List.getElem?_map, List.getElem?_zipWith]
  by_cases hi : i < u.length
  · have hv : i < v.length := by omega
    simp [hi, hv]
  · have hv : ¬ i < v.length := by omega
    simp [hi, hv]
theorem ok_added {C : Addr} (F : Fun K "added" "added" s_added f fd) (T : Txt K mg) (RC : RwC K C) (c_Row : Cla P w K mg base "Row" C 1 ["self", "parts", "shares"] (sp_Row_init C)) : FnOk P w K mg base CX0 3 f fd ["row", "other", "many"] (sp_added C) := by
  refine F.ok sc_added (fun vs H Q E ⟨G, a, b, r, s, c, n, h, _⟩ => by rw [h]; rfl) (fun cdv A outer s' H vs Q E hr ⟨G, v1, v2, r, s, c, b, h, v0, h1, h2, hl, hz, hc, hs, b0, b4, k⟩ => ?_)
  subst h
  obtain ⟨a1, d1, p1, q1, rfl, e1, e2, e3⟩ := h1
  obtain ⟨a2, d2, p2, q2, rfl, f1, f2, f3⟩ := h2
  refine ⟨_, (pss_cons (ps_setLc (i := 3) (own := [("own", 4), ("more", 5)]) rfl sc_added.nd rfl rfl (sw_true rfl rfl rfl (by decide +kernel)) (pi_zip (by rfl) T.n_zip (pa_cons (pe_fld (pv 0) rfl) (pa_cons (pe_fld (pv 1) rfl) pa_nil))) (blkOk_by (N := N_added) (sc := defScope s_added) (by decide +kernel)) (fun _ _ _ _ _ => (pg_tupB (K := K) (n := 2) rfl rfl (pgs_cons (pg_name (i := 4) sc_added.nd rfl (Or.inl rfl)) (pgs_cons (pg_name (i := 5) sc_added.nd rfl (Or.inl rfl)) pgs_nil)))) (fun _ _ _ _ _ => pts_nil) (fun _ _ _ _ _ => (pe_op op_add (pv 4) (pe_op op_mulW (pv 2) (pv 5)))))
    (pss_one (ps_ret (pe_mk c_Row hr (by decide) (pa_cons (pv 3) (pa_cons (pe_lc (own := [("own", 4), ("more", 5)]) rfl sc_added.nd (pi_zip (by rfl) T.n_zip (pa_cons (pe_fld (pv 0) rfl) (pa_cons (pe_fld (pv 1) rfl) pa_nil))) (blkOk_by (N := N_added) (sc := defScope s_added) (by decide +kernel)) (fun _ _ _ _ _ => (pg_tupB (K := K) (n := 2) rfl rfl (pgs_cons (pg_name (i := 4) sc_added.nd rfl (Or.inl rfl)) (pgs_cons (pg_name (i := 5) sc_added.nd rfl (Or.inl rfl)) pgs_nil)))) (fun _ _ _ _ _ => pts_nil) (fun _ _ _ _ _ => (pe_op op_add (pv 4) (pe_op op_mulW (pv 2) (pv 5))))) pa_nil)))))), ?_⟩
  -- parts
  refine ⟨_, rfl, a1, C, d1, _, _, rfl, v0 _ _ e1, RC.cl, RC.nP, rw_p _ _, _, rfl, a2, C, d2, _, _, rfl, v0 _ _ f1, RC.cl, RC.nP, rw_p _ _, p1, p2, _, _, rfl, SqL.of (v0 _ _ e2), SqL.of (v0 _ _ f2), fun D hD => ?_⟩
  refine comp_V (n := 2) (walk_zip rfl) hD (by decide) (fun i => V.int (([r.p, r.q]).getD i 0 + c * ([s.p, s.q]).getD i 0)) (fun H2 sm => ⟨sm.seq (SqL.of (v0 _ _ e2)), sm.seq (SqL.of (v0 _ _ f2))⟩) ?_ ?_
  · rintro i x H2 H3 Q' hi sm ⟨Tt, x1, y1, rfl, hT, rfl, hx, hy⟩ hq
    obtain ⟨m, hm1, hm2⟩ : ∃ m, y1 = V.int m ∧ m.natAbs ≤ 2 ^ b ∧ x1 = V.int (([r.p, r.q]).getD i 0) ∧ m = ([s.p, s.q]).getD i 0 := by
      match i, hx, hy with
      | 0, hx, hy => simp at hx hy; exact ⟨s.p, hy.symm, hs.p, hx.symm, rfl⟩
      | 1, hx, hy => simp at hx hy; exact ⟨s.q, hy.symm, hs.q, hx.symm, rfl⟩
    obtain ⟨hm2, hm3, hm4⟩ := hm2
    subst hm1 hm3
    refine ⟨Tt, _, rfl, SqT.of upd_same, rfl, _, _, rfl, _, _, rfl, rfl, rfl, ?_⟩
    refine ⟨_, rfl, _, rfl, _, rfl, _, _, rfl, rfl, mulW_of hc (lt_pow_of_le hm2) b0 (by omega) (by omega), _, _, rfl, rfl, ?_⟩
    rw [hm4]
    exact hq _ (same_new hT)
  · intro H2 sm h2
    have u1 : Up G H (upd G D (.lst [.int (r.p + c * s.p), .int (r.q + c * s.q)])) H2 := (Up.refl v0).newT hD sm (by rw [h2]; rfl)
    refine ⟨_, rfl, _, rfl, a1, C, d1, _, _, rfl, sm _ _ (v0 _ _ e1), RC.cl, RC.nS, rw_s _ _, _, rfl, a2, C, d2, _, _, rfl, sm _ _ (v0 _ _ f1), RC.cl, RC.nS, rw_s _ _, q1, q2, _, _, rfl, SqL.of (sm _ _ (v0 _ _ e3)), SqL.of (sm _ _ (v0 _ _ f3)), fun D2 hD2 => ?_⟩
    refine comp_V (n := r.sh.length) (walk_zip (by simp [hl])) hD2 hz (fun i => V.int (r.sh.getD i 0 + c * s.sh.getD i 0)) (fun H3 s3 => ⟨s3.seq (SqL.of (sm _ _ (v0 _ _ e3))), s3.seq (SqL.of (sm _ _ (v0 _ _ f3)))⟩) ?_ ?_
    · rintro i x H3 H4 Q' hi s3 ⟨Tt, x1, y1, rfl, hT, rfl, hx, hy⟩ hq
      obtain ⟨xi, hx1, rfl⟩ := for_map hx
      obtain ⟨yi, hy1, rfl⟩ := for_map hy
      have hyb := hs.sh yi (List.mem_of_getElem? hy1)
      refine ⟨Tt, _, rfl, SqT.of upd_same, rfl, _, _, rfl, _, _, rfl, rfl, rfl, ?_⟩
      refine ⟨_, rfl, _, rfl, _, rfl, _, _, rfl, rfl, mulW_of hc (lt_pow_of_le hyb) b0 (by omega) (by omega), _, _, rfl, rfl, ?_⟩
      rw [List.getD_eq_getElem?_getD, List.getD_eq_getElem?_getD, hx1, hy1] at hq
      exact hq _ (same_new hT)
    · intro H3 s3 h3
      rw [addL_range hl] at h3
      have u2 := u1.newT hD2 s3 h3
      have gD := u1.free hD2
      intro x dx nx nd ne
      refine ⟨x, dx, H3, _, _, rfl, nx, nd, ne, rfl, fun H4 s4 e4 => ⟨rfl, ?_⟩⟩
      have := u2.row (r := addR r s c) nx s4 e4 (by rw [upd_ne (ne_of_none upd_same gD)]; exact upd_same) upd_same
      exact k _ _ _ this.1 this.2
end
end K67

namespace K67
open PySem L2 KX
def OptRw (C : Addr) (G : Hp) (v : V) (o : Option Rw) : Prop := match o with
  | none => v = .non
  | some r => RwAt C G v r
theorem OptRw.up {C : Addr} {G H : Hp} {v : V} {o : Option Rw} (h : OptRw C G v o) (s : Same G H) : OptRw C H v o := by
  cases o with
  | none => exact h
  | some r => exact RwAt.up h s
def RwsAt (C : Addr) (G : Hp) (xs : List V) (rows : List Rw) : Prop := xs.length = rows.length ∧ ∀ (i : Nat) (r : Rw), rows[i]? = some r → ∃ x, xs[i]? = some x ∧ RwAt C G x r
theorem RwsAt.up {C : Addr} {G H : Hp} {xs : List V} {rows : List Rw} (h : RwsAt C G xs rows) (s : Same G H) : RwsAt C H xs rows :=
  ⟨h.1, fun i r e => let ⟨x, e1, e2⟩ := h.2 i r e; ⟨x, e1, e2.up s⟩⟩
theorem RwsAt.snoc {C : Addr} {G : Hp} {xs : List V} {rows : List Rw} {x : V} {r : Rw} (h : RwsAt C G xs rows) (hx : RwAt C G x r) : RwsAt C G (xs ++ [x]) (rows ++ [r]) := by
  refine ⟨by simp [h.1], fun i q e => ?_⟩
  by_cases hi : i < rows.length
  · rw [List.getElem?_append_left hi] at e
    obtain ⟨y, e1, e2⟩ := h.2 i q e
    exact ⟨y, by rw [List.getElem?_append_left (by rw [h.1]; exact hi)]; exact e1, e2⟩
  · rw [List.getElem?_append_right (by omega)] at e
    have h0 : i - rows.length = 0 := by
      have := (List.getElem?_eq_some_iff.mp e).1
      simp at this; omega
    rw [h0] at e
    simp at e
    subst e
    have : i = rows.length := by omega
    refine ⟨x, ?_, hx⟩
    rw [this, ← h.1]; simp
theorem at_rw (r : Rw) {i : Nat} (h : i ≤ 1) : atI [V.int r.p, V.int r.q] (i : Int) = some (V.int (r.at i)) := by
  match i, h with
  | 0, _ => rfl
  | 1, _ => rfl
def BB (U B k : Nat) : Nat := (4 * U) ^ k * B
theorem BB_s (U B k : Nat) : 4 * U * BB U B k = BB U B (k + 1) := by unfold BB; rw [Nat.pow_succ, Nat.mul_comm ((4 * U) ^ k) (4 * U)]; exact (Nat.mul_assoc (4 * U) ((4 * U) ^ k) B).symm
theorem BB_mono {U B k n : Nat} (hU : 1 ≤ U) (h : k ≤ n) : BB U B k ≤ BB U B n := Nat.mul_le_mul_right _ (Nat.pow_le_pow_right (by omega) h)
section
variable {P : Program} {w : World} {K : PySem.W.Frag} {mg : Str → Option Value} {base : Heap} {f : Addr} {fd : FuncData}
abbrev s_led : Stmt := topS 29
abbrev N_led : List Str := ["rows", "at", "lead", "others", "row", "first", "second", "part", "share"]
theorem sc_led : FnScope N_led ["rows", "at"] (defScope s_led) := ⟨rfl, rfl, rfl, by decide +kernel, rfl, by decide +kernel, by decide +kernel⟩
def sp_led (C : Addr) : Sp := fun vs H Q _ => ∃ (G : Hp) (a : Addr) (xs : List V) (M : List T3) (rows : List Rw) (i U B bb : Nat), vs = [.ref a, .int i] ∧ Same G H ∧ i ≤ 1 ∧ G a = some (.lst xs) ∧ RwsAt C G xs rows ∧ rows.length ≤ 10 ∧ M.length ≤ 100 ∧ 1 ≤ U ∧
  (∀ r ∈ rows, Con M r ∧ Sm B r ∧ (r.at i).natAbs ≤ U) ∧ BB U B rows.length ≤ 2 ^ bb ∧ U < 2 ^ bb ∧ 0 < bb ∧ bb ≤ 8000 ∧
  ∀ (p : Addr) (G' H' : Hp) (lv : V) (ol : Addr) (ys : List V) (lead : Option Rw) (others : List Rw), Up G H G' H' → H' p = some (.tup [lv, .ref ol]) → OptRw C G' lv lead → G' ol = some (.lst ys) → RwsAt C G' ys others →
    Ld M i U (BB U B rows.length) rows lead others → (∀ l ∈ lead, 0 < l.at i) → Q (.ref p) H'
theorem ok_led {C : Addr} (F : Fun K "led" "led" s_led f fd) (T : Txt K mg) (RC : RwC K C) (c_Row : Cla P w K mg base "Row" C 1 ["self", "parts", "shares"] (sp_Row_init C)) (c_added : Def P w K mg base "added" 3 ["row", "other", "many"] (sp_added C)) : FnOk P w K mg base CX0 4 f fd ["rows", "at"] (sp_led C) := by
  refine F.ok sc_led (fun vs H Q E ⟨G, a, xs, M, rows, i, U, B, bb, h, _⟩ => by rw [h]; rfl) (fun cdv A outer s' H vs Q E hr ⟨G0, a, xs, M, rows, at_, U, B, bb, h, v0, ha1, hxs, hrows, h10, hM, hU, hall, hBB, hUb, b0, b8, k⟩ => ?_)
  subst h
  refine ⟨_, (pss_cons (ps_par (i := 2) (j := 3) (by rfl) sc_led.nd rfl rfl (by decide) rfl rfl (pa_cons pe_non (pa_cons (pe_lst pa_nil) pa_nil)) (by rfl))
    (pss_cons (ps_for PassesOwn.never rfl (pi_list (pv 0)) (pg_name (i := 4) sc_led.nd rfl (Or.inl rfl)) (pss_cons (ps_par (i := 5) (j := 6) (by rfl) sc_led.nd rfl rfl (by decide) rfl rfl (pa_cons (pv 2) (pa_cons (pv 4) pa_nil)) (by rfl))
    (pss_cons (ps_while PassesOwn.never (PW.pt (pw_and (pt_cmpR op_notN (pv 5) pe_non (nomark _)) (pw_and1 (pt_cmpR op_ne (pe_ix ix_list (pe_fld (pv 6) rfl) (pv 1) (fun _ _ => rfl)) pe_int (nomark _))))) (pss_one (ps_par (i := 5) (j := 6) (by rfl) sc_led.nd rfl rfl (by decide) rfl rfl (pa_cons (pv 6) (pa_cons (pe_def c_added hr (by decide) (pa_cons (pv 5) (pa_cons (pv 6) (pa_cons (pe_un un_neg (pe_op op_fdivX (pe_ix ix_list (pe_fld (pv 5) rfl) (pv 1) (fun _ _ => rfl)) (pe_ix ix_list (pe_fld (pv 6) rfl) (pv 1) (fun _ _ => rfl)))) pa_nil)))) pa_nil)) (by rfl))))
    (pss_one (ps_if (PW.pt (pw_and (pt_cmpR op_isN (pv 5) pe_non (nomark _)) (pw_and1 (pt_cmpR op_ne (pe_ix ix_list (pe_fld (pv 6) rfl) (pv 1) (fun _ _ => rfl)) pe_int (nomark _))))) (pss_one (ps_set (i := 2) sc_led.nd rfl (Or.inl rfl) (pv 6))) (pss_cons (ps_set (i := 2) sc_led.nd rfl (Or.inl rfl) (pv 5))
    (pss_one (ps_expr (pe_bm PySem.F.plainAttrs_list PySem.F.slot_list_append PySem.F.type_list_append mt_append (pv 3) (pa_cons (pv 6) pa_nil))))))))))
    (pss_cons (ps_if (PW.pt (pw_and (pt_cmpR op_notN (pv 2) pe_non (nomark _)) (pw_and1 (pt_cmpR op_lt (pe_ix ix_list (pe_fld (pv 2) rfl) (pv 1) (fun _ _ => rfl)) pe_int (nomark _))))) (pss_one (ps_set (i := 2) sc_led.nd rfl (Or.inl rfl) (pe_def c_added hr (by decide) (pa_cons (pe_mk c_Row hr (by decide) (pa_cons (pe_lc (own := [("part", 7)]) rfl sc_led.nd (pi_list (pe_fld (pv 2) rfl)) (blkOk_by (N := N_led) (sc := defScope s_led) (by decide +kernel)) (fun _ _ _ _ _ => (pg_name (i := 7) sc_led.nd rfl (Or.inl rfl))) (fun _ _ _ _ _ => pts_nil) (fun _ _ _ _ _ => pe_int)) (pa_cons (pe_lc (own := [("share", 8)]) rfl sc_led.nd (pi_list (pe_fld (pv 2) rfl)) (blkOk_by (N := N_led) (sc := defScope s_led) (by decide +kernel)) (fun _ _ _ _ _ => (pg_name (i := 8) sc_led.nd rfl (Or.inl rfl))) (fun _ _ _ _ _ => pts_nil) (fun _ _ _ _ _ => pe_int)) pa_nil))) (pa_cons (pv 2) (pa_cons (pe_un un_neg pe_int) pa_nil)))))) pss_nil)
    (pss_one (ps_ret (pe_tup (pa_cons (pv 2) (pa_cons (pv 3) pa_nil)))))))), ?_⟩
  refine ⟨Nat.zero_le _, fun ol hol => ⟨_, _, rfl, ?_⟩⟩
  have gol : G0 ol = none := v0.free hol
  refine ⟨_, rfl, a, rfl, ⟨_, (same_new hol).seq (SqL.of (v0 _ _ hxs))⟩, for_list (K := K) (a := a) (xs := xs) (fun i σ H' => ∃ (G : Hp) (lv : V) (acc : List V) (lead : Option Rw) (others : List Rw) (b4 b5 b6 b7 b8 : Option V), σ = [some (.ref a), some (.int at_), some lv, some (.ref ol), b4, b5, b6, b7, b8] ∧
    Up G0 H G H' ∧ G ol = none ∧ OptRw C G lv lead ∧ H' ol = some (.lst acc) ∧ RwsAt C G acc others ∧ Ld M at_ U (BB U B i) (rows.take i) lead others) ?_ (fun i σ H' _ ⟨G, _, _, _, _, _, _, _, _, _, _, u, _⟩ => u.h.seq (SqL.of (v0 _ _ hxs))) ?_ ?_⟩
  · exact ⟨G0, _, [], none, [], _, _, _, _, _, rfl, (Up.refl v0).own hol, gol, rfl, upd_same, ⟨rfl, fun i r e => by simp at e⟩, Ld.start M at_ U _⟩
  · rintro i x σ H' hi ⟨G, lv, acc, lead, others, b4, b5, b6, b7, b8, rfl, u, hgol, hlv, hacc, hoth, ld⟩
    have hil : i < rows.length := by rw [← hrows.1]; exact (List.getElem?_eq_some_iff.mp hi).1
    obtain ⟨x', hx', hrow⟩ := hrows.2 i _ (List.getElem?_eq_getElem hil)
    obtain rfl : x' = x := by rw [hi] at hx'; exact (Option.some.inj hx').symm
    have hrow := hrow.up u.g
    generalize hrr : rows[i] = row at hrow
    have hmem : row ∈ rows := by rw [← hrr]; exact List.getElem_mem hil
    obtain ⟨hcon, hsm, hat⟩ := hall row hmem
    have etake : rows.take (i + 1) = rows.take i ++ [row] := by rw [List.take_succ, List.getElem?_eq_getElem hil, hrr]; rfl
    have hBi : BB U B (i + 1) ≤ 2 ^ bb := Nat.le_trans (BB_mono hU (by omega)) hBB
    have hB0 : B ≤ BB U B (i + 1) := by have := BB_mono (U := U) (B := B) hU (Nat.zero_le (i + 1)); unfold BB at this ⊢; simpa using this
    have hBii : BB U B i ≤ BB U B (i + 1) := BB_mono hU (by omega)
    -- first, second = lead, row
    refine ⟨_, rfl, _, rfl, _, _, rfl, ?_⟩
    cases lead with
    | none =>
      obtain rfl : lv = .non := hlv
      refine ⟨fun m σ2 H2 => σ2 = [some (.ref a), some (.int at_), some .non, some (.ref ol), some x', some .non, some x', b7, b8] ∧ H2 = H', ⟨0, rfl, rfl⟩, ?_⟩
      rintro m σ2 H2 ⟨rfl, rfl⟩
      refine ⟨_, rfl, rfl, _, rfl, iteF (iteF ?_)⟩
      -- if first is None and second.parts[at] != 0
      obtain ⟨a1, d1, p1, q1, rfl, e1, e2, e3⟩ := id hrow
      refine ⟨_, rfl, rfl, _, rfl, iteT ?_⟩
      refine ⟨_, rfl, a1, C, d1, _, _, rfl, u.v _ _ e1, RC.cl, RC.nP, rw_p _ _, _, rfl, p1, _, _, _, rfl, rfl, SqL.of (u.v _ _ e2), at_rw row ha1, rfl, _, rfl, iteVn (fun h0 => ?_) (fun h0 => ?_)⟩
      · refine ⟨_, rfl, ?_⟩
        exact ⟨G, _, acc, some row, others, _, _, _, _, _, rfl, u, hgol, hrow, hacc, hoth, by rw [etake]; exact ld.first hcon (hsm.mono hB0) hBii h0 hat⟩
      · refine ⟨_, rfl, ?_⟩
        have hz : acc.length < sizeLine := by
          have h1 := ld.len
          rw [hoth.1]
          rw [List.length_take] at h1
          exact Nat.lt_of_lt_of_le (show others.length < 11 by omega) (by decide)
        refine ⟨_, rfl, .inl ⟨rfl, _, SqL.of hacc⟩, _, rfl, ol, _, _, rfl, rfl, hacc, hz, ?_⟩
        exact ⟨G, _, acc ++ [V.ref a1], none, others ++ [row], _, _, _, _, _, rfl, u.mut hol hgol, hgol, rfl, upd_same, hoth.snoc hrow, by rw [etake]; exact ld.snoc0 hcon (hsm.mono hB0) hBii h0⟩
    | some l =>
      have hlrow : RwAt C G lv l := hlv
      have w0 := Wh.start (ld.cl l rfl) hcon (ld.ne l rfl) (ld.ul l rfl) hat (ld.sl l rfl) (hsm.mono (show B ≤ BB U B i by have := BB_mono (U := U) (B := B) hU (Nat.zero_le i); unfold BB at this ⊢; simpa using this))
      rw [BB_s] at w0
      refine ⟨fun m σ2 H2 => ∃ (G2 : Hp) (fv sv : V) (fr sr : Rw), σ2 = [some (.ref a), some (.int at_), some lv, some (.ref ol), some x', some fv, some sv, b7, b8] ∧ Up G0 H G2 H2 ∧ Same G G2 ∧ G2 ol = none ∧ H2 ol = some (.lst acc) ∧ RwAt C G2 fv fr ∧ RwAt C G2 sv sr ∧
        Wh M at_ U (BB U B (i + 1)) l row fr sr ∧ (sr.at at_).natAbs = m, ⟨_, G, lv, x', l, row, rfl, u, Same.refl _, hgol, hacc, hlrow, hrow, w0, rfl⟩, ?_⟩
      rintro m σ2 H2 ⟨G2, fv, sv, fr, sr, rfl, u2, g2, hgol2, hacc2, hf, hs, wh, hm⟩
      obtain ⟨a1, d1, p1, q1, rfl, e1, e2, e3⟩ := id hf
      obtain ⟨a2, d2, p2, q2, rfl, f1, f2, f3⟩ := id hs
      refine ⟨_, rfl, rfl, _, rfl, iteT ?_⟩
      refine ⟨_, rfl, a2, C, d2, _, _, rfl, u2.v _ _ f1, RC.cl, RC.nP, rw_p _ _, _, rfl, p2, _, _, _, rfl, rfl, SqL.of (u2.v _ _ f2), at_rw sr ha1, rfl, _, rfl, iteVn (fun h0 => ?_) (fun h0 => ?_)⟩
      · obtain ⟨wh', lt⟩ := wh.step h0
        obtain ⟨sz1, sz2⟩ := wh.sizes
        refine ⟨fun σ3 H3 => ∃ m', m' < m ∧ ∃ (G2 : Hp) (fv sv : V) (fr sr : Rw), σ3 = [some (.ref a), some (.int at_), some lv, some (.ref ol), some x', some fv, some sv, b7, b8] ∧ Up G0 H G2 H3 ∧ Same G G2 ∧ G2 ol = none ∧ H3 ol = some (.lst acc) ∧ RwAt C G2 fv fr ∧ RwAt C G2 sv sr ∧
          Wh M at_ U (BB U B (i + 1)) l row fr sr ∧ (sr.at at_).natAbs = m', fun σ3 H3 h3 => h3, ?_⟩
        have hq := (eu_any (X := (sr.at at_).natAbs) h0 (Nat.le_refl _) wh.ne).qh
        have hu := wh.uf
        have hus := wh.us
        refine ⟨_, rfl, _, rfl, _, rfl, ?_⟩
        refine ⟨_, rfl, a1, C, d1, _, _, rfl, u2.v _ _ e1, RC.cl, RC.nP, rw_p _ _, _, rfl, p1, _, _, _, rfl, rfl, SqL.of (u2.v _ _ e2), at_rw fr ha1, ?_⟩
        refine ⟨_, rfl, a2, C, d2, _, _, rfl, u2.v _ _ f1, RC.cl, RC.nP, rw_p _ _, _, rfl, p2, _, _, _, rfl, rfl, SqL.of (u2.v _ _ f2), at_rw sr ha1, _, _, rfl, rfl, ⟨h0, ?_⟩, ?_⟩
        · exact Nat.lt_of_lt_of_le (log2_of (n := bb) (by omega) b0) (by omega)
        refine ⟨_, rfl, G2, _, _, fr, sr, _, bb, rfl, u2.v, hf, hs, wh.cf.l.trans wh.cs.l.symm, by rw [wh.cf.l]; omega, by rw [Int.natAbs_neg]; omega, sz2.mono hBi, b0, by omega, fun v G3 H3 u3 hv => ?_⟩
        refine ⟨_, _, rfl, _, by rw [← hm]; exact lt, G3, _, _, _, _, rfl, u2.trans u3, g2.trans u3.g, u3.n _ _ hacc2 hgol2, u3.h _ _ hacc2, hs.up u3.g, hv, wh', rfl⟩
      · -- the other way out
        refine ⟨_, rfl, rfl, _, rfl, iteF (iteF ?_)⟩
        refine ⟨_, rfl, ?_⟩
        have hz : acc.length < sizeLine := by
          have h1 := ld.len
          rw [hoth.1]
          rw [List.length_take] at h1
          exact Nat.lt_of_lt_of_le (show others.length < 11 by omega) (by decide)
        refine ⟨_, rfl, .inl ⟨rfl, _, SqL.of hacc2⟩, _, rfl, ol, _, _, rfl, rfl, hacc2, hz, ?_⟩
        refine ⟨G2, _, acc ++ [V.ref a2], some fr, others ++ [sr], _, _, _, _, _, rfl, u2.mut hol hgol2, hgol2, hf, upd_same, (hoth.up g2).snoc hs, ?_⟩
        rw [etake, ← BB_s]
        rw [← BB_s] at wh
        exact ld.more hU wh h0
  · rintro σ H' ⟨G, lv, acc, lead, others, b4, b5, b6, b7, b8, rfl, u, hgol, hlv, hacc, hoth, ld⟩
    rw [hrows.1, List.take_length] at ld
    have u' := u.pub hol hgol hacc
    have sg := same_new (o := .lst acc) hgol
    have hlv' := hlv.up sg
    have hoth' := hoth.up sg
    cases lead with
    | none =>
      obtain rfl : lv = .non := hlv
      refine ⟨_, rfl, rfl, _, rfl, iteF (iteF ?_)⟩
      refine ⟨_, rfl, _, rfl, by show 2 ≤ sizeLine; decide, fun p hp => ?_⟩
      exact k p _ _ _ ol acc none others (u'.same (same_new hp)) upd_same rfl upd_same hoth' ld (by simp)
    | some l =>
      obtain ⟨a1, d1, p1, q1, rfl, e1, e2, e3⟩ := id hlv'
      refine ⟨_, rfl, rfl, _, rfl, iteT ?_⟩
      refine ⟨_, rfl, a1, C, d1, _, _, rfl, u'.v _ _ e1, RC.cl, RC.nP, rw_p _ _, _, rfl, p1, _, _, _, rfl, rfl, SqL.of (u'.v _ _ e2), at_rw l ha1, _, _, rfl, rfl, _, rfl, iteD (fun h0 => ?_) (fun h0 => ?_)⟩
      · have lc := ld.cl l rfl
        have ls := ld.sl l rfl
        refine ⟨_, rfl, a1, C, d1, _, _, rfl, u'.v _ _ e1, RC.cl, RC.nP, rw_p _ _, p1, rfl, ⟨_, SqL.of (u'.v _ _ e2)⟩, fun D hD => ?_⟩
        refine comp_V (n := [V.int l.p, V.int l.q].length) walk_list hD (by show 2 ≤ 1000; decide) (fun _ => V.int 0) (fun H2 sm => sm.seq (SqL.of (u'.v _ _ e2))) ?_ ?_
        · rintro j x H2 H3 Q' hj sm ⟨rfl, _⟩ hq
          exact ⟨rfl, hq _ (Same.refl _)⟩
        · intro H2 sm2 h2
          have u2 := u'.newT hD sm2 h2
          have gD := u'.free hD
          have s2 := same_new (o := .lst ((List.range 2).map fun _ => V.int 0)) gD
          refine ⟨_, rfl, a1, C, d1, _, _, rfl, u2.v _ _ (s2 _ _ e1), RC.cl, RC.nS, rw_s _ _, q1, rfl, ⟨_, SqL.of (u2.v _ _ (s2 _ _ e3))⟩, fun D2 hD2 => ?_⟩
          refine comp_V (n := (l.sh.map V.int).length) walk_list hD2 (by rw [List.length_map, lc.l]; omega) (fun _ => V.int 0) (fun H3 sm => sm.seq (SqL.of (u2.v _ _ (s2 _ _ e3)))) ?_ ?_
          · rintro j x H3 H4 Q' hj sm ⟨rfl, _⟩ hq
            exact ⟨rfl, hq _ (Same.refl _)⟩
          · intro H3 sm3 h3
            have u3 := u2.newT hD2 sm3 h3
            have gD2 := u2.free hD2
            have s3 := same_new (o := .lst ((List.range (l.sh.map V.int).length).map fun _ => V.int 0)) gD2
            intro x dx nx nd ne
            refine ⟨x, dx, H3, _, _, rfl, nx, nd, ne, rfl, fun H4 sm4 e4 => ⟨rfl, ?_⟩⟩
            obtain ⟨u4, hz⟩ := u3.row (r := zeroR l.sh.length) nx sm4 e4 (by rw [upd_ne (ne_of_none upd_same gD2)]; exact upd_same) (by
              rw [upd_same]
              show some (HO.lst _) = some (HO.lst ((zeros l.sh.length).map V.int))
              rw [List.length_map]
              congr 2
              unfold zeros
              apply List.ext_getElem?
              intro j
              by_cases hj : j < l.sh.length <;> simp [hj])
            have gx := u3.free nx
            have s4 := same_new (o := .ins C dx (rwF (.ref D) (.ref D2))) gx
            refine ⟨_, rfl, _, rfl, _, _, _, zeroR l.sh.length, l, -1, bb, rfl, u4.v, hz, hlv'.up ((s2.trans s3).trans s4), by simp [zeroR, zeros], by simp [zeroR, zeros, lc.l]; omega, ?_, ls.mono hBB, b0, by omega, fun v G5 H5 u5 hv => ?_⟩
            · show 1 < 2 ^ bb
              exact Nat.one_lt_two_pow (by omega)
            · refine ⟨_, rfl, _, rfl, by show 2 ≤ sizeLine; decide, fun p hp => ?_⟩
              have ld' := ld.flip
              refine k p _ _ v ol acc (some (addR (zeroR l.sh.length) l (-1))) others ((u4.trans u5).same (same_new hp)) upd_same hv ?_ (hoth'.up (((s2.trans s3).trans s4).trans u5.g)) ld' ?_
              · exact u5.g _ _ (s4 _ _ (s3 _ _ (s2 _ _ upd_same)))
              · intro q hq
                cases hq
                rw [addR_at]
                have : (zeroR l.sh.length).at at_ = 0 := by unfold zeroR Rw.at; split <;> rfl
                rw [this]; omega
      · refine ⟨_, rfl, _, rfl, by show 2 ≤ sizeLine; decide, fun p hp => ?_⟩
        have hne := ld.ne l rfl
        refine k p _ _ _ ol acc (some l) others (u'.same (same_new hp)) upd_same hlv' upd_same hoth' ld ?_
        intro q hq
        cases hq
        omega
end
end K67

namespace K67
open PySem L2 KX
def pD (t : T3) : PyData := .tuple [.int t.1, .int t.2.1]
theorem p2_inv {K : PySem.W.Frag} {G : Hp} {v : V} {t : T3} (h : Dp K G v (pD t)) : ∃ a, v = .ref a ∧ SqT K G a [.int t.1, .int t.2.1] := by
  unfold pD at h
  cases h with
  | tup s d =>
    cases d with
    | cons a d =>
      cases a
      cases d with
      | cons a d =>
        cases a
        cases d
        exact ⟨_, rfl, s⟩
def shF (a l r : V) : List (Str × V) := [("across", a), ("along", l), ("rests", r)]
theorem al_ : ¬ (("across" : Str) = "along") := by decide +kernel
theorem ar_ : ¬ (("across" : Str) = "rests") := by decide +kernel
theorem lr_ : ¬ (("along" : Str) = "rests") := by decide +kernel
theorem sh_put2 (a l : V) : putF "along" l (putF "across" a []) = [(("across" : Str), a), (("along" : Str), l)] := by
  show putF "along" l [(("across" : Str), a)] = _
  rw [putF_ne al_]; rfl
theorem sh_put (a l r : V) : putF "rests" r (putF "along" l (putF "across" a [])) = shF a l r := by
  rw [sh_put2, putF_ne ar_, putF_ne lr_]; rfl
theorem sh_a (a l r : V) : (shF a l r).lookup ("across" : Str) = some a := rfl
theorem sh_l (a l r : V) : (shF a l r).lookup ("along" : Str) = some l := rfl
theorem sh_r (a l r : V) : (shF a l r).lookup ("rests" : Str) = some r := rfl
structure ShC (K : PySem.W.Frag) (C : Addr) : Prop where
  cl : Cls K C
  nA : NoAttr K C "across"
  nL : NoAttr K C "along"
  nR : NoAttr K C "rests"
theorem dpa_of {K : PySem.W.Frag} {G : Hp} : ∀ {ds : List PyData} {vs : List V}, vs.length = ds.length → (∀ (j : Nat) (y : V), vs[j]? = some y → ∃ d, ds[j]? = some d ∧ Dp K G y d) → DpAll K G vs ds
  | [], [], _, _ => .nil
  | [], _ :: _, h, _ => by simp at h
  | _ :: _, [], h, _ => by simp at h
  | d :: ds, v :: vs, h, k => by
    obtain ⟨d', e, q⟩ := k 0 v rfl
    obtain rfl : d = d' := by simpa using e
    exact .cons q (dpa_of (by simpa using h) fun j y e => k (j + 1) y (by simpa using e))
section
variable {P : Program} {w : World} {K : PySem.W.Frag} {mg : Str → Option Value} {base : Heap} {f : Addr} {fd : FuncData}
def sp_Shape_init (C : Addr) : Sp := fun vs H Q _ => ∃ (p dx : Addr) (H0 : Hp) (a l r : V), vs = [.ref p, a, l, r] ∧ H0 p = none ∧ H0 dx = none ∧ dx ≠ p ∧ H = upd (upd H0 dx (.own p)) p (.ins C dx []) ∧
  ∀ H' : Hp, Same H0 H' → H' p = some (.ins C dx (shF a l r)) → Q .non H'
abbrev s_Shape_init : Stmt := inClass (topS 26) 0
abbrev N_Shape_init : List Str := ["self", "east", "north", "rests"]
theorem sc_Shape_init : FnScope N_Shape_init ["self", "east", "north", "rests"] (defScope s_Shape_init) := ⟨rfl, rfl, rfl, by decide +kernel, rfl, by decide +kernel, by decide +kernel⟩
theorem ok_Shape_init {C : Addr} (F : Fun K "__init__" "Shape.__init__" s_Shape_init f fd) (SC : ShC K C) : FnOk P w K mg base CX0 1 f fd ["self", "east", "north", "rests"] (sp_Shape_init C) := by
  refine F.ok sc_Shape_init (fun vs H Q E ⟨p, dx, H0, a, b, c, h, _⟩ => by rw [h]; rfl) (fun cdv A outer s H vs Q E hr ⟨p, dx, H0, av, lv, rv, h, p0, d0, ne, hH, k⟩ => ?_)
  subst h; subst hH
  refine ⟨_, (pss_cons (ps_fld (pv 0) (pv 1) rfl)
    (pss_cons (ps_fld (pv 0) (pv 2) rfl)
    (pss_one (ps_fld (pv 0) (pv 3) rfl)))), ?_⟩
  refine ⟨_, rfl, _, rfl, p, C, dx, [], rfl, upd_same, SC.cl, SC.nA, by show 0 < 1000; decide, ?_⟩
  refine ⟨_, rfl, _, rfl, p, C, dx, _, rfl, upd_same, SC.cl, SC.nL, by show 1 < 1000; decide, ?_⟩
  refine ⟨_, rfl, _, rfl, p, C, dx, _, rfl, upd_same, SC.cl, SC.nR, by rw [sh_put2]; show 2 < 1000; decide, ?_⟩
  refine k _ (fun b o e => ?_) (by rw [upd_same, sh_put])
  have h1 : b ≠ p := ne_of_none e p0
  have h2 : b ≠ dx := ne_of_none e d0
  rw [upd_ne h1, upd_ne h1, upd_ne h1, upd_ne h1, upd_ne h2]
  exact e
def ShAt (K : PySem.W.Frag) (C CR : Addr) (G : Hp) (v : V) (eo no : Option Rw) (rs : List (List Int)) : Prop :=
  ∃ (a dx : Addr) (ev nv : V) (ra : Addr), v = .ref a ∧ G a = some (.ins C dx (shF ev nv (.ref ra))) ∧ OptRw CR G ev eo ∧ OptRw CR G nv no ∧ Dp K G (.ref ra) (.list (rs.map iD))
theorem ShAt.up {C CR : Addr} {G H : Hp} {v : V} {eo no : Option Rw} {rs : List (List Int)} (h : ShAt K C CR G v eo no rs) (s : Same G H) : ShAt K C CR H v eo no rs :=
  let ⟨a, dx, ev, nv, ra, e, h1, h2, h3, h4⟩ := h
  ⟨a, dx, ev, nv, ra, e, s _ _ h1, h2.up s, h3.up s, Dp.up h4 s⟩
def rowsOf (M : List T3) : List Rw := (List.range M.length).map fun i => ⟨(M.getD i (0, 0, 0)).1, (M.getD i (0, 0, 0)).2.1, uvec M.length i⟩
theorem rowsOf_get {M : List T3} {i : Nat} {m : T3} (h : M[i]? = some m) : (rowsOf M)[i]? = some ⟨m.1, m.2.1, uvec M.length i⟩ := by
  have hl : i < M.length := (List.getElem?_eq_some_iff.mp h).1
  unfold rowsOf
  rw [List.getElem?_map, List.getElem?_range hl]
  simp [List.getD_eq_getElem?_getD, h]
theorem rowsOf_len (M : List T3) : (rowsOf M).length = M.length := by simp [rowsOf]
theorem rowsOf_sh (M : List T3) : (rowsOf M).map (·.sh) = (List.range M.length).map (uvec M.length) := by simp [rowsOf, Function.comp_def]
theorem rowsOf_mem {M : List T3} {r : Rw} (h : r ∈ rowsOf M) : ∃ (i : Nat) (m : T3), M[i]? = some m ∧ r = ⟨m.1, m.2.1, uvec M.length i⟩ := by
  unfold rowsOf at h
  simp only [List.mem_map, List.mem_range] at h
  obtain ⟨i, hi, rfl⟩ := h
  refine ⟨i, M[i], List.getElem?_eq_getElem hi, ?_⟩
  simp [List.getD_eq_getElem?_getD, List.getElem?_eq_getElem hi]
theorem uvec_le {n i : Nat} {c : Int} (h : c ∈ uvec n i) : c.natAbs ≤ 1 := by
  rw [uvec_eq] at h
  simp only [List.mem_map] at h
  obtain ⟨k, _, rfl⟩ := h
  split <;> decide
theorem rowsOf_ok {M : List T3} (hM : ∀ m ∈ M, m.1.natAbs ≤ 128 ∧ m.2.1.natAbs ≤ 128) : ∀ r ∈ rowsOf M, Con M r ∧ Sm 128 r ∧ (r.at 0).natAbs ≤ 128 := by
  intro r hr
  obtain ⟨i, m, hm, rfl⟩ := rowsOf_mem hr
  have hz := hM m (List.mem_of_getElem? hm)
  have e := PR_uvec M i hm
  exact ⟨⟨uvec_len _ _, by rw [e], by rw [e]⟩, ⟨hz.1, hz.2, fun c hc => Nat.le_trans (uvec_le hc) (by decide)⟩, hz.1⟩
abbrev s_shape_of : Stmt := topS 30
abbrev N_shape_of : List Str := ["pairs", "rows", "east", "others", "north", "rests", "at", "pair", "row"]
theorem sc_shape_of : FnScope N_shape_of ["pairs"] (defScope s_shape_of) := ⟨rfl, rfl, rfl, by decide +kernel, rfl, by decide +kernel, by decide +kernel⟩
def sp_shape_of (K : PySem.W.Frag) (C CR : Addr) : Sp := fun vs H Q _ => ∃ (G : Hp) (v : V) (M : List T3), vs = [v] ∧ Same G H ∧ Dp K G v (.list (M.map pD)) ∧ M.length ≤ 5 ∧ (∀ m ∈ M, m.1.natAbs ≤ 128 ∧ m.2.1.natAbs ≤ 128) ∧
  ∀ (u : V) (G' H' : Hp) (eo no : Option Rw) (rs : List (List Int)), Up G H G' H' → ShAt K C CR G' u eo no rs → Parts M (eo.map (·.sh)) (no.map (·.sh)) rs → (∀ r ∈ eo, Sm (2 ^ 380) r) → (∀ r ∈ no, Sm (2 ^ 380) r) →
    (∀ u ∈ rs, ∀ c ∈ u, c.natAbs ≤ 2 ^ 380) → rs.length ≤ 10 → Q u H'
theorem BB5 {n : Nat} (h : n ≤ 5) : BB 128 128 n ≤ 2 ^ 52 := Nat.le_trans (BB_mono (by decide) h) (by decide +kernel)
theorem BB5' {n : Nat} (h : n ≤ 5) : BB (2 ^ 52) (2 ^ 52) n ≤ 2 ^ 322 := Nat.le_trans (BB_mono (by decide) h) (by decide +kernel)
theorem ok_shape_of {C CR : Addr} (F : Fun K "shape_of" "shape_of" s_shape_of f fd) (T : Txt K mg) (RC : RwC K CR) (SC : ShC K C) (c_Row : Cla P w K mg base "Row" CR 1 ["self", "parts", "shares"] (sp_Row_init CR))
    (c_Shape : Cla P w K mg base "Shape" C 1 ["self", "east", "north", "rests"] (sp_Shape_init C)) (c_unit : Def P w K mg base "unit" 1 ["many", "at"] sp_unit)
    (c_added : Def P w K mg base "added" 3 ["row", "other", "many"] (sp_added CR)) (c_led : Def P w K mg base "led" 4 ["rows", "at"] (sp_led CR)) : FnOk P w K mg base CX0 5 f fd ["pairs"] (sp_shape_of K C CR) := by
  refine F.ok sc_shape_of (fun vs H Q E ⟨G, v, M, h, _⟩ => by rw [h]; rfl) (fun cdv A outer s' H vs Q E hr ⟨G0, v, M, h, v0, hd, hM, hsm, k⟩ => ?_)
  subst h
  obtain ⟨a, xs, rfl, sq, da⟩ := l_inv hd
  have hlen : xs.length = M.length := by rw [DpAll.len da, List.length_map]
  have sqH := v0.seq sq
  refine ⟨_, (pss_cons (ps_setLc (i := 1) (own := [("at", 6), ("pair", 7)]) rfl sc_shape_of.nd rfl rfl (sw_true rfl rfl rfl (by decide +kernel)) (pi_enum (by rfl) T.n_enumerate (pa_cons (pv 0) pa_nil)) (blkOk_by (N := N_shape_of) (sc := defScope s_shape_of) (by decide +kernel)) (fun _ _ _ _ _ => (pg_tupB (K := K) (n := 2) rfl rfl (pgs_cons (pg_name (i := 6) sc_shape_of.nd rfl (Or.inl rfl)) (pgs_cons (pg_name (i := 7) sc_shape_of.nd rfl (Or.inl rfl)) pgs_nil)))) (fun _ _ _ _ _ => pts_nil) (fun _ _ _ _ _ => (pe_mk c_Row hr (by decide) (pa_cons (pe_lst (pa_cons (pe_ix (ixB_tup (K := K) rfl) (pv 7) pe_int (fun _ _ => rfl)) (pa_cons (pe_ix (ixB_tup (K := K) rfl) (pv 7) pe_int (fun _ _ => rfl)) pa_nil))) (pa_cons (pe_def c_unit hr (by decide) (pa_cons (pe_callB (call_lenB (K := K) rfl) (by rfl) T.n_len (by decide +kernel) (pa_cons (pv 0) pa_nil)) (pa_cons (pv 6) pa_nil))) pa_nil)))))
    (pss_cons (ps_asg (pe_def c_led hr (by decide) (pa_cons (pv 1) (pa_cons pe_int pa_nil))) (pg_tup (by rfl) (pgs_cons (pg_name (i := 2) sc_shape_of.nd rfl (Or.inl rfl)) (pgs_cons (pg_name (i := 3) sc_shape_of.nd rfl (Or.inl rfl)) pgs_nil))))
    (pss_cons (ps_asg (pe_def c_led hr (by decide) (pa_cons (pv 3) (pa_cons pe_int pa_nil))) (pg_tup (by rfl) (pgs_cons (pg_name (i := 4) sc_shape_of.nd rfl (Or.inl rfl)) (pgs_cons (pg_name (i := 5) sc_shape_of.nd rfl (Or.inl rfl)) pgs_nil))))
    (pss_cons (ps_if (PW.pt (pw_and (pt_cmpR op_notN (pv 2) pe_non (nomark _)) (pw_and1 (pt_cmpR op_notN (pv 4) pe_non (nomark _))))) (pss_one (ps_set (i := 2) sc_shape_of.nd rfl (Or.inl rfl) (pe_def c_added hr (by decide) (pa_cons (pv 2) (pa_cons (pv 4) (pa_cons (pe_un un_neg (pe_op op_fdivW (pe_ix ix_list (pe_fld (pv 2) rfl) pe_int (fun _ _ => rfl)) (pe_ix ix_list (pe_fld (pv 4) rfl) pe_int (fun _ _ => rfl)))) pa_nil)))))) pss_nil)
    (pss_one (ps_ret (pe_mk c_Shape hr (by decide) (pa_cons (pv 2) (pa_cons (pv 4) (pa_cons (pe_lc (own := [("row", 8)]) rfl sc_shape_of.nd (pi_list (pv 5)) (blkOk_by (N := N_shape_of) (sc := defScope s_shape_of) (by decide +kernel)) (fun _ _ _ _ _ => (pg_name (i := 8) sc_shape_of.nd rfl (Or.inl rfl))) (fun _ _ _ _ _ => pts_nil) (fun _ _ _ _ _ => (pe_fldB (K := K) rfl (pv 8) rfl))) pa_nil)))))))))), ?_⟩
  refine ⟨_, rfl, a, xs, rfl, sqH, fun D hD => ?_⟩
  refine comp_R walk_enum v0 hD (by omega) (fun G y j => ∃ m, M[j]? = some m ∧ RwAt CR G y ⟨m.1, m.2.1, uvec M.length j⟩) (fun G G' y j s ⟨m, e, q⟩ => ⟨m, e, q.up s⟩) (fun H2 sm => sm.seq sqH) ?_ ?_
  · rintro i x G H2 H3 Q' hi u ⟨Tt, x1, y1, rfl, hT, rfl, hx, hy⟩ hq
    obtain rfl := Option.some.inj hx
    obtain ⟨d, hd1, hd2⟩ := DpAll.getV da hy
    rw [List.getElem?_map] at hd1
    obtain ⟨m, hm, rfl⟩ : ∃ m, M[i]? = some m ∧ d = pD m := by
      cases e : M[i]? with
      | none => rw [e] at hd1; cases hd1
      | some m => rw [e] at hd1; exact ⟨m, rfl, (Option.some.inj hd1).symm⟩
    obtain ⟨pa, rfl, hp⟩ := p2_inv hd2
    have u1 := u.own (o := .tup [.int (i : Nat), .ref pa]) hT
    have hp1 := sqT_same (u1.h.trans (Same.refl _)) (sqT_same v0 hp)
    refine ⟨Tt, _, rfl, SqT.of upd_same, rfl, _, _, rfl, _, _, rfl, rfl, rfl, ?_⟩
    refine ⟨_, rfl, _, _, _, _, rfl, rfl, hp1, rfl, _, rfl, _, _, _, _, rfl, rfl, hp1, rfl, by show 2 ≤ sizeLine; decide, fun L hL => ?_⟩
    have u2 := u1.new (o := .lst [.int m.1, .int m.2.1]) hL
    refine ⟨_, rfl, a, xs, rfl, .inl (u2.h.seq sqH), _, rfl, M.length, i, by rw [hlen]; rfl, by omega, fun sp H4 hsp s4 e4 => ?_⟩
    have u3 := u2.newT hsp s4 e4
    intro x dx nx nd ne
    refine ⟨x, dx, H4, _, _, rfl, nx, nd, ne, rfl, fun H5 s5 e5 => ⟨rfl, ?_⟩⟩
    have gsp := u2.free hsp
    obtain ⟨u5, hz⟩ := u3.row (r := ⟨m.1, m.2.1, uvec M.length i⟩) nx s5 e5 (by rw [upd_ne (ne_of_none upd_same gsp)]; exact upd_same) upd_same
    have u6 : Up G H2 _ H5 := ⟨((same_new (u1.free hL)).trans (same_new gsp)).trans (same_new (u3.free nx)), (same_new hT).trans ((same_new hL).trans (s4.trans s5)), u5.v, fun b o e n => ?_⟩
    · exact hq _ _ _ u6 ⟨m, hm, hz⟩
    · have h1 : b ≠ L := ne_of_none e ((Same.free (same_new hT) hL))
      have h2 : b ≠ sp := ne_of_none e (((same_new hT).trans (same_new hL)).free hsp)
      have h3 : b ≠ x := ne_of_none e (((same_new hT).trans ((same_new hL).trans s4)).free nx)
      rw [upd_ne h3, upd_ne h2, upd_ne h1]; exact n
  · intro G acc H2 u hacc hal hR
    have hrows : RwsAt CR (upd G D (.lst acc)) acc (rowsOf M) := by
      refine ⟨by rw [rowsOf_len, hal, hlen], fun i r e => ?_⟩
      have hi : i < acc.length := by rw [hal, hlen, ← rowsOf_len]; exact (List.getElem?_eq_some_iff.mp e).1
      obtain ⟨m, hm, hz⟩ := hR i _ (List.getElem?_eq_getElem hi)
      rw [rowsOf_get hm] at e
      cases e
      exact ⟨_, List.getElem?_eq_getElem hi, hz⟩
    -- east, others = led(rows, 0)
    refine ⟨_, rfl, _, D, acc, M, rowsOf M, 0, 128, 128, 53, rfl, u.v, by decide, upd_same, hrows, by rw [rowsOf_len]; omega, by omega, by decide, rowsOf_ok hsm, Nat.le_trans (BB5 (by rw [rowsOf_len]; exact hM)) (by decide +kernel), by decide, by decide, by decide, ?_⟩
    intro p1 G1 H1 ev ol ys eo others u1 hp1 hev hol hoth ld1 pos1
    refine ⟨p1, _, rfl, SqT.of hp1, rfl, _, _, rfl, _, _, rfl, rfl, ?_⟩
    have lo := ld1.len
    rw [rowsOf_len] at lo
    have ob := BB5 (n := (rowsOf M).length) (by rw [rowsOf_len]; exact hM)
    have hall : ∀ r ∈ others, Con M r ∧ Sm (2 ^ 52) r ∧ (r.at 1).natAbs ≤ 2 ^ 52 := fun r hr => ⟨ld1.co r hr, (ld1.so r hr).mono ob, ((ld1.so r hr).mono ob).q⟩
    -- north, rests = led(others, 1)
    refine ⟨_, rfl, G1, ol, ys, M, others, 1, 2 ^ 52, 2 ^ 52, 323, rfl, u1.v, by decide, hol, hoth, by omega, by omega, by decide, hall, Nat.le_trans (BB5' (by omega)) (by decide +kernel), by decide +kernel, by decide, by decide, ?_⟩
    intro p2 G2 H2' nv ol2 zs no rests u2 hp2 hnv hol2 hrest ld2 pos2
    refine ⟨p2, _, rfl, SqT.of hp2, rfl, _, _, rfl, _, _, rfl, rfl, ?_⟩
    have u12 := u1.trans u2
    have lr := ld2.len
    have nb := BB5' (n := others.length) (by omega)
    have e380 : (2 : Nat) ^ 322 ≤ 2 ^ 380 := by decide +kernel
    -- what follows the adjusting
    have fin : ∀ (ev' : V) (e' : Option Rw) (G3 H3 : Hp), Up G2 H2' G3 H3 → OptRw CR G3 ev' e' → ((e' = eo ∧ (eo = none ∨ no = none)) ∨ ∃ e n, eo = some e ∧ no = some n ∧ e' = some (addR e n (-(e.q / n.q)))) →
        (∀ r ∈ e', Sm (2 ^ 380) r) → ∀ (uu : V) (H' G' : Hp) (rl : List V) (a dx rp : Addr), Up G3 H3 G' H' → G' a = some (.ins C dx (shF ev' nv (.ref rp))) → uu = .ref a → G' rp = some (.lst rl) → rl.length = rests.length → (∀ (j : Nat) (y : V), rl[j]? = some y → ∃ r : Rw, rests[j]? = some r ∧ Dp K G' y (iD r.sh)) → Q uu H' := by
      intro ev' e' G3 H3 u3 hev' he' hsm' uu H' G' rl a' dx rp u4 ha' hu hrp hrl hrl2
      refine k uu G' H' e' no (rests.map (·.sh)) ?_ ⟨a', dx, ev', nv, rp, hu, ha', hev'.up u4.g, hnv.up (u3.g.trans u4.g), ?_⟩ (shape_parts (rowsOf_sh M) ld1 pos1 ld2 pos2 he') hsm' (fun r hr => (ld2.sl r hr).mono (Nat.le_trans nb e380)) ?_ ?_
      · exact (u.trans u12).trans (u3.trans u4)
      · refine .lst (SqL.of hrp) ?_
        rw [List.map_map]
        exact dpa_of (by rw [hrl, List.length_map]) fun j y e => by
          obtain ⟨r, e1, e2⟩ := hrl2 j y e
          exact ⟨_, by rw [List.getElem?_map, e1]; rfl, e2⟩
      · intro u hu c hc
        simp only [List.mem_map] at hu
        obtain ⟨r, hr, rfl⟩ := hu
        exact Nat.le_trans ((ld2.so r hr).sh c hc) (Nat.le_trans nb e380)
      · rw [List.length_map]; omega
    -- the shape
    cases eo with
    | none =>
      obtain rfl : ev = .non := hev
      have u3 := Up.refl u2.v
      have fin := fin .non none G2 H2' u3 rfl (.inl ⟨rfl, .inl rfl⟩) (by simp)
      refine ⟨_, rfl, rfl, _, rfl, iteF (iteF ?_)⟩
      refine ⟨_, rfl, _, rfl, _, rfl, ol2, rfl, ⟨_, SqL.of (u3.h _ _ (u2.v _ _ hol2))⟩, fun D2 hD2 => ?_⟩
      refine comp_R (n := zs.length) walk_list u3.v hD2 (by rw [hrest.1]; omega) (fun G y j => ∃ r : Rw, rests[j]? = some r ∧ Dp K G y (iD r.sh)) (fun G G' y j s ⟨m, e, q⟩ => ⟨m, e, Dp.up q s⟩) (fun H4 sm => sm.seq (SqL.of (u3.h _ _ (u2.v _ _ hol2)))) ?_ ?_
      · rintro i x G4 H4 H5 Q' hi u4 ⟨rfl, hx⟩ hq
        have hil : i < rests.length := by rw [← hrest.1]; exact hi
        obtain ⟨x', hx', hrow⟩ := hrest.2 i _ (List.getElem?_eq_getElem hil)
        obtain rfl : x' = x := by rw [hx] at hx'; exact (Option.some.inj hx').symm
        obtain ⟨a1, d1, p1, q1, rfl, e1, e2, e3⟩ := hrow.up (u3.g.trans u4.g)
        refine ⟨rfl, _, rfl, a1, CR, d1, _, _, rfl, u4.v _ _ e1, RC.cl, RC.nS, rw_s _ _, ?_⟩
        exact hq _ _ _ (Up.refl u4.v) ⟨_, List.getElem?_eq_getElem hil, i_mk (SqL.of e3)⟩
      · intro G4 acc4 H4 u4 hacc4 hal4 hR4
        intro x dx nx nd ne
        refine ⟨x, dx, H4, _, _, _, rfl, nx, nd, ne, rfl, fun H5 s5 e5 => ⟨rfl, ?_⟩⟩
        have u5 := u4.newT nx s5 e5
        have s4 := fun o => same_new (o := o) (u4.free nx)
        exact fin (.ref x) H5 _ acc4 x dx D2 u5 upd_same rfl (s4 _ _ _ upd_same) (by rw [hal4, hrest.1]) fun j y e => by
          obtain ⟨r, q1, q2⟩ := hR4 j y e
          exact ⟨r, q1, Dp.up q2 (s4 _)⟩
    | some e =>
      have sme := (ld1.sl e rfl).mono ob
      have hev2 : RwAt CR G2 ev e := RwAt.up hev u2.g
      obtain ⟨a1, d1, p1, q1, hev1, e1, e2, e3⟩ := id hev2
      subst hev1
      cases no with
      | none =>
        obtain rfl : nv = .non := hnv
        have u3 := Up.refl u2.v
        have fin := fin _ (some e) G2 H2' u3 hev2 (.inl ⟨rfl, .inr rfl⟩) (by intro r hr; cases hr; exact sme.mono (by decide +kernel))
        refine ⟨_, rfl, rfl, _, rfl, iteT ?_⟩
        refine ⟨_, rfl, rfl, _, rfl, iteF ?_⟩
        refine ⟨_, rfl, _, rfl, _, rfl, ol2, rfl, ⟨_, SqL.of (u3.h _ _ (u2.v _ _ hol2))⟩, fun D2 hD2 => ?_⟩
        refine comp_R (n := zs.length) walk_list u3.v hD2 (by rw [hrest.1]; omega) (fun G y j => ∃ r : Rw, rests[j]? = some r ∧ Dp K G y (iD r.sh)) (fun G G' y j s ⟨m, e, q⟩ => ⟨m, e, Dp.up q s⟩) (fun H4 sm => sm.seq (SqL.of (u3.h _ _ (u2.v _ _ hol2)))) ?_ ?_
        · rintro i x G4 H4 H5 Q' hi u4 ⟨rfl, hx⟩ hq
          have hil : i < rests.length := by rw [← hrest.1]; exact hi
          obtain ⟨x', hx', hrow⟩ := hrest.2 i _ (List.getElem?_eq_getElem hil)
          obtain rfl : x' = x := by rw [hx] at hx'; exact (Option.some.inj hx').symm
          obtain ⟨a1, d1, p1, q1, rfl, e1, e2, e3⟩ := hrow.up (u3.g.trans u4.g)
          refine ⟨rfl, _, rfl, a1, CR, d1, _, _, rfl, u4.v _ _ e1, RC.cl, RC.nS, rw_s _ _, ?_⟩
          exact hq _ _ _ (Up.refl u4.v) ⟨_, List.getElem?_eq_getElem hil, i_mk (SqL.of e3)⟩
        · intro G4 acc4 H4 u4 hacc4 hal4 hR4
          intro x dx nx nd ne
          refine ⟨x, dx, H4, _, _, _, rfl, nx, nd, ne, rfl, fun H5 s5 e5 => ⟨rfl, ?_⟩⟩
          have u5 := u4.newT nx s5 e5
          have s4 := fun o => same_new (o := o) (u4.free nx)
          exact fin (.ref x) H5 _ acc4 x dx D2 u5 upd_same rfl (s4 _ _ _ upd_same) (by rw [hal4, hrest.1]) fun j y e => by
            obtain ⟨r, q1, q2⟩ := hR4 j y e
            exact ⟨r, q1, Dp.up q2 (s4 _)⟩
      | some n =>
        have np : 0 < n.q := pos2 n rfl
        have smn := (ld2.sl n rfl).mono nb
        obtain ⟨a2, d2, p2', q2, hnv1, f1, f2, f3⟩ := id hnv
        subst hnv1
        refine ⟨_, rfl, rfl, _, rfl, iteT ?_⟩
        refine ⟨_, rfl, rfl, _, rfl, iteT ?_⟩
        refine ⟨_, rfl, _, rfl, ?_⟩
        refine ⟨_, rfl, a1, CR, d1, _, _, rfl, u2.v _ _ e1, RC.cl, RC.nP, rw_p _ _, p1, _, _, _, rfl, rfl, SqL.of (u2.v _ _ e2), at_rw e (i := 1) (by decide), ?_⟩
        refine ⟨_, rfl, a2, CR, d2, _, _, rfl, u2.v _ _ f1, RC.cl, RC.nP, rw_p _ _, p2', _, _, _, rfl, rfl, SqL.of (u2.v _ _ f2), at_rw n (i := 1) (by decide), _, _, rfl, rfl, ⟨np, ?_⟩, ?_⟩
        · exact Nat.lt_of_lt_of_le (log2_of (n := 330) (Nat.lt_of_le_of_lt (show (n.at 1).natAbs ≤ 2 ^ 322 from smn.q) (by decide +kernel)) (by decide)) (by decide)
        have hq : (e.q / n.q).natAbs ≤ 2 ^ 52 := by
          have h1 := sme.q
          have h2 : (e.q / n.q).natAbs ≤ e.q.natAbs := Int.natAbs_ediv_le_natAbs _ _
          omega
        refine ⟨_, rfl, G2, _, _, e, n, _, 330, rfl, u2.v, hev2, hnv, (ld1.cl e rfl).l.trans (ld2.cl n rfl).l.symm, by rw [(ld1.cl e rfl).l]; omega, ?_, smn.mono (by decide +kernel), by decide, by decide, fun ev' G3 H3 u3 hev' => ?_⟩
        · rw [Int.natAbs_neg]; exact Nat.lt_of_le_of_lt hq (by decide +kernel)
        have fin := fin ev' (some (addR e n (-(e.q / n.q)))) G3 H3 u3 (show RwAt CR G3 ev' (addR e n (-(e.q / n.q))) from hev') (.inr ⟨e, n, rfl, rfl, rfl⟩) (by
          intro r hr; cases hr
          have := sme.add smn (-(e.q / n.q))
          rw [Int.natAbs_neg] at this
          refine this.mono (Nat.le_trans (Nat.add_le_add_left (Nat.mul_le_mul_right _ hq) _) (by decide +kernel)))
        refine ⟨_, rfl, _, rfl, _, rfl, ol2, rfl, ⟨_, SqL.of (u3.h _ _ (u2.v _ _ hol2))⟩, fun D2 hD2 => ?_⟩
        refine comp_R (n := zs.length) walk_list u3.v hD2 (by rw [hrest.1]; omega) (fun G y j => ∃ r : Rw, rests[j]? = some r ∧ Dp K G y (iD r.sh)) (fun G G' y j s ⟨m, e, q⟩ => ⟨m, e, Dp.up q s⟩) (fun H4 sm => sm.seq (SqL.of (u3.h _ _ (u2.v _ _ hol2)))) ?_ ?_
        · rintro i x G4 H4 H5 Q' hi u4 ⟨rfl, hx⟩ hq
          have hil : i < rests.length := by rw [← hrest.1]; exact hi
          obtain ⟨x', hx', hrow⟩ := hrest.2 i _ (List.getElem?_eq_getElem hil)
          obtain rfl : x' = x := by rw [hx] at hx'; exact (Option.some.inj hx').symm
          obtain ⟨a1, d1, p1, q1, rfl, e1, e2, e3⟩ := hrow.up (u3.g.trans u4.g)
          refine ⟨rfl, _, rfl, a1, CR, d1, _, _, rfl, u4.v _ _ e1, RC.cl, RC.nS, rw_s _ _, ?_⟩
          exact hq _ _ _ (Up.refl u4.v) ⟨_, List.getElem?_eq_getElem hil, i_mk (SqL.of e3)⟩
        · intro G4 acc4 H4 u4 hacc4 hal4 hR4
          intro x dx nx nd ne
          refine ⟨x, dx, H4, _, _, _, rfl, nx, nd, ne, rfl, fun H5 s5 e5 => ⟨rfl, ?_⟩⟩
          have u5 := u4.newT nx s5 e5
          have s4 := fun o => same_new (o := o) (u4.free nx)
          exact fin (.ref x) H5 _ acc4 x dx D2 u5 upd_same rfl (s4 _ _ _ upd_same) (by rw [hal4, hrest.1]) fun j y e => by
            obtain ⟨r, q1, q2⟩ := hR4 j y e
            exact ⟨r, q1, Dp.up q2 (s4 _)⟩
end
end K67

namespace K67
open PySem L2 KX
theorem dpm_get {α : Type} {K : PySem.W.Frag} {G : Hp} {F : α → PyData} {l : List α} {xs : List V} {i : Nat} {x : V} (h : DpAll K G xs (l.map F)) (e : xs[i]? = some x) : ∃ a, l[i]? = some a ∧ Dp K G x (F a) := by
  obtain ⟨d, e1, e2⟩ := DpAll.getV h e
  rw [List.getElem?_map] at e1
  cases e3 : l[i]? with
  | none => rw [e3] at e1; cases e1
  | some a => rw [e3] at e1; cases e1; exact ⟨a, rfl, e2⟩
theorem PR_snoc : ∀ (M : List T3) (u : List Int) (m : T3) (c : Int), u.length = M.length → PR (M ++ [m]) (u ++ [c]) = put (PR M u) (pw m c)
  | [], [], m, c, _ => by
    show put (pw m c) (0, 0, 0) = put (0, 0, 0) (pw m c)
    rw [put_one, one_put]
  | [], _ :: _, _, _, h => by simp at h
  | _ :: _, [], _, _, h => by simp at h
  | a :: M, b :: u, m, c, h => by
    show put (pw a b) (PR (M ++ [m]) (u ++ [c])) = put (put (pw a b) (PR M u)) (pw m c)
    rw [PR_snoc M u m c (by simpa using h), put_assoc]
theorem PR_take {M : List T3} {u : List Int} {i : Nat} {m : T3} {c : Int} (hl : u.length = M.length) (hm : M[i]? = some m) (hc : u[i]? = some c) : PR (M.take (i + 1)) (u.take (i + 1)) = put (PR (M.take i) (u.take i)) (pw m c) := by
  rw [List.take_succ, List.take_succ, hm, hc]
  exact PR_snoc _ _ _ _ (by simp [hl])
structure Sq (a b : Nat) (t : T3) : Prop where
  x : t.1.natAbs < 2 ^ a
  y : t.2.1.natAbs < 2 ^ a
  s : t.2.2.natAbs < 2 ^ b
theorem Sq.mono {a b c d : Nat} {t : T3} (h : Sq a b t) (k : a ≤ c) (l : b ≤ d) : Sq c d t := ⟨natAbs_lt_of h.x k, natAbs_lt_of h.y k, natAbs_lt_of h.s l⟩
theorem Sq.put {a b : Nat} {t u : T3} (h : Sq a b t) (k : Sq a b u) (ab : a + a ≤ b) : Sq (a + 1) (b + 2) (put t u) := by
  refine ⟨sz_add h.x k.x, sz_add h.y k.y, ?_⟩
  have h1 := sz_add h.s k.s
  have h2 := natAbs_lt_of (sz_mul h.x k.y) (show a + a ≤ b + 1 by omega)
  exact sz_add h1 h2
theorem Sq.pw {t : T3} {c : Int} (h : Small t) (k : c.natAbs ≤ 2 ^ 380) : Sq 420 860 (pw t c) := by
  obtain ⟨h1, h2, h3⟩ := h
  have k' : c.natAbs < 2 ^ 381 := Nat.lt_of_le_of_lt k (by decide +kernel)
  have g1 : t.1.natAbs < 2 ^ 8 := by omega
  have g2 : t.2.1.natAbs < 2 ^ 8 := by omega
  have g3 : t.2.2.natAbs < 2 ^ 14 := by omega
  refine ⟨natAbs_lt_of (sz_mul k' g1) (by decide), natAbs_lt_of (sz_mul k' g2) (by decide), ?_⟩
  have t1 := natAbs_lt_of (sz_mul k' g3) (show 381 + 14 ≤ 859 by decide)
  have t2 := natAbs_lt_of (sz_mul (sz_mul (sz_tri k') g1) g2) (show 381 + (381 + 1) + 8 + 8 ≤ 859 by decide)
  exact sz_add t1 t2
theorem PR_sq {M : List T3} {u : List Int} (hl : u.length = M.length) (hM : ∀ m ∈ M, Small m) (hu : ∀ c ∈ u, c.natAbs ≤ 2 ^ 380) : ∀ i, i ≤ M.length → Sq (420 + i) (860 + 2 * i) (PR (M.take i) (u.take i))
  | 0, _ => ⟨Nat.two_pow_pos _, Nat.two_pow_pos _, Nat.two_pow_pos _⟩
  | i + 1, h => by
    have ih := PR_sq hl hM hu i (by omega)
    have hm := List.getElem?_eq_getElem (show i < M.length by omega)
    have hc := List.getElem?_eq_getElem (show i < u.length by omega)
    rw [PR_take hl hm hc]
    have := Sq.put ih ((Sq.pw (hM _ (List.mem_of_getElem? hm)) (hu _ (List.mem_of_getElem? hc))).mono (Nat.le_add_right _ i) (Nat.le_add_right _ (2 * i))) (by omega)
    exact this.mono (by omega) (by omega)
theorem Sq.szn {a b n : Nat} {t : T3} (h : Sq a b t) (k : a ≤ n) (l : b ≤ n) : Szn n t := ⟨natAbs_lt_of h.x k, natAbs_lt_of h.y k, natAbs_lt_of h.s l⟩
def prsB (n : Nat) : List (Nat × Nat) := (List.range n).flatMap fun h => (List.range h).map fun l => (l, h)
theorem prsB_s (n : Nat) : prsB (n + 1) = prsB n ++ (List.range n).map fun l => (l, n) := by
  unfold prsB
  rw [List.range_succ, List.flatMap_append]
  simp
theorem prsB_mem {n : Nat} {p : Nat × Nat} : p ∈ prsB n ↔ p.1 < p.2 ∧ p.2 < n := by
  unfold prsB
  simp only [List.mem_flatMap, List.mem_range, List.mem_map]
  constructor
  · rintro ⟨h, h1, l, h2, rfl⟩; exact ⟨h2, h1⟩
  · rintro ⟨a, b⟩; exact ⟨p.2, b, p.1, a, rfl⟩
theorem prsB_len {n : Nat} (h : n ≤ 5) : (prsB n).length ≤ 10 := by
  match n, h with
  | 0, _ => decide
  | 1, _ => decide
  | 2, _ => decide
  | 3, _ => decide
  | 4, _ => decide
  | 5, _ => decide
def qD (p : Nat × Nat) : PyData := .tuple [.int (p.1 : Nat), .int (p.2 : Nat)]
theorem q_inv {K : PySem.W.Frag} {G : Hp} {v : V} {t : Nat × Nat} (h : Dp K G v (qD t)) : ∃ a, v = .ref a ∧ SqT K G a [.int (t.1 : Nat), .int (t.2 : Nat)] := by
  unfold qD at h
  cases h with
  | tup s d =>
    cases d with
    | cons a d =>
      cases a
      cases d with
      | cons a d =>
        cases a
        cases d
        exact ⟨_, rfl, s⟩
section
variable {P : Program} {w : World} {K : PySem.W.Frag} {mg : Str → Option Value} {base : Heap} {f : Addr} {fd : FuncData}
abbrev s_pressed : Stmt := topS 31
abbrev N_pressed : List Str := ["moves", "shares", "found", "move", "many"]
theorem sc_pressed : FnScope N_pressed ["moves", "shares"] (defScope s_pressed) := ⟨rfl, rfl, rfl, by decide +kernel, rfl, by decide +kernel, by decide +kernel⟩
def sp_pressed (K : PySem.W.Frag) : Sp := fun vs H Q _ => ∃ (G : Hp) (v1 v2 : V) (M : List T3) (u : List Int), vs = [v1, v2] ∧ Same G H ∧ Dp K G v1 (lD M) ∧ Dp K G v2 (iD u) ∧ u.length = M.length ∧ M.length ≤ 5 ∧ (∀ m ∈ M, Small m) ∧ (∀ c ∈ u, c.natAbs ≤ 2 ^ 380) ∧
  ∀ (v : V) (G' H' : Hp), Up G H G' H' → Dp K G' v (tD (PR M u)) → Szn 1000 (PR M u) → Q v H'
theorem ok_pressed (F : Fun K "pressed" "pressed" s_pressed f fd) (T : Txt K mg) (c_put_triples : Def P w K mg base "put_triples" 1 ["one", "other"] (sp_put K)) (c_many_triples : Def P w K mg base "many_triples" 1 ["one", "times"] (sp_many K)) :
    FnOk P w K mg base CX0 2 f fd ["moves", "shares"] (sp_pressed K) := by
  refine F.ok sc_pressed (fun vs H Q E ⟨G, v1, v2, M, u, h, _⟩ => by rw [h]; rfl) (fun cdv A outer s' H vs Q E hr ⟨G0, v1, v2, M, u, h, v0, d1, d2, hl, h5, hM, hu, k⟩ => ?_)
  subst h
  obtain ⟨a, xs, rfl, sa, da⟩ := l_inv d1
  obtain ⟨b, rfl, sb⟩ := i_inv d2
  have hxl : xs.length = M.length := by rw [DpAll.len da, List.length_map]
  refine ⟨_, (pss_cons (ps_set (i := 2) sc_pressed.nd rfl (Or.inl rfl) (pe_glob (v := V.ref T.aP) rfl T.g_PLAIN rfl))
    (pss_cons (ps_for PassesOwn.never rfl (pi_zip (by rfl) T.n_zip (pa_cons (pv 0) (pa_cons (pv 1) pa_nil))) (pg_tup (by rfl) (pgs_cons (pg_name (i := 3) sc_pressed.nd rfl (Or.inl rfl)) (pgs_cons (pg_name (i := 4) sc_pressed.nd rfl (Or.inl rfl)) pgs_nil))) (pss_one (ps_set (i := 2) sc_pressed.nd rfl (Or.inl rfl) (pe_def c_put_triples hr (by decide) (pa_cons (pv 2) (pa_cons (pe_def c_many_triples hr (by decide) (pa_cons (pv 3) (pa_cons (pv 4) pa_nil))) pa_nil))))))
    (pss_one (ps_ret (pv 2))))), ?_⟩
  refine ⟨_, rfl, _, rfl, a, b, xs, u.map V.int, rfl, v0.seq sa, v0.seq sb, ?_⟩
  refine for_it (n := M.length) (walk_zip (by rw [List.length_map, hxl, hl]; omega)) (fun i σ H' => ∃ (G : Hp) (fv : V) (b1 b2 : Option V), σ = [some (.ref a), some (.ref b), some fv, b1, b2] ∧ Up G0 H G H' ∧ Dp K G fv (tD (PR (M.take i) (u.take i))))
    ⟨G0, _, _, _, rfl, Up.refl v0, t3_mk (T.tP G0)⟩ (fun i σ H' _ ⟨G, fv, b1, b2, _, x, _⟩ => ⟨x.h.seq (v0.seq sa), x.h.seq (v0.seq sb)⟩) ?_ ?_
  · rintro i x σ H2 H3 hi ⟨G, fv, b1, b2, rfl, x, dv⟩ ⟨Tt, x1, y1, rfl, hT, rfl, hx, hy⟩
    obtain ⟨m, hm, dm⟩ := dpm_get da hx
    obtain ⟨c, hc, rfl⟩ := for_map hy
    obtain ⟨pm, rfl, sm⟩ := t3_inv (Dp.up dm x.g)
    obtain ⟨pf, rfl, sf⟩ := t3_inv dv
    have x1 := x.own (o := .tup [.ref pm, .int c]) hT
    have hcb := hu c (List.mem_of_getElem? hc)
    have hmb := hM m (List.mem_of_getElem? hm)
    have sq := PR_sq hl hM hu i (by omega)
    refine ⟨Tt, _, rfl, SqT.of upd_same, rfl, _, _, rfl, _, _, rfl, rfl, ?_⟩
    refine ⟨_, rfl, _, rfl, _, rfl, _, m, c, 400, rfl, sqT_same x1.v sm, ⟨Nat.lt_of_le_of_lt hmb.1 (by decide +kernel), Nat.lt_of_le_of_lt hmb.2.1 (by decide +kernel), Nat.lt_of_le_of_lt hmb.2.2 (by decide +kernel)⟩, Nat.lt_of_le_of_lt hcb (by decide +kernel), by decide, by decide, ?_⟩
    intro p H4 hp s4 e4
    have x2 := x1.newT hp s4 e4
    refine ⟨pf, p, _, _, 1000, rfl, sqT_same x2.v (sqT_same (same_new (x1.free hp)) sf), SqT.of e4, sq.szn (by omega) (by omega), (Sq.pw hmb hcb).szn (by decide) (by decide), by decide, by decide, ?_⟩
    intro p' H5 hp' s5 e5
    have x3 := x2.newT hp' s5 e5
    exact ⟨_, _, _, _, rfl, x3, by rw [PR_take hl hm hc]; exact t3_mk (SqT.of upd_same)⟩
  · rintro σ H2 ⟨G, fv, b1, b2, rfl, x, dv⟩
    have sq := PR_sq hl hM hu M.length (Nat.le_refl _)
    rw [List.take_length, ← hl, List.take_length] at dv sq
    exact ⟨_, rfl, k _ _ _ x dv (sq.szn (by omega) (by omega))⟩
abbrev s_pairs_below : Stmt := topS 32
abbrev N_pairs_below : List Str := ["many", "found", "high", "low"]
theorem sc_pairs_below : FnScope N_pairs_below ["many"] (defScope s_pairs_below) := ⟨rfl, rfl, rfl, by decide +kernel, rfl, by decide +kernel, by decide +kernel⟩
def sp_pairs_below (K : PySem.W.Frag) : Sp := fun vs H Q _ => ∃ (G : Hp) (n : Nat), vs = [.int n] ∧ Same G H ∧ n ≤ 5 ∧ ∀ (v : V) (G' H' : Hp), Up G H G' H' → Dp K G' v (.list ((prsB n).map qD)) → Q v H'
theorem ok_pairs_below (F : Fun K "pairs_below" "pairs_below" s_pairs_below f fd) (T : Txt K mg) : FnOk P w K mg base CX0 1 f fd ["many"] (sp_pairs_below K) := by
  refine F.ok sc_pairs_below (fun vs H Q E ⟨G, n, h, _⟩ => by rw [h]; rfl) (fun cdv A outer s' H vs Q E hr ⟨G0, n, h, v0, h5, k⟩ => ?_)
  subst h
  refine ⟨_, (pss_cons (ps_set (i := 1) sc_pairs_below.nd rfl (Or.inl rfl) (pe_lst pa_nil))
    (pss_cons (ps_for PassesOwn.never rfl (pi_range1 (by rfl) T.n_range (pa_cons (pv 0) pa_nil)) (pg_name (i := 2) sc_pairs_below.nd rfl (Or.inr rfl)) (pss_one (ps_expr (pe_bm PySem.F.plainAttrs_list PySem.F.slot_list_extend PySem.F.type_list_extend mt_extend (pv 1) (pa_cons (pe_lc (own := [("low", 3)]) rfl sc_pairs_below.nd (pi_range1 (by rfl) T.n_range (pa_cons (pv 2) pa_nil)) (blkOk_by (N := N_pairs_below) (sc := defScope s_pairs_below) (by decide +kernel)) (fun _ _ _ _ _ => (pg_name (i := 3) sc_pairs_below.nd rfl (Or.inl rfl))) (fun _ _ _ _ _ => pts_nil) (fun _ _ _ _ _ => (pe_tup (pa_cons (pv 3) (pa_cons (pv 2) pa_nil))))) pa_nil)))))
    (pss_one (ps_ret (pv 1))))), ?_⟩
  refine ⟨Nat.zero_le _, fun fl hfl => ?_⟩
  have g0 := v0.free hfl
  refine ⟨_, rfl, (n : Int), rfl, by omega, by omega, ?_⟩
  refine for_it (n := n) (by have := walk_range (lo := 0) (n := n); simpa using this) (fun i σ H' => ∃ (G : Hp) (acc : List V) (b1 b2 : Option V), σ = [some (.int n), some (.ref fl), b1, b2] ∧ Up G0 H G H' ∧ G fl = none ∧ H' fl = some (.lst acc) ∧ DpAll K G acc ((prsB i).map qD))
    ⟨G0, [], _, _, rfl, (Up.refl v0).own hfl, g0, upd_same, .nil⟩ (fun _ _ _ _ _ => trivial) ?_ ?_
  · rintro i x σ H2 H3 hi ⟨G, acc, b1, b2, rfl, u, hg, hacc, dacc⟩ ⟨rfl, rfl⟩
    refine ⟨_, rfl, .inl ⟨rfl, _, SqL.of hacc⟩, _, rfl, (i : Int), by simp, by omega, by omega, fun D hD => ?_⟩
    refine comp_R (n := i) (by have := walk_range (lo := 0) (n := i); simpa using this) u.v hD (by omega) (fun G y j => Dp K G y (qD (j, i))) (fun G G' y j s q => Dp.up q s) (fun _ _ => trivial) ?_ ?_
    · rintro j x G4 H4 H5 Q' hj u4 ⟨rfl, rfl⟩ hq
      refine ⟨rfl, ?_⟩
      refine ⟨_, rfl, _, rfl, by show 2 ≤ sizeLine; decide, fun p hp => ?_⟩
      refine hq _ _ _ ((Up.refl u4.v).new (o := .tup [.int (j : Nat), .int (i : Nat)]) hp) ?_
      exact .tup (SqT.of upd_same) (.cons (.int _) (.cons (.int _) .nil))
    · intro G4 acc4 H4 u4 hacc4 hal4 hR4
      have hi5 : acc.length ≤ 10 := by rw [DpAll.len dacc, List.length_map]; exact prsB_len (by omega)
      have gn := u4.n _ _ hacc hg
      refine ⟨fl, D, acc, acc4, rfl, rfl, u4.h _ _ hacc, hacc4, Nat.le_trans (show _ ≤ 15 by omega) (by decide), ?_⟩
      refine ⟨_, acc ++ acc4, _, _, rfl, (u.trans u4).mut hfl gn, gn, upd_same, ?_⟩
      rw [prsB_s, List.map_append]
      refine DpAll.app (DpAll.up dacc u4.g) (dpa_of (by simp [hal4]) fun j y e => ⟨qD (j, i), ?_, hR4 j y e⟩)
      have hj : j < i := by rw [← hal4]; exact (List.getElem?_eq_some_iff.mp e).1
      rw [List.getElem?_map, List.getElem?_map, List.getElem?_range hj]; rfl
  · rintro σ H2 ⟨G, acc, b1, b2, rfl, u, hg, hacc, dacc⟩
    exact ⟨_, rfl, k _ _ _ (u.pub hfl hg hacc) (.lst (SqL.of upd_same) (DpAll.up dacc (same_new hg)))⟩
theorem range_map_getD {α β : Type} (l : List α) (d : α) (F : α → β) : (List.range l.length).map (fun i => F (l.getD i d)) = l.map F := by
  apply List.ext_getElem?
  intro i
  by_cases h : i < l.length
  · rw [List.getElem?_map, List.getElem?_map, List.getElem?_range h, List.getElem?_eq_getElem h]
    simp [List.getD_eq_getElem?_getD, List.getElem?_eq_getElem h]
  · simp [List.getElem?_eq_none (show l.length ≤ i by omega), h]
theorem getD_mem {α : Type} {l : List α} {i : Nat} {d : α} (h : i < l.length) : l.getD i d ∈ l := by
  rw [List.getD_eq_getElem?_getD, List.getElem?_eq_getElem h]; exact List.getElem_mem h
abbrev s_pure_areas : Stmt := topS 33
abbrev N_pure_areas : List Str := ["moves", "shape", "areas", "shares", "low", "high"]
theorem sc_pure_areas : FnScope N_pure_areas ["moves", "shape"] (defScope s_pure_areas) := ⟨rfl, rfl, rfl, by decide +kernel, rfl, by decide +kernel, by decide +kernel⟩
def sp_pure (K : PySem.W.Frag) (C CR : Addr) : Sp := fun vs H Q _ => ∃ (G : Hp) (v1 v2 : V) (M : List T3) (eo no : Option Rw) (rs : List (List Int)), vs = [v1, v2] ∧ Same G H ∧ Dp K G v1 (lD M) ∧ ShAt K C CR G v2 eo no rs ∧ M.length ≤ 5 ∧ (∀ m ∈ M, Small m) ∧
  (∀ u ∈ rs, u.length = M.length) ∧ (∀ u ∈ rs, ∀ c ∈ u, c.natAbs ≤ 2 ^ 380) ∧ rs.length ≤ 10 ∧
  ∀ (v : V) (G' H' : Hp) (areas : List Int), Up G H G' H' → Dp K G' v (iD areas) → Areas M rs areas → (∀ a ∈ areas, a.natAbs < 2 ^ 1000) → areas.length ≤ 20 → Q v H'
theorem Small.szn {t : T3} (h : Small t) : Szn 20 t := ⟨Nat.lt_of_le_of_lt h.1 (by decide +kernel), Nat.lt_of_le_of_lt h.2.1 (by decide +kernel), Nat.lt_of_le_of_lt h.2.2 (by decide +kernel)⟩
theorem gap_sz {a b : T3} (h : Small a) (k : Small b) : (gap a b).natAbs < 2 ^ 1000 := natAbs_lt_of (sz_sub (sz_mul h.szn.x k.szn.y) (sz_mul k.szn.x h.szn.y)) (by decide)
theorem ok_pure_areas {C CR : Addr} (F : Fun K "pure_areas" "pure_areas" s_pure_areas f fd) (T : Txt K mg) (SC : ShC K C) (c_pressed : Def P w K mg base "pressed" 2 ["moves", "shares"] (sp_pressed K))
    (c_pairs_below : Def P w K mg base "pairs_below" 1 ["many"] (sp_pairs_below K)) (c_gap_of : Def P w K mg base "gap_of" 1 ["one", "other"] (sp_gap K)) : FnOk P w K mg base CX0 3 f fd ["moves", "shape"] (sp_pure K C CR) := by
  refine F.ok sc_pure_areas (fun vs H Q E ⟨G, v1, v2, M, eo, no, rs, h, _⟩ => by rw [h]; rfl) (fun cdv A outer s' H vs Q E hr ⟨G0, v1, v2, M, eo, no, rs, h, v0, d1, sh, h5, hM, hul, huc, hrl, k⟩ => ?_)
  subst h
  obtain ⟨a, xs, rfl, sa, da⟩ := l_inv d1
  have hxl : xs.length = M.length := by rw [DpAll.len da, List.length_map]
  obtain ⟨sa', dx, ev, nv, ra, rfl, hsh, _, _, dr⟩ := sh
  obtain ⟨ra', zs, e, sr, dz⟩ := l_inv dr
  cases e
  have hzl : zs.length = rs.length := by rw [DpAll.len dz, List.length_map]
  refine ⟨_, (pss_cons (ps_setLc (i := 2) (own := [("shares", 3)]) rfl sc_pure_areas.nd rfl rfl (sw_true rfl rfl rfl (by decide +kernel)) (pi_list (pe_fld (pv 1) rfl)) (blkOk_by (N := N_pure_areas) (sc := defScope s_pure_areas) (by decide +kernel)) (fun _ _ _ _ _ => (pg_name (i := 3) sc_pure_areas.nd rfl (Or.inl rfl))) (fun _ _ _ _ _ => pts_nil) (fun _ _ _ _ _ => (pe_ix (ixB_tup (K := K) rfl) (pe_def c_pressed hr (by decide) (pa_cons (pv 0) (pa_cons (pv 3) pa_nil))) pe_int (fun _ _ => rfl))))
    (pss_cons (ps_expr (pe_bm PySem.F.plainAttrs_list PySem.F.slot_list_extend PySem.F.type_list_extend mt_extend (pv 2) (pa_cons (pe_lc (own := [("low", 4), ("high", 5)]) rfl sc_pure_areas.nd (pi_list (pe_def c_pairs_below hr (by decide) (pa_cons (pe_callB call_len_seq (by rfl) T.n_len (by decide +kernel) (pa_cons (pv 0) pa_nil)) pa_nil))) (blkOk_by (N := N_pure_areas) (sc := defScope s_pure_areas) (by decide +kernel)) (fun _ _ _ _ _ => (pg_tupB (K := K) (n := 2) rfl rfl (pgs_cons (pg_name (i := 4) sc_pure_areas.nd rfl (Or.inl rfl)) (pgs_cons (pg_name (i := 5) sc_pure_areas.nd rfl (Or.inl rfl)) pgs_nil)))) (fun _ _ _ _ _ => pts_nil) (fun _ _ _ _ _ => (pe_def c_gap_of hr (by decide) (pa_cons (pe_ix (ixB_list (K := K) rfl) (pv 0) (pv 4) (fun _ _ => rfl)) (pa_cons (pe_ix (ixB_list (K := K) rfl) (pv 0) (pv 5) (fun _ _ => rfl)) pa_nil))))) pa_nil)))
    (pss_one (ps_ret (pv 2))))), ?_⟩
  refine ⟨_, rfl, sa', C, dx, _, _, rfl, v0 _ _ hsh, SC.cl, SC.nR, sh_r _ _ _, ra, rfl, ⟨_, v0.seq sr⟩, fun D hD => ?_⟩
  refine comp_V walk_list hD (by omega) (fun i => V.int (PR M (rs.getD i [])).2.2) (fun H2 sm => sm.seq (v0.seq sr)) ?_ ?_
  · rintro i x H2 H3 Q' hi sm ⟨rfl, hx⟩ hq
    obtain ⟨u, hu, du⟩ := dpm_get dz hx
    have hum := List.mem_of_getElem? hu
    refine ⟨rfl, _, rfl, _, rfl, G0, _, _, M, u, rfl, v0.trans sm, d1, du, hul u hum, h5, hM, huc u hum, fun v G' H4 u4 dv sz => ?_⟩
    obtain ⟨pv_, rfl, sv⟩ := t3_inv dv
    refine ⟨_, _, _, _, rfl, rfl, sqT_same u4.v sv, rfl, ?_⟩
    have := hq _ u4.h
    rw [List.getD_eq_getElem?_getD, hu] at this
    exact this
  · intro H2 sm h2
    refine ⟨_, rfl, .inl ⟨rfl, _, SqL.of h2⟩, _, rfl, a, xs, rfl, .inl (sm.seq (v0.seq sa)), G0, M.length, by rw [hxl]; rfl, v0.trans sm, h5, fun v G' H3 u3 d3 => ?_⟩
    obtain ⟨pb, ys, rfl, sb, db⟩ := l_inv d3
    have hyl : ys.length = (prsB M.length).length := by rw [DpAll.len db, List.length_map]
    have p10 := prsB_len h5
    refine ⟨pb, rfl, ⟨_, u3.v.seq sb⟩, fun D2 hD2 => ?_⟩
    refine comp_V walk_list hD2 (by omega) (fun i => V.int (gap (M.getD ((prsB M.length).getD i (0, 0)).1 (0, 0, 0)) (M.getD ((prsB M.length).getD i (0, 0)).2 (0, 0, 0)))) (fun H2 sm => sm.seq (u3.v.seq sb)) ?_ ?_
    · rintro i x H4 H5 Q' hi sm4 ⟨rfl, hx⟩ hq
      obtain ⟨q, hq1, dq⟩ := dpm_get db hx
      obtain ⟨qa, rfl, sq⟩ := q_inv dq
      obtain ⟨q1, q2⟩ := prsB_mem.1 (List.mem_of_getElem? hq1)
      have hm2 := List.getElem?_eq_getElem q2
      have hm1 := List.getElem?_eq_getElem (show q.1 < M.length by omega)
      have hx2 := List.getElem?_eq_getElem (show q.2 < xs.length by omega)
      have hx1 := List.getElem?_eq_getElem (show q.1 < xs.length by omega)
      obtain ⟨m2, e2, dm2⟩ := dpm_get da hx2
      obtain ⟨m1, e1, dm1⟩ := dpm_get da hx1
      have vH := ((v0.trans sm).trans u3.h).trans sm4
      obtain ⟨b1, t1, s1⟩ := t3_inv (Dp.up dm1 vH)
      obtain ⟨b2, t2, s2⟩ := t3_inv (Dp.up dm2 vH)
      refine ⟨qa, _, rfl, sqT_same (u3.v.trans sm4) sq, rfl, _, _, rfl, _, _, rfl, rfl, rfl, ?_⟩
      refine ⟨_, rfl, _, rfl, a, xs, _, _, rfl, rfl, vH.seq sa, atI_nat hx1, _, rfl, _, rfl, a, xs, _, _, rfl, rfl, vH.seq sa, atI_nat hx2, ?_⟩
      refine ⟨b1, b2, m1, m2, 20, by rw [t1, t2]; rfl, s1, s2, (hM m1 (List.mem_of_getElem? e1)).szn, (hM m2 (List.mem_of_getElem? e2)).szn, by decide, by decide, ?_⟩
      have := hq _ (Same.refl _)
      rw [List.getD_eq_getElem?_getD, List.getD_eq_getElem?_getD, List.getD_eq_getElem?_getD, hq1] at this
      simp only [Option.getD_some] at this
      rw [e1, e2] at this
      exact this
    · intro H4 sm4 h4
      have hD4 := sm4 _ _ (u3.h _ _ h2)
      refine ⟨D, D2, _, _, rfl, rfl, hD4, h4, ?_, ?_⟩
      · simp only [List.length_map, List.length_range]
        exact Nat.le_trans (show _ ≤ 20 by omega) (by decide)
      have g0 := v0.free hD
      refine ⟨_, rfl, k _ (upd G0 D (.lst _)) _ ((rs.map fun u => (PR M u).2.2) ++ (prsB M.length).map fun q => gap (M.getD q.1 (0, 0, 0)) (M.getD q.2 (0, 0, 0))) ((((Up.refl v0).same ((sm.trans u3.h).trans sm4)).mut hD g0).pub hD g0 upd_same) (i_mk (SqL.of ?_)) ?_ ?_ ?_⟩
      · have e1 : (List.range rs.length).map (fun i => V.int (PR M (rs.getD i [])).2.2) = rs.map (fun u => V.int (PR M u).2.2) := range_map_getD rs [] (fun u => V.int (PR M u).2.2)
        have e2 : (List.range (prsB M.length).length).map (fun i => V.int (gap (M.getD ((prsB M.length).getD i (0, 0)).1 (0, 0, 0)) (M.getD ((prsB M.length).getD i (0, 0)).2 (0, 0, 0)))) = (prsB M.length).map (fun q => V.int (gap (M.getD q.1 (0, 0, 0)) (M.getD q.2 (0, 0, 0)))) :=
          range_map_getD (prsB M.length) (0, 0) (fun q => V.int (gap (M.getD q.1 (0, 0, 0)) (M.getD q.2 (0, 0, 0))))
        rw [upd_same, hzl, hyl, e1, e2, List.map_append, List.map_map, List.map_map]
        rfl
      · refine ⟨?_, ?_, ?_⟩
        · intro x hx
          simp only [List.mem_append, List.mem_map] at hx
          rcases hx with ⟨r, hr, rfl⟩ | ⟨q, hq, rfl⟩
          · exact .inl ⟨r, hr, rfl⟩
          · obtain ⟨q1, q2⟩ := prsB_mem.1 hq
            exact .inr ⟨_, getD_mem (show q.1 < M.length by omega), _, getD_mem q2, rfl⟩
        · intro r hr
          simp only [List.mem_append, List.mem_map]
          exact .inl ⟨r, hr, rfl⟩
        · intro i j m m' hij hi hj
          simp only [List.mem_append, List.mem_map]
          refine .inr ⟨(i, j), prsB_mem.2 ⟨hij, (List.getElem?_eq_some_iff.mp hj).1⟩, ?_⟩
          rw [List.getD_eq_getElem?_getD, List.getD_eq_getElem?_getD, hi, hj]; rfl
      · intro x hx
        simp only [List.mem_append, List.mem_map] at hx
        rcases hx with ⟨r, hr, rfl⟩ | ⟨q, hq, rfl⟩
        · have := PR_sq (hul r hr) hM (huc r hr) M.length (Nat.le_refl _)
          rw [List.take_length, ← hul r hr, List.take_length] at this
          exact natAbs_lt_of this.s (by have := hul r hr; omega)
        · obtain ⟨q1, q2⟩ := prsB_mem.1 hq
          exact gap_sz (hM _ (getD_mem (show q.1 < M.length by omega))) (hM _ (getD_mem q2))
      · simp only [List.length_append, List.length_map]; omega
end
end K67

namespace K67
open PySem L2 KX
theorem eO_part {M : List T3} {z : Int} {eo no : Option (List Int)} {rests : List (List Int)} (p : Parts M eo no rests) : eO ⟨partF M z eo, partF M z no, z⟩ = eo.map fun u => partF M z (some u) := by
  cases eo with
  | none => rfl
  | some u =>
    have := p.ex u rfl
    unfold eO
    show (if (PR M u).1 = 0 then none else some _) = _
    rw [if_neg (show ¬ (PR M u).1 = 0 by omega)]; rfl
theorem nO_part {M : List T3} {z : Int} {eo no : Option (List Int)} {rests : List (List Int)} (p : Parts M eo no rests) : nO ⟨partF M z eo, partF M z no, z⟩ = no.map fun u => partF M z (some u) := by
  cases no with
  | none => rfl
  | some u =>
    have := p.ny u rfl
    unfold nO
    show (if (PR M u).2.1 = 0 then none else some _) = _
    rw [if_neg (show ¬ (PR M u).2.1 = 0 by omega)]; rfl
section
variable {P : Program} {w : World} {K : PySem.W.Frag} {mg : Str → Option Value} {base : Heap} {f : Addr} {fd : FuncData}
abbrev s_bound : Stmt := topS 34
abbrev N_bound : List Str := ["moves", "row", "step", "x", "y", "s"]
theorem sc_bound : FnScope N_bound ["moves", "row", "step"] (defScope s_bound) := ⟨rfl, rfl, rfl, by decide +kernel, rfl, by decide +kernel, by decide +kernel⟩
def sp_bound (K : PySem.W.Frag) (CR : Addr) : Sp := fun vs H Q _ => ∃ (G : Hp) (v1 ov : V) (M : List T3) (ro : Option Rw) (z : Int), vs = [v1, ov, .int z] ∧ Same G H ∧ Dp K G v1 (lD M) ∧ OptRw CR G ov ro ∧ M.length ≤ 5 ∧ (∀ m ∈ M, Small m) ∧
  (∀ r ∈ ro, r.sh.length = M.length ∧ ∀ c ∈ r.sh, c.natAbs ≤ 2 ^ 380) ∧ 0 ≤ z ∧
  ∀ (v : V) (G' H' : Hp), Up G H G' H' → Dp K G' v (oD ((ro.map (·.sh)).map fun u => partF M z (some u))) → Q v H'
theorem ok_bound {CR : Addr} (F : Fun K "bound" "bound" s_bound f fd) (RC : RwC K CR) (c_pressed : Def P w K mg base "pressed" 2 ["moves", "shares"] (sp_pressed K)) (c_rest_of : Def P w K mg base "rest_of" 1 ["number", "step"] sp_rest_of) :
    FnOk P w K mg base CX0 3 f fd ["moves", "row", "step"] (sp_bound K CR) := by
  refine F.ok sc_bound (fun vs H Q E ⟨G, v1, ov, M, ro, z, h, _⟩ => by rw [h]; rfl) (fun cdv A outer s' H vs Q E hr ⟨G0, v1, ov, M, ro, z, h, v0, d1, hov, h5, hM, hro, hz, k⟩ => ?_)
  subst h
  refine ⟨_, (pss_cons (ps_if (pt_cmpR op_isN (pv 1) pe_non (nomark _)) (pss_one (ps_ret (pe_tup pa_nil))) pss_nil)
    (pss_cons (ps_asg (pe_def c_pressed hr (by decide) (pa_cons (pv 0) (pa_cons (pe_fld (pv 1) rfl) pa_nil))) (pg_tup (by rfl) (pgs_cons (pg_name (i := 3) sc_bound.nd rfl (Or.inl rfl)) (pgs_cons (pg_name (i := 4) sc_bound.nd rfl (Or.inl rfl)) (pgs_cons (pg_name (i := 5) sc_bound.nd rfl (Or.inl rfl)) pgs_nil)))))
    (pss_one (ps_ret (pe_tup (pa_cons (pv 3) (pa_cons (pv 4) (pa_cons (pe_def c_rest_of hr (by decide) (pa_cons (pv 5) (pa_cons (pv 2) pa_nil))) pa_nil)))))))), ?_⟩
  cases ro with
  | none =>
    obtain rfl : ov = .non := hov
    refine ⟨_, rfl, rfl, _, rfl, iteT ?_⟩
    exact ⟨Nat.zero_le _, fun p hp => k _ _ _ ((Up.refl v0).new (o := .tup []) hp) (.tup (SqT.of upd_same) .nil)⟩
  | some r =>
    obtain ⟨hl, hc⟩ := hro r rfl
    obtain ⟨a1, d1', p1, q1, rfl, e1, e2, e3⟩ := hov
    refine ⟨_, rfl, rfl, _, rfl, iteF ?_⟩
    refine ⟨_, rfl, _, rfl, a1, CR, d1', _, _, rfl, v0 _ _ e1, RC.cl, RC.nS, rw_s _ _, G0, _, _, M, r.sh, rfl, v0, d1, i_mk (SqL.of e3), hl, h5, hM, hc, fun v G1 H1 u1 dv sz => ?_⟩
    obtain ⟨pa, rfl, sp⟩ := t3_inv dv
    refine ⟨pa, _, rfl, sqT_same u1.v sp, rfl, _, _, rfl, _, _, rfl, _, _, rfl, rfl, ?_⟩
    refine ⟨_, rfl, _, rfl, _, rfl, _, rfl, _, _, rfl, hz, ?_⟩
    exact ⟨by show 3 ≤ sizeLine; decide, fun p hp => k _ _ _ (u1.new (o := .tup (tV (partF M z (some r.sh)))) hp) (t3_mk (SqT.of upd_same))⟩
abbrev s_form_of_moves : Stmt := topS 35
abbrev N_form_of_moves : List Str := ["moves", "shape", "step", "move"]
theorem sc_form_of_moves : FnScope N_form_of_moves ["moves"] (defScope s_form_of_moves) := ⟨rfl, rfl, rfl, by decide +kernel, rfl, by decide +kernel, by decide +kernel⟩
def sp_form (K : PySem.W.Frag) : Sp := fun vs H Q _ => ∃ (G : Hp) (v : V) (M : List T3), vs = [v] ∧ Same G H ∧ Dp K G v (lD M) ∧ M.length ≤ 5 ∧ (∀ m ∈ M, Small m) ∧
  ∀ (w : V) (G' H' : Hp), Up G H G' H' → Dp K G' w (fD (formL M)) → Q w H'
theorem ok_form_of_moves {C CR : Addr} (F : Fun K "form_of_moves" "form_of_moves" s_form_of_moves f fd) (T : Txt K mg) (RC : RwC K CR) (SC : ShC K C) (c_shape_of : Def P w K mg base "shape_of" 5 ["pairs"] (sp_shape_of K C CR))
    (c_pure_areas : Def P w K mg base "pure_areas" 3 ["moves", "shape"] (sp_pure K C CR)) (c_step_of : Def P w K mg base "step_of" 2 ["numbers"] (sp_step_of K)) (c_bound : Def P w K mg base "bound" 3 ["moves", "row", "step"] (sp_bound K CR)) :
    FnOk P w K mg base CX0 6 f fd ["moves"] (sp_form K) := by
  refine F.ok sc_form_of_moves (fun vs H Q E ⟨G, v1, M, h, _⟩ => by rw [h]; rfl) (fun cdv A outer s' H vs Q E hr ⟨G0, v1, M, h, v0, d1, h5, hM, k⟩ => ?_)
  subst h
  obtain ⟨a, xs, rfl, sa, da⟩ := l_inv d1
  have hxl : xs.length = M.length := by rw [DpAll.len da, List.length_map]
  refine ⟨_, (pss_cons (ps_set (i := 1) sc_form_of_moves.nd rfl (Or.inl rfl) (pe_def c_shape_of hr (by decide) (pa_cons (pe_lc (own := [("move", 3)]) rfl sc_form_of_moves.nd (pi_list (pv 0)) (blkOk_by (N := N_form_of_moves) (sc := defScope s_form_of_moves) (by decide +kernel)) (fun _ _ _ _ _ => (pg_name (i := 3) sc_form_of_moves.nd rfl (Or.inl rfl))) (fun _ _ _ _ _ => pts_nil) (fun _ _ _ _ _ => (pe_slice (slB_tup (K := K) rfl) (pv 3) po_none (po_some pe_int)))) pa_nil)))
    (pss_cons (ps_set (i := 2) sc_form_of_moves.nd rfl (Or.inl rfl) (pe_ix ix_tup (pe_def c_step_of hr (by decide) (pa_cons (pe_def c_pure_areas hr (by decide) (pa_cons (pv 0) (pa_cons (pv 1) pa_nil))) pa_nil)) pe_int (fun _ _ => rfl)))
    (pss_one (ps_ret (pe_tup (pa_cons (pe_def c_bound hr (by decide) (pa_cons (pv 0) (pa_cons (pe_fld (pv 1) rfl) (pa_cons (pv 2) pa_nil)))) (pa_cons (pe_def c_bound hr (by decide) (pa_cons (pv 0) (pa_cons (pe_fld (pv 1) rfl) (pa_cons (pv 2) pa_nil)))) (pa_cons (pv 2) pa_nil)))))))), ?_⟩
  refine ⟨_, rfl, a, rfl, ⟨_, v0.seq sa⟩, fun D hD => ?_⟩
  refine comp_R walk_list v0 hD (by omega) (fun G y j => ∃ m, M[j]? = some m ∧ Dp K G y (pD m)) (fun G G' y j s ⟨m, e, q⟩ => ⟨m, e, Dp.up q s⟩) (fun H4 sm => sm.seq (v0.seq sa)) ?_ ?_
  · rintro i x G4 H4 H5 Q' hi u4 ⟨rfl, hx⟩ hq
    obtain ⟨m, hm, dm⟩ := dpm_get da hx
    obtain ⟨pm, rfl, sm⟩ := t3_inv dm
    refine ⟨rfl, _, rfl, _, rfl, pm, _, rfl, sqT_same (v0.trans u4.h) sm, (by show ¬ (0 = 0 ∧ 2 = 3); decide), fun p hp => ?_⟩
    refine hq _ _ _ ((Up.refl u4.v).new (o := .tup [.int m.1, .int m.2.1]) hp) ⟨m, hm, ?_⟩
    exact .tup (SqT.of upd_same) (.cons (.int _) (.cons (.int _) .nil))
  · intro G1 acc H1 u1 hacc hal hR
    have dpairs : Dp K (upd G1 D (.lst acc)) (.ref D) (.list (M.map pD)) := .lst (SqL.of upd_same) (dpa_of (by rw [hal, hxl, List.length_map]) fun j y e => by
      obtain ⟨m, e1, e2⟩ := hR j y e
      exact ⟨pD m, by rw [List.getElem?_map, e1]; rfl, e2⟩)
    refine ⟨_, _, M, rfl, u1.v, dpairs, h5, fun m hm => ⟨(hM m hm).1, (hM m hm).2.1⟩, fun sv G2 H2 eo no rs u2 hs parts se sn sr hrl => ?_⟩
    have u12 := u1.trans u2
    -- step
    refine ⟨_, rfl, _, rfl, G2, _, _, M, eo, no, rs, rfl, u2.v, Dp.up d1 u12.g, hs, h5, hM, parts.lr, sr, hrl, fun av G3 H3 areas u3 dav har hasz hal3 => ?_⟩
    refine ⟨av, areas, 1000, rfl, Dp.up dav u3.v, hasz, by decide, by decide, hal3, fun sp shv H4 s4 e4 => ?_⟩
    have u13 := (u12.trans u3).same s4
    have hsp : H4 sp = some (.tup [.int (gcdL areas), shv]) := e4
    refine ⟨_, _, _, _, rfl, rfl, SqT.of e4, rfl, ?_⟩
    have zn : 0 ≤ gcdL areas := gcdL_fold_nonneg _ _ (Int.le_refl _)
    obtain ⟨sa', dx, ev, nv, ra, rfl, hsh, hev, hnv, _⟩ := hs
    have hsh3 := u3.g _ _ hsh
    have pe : ∀ r ∈ eo, r.sh.length = M.length ∧ ∀ c ∈ r.sh, c.natAbs ≤ 2 ^ 380 := fun r hr => ⟨parts.le _ (by simp; exact ⟨r, hr, rfl⟩), (se r hr).sh⟩
    have pn : ∀ r ∈ no, r.sh.length = M.length ∧ ∀ c ∈ r.sh, c.natAbs ≤ 2 ^ 380 := fun r hr => ⟨parts.ln _ (by simp; exact ⟨r, hr, rfl⟩), (sn r hr).sh⟩
    refine ⟨_, rfl, _, rfl, sa', C, dx, _, _, rfl, u13.v _ _ hsh3, SC.cl, SC.nA, sh_a _ _ _, _, rfl, G3, _, ev, M, eo, gcdL areas, rfl, u13.v, Dp.up d1 (u12.trans u3).g, hev.up u3.g, h5, hM, pe, zn, fun bv G5 H5 u5 db5 => ?_⟩
    refine ⟨_, rfl, _, rfl, sa', C, dx, _, _, rfl, u5.v _ _ (u5.g _ _ hsh3), SC.cl, SC.nL, sh_l _ _ _, _, rfl, G5, _, nv, M, no, gcdL areas, rfl, u5.v, Dp.up d1 ((u12.trans u3).g.trans u5.g), (hnv.up u3.g).up u5.g, h5, hM, pn, zn, fun cv G6 H6 u6 db6 => ?_⟩
    refine ⟨_, rfl, by show 3 ≤ sizeLine; decide, fun p hp => ?_⟩
    have u := ((u13.trans u5).trans u6).new (o := .tup [bv, cv, .int (gcdL areas)]) hp
    have R := parts_right parts har
    have E1 : formL M = ⟨partF M (gcdL areas) (eo.map (·.sh)), partF M (gcdL areas) (no.map (·.sh)), gcdL areas⟩ := (formL_right h5 hM).unique R
    refine k _ _ _ u ?_
    have gp := u6.free hp
    have sn := same_new (o := .tup [bv, cv, .int (gcdL areas)]) gp
    rw [E1]
    refine f_mk (SqT.of upd_same) ?_ ?_
    · rw [eO_part parts]; exact Dp.up db5 (u6.g.trans sn)
    · rw [nO_part parts]; exact Dp.up db6 sn
end
end K67

namespace K67
open PySem L2 KX
def cT (t : T3) (k : Nat) : Int := if k = 0 then t.1 else t.2.1
theorem at_cT (t : T3) {k : Nat} (h : k ≤ 1) : atI (tV t) (k : Int) = some (V.int (cT t k)) := by
  match k, h with
  | 0, _ => rfl
  | 1, _ => rfl
def cO (o : Option T3) (k : Nat) : Int := match o with
  | none => 0
  | some t => cT t k
theorem cO_e {F : Fm} : cO (eO F) 0 = F.e.1 := by
  unfold eO
  split
  · rename_i h; rw [h]; rfl
  · rfl
theorem cO_ey {F : Fm} (C : Canon F) : cO (eO F) 1 = F.e.2.1 := by
  unfold eO
  split
  · rename_i h; rw [C.eN h]; rfl
  · rfl
theorem cO_n {F : Fm} : cO (nO F) 1 = F.n.2.1 := by
  unfold nO
  split
  · rename_i h; rw [h]; rfl
  · rfl
theorem eO_pos {F : Fm} (C : Canon F) : ∀ t ∈ eO F, 0 < cT t 0 := by
  intro t h
  unfold eO at h
  split at h
  · cases h
  · cases h
    have := C.e0
    show 0 < F.e.1
    omega
theorem nO_pos {F : Fm} (C : Canon F) : ∀ t ∈ nO F, 0 < cT t 1 := by
  intro t h
  unfold nO at h
  split at h
  · cases h
  · cases h
    have := C.n0
    show 0 < F.n.2.1
    omega
theorem eO_some {F : Fm} {t : T3} (h : eO F = some t) : t = F.e ∧ F.e.1 ≠ 0 := by
  unfold eO at h
  split at h
  · cases h
  · rename_i q; cases h; exact ⟨rfl, q⟩
theorem nO_some {F : Fm} {t : T3} (h : nO F = some t) : t = F.n ∧ F.n.2.1 ≠ 0 := by
  unfold nO at h
  split at h
  · cases h
  · rename_i q; cases h; exact ⟨rfl, q⟩
theorem eO_none {F : Fm} (C : Canon F) (h : eO F = none) : F.e = (0, 0, 0) := by
  unfold eO at h
  split at h
  · rename_i q; exact C.eN q
  · cases h
theorem nO_none {F : Fm} (C : Canon F) (h : nO F = none) : F.n = (0, 0, 0) := by
  unfold nO at h
  split at h
  · rename_i q; exact C.nN q
  · cases h
section
variable {K : PySem.W.Frag} {σ : L2.St} {H : Hp} {o : Option T3} {v : V}
def eTest (K : PySem.W.Frag) (te : TE) : TT := tTest (tOp (rEqD K) te (tTup tNil))
theorem e_test {te : TE} {Q : Bool → Hp → Prop} (hi : ∀ (Q : VK), (∀ H', Same H H' → Q v H') → te σ H Q) (d : Dp K H v (oD o)) (q : ∀ H', Same H H' → Q o.isNone H') : eTest K te σ H Q := by
  refine hi _ fun H1 s1 => ⟨Nat.zero_le _, fun p hp => ?_⟩
  have s := s1.trans (same_new (o := .tup []) hp)
  refine ⟨oD o, .tuple [], Dp.up d s, .tup (SqT.of upd_same) .nil, shaped_oD _, shaped_nil, _, rfl, ?_⟩
  rw [eqv_oD_nil]
  exact q _ s
theorem hvar {i : Nat} (hi : σ[i]? = some (some v)) : ∀ (Q : VK), (∀ H', Same H H' → Q v H') → tVar i σ H Q := fun Q q => ⟨v, hi, q H (Same.refl _)⟩
theorem t_ifo {te ta tb : TE} {Q : VK} (hi : ∀ (Q : VK), (∀ H', Same H H' → Q v H') → te σ H Q) (d : Dp K H v (oD o)) (h0 : o = none → ∀ H', Same H H' → ta σ H' Q) (h1 : ∀ t, o = some t → ∀ H', Same H H' → tb σ H' Q) : tIf (eTest K te) ta tb σ H Q := by
  refine e_test hi d fun H' s => ?_
  cases o with
  | none => exact iteT (h0 rfl H' s)
  | some t => exact iteF (h1 t rfl H' s)
theorem t_ifoT {te : TE} {ta tb : TT} {Q : Bool → Hp → Prop} (hi : ∀ (Q : VK), (∀ H', Same H H' → Q v H') → te σ H Q) (d : Dp K H v (oD o)) (h0 : o = none → ∀ H', Same H H' → ta σ H' Q) (h1 : ∀ t, o = some t → ∀ H', Same H H' → tb σ H' Q) : tIfT (eTest K te) ta tb σ H Q := by
  refine e_test hi d fun H' s => ?_
  cases o with
  | none => exact iteT (h0 rfl H' s)
  | some t => exact iteF (h1 t rfl H' s)
theorem t_ifoG {te ta tb : TE} {Q : VK} (G : Addr → Hp → Prop) (hi : ∀ (Q : VK), (∀ H', Same H H' → Q v H') → te σ H Q) (d : Dp K H v (oD o)) (q : ∀ p H', Same H H' → G p H' → Q (.ref p) H') (h0 : o = none → ∀ H' (Q : VK), Same H H' → (∀ p H'', Same H' H'' → G p H'' → Q (.ref p) H'') → ta σ H' Q)
    (h1 : ∀ t, o = some t → ∀ H' (Q : VK), Same H H' → (∀ p H'', Same H' H'' → G p H'' → Q (.ref p) H'') → tb σ H' Q) : tIf (eTest K te) ta tb σ H Q :=
  t_ifo hi d (fun e H' s => h0 e H' _ s fun p H'' s2 g => q p H'' (s.trans s2) g) (fun t e H' s => h1 t e H' _ s fun p H'' s2 g => q p H'' (s.trans s2) g)
theorem t_div {i j k : Nat} {x : Int} {Q : VK} (k1 : k ≤ 1) (hi : σ[i]? = some (some v)) (d : Dp K H v (oD o)) (hj : σ[j]? = some (some (.int x))) (pos : ∀ t ∈ o, 0 < cT t k) (sz : ∀ t ∈ o, (cT t k).natAbs < 2 ^ 64)
    (q : ∀ H', Same H H' → Q (.int (x / cO o k)) H') : tIf (eTest K (tVar i)) (tC (.int 0)) (tOp (rI CDivW fun i j => .int (i / j)) (tVar j) (tOp (rIxT K) (tVar i) (tC (.int (k : Int))))) σ H Q := by
  refine t_ifo (hvar hi) d (fun e H' s => ?_) (fun t e H' s => ?_)
  · subst e
    have := q H' s
    rw [show x / cO none k = 0 from Int.ediv_zero x] at this
    exact this
  · subst e
    obtain ⟨a, rfl, sq⟩ := t3_inv (t := t) (Dp.up d s)
    refine ⟨_, hj, _, hi, _, _, _, _, rfl, rfl, sq, at_cT t k1, _, _, rfl, rfl, ⟨pos t rfl, ?_⟩, q H' s⟩
    exact Nat.lt_of_lt_of_le (log2_of (sz t rfl) (by decide)) (by decide)
theorem t_modt {i j k : Nat} {x : Int} {Q : Bool → Hp → Prop} (k1 : k ≤ 1) (hi : σ[i]? = some (some v)) (d : Dp K H v (oD o)) (hj : σ[j]? = some (some (.int x))) (pos : ∀ t ∈ o, 0 < cT t k)
    (q : ∀ H', Same H H' → Q (!decide (x % cO o k = 0)) H') : tIfT (eTest K (tVar i)) (tTest (tOp rNe (tVar j) (tC (.int 0)))) (tTest (tOp rNe (tOp (rI (fun x j => 0 < j) fun i j => .int (i % j)) (tVar j) (tOp (rIxT K) (tVar i) (tC (.int (k : Int))))) (tC (.int 0)))) σ H Q := by
  refine t_ifoT (hvar hi) d (fun e H' s => ?_) (fun t e H' s => ?_)
  · subst e
    have := q H' s
    rw [show x % cO none k = x from Int.emod_zero x] at this
    exact ⟨_, hj, rfl, _, rfl, by rw [dV]; exact this⟩
  · subst e
    obtain ⟨a, rfl, sq⟩ := t3_inv (t := t) (Dp.up d s)
    exact ⟨_, hj, _, hi, _, _, _, _, rfl, rfl, sq, at_cT t k1, _, _, rfl, rfl, pos t rfl, rfl, _, rfl, by rw [dV]; exact q H' s⟩
theorem t_less {i j l : Nat} {y m : Int} {Q : VK} (hi : σ[i]? = some (some v)) (d : Dp K H v (oD o)) (hj : σ[j]? = some (some (.int y))) (hl : σ[l]? = some (some (.int m))) (sm : m.natAbs < 2 ^ 100) (sz : ∀ t ∈ o, (cT t 1).natAbs < 2 ^ 64)
    (q : ∀ H', Same H H' → Q (.int (y - m * cO o 1)) H') : tIf (eTest K (tVar i)) (tVar j) (tOp (rI0 fun i j => .int (i - j)) (tVar j) (tOp (rI CMulW fun i j => .int (i * j)) (tVar l) (tOp (rIxT K) (tVar i) (tC (.int 1))))) σ H Q := by
  refine t_ifo (hvar hi) d (fun e H' s => ?_) (fun t e H' s => ?_)
  · subst e
    have := q H' s
    rw [show m * cO none 1 = 0 from Int.mul_zero m, Int.sub_zero] at this
    exact ⟨_, hj, this⟩
  · subst e
    obtain ⟨a, rfl, sq⟩ := t3_inv (t := t) (Dp.up d s)
    exact ⟨_, hj, _, hl, _, hi, _, _, _, _, rfl, rfl, sq, at_cT t (k := 1) (by decide), _, _, rfl, rfl, mulW_of sm (sz t rfl) (by decide) (by decide) (by decide), _, _, rfl, rfl, q H' s⟩
end
section
variable {P : Program} {w : World} {K : PySem.W.Frag} {mg : Str → Option Value} {base : Heap} {f : Addr} {fd : FuncData}
abbrev s_shares_of : Stmt := topS 36
abbrev N_shares_of : List Str := ["form", "x", "y", "east", "north", "step", "many", "rest"]
theorem sc_shares_of : FnScope N_shares_of ["form", "x", "y"] (defScope s_shares_of) := ⟨rfl, rfl, rfl, by decide +kernel, rfl, by decide +kernel, by decide +kernel⟩
def sp_shares (K : PySem.W.Frag) : Sp := fun vs H Q _ => ∃ (v : V) (F : Fm) (x y : Int), vs = [v, .int x, .int y] ∧ Dp K H v (fD F) ∧ Canon F ∧ Sf F ∧ x.natAbs < 2 ^ 20 ∧ y.natAbs < 2 ^ 20 ∧
  (∀ H', Same H H' → shrs F x y = none → Q .non H') ∧ ∀ (p : Addr) (m r : Int) (H' : Hp), Same H H' → shrs F x y = some (m, r) → H' p = some (.tup [.int m, .int r]) → m.natAbs < 2 ^ 20 → r.natAbs < 2 ^ 90 → Q (.ref p) H'
theorem e_sz {F : Fm} (S : Sf F) : (∀ t ∈ eO F, (cT t 0).natAbs < 2 ^ 64) ∧ (∀ t ∈ eO F, (cT t 1).natAbs < 2 ^ 64) ∧ ∀ t ∈ nO F, (cT t 1).natAbs < 2 ^ 64 := by
  refine ⟨fun t h => ?_, fun t h => ?_, fun t h => ?_⟩
  · obtain ⟨rfl, _⟩ := eO_some h
    exact natAbs_lt_of S.e1 (by decide)
  · obtain ⟨rfl, _⟩ := eO_some h
    exact S.e2
  · obtain ⟨rfl, _⟩ := nO_some h
    exact S.n2
theorem ok_shares_of (F : Fun K "shares_of" "shares_of" s_shares_of f fd) : FnOk P w K mg base CX0 1 f fd ["form", "x", "y"] (sp_shares K) := by
  refine F.ok sc_shares_of (fun vs H Q E ⟨v, F, x, y, h, _⟩ => by rw [h]; rfl) (fun cdv A outer s' H vs Q E hr ⟨v, F, x, y, h, d, C, S, hx, hy, k0, k1⟩ => ?_)
  subst h
  obtain ⟨fa, ev, nv, rfl, sq, de, dn⟩ := f_inv d
  obtain ⟨z1, z2, z3⟩ := e_sz S
  refine ⟨_, (pss_cons (ps_asg (pv 0) (pg_tup (by rfl) (pgs_cons (pg_name (i := 3) sc_shares_of.nd rfl (Or.inl rfl)) (pgs_cons (pg_name (i := 4) sc_shares_of.nd rfl (Or.inl rfl)) (pgs_cons (pg_name (i := 5) sc_shares_of.nd rfl (Or.inl rfl)) pgs_nil)))))
    (pss_cons (ps_if (pt_ifExp (pt_cmpR (op_eqD hr.units) (pv 3) (pe_tup pa_nil) (nomark _)) (pt_cmpR op_ne (pv 1) pe_int (nomark _)) (pt_cmpR op_ne (pe_op op_mod (pv 1) (pe_ix ix_tup (pv 3) pe_int (fun _ _ => rfl))) pe_int (nomark _))) (pss_one (ps_ret pe_non)) pss_nil)
    (pss_cons (ps_set (i := 6) sc_shares_of.nd rfl (Or.inl rfl) (pe_ifExp (pt_cmpR (op_eqD hr.units) (pv 3) (pe_tup pa_nil) (nomark _)) pe_int (pe_op op_fdivW (pv 1) (pe_ix ix_tup (pv 3) pe_int (fun _ _ => rfl)))))
    (pss_cons (ps_set (i := 7) sc_shares_of.nd rfl (Or.inl rfl) (pe_ifExp (pt_cmpR (op_eqD hr.units) (pv 3) (pe_tup pa_nil) (nomark _)) (pv 2) (pe_op op_sub (pv 2) (pe_op op_mulW (pv 6) (pe_ix ix_tup (pv 3) pe_int (fun _ _ => rfl))))))
    (pss_cons (ps_if (pt_ifExp (pt_cmpR (op_eqD hr.units) (pv 4) (pe_tup pa_nil) (nomark _)) (pt_cmpR op_ne (pv 7) pe_int (nomark _)) (pt_cmpR op_ne (pe_op op_mod (pv 7) (pe_ix ix_tup (pv 4) pe_int (fun _ _ => rfl))) pe_int (nomark _))) (pss_one (ps_ret pe_non)) pss_nil)
    (pss_one (ps_ret (pe_tup (pa_cons (pv 6) (pa_cons (pe_ifExp (pt_cmpR (op_eqD hr.units) (pv 4) (pe_tup pa_nil) (nomark _)) pe_int (pe_op op_fdivW (pv 7) (pe_ix ix_tup (pv 4) pe_int (fun _ _ => rfl)))) pa_nil)))))))))), ?_⟩
  refine ⟨_, rfl, fa, _, rfl, sq, rfl, _, _, rfl, _, _, rfl, _, _, rfl, rfl, ?_⟩
  refine t_modt (k := 0) (by decide) rfl de rfl (eO_pos C) fun H1 s1 => ?_
  rw [cO_e]
  have hm : (x / F.e.1).natAbs < 2 ^ 20 := Nat.lt_of_le_of_lt (Int.natAbs_ediv_le_natAbs _ _) hx
  by_cases h1 : x % F.e.1 = 0
  · rw [decide_eq_true h1]
    refine iteF ?_
    refine t_div (k := 0) (by decide) rfl (Dp.up de s1) rfl (eO_pos C) z1 fun H2 s2 => ?_
    rw [cO_e]
    have s12 := s1.trans s2
    refine t_less rfl (Dp.up de s12) rfl rfl (natAbs_lt_of hm (by decide)) z2 fun H3 s3 => ?_
    rw [cO_ey C]
    have s13 := s12.trans s3
    have hr' : (y - x / F.e.1 * F.e.2.1).natAbs < 2 ^ 90 := natAbs_lt_of (sz_sub (natAbs_lt_of hy (by decide)) (sz_mul hm S.e2)) (by decide)
    refine t_modt (k := 1) (by decide) rfl (Dp.up dn s13) rfl (nO_pos C) fun H4 s4 => ?_
    rw [cO_n]
    have s14 := s13.trans s4
    by_cases h2 : (y - x / F.e.1 * F.e.2.1) % F.n.2.1 = 0
    · rw [decide_eq_true h2]
      refine iteF ?_
      refine ⟨_, rfl, ?_⟩
      refine t_div (k := 1) (by decide) rfl (Dp.up dn s14) rfl (nO_pos C) z3 fun H5 s5 => ?_
      rw [cO_n]
      refine ⟨by show 2 ≤ sizeLine; decide, fun p hp => k1 p _ _ _ ((s14.trans s5).trans (same_new hp)) ?_ upd_same hm (Nat.lt_of_le_of_lt (Int.natAbs_ediv_le_natAbs _ _) hr')⟩
      unfold shrs; rw [if_pos h1, if_pos h2]
    · rw [decide_eq_false h2]
      refine iteT (k0 _ s14 ?_)
      unfold shrs; rw [if_pos h1, if_neg h2]
  · rw [decide_eq_false h1]
    refine iteT (k0 _ s1 ?_)
    unfold shrs; rw [if_neg h1]
abbrev s_led_to : Stmt := topS 37
abbrev N_led_to : List Str := ["form", "shares", "first"]
theorem sc_led_to : FnScope N_led_to ["form", "shares"] (defScope s_led_to) := ⟨rfl, rfl, rfl, by decide +kernel, rfl, by decide +kernel, by decide +kernel⟩
def sp_led_to (K : PySem.W.Frag) : Sp := fun vs H Q _ => ∃ (v : V) (p : Addr) (F : Fm) (m r : Int), vs = [v, .ref p] ∧ Dp K H v (fD F) ∧ SqT K H p [.int m, .int r] ∧ Canon F ∧ Sf F ∧ m.natAbs < 2 ^ 20 ∧ r.natAbs < 2 ^ 90 ∧
  ∀ (q : Addr) (H' : Hp), Same H H' → SqT K H' q (tV (put (pw F.e m) (pw F.n r))) → Q (.ref q) H'
theorem pw_sq {t : T3} {c : Int} {a b n : Nat} (h1 : t.1.natAbs < 2 ^ a) (h2 : t.2.1.natAbs < 2 ^ a) (h3 : t.2.2.natAbs < 2 ^ b) (k : c.natAbs < 2 ^ n) (hb : n + n + 1 + a + a ≤ n + b) : Sq (n + a) (n + b + 1) (pw t c) := by
  refine ⟨sz_mul k h1, sz_mul k h2, ?_⟩
  exact sz_add (sz_mul k h3) (natAbs_lt_of (sz_mul (sz_mul (sz_tri k) h1) h2) (by omega))
theorem ok_led_to (F : Fun K "led_to" "led_to" s_led_to f fd) (T : Txt K mg) (c_put_triples : Def P w K mg base "put_triples" 1 ["one", "other"] (sp_put K)) (c_many_triples : Def P w K mg base "many_triples" 1 ["one", "times"] (sp_many K)) : FnOk P w K mg base CX0 2 f fd ["form", "shares"] (sp_led_to K) := by
  refine F.ok sc_led_to (fun vs H Q E ⟨v, p, F, m, r, h, _⟩ => by rw [h]; rfl) (fun cdv A outer s' H vs Q E hr ⟨v, p, F, m, r, h, d, sp, C, S, hm, hrr, k⟩ => ?_)
  subst h
  obtain ⟨fa, ev, nv, rfl, sq, de, dn⟩ := f_inv d
  refine ⟨_, (pss_cons (ps_set (i := 2) sc_led_to.nd rfl (Or.inl rfl) (pe_ifExp (pt_cmpR (op_eqD hr.units) (pe_ix ix_tup (pv 0) pe_int (fun _ _ => rfl)) (pe_tup pa_nil) (nomark _)) (pe_glob (v := V.ref T.aP) rfl T.g_PLAIN rfl) (pe_def c_many_triples hr (by decide) (pa_cons (pe_ix ix_tup (pv 0) pe_int (fun _ _ => rfl)) (pa_cons (pe_ix ix_tup (pv 1) pe_int (fun _ _ => rfl)) pa_nil)))))
    (pss_one (ps_ret (pe_ifExp (pt_cmpR (op_eqD hr.units) (pe_ix ix_tup (pv 0) pe_int (fun _ _ => rfl)) (pe_tup pa_nil) (nomark _)) (pv 2) (pe_def c_put_triples hr (by decide) (pa_cons (pv 2) (pa_cons (pe_def c_many_triples hr (by decide) (pa_cons (pe_ix ix_tup (pv 0) pe_int (fun _ _ => rfl)) (pa_cons (pe_ix ix_tup (pv 1) pe_int (fun _ _ => rfl)) pa_nil))) pa_nil))))))), ?_⟩
  have e1 : Sq 90 530 (pw F.e m) := (pw_sq (a := 64) (b := 500) (natAbs_lt_of S.e1 (by decide)) S.e2 S.e3 hm (by decide)).mono (by decide) (by decide)
  have e2 : Sq 160 660 (pw F.n r) := (pw_sq (a := 64) (b := 500) (by rw [S.n1]; decide) S.n2 S.n3 hrr (by decide)).mono (by decide) (by decide)
  refine t_ifoG (fun q H1 => SqT K H1 q (tV (pw F.e m))) (v := ev) (fun Q q => ⟨_, rfl, _, _, _, _, rfl, rfl, sq, rfl, q _ (Same.refl _)⟩) de ?_ ?_ ?_
  · intro p1 H1 s1 g1
    have dn1 := Dp.up dn s1
    dsimp only [gName, tRet]
    refine t_ifoG (fun q H1 => SqT K H1 q (tV (put (pw F.e m) (pw F.n r)))) (v := nv) (fun Q q => ⟨_, rfl, _, _, _, _, rfl, rfl, sqT_same s1 sq, rfl, q _ (Same.refl _)⟩) dn1 ?_ ?_ ?_
    · intro p2 H2 s2 g2
      exact k p2 H2 (s1.trans s2) g2
    · intro n0 H2 Q2 s2 q2
      have e0 := nO_none C n0
      refine ⟨_, rfl, q2 p1 H2 (Same.refl _) ?_⟩
      rw [e0, pw_z, put_one]
      exact sqT_same s2 g1
    · intro t et H2 Q2 s2 q2
      obtain ⟨rfl, _⟩ := nO_some et
      have s12 := s1.trans s2
      rw [et] at dn1
      obtain ⟨na, rfl, sn⟩ := t3_inv (t := F.n) (Dp.up dn1 s2)
      refine ⟨_, rfl, _, rfl, _, _, _, _, rfl, rfl, sqT_same s12 sq, rfl, _, rfl, _, _, _, _, rfl, rfl, sqT_same s12 sp, rfl, ?_⟩
      refine ⟨na, F.n, r, 600, rfl, sn, ⟨by rw [S.n1]; exact Nat.two_pow_pos _, natAbs_lt_of S.n2 (by decide), natAbs_lt_of S.n3 (by decide)⟩, natAbs_lt_of hrr (by decide), by decide, by decide, fun p3 H3 hp3 s3 e3 => ?_⟩
      refine ⟨p1, p3, _, _, 700, rfl, sqT_same (s2.trans s3) g1, SqT.of e3, e1.szn (by decide) (by decide), e2.szn (by decide) (by decide), by decide, by decide, fun p4 H4 hp4 s4 e4 => ?_⟩
      exact q2 p4 H4 (s3.trans s4) (SqT.of e4)
  · intro e0 H1 Q1 s1 q1
    refine q1 _ H1 (Same.refl _) ?_
    rw [eO_none C e0, pw_z]
    exact T.tP H1
  · intro t et H1 Q1 s1 q1
    obtain ⟨rfl, _⟩ := eO_some et
    rw [et] at de
    obtain ⟨na, rfl, sn⟩ := t3_inv (t := F.e) (Dp.up de s1)
    refine ⟨_, rfl, _, _, _, _, rfl, rfl, sqT_same s1 sq, rfl, _, rfl, _, _, _, _, rfl, rfl, sqT_same s1 sp, rfl, ?_⟩
    refine ⟨na, F.e, m, 600, rfl, sn, ⟨natAbs_lt_of S.e1 (by decide), natAbs_lt_of S.e2 (by decide), natAbs_lt_of S.e3 (by decide)⟩, natAbs_lt_of hm (by decide), by decide, by decide, fun p3 H3 hp3 s3 e3 => ?_⟩
    exact q1 p3 H3 s3 (SqT.of e3)
abbrev s_tells : Stmt := topS 38
abbrev N_tells : List Str := ["form", "move", "shares"]
theorem sc_tells : FnScope N_tells ["form", "move"] (defScope s_tells) := ⟨rfl, rfl, rfl, by decide +kernel, rfl, by decide +kernel, by decide +kernel⟩
def sp_tells (K : PySem.W.Frag) : Sp := fun vs H Q _ => ∃ (v : V) (p : Addr) (F : Fm) (g : T3), vs = [v, .ref p] ∧ Dp K H v (fD F) ∧ SqT K H p (tV g) ∧ Canon F ∧ Sf F ∧ Szn 20 g ∧ ∀ H', Same H H' → Q (.bl (decide (restF F g = (0, 0, 0)))) H'
theorem ok_tells (F : Fun K "tells" "tells" s_tells f fd) (c_shares_of : Def P w K mg base "shares_of" 1 ["form", "x", "y"] (sp_shares K)) (c_led_to : Def P w K mg base "led_to" 2 ["form", "shares"] (sp_led_to K)) (c_rest_of : Def P w K mg base "rest_of" 1 ["number", "step"] sp_rest_of) :
    FnOk P w K mg base CX0 3 f fd ["form", "move"] (sp_tells K) := by
  refine F.ok sc_tells (fun vs H Q E ⟨v, p, F, g, h, _⟩ => by rw [h]; rfl) (fun cdv A outer s' H vs Q E hr ⟨v, p, F, g, h, d, sp, C, S, hg, k⟩ => ?_)
  subst h
  refine ⟨_, (pss_cons (ps_set (i := 2) sc_tells.nd rfl (Or.inl rfl) (pe_def c_shares_of hr (by decide) (pa_cons (pv 0) (pa_cons (pe_ix ix_tup (pv 1) pe_int (fun _ _ => rfl)) (pa_cons (pe_ix ix_tup (pv 1) pe_int (fun _ _ => rfl)) pa_nil)))))
    (pss_cons (ps_if (pt_cmpR op_isN (pv 2) pe_non (nomark _)) (pss_one (ps_ret pe_bl)) pss_nil)
    (pss_one (ps_ret (pe_cmpR op_eq (pe_def c_rest_of hr (by decide) (pa_cons (pe_op op_sub (pe_ix ix_tup (pv 1) pe_int (fun _ _ => rfl)) (pe_ix ix_tup (pe_def c_led_to hr (by decide) (pa_cons (pv 0) (pa_cons (pv 2) pa_nil))) pe_int (fun _ _ => rfl))) (pa_cons (pe_ix ix_tup (pv 0) pe_int (fun _ _ => rfl)) pa_nil))) pe_int (nomark _)))))), ?_⟩
  refine ⟨_, rfl, _, rfl, _, _, _, _, rfl, rfl, sp, rfl, _, rfl, _, _, _, _, rfl, rfl, sp, rfl, ?_⟩
  refine ⟨v, F, g.1, g.2.1, rfl, d, C, S, hg.x, hg.y, fun H1 s1 e1 => ?_, fun q m r H1 s1 e1 hq hm hr' => ?_⟩
  · refine ⟨_, rfl, rfl, _, rfl, iteT ?_⟩
    have := k H1 s1
    rw [← tlP_rest C] at this
    unfold tlP at this
    rw [e1] at this
    exact this
  · refine ⟨_, rfl, rfl, _, rfl, iteF ?_⟩
    have sp1 := sqT_same s1 sp
    refine ⟨_, rfl, _, _, _, _, rfl, rfl, sp1, rfl, ?_⟩
    refine ⟨_, rfl, _, rfl, v, q, F, m, r, rfl, Dp.up d s1, SqT.of hq, C, S, hm, hr', fun q2 H2 s2 g2 => ?_⟩
    refine ⟨_, _, _, _, rfl, rfl, g2, rfl, _, _, rfl, rfl, ?_⟩
    obtain ⟨fa, ev, nv, rfl, sq, de, dn⟩ := f_inv (Dp.up d (s1.trans s2))
    refine ⟨_, rfl, _, _, _, _, rfl, rfl, sq, rfl, ?_⟩
    refine ⟨_, _, rfl, C.z0, ?_⟩
    have := k H2 (s1.trans s2)
    rw [← tlP_rest C] at this
    unfold tlP at this
    rw [e1] at this
    refine ⟨rfl, ?_⟩
    rw [dV]
    have ez : (if F.z = 0 then g.2.2 - (put (pw F.e m) (pw F.n r)).2.2 else (g.2.2 - (put (pw F.e m) (pw F.n r)).2.2) % F.z) = (g.2.2 - (put (pw F.e m) (pw F.n r)).2.2) % F.z := by
      split
      · rename_i h; rw [h, Int.emod_zero]
      · rfl
    rw [ez]
    exact this
end
end K67

namespace K67
open PySem L2 KX
/-- what isinstance asks of an own class -/
structure IsC (K : PySem.W.Frag) (C : Addr) : Prop where
  cl : Cls K C
  ha : PySem.W.findIn K (.ref C) "__class__" = some (some (.builtin "object.__class__"))
  hn : PySem.W.specialIn K (.builtin "object.__class__") "__get__" = some (some (.builtin "getset_descriptor.__get__"))
  htk : PySem.W.takesIn K (.builtin "object.__class__") = some true
  hm : PySem.W.mroIn K C (.type "object") = some true
  me : PySem.W.kitOne K (.ref C) (.ref C) = some true
def mvStr (t : T3) : Str := ((((((Str.empty ++ "areas ") ++ (toString t.1 : String)) ++ " ") ++ (toString t.2.1 : String)) ++ " ") ++ (toString t.2.2 : String))
theorem txt_len {i : Int} (h : i.natAbs < 2 ^ 60) : (Str.ofString (toString i)).length ≤ 1921 := PyProof.Rows.int_text_len_1921 (Nat.lt_trans (log2_of h (by decide)) (by decide))
theorem mvStr_len {t : T3} (h : Szn 60 t) : (mvStr t).length ≤ 6000 := by
  have h1 := txt_len h.x
  have h2 := txt_len h.y
  have h3 := txt_len h.s
  unfold mvStr
  rw [Str.length_append, Str.length_append, Str.length_append, Str.length_append, Str.length_append, Str.length_append]
  have e1 : (Str.empty).length = 0 := rfl
  have e2 : (("areas " : Str)).length = 6 := by decide +kernel
  have e3 : ((" " : Str)).length = 1 := by decide +kernel
  rw [e1, e2, e3]
  omega
def MvsAt (C : Addr) (G : Hp) (v : V) (M : List T3) : Prop := ∃ a xs, v = .ref a ∧ G a = some (.tup xs) ∧ xs.length = M.length ∧ ∀ (i : Nat) (x : V), xs[i]? = some x → ∃ m, M[i]? = some m ∧ MvAt C G x m
theorem MvsAt.up {C : Addr} {G H : Hp} {v : V} {M : List T3} (h : MvsAt C G v M) (s : Same G H) : MvsAt C H v M :=
  let ⟨a, xs, e, q, l, k⟩ := h
  ⟨a, xs, e, s _ _ q, l, fun i x e => let ⟨m, e1, e2⟩ := k i x e; ⟨m, e1, e2.up s⟩⟩
def ltF (c t : V) : List (Str × V) := [("own_changes", c), ("own_text", t)]
theorem ct_ : ¬ (("own_changes" : Str) = "own_text") := by decide +kernel
theorem lt_put (c t : V) : putF "own_text" t (putF "own_changes" c []) = ltF c t := by
  show putF "own_text" t [(("own_changes" : Str), c)] = _
  rw [putF_ne ct_]; rfl
theorem lt_c (c t : V) : (ltF c t).lookup ("own_changes" : Str) = some c := rfl
structure LtC (K : PySem.W.Frag) (C : Addr) : Prop where
  cl : Cls K C
  nC : NoAttr K C "own_changes"
  nT : NoAttr K C "own_text"
def LotAt (CL C : Addr) (G : Hp) (v : V) (M : List T3) : Prop := ∃ a dx cv tv, v = .ref a ∧ G a = some (.ins CL dx (ltF cv tv)) ∧ MvsAt C G cv M
theorem LotAt.up {CL C : Addr} {G H : Hp} {v : V} {M : List T3} (h : LotAt CL C G v M) (s : Same G H) : LotAt CL C H v M :=
  let ⟨a, dx, cv, tv, e, h1, h2⟩ := h
  ⟨a, dx, cv, tv, e, s _ _ h1, h2.up s⟩
def sp_Move_str (C : Addr) : Sp := fun vs H Q _ => ∃ a dx t, vs = [.ref a] ∧ H a = some (.ins C dx (mvF t)) ∧ Szn 60 t ∧ Q (.str (mvStr t)) H
/-- str of a move -/
structure MoveSt (P : Program) (w : World) (K : PySem.W.Frag) (mg : Str → Option Value) (base : Heap) (C : Addr) where
  f : Addr
  fd : FuncData
  hs : PySem.W.findIn K (.ref C) "__str__" = some (some (.ref f))
  hf : PySem.W.isFn K (.ref f) = true
  k : FnOk P w K mg base CX0 1 f fd ["self"] (sp_Move_str C)
  b : Binds K fd ["self"] []
theorem call_strM {X : Cx} {j : Nat} {C : Addr} (S : MoveSt X.prog X.w X.K X.mg X.base C) (hr : Room j X.A) (hj : 3 ≤ j) : CallR X (.type "str") (fun xs H Q => ∃ a dx fs, xs = [.ref a] ∧ H a = some (.ins C dx fs) ∧ sp_Move_str C [.ref a] H (fun v H' => ∃ z, v = .str z ∧ Q v H') E0) :=
  call_strO (ds := []) S.hs S.hf S.k (hr.mono hj) S.b (fun _ _ _ _ h => h)
/-- the class of lots -/
structure LotC (P : Program) (w : World) (K : PySem.W.Frag) (mg : Str → Option Value) (base : Heap) where
  C : Addr
  c : LtC K C
  g : mg "MoveLot" = some (.ref C)
  pC : Addr
  gC : Addr
  fC : FuncData
  hC : PropOf K C "changes" pC gC
  kC : FnOk P w K mg base CX0 1 gC fC ["self"] (getSp C "own_changes")
  bC : Binds K fC ["self"] []
section
variable {X : Cx} {j : Nat} {e : Expr} {pos : Pos} {ta : TE}
theorem pe_changes (M : LotC X.prog X.w X.K X.mg X.base) (hr : Room j X.A) (hj : 2 ≤ j) (he : PE X e ta) (hab : attributeBase e "changes" X.env (eval e X.env) = eval e X.env := by rfl) : PE X (.Attribute e "changes" pos) (tProp M.C (getSp M.C "own_changes") [] E0 ta) :=
  pe_prop he M.c.cl M.hC M.kC (hr.mono hj) M.bC .nil pass0 hab
end
section
variable {P : Program} {w : World} {K : PySem.W.Frag} {mg : Str → Option Value} {base : Heap} {f : Addr} {fd : FuncData}
abbrev s_Move_str : Stmt := inClass (topS 18) 5
abbrev N_Move_str : List Str := ["self"]
theorem sc_Move_str : FnScope N_Move_str ["self"] (defScope s_Move_str) := ⟨rfl, rfl, rfl, by decide +kernel, rfl, by decide +kernel, by decide +kernel⟩
theorem ok_Move_str {C : Addr} (F : Fun K "__str__" "Move.__str__" s_Move_str f fd) (MC : MvC K C) : FnOk P w K mg base CX0 1 f fd ["self"] (sp_Move_str C) := by
  refine F.ok sc_Move_str (fun vs H Q E ⟨a, dx, t, h, _⟩ => by rw [h]; rfl) (fun cdv A outer s' H vs Q E hr ⟨a, dx, t, h, ha, sz, k⟩ => ?_)
  subst h
  refine ⟨_, (pss_one (ps_ret (pe_joined (PJ.cons pe_str (PJ.cons (pe_fmt (pe_fld (pv 0) rfl)) (PJ.cons pe_str (PJ.cons (pe_fmt (pe_fld (pv 0) rfl)) (PJ.cons pe_str (PJ.cons (pe_fmt (pe_fld (pv 0) rfl)) PJ.nil))))))))), ?_⟩
  have h1 := txt_len sz.x
  have h2 := txt_len sz.y
  have h3 := txt_len sz.s
  have e1 : (Str.empty).length = 0 := rfl
  have e2 : (("areas " : Str)).length = 6 := by decide +kernel
  have e3 : ((" " : Str)).length = 1 := by decide +kernel
  have big : 6000 ≤ sizeLine := by decide
  have l : ∀ {i : Int}, i.natAbs < 2 ^ 60 → i.natAbs.log2 < 1920 := fun h => Nat.lt_trans (log2_of h (by decide)) (by decide)
  refine ⟨_, rfl, ?_, ?_⟩
  · rw [Str.length_append, e1, e2]; omega
  refine ⟨_, rfl, a, C, dx, _, _, rfl, ha, MC.cl, MC.nE, mv_e t, .inr ⟨_, rfl, l sz.x, _, rfl, ?_, ?_⟩⟩
  · rw [Str.length_append, Str.length_append, e1, e2]; omega
  refine ⟨_, rfl, ?_, ?_⟩
  · rw [Str.length_append, Str.length_append, Str.length_append, e1, e2, e3]; omega
  refine ⟨_, rfl, a, C, dx, _, _, rfl, ha, MC.cl, MC.nN, mv_n t, .inr ⟨_, rfl, l sz.y, _, rfl, ?_, ?_⟩⟩
  · rw [Str.length_append, Str.length_append, Str.length_append, Str.length_append, e1, e2, e3]; omega
  refine ⟨_, rfl, ?_, ?_⟩
  · rw [Str.length_append, Str.length_append, Str.length_append, Str.length_append, Str.length_append, e1, e2, e3]; omega
  refine ⟨_, rfl, a, C, dx, _, _, rfl, ha, MC.cl, MC.nA, mv_a t, .inr ⟨_, rfl, l sz.s, _, rfl, ?_, ?_⟩⟩
  · rw [Str.length_append, Str.length_append, Str.length_append, Str.length_append, Str.length_append, Str.length_append, e1, e2, e3]; omega
  exact k
abbrev s_is_small_move : Stmt := topS 40
abbrev N_is_small_move : List Str := ["value", "number"]
theorem sc_is_small_move : FnScope N_is_small_move ["value"] (defScope s_is_small_move) := ⟨rfl, rfl, rfl, by decide +kernel, rfl, by decide +kernel, by decide +kernel⟩
theorem natSz {t : T3} (h : Szn 60 t) : Szn 60 t := h
theorem iteVn2 {a b : Int} {A B : Prop} (h : a ≠ b) (q : B) : if decide (V.int a = V.int b) = true then A else B := by
  rw [dV, decide_eq_false h]; exact iteF q
theorem sum_le {f : T3 → Str} : ∀ {M : List T3} {n : Nat}, (∀ m ∈ M, (f m).length ≤ n) → ((M.map f).map (·.length)).sum ≤ M.length * n
  | [], n, _ => by simp
  | m :: M, n, h => by
    have h1 := h m (by simp)
    have h2 := sum_le (M := M) fun x hx => h x (by simp [hx])
    simp only [List.map_cons, List.sum_cons, List.length_cons, Nat.succ_mul]
    omega
def sp_small (C : Addr) : Sp := fun vs H Q _ => ∃ (v : V) (t : T3), vs = [v] ∧ MvAt C H v t ∧ Szn 60 t ∧ ∀ H', Same H H' → Q (.bl true) H'
theorem ok_is_small_move (F : Fun K "is_small_move" "is_small_move" s_is_small_move f fd) (T : Txt K mg) (M : MoveC P w K mg base) (I : IsC K M.C) (c_triple : Def P w K mg base "triple" 3 ["one"] (sp_triple M.C)) : FnOk P w K mg base CX0 4 f fd ["value"] (sp_small M.C) := by
  refine F.ok sc_is_small_move (fun vs H Q E ⟨v, t, h, _⟩ => by rw [h]; rfl) (fun cdv A outer s' H vs Q E hr ⟨v, t, h, hv, sz, k⟩ => ?_)
  subst h
  obtain ⟨a, dx, rfl, ha⟩ := id hv
  refine ⟨_, (pss_one (ps_ret (pe_and (pe_callB call_isi (by rfl) T.n_isinstance (by decide +kernel) (pa_cons (pv 0) (pa_cons (pe_glob (v := V.ref M.C) rfl M.g rfl) pa_nil))) (pe_one (pe_callB (cr_all rfl) (by rfl) T.n_all (by decide +kernel) (pa_cons (pe_lc (own := [("number", 1)]) rfl sc_is_small_move.nd (pi_tup (pe_def c_triple hr (by decide) (pa_cons (pv 0) pa_nil))) (blkOk_by (N := N_is_small_move) (sc := defScope s_is_small_move) (by decide +kernel)) (fun _ _ _ _ _ => (pg_name (i := 1) sc_is_small_move.nd rfl (Or.inl rfl))) (fun _ _ _ _ _ => pts_nil) (fun _ _ _ _ _ => (pe_cmpR op_le (pe_callB call_abs (by rfl) T.n_abs (by decide +kernel) (pa_cons (pv 1) pa_nil)) (pe_glob (v := V.int (10 ^ 30)) rfl T.g_MOST_NUMBER ⟨_, rfl⟩) (nomark _)))) pa_nil)))))), ?_⟩
  refine ⟨_, rfl, _, _, _, _, true, rfl, .own M.C, .base (.ins ha I.cl I.ha I.hn I.htk I.hm), I.me, true, rfl, iteT ?_⟩
  refine ⟨_, rfl, _, t, rfl, hv, fun p H1 hp s1 e1 => ?_⟩
  refine ⟨p, rfl, ⟨_, SqT.of e1⟩, fun D hD => ?_⟩
  refine comp_V (n := (tV t).length) walk_tup hD (by show 3 ≤ 1000; decide) (fun _ => V.bl true) (fun H2 sm => sqT_same sm (SqT.of e1)) ?_ ?_
  · rintro i x H2 H3 Q' hi sm ⟨rfl, hx⟩ hq
    obtain ⟨c, rfl, hc⟩ : ∃ c : Int, x = V.int c ∧ c.natAbs < 2 ^ 60 := by
      match i, hx with
      | 0, hx => exact ⟨_, (Option.some.inj hx).symm, sz.x⟩
      | 1, hx => exact ⟨_, (Option.some.inj hx).symm, sz.y⟩
      | 2, hx => exact ⟨_, (Option.some.inj hx).symm, sz.s⟩
    refine ⟨rfl, _, rfl, _, rfl, _, _, rfl, rfl, ?_⟩
    have h30 : (if c < 0 then -c else c) ≤ 10 ^ 30 := by
      have : (2 : Nat) ^ 60 ≤ 10 ^ 30 := by decide +kernel
      split <;> omega
    show Q' (.bl (decide (_ ≤ _))) H3
    rw [decide_eq_true h30]
    exact hq _ (Same.refl _)
  · intro H2 sm h2
    refine ⟨D, [true, true, true], rfl, SqL.of h2, ?_⟩
    exact k _ (s1.trans sm)
abbrev s_MoveLot_init : Stmt := inClass (topS 41) 0
abbrev N_MoveLot_init : List Str := ["self", "changes", "index", "value", "own"]
theorem sc_MoveLot_init : FnScope N_MoveLot_init ["self", "changes"] (defScope s_MoveLot_init) := ⟨rfl, rfl, rfl, by decide +kernel, rfl, by decide +kernel, by decide +kernel⟩
def sp_MoveLot_init (CL C : Addr) : Sp := fun vs H Q _ => ∃ (p dx : Addr) (H0 : Hp) (cv : V) (M : List T3), vs = [.ref p, cv] ∧ H0 p = none ∧ H0 dx = none ∧ dx ≠ p ∧ H = upd (upd H0 dx (.own p)) p (.ins CL dx []) ∧
  MvsAt C H0 cv M ∧ M ≠ [] ∧ M.length ≤ 5 ∧ (∀ m ∈ M, Szn 60 m) ∧ ∀ (tv : V) (H' : Hp), Same H0 H' → H' p = some (.ins CL dx (ltF cv tv)) → Q .non H'
theorem ok_MoveLot_init {CL : Addr} (F : Fun K "__init__" "MoveLot.__init__" s_MoveLot_init f fd) (T : Txt K mg) (LC : LtC K CL) {C : Addr} (MS : MoveSt P w K mg base C) (c_is_small_move : Def P w K mg base "is_small_move" 4 ["value"] (sp_small C)) :
    FnOk P w K mg base CX0 5 f fd ["self", "changes"] (sp_MoveLot_init CL C) := by
  refine F.ok sc_MoveLot_init (fun vs H Q E ⟨p, dx, H0, cv, M, h, _⟩ => by rw [h]; rfl) (fun cdv A outer s' H vs Q E hr ⟨p, dx, H0, cv, M, h, p0, d0, ne, hH, hcv, hne, h5, hsz, k⟩ => ?_)
  subst h; subst hH
  obtain ⟨ca, xs, rfl, hca, hlen, hget⟩ := id hcv
  have s0 : Same H0 (upd (upd H0 dx (.own p)) p (.ins CL dx [])) := by
    refine (same_new d0).trans (same_new ?_)
    rw [upd_ne (Ne.symm ne)]; exact p0
  generalize hHH : upd (upd H0 dx (.own p)) p (.ins CL dx []) = H at *
  have hp : H p = some (.ins CL dx []) := by rw [← hHH]; exact upd_same
  have hc0 := s0 _ _ hca
  refine ⟨_, (pss_cons (ps_if (PW.pt (pw_or (pt_not (pt_val (pe_callB call_isi (by rfl) T.n_isinstance (by decide +kernel) (pa_cons (pv 1) (pa_cons (pe_bltn (v := V.ty "tuple") (u := Value.type "tuple") (by rfl) T.n_tuple (by decide +kernel) rfl) pa_nil))))) (pw_or1 (pt_cmpR (op_eqT0 (hu_of hr)) (pv 1) (pe_tup pa_nil) (nomark _))))) pss_never pss_nil)
    (pss_cons (ps_for PassesOwn.never rfl (pi_enumT (by rfl) T.n_enumerate (pa_cons (pv 1) pa_nil)) (pg_tup (by rfl) (pgs_cons (pg_name (i := 2) sc_MoveLot_init.nd rfl (Or.inl rfl)) (pgs_cons (pg_name (i := 3) sc_MoveLot_init.nd rfl (Or.inl rfl)) pgs_nil))) (pss_one (ps_if (PW.pt (pw_or (pt_cmpR op_eq (pv 2) (pe_glob (v := V.int 5) rfl T.g_MOST_TOLD ⟨_, rfl⟩) (nomark _)) (pw_or1 (pt_not (pt_val (pe_def c_is_small_move hr (by decide) (pa_cons (pv 3) pa_nil))))))) pss_never pss_nil)))
    (pss_cons (ps_fld (pv 0) (pv 1) rfl)
    (pss_one (ps_fld (pv 0) (pe_join pe_str (pe_lc (own := [("own", 4)]) rfl sc_MoveLot_init.nd (pi_tup (pv 1)) (blkOk_by (N := N_MoveLot_init) (sc := defScope s_MoveLot_init) (by decide +kernel)) (fun _ _ _ _ _ => (pg_name (i := 4) sc_MoveLot_init.nd rfl (Or.inl rfl))) (fun _ _ _ _ _ => pts_nil) (fun _ _ _ _ _ => (pe_callTy (call_strM MS hr (by decide)) (by rfl) T.n_str (by decide +kernel) (pa_cons (pv 4) pa_nil))))) rfl))))), ?_⟩
  refine ⟨_, rfl, _, _, _, _, true, rfl, .ty _, .base (.tup hc0), kit_ty (by decide +kernel), ?_⟩
  refine ⟨_, rfl, iteF ?_⟩
  refine ⟨_, rfl, Nat.zero_le _, fun e0 he0 => ⟨ca, e0, xs, rfl, rfl, SqT.of (same_new he0 _ _ hc0), SqT.of upd_same, _, rfl, ?_⟩⟩
  have hxe : xs.isEmpty = false := by
    cases xs with
    | nil => cases M with
      | nil => exact absurd rfl hne
      | cons _ _ => simp at hlen
    | cons _ _ => rfl
  rw [hxe]
  refine iteF ?_
  have s1 := s0.trans (same_new (o := .tup []) he0)
  have hp1 : upd H e0 (.tup []) p = some (.ins CL dx []) := same_new he0 _ _ hp
  generalize upd H e0 (.tup []) = H1 at *
  refine ⟨_, rfl, ca, xs, rfl, SqT.of (s1 _ _ hca), for_enumT (K := K) (a := ca) (xs := xs) (fun i σ H2 => ∃ (b1 b2 b3 : Option V), σ = [some (.ref p), some (.ref ca), b1, b2, b3] ∧ Same H1 H2) ⟨_, _, _, rfl, Same.refl _⟩ (fun i σ H2 _ ⟨_, _, _, _, sm⟩ => SqT.of (sm _ _ (s1 _ _ hca))) ?_ ?_⟩
  · rintro i x σ H2 Tt hi ⟨b1, b2, b3, rfl, sm⟩ hT
    obtain ⟨m, hm, hx⟩ := hget i x hi
    have sm2 := (s1.trans sm).trans (same_new (o := .tup [.int (i : Nat), x]) hT)
    have hil : i < M.length := (List.getElem?_eq_some_iff.mp hm).1
    refine ⟨Tt, _, rfl, SqT.of upd_same, rfl, _, _, rfl, _, _, rfl, rfl, ?_⟩
    refine ⟨_, rfl, rfl, _, rfl, iteVn2 (show ((i : Nat) : Int) ≠ 5 by omega) ?_⟩
    refine ⟨_, rfl, _, m, rfl, hx.up sm2, natSz (hsz m (List.mem_of_getElem? hm)), fun H3 s3 => ?_⟩
    exact ⟨_, rfl, iteF ⟨_, _, _, rfl, sm.trans ((same_new hT).trans s3)⟩⟩
  · rintro σ H2 ⟨b1, b2, b3, rfl, sm⟩
    have hp2 := sm _ _ hp1
    refine ⟨_, rfl, _, rfl, p, CL, dx, [], rfl, hp2, LC.cl, LC.nC, by show 0 < 1000; decide, ?_⟩
    have s2 : Same H0 (upd H2 p (.ins CL dx (putF "own_changes" (.ref ca) []))) := fun b o e => by
      rw [upd_ne (ne_of_none e p0)]; exact sm _ _ (s1 b o e)
    have hp3 : upd H2 p (.ins CL dx (putF "own_changes" (.ref ca) [])) p = _ := upd_same
    generalize upd H2 p (.ins CL dx (putF "own_changes" (.ref ca) [])) = H3 at *
    refine ⟨⟨_, rfl⟩, _, rfl, ca, rfl, ⟨_, SqT.of (s2 _ _ hca)⟩, fun D hD => ?_⟩
    refine comp_V (n := xs.length) walk_tup hD (by omega) (fun i => V.str (mvStr (M.getD i (0, 0, 0)))) (fun H4 sm4 => SqT.of (sm4 _ _ (s2 _ _ hca))) ?_ ?_
    · rintro i x H4 H5 Q' hi sm4 ⟨rfl, hx⟩ hq
      obtain ⟨m, hm, hmv⟩ := hget i x hx
      obtain ⟨ma, mdx, rfl, hma⟩ := hmv.up (s2.trans sm4)
      have := hq _ (Same.refl _)
      rw [List.getD_eq_getElem?_getD, hm] at this
      exact ⟨rfl, _, rfl, ma, mdx, _, rfl, hma, ma, mdx, m, rfl, hma, hsz m (List.mem_of_getElem? hm), _, rfl, this⟩
    · intro H4 sm4 h4
      have e1 : (List.range xs.length).map (fun i => V.str (mvStr (M.getD i (0, 0, 0)))) = (M.map mvStr).map V.str := by
        rw [hlen, List.map_map]
        exact range_map_getD M (0, 0, 0) (fun m => V.str (mvStr m))
      rw [e1] at h4
      refine ⟨_, D, M.map mvStr, rfl, rfl, .inl (SqL.of h4), ?_, ?_⟩
      · have h1 : ((M.map mvStr).map (·.length)).sum ≤ M.length * 6000 := sum_le fun m hm => mvStr_len (hsz m hm)
        have h2 : (("\n" : Str)).length = 1 := by decide +kernel
        have h3 : (M.map mvStr).length = M.length := List.length_map _
        rw [h2, h3]
        omega
      · refine ⟨_, rfl, p, CL, dx, _, rfl, sm4 _ _ hp3, LC.cl, LC.nT, by show 1 < 1000; decide, ?_⟩
        refine k _ _ (fun b o e => ?_) (by rw [upd_same, lt_put])
        rw [upd_ne (ne_of_none e p0)]; exact sm4 _ _ (s2 b o e)
end
end K67

namespace K67
open PySem L2 KX
/-- told moves that are small -/
def Tol (M : List T3) : Prop := M.length ≤ 5 ∧ ∀ m ∈ M, Small m
section
variable {P : Program} {w : World} {K : PySem.W.Frag} {mg : Str → Option Value} {base : Heap} {f : Addr} {fd : FuncData}
abbrev s_check_move_lot : Stmt := topS 43
abbrev N_check_move_lot : List Str := ["value"]
theorem sc_check_move_lot : FnScope N_check_move_lot ["value"] (defScope s_check_move_lot) := ⟨rfl, rfl, rfl, by decide +kernel, rfl, by decide +kernel, by decide +kernel⟩
def sp_check (CL C : Addr) : Sp := fun vs H Q _ => ∃ (v : V) (M : List T3), vs = [v] ∧ LotAt CL C H v M ∧ Q .non H
theorem ok_check_move_lot {C : Addr} (F : Fun K "check_move_lot" "check_move_lot" s_check_move_lot f fd) (T : Txt K mg) (ML : LotC P w K mg base) (I : IsC K ML.C) : FnOk P w K mg base CX0 1 f fd ["value"] (sp_check ML.C C) := by
  refine F.ok sc_check_move_lot (fun vs H Q E ⟨v, M, h, _⟩ => by rw [h]; rfl) (fun cdv A outer s' H vs Q E hr ⟨v, M, h, ⟨a, dx, cv, tv, hv, ha, _⟩, k⟩ => ?_)
  subst h; subst hv
  refine ⟨_, (pss_one (ps_if (pt_not (pt_val (pe_callB call_isi (by rfl) T.n_isinstance (by decide +kernel) (pa_cons (pv 0) (pa_cons (pe_glob (v := V.ref ML.C) rfl ML.g rfl) pa_nil))))) pss_never pss_nil)), ?_⟩
  exact ⟨_, rfl, _, _, _, _, true, rfl, .own ML.C, .base (.ins ha I.cl I.ha I.hn I.htk I.hm), I.me, _, rfl, iteF k⟩
abbrev s_triples_of : Stmt := topS 44
abbrev N_triples_of : List Str := ["told", "own"]
theorem sc_triples_of : FnScope N_triples_of ["told"] (defScope s_triples_of) := ⟨rfl, rfl, rfl, by decide +kernel, rfl, by decide +kernel, by decide +kernel⟩
def sp_triples (K : PySem.W.Frag) (C : Addr) : Sp := fun vs H Q _ => ∃ (G : Hp) (v : V) (M : List T3), vs = [v] ∧ Same G H ∧ MvsAt C G v M ∧ M.length ≤ 5 ∧ ∀ (u : V) (G' H' : Hp), Up G H G' H' → Dp K G' u (lD M) → Q u H'
theorem ok_triples_of {C : Addr} (F : Fun K "triples_of" "triples_of" s_triples_of f fd) (T : Txt K mg) (c_triple : Def P w K mg base "triple" 3 ["one"] (sp_triple C)) : FnOk P w K mg base CX0 4 f fd ["told"] (sp_triples K C) := by
  refine F.ok sc_triples_of (fun vs H Q E ⟨G, v, M, h, _⟩ => by rw [h]; rfl) (fun cdv A outer s' H vs Q E hr ⟨G0, v, M, h, v0, ⟨a, xs, hv, ha, hlen, hget⟩, h5, k⟩ => ?_)
  subst h; subst hv
  refine ⟨_, (pss_one (ps_ret (pe_lc (own := [("own", 1)]) rfl sc_triples_of.nd (pi_tup (pv 0)) (blkOk_by (N := N_triples_of) (sc := defScope s_triples_of) (by decide +kernel)) (fun _ _ _ _ _ => (pg_name (i := 1) sc_triples_of.nd rfl (Or.inl rfl))) (fun _ _ _ _ _ => pts_nil) (fun _ _ _ _ _ => (pe_def c_triple hr (by decide) (pa_cons (pv 1) pa_nil)))))), ?_⟩
  refine ⟨_, rfl, a, rfl, ⟨_, SqT.of (v0 _ _ ha)⟩, fun D hD => ?_⟩
  refine comp_R (n := xs.length) walk_tup v0 hD (by omega) (fun G y j => ∃ m, M[j]? = some m ∧ Dp K G y (tD m)) (fun G G' y j s ⟨m, e, q⟩ => ⟨m, e, Dp.up q s⟩) (fun H4 sm => SqT.of (sm _ _ (v0 _ _ ha))) ?_ ?_
  · rintro i x G4 H4 H5 Q' hi u4 ⟨rfl, hx⟩ hq
    obtain ⟨m, hm, hmv⟩ := hget i x hx
    refine ⟨rfl, _, rfl, _, m, rfl, hmv.up (v0.trans u4.h), fun p H6 hp s6 e6 => ?_⟩
    exact hq _ _ _ ((Up.refl u4.v).newT hp s6 e6) ⟨m, hm, t3_mk (SqT.of upd_same)⟩
  · intro G1 acc H1 u1 hacc hal hR
    refine k _ _ _ u1 (.lst (SqL.of upd_same) (dpa_of (by rw [hal, hlen, List.length_map]) fun j y e => ?_))
    obtain ⟨m, e1, e2⟩ := hR j y e
    exact ⟨tD m, by rw [List.getElem?_map, e1]; rfl, e2⟩
abbrev s_move_form_of : Stmt := topS 45
abbrev N_move_form_of : List Str := ["told"]
theorem sc_move_form_of : FnScope N_move_form_of ["told"] (defScope s_move_form_of) := ⟨rfl, rfl, rfl, by decide +kernel, rfl, by decide +kernel, by decide +kernel⟩
def sp_mfo (K : PySem.W.Frag) (C : Addr) : Sp := fun vs H Q _ => ∃ (G : Hp) (v : V) (M : List T3), vs = [v] ∧ Same G H ∧ MvsAt C G v M ∧ Tol M ∧ ∀ (u : V) (G' H' : Hp), Up G H G' H' → Dp K G' u (fD (formL M)) → Q u H'
theorem ok_move_form_of {C : Addr} (F : Fun K "move_form_of" "move_form_of" s_move_form_of f fd) (c_triples_of : Def P w K mg base "triples_of" 4 ["told"] (sp_triples K C)) (c_form_of_moves : Def P w K mg base "form_of_moves" 6 ["moves"] (sp_form K)) : FnOk P w K mg base CX0 7 f fd ["told"] (sp_mfo K C) := by
  refine F.ok sc_move_form_of (fun vs H Q E ⟨G, v, M, h, _⟩ => by rw [h]; rfl) (fun cdv A outer s' H vs Q E hr ⟨G0, v, M, h, v0, hv, ⟨h5, hM⟩, k⟩ => ?_)
  subst h
  refine ⟨_, (pss_one (ps_ret (pe_def c_form_of_moves hr (by decide) (pa_cons (pe_def c_triples_of hr (by decide) (pa_cons (pv 0) pa_nil)) pa_nil)))), ?_⟩
  refine ⟨_, rfl, G0, _, M, rfl, v0, hv, h5, fun u1 G1 H1 x1 d1 => ?_⟩
  exact ⟨G1, _, M, rfl, x1.v, d1, h5, hM, fun u2 G2 H2 x2 d2 => k _ _ _ (x1.trans x2) d2⟩
abbrev s_move_cosets_of : Stmt := topS 46
abbrev N_move_cosets_of : List Str := ["form", "east", "north", "step"]
theorem sc_move_cosets_of : FnScope N_move_cosets_of ["form"] (defScope s_move_cosets_of) := ⟨rfl, rfl, rfl, by decide +kernel, rfl, by decide +kernel, by decide +kernel⟩
def cosV (F : Fm) : V := match cosets F with
  | none => .non
  | some c => .int c
def sp_mco (K : PySem.W.Frag) : Sp := fun vs H Q _ => ∃ (v : V) (F : Fm), vs = [v] ∧ Dp K H v (fD F) ∧ Canon F ∧ Sf F ∧ ∀ H', Same H H' → Q (cosV F) H'
theorem ok_move_cosets_of (F : Fun K "move_cosets_of" "move_cosets_of" s_move_cosets_of f fd) : FnOk P w K mg base CX0 1 f fd ["form"] (sp_mco K) := by
  refine F.ok sc_move_cosets_of (fun vs H Q E ⟨v, F, h, _⟩ => by rw [h]; rfl) (fun cdv A outer s' H vs Q E hr ⟨v, F, h, d, C, S, k⟩ => ?_)
  subst h
  obtain ⟨fa, ev, nv, rfl, sq, de, dn⟩ := f_inv d
  refine ⟨_, (pss_cons (ps_asg (pv 0) (pg_tup (by rfl) (pgs_cons (pg_name (i := 1) sc_move_cosets_of.nd rfl (Or.inl rfl)) (pgs_cons (pg_name (i := 2) sc_move_cosets_of.nd rfl (Or.inl rfl)) (pgs_cons (pg_name (i := 3) sc_move_cosets_of.nd rfl (Or.inl rfl)) pgs_nil)))))
    (pss_one (ps_ret (pe_ifExp (PW.pt (pw_or (pt_cmpR (op_eqD hr.units) (pv 1) (pe_tup pa_nil) (nomark _)) (pw_or1 (pt_cmpR (op_eqD hr.units) (pv 2) (pe_tup pa_nil) (nomark _))))) pe_non (pe_op op_mulW (pe_op op_mulW (pe_ix ix_tup (pv 1) pe_int (fun _ _ => rfl)) (pe_ix ix_tup (pv 2) pe_int (fun _ _ => rfl))) (pv 3)))))), ?_⟩
  refine ⟨_, rfl, fa, _, rfl, sq, rfl, _, _, rfl, _, _, rfl, _, _, rfl, rfl, ?_⟩
  refine e_test (v := ev) (o := eO F) (hvar rfl) de fun H1 s1 => ?_
  cases he : eO F with
  | none =>
    have e0 := eO_none C he
    refine iteT ?_
    have := k H1 s1
    unfold cosV cosets at this
    rw [e0, if_pos (.inl rfl)] at this
    exact this
  | some t =>
    obtain ⟨rfl, ne⟩ := eO_some he
    refine iteF ?_
    refine e_test (v := nv) (o := nO F) (hvar rfl) (Dp.up dn s1) fun H2 s2 => ?_
    have s12 := s1.trans s2
    cases hn : nO F with
    | none =>
      have n0 := nO_none C hn
      refine iteT ?_
      have := k H2 s12
      unfold cosV cosets at this
      rw [n0, if_pos (.inr rfl)] at this
      exact this
    | some t =>
      obtain ⟨rfl, ne2⟩ := nO_some hn
      rw [he] at de
      rw [hn] at dn
      obtain ⟨ea, rfl, se⟩ := t3_inv (t := F.e) (Dp.up de s12)
      obtain ⟨na, rfl, sn⟩ := t3_inv (t := F.n) (Dp.up dn s12)
      refine iteF ?_
      refine ⟨_, rfl, _, _, _, _, rfl, rfl, se, rfl, _, rfl, _, _, _, _, rfl, rfl, sn, rfl, _, _, rfl, rfl, mulW_of S.e1 S.n2 (by decide) (by decide) (by decide), ?_⟩
      refine ⟨_, rfl, _, _, rfl, rfl, mulW_of (sz_mul S.e1 S.n2) S.z (by decide) (by decide) (by decide), ?_⟩
      have := k H2 s12
      unfold cosV cosets at this
      rw [if_neg (by rintro (h | h); exact ne h; exact ne2 h)] at this
      exact this
abbrev s_move_form : Stmt := topS 47
abbrev N_move_form : List Str := ["lot"]
theorem sc_move_form : FnScope N_move_form ["lot"] (defScope s_move_form) := ⟨rfl, rfl, rfl, by decide +kernel, rfl, by decide +kernel, by decide +kernel⟩
def sp_mf (K : PySem.W.Frag) (CL C : Addr) : Sp := fun vs H Q _ => ∃ (G : Hp) (v : V) (M : List T3), vs = [v] ∧ Same G H ∧ LotAt CL C G v M ∧ Tol M ∧ ∀ (u : V) (G' H' : Hp), Up G H G' H' → Dp K G' u (fD (formL M)) → Q u H'
theorem ok_move_form {C : Addr} (F : Fun K "move_form" "move_form" s_move_form f fd) (ML : LotC P w K mg base) (c_check_move_lot : Def P w K mg base "check_move_lot" 1 ["value"] (sp_check ML.C C)) (c_move_form_of : Def P w K mg base "move_form_of" 7 ["told"] (sp_mfo K C)) :
    FnOk P w K mg base CX0 8 f fd ["lot"] (sp_mf K ML.C C) := by
  refine F.ok sc_move_form (fun vs H Q E ⟨G, v, M, h, _⟩ => by rw [h]; rfl) (fun cdv A outer s' H vs Q E hr ⟨G0, v, M, h, v0, hv, hM, k⟩ => ?_)
  subst h
  refine ⟨_, (pss_cons (ps_expr (pe_def c_check_move_lot hr (by decide) (pa_cons (pv 0) pa_nil)))
    (pss_one (ps_ret (pe_def c_move_form_of hr (by decide) (pa_cons (pe_changes ML hr (by decide) (pv 0)) pa_nil))))), ?_⟩
  have hv1 := hv.up v0
  refine ⟨_, rfl, _, M, rfl, hv1, ?_⟩
  obtain ⟨a, dx, cv, tv, rfl, ha, hcv⟩ := hv
  refine ⟨_, rfl, a, dx, _, rfl, v0 _ _ ha, a, dx, _, _, rfl, v0 _ _ ha, lt_c _ _, ?_⟩
  exact ⟨G0, _, M, rfl, v0, hcv, hM, k⟩
abbrev s_move_cosets : Stmt := topS 48
abbrev N_move_cosets : List Str := ["lot"]
theorem sc_move_cosets : FnScope N_move_cosets ["lot"] (defScope s_move_cosets) := ⟨rfl, rfl, rfl, by decide +kernel, rfl, by decide +kernel, by decide +kernel⟩
def sp_mc (CL C : Addr) : Sp := fun vs H Q _ => ∃ (G : Hp) (v : V) (M : List T3), vs = [v] ∧ Same G H ∧ LotAt CL C G v M ∧ Tol M ∧ ∀ (H' : Hp), Same H H' → Q (cosV (formL M)) H'
theorem ok_move_cosets {CL C : Addr} (F : Fun K "move_cosets" "move_cosets" s_move_cosets f fd) (c_move_form : Def P w K mg base "move_form" 8 ["lot"] (sp_mf K CL C)) (c_move_cosets_of : Def P w K mg base "move_cosets_of" 1 ["form"] (sp_mco K)) :
    FnOk P w K mg base CX0 9 f fd ["lot"] (sp_mc CL C) := by
  refine F.ok sc_move_cosets (fun vs H Q E ⟨G, v, M, h, _⟩ => by rw [h]; rfl) (fun cdv A outer s' H vs Q E hr ⟨G0, v, M, h, v0, hv, hM, k⟩ => ?_)
  subst h
  refine ⟨_, (pss_one (ps_ret (pe_def c_move_cosets_of hr (by decide) (pa_cons (pe_def c_move_form hr (by decide) (pa_cons (pv 0) pa_nil)) pa_nil)))), ?_⟩
  refine ⟨_, rfl, G0, _, M, rfl, v0, hv, hM, fun u1 G1 H1 x1 d1 => ?_⟩
  exact ⟨_, _, rfl, Dp.up d1 x1.v, (formL_right hM.1 hM.2).c, formL_sz hM.1 hM.2, fun H2 s2 => k H2 (x1.h.trans s2)⟩
abbrev s_same_moves : Stmt := topS 49
abbrev N_same_moves : List Str := ["lot", "other_lot"]
theorem sc_same_moves : FnScope N_same_moves ["lot", "other_lot"] (defScope s_same_moves) := ⟨rfl, rfl, rfl, by decide +kernel, rfl, by decide +kernel, by decide +kernel⟩
def sp_same (CL C : Addr) : Sp := fun vs H Q _ => ∃ (G : Hp) (v w : V) (M N : List T3), vs = [v, w] ∧ Same G H ∧ LotAt CL C G v M ∧ LotAt CL C G w N ∧ Tol M ∧ Tol N ∧ ∀ (H' : Hp), Same H H' → Q (.bl (decide (formL M = formL N))) H'
theorem ok_same_moves {CL C : Addr} (F : Fun K "same_moves" "same_moves" s_same_moves f fd) (c_move_form : Def P w K mg base "move_form" 8 ["lot"] (sp_mf K CL C)) : FnOk P w K mg base CX0 9 f fd ["lot", "other_lot"] (sp_same CL C) := by
  refine F.ok sc_same_moves (fun vs H Q E ⟨G, v, w, M, N, h, _⟩ => by rw [h]; rfl) (fun cdv A outer s' H vs Q E hr ⟨G0, v, w, M, N, h, v0, hv, hw, hM, hN, k⟩ => ?_)
  subst h
  refine ⟨_, (pss_one (ps_ret (pe_cmpR (op_eqD hr.units) (pe_def c_move_form hr (by decide) (pa_cons (pv 0) pa_nil)) (pe_def c_move_form hr (by decide) (pa_cons (pv 1) pa_nil)) (nomark _)))), ?_⟩
  refine ⟨_, rfl, G0, _, M, rfl, v0, hv, hM, fun u1 G1 H1 x1 d1 => ?_⟩
  refine ⟨_, rfl, G1, _, N, rfl, x1.v, hw.up x1.g, hN, fun u2 G2 H2 x2 d2 => ?_⟩
  refine ⟨_, _, Dp.up d1 (x2.g.trans x2.v), Dp.up d2 x2.v, shaped_fD _, shaped_fD _, ?_⟩
  rw [eqv_fD (formL_right hM.1 hM.2).c (formL_right hN.1 hN.2).c]
  exact k _ (x1.trans x2).h
abbrev s_moves_within : Stmt := topS 50
abbrev N_moves_within : List Str := ["lot", "other_lot", "form", "own"]
theorem sc_moves_within : FnScope N_moves_within ["lot", "other_lot"] (defScope s_moves_within) := ⟨rfl, rfl, rfl, by decide +kernel, rfl, by decide +kernel, by decide +kernel⟩
def sp_within (CL C : Addr) : Sp := fun vs H Q _ => ∃ (G : Hp) (v w : V) (M N : List T3), vs = [v, w] ∧ Same G H ∧ LotAt CL C G v M ∧ LotAt CL C G w N ∧ Tol M ∧ Tol N ∧ ∀ (H' : Hp), Same H H' → Q (.bl (M.all fun m => decide (restF (formL N) m = (0, 0, 0)))) H'
theorem ok_moves_within {C : Addr} (F : Fun K "moves_within" "moves_within" s_moves_within f fd) (T : Txt K mg) (ML : LotC P w K mg base) (c_check_move_lot : Def P w K mg base "check_move_lot" 1 ["value"] (sp_check ML.C C)) (c_move_form : Def P w K mg base "move_form" 8 ["lot"] (sp_mf K ML.C C))
    (c_tells : Def P w K mg base "tells" 3 ["form", "move"] (sp_tells K)) (c_triple : Def P w K mg base "triple" 3 ["one"] (sp_triple C)) : FnOk P w K mg base CX0 9 f fd ["lot", "other_lot"] (sp_within ML.C C) := by
  refine F.ok sc_moves_within (fun vs H Q E ⟨G, v, w, M, N, h, _⟩ => by rw [h]; rfl) (fun cdv A outer s' H vs Q E hr ⟨G0, v, w, M, N, h, v0, hv, hw, hM, hN, k⟩ => ?_)
  subst h
  refine ⟨_, (pss_cons (ps_expr (pe_def c_check_move_lot hr (by decide) (pa_cons (pv 0) pa_nil)))
    (pss_cons (ps_set (i := 2) sc_moves_within.nd rfl (Or.inr rfl) (pe_def c_move_form hr (by decide) (pa_cons (pv 1) pa_nil)))
    (pss_one (ps_ret (pe_callB (cr_all rfl) (by rfl) T.n_all (by decide +kernel) (pa_cons (pe_lc (own := [("own", 3)]) rfl sc_moves_within.nd (pi_tup (pe_changes ML hr (by decide) (pv 0))) (blkOk_by (N := N_moves_within) (sc := defScope s_moves_within) (by decide +kernel)) (fun _ _ _ _ _ => (pg_name (i := 3) sc_moves_within.nd rfl (Or.inl rfl))) (fun _ _ _ _ _ => pts_nil) (fun _ _ _ _ _ => (pe_def c_tells hr (by decide) (pa_cons (pv 2) (pa_cons (pe_def c_triple hr (by decide) (pa_cons (pv 3) pa_nil)) pa_nil))))) pa_nil)))))), ?_⟩
  refine ⟨_, rfl, _, M, rfl, hv.up v0, ?_⟩
  refine ⟨_, rfl, G0, _, N, rfl, v0, hw, hN, fun u1 G1 H1 x1 d1 => ?_⟩
  obtain ⟨a, dx, cv, tv, rfl, ha, hcv⟩ := hv.up x1.g
  obtain ⟨ca, xs, rfl, hca, hlen, hget⟩ := hcv
  have d1 := Dp.up d1 x1.v
  refine ⟨_, rfl, a, dx, _, rfl, x1.v _ _ ha, a, dx, _, _, rfl, x1.v _ _ ha, lt_c _ _, ca, rfl, ⟨_, SqT.of (x1.v _ _ hca)⟩, fun D hD => ?_⟩
  have h5 := hM.1
  refine comp_V (n := xs.length) walk_tup hD (by omega) (fun i => V.bl (decide (restF (formL N) (M.getD i (0, 0, 0)) = (0, 0, 0)))) (fun H4 sm4 => SqT.of (sm4 _ _ (x1.v _ _ hca))) ?_ ?_
  · rintro i x H4 H5 Q' hi sm4 ⟨rfl, hx⟩ hq
    obtain ⟨m, hm, hmv⟩ := hget i x hx
    refine ⟨rfl, _, rfl, _, rfl, _, m, rfl, hmv.up (x1.v.trans sm4), fun p H6 hp s6 e6 => ?_⟩
    refine ⟨_, p, formL N, m, rfl, Dp.up d1 (sm4.trans s6), SqT.of e6, (formL_right hN.1 hN.2).c, formL_sz hN.1 hN.2, (hM.2 m (List.mem_of_getElem? hm)).szn, fun H7 s7 => ?_⟩
    have := hq _ (s6.trans s7)
    rw [List.getD_eq_getElem?_getD, hm] at this
    exact this
  · intro H4 sm4 h4
    have e1 : (List.range xs.length).map (fun i => V.bl (decide (restF (formL N) (M.getD i (0, 0, 0)) = (0, 0, 0)))) = (M.map fun m => decide (restF (formL N) m = (0, 0, 0))).map V.bl := by
      rw [hlen, List.map_map]
      exact range_map_getD M (0, 0, 0) (fun m => V.bl (decide (restF (formL N) m = (0, 0, 0))))
    rw [e1] at h4
    refine ⟨D, M.map fun m => decide (restF (formL N) m = (0, 0, 0)), rfl, SqL.of h4, ?_⟩
    rw [List.all_map]
    exact k _ (x1.h.trans sm4)
end
end K67

namespace K67
open PySem L2 KX
theorem cut1 {xs : List V} {i : Nat} (h : i ≤ xs.length) : cutV xs none (some (i : Int)) = xs.take i := by
  unfold cutV
  rw [HT.sIx_none, HT.sIx_nat, List.drop_zero, Nat.sub_zero, Nat.min_eq_left h]
theorem cut2 {xs : List V} {i : Nat} (h : i < xs.length) : cutV xs (some ((i : Int) + 1)) none = xs.drop (i + 1) := by
  unfold cutV
  have e : ((i : Int) + 1) = ((i + 1 : Nat) : Int) := by omega
  rw [HT.sIx_none, e, HT.sIx_nat, Nat.min_eq_left (by omega)]
  exact List.take_of_length_le (by simp)
def Fo (C : Addr) (G : Hp) (xs : List V) (M : List T3) : Prop := xs.length = M.length ∧ ∀ (i : Nat) (x : V), xs[i]? = some x → ∃ m, M[i]? = some m ∧ MvAt C G x m
theorem Fo.up {C : Addr} {G H : Hp} {xs : List V} {M : List T3} (h : Fo C G xs M) (s : Same G H) : Fo C H xs M := ⟨h.1, fun i x e => let ⟨m, e1, e2⟩ := h.2 i x e; ⟨m, e1, e2.up s⟩⟩
theorem Fo.nil {C : Addr} {G : Hp} : Fo C G [] [] := ⟨rfl, fun i x e => by simp at e⟩
theorem Fo.take {C : Addr} {G : Hp} {xs : List V} {M : List T3} (h : Fo C G xs M) (n : Nat) : Fo C G (xs.take n) (M.take n) := by
  refine ⟨by simp [h.1], fun i x e => ?_⟩
  rw [List.getElem?_take] at e ⊢
  split at e
  · rename_i hi; rw [if_pos hi]; exact h.2 i x e
  · cases e
theorem Fo.drop {C : Addr} {G : Hp} {xs : List V} {M : List T3} (h : Fo C G xs M) (n : Nat) : Fo C G (xs.drop n) (M.drop n) := by
  refine ⟨by simp [h.1], fun i x e => ?_⟩
  rw [List.getElem?_drop] at e ⊢
  exact h.2 _ x e
theorem Fo.app {C : Addr} {G : Hp} {xs ys : List V} {M N : List T3} (h : Fo C G xs M) (k : Fo C G ys N) : Fo C G (xs ++ ys) (M ++ N) := by
  refine ⟨by simp [h.1, k.1], fun i x e => ?_⟩
  by_cases hi : i < xs.length
  · rw [List.getElem?_append_left hi] at e
    rw [List.getElem?_append_left (by rw [← h.1]; exact hi)]
    exact h.2 i x e
  · rw [List.getElem?_append_right (by omega)] at e
    rw [List.getElem?_append_right (by rw [← h.1]; omega), ← h.1]
    exact k.2 _ x e
def others (M : List T3) (i : Nat) : List T3 := M.take i ++ M.drop (i + 1)
def ndN (M : List T3) (n : Nat) : List Nat := (List.range n).filter fun i => decide (restF (formL (others M i)) (M.getD i (0, 0, 0)) = (0, 0, 0))
def ndL (M : List T3) : List Int := (ndN M M.length).map fun i : Nat => (i : Int)
theorem ndN_s (M : List T3) (n : Nat) : ndN M (n + 1) = ndN M n ++ if restF (formL (others M n)) (M.getD n (0, 0, 0)) = (0, 0, 0) then [n] else [] := by
  unfold ndN
  rw [List.range_succ, List.filter_append]
  congr 1
  by_cases h : restF (formL (others M n)) (M.getD n (0, 0, 0)) = (0, 0, 0)
  · rw [List.filter_cons, decide_eq_true h, if_pos h]; rfl
  · rw [List.filter_cons, decide_eq_false h, if_neg h]; rfl
theorem ndN_len (M : List T3) (n : Nat) : (ndN M n).length ≤ n := by
  unfold ndN
  exact Nat.le_trans (List.length_filter_le _ _) (by simp)
theorem Tol.others {M : List T3} (h : Tol M) (i : Nat) : Tol (others M i) := by
  refine ⟨?_, fun m hm => ?_⟩
  · have := h.1
    unfold K67.others
    simp only [List.length_append, List.length_take, List.length_drop]
    omega
  · unfold K67.others at hm
    rcases List.mem_append.1 hm with q | q
    · exact h.2 m (List.mem_of_mem_take q)
    · exact h.2 m (List.mem_of_mem_drop q)
section
variable {P : Program} {w : World} {K : PySem.W.Frag} {mg : Str → Option Value} {base : Heap} {f : Addr} {fd : FuncData}
abbrev s_needless_moves : Stmt := topS 51
abbrev N_needless_moves : List Str := ["lot", "found", "at", "own", "others"]
theorem sc_needless_moves : FnScope N_needless_moves ["lot"] (defScope s_needless_moves) := ⟨rfl, rfl, rfl, by decide +kernel, rfl, by decide +kernel, by decide +kernel⟩
def sp_needless (CL C : Addr) : Sp := fun vs H Q _ => ∃ (v : V) (M : List T3), vs = [v] ∧ LotAt CL C H v M ∧ Tol M ∧ ∀ (p : Addr) (H' : Hp), H p = none → Same H H' → H' p = some (.tup ((ndL M).map V.int)) → Q (.ref p) H'
theorem ok_needless_moves {C : Addr} (F : Fun K "needless_moves" "needless_moves" s_needless_moves f fd) (T : Txt K mg) (ML : LotC P w K mg base) (c_check_move_lot : Def P w K mg base "check_move_lot" 1 ["value"] (sp_check ML.C C)) (c_move_form_of : Def P w K mg base "move_form_of" 7 ["told"] (sp_mfo K C))
    (c_tells : Def P w K mg base "tells" 3 ["form", "move"] (sp_tells K)) (c_triple : Def P w K mg base "triple" 3 ["one"] (sp_triple C)) : FnOk P w K mg base CX0 8 f fd ["lot"] (sp_needless ML.C C) := by
  refine F.ok sc_needless_moves (fun vs H Q E ⟨v, M, h, _⟩ => by rw [h]; rfl) (fun cdv A outer s' H vs Q E hr ⟨v, M, h, hv, hM, k⟩ => ?_)
  subst h
  obtain ⟨a, dx, cv, tv, rfl, ha, hcv⟩ := id hv
  obtain ⟨ca, xs, rfl, hca, hlen, hget⟩ := hcv
  have fo : Fo C H xs M := ⟨hlen, hget⟩
  have h5 := hM.1
  refine ⟨_, (pss_cons (ps_expr (pe_def c_check_move_lot hr (by decide) (pa_cons (pv 0) pa_nil)))
    (pss_cons (ps_set (i := 1) sc_needless_moves.nd rfl (Or.inl rfl) (pe_lst pa_nil))
    (pss_cons (ps_for PassesOwn.never rfl (pi_enumT (by rfl) T.n_enumerate (pa_cons (pe_changes ML hr (by decide) (pv 0)) pa_nil)) (pg_tup (by rfl) (pgs_cons (pg_name (i := 2) sc_needless_moves.nd rfl (Or.inl rfl)) (pgs_cons (pg_name (i := 3) sc_needless_moves.nd rfl (Or.inl rfl)) pgs_nil))) (pss_cons (ps_set (i := 4) sc_needless_moves.nd rfl (Or.inl rfl) (pe_tup (StX.pa_star (pe_slice sl_tup (pe_changes ML hr (by decide) (pv 0)) po_none (po_some (pv 2))) (StX.pa_star (pe_slice sl_tup (pe_changes ML hr (by decide) (pv 0)) (po_some (pe_op op_add (pv 2) pe_int)) po_none) pa_nil))))
    (pss_one (ps_if (pt_val (pe_def c_tells hr (by decide) (pa_cons (pe_def c_move_form_of hr (by decide) (pa_cons (pv 4) pa_nil)) (pa_cons (pe_def c_triple hr (by decide) (pa_cons (pv 3) pa_nil)) pa_nil)))) (pss_one (ps_expr (pe_bm PySem.F.plainAttrs_list PySem.F.slot_list_append PySem.F.type_list_append mt_append (pv 1) (pa_cons (pv 2) pa_nil)))) pss_nil))))
    (pss_one (ps_ret (pe_callTy call_tuple_of (by rfl) T.n_tuple (by decide +kernel) (pa_cons (pv 1) pa_nil))))))), ?_⟩
  refine ⟨_, rfl, _, M, rfl, hv, ?_⟩
  refine ⟨Nat.zero_le _, fun fl hfl => ?_⟩
  have s0 := same_new (o := .lst []) hfl
  refine ⟨_, rfl, a, dx, _, rfl, s0 _ _ ha, a, dx, _, _, rfl, s0 _ _ ha, lt_c _ _, ca, xs, rfl, SqT.of (s0 _ _ hca), for_enumT (K := K) (a := ca) (xs := xs) (fun i σ H2 => ∃ (b2 b3 b4 : Option V), σ = [some (.ref a), some (.ref fl), b2, b3, b4] ∧ Same H H2 ∧ H2 fl = some (.lst ((ndN M i).map fun i => V.int (i : Nat))))
    ⟨_, _, _, rfl, s0, upd_same⟩ (fun i σ H2 _ ⟨_, _, _, _, sm, _⟩ => SqT.of (sm _ _ hca)) ?_ ?_⟩
  · rintro i x σ H2 Tt hi ⟨b2, b3, b4, rfl, sm, hacc⟩ hT
    have sT := same_new (o := .tup [.int (i : Nat), x]) hT
    have sm1 := sm.trans sT
    have hil : i < xs.length := (List.getElem?_eq_some_iff.mp hi).1
    refine ⟨Tt, _, rfl, SqT.of upd_same, rfl, _, _, rfl, _, _, rfl, rfl, ?_⟩
    have hacc1 := sT _ _ hacc
    generalize upd H2 Tt (.tup [.int (i : Nat), x]) = H3 at *
    refine ⟨_, rfl, a, dx, _, rfl, sm1 _ _ ha, a, dx, _, _, rfl, sm1 _ _ ha, lt_c _ _, _, rfl, _, rfl, ca, xs, rfl, SqT.of (sm1 _ _ hca), ?_, fun p1 hp1 => ?_⟩
    · rw [HT.sIx_nat]; omega
    refine ⟨p1, _, rfl, .inl (SqT.of upd_same), ?_⟩
    have s1 := same_new (o := .tup (cutV xs none (some ((i : Nat) : Int)))) hp1
    have sm2 := sm1.trans s1
    have hacc2 := s1 _ _ hacc1
    generalize upd H3 p1 (.tup (cutV xs none (some ((i : Nat) : Int)))) = H4 at *
    refine ⟨_, rfl, a, dx, _, rfl, sm2 _ _ ha, a, dx, _, _, rfl, sm2 _ _ ha, lt_c _ _, _, rfl, _, _, rfl, rfl, _, rfl, ca, xs, rfl, SqT.of (sm2 _ _ hca), ?_, fun p2 hp2 => ?_⟩
    · have e : ((i : Int) + 1) = ((i + 1 : Nat) : Int) := by omega
      rw [e, HT.sIx_nat]; omega
    refine ⟨p2, _, rfl, .inl (SqT.of upd_same), ?_⟩
    have s2 := same_new (o := .tup (cutV xs (some ((i : Int) + 1)) none)) hp2
    have sm3 := sm2.trans s2
    have hacc3 := s2 _ _ hacc2
    generalize upd H4 p2 (.tup (cutV xs (some ((i : Int) + 1)) none)) = H5 at *
    rw [cut1 (by omega), cut2 hil]
    refine ⟨?_, fun p3 hp3 => ?_⟩
    · simp only [List.length_append, List.length_take, List.length_drop, List.length_nil]
      exact Nat.le_trans (show _ ≤ 10 by omega) (by decide)
    have s3 := same_new (o := .tup (xs.take i ++ (xs.drop (i + 1) ++ []))) hp3
    have sm4 := sm3.trans s3
    have hacc4 := s3 _ _ hacc3
    have he : upd H5 p3 (.tup (xs.take i ++ (xs.drop (i + 1) ++ []))) p3 = _ := upd_same
    generalize upd H5 p3 (.tup (xs.take i ++ (xs.drop (i + 1) ++ []))) = H6 at *
    have fo2 : Fo C H6 (xs.take i ++ (xs.drop (i + 1) ++ [])) (others M i) := by
      have := (fo.take i).app (fo.drop (i + 1))
      rw [List.append_nil]
      exact this.up sm4
    obtain ⟨m, hm, hmv⟩ := hget i x hi
    refine ⟨_, rfl, H6, _, others M i, rfl, Same.refl _, ⟨p3, _, rfl, he, fo2⟩, hM.others i, fun u1 G1 H7 x1 d1 => ?_⟩
    have sm5 := sm4.trans x1.h
    refine ⟨_, rfl, _, m, rfl, hmv.up sm5, fun p4 H8 hp4 s8 e8 => ?_⟩
    refine ⟨_, p4, formL (others M i), m, rfl, Dp.up d1 (x1.v.trans s8), SqT.of e8, (formL_right (hM.others i).1 (hM.others i).2).c, formL_sz (hM.others i).1 (hM.others i).2, (hM.2 m (List.mem_of_getElem? hm)).szn, fun H9 s9 => ?_⟩
    have sm6 := (sm5.trans s8).trans s9
    have hacc6 := s9 _ _ (s8 _ _ (x1.h _ _ hacc4))
    have em : M.getD i (0, 0, 0) = m := by rw [List.getD_eq_getElem?_getD, hm]; rfl
    have eN := ndN_s M i
    rw [em] at eN
    refine ⟨_, rfl, iteD (fun h0 => ?_) (fun h0 => ?_)⟩
    · rw [if_pos h0] at eN
      refine ⟨_, rfl, .inl ⟨rfl, _, SqL.of hacc6⟩, _, rfl, fl, _, _, rfl, rfl, hacc6, ?_, ?_⟩
      · rw [List.length_map]
        exact Nat.lt_of_le_of_lt (ndN_len M i) (Nat.lt_of_lt_of_le (show i < 10 by omega) (by decide))
      · refine ⟨_, _, _, rfl, fun b o e => ?_, ?_⟩
        · rw [upd_ne (ne_of_none e hfl)]; exact sm6 b o e
        · rw [upd_same, eN, List.map_append]; rfl
    · rw [if_neg h0, List.append_nil] at eN
      exact ⟨_, _, _, rfl, sm6, by rw [eN]; exact hacc6⟩
  · rintro σ H2 ⟨b2, b3, b4, rfl, sm, hacc⟩
    refine ⟨_, rfl, fl, _, rfl, .inl ⟨SqL.of hacc, fun l hl => ?_⟩⟩
    refine k l _ (sm.free hl) (sm.trans (same_new hl)) ?_
    rw [upd_same, hlen]
    unfold ndL
    rw [List.map_map]; rfl
end
end K67

namespace K67
open PySem L2 KX
/-- the heap of a turn in which at most the reel changed -/
def Dr (rl : Addr) (H H' : Hp) : Prop := ∀ b o, b ≠ rl → H b = some o → H' b = some o
theorem Dr.refl (rl : Addr) (H : Hp) : Dr rl H H := fun _ _ _ e => e
theorem Dr.trans {rl : Addr} {H H1 H2 : Hp} (a : Dr rl H H1) (b : Dr rl H1 H2) : Dr rl H H2 := fun x o n e => b x o n (a x o n e)
theorem Dr.of {rl : Addr} {H H' : Hp} (s : Same H H') : Dr rl H H' := fun x o _ e => s x o e
theorem Dr.upd {rl : Addr} {H H' : Hp} {o : HO} (s : Dr rl H H') : Dr rl H (upd H' rl o) := fun x u n e => by rw [upd_ne n]; exact s x u n e
def Rl (H : Hp) (rl : Addr) (t : Nat) : Prop := ∃ a b c : Int, H rl = some (.lst [.int a, .int b, .int c]) ∧ 0 ≤ b ∧ b < 2147480009 ∧ 0 ≤ c ∧ c ≤ (t : Int)
theorem Rl.mono {H : Hp} {rl : Addr} {t u : Nat} (h : Rl H rl t) (k : t ≤ u) : Rl H rl u := let ⟨a, b, c, h1, h2, h3, h4, h5⟩ := h; ⟨a, b, c, h1, h2, h3, h4, by omega⟩
theorem Rl.up {H H' : Hp} {rl : Addr} {t : Nat} (h : Rl H rl t) (s : Same H H') : Rl H' rl t := let ⟨a, b, c, h1, h2⟩ := h; ⟨a, b, c, s _ _ h1, h2⟩
theorem Rl.ne {H : Hp} {rl p : Addr} {t : Nat} (h : Rl H rl t) (hp : H p = none) : p ≠ rl := fun e => by
  obtain ⟨a, b, c, h1, _⟩ := h
  rw [← e, hp] at h1; cases h1
/-- a view, and a step behind it, in which the reel may change -/
structure Ud (rl : Addr) (G0 H0 G H : Hp) : Prop where
  g : Same G0 G
  h : Dr rl H0 H
  v : Same G H
  n : ∀ b, H0 b ≠ none → G0 b = none → G b = none
  k : ∀ b, H0 b ≠ none → H b ≠ none
section
variable {rl : Addr} {G0 H0 G H G' H' : Hp} {a : Addr} {o : HO}
theorem Ud.refl (v : Same G H) : Ud rl G H G H := ⟨Same.refl _, Dr.refl _ _, v, fun _ _ h => h, fun _ h => h⟩
theorem Ud.trans (x : Ud rl G0 H0 G H) (y : Ud rl G H G' H') : Ud rl G0 H0 G' H' :=
  ⟨x.g.trans y.g, x.h.trans y.h, y.v, fun b h e => y.n b (x.k b h) (x.n b h e), fun b h => y.k b (x.k b h)⟩
theorem Up.ud (x : Up G0 H0 G H) : Ud rl G0 H0 G H := by
  refine ⟨x.g, Dr.of x.h, x.v, fun b h e => ?_, fun b h e => ?_⟩
  · cases q : H0 b with
    | none => exact absurd q h
    | some o => exact x.n b o q e
  · cases q : H0 b with
    | none => exact absurd q h
    | some o => rw [x.h b o q] at e; cases e
theorem Ud.up (x : Ud rl G0 H0 G H) (y : Up G H G' H') : Ud rl G0 H0 G' H' := x.trans y.ud
/-- the reel alone was turned -/
theorem Ud.turn {t u : Nat} (v : Same G H) (n : G rl = none) (d : Dr rl H H') (r : Rl H rl t) (r' : Rl H' rl u) : Ud rl G H G H' := by
  refine ⟨Same.refl _, d, fun b o e => d b o (ne_of_none e n) (v b o e), fun _ _ h => h, fun b h e => ?_⟩
  by_cases hb : b = rl
  · subst hb
    obtain ⟨_, _, _, h1, _⟩ := r'
    rw [h1] at e; cases e
  · cases q : H b with
    | none => exact absurd q h
    | some o => rw [d b o hb q] at e; cases e
theorem Ud.own (x : Ud rl G0 H0 G H) (h : H a = none) : Ud rl G0 H0 G (upd H a o) := by
  have s := same_new (o := o) h
  refine ⟨x.g, x.h.trans (Dr.of s), x.v.trans s, x.n, fun b hb e => ?_⟩
  by_cases q : b = a
  · subst q; rw [upd_same] at e; cases e
  · rw [upd_ne q] at e; exact x.k b hb e
theorem Ud.new (x : Ud rl G0 H0 G H) (h : H a = none) : Ud rl G0 H0 (upd G a o) (upd H a o) := x.up ((Up.refl x.v).new h)
theorem Ud.free (x : Ud rl G0 H0 G H) (h : H a = none) : G a = none := x.v.free h
theorem Ud.free0 (x : Ud rl G0 H0 G H) (h : H a = none) : H0 a = none := by
  cases q : H0 a with
  | none => rfl
  | some o => exact absurd h (x.k a (by rw [q]; simp))
theorem Ud.mut (x : Ud rl G0 H0 G H) (h0 : H0 a = none) (hg : G a = none) : Ud rl G0 H0 G (upd H a o) := by
  refine ⟨x.g, fun b u nb e => ?_, fun b u e => ?_, x.n, fun b hb e => ?_⟩
  · rw [upd_ne (ne_of_none e h0)]; exact x.h b u nb e
  · rw [upd_ne (ne_of_none e hg)]; exact x.v b u e
  · by_cases q : b = a
    · subst q; exact hb h0
    · rw [upd_ne q] at e; exact x.k b hb e
theorem Ud.pub (x : Ud rl G0 H0 G H) (h0 : H0 a = none) (hg : G a = none) (ha : H a = some o) : Ud rl G0 H0 (upd G a o) H := by
  refine ⟨x.g.trans (same_new hg), x.h, fun b u e => ?_, fun b hb e => ?_, x.k⟩
  · by_cases q : b = a
    · subst q; rw [upd_same] at e; rw [ha]; exact e
    · rw [upd_ne q] at e; exact x.v b u e
  · by_cases q : b = a
    · subst q; exact absurd h0 hb
    · rw [upd_ne q]; exact x.n b hb e
theorem Ud.same (x : Ud rl G0 H0 G H) (s : Same H H') : Ud rl G0 H0 G H' := by
  refine ⟨x.g, x.h.trans (Dr.of s), x.v.trans s, x.n, fun b hb e => ?_⟩
  cases q : H b with
  | none => exact x.k b hb q
  | some o => rw [s b o q] at e; cases e
theorem Ud.newT (x : Ud rl G0 H0 G H) (hp : H a = none) (s : Same H H') (e : H' a = some o) : Ud rl G0 H0 (upd G a o) H' := (x.same s).pub (x.free0 hp) (x.free hp) e
end
section
variable {P : Program} {w : World} {K : PySem.W.Frag} {mg : Str → Option Value} {base : Heap} {f : Addr} {fd : FuncData}
abbrev s__law_wind : Stmt := topS 54
abbrev N__law_wind : List Str := ["_law_reel_here", "_law_many", "_law_figure"]
theorem sc__law_wind : FnScope N__law_wind ["_law_reel_here", "_law_many"] (defScope s__law_wind) := ⟨rfl, rfl, rfl, by decide +kernel, rfl, by decide +kernel, by decide +kernel⟩
def sp_wind : Sp := fun vs H Q _ => ∃ (rl : Addr) (m : Int) (t : Nat), vs = [.ref rl, .int m] ∧ Rl H rl t ∧ 0 < m ∧ m ≤ 1000 ∧ t ≤ 1000000 ∧ ∀ (n : Int) (H' : Hp), 0 ≤ n → n < m → Dr rl H H' → Rl H' rl (t + 1) → Q (.int n) H'
theorem no_py {i m : Int} (h : m ≤ 1000) (h0 : 0 < m) : Builtin.divisionGoesByPylong i m = false := PyProof.noPylong_of_log2 (Nat.lt_trans (log2_of (n := 10) (by omega) (by decide)) (by decide))
theorem ok_law_wind (F : Fun K "_law_wind" "_law_wind" s__law_wind f fd) (T : Txt K mg) : FnOk P w K mg base CX0 1 f fd ["_law_reel_here", "_law_many"] sp_wind := by
  refine F.ok sc__law_wind (fun vs H Q E ⟨rl, m, t, h, _⟩ => by rw [h]; rfl) (fun cdv A outer s' H vs Q E hr ⟨rl, m, t, h, ⟨a, b, c, hrl, b0, b1, c0, c1⟩, m0, m1, t1, k⟩ => ?_)
  subst h
  refine ⟨_, (pss_cons (ps_if (pt_cmpR op_gt (pe_ix ix_list (pv 0) pe_int (fun _ _ => rfl)) pe_int (nomark _)) (pss_cons (ps_asg (pe_callB call_divmodW (by rfl) T.n_divmod (by decide +kernel) (pa_cons (pe_ix ix_list (pv 0) pe_int (fun _ _ => rfl)) (pa_cons (pv 1) pa_nil))) (pg_tup (by rfl) (pgs_cons (pg_sub (pv 0) pe_int set_list) (pgs_cons (pg_name (i := 2) sc__law_wind.nd rfl (Or.inl rfl)) pgs_nil))))
    (pss_one (ps_ret (pv 2)))) pss_nil)
    (pss_cons (ps_asg (pe_op op_add (pe_ix ix_list (pv 0) pe_int (fun _ _ => rfl)) pe_int) (pg_sub (pv 0) pe_int set_list))
    (pss_cons (ps_asg (pe_op op_mod (pe_callTy call_int1 (by rfl) T.n_int (by decide +kernel) (pa_cons (pe_op op_add (pe_op op_add (pe_op op_mulW (pe_ix ix_list (pv 0) pe_int (fun _ _ => rfl)) pe_int) (pe_op op_mulW (pe_op op_mulW (pe_ix ix_list (pv 0) pe_int (fun _ _ => rfl)) (pe_ix ix_list (pv 0) pe_int (fun _ _ => rfl))) pe_int)) pe_int) pa_nil)) pe_int) (pg_sub (pv 0) pe_int set_list))
    (pss_one (ps_ret (pe_op op_mod (pe_callTy call_int1 (by rfl) T.n_int (by decide +kernel) (pa_cons (pe_op op_fdivW (pe_ix ix_list (pv 0) pe_int (fun _ _ => rfl)) pe_int) pa_nil)) (pv 1))))))), ?_⟩
  refine ⟨_, rfl, _, _, _, _, rfl, rfl, SqL.of hrl, rfl, _, _, rfl, rfl, _, rfl, iteD (fun hpos => ?_) (fun hneg => ?_)⟩
  · refine ⟨_, rfl, _, _, _, _, rfl, rfl, SqL.of hrl, rfl, _, rfl, a, m, rfl, ⟨m0, no_py m1 m0⟩, fun p hp => ?_⟩
    have s1 := same_new (o := .tup [.int (a / m), .int (a % m)]) hp
    refine ⟨p, _, rfl, SqT.of upd_same, rfl, _, _, rfl, _, rfl, rl, _, 0, 0, rfl, rfl, s1 _ _ hrl, rfl, _, _, rfl, rfl, ?_⟩
    refine ⟨_, rfl, k _ _ (Int.emod_nonneg _ (by omega)) (Int.emod_lt_of_pos _ m0) (Dr.of s1).upd ⟨a / m, b, c, upd_same, b0, b1, c0, by omega⟩⟩
  · refine ⟨_, rfl, _, _, _, _, rfl, rfl, SqL.of hrl, rfl, _, _, rfl, rfl, ?_⟩
    refine ⟨_, rfl, rl, _, 2, 2, rfl, rfl, hrl, rfl, ?_⟩
    have h1 : upd H rl (.lst [.int a, .int b, .int (c + 1)]) rl = some (.lst [.int a, .int b, .int (c + 1)]) := upd_same
    have hb : b.natAbs < 2 ^ 40 := by omega
    have hc : (c + 1).natAbs < 2 ^ 40 := by omega
    refine ⟨_, rfl, _, _, _, _, rfl, rfl, SqL.of h1, rfl, _, _, rfl, rfl, mulW_of (b := 40) hb (by decide) (by decide) (by decide) (by decide), ?_⟩
    refine ⟨_, rfl, _, _, _, _, rfl, rfl, SqL.of h1, rfl, _, rfl, _, _, _, _, rfl, rfl, SqL.of h1, rfl, _, _, rfl, rfl, mulW_of hc hc (by decide) (by decide) (by decide), ?_⟩
    refine ⟨_, _, rfl, rfl, mulW_of (b := 40) (sz_mul hc hc) (by decide) (by decide) (by decide) (by decide), _, _, rfl, rfl, _, _, rfl, rfl, .inl ⟨_, rfl, ?_⟩⟩
    refine ⟨_, _, rfl, rfl, (show (0 : Int) < 2147480009 by decide), ?_⟩
    refine ⟨_, rfl, rl, _, 1, 1, rfl, rfl, h1, rfl, ?_⟩
    generalize (b * 48017 + (c + 1) * (c + 1) * 1009 + 77) = q
    have q0 := Int.emod_nonneg q (show (2147480009 : Int) ≠ 0 by decide)
    have q1 := Int.emod_lt_of_pos q (show (0 : Int) < 2147480009 by decide)
    refine ⟨_, rfl, _, _, _, _, rfl, rfl, SqL.of upd_same, rfl, _, _, rfl, rfl, ⟨by decide, by decide⟩, .inl ⟨_, rfl, ?_⟩⟩
    refine ⟨_, rfl, _, _, rfl, rfl, m0, ?_⟩
    exact k _ _ (Int.emod_nonneg _ (by omega)) (Int.emod_lt_of_pos _ m0) (Dr.refl _ _).upd.upd ⟨a, _, c + 1, upd_same, q0, q1, by omega, by omega⟩
abbrev s__law_one_of : Stmt := topS 55
abbrev N__law_one_of : List Str := ["_law_reel_here", "_law_menu"]
theorem sc__law_one_of : FnScope N__law_one_of ["_law_reel_here", "_law_menu"] (defScope s__law_one_of) := ⟨rfl, rfl, rfl, by decide +kernel, rfl, by decide +kernel, by decide +kernel⟩
def sp_one (K : PySem.W.Frag) : Sp := fun vs H Q _ => ∃ (rl a : Addr) (xs : List V) (t : Nat), vs = [.ref rl, .ref a] ∧ Rl H rl t ∧ SqL K H a xs ∧ a ≠ rl ∧ (∀ H', Dr rl H H' → SqL K H' a xs) ∧ 0 < xs.length ∧ xs.length ≤ 1000 ∧ t ≤ 1000000 ∧
  ∀ (i : Nat) (x : V) (H' : Hp), xs[i]? = some x → Dr rl H H' → Rl H' rl (t + 1) → Q x H'
theorem ok_law_one_of (F : Fun K "_law_one_of" "_law_one_of" s__law_one_of f fd) (T : Txt K mg) (c__law_wind : Def P w K mg base "_law_wind" 1 ["_law_reel_here", "_law_many"] sp_wind) : FnOk P w K mg base CX0 2 f fd ["_law_reel_here", "_law_menu"] (sp_one K) := by
  refine F.ok sc__law_one_of (fun vs H Q E ⟨rl, a, xs, t, h, _⟩ => by rw [h]; rfl) (fun cdv A outer s' H vs Q E hr ⟨rl, a, xs, t, h, r, sq, hne, hk, h0, h1, t1, k⟩ => ?_)
  subst h
  refine ⟨_, (pss_one (ps_ret (pe_ix ix_list (pv 1) (pe_def c__law_wind hr (by decide) (pa_cons (pv 0) (pa_cons (pe_callB call_len_seq (by rfl) T.n_len (by decide +kernel) (pa_cons (pv 1) pa_nil)) pa_nil))) (fun _ _ => rfl)))), ?_⟩
  refine ⟨_, rfl, _, rfl, _, rfl, a, xs, rfl, .inl sq, rl, (xs.length : Int), t, rfl, r, by omega, by omega, t1, fun n H' n0 n1 d r' => ?_⟩
  obtain ⟨j, rfl⟩ := Int.eq_ofNat_of_zero_le n0
  have hj : j < xs.length := by omega
  exact ⟨_, _, _, _, rfl, rfl, hk H' d, atI_nat (List.getElem?_eq_getElem hj), k j _ H' (List.getElem?_eq_getElem hj) d r'⟩
abbrev s__law_trip : Stmt := topS 56
abbrev N__law_trip : List Str := ["_law_reel_here", "_law_size", "_law_spot"]
theorem sc__law_trip : FnScope N__law_trip ["_law_reel_here", "_law_size"] (defScope s__law_trip) := ⟨rfl, rfl, rfl, by decide +kernel, rfl, by decide +kernel, by decide +kernel⟩
def sp_trip : Sp := fun vs H Q _ => ∃ (G : Hp) (rl : Addr) (s : Int) (t : Nat), vs = [.ref rl, .int s] ∧ Same G H ∧ G rl = none ∧ Rl H rl t ∧ 1 ≤ s ∧ s ≤ 9 ∧ t ≤ 900000 ∧
  ∀ (p : Addr) (g : T3) (G' H' : Hp), Ud rl G H G' H' → G' p = some (.tup (tV g)) → g.1.natAbs ≤ 9 → g.2.1.natAbs ≤ 9 → g.2.2.natAbs ≤ 9 → Rl H' rl (t + 3) → Q (.ref p) H'
theorem ok_law_trip (F : Fun K "_law_trip" "_law_trip" s__law_trip f fd) (T : Txt K mg) (c__law_wind : Def P w K mg base "_law_wind" 1 ["_law_reel_here", "_law_many"] sp_wind) : FnOk P w K mg base CX0 2 f fd ["_law_reel_here", "_law_size"] sp_trip := by
  refine F.ok sc__law_trip (fun vs H Q E ⟨G, rl, s, t, h, _⟩ => by rw [h]; rfl) (fun cdv A outer s' H vs Q E hr ⟨G0, rl, s, t, h, v0, grl, r, s1, s9, t1, k⟩ => ?_)
  subst h
  refine ⟨_, (pss_one (ps_ret (pe_callTy call_tuple_of (by rfl) T.n_tuple (by decide +kernel) (pa_cons (pe_lc (own := [("_law_spot", 2)]) rfl sc__law_trip.nd (pi_range1 (by rfl) T.n_range (pa_cons pe_int pa_nil)) (blkOk_by (N := N__law_trip) (sc := defScope s__law_trip) (by decide +kernel)) (fun _ _ _ _ _ => (pg_name (i := 2) sc__law_trip.nd rfl (Or.inl rfl))) (fun _ _ _ _ _ => pts_nil) (fun _ _ _ _ _ => (pe_op op_sub (pe_def c__law_wind hr (by decide) (pa_cons (pv 0) (pa_cons (pe_op op_add (pe_op op_mulW pe_int (pv 1)) pe_int) pa_nil))) (pv 1)))) pa_nil)))), ?_⟩
  refine ⟨(3 : Int), rfl, by decide, by decide, fun D hD => ?_⟩
  have nD := r.ne hD
  have gD := v0.free hD
  refine lc_it (n := 3) (by have := walk_range (lo := 0) (n := 3); simpa using this) (fun i H2 => ∃ l : List Int, l.length = i ∧ (∀ x ∈ l, x.natAbs ≤ 9) ∧ Ud rl G0 H G0 H2 ∧ Rl H2 rl (t + i) ∧ H2 D = some (.lst (l.map V.int))) ?_ (fun _ _ _ _ => trivial) ?_ ?_
  · refine ⟨[], rfl, by simp, (Ud.refl v0).own hD, ?_, upd_same⟩
    exact r.up (same_new hD)
  · rintro i x H2 H3 hi ⟨l, hl, hb, u, r2, hacc⟩ ⟨rfl, rfl⟩
    refine ⟨rfl, tyes ?_⟩
    have hs : s.natAbs < 2 ^ 10 := by omega
    refine ⟨_, rfl, _, rfl, _, _, rfl, rfl, mulW_of (a := 2) (by decide) hs (by decide) (by decide) (by decide), _, _, rfl, rfl, rl, _, t + i, rfl, r2, by omega, by omega, by omega, fun n H4 n0 n1 d r4 => ?_⟩
    refine ⟨_, rfl, _, _, rfl, rfl, _, d _ _ nD hacc, ?_, l ++ [n - s], by simp [hl], ?_, ?_, ?_, ?_⟩
    · rw [List.length_map]; exact Nat.lt_of_lt_of_le (show l.length < 3 by omega) (by decide)
    · intro x hx
      rcases List.mem_append.1 hx with q | q
      · exact hb x q
      · simp at q; subst q; omega
    · exact (u.trans (Ud.turn u.v grl d r2 r4)).mut hD gD
    · have h4 : Rl (upd H4 D (.lst (l.map V.int ++ [.int (n - s)]))) rl (t + i + 1) := by
        obtain ⟨a, b, c, q1, q2⟩ := r4
        exact ⟨a, b, c, by rw [upd_ne (Ne.symm nD)]; exact q1, q2⟩
      exact h4
    · rw [upd_same, List.map_append]; rfl
  · rintro H2 ⟨l, hl, hb, u, r2, hacc⟩
    match l, hl, hb, hacc with
    | [x, y, z], _, hb, hacc =>
      refine ⟨D, _, rfl, .inl ⟨SqL.of hacc, fun p hp => ?_⟩⟩
      exact k p (x, y, z) _ _ (u.new (o := .tup (tV (x, y, z))) hp) upd_same (hb x (by simp)) (hb y (by simp)) (hb z (by simp)) (r2.up (same_new hp))
end
end K67

namespace K67
open PySem L2 KX
theorem walk_rangeN {i : Int} {n : Nat} (h : i.toNat = n) : Walk (Itr 0 i.toNat) n (fun _ => True) (YFn fun k => .int (k : Nat)) := by
  rw [h]
  have := walk_range (lo := 0) (n := n)
  simpa using this
def LtAt (K : PySem.W.Frag) (G : Hp) (v : V) (M : List T3) : Prop := ∃ a xs, v = .ref a ∧ G a = some (.lst xs) ∧ DpAll K G xs (M.map tD)
theorem LtAt.up {K : PySem.W.Frag} {G H : Hp} {v : V} {M : List T3} (h : LtAt K G v M) (s : Same G H) : LtAt K H v M := let ⟨a, xs, e, q, d⟩ := h; ⟨a, xs, e, s _ _ q, DpAll.up d s⟩
theorem LtAt.dp {K : PySem.W.Frag} {G : Hp} {v : V} {M : List T3} (h : LtAt K G v M) : Dp K G v (lD M) := by
  obtain ⟨a, xs, rfl, q, d⟩ := h
  exact .lst (SqL.of q) d
/-- what is drawn -/
def Tld (g : T3) : Prop := g.1.natAbs ≤ 27 ∧ g.2.1.natAbs ≤ 27 ∧ g.2.2.natAbs ≤ 270
theorem Tld.small {g : T3} (h : Tld g) : Small g := ⟨Nat.le_trans h.1 (by decide), Nat.le_trans h.2.1 (by decide), Nat.le_trans h.2.2 (by decide)⟩
structure Bn (K : PySem.W.Frag) (G0 H0 : Hp) (rl fl : Addr) (acc : List V) (t : Nat) (l : List T3) (xs : List V) (ms : List T3) (G H : Hp) : Prop where
  u : Ud rl G0 H0 G H
  gf : G fl = none
  gr : G rl = none
  hf : H fl = some (.lst acc)
  a : DpAll K G acc (l.map tD)
  r : Rl H rl t
  d : DpAll K G xs (ms.map tD)
theorem Bn.tup {K : PySem.W.Frag} {G0 H0 : Hp} {rl fl : Addr} {acc : List V} {t : Nat} {l : List T3} {xs : List V} {ms : List T3} {G H : Hp} (b : Bn K G0 H0 rl fl acc t l xs ms G H) {p : Addr} (g : T3) (hp : H p = none) :
    Bn K G0 H0 rl fl acc t l (xs ++ [.ref p]) (ms ++ [g]) (upd G p (.tup (tV g))) (upd H p (.tup (tV g))) := by
  have s := same_new (o := .tup (tV g)) (b.u.free hp)
  have nf : fl ≠ p := ne_of_none b.hf hp
  have nr := b.r.ne hp
  refine ⟨b.u.new hp, by rw [upd_ne nf]; exact b.gf, by rw [upd_ne (Ne.symm nr)]; exact b.gr, same_new hp _ _ b.hf, DpAll.up b.a s, b.r.up (same_new hp), ?_⟩
  rw [List.map_append]
  exact DpAll.app (DpAll.up b.d s) (.cons (t3_mk (SqT.of upd_same)) .nil)
theorem Bn.tupS {K : PySem.W.Frag} {G0 H0 : Hp} {rl fl : Addr} {acc : List V} {t : Nat} {l : List T3} {xs : List V} {ms : List T3} {G H : Hp} (b : Bn K G0 H0 rl fl acc t l xs ms G H) {p : Addr} {g : T3} {H' : Hp} (hp : H p = none) (s' : Same H H') (e : H' p = some (.tup (tV g))) :
    Bn K G0 H0 rl fl acc t l (xs ++ [.ref p]) (ms ++ [g]) (upd G p (.tup (tV g))) H' := by
  have s := same_new (o := .tup (tV g)) (b.u.free hp)
  have nf : fl ≠ p := ne_of_none b.hf hp
  have nr := b.r.ne hp
  refine ⟨b.u.newT hp s' e, by rw [upd_ne nf]; exact b.gf, by rw [upd_ne (Ne.symm nr)]; exact b.gr, s' _ _ b.hf, DpAll.up b.a s, b.r.up s', ?_⟩
  rw [List.map_append]
  exact DpAll.app (DpAll.up b.d s) (.cons (t3_mk (SqT.of upd_same)) .nil)
theorem Bn.own {K : PySem.W.Frag} {G0 H0 : Hp} {rl fl : Addr} {acc : List V} {t : Nat} {l : List T3} {xs : List V} {ms : List T3} {G H : Hp} (b : Bn K G0 H0 rl fl acc t l xs ms G H) {p : Addr} {o : HO} (hp : H p = none) :
    Bn K G0 H0 rl fl acc t l xs ms G (upd H p o) :=
  ⟨b.u.own hp, b.gf, b.gr, same_new hp _ _ b.hf, b.a, b.r.up (same_new hp), b.d⟩
def mnu (g : T3) : List T3 := [(g.1, g.2.1, g.2.2), (g.1, g.2.1, g.2.2), (0, g.2.1, g.2.2), (g.1, 0, g.2.2), (0, 0, g.2.2), (2 * g.1, 3 * g.2.1, g.2.2), (3 * g.1, 2 * g.1, g.2.2), pw g 3]
theorem mul9 {x y : Int} (h1 : x.natAbs ≤ 9) (h2 : y.natAbs ≤ 9) : (x * y).natAbs ≤ 81 := by
  rw [Int.natAbs_mul]; exact Nat.mul_le_mul h1 h2
theorem mnu_ok {g : T3} (h1 : g.1.natAbs ≤ 9) (h2 : g.2.1.natAbs ≤ 9) (h3 : g.2.2.natAbs ≤ 9) : ∀ x ∈ mnu g, Tld x := by
  intro x hx
  have h4 := mul9 h1 h2
  have e3 : tri 3 = 3 := by decide
  unfold mnu at hx
  simp only [List.mem_cons, List.not_mem_nil, or_false] at hx
  rcases hx with rfl | rfl | rfl | rfl | rfl | rfl | rfl | rfl
  · exact ⟨by simp only; omega, by simp only; omega, by simp only; omega⟩
  · exact ⟨by simp only; omega, by simp only; omega, by simp only; omega⟩
  · exact ⟨by simp only; omega, by simp only; omega, by simp only; omega⟩
  · exact ⟨by simp only; omega, by simp only; omega, by simp only; omega⟩
  · exact ⟨by simp only; omega, by simp only; omega, by simp only; omega⟩
  · exact ⟨by simp only; omega, by simp only; omega, by simp only; omega⟩
  · exact ⟨by simp only; omega, by simp only; omega, by simp only; omega⟩
  · refine ⟨?_, ?_, ?_⟩
    · show (3 * g.1).natAbs ≤ 27; omega
    · show (3 * g.2.1).natAbs ≤ 27; omega
    · show (3 * g.2.2 + tri 3 * g.1 * g.2.1).natAbs ≤ 270
      rw [e3, Int.mul_assoc]; omega
section
variable {P : Program} {w : World} {K : PySem.W.Frag} {mg : Str → Option Value} {base : Heap} {f : Addr} {fd : FuncData}
abbrev s__law_put : Stmt := topS 58
abbrev N__law_put : List Str := ["_law_left", "_law_right_here"]
theorem sc__law_put : FnScope N__law_put ["_law_left", "_law_right_here"] (defScope s__law_put) := ⟨rfl, rfl, rfl, by decide +kernel, rfl, by decide +kernel, by decide +kernel⟩
theorem ok_law_put (F : Fun K "_law_put" "_law_put" s__law_put f fd) : FnOk P w K mg base CX0 1 f fd ["_law_left", "_law_right_here"] (sp_put K) := by
  refine F.ok sc__law_put (fun vs H Q E ⟨a, b, t, u, n, h, _⟩ => by rw [h]; rfl) (fun cdv A outer s H vs Q E hr ⟨a, b, t, u, n, h, ha, hb, zt, zu, n0, n1, k⟩ => ?_)
  subst h
  refine ⟨_, (pss_one (ps_ret (pe_tup (pa_cons (pe_op op_add (pe_ix ix_tup (pv 0) pe_int (fun _ _ => rfl)) (pe_ix ix_tup (pv 1) pe_int (fun _ _ => rfl))) (pa_cons (pe_op op_add (pe_ix ix_tup (pv 0) pe_int (fun _ _ => rfl)) (pe_ix ix_tup (pv 1) pe_int (fun _ _ => rfl))) (pa_cons (pe_op op_add (pe_op op_add (pe_ix ix_tup (pv 0) pe_int (fun _ _ => rfl)) (pe_ix ix_tup (pv 1) pe_int (fun _ _ => rfl))) (pe_op op_mulW (pe_ix ix_tup (pv 0) pe_int (fun _ _ => rfl)) (pe_ix ix_tup (pv 1) pe_int (fun _ _ => rfl)))) pa_nil)))))), ?_⟩
  refine ⟨_, rfl, _, _, _, _, rfl, rfl, ha, rfl, _, rfl, _, _, _, _, rfl, rfl, hb, rfl, _, _, rfl, rfl, ?_⟩
  refine ⟨_, rfl, _, _, _, _, rfl, rfl, ha, rfl, _, rfl, _, _, _, _, rfl, rfl, hb, rfl, _, _, rfl, rfl, ?_⟩
  refine ⟨_, rfl, _, _, _, _, rfl, rfl, ha, rfl, _, rfl, _, _, _, _, rfl, rfl, hb, rfl, _, _, rfl, rfl, ?_⟩
  refine ⟨_, rfl, _, _, _, _, rfl, rfl, ha, rfl, _, rfl, _, _, _, _, rfl, rfl, hb, rfl, _, _, rfl, rfl, mulW_of zt.x zu.y n0 n0 (by omega), _, _, rfl, rfl, ?_⟩
  exact ⟨by show 3 ≤ sizeLine; decide, fun p hp => k.at hp rfl⟩
abbrev s__law_off : Stmt := topS 59
abbrev N__law_off : List Str := ["_law_trip_here"]
theorem sc__law_off : FnScope N__law_off ["_law_trip_here"] (defScope s__law_off) := ⟨rfl, rfl, rfl, by decide +kernel, rfl, by decide +kernel, by decide +kernel⟩
def sp_off (K : PySem.W.Frag) : Sp := fun vs H Q _ => ∃ (a : Addr) (t : T3) (n : Nat), vs = [.ref a] ∧ SqT K H a (tV t) ∧ Szn n t ∧ 0 < n ∧ n ≤ 100000 ∧ NewT H Q (off t)
theorem ok_law_off (F : Fun K "_law_off" "_law_off" s__law_off f fd) : FnOk P w K mg base CX0 1 f fd ["_law_trip_here"] (sp_off K) := by
  refine F.ok sc__law_off (fun vs H Q E ⟨a, t, n, h, _⟩ => by rw [h]; rfl) (fun cdv A outer s H vs Q E hr ⟨a, t, n, h, ha, zt, n0, n1, k⟩ => ?_)
  subst h
  refine ⟨_, (pss_one (ps_ret (pe_tup (pa_cons (pe_op op_sub pe_int (pe_ix ix_tup (pv 0) pe_int (fun _ _ => rfl))) (pa_cons (pe_op op_sub pe_int (pe_ix ix_tup (pv 0) pe_int (fun _ _ => rfl))) (pa_cons (pe_op op_sub (pe_op op_mulW (pe_ix ix_tup (pv 0) pe_int (fun _ _ => rfl)) (pe_ix ix_tup (pv 0) pe_int (fun _ _ => rfl))) (pe_ix ix_tup (pv 0) pe_int (fun _ _ => rfl))) pa_nil)))))), ?_⟩
  refine ⟨_, rfl, _, _, _, _, rfl, rfl, ha, rfl, _, _, rfl, rfl, ?_⟩
  refine ⟨_, rfl, _, _, _, _, rfl, rfl, ha, rfl, _, _, rfl, rfl, ?_⟩
  refine ⟨_, rfl, _, _, _, _, rfl, rfl, ha, rfl, _, rfl, _, _, _, _, rfl, rfl, ha, rfl, _, _, rfl, rfl, mulW_of zt.x zt.y n0 n0 (by omega), ?_⟩
  refine ⟨_, rfl, _, _, _, _, rfl, rfl, ha, rfl, _, _, rfl, rfl, ?_⟩
  refine ⟨by show 3 ≤ sizeLine; decide, fun p hp => k.at hp ?_⟩
  show [V.int (0 - t.1), .int (0 - t.2.1), .int (t.1 * t.2.1 - t.2.2)] = _
  rw [Int.zero_sub, Int.zero_sub]
  rfl
abbrev s__law_power : Stmt := topS 60
abbrev N__law_power : List Str := ["_law_trip_here", "_law_count", "_law_x", "_law_y", "_law_s"]
theorem sc__law_power : FnScope N__law_power ["_law_trip_here", "_law_count"] (defScope s__law_power) := ⟨rfl, rfl, rfl, by decide +kernel, rfl, by decide +kernel, by decide +kernel⟩
theorem ok_law_power (F : Fun K "_law_power" "_law_power" s__law_power f fd) : FnOk P w K mg base CX0 1 f fd ["_law_trip_here", "_law_count"] (sp_many K) := by
  refine F.ok sc__law_power (fun vs H Q E ⟨a, t, c, n, h, _⟩ => by rw [h]; rfl) (fun cdv A outer s H vs Q E hr ⟨a, t, c, n, h, ha, zt, zc, n0, n1, k⟩ => ?_)
  subst h
  refine ⟨_, (pss_cons (ps_asg (pv 0) (pg_tup (by rfl) (pgs_cons (pg_name (i := 2) sc__law_power.nd rfl (Or.inl rfl)) (pgs_cons (pg_name (i := 3) sc__law_power.nd rfl (Or.inl rfl)) (pgs_cons (pg_name (i := 4) sc__law_power.nd rfl (Or.inl rfl)) pgs_nil)))))
    (pss_one (ps_ret (pe_tup (pa_cons (pe_op op_mulW (pv 1) (pv 2)) (pa_cons (pe_op op_mulW (pv 1) (pv 3)) (pa_cons (pe_op op_add (pe_op op_mulW (pv 1) (pv 4)) (pe_op op_mulW (pe_op op_mulW (pe_op op_fdivW (pe_op op_mulW (pv 1) (pe_op op_sub (pv 1) pe_int)) pe_int) (pv 2)) (pv 3))) pa_nil))))))), ?_⟩
  refine ⟨_, rfl, _, _, rfl, ha, rfl, _, _, rfl, _, _, rfl, _, _, rfl, rfl, ?_⟩
  refine ⟨_, rfl, _, rfl, _, _, rfl, rfl, mulW_of zc zt.x n0 n0 (by omega), ?_⟩
  refine ⟨_, rfl, _, rfl, _, _, rfl, rfl, mulW_of zc zt.y n0 n0 (by omega), ?_⟩
  refine ⟨_, rfl, _, rfl, _, _, rfl, rfl, mulW_of zc zt.s n0 n0 (by omega), ?_⟩
  refine ⟨_, rfl, _, rfl, _, _, rfl, rfl, _, _, rfl, rfl, mulW_of zc (sz_pred zc) n0 (by omega) (by omega), _, _, rfl, rfl, ⟨by decide, by decide⟩, ?_⟩
  refine ⟨_, rfl, _, _, rfl, rfl, mulW_of (sz_tri zc) zt.x (by omega) n0 (by omega), ?_⟩
  refine ⟨_, rfl, _, _, rfl, rfl, mulW_of (sz_mul (sz_tri zc) zt.x) zt.y (by omega) n0 (by omega), _, _, rfl, rfl, ?_⟩
  exact ⟨by show 3 ≤ sizeLine; decide, fun p hp => k.at hp rfl⟩
abbrev s__law_told : Stmt := topS 57
abbrev N__law_told : List Str := ["_law_reel_here", "_law_most", "_law_found", "_law_spot", "_law_x", "_law_y", "_law_s", "_law_some"]
theorem sc__law_told : FnScope N__law_told ["_law_reel_here", "_law_most"] (defScope s__law_told) := ⟨rfl, rfl, rfl, by decide +kernel, rfl, by decide +kernel, by decide +kernel⟩
def sp_told (K : PySem.W.Frag) : Sp := fun vs H Q _ => ∃ (G : Hp) (rl : Addr) (m : Int) (t : Nat), vs = [.ref rl, .int m] ∧ Same G H ∧ G rl = none ∧ Rl H rl t ∧ 1 ≤ m ∧ m ≤ 4 ∧ t ≤ 800000 ∧
  ∀ (v : V) (M : List T3) (G' H' : Hp), Ud rl G H G' H' → LtAt K G' v M → 1 ≤ M.length → (M.length : Int) ≤ m → (∀ g ∈ M, Tld g) → Rl H' rl (t + 30) → Q v H'
theorem ok_law_told (F : Fun K "_law_told" "_law_told" s__law_told f fd) (T : Txt K mg) (c__law_wind : Def P w K mg base "_law_wind" 1 ["_law_reel_here", "_law_many"] sp_wind) (c__law_one_of : Def P w K mg base "_law_one_of" 2 ["_law_reel_here", "_law_menu"] (sp_one K))
    (c__law_trip : Def P w K mg base "_law_trip" 2 ["_law_reel_here", "_law_size"] sp_trip) (c__law_power : Def P w K mg base "_law_power" 1 ["_law_trip_here", "_law_count"] (sp_many K)) : FnOk P w K mg base CX0 3 f fd ["_law_reel_here", "_law_most"] (sp_told K) := by
  refine F.ok sc__law_told (fun vs H Q E ⟨G, rl, m, t, h, _⟩ => by rw [h]; rfl) (fun cdv A outer s' H vs Q E hr ⟨G0, rl, m, t, h, v0, grl, r, m1, m4, t1, k⟩ => ?_)
  subst h
  refine ⟨_, (pss_cons (ps_set (i := 2) sc__law_told.nd rfl (Or.inl rfl) (pe_lst pa_nil))
    (pss_cons (ps_for PassesOwn.never rfl (pi_range1 (by rfl) T.n_range (pa_cons (pe_op op_add pe_int (pe_def c__law_wind hr (by decide) (pa_cons (pv 0) (pa_cons (pv 1) pa_nil)))) pa_nil)) (pg_name (i := 3) sc__law_told.nd rfl (Or.inl rfl)) (pss_cons (ps_asg (pe_def c__law_trip hr (by decide) (pa_cons (pv 0) (pa_cons (pe_def c__law_one_of hr (by decide) (pa_cons (pv 0) (pa_cons (pe_lst (pa_cons pe_int (pa_cons pe_int (pa_cons pe_int (pa_cons pe_int pa_nil))))) pa_nil))) pa_nil))) (pg_tup (by rfl) (pgs_cons (pg_name (i := 4) sc__law_told.nd rfl (Or.inl rfl)) (pgs_cons (pg_name (i := 5) sc__law_told.nd rfl (Or.inl rfl)) (pgs_cons (pg_name (i := 6) sc__law_told.nd rfl (Or.inl rfl)) pgs_nil)))))
    (pss_cons (ps_set (i := 7) sc__law_told.nd rfl (Or.inl rfl) (pe_lst (pa_cons (pe_tup (pa_cons (pv 4) (pa_cons (pv 5) (pa_cons (pv 6) pa_nil)))) (pa_cons (pe_tup (pa_cons (pv 4) (pa_cons (pv 5) (pa_cons (pv 6) pa_nil)))) (pa_cons (pe_tup (pa_cons pe_int (pa_cons (pv 5) (pa_cons (pv 6) pa_nil)))) (pa_cons (pe_tup (pa_cons (pv 4) (pa_cons pe_int (pa_cons (pv 6) pa_nil)))) (pa_cons (pe_tup (pa_cons pe_int (pa_cons pe_int (pa_cons (pv 6) pa_nil)))) (pa_cons (pe_tup (pa_cons (pe_op op_mulW pe_int (pv 4)) (pa_cons (pe_op op_mulW pe_int (pv 5)) (pa_cons (pv 6) pa_nil)))) (pa_cons (pe_tup (pa_cons (pe_op op_mulW pe_int (pv 4)) (pa_cons (pe_op op_mulW pe_int (pv 4)) (pa_cons (pv 6) pa_nil)))) pa_nil)))))))))
    (pss_one (ps_expr (pe_bm PySem.F.plainAttrs_list PySem.F.slot_list_append PySem.F.type_list_append mt_append (pv 2) (pa_cons (pe_def c__law_one_of hr (by decide) (pa_cons (pv 0) (pa_cons (pe_op op_cat (pv 7) (pe_lst (pa_cons (pe_def c__law_power hr (by decide) (pa_cons (pe_tup (pa_cons (pv 4) (pa_cons (pv 5) (pa_cons (pv 6) pa_nil)))) (pa_cons pe_int pa_nil))) pa_nil))) pa_nil))) pa_nil)))))))
    (pss_one (ps_ret (pv 2))))), ?_⟩
  refine ⟨Nat.zero_le _, fun fl hfl => ?_⟩
  have nfl := r.ne hfl
  have gfl := v0.free hfl
  have r0 := r.up (same_new (o := .lst []) hfl)
  refine ⟨_, rfl, _, rfl, rl, m, t, rfl, r0, by omega, by omega, by omega, fun n H1 n0 n1 d1 r1 => ?_⟩
  have u0 : Ud rl G0 H G0 (upd H fl (.lst [])) := (Ud.refl v0).own hfl
  have u1 := u0.trans (Ud.turn u0.v grl d1 r0 r1)
  obtain ⟨j, rfl⟩ := Int.eq_ofNat_of_zero_le n0
  refine ⟨_, _, rfl, rfl, ((1 + j : Nat) : Int), by simp, by omega, by omega, ?_⟩
  refine for_it (n := 1 + j) (walk_rangeN (by omega)) (fun i σ H2 => ∃ (G : Hp) (acc : List V) (l : List T3) (b3 b4 b5 b6 b7 : Option V), σ = [some (.ref rl), some (.int m), some (.ref fl), b3, b4, b5, b6, b7] ∧
    Ud rl G0 H G H2 ∧ G fl = none ∧ H2 fl = some (.lst acc) ∧ DpAll K G acc (l.map tD) ∧ l.length = i ∧ (∀ g ∈ l, Tld g) ∧ Rl H2 rl (t + 1 + 5 * i))
    ⟨G0, [], [], _, _, _, _, _, rfl, u1, gfl, d1 _ _ nfl upd_same, .nil, rfl, by simp, r1⟩ (fun _ _ _ _ _ => trivial) ?_ ?_
  · rintro i x σ H2 H3 hi ⟨G, acc, l, b3, b4, b5, b6, b7, rfl, u, hg, hacc, dacc, hl, hld, r2⟩ ⟨rfl, rfl⟩
    have grl2 : G rl = none := u.n rl (by obtain ⟨_, _, _, q, _⟩ := r; rw [q]; simp) grl
    -- the trip
    refine ⟨_, rfl, _, rfl, by show 4 ≤ sizeLine; decide, fun mp hmp => ?_⟩
    have r3 := r2.up (same_new (o := .lst [.int 1, .int 2, .int 3, .int 9]) hmp)
    have nmp := r2.ne hmp
    have u3 := u.own (o := .lst [.int 1, .int 2, .int 3, .int 9]) hmp
    have hacc3 : upd H3 mp (.lst [.int 1, .int 2, .int 3, .int 9]) fl = some (.lst acc) := same_new hmp _ _ hacc
    have hmp3 : upd H3 mp (.lst [.int 1, .int 2, .int 3, .int 9]) mp = some (.lst [.int 1, .int 2, .int 3, .int 9]) := upd_same
    generalize upd H3 mp (.lst [.int 1, .int 2, .int 3, .int 9]) = H4 at *
    refine ⟨rl, mp, _, _, rfl, r3, SqL.of hmp3, nmp, fun H' d => SqL.of (d _ _ nmp hmp3), by show 0 < 4; decide, by show 4 ≤ 1000; decide, by omega, fun q x H5 hx d5 r5 => ?_⟩
    obtain ⟨s, rfl, s1, s9⟩ : ∃ s : Int, x = .int s ∧ 1 ≤ s ∧ s ≤ 9 := by
      match q, hx with
      | 0, hx => exact ⟨1, (Option.some.inj hx).symm, by decide, by decide⟩
      | 1, hx => exact ⟨2, (Option.some.inj hx).symm, by decide, by decide⟩
      | 2, hx => exact ⟨3, (Option.some.inj hx).symm, by decide, by decide⟩
      | 3, hx => exact ⟨9, (Option.some.inj hx).symm, by decide, by decide⟩
    have u5 := u3.trans (Ud.turn u3.v grl2 d5 r3 r5)
    have hacc5 := d5 _ _ nfl hacc3
    refine ⟨G, rl, s, _, rfl, u5.v, grl2, r5, s1, s9, by omega, fun p g G6 H6 u6 hp gx gy gs r6 => ?_⟩
    have u7 := u5.trans u6
    have hg6 := u6.n fl (by rw [hacc5]; simp) hg
    have grl6 := u6.n rl (by obtain ⟨_, _, _, q, _⟩ := r5; rw [q]; simp) grl2
    have hacc6 := u6.h _ _ nfl hacc5
    refine ⟨p, _, rfl, SqT.of (u6.v _ _ hp), rfl, _, _, rfl, _, _, rfl, _, _, rfl, rfl, ?_⟩
    have b0 : Bn K G0 H rl fl acc _ l [] [] G6 H6 := ⟨u7, hg6, grl6, hacc6, DpAll.up dacc u6.g, r6, .nil⟩
    have sz3 : 3 ≤ sizeLine := by decide
    have hx10 : g.1.natAbs < 2 ^ 10 := by omega
    have hy10 : g.2.1.natAbs < 2 ^ 10 := by omega
    have hs10 : g.2.2.natAbs < 2 ^ 10 := by omega
    refine ⟨_, rfl, _, rfl, _, rfl, sz3, fun p1 h1 => ?_⟩
    have b1 := b0.tup (g.1, g.2.1, g.2.2) h1
    refine ⟨_, rfl, _, rfl, _, rfl, sz3, fun p2 h2 => ?_⟩
    have b2 := b1.tup (g.1, g.2.1, g.2.2) h2
    refine ⟨_, rfl, _, rfl, sz3, fun p3 h3 => ?_⟩
    have b3' := b2.tup (0, g.2.1, g.2.2) h3
    refine ⟨_, rfl, _, rfl, sz3, fun p4 h4 => ?_⟩
    have b4' := b3'.tup (g.1, 0, g.2.2) h4
    refine ⟨_, rfl, sz3, fun p5 h5 => ?_⟩
    have b5' := b4'.tup (0, 0, g.2.2) h5
    refine ⟨_, rfl, _, _, rfl, rfl, mulW_of (a := 2) (by decide) hx10 (by decide) (by decide) (by decide), _, rfl, _, _, rfl, rfl, mulW_of (a := 2) (by decide) hy10 (by decide) (by decide) (by decide), _, rfl, sz3, fun p6 h6 => ?_⟩
    have b6' := b5'.tup (2 * g.1, 3 * g.2.1, g.2.2) h6
    refine ⟨_, rfl, _, _, rfl, rfl, mulW_of (a := 2) (by decide) hx10 (by decide) (by decide) (by decide), _, rfl, _, _, rfl, rfl, mulW_of (a := 2) (by decide) hx10 (by decide) (by decide) (by decide), _, rfl, sz3, fun p7 h7 => ?_⟩
    have b7' := b6'.tup (3 * g.1, 2 * g.1, g.2.2) h7
    refine ⟨by show 7 ≤ sizeLine; decide, fun L1 hL1 => ?_⟩
    have b8 := b7'.own (o := .lst [.ref p1, .ref p2, .ref p3, .ref p4, .ref p5, .ref p6, .ref p7]) hL1
    have eL1 : ∀ H9 : Hp, upd H9 L1 (.lst [.ref p1, .ref p2, .ref p3, .ref p4, .ref p5, .ref p6, .ref p7]) L1 = some (.lst [.ref p1, .ref p2, .ref p3, .ref p4, .ref p5, .ref p6, .ref p7]) := fun _ => upd_same
    refine ⟨_, rfl, .inl ⟨rfl, _, SqL.of b8.hf⟩, ?_⟩
    refine ⟨_, rfl, _, rfl, ?_⟩
    refine ⟨_, rfl, _, rfl, _, rfl, sz3, fun p8 h8 => ?_⟩
    have b9 := b8.own (o := .tup (tV g)) h8
    have e9 := same_new (o := .tup (tV g)) h8 _ _ (eL1 _)
    refine ⟨p8, g, 3, 10, rfl, SqT.of upd_same, ⟨hx10, hy10, hs10⟩, by decide, by decide, by decide, fun p9 H9 hp9 s9 ep9 => ?_⟩
    have b10 := b9.tupS hp9 s9 ep9
    have e10 := s9 _ _ e9
    clear b9 b8 b7' b6' b5' b4' b3' b2 b1 b0 e9 eL1 h8 hL1 h7 h6 h5 h4 h3 h2 h1
    refine ⟨by show 1 ≤ sizeLine; decide, fun L2 hL2 => ?_⟩
    have b11 := b10.own (o := .lst [.ref p9]) hL2
    have e11 := same_new (o := .lst [.ref p9]) hL2 _ _ e10
    refine ⟨L1, L2, _, _, rfl, rfl, e11, upd_same, by show 7 + 1 ≤ sizeLine; decide, fun L3 hL3 => ?_⟩
    have b12 := b11.own (o := .lst ([.ref p1, .ref p2, .ref p3, .ref p4, .ref p5, .ref p6, .ref p7] ++ [.ref p9])) hL3
    have nL3 := b11.r.ne hL3
    have hL3' := hL3
    refine ⟨rl, L3, _, _, rfl, b12.r, SqL.of upd_same, nL3, fun H' d => SqL.of (d _ _ nL3 upd_same), by show 0 < 8; decide, by show 8 ≤ 1000; decide, by omega, fun q x H12 hx12 d12 r12 => ?_⟩
    have u12 := b12.u.trans (Ud.turn b12.u.v b12.gr d12 b12.r r12)
    have dd : DpAll K _ ([V.ref p1, .ref p2, .ref p3, .ref p4, .ref p5, .ref p6, .ref p7] ++ [.ref p9]) ((mnu g).map tD) := b12.d
    obtain ⟨y, hy, dy⟩ := dpm_get dd hx12
    have ty := mnu_ok gx gy gs y (List.mem_of_getElem? hy)
    have hacc12 := d12 _ _ nfl b12.hf
    have hal : acc.length = i := by rw [DpAll.len dacc, List.length_map, hl]
    refine ⟨fl, _, _, rfl, rfl, hacc12, Nat.lt_of_lt_of_le (show acc.length < 10 by omega) (by decide), ?_⟩
    refine ⟨_, acc ++ [x], l ++ [y], _, _, _, _, _, rfl, u12.mut hfl b12.gf, b12.gf, upd_same, ?_, by simp [hl], ?_, ?_⟩
    · rw [List.map_append]
      exact DpAll.app b12.a (.cons dy .nil)
    · intro z hz
      rcases List.mem_append.1 hz with q | q
      · exact hld z q
      · simp at q; rw [q]; exact ty
    · obtain ⟨a, b, c, q1, q2, q3, q4, q5⟩ := r12
      exact ⟨a, b, c, by rw [upd_ne (Ne.symm nfl)]; exact q1, q2, q3, q4, by omega⟩
  · rintro σ H2 ⟨G, acc, l, b3, b4, b5, b6, b7, rfl, u, hg, hacc, dacc, hl, hld, r2⟩
    refine ⟨_, rfl, k _ l _ _ (u.pub hfl hg hacc) ⟨fl, acc, rfl, upd_same, DpAll.up dacc (same_new hg)⟩ (by omega) (by omega) hld (r2.mono (by omega))⟩
end
end K67

namespace K67
open PySem L2 KX
structure Lb (G0 H0 : Hp) (rl : Addr) (t : Nat) (G H : Hp) : Prop where
  u : Ud rl G0 H0 G H
  gr : G rl = none
  r : Rl H rl t
theorem Lb.new {G0 H0 : Hp} {rl : Addr} {t : Nat} {G H : Hp} (b : Lb G0 H0 rl t G H) {p : Addr} {o : HO} (hp : H p = none) : Lb G0 H0 rl t (upd G p o) (upd H p o) ∧ Same G (upd G p o) :=
  ⟨⟨b.u.new hp, by rw [upd_ne (Ne.symm (b.r.ne hp))]; exact b.gr, b.r.up (same_new hp)⟩, same_new (b.u.free hp)⟩
theorem dpa_rev {K : PySem.W.Frag} {G : Hp} : ∀ {vs : List V} {ds : List PyData}, DpAll K G vs ds → DpAll K G vs.reverse ds.reverse
  | _, _, .nil => .nil
  | _, _, .cons a t => by
    rw [List.reverse_cons, List.reverse_cons]
    exact DpAll.app (dpa_rev t) (.cons a .nil)
theorem mul27 {x y : Int} (h1 : x.natAbs ≤ 81) (h2 : y.natAbs ≤ 27) : (x * y).natAbs ≤ 2187 := by
  rw [Int.natAbs_mul]; exact Nat.mul_le_mul h1 h2
theorem mate_small {a b : T3} (ha : Tld a) (hb : Tld b) {c : Int} (hc : c = 1 ∨ c = 2 ∨ c = -1 ∨ c = 3) : Small (put (pw a c) b) ∧ Szn 20 (pw a c) := by
  obtain ⟨a1, a2, a3⟩ := ha
  obtain ⟨b1, b2, b3⟩ := hb
  have m := mul27 (x := a.1) (y := a.2.1) (by omega) a2
  have hx : (c * a.1).natAbs ≤ 81 := by rcases hc with rfl | rfl | rfl | rfl <;> omega
  have hy : (c * a.2.1).natAbs ≤ 81 := by rcases hc with rfl | rfl | rfl | rfl <;> omega
  have hs : (c * a.2.2 + tri c * a.1 * a.2.1).natAbs ≤ 2997 := by
    have m2 : (a.1 * a.2.1).natAbs ≤ 729 := by rw [Int.natAbs_mul]; exact Nat.mul_le_mul a1 a2
    rw [Int.mul_assoc]
    rcases hc with rfl | rfl | rfl | rfl
    · rw [show tri 1 = 0 from by decide]; omega
    · rw [show tri 2 = 1 from by decide]; omega
    · rw [show tri (-1) = 1 from by decide]; omega
    · rw [show tri 3 = 3 from by decide]; omega
  have hp := mul27 hx b2
  refine ⟨⟨?_, ?_, ?_⟩, ⟨?_, ?_, ?_⟩⟩
  · show (c * a.1 + b.1).natAbs ≤ 128; omega
  · show (c * a.2.1 + b.2.1).natAbs ≤ 128; omega
  · show (c * a.2.2 + tri c * a.1 * a.2.1 + b.2.2 + c * a.1 * b.2.1).natAbs ≤ 8192; omega
  · show (c * a.1).natAbs < 2 ^ 20; omega
  · show (c * a.2.1).natAbs < 2 ^ 20; omega
  · show (c * a.2.2 + tri c * a.1 * a.2.1).natAbs < 2 ^ 20; omega
theorem Tld.szn {g : T3} (h : Tld g) : Szn 20 g := h.small.szn
section
variable {P : Program} {w : World} {K : PySem.W.Frag} {mg : Str → Option Value} {base : Heap} {f : Addr} {fd : FuncData}
abbrev s__law_mates : Stmt := topS 72
abbrev N__law_mates : List Str := ["_law_reel_here", "_law_some", "_law_found", "_law_spot", "_law_left", "_law_right_here", "_law_menu"]
theorem sc__law_mates : FnScope N__law_mates ["_law_reel_here", "_law_some"] (defScope s__law_mates) := ⟨rfl, rfl, rfl, by decide +kernel, rfl, by decide +kernel, by decide +kernel⟩
def sp_mates (K : PySem.W.Frag) : Sp := fun vs H Q _ => ∃ (G : Hp) (rl : Addr) (v : V) (M : List T3) (t : Nat), vs = [.ref rl, v] ∧ Same G H ∧ G rl = none ∧ LtAt K G v M ∧ Rl H rl t ∧ 1 ≤ M.length ∧ M.length ≤ 4 ∧ (∀ g ∈ M, Tld g) ∧ t ≤ 700000 ∧
  ∀ (u : V) (N : List T3) (G' H' : Hp), Ud rl G H G' H' → LtAt K G' u N → 1 ≤ N.length → N.length ≤ 8 → (∀ g ∈ N, Small g) → Rl H' rl (t + 60) → Q u H'
theorem ok_law_mates (F : Fun K "_law_mates" "_law_mates" s__law_mates f fd) (T : Txt K mg) (c__law_wind : Def P w K mg base "_law_wind" 1 ["_law_reel_here", "_law_many"] sp_wind) (c__law_one_of : Def P w K mg base "_law_one_of" 2 ["_law_reel_here", "_law_menu"] (sp_one K))
    (c__law_put : Def P w K mg base "_law_put" 1 ["_law_left", "_law_right_here"] (sp_put K)) (c__law_power : Def P w K mg base "_law_power" 1 ["_law_trip_here", "_law_count"] (sp_many K)) (c__law_told : Def P w K mg base "_law_told" 3 ["_law_reel_here", "_law_most"] (sp_told K)) :
    FnOk P w K mg base CX0 4 f fd ["_law_reel_here", "_law_some"] (sp_mates K) := by
  refine F.ok sc__law_mates (fun vs H Q E ⟨G, rl, v, M, t, h, _⟩ => by rw [h]; rfl) (fun cdv A outer s' H vs Q E hr ⟨G0, rl, v, M, t, h, v0, grl, lt, r, m1, m4, hM, t1, k⟩ => ?_)
  subst h
  obtain ⟨sa, sx, rfl, hsa, dsx⟩ := id lt
  have sxl : sx.length = M.length := by rw [DpAll.len dsx, List.length_map]
  have nsa : sa ≠ rl := ne_of_none hsa grl
  refine ⟨_, (pss_cons (ps_set (i := 2) sc__law_mates.nd rfl (Or.inl rfl) (pe_lst pa_nil))
    (pss_cons (ps_for PassesOwn.never rfl (pi_range1 (by rfl) T.n_range (pa_cons (pe_op op_add pe_int (pe_def c__law_wind hr (by decide) (pa_cons (pv 0) (pa_cons pe_int pa_nil)))) pa_nil)) (pg_name (i := 3) sc__law_mates.nd rfl (Or.inl rfl)) (pss_cons (ps_par (i := 4) (j := 5) (by rfl) sc__law_mates.nd rfl rfl (by decide) rfl rfl (pa_cons (pe_def c__law_one_of hr (by decide) (pa_cons (pv 0) (pa_cons (pv 1) pa_nil))) (pa_cons (pe_def c__law_one_of hr (by decide) (pa_cons (pv 0) (pa_cons (pv 1) pa_nil))) pa_nil)) (by rfl))
    (pss_one (ps_expr (pe_bm PySem.F.plainAttrs_list PySem.F.slot_list_append PySem.F.type_list_append mt_append (pv 2) (pa_cons (pe_def c__law_put hr (by decide) (pa_cons (pe_def c__law_power hr (by decide) (pa_cons (pv 4) (pa_cons (pe_def c__law_one_of hr (by decide) (pa_cons (pv 0) (pa_cons (pe_lst (pa_cons pe_int (pa_cons pe_int (pa_cons (pe_un un_neg pe_int) (pa_cons pe_int pa_nil))))) pa_nil))) pa_nil))) (pa_cons (pv 5) pa_nil))) pa_nil))))))
    (pss_cons (ps_set (i := 6) sc__law_mates.nd rfl (Or.inl rfl) (pe_lst (pa_cons (pv 2) (pa_cons (pv 2) (pa_cons (pe_op op_cat (pe_revL (pv 1)) (pe_slice sl_list (pv 2) po_none (po_some pe_int))) (pa_cons (pe_def c__law_told hr (by decide) (pa_cons (pv 0) (pa_cons pe_int pa_nil))) (pa_cons (pe_lst (pa_cons (pe_tup (pa_cons pe_int (pa_cons pe_int (pa_cons pe_int pa_nil)))) (pa_cons (pe_tup (pa_cons pe_int (pa_cons pe_int (pa_cons pe_int pa_nil)))) pa_nil))) (pa_cons (pe_op op_cat (pv 2) (pv 1)) pa_nil))))))))
    (pss_one (ps_ret (pe_def c__law_one_of hr (by decide) (pa_cons (pv 0) (pa_cons (pv 6) pa_nil)))))))), ?_⟩
  refine ⟨Nat.zero_le _, fun fl hfl => ?_⟩
  have nfl := r.ne hfl
  have gfl := v0.free hfl
  have r0 := r.up (same_new (o := .lst []) hfl)
  refine ⟨_, rfl, rl, 3, t, rfl, r0, by decide, by decide, by omega, fun n H1 n0 n1 d1 r1 => ?_⟩
  have u0 : Ud rl G0 H G0 (upd H fl (.lst [])) := (Ud.refl v0).own hfl
  have u1 := u0.trans (Ud.turn u0.v grl d1 r0 r1)
  obtain ⟨j, rfl⟩ := Int.eq_ofNat_of_zero_le n0
  refine ⟨_, _, rfl, rfl, ((1 + j : Nat) : Int), by simp, by omega, by omega, ?_⟩
  refine for_it (n := 1 + j) (walk_rangeN (by omega)) (fun i σ H2 => ∃ (G : Hp) (acc : List V) (l : List T3) (b3 b4 b5 b6 : Option V), σ = [some (.ref rl), some (.ref sa), some (.ref fl), b3, b4, b5, b6] ∧
    Bn K G0 H rl fl acc (t + 1 + 3 * i) l [] [] G H2 ∧ l.length = i ∧ ∀ g ∈ l, Small g)
    ⟨G0, [], [], _, _, _, _, rfl, ⟨u1, gfl, grl, d1 _ _ nfl upd_same, .nil, r1, .nil⟩, rfl, by simp⟩ (fun _ _ _ _ _ => trivial) ?_ ?_
  · rintro i x σ H2 H3 hi ⟨G, acc, l, b3, b4, b5, b6, rfl, b, hl, hld⟩ ⟨rfl, rfl⟩
    have hs2 := b.u.v _ _ (b.u.g _ _ hsa)
    refine ⟨_, rfl, _, rfl, rl, sa, sx, _, rfl, b.r, SqL.of hs2, nsa, fun H' d => SqL.of (d _ _ nsa hs2), by omega, by omega, by omega, fun q1 x1 H4 hx1 d4 r4 => ?_⟩
    have hs4 := d4 _ _ nsa hs2
    refine ⟨_, rfl, _, rfl, rl, sa, sx, _, rfl, r4, SqL.of hs4, nsa, fun H' d => SqL.of (d _ _ nsa hs4), by omega, by omega, by omega, fun q2 x2 H5 hx2 d5 r5 => ⟨_, _, rfl, ?_⟩⟩
    obtain ⟨g1, hg1, dg1⟩ := dpm_get dsx hx1
    obtain ⟨g2, hg2, dg2⟩ := dpm_get dsx hx2
    have tg1 := hM g1 (List.mem_of_getElem? hg1)
    have tg2 := hM g2 (List.mem_of_getElem? hg2)
    have d25 := d4.trans d5
    have u5 := b.u.trans (Ud.turn b.u.v b.gr d25 b.r r5)
    have b5' : Bn K G0 H rl fl acc _ l [] [] G H5 := ⟨u5, b.gf, b.gr, d25 _ _ nfl b.hf, b.a, r5, .nil⟩
    have hal : acc.length = i := by rw [DpAll.len b.a, List.length_map, hl]
    refine ⟨_, rfl, .inl ⟨rfl, _, SqL.of b5'.hf⟩, ?_⟩
    refine ⟨_, rfl, _, rfl, _, rfl, by show 4 ≤ sizeLine; decide, fun mp hmp => ?_⟩
    have b6' := b5'.own (o := .lst [.int 1, .int 2, .int (-1), .int 3]) hmp
    have nmp := b5'.r.ne hmp
    refine ⟨rl, mp, _, _, rfl, b6'.r, SqL.of upd_same, nmp, fun H' d => SqL.of (d _ _ nmp upd_same), by show 0 < 4; decide, by show 4 ≤ 1000; decide, by omega, fun q3 x3 H7 hx3 d7 r7 => ?_⟩
    obtain ⟨c, rfl, hc⟩ : ∃ c : Int, x3 = .int c ∧ (c = 1 ∨ c = 2 ∨ c = -1 ∨ c = 3) := by
      match q3, hx3 with
      | 0, hx => exact ⟨1, (Option.some.inj hx).symm, by simp⟩
      | 1, hx => exact ⟨2, (Option.some.inj hx).symm, by simp⟩
      | 2, hx => exact ⟨-1, (Option.some.inj hx).symm, by simp⟩
      | 3, hx => exact ⟨3, (Option.some.inj hx).symm, by simp⟩
    have u7 := b6'.u.trans (Ud.turn b6'.u.v b6'.gr d7 b6'.r r7)
    have b7' : Bn K G0 H rl fl acc _ l [] [] G H7 := ⟨u7, b.gf, b.gr, d7 _ _ nfl b6'.hf, b.a, r7, .nil⟩
    obtain ⟨p1, rfl, sp1⟩ := t3_inv (Dp.up dg1 (b.u.g.trans u7.v))
    obtain ⟨p2, rfl, sp2⟩ := t3_inv (Dp.up dg2 (b.u.g.trans u7.v))
    have ms := mate_small tg1 tg2 hc
    refine ⟨p1, g1, c, 20, rfl, sp1, tg1.szn, by rcases hc with rfl | rfl | rfl | rfl <;> decide, by decide, by decide, fun p8 H8 hp8 s8 e8 => ?_⟩
    have b8' := b7'.tupS hp8 s8 e8
    refine ⟨_, rfl, p8, p2, _, g2, 20, rfl, SqT.of e8, sqT_same s8 sp2, ms.2, tg2.szn, by decide, by decide, fun p9 H9 hp9 s9 e9 => ?_⟩
    have b9' := b8'.tupS hp9 s9 e9
    refine ⟨fl, _, _, rfl, rfl, b9'.hf, Nat.lt_of_lt_of_le (show acc.length < 10 by omega) (by decide), ?_⟩
    refine ⟨_, acc ++ [.ref p9], l ++ [put (pw g1 c) g2], _, _, _, _, rfl, ⟨b9'.u.mut hfl b9'.gf, b9'.gf, b9'.gr, upd_same, ?_, ?_, .nil⟩, by simp [hl], ?_⟩
    · rw [List.map_append]
      exact DpAll.app b9'.a (.cons (t3_mk (SqT.of upd_same)) .nil)
    · obtain ⟨a, b, c, q1, q2, q3, q4, q5⟩ := b9'.r
      exact ⟨a, b, c, by rw [upd_ne (Ne.symm nfl)]; exact q1, q2, q3, q4, by omega⟩
    · intro z hz
      rcases List.mem_append.1 hz with q | q
      · exact hld z q
      · simp at q; rw [q]; exact ms.1
  · rintro σ H2 ⟨G, acc, l, b3, b4, b5, b6, rfl, b, hl, hld⟩
    have u := b.u.pub hfl b.gf b.hf
    have sG := same_new (o := .lst acc) b.gf
    have hf : upd G fl (.lst acc) fl = some (.lst acc) := upd_same
    have da := DpAll.up b.a sG
    have gr2 : upd G fl (.lst acc) rl = none := by rw [upd_ne (Ne.symm nfl)]; exact b.gr
    have r2 := b.r
    have hal : acc.length = l.length := by rw [DpAll.len da, List.length_map]
    clear b sG
    generalize upd G fl (.lst acc) = G1 at *
    have hs1 := u.g _ _ hsa
    have hf2 := u.v _ _ hf
    have hs2 := u.v _ _ hs1
    have l0 : Lb G0 H rl _ G1 H2 := ⟨u, gr2, r2⟩
    have dM := DpAll.up dsx u.g
    clear u1 u0 r0 r1 d1 lt dsx
    refine ⟨_, rfl, _, rfl, _, rfl, sa, sx, rfl, SqL.of hs2, fun p1 h1 => ?_⟩
    obtain ⟨l1, w1⟩ := l0.new (o := .lst sx.reverse) h1
    have i1 := l1.u.v _ _ (w1 _ _ hf)
    refine ⟨_, rfl, _, rfl, fl, acc, rfl, SqL.of i1, fun p2 h2 => ?_⟩
    have ec : cutV acc none (some 1) = acc.take 1 := cut1 (i := 1) (by omega)
    rw [ec]
    obtain ⟨l2, w2⟩ := l1.new (o := .lst (acc.take 1)) h2
    have j1 : upd G1 p1 (.lst sx.reverse) p1 = _ := upd_same
    refine ⟨p1, p2, _, _, rfl, rfl, l2.u.v _ _ (w2 _ _ j1), upd_same, ?_, fun p3 h3 => ?_⟩
    · rw [List.length_reverse, List.length_take]
      exact Nat.le_trans (show _ ≤ 10 by omega) (by decide)
    obtain ⟨l3, w3⟩ := l2.new (o := .lst (sx.reverse ++ acc.take 1)) h3
    have w13 := (w1.trans w2).trans w3
    have A3 : LtAt K _ (.ref p3) (M.reverse ++ l.take 1) := ⟨p3, _, rfl, upd_same (H := upd (upd G1 p1 (.lst sx.reverse)) p2 (.lst (acc.take 1))), by
      rw [List.map_append, List.map_reverse, List.map_take]
      exact DpAll.app (dpa_rev (DpAll.up dM w13)) (DpAll.take 1 (DpAll.up da w13))⟩
    -- told
    refine ⟨_, rfl, _, rl, 3, _, rfl, l3.u.v, l3.gr, l3.r, by decide, by decide, by omega, fun v4 M4 G5 H5 u5 A4 m41 m43 t4 r5 => ?_⟩
    have l5 : Lb G0 H rl _ G5 H5 := ⟨l3.u.trans u5, u5.n rl (by obtain ⟨_, _, _, q, _⟩ := l3.r; rw [q]; simp) l3.gr, r5⟩
    have w5 := w13.trans u5.g
    have A3 := A3.up u5.g
    have F5 := w5 _ _ hf
    have S5 := w5 _ _ hs1
    have da5 := DpAll.up da w5
    have dM5 := DpAll.up dM w5
    clear l3 l2 l1 l0 i1 j1 h1 h2 h3 w1 w2 w3 w13 u5 r5 hf hs1 hf2 hs2 da dM w5
    refine ⟨by show 3 ≤ sizeLine; decide, fun p5 h5 => ?_⟩
    obtain ⟨l6, w6⟩ := l5.new (o := .tup (tV (1, 0, 0))) h5
    refine ⟨by show 3 ≤ sizeLine; decide, fun p6 h6 => ?_⟩
    obtain ⟨l7, w7⟩ := l6.new (o := .tup (tV (0, 1, 0))) h6
    refine ⟨by show 2 ≤ sizeLine; decide, fun p7 h7 => ?_⟩
    obtain ⟨l8, w8⟩ := l7.new (o := .lst [.ref p5, .ref p6]) h7
    have A7 : LtAt K _ (.ref p7) [(1, 0, 0), (0, 1, 0)] := ⟨p7, _, rfl, upd_same (H := upd (upd G5 p5 (.tup (tV (1, 0, 0)))) p6 (.tup (tV (0, 1, 0)))),
      .cons (t3_mk (SqT.of (w8 _ _ (w7 _ _ upd_same)))) (.cons (t3_mk (SqT.of (w8 _ _ upd_same))) .nil)⟩
    have w58 := (w6.trans w7).trans w8
    have F8 := w58 _ _ F5
    have S8 := w58 _ _ S5
    refine ⟨_, rfl, _, rfl, fl, sa, _, _, rfl, rfl, l8.u.v _ _ F8, l8.u.v _ _ S8, ?_, fun p8 h8 => ?_⟩
    · exact Nat.le_trans (show acc.length + sx.length ≤ 20 by omega) (by decide)
    obtain ⟨l9, w9⟩ := l8.new (o := .lst (acc ++ sx)) h8
    have A8 : LtAt K _ (.ref p8) (l ++ M) := ⟨p8, _, rfl, upd_same (H := upd (upd (upd G5 p5 (.tup (tV (1, 0, 0)))) p6 (.tup (tV (0, 1, 0)))) p7 (.lst [.ref p5, .ref p6])), by
      rw [List.map_append]
      exact DpAll.app (DpAll.up da5 (w58.trans w9)) (DpAll.up dM5 (w58.trans w9))⟩
    refine ⟨by show 6 ≤ sizeLine; decide, fun p9 h9 => ?_⟩
    obtain ⟨l10, w10⟩ := l9.new (o := .lst [.ref fl, .ref fl, .ref p3, v4, .ref p7, .ref p8]) h9
    have B0 : LtAt K _ (.ref fl) l := LtAt.up ⟨fl, acc, rfl, F5, da5⟩ ((w58.trans w9).trans w10)
    have B3 := A3.up ((w58.trans w9).trans w10)
    have B4 := A4.up ((w58.trans w9).trans w10)
    have B7 := A7.up (w9.trans w10)
    have B8 := A8.up w10
    have n9 := l9.r.ne h9
    refine ⟨_, rfl, _, rfl, rl, p9, _, _, rfl, l10.r, SqL.of upd_same, n9, fun H' d => SqL.of (d _ _ n9 upd_same), by show 0 < 6; decide, by show 6 ≤ 1000; decide, by omega, fun q x H11 hx d11 r11 => ?_⟩
    have u11 := l10.u.trans (Ud.turn l10.u.v l10.gr d11 l10.r r11)
    have rr := r11.mono (show _ ≤ t + 60 by omega)
    have hMs : ∀ g ∈ M, Small g := fun g h => (hM g h).small
    match q, hx with
    | 0, hx => obtain rfl := Option.some.inj hx; exact k _ l _ _ u11 B0 (by omega) (by omega) hld rr
    | 1, hx => obtain rfl := Option.some.inj hx; exact k _ l _ _ u11 B0 (by omega) (by omega) hld rr
    | 2, hx =>
      obtain rfl := Option.some.inj hx
      refine k _ _ _ _ u11 B3 ?_ ?_ (fun g hg => ?_) rr
      · simp only [List.length_append, List.length_reverse, List.length_take]; omega
      · simp only [List.length_append, List.length_reverse, List.length_take]; omega
      · rcases List.mem_append.1 hg with q | q
        · exact hMs g (List.mem_reverse.1 q)
        · exact hld g (List.mem_of_mem_take q)
    | 3, hx => obtain rfl := Option.some.inj hx; exact k _ M4 _ _ u11 B4 m41 (by omega) (fun g hg => (t4 g hg).small) rr
    | 4, hx =>
      obtain rfl := Option.some.inj hx
      refine k _ _ _ _ u11 B7 (by decide) (by decide) (fun g hg => ?_) rr
      simp only [List.mem_cons, List.not_mem_nil, or_false] at hg
      rcases hg with rfl | rfl
      · exact ⟨by decide, by decide, by decide⟩
      · exact ⟨by decide, by decide, by decide⟩
    | 5, hx =>
      obtain rfl := Option.some.inj hx
      refine k _ _ _ _ u11 B8 ?_ ?_ (fun g hg => ?_) rr
      · simp only [List.length_append]; omega
      · simp only [List.length_append]; omega
      · rcases List.mem_append.1 hg with q | q
        · exact hld g q
        · exact hMs g q
end
end K67

namespace K67
open PySem L2 KX
section
variable {K : PySem.W.Frag} {σ : L2.St} {H : Hp} {o : Option T3} {v : V}
def eTestN (K : PySem.W.Frag) (te : TE) : TT := tTest (tOp (rNeD K) te (tTup tNil))
theorem e_testN {te : TE} {Q : Bool → Hp → Prop} (hi : ∀ (Q : VK), (∀ H', Same H H' → Q v H') → te σ H Q) (d : Dp K H v (oD o)) (q : ∀ H', Same H H' → Q o.isSome H') : eTestN K te σ H Q := by
  refine hi _ fun H1 s1 => ⟨Nat.zero_le _, fun p hp => ?_⟩
  have s := s1.trans (same_new (o := .tup []) hp)
  refine ⟨oD o, .tuple [], Dp.up d s, .tup (SqT.of upd_same) .nil, shaped_oD _, shaped_nil, _, rfl, ?_⟩
  rw [eqv_oD_nil]
  have : (!o.isNone) = o.isSome := by cases o <;> rfl
  rw [this]
  exact q _ s
end
theorem oD_some {K : PySem.W.Frag} {G : Hp} {v : V} {t : T3} (h : Dp K G v (oD (some t))) : ∃ a, v = .ref a ∧ SqT K G a (tV t) := t3_inv (t := t) h
theorem oD_mk {K : PySem.W.Frag} {G : Hp} {a : Addr} {t : T3} (h : SqT K G a (tV t)) : Dp K G (.ref a) (oD (some t)) := t3_mk (t := t) h
section
variable {P : Program} {w : World} {K : PySem.W.Frag} {mg : Str → Option Value} {base : Heap} {f : Addr} {fd : FuncData}
abbrev s__law_shared : Stmt := topS 61
abbrev N__law_shared : List Str := ["_law_left", "_law_right_here", "_law_turn"]
theorem sc__law_shared : FnScope N__law_shared ["_law_left", "_law_right_here"] (defScope s__law_shared) := ⟨rfl, rfl, rfl, by decide +kernel, rfl, by decide +kernel, by decide +kernel⟩
def sp_shared : Sp := fun vs H Q _ => ∃ a b : Int, vs = [.int a, .int b] ∧ 0 ≤ a ∧ 0 ≤ b ∧ b.natAbs < 2 ^ 500 ∧ Q (.int (Int.gcd a b)) H
theorem sh_stop {n : Nat} {a : Int} : shLoop n a 0 = a := by cases n <;> simp [shLoop]
theorem ok_law_shared (F : Fun K "_law_shared" "_law_shared" s__law_shared f fd) (T : Txt K mg) : FnOk P w K mg base CX0 1 f fd ["_law_left", "_law_right_here"] sp_shared := by
  refine F.ok sc__law_shared (fun vs H Q E ⟨a, b, h, _⟩ => by rw [h]; rfl) (fun cdv A outer s' H vs Q E hr ⟨a, b, h, a0, b0, bs, k⟩ => ?_)
  subst h
  rw [← sh_900 a0 b0 bs] at k
  refine ⟨_, (pss_cons (ps_for PassesOwn.never rfl (pi_range1 (by rfl) T.n_range (pa_cons pe_int pa_nil)) (pg_name (i := 2) sc__law_shared.nd rfl (Or.inl rfl)) (pss_cons (ps_if (pt_cmpR op_eq (pv 1) pe_int (nomark _)) (pss_one ps_break) pss_nil)
    (pss_one (ps_par (i := 0) (j := 1) (by rfl) sc__law_shared.nd rfl rfl (by decide) rfl rfl (pa_cons (pv 1) (pa_cons (pe_op op_mod (pe_callTy call_int1 (by rfl) T.n_int (by decide +kernel) (pa_cons (pv 0) pa_nil)) (pv 1)) pa_nil)) (by rfl)))))
    (pss_one (ps_ret (pv 0)))), ?_⟩
  refine ⟨(900 : Int), rfl, by decide, by decide, ?_⟩
  refine for_it (n := 900) (walk_rangeN (i := 900) (by decide)) (fun i σ H2 => ∃ (x y : Int) (b3 : Option V), σ = [some (.int x), some (.int y), b3] ∧ H2 = H ∧ 0 ≤ x ∧ 0 ≤ y ∧ shLoop (900 - i) x y = shLoop 900 a b) ⟨a, b, _, rfl, rfl, a0, b0, rfl⟩ (fun _ _ _ _ _ => trivial) ?_ ?_
  · rintro i z σ H2 H3 hi ⟨x, y, b3, rfl, rfl, x0, y0, e⟩ ⟨rfl, rfl⟩
    obtain ⟨n, hn⟩ : ∃ n, 900 - i = n + 1 := ⟨899 - i, by omega⟩
    refine ⟨_, rfl, rfl, _, rfl, iteV (fun h => ?_) (fun h => ?_)⟩
    · subst h
      rw [sh_stop] at e
      exact ⟨_, rfl, by rw [e]; exact k⟩
    · refine ⟨_, rfl, _, rfl, .inl ⟨_, rfl, ?_⟩⟩
      refine ⟨_, rfl, _, _, rfl, rfl, by omega, ⟨_, _, rfl, ?_⟩⟩
      refine ⟨y, x % y, _, rfl, rfl, y0, Int.emod_nonneg _ h, ?_⟩
      rw [hn] at e
      unfold shLoop at e
      rw [if_neg h] at e
      rw [show 900 - (i + 1) = n by omega]
      exact e
  · rintro σ H2 ⟨x, y, b3, rfl, rfl, x0, y0, e⟩
    exact ⟨_, rfl, by rw [← e] at k; exact k⟩
abbrev s__law_taken : Stmt := topS 62
abbrev N__law_taken : List Str := ["_law_lead", "_law_here", "_law_at", "_law_rest_here"]
theorem sc__law_taken : FnScope N__law_taken ["_law_lead", "_law_here", "_law_at"] (defScope s__law_taken) := ⟨rfl, rfl, rfl, by decide +kernel, rfl, by decide +kernel, by decide +kernel⟩
def sp_taken (K : PySem.W.Frag) : Sp := fun vs H Q _ => ∃ (lv : V) (p : Addr) (o : Option T3) (h : T3) (i : Nat), vs = [lv, .ref p, .int i] ∧ i ≤ 1 ∧ Dp K H lv (oD o) ∧ SqT K H p (tV h) ∧ (∀ l ∈ o, cT l i ≠ 0 ∧ Szn 500 l) ∧ Szn 500 h ∧
  ∀ (q : Addr) (x y : V) (H' : Hp), Same H H' → H' q = some (.tup [x, y]) → Dp K H' x (oD (tk (fun t => cT t i) o h).1) → Dp K H' y (oD (tk (fun t => cT t i) o h).2) → Q (.ref q) H'
theorem cT_sz {t : T3} {n : Nat} (h : Szn n t) (i : Nat) : (cT t i).natAbs < 2 ^ n := by
  unfold cT; split
  · exact h.x
  · exact h.y
theorem fdiv_sz {a b : Int} {n : Nat} (h : a.natAbs < 2 ^ n) : (a.fdiv b).natAbs ≤ 2 ^ n := by
  by_cases hb : b = 0
  · subst hb; rw [Int.fdiv_zero]; exact Nat.zero_le _
  · obtain ⟨e1, e2, e3⟩ := eu_sum (l := b) (h := a) hb
    have hb1 : 1 ≤ b.natAbs := by omega
    have h2 : (a.fdiv b).natAbs * 1 ≤ (a.fdiv b).natAbs * b.natAbs := Nat.mul_le_mul_left _ hb1
    rcases e3 with e3 | ⟨_, e3⟩
    · omega
    · rcases Nat.lt_or_ge b.natAbs 2 with q | q
      · have : b.natAbs = 1 := by omega
        rw [this] at e3 e1; omega
      · by_cases h0 : (a.fdiv b).natAbs = 0
        · rw [h0]; exact Nat.zero_le _
        · -- |q| |b| = |a| + r, r < |b|, so (|q| - 1) |b| < |a|
          obtain ⟨m, hm⟩ : ∃ m, (a.fdiv b).natAbs = m + 1 := ⟨(a.fdiv b).natAbs - 1, by omega⟩
          rw [hm, Nat.succ_mul] at e3
          have : m * 1 ≤ m * b.natAbs := Nat.mul_le_mul_left _ hb1
          omega
theorem ok_law_taken (F : Fun K "_law_taken" "_law_taken" s__law_taken f fd) (c__law_put : Def P w K mg base "_law_put" 1 ["_law_left", "_law_right_here"] (sp_put K)) (c__law_power : Def P w K mg base "_law_power" 1 ["_law_trip_here", "_law_count"] (sp_many K)) :
    FnOk P w K mg base CX0 2 f fd ["_law_lead", "_law_here", "_law_at"] (sp_taken K) := by
  refine F.ok sc__law_taken (fun vs H Q E ⟨lv, p, o, h, i, e, _⟩ => by rw [e]; rfl) (fun cdv A outer s' H vs Q E hr ⟨lv, p, o, h, i, e, hi, d, sp, hl, hz, k⟩ => ?_)
  subst e
  refine ⟨_, (pss_cons (ps_if (pt_cmpR (op_eqD hr.units) (pv 0) (pe_tup pa_nil) (nomark _)) (pss_one (ps_ret (pe_tup (pa_cons (pv 1) (pa_cons (pe_tup pa_nil) pa_nil))))) pss_nil)
    (pss_cons (ps_set (i := 3) sc__law_taken.nd rfl (Or.inl rfl) (pe_def c__law_put hr (by decide) (pa_cons (pe_def c__law_power hr (by decide) (pa_cons (pv 0) (pa_cons (pe_op op_sub pe_int (pe_op op_fdivX (pe_ix ix_tup (pv 1) (pv 2) (fun _ _ => rfl)) (pe_ix ix_tup (pv 0) (pv 2) (fun _ _ => rfl)))) pa_nil))) (pa_cons (pv 1) pa_nil))))
    (pss_one (ps_ret (pe_ifExp (pt_cmpR op_eq (pe_ix ix_tup (pv 3) (pv 2) (fun _ _ => rfl)) pe_int (nomark _)) (pe_tup (pa_cons (pv 0) (pa_cons (pv 3) pa_nil))) (pe_tup (pa_cons (pv 3) (pa_cons (pv 0) pa_nil)))))))), ?_⟩
  refine e_test (v := lv) (o := o) (hvar rfl) d fun H1 s1 => ?_
  cases o with
  | none =>
    refine iteT ?_
    refine ⟨_, rfl, Nat.zero_le _, fun p1 hp1 => ⟨by show 2 ≤ sizeLine; decide, fun p2 hp2 => ?_⟩⟩
    have s2 := (same_new (o := .tup []) hp1)
    have s3 := (same_new (o := .tup [.ref p, .ref p1]) hp2)
    exact k p2 _ _ _ ((s1.trans s2).trans s3) upd_same (oD_mk (sqT_same ((s1.trans s2).trans s3) sp)) (.tup (SqT.of (s3 _ _ upd_same)) .nil)
  | some l =>
    refine iteF ?_
    obtain ⟨hl0, hls⟩ := hl l rfl
    obtain ⟨la, rfl, sl⟩ := oD_some (Dp.up d s1)
    have sp1 := sqT_same s1 sp
    refine ⟨_, rfl, _, rfl, _, rfl, _, _, _, _, rfl, rfl, sp1, at_cT h hi, _, rfl, _, rfl, _, _, _, _, rfl, rfl, sl, at_cT l hi, ?_⟩
    refine ⟨_, _, rfl, rfl, ⟨hl0, Nat.lt_trans (log2_of (cT_sz hls i) (by decide)) (by decide)⟩, _, _, rfl, rfl, ?_⟩
    have hq : (0 - (cT h i).fdiv (cT l i)).natAbs < 2 ^ 502 := by
      have := fdiv_sz (b := cT l i) (cT_sz hz i)
      have e : (0 - (cT h i).fdiv (cT l i)).natAbs = ((cT h i).fdiv (cT l i)).natAbs := by omega
      rw [e]
      exact Nat.lt_of_le_of_lt this (by decide +kernel)
    refine ⟨la, l, _, 502, rfl, sl, hls.mono (by decide), hq, by decide, by decide, fun p1 H2 hp1 s2 e2 => ?_⟩
    have psz : Szn 2100 (pw l (0 - (cT h i).fdiv (cT l i))) := ((pw_sq (a := 502) (b := 1510) (natAbs_lt_of hls.x (by decide)) (natAbs_lt_of hls.y (by decide)) (natAbs_lt_of hls.s (by decide)) hq (by decide)).szn (by decide) (by decide))
    refine ⟨_, rfl, p1, p, _, h, 2100, rfl, SqT.of e2, sqT_same s2 sp1, psz, hz.mono (by decide), by decide, by decide, fun p2 H3 hp2 s3 e3 => ?_⟩
    refine ⟨_, rfl, _, rfl, _, _, _, _, rfl, rfl, SqT.of e3, at_cT _ hi, rfl, _, rfl, ?_⟩
    have s13 := (s1.trans s2).trans s3
    have e4 : tk (fun t => cT t i) (some l) h = if cT (put (pw l (0 - (cT h i).fdiv (cT l i))) h) i = 0 then (some l, some (put (pw l (0 - (cT h i).fdiv (cT l i))) h)) else (some (put (pw l (0 - (cT h i).fdiv (cT l i))) h), some l) := rfl
    refine iteV (fun h0 => ?_) (fun h0 => ?_)
    · rw [if_pos h0] at e4
      refine ⟨_, rfl, _, rfl, by show 2 ≤ sizeLine; decide, fun p3 hp3 => ?_⟩
      have s4 := same_new (o := .tup [.ref la, .ref p2]) hp3
      refine k p3 _ _ _ (s13.trans s4) upd_same ?_ ?_
      · rw [e4]; exact Dp.up d (s13.trans s4)
      · rw [e4]; exact oD_mk (SqT.of (s4 _ _ e3))
    · rw [if_neg h0] at e4
      refine ⟨_, rfl, _, rfl, by show 2 ≤ sizeLine; decide, fun p3 hp3 => ?_⟩
      have s4 := same_new (o := .tup [.ref p2, .ref la]) hp3
      refine k p3 _ _ _ (s13.trans s4) upd_same ?_ ?_
      · rw [e4]; exact oD_mk (SqT.of (s4 _ _ e3))
      · rw [e4]; exact Dp.up d (s13.trans s4)
end
end K67

namespace K67
open PySem L2 KX
theorem Sz.szn {t : T3} (h : Sz t) : Szn 500 t := ⟨natAbs_lt_of h.x (by decide), natAbs_lt_of h.y (by decide), natAbs_lt_of h.s (by decide)⟩
theorem t_over {K : PySem.W.Frag} {σ : L2.St} {H : Hp} {o : Option T3} {v : V} {i : Nat} {Q : VK} (hi : σ[i]? = some (some v)) (d : Dp K H v (oD o)) (q : ∀ p H' ys, Same H H' → H' p = some (.lst ys) → DpAll K H' ys (o.toList.map tD) → ys.length ≤ 1 → Q (.ref p) H') :
    tIf (eTestN K (tVar i)) (tLst (tCons (tVar i) tNil)) (tLst tNil) σ H Q := by
  refine e_testN (v := v) (o := o) (hvar hi) d fun H1 s1 => ?_
  cases o with
  | none => exact iteF ⟨Nat.zero_le _, fun p hp => q p _ [] (s1.trans (same_new hp)) upd_same .nil (Nat.zero_le _)⟩
  | some t =>
    refine iteT ⟨v, hi, by show 1 ≤ sizeLine; decide, fun p hp => ?_⟩
    have s2 := s1.trans (same_new (o := .lst [v]) hp)
    exact q p _ [v] s2 upd_same (.cons (Dp.up d s2) .nil) (Nat.le_refl _)
theorem fin_sift {K : PySem.W.Frag} {st : SS} (B : Bd st) {a0 a4 a5 a6 a7 : Option V} {ev nv : V} {H : Hp} {D : Ends} (de : Dp K H ev (oD st.e)) (dn : Dp K H nv (oD st.n))
    (k : ∀ (q : Addr) (x y : V) (H' : Hp), Same H H' → H' q = some (.tup [x, y, .int (stepZ st.e st.n st.z)]) → Dp K H' x (oD st.e) → Dp K H' y (oD st.n) → D.rt (.ref q) H') :
    tSeq (tIfS (tAnd (eTestN K (tVar 1)) (eTestN K (tVar 2))) (tAsg (tCall sp_shared [] E0 (tCons (tVar 3) (tCons (tCB (fun xs H Q => ∃ i, xs = [V.int i] ∧ Q (V.int (if i < 0 then -i else i)) H) (tCons (tOp (rI CMulW fun i j => V.int (i * j)) (tOp (rIxT K) (tVar 1) (tC (V.int 0))) (tOp (rIxT K) (tVar 2) (tC (V.int 1)))) tNil)) tNil))) (gName 3)) tNext)
      (tRet (tTup (tCons (tVar 1) (tCons (tVar 2) (tCons (tVar 3) tNil))))) D [a0, some ev, some nv, some (.int st.z), a4, a5, a6, a7] H := by
  have out : ∀ (H' : Hp) (z : Int), z = stepZ st.e st.n st.z → Same H H' → (tRet (tTup (tCons (tVar 1) (tCons (tVar 2) (tCons (tVar 3) tNil))))) D [a0, some ev, some nv, some (.int z), a4, a5, a6, a7] H' := by
    intro H' z hz s
    refine ⟨_, rfl, _, rfl, _, rfl, by show 3 ≤ sizeLine; decide, fun q hq => ?_⟩
    have s2 := s.trans (same_new (o := .tup [ev, nv, .int z]) hq)
    exact k q ev nv _ s2 (by rw [upd_same, hz]) (Dp.up de s2) (Dp.up dn s2)
  refine e_testN (v := ev) (o := st.e) (hvar rfl) de fun H1 s1 => ?_
  cases he : st.e with
  | none =>
    refine iteF (iteF ?_)
    exact out H1 _ (by unfold stepZ; rw [he]) s1
  | some x =>
    refine iteT ?_
    refine e_testN (v := nv) (o := st.n) (hvar rfl) (Dp.up dn s1) fun H2 s2 => ?_
    have s12 := s1.trans s2
    cases hn : st.n with
    | none =>
      refine iteF ?_
      exact out H2 _ (by unfold stepZ; rw [he, hn]) s12
    | some y =>
      refine iteT ?_
      rw [he] at de
      rw [hn] at dn
      obtain ⟨ea, rfl, se⟩ := oD_some (Dp.up de s12)
      obtain ⟨na, rfl, sn⟩ := oD_some (Dp.up dn s12)
      have zx := (B.sze x he).x
      have zy := (B.szn y hn).y
      have zm := sz_mul zx zy
      refine ⟨_, rfl, _, rfl, _, _, _, _, rfl, rfl, se, rfl, _, rfl, _, _, _, _, rfl, rfl, sn, rfl, _, _, rfl, rfl, mulW_of zx zy (by decide) (by decide) (by decide), _, rfl, ?_⟩
      refine ⟨st.z, (if x.1 * y.2.1 < 0 then -(x.1 * y.2.1) else x.1 * y.2.1), rfl, B.shp.z, by split <;> omega, ?_, ?_⟩
      · refine natAbs_lt_of (n := 8 + 62) ?_ (by decide)
        split
        · rw [Int.natAbs_neg]; exact zm
        · exact zm
      · refine out H2 _ ?_ s12
        unfold stepZ
        rw [he, hn]
        simp only
        split
        · rw [Int.gcd_neg]
        · rfl
section
variable {P : Program} {w : World} {K : PySem.W.Frag} {mg : Str → Option Value} {base : Heap} {f : Addr} {fd : FuncData}
abbrev s__law_sifted : Stmt := topS 63
abbrev N__law_sifted : List Str := ["_law_some", "_law_east_here", "_law_north_here", "_law_step", "_law_left", "_law_turn", "_law_here", "_law_over"]
theorem sc__law_sifted : FnScope N__law_sifted ["_law_some"] (defScope s__law_sifted) := ⟨rfl, rfl, rfl, by decide +kernel, rfl, by decide +kernel, by decide +kernel⟩
def sp_sifted (K : PySem.W.Frag) : Sp := fun vs H Q _ => ∃ (v : V) (M : List T3), vs = [v] ∧ Dp K H v (lD M) ∧ Tol M ∧
  ∀ (q : Addr) (x y : V) (H' : Hp), Same H H' → H' q = some (.tup [x, y, .int (stepZ (sifted M).e (sifted M).n (sifted M).z)]) → Dp K H' x (oD (sifted M).e) → Dp K H' y (oD (sifted M).n) → Q (.ref q) H'
theorem sift_nil {n : Nat} {st : SS} (h : st.q = []) : sift n st = st := by
  cases n with
  | zero => rfl
  | succ n => unfold sift; rw [if_pos h]
theorem ok_law_sifted (F : Fun K "_law_sifted" "_law_sifted" s__law_sifted f fd) (T : Txt K mg) (c__law_taken : Def P w K mg base "_law_taken" 2 ["_law_lead", "_law_here", "_law_at"] (sp_taken K)) (c__law_shared : Def P w K mg base "_law_shared" 1 ["_law_left", "_law_right_here"] sp_shared) :
    FnOk P w K mg base CX0 3 f fd ["_law_some"] (sp_sifted K) := by
  refine F.ok sc__law_sifted (fun vs H Q E ⟨v, M, h, _⟩ => by rw [h]; rfl) (fun cdv A outer s' H vs Q E hr ⟨v, M, h, d, hM, k⟩ => ?_)
  subst h
  obtain ⟨a, xs, rfl, sq, da⟩ := l_inv d
  obtain ⟨B0, hT⟩ := bd_start hM.1 hM.2
  obtain ⟨B1, hq1⟩ := sift_end 5000 B0 hT
  refine ⟨_, (pss_cons (ps_asg (pe_tup (pa_cons (pe_tup pa_nil) (pa_cons (pe_tup pa_nil) (pa_cons pe_int (pa_cons (pe_callTy call_list_of (by rfl) T.n_list (by decide +kernel) (pa_cons (pv 0) pa_nil)) pa_nil))))) (pg_tup (by rfl) (pgs_cons (pg_name (i := 1) sc__law_sifted.nd rfl (Or.inl rfl)) (pgs_cons (pg_name (i := 2) sc__law_sifted.nd rfl (Or.inl rfl)) (pgs_cons (pg_name (i := 3) sc__law_sifted.nd rfl (Or.inl rfl)) (pgs_cons (pg_name (i := 4) sc__law_sifted.nd rfl (Or.inl rfl)) pgs_nil))))))
    (pss_cons (ps_for PassesOwn.never rfl (pi_range1 (by rfl) T.n_range (pa_cons pe_int pa_nil)) (pg_name (i := 5) sc__law_sifted.nd rfl (Or.inl rfl)) (pss_cons (ps_if (pt_cmpR (op_eqD hr.units) (pv 4) (pe_lst pa_nil) (nomark _)) (pss_one ps_break) pss_nil)
    (pss_cons (ps_par3 (i := 6) (j := 4) (l := 7) (by rfl) sc__law_sifted.nd rfl rfl rfl (by decide) (by decide) (by decide) rfl rfl rfl (pa_cons (pe_ix ix_list (pv 4) pe_int (fun _ _ => rfl)) (pa_cons (pe_slice sl_list (pv 4) (po_some pe_int) po_none) (pa_cons (pe_tup pa_nil) pa_nil))) (by rfl))
    (pss_cons (ps_if (pt_cmpR op_ne (pe_ix ix_tup (pv 6) pe_int (fun _ _ => rfl)) pe_int (nomark _)) (pss_one (ps_asg (pe_def c__law_taken hr (by decide) (pa_cons (pv 1) (pa_cons (pv 6) (pa_cons pe_int pa_nil)))) (pg_tup (by rfl) (pgs_cons (pg_name (i := 1) sc__law_sifted.nd rfl (Or.inl rfl)) (pgs_cons (pg_name (i := 7) sc__law_sifted.nd rfl (Or.inl rfl)) pgs_nil))))) (pss_one (ps_if (pt_cmpR op_ne (pe_ix ix_tup (pv 6) pe_int (fun _ _ => rfl)) pe_int (nomark _)) (pss_one (ps_asg (pe_def c__law_taken hr (by decide) (pa_cons (pv 2) (pa_cons (pv 6) (pa_cons pe_int pa_nil)))) (pg_tup (by rfl) (pgs_cons (pg_name (i := 2) sc__law_sifted.nd rfl (Or.inl rfl)) (pgs_cons (pg_name (i := 7) sc__law_sifted.nd rfl (Or.inl rfl)) pgs_nil))))) (pss_one (ps_set (i := 3) sc__law_sifted.nd rfl (Or.inl rfl) (pe_def c__law_shared hr (by decide) (pa_cons (pv 3) (pa_cons (pe_callB call_abs (by rfl) T.n_abs (by decide +kernel) (pa_cons (pe_ix ix_tup (pv 6) pe_int (fun _ _ => rfl)) pa_nil)) pa_nil))))))))
    (pss_one (ps_set (i := 4) sc__law_sifted.nd rfl (Or.inl rfl) (pe_op op_cat (pv 4) (pe_ifExp (pt_cmpR (op_neD hr.units) (pv 7) (pe_tup pa_nil) (nomark _)) (pe_lst (pa_cons (pv 7) pa_nil)) (pe_lst pa_nil)))))))))
    (pss_cons (ps_if (PW.pt (pw_and (pt_cmpR (op_neD hr.units) (pv 1) (pe_tup pa_nil) (nomark _)) (pw_and1 (pt_cmpR (op_neD hr.units) (pv 2) (pe_tup pa_nil) (nomark _))))) (pss_one (ps_set (i := 3) sc__law_sifted.nd rfl (Or.inl rfl) (pe_def c__law_shared hr (by decide) (pa_cons (pv 3) (pa_cons (pe_callB call_abs (by rfl) T.n_abs (by decide +kernel) (pa_cons (pe_op op_mulW (pe_ix ix_tup (pv 1) pe_int (fun _ _ => rfl)) (pe_ix ix_tup (pv 2) pe_int (fun _ _ => rfl))) pa_nil)) pa_nil))))) pss_nil)
    (pss_one (ps_ret (pe_tup (pa_cons (pv 1) (pa_cons (pv 2) (pa_cons (pv 3) pa_nil))))))))), ?_⟩
  refine ⟨Nat.zero_le _, fun p1 hp1 => ⟨Nat.zero_le _, fun p2 hp2 => ?_⟩⟩
  have s1 := same_new (o := .tup []) hp1
  have s2 := same_new (o := .tup []) hp2
  have e1 : upd (upd H p1 (.tup [])) p2 (.tup []) p1 = some (.tup []) := s2 _ _ upd_same
  have e2 : upd (upd H p1 (.tup [])) p2 (.tup []) p2 = some (.tup []) := upd_same
  have s12 := s1.trans s2
  generalize upd (upd H p1 (.tup [])) p2 (.tup []) = H2 at *
  refine ⟨_, rfl, a, xs, rfl, .inl (s12.seq sq), fun la hla => ⟨by show 4 ≤ sizeLine; decide, fun p3 hp3 => ?_⟩⟩
  refine ⟨p3, _, rfl, SqT.of upd_same, rfl, _, _, rfl, _, _, rfl, _, _, rfl, _, _, rfl, rfl, ?_⟩
  have s3 := same_new (o := .lst xs) hla
  have s4 := same_new (o := .tup [.ref p1, .ref p2, .int 0, .ref la]) hp3
  have e3 := s4 _ _ (upd_same (H := H2) (a := la) (o := .lst xs))
  have s34 := s3.trans s4
  have s14 := s12.trans s34
  refine ⟨(5000 : Int), rfl, by decide, by decide, ?_⟩
  refine for_it (n := 5000) (walk_rangeN (i := 5000) (by decide)) (fun i σ H' => ∃ (st : SS) (ev nv : V) (lb : Addr) (ys : List V) (b5 b6 b7 : Option V), σ = [some (.ref a), some ev, some nv, some (.int st.z), some (.ref lb), b5, b6, b7] ∧ Same H H' ∧ Dp K H' ev (oD st.e) ∧ Dp K H' nv (oD st.n) ∧
    H' lb = some (.lst ys) ∧ DpAll K H' ys (st.q.map tD) ∧ Bd st ∧ sift (5000 - i) st = sifted M)
    ⟨⟨none, none, 0, M⟩, _, _, la, xs, _, _, _, rfl, s14, .tup (SqT.of (s34 _ _ e1)) .nil, .tup (SqT.of (s34 _ _ e2)) .nil, e3, DpAll.up da s14, B0, rfl⟩ (fun _ _ _ _ _ => trivial) ?_ ?_
  · rintro i x σ H3 H4 hi ⟨st, ev, nv, lb, ys, b5, b6, b7, rfl, sm, de, dn, hlb, dl, B, e⟩ ⟨rfl, rfl⟩
    refine ⟨_, rfl, Nat.zero_le _, fun p hp => ⟨lD st.q, .list [], ?_⟩⟩
    have s5 := same_new (o := .lst []) hp
    have sm5 := sm.trans s5
    have de5 := Dp.up de s5
    have dn5 := Dp.up dn s5
    have hlb5 := s5 _ _ hlb
    have dl5 := DpAll.up dl s5
    have hp5 : upd H4 p (.lst []) p = some (.lst []) := upd_same
    generalize upd H4 p (.lst []) = H5 at *
    refine ⟨.lst (SqL.of hlb5) dl5, .lst (SqL.of hp5) .nil, shaped_lD _, shaped_nilL, _, rfl, ?_⟩
    rw [eqv_lD_nil]
    obtain ⟨n, hn⟩ : ∃ n, 5000 - i = n + 1 := ⟨4999 - i, by omega⟩
    have hn2 : 5000 - (i + 1) = n := by omega
    have hlen : ys.length = st.q.length := by rw [DpAll.len dl5, List.length_map]
    cases hq : st.q with
    | nil =>
      refine iteT ?_
      rw [sift_nil hq] at e
      subst e
      exact fin_sift B1 de5 dn5 fun q x y H' s h1 h2 h3 => k q x y H' (sm5.trans s) h1 h2 h3
    | cons h t =>
      refine iteF ?_
      rw [hq] at dl5
      obtain ⟨hv, ts, rfl⟩ : ∃ hv ts, ys = hv :: ts := by
        cases ys with
        | nil => rw [hq] at hlen; simp at hlen
        | cons x l => exact ⟨x, l, rfl⟩
      obtain ⟨dh, dt⟩ : Dp K H5 hv (tD h) ∧ DpAll K H5 ts (t.map tD) := by
        cases dl5 with
        | cons a b => exact ⟨a, b⟩
      obtain ⟨ha, rfl, sh⟩ := t3_inv dh
      have B2 := (bd_turn B (by rw [hq]; simp)).1
      have e2' : sift (5000 - (i + 1)) (turn st) = sifted M := by
        rw [hn2, ← e, hn]
        show _ = (if st.q = [] then st else sift n (turn st))
        rw [if_neg (by rw [hq]; simp)]
      have szh := (B.szq h (by rw [hq]; simp)).szn
      have hl5 := B.len
      rw [hq, List.length_cons] at hl5
      rw [hq, List.length_cons, List.length_cons] at hlen
      refine ⟨_, rfl, _, _, _, _, rfl, rfl, SqL.of hlb5, atI_nat (j := 0) (v := V.ref ha) rfl, _, rfl, _, rfl, lb, _, rfl, SqL.of hlb5, fun lt hlt => ?_⟩
      have ec : cutV (V.ref ha :: ts) (some 1) none = ts := cut2 (xs := V.ref ha :: ts) (i := 0) (by simp)
      rw [ec]
      have s6 := same_new (o := .lst ts) hlt
      have hlt6 : upd H5 lt (.lst ts) lt = some (.lst ts) := upd_same
      generalize upd H5 lt (.lst ts) = H6 at *
      refine ⟨Nat.zero_le _, fun po hpo => ⟨_, _, _, rfl, ?_⟩⟩
      have s7 := same_new (o := .tup []) hpo
      have hpo7 : upd H6 po (.tup []) po = some (.tup []) := upd_same
      generalize upd H6 po (.tup []) = H7 at *
      have s57 := s6.trans s7
      have sm7 := sm5.trans s57
      have sh7 := sqT_same s57 sh
      have dt7 := DpAll.up dt s57
      have de7 := Dp.up de5 s57
      have dn7 := Dp.up dn5 s57
      have hlt7 := s7 _ _ hlt6
      -- what each way out gives
      have out : ∀ (ev' nv' ov : V) (z' : Int) (oo : Option T3) (H8 : Hp) (hv : V), Same H7 H8 → Dp K H8 ev' (oD (turn st).e) → Dp K H8 nv' (oD (turn st).n) → (turn st).z = z' → (turn st).q = t ++ oo.toList → Dp K H8 ov (oD oo) →
          (tAsg (tOp rCat (tVar 4) (tIf (eTestN K (tVar 7)) (tLst (tCons (tVar 7) tNil)) (tLst tNil))) (gName 4))
            { nx := fun σ H' => ∃ (st : SS) (ev nv : V) (lb : Addr) (ys : List V) (b5 b6 b7 : Option V), σ = [some (.ref a), some ev, some nv, some (.int st.z), some (.ref lb), b5, b6, b7] ∧ Same H H' ∧ Dp K H' ev (oD st.e) ∧ Dp K H' nv (oD st.n) ∧
              H' lb = some (.lst ys) ∧ DpAll K H' ys (st.q.map tD) ∧ Bd st ∧ sift (5000 - (i + 1)) st = sifted M, rt := Q }
            [some (.ref a), some ev', some nv', some (.int z'), some (.ref lt), some (.int (i : Nat)), some hv, some ov] H8 := by
        intro ev' nv' ov z' oo H8 hv s8 de8 dn8 hz hqq do8
        refine ⟨_, rfl, ?_⟩
        refine t_over (v := ov) (o := oo) rfl do8 fun pl H9 zs s9 e9 dz hzl => ?_
        have s79 := s8.trans s9
        refine ⟨lt, pl, _, _, rfl, rfl, s79 _ _ hlt7, e9, Nat.le_trans (show ts.length + zs.length ≤ 10 by omega) (by decide), fun pn hpn => ?_⟩
        have s10 := same_new (o := .lst (ts ++ zs)) hpn
        refine ⟨turn st, ev', nv', pn, _, _, _, _, by rw [hz]; rfl, (sm7.trans s79).trans s10, Dp.up de8 (s9.trans s10), Dp.up dn8 (s9.trans s10), upd_same, ?_, B2, e2'⟩
        rw [hqq, List.map_append]
        exact DpAll.app (DpAll.up dt7 (s79.trans s10)) (DpAll.up dz s10)
      have tq : turn st = turn ⟨st.e, st.n, st.z, h :: t⟩ := by rw [← hq]
      refine ⟨_, rfl, _, _, _, _, rfl, rfl, sh7, rfl, rfl, _, rfl, iteVn (fun hx => ?_) (fun hx => ?_)⟩
      · have et : turn ⟨st.e, st.n, st.z, h :: t⟩ = ⟨(tk sx st.e h).1, st.n, st.z, t ++ (tk sx st.e h).2.toList⟩ := by
          unfold turn; simp only; rw [if_pos hx]
        rw [← tq] at et
        refine ⟨_, rfl, _, rfl, ev, ha, st.e, h, 0, rfl, by decide, de7, sh7, fun l hl => ⟨B.shp.e l hl, (B.sze l hl).szn⟩, szh, fun q x y H8 s8 e8 dx dy => ?_⟩
        refine ⟨q, _, rfl, SqT.of e8, rfl, _, _, rfl, _, _, rfl, rfl, ?_⟩
        exact out x nv y st.z _ H8 _ s8 (by rw [et]; exact dx) (by rw [et]; exact Dp.up dn7 s8) (by rw [et]) (by rw [et]; rfl) dy
      · refine ⟨_, rfl, _, _, _, _, rfl, rfl, sh7, rfl, rfl, _, rfl, iteVn (fun hy => ?_) (fun hy => ?_)⟩
        · have et : turn ⟨st.e, st.n, st.z, h :: t⟩ = ⟨st.e, (tk sy st.n h).1, st.z, t ++ (tk sy st.n h).2.toList⟩ := by
            unfold turn; simp only; rw [if_neg (by omega), if_pos hy]
          rw [← tq] at et
          refine ⟨_, rfl, _, rfl, nv, ha, st.n, h, 1, rfl, by decide, dn7, sh7, fun l hl => ⟨(B.shp.n l hl).2, (B.szn l hl).szn⟩, szh, fun q x y H8 s8 e8 dx dy => ?_⟩
          refine ⟨q, _, rfl, SqT.of e8, rfl, _, _, rfl, _, _, rfl, rfl, ?_⟩
          exact out ev x y st.z _ H8 _ s8 (by rw [et]; exact Dp.up de7 s8) (by rw [et]; exact dx) (by rw [et]) (by rw [et]; rfl) dy
        · have et : turn ⟨st.e, st.n, st.z, h :: t⟩ = ⟨st.e, st.n, Int.gcd st.z h.2.2, t⟩ := by
            unfold turn; simp only; rw [if_neg (by omega), if_neg (by omega)]
          rw [← tq] at et
          refine ⟨_, rfl, _, rfl, _, _, _, _, rfl, rfl, sh7, rfl, _, rfl, ?_⟩
          refine ⟨st.z, (if h.2.2 < 0 then -h.2.2 else h.2.2), rfl, B.shp.z, by split <;> omega, ?_, ?_⟩
          · have := (B.szq h (by rw [hq]; simp)).s
            refine natAbs_lt_of (n := 488) ?_ (by decide)
            split
            · rw [Int.natAbs_neg]; exact this
            · exact this
          · refine out ev nv _ _ none H7 _ (Same.refl _) (by rw [et]; exact de7) (by rw [et]; exact dn7) ?_ (by rw [et]; simp) (.tup (SqT.of hpo7) .nil)
            rw [et]
            simp only
            split
            · rw [Int.gcd_neg]
            · rfl
  · rintro σ H3 ⟨st, ev, nv, lb, ys, b5, b6, b7, rfl, sm, de, dn, hlb, dl, B, e⟩
    have e : st = sifted M := by rw [← e]; exact (show sift 0 st = st from rfl).symm
    subst e
    exact fin_sift B de dn fun q x y H' s h1 h2 h3 => k q x y H' (sm.trans s) h1 h2 h3
end
end K67

namespace K67
open PySem L2 KX
def fixO (k : Nat) (o : Option T3) : Option T3 := o.map fun t => if cT t k < 0 then off t else t
def adjO (e n : Option T3) : Option T3 := match e, n with
  | some a, some b => some (put a (pw b (0 - a.2.1 / b.2.1)))
  | e, _ => e
def mdO (z : Int) (o : Option T3) : Option T3 := o.map fun t => if 0 < z then (t.1, t.2.1, t.2.2 % z) else t
theorem fixS_some (t : T3) (sel : T3 → Int) : fixS sel (some t) = if sel t < 0 then off t else t := rfl
theorem fix0_pos {t : T3} (h : t.1 ≠ 0) : 0 < (if t.1 < 0 then off t else t).1 := by
  split
  · show 0 < -t.1; omega
  · omega
theorem fix1_pos {t : T3} (h : t.2.1 ≠ 0) : 0 < (if t.2.1 < 0 then off t else t).2.1 := by
  split
  · show 0 < -t.2.1; omega
  · omega
theorem fix_x0 {t : T3} {c : Prop} [Decidable c] (h : t.1 = 0) : (if c then off t else t).1 = 0 := by
  split
  · show -t.1 = 0; omega
  · exact h
theorem last_parts {e n : Option T3} {z : Int} (he : ∀ x ∈ e, x.1 ≠ 0) (hn : ∀ x ∈ n, x.1 = 0 ∧ x.2.1 ≠ 0) :
    eO (lastF e n z) = mdO z (adjO (fixO 0 e) (fixO 1 n)) ∧ nO (lastF e n z) = mdO z (fixO 1 n) := by
  have hN : nO (lastF e n z) = mdO z (fixO 1 n) := by
    cases n with
    | none =>
      unfold nO lastF
      simp [fixS, fixO, mdO]
    | some b =>
      obtain ⟨b1, b2⟩ := hn b rfl
      have p : 0 < (fixS sy (some b)).2.1 := fix1_pos b2
      show nO (lastF e (some b) z) = mdO z (some (fixS sy (some b)))
      unfold nO lastF
      simp only [Option.isSome_some, true_and]
      generalize fixS sy (some b) = B at *
      have e1 : (if 0 < z then ((B.1, B.2.1, B.2.2 % z) : T3) else B).2.1 ≠ 0 := by
        rw [md_2]; omega
      rw [if_neg e1]
      rfl
  refine ⟨?_, hN⟩
  cases e with
  | none =>
    unfold eO lastF
    cases n <;> simp [fixS, fixO, mdO, adjO]
  | some a =>
    have p : 0 < (fixS sx (some a)).1 := fix0_pos (he a rfl)
    cases n with
    | none =>
      show eO (lastF (some a) none z) = mdO z (some (fixS sx (some a)))
      unfold eO lastF
      simp only [Option.isSome_some, Option.isSome_none, true_and, and_false, Bool.false_eq_true, if_false]
      generalize fixS sx (some a) = A at *
      have e1 : (if 0 < z then ((A.1, A.2.1, A.2.2 % z) : T3) else A).1 ≠ 0 := by
        rw [md_1]; omega
      rw [if_neg e1]
      rfl
    | some b =>
      obtain ⟨b1, b2⟩ := hn b rfl
      have bx : (fixS sy (some b)).1 = 0 := fix_x0 (c := b.2.1 < 0) b1
      show eO (lastF (some a) (some b) z) = mdO z (adjO (some (fixS sx (some a))) (some (fixS sy (some b))))
      unfold eO lastF
      simp only [Option.isSome_some, and_self, if_true, true_and]
      generalize fixS sx (some a) = A at *
      generalize fixS sy (some b) = B at *
      have e1 : (if 0 < z then (((put A (pw B (0 - A.2.1 / B.2.1))).1, (put A (pw B (0 - A.2.1 / B.2.1))).2.1, (put A (pw B (0 - A.2.1 / B.2.1))).2.2 % z) : T3) else put A (pw B (0 - A.2.1 / B.2.1))).1 ≠ 0 := by
        rw [md_1]
        show A.1 + (0 - A.2.1 / B.2.1) * B.1 ≠ 0
        rw [bx, Int.mul_zero]; omega
      rw [if_neg e1]
      rfl
theorem ne_of_none' {H : Hp} {a b : Addr} {o : HO} (h : H a = none) (e : H b = some o) : a ≠ b := fun q => by rw [q, e] at h; cases h
theorem sqT_upd {K : PySem.W.Frag} {H : Hp} {a fl : Addr} {xs ys zs : List V} (h : SqT K H a xs) (e : H fl = some (.lst ys)) : SqT K (upd H fl (.lst zs)) a xs := by
  rcases h with h | h
  · refine .inl ?_
    have ne : a ≠ fl := fun q => by
      subst q
      rcases h with h | ⟨o, h⟩
      · rw [e] at h; cases h
      · rw [e] at h; cases h
    rcases h with h | ⟨o, h⟩
    · exact .inl (by rw [upd_ne ne]; exact h)
    · exact .inr ⟨o, by rw [upd_ne ne]; exact h⟩
  · exact .inr h
theorem oD_upd {K : PySem.W.Frag} {H : Hp} {fl : Addr} {ys zs : List V} {v : V} {o : Option T3} (h : Dp K H v (oD o)) (e : H fl = some (.lst ys)) : Dp K (upd H fl (.lst zs)) v (oD o) := by
  cases o with
  | none =>
    obtain ⟨a, xs, rfl, s, d⟩ := u_inv (show Dp K H v (.tuple []) from h)
    cases d
    exact .tup (sqT_upd s e) .nil
  | some t =>
    obtain ⟨a, rfl, s⟩ := oD_some h
    exact oD_mk (sqT_upd s e)
theorem oDs_upd {K : PySem.W.Frag} {H : Hp} {fl : Addr} {ys zs : List V} (e : H fl = some (.lst ys)) : ∀ {vs : List V} {os : List (Option T3)}, DpAll K H vs (os.map oD) → DpAll K (upd H fl (.lst zs)) vs (os.map oD)
  | _, [], h => by cases h; exact .nil
  | _, o :: os, h => by
    cases h with
    | cons a b => exact .cons (oD_upd a e) (oDs_upd e b)
section
variable {K : PySem.W.Frag} {σ : L2.St} {H : Hp} {o : Option T3} {v : V}
theorem t_fix {i k : Nat} {Q : VK} (k1 : k ≤ 1) (hi : σ[i]? = some (some v)) (d : Dp K H v (oD o)) (sz : ∀ t ∈ o, Szn 500 t) (q : ∀ v' H', Same H H' → Dp K H' v' (oD (fixO k o)) → Q v' H') :
    tIf (tAnd (eTestN K (tVar i)) (tTest (tOp (rI0 fun i j => .bl (decide (i < j))) (tOp (rIxT K) (tVar i) (tC (.int (k : Int)))) (tC (.int 0))))) (tCall (sp_off K) [] E0 (tCons (tVar i) tNil)) (tVar i) σ H Q := by
  refine e_testN (v := v) (o := o) (hvar hi) d fun H1 s1 => ?_
  cases o with
  | none => exact iteF (iteF ⟨v, hi, q v H1 s1 (Dp.up d s1)⟩)
  | some t =>
    refine iteT ?_
    obtain ⟨a, rfl, sq⟩ := oD_some (Dp.up d s1)
    refine ⟨_, hi, _, _, _, _, rfl, rfl, sq, at_cT t k1, _, _, rfl, rfl, _, rfl, iteD (fun h0 => ?_) (fun h0 => ?_)⟩
    · refine ⟨_, hi, a, t, 500, rfl, sq, sz t rfl, by decide, by decide, fun p H2 hp s2 e2 => q _ H2 (s1.trans s2) ?_⟩
      unfold fixO
      rw [Option.map_some, if_pos h0]
      exact oD_mk (SqT.of e2)
    · refine ⟨_, hi, q _ H1 s1 ?_⟩
      unfold fixO
      rw [Option.map_some, if_neg h0]
      exact oD_mk sq
theorem t_md {i j : Nat} {z : Int} {Q : VK} (hi : σ[i]? = some (some v)) (d : Dp K H v (oD o)) (hj : σ[j]? = some (some (.int z))) (q : ∀ v' H', Same H H' → Dp K H' v' (oD (mdO z o)) → Q v' H') :
    tIf (tAnd (eTestN K (tVar i)) (tTest (tOp (rI0 fun i j => .bl (decide (i > j))) (tVar j) (tC (.int 0)))))
      (tOp (rCatT K) (tSl (rSlT K) (tVar i) tNoPart (tPart (tC (.int 2)))) (tTup (tCons (tOp (rI (fun x j => 0 < j) fun i j => .int (i % j)) (tCB (fun xs H Q => (∃ i, xs = [.int i] ∧ Q (.int i) H) ∨ ∃ k, xs = [.bl k] ∧ Q (.int (if k then 1 else 0)) H) (tCons (tOp (rIxT K) (tVar i) (tC (.int 2))) tNil)) (tVar j)) tNil)))
      (tVar i) σ H Q := by
  refine e_testN (v := v) (o := o) (hvar hi) d fun H1 s1 => ?_
  cases o with
  | none => exact iteF (iteF ⟨v, hi, q v H1 s1 (Dp.up d s1)⟩)
  | some t =>
    refine iteT ?_
    obtain ⟨a, rfl, sq⟩ := oD_some (Dp.up d s1)
    refine ⟨_, hj, _, _, rfl, rfl, _, rfl, iteD (fun h0 => ?_) (fun h0 => ?_)⟩
    · have h0 : 0 < z := h0
      refine ⟨_, hi, _, rfl, a, _, rfl, sq, (by show ¬ (0 = 0 ∧ 2 = 3); decide), fun p1 hp1 => ?_⟩
      have s2 := same_new (o := .tup [.int t.1, .int t.2.1]) hp1
      refine ⟨_, hi, _, _, _, _, rfl, rfl, sqT_same s2 sq, rfl, .inl ⟨_, rfl, _, hj, _, _, rfl, rfl, h0, by show 1 ≤ sizeLine; decide, fun p2 hp2 => ?_⟩⟩
      have s3 := same_new (o := .tup [.int (t.2.2 % z)]) hp2
      refine ⟨p1, p2, [.int t.1, .int t.2.1], [.int (t.2.2 % z)], rfl, rfl, SqT.of (s3 _ _ upd_same), SqT.of upd_same, by simp, by show 3 ≤ sizeLine; decide, fun h => by simp at h, fun _ p3 hp3 => ?_⟩
      refine q _ _ (((s1.trans s2).trans s3).trans (same_new hp3)) ?_
      unfold mdO
      rw [Option.map_some, if_pos h0]
      exact oD_mk (t := (t.1, t.2.1, t.2.2 % z)) (SqT.of upd_same)
    · refine ⟨_, hi, q _ H1 s1 ?_⟩
      unfold mdO
      rw [Option.map_some, if_neg h0]
      exact oD_mk sq
theorem t_adj {eo no : Option T3} {a0 a3 a4 a5 : Option V} {ev nv : V} {D : Ends} (de : Dp K H ev (oD eo)) (dn : Dp K H nv (oD no)) (se : ∀ t ∈ eo, Szn 500 t) (sn : ∀ t ∈ no, Szn 500 t ∧ 0 < t.2.1)
    (q : ∀ ev' H', Same H H' → Dp K H' ev' (oD (adjO eo no)) → D.nx [a0, some ev', some nv, a3, a4, a5] H') :
    tIfS (tAnd (eTestN K (tVar 1)) (eTestN K (tVar 2))) (tAsg (tCall (sp_put K) [] E0 (tCons (tVar 1) (tCons (tCall (sp_many K) [] E0 (tCons (tVar 2) (tCons (tOp (rI0 fun i j => .int (i - j)) (tC (.int 0)) (tOp (rI CDivW fun i j => .int (i / j)) (tOp (rIxT K) (tVar 1) (tC (.int 1))) (tOp (rIxT K) (tVar 2) (tC (.int 1))))) tNil))) tNil))) (gName 1)) tNext
      D [a0, some ev, some nv, a3, a4, a5] H := by
  refine e_testN (v := ev) (o := eo) (hvar rfl) de fun H1 s1 => ?_
  cases eo with
  | none =>
    refine iteF (iteF ?_)
    refine q ev H1 s1 ?_
    cases no <;> exact Dp.up de s1
  | some x =>
    refine iteT ?_
    refine e_testN (v := nv) (o := no) (hvar rfl) (Dp.up dn s1) fun H2 s2 => ?_
    have s12 := s1.trans s2
    cases no with
    | none =>
      refine iteF ?_
      exact q ev H2 s12 (Dp.up de s12)
    | some y =>
      refine iteT ?_
      obtain ⟨ea, rfl, sx⟩ := oD_some (Dp.up de s12)
      obtain ⟨na, rfl, sy⟩ := oD_some (Dp.up dn s12)
      have zx := se x rfl
      obtain ⟨zy, py⟩ := sn y rfl
      have hq : (0 - x.2.1 / y.2.1).natAbs < 2 ^ 502 := by
        have h1 := Int.natAbs_ediv_le_natAbs x.2.1 y.2.1
        have h2 := zx.y
        have e : (0 - x.2.1 / y.2.1).natAbs = (x.2.1 / y.2.1).natAbs := by omega
        rw [e]
        exact Nat.lt_of_le_of_lt h1 (natAbs_lt_of h2 (by decide))
      refine ⟨_, rfl, _, rfl, _, rfl, _, _, _, _, rfl, rfl, sx, rfl, _, rfl, _, _, _, _, rfl, rfl, sy, rfl, ?_⟩
      refine ⟨_, _, rfl, rfl, ⟨py, Nat.lt_trans (log2_of zy.y (by decide)) (by decide)⟩, _, _, rfl, rfl, ?_⟩
      refine ⟨na, y, _, 502, rfl, sy, zy.mono (by decide), hq, by decide, by decide, fun p1 H3 hp1 s3 e3 => ?_⟩
      have psz : Szn 2100 (pw y (0 - x.2.1 / y.2.1)) := ((pw_sq (a := 502) (b := 1510) (natAbs_lt_of zy.x (by decide)) (natAbs_lt_of zy.y (by decide)) (natAbs_lt_of zy.s (by decide)) hq (by decide)).szn (by decide) (by decide))
      refine ⟨ea, p1, x, _, 2100, rfl, sqT_same s3 sx, SqT.of e3, zx.mono (by decide), psz, by decide, by decide, fun p2 H4 hp2 s4 e4 => ?_⟩
      exact q _ H4 ((s12.trans s3).trans s4) (oD_mk (SqT.of e4))
end
section
variable {P : Program} {w : World} {K : PySem.W.Frag} {mg : Str → Option Value} {base : Heap} {f : Addr} {fd : FuncData}
abbrev s__law_form : Stmt := topS 64
abbrev N__law_form : List Str := ["_law_some", "_law_east_here", "_law_north_here", "_law_step", "_law_found", "_law_trip_here"]
theorem sc__law_form : FnScope N__law_form ["_law_some"] (defScope s__law_form) := ⟨rfl, rfl, rfl, by decide +kernel, rfl, by decide +kernel, by decide +kernel⟩
def sp_lform (K : PySem.W.Frag) : Sp := fun vs H Q _ => ∃ (v : V) (M : List T3), vs = [v] ∧ Dp K H v (lD M) ∧ Tol M ∧ ∀ (u : V) (H' : Hp), Same H H' → Dp K H' u (fD (formL M)) → Q u H'
theorem ok_law_form (F : Fun K "_law_form" "_law_form" s__law_form f fd) (T : Txt K mg) (c__law_sifted : Def P w K mg base "_law_sifted" 3 ["_law_some"] (sp_sifted K)) (c__law_off : Def P w K mg base "_law_off" 1 ["_law_trip_here"] (sp_off K))
    (c__law_put : Def P w K mg base "_law_put" 1 ["_law_left", "_law_right_here"] (sp_put K)) (c__law_power : Def P w K mg base "_law_power" 1 ["_law_trip_here", "_law_count"] (sp_many K)) : FnOk P w K mg base CX0 4 f fd ["_law_some"] (sp_lform K) := by
  refine F.ok sc__law_form (fun vs H Q E ⟨v, M, h, _⟩ => by rw [h]; rfl) (fun cdv A outer s' H vs Q E hr ⟨v, M, h, d, hM, k⟩ => ?_)
  subst h
  obtain ⟨B0, hT⟩ := bd_start hM.1 hM.2
  obtain ⟨B, hq1⟩ := sift_end 5000 B0 hT
  change Bd (sifted M) at B
  obtain ⟨P1, P2⟩ := last_parts (z := stepZ (sifted M).e (sifted M).n (sifted M).z) B.shp.e B.shp.n
  refine ⟨_, (pss_cons (ps_asg (pe_def c__law_sifted hr (by decide) (pa_cons (pv 0) pa_nil)) (pg_tup (by rfl) (pgs_cons (pg_name (i := 1) sc__law_form.nd rfl (Or.inl rfl)) (pgs_cons (pg_name (i := 2) sc__law_form.nd rfl (Or.inl rfl)) (pgs_cons (pg_name (i := 3) sc__law_form.nd rfl (Or.inl rfl)) pgs_nil)))))
    (pss_cons (ps_set (i := 1) sc__law_form.nd rfl (Or.inl rfl) (pe_ifExp (PW.pt (pw_and (pt_cmpR (op_neD hr.units) (pv 1) (pe_tup pa_nil) (nomark _)) (pw_and1 (pt_cmpR op_lt (pe_ix ix_tup (pv 1) pe_int (fun _ _ => rfl)) pe_int (nomark _))))) (pe_def c__law_off hr (by decide) (pa_cons (pv 1) pa_nil)) (pv 1)))
    (pss_cons (ps_set (i := 2) sc__law_form.nd rfl (Or.inl rfl) (pe_ifExp (PW.pt (pw_and (pt_cmpR (op_neD hr.units) (pv 2) (pe_tup pa_nil) (nomark _)) (pw_and1 (pt_cmpR op_lt (pe_ix ix_tup (pv 2) pe_int (fun _ _ => rfl)) pe_int (nomark _))))) (pe_def c__law_off hr (by decide) (pa_cons (pv 2) pa_nil)) (pv 2)))
    (pss_cons (ps_if (PW.pt (pw_and (pt_cmpR (op_neD hr.units) (pv 1) (pe_tup pa_nil) (nomark _)) (pw_and1 (pt_cmpR (op_neD hr.units) (pv 2) (pe_tup pa_nil) (nomark _))))) (pss_one (ps_set (i := 1) sc__law_form.nd rfl (Or.inl rfl) (pe_def c__law_put hr (by decide) (pa_cons (pv 1) (pa_cons (pe_def c__law_power hr (by decide) (pa_cons (pv 2) (pa_cons (pe_op op_sub pe_int (pe_op op_fdivW (pe_ix ix_tup (pv 1) pe_int (fun _ _ => rfl)) (pe_ix ix_tup (pv 2) pe_int (fun _ _ => rfl)))) pa_nil))) pa_nil))))) pss_nil)
    (pss_cons (ps_set (i := 4) sc__law_form.nd rfl (Or.inl rfl) (pe_lst pa_nil))
    (pss_cons (ps_for PassesOwn.never rfl (pi_list (pe_lst (pa_cons (pv 1) (pa_cons (pv 2) pa_nil)))) (pg_name (i := 5) sc__law_form.nd rfl (Or.inl rfl)) (pss_one (ps_expr (pe_bm PySem.F.plainAttrs_list PySem.F.slot_list_append PySem.F.type_list_append mt_append (pv 4) (pa_cons (pe_ifExp (PW.pt (pw_and (pt_cmpR (op_neD hr.units) (pv 5) (pe_tup pa_nil) (nomark _)) (pw_and1 (pt_cmpR op_gt (pv 3) pe_int (nomark _))))) (pe_op op_catT (pe_slice sl_tup (pv 5) po_none (po_some pe_int)) (pe_tup (pa_cons (pe_op op_mod (pe_callTy call_int1 (by rfl) T.n_int (by decide +kernel) (pa_cons (pe_ix ix_tup (pv 5) pe_int (fun _ _ => rfl)) pa_nil)) (pv 3)) pa_nil))) (pv 5)) pa_nil)))))
    (pss_one (ps_ret (pe_tup (pa_cons (pe_ix ix_list (pv 4) pe_int (fun _ _ => rfl)) (pa_cons (pe_ix ix_list (pv 4) pe_int (fun _ _ => rfl)) (pa_cons (pv 3) pa_nil)))))))))))), ?_⟩
  refine ⟨_, rfl, _, M, rfl, d, hM, fun q x y H1 s1 e1 dx dy => ⟨q, _, rfl, SqT.of e1, rfl, _, _, rfl, _, _, rfl, _, _, rfl, rfl, ?_⟩⟩
  generalize hz : stepZ (sifted M).e (sifted M).n (sifted M).z = z at *
  refine t_fix (k := 0) (by decide) rfl dx (fun t h => (B.sze t h).szn) fun ev H2 s2 de => ?_
  refine t_fix (k := 1) (by decide) rfl (Dp.up dy s2) (fun t h => (B.szn t h).szn) fun nv H3 s3 dn => ?_
  have de3 := Dp.up de s3
  have z1 : ∀ t ∈ fixO 0 (sifted M).e, Szn 500 t := by
    intro t ht
    cases he : (sifted M).e with
    | none => rw [he] at ht; cases ht
    | some a =>
      rw [he] at ht
      have := fixS_sz (sel := sx) (o := some a) (fun t h => B.sze t (by rw [he]; exact h))
      have e : t = fixS sx (some a) := (Option.some.inj ht).symm
      rw [e]
      exact ⟨natAbs_lt_of this.1 (by decide), natAbs_lt_of this.2.1 (by decide), natAbs_lt_of this.2.2 (by decide)⟩
  have z2 : ∀ t ∈ fixO 1 (sifted M).n, Szn 500 t ∧ 0 < t.2.1 := by
    intro t ht
    cases he : (sifted M).n with
    | none => rw [he] at ht; cases ht
    | some a =>
      rw [he] at ht
      have := fixS_sz (sel := sy) (o := some a) (fun t h => B.szn t (by rw [he]; exact h))
      have e : t = fixS sy (some a) := (Option.some.inj ht).symm
      rw [e]
      exact ⟨⟨natAbs_lt_of this.1 (by decide), natAbs_lt_of this.2.1 (by decide), natAbs_lt_of this.2.2 (by decide)⟩, fix1_pos (B.shp.n a he).2⟩
  refine t_adj de3 dn z1 z2 fun ev' H4 s4 de4 => ?_
  have dn4 := Dp.up dn s4
  have s14 := (s1.trans s2).trans (s3.trans s4)
  have hz0 : 0 ≤ z := by
    have := (formL_right hM.1 hM.2).c.z0
    rw [← hz]; exact this
  generalize heo : adjO (fixO 0 (sifted M).e) (fixO 1 (sifted M).n) = eo at *
  generalize hno : fixO 1 (sifted M).n = no at *
  refine ⟨Nat.zero_le _, fun fl hfl => ?_⟩
  have s5 := same_new (o := .lst []) hfl
  refine ⟨_, rfl, _, rfl, by show 2 ≤ sizeLine; decide, fun L hL => ⟨L, rfl, ⟨_, SqL.of upd_same⟩, ?_⟩⟩
  have s6 := same_new (o := .lst [ev', nv]) hL
  have nL : L ≠ fl := ne_of_none' hL upd_same
  refine for_list (K := K) (a := L) (xs := [ev', nv]) (fun i σ H' => ∃ (acc : List V) (b5 : Option V), σ = [some v, some ev', some nv, some (.int z), some (.ref fl), b5] ∧ Same H4 H' ∧ H' L = some (.lst [ev', nv]) ∧ H' fl = some (.lst acc) ∧ DpAll K H' acc ((([eo, no].take i).map (mdO z)).map oD))
    ⟨[], _, rfl, s5.trans s6, upd_same, s6 _ _ upd_same, .nil⟩ (fun i σ H' _ ⟨_, _, _, _, hl, _⟩ => SqL.of hl) ?_ ?_
  · rintro i x σ H5 hi ⟨acc, b5, rfl, sm, hl, hacc, da⟩
    obtain ⟨o, ho, dx⟩ : ∃ o, [eo, no][i]? = some o ∧ Dp K H4 x (oD o) := by
      match i, hi with
      | 0, hi => exact ⟨eo, rfl, by rw [← Option.some.inj hi]; exact de4⟩
      | 1, hi => exact ⟨no, rfl, by rw [← Option.some.inj hi]; exact dn4⟩
    have hlen : acc.length ≤ 2 := by
      rw [DpAll.len da]
      simp only [List.length_map, List.length_take]
      exact Nat.min_le_right _ _
    refine ⟨_, rfl, .inl ⟨rfl, _, SqL.of hacc⟩, ?_⟩
    refine t_md (v := x) (o := o) rfl (Dp.up dx sm) rfl fun v' H6 s6 d6 => ?_
    have hacc6 := s6 _ _ hacc
    refine ⟨fl, _, _, rfl, rfl, hacc6, Nat.lt_of_lt_of_le (show acc.length < 10 by omega) (by decide), ?_⟩
    refine ⟨acc ++ [v'], _, rfl, fun b o e => ?_, ?_, upd_same, ?_⟩
    · rw [upd_ne (ne_of_none e hfl)]; exact s6 _ _ (sm b o e)
    · rw [upd_ne nL]; exact s6 _ _ hl
    · rw [List.take_succ, ho]
      simp only [Option.toList_some, List.map_append, List.map_cons, List.map_nil]
      exact DpAll.app (oDs_upd hacc6 (DpAll.up da s6)) (.cons (oD_upd d6 hacc6) .nil)
  · rintro σ H5 ⟨acc, b5, rfl, sm, hl, hacc, da⟩
    have da : DpAll K H5 acc [oD (mdO z eo), oD (mdO z no)] := da
    obtain ⟨x, y, rfl, dx, dy⟩ : ∃ x y, acc = [x, y] ∧ Dp K H5 x (oD (mdO z eo)) ∧ Dp K H5 y (oD (mdO z no)) := by
      cases da with
      | cons a t =>
        cases t with
        | cons b t => cases t; exact ⟨_, _, rfl, a, b⟩
    refine ⟨_, rfl, _, _, _, _, rfl, rfl, SqL.of hacc, atI_nat (j := 0) (v := x) rfl, _, rfl, _, _, _, _, rfl, rfl, SqL.of hacc, atI_nat (j := 1) (v := y) rfl, _, rfl, by show 3 ≤ sizeLine; decide, fun p hp => ?_⟩
    have s7 := same_new (o := .tup [x, y, .int z]) hp
    refine k _ _ ((s14.trans sm).trans s7) ?_
    have e0 : formL M = lastF (sifted M).e (sifted M).n z := by unfold formL; rw [hz]
    rw [e0]
    refine f_mk (SqT.of upd_same) ?_ ?_
    · rw [P1]; exact Dp.up dx s7
    · rw [P2]; exact Dp.up dy s7
end
end K67

namespace K67
open PySem L2 KX
def stepG (o : Option T3) (k : Nat) (g : T3) : T3 := match o with
  | none => g
  | some t => put (pw t (0 - cT g k / cT t k)) g
def gAt (F : Fm) (g : T3) : Nat → T3
  | 0 => g
  | 1 => stepG (eO F) 0 g
  | _ => stepG (nO F) 1 (stepG (eO F) 0 g)
theorem restF_steps (F : Fm) (g : T3) : restF F g = (let r := stepG (nO F) 1 (stepG (eO F) 0 g); if F.z = 0 then r else (r.1, r.2.1, r.2.2 % F.z)) := by
  have e1 : ∀ g : T3, (if F.e.1 = 0 then g else put (pw F.e (0 - g.1 / F.e.1)) g) = stepG (eO F) 0 g := by
    intro g
    unfold eO
    split <;> rfl
  have e2 : ∀ g : T3, (if F.n.2.1 = 0 then g else put (pw F.n (0 - g.2.1 / F.n.2.1)) g) = stepG (nO F) 1 g := by
    intro g
    unfold nO
    split <;> rfl
  unfold restF
  simp only [e1, e2]
theorem stepG_sz {o : Option T3} {k n m : Nat} {g : T3} (h : ∀ t ∈ o, Szn 500 t) (hg : Szn n g) (hn : 500 ≤ n) (hm : 6 * n + 10 ≤ m) : Szn m (stepG o k g) := by
  cases o with
  | none => exact hg.mono (by omega)
  | some t =>
    have ht := h t rfl
    have hq : (0 - cT g k / cT t k).natAbs < 2 ^ n := by
      have h1 := Int.natAbs_ediv_le_natAbs (cT g k) (cT t k)
      have h2 := cT_sz hg k
      omega
    have s1 : Sq (n + n) (n + (3 * n + 1) + 1) (pw t (0 - cT g k / cT t k)) := pw_sq (natAbs_lt_of ht.x hn) (natAbs_lt_of ht.y hn) (natAbs_lt_of ht.s (by omega)) hq (by omega)
    have s2 : Sq (n + n) (n + (3 * n + 1) + 1) g := ⟨natAbs_lt_of hg.x (by omega), natAbs_lt_of hg.y (by omega), natAbs_lt_of hg.s (by omega)⟩
    exact (s1.put s2 (by omega)).szn (by omega) (by omega)
theorem Sf.ez {F : Fm} (S : Sf F) : Szn 500 F.e := ⟨natAbs_lt_of S.e1 (by decide), natAbs_lt_of S.e2 (by decide), S.e3⟩
theorem Sf.nz {F : Fm} (S : Sf F) : Szn 500 F.n := ⟨by rw [S.n1]; exact Nat.two_pow_pos _, natAbs_lt_of S.n2 (by decide), S.n3⟩
section
variable {K : PySem.W.Frag} {H : Hp}
theorem t_step {k n : Nat} (k1 : k ≤ 1) {o : Option T3} {g : T3} {fa p : Addr} {x y el : V} {z : Int} {a1 : Option V} {D : Ends} (sq : SqT K H fa [x, y, .int z]) (hel : atI [x, y, V.int z] (k : Int) = some el) (d : Dp K H el (oD o)) (sp : SqT K H p (tV g))
    (ho : ∀ t ∈ o, Szn 500 t ∧ 0 < cT t k) (hg : Szn n g) (hn : 500 ≤ n) (hn2 : n ≤ 5000) (q : ∀ p' H', Same H H' → SqT K H' p' (tV (stepG o k g)) → D.nx [some (.ref fa), a1, some (.ref p'), some (.int (k : Int))] H') :
    tIfS (eTestN K (tOp (rIxT K) (tVar 0) (tVar 3))) (tAsg (tCall (sp_put K) [] E0 (tCons (tCall (sp_many K) [] E0 (tCons (tOp (rIxT K) (tVar 0) (tVar 3)) (tCons (tOp (rI0 fun i j => .int (i - j)) (tC (.int 0)) (tOp (rI CDivW fun i j => .int (i / j)) (tOp (rIxT K) (tVar 2) (tVar 3)) (tOp (rIxT K) (tOp (rIxT K) (tVar 0) (tVar 3)) (tVar 3)))) tNil))) (tCons (tVar 2) tNil))) (gName 2)) tNext
      D [some (.ref fa), a1, some (.ref p), some (.int (k : Int))] H := by
  refine e_testN (v := el) (o := o) (fun Q q => ⟨_, rfl, _, rfl, _, _, _, _, rfl, rfl, sq, hel, q _ (Same.refl _)⟩) d fun H1 s1 => ?_
  have sq1 := sqT_same s1 sq
  have sp1 := sqT_same s1 sp
  cases o with
  | none => exact iteF (q p H1 s1 sp1)
  | some t =>
    refine iteT ?_
    obtain ⟨zt, pt⟩ := ho t rfl
    obtain ⟨ta, rfl, st⟩ := oD_some (Dp.up d s1)
    have hq : (0 - cT g k / cT t k).natAbs < 2 ^ n := by
      have h1 := Int.natAbs_ediv_le_natAbs (cT g k) (cT t k)
      have h2 := cT_sz hg k
      omega
    refine ⟨_, rfl, _, rfl, _, _, _, _, rfl, rfl, sq1, hel, _, rfl, _, rfl, _, _, _, _, rfl, rfl, sp1, at_cT g k1, _, rfl, _, rfl, _, _, _, _, rfl, rfl, sq1, hel, _, rfl, _, _, _, _, rfl, rfl, st, at_cT t k1, ?_⟩
    refine ⟨_, _, rfl, rfl, ⟨pt, Nat.lt_trans (log2_of (cT_sz zt k) (by decide)) (by decide)⟩, _, _, rfl, rfl, ?_⟩
    refine ⟨ta, t, _, n, rfl, st, zt.mono hn, hq, by omega, by omega, fun p1 H2 hp1 s2 e2 => ?_⟩
    have s1' : Sq (n + n) (n + (3 * n + 1) + 1) (pw t (0 - cT g k / cT t k)) := pw_sq (natAbs_lt_of zt.x hn) (natAbs_lt_of zt.y hn) (natAbs_lt_of zt.s (by omega)) hq (by omega)
    refine ⟨_, rfl, p1, p, _, g, n + (3 * n + 1) + 1, rfl, SqT.of e2, sqT_same s2 sp1, s1'.szn (by omega) (by omega), hg.mono (by omega), by omega, by omega, fun p2 H3 hp2 s3 e3 => ?_⟩
    exact q p2 H3 ((s1.trans s2).trans s3) (SqT.of e3)
end
section
variable {P : Program} {w : World} {K : PySem.W.Frag} {mg : Str → Option Value} {base : Heap} {f : Addr} {fd : FuncData}
abbrev s__law_rest : Stmt := topS 65
abbrev N__law_rest : List Str := ["_law_shape", "_law_trip_here", "_law_found", "_law_at"]
theorem sc__law_rest : FnScope N__law_rest ["_law_shape", "_law_trip_here"] (defScope s__law_rest) := ⟨rfl, rfl, rfl, by decide +kernel, rfl, by decide +kernel, by decide +kernel⟩
def sp_rest (K : PySem.W.Frag) : Sp := fun vs H Q _ => ∃ (v : V) (p : Addr) (F : Fm) (g : T3), vs = [v, .ref p] ∧ Dp K H v (fD F) ∧ SqT K H p (tV g) ∧ Canon F ∧ Sf F ∧ Szn 500 g ∧
  ∀ (q : Addr) (H' : Hp), Same H H' → SqT K H' q (tV (restF F g)) → (F.z ≠ 0 → H' q = some (.tup (tV (restF F g)))) → Q (.ref q) H'
theorem ok_law_rest (F : Fun K "_law_rest" "_law_rest" s__law_rest f fd) (T : Txt K mg) (c__law_put : Def P w K mg base "_law_put" 1 ["_law_left", "_law_right_here"] (sp_put K)) (c__law_power : Def P w K mg base "_law_power" 1 ["_law_trip_here", "_law_count"] (sp_many K)) :
    FnOk P w K mg base CX0 2 f fd ["_law_shape", "_law_trip_here"] (sp_rest K) := by
  refine F.ok sc__law_rest (fun vs H Q E ⟨v, p, F, g, h, _⟩ => by rw [h]; rfl) (fun cdv A outer s' H vs Q E hr ⟨v, p, F, g, h, d, sp, C, S, hg, k⟩ => ?_)
  subst h
  obtain ⟨fa, ev, nv, rfl, sq, de, dn⟩ := f_inv d
  have h1 : ∀ t ∈ eO F, Szn 500 t ∧ 0 < cT t 0 := fun t h => by
    have := eO_pos C t h
    obtain ⟨rfl, _⟩ := eO_some h
    exact ⟨S.ez, this⟩
  have h2 : ∀ t ∈ nO F, Szn 500 t ∧ 0 < cT t 1 := fun t h => by
    have := nO_pos C t h
    obtain ⟨rfl, _⟩ := nO_some h
    exact ⟨S.nz, this⟩
  refine ⟨_, (pss_cons (ps_set (i := 2) sc__law_rest.nd rfl (Or.inl rfl) (pv 1))
    (pss_cons (ps_for PassesOwn.never rfl (pi_range1 (by rfl) T.n_range (pa_cons pe_int pa_nil)) (pg_name (i := 3) sc__law_rest.nd rfl (Or.inl rfl)) (pss_one (ps_if (pt_cmpR (op_neD hr.units) (pe_ix ix_tup (pv 0) (pv 3) (fun _ _ => rfl)) (pe_tup pa_nil) (nomark _)) (pss_one (ps_set (i := 2) sc__law_rest.nd rfl (Or.inl rfl) (pe_def c__law_put hr (by decide) (pa_cons (pe_def c__law_power hr (by decide) (pa_cons (pe_ix ix_tup (pv 0) (pv 3) (fun _ _ => rfl)) (pa_cons (pe_op op_sub pe_int (pe_op op_fdivW (pe_ix ix_tup (pv 2) (pv 3) (fun _ _ => rfl)) (pe_ix ix_tup (pe_ix ix_tup (pv 0) (pv 3) (fun _ _ => rfl)) (pv 3) (fun _ _ => rfl)))) pa_nil))) (pa_cons (pv 2) pa_nil))))) pss_nil)))
    (pss_one (ps_ret (pe_ifExp (pt_cmpR op_eq (pe_ix ix_tup (pv 0) pe_int (fun _ _ => rfl)) pe_int (nomark _)) (pv 2) (pe_op op_catT (pe_slice sl_tup (pv 2) po_none (po_some pe_int)) (pe_tup (pa_cons (pe_op op_mod (pe_callTy call_int1 (by rfl) T.n_int (by decide +kernel) (pa_cons (pe_ix ix_tup (pv 2) pe_int (fun _ _ => rfl)) pa_nil)) (pe_ix ix_tup (pv 0) pe_int (fun _ _ => rfl))) pa_nil)))))))), ?_⟩
  refine ⟨_, rfl, (2 : Int), rfl, by decide, by decide, ?_⟩
  refine for_it (n := 2) (walk_rangeN (i := 2) (by decide)) (fun i σ H' => ∃ (q : Addr) (b3 : Option V), σ = [some (.ref fa), some (.ref p), some (.ref q), b3] ∧ Same H H' ∧ SqT K H' q (tV (gAt F g i))) ⟨p, _, rfl, Same.refl _, sp⟩ (fun _ _ _ _ _ => trivial) ?_ ?_
  · rintro i x σ H2 H3 hi ⟨q, b3, rfl, sm, sg⟩ ⟨rfl, rfl⟩
    rcases (show i = 0 ∨ i = 1 by omega) with rfl | rfl
    · replace sg : SqT K H3 q (tV g) := sg
      refine t_step (k := 0) (n := 500) (by decide) (sqT_same sm sq) rfl (Dp.up de sm) sg h1 hg (by decide) (by decide) fun p' H4 s4 g4 => ?_
      exact ⟨p', _, rfl, sm.trans s4, g4⟩
    · replace sg : SqT K H3 q (tV (stepG (eO F) 0 g)) := sg
      refine t_step (k := 1) (n := 3100) (by decide) (sqT_same sm sq) rfl (Dp.up dn sm) sg h2 (stepG_sz (fun t h => (h1 t h).1) hg (by decide) (by decide)) (by decide) (by decide) fun p' H4 s4 g4 => ?_
      exact ⟨p', _, rfl, sm.trans s4, g4⟩
  · rintro σ H2 ⟨q, b3, rfl, sm, sg⟩
    replace sg : SqT K H2 q (tV (stepG (nO F) 1 (stepG (eO F) 0 g))) := sg
    have sq2 := sqT_same sm sq
    have eR := restF_steps F g
    refine ⟨_, rfl, _, _, _, _, rfl, rfl, sq2, rfl, rfl, _, rfl, iteV (fun h0 => ?_) (fun h0 => ?_)⟩
    · simp only [if_pos h0] at eR
      exact ⟨_, rfl, k q H2 sm (by rw [eR]; exact sg) (fun h => absurd h0 h)⟩
    · simp only [if_neg h0] at eR
      have z0 := C.z0
      refine ⟨_, rfl, _, rfl, q, _, rfl, sg, (by show ¬ (0 = 0 ∧ 2 = 3); decide), fun p1 hp1 => ?_⟩
      generalize stepG (nO F) 1 (stepG (eO F) 0 g) = r at *
      have s3 := same_new (o := .tup [.int r.1, .int r.2.1]) hp1
      refine ⟨_, rfl, _, _, _, _, rfl, rfl, sqT_same s3 sg, rfl, .inl ⟨_, rfl, _, rfl, _, _, _, _, rfl, rfl, sqT_same s3 sq2, rfl, _, _, rfl, rfl, by omega, by show 1 ≤ sizeLine; decide, fun p2 hp2 => ?_⟩⟩
      have s4 := same_new (o := .tup [.int (r.2.2 % F.z)]) hp2
      refine ⟨p1, p2, [.int r.1, .int r.2.1], [.int (r.2.2 % F.z)], rfl, rfl, SqT.of (s4 _ _ upd_same), SqT.of upd_same, by simp, by show 3 ≤ sizeLine; decide, fun h => by simp at h, fun _ p3 hp3 => ?_⟩
      exact k p3 _ (((sm.trans s3).trans s4).trans (same_new hp3)) (by rw [eR]; exact SqT.of upd_same) (fun _ => by rw [eR]; exact upd_same)
abbrev s__law_tells : Stmt := topS 66
abbrev N__law_tells : List Str := ["_law_shape", "_law_trip_here"]
theorem sc__law_tells : FnScope N__law_tells ["_law_shape", "_law_trip_here"] (defScope s__law_tells) := ⟨rfl, rfl, rfl, by decide +kernel, rfl, by decide +kernel, by decide +kernel⟩
def sp_ltells (K : PySem.W.Frag) : Sp := fun vs H Q _ => ∃ (v : V) (p : Addr) (F : Fm) (g : T3), vs = [v, .ref p] ∧ Dp K H v (fD F) ∧ SqT K H p (tV g) ∧ Canon F ∧ Sf F ∧ Szn 500 g ∧ ∀ (H' : Hp), Same H H' → Q (.bl (decide (restF F g = (0, 0, 0)))) H'
theorem ok_law_tells (F : Fun K "_law_tells" "_law_tells" s__law_tells f fd) (c__law_rest : Def P w K mg base "_law_rest" 2 ["_law_shape", "_law_trip_here"] (sp_rest K)) : FnOk P w K mg base CX0 3 f fd ["_law_shape", "_law_trip_here"] (sp_ltells K) := by
  refine F.ok sc__law_tells (fun vs H Q E ⟨v, p, F, g, h, _⟩ => by rw [h]; rfl) (fun cdv A outer s' H vs Q E hr ⟨v, p, F, g, h, d, sp, C, S, hg, k⟩ => ?_)
  subst h
  refine ⟨_, (pss_one (ps_ret (pe_cmpR (op_eqD hr.units) (pe_def c__law_rest hr (by decide) (pa_cons (pv 0) (pa_cons (pv 1) pa_nil))) (pe_tup (pa_cons pe_int (pa_cons pe_int (pa_cons pe_int pa_nil)))) (nomark _)))), ?_⟩
  refine ⟨_, rfl, _, rfl, v, p, F, g, rfl, d, sp, C, S, hg, fun q H1 s1 sq _ => ?_⟩
  refine ⟨by show 3 ≤ sizeLine; decide, fun p1 hp1 => ⟨tD (restF F g), tD (0, 0, 0), ?_⟩⟩
  have s2 := same_new (o := .tup (tV (0, 0, 0))) hp1
  refine ⟨t3_mk (sqT_same s2 sq), t3_mk (t := (0, 0, 0)) (SqT.of upd_same), shaped_t3 _, shaped_t3 _, ?_⟩
  rw [eqv_t3]
  exact k _ (s1.trans s2)
abbrev s__law_lot : Stmt := topS 67
abbrev N__law_lot : List Str := ["_law_some", "_law_trip_here"]
theorem sc__law_lot : FnScope N__law_lot ["_law_some"] (defScope s__law_lot) := ⟨rfl, rfl, rfl, by decide +kernel, rfl, by decide +kernel, by decide +kernel⟩
def sp_lot (K : PySem.W.Frag) (CL C : Addr) : Sp := fun vs H Q _ => ∃ (G : Hp) (v : V) (M : List T3), vs = [v] ∧ Same G H ∧ Dp K G v (lD M) ∧ M ≠ [] ∧ Tol M ∧ ∀ (u : V) (G' H' : Hp), Up G H G' H' → LotAt CL C G' u M → Q u H'
theorem ok_law_lot {CL C : Addr} (F : Fun K "_law_lot" "_law_lot" s__law_lot f fd) (T : Txt K mg) (c_Move : Cla P w K mg base "Move" C 3 ["self", "east", "north", "area"] (sp_Move_init C)) (c_MoveLot : Cla P w K mg base "MoveLot" CL 5 ["self", "changes"] (sp_MoveLot_init CL C)) :
    FnOk P w K mg base CX0 7 f fd ["_law_some"] (sp_lot K CL C) := by
  refine F.ok sc__law_lot (fun vs H Q E ⟨G, v, M, h, _⟩ => by rw [h]; rfl) (fun cdv A outer s' H vs Q E hr ⟨G0, v, M, h, v0, d, hne, hM, k⟩ => ?_)
  subst h
  obtain ⟨a, xs, rfl, sq, da⟩ := l_inv d
  have hlen : xs.length = M.length := by rw [DpAll.len da, List.length_map]
  have h5 := hM.1
  refine ⟨_, (pss_one (ps_ret (pe_mk c_MoveLot hr (by decide) (pa_cons (pe_callTy call_tuple_of (by rfl) T.n_tuple (by decide +kernel) (pa_cons (pe_lc (own := [("_law_trip_here", 1)]) rfl sc__law_lot.nd (pi_list (pv 0)) (blkOk_by (N := N__law_lot) (sc := defScope s__law_lot) (by decide +kernel)) (fun _ _ _ _ _ => (pg_name (i := 1) sc__law_lot.nd rfl (Or.inl rfl))) (fun _ _ _ _ _ => pts_nil) (fun _ _ _ _ _ => (pe_mk c_Move hr (by decide) (pa_cons (pe_ix (ixB_tup (K := K) rfl) (pv 1) pe_int (fun _ _ => rfl)) (pa_cons (pe_ix (ixB_tup (K := K) rfl) (pv 1) pe_int (fun _ _ => rfl)) (pa_cons (pe_ix (ixB_tup (K := K) rfl) (pv 1) pe_int (fun _ _ => rfl)) pa_nil)))))) pa_nil)) pa_nil)))), ?_⟩
  refine ⟨_, rfl, a, rfl, ⟨_, v0.seq sq⟩, fun D hD => ?_⟩
  refine comp_R walk_list v0 hD (by omega) (fun G y j => ∃ m, M[j]? = some m ∧ MvAt C G y m) (fun G G' y j s ⟨m, e, q⟩ => ⟨m, e, q.up s⟩) (fun H4 sm => sm.seq (v0.seq sq)) ?_ ?_
  · rintro i x G4 H4 H5 Q' hi u4 ⟨rfl, hx⟩ hq
    obtain ⟨m, hm, dm⟩ := dpm_get da hx
    obtain ⟨pm, rfl, sm⟩ := t3_inv (Dp.up dm (v0.trans u4.h))
    refine ⟨rfl, _, rfl, _, _, _, _, rfl, rfl, sm, rfl, _, rfl, _, _, _, _, rfl, rfl, sm, rfl, _, rfl, _, _, _, _, rfl, rfl, sm, rfl, ?_⟩
    intro x dx nx nd ne
    refine ⟨x, dx, H5, m, rfl, nx, nd, ne, rfl, fun H6 s6 e6 => ⟨rfl, ?_⟩⟩
    exact hq _ _ _ ((Up.refl u4.v).newT nx s6 e6) ⟨m, hm, x, dx, rfl, upd_same⟩
  · intro G1 acc H1 u1 hacc hal hR
    refine ⟨D, acc, rfl, .inl ⟨SqL.of hacc, fun l hl => ?_⟩⟩
    have u2 := u1.new (o := .tup acc) hl
    have sG := same_new (o := .tup acc) (u1.free hl)
    intro x dx nx nd ne
    have hmv : MvsAt C (upd (upd G1 D (.lst acc)) l (.tup acc)) (.ref l) M := ⟨l, acc, rfl, upd_same, by rw [hal, hlen], fun j y e => by
      obtain ⟨m, e1, e2⟩ := hR j y e
      exact ⟨m, e1, e2.up sG⟩⟩
    refine ⟨x, dx, _, .ref l, M, rfl, nx, nd, ne, rfl, hmv.up u2.v, hne, hM.1, fun m hm => (hM.2 m hm).szn.mono (by decide), fun tv H5 s5 e5 => ⟨rfl, ?_⟩⟩
    have u3 := u2.newT nx s5 e5
    exact k _ _ _ u3 ⟨x, dx, .ref l, tv, rfl, upd_same, hmv.up (same_new (u2.free nx))⟩
end
end K67

namespace K67
open PySem L2 KX
def kk (t : T3) : List Key := [.inl t.1, .inl t.2.1, .inl t.2.2]
theorem kk_inj {a b : T3} (h : kk a = kk b) : a = b := by
  unfold kk at h
  simp only [List.cons.injEq, Sum.inl.injEq, and_true] at h
  exact t3_ext h.1 h.2.1 h.2.2
def kvs (l : List T3) : List (List Key × V) := l.map fun t => (kk t, V.bl true)
theorem kvs_get (t : T3) : ∀ l : List T3, valV (kvs l) (kk t) = if t ∈ l then some (V.bl true) else none
  | [] => rfl
  | a :: l => by
    show valV ((kk a, V.bl true) :: kvs l) (kk t) = _
    by_cases h : a = t
    · subst h
      rw [valV_pos rfl, if_pos (by simp)]
    · rw [valV_neg (fun q => h (kk_inj q)), kvs_get t l]
      by_cases m : t ∈ l
      · rw [if_pos m, if_pos (by simp [m])]
      · rw [if_neg m, if_neg (by simp [m, Ne.symm h])]
theorem kvs_put {t : T3} {l : List T3} (h : t ∉ l) : putK (kvs l) (kk t) (V.bl true) = kvs (l ++ [t]) := by
  rw [putK_new _ (by rw [kvs_get, if_neg h])]
  unfold kvs
  rw [List.map_append]; rfl
theorem sqT_updG {K : PySem.W.Frag} {H : Hp} {a fl : Addr} {xs : List V} {u : HO} (h : SqT K H a xs) (h1 : ∀ ys, H fl ≠ some (.tup ys)) (h2 : ∀ o ys, H fl ≠ some (.frz o (.tup ys))) : SqT K (upd H fl u) a xs := by
  rcases h with h | h
  · refine .inl ?_
    have ne : a ≠ fl := fun q => by
      subst q
      rcases h with h | ⟨o, h⟩
      · exact h1 _ h
      · exact h2 _ _ h
    rcases h with h | ⟨o, h⟩
    · exact .inl (by rw [upd_ne ne]; exact h)
    · exact .inr ⟨o, by rw [upd_ne ne]; exact h⟩
  · exact .inr h
theorem tDs_updG {K : PySem.W.Frag} {H : Hp} {fl : Addr} {u : HO} (h1 : ∀ ys, H fl ≠ some (.tup ys)) (h2 : ∀ o ys, H fl ≠ some (.frz o (.tup ys))) : ∀ {vs : List V} {M : List T3}, DpAll K H vs (M.map tD) → DpAll K (upd H fl u) vs (M.map tD)
  | _, [], h => by cases h; exact .nil
  | _, m :: M, h => by
    cases h with
    | cons a b =>
      obtain ⟨p, rfl, sp⟩ := t3_inv a
      exact .cons (t3_mk (sqT_updG sp h1 h2)) (tDs_updG h1 h2 b)
structure Ms (K : PySem.W.Frag) (H : Hp) (df lt le : Addr) (es : List V) (edge : List T3) (H' : Hp) (ls : List V) (st : List T3 × List T3) : Prop where
  s : Same H H'
  e : H' le = some (.lst es)
  ed : DpAll K H' es (edge.map tD)
  l : H' lt = some (.lst ls)
  ld : DpAll K H' ls (st.1.map tD)
  d : H' df = some (.dT (kvs st.2))
  n : le ≠ lt
  b1 : st.1.length ≤ st.2.length
  b2 : st.2.length ≤ 41
  z : ∀ h ∈ st.1, Szn 490 h
theorem Ms.up {K : PySem.W.Frag} {H : Hp} {df lt le : Addr} {es : List V} {edge : List T3} {H' H2 : Hp} {ls : List V} {st : List T3 × List T3} (m : Ms K H df lt le es edge H' ls st) (s : Same H' H2) : Ms K H df lt le es edge H2 ls st :=
  ⟨m.s.trans s, s _ _ m.e, DpAll.up m.ed s, s _ _ m.l, DpAll.up m.ld s, s _ _ m.d, m.n, m.b1, m.b2, m.z⟩
theorem Ms.add {K : PySem.W.Frag} {H : Hp} {df lt le : Addr} {es : List V} {edge : List T3} {H' : Hp} {ls : List V} {st : List T3 × List T3} (m : Ms K H df lt le es edge H' ls st) {t : T3} {b : Addr} (hb : H' b = some (.tup (tV t))) (hz : Szn 490 t) (hd : H df = none) (hl : H lt = none) (hlt : st.2.length < 41) :
    Ms K H df lt le es edge (upd (upd H' df (.dT (kvs (st.2 ++ [t])))) lt (.lst (ls ++ [.ref b]))) (ls ++ [.ref b]) (st.1 ++ [t], st.2 ++ [t]) := by
  have nde : le ≠ df := fun q => by have := m.e; rw [q, m.d] at this; cases this
  have ndl : lt ≠ df := fun q => by have := m.l; rw [q, m.d] at this; cases this
  have nbd : b ≠ df := fun q => by rw [q, m.d] at hb; cases hb
  have nbl : b ≠ lt := fun q => by rw [q, m.l] at hb; cases hb
  have d1 : ∀ ys, H' df ≠ some (.tup ys) := fun ys q => by rw [m.d] at q; cases q
  have d2 : ∀ o ys, H' df ≠ some (.frz o (.tup ys)) := fun o ys q => by rw [m.d] at q; cases q
  have e1 : upd H' df (.dT (kvs (st.2 ++ [t]))) lt = some (.lst ls) := by rw [upd_ne ndl]; exact m.l
  have l1 : ∀ ys, upd H' df (.dT (kvs (st.2 ++ [t]))) lt ≠ some (.tup ys) := fun ys q => by rw [e1] at q; cases q
  have l2 : ∀ o ys, upd H' df (.dT (kvs (st.2 ++ [t]))) lt ≠ some (.frz o (.tup ys)) := fun o ys q => by rw [e1] at q; cases q
  refine ⟨fun x o e => ?_, ?_, ?_, upd_same, ?_, ?_, m.n, ?_, ?_, ?_⟩
  · rw [upd_ne (ne_of_none e hl), upd_ne (ne_of_none e hd)]; exact m.s x o e
  · rw [upd_ne m.n, upd_ne nde]; exact m.e
  · exact tDs_updG l1 l2 (tDs_updG d1 d2 m.ed)
  · rw [List.map_append]
    refine DpAll.app (tDs_updG l1 l2 (tDs_updG d1 d2 m.ld)) (.cons (t3_mk (SqT.of ?_)) .nil)
    rw [upd_ne nbl, upd_ne nbd]; exact hb
  · rw [upd_ne (Ne.symm ndl)]; exact upd_same
  · simp only [List.length_append, List.length_singleton]; have := m.b1; omega
  · simp only [List.length_append, List.length_singleton]; omega
  · intro h hh
    rcases List.mem_append.1 hh with q | q
    · exact m.z h q
    · simp at q; rw [q]; exact hz
theorem rest_sz {F : Fm} (C : Canon F) (S : Sf F) (fx : 0 < F.e.1) (fy : 0 < F.n.2.1) (fz : 0 < F.z) (g : T3) : Szn 490 (restF F g) := by
  obtain ⟨_, R⟩ := rest_spec C g
  obtain ⟨x0, x1⟩ := R.x fx
  obtain ⟨y0, y1⟩ := R.y fy
  obtain ⟨s0, s1⟩ := R.s fz
  have h1 := S.e1; have h2 := S.n2; have h3 := S.z
  exact ⟨natAbs_lt_of (n := 8) (by omega) (by decide), natAbs_lt_of (n := 64) (by omega) (by decide), natAbs_lt_of (n := 488) (by omega) (by decide)⟩
theorem step_sz {h s : T3} (hh : Szn 490 h) (hs : s ∈ steps4) : Szn 495 (put h s) ∧ Szn 490 s := by
  have e : (2 : Nat) ^ 490 + 2 ^ 490 + 2 ^ 490 ≤ 2 ^ 495 := by decide +kernel
  have e1 : 1 < (2 : Nat) ^ 490 := by decide +kernel
  obtain ⟨h1, h2, h3⟩ := hh
  unfold steps4 at hs
  simp only [List.mem_cons, List.not_mem_nil, or_false] at hs
  generalize (2 : Nat) ^ 490 = N at *
  rcases hs with rfl | rfl | rfl | rfl
  · refine ⟨⟨?_, ?_, ?_⟩, ⟨?_, ?_, ?_⟩⟩ <;> simp only [put] <;> omega
  · refine ⟨⟨?_, ?_, ?_⟩, ⟨?_, ?_, ?_⟩⟩ <;> simp only [put] <;> omega
  · refine ⟨⟨?_, ?_, ?_⟩, ⟨?_, ?_, ?_⟩⟩ <;> simp only [put] <;> omega
  · refine ⟨⟨?_, ?_, ?_⟩, ⟨?_, ?_, ?_⟩⟩ <;> simp only [put] <;> omega
section
variable {P : Program} {w : World} {K : PySem.W.Frag} {mg : Str → Option Value} {base : Heap} {f : Addr} {fd : FuncData}
abbrev s__law_met : Stmt := topS 68
abbrev N__law_met : List Str := ["_law_shape", "_law_edge", "_law_found", "_law_turn", "_law_later", "_law_here", "_law_step", "_law_there"]
theorem sc__law_met : FnScope N__law_met ["_law_shape"] (defScope s__law_met) := ⟨rfl, rfl, rfl, by decide +kernel, rfl, by decide +kernel, by decide +kernel⟩
def sp_met (K : PySem.W.Frag) : Sp := fun vs H Q _ => ∃ (v : V) (F : Fm), vs = [v] ∧ Dp K H v (fD F) ∧ Canon F ∧ Sf F ∧ 0 < F.e.1 ∧ 0 < F.n.2.1 ∧ 0 < F.z ∧ ∀ (H' : Hp), Same H H' → Q (.int (met F : Nat)) H'
theorem ok_law_met (F : Fun K "_law_met" "_law_met" s__law_met f fd) (T : Txt K mg) (c__law_rest : Def P w K mg base "_law_rest" 2 ["_law_shape", "_law_trip_here"] (sp_rest K)) (c__law_put : Def P w K mg base "_law_put" 1 ["_law_left", "_law_right_here"] (sp_put K)) :
    FnOk P w K mg base CX0 3 f fd ["_law_shape"] (sp_met K) := by
  refine F.ok sc__law_met (fun vs H Q E ⟨v, F, h, _⟩ => by rw [h]; rfl) (fun cdv A outer s' H vs Q E hr ⟨v, F, h, dv, C, S, fx, fy, fz, k⟩ => ?_)
  subst h
  refine ⟨_, (pss_cons (ps_par (i := 1) (j := 2) (by rfl) sc__law_met.nd rfl rfl (by decide) rfl rfl (pa_cons (pe_lst (pa_cons (pe_tup (pa_cons pe_int (pa_cons pe_int (pa_cons pe_int pa_nil)))) pa_nil)) (pa_cons (pe_dispT (hu_of hr) (pe_tup (pa_cons pe_int (pa_cons pe_int (pa_cons pe_int pa_nil)))) pe_bl) pa_nil)) (by rfl))
    (pss_cons (ps_for PassesOwn.never rfl (pi_range1 (by rfl) T.n_range (pa_cons pe_int pa_nil)) (pg_name (i := 3) sc__law_met.nd rfl (Or.inl rfl)) (pss_cons (ps_set (i := 4) sc__law_met.nd rfl (Or.inl rfl) (pe_lst pa_nil))
    (pss_cons (ps_for PassesOwn.never rfl (pi_list (pv 1)) (pg_name (i := 5) sc__law_met.nd rfl (Or.inl rfl)) (pss_one (ps_for PassesOwn.never rfl (pi_list (pe_lst (pa_cons (pe_tup (pa_cons pe_int (pa_cons pe_int (pa_cons pe_int pa_nil)))) (pa_cons (pe_tup (pa_cons pe_int (pa_cons pe_int (pa_cons pe_int pa_nil)))) (pa_cons (pe_tup (pa_cons (pe_un un_neg pe_int) (pa_cons pe_int (pa_cons pe_int pa_nil)))) (pa_cons (pe_tup (pa_cons pe_int (pa_cons (pe_un un_neg pe_int) (pa_cons pe_int pa_nil)))) pa_nil)))))) (pg_name (i := 6) sc__law_met.nd rfl (Or.inl rfl)) (pss_cons (ps_set (i := 7) sc__law_met.nd rfl (Or.inl rfl) (pe_def c__law_rest hr (by decide) (pa_cons (pv 0) (pa_cons (pe_def c__law_put hr (by decide) (pa_cons (pv 5) (pa_cons (pv 6) pa_nil))) pa_nil))))
    (pss_one (ps_if (PW.pt (pw_and (pt_cmp (pc_dnotin (hu_of hr) (pv 7) (pv 2))) (pw_and1 (pt_cmpR op_lt (pe_callB call_len_dT (by rfl) T.n_len (by decide +kernel) (pa_cons (pv 2) pa_nil)) pe_int (nomark _))))) (pss_cons (ps_dput (hu_of hr) (pv 2) (pv 7) pe_bl rfl)
    (pss_one (ps_expr (pe_bm PySem.F.plainAttrs_list PySem.F.slot_list_append PySem.F.type_list_append mt_append (pv 4) (pa_cons (pv 7) pa_nil))))) pss_nil))))))
    (pss_cons (ps_set (i := 1) sc__law_met.nd rfl (Or.inl rfl) (pv 4))
    (pss_one (ps_if (pt_cmpR (op_eqD hr.units) (pv 1) (pe_lst pa_nil) (nomark _)) (pss_one ps_break) pss_nil))))))
    (pss_one (ps_ret (pe_callB call_len_dT (by rfl) T.n_len (by decide +kernel) (pa_cons (pv 2) pa_nil)))))), ?_⟩
  refine ⟨by show 3 ≤ sizeLine; decide, fun p1 hp1 => ⟨by show 1 ≤ sizeLine; decide, fun le0 hle0 df hdf => ⟨by show 3 ≤ sizeLine; decide, fun p2 hp2 => ?_⟩⟩⟩
  have q1 := same_new (o := .tup (tV (0, 0, 0))) hp1
  have q2 := same_new (o := .lst [.ref p1]) hle0
  have q12 := q1.trans q2
  have hdf0 : H df = none := q12.free hdf
  have q3 := same_new (o := .dT []) hdf
  have q4 := same_new (o := .tup (tV (0, 0, 0))) hp2
  have nle : le0 ≠ df := ne_of_none upd_same hdf
  have np1 : p1 ≠ df := ne_of_none (q2 _ _ upd_same) hdf
  refine ⟨q4 _ _ upd_same, kk (0, 0, 0), p2, rfl, upd_same, ⟨_, _, rfl, ?_⟩⟩
  have S0 : Same H (upd (upd (upd (upd (upd H p1 (.tup (tV (0, 0, 0)))) le0 (.lst [.ref p1])) df (.dT [])) p2 (.tup (tV (0, 0, 0)))) df (.dT (kvs [(0, 0, 0)]))) := fun b o e => by
    rw [upd_ne (ne_of_none e hdf0)]; exact q4 _ _ (q3 _ _ (q12 b o e))
  have E0 : upd (upd (upd (upd (upd H p1 (.tup (tV (0, 0, 0)))) le0 (.lst [.ref p1])) df (.dT [])) p2 (.tup (tV (0, 0, 0)))) df (.dT (kvs [(0, 0, 0)])) le0 = some (.lst [.ref p1]) := by
    rw [upd_ne nle]; exact q4 _ _ (q3 _ _ upd_same)
  have P0 : upd (upd (upd (upd (upd H p1 (.tup (tV (0, 0, 0)))) le0 (.lst [.ref p1])) df (.dT [])) p2 (.tup (tV (0, 0, 0)))) df (.dT (kvs [(0, 0, 0)])) p1 = some (.tup (tV (0, 0, 0))) := by
    rw [upd_ne np1]; exact q4 _ _ (q3 _ _ (q2 _ _ upd_same))
  have F0 : upd (upd (upd (upd (upd H p1 (.tup (tV (0, 0, 0)))) le0 (.lst [.ref p1])) df (.dT [])) p2 (.tup (tV (0, 0, 0)))) df (.dT (kvs [(0, 0, 0)])) df = some (.dT (kvs [(0, 0, 0)])) := upd_same
  have eH : upd (upd (upd (upd (upd H p1 (.tup (tV (0, 0, 0)))) le0 (.lst [.ref p1])) df (.dT [])) p2 (.tup (tV (0, 0, 0)))) df (.dT [(kk (0, 0, 0), .bl true)]) = upd (upd (upd (upd (upd H p1 (.tup (tV (0, 0, 0)))) le0 (.lst [.ref p1])) df (.dT [])) p2 (.tup (tV (0, 0, 0)))) df (.dT (kvs [(0, 0, 0)])) := rfl
  generalize hR : bfs F 200 [(0, 0, 0)] [(0, 0, 0)] = R
  have eR : met F = R.length := by unfold met; rw [hR]
  refine ⟨(200 : Int), rfl, by decide, by decide, ?_⟩
  refine for_it (n := 200) (walk_rangeN (i := 200) (by decide)) (fun i σ H' => ∃ (edge found : List T3) (le : Addr) (es : List V) (b3 b4 b5 b6 b7 : Option V), σ = [some v, some (.ref le), some (.ref df), b3, b4, b5, b6, b7] ∧ Same H H' ∧ H' le = some (.lst es) ∧ DpAll K H' es (edge.map tD) ∧ H' df = some (.dT (kvs found)) ∧
    (∀ h ∈ edge, Szn 490 h) ∧ found.length ≤ 41 ∧ edge.length ≤ 41 ∧ bfs F (200 - i) edge found = R)
    ⟨[(0, 0, 0)], [(0, 0, 0)], le0, [.ref p1], _, _, _, _, _, rfl, S0, E0, .cons (t3_mk (t := (0, 0, 0)) (SqT.of P0)) .nil, F0, ?_, by decide, by decide, hR⟩ (fun _ _ _ _ _ => trivial) ?_ ?_
  · intro h hh
    simp only [List.mem_singleton] at hh
    subst hh
    exact ⟨Nat.two_pow_pos _, Nat.two_pow_pos _, Nat.two_pow_pos _⟩
  · rintro i x σ H2 H3 hi ⟨edge, found, le, es, b3, b4, b5, b6, b7, rfl, sm, hle, des, hdf', hez, hf41, he41, eb⟩ ⟨rfl, rfl⟩
    obtain ⟨n, hn⟩ : ∃ n, 200 - i = n + 1 := ⟨199 - i, by omega⟩
    have hn2 : 200 - (i + 1) = n := by omega
    refine ⟨Nat.zero_le _, fun lt hlt => ?_⟩
    have hlt0 : H lt = none := sm.free hlt
    have s4 := same_new (o := .lst []) hlt
    have M0 : Ms K H df lt le es edge (upd H3 lt (.lst [])) [] ([], found) := ⟨sm.trans s4, s4 _ _ hle, DpAll.up des s4, upd_same, .nil, s4 _ _ hdf', ne_of_none hle hlt, Nat.zero_le _, hf41, by simp⟩
    refine ⟨_, rfl, le, rfl, ⟨_, SqL.of M0.e⟩, ?_⟩
    refine for_list (K := K) (a := le) (xs := es) (fun j σ H' => ∃ (ls : List V) (b5 b6 b7 : Option V), σ = [some v, some (.ref le), some (.ref df), some (.int (i : Nat)), some (.ref lt), b5, b6, b7] ∧ Ms K H df lt le es edge H' ls ((edge.take j).foldl (around F) ([], found)))
      ⟨[], _, _, _, rfl, M0⟩ (fun j σ H' _ ⟨_, _, _, _, _, m⟩ => SqL.of m.e) ?_ ?_
    · rintro j y σ H4 hj ⟨ls, b5, b6, b7, rfl, m⟩
      obtain ⟨h, hh, dh⟩ := dpm_get m.ed hj
      obtain ⟨hp, rfl, shp⟩ := t3_inv dh
      have hz := hez h (List.mem_of_getElem? hh)
      have est : (edge.take (j + 1)).foldl (around F) ([], found) = around F ((edge.take j).foldl (around F) ([], found)) h := by
        rw [List.take_succ, hh, List.foldl_append]; rfl
      generalize (edge.take j).foldl (around F) ([], found) = st at *
      have sz3 : 3 ≤ sizeLine := by decide
      refine ⟨sz3, fun t1 ht1 => ⟨sz3, fun t2 ht2 => ⟨_, rfl, sz3, fun t3 ht3 => ⟨_, rfl, sz3, fun t4 ht4 => ⟨by show 4 ≤ sizeLine; decide, fun L hL => ?_⟩⟩⟩⟩⟩
      have r1 := same_new (o := .tup (tV (1, 0, 0))) ht1
      have r2 := same_new (o := .tup (tV (0, 1, 0))) ht2
      have r3 := same_new (o := .tup (tV (-1, 0, 0))) ht3
      have r4 := same_new (o := .tup (tV (0, -1, 0))) ht4
      have r5 := same_new (o := .lst [.ref t1, .ref t2, .ref t3, .ref t4]) hL
      have T4 : DpAll K _ [V.ref t1, .ref t2, .ref t3, .ref t4] (steps4.map tD) :=
        .cons (t3_mk (t := (1, 0, 0)) (SqT.of (r5 _ _ (r4 _ _ (r3 _ _ (r2 _ _ upd_same)))))) (.cons (t3_mk (t := (0, 1, 0)) (SqT.of (r5 _ _ (r4 _ _ (r3 _ _ upd_same)))))
          (.cons (t3_mk (t := (-1, 0, 0)) (SqT.of (r5 _ _ (r4 _ _ upd_same)))) (.cons (t3_mk (t := (0, -1, 0)) (SqT.of (r5 _ _ upd_same))) .nil)))
      have r15 := (((r1.trans r2).trans r3).trans r4).trans r5
      have m5 := m.up r15
      have shp5 := sqT_same r15 shp
      have nLl : L ≠ lt := ne_of_none' hL ((((r1.trans r2).trans r3).trans r4) _ _ m.l)
      have nLd : L ≠ df := ne_of_none' hL ((((r1.trans r2).trans r3).trans r4) _ _ m.d)
      refine ⟨L, rfl, ⟨_, SqL.of upd_same⟩, ?_⟩
      refine for_list (K := K) (a := L) (xs := [V.ref t1, .ref t2, .ref t3, .ref t4]) (fun l σ H' => ∃ (ls : List V) (b6 b7 : Option V), σ = [some v, some (.ref le), some (.ref df), some (.int (i : Nat)), some (.ref lt), some (.ref hp), b6, b7] ∧
        Ms K H df lt le es edge H' ls ((steps4.take l).foldl (fun st s => visit st (restF F (put h s))) st) ∧ H' L = some (.lst [V.ref t1, .ref t2, .ref t3, .ref t4]) ∧ DpAll K H' [V.ref t1, .ref t2, .ref t3, .ref t4] (steps4.map tD) ∧ DpAll K H' [V.ref hp] ([h].map tD))
        ⟨ls, _, _, rfl, m5, upd_same, T4, .cons (t3_mk shp5) .nil⟩ (fun l σ H' _ ⟨_, _, _, _, _, hl, _⟩ => SqL.of hl) ?_ ?_
      · rintro l y σ H6 hl ⟨ls, b6, b7, rfl, m, hL6, T6, hp6⟩
        obtain ⟨s, hs, ds⟩ := dpm_get T6 hl
        obtain ⟨sp, rfl, ssp⟩ := t3_inv ds
        obtain ⟨pz, psz⟩ := step_sz hz (List.mem_of_getElem? hs)
        have est2 : (steps4.take (l + 1)).foldl (fun st s => visit st (restF F (put h s))) st = visit ((steps4.take l).foldl (fun st s => visit st (restF F (put h s))) st) (restF F (put h s)) := by
          rw [List.take_succ, hs, List.foldl_append]; rfl
        rw [est2]
        generalize (steps4.take l).foldl (fun st s => visit st (restF F (put h s))) st = st2 at *
        have shp6 : SqT K H6 hp (tV h) := by
          cases hp6 with
          | cons a _ => obtain ⟨_, e, q⟩ := t3_inv a; cases e; exact q
        refine ⟨_, rfl, _, rfl, _, rfl, hp, sp, h, s, 490, rfl, shp6, ssp, hz, psz, by decide, by decide, fun p5 H7 hp5 s7 e7 => ?_⟩
        refine ⟨v, p5, F, put h s, rfl, Dp.up dv (m.s.trans s7), SqT.of e7, C, S, pz.mono (by decide), fun q H8 s8 sq8 tq8 => ?_⟩
        have hq := tq8 (by omega)
        have m8 := m.up (s7.trans s8)
        have T8 := DpAll.up T6 (s7.trans s8)
        have hp8 := DpAll.up hp6 (s7.trans s8)
        have hL8 := s8 _ _ (s7 _ _ hL6)
        have zt := rest_sz C S fx fy fz (put h s)
        generalize restF F (put h s) = t at *
        refine ⟨_, rfl, _, rfl, df, _, rfl, DGet.t (k := kk t) m8.d hq, ?_⟩
        rw [kvs_get]
        refine ⟨_, rfl, ?_⟩
        by_cases hin : t ∈ st2.2
        · rw [if_pos hin]
          refine iteF (iteF ?_)
          exact ⟨ls, _, _, rfl, by unfold visit; rw [if_neg (fun q => q.1 hin)]; exact m8, hL8, T8, hp8⟩
        · rw [if_neg hin]
          refine iteT ?_
          refine ⟨_, rfl, df, _, rfl, m8.d, _, _, rfl, rfl, _, rfl, iteD (fun hlt41 => ?_) (fun hge => ?_)⟩
          · have h41 : st2.2.length < 41 := by
              rw [show (kvs st2.2).length = st2.2.length from List.length_map _] at hlt41
              omega
            have ev : visit st2 t = (st2.1 ++ [t], st2.2 ++ [t]) := by unfold visit; rw [if_pos ⟨hin, h41⟩]
            have hd0 : H df = none := hdf0
            have m9 := m8.add hq zt hd0 hlt0 h41
            rw [← ev] at m9
            have ndl : lt ≠ df := fun q => by have := m8.l; rw [q, m8.d] at this; cases this
            have l9 : upd H8 df (.dT (kvs (st2.2 ++ [t]))) lt = some (.lst ls) := by rw [upd_ne ndl]; exact m8.l
            have hzl : ls.length < sizeLine := by
              have h1 : ls.length = st2.1.length := by rw [DpAll.len m8.ld, List.length_map]
              have := m8.b1
              exact Nat.lt_of_lt_of_le (show ls.length < 50 by omega) (by decide)
            have hkl : (kvs st2.2).length < sizeLine := by
              rw [show (kvs st2.2).length = st2.2.length from List.length_map _]
              exact Nat.lt_of_lt_of_le h41 (by decide)
            have d1 : ∀ ys, H8 df ≠ some (.tup ys) := fun ys q => by rw [m8.d] at q; cases q
            have d2 : ∀ o ys, H8 df ≠ some (.frz o (.tup ys)) := fun o ys q => by rw [m8.d] at q; cases q
            have l1 : ∀ ys, upd H8 df (.dT (kvs (st2.2 ++ [t]))) lt ≠ some (.tup ys) := fun ys q => by rw [l9] at q; cases q
            have l2 : ∀ o ys, upd H8 df (.dT (kvs (st2.2 ++ [t]))) lt ≠ some (.frz o (.tup ys)) := fun o ys q => by rw [l9] at q; cases q
            have hput : DPut H8 df (.ref q) (.bl true) (upd H8 df (.dT (kvs (st2.2 ++ [t])))) := by
              have := DPut.t (v := V.bl true) m8.d (k := kk t) hq hkl
              rw [kvs_put hin] at this
              exact this
            refine ⟨_, rfl, _, rfl, df, _, rfl, hput, ?_⟩
            refine ⟨_, rfl, .inl ⟨rfl, _, SqL.of l9⟩, _, rfl, lt, _, _, rfl, rfl, l9, hzl, ?_⟩
            refine ⟨ls ++ [.ref q], _, _, rfl, m9, ?_, tDs_updG l1 l2 (tDs_updG d1 d2 T8), tDs_updG l1 l2 (tDs_updG d1 d2 hp8)⟩
            rw [upd_ne nLl, upd_ne nLd]; exact hL8
          · refine ⟨ls, _, _, rfl, ?_, hL8, T8, hp8⟩
            have hge : ¬ (((kvs st2.2).length : Nat) : Int) < 41 := hge
            rw [show (kvs st2.2).length = st2.2.length from List.length_map _] at hge
            unfold visit
            rw [if_neg (fun q => hge (by have := q.2; omega))]
            exact m8
      · rintro σ H6 ⟨ls, b6, b7, rfl, m, hL6, T6, hp6⟩
        refine ⟨ls, _, _, _, rfl, ?_⟩
        rw [est]
        exact m
    · rintro σ H4 ⟨ls, b5, b6, b7, rfl, m⟩
      have hel : es.length = edge.length := by rw [DpAll.len des, List.length_map]
      rw [hel, List.take_length] at m
      have eL : edge.foldl (around F) ([], found) = layer F edge found := rfl
      rw [eL] at m
      generalize hly : layer F edge found = ly at *
      refine ⟨_, rfl, ?_⟩
      refine ⟨_, rfl, Nat.zero_le _, fun p hp => ⟨lD ly.1, .list [], ?_⟩⟩
      have s5 := same_new (o := .lst []) hp
      have m5 := m.up s5
      refine ⟨.lst (SqL.of m5.l) m5.ld, .lst (SqL.of upd_same) .nil, shaped_lD _, shaped_nilL, _, rfl, ?_⟩
      rw [eqv_lD_nil]
      rw [hn] at eb
      unfold bfs at eb
      rw [hly] at eb
      have hb1 := m5.b1
      have hb2 := m5.b2
      cases hl1 : ly.1 with
      | nil =>
        rw [if_pos hl1] at eb
        refine iteT ?_
        refine ⟨_, rfl, df, _, rfl, m5.d, ?_⟩
        have := k _ m5.s
        rw [eR, ← eb] at this
        rw [show (kvs ly.2).length = ly.2.length from List.length_map _]
        exact this
      | cons x l =>
        rw [if_neg (by rw [hl1]; simp)] at eb
        refine iteF ?_
        exact ⟨ly.1, ly.2, lt, ls, _, _, _, _, _, rfl, m5.s, m5.l, m5.ld, m5.d, m5.z, hb2, by omega, by rw [hn2]; exact eb⟩
  · rintro σ H2 ⟨edge, found, le, es, b3, b4, b5, b6, b7, rfl, sm, hle, des, hdf', hez, hf41, he41, eb⟩
    have ef : found = R := eb
    refine ⟨_, rfl, df, _, rfl, hdf', ?_⟩
    have := k H2 sm
    rw [eR, ← ef] at this
    rw [show (kvs found).length = found.length from List.length_map _]
    exact this
end
end K67

namespace K67
open PySem L2 KX
/-! keywords alone -/
def kg1 (us ws : List Value) : List Value := match us with
  | [] => ws
  | _ => []
def kv1 (vs zs : List V) : List V := match vs with
  | [] => zs
  | _ => []
def kg2 (us ws : List Value) : List Value := match us, ws with
  | [], [a, b] => [b, a]
  | _, _ => []
def kv2 (vs zs : List V) : List V := match vs, zs with
  | [], [a, b] => [b, a]
  | _, _ => []
theorem kr1 {vs : List V} {us : List Value} {zs : List V} {ws : List Value} (a : Vals vs us) (b : Vals zs ws) : Vals (kv1 vs zs) (kg1 us ws) := by
  cases a with
  | nil => exact b
  | cons _ _ => exact .nil
theorem kr2 {vs : List V} {us : List Value} {zs : List V} {ws : List Value} (a : Vals vs us) (b : Vals zs ws) : Vals (kv2 vs zs) (kg2 us ws) := by
  cases a with
  | nil =>
    cases b with
    | nil => exact .nil
    | cons x t =>
      cases t with
      | nil => exact .nil
      | cons y t =>
        cases t with
        | nil => exact .cons y (.cons x .nil)
        | cons _ _ => exact .nil
  | cons _ _ =>
    cases b with
    | nil => exact .nil
    | cons x t =>
      cases t with
      | nil => exact .nil
      | cons y t =>
        cases t with
        | nil => exact .nil
        | cons _ _ => exact .nil
def cosD (F : Fm) : PyData := match cosets F with
  | none => .none
  | some c => .int c
theorem dp_cos {K : PySem.W.Frag} {H : Hp} (F : Fm) : Dp K H (cosV F) (cosD F) := by
  unfold cosV cosD
  cases cosets F with
  | none => exact .non
  | some c => exact .int c
theorem cos_sz {F : Fm} (S : Sf F) {c : Int} (h : cosets F = some c) : c.natAbs < 2 ^ 560 := by
  unfold cosets at h
  split at h
  · cases h
  · obtain rfl := Option.some.inj h
    exact natAbs_lt_of (sz_mul (sz_mul S.e1 S.n2) S.z) (by decide)
theorem cos_shown {F : Fm} (S : Sf F) : (cosD F).showable = true ∧ (cosD F).hasDict = false ∧ (cosD F).depth ≤ 9 ∧ (cosD F).shown.length ≤ sizeLine ∧ ∀ z, cosD F ≠ .str z := by
  unfold cosD
  cases h : cosets F with
  | none => exact ⟨rfl, rfl, by decide, by decide, fun z q => by cases q⟩
  | some c =>
    have hl : c.natAbs.log2 < 1920 := Nat.lt_trans (log2_of (cos_sz S h) (by decide)) (by decide)
    exact ⟨decide_eq_true hl, rfl, by show 0 ≤ 9; decide, Nat.le_trans (PyProof.Rows.int_text_len_1921 hl) (by decide), fun z q => by cases q⟩
theorem cos_non {F : Fm} : cosV F = .non ↔ (eO F).isNone = true ∨ (nO F).isNone = true := by
  unfold cosV cosets eO nO
  by_cases h1 : F.e.1 = 0
  · rw [if_pos h1, if_pos (.inl h1)]; simp
  · by_cases h2 : F.n.2.1 = 0
    · rw [if_pos h2, if_pos (.inr h2)]; simp
    · rw [if_neg h1, if_neg h2, if_neg (by rintro (h | h); exact h1 h; exact h2 h)]; simp
theorem dB {a b : Bool} : decide (V.bl a = V.bl b) = (a == b) := by cases a <;> cases b <;> decide
theorem e_val {K : PySem.W.Frag} {σ : L2.St} {H : Hp} {o : Option T3} {v : V} {te : TE} {Q : VK} (hi : ∀ (Q : VK), (∀ H', Same H H' → Q v H') → te σ H Q) (d : Dp K H v (oD o)) (q : ∀ H', Same H H' → Q (.bl o.isNone) H') : tOp (rEqD K) te (tTup tNil) σ H Q := by
  refine hi _ fun H1 s1 => ⟨Nat.zero_le _, fun p hp => ?_⟩
  have s := s1.trans (same_new (o := .tup []) hp)
  refine ⟨oD o, .tuple [], Dp.up d s, .tup (SqT.of upd_same) .nil, shaped_oD _, shaped_nil, ?_⟩
  rw [eqv_oD_nil]
  exact q _ s
theorem e_or {K : PySem.W.Frag} {σ : L2.St} {H : Hp} {o1 o2 : Option T3} {v1 v2 : V} {t1 t2 : TE} {Q : VK} (h1 : ∀ (H1 : Hp) (Q : VK), Same H H1 → (∀ H', Same H1 H' → Q v1 H') → t1 σ H1 Q) (h2 : ∀ (H1 : Hp) (Q : VK), Same H H1 → (∀ H', Same H1 H' → Q v2 H') → t2 σ H1 Q)
    (d1 : Dp K H v1 (oD o1)) (d2 : Dp K H v2 (oD o2)) (q : ∀ H', Same H H' → Q (.bl (o1.isNone || o2.isNone)) H') : tOrV (tOp (rEqD K) t1 (tTup tNil)) (tOp (rEqD K) t2 (tTup tNil)) σ H Q := by
  refine e_val (v := v1) (o := o1) (h1 H · (Same.refl _)) d1 fun H1 s1 => ⟨_, rfl, ?_⟩
  cases o1 with
  | none => exact iteT (q H1 s1)
  | some t =>
    refine iteF ?_
    refine e_val (v := v2) (o := o2) (h2 H1 · s1) (Dp.up d2 s1) fun H2 s2 => ?_
    exact q H2 (s1.trans s2)
theorem iteNs {x : V} {A B : Prop} (q : B) : if (!decide (x = x)) = true then A else B := by
  rw [decide_eq_true rfl]; exact iteF q
theorem iteBn {a b : Bool} {A B : Prop} (h : a = b) (q : B) : if (!decide (V.bl a = V.bl b)) = true then A else B := by
  subst h; exact iteNs q
section
variable {P : Program} {w : World} {K : PySem.W.Frag} {mg : Str → Option Value} {base : Heap} {f : Addr} {fd : FuncData} {CL C : Addr}
def sp_cosr (K : PySem.W.Frag) : Sp := fun vs H Q _ => ∃ (G : Hp) (v : V) (M : List T3), vs = [v] ∧ Same G H ∧ Dp K G v (lD M) ∧ M ≠ [] ∧ Tol M ∧ ∀ (H' : Hp), Same H H' → Q (.bl true) H'
abbrev s__law_cosets_right : Stmt := topS 69
abbrev N__law_cosets_right : List Str := ["_law_some", "_law_mine", "_law_shape", "_law_told_here"]
theorem sc__law_cosets_right : FnScope N__law_cosets_right ["_law_some"] (defScope s__law_cosets_right) := ⟨rfl, rfl, rfl, by decide +kernel, rfl, by decide +kernel, by decide +kernel⟩
theorem ok_law_cosets_right (F : Fun K "_law_cosets_right" "_law_cosets_right" s__law_cosets_right f fd) (T : Txt K mg) (c__law_lot : Def P w K mg base "_law_lot" 7 ["_law_some"] (sp_lot K CL C)) (c__law_form : Def P w K mg base "_law_form" 4 ["_law_some"] (sp_lform K))
    (c_move_cosets : Def P w K mg base "move_cosets" 9 ["lot"] (sp_mc CL C)) (kb_move_cosets : KBinds K c_move_cosets.fd ["lot"] ["lot"] kg1 kv1) (c__law_met : Def P w K mg base "_law_met" 3 ["_law_shape"] (sp_met K)) :
    FnOkG P w K mg base CX0 10 f fd ["_law_some"] (sp_cosr K) := by
  refine fnG F sc__law_cosets_right (fun vs H Q E ⟨G, v, M, h, _⟩ => by rw [h]; rfl) (fun cdv A outer s' H vs Q E gd hr ⟨G0, v, M, h, v0, d, hne, hM, k⟩ => ?_)
  subst h
  have C := (formL_right hM.1 hM.2).c
  have S := formL_sz hM.1 hM.2
  obtain ⟨w1, w2, w3, w4, w5⟩ := cos_shown S
  refine ⟨_, (pss_cons (ps_par (i := 1) (j := 2) (by rfl) sc__law_cosets_right.nd rfl rfl (by decide) rfl rfl (pa_cons (pe_def c__law_lot hr (by decide) (pa_cons (pv 0) pa_nil)) (pa_cons (pe_def c__law_form hr (by decide) (pa_cons (pv 0) pa_nil)) pa_nil)) (by rfl))
    (pss_cons (ps_set (i := 3) sc__law_cosets_right.nd rfl (Or.inl rfl) (pe_def c_move_cosets hr (by decide) (pa_cons (pv 1) pa_nil)))
    (pss_cons (ps_if (PW.pt (pw_or (pt_cmpR op_ne (pe_callB (call_reprD gd hr.units) (by rfl) T.n_repr (by decide +kernel) (pa_cons (pe_defK c_move_cosets hr (by decide) kb_move_cosets (pk_cons (pv 1) pk_nil)) pa_nil)) (pe_callB (call_reprD gd hr.units) (by rfl) T.n_repr (by decide +kernel) (pa_cons (pv 3) pa_nil)) (nomark _)) (pw_or1 (pt_cmpR op_ne (pe_cmpR op_isN (pv 3) pe_non (nomark _)) (pe_or (pe_cmpR (op_eqD hr.units) (pe_ix ix_tup (pv 2) pe_int (fun _ _ => rfl)) (pe_tup pa_nil) (nomark _)) (pe_one (pe_cmpR (op_eqD hr.units) (pe_ix ix_tup (pv 2) pe_int (fun _ _ => rfl)) (pe_tup pa_nil) (nomark _)))) (nomark _))))) (pss_one (ps_ret pe_bl)) pss_nil)
    (pss_cons (ps_if (pt_cmpR op_isN (pv 3) pe_non (nomark _)) (pss_one (ps_ret pe_bl)) pss_nil)
    (pss_cons (ps_if (pt_cmpR op_gt (pv 3) pe_int (nomark _)) (pss_one (ps_ret (pe_cmpR op_eq (pe_def c__law_met hr (by decide) (pa_cons (pv 2) pa_nil)) pe_int (nomark _)))) pss_nil)
    (pss_one (ps_ret (pe_and (pe_callB call_isi (by rfl) T.n_isinstance (by decide +kernel) (pa_cons (pv 3) (pa_cons (pe_bltn (v := V.ty "int") (u := Value.type "int") (by rfl) T.n_int (by decide +kernel) rfl) pa_nil))) (pe_one (pe_cmpR op_eq (pe_def c__law_met hr (by decide) (pa_cons (pv 2) pa_nil)) (pv 3) (nomark _))))))))))), ?_⟩
  refine ⟨_, rfl, G0, v, M, rfl, v0, d, hne, hM, fun mv G1 H1 u1 hm => ?_⟩
  refine ⟨_, rfl, v, M, rfl, Dp.up d (v0.trans u1.h), hM, fun sv H2 s2 ds => ⟨_, _, rfl, ?_⟩⟩
  have hm2 := hm.up (u1.v.trans s2)
  refine ⟨_, rfl, H2, _, M, rfl, Same.refl _, hm2, hM, fun H3 s3 => ?_⟩
  refine ⟨_, rfl, H3, _, M, rfl, Same.refl _, hm2.up s3, hM, fun H4 s4 => ?_⟩
  refine ⟨_, _, rfl, dp_cos _, w1, w2, w3, w4, w5, ?_⟩
  refine ⟨_, rfl, _, _, rfl, dp_cos _, w1, w2, w3, w4, w5, ?_⟩
  refine ⟨rfl, _, rfl, iteNs ?_⟩
  obtain ⟨fa, ev, nv, rfl, sq, de, dn⟩ := f_inv (Dp.up ds (s3.trans s4))
  refine ⟨_, rfl, rfl, ?_⟩
  refine e_or (v1 := ev) (v2 := nv) (o1 := eO (formL M)) (o2 := nO (formL M)) (fun H1 Q s q => ⟨_, rfl, _, _, _, _, rfl, rfl, sqT_same s sq, rfl, q _ (Same.refl _)⟩) (fun H1 Q s q => ⟨_, rfl, _, _, _, _, rfl, rfl, sqT_same s sq, rfl, q _ (Same.refl _)⟩) de dn fun H5 s5 => ?_
  have s25 := ((s3.trans s4).trans s5)
  have s05 := (u1.h.trans s2).trans s25
  have hb : decide (cosV (formL M) = .non) = ((eO (formL M)).isNone || (nO (formL M)).isNone) := by
    rw [Bool.eq_iff_iff, decide_eq_true_eq, cos_non, Bool.or_eq_true]
  refine ⟨rfl, _, rfl, iteBn hb ?_⟩
  refine ⟨_, rfl, rfl, _, rfl, ?_⟩
  cases hc : cosets (formL M) with
  | none =>
    have e : cosV (formL M) = .non := by unfold cosV; rw [hc]
    rw [e]
    exact iteT (k _ s05)
  | some c =>
    have e : cosV (formL M) = .int c := by unfold cosV; rw [hc]
    rw [e]
    refine iteF ?_
    obtain ⟨fx, fy, fz, ec⟩ : 0 < (formL M).e.1 ∧ 0 < (formL M).n.2.1 ∧ 0 < (formL M).z ∧ c = (formL M).e.1 * (formL M).n.2.1 * (formL M).z := by
      unfold cosets at hc
      split at hc
      · cases hc
      · rename_i h
        obtain ⟨a, b, d⟩ := C.full (fun q => h (.inl q)) (fun q => h (.inr q))
        exact ⟨a, b, d, (Option.some.inj hc).symm⟩
    obtain ⟨m1, m2⟩ := met_count C fx fy fz
    rw [← ec] at m1 m2
    have ds5 := Dp.up ds s25
    refine ⟨_, rfl, _, _, rfl, rfl, _, rfl, iteD (fun hgt => ?_) (fun hle => ?_)⟩
    · refine ⟨_, rfl, _, _, rfl, ds5, C, S, fx, fy, fz, fun H6 s6 => ⟨rfl, ?_⟩⟩
      rw [m1 hgt]
      have := k _ (s05.trans s6)
      rw [dV]
      exact this
    · refine ⟨_, rfl, _, _, _, _, true, rfl, .ty _, .base (.int _), kit_ty (by decide +kernel), true, rfl, iteT ?_⟩
      refine ⟨_, rfl, _, _, rfl, ds5, C, S, fx, fy, fz, fun H6 s6 => ⟨_, rfl, rfl, ?_⟩⟩
      have hle : ¬ c > 40 := hle
      rw [m2 (by omega), dV, decide_eq_true rfl]
      exact k _ (s05.trans s6)
end
end K67

namespace K67
open PySem L2 KX
def inn (M : List T3) (F : Fm) : Bool := M.all fun m => decide (restF F m = (0, 0, 0))
theorem inn_iff {M : List T3} {F : Fm} (C : Canon F) : inn M F = true ↔ ∀ m ∈ M, mem F m := by
  unfold inn
  rw [List.all_eq_true]
  constructor
  · intro h m hm; exact (rest_zero C m).1 (of_decide_eq_true (h m hm))
  · intro h m hm; exact decide_eq_true ((rest_zero C m).2 (h m hm))
theorem inn_self {M : List T3} {F : Fm} (R : Right M F) : inn M F = true := (inn_iff R.c).2 fun m hm => (R.g m).2 (fun S hS h => h m hm)
theorem inn_both {M N : List T3} {F G : Fm} (a : Right M F) (b : Right N G) : decide (F = G) = (inn M G && inn N F) := by
  rw [Bool.eq_iff_iff, decide_eq_true_eq, Bool.and_eq_true]
  constructor
  · intro h
    subst h
    exact ⟨inn_self a, inn_self b⟩
  · rintro ⟨h1, h2⟩
    have w1 := (a.within b).1 ((inn_iff b.c).1 h1)
    have w2 := (b.within a).1 ((inn_iff a.c).1 h2)
    exact a.c.unique b.c fun g => ⟨w1 g, w2 g⟩
theorem count_all {α : Type} {p : α → Bool} : ∀ l : List α, decide (((l.map p).count false : Nat) = (0 : Int)) = l.all p
  | [] => rfl
  | x :: l => by
    have ih := count_all (p := p) l
    rw [List.map_cons, List.count_cons, List.all_cons, ← ih]
    cases p x
    · simp
      omega
    · simp
def bD3 (a b c : Bool) : PyData := .list [.bool a, .bool b, .bool c]
theorem bD3_ok (a b c : Bool) : (bD3 a b c).showable = true ∧ (bD3 a b c).hasDict = false ∧ (bD3 a b c).depth ≤ 9 ∧ (bD3 a b c).shown.length ≤ sizeLine ∧ ∀ z, bD3 a b c ≠ .str z := by
  refine ⟨rfl, rfl, ?_, ?_, fun z q => by cases q⟩
  · simp [bD3, PyData.depth, PyData.depthAll]
  · cases a <;> cases b <;> cases c <;> decide +kernel
theorem bD3_mk {K : PySem.W.Frag} {H : Hp} {p : Addr} {a b c : Bool} (h : H p = some (.lst [.bl a, .bl b, .bl c])) : Dp K H (.ref p) (bD3 a b c) := .lst (SqL.of h) (.cons (.bl a) (.cons (.bl b) (.cons (.bl c) .nil)))
theorem t_and2 {σ : L2.St} {H : Hp} {i j : Nat} {a b : Bool} {Q : VK} (hi : σ[i]? = some (some (.bl a))) (hj : σ[j]? = some (some (.bl b))) (q : Q (.bl (a && b)) H) : tAndV (tVar i) (tVar j) σ H Q := by
  refine ⟨_, hi, _, rfl, ?_⟩
  cases a with
  | true => exact iteT ⟨_, hj, q⟩
  | false => exact iteF q
section
variable {P : Program} {w : World} {K : PySem.W.Frag} {mg : Str → Option Value} {base : Heap} {f : Addr} {fd : FuncData} {CL C : Addr}
def sp_wir (K : PySem.W.Frag) : Sp := fun vs H Q _ => ∃ (G : Hp) (v u : V) (M N : List T3), vs = [v, u] ∧ Same G H ∧ Dp K G v (lD M) ∧ Dp K G u (lD N) ∧ M ≠ [] ∧ N ≠ [] ∧ Tol M ∧ Tol N ∧ ∀ (H' : Hp), Same H H' → Q (.bl true) H'
abbrev s__law_within_right : Stmt := topS 70
abbrev N__law_within_right : List Str := ["_law_some", "_law_others", "_law_mine", "_law_mate", "_law_shape", "_law_far", "_law_inner", "_law_outer", "_law_told_here", "_law_small", "_law_great", "_law_trip_here"]
theorem sc__law_within_right : FnScope N__law_within_right ["_law_some", "_law_others"] (defScope s__law_within_right) := ⟨rfl, rfl, rfl, by decide +kernel, rfl, by decide +kernel, by decide +kernel⟩
theorem ok_law_within_right (F : Fun K "_law_within_right" "_law_within_right" s__law_within_right f fd) (T : Txt K mg) (c__law_lot : Def P w K mg base "_law_lot" 7 ["_law_some"] (sp_lot K CL C)) (c__law_form : Def P w K mg base "_law_form" 4 ["_law_some"] (sp_lform K))
    (c__law_tells : Def P w K mg base "_law_tells" 3 ["_law_shape", "_law_trip_here"] (sp_ltells K))
    (c_moves_within : Def P w K mg base "moves_within" 9 ["lot", "other_lot"] (sp_within CL C)) (kb_moves_within : KBinds K c_moves_within.fd ["lot", "other_lot"] ["other_lot", "lot"] kg2 kv2)
    (c_same_moves : Def P w K mg base "same_moves" 9 ["lot", "other_lot"] (sp_same CL C)) (kb_same_moves : KBinds K c_same_moves.fd ["lot", "other_lot"] ["other_lot", "lot"] kg2 kv2)
    (c_move_cosets : Def P w K mg base "move_cosets" 9 ["lot"] (sp_mc CL C)) :
    FnOkG P w K mg base CX0 10 f fd ["_law_some", "_law_others"] (sp_wir K) := by
  refine fnG F sc__law_within_right (fun vs H Q E ⟨G, v, u, M, N, h, _⟩ => by rw [h]; rfl) (fun cdv A outer s' H vs Q E gd hr ⟨G0, v, u, M, N, h, v0, dv, du, hne, hne2, hM, hN, k⟩ => ?_)
  subst h
  have RM := formL_right hM.1 hM.2
  have RN := formL_right hN.1 hN.2
  have SM := formL_sz hM.1 hM.2
  have SN := formL_sz hN.1 hN.2
  have eI := inn_both RM RN
  obtain ⟨a, xs, rfl, sqa, da⟩ := l_inv dv
  obtain ⟨b, ys, rfl, sqb, db⟩ := l_inv du
  have hxl : xs.length = M.length := by rw [DpAll.len da, List.length_map]
  have hyl : ys.length = N.length := by rw [DpAll.len db, List.length_map]
  have h5 := hM.1
  have h5' := hN.1
  refine ⟨_, (pss_cons (ps_par (i := 2) (j := 3) (by rfl) sc__law_within_right.nd rfl rfl (by decide) rfl rfl (pa_cons (pe_def c__law_lot hr (by decide) (pa_cons (pv 0) pa_nil)) (pa_cons (pe_def c__law_lot hr (by decide) (pa_cons (pv 1) pa_nil)) pa_nil)) (by rfl))
    (pss_cons (ps_asg (pe_tup (pa_cons (pe_def c__law_form hr (by decide) (pa_cons (pv 0) pa_nil)) (pa_cons (pe_def c__law_form hr (by decide) (pa_cons (pv 1) pa_nil)) pa_nil))) (pg_tup (by rfl) (pgs_cons (pg_name (i := 4) sc__law_within_right.nd rfl (Or.inr rfl)) (pgs_cons (pg_name (i := 5) sc__law_within_right.nd rfl (Or.inr rfl)) pgs_nil))))
    (pss_cons (ps_set (i := 6) sc__law_within_right.nd rfl (Or.inl rfl) (pe_cmpR op_eq (pe_bm PySem.F.plainAttrs_list PySem.F.slot_list_count PySem.F.type_list_count mt_lcountB (pe_lc (own := [("_law_trip_here", 11)]) rfl sc__law_within_right.nd (pi_list (pv 0)) (blkOk_by (N := N__law_within_right) (sc := defScope s__law_within_right) (by decide +kernel)) (fun _ _ _ _ _ => (pg_name (i := 11) sc__law_within_right.nd rfl (Or.inl rfl))) (fun _ _ _ _ _ => pts_nil) (fun _ _ _ _ _ => (pe_def c__law_tells hr (by decide) (pa_cons (pv 5) (pa_cons (pv 11) pa_nil))))) (pa_cons pe_bl pa_nil)) pe_int (nomark _)))
    (pss_cons (ps_set (i := 7) sc__law_within_right.nd rfl (Or.inl rfl) (pe_cmpR op_eq (pe_bm PySem.F.plainAttrs_list PySem.F.slot_list_count PySem.F.type_list_count mt_lcountB (pe_lc (own := [("_law_trip_here", 11)]) rfl sc__law_within_right.nd (pi_list (pv 1)) (blkOk_by (N := N__law_within_right) (sc := defScope s__law_within_right) (by decide +kernel)) (fun _ _ _ _ _ => (pg_name (i := 11) sc__law_within_right.nd rfl (Or.inl rfl))) (fun _ _ _ _ _ => pts_nil) (fun _ _ _ _ _ => (pe_def c__law_tells hr (by decide) (pa_cons (pv 4) (pa_cons (pv 11) pa_nil))))) (pa_cons pe_bl pa_nil)) pe_int (nomark _)))
    (pss_cons (ps_set (i := 8) sc__law_within_right.nd rfl (Or.inl rfl) (pe_lst (pa_cons (pe_def c_moves_within hr (by decide) (pa_cons (pv 2) (pa_cons (pv 3) pa_nil))) (pa_cons (pe_defK c_moves_within hr (by decide) kb_moves_within (pk_cons (pv 2) (pk_cons (pv 3) pk_nil))) (pa_cons (pe_def c_moves_within hr (by decide) (pa_cons (pv 2) (pa_cons (pv 2) pa_nil))) pa_nil)))))
    (pss_cons (ps_if (pt_cmpR op_ne (pe_callB (call_reprD gd hr.units) (by rfl) T.n_repr (by decide +kernel) (pa_cons (pv 8) pa_nil)) (pe_callB (call_reprD gd hr.units) (by rfl) T.n_repr (by decide +kernel) (pa_cons (pe_lst (pa_cons (pv 6) (pa_cons (pv 7) (pa_cons pe_bl pa_nil)))) pa_nil)) (nomark _)) (pss_one (ps_ret pe_bl)) pss_nil)
    (pss_cons (ps_set (i := 8) sc__law_within_right.nd rfl (Or.inl rfl) (pe_lst (pa_cons (pe_def c_same_moves hr (by decide) (pa_cons (pv 2) (pa_cons (pv 3) pa_nil))) (pa_cons (pe_defK c_same_moves hr (by decide) kb_same_moves (pk_cons (pv 2) (pk_cons (pv 3) pk_nil))) (pa_cons (pe_def c_same_moves hr (by decide) (pa_cons (pv 2) (pa_cons (pv 2) pa_nil))) pa_nil)))))
    (pss_cons (ps_if (pt_cmpR op_ne (pe_callB (call_reprD gd hr.units) (by rfl) T.n_repr (by decide +kernel) (pa_cons (pv 8) pa_nil)) (pe_callB (call_reprD gd hr.units) (by rfl) T.n_repr (by decide +kernel) (pa_cons (pe_lst (pa_cons (pe_and (pv 6) (pe_one (pv 7))) (pa_cons (pe_and (pv 6) (pe_one (pv 7))) (pa_cons pe_bl pa_nil)))) pa_nil)) (nomark _)) (pss_one (ps_ret pe_bl)) pss_nil)
    (pss_cons (ps_par (i := 9) (j := 10) (by rfl) sc__law_within_right.nd rfl rfl (by decide) rfl rfl (pa_cons (pe_def c_move_cosets hr (by decide) (pa_cons (pv 2) pa_nil)) (pa_cons (pe_def c_move_cosets hr (by decide) (pa_cons (pv 3) pa_nil)) pa_nil)) (by rfl))
    (pss_cons (ps_if (PW.pt (pw_and (pt_val (pv 6)) (pw_and (pt_cmpR op_notN (pv 9) pe_non (nomark _)) (pw_and1 (PW.pt (pw_or (pt_cmpR op_isN (pv 10) pe_non (nomark _)) (pw_or1 (pt_cmpR op_ne (pe_op op_mod (pe_callTy call_int1 (by rfl) T.n_int (by decide +kernel) (pa_cons (pv 9) pa_nil)) (pv 10)) pe_int (nomark _))))))))) (pss_one (ps_ret pe_bl)) pss_nil)
    (pss_one (ps_ret (pe_or (pe_not (pv 6)) (pe_or (pe_cmpR op_isN (pv 9) pe_non (nomark _)) (pe_one (pe_cmpR op_eq (pe_cmpR op_eq (pv 9) (pv 10) (nomark _)) (pv 7) (nomark _))))))))))))))))), ?_⟩
  refine ⟨_, rfl, G0, _, M, rfl, v0, dv, hne, hM, fun mv G1 H1 u1 hm => ?_⟩
  refine ⟨_, rfl, G1, _, N, rfl, u1.v, Dp.up du u1.g, hne2, hN, fun nv G2 H2 u2 hn => ⟨_, _, rfl, ?_⟩⟩
  have u12 := u1.trans u2
  have hm2 := hm.up (u2.g.trans u2.v)
  have hn2 := hn.up u2.v
  have v2 := v0.trans u12.h
  refine ⟨_, rfl, _, M, rfl, Dp.up dv v2, hM, fun sv H3 s3 ds => ?_⟩
  refine ⟨_, rfl, _, N, rfl, Dp.up du (v2.trans s3), hN, fun fv H4 s4 df => ⟨by show 2 ≤ sizeLine; decide, fun p4 hp4 => ?_⟩⟩
  have s5 := same_new (o := .tup [sv, fv]) hp4
  refine ⟨p4, _, rfl, SqT.of upd_same, rfl, _, _, rfl, _, _, rfl, rfl, ?_⟩
  have ds5 := Dp.up ds (s4.trans s5)
  have df5 := Dp.up df s5
  have s25 := (s3.trans s4).trans s5
  have v5 := v2.trans s25
  generalize upd H4 p4 (.tup [sv, fv]) = H5 at *
  -- inner
  refine ⟨_, rfl, a, rfl, ⟨_, v5.seq sqa⟩, fun D hD => ?_⟩
  refine comp_V (n := xs.length) walk_list hD (by omega) (fun i => V.bl (decide (restF (formL N) (M.getD i (0, 0, 0)) = (0, 0, 0)))) (fun H6 sm6 => (v5.trans sm6).seq sqa) ?_ ?_
  · rintro i x H6 H7 Q' hi sm6 ⟨rfl, hx⟩ hq
    obtain ⟨m, hm', dm⟩ := dpm_get da hx
    obtain ⟨pm, rfl, sm⟩ := t3_inv (Dp.up dm (v5.trans sm6))
    refine ⟨rfl, _, rfl, _, rfl, _, pm, formL N, m, rfl, Dp.up df5 sm6, sm, RN.c, SN, (hM.2 m (List.mem_of_getElem? hm')).szn.mono (by decide), fun H8 s8 => ?_⟩
    have := hq _ s8
    rw [List.getD_eq_getElem?_getD, hm'] at this
    exact this
  intro H6 sm6 h6
  have e1 : (List.range xs.length).map (fun i => V.bl (decide (restF (formL N) (M.getD i (0, 0, 0)) = (0, 0, 0)))) = (M.map fun m => decide (restF (formL N) m = (0, 0, 0))).map V.bl := by
    rw [hxl, List.map_map]
    exact range_map_getD M (0, 0, 0) (fun m => V.bl (decide (restF (formL N) m = (0, 0, 0))))
  rw [e1] at h6
  refine ⟨.inl ⟨rfl, _, SqL.of h6⟩, D, M.map fun m => decide (restF (formL N) m = (0, 0, 0)), false, rfl, rfl, SqL.of h6, rfl, ?_⟩
  rw [dV, count_all]
  have eA : (M.all fun m => decide (restF (formL N) m = (0, 0, 0))) = inn M (formL N) := rfl
  rw [eA]
  have v6 := v5.trans sm6
  have s26 := s25.trans sm6
  have ds6 := Dp.up ds5 sm6
  -- outer
  refine ⟨_, rfl, b, rfl, ⟨_, v6.seq sqb⟩, fun D2 hD2 => ?_⟩
  refine comp_V (n := ys.length) walk_list hD2 (by omega) (fun i => V.bl (decide (restF (formL M) (N.getD i (0, 0, 0)) = (0, 0, 0)))) (fun H7 sm7 => (v6.trans sm7).seq sqb) ?_ ?_
  · rintro i x H7 H8 Q' hi sm7 ⟨rfl, hx⟩ hq
    obtain ⟨m, hm', dm⟩ := dpm_get db hx
    obtain ⟨pm, rfl, sm⟩ := t3_inv (Dp.up dm (v6.trans sm7))
    refine ⟨rfl, _, rfl, _, rfl, _, pm, formL M, m, rfl, Dp.up ds6 sm7, sm, RM.c, SM, (hN.2 m (List.mem_of_getElem? hm')).szn.mono (by decide), fun H8 s8 => ?_⟩
    have := hq _ s8
    rw [List.getD_eq_getElem?_getD, hm'] at this
    exact this
  intro H7 sm7 h7
  have e2 : (List.range ys.length).map (fun i => V.bl (decide (restF (formL M) (N.getD i (0, 0, 0)) = (0, 0, 0)))) = (N.map fun m => decide (restF (formL M) m = (0, 0, 0))).map V.bl := by
    rw [hyl, List.map_map]
    exact range_map_getD N (0, 0, 0) (fun m => V.bl (decide (restF (formL M) m = (0, 0, 0))))
  rw [e2] at h7
  refine ⟨.inl ⟨rfl, _, SqL.of h7⟩, D2, N.map fun m => decide (restF (formL M) m = (0, 0, 0)), false, rfl, rfl, SqL.of h7, rfl, ?_⟩
  rw [dV, count_all]
  have eB : (N.all fun m => decide (restF (formL M) m = (0, 0, 0))) = inn N (formL M) := rfl
  rw [eB]
  have s27 := s26.trans sm7
  have mv7 := hm2.up s27
  have nv7 := hn2.up s27
  have eC : inn M (formL M) = true := inn_self RM
  -- told
  refine ⟨_, rfl, _, rfl, H7, mv, nv, M, N, rfl, Same.refl _, mv7, nv7, hM, hN, fun H8 s8 => ?_⟩
  refine ⟨_, rfl, _, rfl, H8, nv, mv, N, M, rfl, Same.refl _, nv7.up s8, mv7.up s8, hN, hM, fun H9 s9 => ?_⟩
  have s79 := s8.trans s9
  refine ⟨_, rfl, _, rfl, H9, mv, mv, M, M, rfl, Same.refl _, mv7.up s79, mv7.up s79, hM, hM, fun H10 s10 => ?_⟩
  have s710 := s79.trans s10
  refine ⟨by show 3 ≤ sizeLine; decide, fun p11 hp11 => ?_⟩
  have s11 := same_new (o := .lst [.bl (inn M (formL N)), .bl (inn N (formL M)), .bl (inn M (formL M))]) hp11
  obtain ⟨b1, b2, b3, b4, b5⟩ := bD3_ok (inn M (formL N)) (inn N (formL M)) true
  have dt : Dp K (upd H10 p11 (.lst [.bl (inn M (formL N)), .bl (inn N (formL M)), .bl (inn M (formL M))])) (.ref p11) (bD3 (inn M (formL N)) (inn N (formL M)) true) := by
    have := bD3_mk (K := K) (H := upd H10 p11 (.lst [.bl (inn M (formL N)), .bl (inn N (formL M)), .bl (inn M (formL M))])) upd_same
    rw [eC] at this ⊢
    exact this
  refine ⟨_, rfl, _, _, rfl, dt, b1, b2, b3, b4, b5, ?_⟩
  refine ⟨_, rfl, _, rfl, by show 3 ≤ sizeLine; decide, fun p12 hp12 => ?_⟩
  have s12 := same_new (o := .lst [.bl (inn M (formL N)), .bl (inn N (formL M)), .bl true]) hp12
  refine ⟨_, _, rfl, bD3_mk upd_same, b1, b2, b3, b4, b5, rfl, _, rfl, iteNs ?_⟩
  have s712 := (s710.trans s11).trans s12
  clear dt b1 b2 b3 b4 b5
  have mv12 := mv7.up s712
  have nv12 := nv7.up s712
  -- the same moves
  refine ⟨_, rfl, _, rfl, _, mv, nv, M, N, rfl, Same.refl _, mv12, nv12, hM, hN, fun H13 s13 => ?_⟩
  refine ⟨_, rfl, _, rfl, H13, nv, mv, N, M, rfl, Same.refl _, nv12.up s13, mv12.up s13, hN, hM, fun H14 s14 => ?_⟩
  have s1214 := s13.trans s14
  refine ⟨_, rfl, _, rfl, H14, mv, mv, M, M, rfl, Same.refl _, mv12.up s1214, mv12.up s1214, hM, hM, fun H15 s15 => ?_⟩
  have eI2 : decide (formL N = formL M) = (inn M (formL N) && inn N (formL M)) := by rw [inn_both RN RM, Bool.and_comm]
  rw [eI, eI2, decide_eq_true rfl]
  refine ⟨by show 3 ≤ sizeLine; decide, fun p16 hp16 => ?_⟩
  have s16 := same_new (o := .lst [.bl (inn M (formL N) && inn N (formL M)), .bl (inn M (formL N) && inn N (formL M)), .bl true]) hp16
  obtain ⟨b1, b2, b3, b4, b5⟩ := bD3_ok (inn M (formL N) && inn N (formL M)) (inn M (formL N) && inn N (formL M)) true
  refine ⟨_, rfl, _, _, rfl, bD3_mk upd_same, b1, b2, b3, b4, b5, ?_⟩
  refine t_and2 rfl rfl ?_
  refine t_and2 rfl rfl ?_
  refine ⟨by show 3 ≤ sizeLine; decide, fun p17 hp17 => ?_⟩
  have s17 := same_new (o := .lst [.bl (inn M (formL N) && inn N (formL M)), .bl (inn M (formL N) && inn N (formL M)), .bl true]) hp17
  refine ⟨_, _, rfl, bD3_mk upd_same, b1, b2, b3, b4, b5, rfl, _, rfl, iteNs ?_⟩
  have s1217 := ((s1214.trans s15).trans s16).trans s17
  have mv17 := mv12.up s1217
  have nv17 := nv12.up s1217
  have s017 := ((u12.h.trans s27).trans s712).trans s1217
  clear b1 b2 b3 b4 b5
  -- the counts
  refine ⟨_, rfl, _, mv, M, rfl, Same.refl _, mv17, hM, fun H18 s18 => ?_⟩
  refine ⟨_, rfl, _, nv, N, rfl, Same.refl _, nv17.up s18, hN, fun H19 s19 => ⟨_, _, rfl, ?_⟩⟩
  have s019 := (s017.trans s18).trans s19
  refine ⟨_, rfl, _, rfl, ?_⟩
  have hinn := inn_iff (M := M) RN.c
  have hinn2 := inn_iff (M := N) RM.c
  generalize hAe : inn M (formL N) = A1 at *
  generalize hBe : inn N (formL M) = B1 at *
  cases A1 with
  | false =>
    refine iteF (iteF ?_)
    refine ⟨_, rfl, _, rfl, ?_⟩
    exact ⟨_, rfl, iteT (k _ s019)⟩
  | true =>
    refine iteT ?_
    cases hc : cosets (formL M) with
    | none =>
      have e : cosV (formL M) = .non := by unfold cosV; rw [hc]
      rw [e]
      refine ⟨_, rfl, rfl, _, rfl, iteF (iteF ?_)⟩
      refine ⟨_, rfl, _, rfl, ?_⟩
      refine ⟨_, rfl, iteF ?_⟩
      refine ⟨_, rfl, rfl, ?_⟩
      exact ⟨_, rfl, iteT (k _ s019)⟩
    | some c =>
      obtain ⟨dd, hd, d0, cd, ci⟩ := lagrange RM RN (hinn.1 rfl) hc
      have e : cosV (formL M) = .int c := by unfold cosV; rw [hc]
      have e' : cosV (formL N) = .int dd := by unfold cosV; rw [hd]
      rw [e, e']
      refine ⟨_, rfl, rfl, _, rfl, iteT ?_⟩
      refine ⟨_, rfl, rfl, _, rfl, iteF ?_⟩
      refine ⟨_, rfl, .inl ⟨_, rfl, _, rfl, _, _, rfl, rfl, d0, rfl, _, rfl, ?_⟩⟩
      refine iteVn (a := c % dd) (b := 0) (fun h => absurd cd h) (fun _ => ?_)
      refine ⟨_, rfl, _, rfl, ?_⟩
      refine ⟨_, rfl, iteF ?_⟩
      refine ⟨_, rfl, rfl, ?_⟩
      refine ⟨_, rfl, iteF ?_⟩
      refine ⟨_, rfl, _, rfl, rfl, _, rfl, rfl, ?_⟩
      have hb : decide (V.int c = V.int dd) = B1 := by
        rw [dV, Bool.eq_iff_iff, decide_eq_true_eq, ci, hinn2]
      rw [hb, decide_eq_true rfl]
      exact k _ s019
end
end K67

namespace K67
open PySem L2 KX
def nD (l : List Int) : PyData := .list [.tuple (l.map PyData.int), .tuple (l.map PyData.int)]
theorem ndL_small (M : List T3) (h : M.length ≤ 5) : ∀ i ∈ ndL M, i.natAbs < 10 ^ 12 := by
  intro i hi
  unfold ndL ndN at hi
  simp only [List.mem_map, List.mem_filter, List.mem_range] at hi
  obtain ⟨k, ⟨hk, _⟩, rfl⟩ := hi
  have : (5 : Nat) < 10 ^ 12 := by decide
  omega
theorem ndL_len (M : List T3) : (ndL M).length ≤ M.length := by
  unfold ndL
  rw [List.length_map]
  exact ndN_len M _
theorem showAll_ints : ∀ {l : List Int}, (∀ i ∈ l, i.natAbs < 10 ^ 12) → PyData.showableAll (l.map PyData.int) = true
  | [], _ => rfl
  | i :: l, h => by
    have h1 : i.natAbs.log2 < 1920 := Nat.lt_trans (log2_of (n := 40) (Nat.lt_trans (h i (by simp)) (by decide)) (by decide)) (by decide)
    show (decide (i.natAbs.log2 < 1920) && PyData.showableAll (l.map PyData.int)) = true
    rw [decide_eq_true h1, showAll_ints fun j hj => h j (by simp [hj])]
    rfl
theorem noD_ints : ∀ l : List Int, PyData.hasDictAll (l.map PyData.int) = false
  | [] => rfl
  | i :: l => by
    show (false || PyData.hasDictAll (l.map PyData.int)) = false
    rw [noD_ints l]; rfl
theorem depth_ints : ∀ l : List Int, PyData.depthAll (l.map PyData.int) = 0
  | [] => rfl
  | i :: l => by
    show max 0 (PyData.depthAll (l.map PyData.int)) = 0
    rw [depth_ints l]; rfl
theorem canLay_ints : ∀ l : List Int, PyData.canLayAll0 (l.map PyData.int) = true
  | [] => by simp [PyData.canLayAll0]
  | i :: l => by
    have := canLay_ints l
    simp [PyData.canLayAll0, PyData.canLay0, this]
theorem shownAll_sum : ∀ {l : List Int}, (∀ i ∈ l, i.natAbs < 10 ^ 12) → ((PyData.shownAll (l.map PyData.int)).map (·.length)).sum ≤ 13 * l.length
  | [], _ => by simp [PyData.shownAll]
  | i :: l, h => by
    have h1 := PyData.shown_int_le (h i (by simp))
    have h2 := shownAll_sum (l := l) fun j hj => h j (List.mem_cons_of_mem _ hj)
    simp only [List.map_cons, PyData.shownAll, List.sum_cons, List.length_cons]
    omega
theorem shownAll_len : ∀ l : List PyData, (PyData.shownAll l).length = l.length
  | [] => by simp [PyData.shownAll]
  | x :: l => by simp [PyData.shownAll, shownAll_len l]
theorem nD_ok {l : List Int} (h : ∀ i ∈ l, i.natAbs < 10 ^ 12) (hl : l.length ≤ 5) : (nD l).showable = true ∧ (nD l).hasDict = false ∧ (nD l).depth ≤ 9 ∧ (nD l).shown.length ≤ sizeLine ∧ ∀ z, nD l ≠ .str z := by
  refine ⟨?_, ?_, ?_, ?_, fun z q => by cases q⟩
  · simp [nD, PyData.showable, PyData.showableAll, showAll_ints h]
  · simp [nD, PyData.hasDict, PyData.hasDictAll, noD_ints]
  · simp [nD, PyData.depth, PyData.depthAll, depth_ints]
  · have h1 := shownAll_sum h
    have h2 : (PyData.shown (.tuple (l.map PyData.int))).length ≤ 100 := by
      have := tupleText_len_le (PyData.shownAll (l.map PyData.int))
      rw [shownAll_len, List.length_map] at this
      show (tupleText (PyData.shownAll (l.map PyData.int))).length ≤ 100
      omega
    have h3 := listText_len_le (PyData.shownAll [.tuple (l.map PyData.int), .tuple (l.map PyData.int)])
    rw [shownAll_len] at h3
    simp only [PyData.shownAll, List.map_cons, List.map_nil, List.sum_cons, List.sum_nil, List.length_cons, List.length_nil] at h3
    have h4 : (nD l).shown.length ≤ 300 := by
      show (listText (PyData.shownAll [.tuple (l.map PyData.int), .tuple (l.map PyData.int)])).length ≤ 300
      simp only [PyData.shownAll]
      omega
    exact Nat.le_trans h4 (by decide)
section
variable {P : Program} {w : World} {K : PySem.W.Frag} {mg : Str → Option Value} {base : Heap} {f : Addr} {fd : FuncData} {CL C : Addr}
abbrev s__law_needless_right : Stmt := topS 71
abbrev N__law_needless_right : List Str := ["_law_some", "_law_due", "_law_at", "_law_mine"]
theorem sc__law_needless_right : FnScope N__law_needless_right ["_law_some"] (defScope s__law_needless_right) := ⟨rfl, rfl, rfl, by decide +kernel, rfl, by decide +kernel, by decide +kernel⟩
theorem ok_law_needless_right (F : Fun K "_law_needless_right" "_law_needless_right" s__law_needless_right f fd) (T : Txt K mg) (c__law_lot : Def P w K mg base "_law_lot" 7 ["_law_some"] (sp_lot K CL C)) (c__law_form : Def P w K mg base "_law_form" 4 ["_law_some"] (sp_lform K))
    (c__law_tells : Def P w K mg base "_law_tells" 3 ["_law_shape", "_law_trip_here"] (sp_ltells K)) (c_needless_moves : Def P w K mg base "needless_moves" 8 ["lot"] (sp_needless CL C)) (kb_needless_moves : KBinds K c_needless_moves.fd ["lot"] ["lot"] kg1 kv1) :
    FnOkG P w K mg base CX0 9 f fd ["_law_some"] (sp_cosr K) := by
  refine fnG F sc__law_needless_right (fun vs H Q E ⟨G, v, M, h, _⟩ => by rw [h]; rfl) (fun cdv A outer s' H vs Q E gd hr ⟨G0, v, M, h, v0, d, hne, hM, k⟩ => ?_)
  subst h
  obtain ⟨a, xs, rfl, sqa, da⟩ := l_inv d
  have hxl : xs.length = M.length := by rw [DpAll.len da, List.length_map]
  have h5 := hM.1
  refine ⟨_, (pss_cons (ps_set (i := 1) sc__law_needless_right.nd rfl (Or.inl rfl) (pe_lst pa_nil))
    (pss_cons (ps_for PassesOwn.never rfl (pi_range1 (by rfl) T.n_range (pa_cons (pe_callB call_len_seq (by rfl) T.n_len (by decide +kernel) (pa_cons (pv 0) pa_nil)) pa_nil)) (pg_name (i := 2) sc__law_needless_right.nd rfl (Or.inl rfl)) (pss_one (ps_if (pt_val (pe_def c__law_tells hr (by decide) (pa_cons (pe_def c__law_form hr (by decide) (pa_cons (pe_op op_cat (pe_slice sl_list (pv 0) po_none (po_some (pv 2))) (pe_slice sl_list (pv 0) (po_some (pe_op op_add (pv 2) pe_int)) po_none)) pa_nil)) (pa_cons (pe_ix ix_list (pv 0) (pv 2) (fun _ _ => rfl)) pa_nil)))) (pss_one (ps_expr (pe_bm PySem.F.plainAttrs_list PySem.F.slot_list_append PySem.F.type_list_append mt_append (pv 1) (pa_cons (pv 2) pa_nil)))) pss_nil)))
    (pss_cons (ps_set (i := 3) sc__law_needless_right.nd rfl (Or.inl rfl) (pe_def c__law_lot hr (by decide) (pa_cons (pv 0) pa_nil)))
    (pss_one (ps_ret (pe_cmpR op_eq (pe_callB (call_reprD gd hr.units) (by rfl) T.n_repr (by decide +kernel) (pa_cons (pe_lst (pa_cons (pe_def c_needless_moves hr (by decide) (pa_cons (pv 3) pa_nil)) (pa_cons (pe_defK c_needless_moves hr (by decide) kb_needless_moves (pk_cons (pv 3) pk_nil)) pa_nil))) pa_nil)) (pe_callB (call_reprD gd hr.units) (by rfl) T.n_repr (by decide +kernel) (pa_cons (pe_lst (pa_cons (pe_callTy call_tuple_of (by rfl) T.n_tuple (by decide +kernel) (pa_cons (pv 1) pa_nil)) (pa_cons (pe_callTy call_tuple_of (by rfl) T.n_tuple (by decide +kernel) (pa_cons (pv 1) pa_nil)) pa_nil))) pa_nil)) (nomark _))))))), ?_⟩
  refine ⟨Nat.zero_le _, fun fl hfl => ?_⟩
  have s0 := same_new (o := .lst []) hfl
  refine ⟨_, rfl, a, xs, rfl, .inl (s0.seq (v0.seq sqa)), (xs.length : Int), rfl, by omega, by omega, ?_⟩
  refine for_it (n := xs.length) (walk_rangeN (by omega)) (fun i σ H2 => ∃ (b2 b3 : Option V), σ = [some (.ref a), some (.ref fl), b2, b3] ∧ Same H H2 ∧ H2 fl = some (.lst ((ndN M i).map fun i : Nat => V.int (i : Int))))
    ⟨_, _, rfl, s0, upd_same⟩ (fun _ _ _ _ _ => trivial) ?_ ?_
  · rintro i x σ H2 H3 hi ⟨b2, b3, rfl, sm, hacc⟩ ⟨rfl, rfl⟩
    have v3 := v0.trans sm
    have hx := List.getElem?_eq_getElem hi
    obtain ⟨m, hm, dm⟩ := dpm_get da hx
    refine ⟨_, rfl, _, rfl, _, rfl, a, xs, rfl, v3.seq sqa, fun p1 hp1 => ?_⟩
    rw [cut1 (by omega)]
    have s1 := same_new (o := .lst (xs.take i)) hp1
    refine ⟨_, rfl, _, rfl, _, _, rfl, rfl, _, rfl, a, xs, rfl, s1.seq (v3.seq sqa), fun p2 hp2 => ?_⟩
    rw [cut2 hi]
    have s2 := same_new (o := .lst (xs.drop (i + 1))) hp2
    refine ⟨p1, p2, _, _, rfl, rfl, s2 _ _ upd_same, upd_same, ?_, fun p3 hp3 => ?_⟩
    · simp only [List.length_take, List.length_drop]
      exact Nat.le_trans (show _ ≤ 10 by omega) (by decide)
    have s3 := same_new (o := .lst (xs.take i ++ xs.drop (i + 1))) hp3
    have s13 := (s1.trans s2).trans s3
    have hacc3 := s13 _ _ hacc
    have sm3 := sm.trans s13
    have hp3' : upd (upd (upd H3 p1 (.lst (xs.take i))) p2 (.lst (xs.drop (i + 1)))) p3 (.lst (xs.take i ++ xs.drop (i + 1))) p3 = _ := upd_same
    generalize upd (upd (upd H3 p1 (.lst (xs.take i))) p2 (.lst (xs.drop (i + 1)))) p3 (.lst (xs.take i ++ xs.drop (i + 1))) = H4 at *
    have d4 : Dp K H4 (.ref p3) (lD (others M i)) := .lst (SqL.of hp3') (by
      unfold others
      rw [List.map_append, List.map_take, List.map_drop]
      exact DpAll.app (DpAll.take i (DpAll.up da (v0.trans sm3))) (DpAll.drop (i + 1) (DpAll.up da (v0.trans sm3))))
    refine ⟨_, _, rfl, d4, hM.others i, fun u H5 s5 d5 => ?_⟩
    have sm5 := sm3.trans s5
    have v5 := v0.trans sm5
    obtain ⟨pm, em, spm⟩ := t3_inv (Dp.up dm v5)
    refine ⟨_, rfl, _, rfl, a, xs, _, _, rfl, rfl, v5.seq sqa, atI_nat hx, ?_⟩
    have RO := (formL_right (hM.others i).1 (hM.others i).2).c
    have SO := formL_sz (hM.others i).1 (hM.others i).2
    refine ⟨u, pm, formL (others M i), m, by rw [em]; rfl, d5, spm, RO, SO, (hM.2 m (List.mem_of_getElem? hm)).szn.mono (by decide), fun H6 s6 => ?_⟩
    have hacc6 := s6 _ _ (s5 _ _ hacc3)
    have sm6 := sm5.trans s6
    have eM : M.getD i (0, 0, 0) = m := by rw [List.getD_eq_getElem?_getD, hm]; rfl
    have eN := ndN_s M i
    rw [eM] at eN
    refine ⟨_, rfl, iteD (fun h0 => ?_) (fun h0 => ?_)⟩
    · rw [if_pos h0] at eN
      refine ⟨_, rfl, .inl ⟨rfl, _, SqL.of hacc6⟩, _, rfl, fl, _, _, rfl, rfl, hacc6, ?_, ?_⟩
      · rw [List.length_map]
        exact Nat.lt_of_le_of_lt (ndN_len M i) (Nat.lt_of_lt_of_le (show i < 10 by omega) (by decide))
      · refine ⟨_, _, rfl, fun b o e => ?_, ?_⟩
        · rw [upd_ne (ne_of_none e hfl)]; exact sm6 b o e
        · rw [upd_same, eN, List.map_append]; rfl
    · rw [if_neg h0, List.append_nil] at eN
      exact ⟨_, _, rfl, sm6, by rw [eN]; exact hacc6⟩
  · rintro σ H2 ⟨b2, b3, rfl, sm, hacc⟩
    rw [hxl] at hacc
    have v2 := v0.trans sm
    refine ⟨_, rfl, G0, _, M, rfl, v2, d, hne, hM, fun mv G3 H3 u3 hm => ?_⟩
    have hm3 := hm.up u3.v
    have hacc3 := u3.h _ _ hacc
    obtain ⟨w1, w2, w3, w4, w5⟩ := nD_ok (ndL_small M h5) (Nat.le_trans (ndL_len M) h5)
    have eN : (ndN M M.length).map (fun i : Nat => V.int (i : Int)) = (ndL M).map V.int := by unfold ndL; rw [List.map_map]; rfl
    rw [eN] at hacc3
    refine ⟨_, rfl, mv, M, rfl, hm3, hM, fun p4 H4 hp4 s4 e4 => ?_⟩
    refine ⟨_, rfl, mv, M, rfl, hm3.up s4, hM, fun p5 H5 hp5 s5 e5 => ?_⟩
    refine ⟨by show 2 ≤ sizeLine; decide, fun p6 hp6 => ?_⟩
    have s6 := same_new (o := .lst [.ref p4, .ref p5]) hp6
    have d6 : Dp K (upd H5 p6 (.lst [.ref p4, .ref p5])) (.ref p6) (nD (ndL M)) := .lst (SqL.of upd_same) (.cons (.tup (SqT.of (s6 _ _ (s5 _ _ e4))) (dpi _)) (.cons (.tup (SqT.of (s6 _ _ e5)) (dpi _)) .nil))
    refine ⟨_, _, rfl, d6, w1, w2, w3, w4, w5, ?_⟩
    have s36 := (s4.trans s5).trans s6
    have hacc6 := s36 _ _ hacc3
    refine ⟨_, rfl, fl, _, rfl, .inl ⟨SqL.of hacc6, fun p7 hp7 => ?_⟩⟩
    have s7 := same_new (o := .tup ((ndL M).map V.int)) hp7
    refine ⟨_, rfl, fl, _, rfl, .inl ⟨SqL.of (s7 _ _ hacc6), fun p8 hp8 => ?_⟩⟩
    have s8 := same_new (o := .tup ((ndL M).map V.int)) hp8
    refine ⟨by show 2 ≤ sizeLine; decide, fun p9 hp9 => ?_⟩
    have s9 := same_new (o := .lst [.ref p7, .ref p8]) hp9
    refine ⟨_, _, rfl, .lst (SqL.of upd_same) (.cons (.tup (SqT.of (s9 _ _ (s8 _ _ upd_same))) (dpi (ndL M))) (.cons (.tup (SqT.of (s9 _ _ upd_same)) (dpi (ndL M))) .nil)), w1, w2, w3, w4, w5, rfl, ?_⟩
    have := k _ (((sm.trans u3.h).trans s36).trans ((s7.trans s8).trans s9))
    show Q (.bl (decide (V.str (nD (ndL M)).shown = V.str (nD (ndL M)).shown))) _
    rw [decide_eq_true rfl]
    exact this
end
end K67

namespace K67
open PySem L2 KX
section
variable {K : PySem.W.Frag} {σ : L2.St} {H : Hp}
theorem t_own {a : Addr} {ns : List Int} {i : Nat} {Q : VK} (h0 : σ[0]? = some (some (.ref a))) (h1 : σ[1]? = some (some (.int (i : Int)))) (sq : SqL K H a (ns.map V.int)) (hi : i ≤ 1000) (q : ∀ o : Int, Q (.int o) H) :
    tIf (tTest (tOp (rI0 fun i j => .bl (decide (i < j))) (tVar 1) (tCB (fun xs H Q => ∃ p ys, xs = [V.ref p] ∧ (SqL K H p ys ∨ SqT K H p ys) ∧ Q (.int (ys.length : Nat)) H) (tCons (tVar 0) tNil)))) (tOp (rIxL K) (tVar 0) (tVar 1)) (tOp (rI0 fun i j => .int (i + j)) (tOp (rI CMulW fun i j => .int (i * j)) (tC (.int 211)) (tVar 1)) (tC (.int 37))) σ H Q := by
  refine ⟨_, h1, _, h0, a, _, rfl, .inl sq, _, _, rfl, rfl, _, rfl, iteD (fun hlt => ?_) (fun hge => ?_)⟩
  · have hl : i < ns.length := by
      have : (i : Int) < ((ns.map V.int).length : Nat) := hlt
      rw [List.length_map] at this; omega
    refine ⟨_, h0, _, h1, a, _, _, _, rfl, rfl, sq, atI_nat (v := V.int ns[i]) ?_, q _⟩
    rw [List.getElem?_map, List.getElem?_eq_getElem hl]; rfl
  · exact ⟨_, h1, _, _, rfl, rfl, mulW_of (a := 8) (b := 10) (by decide) (by omega) (by decide) (by decide) (by decide), _, _, rfl, rfl, q _⟩
theorem t_abs {o : Int} {Q : VK} (h2 : σ[2]? = some (some (.int o))) (q : ∀ x : Int, Q (.int x) H) :
    tIf (tOr (tTest (tOp (rI0 fun i j => .bl (decide (i < j))) (tVar 2) (tC (.int 0)))) (tTest (tOp (rI0 fun i j => .bl (decide (j ≤ i))) (tVar 2) (tOp (rI CPow fun i j => .int (i ^ j.toNat)) (tC (.int 10)) (tC (.int 16))))))
      (tCB (fun xs H Q => ∃ i, xs = [V.int i] ∧ Q (.int (if i < 0 then -i else i)) H) (tCons (tVar 2) tNil)) (tC (.int 0)) σ H Q := by
  refine ⟨_, h2, _, _, rfl, rfl, _, rfl, iteD (fun _ => iteT ⟨_, h2, _, rfl, q _⟩) (fun _ => ?_)⟩
  refine ⟨_, h2, _, _, rfl, rfl, ⟨by decide, by decide, by decide⟩, _, _, rfl, rfl, _, rfl, iteD (fun _ => ⟨_, h2, _, rfl, q _⟩) (fun _ => q _)⟩
end
theorem cut_ints {ns : List Int} {lo hi : Option Int} {x : V} (h : x ∈ cutV (ns.map V.int) lo hi) : ∃ n : Int, x = .int n := by
  unfold cutV at h
  have := List.mem_of_mem_drop (List.mem_of_mem_take h)
  obtain ⟨n, _, rfl⟩ := List.mem_map.1 this
  exact ⟨n, rfl⟩
section
variable {P : Program} {w : World} {K : PySem.W.Frag} {mg : Str → Option Value} {base : Heap} {f : Addr} {fd : FuncData} {CL C : Addr}
abbrev s__law_reel : Stmt := topS 53
abbrev N__law_reel : List Str := ["_law_script", "_law_turn", "_law_own", "_law_mixed", "_law_entry"]
theorem sc__law_reel : FnScope N__law_reel ["_law_script", "_law_turn"] (defScope s__law_reel) := ⟨rfl, rfl, rfl, by decide +kernel, rfl, by decide +kernel, by decide +kernel⟩
def sp_reel (K : PySem.W.Frag) : Sp := fun vs H Q _ => ∃ (a : Addr) (ns : List Int) (i : Nat), vs = [.ref a, .int i] ∧ SqL K H a (ns.map V.int) ∧ ns.length ≤ 1000 ∧ i ≤ 1000 ∧ ∀ (p : Addr) (H' : Hp), H p = none → Same H H' → Rl H' p 1 → Q (.ref p) H'
theorem ok_law_reel (F : Fun K "_law_reel" "_law_reel" s__law_reel f fd) (T : Txt K mg) : FnOk P w K mg base CX0 1 f fd ["_law_script", "_law_turn"] (sp_reel K) := by
  refine F.ok sc__law_reel (fun vs H Q E ⟨a, ns, i, h, _⟩ => by rw [h]; rfl) (fun cdv A outer s' H vs Q E hr ⟨a, ns, i, h, sq, hn, hi, k⟩ => ?_)
  subst h
  refine ⟨_, (pss_cons (ps_set (i := 2) sc__law_reel.nd rfl (Or.inl rfl) (pe_ifExp (pt_cmpR op_lt (pv 1) (pe_callB call_len_seq (by rfl) T.n_len (by decide +kernel) (pa_cons (pv 0) pa_nil)) (nomark _)) (pe_ix ix_list (pv 0) (pv 1) (fun _ _ => rfl)) (pe_op op_add (pe_op op_mulW pe_int (pv 1)) pe_int)))
    (pss_cons (ps_set (i := 3) sc__law_reel.nd rfl (Or.inl rfl) (pe_op op_add pe_int (pe_op op_mulW pe_int (pv 1))))
    (pss_cons (ps_for PassesOwn.never rfl (pi_list (pe_op op_cat (pe_slice sl_list (pv 0) po_none (po_some pe_int)) (pe_lst (pa_cons (pv 2) pa_nil)))) (pg_name (i := 4) sc__law_reel.nd rfl (Or.inl rfl)) (pss_one (ps_set (i := 3) sc__law_reel.nd rfl (Or.inl rfl) (pe_op op_mod (pe_callTy call_int1 (by rfl) T.n_int (by decide +kernel) (pa_cons (pe_op op_add (pe_op op_mulW (pv 3) pe_int) (pe_op op_mod (pe_callTy call_int1 (by rfl) T.n_int (by decide +kernel) (pa_cons (pv 4) pa_nil)) pe_int)) pa_nil)) pe_int))))
    (pss_one (ps_ret (pe_lst (pa_cons (pe_ifExp (PW.pt (pw_or (pt_cmpR op_lt (pv 2) pe_int (nomark _)) (pw_or1 (pt_cmpR op_ge (pv 2) (pe_op op_pow pe_int pe_int) (nomark _))))) (pe_callB call_abs (by rfl) T.n_abs (by decide +kernel) (pa_cons (pv 2) pa_nil)) pe_int) (pa_cons (pv 3) (pa_cons pe_int pa_nil))))))))), ?_⟩
  have hz : (ns.map V.int).length ≤ 1000 := by rw [List.length_map]; exact hn
  refine t_own rfl rfl sq hi fun o => ?_
  refine ⟨_, rfl, _, _, rfl, rfl, mulW_of (a := 10) (b := 10) (by decide) (by omega) (by decide) (by decide) (by decide), _, _, rfl, rfl, ?_⟩
  refine ⟨_, rfl, _, rfl, a, _, rfl, sq, fun p1 hp1 => ?_⟩
  have s1 := same_new (o := .lst (cutV (ns.map V.int) none (some 5))) hp1
  refine ⟨_, rfl, by show 1 ≤ sizeLine; decide, fun p2 hp2 => ?_⟩
  have s2 := same_new (o := .lst [.int o]) hp2
  have hcl : (cutV (ns.map V.int) none (some 5)).length ≤ 1000 := Nat.le_trans (cutV_length _ _ _) hz
  refine ⟨p1, p2, _, _, rfl, rfl, s2 _ _ upd_same, upd_same, Nat.le_trans (show _ + 1 ≤ 1001 by omega) (by decide), fun p3 hp3 => ?_⟩
  have s3 := same_new (o := .lst (cutV (ns.map V.int) none (some 5) ++ [.int o])) hp3
  have s13 := (s1.trans s2).trans s3
  refine ⟨p3, rfl, ⟨_, SqL.of upd_same⟩, ?_⟩
  have e3 : upd (upd (upd H p1 (.lst (cutV (ns.map V.int) none (some 5)))) p2 (.lst [.int o])) p3 (.lst (cutV (ns.map V.int) none (some 5) ++ [.int o])) p3 = some (.lst (cutV (ns.map V.int) none (some 5) ++ [.int o])) := upd_same
  generalize upd (upd (upd H p1 (.lst (cutV (ns.map V.int) none (some 5)))) p2 (.lst [.int o])) p3 (.lst (cutV (ns.map V.int) none (some 5) ++ [.int o])) = H3 at *
  refine for_list (K := K) (a := p3) (xs := cutV (ns.map V.int) none (some 5) ++ [.int o]) (fun j σ H' => H' = H3 ∧ ∃ (m : Int) (b4 : Option V), σ = [some (.ref a), some (.int (i : Nat)), some (.int o), some (.int m), b4] ∧ 0 ≤ m ∧ m < 2147480009)
    ⟨rfl, _, _, rfl, by omega, by omega⟩ (fun j σ H' _ ⟨e, _⟩ => by rw [e]; exact SqL.of e3) ?_ ?_
  · rintro j x σ H' hj ⟨rfl, m, b4, rfl, m0, m1⟩
    obtain ⟨n, rfl⟩ : ∃ n : Int, x = .int n := by
      rcases List.mem_append.1 (List.mem_of_getElem? hj) with q | q
      · exact cut_ints q
      · exact ⟨o, by simpa using q⟩
    refine ⟨_, rfl, _, _, rfl, rfl, mulW_of (a := 40) (b := 40) (by omega) (by decide) (by decide) (by decide) (by decide), _, rfl, .inl ⟨_, rfl, _, _, rfl, rfl, (show (0 : Int) < 2147480009 by decide), _, _, rfl, rfl, .inl ⟨_, rfl, _, _, rfl, rfl, (show (0 : Int) < 2147480009 by decide), ?_⟩⟩⟩
    refine ⟨rfl, _, _, rfl, Int.emod_nonneg _ (by decide), Int.emod_lt_of_pos _ (by decide)⟩
  · rintro σ H' ⟨rfl, m, b4, rfl, m0, m1⟩
    refine t_abs rfl fun x => ?_
    refine ⟨_, rfl, by show 3 ≤ sizeLine; decide, fun p hp => ?_⟩
    exact k p _ (s13.free hp) (s13.trans (same_new hp)) ⟨x, m, 1, upd_same, m0, m1, by decide, by decide⟩
end
end K67

namespace K67
open PySem L2 KX
theorem kn1 : cosD (formL [(2, 0, 0), (0, 3, 1)]) = .int 36 := by
  have h : cosets (formL [(2, 0, 0), (0, 3, 1)]) = some 36 := by decide +kernel
  unfold cosD; rw [h]
theorem kn2 : cosD (formL [(1, 0, 0), (0, 1, 0)]) = .int 1 := by
  have h : cosets (formL [(1, 0, 0), (0, 1, 0)]) = some 1 := by decide +kernel
  unfold cosD; rw [h]
theorem kn3 : cosD (formL [(1, 5, 2), (0, 4, 0)]) = .int 16 := by
  have h : cosets (formL [(1, 5, 2), (0, 4, 0)]) = some 16 := by decide +kernel
  unfold cosD; rw [h]
theorem kn4 : cosD (formL [(3, 1, 0), (0, 0, 2)]) = .none := by
  have h : cosets (formL [(3, 1, 0), (0, 0, 2)]) = none := by decide +kernel
  unfold cosD; rw [h]
theorem kn5 : ndL [(0, 0, 0)] = [0] := by decide +kernel
theorem kn6 : ndL [(0, 0, 2)] = [] := by decide +kernel
theorem cut5 (xs : List V) : cutV xs none (some 5) = xs.take 5 := by
  unfold cutV
  rw [show (some (5 : Int)) = some ((5 : Nat) : Int) from rfl, HT.sIx_none, HT.sIx_nat, List.drop_zero, Nat.sub_zero]
  rcases Nat.le_total 5 xs.length with h | h
  · rw [Nat.min_eq_left h]
  · rw [Nat.min_eq_right h, List.take_of_length_le (Nat.le_refl _), List.take_of_length_le h]
/-- what the known rows say -/
def knD (a b : T3) (d : PyData) : PyData := .tuple [tD a, tD b, d]
structure Kn (d : PyData) : Prop where
  ex : ∃ (a b : T3) (e : PyData), d = knD a b e ∧ cosD (formL [a, b]) = e ∧ SeqAt.shaped e = true ∧ PyData.eqv e e = true ∧ Small a ∧ Small b
def knL : List PyData := [knD (2, 0, 0) (0, 3, 1) (.int 36), knD (1, 0, 0) (0, 1, 0) (.int 1), knD (1, 5, 2) (0, 4, 0) (.int 16), knD (3, 1, 0) (0, 0, 2) .none]
theorem knL_ok : ∀ d ∈ knL, Kn d := by
  intro d hd
  unfold knL at hd
  simp only [List.mem_cons, List.not_mem_nil, or_false] at hd
  rcases hd with rfl | rfl | rfl | rfl
  · exact ⟨_, _, _, rfl, kn1, rfl, by simp [PyData.eqv], ⟨by decide, by decide, by decide⟩, ⟨by decide, by decide, by decide⟩⟩
  · exact ⟨_, _, _, rfl, kn2, rfl, by simp [PyData.eqv], ⟨by decide, by decide, by decide⟩, ⟨by decide, by decide, by decide⟩⟩
  · exact ⟨_, _, _, rfl, kn3, rfl, by simp [PyData.eqv], ⟨by decide, by decide, by decide⟩, ⟨by decide, by decide, by decide⟩⟩
  · exact ⟨_, _, _, rfl, kn4, rfl, by simp [PyData.eqv], ⟨by decide, by decide, by decide⟩, ⟨by decide, by decide, by decide⟩⟩
theorem kn_mk {K : PySem.W.Frag} {H : Hp} {p1 p2 p3 : Addr} {a b : T3} {v : V} {e : PyData} (hv : ∀ H, Dp K H v e) (h1 : H p1 = none) (h2 : upd H p1 (.tup (tV a)) p2 = none) (h3 : upd (upd H p1 (.tup (tV a))) p2 (.tup (tV b)) p3 = none) :
    Dp K (upd (upd (upd H p1 (.tup (tV a))) p2 (.tup (tV b))) p3 (.tup [.ref p1, .ref p2, v])) (.ref p3) (knD a b e) ∧ Same H (upd (upd (upd H p1 (.tup (tV a))) p2 (.tup (tV b))) p3 (.tup [.ref p1, .ref p2, v])) := by
  have s1 := same_new (o := .tup (tV a)) h1
  have s2 := same_new (o := .tup (tV b)) h2
  have s3 := same_new (o := .tup [.ref p1, .ref p2, v]) h3
  exact ⟨.tup (SqT.of upd_same) (.cons (t3_mk (SqT.of (s3 _ _ (s2 _ _ upd_same)))) (.cons (t3_mk (SqT.of (s3 _ _ upd_same))) (.cons (hv _) .nil))), (s1.trans s2).trans s3⟩
section
variable {P : Program} {w : World} {K : PySem.W.Frag} {mg : Str → Option Value} {base : Heap} {f : Addr} {fd : FuncData} {CL C : Addr}
abbrev s__law_right : Stmt := topS 73
abbrev N__law_right : List Str := ["_law_reel_here", "_law_turn", "_law_some", "_law_others", "_law_known", "_law_first", "_law_last", "_law_due"]
theorem sc__law_right : FnScope N__law_right ["_law_reel_here"] (defScope s__law_right) := ⟨rfl, rfl, rfl, by decide +kernel, rfl, by decide +kernel, by decide +kernel⟩
def sp_right : Sp := fun vs H Q _ => ∃ (G : Hp) (rl : Addr) (t : Nat), vs = [.ref rl] ∧ Same G H ∧ G rl = none ∧ Rl H rl t ∧ t ≤ 1000 ∧ ∀ (H' : Hp), Dr rl H H' → Q (.bl true) H'
theorem ok_law_right (F : Fun K "_law_right" "_law_right" s__law_right f fd) (T : Txt K mg) (M : MoveC P w K mg base) (c__law_told : Def P w K mg base "_law_told" 3 ["_law_reel_here", "_law_most"] (sp_told K)) (c__law_mates : Def P w K mg base "_law_mates" 4 ["_law_reel_here", "_law_some"] (sp_mates K))
    (c__law_cosets_right : DefG P w K mg base "_law_cosets_right" 10 ["_law_some"] (sp_cosr K)) (c__law_within_right : DefG P w K mg base "_law_within_right" 10 ["_law_some", "_law_others"] (sp_wir K)) (c__law_needless_right : DefG P w K mg base "_law_needless_right" 9 ["_law_some"] (sp_cosr K))
    (c_move_cosets : Def P w K mg base "move_cosets" 9 ["lot"] (sp_mc CL C)) (c__law_lot : Def P w K mg base "_law_lot" 7 ["_law_some"] (sp_lot K CL C)) (c_needless_moves : Def P w K mg base "needless_moves" 8 ["lot"] (sp_needless CL C))
    (c_Move : Cla P w K mg base "Move" C 3 ["self", "east", "north", "area"] (sp_Move_init C)) (c_MoveLot : Cla P w K mg base "MoveLot" CL 5 ["self", "changes"] (sp_MoveLot_init CL C)) : FnOkG P w K mg base CX0 11 f fd ["_law_reel_here"] sp_right := by
  refine fnG F sc__law_right (fun vs H Q E ⟨G, rl, t, h, _⟩ => by rw [h]; rfl) (fun cdv A outer s' H vs Q E gd hr ⟨G0, rl, t, h, v0, grl, r, t1, k⟩ => ?_)
  subst h
  refine ⟨_, (pss_cons (ps_for PassesOwn.never rfl (pi_range1 (by rfl) T.n_range (pa_cons pe_int pa_nil)) (pg_name (i := 1) sc__law_right.nd rfl (Or.inl rfl)) (pss_cons (ps_set (i := 2) sc__law_right.nd rfl (Or.inl rfl) (pe_def c__law_told hr (by decide) (pa_cons (pv 0) (pa_cons pe_int pa_nil))))
    (pss_cons (ps_set (i := 3) sc__law_right.nd rfl (Or.inl rfl) (pe_slice sl_list (pe_def c__law_mates hr (by decide) (pa_cons (pv 0) (pa_cons (pv 2) pa_nil))) po_none (po_some pe_int)))
    (pss_cons (ps_if (PW.pt (pw_or (pt_not (pt_val (pe_defG c__law_cosets_right gd hr (by decide) (pa_cons (pv 2) pa_nil)))) (pw_or1 (pt_not (pt_val (pe_defG c__law_cosets_right gd hr (by decide) (pa_cons (pv 3) pa_nil))))))) (pss_one (ps_ret pe_bl)) pss_nil)
    (pss_one (ps_if (PW.pt (pw_or (pt_not (pt_val (pe_defG c__law_within_right gd hr (by decide) (pa_cons (pv 2) (pa_cons (pv 3) pa_nil))))) (pw_or (pt_not (pt_val (pe_defG c__law_needless_right gd hr (by decide) (pa_cons (pv 2) pa_nil)))) (pw_or1 (pt_not (pt_val (pe_defG c__law_needless_right gd hr (by decide) (pa_cons (pv 3) pa_nil)))))))) (pss_one (ps_ret pe_bl)) pss_nil))))))
    (pss_cons (ps_set (i := 4) sc__law_right.nd rfl (Or.inl rfl) (pe_lst (pa_cons (pe_tup (pa_cons (pe_tup (pa_cons pe_int (pa_cons pe_int (pa_cons pe_int pa_nil)))) (pa_cons (pe_tup (pa_cons pe_int (pa_cons pe_int (pa_cons pe_int pa_nil)))) (pa_cons pe_int pa_nil)))) (pa_cons (pe_tup (pa_cons (pe_tup (pa_cons pe_int (pa_cons pe_int (pa_cons pe_int pa_nil)))) (pa_cons (pe_tup (pa_cons pe_int (pa_cons pe_int (pa_cons pe_int pa_nil)))) (pa_cons pe_int pa_nil)))) pa_nil))))
    (pss_cons (ps_set (i := 4) sc__law_right.nd rfl (Or.inl rfl) (pe_op op_cat (pv 4) (pe_lst (pa_cons (pe_tup (pa_cons (pe_tup (pa_cons pe_int (pa_cons pe_int (pa_cons pe_int pa_nil)))) (pa_cons (pe_tup (pa_cons pe_int (pa_cons pe_int (pa_cons pe_int pa_nil)))) (pa_cons pe_int pa_nil)))) (pa_cons (pe_tup (pa_cons (pe_tup (pa_cons pe_int (pa_cons pe_int (pa_cons pe_int pa_nil)))) (pa_cons (pe_tup (pa_cons pe_int (pa_cons pe_int (pa_cons pe_int pa_nil)))) (pa_cons pe_non pa_nil)))) pa_nil)))))
    (pss_cons (ps_for PassesOwn.never rfl (pi_list (pv 4)) (pg_tup (by rfl) (pgs_cons (pg_name (i := 5) sc__law_right.nd rfl (Or.inl rfl)) (pgs_cons (pg_name (i := 6) sc__law_right.nd rfl (Or.inl rfl)) (pgs_cons (pg_name (i := 7) sc__law_right.nd rfl (Or.inl rfl)) pgs_nil)))) (pss_one (ps_if (pt_cmpR (op_neD hr.units) (pe_def c_move_cosets hr (by decide) (pa_cons (pe_def c__law_lot hr (by decide) (pa_cons (pe_lst (pa_cons (pv 5) (pa_cons (pv 6) pa_nil))) pa_nil)) pa_nil)) (pv 7) (nomark _)) (pss_one (ps_ret pe_bl)) pss_nil)))
    (pss_one (ps_ret (pe_and (pe_cmpR (op_eqD hr.units) (pe_def c_needless_moves hr (by decide) (pa_cons (pe_mk c_MoveLot hr (by decide) (pa_cons (pe_tup (pa_cons (pe_mk c_Move hr (by decide) (pa_cons pe_int (pa_cons pe_int (pa_cons pe_int pa_nil)))) pa_nil)) pa_nil)) pa_nil)) (pe_tup (pa_cons pe_int pa_nil)) (nomark _)) (pe_one (pe_cmpR (op_eqD hr.units) (pe_def c_needless_moves hr (by decide) (pa_cons (pe_mk c_MoveLot hr (by decide) (pa_cons (pe_tup (pa_cons (pe_mk c_Move hr (by decide) (pa_cons pe_int (pa_cons pe_int (pa_cons pe_int pa_nil)))) pa_nil)) pa_nil)) pa_nil)) (pe_tup pa_nil) (nomark _)))))))))), ?_⟩
  refine ⟨(3 : Int), rfl, by decide, by decide, ?_⟩
  refine for_it (n := 3) (walk_rangeN (i := 3) (by decide)) (fun i σ H2 => ∃ (G : Hp) (b1 b2 b3 b4 b5 b6 b7 : Option V), σ = [some (.ref rl), b1, b2, b3, b4, b5, b6, b7] ∧ Ud rl G0 H G H2 ∧ G rl = none ∧ Rl H2 rl (t + 100 * i))
    ⟨G0, _, _, _, _, _, _, _, rfl, Ud.refl v0, grl, r⟩ (fun _ _ _ _ _ => trivial) ?_ ?_
  · rintro i x σ H2 H3 hi ⟨G, b1, b2, b3, b4, b5, b6, b7, rfl, u, gr, r2⟩ ⟨rfl, rfl⟩
    refine ⟨_, rfl, G, rl, 4, _, rfl, u.v, gr, r2, by decide, by decide, by omega, fun v M G4 H4 u4 lt4 m1 m4 tl r4 => ?_⟩
    have hrl : ∀ {H : Hp} {n : Nat}, Rl H rl n → H rl ≠ none := fun h e => by obtain ⟨_, _, _, q, _⟩ := h; rw [e] at q; cases q
    have gr4 := u4.n rl (hrl r2) gr
    refine ⟨_, rfl, _, rfl, G4, rl, v, M, _, rfl, u4.v, gr4, lt4, r4, by omega, by omega, tl, by omega, fun w N G5 H5 u5 lt5 n1 n8 hN r5 => ?_⟩
    have gr5 := u5.n rl (hrl r4) gr4
    obtain ⟨na, nxs, rfl, hna, dna⟩ := lt5
    have nl : nxs.length = N.length := by rw [DpAll.len dna, List.length_map]
    refine ⟨_, rfl, na, nxs, rfl, SqL.of (u5.v _ _ hna), fun p6 hp6 => ?_⟩
    rw [cut5]
    have u6 := ((u.trans u4).trans u5).new (o := .lst (nxs.take 5)) hp6
    have sG := same_new (o := .lst (nxs.take 5)) (u5.free hp6)
    have r6 := r5.up (same_new (o := .lst (nxs.take 5)) hp6)
    have gr6 : upd G5 p6 (.lst (nxs.take 5)) rl = none := by rw [upd_ne (Ne.symm (r5.ne hp6))]; exact gr5
    have dM := (lt4.up (u5.g.trans sG)).dp
    have dN : Dp K (upd G5 p6 (.lst (nxs.take 5))) (.ref p6) (lD (N.take 5)) := .lst (SqL.of upd_same) (by rw [List.map_take]; exact DpAll.take 5 (DpAll.up dna sG))
    have tM : Tol M := ⟨by omega, fun g hg => (tl g hg).small⟩
    have tN : Tol (N.take 5) := ⟨by rw [List.length_take]; omega, fun g hg => hN g (List.mem_of_mem_take hg)⟩
    have hM0 : M ≠ [] := fun e => by rw [e] at m1; simp at m1
    have hN0 : N.take 5 ≠ [] := fun e => by
      have := congrArg List.length e
      rw [List.length_take, List.length_nil] at this
      omega
    generalize upd G5 p6 (.lst (nxs.take 5)) = G6 at *
    generalize upd H5 p6 (.lst (nxs.take 5)) = H6 at *
    refine ⟨_, rfl, G6, v, M, rfl, u6.v, dM, hM0, tM, fun H7 s7 => ⟨_, rfl, iteF ?_⟩⟩
    refine ⟨_, rfl, G6, _, _, rfl, u6.v.trans s7, dN, hN0, tN, fun H8 s8 => ⟨_, rfl, iteF ?_⟩⟩
    have s68 := s7.trans s8
    refine ⟨_, rfl, _, rfl, G6, v, _, M, _, rfl, u6.v.trans s68, dM, dN, hM0, hN0, tM, tN, fun H9 s9 => ⟨_, rfl, iteF ?_⟩⟩
    have s69 := s68.trans s9
    refine ⟨_, rfl, G6, v, M, rfl, u6.v.trans s69, dM, hM0, tM, fun H10 s10 => ⟨_, rfl, iteF ?_⟩⟩
    have s610 := s69.trans s10
    refine ⟨_, rfl, G6, _, _, rfl, u6.v.trans s610, dN, hN0, tN, fun H11 s11 => ⟨_, rfl, iteF ?_⟩⟩
    have s611 := s610.trans s11
    exact ⟨G6, _, _, _, _, _, _, _, rfl, u6.same s611, gr6, (r6.up s611).mono (by omega)⟩
  · rintro σ H2 ⟨G, b1, b2, b3, b4, b5, b6, b7, rfl, u, gr, r2⟩
    have sz3 : 3 ≤ sizeLine := by decide
    refine ⟨sz3, fun p1 h1 => ⟨sz3, fun p2 h2 => ⟨sz3, fun p3 h3 => ?_⟩⟩⟩
    obtain ⟨d1, s1⟩ := kn_mk (K := K) (a := (2, 0, 0)) (b := (0, 3, 1)) (v := .int 36) (fun _ => .int 36) h1 h2 h3
    refine ⟨sz3, fun p4 h4 => ⟨sz3, fun p5 h5 => ⟨sz3, fun p6 h6 => ?_⟩⟩⟩
    obtain ⟨d2, s2⟩ := kn_mk (K := K) (a := (1, 0, 0)) (b := (0, 1, 0)) (v := .int 1) (fun _ => .int 1) h4 h5 h6
    refine ⟨by show 2 ≤ sizeLine; decide, fun L1 hL1 => ?_⟩
    have s3 := same_new (o := .lst [.ref p3, .ref p6]) hL1
    have e1 : ∀ H9 : Hp, upd H9 L1 (.lst [.ref p3, .ref p6]) L1 = some (.lst [.ref p3, .ref p6]) := fun _ => upd_same
    refine ⟨_, rfl, ?_⟩
    refine ⟨sz3, fun p7 h7 => ⟨sz3, fun p8 h8 => ⟨sz3, fun p9 h9 => ?_⟩⟩⟩
    obtain ⟨d3, s4⟩ := kn_mk (K := K) (a := (1, 5, 2)) (b := (0, 4, 0)) (v := .int 16) (fun _ => .int 16) h7 h8 h9
    refine ⟨sz3, fun p10 h10 => ⟨sz3, fun p11 h11 => ⟨sz3, fun p12 h12 => ?_⟩⟩⟩
    obtain ⟨d4, s5⟩ := kn_mk (K := K) (a := (3, 1, 0)) (b := (0, 0, 2)) (v := .non) (fun _ => .non) h10 h11 h12
    refine ⟨by show 2 ≤ sizeLine; decide, fun L2 hL2 => ?_⟩
    have s6 := same_new (o := .lst [.ref p9, .ref p12]) hL2
    have s46 := (s4.trans s5).trans s6
    refine ⟨L1, L2, _, _, rfl, rfl, s46 _ _ (e1 _), upd_same, by show 2 + 2 ≤ sizeLine; decide, fun L3 hL3 => ?_⟩
    have s7 := same_new (o := .lst ([.ref p3, .ref p6] ++ [.ref p9, .ref p12])) hL3
    have D : DpAll K _ [V.ref p3, .ref p6, .ref p9, .ref p12] knL := .cons (Dp.up d1 (s2.trans (s3.trans (s46.trans s7)))) (.cons (Dp.up d2 (s3.trans (s46.trans s7))) (.cons (Dp.up d3 (s5.trans (s6.trans s7))) (.cons (Dp.up d4 (s6.trans s7)) .nil)))
    have sAll := (s1.trans s2).trans (s3.trans (s46.trans s7))
    have e7 : ∀ H9 : Hp, upd H9 L3 (.lst ([.ref p3, .ref p6] ++ [.ref p9, .ref p12])) L3 = some (.lst [V.ref p3, .ref p6, .ref p9, .ref p12]) := fun _ => upd_same
    have dr2 := u.h.trans (Dr.of sAll)
    refine ⟨_, rfl, L3, rfl, ⟨_, SqL.of (e7 _)⟩, ?_⟩
    refine for_list (K := K) (a := L3) (xs := [V.ref p3, .ref p6, .ref p9, .ref p12]) (fun j σ H' => ∃ (b1 b2 b3 b5 b6 b7 : Option V), σ = [some (.ref rl), b1, b2, b3, some (.ref L3), b5, b6, b7] ∧ Same _ H') ⟨_, _, _, _, _, _, rfl, Same.refl _⟩ (fun j σ H' _ ⟨_, _, _, _, _, _, _, sm⟩ => SqL.of (sm _ _ (e7 _))) ?_ ?_
    · rintro j x σ H' hj ⟨b1, b2, b3, b5, b6, b7, rfl, sm⟩
      obtain ⟨dd, hd, dx⟩ := DpAll.getV (DpAll.up D sm) hj
      obtain ⟨a, b, e, rfl, hc, hs, he, ha, hb⟩ := (knL_ok dd (List.mem_of_getElem? hd)).ex
      obtain ⟨xa, xs, rfl, sqx, dxs⟩ := u_inv dx
      cases dxs with
      | @cons va _ ra _ da r1 =>
        cases r1 with
        | @cons vb _ rb _ db r2 =>
          cases r2 with
          | @cons ve _ re _ de r3 =>
            cases r3
            refine ⟨xa, _, rfl, sqx, rfl, _, _, rfl, _, _, rfl, _, _, rfl, rfl, ?_⟩
            refine ⟨_, rfl, _, rfl, by show 2 ≤ sizeLine; decide, fun L4 hL4 => ?_⟩
            have s8 := same_new (o := .lst [va, vb]) hL4
            refine ⟨_, _, [a, b], rfl, Same.refl _, .lst (SqL.of upd_same) (.cons (Dp.up da s8) (.cons (Dp.up db s8) .nil)), by simp, ⟨by show 2 ≤ 5; decide, by intro m hm; simp only [List.mem_cons, List.not_mem_nil, or_false] at hm; rcases hm with rfl | rfl; exact ha; exact hb⟩, fun uv G9 H9 u9 lot9 => ?_⟩
            refine ⟨G9, uv, [a, b], rfl, u9.v, lot9, ⟨by show 2 ≤ 5; decide, by intro m hm; simp only [List.mem_cons, List.not_mem_nil, or_false] at hm; rcases hm with rfl | rfl; exact ha; exact hb⟩, fun H10 s10 => ?_⟩
            have s810 := (s8.trans u9.h).trans s10
            refine ⟨_, rfl, cosD (formL [a, b]), e, dp_cos _, Dp.up de s810, by rw [hc]; exact hs, hs, _, rfl, ?_⟩
            rw [hc, he]
            exact iteF ⟨_, _, _, _, _, _, rfl, sm.trans s810⟩
    · rintro σ H' ⟨b1, b2, b3, b5, b6, b7, rfl, sm⟩
      have dr3 := dr2.trans (Dr.of sm)
      -- the two lots of one move
      intro x dx nx nd ne
      refine ⟨x, dx, H', (0, 0, 0), rfl, nx, nd, ne, rfl, fun H6 s6 m6 => ⟨rfl, ?_⟩⟩
      refine ⟨by show 1 ≤ sizeLine; decide, fun q1 hq1 => ?_⟩
      have w1 := same_new (o := .tup [.ref x]) hq1
      intro y dy ny nyd nye
      have mv1 : MvsAt C (upd H6 q1 (.tup [.ref x])) (.ref q1) [(0, 0, 0)] := ⟨q1, [.ref x], rfl, upd_same, rfl, fun i z e => by
        match i, e with
        | 0, e => exact ⟨_, rfl, x, dx, (Option.some.inj e).symm, w1 _ _ m6⟩⟩
      refine ⟨y, dy, _, .ref q1, [(0, 0, 0)], rfl, ny, nyd, nye, rfl, mv1, by simp, by show 1 ≤ 5; decide, fun m hm => by simp only [List.mem_singleton] at hm; subst hm; exact ⟨Nat.two_pow_pos _, Nat.two_pow_pos _, Nat.two_pow_pos _⟩, fun tv H7 s7 e7 => ⟨rfl, ?_⟩⟩
      have z0 : Tol [(0, 0, 0)] := ⟨by show 1 ≤ 5; decide, fun m hm => by simp only [List.mem_singleton] at hm; subst hm; exact ⟨by decide, by decide, by decide⟩⟩
      refine ⟨.ref y, [(0, 0, 0)], rfl, ⟨y, dy, .ref q1, tv, rfl, e7, mv1.up s7⟩, z0, fun q2 H8 hq2 s8 e8 => ?_⟩
      rw [kn5] at e8
      refine ⟨by show 1 ≤ sizeLine; decide, fun q3 hq3 => ?_⟩
      have w3 := same_new (o := .tup [.int 0]) hq3
      refine ⟨.tuple [.int 0], .tuple [.int 0], .tup (SqT.of (w3 _ _ e8)) (.cons (.int 0) .nil), .tup (SqT.of upd_same) (.cons (.int 0) .nil), rfl, rfl, _, rfl, ?_⟩
      rw [show PyData.eqv (.tuple [.int 0]) (.tuple [.int 0]) = true from by simp [PyData.eqv, PyData.eqvAll]]
      refine iteT ?_
      have dr4 := dr3.trans (Dr.of (((s6.trans w1).trans s7).trans (s8.trans w3)))
      intro x2 dx2 nx2 nd2 ne2
      refine ⟨x2, dx2, _, (0, 0, 2), rfl, nx2, nd2, ne2, rfl, fun H9 s9 m9 => ⟨rfl, ?_⟩⟩
      refine ⟨by show 1 ≤ sizeLine; decide, fun q4 hq4 => ?_⟩
      have w4 := same_new (o := .tup [.ref x2]) hq4
      intro y2 dy2 ny2 nyd2 nye2
      have mv2 : MvsAt C (upd H9 q4 (.tup [.ref x2])) (.ref q4) [(0, 0, 2)] := ⟨q4, [.ref x2], rfl, upd_same, rfl, fun i z e => by
        match i, e with
        | 0, e => exact ⟨_, rfl, x2, dx2, (Option.some.inj e).symm, w4 _ _ m9⟩⟩
      refine ⟨y2, dy2, _, .ref q4, [(0, 0, 2)], rfl, ny2, nyd2, nye2, rfl, mv2, by simp, by show 1 ≤ 5; decide, fun m hm => by simp only [List.mem_singleton] at hm; subst hm; exact ⟨by decide +kernel, by decide +kernel, by decide +kernel⟩, fun tv2 H10 s10 e10 => ⟨rfl, ?_⟩⟩
      have z2 : Tol [(0, 0, 2)] := ⟨by show 1 ≤ 5; decide, fun m hm => by simp only [List.mem_singleton] at hm; subst hm; exact ⟨by decide, by decide, by decide⟩⟩
      refine ⟨.ref y2, [(0, 0, 2)], rfl, ⟨y2, dy2, .ref q4, tv2, rfl, e10, mv2.up s10⟩, z2, fun q5 H11 hq5 s11 e11 => ?_⟩
      rw [kn6] at e11
      refine ⟨Nat.zero_le _, fun q6 hq6 => ?_⟩
      have w6 := same_new (o := .tup []) hq6
      refine ⟨.tuple [], .tuple [], .tup (SqT.of (w6 _ _ e11)) .nil, .tup (SqT.of upd_same) .nil, rfl, rfl, ?_⟩
      rw [show PyData.eqv (.tuple []) (.tuple []) = true from by simp [PyData.eqv, PyData.eqvAll]]
      exact k _ (dr4.trans (Dr.of (((s9.trans w4).trans s10).trans (s11.trans w6))))
abbrev s_law : Stmt := topS 74
abbrev N_law : List Str := ["_law_script", "_law_turn"]
theorem sc_law : FnScope N_law ["_law_script"] (defScope s_law) := ⟨rfl, rfl, rfl, by decide +kernel, rfl, by decide +kernel, by decide +kernel⟩
def sp_law (K : PySem.W.Frag) : Sp := fun vs H Q _ => ∃ (a : Addr) (ns : List Int), vs = [.ref a] ∧ SqL K H a (ns.map V.int) ∧ ns.length ≤ 1000 ∧ ∀ H', Q (.bl true) H'
theorem ok_law (F : Fun K "law" "law" s_law f fd) (T : Txt K mg) (c__law_right : DefG P w K mg base "_law_right" 11 ["_law_reel_here"] sp_right) (c__law_reel : Def P w K mg base "_law_reel" 1 ["_law_script", "_law_turn"] (sp_reel K)) : FnOkG P w K mg base CX0 12 f fd ["_law_script"] (sp_law K) := by
  refine fnG F sc_law (fun vs H Q E ⟨a, ns, h, _⟩ => by rw [h]; rfl) (fun cdv A outer s' H vs Q E gd hr ⟨a, ns, h, sq, hn, k⟩ => ?_)
  subst h
  refine ⟨_, (pss_one (ps_ret (pe_callB (cr_all rfl) (by rfl) T.n_all (by decide +kernel) (pa_cons (pe_lc (own := [("_law_turn", 1)]) rfl sc_law.nd (pi_range1 (by rfl) T.n_range (pa_cons pe_int pa_nil)) (blkOk_by (N := N_law) (sc := defScope s_law) (by decide +kernel)) (fun _ _ _ _ _ => (pg_name (i := 1) sc_law.nd rfl (Or.inl rfl))) (fun _ _ _ _ _ => pts_nil) (fun _ _ _ _ _ => (pe_defG c__law_right gd hr (by decide) (pa_cons (pe_def c__law_reel hr (by decide) (pa_cons (pv 0) (pa_cons (pv 1) pa_nil))) pa_nil)))) pa_nil)))), ?_⟩
  refine ⟨(2 : Int), rfl, by decide, by decide, fun D hD => ?_⟩
  refine lc_it (n := 2) (walk_rangeN (i := 2) (by decide)) (fun i H2 => Same H H2 ∧ H2 D = some (.lst ((List.replicate i true).map V.bl))) ⟨same_new hD, upd_same⟩ (fun _ _ _ _ => trivial) ?_ ?_
  · rintro i x H2 H3 hi ⟨sm, hacc⟩ ⟨rfl, rfl⟩
    refine ⟨rfl, tyes ?_⟩
    refine ⟨_, rfl, _, rfl, a, ns, i, rfl, sm.seq sq, hn, by omega, fun p H4 hp s4 r4 => ?_⟩
    have nDp : D ≠ p := ne_of_none hacc hp
    refine ⟨H3, p, 1, rfl, s4, hp, r4, by decide, fun H5 d5 => ?_⟩
    have hacc5 := d5 _ _ nDp (s4 _ _ hacc)
    refine ⟨_, hacc5, ?_, fun b o e => ?_, ?_⟩
    · simp only [List.length_map, List.length_replicate]
      exact Nat.lt_of_lt_of_le (show i < 10 by omega) (by decide)
    · rw [upd_ne (ne_of_none e hD)]
      exact d5 _ _ (ne_of_none (sm b o e) hp) (s4 _ _ (sm b o e))
    · rw [upd_same, List.replicate_succ', List.map_append]; rfl
  · rintro H2 ⟨sm, hacc⟩
    exact ⟨D, [true, true], rfl, SqL.of hacc, k _⟩
end
end K67

namespace K67
open PySem PySem.W L2 KX
/-! what the top has written -/
abbrev FO (x qual : Str) (st : Stmt) (kV dc pm : Value) (an : Option Addr) (cd ct : Value) : FuncData := PySem.W.fnOf x qual (defArgs st) (defBody st) (defScope st) .none kV dc pm an cd ct
def Bd1 (x qual : Str) (st : Stmt) (ps : List Str) : Prop := ∀ (kV doc pm : Value) (an : Option Addr) (cdv ct : Value) (us : List Value), us.length = ps.length → bindArgs (FO x qual st kV doc pm an cdv ct) ⟨us, []⟩ = pure (ps.zip us)
structure Fnd (K : PySem.W.Frag) (mg : Str → Option Value) (x qual : Str) (st : Stmt) (ps : List Str) where
  f : Addr
  fd : FuncData
  F : Fun K x qual st f fd
  g : mg x = some (.ref f)
  b : Binds K fd ps []
structure Mnd (K : PySem.W.Frag) (C : Addr) (m x qual : Str) (st : Stmt) (ps : List Str) where
  f : Addr
  fd : FuncData
  F : Fun K x qual st f fd
  a : PySem.W.findIn K (.ref C) m = some (some (.ref f))
  i : PySem.W.isFn K (.ref f) = true
  b : Binds K fd ps []
structure Pnd (K : PySem.W.Frag) (C : Addr) (x qual : Str) (st : Stmt) where
  p : Addr
  f : Addr
  fd : FuncData
  h : PropOf K C x p f
  F : Fun K x qual st f fd
  b : Binds K fd ["self"] []
section
variable {K : PySem.W.Frag} {h : Heap} {mg : Str → Option Value} {x m qual : Str} {st : Stmt} {ps : List Str} {f p C : Addr} {oc kV dc pm cd ct : Value} {od an : Option Addr} {sl : Array (Option Value)} {rest : List Value}
def fnd (hb : Bd1 x qual st ps) (X : K.In h) (G : h.Ns mainGlobals mg) (a : PySem.W.nsIn K mainGlobals x = some (some (.ref f))) (l : K.lookup f = some ⟨oc, od, .func (FO x qual st kV dc pm an cd ct), sl⟩) (c : PySem.W.codeIn K cd qual = true) (k : PySem.W.keepIn K (.ref f) = true) : Fnd K mg x qual st ps :=
  ⟨f, _, fun_mk l c k, PySem.W.mg_of X G a, (fun_mk l c k).binds hb⟩
def mnd (hb : Bd1 x qual st ps) (a : PySem.W.findIn K (.ref C) m = some (some (.ref f))) (i : PySem.W.isFn K (.ref f) = true) (l : K.lookup f = some ⟨oc, od, .func (FO x qual st kV dc pm an cd ct), sl⟩) (c : PySem.W.codeIn K cd qual = true) (k : PySem.W.keepIn K (.ref f) = true) : Mnd K C m x qual st ps :=
  ⟨f, _, fun_mk l c k, a, i, (fun_mk l c k).binds hb⟩
def pnd (hb : Bd1 x qual st ["self"]) (a : PySem.W.findIn K (.ref C) x = some (some (.ref p))) (g : PySem.W.specialIn K (.ref p) "__get__" = some (some (.builtin "property.__get__"))) (t : PySem.W.takesIn K (.ref p) = some true) (r : PySem.W.recIn K p "property" = some (.ref f :: rest))
    (l : K.lookup f = some ⟨oc, od, .func (FO x qual st kV dc pm an cd ct), sl⟩) (c : PySem.W.codeIn K cd qual = true) (k : PySem.W.keepIn K (.ref f) = true) : Pnd K C x qual st :=
  ⟨p, f, _, ⟨a, g, t, rest, r⟩, fun_mk l c k, (fun_mk l c k).binds hb⟩
end
section
variable {P : Program} {w : World} {K : PySem.W.Frag} {mg : Str → Option Value} {base : Heap} {x m qual : Str} {st : Stmt} {ps : List Str} {k : Nat} {sp : Sp} {C : Addr}
def Fnd.d (d : Fnd K mg x qual st ps) (ok : FnOk P w K mg base CX0 k d.f d.fd ps sp) : Def P w K mg base x k ps sp := ⟨d.f, d.fd, ok, d.g, d.F.kp, d.b⟩
def Fnd.dG (d : Fnd K mg x qual st ps) (ok : FnOkG P w K mg base CX0 k d.f d.fd ps sp) : DefG P w K mg base x k ps sp := ⟨d.f, d.fd, ok, d.g, d.F.kp, d.b⟩
def Mnd.c (d : Mnd K C "__init__" x qual st ps) (mk : PySem.W.makesIn K C = true) (kc : PySem.W.keepIn K (.ref C) = true) {y : Str} (g : mg y = some (.ref C)) (ok : FnOk P w K mg base CX0 k d.f d.fd ps sp) : Cla P w K mg base y C k ps sp :=
  ⟨d.f, d.fd, ⟨mk, d.a, d.i, kc⟩, ok, g, d.b⟩
theorem getter_of {f : Addr} {fd : FuncData} {N : List Str} {fld : Str} {p1 p2 p3 : Pos} (F : Fun K x qual st f fd) (S : FnScope N ["self"] (defScope st)) (hN : N[0]? = some ("self" : Str)) (hb : defBody st = [.Return (some (.Attribute (.Name "self" p1) fld p2)) p3]) (c : Cls K C) (n : NoAttr K C fld) :
    FnOk P w K mg base CX0 1 f fd ["self"] (getSp C fld) := by
  obtain ⟨oc, od, kV, doc, pm, an, cdv, ct, osl, rfl, lk, hcd⟩ := F.ex
  exact fn_getter lk hcd S hN hb c n
end
abbrev s_Move_east : Stmt := inClass (topS 18) 2
theorem sc_Move_east : FnScope ["self"] ["self"] (defScope s_Move_east) := ⟨rfl, rfl, rfl, by decide +kernel, rfl, by decide +kernel, by decide +kernel⟩
abbrev s_Move_north : Stmt := inClass (topS 18) 3
theorem sc_Move_north : FnScope ["self"] ["self"] (defScope s_Move_north) := ⟨rfl, rfl, rfl, by decide +kernel, rfl, by decide +kernel, by decide +kernel⟩
abbrev s_Move_area : Stmt := inClass (topS 18) 4
theorem sc_Move_area : FnScope ["self"] ["self"] (defScope s_Move_area) := ⟨rfl, rfl, rfl, by decide +kernel, rfl, by decide +kernel, by decide +kernel⟩
abbrev s_MoveLot_changes : Stmt := inClass (topS 41) 2
theorem sc_MoveLot_changes : FnScope ["self"] ["self"] (defScope s_MoveLot_changes) := ⟨rfl, rfl, rfl, by decide +kernel, rfl, by decide +kernel, by decide +kernel⟩
structure ClF (K : PySem.W.Frag) (mg : Str → Option Value) (x : Str) (C : Addr) : Prop where
  cl : Cls K C
  mm : PySem.W.makesIn K C = true
  kc : PySem.W.keepIn K (.ref C) = true
  g : mg x = some (.ref C)
theorem kb1 {x qual : Str} {st : Stmt} {f : Addr} {fd : FuncData} (F : Fun K x qual st f fd) (h : ∀ (kV doc pm : Value) (an : Option Addr) (cdv ct v : Value) (S : Setting), peek K S (bindArgs (FO x qual st kV doc pm an cdv ct) ⟨[], [("lot", v)]⟩) = some [(("lot" : Str), v)]) : KBinds K fd ["lot"] ["lot"] kg1 kv1 := by
  obtain ⟨oc, od, kV, doc, pm, an, cdv, ct, osl, rfl, lk, hcd⟩ := F.ex
  refine ⟨fun s us ws X hl => ?_, kr1⟩
  match us, ws, hl with
  | [], [v], _ => exact kp_binds X fun S => h kV doc pm an cdv ct v S
theorem kb2 {x qual : Str} {st : Stmt} {f : Addr} {fd : FuncData} (F : Fun K x qual st f fd) (h : ∀ (kV doc pm : Value) (an : Option Addr) (cdv ct u v : Value) (S : Setting), peek K S (bindArgs (FO x qual st kV doc pm an cdv ct) ⟨[], [("other_lot", u), ("lot", v)]⟩) = some [(("lot" : Str), v), (("other_lot" : Str), u)]) : KBinds K fd ["lot", "other_lot"] ["other_lot", "lot"] kg2 kv2 := by
  obtain ⟨oc, od, kV, doc, pm, an, cdv, ct, osl, rfl, lk, hcd⟩ := F.ex
  refine ⟨fun s us ws X hl => ?_, kr2⟩
  match us, ws, hl with
  | [], [u, v], _ => exact kp_binds X fun S => h kV doc pm an cdv ct u v S
theorem hb_is_integer : Bd1 "is_integer" "is_integer" s_is_integer ["value"] := fun _ _ _ _ _ _ us hl => match us, hl with | [_], _ => rfl
theorem hb_rest_of : Bd1 "rest_of" "rest_of" s_rest_of ["number", "step"] := fun _ _ _ _ _ _ us hl => match us, hl with | [_, _], _ => rfl
theorem hb_combined : Bd1 "combined" "combined" s_combined ["one", "other"] := fun _ _ _ _ _ _ us hl => match us, hl with | [_, _], _ => rfl
theorem hb_step_of : Bd1 "step_of" "step_of" s_step_of ["numbers"] := fun _ _ _ _ _ _ us hl => match us, hl with | [_], _ => rfl
theorem hb_check_whole : Bd1 "check_whole" "check_whole" s_check_whole ["value"] := fun _ _ _ _ _ _ us hl => match us, hl with | [_], _ => rfl
theorem hb_Move_init : Bd1 "__init__" "Move.__init__" s_Move_init ["self", "east", "north", "area"] := fun _ _ _ _ _ _ us hl => match us, hl with | [_, _, _, _], _ => rfl
theorem hb_triple : Bd1 "triple" "triple" s_triple ["one"] := fun _ _ _ _ _ _ us hl => match us, hl with | [_], _ => rfl
theorem hb_put_triples : Bd1 "put_triples" "put_triples" s_put_triples ["one", "other"] := fun _ _ _ _ _ _ us hl => match us, hl with | [_, _], _ => rfl
theorem hb_many_triples : Bd1 "many_triples" "many_triples" s_many_triples ["one", "times"] := fun _ _ _ _ _ _ us hl => match us, hl with | [_, _], _ => rfl
theorem hb_gap_of : Bd1 "gap_of" "gap_of" s_gap_of ["one", "other"] := fun _ _ _ _ _ _ us hl => match us, hl with | [_, _], _ => rfl
theorem hb_Row_init : Bd1 "__init__" "Row.__init__" s_Row_init ["self", "parts", "shares"] := fun _ _ _ _ _ _ us hl => match us, hl with | [_, _, _], _ => rfl
theorem hb_unit : Bd1 "unit" "unit" s_unit ["many", "at"] := fun _ _ _ _ _ _ us hl => match us, hl with | [_, _], _ => rfl
theorem hb_added : Bd1 "added" "added" s_added ["row", "other", "many"] := fun _ _ _ _ _ _ us hl => match us, hl with | [_, _, _], _ => rfl
theorem hb_led : Bd1 "led" "led" s_led ["rows", "at"] := fun _ _ _ _ _ _ us hl => match us, hl with | [_, _], _ => rfl
theorem hb_Shape_init : Bd1 "__init__" "Shape.__init__" s_Shape_init ["self", "east", "north", "rests"] := fun _ _ _ _ _ _ us hl => match us, hl with | [_, _, _, _], _ => rfl
theorem hb_shape_of : Bd1 "shape_of" "shape_of" s_shape_of ["pairs"] := fun _ _ _ _ _ _ us hl => match us, hl with | [_], _ => rfl
theorem hb_pressed : Bd1 "pressed" "pressed" s_pressed ["moves", "shares"] := fun _ _ _ _ _ _ us hl => match us, hl with | [_, _], _ => rfl
theorem hb_pairs_below : Bd1 "pairs_below" "pairs_below" s_pairs_below ["many"] := fun _ _ _ _ _ _ us hl => match us, hl with | [_], _ => rfl
theorem hb_pure_areas : Bd1 "pure_areas" "pure_areas" s_pure_areas ["moves", "shape"] := fun _ _ _ _ _ _ us hl => match us, hl with | [_, _], _ => rfl
theorem hb_bound : Bd1 "bound" "bound" s_bound ["moves", "row", "step"] := fun _ _ _ _ _ _ us hl => match us, hl with | [_, _, _], _ => rfl
theorem hb_form_of_moves : Bd1 "form_of_moves" "form_of_moves" s_form_of_moves ["moves"] := fun _ _ _ _ _ _ us hl => match us, hl with | [_], _ => rfl
theorem hb_shares_of : Bd1 "shares_of" "shares_of" s_shares_of ["form", "x", "y"] := fun _ _ _ _ _ _ us hl => match us, hl with | [_, _, _], _ => rfl
theorem hb_led_to : Bd1 "led_to" "led_to" s_led_to ["form", "shares"] := fun _ _ _ _ _ _ us hl => match us, hl with | [_, _], _ => rfl
theorem hb_tells : Bd1 "tells" "tells" s_tells ["form", "move"] := fun _ _ _ _ _ _ us hl => match us, hl with | [_, _], _ => rfl
theorem hb_Move_str : Bd1 "__str__" "Move.__str__" s_Move_str ["self"] := fun _ _ _ _ _ _ us hl => match us, hl with | [_], _ => rfl
theorem hb_is_small_move : Bd1 "is_small_move" "is_small_move" s_is_small_move ["value"] := fun _ _ _ _ _ _ us hl => match us, hl with | [_], _ => rfl
theorem hb_MoveLot_init : Bd1 "__init__" "MoveLot.__init__" s_MoveLot_init ["self", "changes"] := fun _ _ _ _ _ _ us hl => match us, hl with | [_, _], _ => rfl
theorem hb_check_move_lot : Bd1 "check_move_lot" "check_move_lot" s_check_move_lot ["value"] := fun _ _ _ _ _ _ us hl => match us, hl with | [_], _ => rfl
theorem hb_triples_of : Bd1 "triples_of" "triples_of" s_triples_of ["told"] := fun _ _ _ _ _ _ us hl => match us, hl with | [_], _ => rfl
theorem hb_move_form_of : Bd1 "move_form_of" "move_form_of" s_move_form_of ["told"] := fun _ _ _ _ _ _ us hl => match us, hl with | [_], _ => rfl
theorem hb_move_cosets_of : Bd1 "move_cosets_of" "move_cosets_of" s_move_cosets_of ["form"] := fun _ _ _ _ _ _ us hl => match us, hl with | [_], _ => rfl
theorem hb_move_form : Bd1 "move_form" "move_form" s_move_form ["lot"] := fun _ _ _ _ _ _ us hl => match us, hl with | [_], _ => rfl
theorem hb_move_cosets : Bd1 "move_cosets" "move_cosets" s_move_cosets ["lot"] := fun _ _ _ _ _ _ us hl => match us, hl with | [_], _ => rfl
theorem hb_same_moves : Bd1 "same_moves" "same_moves" s_same_moves ["lot", "other_lot"] := fun _ _ _ _ _ _ us hl => match us, hl with | [_, _], _ => rfl
theorem hb_moves_within : Bd1 "moves_within" "moves_within" s_moves_within ["lot", "other_lot"] := fun _ _ _ _ _ _ us hl => match us, hl with | [_, _], _ => rfl
theorem hb_needless_moves : Bd1 "needless_moves" "needless_moves" s_needless_moves ["lot"] := fun _ _ _ _ _ _ us hl => match us, hl with | [_], _ => rfl
theorem hb_law_wind : Bd1 "_law_wind" "_law_wind" s__law_wind ["_law_reel_here", "_law_many"] := fun _ _ _ _ _ _ us hl => match us, hl with | [_, _], _ => rfl
theorem hb_law_one_of : Bd1 "_law_one_of" "_law_one_of" s__law_one_of ["_law_reel_here", "_law_menu"] := fun _ _ _ _ _ _ us hl => match us, hl with | [_, _], _ => rfl
theorem hb_law_trip : Bd1 "_law_trip" "_law_trip" s__law_trip ["_law_reel_here", "_law_size"] := fun _ _ _ _ _ _ us hl => match us, hl with | [_, _], _ => rfl
theorem hb_law_put : Bd1 "_law_put" "_law_put" s__law_put ["_law_left", "_law_right_here"] := fun _ _ _ _ _ _ us hl => match us, hl with | [_, _], _ => rfl
theorem hb_law_off : Bd1 "_law_off" "_law_off" s__law_off ["_law_trip_here"] := fun _ _ _ _ _ _ us hl => match us, hl with | [_], _ => rfl
theorem hb_law_power : Bd1 "_law_power" "_law_power" s__law_power ["_law_trip_here", "_law_count"] := fun _ _ _ _ _ _ us hl => match us, hl with | [_, _], _ => rfl
theorem hb_law_told : Bd1 "_law_told" "_law_told" s__law_told ["_law_reel_here", "_law_most"] := fun _ _ _ _ _ _ us hl => match us, hl with | [_, _], _ => rfl
theorem hb_law_mates : Bd1 "_law_mates" "_law_mates" s__law_mates ["_law_reel_here", "_law_some"] := fun _ _ _ _ _ _ us hl => match us, hl with | [_, _], _ => rfl
theorem hb_law_shared : Bd1 "_law_shared" "_law_shared" s__law_shared ["_law_left", "_law_right_here"] := fun _ _ _ _ _ _ us hl => match us, hl with | [_, _], _ => rfl
theorem hb_law_taken : Bd1 "_law_taken" "_law_taken" s__law_taken ["_law_lead", "_law_here", "_law_at"] := fun _ _ _ _ _ _ us hl => match us, hl with | [_, _, _], _ => rfl
theorem hb_law_sifted : Bd1 "_law_sifted" "_law_sifted" s__law_sifted ["_law_some"] := fun _ _ _ _ _ _ us hl => match us, hl with | [_], _ => rfl
theorem hb_law_form : Bd1 "_law_form" "_law_form" s__law_form ["_law_some"] := fun _ _ _ _ _ _ us hl => match us, hl with | [_], _ => rfl
theorem hb_law_rest : Bd1 "_law_rest" "_law_rest" s__law_rest ["_law_shape", "_law_trip_here"] := fun _ _ _ _ _ _ us hl => match us, hl with | [_, _], _ => rfl
theorem hb_law_tells : Bd1 "_law_tells" "_law_tells" s__law_tells ["_law_shape", "_law_trip_here"] := fun _ _ _ _ _ _ us hl => match us, hl with | [_, _], _ => rfl
theorem hb_law_lot : Bd1 "_law_lot" "_law_lot" s__law_lot ["_law_some"] := fun _ _ _ _ _ _ us hl => match us, hl with | [_], _ => rfl
theorem hb_law_met : Bd1 "_law_met" "_law_met" s__law_met ["_law_shape"] := fun _ _ _ _ _ _ us hl => match us, hl with | [_], _ => rfl
theorem hb_law_cosets_right : Bd1 "_law_cosets_right" "_law_cosets_right" s__law_cosets_right ["_law_some"] := fun _ _ _ _ _ _ us hl => match us, hl with | [_], _ => rfl
theorem hb_law_within_right : Bd1 "_law_within_right" "_law_within_right" s__law_within_right ["_law_some", "_law_others"] := fun _ _ _ _ _ _ us hl => match us, hl with | [_, _], _ => rfl
theorem hb_law_needless_right : Bd1 "_law_needless_right" "_law_needless_right" s__law_needless_right ["_law_some"] := fun _ _ _ _ _ _ us hl => match us, hl with | [_], _ => rfl
theorem hb_law_reel : Bd1 "_law_reel" "_law_reel" s__law_reel ["_law_script", "_law_turn"] := fun _ _ _ _ _ _ us hl => match us, hl with | [_, _], _ => rfl
theorem hb_law_right : Bd1 "_law_right" "_law_right" s__law_right ["_law_reel_here"] := fun _ _ _ _ _ _ us hl => match us, hl with | [_], _ => rfl
theorem hb_law : Bd1 "law" "law" s_law ["_law_script"] := fun _ _ _ _ _ _ us hl => match us, hl with | [_], _ => rfl
theorem hb_p_east : Bd1 "east" "Move.east" s_Move_east ["self"] := fun _ _ _ _ _ _ us hl => match us, hl with | [_], _ => rfl
theorem hb_p_north : Bd1 "north" "Move.north" s_Move_north ["self"] := fun _ _ _ _ _ _ us hl => match us, hl with | [_], _ => rfl
theorem hb_p_area : Bd1 "area" "Move.area" s_Move_area ["self"] := fun _ _ _ _ _ _ us hl => match us, hl with | [_], _ => rfl
theorem hb_p_changes : Bd1 "changes" "MoveLot.changes" s_MoveLot_changes ["self"] := fun _ _ _ _ _ _ us hl => match us, hl with | [_], _ => rfl
theorem all_mk {l : OpenLaw} {w : World} {K : PySem.W.Frag} {mg : Str → Option Value} {fa CM CL CR CS : Addr} (hfa : mg "law" = some (.ref fa)) (T : Txt K mg)
    (D_is_integer : Fnd K mg "is_integer" "is_integer" s_is_integer ["value"])
    (D_rest_of : Fnd K mg "rest_of" "rest_of" s_rest_of ["number", "step"])
    (D_combined : Fnd K mg "combined" "combined" s_combined ["one", "other"])
    (D_step_of : Fnd K mg "step_of" "step_of" s_step_of ["numbers"])
    (D_check_whole : Fnd K mg "check_whole" "check_whole" s_check_whole ["value"])
    (D_triple : Fnd K mg "triple" "triple" s_triple ["one"])
    (D_put_triples : Fnd K mg "put_triples" "put_triples" s_put_triples ["one", "other"])
    (D_many_triples : Fnd K mg "many_triples" "many_triples" s_many_triples ["one", "times"])
    (D_gap_of : Fnd K mg "gap_of" "gap_of" s_gap_of ["one", "other"])
    (D_unit : Fnd K mg "unit" "unit" s_unit ["many", "at"])
    (D_added : Fnd K mg "added" "added" s_added ["row", "other", "many"])
    (D_led : Fnd K mg "led" "led" s_led ["rows", "at"])
    (D_shape_of : Fnd K mg "shape_of" "shape_of" s_shape_of ["pairs"])
    (D_pressed : Fnd K mg "pressed" "pressed" s_pressed ["moves", "shares"])
    (D_pairs_below : Fnd K mg "pairs_below" "pairs_below" s_pairs_below ["many"])
    (D_pure_areas : Fnd K mg "pure_areas" "pure_areas" s_pure_areas ["moves", "shape"])
    (D_bound : Fnd K mg "bound" "bound" s_bound ["moves", "row", "step"])
    (D_form_of_moves : Fnd K mg "form_of_moves" "form_of_moves" s_form_of_moves ["moves"])
    (D_shares_of : Fnd K mg "shares_of" "shares_of" s_shares_of ["form", "x", "y"])
    (D_led_to : Fnd K mg "led_to" "led_to" s_led_to ["form", "shares"])
    (D_tells : Fnd K mg "tells" "tells" s_tells ["form", "move"])
    (D_is_small_move : Fnd K mg "is_small_move" "is_small_move" s_is_small_move ["value"])
    (D_check_move_lot : Fnd K mg "check_move_lot" "check_move_lot" s_check_move_lot ["value"])
    (D_triples_of : Fnd K mg "triples_of" "triples_of" s_triples_of ["told"])
    (D_move_form_of : Fnd K mg "move_form_of" "move_form_of" s_move_form_of ["told"])
    (D_move_cosets_of : Fnd K mg "move_cosets_of" "move_cosets_of" s_move_cosets_of ["form"])
    (D_move_form : Fnd K mg "move_form" "move_form" s_move_form ["lot"])
    (D_move_cosets : Fnd K mg "move_cosets" "move_cosets" s_move_cosets ["lot"])
    (D_same_moves : Fnd K mg "same_moves" "same_moves" s_same_moves ["lot", "other_lot"])
    (D_moves_within : Fnd K mg "moves_within" "moves_within" s_moves_within ["lot", "other_lot"])
    (D_needless_moves : Fnd K mg "needless_moves" "needless_moves" s_needless_moves ["lot"])
    (D_law_wind : Fnd K mg "_law_wind" "_law_wind" s__law_wind ["_law_reel_here", "_law_many"])
    (D_law_one_of : Fnd K mg "_law_one_of" "_law_one_of" s__law_one_of ["_law_reel_here", "_law_menu"])
    (D_law_trip : Fnd K mg "_law_trip" "_law_trip" s__law_trip ["_law_reel_here", "_law_size"])
    (D_law_put : Fnd K mg "_law_put" "_law_put" s__law_put ["_law_left", "_law_right_here"])
    (D_law_off : Fnd K mg "_law_off" "_law_off" s__law_off ["_law_trip_here"])
    (D_law_power : Fnd K mg "_law_power" "_law_power" s__law_power ["_law_trip_here", "_law_count"])
    (D_law_told : Fnd K mg "_law_told" "_law_told" s__law_told ["_law_reel_here", "_law_most"])
    (D_law_mates : Fnd K mg "_law_mates" "_law_mates" s__law_mates ["_law_reel_here", "_law_some"])
    (D_law_shared : Fnd K mg "_law_shared" "_law_shared" s__law_shared ["_law_left", "_law_right_here"])
    (D_law_taken : Fnd K mg "_law_taken" "_law_taken" s__law_taken ["_law_lead", "_law_here", "_law_at"])
    (D_law_sifted : Fnd K mg "_law_sifted" "_law_sifted" s__law_sifted ["_law_some"])
    (D_law_form : Fnd K mg "_law_form" "_law_form" s__law_form ["_law_some"])
    (D_law_rest : Fnd K mg "_law_rest" "_law_rest" s__law_rest ["_law_shape", "_law_trip_here"])
    (D_law_tells : Fnd K mg "_law_tells" "_law_tells" s__law_tells ["_law_shape", "_law_trip_here"])
    (D_law_lot : Fnd K mg "_law_lot" "_law_lot" s__law_lot ["_law_some"])
    (D_law_met : Fnd K mg "_law_met" "_law_met" s__law_met ["_law_shape"])
    (D_law_cosets_right : Fnd K mg "_law_cosets_right" "_law_cosets_right" s__law_cosets_right ["_law_some"])
    (D_law_within_right : Fnd K mg "_law_within_right" "_law_within_right" s__law_within_right ["_law_some", "_law_others"])
    (D_law_needless_right : Fnd K mg "_law_needless_right" "_law_needless_right" s__law_needless_right ["_law_some"])
    (D_law_reel : Fnd K mg "_law_reel" "_law_reel" s__law_reel ["_law_script", "_law_turn"])
    (D_law_right : Fnd K mg "_law_right" "_law_right" s__law_right ["_law_reel_here"])
    (D_law : Fnd K mg "law" "law" s_law ["_law_script"])
    (k_Move : ClF K mg "Move" CM)
    (I_Move : Mnd K CM "__init__" "__init__" "Move.__init__" s_Move_init ["self", "east", "north", "area"])
    (k_MoveLot : ClF K mg "MoveLot" CL)
    (I_MoveLot : Mnd K CL "__init__" "__init__" "MoveLot.__init__" s_MoveLot_init ["self", "changes"])
    (k_Row : ClF K mg "Row" CR)
    (I_Row : Mnd K CR "__init__" "__init__" "Row.__init__" s_Row_init ["self", "parts", "shares"])
    (k_Shape : ClF K mg "Shape" CS)
    (I_Shape : Mnd K CS "__init__" "__init__" "Shape.__init__" s_Shape_init ["self", "east", "north", "rests"])
    (S_Move : Mnd K CM "__str__" "__str__" "Move.__str__" s_Move_str ["self"])
    (P_east : Pnd K CM "east" "Move.east" s_Move_east)
    (P_north : Pnd K CM "north" "Move.north" s_Move_north)
    (P_area : Pnd K CM "area" "Move.area" s_Move_area)
    (P_changes : Pnd K CL "changes" "MoveLot.changes" s_MoveLot_changes)
    (MC : MvC K CM) (LC : LtC K CL) (RC : RwC K CR) (SC : ShC K CS) (IM : IsC K CM) (IL : IsC K CL) :
    ∃ fd : FuncData, (∀ (s : Shared) (v : Value), BindsTo s fd ⟨[v], []⟩ [("_law_script", v)]) ∧ ∀ base : Heap, K.In base → base.Ns mainGlobals mg → FnOkG l.prog w K mg base CX0 12 fa fd ["_law_script"] (sp_law K) := by
  obtain rfl : fa = D_law.f := by
    have e := hfa.symm.trans D_law.g
    exact Value.ref.inj (Option.some.inj e)
  refine ⟨D_law.fd, fun s v => ?_, fun base _ _ => ?_⟩
  · obtain ⟨oc, od, kV, doc, pm, an, cdv, ct, osl, e, lk, hcd⟩ := D_law.F.ex
    rw [e]
    exact .of_eq rfl
  ·
    let c_is_integer : Def l.prog w K mg base "is_integer" 1 ["value"] _ := D_is_integer.d (ok_is_integer D_is_integer.F T)
    let c_rest_of : Def l.prog w K mg base "rest_of" 1 ["number", "step"] _ := D_rest_of.d (ok_rest_of D_rest_of.F)
    let c_combined : Def l.prog w K mg base "combined" 1 ["one", "other"] _ := D_combined.d (ok_combined D_combined.F)
    let c_step_of : Def l.prog w K mg base "step_of" 2 ["numbers"] _ := D_step_of.d (ok_step_of D_step_of.F T c_combined)
    let c_check_whole : Def l.prog w K mg base "check_whole" 2 ["value"] _ := D_check_whole.d (ok_check_whole D_check_whole.F c_is_integer)
    let c_Move : Cla l.prog w K mg base "Move" _ 3 ["self", "east", "north", "area"] _ := I_Move.c k_Move.mm k_Move.kc k_Move.g (ok_Move_init I_Move.F MC c_check_whole)
    let M : MoveC l.prog w K mg base := ⟨CM, MC, k_Move.g, P_east.p, P_east.f, P_east.fd, P_east.h, getter_of P_east.F sc_Move_east rfl rfl MC.cl MC.nE, P_east.b, P_north.p, P_north.f, P_north.fd, P_north.h, getter_of P_north.F sc_Move_north rfl rfl MC.cl MC.nN, P_north.b, P_area.p, P_area.f, P_area.fd, P_area.h, getter_of P_area.F sc_Move_area rfl rfl MC.cl MC.nA, P_area.b⟩
    let c_triple : Def l.prog w K mg base "triple" 3 ["one"] _ := D_triple.d (ok_triple D_triple.F M)
    let c_put_triples : Def l.prog w K mg base "put_triples" 1 ["one", "other"] _ := D_put_triples.d (ok_put_triples D_put_triples.F)
    let c_many_triples : Def l.prog w K mg base "many_triples" 1 ["one", "times"] _ := D_many_triples.d (ok_many_triples D_many_triples.F)
    let c_gap_of : Def l.prog w K mg base "gap_of" 1 ["one", "other"] _ := D_gap_of.d (ok_gap_of D_gap_of.F)
    let c_Row : Cla l.prog w K mg base "Row" _ 1 ["self", "parts", "shares"] _ := I_Row.c k_Row.mm k_Row.kc k_Row.g (ok_Row_init I_Row.F RC)
    let c_unit : Def l.prog w K mg base "unit" 1 ["many", "at"] _ := D_unit.d (ok_unit D_unit.F T)
    let c_added : Def l.prog w K mg base "added" 3 ["row", "other", "many"] _ := D_added.d (ok_added D_added.F T RC c_Row)
    let c_led : Def l.prog w K mg base "led" 4 ["rows", "at"] _ := D_led.d (ok_led D_led.F T RC c_Row c_added)
    let c_Shape : Cla l.prog w K mg base "Shape" _ 1 ["self", "east", "north", "rests"] _ := I_Shape.c k_Shape.mm k_Shape.kc k_Shape.g (ok_Shape_init I_Shape.F SC)
    let c_shape_of : Def l.prog w K mg base "shape_of" 5 ["pairs"] _ := D_shape_of.d (ok_shape_of D_shape_of.F T RC SC c_Row c_Shape c_unit c_added c_led)
    let c_pressed : Def l.prog w K mg base "pressed" 2 ["moves", "shares"] _ := D_pressed.d (ok_pressed D_pressed.F T c_put_triples c_many_triples)
    let c_pairs_below : Def l.prog w K mg base "pairs_below" 1 ["many"] _ := D_pairs_below.d (ok_pairs_below D_pairs_below.F T)
    let c_pure_areas : Def l.prog w K mg base "pure_areas" 3 ["moves", "shape"] _ := D_pure_areas.d (ok_pure_areas (CR := CR) D_pure_areas.F T SC c_pressed c_pairs_below c_gap_of)
    let c_bound : Def l.prog w K mg base "bound" 3 ["moves", "row", "step"] _ := D_bound.d (ok_bound D_bound.F RC c_pressed c_rest_of)
    let c_form_of_moves : Def l.prog w K mg base "form_of_moves" 6 ["moves"] _ := D_form_of_moves.d (ok_form_of_moves D_form_of_moves.F T RC SC c_shape_of c_pure_areas c_step_of c_bound)
    let c_shares_of : Def l.prog w K mg base "shares_of" 1 ["form", "x", "y"] _ := D_shares_of.d (ok_shares_of D_shares_of.F)
    let c_led_to : Def l.prog w K mg base "led_to" 2 ["form", "shares"] _ := D_led_to.d (ok_led_to D_led_to.F T c_put_triples c_many_triples)
    let c_tells : Def l.prog w K mg base "tells" 3 ["form", "move"] _ := D_tells.d (ok_tells D_tells.F c_shares_of c_led_to c_rest_of)
    let MS : MoveSt l.prog w K mg base CM := ⟨S_Move.f, S_Move.fd, S_Move.a, S_Move.i, (ok_Move_str S_Move.F MC), S_Move.b⟩
    let c_is_small_move : Def l.prog w K mg base "is_small_move" 4 ["value"] _ := D_is_small_move.d (ok_is_small_move D_is_small_move.F T M IM c_triple)
    let c_MoveLot : Cla l.prog w K mg base "MoveLot" _ 5 ["self", "changes"] _ := I_MoveLot.c k_MoveLot.mm k_MoveLot.kc k_MoveLot.g (ok_MoveLot_init I_MoveLot.F T LC MS c_is_small_move)
    let ML : LotC l.prog w K mg base := ⟨CL, LC, k_MoveLot.g, P_changes.p, P_changes.f, P_changes.fd, P_changes.h, getter_of P_changes.F sc_MoveLot_changes rfl rfl LC.cl LC.nC, P_changes.b⟩
    let c_check_move_lot : Def l.prog w K mg base "check_move_lot" 1 ["value"] _ := D_check_move_lot.d (ok_check_move_lot (C := CM) D_check_move_lot.F T ML IL)
    let c_triples_of : Def l.prog w K mg base "triples_of" 4 ["told"] _ := D_triples_of.d (ok_triples_of D_triples_of.F T c_triple)
    let c_move_form_of : Def l.prog w K mg base "move_form_of" 7 ["told"] _ := D_move_form_of.d (ok_move_form_of D_move_form_of.F c_triples_of c_form_of_moves)
    let c_move_cosets_of : Def l.prog w K mg base "move_cosets_of" 1 ["form"] _ := D_move_cosets_of.d (ok_move_cosets_of D_move_cosets_of.F)
    let c_move_form : Def l.prog w K mg base "move_form" 8 ["lot"] _ := D_move_form.d (ok_move_form D_move_form.F ML c_check_move_lot c_move_form_of)
    let c_move_cosets : Def l.prog w K mg base "move_cosets" 9 ["lot"] _ := D_move_cosets.d (ok_move_cosets D_move_cosets.F c_move_form c_move_cosets_of)
    let kb_move_cosets : KBinds K c_move_cosets.fd ["lot"] ["lot"] kg1 kv1 := kb1 D_move_cosets.F (fun _ _ _ _ _ _ _ _ => rfl)
    let c_same_moves : Def l.prog w K mg base "same_moves" 9 ["lot", "other_lot"] _ := D_same_moves.d (ok_same_moves D_same_moves.F c_move_form)
    let kb_same_moves : KBinds K c_same_moves.fd ["lot", "other_lot"] ["other_lot", "lot"] kg2 kv2 := kb2 D_same_moves.F (fun _ _ _ _ _ _ _ _ _ => rfl)
    let c_moves_within : Def l.prog w K mg base "moves_within" 9 ["lot", "other_lot"] _ := D_moves_within.d (ok_moves_within D_moves_within.F T ML c_check_move_lot c_move_form c_tells c_triple)
    let kb_moves_within : KBinds K c_moves_within.fd ["lot", "other_lot"] ["other_lot", "lot"] kg2 kv2 := kb2 D_moves_within.F (fun _ _ _ _ _ _ _ _ _ => rfl)
    let c_needless_moves : Def l.prog w K mg base "needless_moves" 8 ["lot"] _ := D_needless_moves.d (ok_needless_moves D_needless_moves.F T ML c_check_move_lot c_move_form_of c_tells c_triple)
    let kb_needless_moves : KBinds K c_needless_moves.fd ["lot"] ["lot"] kg1 kv1 := kb1 D_needless_moves.F (fun _ _ _ _ _ _ _ _ => rfl)
    let c__law_wind : Def l.prog w K mg base "_law_wind" 1 ["_law_reel_here", "_law_many"] _ := D_law_wind.d (ok_law_wind D_law_wind.F T)
    let c__law_one_of : Def l.prog w K mg base "_law_one_of" 2 ["_law_reel_here", "_law_menu"] _ := D_law_one_of.d (ok_law_one_of D_law_one_of.F T c__law_wind)
    let c__law_trip : Def l.prog w K mg base "_law_trip" 2 ["_law_reel_here", "_law_size"] _ := D_law_trip.d (ok_law_trip D_law_trip.F T c__law_wind)
    let c__law_put : Def l.prog w K mg base "_law_put" 1 ["_law_left", "_law_right_here"] _ := D_law_put.d (ok_law_put D_law_put.F)
    let c__law_off : Def l.prog w K mg base "_law_off" 1 ["_law_trip_here"] _ := D_law_off.d (ok_law_off D_law_off.F)
    let c__law_power : Def l.prog w K mg base "_law_power" 1 ["_law_trip_here", "_law_count"] _ := D_law_power.d (ok_law_power D_law_power.F)
    let c__law_told : Def l.prog w K mg base "_law_told" 3 ["_law_reel_here", "_law_most"] _ := D_law_told.d (ok_law_told D_law_told.F T c__law_wind c__law_one_of c__law_trip c__law_power)
    let c__law_mates : Def l.prog w K mg base "_law_mates" 4 ["_law_reel_here", "_law_some"] _ := D_law_mates.d (ok_law_mates D_law_mates.F T c__law_wind c__law_one_of c__law_put c__law_power c__law_told)
    let c__law_shared : Def l.prog w K mg base "_law_shared" 1 ["_law_left", "_law_right_here"] _ := D_law_shared.d (ok_law_shared D_law_shared.F T)
    let c__law_taken : Def l.prog w K mg base "_law_taken" 2 ["_law_lead", "_law_here", "_law_at"] _ := D_law_taken.d (ok_law_taken D_law_taken.F c__law_put c__law_power)
    let c__law_sifted : Def l.prog w K mg base "_law_sifted" 3 ["_law_some"] _ := D_law_sifted.d (ok_law_sifted D_law_sifted.F T c__law_taken c__law_shared)
    let c__law_form : Def l.prog w K mg base "_law_form" 4 ["_law_some"] _ := D_law_form.d (ok_law_form D_law_form.F T c__law_sifted c__law_off c__law_put c__law_power)
    let c__law_rest : Def l.prog w K mg base "_law_rest" 2 ["_law_shape", "_law_trip_here"] _ := D_law_rest.d (ok_law_rest D_law_rest.F T c__law_put c__law_power)
    let c__law_tells : Def l.prog w K mg base "_law_tells" 3 ["_law_shape", "_law_trip_here"] _ := D_law_tells.d (ok_law_tells D_law_tells.F c__law_rest)
    let c__law_lot : Def l.prog w K mg base "_law_lot" 7 ["_law_some"] _ := D_law_lot.d (ok_law_lot D_law_lot.F T c_Move c_MoveLot)
    let c__law_met : Def l.prog w K mg base "_law_met" 3 ["_law_shape"] _ := D_law_met.d (ok_law_met D_law_met.F T c__law_rest c__law_put)
    let c__law_cosets_right : DefG l.prog w K mg base "_law_cosets_right" 10 ["_law_some"] _ := D_law_cosets_right.dG (ok_law_cosets_right D_law_cosets_right.F T c__law_lot c__law_form c_move_cosets kb_move_cosets c__law_met)
    let c__law_within_right : DefG l.prog w K mg base "_law_within_right" 10 ["_law_some", "_law_others"] _ := D_law_within_right.dG (ok_law_within_right D_law_within_right.F T c__law_lot c__law_form c__law_tells c_moves_within kb_moves_within c_same_moves kb_same_moves c_move_cosets)
    let c__law_needless_right : DefG l.prog w K mg base "_law_needless_right" 9 ["_law_some"] _ := D_law_needless_right.dG (ok_law_needless_right D_law_needless_right.F T c__law_lot c__law_form c__law_tells c_needless_moves kb_needless_moves)
    let c__law_reel : Def l.prog w K mg base "_law_reel" 1 ["_law_script", "_law_turn"] _ := D_law_reel.d (ok_law_reel D_law_reel.F T)
    let c__law_right : DefG l.prog w K mg base "_law_right" 11 ["_law_reel_here"] _ := D_law_right.dG (ok_law_right D_law_right.F T M c__law_told c__law_mates c__law_cosets_right c__law_within_right c__law_needless_right c_move_cosets c__law_lot c_needless_moves c_Move c_MoveLot)
    exact (ok_law D_law.F T c__law_right c__law_reel)
theorem kit_self {K : PySem.W.Frag} (C : Addr) : PySem.W.kitOne K (.ref C) (.ref C) = some true := by
  unfold PySem.W.kitOne
  rw [if_pos (by simp)]
theorem num_of {q : Program} {mg : Str → Option Value} {h : Heap} (x : XL q [("MOST_NUMBER", .int (10 ^ 30))] mg h) : ∃ t, mg "MOST_NUMBER" = some (.int (10 ^ 30) t) := by
  obtain ⟨v, e, r⟩ := x.2.val _ (List.Mem.head _)
  cases r
  exact ⟨_, e⟩
theorem na {K : PySem.W.Frag} {C : Addr} {f : Str} (h : PySem.W.findIn K (.ref C) f = some none) : NoAttr K C f := h
def txt {K : PySem.W.Frag} {mg : Str → Option Value} {h : Heap} {aP n : Nat} {dd : Option Addr} {sl : Array (Option Value)} {t1 t2 t3 tT tN : Tok} (X : K.In h) (G : h.Ns mainGlobals mg)
    (n_isinstance : PySem.W.nsIn K mainGlobals "isinstance" = some none) (n_abs : PySem.W.nsIn K mainGlobals "abs" = some none) (n_len : PySem.W.nsIn K mainGlobals "len" = some none) (n_all : PySem.W.nsIn K mainGlobals "all" = some none) (n_range : PySem.W.nsIn K mainGlobals "range" = some none) (n_zip : PySem.W.nsIn K mainGlobals "zip" = some none) (n_enumerate : PySem.W.nsIn K mainGlobals "enumerate" = some none) (n_tuple : PySem.W.nsIn K mainGlobals "tuple" = some none) (n_list : PySem.W.nsIn K mainGlobals "list" = some none) (n_int : PySem.W.nsIn K mainGlobals "int" = some none) (n_bool : PySem.W.nsIn K mainGlobals "bool" = some none) (n_str : PySem.W.nsIn K mainGlobals "str" = some none) (n_divmod : PySem.W.nsIn K mainGlobals "divmod" = some none) (n_repr : PySem.W.nsIn K mainGlobals "repr" = some none)
    (pl : PySem.W.nsIn K mainGlobals "PLAIN" = some (some (.ref aP))) (lk : K.lookup aP = some ⟨.type "tuple", dd, .seq #[.int 0 t1, .int 0 t2, .int 0 t3] n, sl⟩)
    (mt : PySem.W.nsIn K mainGlobals "MOST_TOLD" = some (some (.int 5 tT))) (mn : mg "MOST_NUMBER" = some (.int (10 ^ 30) tN)) : Txt K mg :=
  ⟨PySem.W.mg_none_of X G n_isinstance, PySem.W.mg_none_of X G n_abs, PySem.W.mg_none_of X G n_len, PySem.W.mg_none_of X G n_all, PySem.W.mg_none_of X G n_range, PySem.W.mg_none_of X G n_zip, PySem.W.mg_none_of X G n_enumerate, PySem.W.mg_none_of X G n_tuple, PySem.W.mg_none_of X G n_list, PySem.W.mg_none_of X G n_int, PySem.W.mg_none_of X G n_bool, PySem.W.mg_none_of X G n_str, PySem.W.mg_none_of X G n_divmod, PySem.W.mg_none_of X G n_repr, aP, PySem.W.mg_of X G pl, fun H => .inr ⟨_, #[.int 0 t1, .int 0 t2, .int 0 t3], n, lk, rfl, rfl, by show 3 ≤ sizeLine; decide, .cons ⟨_, rfl⟩ (.cons ⟨_, rfl⟩ (.cons ⟨_, rfl⟩ .nil))⟩, tN, mn, tT, PySem.W.mg_of X G mt⟩
theorem walk {l : OpenLaw} {q : Program} {loose : List Str} {XP : (Str → Option Value) → Heap → Prop} {YP : World → Heap → Prop} {d : DefRec} {K : Params → Frag} (hn : l.most = some 63) (hdf : d.params.defaults = []) (hY : ∀ (w : World) (h : Heap), YP w h → (K w.params).In h)
    (F : ∀ (w : World) (mg : Str → Option Value) (fa : Addr) (h : Heap), (K w.params).In h → h.Ns mainGlobals mg → XP mg h → mg d.name = some (.ref fa) →
      ∃ fd : FuncData, (∀ (s : Shared) (u : Value), BindsTo s fd ⟨[u], []⟩ [("_law_script", u)]) ∧ ∀ base : Heap, (K w.params).In base → base.Ns mainGlobals mg → FnOkG l.prog w (K w.params) mg base CX0 12 fa fd ["_law_script"] (sp_law (K w.params))) :
    WalkO q loose XP YP l.row.toRowW d [] (fun f vs => PySem.call f vs) :=
  walkG (n := 63) (k := 12) (x := "_law_script") (sp := fun w => sp_law (K w.params)) hn (by decide) hdf ⟨rfl, by decide, by decide⟩ hY F (fun _ _ a ns hl hS => ⟨a, ns, rfl, hS, Nat.le_trans hl (by decide), fun _ => rfl⟩)
end K67

open PySem PySem.W PyProof.Rows in
set_option maxRecDepth 100000 in
set_option maxHeartbeats 0 in
theorem PySem.Challenge.cw_pressworlds_k67_whole_cosets_and_lots_wi_holds : PySem.Challenge.rw_pressworlds_k67_whole_cosets_and_lots_wi.Holds := by
  w_on; o_law; k_head; (case hw => w_witness2)
  k_fill
  refine K67.walk (l := PySem.Challenge.rw_pressworlds_k67_whole_cosets_and_lots_wi) rfl rfl (fun w h Y => PySem.W.kIn_of Y) ?F
  case F =>
    intro w mg fa h KXh G XPh hmg
    obtain ⟨tN, hN⟩ := K67.num_of XPh
    refine' K67.all_mk hmg ?T ?D_is_integer ?D_rest_of ?D_combined ?D_step_of ?D_check_whole ?D_triple ?D_put_triples ?D_many_triples ?D_gap_of ?D_unit ?D_added ?D_led ?D_shape_of ?D_pressed ?D_pairs_below ?D_pure_areas ?D_bound ?D_form_of_moves ?D_shares_of ?D_led_to ?D_tells ?D_is_small_move ?D_check_move_lot ?D_triples_of ?D_move_form_of ?D_move_cosets_of ?D_move_form ?D_move_cosets ?D_same_moves ?D_moves_within ?D_needless_moves ?D_law_wind ?D_law_one_of ?D_law_trip ?D_law_put ?D_law_off ?D_law_power ?D_law_told ?D_law_mates ?D_law_shared ?D_law_taken ?D_law_sifted ?D_law_form ?D_law_rest ?D_law_tells ?D_law_lot ?D_law_met ?D_law_cosets_right ?D_law_within_right ?D_law_needless_right ?D_law_reel ?D_law_right ?D_law ?k_Move ?I_Move ?k_MoveLot ?I_MoveLot ?k_Row ?I_Row ?k_Shape ?I_Shape ?S_Move ?P_east ?P_north ?P_area ?P_changes ?MC ?LC ?RC ?SC ?IM ?IL
    case T =>
      refine' K67.txt KXh G ?n_isinstance ?n_abs ?n_len ?n_all ?n_range ?n_zip ?n_enumerate ?n_tuple ?n_list ?n_int ?n_bool ?n_str ?n_divmod ?n_repr ?pl ?lk ?mt hN
      (case n_isinstance => k_is)
      (case n_abs => k_is)
      (case n_len => k_is)
      (case n_all => k_is)
      (case n_range => k_is)
      (case n_zip => k_is)
      (case n_enumerate => k_is)
      (case n_tuple => k_is)
      (case n_list => k_is)
      (case n_int => k_is)
      (case n_bool => k_is)
      (case n_str => k_is)
      (case n_divmod => k_is)
      (case n_repr => k_is)
      (case pl => k_is)
      (case lk => k_is)
      (case mt => k_is)
    case k_Move =>
      refine' ⟨⟨?pg, ?hd, ?po, ?sa⟩, ?mm, ?kc, PySem.W.mg_of KXh G ?g⟩
      (case g => k_is)
      (case pg => k_is)
      (case hd => k_is)
      (case po => k_is)
      (case sa => k_is)
      (case mm => k_is)
      (case kc => k_is)
    case k_MoveLot =>
      refine' ⟨⟨?pg, ?hd, ?po, ?sa⟩, ?mm, ?kc, PySem.W.mg_of KXh G ?g⟩
      (case g => k_is)
      (case pg => k_is)
      (case hd => k_is)
      (case po => k_is)
      (case sa => k_is)
      (case mm => k_is)
      (case kc => k_is)
    case k_Row =>
      refine' ⟨⟨?pg, ?hd, ?po, ?sa⟩, ?mm, ?kc, PySem.W.mg_of KXh G ?g⟩
      (case g => k_is)
      (case pg => k_is)
      (case hd => k_is)
      (case po => k_is)
      (case sa => k_is)
      (case mm => k_is)
      (case kc => k_is)
    case k_Shape =>
      refine' ⟨⟨?pg, ?hd, ?po, ?sa⟩, ?mm, ?kc, PySem.W.mg_of KXh G ?g⟩
      (case g => k_is)
      (case pg => k_is)
      (case hd => k_is)
      (case po => k_is)
      (case sa => k_is)
      (case mm => k_is)
      (case kc => k_is)
    case D_is_integer =>
      refine' K67.fnd K67.hb_is_integer KXh G ?a ?l ?c ?k
      (case a => k_is)
      (case l => k_is)
      (case c => k_is)
      (case k => k_is)
    case D_rest_of =>
      refine' K67.fnd K67.hb_rest_of KXh G ?a ?l ?c ?k
      (case a => k_is)
      (case l => k_is)
      (case c => k_is)
      (case k => k_is)
    case D_combined =>
      refine' K67.fnd K67.hb_combined KXh G ?a ?l ?c ?k
      (case a => k_is)
      (case l => k_is)
      (case c => k_is)
      (case k => k_is)
    case D_step_of =>
      refine' K67.fnd K67.hb_step_of KXh G ?a ?l ?c ?k
      (case a => k_is)
      (case l => k_is)
      (case c => k_is)
      (case k => k_is)
    case D_check_whole =>
      refine' K67.fnd K67.hb_check_whole KXh G ?a ?l ?c ?k
      (case a => k_is)
      (case l => k_is)
      (case c => k_is)
      (case k => k_is)
    case D_triple =>
      refine' K67.fnd K67.hb_triple KXh G ?a ?l ?c ?k
      (case a => k_is)
      (case l => k_is)
      (case c => k_is)
      (case k => k_is)
    case D_put_triples =>
      refine' K67.fnd K67.hb_put_triples KXh G ?a ?l ?c ?k
      (case a => k_is)
      (case l => k_is)
      (case c => k_is)
      (case k => k_is)
    case D_many_triples =>
      refine' K67.fnd K67.hb_many_triples KXh G ?a ?l ?c ?k
      (case a => k_is)
      (case l => k_is)
      (case c => k_is)
      (case k => k_is)
    case D_gap_of =>
      refine' K67.fnd K67.hb_gap_of KXh G ?a ?l ?c ?k
      (case a => k_is)
      (case l => k_is)
      (case c => k_is)
      (case k => k_is)
    case D_unit =>
      refine' K67.fnd K67.hb_unit KXh G ?a ?l ?c ?k
      (case a => k_is)
      (case l => k_is)
      (case c => k_is)
      (case k => k_is)
    case D_added =>
      refine' K67.fnd K67.hb_added KXh G ?a ?l ?c ?k
      (case a => k_is)
      (case l => k_is)
      (case c => k_is)
      (case k => k_is)
    case D_led =>
      refine' K67.fnd K67.hb_led KXh G ?a ?l ?c ?k
      (case a => k_is)
      (case l => k_is)
      (case c => k_is)
      (case k => k_is)
    case D_shape_of =>
      refine' K67.fnd K67.hb_shape_of KXh G ?a ?l ?c ?k
      (case a => k_is)
      (case l => k_is)
      (case c => k_is)
      (case k => k_is)
    case D_pressed =>
      refine' K67.fnd K67.hb_pressed KXh G ?a ?l ?c ?k
      (case a => k_is)
      (case l => k_is)
      (case c => k_is)
      (case k => k_is)
    case D_pairs_below =>
      refine' K67.fnd K67.hb_pairs_below KXh G ?a ?l ?c ?k
      (case a => k_is)
      (case l => k_is)
      (case c => k_is)
      (case k => k_is)
    case D_pure_areas =>
      refine' K67.fnd K67.hb_pure_areas KXh G ?a ?l ?c ?k
      (case a => k_is)
      (case l => k_is)
      (case c => k_is)
      (case k => k_is)
    case D_bound =>
      refine' K67.fnd K67.hb_bound KXh G ?a ?l ?c ?k
      (case a => k_is)
      (case l => k_is)
      (case c => k_is)
      (case k => k_is)
    case D_form_of_moves =>
      refine' K67.fnd K67.hb_form_of_moves KXh G ?a ?l ?c ?k
      (case a => k_is)
      (case l => k_is)
      (case c => k_is)
      (case k => k_is)
    case D_shares_of =>
      refine' K67.fnd K67.hb_shares_of KXh G ?a ?l ?c ?k
      (case a => k_is)
      (case l => k_is)
      (case c => k_is)
      (case k => k_is)
    case D_led_to =>
      refine' K67.fnd K67.hb_led_to KXh G ?a ?l ?c ?k
      (case a => k_is)
      (case l => k_is)
      (case c => k_is)
      (case k => k_is)
    case D_tells =>
      refine' K67.fnd K67.hb_tells KXh G ?a ?l ?c ?k
      (case a => k_is)
      (case l => k_is)
      (case c => k_is)
      (case k => k_is)
    case D_is_small_move =>
      refine' K67.fnd K67.hb_is_small_move KXh G ?a ?l ?c ?k
      (case a => k_is)
      (case l => k_is)
      (case c => k_is)
      (case k => k_is)
    case D_check_move_lot =>
      refine' K67.fnd K67.hb_check_move_lot KXh G ?a ?l ?c ?k
      (case a => k_is)
      (case l => k_is)
      (case c => k_is)
      (case k => k_is)
    case D_triples_of =>
      refine' K67.fnd K67.hb_triples_of KXh G ?a ?l ?c ?k
      (case a => k_is)
      (case l => k_is)
      (case c => k_is)
      (case k => k_is)
    case D_move_form_of =>
      refine' K67.fnd K67.hb_move_form_of KXh G ?a ?l ?c ?k
      (case a => k_is)
      (case l => k_is)
      (case c => k_is)
      (case k => k_is)
    case D_move_cosets_of =>
      refine' K67.fnd K67.hb_move_cosets_of KXh G ?a ?l ?c ?k
      (case a => k_is)
      (case l => k_is)
      (case c => k_is)
      (case k => k_is)
    case D_move_form =>
      refine' K67.fnd K67.hb_move_form KXh G ?a ?l ?c ?k
      (case a => k_is)
      (case l => k_is)
      (case c => k_is)
      (case k => k_is)
    case D_move_cosets =>
      refine' K67.fnd K67.hb_move_cosets KXh G ?a ?l ?c ?k
      (case a => k_is)
      (case l => k_is)
      (case c => k_is)
      (case k => k_is)
    case D_same_moves =>
      refine' K67.fnd K67.hb_same_moves KXh G ?a ?l ?c ?k
      (case a => k_is)
      (case l => k_is)
      (case c => k_is)
      (case k => k_is)
    case D_moves_within =>
      refine' K67.fnd K67.hb_moves_within KXh G ?a ?l ?c ?k
      (case a => k_is)
      (case l => k_is)
      (case c => k_is)
      (case k => k_is)
    case D_needless_moves =>
      refine' K67.fnd K67.hb_needless_moves KXh G ?a ?l ?c ?k
      (case a => k_is)
      (case l => k_is)
      (case c => k_is)
      (case k => k_is)
    case D_law_wind =>
      refine' K67.fnd K67.hb_law_wind KXh G ?a ?l ?c ?k
      (case a => k_is)
      (case l => k_is)
      (case c => k_is)
      (case k => k_is)
    case D_law_one_of =>
      refine' K67.fnd K67.hb_law_one_of KXh G ?a ?l ?c ?k
      (case a => k_is)
      (case l => k_is)
      (case c => k_is)
      (case k => k_is)
    case D_law_trip =>
      refine' K67.fnd K67.hb_law_trip KXh G ?a ?l ?c ?k
      (case a => k_is)
      (case l => k_is)
      (case c => k_is)
      (case k => k_is)
    case D_law_put =>
      refine' K67.fnd K67.hb_law_put KXh G ?a ?l ?c ?k
      (case a => k_is)
      (case l => k_is)
      (case c => k_is)
      (case k => k_is)
    case D_law_off =>
      refine' K67.fnd K67.hb_law_off KXh G ?a ?l ?c ?k
      (case a => k_is)
      (case l => k_is)
      (case c => k_is)
      (case k => k_is)
    case D_law_power =>
      refine' K67.fnd K67.hb_law_power KXh G ?a ?l ?c ?k
      (case a => k_is)
      (case l => k_is)
      (case c => k_is)
      (case k => k_is)
    case D_law_told =>
      refine' K67.fnd K67.hb_law_told KXh G ?a ?l ?c ?k
      (case a => k_is)
      (case l => k_is)
      (case c => k_is)
      (case k => k_is)
    case D_law_mates =>
      refine' K67.fnd K67.hb_law_mates KXh G ?a ?l ?c ?k
      (case a => k_is)
      (case l => k_is)
      (case c => k_is)
      (case k => k_is)
    case D_law_shared =>
      refine' K67.fnd K67.hb_law_shared KXh G ?a ?l ?c ?k
      (case a => k_is)
      (case l => k_is)
      (case c => k_is)
      (case k => k_is)
    case D_law_taken =>
      refine' K67.fnd K67.hb_law_taken KXh G ?a ?l ?c ?k
      (case a => k_is)
      (case l => k_is)
      (case c => k_is)
      (case k => k_is)
    case D_law_sifted =>
      refine' K67.fnd K67.hb_law_sifted KXh G ?a ?l ?c ?k
      (case a => k_is)
      (case l => k_is)
      (case c => k_is)
      (case k => k_is)
    case D_law_form =>
      refine' K67.fnd K67.hb_law_form KXh G ?a ?l ?c ?k
      (case a => k_is)
      (case l => k_is)
      (case c => k_is)
      (case k => k_is)
    case D_law_rest =>
      refine' K67.fnd K67.hb_law_rest KXh G ?a ?l ?c ?k
      (case a => k_is)
      (case l => k_is)
      (case c => k_is)
      (case k => k_is)
    case D_law_tells =>
      refine' K67.fnd K67.hb_law_tells KXh G ?a ?l ?c ?k
      (case a => k_is)
      (case l => k_is)
      (case c => k_is)
      (case k => k_is)
    case D_law_lot =>
      refine' K67.fnd K67.hb_law_lot KXh G ?a ?l ?c ?k
      (case a => k_is)
      (case l => k_is)
      (case c => k_is)
      (case k => k_is)
    case D_law_met =>
      refine' K67.fnd K67.hb_law_met KXh G ?a ?l ?c ?k
      (case a => k_is)
      (case l => k_is)
      (case c => k_is)
      (case k => k_is)
    case D_law_cosets_right =>
      refine' K67.fnd K67.hb_law_cosets_right KXh G ?a ?l ?c ?k
      (case a => k_is)
      (case l => k_is)
      (case c => k_is)
      (case k => k_is)
    case D_law_within_right =>
      refine' K67.fnd K67.hb_law_within_right KXh G ?a ?l ?c ?k
      (case a => k_is)
      (case l => k_is)
      (case c => k_is)
      (case k => k_is)
    case D_law_needless_right =>
      refine' K67.fnd K67.hb_law_needless_right KXh G ?a ?l ?c ?k
      (case a => k_is)
      (case l => k_is)
      (case c => k_is)
      (case k => k_is)
    case D_law_reel =>
      refine' K67.fnd K67.hb_law_reel KXh G ?a ?l ?c ?k
      (case a => k_is)
      (case l => k_is)
      (case c => k_is)
      (case k => k_is)
    case D_law_right =>
      refine' K67.fnd K67.hb_law_right KXh G ?a ?l ?c ?k
      (case a => k_is)
      (case l => k_is)
      (case c => k_is)
      (case k => k_is)
    case D_law =>
      refine' K67.fnd K67.hb_law KXh G ?a ?l ?c ?k
      (case a => k_is)
      (case l => k_is)
      (case c => k_is)
      (case k => k_is)
    case I_Move =>
      refine' K67.mnd K67.hb_Move_init ?a ?i ?l ?c ?k
      (case a => k_is)
      (case i => k_is)
      (case l => k_is)
      (case c => k_is)
      (case k => k_is)
    case I_MoveLot =>
      refine' K67.mnd K67.hb_MoveLot_init ?a ?i ?l ?c ?k
      (case a => k_is)
      (case i => k_is)
      (case l => k_is)
      (case c => k_is)
      (case k => k_is)
    case I_Row =>
      refine' K67.mnd K67.hb_Row_init ?a ?i ?l ?c ?k
      (case a => k_is)
      (case i => k_is)
      (case l => k_is)
      (case c => k_is)
      (case k => k_is)
    case I_Shape =>
      refine' K67.mnd K67.hb_Shape_init ?a ?i ?l ?c ?k
      (case a => k_is)
      (case i => k_is)
      (case l => k_is)
      (case c => k_is)
      (case k => k_is)
    case S_Move =>
      refine' K67.mnd K67.hb_Move_str ?a ?i ?l ?c ?k
      (case a => k_is)
      (case i => k_is)
      (case l => k_is)
      (case c => k_is)
      (case k => k_is)
    case P_east =>
      refine' K67.pnd K67.hb_p_east ?a ?g ?t ?r ?l ?c ?k
      (case a => k_is)
      (case g => k_is)
      (case t => k_is)
      (case r => k_is)
      (case l => k_is)
      (case c => k_is)
      (case k => k_is)
    case P_north =>
      refine' K67.pnd K67.hb_p_north ?a ?g ?t ?r ?l ?c ?k
      (case a => k_is)
      (case g => k_is)
      (case t => k_is)
      (case r => k_is)
      (case l => k_is)
      (case c => k_is)
      (case k => k_is)
    case P_area =>
      refine' K67.pnd K67.hb_p_area ?a ?g ?t ?r ?l ?c ?k
      (case a => k_is)
      (case g => k_is)
      (case t => k_is)
      (case r => k_is)
      (case l => k_is)
      (case c => k_is)
      (case k => k_is)
    case P_changes =>
      refine' K67.pnd K67.hb_p_changes ?a ?g ?t ?r ?l ?c ?k
      (case a => k_is)
      (case g => k_is)
      (case t => k_is)
      (case r => k_is)
      (case l => k_is)
      (case c => k_is)
      (case k => k_is)
    case MC =>
      refine' ⟨⟨?pg, ?hd, ?po, ?sa⟩, K67.na ?x1, K67.na ?x2, K67.na ?x3⟩
      (case pg => k_is)
      (case hd => k_is)
      (case po => k_is)
      (case sa => k_is)
      (case x1 => k_is)
      (case x2 => k_is)
      (case x3 => k_is)
    case LC =>
      refine' ⟨⟨?pg, ?hd, ?po, ?sa⟩, K67.na ?x1, K67.na ?x2⟩
      (case pg => k_is)
      (case hd => k_is)
      (case po => k_is)
      (case sa => k_is)
      (case x1 => k_is)
      (case x2 => k_is)
    case RC =>
      refine' ⟨⟨?pg, ?hd, ?po, ?sa⟩, K67.na ?x1, K67.na ?x2⟩
      (case pg => k_is)
      (case hd => k_is)
      (case po => k_is)
      (case sa => k_is)
      (case x1 => k_is)
      (case x2 => k_is)
    case SC =>
      refine' ⟨⟨?pg, ?hd, ?po, ?sa⟩, K67.na ?x1, K67.na ?x2, K67.na ?x3⟩
      (case pg => k_is)
      (case hd => k_is)
      (case po => k_is)
      (case sa => k_is)
      (case x1 => k_is)
      (case x2 => k_is)
      (case x3 => k_is)
    case IM =>
      refine' ⟨⟨?pg, ?hd, ?po, ?sa⟩, ?ha, ?hn, ?htk, ?hm, K67.kit_self _⟩
      (case pg => k_is)
      (case hd => k_is)
      (case po => k_is)
      (case sa => k_is)
      (case ha => k_is)
      (case hn => k_is)
      (case htk => k_is)
      (case hm => k_is)
    case IL =>
      refine' ⟨⟨?pg, ?hd, ?po, ?sa⟩, ?ha, ?hn, ?htk, ?hm, K67.kit_self _⟩
      (case pg => k_is)
      (case hd => k_is)
      (case po => k_is)
      (case sa => k_is)
      (case ha => k_is)
      (case hn => k_is)
      (case htk => k_is)
      (case hm => k_is)
